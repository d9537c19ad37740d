import PyProof.Rows.All
import Wide.All
import OpenK.AllK
import Wide.FinOn
import HandS.ForMost
import HandS.More
import HandS.Conv
import HandS.Deep
import HandS.DictComp
import HandS.IsInst
import HandS.HeadHook2
import HandS.Codes
import HandS.Defaults
import HandS.OwnEq
import HandS.Iter
import HandS.SortRule
import KE.KSortTupAny
import KE.KStateDown
import HandS.Head0
import HandS.Head1
import HandS.Head2
import HandS.HeadEnd
import HandS.HeadHook1
import PySem.Challenge.RW_headswap_k11_what_rows_go_to
set_option Elab.async false
set_option linter.all false
set_option maxRecDepth 100000
set_option maxHeartbeats 0
namespace Qd
open PySem PySem.Spec L2
/-- a key of a dict -/
inductive Ky where
  | i (n : Int)
  | s (x : List Nat)
  deriving DecidableEq
def Ky.key : Ky → Key
  | .i n => .inl n
  | .s x => .inr ⟨x.toArray⟩
theorem Ky.key_inj : ∀ {a b : Ky}, a.key = b.key → a = b
  | .i n, .i m, h => by
    have e : n = m := Sum.inl.inj h
    rw [e]
  | .i n, .s x, h => nomatch h
  | .s x, .i n, h => nomatch h
  | .s x, .s y, h => by
    have e : (⟨x.toArray⟩ : Str) = ⟨y.toArray⟩ := Sum.inr.inj h
    have e2 : x.toArray = y.toArray := congrArg Str.cps e
    have e3 : x = y := by simpa using congrArg Array.toList e2
    rw [e3]
/-- data by value -/
inductive D where
  | non
  | bl (b : Bool)
  | int (i : Int)
  | str (x : List Nat)
  | tup (xs : List D)
  | lst (xs : List D)
  | dic (kvs : List (Ky × D))
  | fdic (kvs : List (Ky × D))
  | obj (c : Str) (fs : List (Str × D))
  | scr (ns : List Int)
  | cls (c : Str)
  | ty (n : String)
mutual
def Rp (K : PySem.W.Frag) (H : Hp) : D → V → Prop
  | .non, v => v = .non
  | .bl b, v => v = .bl b
  | .int i, v => v = .int i
  | .str x, v => v = .str ⟨x.toArray⟩
  | .tup ds, v => ∃ a vs, v = .ref a ∧ SqT K H a vs ∧ Rps K H ds vs
  | .lst ds, v => ∃ a vs, v = .ref a ∧ H a = some (.lst vs) ∧ Rps K H ds vs
  | .dic kvs, v => ∃ a ks, v = .ref a ∧ H a = some (.dK ks) ∧ RpK K H kvs ks
  | .fdic kvs, v => ∃ a o ks, v = .ref a ∧ H a = some (.frz o (.dK ks)) ∧ RpK K H kvs ks
  | .obj c fs, v => ∃ a dx gs, v = .ref a ∧ H a = some (.ins (He.ga K c) dx gs) ∧ RpF K H fs gs
  | .scr ns, v => ∃ a, v = .ref a ∧ SqL K H a (ns.map V.int)
  | .cls c, v => v = .ref (He.ga K c)
  | .ty n, v => v = .ty n
def Rps (K : PySem.W.Frag) (H : Hp) : List D → List V → Prop
  | [], vs => vs = []
  | d :: ds, vs => ∃ v r, vs = v :: r ∧ Rp K H d v ∧ Rps K H ds r
def RpK (K : PySem.W.Frag) (H : Hp) : List (Ky × D) → List (Key × V) → Prop
  | [], vs => vs = []
  | (k, d) :: ds, vs => ∃ v r, vs = (k.key, v) :: r ∧ Rp K H d v ∧ RpK K H ds r
def RpF (K : PySem.W.Frag) (H : Hp) : List (Str × D) → List (Str × V) → Prop
  | [], vs => vs = []
  | (k, d) :: ds, vs => ∃ v r, vs = (k, v) :: r ∧ Rp K H d v ∧ RpF K H ds r
end
theorem same_sqT {K : PySem.W.Frag} {H H' : Hp} {a : Addr} {xs : List V} (e : Same H H') (h : SqT K H a xs) : SqT K H' a xs := by
  rcases h with (h | ⟨o, h⟩) | h
  · exact .inl (.inl (e _ _ h))
  · exact .inl (.inr ⟨o, e _ _ h⟩)
  · exact .inr h
section
variable {K : PySem.W.Frag} {H H' : Hp}
mutual
theorem Rp.mono (e : Same H H') : ∀ (d : D) {v : V}, Rp K H d v → Rp K H' d v
  | .non, _, h => by simp only [Rp] at h ⊢; exact h
  | .bl _, _, h => by simp only [Rp] at h ⊢; exact h
  | .int _, _, h => by simp only [Rp] at h ⊢; exact h
  | .str _, _, h => by simp only [Rp] at h ⊢; exact h
  | .cls _, _, h => by simp only [Rp] at h ⊢; exact h
  | .ty _, _, h => by simp only [Rp] at h ⊢; exact h
  | .tup ds, _, h => by
    simp only [Rp] at h ⊢
    obtain ⟨a, vs, h1, h2, h3⟩ := h
    exact ⟨a, vs, h1, same_sqT e h2, Rps.mono e ds h3⟩
  | .lst ds, _, h => by
    simp only [Rp] at h ⊢
    obtain ⟨a, vs, h1, h2, h3⟩ := h
    exact ⟨a, vs, h1, e _ _ h2, Rps.mono e ds h3⟩
  | .dic kvs, _, h => by
    simp only [Rp] at h ⊢
    obtain ⟨a, ks, h1, h2, h3⟩ := h
    exact ⟨a, ks, h1, e _ _ h2, RpK.mono e kvs h3⟩
  | .fdic kvs, _, h => by
    simp only [Rp] at h ⊢
    obtain ⟨a, o, ks, h1, h2, h3⟩ := h
    exact ⟨a, o, ks, h1, e _ _ h2, RpK.mono e kvs h3⟩
  | .obj c fs, _, h => by
    simp only [Rp] at h ⊢
    obtain ⟨a, dx, gs, h1, h2, h3⟩ := h
    exact ⟨a, dx, gs, h1, e _ _ h2, RpF.mono e fs h3⟩
  | .scr ns, _, h => by
    simp only [Rp] at h ⊢
    obtain ⟨a, h1, h2⟩ := h
    exact ⟨a, h1, e.seq h2⟩
theorem Rps.mono (e : Same H H') : ∀ (ds : List D) {vs : List V}, Rps K H ds vs → Rps K H' ds vs
  | [], _, h => by simp only [Rps] at h ⊢; exact h
  | d :: ds, _, h => by
    simp only [Rps] at h ⊢
    obtain ⟨v, r, h1, h2, h3⟩ := h
    exact ⟨v, r, h1, Rp.mono e d h2, Rps.mono e ds h3⟩
theorem RpK.mono (e : Same H H') : ∀ (ds : List (Ky × D)) {vs : List (Key × V)}, RpK K H ds vs → RpK K H' ds vs
  | [], _, h => by simp only [RpK] at h ⊢; exact h
  | (k, d) :: ds, _, h => by
    simp only [RpK] at h ⊢
    obtain ⟨v, r, h1, h2, h3⟩ := h
    exact ⟨v, r, h1, Rp.mono e d h2, RpK.mono e ds h3⟩
theorem RpF.mono (e : Same H H') : ∀ (ds : List (Str × D)) {vs : List (Str × V)}, RpF K H ds vs → RpF K H' ds vs
  | [], _, h => by simp only [RpF] at h ⊢; exact h
  | (k, d) :: ds, _, h => by
    simp only [RpF] at h ⊢
    obtain ⟨v, r, h1, h2, h3⟩ := h
    exact ⟨v, r, h1, Rp.mono e d h2, RpF.mono e ds h3⟩
end
end
/-- shared, owned, owned and handed in by the caller -/
inductive Kd where
  | sh | ow | pn
  deriving DecidableEq
abbrev Sl := Kd × D
abbrev En := List (Option Sl)
/-- what is fixed while a def runs: the objects that it must leave, the shared heap at its start, the addresses of the objects handed in -/
structure Fx where
  fm : Hp
  hs : Hp
  pa : Nat → Addr
def Own (K : PySem.W.Frag) (Hs H : Hp) (p : Addr) : D → Prop
  | .lst ds => ∃ vs, H p = some (.lst vs) ∧ Rps K Hs ds vs
  | .dic kvs => ∃ ks, H p = some (.dK ks) ∧ RpK K Hs kvs ks
  | .obj c fs => ∃ dx gs, H p = some (.ins (He.ga K c) dx gs) ∧ RpF K Hs fs gs
  | .tup ds => ∃ vs, H p = some (.tup vs) ∧ Rps K Hs ds vs
  | _ => False
theorem Own.mono {K : PySem.W.Frag} {Hs Hs' H H' : Hp} {p : Addr} (e : Same Hs Hs') (h : H' p = H p) : ∀ {d : D}, Own K Hs H p d → Own K Hs' H' p d
  | .lst ds, ⟨vs, a, b⟩ => ⟨vs, h.trans a, Rps.mono e _ b⟩
  | .tup ds, ⟨vs, a, b⟩ => ⟨vs, h.trans a, Rps.mono e _ b⟩
  | .dic ds, ⟨vs, a, b⟩ => ⟨vs, h.trans a, RpK.mono e _ b⟩
  | .obj c ds, ⟨dx, vs, a, b⟩ => ⟨dx, vs, h.trans a, RpF.mono e _ b⟩
theorem Own.has {K : PySem.W.Frag} {Hs H : Hp} {p : Addr} : ∀ {d : D}, Own K Hs H p d → ∃ o, H p = some o
  | .lst ds, ⟨vs, a, b⟩ => ⟨_, a⟩
  | .tup ds, ⟨vs, a, b⟩ => ⟨_, a⟩
  | .dic ds, ⟨vs, a, b⟩ => ⟨_, a⟩
  | .obj c ds, ⟨dx, vs, a, b⟩ => ⟨_, a⟩
structure IV (K : PySem.W.Frag) (x : Fx) (env : En) (σ : St) (Hs H : Hp) : Prop where
  len : env.length = σ.length
  ex : Same Hs H
  fr : Same x.fm H
  sep : ∀ a o, Hs a = some o → x.hs a = some o ∨ x.fm a = none
  h0 : Same x.hs Hs
  sh : ∀ (i : Nat) (d : D), env[i]? = some (some (.sh, d)) → ∃ v, σ[i]? = some (some v) ∧ Rp K Hs d v
  ow : ∀ (i : Nat) (k : Kd) (d : D), env[i]? = some (some (k, d)) → k ≠ .sh → ∃ p, σ[i]? = some (some (.ref p)) ∧ Hs p = none ∧ x.fm p = none ∧ Own K Hs H p d ∧ (k = .pn → p = x.pa i)
  dj : ∀ (i j : Nat) (k l : Kd) (d e : D) (p : Addr), i ≠ j → env[i]? = some (some (k, d)) → k ≠ .sh → env[j]? = some (some (l, e)) → l ≠ .sh → σ[i]? = some (some (.ref p)) → σ[j]? ≠ some (some (.ref p))
/-- no owned slot holds p -/
def Apart (env : En) (σ : St) (p : Addr) : Prop := ∀ (i : Nat) (k : Kd) (d : D), env[i]? = some (some (k, d)) → k ≠ .sh → σ[i]? ≠ some (some (.ref p))
section
variable {K : PySem.W.Frag} {x : Fx} {env : En} {σ : St} {Hs Hs' H H' : Hp}
/-- nothing tracked is changed -/
theorem IV.grow (I : IV K x env σ Hs H) (e : Same H H') : IV K x env σ Hs H' :=
  ⟨I.len, I.ex.trans e, I.fr.trans e, I.sep, I.h0, I.sh, fun i k d h1 h2 => by
    obtain ⟨p, a, b, c, o, q⟩ := I.ow i k d h1 h2
    obtain ⟨u, hu⟩ := o.has
    exact ⟨p, a, b, c, o.mono (Same.refl _) ((e _ _ hu).trans hu.symm), q⟩, I.dj⟩
theorem same_new {p : Addr} {o : HO} (h : H p = none) : Same H (upd H p o) := fun b u e => by
  rw [upd_ne (ne_of_none e h)]
  exact e
theorem same_mut {p : Addr} {o : HO} (e : Same Hs H) (h : Hs p = none) : Same Hs (upd H p o) := fun b u q => by
  rw [upd_ne (ne_of_none q h)]
  exact e b u q
/-- a new object, not yet shared -/
theorem IV.new {p : Addr} {o : HO} (I : IV K x env σ Hs H) (h : H p = none) : IV K x env σ Hs (upd H p o) := I.grow (same_new h)
theorem IV.fm_none {p : Addr} (I : IV K x env σ Hs H) (h : H p = none) : x.fm p = none := by
  cases e : x.fm p with
  | none => rfl
  | some o =>
    rw [I.fr p o e] at h
    cases h
theorem IV.hs_none {p : Addr} (I : IV K x env σ Hs H) (h : H p = none) : Hs p = none := by
  cases e : Hs p with
  | none => rfl
  | some o =>
    rw [I.ex p o e] at h
    cases h
theorem IV.apart {p : Addr} (I : IV K x env σ Hs H) (h : H p = none) : Apart env σ p := fun i k d h1 h2 e => by
  obtain ⟨q, a, b, c, o, _⟩ := I.ow i k d h1 h2
  rw [e] at a
  cases a
  obtain ⟨u, hu⟩ := o.has
  rw [h] at hu
  cases hu
/-- an object that no slot owns becomes shared -/
theorem IV.share {p : Addr} {o : HO} (I : IV K x env σ Hs H) (hp : H p = some o) (hn : Hs p = none) (hf : x.fm p = none) (ap : Apart env σ p) : IV K x env σ (upd Hs p o) H ∧ Same Hs (upd Hs p o) := by
  have e : Same Hs (upd Hs p o) := same_new hn
  refine ⟨⟨I.len, fun b u q => ?_, I.fr, fun b u q => ?_, I.h0.trans e, fun i d h1 => ?_, fun i k d h1 h2 => ?_, I.dj⟩, e⟩
  · by_cases hb : b = p
    · subst hb
      rw [upd_same] at q
      cases q
      exact hp
    · rw [upd_ne hb] at q
      exact I.ex b u q
  · by_cases hb : b = p
    · subst hb
      exact .inr hf
    · rw [upd_ne hb] at q
      exact I.sep b u q
  · obtain ⟨v, a, r⟩ := I.sh i d h1
    exact ⟨v, a, Rp.mono e _ r⟩
  · obtain ⟨q, a, b, c, w, z⟩ := I.ow i k d h1 h2
    have ne : q ≠ p := fun z => by
      subst z
      exact ap i k d h1 h2 a
    exact ⟨q, a, by rw [upd_ne ne]; exact b, c, w.mono e rfl, z⟩
theorem Own.rp {p : Addr} : ∀ {d : D}, Own K Hs H p d → ∃ o, H p = some o ∧ ∀ G, Same Hs G → G p = some o → Rp K G d (.ref p)
  | .lst ds, ⟨vs, a, b⟩ => ⟨_, a, fun G e g => by simp only [Rp]; exact ⟨p, vs, rfl, g, Rps.mono e _ b⟩⟩
  | .tup ds, ⟨vs, a, b⟩ => ⟨_, a, fun G e g => by simp only [Rp]; exact ⟨p, vs, rfl, SqT.of g, Rps.mono e _ b⟩⟩
  | .dic ds, ⟨vs, a, b⟩ => ⟨_, a, fun G e g => by simp only [Rp]; exact ⟨p, vs, rfl, g, RpK.mono e _ b⟩⟩
  | .obj c ds, ⟨dx, vs, a, b⟩ => ⟨_, a, fun G e g => by simp only [Rp]; exact ⟨p, dx, vs, rfl, g, RpF.mono e _ b⟩⟩
/-- a new thing becomes shared data -/
theorem IV.freeze {p : Addr} {d : D} (I : IV K x env σ Hs H) (ho : Own K Hs H p d) (hn : Hs p = none) (hf : x.fm p = none) (ap : Apart env σ p) : ∃ Hs', IV K x env σ Hs' H ∧ Same Hs Hs' ∧ Rp K Hs' d (.ref p) := by
  obtain ⟨o, hp, r⟩ := ho.rp
  obtain ⟨I', e⟩ := I.share hp hn hf ap
  exact ⟨_, I', e, r _ e upd_same⟩
theorem get_set {α : Type} {l : List (Option α)} {i j : Nat} {a b : Option α} (h : (l.set i a)[j]? = some b) : (j = i ∧ b = a) ∨ (j ≠ i ∧ l[j]? = some b) := by
  by_cases e : j = i
  · subst e
    by_cases hl : j < l.length
    · rw [List.getElem?_set_self hl] at h
      exact .inl ⟨rfl, (Option.some.inj h).symm⟩
    · rw [List.getElem?_eq_none (by rw [List.length_set]; omega)] at h
      cases h
  · rw [List.getElem?_set_ne (Ne.symm e)] at h
    exact .inr ⟨e, h⟩
/-- a slot holds shared data -/
theorem IV.setSh {i : Nat} {d : D} {v : V} (I : IV K x env σ Hs H) (hi : i < σ.length) (r : Rp K Hs d v) : IV K x (env.set i (some (.sh, d))) (σ.set i (some v)) Hs H := by
  refine ⟨by rw [List.length_set, List.length_set, I.len], I.ex, I.fr, I.sep, I.h0, fun j e h1 => ?_, fun j k e h1 h2 => ?_, fun j l kj kl dj dl p hne h1 h2 h3 h4 h5 => ?_⟩
  · rcases get_set h1 with ⟨rfl, h⟩ | ⟨hj, h⟩
    · cases h
      exact ⟨v, List.getElem?_set_self hi, r⟩
    · rw [List.getElem?_set_ne (Ne.symm hj)]
      exact I.sh j e h
  · rcases get_set h1 with ⟨rfl, h⟩ | ⟨hj, h⟩
    · cases h
      exact absurd rfl h2
    · rw [List.getElem?_set_ne (Ne.symm hj)]
      exact I.ow j k e h h2
  · rcases get_set h1 with ⟨rfl, h⟩ | ⟨hj, h⟩
    · cases h
      exact absurd rfl h2
    · rcases get_set h3 with ⟨rfl, h'⟩ | ⟨hl, h'⟩
      · cases h'
        exact absurd rfl h4
      · rw [List.getElem?_set_ne (Ne.symm hj)] at h5
        rw [List.getElem?_set_ne (Ne.symm hl)]
        exact I.dj j l kj kl dj dl p hne h h2 h' h4 h5
/-- a slot owns a new thing -/
theorem IV.setOw {i : Nat} {d : D} {p : Addr} (I : IV K x env σ Hs H) (hi : i < σ.length) (ho : Own K Hs H p d) (hn : Hs p = none) (hf : x.fm p = none) (ap : Apart env σ p) : IV K x (env.set i (some (.ow, d))) (σ.set i (some (.ref p))) Hs H := by
  refine ⟨by rw [List.length_set, List.length_set, I.len], I.ex, I.fr, I.sep, I.h0, fun j e h1 => ?_, fun j k e h1 h2 => ?_, fun j l kj kl dj dl q hne h1 h2 h3 h4 h5 => ?_⟩
  · rcases get_set h1 with ⟨rfl, h⟩ | ⟨hj, h⟩
    · cases h
    · rw [List.getElem?_set_ne (Ne.symm hj)]
      exact I.sh j e h
  · rcases get_set h1 with ⟨rfl, h⟩ | ⟨hj, h⟩
    · cases h
      exact ⟨p, List.getElem?_set_self hi, hn, hf, ho, fun z => nomatch z⟩
    · rw [List.getElem?_set_ne (Ne.symm hj)]
      exact I.ow j k e h h2
  · rcases get_set h1 with ⟨rfl, h⟩ | ⟨hj, h⟩
    · rw [List.getElem?_set_self hi] at h5
      cases h5
      rcases get_set h3 with ⟨rfl, h'⟩ | ⟨hl, h'⟩
      · exact absurd rfl hne
      · rw [List.getElem?_set_ne (Ne.symm hl)]
        exact ap l kl dl h' h4
    · rw [List.getElem?_set_ne (Ne.symm hj)] at h5
      rcases get_set h3 with ⟨rfl, h'⟩ | ⟨hl, h'⟩
      · rw [List.getElem?_set_self hi]
        intro z
        cases z
        exact ap j kj dj h h2 h5
      · rw [List.getElem?_set_ne (Ne.symm hl)]
        exact I.dj j l kj kl dj dl q hne h h2 h' h4 h5
/-- the thing that slot i owns is changed -/
theorem IV.put {i : Nat} {k : Kd} {d d' : D} {p : Addr} {o : HO} (I : IV K x env σ Hs H) (hi : env[i]? = some (some (k, d))) (hk : k ≠ .sh) (hp : σ[i]? = some (some (.ref p))) (ho : Own K Hs (upd H p o) p d') : IV K x (env.set i (some (k, d'))) σ Hs (upd H p o) := by
  obtain ⟨q, a, b, c, _, z⟩ := I.ow i k d hi hk
  rw [hp] at a
  cases a
  have hil : i < env.length := (List.getElem?_eq_some_iff.mp hi).1
  refine ⟨by rw [List.length_set, I.len], same_mut I.ex b, same_mut I.fr c, I.sep, I.h0, fun j e h1 => ?_, fun j l e h1 h2 => ?_, fun j l kj kl dj dl r hne h1 h2 h3 h4 h5 => ?_⟩
  · rcases get_set h1 with ⟨rfl, h⟩ | ⟨hj, h⟩
    · cases h
      exact absurd rfl hk
    · exact I.sh j e h
  · rcases get_set h1 with ⟨rfl, h⟩ | ⟨hj, h⟩
    · cases h
      exact ⟨p, hp, b, c, ho, z⟩
    · obtain ⟨r, a', b', c', o', z'⟩ := I.ow j l e h h2
      have ne : r ≠ p := fun w => by
        subst w
        exact I.dj j i l k e d r hj h h2 hi hk a' hp
      exact ⟨r, a', b', c', o'.mono (Same.refl _) (upd_ne ne), z'⟩
  · have g : ∀ {m : Nat} {km : Kd} {dm : D}, (env.set i (some (k, d')))[m]? = some (some (km, dm)) → ∃ dm', env[m]? = some (some (km, dm')) := fun {m km dm} hh => by
      rcases get_set hh with ⟨em, h⟩ | ⟨_, h⟩
      · cases h
        rw [em]
        exact ⟨d, hi⟩
      · exact ⟨dm, h⟩
    obtain ⟨d1, g1⟩ := g h1
    obtain ⟨d2, g2⟩ := g h3
    exact I.dj j l kj kl d1 d2 r hne g1 h2 g2 h4 h5
/-- what a slot owns becomes shared -/
theorem IV.fz {i : Nat} {d : D} (I : IV K x env σ Hs H) (hi : env[i]? = some (some (.ow, d))) : ∃ Hs', IV K x (env.set i (some (.sh, d))) σ Hs' H ∧ Same Hs Hs' := by
  obtain ⟨p, a, b, c, ho, _⟩ := I.ow i .ow d hi (by decide)
  have hil : i < σ.length := (List.getElem?_eq_some_iff.mp a).1
  -- first forget the slot, then share, then lay it anew
  have I1 : IV K x (env.set i none) σ Hs H := by
    refine ⟨by rw [List.length_set, I.len], I.ex, I.fr, I.sep, I.h0, fun j e h1 => ?_, fun j k e h1 h2 => ?_, fun j l kj kl dj dl q hne h1 h2 h3 h4 h5 => ?_⟩
    · rcases get_set h1 with ⟨rfl, h⟩ | ⟨hj, h⟩
      · cases h
      · exact I.sh j e h
    · rcases get_set h1 with ⟨rfl, h⟩ | ⟨hj, h⟩
      · cases h
      · exact I.ow j k e h h2
    · rcases get_set h1 with ⟨rfl, h⟩ | ⟨hj, h⟩
      · cases h
      · rcases get_set h3 with ⟨rfl, h'⟩ | ⟨hl, h'⟩
        · cases h'
        · exact I.dj j l kj kl dj dl q hne h h2 h' h4 h5
  have ap : Apart (env.set i none) σ p := fun j k e h1 h2 z => by
    rcases get_set h1 with ⟨rfl, h⟩ | ⟨hj, h⟩
    · cases h
    · exact I.dj j i k .ow e d p hj h h2 hi (by decide) z a
  obtain ⟨Hs', I2, e, r⟩ := I1.freeze ho b c ap
  have I3 := I2.setSh (i := i) (d := d) (v := .ref p) hil r
  have e1 : (env.set i none).set i (some (Kd.sh, d)) = env.set i (some (.sh, d)) := by rw [List.set_set]
  have e2 : σ.set i (some (.ref p)) = σ := by
    apply List.ext_getElem?
    intro j
    by_cases hj : j = i
    · subst hj
      rw [List.getElem?_set_self hil, a]
    · rw [List.getElem?_set_ne (Ne.symm hj)]
  rw [e1, e2] at I3
  exact ⟨Hs', I3, e⟩
end
/-- the thing itself in the whole heap, its parts shared -/
def Pk (K : PySem.W.Frag) (Hs H : Hp) : D → V → Prop
  | .tup ds, v => ∃ a vs, v = .ref a ∧ SqT K H a vs ∧ Rps K Hs ds vs
  | .lst ds, v => ∃ a vs, v = .ref a ∧ H a = some (.lst vs) ∧ Rps K Hs ds vs
  | .dic kvs, v => ∃ a ks, v = .ref a ∧ H a = some (.dK ks) ∧ RpK K Hs kvs ks
  | .fdic kvs, v => ∃ a o ks, v = .ref a ∧ H a = some (.frz o (.dK ks)) ∧ RpK K Hs kvs ks
  | .obj c fs, v => ∃ a dx gs, v = .ref a ∧ H a = some (.ins (He.ga K c) dx gs) ∧ RpF K Hs fs gs
  | .scr ns, v => ∃ a, v = .ref a ∧ SqL K H a (ns.map V.int)
  | .non, v => v = .non
  | .bl b, v => v = .bl b
  | .int i, v => v = .int i
  | .str x, v => v = .str ⟨x.toArray⟩
  | .cls c, v => v = .ref (He.ga K c)
  | .ty n, v => v = .ty n
section
variable {K : PySem.W.Frag} {x : Fx} {env : En} {σ : St} {Hs Hs' H H' : Hp}
theorem Rp.pk (e : Same Hs H) : ∀ {d : D} {v : V}, Rp K Hs d v → Pk K Hs H d v
  | .non, _, h => by simp only [Rp] at h; exact h
  | .bl _, _, h => by simp only [Rp] at h; exact h
  | .int _, _, h => by simp only [Rp] at h; exact h
  | .str _, _, h => by simp only [Rp] at h; exact h
  | .cls _, _, h => by simp only [Rp] at h; exact h
  | .ty _, _, h => by simp only [Rp] at h; exact h
  | .tup ds, _, h => by
    simp only [Rp] at h
    obtain ⟨a, vs, h1, h2, h3⟩ := h
    exact ⟨a, vs, h1, same_sqT e h2, h3⟩
  | .lst ds, _, h => by
    simp only [Rp] at h
    obtain ⟨a, vs, h1, h2, h3⟩ := h
    exact ⟨a, vs, h1, e _ _ h2, h3⟩
  | .dic kvs, _, h => by
    simp only [Rp] at h
    obtain ⟨a, ks, h1, h2, h3⟩ := h
    exact ⟨a, ks, h1, e _ _ h2, h3⟩
  | .fdic kvs, _, h => by
    simp only [Rp] at h
    obtain ⟨a, o, ks, h1, h2, h3⟩ := h
    exact ⟨a, o, ks, h1, e _ _ h2, h3⟩
  | .obj c fs, _, h => by
    simp only [Rp] at h
    obtain ⟨a, dx, gs, h1, h2, h3⟩ := h
    exact ⟨a, dx, gs, h1, e _ _ h2, h3⟩
  | .scr ns, _, h => by
    simp only [Rp] at h
    obtain ⟨a, h1, h2⟩ := h
    exact ⟨a, h1, e.seq h2⟩
theorem Own.pk {p : Addr} : ∀ {d : D}, Own K Hs H p d → Pk K Hs H d (.ref p)
  | .lst ds, ⟨vs, a, b⟩ => ⟨p, vs, rfl, a, b⟩
  | .tup ds, ⟨vs, a, b⟩ => ⟨p, vs, rfl, SqT.of a, b⟩
  | .dic ds, ⟨vs, a, b⟩ => ⟨p, vs, rfl, a, b⟩
  | .obj c ds, ⟨dx, vs, a, b⟩ => ⟨p, dx, vs, rfl, a, b⟩
/-- in the whole heap it is that data -/
theorem Pk.rp (e : Same Hs H) : ∀ {d : D} {v : V}, Pk K Hs H d v → Rp K H d v
  | .non, _, h => by simp only [Rp]; exact h
  | .bl _, _, h => by simp only [Rp]; exact h
  | .int _, _, h => by simp only [Rp]; exact h
  | .str _, _, h => by simp only [Rp]; exact h
  | .cls _, _, h => by simp only [Rp]; exact h
  | .ty _, _, h => by simp only [Rp]; exact h
  | .tup ds, _, ⟨a, vs, h1, h2, h3⟩ => by simp only [Rp]; exact ⟨a, vs, h1, h2, Rps.mono e ds h3⟩
  | .lst ds, _, ⟨a, vs, h1, h2, h3⟩ => by simp only [Rp]; exact ⟨a, vs, h1, h2, Rps.mono e ds h3⟩
  | .dic ds, _, ⟨a, vs, h1, h2, h3⟩ => by simp only [Rp]; exact ⟨a, vs, h1, h2, RpK.mono e ds h3⟩
  | .fdic ds, _, ⟨a, o, vs, h1, h2, h3⟩ => by simp only [Rp]; exact ⟨a, o, vs, h1, h2, RpK.mono e ds h3⟩
  | .obj c ds, _, ⟨a, dx, vs, h1, h2, h3⟩ => by simp only [Rp]; exact ⟨a, dx, vs, h1, h2, RpF.mono e ds h3⟩
  | .scr ns, _, ⟨a, h1, h2⟩ => by simp only [Rp]; exact ⟨a, h1, h2⟩
end
/-- an operand: a value, or the slot that is looked at -/
inductive Ov where
  | d (d : D)
  | s (i : Nat)
def fetch (env : En) : Ov → Option D
  | .d d => some d
  | .s i => match env[i]? with
    | some (some (_, d)) => some d
    | _ => none
def OvR (K : PySem.W.Frag) (σ : St) (Hs : Hp) (v : V) : Ov → Prop
  | .d d => Rp K Hs d v
  | .s i => σ[i]? = some (some v)
section
variable {K : PySem.W.Frag} {x : Fx} {env : En} {σ : St} {Hs Hs' H H' : Hp} {v : V}
theorem OvR.mono (e : Same Hs Hs') : ∀ {o : Ov}, OvR K σ Hs v o → OvR K σ Hs' v o
  | .d d, h => Rp.mono e d h
  | .s i, h => h
theorem IV.slot {i : Nat} {k : Kd} {d : D} (I : IV K x env σ Hs H) (h : env[i]? = some (some (k, d))) : ∃ v, σ[i]? = some (some v) ∧ Pk K Hs H d v := by
  by_cases hk : k = .sh
  · subst hk
    obtain ⟨v, a, r⟩ := I.sh i d h
    exact ⟨v, a, r.pk I.ex⟩
  · obtain ⟨p, a, _, _, o, _⟩ := I.ow i k d h hk
    exact ⟨.ref p, a, o.pk⟩
theorem IV.pk {o : Ov} {d : D} (I : IV K x env σ Hs H) (r : OvR K σ Hs v o) (h : fetch env o = some d) : Pk K Hs H d v := by
  cases o with
  | d e =>
    cases h
    exact Rp.pk I.ex r
  | s i =>
    have h : (match env[i]? with
      | some (some (_, d)) => some d
      | _ => none) = some d := h
    cases q : env[i]? with
    | none =>
      rw [q] at h
      cases h
    | some z =>
      cases z with
      | none =>
        rw [q] at h
        cases h
      | some kd =>
        obtain ⟨k, e⟩ := kd
        rw [q] at h
        cases h
        obtain ⟨v', a, r'⟩ := I.slot q
        have r2 : σ[i]? = some (some v) := r
        rw [r2] at a
        cases a
        exact r'
end
abbrev FE := En → Option (D × En)
abbrev FO := En → Option (Ov × En)
def rd (K : PySem.W.Frag) (f : FE) : TE := fun σ H Q => ∃ x env Hs d env', IV K x env σ Hs H ∧ f env = some (d, env') ∧ ∀ v H' Hs', IV K x env' σ Hs' H' → Same Hs Hs' → Rp K Hs' d v → Q v H'
def rdO (K : PySem.W.Frag) (f : FO) : TE := fun σ H Q => ∃ x env Hs o env', IV K x env σ Hs H ∧ f env = some (o, env') ∧ ∀ v H' Hs', IV K x env' σ Hs' H' → Same Hs Hs' → OvR K σ Hs' v o → Q v H'
/-- a new thing -/
def rdF (K : PySem.W.Frag) (f : FE) : TE := fun σ H Q => ∃ x env Hs d env', IV K x env σ Hs H ∧ f env = some (d, env') ∧ ∀ p H' Hs', IV K x env' σ Hs' H' → Same Hs Hs' → Own K Hs' H' p d → Hs' p = none → x.fm p = none → Apart env' σ p → Q (.ref p) H'
abbrev DE (X : Cx) (e : Expr) (f : FE) : Prop := PE X e (rd X.K f)
abbrev DO (X : Cx) (e : Expr) (f : FO) : Prop := PE X e (rdO X.K f)
abbrev DF (X : Cx) (e : Expr) (f : FE) : Prop := PE X e (rdF X.K f)
/-- a test -/
def rdT (K : PySem.W.Frag) (f : FE) : TT := fun σ H Q => ∃ x env Hs b env', IV K x env σ Hs H ∧ f env = some (.bl b, env') ∧ ∀ H' Hs', IV K x env' σ Hs' H' → Same Hs Hs' → Q b H'
abbrev DT (X : Cx) (e : Expr) (f : FE) : Prop := PT X e (rdT X.K f)
inductive Out where
  | nx (e : En)
  | bk (e : En)
  | ct (e : En)
  | rt (own : Bool) (d : D) (e : En)
abbrev FS := En → Option Out
def OutE (K : PySem.W.Frag) (x : Fx) (Hs : Hp) (Z : Ends) : Out → Prop
  | .nx e => ∀ σ H Hs', IV K x e σ Hs' H → Same Hs Hs' → Z.nx σ H
  | .bk e => ∀ σ H Hs', IV K x e σ Hs' H → Same Hs Hs' → Z.bk σ H
  | .ct e => ∀ σ H Hs', IV K x e σ Hs' H → Same Hs Hs' → Z.ct σ H
  | .rt false d e => ∀ v σ H Hs', IV K x e σ Hs' H → Same Hs Hs' → Rp K Hs' d v → Z.rt v H
  | .rt true d e => ∀ p σ H Hs', IV K x e σ Hs' H → Same Hs Hs' → Own K Hs' H p d → Hs' p = none → x.fm p = none → Apart e σ p → Z.rt (.ref p) H
def rdS (K : PySem.W.Frag) (F : FS) : TS := fun Z σ H => ∃ x env Hs o, IV K x env σ Hs H ∧ F env = some o ∧ OutE K x Hs Z o
abbrev DS (X : Cx) (st : Stmt) (F : FS) : Prop := PS X st (rdS X.K F)
abbrev DSs (X : Cx) (sts : List Stmt) (F : FS) : Prop := PSs X sts (rdS X.K F)
theorem OutE.mono {K : PySem.W.Frag} {x : Fx} {Hs Hs' : Hp} {Z : Ends} (e : Same Hs Hs') : ∀ {o : Out}, OutE K x Hs Z o → OutE K x Hs' Z o
  | .nx _, h => fun σ H G I q => h σ H G I (e.trans q)
  | .bk _, h => fun σ H G I q => h σ H G I (e.trans q)
  | .ct _, h => fun σ H G I q => h σ H G I (e.trans q)
  | .rt false _ _, h => fun v σ H G I q => h v σ H G I (e.trans q)
  | .rt true _ _, h => fun p σ H G I q => h p σ H G I (e.trans q)
section
variable {X : Cx}
theorem imp {e : Expr} {t u : TE} (h : PE X e t) (k : ∀ σ H Q, u σ H Q → t σ H Q) : PE X e u := ⟨fun pins s σ H Q I q => h.run pins s σ H Q I (k σ H Q q)⟩
theorem impT {e : Expr} {t u : TT} (h : PT X e t) (k : ∀ σ H Q, u σ H Q → t σ H Q) : PT X e u := ⟨fun pins s σ H Q I q => h.run pins s σ H Q I (k σ H Q q)⟩
theorem impS {st : Stmt} {t u : TS} (h : PS X st t) (k : ∀ Z σ H, u Z σ H → t Z σ H) : PS X st u := ⟨fun pins s σ H D I q => h.run pins s σ H D I (k D σ H q)⟩
theorem impSs {st : List Stmt} {t u : TS} (h : PSs X st t) (k : ∀ Z σ H, u Z σ H → t Z σ H) : PSs X st u := ⟨fun pins s σ H D I q => h.run pins s σ H D I (k D σ H q)⟩
end
end Qd
namespace Qd
open PySem PySem.Spec L2
def eVar (i : Nat) : FE := fun env => match env[i]? with
  | some (some (.sh, d)) => some (d, env)
  | _ => none
def eK (d : D) : FE := fun env => some (d, env)
def oS (i : Nat) : FO := fun env => match env[i]? with
  | some (some _) => some (.s i, env)
  | _ => none
def oE (f : FE) : FO := fun env => (f env).map fun p => (.d p.1, p.2)
section
variable {X : Cx}
theorem de_var (i : Nat) {x : Str} {pos : Pos} (hN : X.N[i]? = some x := by rfl) (hv : Vis X.env.scope x := by first | exact Or.inl rfl | exact Or.inr (Or.inl rfl) | exact Or.inr (Or.inr rfl)) (hd : (x == ("__debug__" : Str)) = false := by decide)
    (hcd : (x == ("__classdict__" : Str)) = false := by decide) : DE X (.Name x pos) (eVar i) := by
  refine imp (pe_var hN hv hd hcd) fun σ H Q h => ?_
  obtain ⟨x, env, Hs, d, env', I, hf, k⟩ := h
  unfold eVar at hf
  split at hf
  · rename_i d' hq
    cases hf
    obtain ⟨v, a, r⟩ := I.sh i d hq
    exact ⟨v, a, k v H Hs I (Same.refl _) r⟩
  · cases hf
theorem do_peek (i : Nat) {x : Str} {pos : Pos} (hN : X.N[i]? = some x := by rfl) (hv : Vis X.env.scope x := by first | exact Or.inl rfl | exact Or.inr (Or.inl rfl) | exact Or.inr (Or.inr rfl)) (hd : (x == ("__debug__" : Str)) = false := by decide)
    (hcd : (x == ("__classdict__" : Str)) = false := by decide) : DO X (.Name x pos) (oS i) := by
  refine imp (pe_var hN hv hd hcd) fun σ H Q h => ?_
  obtain ⟨x, env, Hs, o, env', I, hf, k⟩ := h
  unfold oS at hf
  split at hf
  · rename_i kd hq
    cases hf
    obtain ⟨kk, d⟩ := kd
    obtain ⟨v, a, r⟩ := I.slot hq
    exact ⟨v, a, k v H Hs I (Same.refl _) a⟩
  · cases hf
theorem do_of {e : Expr} {f : FE} (h : DE X e f) : DO X e (oE f) := by
  refine imp h fun σ H Q h => ?_
  obtain ⟨x, env, Hs, o, env', I, hf, k⟩ := h
  obtain ⟨⟨d, e2⟩, h1, h2⟩ := Option.map_eq_some_iff.mp hf
  cases h2
  exact ⟨x, env, Hs, d, _, I, h1, fun v H' Hs' I' s r => k v H' Hs' I' s r⟩
theorem de_int {i j pos} : DE X (.Constant (.int i) j pos) (eK (.int i)) := imp pe_int fun σ H Q h => by
  obtain ⟨x, env, Hs, d, env', I, hf, k⟩ := h
  cases hf
  exact k _ H Hs I (Same.refl _) (by simp only [Rp])
theorem de_bl {b j pos} : DE X (.Constant (.bool b) j pos) (eK (.bl b)) := imp pe_bl fun σ H Q h => by
  obtain ⟨x, env, Hs, d, env', I, hf, k⟩ := h
  cases hf
  exact k _ H Hs I (Same.refl _) (by simp only [Rp])
theorem de_non {j pos} : DE X (.Constant .none j pos) (eK .non) := imp pe_non fun σ H Q h => by
  obtain ⟨x, env, Hs, d, env', I, hf, k⟩ := h
  cases hf
  exact k _ H Hs I (Same.refl _) (by simp only [Rp])
theorem de_str (l : List Nat) {x : Str} {j pos} (e : x = ⟨l.toArray⟩ := by decide +kernel) : DE X (.Constant (.str x) j pos) (eK (.str l)) := imp pe_str fun σ H Q h => by
  obtain ⟨y, env, Hs, d, env', I, hf, k⟩ := h
  cases hf
  exact k _ H Hs I (Same.refl _) (by simp only [Rp]; rw [e])
/-- a module's constant -/
theorem de_gloI (i : Int) {x : Str} {pos : Pos} {t : Tok} (hm : X.mg x = some (.int i t)) (hg : Gl X x := by rfl) (hdb : (x == ("__debug__" : Str)) = false := by decide) : DE X (.Name x pos) (eK (.int i)) := imp (pe_glob (v := .int i) hg hm ⟨t, rfl⟩ hdb) fun σ H Q h => by
  obtain ⟨y, env, Hs, d, env', I, hf, k⟩ := h
  cases hf
  exact k _ H Hs I (Same.refl _) (by simp only [Rp])
theorem de_gloS (l : List Nat) {x : Str} {pos : Pos} {t : Tok} (hm : X.mg x = some (.str ⟨l.toArray⟩ t)) (hg : Gl X x := by rfl) (hdb : (x == ("__debug__" : Str)) = false := by decide) : DE X (.Name x pos) (eK (.str l)) := imp (pe_glob (v := .str ⟨l.toArray⟩) hg hm ⟨t, rfl⟩ hdb) fun σ H Q h => by
  obtain ⟨y, env, Hs, d, env', I, hf, k⟩ := h
  cases hf
  exact k _ H Hs I (Same.refl _) (by simp only [Rp])
/-- what is new, as shared data -/
theorem de_frz {e : Expr} {f : FE} (h : DF X e f) : DE X e f := by
  refine imp h fun σ H Q h => ?_
  obtain ⟨x, env, Hs, d, env', I, hf, k⟩ := h
  refine ⟨x, env, Hs, d, env', I, hf, fun p H' Hs' I' s o n m ap => ?_⟩
  obtain ⟨G, I2, s2, r⟩ := I'.freeze o n m ap
  exact k _ H' G I2 (s.trans s2) r
theorem dt_of {e : Expr} {f : FE} (h : DE X e f) (he : ∀ whole, isTrue e X.env whole = (do let v ← whole; standAt e.pos; holding [v] (truthy v)) := by intro _; rfl) : DT X e f := by
  refine impT (pt_val h he) fun σ H Q h => ?_
  obtain ⟨x, env, Hs, b, env', I, hf, k⟩ := h
  refine ⟨x, env, Hs, .bl b, env', I, hf, fun v H' Hs' I' s r => ?_⟩
  simp only [Rp] at r
  exact ⟨b, r, k H' Hs' I' s⟩
end
def ev2 (fa fb : FO) (env : En) : Option (D × D × En) := (fa env).bind fun p => (fb p.2).bind fun q => (fetch q.2 p.1).bind fun d => (fetch q.2 q.1).map fun e => (d, e, q.2)
def eOp2 (g : D → D → Option D) (fa fb : FO) : FE := fun env => (ev2 fa fb env).bind fun p => (g p.1 p.2.1).map fun z => (z, p.2.2)
section
variable {X : Cx} {K : PySem.W.Frag} {x : Fx} {env env' : En} {σ : L2.St} {Hs H : Hp}
theorem rd2 {fa fb : FO} {d e : D} {R : V → V → Hp → Prop} (I : IV K x env σ Hs H) (h : ev2 fa fb env = some (d, e, env')) (k : ∀ v w H' Hs', IV K x env' σ Hs' H' → Same Hs Hs' → Pk K Hs' H' d v → Pk K Hs' H' e w → R v w H') :
    rdO K fa σ H fun v H1 => rdO K fb σ H1 fun w H2 => R v w H2 := by
  unfold ev2 at h
  obtain ⟨p, hp, h⟩ := Option.bind_eq_some_iff.mp h
  obtain ⟨q, hq, h⟩ := Option.bind_eq_some_iff.mp h
  obtain ⟨d', hd, h⟩ := Option.bind_eq_some_iff.mp h
  obtain ⟨e', he, h⟩ := Option.map_eq_some_iff.mp h
  cases h
  exact ⟨x, env, Hs, p.1, p.2, I, hp, fun v H1 Hs1 I1 s1 o1 => ⟨x, p.2, Hs1, q.1, q.2, I1, hq, fun w H2 Hs2 I2 s2 o2 => k v w H2 Hs2 I2 (s1.trans s2) (I2.pk (o1.mono s2) hd) (I2.pk o2 he)⟩⟩
/-- a value out of two -/
def OV2 (K : PySem.W.Frag) (r : R2) (g : D → D → Option D) : Prop := ∀ (Hs H : Hp) (d e z : D) (v w : V), Same Hs H → Pk K Hs H d v → Pk K Hs H e w → g d e = some z → ∃ u, Rp K Hs z u ∧ ∀ Q : VK, Q u H → r v w H Q
/-- a new thing out of two -/
def OF2 (K : PySem.W.Frag) (r : R2) (g : D → D → Option D) : Prop := ∀ (Hs H : Hp) (d e z : D) (v w : V), Same Hs H → Pk K Hs H d v → Pk K Hs H e w → g d e = some z → ∃ o, (∀ p, Own K Hs (upd H p o) p z) ∧ ∀ Q : VK, (∀ p, H p = none → Q (.ref p) (upd H p o)) → r v w H Q
theorem op2V {r : R2} {g : D → D → Option D} {fa fb : FO} (hs : OV2 K r g) {Q : VK} (h : rd K (eOp2 g fa fb) σ H Q) : tOp r (rdO K fa) (rdO K fb) σ H Q := by
  obtain ⟨x, env, Hs, d, env', I, hf, k⟩ := h
  obtain ⟨⟨d1, d2, e2⟩, h1, h2⟩ := Option.bind_eq_some_iff.mp hf
  obtain ⟨z, h3, h4⟩ := Option.map_eq_some_iff.mp h2
  cases h4
  refine rd2 (R := fun v w H' => r v w H' Q) I h1 fun v w H' Hs' I' s p1 p2 => ?_
  obtain ⟨u, hu, hr⟩ := hs Hs' H' d1 d2 _ v w I'.ex p1 p2 h3
  exact hr Q (k u H' Hs' I' s hu)
theorem op2F {r : R2} {g : D → D → Option D} {fa fb : FO} (hs : OF2 K r g) {Q : VK} (h : rdF K (eOp2 g fa fb) σ H Q) : tOp r (rdO K fa) (rdO K fb) σ H Q := by
  obtain ⟨x, env, Hs, d, env', I, hf, k⟩ := h
  obtain ⟨⟨d1, d2, e2⟩, h1, h2⟩ := Option.bind_eq_some_iff.mp hf
  obtain ⟨z, h3, h4⟩ := Option.map_eq_some_iff.mp h2
  cases h4
  refine rd2 (R := fun v w H' => r v w H' Q) I h1 fun v w H' Hs' I' s p1 p2 => ?_
  obtain ⟨o, ho, hr⟩ := hs Hs' H' d1 d2 _ v w I'.ex p1 p2 h3
  exact hr Q fun p hp => k p _ Hs' (I'.new hp) s (ho p) (I'.hs_none hp) (I'.fm_none hp) (I'.apart hp)
theorem de_op2 {op : Operator} {r : R2} {g : D → D → Option D} {a b : Expr} {fa fb : FO} {pos : Pos} (ho : OpR X (binaryOp op) r) (hs : OV2 X.K r g) (ha : DO X a fa) (hb : DO X b fb) : DE X (.BinOp a op b pos) (eOp2 g fa fb) :=
  imp (pe_op ho ha hb) fun _ _ _ h => op2V hs h
theorem df_op2 {op : Operator} {r : R2} {g : D → D → Option D} {a b : Expr} {fa fb : FO} {pos : Pos} (ho : OpR X (binaryOp op) r) (hs : OF2 X.K r g) (ha : DO X a fa) (hb : DO X b fb) : DF X (.BinOp a op b pos) (eOp2 g fa fb) :=
  imp (pe_op ho ha hb) fun _ _ _ h => op2F hs h
theorem de_cmp2 {op : CmpOp} {r : R2} {g : D → D → Option D} {a b : Expr} {fa fb : FO} {pos : Pos} (ho : OpR X (compareOp op) r) (hs : OV2 X.K r g) (ha : DO X a fa) (hb : DO X b fb) (hm : behindInMarks op b = false) : DE X (.Compare a [op] [b] pos) (eOp2 g fa fb) :=
  imp (pe_cmpR ho ha hb hm) fun _ _ _ h => op2V hs h
theorem dt_cmp2 {op : CmpOp} {r : R2} {g : D → D → Option D} {a b : Expr} {fa fb : FO} {pos : Pos} (ho : OpR X (compareOp op) r) (hs : OV2 X.K r g) (ha : DO X a fa) (hb : DO X b fb) (hm : behindInMarks op b = false) : DT X (.Compare a [op] [b] pos) (eOp2 g fa fb) := by
  refine impT (pt_cmpR ho ha hb hm) fun σ H Q h => ?_
  obtain ⟨x, env, Hs, b, env', I, hf, k⟩ := h
  refine op2V hs ⟨x, env, Hs, .bl b, env', I, hf, fun v H' Hs' I' s r => ?_⟩
  simp only [Rp] at r
  exact ⟨b, r, k H' Hs' I' s⟩
theorem de_ix2 {r : R2} {g : D → D → Option D} {a b : Expr} {fa fb : FO} {pos : Pos} (ho : IxR X r) (hs : OV2 X.K r g) (ha : DO X a fa) (hb : DO X b fb) (hp : PlainIx b) : DE X (.Subscript a b pos) (eOp2 g fa fb) :=
  imp (pe_ix ho ha hb hp) fun _ _ _ h => op2V hs h
end
abbrev FA := En → Option (List Ov × En)
def OvRs (K : PySem.W.Frag) (σ : L2.St) (Hs : Hp) : List V → List Ov → Prop
  | [], [] => True
  | v :: vs, o :: os => OvR K σ Hs v o ∧ OvRs K σ Hs vs os
  | _, _ => False
theorem OvRs.mono {K : PySem.W.Frag} {σ : L2.St} {Hs Hs' : Hp} (e : Same Hs Hs') : ∀ {vs : List V} {os : List Ov}, OvRs K σ Hs vs os → OvRs K σ Hs' vs os
  | [], [], _ => trivial
  | _ :: _, _ :: _, ⟨a, b⟩ => ⟨a.mono e, OvRs.mono e b⟩
def rdA (K : PySem.W.Frag) (f : FA) : TA := fun σ H Q => ∃ x env Hs os env', IV K x env σ Hs H ∧ f env = some (os, env') ∧ ∀ vs H' Hs', IV K x env' σ Hs' H' → Same Hs Hs' → OvRs K σ Hs' vs os → Q vs H'
abbrev DA (X : Cx) (es : List Expr) (f : FA) : Prop := PA X es (rdA X.K f)
def aNil : FA := fun env => some ([], env)
def aCons (fo : FO) (fa : FA) : FA := fun env => (fo env).bind fun p => (fa p.2).map fun q => (p.1 :: q.1, q.2)
def fetchs (env : En) : List Ov → Option (List D)
  | [] => some []
  | o :: os => (fetch env o).bind fun d => (fetchs env os).map fun ds => d :: ds
def Pks (K : PySem.W.Frag) (Hs H : Hp) : List D → List V → Prop
  | [], [] => True
  | d :: ds, v :: vs => Pk K Hs H d v ∧ Pks K Hs H ds vs
  | _, _ => False
section
variable {X : Cx} {K : PySem.W.Frag} {x : Fx} {env env' : En} {σ : L2.St} {Hs H : Hp}
theorem IV.pks (I : IV K x env σ Hs H) : ∀ {vs : List V} {os : List Ov} {ds : List D}, OvRs K σ Hs vs os → fetchs env os = some ds → Pks K Hs H ds vs
  | [], [], _, _, h => by
    cases h
    exact trivial
  | v :: vs, o :: os, _, ⟨a, b⟩, h => by
    obtain ⟨d, hd, h⟩ := Option.bind_eq_some_iff.mp h
    obtain ⟨ds, hds, h⟩ := Option.map_eq_some_iff.mp h
    cases h
    exact ⟨I.pk a hd, IV.pks I b hds⟩
theorem da_nil : DA X [] aNil := ⟨fun pos pins s σ H Q I h => pa_nil.run pos pins s σ H Q I (by
  obtain ⟨x, env, Hs, os, env', I, hf, k⟩ := h
  cases hf
  exact k [] H Hs I (Same.refl _) trivial)⟩
theorem da_cons {e : Expr} {es : List Expr} {fo : FO} {fa : FA} (h1 : DO X e fo) (h2 : DA X es fa) (hs : starEach (e :: es) X.env = (false, eval e X.env) :: starEach es X.env := by rfl) : DA X (e :: es) (aCons fo fa) := ⟨fun pos pins s σ H Q I h => (pa_cons h1 h2 hs).run pos pins s σ H Q I (by
  obtain ⟨x, env, Hs, os, env', I, hf, k⟩ := h
  obtain ⟨⟨o, e1⟩, g1, g⟩ := Option.bind_eq_some_iff.mp hf
  obtain ⟨⟨os', e2⟩, g2, g3⟩ := Option.map_eq_some_iff.mp g
  cases g3
  exact ⟨x, env, Hs, o, e1, I, g1, fun v H1 Hs1 I1 s1 o1 => ⟨x, e1, Hs1, os', _, I1, g2, fun vs H2 Hs2 I2 s2 o2 => k (v :: vs) H2 Hs2 I2 (s1.trans s2) ⟨o1.mono s2, o2⟩⟩⟩)⟩
def eA (g : List D → Option D) (fa : FA) : FE := fun env => (fa env).bind fun p => (fetchs p.2 p.1).bind fun ds => (g ds).map fun z => (z, p.2)
def CV (K : PySem.W.Frag) (r : List V → Hp → VK → Prop) (g : List D → Option D) : Prop := ∀ (Hs H : Hp) (ds : List D) (z : D) (vs : List V), Same Hs H → Pks K Hs H ds vs → g ds = some z → ∃ u, Rp K Hs z u ∧ ∀ Q : VK, Q u H → r vs H Q
def CFr (K : PySem.W.Frag) (r : List V → Hp → VK → Prop) (g : List D → Option D) : Prop := ∀ (Hs H : Hp) (ds : List D) (z : D) (vs : List V), Same Hs H → Pks K Hs H ds vs → g ds = some z → ∃ o, (∀ p, Own K Hs (upd H p o) p z) ∧ ∀ Q : VK, (∀ p, H p = none → Q (.ref p) (upd H p o)) → r vs H Q
theorem aV {r : List V → Hp → VK → Prop} {g : List D → Option D} {fa : FA} (hs : CV K r g) {Q : VK} (h : rd K (eA g fa) σ H Q) : tCB r (rdA K fa) σ H Q := by
  obtain ⟨x, env, Hs, d, env', I, hf, k⟩ := h
  obtain ⟨⟨os, e2⟩, h1, h2⟩ := Option.bind_eq_some_iff.mp hf
  obtain ⟨ds, h3, h4⟩ := Option.bind_eq_some_iff.mp h2
  obtain ⟨z, h5, h6⟩ := Option.map_eq_some_iff.mp h4
  cases h6
  refine ⟨x, env, Hs, os, _, I, h1, fun vs H' Hs' I' s o => ?_⟩
  obtain ⟨u, hu, hr⟩ := hs Hs' H' ds _ vs I'.ex (I'.pks o h3) h5
  exact hr Q (k u H' Hs' I' s hu)
theorem aF {r : List V → Hp → VK → Prop} {g : List D → Option D} {fa : FA} (hs : CFr K r g) {Q : VK} (h : rdF K (eA g fa) σ H Q) : tCB r (rdA K fa) σ H Q := by
  obtain ⟨x, env, Hs, d, env', I, hf, k⟩ := h
  obtain ⟨⟨os, e2⟩, h1, h2⟩ := Option.bind_eq_some_iff.mp hf
  obtain ⟨ds, h3, h4⟩ := Option.bind_eq_some_iff.mp h2
  obtain ⟨z, h5, h6⟩ := Option.map_eq_some_iff.mp h4
  cases h6
  refine ⟨x, env, Hs, os, _, I, h1, fun vs H' Hs' I' s o => ?_⟩
  obtain ⟨ob, hu, hr⟩ := hs Hs' H' ds _ vs I'.ex (I'.pks o h3) h5
  exact hr Q fun p hp => k p _ Hs' (I'.new hp) s (hu p) (I'.hs_none hp) (I'.fm_none hp) (I'.apart hp)
theorem de_callB {id : String} {n : Str} {r : List V → Hp → VK → Prop} {g : List D → Option D} {e : Expr} {es : List Expr} {fa : FA} {p pos : Pos} (hc : CallR X (.builtin id) r) (hs : CV X.K r g) (hm : X.mg n = none) (hv : bootBuiltins n = some (.builtin id)) (ha : DA X (e :: es) fa)
    (hg : Gl X n := by rfl) (hn : n ≠ "__name__" := by decide) (hdb : (n == ("__debug__" : Str)) = false := by decide)
    (he : starEach (e :: es) X.env = (false, eval e X.env) :: starEach es X.env := by rfl) (hpl : (backTo pos (starEach es X.env)).any (·.1) = false := by rfl) : DE X (.Call (.Name n p) (e :: es) [] pos) (eA g fa) :=
  imp (pe_callB hc hg hm hv ha hn hdb he hpl) fun _ _ _ h => aV hs h
theorem df_callB {id : String} {n : Str} {r : List V → Hp → VK → Prop} {g : List D → Option D} {e : Expr} {es : List Expr} {fa : FA} {p pos : Pos} (hc : CallR X (.builtin id) r) (hs : CFr X.K r g) (hm : X.mg n = none) (hv : bootBuiltins n = some (.builtin id)) (ha : DA X (e :: es) fa)
    (hg : Gl X n := by rfl) (hn : n ≠ "__name__" := by decide) (hdb : (n == ("__debug__" : Str)) = false := by decide)
    (he : starEach (e :: es) X.env = (false, eval e X.env) :: starEach es X.env := by rfl) (hpl : (backTo pos (starEach es X.env)).any (·.1) = false := by rfl) : DF X (.Call (.Name n p) (e :: es) [] pos) (eA g fa) :=
  imp (pe_callB hc hg hm hv ha hn hdb he hpl) fun _ _ _ h => aF hs h
theorem de_callTy {T : String} {n : Str} {r : List V → Hp → VK → Prop} {g : List D → Option D} {e : Expr} {es : List Expr} {fa : FA} {p pos : Pos} (hc : CallR X (.type T) r) (hs : CV X.K r g) (hm : X.mg n = none) (hv : bootBuiltins n = some (.type T)) (ha : DA X (e :: es) fa)
    (hg : Gl X n := by rfl) (hn : n ≠ "__name__" := by decide) (hdb : (n == ("__debug__" : Str)) = false := by decide)
    (he : starEach (e :: es) X.env = (false, eval e X.env) :: starEach es X.env := by rfl) (hpl : (backTo pos (starEach es X.env)).any (·.1) = false := by rfl) : DE X (.Call (.Name n p) (e :: es) [] pos) (eA g fa) :=
  imp (pe_callTy hc hg hm hv ha hn hdb he hpl) fun _ _ _ h => aV hs h
theorem df_callTy {T : String} {n : Str} {r : List V → Hp → VK → Prop} {g : List D → Option D} {e : Expr} {es : List Expr} {fa : FA} {p pos : Pos} (hc : CallR X (.type T) r) (hs : CFr X.K r g) (hm : X.mg n = none) (hv : bootBuiltins n = some (.type T)) (ha : DA X (e :: es) fa)
    (hg : Gl X n := by rfl) (hn : n ≠ "__name__" := by decide) (hdb : (n == ("__debug__" : Str)) = false := by decide)
    (he : starEach (e :: es) X.env = (false, eval e X.env) :: starEach es X.env := by rfl) (hpl : (backTo pos (starEach es X.env)).any (·.1) = false := by rfl) : DF X (.Call (.Name n p) (e :: es) [] pos) (eA g fa) :=
  imp (pe_callTy hc hg hm hv ha hn hdb he hpl) fun _ _ _ h => aF hs h
theorem OvRs.rps {K : PySem.W.Frag} {σ : L2.St} {Hs : Hp} : ∀ {vs : List V} {ds : List D}, OvRs K σ Hs vs (ds.map Ov.d) → Rps K Hs ds vs
  | [], [], _ => by simp only [Rps]
  | v :: vs, d :: ds, h => by
    obtain ⟨a, b⟩ := h
    simp only [Rps]
    exact ⟨v, vs, rfl, a, OvRs.rps b⟩
  | [], d :: ds, h => h.elim
  | v :: vs, [], h => h.elim
def allD : List Ov → Option (List D)
  | [] => some []
  | .d d :: os => (allD os).map fun ds => d :: ds
  | .s _ :: _ => none
theorem allD_eq : ∀ {os : List Ov} {ds : List D}, allD os = some ds → os = ds.map Ov.d
  | [], _, h => by
    cases h
    rfl
  | .d d :: os, _, h => by
    obtain ⟨ds, h1, h2⟩ := Option.map_eq_some_iff.mp (show (allD os).map (fun ds => d :: ds) = some _ from h)
    cases h2
    rw [allD_eq h1]
    rfl
  | .s _ :: _, _, h => nomatch h
theorem Rps.length {K : PySem.W.Frag} {H : Hp} : ∀ {ds : List D} {vs : List V}, Rps K H ds vs → vs.length = ds.length
  | [], _, h => by
    simp only [Rps] at h
    rw [h]
    rfl
  | d :: ds, _, h => by
    simp only [Rps] at h
    obtain ⟨v, r, rfl, _, h⟩ := h
    rw [List.length_cons, List.length_cons, Rps.length h]
def eDisp (c : List D → D) (fa : FA) : FE := fun env => (fa env).bind fun p => (allD p.1).bind fun ds => if ds.length ≤ sizeLine then some (c ds, p.2) else none
theorem df_tup {es : List Expr} {fa : FA} {x1} {pos : Pos} (h : DA X es fa) : DF X (.Tuple es x1 pos) (eDisp .tup fa) := by
  refine imp (pe_tup h) fun σ H Q h => ?_
  obtain ⟨x, env, Hs, d, env', I, hf, k⟩ := h
  obtain ⟨⟨os, e2⟩, h1, h2⟩ := Option.bind_eq_some_iff.mp hf
  obtain ⟨ds, h3, h4⟩ := Option.bind_eq_some_iff.mp h2
  split at h4
  · rename_i hz
    cases h4
    have e : os = ds.map Ov.d := allD_eq h3
    refine ⟨x, env, Hs, os, _, I, h1, fun vs H' Hs' I' s o => ?_⟩
    have o : OvRs X.K σ Hs' vs os := o
    rw [e] at o
    have r := o.rps
    exact ⟨by rw [r.length]; exact hz, fun p hp => k p _ Hs' (I'.new hp) s ⟨vs, upd_same, r⟩ (I'.hs_none hp) (I'.fm_none hp) (I'.apart hp)⟩
  · cases h4
theorem df_lst {es : List Expr} {fa : FA} {pos : Pos} (h : DA X es fa) : DF X (.List es pos) (eDisp .lst fa) := by
  refine imp (pe_lst h) fun σ H Q h => ?_
  obtain ⟨x, env, Hs, d, env', I, hf, k⟩ := h
  obtain ⟨⟨os, e2⟩, h1, h2⟩ := Option.bind_eq_some_iff.mp hf
  obtain ⟨ds, h3, h4⟩ := Option.bind_eq_some_iff.mp h2
  split at h4
  · rename_i hz
    cases h4
    have e : os = ds.map Ov.d := allD_eq h3
    refine ⟨x, env, Hs, os, _, I, h1, fun vs H' Hs' I' s o => ?_⟩
    have o : OvRs X.K σ Hs' vs os := o
    rw [e] at o
    have r := o.rps
    exact ⟨by rw [r.length]; exact hz, fun p hp => k p _ Hs' (I'.new hp) s ⟨vs, upd_same, r⟩ (I'.hs_none hp) (I'.fm_none hp) (I'.apart hp)⟩
  · cases h4
end
end Qd
namespace Qd
open PySem PySem.Spec L2
abbrev S (x : List Nat) : Str := ⟨x.toArray⟩
theorem S_len (x : List Nat) : (S x).length = x.length := by
  show x.toArray.size = x.length
  simp
theorem S_app (x y : List Nat) : S x ++ S y = S (x ++ y) := by
  show (⟨x.toArray ++ y.toArray⟩ : Str) = ⟨(x ++ y).toArray⟩
  simp
theorem S_inj {x y : List Nat} (h : S x = S y) : x = y := by
  have e2 : x.toArray = y.toArray := congrArg Str.cps h
  simpa using congrArg Array.toList e2
theorem S_list (x : List Nat) : (S x).cps.toList = x := by simp [S]
def addD : D → D → Option D
  | .int i, .int j => some (.int (i + j))
  | .str a, .str b => if a.length + b.length ≤ sizeLine then some (.str (a ++ b)) else none
  | _, _ => none
def subD : D → D → Option D
  | .int i, .int j => some (.int (i - j))
  | _, _ => none
def mulD : D → D → Option D
  | .int i, .int j => if (-(2 ^ 64) < i ∧ i < 2 ^ 64) ∨ (-(2 ^ 64) < j ∧ j < 2 ^ 64) then some (.int (i * j)) else none
  | .str a, .int j => if 0 ≤ j ∧ j < 1000000 ∧ a.length * j.toNat ≤ sizeLine then some (.str (List.replicate j.toNat a).flatten) else none
  | _, _ => none
def modD : D → D → Option D
  | .int i, .int j => if 0 < j then some (.int (i % j)) else none
  | _, _ => none
def fdivD : D → D → Option D
  | .int i, .int j => if 0 < j ∧ j < 1073741824 then some (.int (i / j)) else none
  | _, _ => none
def powD : D → D → Option D
  | .int i, .int j => if 0 ≤ j ∧ j ≤ 1000000 ∧ i.natAbs < 2 ^ 64 then some (.int (i ^ j.toNat)) else none
  | _, _ => none
section
variable {X : Cx} {K : PySem.W.Frag}
def rAdd : R2 := fun x y H Q => rI0 (fun i j => .int (i + j)) x y H Q ∨ ∃ i j, x = .str i ∧ y = .str j ∧ i.length + j.length ≤ sizeLine ∧ Q (.str (i ++ j)) H
theorem op_addD : OpR X (binaryOp .Add) rAdd := OpR.or op_add op_add_str
theorem ov_add : OV2 K rAdd addD := by
  intro Hs H d e z v w ex p1 p2 h
  cases d <;> cases e <;> try (cases h; done)
  · rename_i i j
    cases h
    have p1 : v = .int i := p1
    have p2 : w = .int j := p2
    subst p1 p2
    exact ⟨.int (i + j), by simp only [Rp], fun Q q => .inl ⟨i, j, rfl, rfl, q⟩⟩
  · rename_i a b
    have p1 : v = .str (S a) := p1
    have p2 : w = .str (S b) := p2
    subst p1 p2
    have h : (if a.length + b.length ≤ sizeLine then some (D.str (a ++ b)) else none) = some z := h
    split at h
    · rename_i hz
      cases h
      refine ⟨.str (S (a ++ b)), by simp only [Rp], fun Q q => .inr ⟨S a, S b, rfl, rfl, by rw [S_len, S_len]; exact hz, by rw [S_app]; exact q⟩⟩
    · cases h
theorem ov_sub : OV2 K (rI0 fun i j => .int (i - j)) subD := by
  intro Hs H d e z v w ex p1 p2 h
  cases d <;> cases e <;> try (cases h; done)
  rename_i i j
  cases h
  have p1 : v = .int i := p1
  have p2 : w = .int j := p2
  subst p1 p2
  exact ⟨.int (i - j), by simp only [Rp], fun Q q => ⟨i, j, rfl, rfl, q⟩⟩
def rMulS : R2 := fun x y H Q => ∃ (a : Str) (j : Int), x = .str a ∧ y = .int j ∧ 0 ≤ j ∧ j < 1000000 ∧ a.length * j.toNat ≤ sizeLine ∧ Q (.str (S (List.replicate j.toNat a.cps.toList).flatten)) H
def rMul : R2 := fun x y H Q => rI CMul (fun i j => .int (i * j)) x y H Q ∨ rMulS x y H Q
theorem ov_mul : OV2 K rMul mulD := by
  intro Hs H d e z v w ex p1 p2 h
  cases d <;> cases e <;> try (cases h; done)
  · rename_i i j
    have p1 : v = .int i := p1
    have p2 : w = .int j := p2
    subst p1 p2
    have h : (if (-(2 ^ 64) < i ∧ i < 2 ^ 64) ∨ (-(2 ^ 64) < j ∧ j < 2 ^ 64) then some (D.int (i * j)) else none) = some z := h
    split at h
    · rename_i hz
      cases h
      exact ⟨.int (i * j), by simp only [Rp], fun Q q => .inl ⟨i, j, rfl, rfl, hz, q⟩⟩
    · cases h
  · rename_i a j
    have p1 : v = .str (S a) := p1
    have p2 : w = .int j := p2
    subst p1 p2
    have h : (if 0 ≤ j ∧ j < 1000000 ∧ a.length * j.toNat ≤ sizeLine then some (D.str (List.replicate j.toNat a).flatten) else none) = some z := h
    split at h
    · rename_i hz
      cases h
      exact ⟨.str (S (List.replicate j.toNat a).flatten), by simp only [Rp], fun Q q => .inr ⟨S a, j, rfl, rfl, hz.1, hz.2.1, by rw [S_len]; exact hz.2.2, q⟩⟩
    · cases h
theorem ov_mod : OV2 K (rI (fun _ j => 0 < j) fun i j => .int (i % j)) modD := by
  intro Hs H d e z v w ex p1 p2 h
  cases d <;> cases e <;> try (cases h; done)
  rename_i i j
  have p1 : v = .int i := p1
  have p2 : w = .int j := p2
  subst p1 p2
  have h : (if 0 < j then some (D.int (i % j)) else none) = some z := h
  split at h
  · rename_i hz
    cases h
    exact ⟨.int (i % j), by simp only [Rp], fun Q q => ⟨i, j, rfl, rfl, hz, q⟩⟩
  · cases h
theorem ov_fdiv : OV2 K (rI CDivN fun i j => .int (i.fdiv j)) fdivD := by
  intro Hs H d e z v w ex p1 p2 h
  cases d <;> cases e <;> try (cases h; done)
  rename_i i j
  have p1 : v = .int i := p1
  have p2 : w = .int j := p2
  subst p1 p2
  have h : (if 0 < j ∧ j < 1073741824 then some (D.int (i / j)) else none) = some z := h
  split at h
  · rename_i hz
    cases h
    refine ⟨.int (i / j), by simp only [Rp], fun Q q => ⟨i, j, rfl, rfl, ⟨by omega, by omega⟩, ?_⟩⟩
    show Q (.int (i.fdiv j)) H
    rw [Int.fdiv_eq_ediv_of_nonneg i (by omega)]
    exact q
  · cases h
theorem ov_pow : OV2 K (rI CPow fun i j => .int (i ^ j.toNat)) powD := by
  intro Hs H d e z v w ex p1 p2 h
  cases d <;> cases e <;> try (cases h; done)
  rename_i i j
  have p1 : v = .int i := p1
  have p2 : w = .int j := p2
  subst p1 p2
  have h : (if 0 ≤ j ∧ j ≤ 1000000 ∧ i.natAbs < 2 ^ 64 then some (D.int (i ^ j.toNat)) else none) = some z := h
  split at h
  · rename_i hz
    cases h
    exact ⟨.int (i ^ j.toNat), by simp only [Rp], fun Q q => ⟨i, j, rfl, rfl, hz, q⟩⟩
  · cases h
theorem foldl_rep (c : Array Nat) : ∀ (n : Nat) (acc : Array Nat), (List.replicate n c).foldl (· ++ ·) acc = acc ++ (List.replicate n c.toList).flatten.toArray
  | 0, acc => by simp
  | n + 1, acc => by
    rw [List.replicate_succ, List.foldl_cons, foldl_rep c n, List.replicate_succ, List.flatten_cons]
    apply Array.ext'
    simp
theorem op_mulS : OpR X (binaryOp .Mult) rMulS := by
  intro pins s σ H x y v u Q I rx ry h
  obtain ⟨a, j, rfl, rfl, h0, h1, hz, q⟩ := h
  obtain ⟨t, rfl⟩ := rx
  obtain ⟨t', rfl⟩ := ry
  have hlen : a.length = a.cps.toList.length := by
    show a.cps.size = _
    simp
  by_cases hj : j < 1
  · have e : j = 0 := by omega
    subst e
    refine PySem.P.mul_str_none hj (by omega) ?_
    exact ⟨.str Str.empty, H, I.tok _, ⟨_, rfl⟩, q⟩
  · have hjn : 1 ≤ j.toNat := by omega
    refine PySem.P.mul_str ?_ (fun _ _ => ?_) (fun _ _ => ?_) ?_
    · rw [decide_eq_false (show ¬ j < -(2 ^ 63 : Int) by omega), decide_eq_false (show ¬ j ≥ 2 ^ 63 by omega)]
      rfl
    · have hs : (sizeLine : Int) = 16777216 := by decide
      have h2 : a.length ≤ a.length * j.toNat := Nat.le_mul_of_pos_right _ hjn
      have h3 : (a.length : Int) ≤ 16777216 := by omega
      have h4 : (9223372036854 : Int) ≤ (2 ^ 63 - 1) / j := by
        apply Int.le_ediv_of_mul_le (by omega)
        omega
      omega
    · exact decide_eq_false (show ¬ a.length * j.toNat > sizeLine by omega)
    · rw [if_neg hj]
      by_cases h1 : (j == 1 || a.length == 0) = true
      · rw [if_pos h1]
        refine ⟨.str a, H, I, ⟨_, rfl⟩, ?_⟩
        have e : S (List.replicate j.toNat a.cps.toList).flatten = a := by
          rcases Bool.or_eq_true_iff.mp h1 with h2 | h2
          · have e1 : j = 1 := by simpa using h2
            subst e1
            show (⟨_⟩ : Str) = a
            simp
          · have e0 : a.cps.toList = [] := by
              apply List.eq_nil_of_length_eq_zero
              rw [← hlen]
              simpa using h2
            rw [e0]
            have : a = S [] := by
              cases a with | mk c =>
              show (⟨c⟩ : Str) = ⟨_⟩
              congr 1
              simpa using e0
            rw [this]
            simp
        rw [e] at q
        exact q
      · rw [if_neg h1]
        have e : (⟨(List.replicate j.toNat a.cps).foldl (· ++ ·) #[]⟩ : Str) = S (List.replicate j.toNat a.cps.toList).flatten := by
          rw [foldl_rep]
          simp
        rw [e]
        refine ⟨?_, ⟨.str (S (List.replicate j.toNat a.cps.toList).flatten), H, I.tok _, ⟨_, rfl⟩, q⟩⟩
        rw [S_len, List.length_flatten]
        simp only [List.map_replicate, List.sum_replicate_nat]
        rw [← hlen, Nat.mul_comm]
        exact hz
theorem op_mulD : OpR X (binaryOp .Mult) rMul := OpR.or op_mul op_mulS
def ltD : D → D → Option D
  | .int i, .int j => some (.bl (decide (i < j)))
  | .str a, .str b => some (.bl (decide (a < b)))
  | _, _ => none
def leD : D → D → Option D
  | .int i, .int j => some (.bl (decide (i ≤ j)))
  | .str a, .str b => some (.bl (!decide (b < a)))
  | _, _ => none
def gtD : D → D → Option D := fun a b => ltD b a
def geD : D → D → Option D := fun a b => leD b a
def rLtD : R2 := fun x y H Q => rI0 (fun i j => .bl (decide (i < j))) x y H Q ∨ ∃ i j, x = .str i ∧ y = .str j ∧ Q (.bl (decide (i.cps.toList < j.cps.toList))) H
def rLeD : R2 := fun x y H Q => rI0 (fun i j => .bl (decide (i ≤ j))) x y H Q ∨ ∃ i j, x = .str i ∧ y = .str j ∧ Q (.bl (!decide (j.cps.toList < i.cps.toList))) H
def rGtD : R2 := fun x y H Q => rI0 (fun i j => .bl (decide (j < i))) x y H Q ∨ ∃ i j, x = .str i ∧ y = .str j ∧ Q (.bl (decide (j.cps.toList < i.cps.toList))) H
def rGeD : R2 := fun x y H Q => rI0 (fun i j => .bl (decide (j ≤ i))) x y H Q ∨ ∃ i j, x = .str i ∧ y = .str j ∧ Q (.bl (!decide (i.cps.toList < j.cps.toList))) H
theorem op_ltD : OpR X (compareOp .Lt) rLtD := OpR.or op_lt op_lt_str
theorem op_leD : OpR X (compareOp .LtE) rLeD := OpR.or op_le op_le_str
theorem op_gtD : OpR X (compareOp .Gt) rGtD := OpR.or op_gt op_gt_str
theorem op_geD : OpR X (compareOp .GtE) rGeD := OpR.or op_ge op_ge_str
theorem ov_lt : OV2 K rLtD ltD := by
  intro Hs H d e z v w ex p1 p2 h
  cases d <;> cases e <;> try (cases h; done)
  · rename_i i j
    cases h
    have p1 : v = .int i := p1
    have p2 : w = .int j := p2
    subst p1 p2
    exact ⟨.bl (decide (i < j)), by simp only [Rp], fun Q q => .inl ⟨i, j, rfl, rfl, q⟩⟩
  · rename_i a b
    cases h
    have p1 : v = .str (S a) := p1
    have p2 : w = .str (S b) := p2
    subst p1 p2
    exact ⟨.bl (decide (a < b)), by simp only [Rp], fun Q q => .inr ⟨S a, S b, rfl, rfl, by rw [S_list, S_list]; exact q⟩⟩
theorem ov_le : OV2 K rLeD leD := by
  intro Hs H d e z v w ex p1 p2 h
  cases d <;> cases e <;> try (cases h; done)
  · rename_i i j
    cases h
    have p1 : v = .int i := p1
    have p2 : w = .int j := p2
    subst p1 p2
    exact ⟨.bl (decide (i ≤ j)), by simp only [Rp], fun Q q => .inl ⟨i, j, rfl, rfl, q⟩⟩
  · rename_i a b
    cases h
    have p1 : v = .str (S a) := p1
    have p2 : w = .str (S b) := p2
    subst p1 p2
    exact ⟨.bl (!decide (b < a)), by simp only [Rp], fun Q q => .inr ⟨S a, S b, rfl, rfl, by rw [S_list, S_list]; exact q⟩⟩
theorem ov_gt : OV2 K rGtD gtD := by
  intro Hs H d e z v w ex p1 p2 h
  cases d <;> cases e <;> try (cases h; done)
  · rename_i i j
    cases h
    have p1 : v = .int i := p1
    have p2 : w = .int j := p2
    subst p1 p2
    exact ⟨.bl (decide (j < i)), by simp only [Rp], fun Q q => .inl ⟨i, j, rfl, rfl, q⟩⟩
  · rename_i a b
    cases h
    have p1 : v = .str (S a) := p1
    have p2 : w = .str (S b) := p2
    subst p1 p2
    exact ⟨.bl (decide (b < a)), by simp only [Rp], fun Q q => .inr ⟨S a, S b, rfl, rfl, by rw [S_list, S_list]; exact q⟩⟩
theorem ov_ge : OV2 K rGeD geD := by
  intro Hs H d e z v w ex p1 p2 h
  cases d <;> cases e <;> try (cases h; done)
  · rename_i i j
    cases h
    have p1 : v = .int i := p1
    have p2 : w = .int j := p2
    subst p1 p2
    exact ⟨.bl (decide (j ≤ i)), by simp only [Rp], fun Q q => .inl ⟨i, j, rfl, rfl, q⟩⟩
  · rename_i a b
    cases h
    have p1 : v = .str (S a) := p1
    have p2 : w = .str (S b) := p2
    subst p1 p2
    exact ⟨.bl (!decide (a < b)), by simp only [Rp], fun Q q => .inr ⟨S a, S b, rfl, rfl, by rw [S_list, S_list]; exact q⟩⟩
mutual
def toPy : D → PyData
  | .non => .none
  | .bl b => .bool b
  | .int i => .int i
  | .str x => .str (S x)
  | .tup ds => .tuple (toPys ds)
  | .lst ds => .list (toPys ds)
  | _ => .dict []
def toPys : List D → List PyData
  | [] => []
  | d :: ds => toPy d :: toPys ds
end
section
variable {H : Hp}
mutual
theorem Rp.dp : ∀ (d : D) {v : V}, Rp K H d v → PyData.canLay0 (toPy d) = true → Dp K H v (toPy d)
  | .non, _, h, _ => by simp only [Rp] at h; subst h; simp only [toPy]; exact .non
  | .bl _, _, h, _ => by simp only [Rp] at h; subst h; simp only [toPy]; exact .bl _
  | .int _, _, h, _ => by simp only [Rp] at h; subst h; simp only [toPy]; exact .int _
  | .str _, _, h, _ => by simp only [Rp] at h; subst h; simp only [toPy]; exact .str _
  | .tup ds, _, h, c => by
    simp only [Rp] at h
    obtain ⟨a, vs, rfl, h2, h3⟩ := h
    simp only [toPy]
    refine .tup h2 (Rps.dp ds h3 ?_)
    simpa only [toPy, PyData.canLay0] using c
  | .lst ds, _, h, c => by
    simp only [Rp] at h
    obtain ⟨a, vs, rfl, h2, h3⟩ := h
    simp only [toPy]
    refine .lst (SqL.of h2) (Rps.dp ds h3 ?_)
    simpa only [toPy, PyData.canLay0] using c
  | .dic _, _, _, c => by simp only [toPy, PyData.canLay0] at c; cases c
  | .fdic _, _, _, c => by simp only [toPy, PyData.canLay0] at c; cases c
  | .obj _ _, _, _, c => by simp only [toPy, PyData.canLay0] at c; cases c
  | .scr _, _, _, c => by simp only [toPy, PyData.canLay0] at c; cases c
  | .cls _, _, _, c => by simp only [toPy, PyData.canLay0] at c; cases c
  | .ty _, _, _, c => by simp only [toPy, PyData.canLay0] at c; cases c
theorem Rps.dp : ∀ (ds : List D) {vs : List V}, Rps K H ds vs → PyData.canLayAll0 (toPys ds) = true → DpAll K H vs (toPys ds)
  | [], _, h, _ => by simp only [Rps] at h; subst h; simp only [toPys]; exact .nil
  | d :: ds, _, h, c => by
    simp only [Rps] at h
    obtain ⟨v, r, rfl, h2, h3⟩ := h
    simp only [toPys, PyData.canLayAll0, Bool.and_eq_true] at c
    simp only [toPys]
    exact .cons (Rp.dp d h2 c.1) (Rps.dp ds h3 c.2)
end
end
def shp (d : D) : Bool := SeqAt.shaped (toPy d)
def flat : D → Bool
  | .non => true
  | .bl _ => true
  | .int _ => true
  | .str _ => true
  | _ => false
/-- flat data are compared whatever they are -/
def eqB (d e : D) : Bool := PyData.eqv (toPy d) (toPy e)
def eqD : D → D → Option D
  | .str a, .str b => some (.bl (decide (a = b)))
  | d, e => if shp d && shp e then some (.bl (eqB d e)) else none
def neD : D → D → Option D := fun d e => (eqD d e).bind fun
  | .bl b => some (.bl (!b))
  | _ => none
def rEqX (K : PySem.W.Frag) : R2 := fun x y H Q => rEq x y H Q ∨ rEqD K x y H Q
def rNeX (K : PySem.W.Frag) : R2 := fun x y H Q => rNe x y H Q ∨ rNeD K x y H Q
theorem op_eqX (hu : X.A.units + 64 < cLine) : OpR X (compareOp .Eq) (rEqX X.K) := OpR.or op_eq (op_eqD hu)
theorem op_neX (hu : X.A.units + 64 < cLine) : OpR X (compareOp .NotEq) (rNeX X.K) := OpR.or op_ne (op_neD hu)
theorem eqD_cases {d e z : D} (h : eqD d e = some z) : (∃ a b, d = .str a ∧ e = .str b ∧ z = .bl (decide (a = b))) ∨ (shp d = true ∧ shp e = true ∧ z = .bl (eqB d e)) := by
  unfold eqD at h
  split at h
  · cases h
    exact .inl ⟨_, _, rfl, rfl, rfl⟩
  · split at h
    · rename_i hs
      cases h
      simp only [Bool.and_eq_true] at hs
      exact .inr ⟨hs.1, hs.2, rfl⟩
    · cases h
theorem ov_eq : OV2 K (rEqX K) eqD := by
  intro Hs H d e z v w ex p1 p2 h
  rcases eqD_cases h with ⟨a, b, rfl, rfl, rfl⟩ | ⟨h1, h2, rfl⟩
  · have p1 : v = .str (S a) := p1
    have p2 : w = .str (S b) := p2
    subst p1 p2
    refine ⟨.bl (decide (a = b)), by simp only [Rp], fun Q q => .inl ⟨rfl, ?_⟩⟩
    have e : decide (V.str (S a) = V.str (S b)) = decide (a = b) := by
      by_cases hab : a = b
      · subst hab
        simp
      · rw [decide_eq_false hab, decide_eq_false fun z => hab (S_inj (V.str.inj z))]
    rw [e]
    exact q
  · refine ⟨.bl (eqB d e), by simp only [Rp], fun Q q => .inr ⟨toPy d, toPy e, Rp.dp d (p1.rp ex) (SeqAt.canLay_of_shaped h1), Rp.dp e (p2.rp ex) (SeqAt.canLay_of_shaped h2), h1, h2, q⟩⟩
theorem ov_ne : OV2 K (rNeX K) neD := by
  intro Hs H d e z v w ex p1 p2 h
  obtain ⟨z1, hz1, h⟩ := Option.bind_eq_some_iff.mp h
  rcases eqD_cases hz1 with ⟨a, b, rfl, rfl, rfl⟩ | ⟨h1, h2, rfl⟩
  · cases h
    have p1 : v = .str (S a) := p1
    have p2 : w = .str (S b) := p2
    subst p1 p2
    refine ⟨.bl (!decide (a = b)), by simp only [Rp], fun Q q => .inl ⟨rfl, ?_⟩⟩
    have e : decide (V.str (S a) = V.str (S b)) = decide (a = b) := by
      by_cases hab : a = b
      · subst hab
        simp
      · rw [decide_eq_false hab, decide_eq_false fun z => hab (S_inj (V.str.inj z))]
    rw [e]
    exact q
  · cases h
    refine ⟨.bl (!eqB d e), by simp only [Rp], fun Q q => .inr ⟨toPy d, toPy e, Rp.dp d (p1.rp ex) (SeqAt.canLay_of_shaped h1), Rp.dp e (p2.rp ex) (SeqAt.canLay_of_shaped h2), h1, h2, q⟩⟩
def isNon : D → Bool
  | .non => true
  | _ => false
def isN : D → D → Option D
  | d, .non => some (.bl (isNon d))
  | _, _ => none
def notN : D → D → Option D
  | d, .non => some (.bl (!isNon d))
  | _, _ => none
theorem pk_non {Hs H : Hp} {d : D} {v : V} (p : Pk K Hs H d v) : decide (v = .non) = isNon d := by
  cases d with
  | non =>
    have p : v = .non := p
    subst p
    rfl
  | bl b =>
    have p : v = .bl b := p
    subst p
    rfl
  | int b =>
    have p : v = .int b := p
    subst p
    rfl
  | str b =>
    have p : v = .str (S b) := p
    subst p
    rfl
  | cls b =>
    have p : v = .ref (He.ga K b) := p
    subst p
    rfl
  | ty b =>
    have p : v = .ty b := p
    subst p
    rfl
  | tup ds => obtain ⟨a, vs, rfl, _⟩ := p; rfl
  | lst ds => obtain ⟨a, vs, rfl, _⟩ := p; rfl
  | dic ds => obtain ⟨a, vs, rfl, _⟩ := p; rfl
  | fdic ds => obtain ⟨a, o, vs, rfl, _⟩ := p; rfl
  | obj c ds => obtain ⟨a, dx, vs, rfl, _⟩ := p; rfl
  | scr ns => obtain ⟨a, rfl, _⟩ := p; rfl
theorem ov_isN : OV2 K (fun x y H Q => y = .non ∧ Q (.bl (decide (x = .non))) H) isN := by
  intro Hs H d e z v w ex p1 p2 h
  cases e <;> try (cases h; done)
  have h : some (D.bl (isNon d)) = some z := h
  cases h
  have p2 : w = .non := p2
  exact ⟨.bl (isNon d), by simp only [Rp], fun Q q => ⟨p2, by rw [pk_non p1]; exact q⟩⟩
theorem ov_notN : OV2 K (fun x y H Q => y = .non ∧ Q (.bl (!decide (x = .non))) H) notN := by
  intro Hs H d e z v w ex p1 p2 h
  cases e <;> try (cases h; done)
  have h : some (D.bl (!isNon d)) = some z := h
  cases h
  have p2 : w = .non := p2
  exact ⟨.bl (!isNon d), by simp only [Rp], fun Q q => ⟨p2, by rw [pk_non p1]; exact q⟩⟩
end
end Qd
namespace Qd
open PySem PySem.Spec L2
section
variable {X : Cx} {K : PySem.W.Frag}
theorem Rps.get {H : Hp} : ∀ {ds : List D} {vs : List V} {i : Nat} {d : D}, Rps K H ds vs → ds[i]? = some d → ∃ v, vs[i]? = some v ∧ Rp K H d v
  | [], _, _, _, _, h => by simp at h
  | e :: ds, _, 0, d, r, h => by
    simp only [Rps] at r
    obtain ⟨v, r', rfl, h1, h2⟩ := r
    have e0 : e = d := by simpa using h
    subst e0
    exact ⟨v, rfl, h1⟩
  | e :: ds, _, i + 1, d, r, h => by
    simp only [Rps] at r
    obtain ⟨v, r', rfl, h1, h2⟩ := r
    obtain ⟨w, a, b⟩ := Rps.get (i := i) (d := d) h2 (by simpa using h)
    exact ⟨w, by simpa using a, b⟩
theorem Rps.append {H : Hp} : ∀ {ds es : List D} {vs ws : List V}, Rps K H ds vs → Rps K H es ws → Rps K H (ds ++ es) (vs ++ ws)
  | [], _, _, _, r, s => by
    simp only [Rps] at r
    subst r
    exact s
  | d :: ds, _, _, _, r, s => by
    simp only [Rps] at r
    obtain ⟨v, r', rfl, h1, h2⟩ := r
    simp only [List.cons_append, Rps]
    exact ⟨v, _, rfl, h1, Rps.append h2 s⟩
theorem Rps.take {H : Hp} : ∀ {ds : List D} {vs : List V} (n : Nat), Rps K H ds vs → Rps K H (ds.take n) (vs.take n)
  | _, _, 0, _ => by simp only [List.take_zero, Rps]
  | [], _, n + 1, r => by
    simp only [Rps] at r
    subst r
    simp only [List.take_nil, Rps]
  | d :: ds, _, n + 1, r => by
    simp only [Rps] at r
    obtain ⟨v, r', rfl, h1, h2⟩ := r
    simp only [List.take_succ_cons, Rps]
    exact ⟨v, _, rfl, h1, Rps.take n h2⟩
theorem Rps.drop {H : Hp} : ∀ {ds : List D} {vs : List V} (n : Nat), Rps K H ds vs → Rps K H (ds.drop n) (vs.drop n)
  | _, _, 0, r => r
  | [], _, n + 1, r => by
    simp only [Rps] at r
    subst r
    simp only [List.drop_nil, Rps]
  | d :: ds, _, n + 1, r => by
    simp only [Rps] at r
    obtain ⟨v, r', rfl, h1, h2⟩ := r
    exact Rps.drop n h2
theorem Rps.set {H : Hp} : ∀ {ds : List D} {vs : List V} (n : Nat) {d : D} {v : V}, Rps K H ds vs → Rp K H d v → Rps K H (ds.set n d) (vs.set n v)
  | [], _, _, _, _, r, _ => by
    simp only [Rps] at r
    subst r
    simp only [List.set_nil, Rps]
  | e :: ds, _, 0, d, v, r, h => by
    simp only [Rps] at r
    obtain ⟨w, r', rfl, h1, h2⟩ := r
    simp only [List.set_cons_zero, Rps]
    exact ⟨v, _, rfl, h, h2⟩
  | e :: ds, _, n + 1, d, v, r, h => by
    simp only [Rps] at r
    obtain ⟨w, r', rfl, h1, h2⟩ := r
    simp only [List.set_cons_succ, Rps]
    exact ⟨w, _, rfl, h1, Rps.set n h2 h⟩
theorem Rps.eraseIdx {H : Hp} : ∀ {ds : List D} {vs : List V} (n : Nat), Rps K H ds vs → Rps K H (ds.eraseIdx n) (vs.eraseIdx n)
  | [], _, _, r => by
    simp only [Rps] at r
    subst r
    simp only [List.eraseIdx_nil, Rps]
  | e :: ds, _, 0, r => by
    simp only [Rps] at r
    obtain ⟨w, r', rfl, h1, h2⟩ := r
    exact h2
  | e :: ds, _, n + 1, r => by
    simp only [Rps] at r
    obtain ⟨w, r', rfl, h1, h2⟩ := r
    simp only [List.eraseIdx_cons_succ, Rps]
    exact ⟨w, _, rfl, h1, Rps.eraseIdx n h2⟩
theorem Rps.ints {H : Hp} : ∀ {ns : List Int} {vs : List V}, Rps K H (ns.map D.int) vs → vs = ns.map V.int
  | [], _, r => by simpa only [List.map_nil, Rps] using r
  | n :: ns, _, r => by
    simp only [List.map_cons, Rps] at r
    obtain ⟨v, r', rfl, h1, h2⟩ := r
    simp only [Rp] at h1
    rw [h1, Rps.ints h2]
    rfl
theorem Rps.bls {H : Hp} : ∀ {ns : List Bool} {vs : List V}, Rps K H (ns.map D.bl) vs → vs = ns.map V.bl
  | [], _, r => by simpa only [List.map_nil, Rps] using r
  | n :: ns, _, r => by
    simp only [List.map_cons, Rps] at r
    obtain ⟨v, r', rfl, h1, h2⟩ := r
    simp only [Rp] at h1
    rw [h1, Rps.bls h2]
    rfl
theorem Rps.strs {H : Hp} : ∀ {ns : List (List Nat)} {vs : List V}, Rps K H (ns.map D.str) vs → vs = (ns.map S).map V.str
  | [], _, r => by simpa only [List.map_nil, Rps] using r
  | n :: ns, _, r => by
    simp only [List.map_cons, Rps] at r
    obtain ⟨v, r', rfl, h1, h2⟩ := r
    simp only [Rp] at h1
    rw [h1, Rps.strs h2]
    rfl
theorem Rps.of_strs {H : Hp} : ∀ (ns : List (List Nat)), Rps K H (ns.map D.str) ((ns.map S).map V.str)
  | [] => by simp only [List.map_nil, Rps]
  | n :: ns => by
    simp only [List.map_cons, Rps]
    exact ⟨_, _, rfl, by simp only [Rp], Rps.of_strs ns⟩
theorem Rps.of_ints {H : Hp} : ∀ (ns : List Int), Rps K H (ns.map D.int) (ns.map V.int)
  | [] => by simp only [List.map_nil, Rps]
  | n :: ns => by
    simp only [List.map_cons, Rps]
    exact ⟨_, _, rfl, by simp only [Rp], Rps.of_ints ns⟩
theorem flat_v {Hs H : Hp} {d : D} {v : V} (h : flat d = true) (p : Rp K H d v) : flatV v = true := by
  cases d <;> first | (simp only [flat] at h; cases h; done) | (simp only [Rp] at p; subst p; rfl)
theorem eqV_eqB {H H' : Hp} {d e : D} {v w : V} (hd : flat d = true) (he : flat e = true) (p : Rp K H d v) (q : Rp K H' e w) : eqV v w = eqB d e := by
  cases d <;> first | (simp only [flat] at hd; cases hd; done) | skip
  all_goals (cases e <;> first | (simp only [flat] at he; cases he; done) | skip)
  all_goals (simp only [Rp] at p q; subst p q; rfl)
theorem inV_in {H H' : Hp} {d : D} {v : V} (hd : flat d = true) (p : Rp K H d v) : ∀ {ds : List D} {vs : List V}, ds.all flat = true → Rps K H' ds vs → inV v vs = ds.any fun e => eqB e d
  | [], _, _, r => by
    simp only [Rps] at r
    subst r
    rfl
  | e :: ds, _, ha, r => by
    simp only [Rps] at r
    obtain ⟨w, r', rfl, h1, h2⟩ := r
    simp only [List.all_cons, Bool.and_eq_true] at ha
    have ih := inV_in hd p ha.2 h2
    unfold inV at ih ⊢
    rw [List.any_cons, List.any_cons, eqV_eqB ha.1 hd h1 p, ih]
theorem flats_v {H : Hp} : ∀ {ds : List D} {vs : List V}, ds.all flat = true → Rps K H ds vs → vs.all flatV = true
  | [], _, _, r => by
    simp only [Rps] at r
    subst r
    rfl
  | e :: ds, _, ha, r => by
    simp only [Rps] at r
    obtain ⟨w, r', rfl, h1, h2⟩ := r
    simp only [List.all_cons, Bool.and_eq_true] at ha ⊢
    exact ⟨flat_v (Hs := H) ha.1 h1, flats_v ha.2 h2⟩
def valD (kvs : List (Ky × D)) (k : Ky) : Option D := (kvs.find? fun kv => decide (kv.1 = k)).map (·.2)
def kyOf : D → Option Ky
  | .int i => some (.i i)
  | .str x => some (.s x)
  | _ => none
theorem kyOf_v {Hs H : Hp} {d : D} {v : V} {k : Ky} (h : kyOf d = some k) (p : Pk K Hs H d v) : v = kV k.key := by
  cases d <;> first | (simp only [kyOf] at h; cases h; done) | skip
  · cases h
    exact p
  · cases h
    exact p
theorem RpK.val {H : Hp} {k : Ky} : ∀ {kvs : List (Ky × D)} {ks : List (Key × V)}, RpK K H kvs ks → (∀ d, valD kvs k = some d → ∃ v, valV ks k.key = some v ∧ Rp K H d v) ∧ (valD kvs k = none → valV ks k.key = none)
  | [], _, r => by
    simp only [RpK] at r
    subst r
    exact ⟨fun d h => (by cases h), fun _ => rfl⟩
  | (k', d') :: kvs, _, r => by
    simp only [RpK] at r
    obtain ⟨w, r', rfl, h1, h2⟩ := r
    have ih := RpK.val (k := k) h2
    by_cases e : k' = k
    · subst e
      have e1 : valD ((k', d') :: kvs) k' = some d' := by simp [valD, List.find?_cons]
      rw [e1]
      exact ⟨fun d h => by cases h; exact ⟨w, valV_pos rfl, h1⟩, fun h => by cases h⟩
    · have e1 : valD ((k', d') :: kvs) k = valD kvs k := by simp [valD, List.find?_cons, e]
      rw [e1, valV_neg (fun z => e (Ky.key_inj z))]
      exact ih
def inD : D → D → Option D
  | d, .lst ds => if flat d && ds.all flat then some (.bl (ds.any fun e => eqB e d)) else if shp d && shp (.lst ds) then some (.bl (ds.any fun e => eqB e d)) else none
  | d, .tup ds => if flat d && ds.all flat then some (.bl (ds.any fun e => eqB e d)) else none
  | .str [c], .str z => some (.bl (decide (c ∈ z)))
  | d, .dic kvs => (kyOf d).map fun k => .bl (valD kvs k).isSome
  | _, _ => none
def notD (o : Option D) : Option D := o.bind fun
  | .bl b => some (.bl (!b))
  | _ => none
def notInD : D → D → Option D := fun a b => notD (inD a b)
def rInS : R2 := fun x y H Q => ∃ (c : Nat) (z : Str), x = .str ⟨#[c]⟩ ∧ y = .str z ∧ Q (.bl (decide (c ∈ z.cps.toList))) H
def rInK : R2 := fun x y H Q => ∃ (a : Addr) (o : Option V), y = .ref a ∧ DGet H a x o ∧ Q (.bl o.isSome) H
def rInX (K : PySem.W.Frag) : R2 := fun x y H Q => (rIn K false x y H Q ∨ rInD K x y H Q) ∨ (rInS x y H Q ∨ rInK x y H Q)
def rNotInS : R2 := fun x y H Q => ∃ (c : Nat) (z : Str), x = .str ⟨#[c]⟩ ∧ y = .str z ∧ Q (.bl (!decide (c ∈ z.cps.toList))) H
def rNotInK : R2 := fun x y H Q => ∃ (a : Addr) (o : Option V), y = .ref a ∧ DGet H a x o ∧ Q (.bl (!o.isSome)) H
def rNotInX (K : PySem.W.Frag) : R2 := fun x y H Q => (rIn K true x y H Q ∨ rNotInD K x y H Q) ∨ (rNotInS x y H Q ∨ rNotInK x y H Q)
theorem op_inK (hu : X.A.units + 1 < cLine) : OpR X (compareOp .In) rInK := by
  intro pins s σ H x y v u Q I rx ry h
  obtain ⟨a, o, rfl, g, q⟩ := h
  cases ry
  exact d_in hu I g rx fun s3 I3 => ⟨.bl o.isSome, H, I3, rfl, q⟩
theorem op_notInK (hu : X.A.units + 1 < cLine) : OpR X (compareOp .NotIn) rNotInK := by
  intro pins s σ H x y v u Q I rx ry h
  obtain ⟨a, o, rfl, g, q⟩ := h
  cases ry
  exact d_notIn hu I g rx fun s3 I3 => ⟨.bl (!o.isSome), H, I3, rfl, q⟩
theorem op_inX (hu : X.A.units + 65 < cLine) : OpR X (compareOp .In) (rInX X.K) := OpR.or (OpR.or op_in_seq (op_inD hu)) (OpR.or op_in_sign (op_inK (by omega)))
theorem op_notInX (hu : X.A.units + 65 < cLine) : OpR X (compareOp .NotIn) (rNotInX X.K) := OpR.or (OpR.or op_notIn_seq (op_notInD hu)) (OpR.or op_notIn_sign (op_notInK (by omega)))
theorem any_toPys {d : D} : ∀ (ds : List D), ((toPys ds).any fun z => PyData.eqv z (toPy d)) = ds.any fun e => eqB e d
  | [] => rfl
  | e :: ds => by
    simp only [toPys, List.any_cons]
    rw [any_toPys ds]
    rfl
/-- both at once -/
theorem in_core {Hs H : Hp} {d e z : D} {v w : V} (ex : Same Hs H) (p1 : Pk K Hs H d v) (p2 : Pk K Hs H e w) (h : inD d e = some z) : ∃ b, z = .bl b ∧ (∀ Q : VK, Q (.bl b) H → rInX K v w H Q) ∧ ∀ Q : VK, Q (.bl (!b)) H → rNotInX K v w H Q := by
  have r1 := p1.rp ex
  cases e with
  | lst ds =>
    have h : (if flat d && ds.all flat then some (D.bl (ds.any fun e => eqB e d)) else if shp d && shp (.lst ds) then some (D.bl (ds.any fun e => eqB e d)) else none) = some z := by
      cases d <;> exact h
    obtain ⟨a, vs, rfl, h2, h3⟩ := p2
    split at h
    · rename_i hf
      simp only [Bool.and_eq_true] at hf
      cases h
      have e := inV_in hf.1 r1 hf.2 h3
      refine ⟨_, rfl, fun Q q => .inl (.inl ⟨a, vs, rfl, .inl (SqL.of h2), flat_v (Hs := H) hf.1 r1, flats_v hf.2 h3, ?_⟩), fun Q q => .inl (.inl ⟨a, vs, rfl, .inl (SqL.of h2), flat_v (Hs := H) hf.1 r1, flats_v hf.2 h3, ?_⟩)⟩
      · rw [e]
        exact q
      · rw [e]
        exact q
    · split at h
      · rename_i hf
        simp only [Bool.and_eq_true] at hf
        cases h
        have hr : Rp K H (.lst ds) (.ref a) := by
          simp only [Rp]
          exact ⟨a, vs, rfl, h2, Rps.mono ex ds h3⟩
        have g1 := Rp.dp d r1 (SeqAt.canLay_of_shaped hf.1)
        have g2 : Dp K H (.ref a) (.list (toPys ds)) := by
          have := Rp.dp (.lst ds) hr (SeqAt.canLay_of_shaped hf.2)
          simpa only [toPy] using this
        have s2 : SeqAt.shaped (.list (toPys ds)) = true := by
          have := hf.2
          unfold shp at this
          simpa only [toPy] using this
        refine ⟨_, rfl, fun Q q => .inl (.inr ⟨toPy d, toPys ds, g1, g2, hf.1, s2, ?_⟩), fun Q q => .inl (.inr ⟨toPy d, toPys ds, g1, g2, hf.1, s2, ?_⟩)⟩
        · rw [any_toPys]
          exact q
        · rw [any_toPys]
          exact q
      · cases h
  | tup ds =>
    have h : (if flat d && ds.all flat then some (D.bl (ds.any fun e => eqB e d)) else none) = some z := by
      cases d <;> exact h
    obtain ⟨a, vs, rfl, h2, h3⟩ := p2
    split at h
    · rename_i hf
      simp only [Bool.and_eq_true] at hf
      cases h
      have e := inV_in hf.1 r1 hf.2 h3
      refine ⟨_, rfl, fun Q q => .inl (.inl ⟨a, vs, rfl, .inr h2, flat_v (Hs := H) hf.1 r1, flats_v hf.2 h3, ?_⟩), fun Q q => .inl (.inl ⟨a, vs, rfl, .inr h2, flat_v (Hs := H) hf.1 r1, flats_v hf.2 h3, ?_⟩)⟩
      · rw [e]
        exact q
      · rw [e]
        exact q
    · cases h
  | str zz =>
    cases d with
    | str x =>
      have p1 : v = .str (S x) := p1
      have p2 : w = .str (S zz) := p2
      subst p1 p2
      match x, h with
      | [c], h =>
        cases h
        exact ⟨_, rfl, fun Q q => .inr (.inl ⟨c, S zz, rfl, rfl, by rw [S_list]; exact q⟩), fun Q q => .inr (.inl ⟨c, S zz, rfl, rfl, by rw [S_list]; exact q⟩)⟩
    | _ => cases h
  | dic kvs =>
    have h : ((kyOf d).map fun k => D.bl (valD kvs k).isSome) = some z := by
      cases d <;> first | exact h | (cases h; done)
    obtain ⟨k, hk, h⟩ := Option.map_eq_some_iff.mp h
    cases h
    obtain ⟨a, ks, rfl, h2, h3⟩ := p2
    have ev := kyOf_v hk p1
    subst ev
    have hv := RpK.val (k := k) h3
    have e : (valV ks k.key).isSome = (valD kvs k).isSome := by
      cases q : valD kvs k with
      | none => rw [hv.2 q]; rfl
      | some d' =>
        obtain ⟨w, hw, _⟩ := hv.1 d' q
        rw [hw]
        rfl
    exact ⟨_, rfl, fun Q q => .inr (.inr ⟨a, valV ks k.key, rfl, DGet.k h2, by rw [e]; exact q⟩), fun Q q => .inr (.inr ⟨a, valV ks k.key, rfl, DGet.k h2, by rw [e]; exact q⟩)⟩
  | _ => cases d <;> cases h
theorem ov_in : OV2 K (rInX K) inD := by
  intro Hs H d e z v w ex p1 p2 h
  obtain ⟨b, rfl, h1, h2⟩ := in_core ex p1 p2 h
  exact ⟨.bl b, by simp only [Rp], h1⟩
theorem ov_notIn : OV2 K (rNotInX K) notInD := by
  intro Hs H d e z v w ex p1 p2 h
  obtain ⟨z', hz, h⟩ := Option.bind_eq_some_iff.mp h
  obtain ⟨b, rfl, h1, h2⟩ := in_core ex p1 p2 hz
  cases h
  exact ⟨.bl (!b), by simp only [Rp], h2⟩
def ixD : D → D → Option D
  | .lst ds, .int i => atI ds i
  | .tup ds, .int i => atI ds i
  | .str x, .int i => if x.length ≤ sizeLine then (atI x i).map fun c => .str [c] else none
  | _, _ => none
theorem Rps.atI {H : Hp} {ds : List D} {vs : List V} {i : Int} {d : D} (r : Rps K H ds vs) (h : L2.atI ds i = some d) : ∃ v, L2.atI vs i = some v ∧ Rp K H d v := by
  unfold L2.atI at h ⊢
  obtain ⟨j, hj, h⟩ := Option.bind_eq_some_iff.mp h
  obtain ⟨v, hv, rv⟩ := r.get h
  rw [r.length, hj]
  exact ⟨v, hv, rv⟩
theorem ov_ix : OV2 K (rIx K) ixD := by
  intro Hs H d e z v w ex p1 p2 h
  cases e <;> first | (cases d <;> cases h; done) | skip
  rename_i i
  have p2 : w = .int i := p2
  subst p2
  cases d <;> first | (cases h; done) | skip
  · rename_i x
    have p1 : v = .str (S x) := p1
    subst p1
    have h : (if x.length ≤ sizeLine then (atI x i).map fun c => D.str [c] else none) = some z := h
    split at h
    · rename_i hz
      obtain ⟨c, hc, h⟩ := Option.map_eq_some_iff.mp h
      cases h
      exact ⟨.str (S [c]), by simp only [Rp], fun Q q => .inr (.inr ⟨S x, i, c, rfl, rfl, by rw [S_len]; exact hz, by rw [S_list]; exact hc, q⟩)⟩
    · cases h
  · obtain ⟨a, vs, rfl, h2, h3⟩ := p1
    obtain ⟨u, hu, ru⟩ := h3.atI h
    exact ⟨u, ru, fun Q q => .inr (.inl ⟨a, vs, i, u, rfl, rfl, h2, hu, q⟩)⟩
  · obtain ⟨a, vs, rfl, h2, h3⟩ := p1
    obtain ⟨u, hu, ru⟩ := h3.atI h
    exact ⟨u, ru, fun Q q => .inl ⟨a, vs, i, u, rfl, rfl, SqL.of h2, hu, q⟩⟩
theorem de_ix {a b : Expr} {fa fb : FO} {pos : Pos} (ha : DO X a fa) (hb : DO X b fb) (hp : PlainIx b := by exact fun _ _ => rfl) : DE X (.Subscript a b pos) (eOp2 ixD fa fb) := de_ix2 ix_seq ov_ix ha hb hp
/-- d[k] -/
def getD' : D → D → Option D
  | .dic kvs, k => (kyOf k).bind fun k => valD kvs k
  | _, _ => none
theorem de_dget {a b : Expr} {fa fb : FO} {pos : Pos} (hu : X.A.units + 1 < cLine) (ha : DO X a fa) (hb : DO X b fb) (hp : NoSl b := by exact fun _ _ => rfl) : DE X (.Subscript a b pos) (eOp2 getD' fa fb) := by
  refine imp (pe_dget hu ha hb hp) fun σ H Q h => ?_
  obtain ⟨x, env, Hs, d, env', I, hf, k⟩ := h
  obtain ⟨⟨d1, d2, e2⟩, h1, h2⟩ := Option.bind_eq_some_iff.mp hf
  obtain ⟨z, h3, h4⟩ := Option.map_eq_some_iff.mp h2
  cases h4
  refine rd2 (R := fun v w H' => ∃ a u, v = .ref a ∧ DGet H' a w (some u) ∧ Q u H') I h1 fun v w H' Hs' I' s p1 p2 => ?_
  cases d1 <;> first | (cases h3; done) | skip
  rename_i kvs
  have h3 : (kyOf d2).bind (fun k => valD kvs k) = some d := h3
  obtain ⟨ky, hk, h3⟩ := Option.bind_eq_some_iff.mp h3
  obtain ⟨a, ks, rfl, g2, g3⟩ := p1
  have ev := kyOf_v hk p2
  subst ev
  obtain ⟨u, hu, ru⟩ := (RpK.val (k := ky) g3).1 d h3
  exact ⟨a, u, rfl, by rw [← hu]; exact DGet.k g2, k u H' Hs' I' s ru⟩
abbrev FP := En → Option (Option Int × En)
def pNo : FP := fun env => some (none, env)
def pAt (f : FE) : FP := fun env => (f env).bind fun p => match p.1 with
  | .int i => some (some i, p.2)
  | _ => none
def rdP (K : PySem.W.Frag) (f : FP) : TO := fun σ H Q => ∃ x env Hs o env', IV K x env σ Hs H ∧ f env = some (o, env') ∧ ∀ H' Hs', IV K x env' σ Hs' H' → Same Hs Hs' → Q o H'
abbrev DP (X : Cx) (e : Option Expr) (f : FP) : Prop := PO X e (rdP X.K f)
theorem dp_no : DP X none pNo := ⟨fun pins s σ H Q I h => po_none.run pins s σ H Q I (by
  obtain ⟨x, env, Hs, o, env', I, hf, k⟩ := h
  cases hf
  exact k H Hs I (Same.refl _))⟩
theorem dp_at {e : Expr} {f : FE} (h : DE X e f) : DP X (some e) (pAt f) := ⟨fun pins s σ H Q I hh => (po_some h).run pins s σ H Q I (by
  obtain ⟨x, env, Hs, o, env', I, hf, k⟩ := hh
  obtain ⟨⟨d, e2⟩, h1, h2⟩ := Option.bind_eq_some_iff.mp hf
  cases d <;> first | (cases h2; done) | skip
  rename_i i
  cases h2
  refine ⟨x, env, Hs, .int i, _, I, h1, fun v H' Hs' I' s r => ?_⟩
  simp only [Rp] at r
  exact ⟨i, r, k H' Hs' I' s⟩)⟩
def cut {α : Type} (xs : List α) (lo hi : Option Int) : List α := (xs.drop (HT.sIx xs.length 0 lo)).take (HT.sIx xs.length xs.length hi - HT.sIx xs.length 0 lo)
def ev3 (fa : FO) (fl fh : FP) (env : En) : Option (D × Option Int × Option Int × En) := (fa env).bind fun p => (fl p.2).bind fun q => (fh q.2).bind fun r => (fetch r.2 p.1).map fun d => (d, q.1, r.1, r.2)
def eSl (g : D → Option Int → Option Int → Option D) (fa : FO) (fl fh : FP) : FE := fun env => (ev3 fa fl fh env).bind fun p => (g p.1 p.2.1 p.2.2.1).map fun z => (z, p.2.2.2)
theorem rd3 {x : Fx} {env env' : En} {σ : L2.St} {Hs H : Hp} {fa : FO} {fl fh : FP} {d : D} {lo hi : Option Int} {R : V → Option Int → Option Int → Hp → Prop} (I : IV K x env σ Hs H) (h : ev3 fa fl fh env = some (d, lo, hi, env'))
    (k : ∀ v H' Hs', IV K x env' σ Hs' H' → Same Hs Hs' → Pk K Hs' H' d v → R v lo hi H') : rdO K fa σ H fun v H1 => rdP K fl σ H1 fun l H2 => rdP K fh σ H2 fun u H3 => R v l u H3 := by
  unfold ev3 at h
  obtain ⟨p, hp, h⟩ := Option.bind_eq_some_iff.mp h
  obtain ⟨q, hq, h⟩ := Option.bind_eq_some_iff.mp h
  obtain ⟨r, hr, h⟩ := Option.bind_eq_some_iff.mp h
  obtain ⟨d', hd, h⟩ := Option.map_eq_some_iff.mp h
  cases h
  exact ⟨x, env, Hs, p.1, p.2, I, hp, fun v H1 Hs1 I1 s1 o1 => ⟨x, p.2, Hs1, q.1, q.2, I1, hq, fun H2 Hs2 I2 s2 => ⟨x, q.2, Hs2, r.1, r.2, I2, hr, fun H3 Hs3 I3 s3 => k v H3 Hs3 I3 (s1.trans (s2.trans s3)) (I3.pk (o1.mono (s2.trans s3)) hd)⟩⟩⟩
def slS : D → Option Int → Option Int → Option D
  | .str x, lo, hi => if x.length ≤ sizeLine then some (.str (cut x lo hi)) else none
  | _, _, _ => none
def slL : D → Option Int → Option Int → Option D
  | .lst ds, lo, hi => some (.lst (cut ds lo hi))
  | .scr ns, lo, hi => some (.lst ((cut ns lo hi).map D.int))
  | _, _, _ => none
theorem de_slS {a : Expr} {lo hi : Option Expr} {fa : FO} {fl fh : FP} {pos p2 : Pos} (ha : DO X a fa) (hl : DP X lo fl) (hh : DP X hi fh) : DE X (.Subscript a (.Slice lo hi none p2) pos) (eSl slS fa fl fh) := by
  refine imp (pe_slice sl_str ha hl hh) fun σ H Q h => ?_
  obtain ⟨x, env, Hs, d, env', I, hf, k⟩ := h
  obtain ⟨⟨d1, l1, l2, e2⟩, h1, h2⟩ := Option.bind_eq_some_iff.mp hf
  obtain ⟨z, h3, h4⟩ := Option.map_eq_some_iff.mp h2
  cases h4
  refine rd3 (R := fun v l u H' => rSlS v l u H' Q) I h1 fun v H' Hs' I' s p1 => ?_
  cases d1 <;> first | (cases h3; done) | skip
  rename_i y
  have h3 : (if y.length ≤ sizeLine then some (D.str (cut y l1 l2)) else none) = some d := h3
  split at h3
  · rename_i hz
    cases h3
    have p1 : v = .str (S y) := p1
    subst p1
    refine ⟨S y, rfl, by rw [S_len]; exact hz, ?_⟩
    have e : cutS (S y) l1 l2 = S (cut y l1 l2) := by
      unfold cutS cut
      rw [S_len, S_list]
    rw [e]
    exact k _ H' Hs' I' s (by simp only [Rp])
  · cases h3
theorem Rps.cut {H : Hp} {ds : List D} {vs : List V} (r : Rps K H ds vs) (lo hi : Option Int) : Rps K H (Qd.cut ds lo hi) (cutV vs lo hi) := by
  unfold Qd.cut cutV
  rw [r.length]
  exact (r.drop _).take _
theorem df_slL {a : Expr} {lo hi : Option Expr} {fa : FO} {fl fh : FP} {pos p2 : Pos} (ha : DO X a fa) (hl : DP X lo fl) (hh : DP X hi fh) : DF X (.Subscript a (.Slice lo hi none p2) pos) (eSl slL fa fl fh) := by
  refine imp (pe_slice sl_list ha hl hh) fun σ H Q h => ?_
  obtain ⟨x, env, Hs, d, env', I, hf, k⟩ := h
  obtain ⟨⟨d1, l1, l2, e2⟩, h1, h2⟩ := Option.bind_eq_some_iff.mp hf
  obtain ⟨z, h3, h4⟩ := Option.map_eq_some_iff.mp h2
  cases h4
  refine rd3 (R := fun v l u H' => rSlL X.K v l u H' Q) I h1 fun v H' Hs' I' s p1 => ?_
  cases d1 <;> first | (cases h3; done) | skip
  · cases h3
    obtain ⟨a, vs, rfl, g2, g3⟩ := p1
    exact ⟨a, vs, rfl, SqL.of g2, fun p hp => k p _ Hs' (I'.new hp) s ⟨_, upd_same, g3.cut l1 l2⟩ (I'.hs_none hp) (I'.fm_none hp) (I'.apart hp)⟩
  · rename_i ns
    cases h3
    obtain ⟨a, rfl, g2⟩ := p1
    refine ⟨a, _, rfl, g2, fun p hp => k p _ Hs' (I'.new hp) s ⟨_, upd_same, ?_⟩ (I'.hs_none hp) (I'.fm_none hp) (I'.apart hp)⟩
    have e : cutV (ns.map V.int) l1 l2 = (Qd.cut ns l1 l2).map V.int := by
      unfold cutV Qd.cut
      rw [List.length_map, ← List.map_drop, ← List.map_take]
    rw [e]
    exact Rps.of_ints _
end
end Qd
namespace Qd
open PySem PySem.Spec L2
section
variable {X : Cx} {K : PySem.W.Frag}
theorem pks1 {Hs H : Hp} {d : D} {vs : List V} (h : Pks K Hs H [d] vs) : ∃ v, vs = [v] ∧ Pk K Hs H d v := by
  match vs, h with
  | [v], ⟨a, _⟩ => exact ⟨v, rfl, a⟩
theorem pks2 {Hs H : Hp} {d e : D} {vs : List V} (h : Pks K Hs H [d, e] vs) : ∃ v w, vs = [v, w] ∧ Pk K Hs H d v ∧ Pk K Hs H e w := by
  match vs, h with
  | [v, w], ⟨a, b, _⟩ => exact ⟨v, w, rfl, a, b⟩
def lenD : List D → Option D
  | [.str x] => if x.length ≤ sizeLine then some (.int x.length) else none
  | [.lst ds] => some (.int ds.length)
  | [.tup ds] => some (.int ds.length)
  | [.dic kvs] => some (.int kvs.length)
  | [.scr ns] => some (.int ns.length)
  | _ => none
def rLenX (K : PySem.W.Frag) : List V → Hp → VK → Prop := fun xs H Q => (∃ x n, xs = [x] ∧ LenV K x H n ∧ Q (.int n) H) ∨ ∃ a kvs, xs = [V.ref a] ∧ H a = some (.dK kvs) ∧ Q (.int kvs.length) H
theorem cr_lenX : CallR X (.builtin "len") (rLenX X.K) := CallR.or call_len call_lenD
theorem RpK.length {H : Hp} : ∀ {kvs : List (Ky × D)} {ks : List (Key × V)}, RpK K H kvs ks → ks.length = kvs.length
  | [], _, r => by
    simp only [RpK] at r
    subst r
    rfl
  | (k, d) :: kvs, _, r => by
    simp only [RpK] at r
    obtain ⟨w, r', rfl, h1, h2⟩ := r
    rw [List.length_cons, List.length_cons, RpK.length h2]
theorem cv_len : CV K (rLenX K) lenD := by
  intro Hs H ds z vs ex ps h
  match ds, h with
  | [.str x], h =>
    obtain ⟨v, rfl, p⟩ := pks1 ps
    have p : v = .str (S x) := p
    subst p
    have h : (if x.length ≤ sizeLine then some (D.int x.length) else none) = some z := h
    split at h
    · rename_i hz
      cases h
      exact ⟨.int x.length, by simp only [Rp], fun Q q => .inl ⟨_, x.length, rfl, ⟨by rw [S_len]; exact hz, (S_len x).symm⟩, q⟩⟩
    · cases h
  | [.lst ds], h =>
    obtain ⟨v, rfl, p⟩ := pks1 ps
    obtain ⟨a, vs, rfl, h2, h3⟩ := p
    cases h
    exact ⟨.int ds.length, by simp only [Rp], fun Q q => .inl ⟨_, ds.length, rfl, .inl ⟨vs, SqL.of h2, h3.length.symm⟩, q⟩⟩
  | [.tup ds], h =>
    obtain ⟨v, rfl, p⟩ := pks1 ps
    obtain ⟨a, vs, rfl, h2, h3⟩ := p
    cases h
    exact ⟨.int ds.length, by simp only [Rp], fun Q q => .inl ⟨_, ds.length, rfl, .inr ⟨vs, h2, h3.length.symm⟩, q⟩⟩
  | [.dic kvs], h =>
    obtain ⟨v, rfl, p⟩ := pks1 ps
    obtain ⟨a, ks, rfl, h2, h3⟩ := p
    cases h
    exact ⟨.int kvs.length, by simp only [Rp], fun Q q => .inr ⟨a, ks, rfl, h2, by rw [h3.length]; exact q⟩⟩
  | [.scr ns], h =>
    obtain ⟨v, rfl, p⟩ := pks1 ps
    obtain ⟨a, rfl, h2⟩ := p
    cases h
    exact ⟨.int ns.length, by simp only [Rp], fun Q q => .inl ⟨_, ns.length, rfl, .inl ⟨_, h2, by rw [List.length_map]⟩, q⟩⟩
def bls : List D → Option (List Bool)
  | [] => some []
  | .bl b :: ds => (bls ds).map fun bs => b :: bs
  | _ => none
theorem bls_eq : ∀ {ds : List D} {bs : List Bool}, bls ds = some bs → ds = bs.map D.bl
  | [], _, h => by cases h; rfl
  | .bl b :: ds, _, h => by
    obtain ⟨bs, h1, h2⟩ := Option.map_eq_some_iff.mp (show (bls ds).map (fun bs => b :: bs) = some _ from h)
    cases h2
    rw [bls_eq h1]
    rfl
theorem bls_map : ∀ (bs : List Bool), bls (bs.map D.bl) = some bs
  | [] => rfl
  | b :: bs => by
    show (bls (bs.map D.bl)).map (fun r => b :: r) = _
    rw [bls_map bs]
    rfl
def intsD : List D → Option (List Int)
  | [] => some []
  | .int b :: ds => (intsD ds).map fun bs => b :: bs
  | _ => none
theorem intsD_eq : ∀ {ds : List D} {bs : List Int}, intsD ds = some bs → ds = bs.map D.int
  | [], _, h => by cases h; rfl
  | .int b :: ds, _, h => by
    obtain ⟨bs, h1, h2⟩ := Option.map_eq_some_iff.mp (show (intsD ds).map (fun bs => b :: bs) = some _ from h)
    cases h2
    rw [intsD_eq h1]
    rfl
theorem intsD_map : ∀ (bs : List Int), intsD (bs.map D.int) = some bs
  | [] => rfl
  | b :: bs => by
    show (intsD (bs.map D.int)).map (fun r => b :: r) = _
    rw [intsD_map bs]
    rfl
def strsD : List D → Option (List (List Nat))
  | [] => some []
  | .str b :: ds => (strsD ds).map fun bs => b :: bs
  | _ => none
theorem strsD_eq : ∀ {ds : List D} {bs : List (List Nat)}, strsD ds = some bs → ds = bs.map D.str
  | [], _, h => by cases h; rfl
  | .str b :: ds, _, h => by
    obtain ⟨bs, h1, h2⟩ := Option.map_eq_some_iff.mp (show (strsD ds).map (fun bs => b :: bs) = some _ from h)
    cases h2
    rw [strsD_eq h1]
    rfl
theorem strsD_map : ∀ (bs : List (List Nat)), strsD (bs.map D.str) = some bs
  | [] => rfl
  | b :: bs => by
    show (strsD (bs.map D.str)).map (fun r => b :: r) = _
    rw [strsD_map bs]
    rfl
def allB : List D → Option D
  | [.lst ds] => (bls ds).map fun bs => .bl (bs.all id)
  | _ => none
def anyB : List D → Option D
  | [.lst ds] => (bls ds).map fun bs => .bl (bs.any id)
  | _ => none
def sumD : List D → Option D
  | [.lst ds] => (intsD ds).map fun bs => .int bs.sum
  | _ => none
def maxL : Int → List Int → Int
  | m, [] => m
  | m, x :: r => maxL (if x > m then x else m) r
def minL : Int → List Int → Int
  | m, [] => m
  | m, x :: r => minL (if x < m then x else m) r
theorem maxL_spec : ∀ (m : Int) (r : List Int), (maxL m r = m ∨ maxL m r ∈ r) ∧ m ≤ maxL m r ∧ ∀ y ∈ r, y ≤ maxL m r
  | m, [] => ⟨.inl rfl, Int.le_refl _, fun y h => by cases h⟩
  | m, x :: r => by
    have ih := maxL_spec (if x > m then x else m) r
    simp only [maxL]
    have hq : ∃ q, q = (if x > m then x else m) ∧ (q = x ∨ q = m) ∧ m ≤ q ∧ x ≤ q := by
      by_cases hx : x > m
      · rw [if_pos hx]
        exact ⟨x, rfl, .inl rfl, by omega, by omega⟩
      · rw [if_neg hx]
        exact ⟨m, rfl, .inr rfl, by omega, by omega⟩
    obtain ⟨q, hq1, hq2, hq3, hq4⟩ := hq
    rw [← hq1] at ih ⊢
    obtain ⟨h1, h2, h3⟩ := ih
    refine ⟨?_, by omega, ?_⟩
    · rcases h1 with h1 | h1
      · rw [h1]
        rcases hq2 with e | e
        · rw [e]
          exact .inr List.mem_cons_self
        · exact .inl e
      · exact .inr (List.mem_cons_of_mem _ h1)
    · intro y hy
      rcases List.mem_cons.mp hy with rfl | hy
      · omega
      · exact h3 y hy
theorem minL_spec : ∀ (m : Int) (r : List Int), (minL m r = m ∨ minL m r ∈ r) ∧ minL m r ≤ m ∧ ∀ y ∈ r, minL m r ≤ y
  | m, [] => ⟨.inl rfl, Int.le_refl _, fun y h => by cases h⟩
  | m, x :: r => by
    have ih := minL_spec (if x < m then x else m) r
    simp only [minL]
    have hq : ∃ q, q = (if x < m then x else m) ∧ (q = x ∨ q = m) ∧ q ≤ m ∧ q ≤ x := by
      by_cases hx : x < m
      · rw [if_pos hx]
        exact ⟨x, rfl, .inl rfl, by omega, by omega⟩
      · rw [if_neg hx]
        exact ⟨m, rfl, .inr rfl, by omega, by omega⟩
    obtain ⟨q, hq1, hq2, hq3, hq4⟩ := hq
    rw [← hq1] at ih ⊢
    obtain ⟨h1, h2, h3⟩ := ih
    refine ⟨?_, by omega, ?_⟩
    · rcases h1 with h1 | h1
      · rw [h1]
        rcases hq2 with e | e
        · rw [e]
          exact .inr List.mem_cons_self
        · exact .inl e
      · exact .inr (List.mem_cons_of_mem _ h1)
    · intro y hy
      rcases List.mem_cons.mp hy with rfl | hy
      · omega
      · exact h3 y hy
def maxD1 : List D → Option D
  | [.lst (.int m :: ds)] => (intsD ds).map fun bs => .int (maxL m bs)
  | _ => none
def minD1 : List D → Option D
  | [.lst (.int m :: ds)] => (intsD ds).map fun bs => .int (minL m bs)
  | _ => none
def maxD2 : List D → Option D
  | [.int i, .int j] => some (.int (if j > i then j else i))
  | _ => none
def minD2 : List D → Option D
  | [.int i, .int j] => some (.int (if j < i then j else i))
  | _ => none
def absD : List D → Option D
  | [.int i] => some (.int (if i < 0 then -i else i))
  | _ => none
theorem cv_all : CV K (rAll K) allB := by
  intro Hs H ds z vs ex ps h
  match ds, h with
  | [.lst ds], h =>
    obtain ⟨v, rfl, p⟩ := pks1 ps
    obtain ⟨a, vs, rfl, h2, h3⟩ := p
    obtain ⟨bs, hb, h⟩ := Option.map_eq_some_iff.mp (show (bls ds).map (fun bs => D.bl (bs.all id)) = some z from h)
    cases h
    rw [bls_eq hb] at h3
    have e := h3.bls
    subst e
    exact ⟨.bl (bs.all id), by simp only [Rp], fun Q q => ⟨a, bs, rfl, SqL.of h2, q⟩⟩
theorem cv_any : CV K (rAny K) anyB := by
  intro Hs H ds z vs ex ps h
  match ds, h with
  | [.lst ds], h =>
    obtain ⟨v, rfl, p⟩ := pks1 ps
    obtain ⟨a, vs, rfl, h2, h3⟩ := p
    obtain ⟨bs, hb, h⟩ := Option.map_eq_some_iff.mp (show (bls ds).map (fun bs => D.bl (bs.any id)) = some z from h)
    cases h
    rw [bls_eq hb] at h3
    have e := h3.bls
    subst e
    exact ⟨.bl (bs.any id), by simp only [Rp], fun Q q => ⟨a, bs, rfl, SqL.of h2, q⟩⟩
theorem cv_sum : CV K (rSum K) sumD := by
  intro Hs H ds z vs ex ps h
  match ds, h with
  | [.lst ds], h =>
    obtain ⟨v, rfl, p⟩ := pks1 ps
    obtain ⟨a, vs, rfl, h2, h3⟩ := p
    obtain ⟨bs, hb, h⟩ := Option.map_eq_some_iff.mp (show (intsD ds).map (fun bs => D.int bs.sum) = some z from h)
    cases h
    rw [intsD_eq hb] at h3
    have e := h3.ints
    subst e
    exact ⟨.int bs.sum, by simp only [Rp], fun Q q => ⟨a, bs, rfl, SqL.of h2, q⟩⟩
theorem cv_max1 : CV K (rMax K) maxD1 := by
  intro Hs H ds z vs ex ps h
  match ds, h with
  | [.lst (.int m :: ds)], h =>
    obtain ⟨v, rfl, p⟩ := pks1 ps
    obtain ⟨a, vs, rfl, h2, h3⟩ := p
    obtain ⟨bs, hb, h⟩ := Option.map_eq_some_iff.mp (show (intsD ds).map (fun bs => D.int (maxL m bs)) = some z from h)
    cases h
    have e0 : D.int m :: ds = (m :: bs).map D.int := by rw [intsD_eq hb]; rfl
    rw [e0] at h3
    have e := h3.ints
    subst e
    refine ⟨.int (maxL m bs), by simp only [Rp], fun Q q => ⟨a, m :: bs, rfl, SqL.of h2, by simp, fun y hy hm => ?_⟩⟩
    obtain ⟨s1, s2, s3⟩ := maxL_spec m bs
    have hmem : maxL m bs ∈ m :: bs := by
      rcases s1 with s1 | s1
      · rw [s1]; exact List.mem_cons_self
      · exact List.mem_cons_of_mem _ s1
    have e1 : y = maxL m bs := by
      have h1 := hm _ hmem
      rcases List.mem_cons.mp hy with rfl | hy
      · omega
      · have := s3 y hy
        omega
    rw [e1]
    exact q
theorem cv_min1 : CV K (rMin K) minD1 := by
  intro Hs H ds z vs ex ps h
  match ds, h with
  | [.lst (.int m :: ds)], h =>
    obtain ⟨v, rfl, p⟩ := pks1 ps
    obtain ⟨a, vs, rfl, h2, h3⟩ := p
    obtain ⟨bs, hb, h⟩ := Option.map_eq_some_iff.mp (show (intsD ds).map (fun bs => D.int (minL m bs)) = some z from h)
    cases h
    have e0 : D.int m :: ds = (m :: bs).map D.int := by rw [intsD_eq hb]; rfl
    rw [e0] at h3
    have e := h3.ints
    subst e
    refine ⟨.int (minL m bs), by simp only [Rp], fun Q q => ⟨a, m :: bs, rfl, SqL.of h2, by simp, fun y hy hm => ?_⟩⟩
    obtain ⟨s1, s2, s3⟩ := minL_spec m bs
    have hmem : minL m bs ∈ m :: bs := by
      rcases s1 with s1 | s1
      · rw [s1]; exact List.mem_cons_self
      · exact List.mem_cons_of_mem _ s1
    have e1 : y = minL m bs := by
      have h1 := hm _ hmem
      rcases List.mem_cons.mp hy with rfl | hy
      · omega
      · have := s3 y hy
        omega
    rw [e1]
    exact q
def rMax2 : List V → Hp → VK → Prop := fun xs H Q => ∃ i j, xs = [.int i, .int j] ∧ Q (.int (if j > i then j else i)) H
def rMin2 : List V → Hp → VK → Prop := fun xs H Q => ∃ i j, xs = [.int i, .int j] ∧ Q (.int (if j < i then j else i)) H
def rAbs : List V → Hp → VK → Prop := fun xs H Q => ∃ i, xs = [.int i] ∧ Q (.int (if i < 0 then -i else i)) H
theorem cv_max2 : CV K rMax2 maxD2 := by
  intro Hs H ds z vs ex ps h
  match ds, h with
  | [.int i, .int j], h =>
    obtain ⟨v, w, rfl, p, q⟩ := pks2 ps
    have p : v = .int i := p
    have q : w = .int j := q
    subst p q
    cases h
    exact ⟨.int (if j > i then j else i), by simp only [Rp], fun Q q => ⟨i, j, rfl, q⟩⟩
theorem cv_min2 : CV K rMin2 minD2 := by
  intro Hs H ds z vs ex ps h
  match ds, h with
  | [.int i, .int j], h =>
    obtain ⟨v, w, rfl, p, q⟩ := pks2 ps
    have p : v = .int i := p
    have q : w = .int j := q
    subst p q
    cases h
    exact ⟨.int (if j < i then j else i), by simp only [Rp], fun Q q => ⟨i, j, rfl, q⟩⟩
theorem cv_abs : CV K rAbs absD := by
  intro Hs H ds z vs ex ps h
  match ds, h with
  | [.int i], h =>
    obtain ⟨v, rfl, p⟩ := pks1 ps
    have p : v = .int i := p
    subst p
    cases h
    exact ⟨.int (if i < 0 then -i else i), by simp only [Rp], fun Q q => ⟨i, rfl, q⟩⟩
def listD : List D → Option D
  | [.lst ds] => some (.lst ds)
  | [.tup ds] => some (.lst ds)
  | [.scr ns] => some (.lst (ns.map D.int))
  | [.dic kvs] => some (.lst (kvs.map fun kv => match kv.1 with | .i n => .int n | .s x => .str x))
  | _ => none
def rListX (K : PySem.W.Frag) : List V → Hp → VK → Prop := fun xs H Q => (∃ p ys, xs = [.ref p] ∧ (SqL K H p ys ∨ SqT K H p ys) ∧ ∀ l, H l = none → Q (.ref l) (upd H l (.lst ys))) ∨ ∃ p kvs, xs = [.ref p] ∧ H p = some (.dK kvs) ∧ ∀ q, H q = none → Q (.ref q) (upd H q (.lst (kvs.map fun kv => kV kv.1)))
theorem cr_listX (hc : X.calm = true) : CallR X (.type "list") (rListX X.K) := CallR.or call_list_of (call_list_dK hc)
theorem RpK.keys {H : Hp} : ∀ {kvs : List (Ky × D)} {ks : List (Key × V)}, RpK K H kvs ks → Rps K H (kvs.map fun kv => match kv.1 with | .i n => .int n | .s x => .str x) (ks.map fun kv => kV kv.1)
  | [], _, r => by
    simp only [RpK] at r
    subst r
    simp only [List.map_nil, Rps]
  | (k, d) :: kvs, _, r => by
    simp only [RpK] at r
    obtain ⟨w, r', rfl, h1, h2⟩ := r
    simp only [List.map_cons, Rps]
    refine ⟨_, _, rfl, ?_, RpK.keys h2⟩
    cases k with
    | i n => simp only [Rp]; rfl
    | s x => simp only [Rp]; rfl
theorem cf_list : CFr K (rListX K) listD := by
  intro Hs H ds z vs ex ps h
  match ds, h with
  | [.lst ds], h =>
    obtain ⟨v, rfl, p⟩ := pks1 ps
    obtain ⟨a, vs, rfl, h2, h3⟩ := p
    cases h
    exact ⟨.lst vs, fun p => ⟨vs, upd_same, h3⟩, fun Q q => .inl ⟨a, vs, rfl, .inl (SqL.of h2), q⟩⟩
  | [.tup ds], h =>
    obtain ⟨v, rfl, p⟩ := pks1 ps
    obtain ⟨a, vs, rfl, h2, h3⟩ := p
    cases h
    exact ⟨.lst vs, fun p => ⟨vs, upd_same, h3⟩, fun Q q => .inl ⟨a, vs, rfl, .inr h2, q⟩⟩
  | [.scr ns], h =>
    obtain ⟨v, rfl, p⟩ := pks1 ps
    obtain ⟨a, rfl, h2⟩ := p
    cases h
    exact ⟨.lst (ns.map V.int), fun p => ⟨_, upd_same, Rps.of_ints ns⟩, fun Q q => .inl ⟨a, _, rfl, .inl h2, q⟩⟩
  | [.dic kvs], h =>
    obtain ⟨v, rfl, p⟩ := pks1 ps
    obtain ⟨a, ks, rfl, h2, h3⟩ := p
    cases h
    exact ⟨.lst (ks.map fun kv => kV kv.1), fun p => ⟨_, upd_same, h3.keys⟩, fun Q q => .inr ⟨a, ks, rfl, h2, q⟩⟩
/-- texts in order -/
def insS (x : List Nat) : List (List Nat) → List (List Nat)
  | [] => [x]
  | y :: r => if y < x then y :: insS x r else x :: y :: r
def sortS : List (List Nat) → List (List Nat)
  | [] => []
  | x :: r => insS x (sortS r)
def sortD : List D → Option D
  | [.lst ds] => (strsD ds).bind fun xs => if xs.length < 64 then some (.lst ((sortS xs).map D.str)) else none
  | _ => none
end
end Qd
namespace Qd
open PySem PySem.Spec L2
theorem insS_perm (x : List Nat) : ∀ l : List (List Nat), (insS x l).Perm (x :: l)
  | [] => List.Perm.refl _
  | y :: r => by
    unfold insS
    split
    · exact ((insS_perm x r).cons y).trans (List.Perm.swap x y r)
    · exact List.Perm.refl _
theorem sortS_perm : ∀ l : List (List Nat), (sortS l).Perm l
  | [] => List.Perm.refl _
  | x :: r => (insS_perm x (sortS r)).trans ((sortS_perm r).cons x)
theorem insS_sorted (x : List Nat) : ∀ l : List (List Nat), l.Pairwise (· ≤ ·) → (insS x l).Pairwise (· ≤ ·)
  | [], _ => by simp [insS]
  | y :: r, h => by
    obtain ⟨h1, h2⟩ := List.pairwise_cons.mp h
    unfold insS
    split
    · rename_i hlt
      refine List.pairwise_cons.mpr ⟨fun z hz => ?_, insS_sorted x r h2⟩
      rcases List.mem_cons.mp ((insS_perm x r).mem_iff.mp hz) with e | e
      · rw [e]
        exact List.le_of_lt hlt
      · exact h1 z e
    · rename_i hlt
      refine List.pairwise_cons.mpr ⟨fun z hz => ?_, h⟩
      have hxy : x ≤ y := List.not_lt.mp hlt
      rcases List.mem_cons.mp hz with e | e
      · rw [e]
        exact hxy
      · exact List.le_trans hxy (h1 z e)
theorem sortS_sorted : ∀ l : List (List Nat), (sortS l).Pairwise (· ≤ ·)
  | [] => List.Pairwise.nil
  | x :: r => insS_sorted x _ (sortS_sorted r)
theorem sortS_uniq {l m : List (List Nat)} (p : m.Perm l) (h : m.Pairwise (· ≤ ·)) : m = sortS l :=
  List.Perm.eq_of_pairwise (fun _ _ _ _ h1 h2 => List.le_antisymm h1 h2) h (sortS_sorted l) (p.trans (sortS_perm l).symm)
theorem sortS_length (l : List (List Nat)) : (sortS l).length = l.length := (sortS_perm l).length_eq
theorem rising_pw : ∀ (ys : List Str) (x : Str), PyProof.Rows.risingS x ys = true → (∀ y ∈ ys, x.cps.toList ≤ y.cps.toList) ∧ (ys.map fun y => y.cps.toList).Pairwise (· ≤ ·)
  | [], _, _ => ⟨(fun y h => nomatch h), List.Pairwise.nil⟩
  | y :: r, x, h => by
    simp only [PyProof.Rows.risingS, Bool.and_eq_true, Bool.not_eq_true', PyProof.Rows.ltCps_eq, decide_eq_false_iff_not] at h
    obtain ⟨h1, h2⟩ := rising_pw r y h.2
    have hxy : x.cps.toList ≤ y.cps.toList := List.not_lt.mp h.1
    refine ⟨fun z hz => ?_, ?_⟩
    · rcases List.mem_cons.mp hz with e | e
      · rw [e]
        exact hxy
      · exact List.le_trans hxy (h1 z e)
    · simp only [List.map_cons]
      refine List.pairwise_cons.mpr ⟨fun z hz => ?_, h2⟩
      obtain ⟨u, hu, rfl⟩ := List.mem_map.mp hz
      exact h1 u hu
theorem sortedS_pw {ys : List Str} (h : PyProof.Rows.sortedS ys = true) : (ys.map fun y => y.cps.toList).Pairwise (· ≤ ·) := by
  cases ys with
  | nil => exact List.Pairwise.nil
  | cons y r =>
    obtain ⟨h1, h2⟩ := rising_pw r y h
    simp only [List.map_cons]
    refine List.pairwise_cons.mpr ⟨fun z hz => ?_, h2⟩
    obtain ⟨u, hu, rfl⟩ := List.mem_map.mp hz
    exact h1 u hu
section
variable {X : Cx} {K : PySem.W.Frag}
theorem S_back (y : Str) : S y.cps.toList = y := by
  cases y with | mk c =>
  show (⟨c.toList.toArray⟩ : Str) = ⟨c⟩
  simp
theorem cf_sort : CFr K (rSortedS K) sortD := by
  intro Hs H ds z vs ex ps h
  match ds, h with
  | [.lst ds], h =>
    obtain ⟨v, rfl, p⟩ := pks1 ps
    obtain ⟨a, vs, rfl, h2, h3⟩ := p
    obtain ⟨xs, hb, h⟩ := Option.bind_eq_some_iff.mp (show (strsD ds).bind (fun xs => if xs.length < 64 then some (D.lst ((sortS xs).map D.str)) else none) = some z from h)
    split at h
    · rename_i hz
      cases h
      rw [strsD_eq hb] at h3
      have e := h3.strs
      subst e
      refine ⟨.lst (((sortS xs).map S).map V.str), fun p => ⟨_, upd_same, Rps.of_strs _⟩, fun Q q => ⟨a, xs.map S, rfl, SqL.of h2, by rw [List.length_map]; exact hz, fun ys p py sy hp => ?_⟩⟩
      have e1 : ys.map (fun y => y.cps.toList) = sortS xs := by
        refine sortS_uniq ?_ (sortedS_pw sy)
        have := py.map (fun y : Str => y.cps.toList)
        rw [List.map_map] at this
        have e2 : ((fun y : Str => y.cps.toList) ∘ S) = id := by
          funext y
          exact S_list y
        rw [e2, List.map_id] at this
        exact this
      have e3 : ys = (sortS xs).map S := by
        rw [← e1, List.map_map]
        have e4 : (S ∘ fun y : Str => y.cps.toList) = id := by
          funext y
          exact S_back y
        rw [e4, List.map_id]
      rw [e3]
      exact q p hp
    · cases h
def catD : D → D → Option D
  | .lst xs, .lst ys => if xs.length + ys.length ≤ sizeLine then some (.lst (xs ++ ys)) else none
  | _, _ => none
theorem of_cat : OF2 K rCat catD := by
  intro Hs H d e z v w ex p1 p2 h
  cases d <;> cases e <;> try (cases h; done)
  rename_i xs ys
  have h : (if xs.length + ys.length ≤ sizeLine then some (D.lst (xs ++ ys)) else none) = some z := h
  split at h
  · rename_i hz
    cases h
    obtain ⟨a, vs, rfl, h2, h3⟩ := p1
    obtain ⟨b, ws, rfl, g2, g3⟩ := p2
    exact ⟨.lst (vs ++ ws), fun p => ⟨_, upd_same, h3.append g3⟩, fun Q q => ⟨a, b, vs, ws, rfl, rfl, h2, g2, by rw [h3.length, g3.length]; exact hz, q⟩⟩
  · cases h
def eM (ty : D → Bool) (g : D → List D → Option D) (fo : FO) (fa : FA) : FE := fun env => (fo env).bind fun p => (fetch p.2 p.1).bind fun d0 => if ty d0 then (fa p.2).bind fun q => (fetch q.2 p.1).bind fun d => (fetchs q.2 q.1).bind fun ds => (g d ds).map fun z => (z, q.2) else none
def TyOk (K : PySem.W.Frag) (T : String) (ty : D → Bool) : Prop := ∀ (Hs H : Hp) (d : D) (x : V), ty d = true → Pk K Hs H d x → tyV K T x H
def MV (K : PySem.W.Frag) (r : V → List V → Hp → VK → Prop) (g : D → List D → Option D) : Prop := ∀ (Hs H : Hp) (d : D) (ds : List D) (z : D) (x : V) (xs : List V), Same Hs H → Pk K Hs H d x → Pks K Hs H ds xs → g d ds = some z → ∃ u, Rp K Hs z u ∧ ∀ Q : VK, Q u H → r x xs H Q
def MF (K : PySem.W.Frag) (r : V → List V → Hp → VK → Prop) (g : D → List D → Option D) : Prop := ∀ (Hs H : Hp) (d : D) (ds : List D) (z : D) (x : V) (xs : List V), Same Hs H → Pk K Hs H d x → Pks K Hs H ds xs → g d ds = some z → ∃ o, (∀ p, Own K Hs (upd H p o) p z) ∧ ∀ Q : VK, (∀ p, H p = none → Q (.ref p) (upd H p o)) → r x xs H Q
def isStr : D → Bool
  | .str _ => true
  | _ => false
def isLst : D → Bool
  | .lst _ => true
  | _ => false
theorem ty_str : TyOk K "str" isStr := by
  intro Hs H d x h p
  cases d <;> try (cases h; done)
  rename_i y
  have p : x = .str (S y) := p
  subst p
  rfl
theorem ty_lst : TyOk K "list" isLst := by
  intro Hs H d x h p
  cases d <;> try (cases h; done)
  obtain ⟨a, vs, rfl, h2, _⟩ := p
  exact .inl ⟨rfl, vs, SqL.of h2⟩
theorem mRun {T : String} {ty : D → Bool} {g : D → List D → Option D} {fo : FO} {fa : FA} {x : Fx} {env env' : En} {σ : L2.St} {Hs H : Hp} {z : D} {R : V → List V → Hp → Prop} (ht : TyOk K T ty) (I : IV K x env σ Hs H) (hf : eM ty g fo fa env = some (z, env'))
    (k : ∀ d ds v vs H' Hs', IV K x env' σ Hs' H' → Same Hs Hs' → Pk K Hs' H' d v → Pks K Hs' H' ds vs → g d ds = some z → R v vs H') : rdO K fo σ H fun v H1 => tyV K T v H1 ∧ rdA K fa σ H1 fun vs H2 => R v vs H2 := by
  unfold eM at hf
  obtain ⟨⟨o, e1⟩, h1, hf⟩ := Option.bind_eq_some_iff.mp hf
  obtain ⟨d0, h2, hf⟩ := Option.bind_eq_some_iff.mp hf
  split at hf
  · rename_i hty
    obtain ⟨⟨os, e2⟩, h3, hf⟩ := Option.bind_eq_some_iff.mp hf
    obtain ⟨d, h4, hf⟩ := Option.bind_eq_some_iff.mp hf
    obtain ⟨ds, h5, hf⟩ := Option.bind_eq_some_iff.mp hf
    obtain ⟨z', h6, hf⟩ := Option.map_eq_some_iff.mp hf
    cases hf
    exact ⟨x, env, Hs, o, e1, I, h1, fun v H1 Hs1 I1 s1 o1 => ⟨ht Hs1 H1 d0 v hty (I1.pk o1 h2), x, e1, Hs1, os, _, I1, h3, fun vs H2 Hs2 I2 s2 o2 => k d ds v vs H2 Hs2 I2 (s1.trans s2) (I2.pk (o1.mono s2) h4) (I2.pks o2 h5) h6⟩⟩
  · cases hf
theorem de_m {T id : String} {name : Str} {ty : D → Bool} {r : V → List V → Hp → VK → Prop} {g : D → List D → Option D} {o e : Expr} {es : List Expr} {fo : FO} {fa : FA} {apos cpos : Pos} (pa : PlainAttrs T) (slot : Slot T name id) (hty : typeOf (.builtin id) = pure (.type "method_descriptor"))
    (hm : MtR X id r) (ht : TyOk X.K T ty) (hv : MV X.K r g) (ho : DO X o fo) (ha : DA X (e :: es) fa) (hbase : attributeBase o name X.env (eval o X.env) = eval o X.env := by rfl)
    (hfew : ((backTo cpos (starEach (e :: es) X.env)).all (fun x => !x.1) && (backToKw cpos (keywordEach [] X.env)).all (fun x => x.1.isSome)
      && decide ((e :: es).length + ([] : List Keyword).length + (if ([] : List Keyword).isEmpty then 0 else 1) < 30)) = true := by rfl)
    (hline : (apos.endLine == cpos.line) = true := by rfl) (hs : starEach (e :: es) X.env = (false, eval e X.env) :: starEach es X.env := by rfl) (hplain : (backTo cpos (starEach es X.env)).any (·.1) = false := by rfl) :
    DE X (.Call (.Attribute o name apos) (e :: es) [] cpos) (eM ty g fo fa) := by
  refine imp (pe_bm pa slot hty hm ho ha hbase hfew hline hs hplain) fun σ H Q h => ?_
  obtain ⟨x, env, Hs, d, env', I, hf, k⟩ := h
  refine mRun (R := fun v vs H' => r v vs H' Q) ht I hf fun d ds v vs H' Hs' I' s p ps hg => ?_
  obtain ⟨u, hu, hr⟩ := hv Hs' H' d ds _ v vs I'.ex p ps hg
  exact hr Q (k u H' Hs' I' s hu)
theorem df_m {T id : String} {name : Str} {ty : D → Bool} {r : V → List V → Hp → VK → Prop} {g : D → List D → Option D} {o e : Expr} {es : List Expr} {fo : FO} {fa : FA} {apos cpos : Pos} (pa : PlainAttrs T) (slot : Slot T name id) (hty : typeOf (.builtin id) = pure (.type "method_descriptor"))
    (hm : MtR X id r) (ht : TyOk X.K T ty) (hv : MF X.K r g) (ho : DO X o fo) (ha : DA X (e :: es) fa) (hbase : attributeBase o name X.env (eval o X.env) = eval o X.env := by rfl)
    (hfew : ((backTo cpos (starEach (e :: es) X.env)).all (fun x => !x.1) && (backToKw cpos (keywordEach [] X.env)).all (fun x => x.1.isSome)
      && decide ((e :: es).length + ([] : List Keyword).length + (if ([] : List Keyword).isEmpty then 0 else 1) < 30)) = true := by rfl)
    (hline : (apos.endLine == cpos.line) = true := by rfl) (hs : starEach (e :: es) X.env = (false, eval e X.env) :: starEach es X.env := by rfl) (hplain : (backTo cpos (starEach es X.env)).any (·.1) = false := by rfl) :
    DF X (.Call (.Attribute o name apos) (e :: es) [] cpos) (eM ty g fo fa) := by
  refine imp (pe_bm pa slot hty hm ho ha hbase hfew hline hs hplain) fun σ H Q h => ?_
  obtain ⟨x, env, Hs, d, env', I, hf, k⟩ := h
  refine mRun (R := fun v vs H' => r v vs H' Q) ht I hf fun d ds v vs H' Hs' I' s p ps hg => ?_
  obtain ⟨ob, hu, hr⟩ := hv Hs' H' d ds _ v vs I'.ex p ps hg
  exact hr Q fun p hp => k p _ Hs' (I'.new hp) s (hu p) (I'.hs_none hp) (I'.fm_none hp) (I'.apart hp)
def pre (a b : List Nat) : Bool := b.isPrefixOf a
theorem starts_pre (a b : List Nat) : Txt.startswith (S a) (S b) = b.isPrefixOf a := by
  unfold Txt.startswith Builtin.Str.subAt
  rw [S_len, S_len, Nat.zero_add]
  by_cases h : b <+: a
  · obtain ⟨t, rfl⟩ := h
    rw [List.isPrefixOf_iff_prefix.mpr ⟨t, rfl⟩]
    simp
  · have e : b.isPrefixOf a = false := by
      cases q : b.isPrefixOf a with
      | false => rfl
      | true => exact absurd (List.isPrefixOf_iff_prefix.mp q) h
    rw [e]
    rw [Bool.and_eq_false_iff]
    by_cases hl : b.length ≤ a.length
    · right
      rw [beq_eq_false_iff_ne]
      intro z
      apply h
      have z2 : (a.toArray.extract 0 b.length).toList = b := by
        have : (S a).cps.extract 0 b.length = b.toArray := z
        rw [show (S a).cps = a.toArray from rfl] at this
        rw [this]
      rw [show (a.toArray.extract 0 b.length).toList = a.take b.length by simp] at z2
      refine ⟨a.drop b.length, ?_⟩
      conv => lhs; arg 1; rw [← z2]
      exact List.take_append_drop _ _
    · left
      simpa using hl
def startsD : D → List D → Option D
  | .str a, [.str b] => some (.bl (b.isPrefixOf a))
  | _, _ => none
def rStarts : V → List V → Hp → VK → Prop := fun x xs H Q => ∃ a b, x = .str a ∧ xs = [.str b] ∧ Q (.bl (Txt.startswith a b)) H
theorem mv_starts : MV K rStarts startsD := by
  intro Hs H d ds z x xs ex p ps h
  match d, ds, h with
  | .str a, [.str b], h =>
    obtain ⟨v, rfl, q⟩ := pks1 ps
    have p : x = .str (S a) := p
    have q : v = .str (S b) := q
    subst p q
    cases h
    exact ⟨.bl (b.isPrefixOf a), by simp only [Rp], fun Q q => ⟨S a, S b, rfl, rfl, by rw [starts_pre]; exact q⟩⟩
def rJoin (K : PySem.W.Frag) : V → List V → Hp → VK → Prop := fun x xs H Q => ∃ a p, ∃ ys : List Str, x = .str a ∧ xs = [.ref p] ∧ (SqL K H p (ys.map V.str) ∨ SqT K H p (ys.map V.str)) ∧ (ys.map (·.length)).sum + ys.length * a.length ≤ 16777216 ∧ Q (.str (Txt.join a ys)) H
def joinD : D → List D → Option D
  | .str a, [.lst ds] => (strsD ds).bind fun xs => if (xs.map (·.length)).sum + xs.length * a.length ≤ 16777216 then some (.str (TL.joinL a xs)) else none
  | _, _ => none
theorem join_q (a : List Nat) (ys : List (List Nat)) : Txt.join (S a) (ys.map S) = S (TL.joinL a ys) := SX.join_S a ys
theorem len_sum : ∀ xs : List (List Nat), ((xs.map S).map (·.length)).sum = (xs.map (·.length)).sum
  | [] => rfl
  | x :: r => by
    simp only [List.map_cons, List.sum_cons]
    rw [S_len, len_sum r]
theorem mv_join : MV K (rJoin K) joinD := by
  intro Hs H d ds z x xs ex p ps h
  match d, ds, h with
  | .str a, [.lst ds], h =>
    obtain ⟨v, rfl, q⟩ := pks1 ps
    have p : x = .str (S a) := p
    subst p
    obtain ⟨l, vs, rfl, h2, h3⟩ := q
    obtain ⟨ys, hb, h⟩ := Option.bind_eq_some_iff.mp (show (strsD ds).bind (fun xs => if (xs.map (·.length)).sum + xs.length * a.length ≤ 16777216 then some (D.str (TL.joinL a xs)) else none) = some z from h)
    split at h
    · rename_i hz
      cases h
      rw [strsD_eq hb] at h3
      have e := h3.strs
      subst e
      exact ⟨.str (S (TL.joinL a ys)), by simp only [Rp], fun Q q => ⟨S a, l, ys.map S, rfl, rfl, .inl (SqL.of h2), by rw [len_sum, List.length_map, S_len]; exact hz, by rw [join_q]; exact q⟩⟩
    · cases h
def eAnd (fa fb : FE) : FE := fun env => (fa env).bind fun p => match p.1 with
  | .bl true => fb p.2
  | .bl false => some (.bl false, p.2)
  | _ => none
def eOr (fa fb : FE) : FE := fun env => (fa env).bind fun p => match p.1 with
  | .bl true => some (.bl true, p.2)
  | .bl false => fb p.2
  | _ => none
def eNot (fa : FE) : FE := fun env => (fa env).bind fun p => match p.1 with
  | .bl b => some (.bl (!b), p.2)
  | _ => none
def eIf (ft fa fb : FE) : FE := fun env => (ft env).bind fun p => match p.1 with
  | .bl true => fa p.2
  | .bl false => fb p.2
  | _ => none
abbrev DW (X : Cx) (e : Expr) (f : FE) : Prop := PW X e (rdT X.K f)
theorem de_one {op} {a : Expr} {f : FE} {pos : Pos} (h : DE X a f) : DE X (.BoolOp op [a] pos) f := pe_one h
theorem de_and {a b : Expr} {rest : List Expr} {fa fb : FE} {pos : Pos} (ha : DE X a fa) (hb : DE X (.BoolOp .And (b :: rest) pos) fb) : DE X (.BoolOp .And (a :: b :: rest) pos) (eAnd fa fb) := by
  refine imp (pe_and ha hb) fun σ H Q h => ?_
  obtain ⟨x, env, Hs, d, env', I, hf, k⟩ := h
  obtain ⟨⟨c, e1⟩, h1, hf⟩ := Option.bind_eq_some_iff.mp hf
  refine ⟨x, env, Hs, c, e1, I, h1, fun v H1 Hs1 I1 s1 r1 => ?_⟩
  cases c <;> try (cases hf; done)
  rename_i b
  simp only [Rp] at r1
  refine ⟨b, r1, ?_⟩
  cases b with
  | true => exact ⟨x, e1, Hs1, d, env', I1, hf, fun v H2 Hs2 I2 s2 r2 => k v H2 Hs2 I2 (s1.trans s2) r2⟩
  | false =>
    cases hf
    exact k _ H1 Hs1 I1 s1 (by simp only [Rp])
theorem de_or {a b : Expr} {rest : List Expr} {fa fb : FE} {pos : Pos} (ha : DE X a fa) (hb : DE X (.BoolOp .Or (b :: rest) pos) fb) : DE X (.BoolOp .Or (a :: b :: rest) pos) (eOr fa fb) := by
  refine imp (pe_or ha hb) fun σ H Q h => ?_
  obtain ⟨x, env, Hs, d, env', I, hf, k⟩ := h
  obtain ⟨⟨c, e1⟩, h1, hf⟩ := Option.bind_eq_some_iff.mp hf
  refine ⟨x, env, Hs, c, e1, I, h1, fun v H1 Hs1 I1 s1 r1 => ?_⟩
  cases c <;> try (cases hf; done)
  rename_i b
  simp only [Rp] at r1
  refine ⟨b, r1, ?_⟩
  cases b with
  | false => exact ⟨x, e1, Hs1, d, env', I1, hf, fun v H2 Hs2 I2 s2 r2 => k v H2 Hs2 I2 (s1.trans s2) r2⟩
  | true =>
    cases hf
    exact k _ H1 Hs1 I1 s1 (by simp only [Rp])
theorem de_not {a : Expr} {fa : FE} {pos : Pos} (ha : DE X a fa) : DE X (.UnaryOp .Not a pos) (eNot fa) := by
  refine imp (pe_not ha) fun σ H Q h => ?_
  obtain ⟨x, env, Hs, d, env', I, hf, k⟩ := h
  obtain ⟨⟨c, e1⟩, h1, hf⟩ := Option.bind_eq_some_iff.mp hf
  refine ⟨x, env, Hs, c, e1, I, h1, fun v H1 Hs1 I1 s1 r1 => ?_⟩
  cases c <;> try (cases hf; done)
  rename_i b
  simp only [Rp] at r1
  cases hf
  exact ⟨b, r1, k _ H1 Hs1 I1 s1 (by simp only [Rp])⟩
theorem dw_and1 {a : Expr} {f : FE} {pos : Pos} (h : DT X a f) : DW X (.BoolOp .And [a] pos) f := pw_and1 h
theorem dw_or1 {a : Expr} {f : FE} {pos : Pos} (h : DT X a f) : DW X (.BoolOp .Or [a] pos) f := pw_or1 h
theorem impW {e : Expr} {t u : TT} (h : PW X e t) (k : ∀ σ H Q, u σ H Q → t σ H Q) : PW X e u := ⟨fun wh pins s σ H Q I q => h.run wh pins s σ H Q I (k σ H Q q)⟩
theorem dw_and {a b : Expr} {rest : List Expr} {fa fb : FE} {pos : Pos} (ha : DT X a fa) (hb : DW X (.BoolOp .And (b :: rest) pos) fb) : DW X (.BoolOp .And (a :: b :: rest) pos) (eAnd fa fb) := by
  refine impW (pw_and ha hb) fun σ H Q h => ?_
  obtain ⟨x, env, Hs, d, env', I, hf, k⟩ := h
  obtain ⟨⟨c, e1⟩, h1, hf⟩ := Option.bind_eq_some_iff.mp hf
  cases c <;> try (cases hf; done)
  rename_i b
  refine ⟨x, env, Hs, b, e1, I, h1, fun H1 Hs1 I1 s1 => ?_⟩
  cases b with
  | true => exact ⟨x, e1, Hs1, d, env', I1, hf, fun H2 Hs2 I2 s2 => k H2 Hs2 I2 (s1.trans s2)⟩
  | false =>
    cases hf
    exact k H1 Hs1 I1 s1
theorem dw_or {a b : Expr} {rest : List Expr} {fa fb : FE} {pos : Pos} (ha : DT X a fa) (hb : DW X (.BoolOp .Or (b :: rest) pos) fb) : DW X (.BoolOp .Or (a :: b :: rest) pos) (eOr fa fb) := by
  refine impW (pw_or ha hb) fun σ H Q h => ?_
  obtain ⟨x, env, Hs, d, env', I, hf, k⟩ := h
  obtain ⟨⟨c, e1⟩, h1, hf⟩ := Option.bind_eq_some_iff.mp hf
  cases c <;> try (cases hf; done)
  rename_i b
  refine ⟨x, env, Hs, b, e1, I, h1, fun H1 Hs1 I1 s1 => ?_⟩
  cases b with
  | false => exact ⟨x, e1, Hs1, d, env', I1, hf, fun H2 Hs2 I2 s2 => k H2 Hs2 I2 (s1.trans s2)⟩
  | true =>
    cases hf
    exact k H1 Hs1 I1 s1
theorem dt_w {e : Expr} {f : FE} (h : DW X e f) : DT X e f := h.pt
theorem dt_not {a : Expr} {fa : FE} {pos : Pos} (ha : DT X a fa) : DT X (.UnaryOp .Not a pos) (eNot fa) := by
  refine impT (pt_not ha) fun σ H Q h => ?_
  obtain ⟨x, env, Hs, d, env', I, hf, k⟩ := h
  obtain ⟨⟨c, e1⟩, h1, hf⟩ := Option.bind_eq_some_iff.mp hf
  cases c <;> try (cases hf; done)
  rename_i b
  cases hf
  exact ⟨x, env, Hs, b, _, I, h1, fun H1 Hs1 I1 s1 => k H1 Hs1 I1 s1⟩
theorem de_if {c a b : Expr} {fc fa fb : FE} {pos : Pos} (hc : DT X c fc) (ha : DE X a fa) (hb : DE X b fb) : DE X (.IfExp c a b pos) (eIf fc fa fb) := by
  refine imp (pe_ifExp hc ha hb) fun σ H Q h => ?_
  obtain ⟨x, env, Hs, d, env', I, hf, k⟩ := h
  obtain ⟨⟨c, e1⟩, h1, hf⟩ := Option.bind_eq_some_iff.mp hf
  cases c <;> try (cases hf; done)
  rename_i b
  refine ⟨x, env, Hs, b, e1, I, h1, fun H1 Hs1 I1 s1 => ?_⟩
  cases b with
  | true => exact ⟨x, e1, Hs1, d, env', I1, hf, fun v H2 Hs2 I2 s2 r2 => k v H2 Hs2 I2 (s1.trans s2) r2⟩
  | false => exact ⟨x, e1, Hs1, d, env', I1, hf, fun v H2 Hs2 I2 s2 r2 => k v H2 Hs2 I2 (s1.trans s2) r2⟩
def eNeg (fa : FE) : FE := fun env => (fa env).bind fun p => match p.1 with
  | .int i => some (.int (-i), p.2)
  | _ => none
theorem de_neg {a : Expr} {fa : FE} {pos : Pos} (ha : DE X a fa) : DE X (.UnaryOp .USub a pos) (eNeg fa) := by
  refine imp (pe_un un_neg ha) fun σ H Q h => ?_
  obtain ⟨x, env, Hs, d, env', I, hf, k⟩ := h
  obtain ⟨⟨c, e1⟩, h1, hf⟩ := Option.bind_eq_some_iff.mp hf
  refine ⟨x, env, Hs, c, e1, I, h1, fun v H1 Hs1 I1 s1 r1 => ?_⟩
  cases c <;> try (cases hf; done)
  rename_i i
  simp only [Rp] at r1
  cases hf
  exact ⟨i, r1, k _ H1 Hs1 I1 s1 (by simp only [Rp])⟩
theorem de_ty {n : String} {y : Str} {pos : Pos} (hm : X.mg y = none) (hv : bootBuiltins y = some (.type n)) (hg : Gl X y := by rfl) (hn : y ≠ "__name__" := by decide) (hdb : (y == ("__debug__" : Str)) = false := by decide) : DE X (.Name y pos) (eK (.ty n)) :=
  imp (pe_bltn (v := .ty n) hg hm hv rfl hn hdb) fun σ H Q h => by
  obtain ⟨x, env, Hs, d, env', I, hf, k⟩ := h
  cases hf
  exact k _ H Hs I (Same.refl _) (by simp only [Rp])
def tyN : D → Option String
  | .non => some "NoneType"
  | .bl _ => some "bool"
  | .int _ => some "int"
  | .str _ => some "str"
  | .tup _ => some "tuple"
  | .lst _ => some "list"
  | .dic _ => some "dict"
  | _ => none
def isiB (a b : String) : Bool := a == b || (a == "bool" && b == "int")
def knownT (b : String) : Bool := b == "int" || b == "bool" || b == "str" || b == "tuple" || b == "list" || b == "dict"
def isiD : List D → Option D
  | [d, .ty n] => if knownT n then (tyN d).map fun t => .bl (isiB t n) else none
  | _ => none
theorem kit_all : ∀ a ∈ ["NoneType", "bool", "int", "str", "tuple", "list", "dict"], ∀ b ∈ ["int", "bool", "str", "tuple", "list", "dict"], kitB a b = some (isiB a b) := by decide +kernel
theorem tyN_x {Hs H : Hp} {d : D} {v : V} {t : String} (h : tyN d = some t) (p : Pk K Hs H d v) : TyX K H v (.type t) ∧ t ∈ ["NoneType", "bool", "int", "str", "tuple", "list", "dict"] := by
  cases d <;> try (cases h; done)
  · cases h
    cases (show v = .non from p)
    exact ⟨.base .non, by decide⟩
  · cases h
    rename_i b
    cases (show v = .bl b from p)
    exact ⟨.base (.bl b), by decide⟩
  · cases h
    rename_i b
    cases (show v = .int b from p)
    exact ⟨.base (.int b), by decide⟩
  · cases h
    rename_i b
    cases (show v = .str (S b) from p)
    exact ⟨.base (.str _), by decide⟩
  · cases h
    obtain ⟨a, vs, rfl, h2, _⟩ := p
    refine ⟨?_, by decide⟩
    rcases h2 with (h2 | ⟨o, h2⟩) | ⟨o, its, n, h2, h3, _⟩
    · exact .base (.tup h2)
    · exact .fTuple h2
    · exact .kTuple h2 h3
  · cases h
    obtain ⟨a, vs, rfl, h2, _⟩ := p
    exact ⟨.base (.lst h2), by decide⟩
  · cases h
    obtain ⟨a, vs, rfl, h2, _⟩ := p
    exact ⟨.base (.dK h2), by decide⟩
theorem cv_isi : CV K (rIsi K) isiD := by
  intro Hs H ds z vs ex ps h
  match ds, h with
  | [d, .ty n], h =>
    obtain ⟨v, w, rfl, p, q⟩ := pks2 ps
    have h : (if knownT n then (tyN d).map fun t => D.bl (isiB t n) else none) = some z := h
    split at h
    · rename_i hk
      obtain ⟨t, ht, h⟩ := Option.map_eq_some_iff.mp h
      cases h
      cases (show w = .ty n from q)
      obtain ⟨h1, h2⟩ := tyN_x ht p
      have h3 : n ∈ ["int", "bool", "str", "tuple", "list", "dict"] := by
        unfold knownT at hk
        simp only [Bool.or_eq_true, beq_iff_eq] at hk
        simp only [List.mem_cons, List.mem_nil_iff, or_false]
        rcases hk with ((((h | h) | h) | h) | h) | h <;> simp [h]
      exact ⟨.bl (isiB t n), by simp only [Rp], fun Q q => ⟨v, .ty n, .type t, .type n, isiB t n, rfl, .ty n, h1, kit_ty (kit_all t h2 n h3), q⟩⟩
    · cases h
end
end Qd
namespace Qd
open PySem PySem.Spec L2
section
variable {X : Cx} {K : PySem.W.Frag}
def eMut (i : Nat) (g : List D → List D → Option (D × List D)) (fa : FA) : FE := fun env => match env[i]? with
  | some (some (_, .lst _)) => (fa env).bind fun p => (allD p.1).bind fun as => match p.2[i]? with
    | some (some (.sh, _)) => none
    | some (some (k, .lst ds)) => (g ds as).map fun z => (z.1, p.2.set i (some (k, .lst z.2)))
    | _ => none
  | _ => none
def MM (K : PySem.W.Frag) (r : V → List V → Hp → VK → Prop) (g : List D → List D → Option (D × List D)) : Prop := ∀ (Hs H : Hp) (p : Addr) (ds : List D) (vs : List V) (as : List D) (xs : List V) (z : D) (ds' : List D), Same Hs H → H p = some (.lst vs) → Rps K Hs ds vs → Rps K Hs as xs → g ds as = some (z, ds') → ∃ u vs', Rp K Hs z u ∧ Rps K Hs ds' vs' ∧ ∀ Q : VK, Q u (upd H p (.lst vs')) → r (.ref p) xs H Q
theorem mutRun {i : Nat} {g : List D → List D → Option (D × List D)} {fa : FA} {x : Fx} {env env' : En} {σ : L2.St} {Hs H : Hp} {z : D} {r : V → List V → Hp → VK → Prop} {Q : VK} (hm : MM K r g) (I : IV K x env σ Hs H) (hf : eMut i g fa env = some (z, env'))
    (k : ∀ v H' Hs', IV K x env' σ Hs' H' → Same Hs Hs' → Rp K Hs' z v → Q v H') : rdO K (oS i) σ H fun v H1 => tyV K "list" v H1 ∧ rdA K fa σ H1 fun vs H2 => r v vs H2 Q := by
  unfold eMut at hf
  split at hf
  · rename_i kd ds0 hi0
    obtain ⟨⟨os, e2⟩, h1, hf⟩ := Option.bind_eq_some_iff.mp hf
    obtain ⟨as, h2, hf⟩ := Option.bind_eq_some_iff.mp hf
    split at hf
    · cases hf
    · rename_i kk ds hks hi2
      obtain ⟨⟨z1, ds'⟩, h3, hf⟩ := Option.map_eq_some_iff.mp hf
      cases hf
      have e0 : os = as.map Ov.d := allD_eq h2
      have hk : kk ≠ .sh := hks
      obtain ⟨v0, hv0, p0⟩ := I.slot hi0
      refine ⟨x, env, Hs, .s i, env, I, by unfold oS; rw [hi0], fun v H1 Hs1 I1 s1 o1 => ⟨?_, x, env, Hs1, os, e2, I1, h1, fun vs H2 Hs2 I2 s2 o2 => ?_⟩⟩
      · have o1 : σ[i]? = some (some v) := o1
        obtain ⟨v1, hv1, p1⟩ := I1.slot hi0
        rw [o1] at hv1
        cases hv1
        exact ty_lst Hs1 H1 (.lst ds0) v rfl p1
      · have o1 : σ[i]? = some (some v) := o1
        have hi2 : e2[i]? = some (some (kk, .lst ds)) := hi2
        obtain ⟨p, a, b, c, ow, _⟩ := I2.ow i kk (.lst ds) hi2 hk
        rw [o1] at a
        cases a
        obtain ⟨ws, hp, rw'⟩ := ow
        rw [e0] at o2
        obtain ⟨u, vs', ru, rvs, hr⟩ := hm Hs2 H2 p ds ws as vs _ ds' I2.ex hp rw' o2.rps h3
        exact hr Q (k u _ Hs2 (I2.put hi2 hk o1 ⟨vs', upd_same, rvs⟩) (s1.trans s2) ru)
    · cases hf
  · cases hf
theorem de_mut (i : Nat) {x : Str} {id : String} {name : Str} {r : V → List V → Hp → VK → Prop} {g : List D → List D → Option (D × List D)} {e : Expr} {es : List Expr} {fa : FA} {pos apos cpos : Pos} (slot : Slot "list" name id) (hty : typeOf (.builtin id) = pure (.type "method_descriptor"))
    (hm : MtR X id r) (hv : MM X.K r g) (ha : DA X (e :: es) fa) (hN : X.N[i]? = some x := by rfl) (hvis : Vis X.env.scope x := by first | exact Or.inl rfl | exact Or.inr (Or.inl rfl) | exact Or.inr (Or.inr rfl)) (hd : (x == ("__debug__" : Str)) = false := by decide)
    (hcd : (x == ("__classdict__" : Str)) = false := by decide) (hbase : attributeBase (.Name x pos) name X.env (eval (.Name x pos) X.env) = eval (.Name x pos) X.env := by rfl)
    (hfew : ((backTo cpos (starEach (e :: es) X.env)).all (fun x => !x.1) && (backToKw cpos (keywordEach [] X.env)).all (fun x => x.1.isSome)
      && decide ((e :: es).length + ([] : List Keyword).length + (if ([] : List Keyword).isEmpty then 0 else 1) < 30)) = true := by rfl)
    (hline : (apos.endLine == cpos.line) = true := by rfl) (hs : starEach (e :: es) X.env = (false, eval e X.env) :: starEach es X.env := by rfl) (hplain : (backTo cpos (starEach es X.env)).any (·.1) = false := by rfl) :
    DE X (.Call (.Attribute (.Name x pos) name apos) (e :: es) [] cpos) (eMut i g fa) := by
  refine imp (pe_bm PySem.F.plainAttrs_list slot hty hm (do_peek i hN hvis hd hcd) ha hbase hfew hline hs hplain) fun σ H Q h => ?_
  obtain ⟨y, env, Hs, d, env', I, hf, k⟩ := h
  exact mutRun hv I hf k
theorem de_mut0 (i : Nat) {x : Str} {id : String} {name : Str} {r : V → List V → Hp → VK → Prop} {g : List D → List D → Option (D × List D)} {pos apos cpos : Pos} (slot : Slot "list" name id) (hty : typeOf (.builtin id) = pure (.type "method_descriptor"))
    (hm : MtR X id r) (hv : MM X.K r g) (hN : X.N[i]? = some x := by rfl) (hvis : Vis X.env.scope x := by first | exact Or.inl rfl | exact Or.inr (Or.inl rfl) | exact Or.inr (Or.inr rfl)) (hd : (x == ("__debug__" : Str)) = false := by decide)
    (hcd : (x == ("__classdict__" : Str)) = false := by decide) (hbase : attributeBase (.Name x pos) name X.env (eval (.Name x pos) X.env) = eval (.Name x pos) X.env := by rfl) (hline : (apos.endLine == cpos.line) = true := by rfl) :
    DE X (.Call (.Attribute (.Name x pos) name apos) [] [] cpos) (eMut i g aNil) := by
  refine imp (pe_bm0 PySem.F.plainAttrs_list slot hty hm (do_peek i hN hvis hd hcd) hbase hline) fun σ H Q h => ?_
  obtain ⟨y, env, Hs, d, env', I, hf, k⟩ := h
  obtain ⟨y', env1, Hs1, o, e1, I1, h1, h2⟩ := mutRun hv I hf k
  refine ⟨y', env1, Hs1, o, e1, I1, h1, fun v H2 Hs2 I2 s2 r2 => ?_⟩
  obtain ⟨t, a, env3, Hs3, os, e3, I3, h3, h4⟩ := h2 v H2 Hs2 I2 s2 r2
  cases h3
  exact ⟨t, h4 [] H2 Hs3 I3 (Same.refl _) trivial⟩
def gApp : List D → List D → Option (D × List D)
  | ds, [d] => if ds.length < sizeLine then some (.non, ds ++ [d]) else none
  | _, _ => none
def gExt : List D → List D → Option (D × List D)
  | ds, [.lst es] => if ds.length + es.length ≤ sizeLine then some (.non, ds ++ es) else none
  | _, _ => none
def gPop : List D → List D → Option (D × List D)
  | ds, [] => match ds[ds.length - 1]? with
    | some d => some (d, ds.dropLast)
    | none => none
  | _, _ => none
def gPopAt : List D → List D → Option (D × List D)
  | ds, [.int i] => if 0 ≤ i ∧ i < 1000000 then match ds[i.toNat]? with
    | some d => some (d, ds.eraseIdx i.toNat)
    | none => none
    else none
  | _, _ => none
theorem Rps.dropLast {H : Hp} {ds : List D} {vs : List V} (r : Rps K H ds vs) : Rps K H ds.dropLast vs.dropLast := by
  rw [List.dropLast_eq_take, List.dropLast_eq_take, r.length]
  exact r.take _
theorem mm_app : MM K rAppend gApp := by
  intro Hs H p ds vs as xs z ds' ex hp r ra h
  match as, h with
  | [d], h =>
    have h : (if ds.length < sizeLine then some (D.non, ds ++ [d]) else none) = some (z, ds') := h
    split at h
    · rename_i hz
      cases h
      simp only [Rps] at ra
      obtain ⟨v, r', rfl, h1, rfl⟩ := ra
      exact ⟨.non, vs ++ [v], by simp only [Rp], r.append (by simp only [Rps]; exact ⟨v, [], rfl, h1, rfl⟩), fun Q q => ⟨p, vs, v, rfl, rfl, hp, by rw [r.length]; exact hz, q⟩⟩
    · cases h
theorem mm_ext : MM K rExtend gExt := by
  intro Hs H p ds vs as xs z ds' ex hp r ra h
  match as, h with
  | [.lst es], h =>
    have h : (if ds.length + es.length ≤ sizeLine then some (D.non, ds ++ es) else none) = some (z, ds') := h
    split at h
    · rename_i hz
      cases h
      simp only [Rps, Rp] at ra
      obtain ⟨v, r', rfl, ⟨b, ws, rfl, h1, h2⟩, rfl⟩ := ra
      exact ⟨.non, vs ++ ws, by simp only [Rp], r.append h2, fun Q q => ⟨p, b, vs, ws, rfl, rfl, hp, ex _ _ h1, by rw [r.length, h2.length]; exact hz, q⟩⟩
    · cases h
theorem mm_pop : MM K rPop gPop := by
  intro Hs H p ds vs as xs z ds' ex hp r ra h
  match as, h with
  | [], h =>
    have h : (match ds[ds.length - 1]? with
      | some d => some (d, ds.dropLast)
      | none => none) = some (z, ds') := h
    split at h
    · rename_i d hd
      cases h
      simp only [Rps] at ra
      subst ra
      obtain ⟨v, hv, rv⟩ := r.get hd
      exact ⟨v, vs.dropLast, rv, r.dropLast, fun Q q => ⟨p, vs, v, rfl, rfl, hp, by rw [r.length]; exact hv, q⟩⟩
    · cases h
theorem mm_popAt : MM K rPopAt gPopAt := by
  intro Hs H p ds vs as xs z ds' ex hp r ra h
  match as, h with
  | [.int i], h =>
    have h : (if 0 ≤ i ∧ i < 1000000 then match ds[i.toNat]? with
      | some d => some (d, ds.eraseIdx i.toNat)
      | none => none
      else none) = some (z, ds') := h
    split at h
    · rename_i hz
      split at h
      · rename_i d hd
        cases h
        simp only [Rps, Rp] at ra
        obtain ⟨v, r', rfl, rfl, rfl⟩ := ra
        obtain ⟨v, hv, rv⟩ := r.get hd
        have hl : i.toNat < vs.length := (List.getElem?_eq_some_iff.mp hv).1
        refine ⟨v, vs.eraseIdx i.toNat, rv, r.eraseIdx _, fun Q q => ⟨p, vs, i, i.toNat, v, rfl, rfl, hp, by omega, by omega, ?_, hv, q⟩⟩
        have e1 : (decide (0 ≤ i) && decide (i < (vs.length : Int))) = true := by
          simp
          omega
        unfold seqIndex?
        rw [if_neg (show ¬ i < 0 by omega)]
        show (if (decide (0 ≤ i) && decide (i < (vs.length : Int))) = true then some i.toNat else none) = _
        rw [if_pos e1]
      · cases h
    · cases h
abbrev FG := En → D → Option En
def Off (vs : List Nat) (σ σ' : L2.St) : Prop := σ'.length = σ.length ∧ ∀ j, j ∉ vs → σ'[j]? = σ[j]?
def rdG (K : PySem.W.Frag) (f : FG) (vs : List Nat) : TG := fun v σ H Q => ∃ x env Hs d env', IV K x env σ Hs H ∧ Rp K Hs d v ∧ f env d = some env' ∧ ∀ σ' H' Hs', IV K x env' σ' Hs' H' → Same Hs Hs' → Off vs σ σ' → Q σ' H'
abbrev DG (X : Cx) (tg : Expr) (f : FG) (vs : List Nat) : Prop := PG X tg (rdG X.K f vs)
def okSet (env : En) (i : Nat) : Bool := match env[i]? with
  | some (some (.pn, _)) => false
  | some _ => true
  | none => false
theorem okSet_lt {env : En} {i : Nat} (h : okSet env i = true) : i < env.length := by
  unfold okSet at h
  split at h
  · cases h
  · rename_i hq
    exact (List.getElem?_eq_some_iff.mp hq).1
  · cases h
def gN (i : Nat) : FG := fun env d => if okSet env i then some (env.set i (some (.sh, d))) else none
theorem dg_name (i : Nat) {x : Str} {pos : Pos} (hN : X.N.Nodup) (hi : X.N[i]? = some x := by rfl) (hx : Loc X.env.scope x := by first | exact Or.inl rfl | exact Or.inr rfl) (hf : X.fn x = true ∨ X.env.scope.names.lookup x = some .local := by first | exact .inl rfl | exact .inr rfl | assumption) : DG X (.Name x pos) (gN i) [i] := by
  have h := pg_name (pos := pos) hN hi hx hf
  refine ⟨fun pins s σ H v u Q I r hh => h.run pins s σ H v u Q I r ?_⟩
  obtain ⟨y, env, Hs, d, env', I, rp, hf, k⟩ := hh
  unfold gN at hf
  split at hf
  · rename_i ho
    cases hf
    exact k _ H Hs (I.setSh (by rw [← I.len]; exact okSet_lt ho) rp) (Same.refl _) ⟨List.length_set, fun j hj => List.getElem?_set_ne (fun e => hj (by simp [e]))⟩
  · cases hf
abbrev FGs := En → List D → Option En
def rdGs (K : PySem.W.Frag) (f : FGs) (us : List Nat) : TGs := fun vs σ H Q => ∃ x env Hs ds env', IV K x env σ Hs H ∧ Rps K Hs ds vs ∧ f env ds = some env' ∧ ∀ σ' H' Hs', IV K x env' σ' Hs' H' → Same Hs Hs' → Off us σ σ' → Q σ' H'
abbrev DGs (X : Cx) (tg : List Expr) (f : FGs) (us : List Nat) : Prop := PGs X tg (rdGs X.K f us)
def gsNil : FGs := fun env ds => match ds with
  | [] => some env
  | _ => none
def gsCons (f : FG) (g : FGs) : FGs := fun env ds => match ds with
  | d :: r => (f env d).bind fun e => g e r
  | _ => none
def gT (n : Nat) (f : FGs) : FG := fun env d => match d with
  | .tup ds => if ds.length = n then f env ds else none
  | _ => none
theorem impGs {ts : List Expr} {t u : TGs} (h : PGs X ts t) (k : ∀ vs σ H Q, u vs σ H Q → t vs σ H Q) : PGs X ts u := ⟨fun pins s σ H vs us Q I r hh => h.run pins s σ H vs us Q I r (k vs σ H Q hh)⟩
theorem impG {ts : Expr} {t u : TG} (h : PG X ts t) (k : ∀ v σ H Q, u v σ H Q → t v σ H Q) : PG X ts u := ⟨fun pins s σ H v us Q I r hh => h.run pins s σ H v us Q I r (k v σ H Q hh)⟩
theorem dgs_nil : DGs X [] gsNil [] := impGs pgs_nil fun vs σ H Q h => by
  obtain ⟨y, env, Hs, ds, env', I, rp, hf, k⟩ := h
  unfold gsNil at hf
  split at hf
  · cases hf
    simp only [Rps] at rp
    exact ⟨rp, k σ H Hs I (Same.refl _) ⟨rfl, fun _ _ => rfl⟩⟩
  · cases hf
theorem dgs_cons {e : Expr} {es : List Expr} {f : FG} {g : FGs} {u1 u2 : List Nat} (h1 : DG X e f u1) (h2 : DGs X es g u2) (hs : (assignEach (e :: es) X.env).map (·.2) = assign e X.env :: (assignEach es X.env).map (·.2) := by rfl) : DGs X (e :: es) (gsCons f g) (u1 ++ u2) := impGs (pgs_cons h1 h2 hs) fun vs σ H Q h => by
  obtain ⟨y, env, Hs, ds, env', I, rp, hf, k⟩ := h
  unfold gsCons at hf
  split at hf
  · obtain ⟨e1, h3, hf⟩ := Option.bind_eq_some_iff.mp hf
    simp only [Rps] at rp
    obtain ⟨v, r, rfl, r1, r2⟩ := rp
    exact ⟨v, r, rfl, y, env, Hs, _, e1, I, r1, h3, fun σ' H' Hs' I' s' o' => ⟨y, e1, Hs', _, env', I', Rps.mono s' _ r2, hf, fun σ2 H2 Hs2 I2 s2 o2 => k σ2 H2 Hs2 I2 (s'.trans s2) ⟨o2.1.trans o'.1, fun j hj => (o2.2 j fun z => hj (List.mem_append_right _ z)).trans (o'.2 j fun z => hj (List.mem_append_left _ z))⟩⟩⟩
  · cases hf
theorem dg_tup {n : Nat} {es : List Expr} {kk : Nat} {f : FGs} {us : List Nat} {pos : Pos} (hc : X.calm = true) (h : DGs X es f us) (hn : (assignEach es X.env).length = n := by rfl) (hst : (assignEach es X.env).findIdx? (·.1) = none := by rfl) : DG X (.Tuple es kk pos) (gT n f) us := impG (pg_tup hc h hn hst) fun v σ H Q h => by
  obtain ⟨y, env, Hs, d, env', I, rp, hf, k⟩ := h
  unfold gT at hf
  split at hf
  · split at hf
    · rename_i ds hl
      simp only [Rp] at rp
      obtain ⟨a, vs, rfl, g2, g3⟩ := rp
      exact ⟨a, vs, rfl, same_sqT I.ex g2, by rw [g3.length]; exact hl, y, env, Hs, ds, env', I, g3, hf, k⟩
    · cases hf
  · cases hf
def sSeq (F G : FS) : FS := fun env => (F env).bind fun o => match o with
  | .nx e => G e
  | o => some o
def sNil : FS := fun env => some (.nx env)
def sE (f : FE) : FS := fun env => (f env).map fun p => .nx p.2
def sRet (f : FE) : FS := fun env => (f env).map fun p => .rt false p.1 p.2
def sRetF (f : FE) : FS := fun env => (f env).map fun p => .rt true p.1 p.2
def sRetN : FS := fun env => some (.rt false .non env)
def sIf (c : FE) (F G : FS) : FS := fun env => (c env).bind fun p => match p.1 with
  | .bl true => F p.2
  | .bl false => G p.2
  | _ => none
def sBk : FS := fun env => some (.bk env)
def sCt : FS := fun env => some (.ct env)
def sG (f : FE) (g : FG) : FS := fun env => (f env).bind fun p => (g p.2 p.1).map fun e => .nx e
def sOw (i : Nat) (f : FE) : FS := fun env => (f env).bind fun p => if okSet p.2 i then some (.nx (p.2.set i (some (.ow, p.1)))) else none
theorem dss_nil : DSs X [] sNil := impSs pss_nil fun Z σ H h => by
  obtain ⟨y, env, Hs, o, I, hf, k⟩ := h
  cases hf
  exact k σ H Hs I (Same.refl _)
theorem dss_cons {st : Stmt} {rest : List Stmt} {F G : FS} (h1 : DS X st F) (h2 : DSs X rest G) : DSs X (st :: rest) (sSeq F G) := impSs (pss_cons h1 h2) fun Z σ H h => by
  obtain ⟨y, env, Hs, o, I, hf, k⟩ := h
  obtain ⟨o1, h1, hf⟩ := Option.bind_eq_some_iff.mp hf
  refine ⟨y, env, Hs, o1, I, h1, ?_⟩
  cases o1 with
  | nx e => exact fun σ' H' Hs' I' s' => ⟨y, e, Hs', o, I', hf, k.mono s'⟩
  | bk e => cases hf; exact k
  | ct e => cases hf; exact k
  | rt b d e =>
    cases hf
    cases b with
    | true => exact k
    | false => exact k
theorem dss_one {st : Stmt} {F : FS} (h1 : DS X st F) : DSs X [st] F := pss_one h1
theorem ds_expr {e : Expr} {f : FE} {pos : Pos} (h : DE X e f) (hs : swapsWith e none pos.line X.env = pure false := by rfl) : DS X (.Expr e pos) (sE f) := impS (ps_expr h hs) fun Z σ H h => by
  obtain ⟨y, env, Hs, o, I, hf, k⟩ := h
  obtain ⟨⟨d, e1⟩, h1, hf⟩ := Option.map_eq_some_iff.mp hf
  cases hf
  exact ⟨y, env, Hs, d, e1, I, h1, fun v H' Hs' I' s' _ => k σ H' Hs' I' s'⟩
theorem ds_pass {pos : Pos} : DS X (.Pass pos) sNil := impS ps_pass fun Z σ H h => by
  obtain ⟨y, env, Hs, o, I, hf, k⟩ := h
  cases hf
  exact k σ H Hs I (Same.refl _)
theorem ds_break {pos : Pos} : DS X (.Break pos) sBk := impS ps_break fun Z σ H h => by
  obtain ⟨y, env, Hs, o, I, hf, k⟩ := h
  cases hf
  exact k σ H Hs I (Same.refl _)
theorem ds_continue {pos : Pos} : DS X (.Continue pos) sCt := impS ps_continue fun Z σ H h => by
  obtain ⟨y, env, Hs, o, I, hf, k⟩ := h
  cases hf
  exact k σ H Hs I (Same.refl _)
theorem ds_ret {e : Expr} {f : FE} {pos : Pos} (h : DE X e f) : DS X (.Return (some e) pos) (sRet f) := impS (ps_ret h) fun Z σ H h => by
  obtain ⟨y, env, Hs, o, I, hf, k⟩ := h
  obtain ⟨⟨d, e1⟩, h1, hf⟩ := Option.map_eq_some_iff.mp hf
  cases hf
  exact ⟨y, env, Hs, d, e1, I, h1, fun v H' Hs' I' s' r => k v σ H' Hs' I' s' r⟩
theorem ds_retF {e : Expr} {f : FE} {pos : Pos} (h : DF X e f) : DS X (.Return (some e) pos) (sRetF f) := impS (ps_ret h) fun Z σ H h => by
  obtain ⟨y, env, Hs, o, I, hf, k⟩ := h
  obtain ⟨⟨d, e1⟩, h1, hf⟩ := Option.map_eq_some_iff.mp hf
  cases hf
  exact ⟨y, env, Hs, d, e1, I, h1, fun p H' Hs' I' s' o n m ap => k p σ H' Hs' I' s' o n m ap⟩
theorem ds_retN {pos : Pos} : DS X (.Return none pos) sRetN := impS ps_retN fun Z σ H h => by
  obtain ⟨y, env, Hs, o, I, hf, k⟩ := h
  cases hf
  exact k .non σ H Hs I (Same.refl _) (by simp only [Rp])
theorem ds_if {c : Expr} {a b : List Stmt} {fc : FE} {F G : FS} {pos : Pos} (hc : DT X c fc) (ha : DSs X a F) (hb : DSs X b G) : DS X (.If c a b pos) (sIf fc F G) := impS (ps_if hc ha hb) fun Z σ H h => by
  obtain ⟨y, env, Hs, o, I, hf, k⟩ := h
  obtain ⟨⟨d, e1⟩, h1, hf⟩ := Option.bind_eq_some_iff.mp hf
  cases d <;> try (cases hf; done)
  rename_i b
  refine ⟨y, env, Hs, b, e1, I, h1, fun H' Hs' I' s' => ?_⟩
  cases b with
  | true => exact ⟨y, e1, Hs', o, I', hf, k.mono s'⟩
  | false => exact ⟨y, e1, Hs', o, I', hf, k.mono s'⟩
/-- target = e -/
theorem ds_asg {tg e : Expr} {f : FE} {g : FG} {us : List Nat} {pos : Pos} (he : DE X e f) (hg : DG X tg g us) (hs : swapsWithSole [tg] e pos.line X.env = pure false := by rfl) (hw : swappedStores [tg] e X.env = pure none := by rfl) (h1 : (assignEach [tg] X.env).map (·.2) = [assign tg X.env] := by rfl) : DS X (.Assign [tg] e pos) (sG f g) := impS (ps_asg he hg hs hw h1) fun Z σ H h => by
  obtain ⟨y, env, Hs, o, I, hf, k⟩ := h
  obtain ⟨⟨d, e1⟩, h1, hf⟩ := Option.bind_eq_some_iff.mp hf
  obtain ⟨e2, h2, hf⟩ := Option.map_eq_some_iff.mp hf
  cases hf
  exact ⟨y, env, Hs, d, e1, I, h1, fun v H' Hs' I' s' r => ⟨y, e1, Hs', d, e2, I', r, h2, fun σ2 H2 Hs2 I2 s2 _ => k σ2 H2 Hs2 I2 (s'.trans s2)⟩⟩
/-- x = e, x shared; x = e, x owned -/
theorem ds_set (i : Nat) {x : Str} {e : Expr} {f : FE} {pos pos' : Pos} (hN : X.N.Nodup) (he : DE X e f) (hi : X.N[i]? = some x := by rfl) (hx : Loc X.env.scope x := by first | exact Or.inl rfl | exact Or.inr rfl) (hs : swapsWith e (some (.Name x pos')) pos.line X.env = pure false := by rfl)
    (hf : X.fn x = true ∨ X.env.scope.names.lookup x = some .local := by first | exact .inl rfl | exact .inr rfl | assumption) : DS X (.Assign [.Name x pos'] e pos) (sG f (gN i)) := impS (ps_set hN hi hx he hs hf) fun Z σ H h => by
  obtain ⟨y, env, Hs, o, I, hf, k⟩ := h
  obtain ⟨⟨d, e1⟩, h1, hf⟩ := Option.bind_eq_some_iff.mp hf
  obtain ⟨e2, h2, hf⟩ := Option.map_eq_some_iff.mp hf
  cases hf
  refine ⟨y, env, Hs, d, e1, I, h1, fun v H' Hs' I' s' r => ?_⟩
  unfold gN at h2
  split at h2
  · rename_i ho
    cases h2
    exact k _ H' Hs' (I'.setSh (by rw [← I'.len]; exact okSet_lt ho) r) s'
  · cases h2
theorem ds_own (i : Nat) {x : Str} {e : Expr} {f : FE} {pos pos' : Pos} (hN : X.N.Nodup) (he : DF X e f) (hi : X.N[i]? = some x := by rfl) (hx : Loc X.env.scope x := by first | exact Or.inl rfl | exact Or.inr rfl) (hs : swapsWith e (some (.Name x pos')) pos.line X.env = pure false := by rfl)
    (hf : X.fn x = true ∨ X.env.scope.names.lookup x = some .local := by first | exact .inl rfl | exact .inr rfl | assumption) : DS X (.Assign [.Name x pos'] e pos) (sOw i f) := impS (ps_set hN hi hx he hs hf) fun Z σ H h => by
  obtain ⟨y, env, Hs, o, I, hf, k⟩ := h
  obtain ⟨⟨d, e1⟩, h1, hf⟩ := Option.bind_eq_some_iff.mp hf
  split at hf
  · rename_i ho
    cases hf
    exact ⟨y, env, Hs, d, e1, I, h1, fun p H' Hs' I' s' ow n m ap => k _ H' Hs' (I'.setOw (by rw [← I'.len]; exact okSet_lt ho) ow n m ap) s'⟩
  · cases hf
/-- what slot i owns is shared from here on -/
def sFz (i : Nat) (F : FS) : FS := fun env => match env[i]? with
  | some (some (.ow, d)) => F (env.set i (some (.sh, d)))
  | _ => F env
theorem ds_fz (i : Nat) {st : Stmt} {F : FS} (h : DS X st F) : DS X st (sFz i F) := impS h fun Z σ H h => by
  obtain ⟨y, env, Hs, o, I, hf, k⟩ := h
  unfold sFz at hf
  split at hf
  · rename_i d hi
    obtain ⟨Hs', I', s'⟩ := I.fz hi
    exact ⟨y, _, Hs', o, I', hf, k.mono s'⟩
  · exact ⟨y, env, Hs, o, I, hf, k⟩
/-- xs[i] = e, xs owned -/
def sSetL (i : Nat) (fi fv : FE) : FS := fun env => (fv env).bind fun p => (oS i p.2).bind fun _ => (fi p.2).bind fun q => match q.1 with
  | .int n => (match q.2[i]? with
    | some (some (k, .lst ds)) => if k = .sh then none else (ixN ds.length n).map fun j => .nx (q.2.set i (some (k, .lst (ds.set j p.1))))
    | _ => none)
  | _ => none
theorem ds_setL (i : Nat) {x : Str} {ei e : Expr} {fi fv : FE} {pos px ps : Pos} (hi : DE X ei fi) (he : DE X e fv) (hN : X.N[i]? = some x := by rfl) (hvis : Vis X.env.scope x := by first | exact Or.inl rfl | exact Or.inr (Or.inl rfl) | exact Or.inr (Or.inr rfl)) (hd : (x == ("__debug__" : Str)) = false := by decide)
    (hcd : (x == ("__classdict__" : Str)) = false := by decide) (ha : ∀ v, assign (.Subscript (.Name x px) ei ps) X.env v = (do
      let ov ← holding [v] (eval (.Name x px) X.env)
      let iv ← holding [v, ov] (eval ei X.env)
      standAt ps
      holding [v, ov, iv] (setItem ov iv v)
      release [v, ov, iv] []) := by intro _; rfl) (hs : swapsWithSole [.Subscript (.Name x px) ei ps] e pos.line X.env = pure false := by rfl) (hw : swappedStores [.Subscript (.Name x px) ei ps] e X.env = pure none := by rfl) :
    DS X (.Assign [.Subscript (.Name x px) ei ps] e pos) (sSetL i fi fv) := impS (ps_asg he (pg_sub (do_peek i hN hvis hd hcd) hi set_list ha) hs hw) fun Z σ H h => by
  obtain ⟨y, env, Hs, o, I, hf, k⟩ := h
  obtain ⟨⟨d, e1⟩, h1, hf⟩ := Option.bind_eq_some_iff.mp hf
  obtain ⟨⟨o1, e1'⟩, h3, hf⟩ := Option.bind_eq_some_iff.mp hf
  obtain ⟨⟨n, e2⟩, h2, hf⟩ := Option.bind_eq_some_iff.mp hf
  have h3' : o1 = .s i ∧ e1' = e1 := by
    unfold oS at h3
    split at h3
    · cases h3
      exact ⟨rfl, rfl⟩
    · cases h3
  obtain ⟨rfl, rfl⟩ := h3'
  refine ⟨y, env, Hs, d, _, I, h1, fun v H1 Hs1 I1 s1 r1 => ⟨y, _, Hs1, .s i, _, I1, h3, fun w H2 Hs2 I2 s2 o2 => ⟨y, _, Hs2, n, e2, I2, h2, fun u H3 Hs3 I3 s3 r3 => ?_⟩⟩⟩
  cases n <;> try (cases hf; done)
  rename_i n
  simp only [Rp] at r3
  subst r3
  have hf : (match e2[i]? with
    | some (some (k, .lst ds)) => if k = .sh then none else (ixN ds.length n).map fun j => Out.nx (e2.set i (some (k, .lst (ds.set j d))))
    | _ => none) = some o := hf
  split at hf
  · rename_i kk ds hi2
    split at hf
    · cases hf
    · rename_i hk
      obtain ⟨j, hj, hf⟩ := Option.map_eq_some_iff.mp hf
      cases hf
      have o2 : σ[i]? = some (some w) := o2
      obtain ⟨p, a, b, c, ow, _⟩ := I3.ow i kk (.lst ds) hi2 hk
      rw [o2] at a
      cases a
      obtain ⟨ws, hp, rw'⟩ := ow
      refine ⟨p, ws, n, j, rfl, rfl, hp, by rw [rw'.length]; exact hj, ?_⟩
      exact k σ _ Hs3 (I3.put hi2 hk o2 ⟨_, upd_same, rw'.set j (Rp.mono (s2.trans s3) _ r1)⟩) (s1.trans (s2.trans s3))
  · cases hf
end
end Qd
namespace Qd
open PySem PySem.Spec L2
mutual
def beqD : D → D → Bool
  | .non, .non => true
  | .bl a, .bl b => a == b
  | .int a, .int b => decide (a = b)
  | .str a, .str b => decide (a = b)
  | .tup a, .tup b => beqDs a b
  | .lst a, .lst b => beqDs a b
  | .dic a, .dic b => beqKs a b
  | .fdic a, .fdic b => beqKs a b
  | .obj c a, .obj c' b => decide (c = c') && beqFs a b
  | .scr a, .scr b => decide (a = b)
  | .cls a, .cls b => decide (a = b)
  | .ty a, .ty b => decide (a = b)
  | _, _ => false
def beqDs : List D → List D → Bool
  | [], [] => true
  | a :: r, b :: t => beqD a b && beqDs r t
  | _, _ => false
def beqKs : List (Ky × D) → List (Ky × D) → Bool
  | [], [] => true
  | (k, a) :: r, (l, b) :: t => decide (k = l) && (beqD a b && beqKs r t)
  | _, _ => false
def beqFs : List (Str × D) → List (Str × D) → Bool
  | [], [] => true
  | (k, a) :: r, (l, b) :: t => decide (k = l) && (beqD a b && beqFs r t)
  | _, _ => false
end
mutual
theorem beqD_eq : ∀ {a b : D}, beqD a b = true → a = b
  | .non, b, h => by cases b <;> simp only [beqD] at h <;> first | rfl | cases h
  | .bl x, b, h => by cases b <;> simp only [beqD] at h <;> first | (rw [eq_of_beq h]; done) | cases h
  | .int x, b, h => by cases b <;> simp only [beqD] at h <;> first | (rw [of_decide_eq_true h]; done) | cases h
  | .str x, b, h => by cases b <;> simp only [beqD] at h <;> first | (rw [of_decide_eq_true h]; done) | cases h
  | .tup x, b, h => by cases b <;> simp only [beqD] at h <;> first | (rw [beqDs_eq h]; done) | cases h
  | .lst x, b, h => by cases b <;> simp only [beqD] at h <;> first | (rw [beqDs_eq h]; done) | cases h
  | .dic x, b, h => by cases b <;> simp only [beqD] at h <;> first | (rw [beqKs_eq h]; done) | cases h
  | .fdic x, b, h => by cases b <;> simp only [beqD] at h <;> first | (rw [beqKs_eq h]; done) | cases h
  | .obj c x, b, h => by cases b <;> simp only [beqD, Bool.and_eq_true] at h <;> first | (rw [of_decide_eq_true h.1, beqFs_eq h.2]; done) | cases h
  | .scr x, b, h => by cases b <;> simp only [beqD] at h <;> first | (rw [of_decide_eq_true h]; done) | cases h
  | .cls x, b, h => by cases b <;> simp only [beqD] at h <;> first | (rw [of_decide_eq_true h]; done) | cases h
  | .ty x, b, h => by cases b <;> simp only [beqD] at h <;> first | (rw [of_decide_eq_true h]; done) | cases h
theorem beqDs_eq : ∀ {a b : List D}, beqDs a b = true → a = b
  | [], b, h => by cases b <;> simp only [beqDs] at h <;> first | rfl | cases h
  | x :: r, b, h => by
    cases b with
    | nil => simp only [beqDs] at h; cases h
    | cons y t =>
      simp only [beqDs, Bool.and_eq_true] at h
      rw [beqD_eq h.1, beqDs_eq h.2]
theorem beqKs_eq : ∀ {a b : List (Ky × D)}, beqKs a b = true → a = b
  | [], b, h => by cases b <;> simp only [beqKs] at h <;> first | rfl | cases h
  | (k, x) :: r, b, h => by
    cases b with
    | nil => simp only [beqKs] at h; cases h
    | cons y t =>
      obtain ⟨l, y⟩ := y
      simp only [beqKs, Bool.and_eq_true] at h
      rw [of_decide_eq_true h.1, beqD_eq h.2.1, beqKs_eq h.2.2]
theorem beqFs_eq : ∀ {a b : List (Str × D)}, beqFs a b = true → a = b
  | [], b, h => by cases b <;> simp only [beqFs] at h <;> first | rfl | cases h
  | (k, x) :: r, b, h => by
    cases b with
    | nil => simp only [beqFs] at h; cases h
    | cons y t =>
      obtain ⟨l, y⟩ := y
      simp only [beqFs, Bool.and_eq_true] at h
      rw [of_decide_eq_true h.1, beqD_eq h.2.1, beqFs_eq h.2.2]
end
mutual
theorem beqD_refl : ∀ a : D, beqD a a = true
  | .non => by simp only [beqD]
  | .bl x => by simp [beqD]
  | .int x => by simp [beqD]
  | .str x => by simp [beqD]
  | .tup x => by simp only [beqD]; exact beqDs_refl x
  | .lst x => by simp only [beqD]; exact beqDs_refl x
  | .dic x => by simp only [beqD]; exact beqKs_refl x
  | .fdic x => by simp only [beqD]; exact beqKs_refl x
  | .obj c x => by simp only [beqD, beqFs_refl x]; simp
  | .scr x => by simp [beqD]
  | .cls x => by simp [beqD]
  | .ty x => by simp [beqD]
theorem beqDs_refl : ∀ a : List D, beqDs a a = true
  | [] => by simp only [beqDs]
  | x :: r => by simp only [beqDs, beqD_refl x, beqDs_refl r]; rfl
theorem beqKs_refl : ∀ a : List (Ky × D), beqKs a a = true
  | [] => by simp only [beqKs]
  | (k, x) :: r => by simp only [beqKs, beqD_refl x, beqKs_refl r]; simp
theorem beqFs_refl : ∀ a : List (Str × D), beqFs a a = true
  | [] => by simp only [beqFs]
  | (k, x) :: r => by simp only [beqFs, beqD_refl x, beqFs_refl r]; simp
end
abbrev Bs := List (Nat × D)
abbrev FI := En → Option (List D × Bs × En)
def JOk (K : PySem.W.Frag) (x : Fx) (σ : L2.St) (Hs0 : Hp) (items : List D) (bs : Bs) (J : It) : Prop :=
  ∀ (i : Nat) (env : En) (σ2 : L2.St) (Hs H : Hp), IV K x env σ2 Hs H → Same Hs0 Hs → (∀ b ∈ bs, σ2[b.1]? = σ[b.1]? ∧ ∃ k, env[b.1]? = some (some (k, b.2))) →
    (∀ d, items[i]? = some d → J.go i H ∧ ∀ v H', J.yld i H v H' → ∃ Hs', IV K x env σ2 Hs' H' ∧ Same Hs Hs' ∧ Rp K Hs' d v ∧ Same H H' ∧ ∀ a o, H a = some o → Hs' a = Hs a) ∧ (items.length ≤ i → J.stop i H)
def rdI (K : PySem.W.Frag) (f : FI) : TI := fun σ H R => ∃ x env Hs items bs env', IV K x env σ Hs H ∧ f env = some (items, bs, env') ∧ ∀ J H' Hs', IV K x env' σ Hs' H' → Same Hs Hs' → JOk K x σ Hs' items bs J → R J H'
abbrev DI (X : Cx) (tg iter : Expr) (f : FI) : Prop := PI X tg iter (rdI X.K f)
section
variable {X : Cx} {K : PySem.W.Frag}
theorem impI {tg iter : Expr} {t u : TI} (h : PI X tg iter t) (k : ∀ σ H R, u σ H R → t σ H R) : PI X tg iter u := ⟨fun pins s σ H R I q => h.run pins s σ H R I (k σ H R q)⟩
def bOf (o : Ov) (d : D) : Bs := match o with
  | .d _ => []
  | .s i => [(i, d)]
/-- a list, a tuple -/
def iL (fo : FO) : FI := fun env => (fo env).bind fun p => match fetch p.2 p.1 with
  | some (.lst ds) => some (ds, bOf p.1 (.lst ds), p.2)
  | _ => none
def iT (fo : FO) : FI := fun env => (fo env).bind fun p => match fetch p.2 p.1 with
  | some (.tup ds) => some (ds, bOf p.1 (.tup ds), p.2)
  | _ => none
def iS (fo : FO) : FI := fun env => (fo env).bind fun p => match fetch p.2 p.1 with
  | some (.str x) => some (x.map fun c => .str [c], [], p.2)
  | _ => none
def rng (lo : Int) : Nat → List D
  | 0 => []
  | n + 1 => .int lo :: rng (lo + 1) n
theorem rng_get : ∀ (lo : Int) (n i : Nat), (rng lo n)[i]? = if i < n then some (.int (lo + i)) else none
  | lo, 0, i => by simp [rng]
  | lo, n + 1, 0 => by simp [rng]
  | lo, n + 1, i + 1 => by
    simp only [rng, List.getElem?_cons_succ, rng_get (lo + 1) n i]
    by_cases h : i < n
    · rw [if_pos h, if_pos (by omega)]
      congr 2
      omega
    · rw [if_neg h, if_neg (by omega)]
theorem rng_length (lo : Int) : ∀ n : Nat, (rng lo n).length = n
  | 0 => rfl
  | n + 1 => by simp only [rng, List.length_cons, rng_length (lo + 1) n]
def iR1 (fa : FE) : FI := fun env => (fa env).bind fun p => match p.1 with
  | .int n => if -1000000000 ≤ n ∧ n < 1000000000 then some (rng 0 n.toNat, [], p.2) else none
  | _ => none
def asI : D → Option Int
  | .int i => some i
  | _ => none
theorem asI_eq : ∀ {d : D} {i : Int}, asI d = some i → d = .int i
  | .int i, _, h => by cases h; rfl
def iR2 (fa fb : FE) : FI := fun env => (fa env).bind fun p => (asI p.1).bind fun a => (fb p.2).bind fun q => (asI q.1).bind fun b => if -1000000000 ≤ a ∧ a < 1000000000 ∧ -1000000000 ≤ b ∧ b < 1000000000 then some (rng a (b - a).toNat, [], q.2) else none
/-- what an operand is at a later turn -/
theorem later {x : Fx} {env env2 : En} {σ σ2 : L2.St} {Hs Hs2 H2 : Hp} {o : Ov} {d : D} {v : V} (I2 : IV K x env2 σ2 Hs2 H2) (s : Same Hs Hs2) (r : OvR K σ Hs v o) (h : fetch env o = some d) (hb : ∀ b ∈ bOf o d, σ2[b.1]? = σ[b.1]? ∧ ∃ k, env2[b.1]? = some (some (k, b.2))) : Pk K Hs2 H2 d v := by
  cases o with
  | d e =>
    cases h
    exact (Rp.mono s _ r).pk I2.ex
  | s i =>
    obtain ⟨e1, k, e2⟩ := hb (i, d) (by simp [bOf])
    have r : σ[i]? = some (some v) := r
    obtain ⟨w, a, p⟩ := I2.slot e2
    have e1 : σ2[i]? = σ[i]? := e1
    rw [e1, r] at a
    cases a
    exact p
theorem di_list {tg l : Expr} {fo : FO} (h : DO X l fo) : DI X tg l (iL fo) := impI (pi_list h) fun σ H R h => by
  obtain ⟨x, env, Hs, items, bs, env', I, hf, k⟩ := h
  obtain ⟨⟨o, e1⟩, h1, hf⟩ := Option.bind_eq_some_iff.mp hf
  refine ⟨x, env, Hs, o, e1, I, h1, fun v H' Hs' I' s' o' => ?_⟩
  have hf : (match fetch e1 o with
    | some (.lst ds) => some (ds, bOf o (.lst ds), e1)
    | _ => none) = some (items, bs, env') := hf
  split at hf
  · rename_i ds hd
    cases hf
    obtain ⟨a, vs, rfl, g2, g3⟩ := I'.pk o' hd
    refine ⟨a, rfl, ⟨vs, SqL.of g2⟩, k _ H' Hs' I' s' fun i env2 σ2 Hs2 H2 I2 s2 hb => ?_⟩
    obtain ⟨a', ws, ea, q2, q3⟩ := later I2 s2 o' hd hb
    cases ea
    refine ⟨fun d hd' => ?_, fun hl => ⟨ws, SqL.of q2, by rw [q3.length]; exact hl⟩⟩
    obtain ⟨w, hw, rw'⟩ := q3.get hd'
    refine ⟨⟨ws, w, SqL.of q2, hw⟩, fun v H3 hy => ?_⟩
    obtain ⟨rfl, hy⟩ := hy
    have e := hy ws (SqL.of q2)
    rw [hw] at e
    cases e
    exact ⟨Hs2, I2, Same.refl _, rw', Same.refl _, fun _ _ _ => rfl⟩
  · cases hf
theorem di_tup {tg l : Expr} {fo : FO} (h : DO X l fo) : DI X tg l (iT fo) := impI (pi_tup h) fun σ H R h => by
  obtain ⟨x, env, Hs, items, bs, env', I, hf, k⟩ := h
  obtain ⟨⟨o, e1⟩, h1, hf⟩ := Option.bind_eq_some_iff.mp hf
  refine ⟨x, env, Hs, o, e1, I, h1, fun v H' Hs' I' s' o' => ?_⟩
  have hf : (match fetch e1 o with
    | some (.tup ds) => some (ds, bOf o (.tup ds), e1)
    | _ => none) = some (items, bs, env') := hf
  split at hf
  · rename_i ds hd
    cases hf
    obtain ⟨a, vs, rfl, g2, g3⟩ := I'.pk o' hd
    refine ⟨a, rfl, ⟨vs, g2⟩, k _ H' Hs' I' s' fun i env2 σ2 Hs2 H2 I2 s2 hb => ?_⟩
    obtain ⟨a', ws, ea, q2, q3⟩ := later I2 s2 o' hd hb
    cases ea
    refine ⟨fun d hd' => ?_, fun hl => ⟨ws, q2, by rw [q3.length]; exact hl⟩⟩
    obtain ⟨w, hw, rw'⟩ := q3.get hd'
    refine ⟨⟨ws, w, q2, hw⟩, fun v H3 hy => ?_⟩
    obtain ⟨rfl, hy⟩ := hy
    have e := hy ws q2
    rw [hw] at e
    cases e
    exact ⟨Hs2, I2, Same.refl _, rw', Same.refl _, fun _ _ _ => rfl⟩
  · cases hf
theorem di_str {tg l : Expr} {fo : FO} (h : DO X l fo) : DI X tg l (iS fo) := impI (pi_str h) fun σ H R h => by
  obtain ⟨x, env, Hs, items, bs, env', I, hf, k⟩ := h
  obtain ⟨⟨o, e1⟩, h1, hf⟩ := Option.bind_eq_some_iff.mp hf
  refine ⟨x, env, Hs, o, e1, I, h1, fun v H' Hs' I' s' o' => ?_⟩
  have hf : (match fetch e1 o with
    | some (.str y) => some (y.map fun c => .str [c], [], e1)
    | _ => none) = some (items, bs, env') := hf
  split at hf
  · rename_i y hd
    cases hf
    have p : v = .str (S y) := I'.pk o' hd
    subst p
    refine ⟨S y, rfl, k _ H' Hs' I' s' fun i env2 σ2 Hs2 H2 I2 s2 hb => ?_⟩
    have hsz : (S y).cps.size = y.length := by simp [S]
    refine ⟨fun d hd' => ?_, fun hl => ?_⟩
    · rw [List.getElem?_map] at hd'
      obtain ⟨c, hc, hd'⟩ := Option.map_eq_some_iff.mp hd'
      subst hd'
      have hlt : i < y.length := (List.getElem?_eq_some_iff.mp hc).1
      refine ⟨by show i < (S y).cps.size; rw [hsz]; exact hlt, fun v H3 hy => ?_⟩
      obtain ⟨rfl, c', hc', rfl⟩ := hy
      have e : (S y).cps[i]? = y[i]? := by simp [S]
      rw [e, hc] at hc'
      cases hc'
      exact ⟨Hs2, I2, Same.refl _, by simp only [Rp], Same.refl _, fun _ _ _ => rfl⟩
    · show (S y).cps.size ≤ i
      rw [hsz]
      simpa using hl
  · cases hf
theorem da_one {e : Expr} {f : FE} (h : DE X e f) (hs : starEach [e] X.env = (false, eval e X.env) :: starEach [] X.env := by rfl) : DA X [e] (aCons (oE f) aNil) := da_cons (do_of h) da_nil hs
theorem di_range1 {tg a : Expr} {fa : FE} {p pos : Pos} (hm : X.mg "range" = none) (ha : DE X a fa) (hg : Gl X "range" := by rfl) (hs : starEach [a] X.env = [(false, eval a X.env)] := by rfl) : DI X tg (.Call (.Name "range" p) [a] [] pos) (iR1 fa) := impI (pi_range1 hg hm (da_one ha hs) hs) fun σ H R h => by
  obtain ⟨x, env, Hs, items, bs, env', I, hf, k⟩ := h
  obtain ⟨⟨d, e1⟩, h1, hf⟩ := Option.bind_eq_some_iff.mp hf
  cases d <;> try (cases hf; done)
  rename_i n
  have hf : (if -1000000000 ≤ n ∧ n < 1000000000 then some (rng 0 n.toNat, ([] : Bs), e1) else none) = some (items, bs, env') := hf
  split at hf
  · rename_i hn
    cases hf
    refine ⟨x, env, Hs, [.d (.int n)], _, I, by unfold aCons oE aNil; rw [h1]; rfl, fun vs H' Hs' I' s' o' => ?_⟩
    match vs, o' with
    | [v], ⟨r, _⟩ =>
      have r : Rp X.K Hs' (.int n) v := r
      simp only [Rp] at r
      subst r
      refine ⟨n, rfl, by omega, by omega, k _ H' Hs' I' s' fun i env2 σ2 Hs2 H2 I2 s2 hb => ⟨fun d hd' => ?_, fun hl => by rw [rng_length] at hl; exact hl⟩⟩
      rw [rng_get] at hd'
      split at hd'
      · rename_i hi
        cases hd'
        exact ⟨hi, fun v H3 hy => by obtain ⟨rfl, rfl⟩ := hy; exact ⟨Hs2, I2, Same.refl _, by simp only [Rp], Same.refl _, fun _ _ _ => rfl⟩⟩
      · cases hd'
  · cases hf
theorem di_range2 {tg a b : Expr} {fa fb : FE} {p pos : Pos} (hm : X.mg "range" = none) (ha : DE X a fa) (hb : DE X b fb) (hg : Gl X "range" := by rfl) (hs : starEach [a, b] X.env = [(false, eval a X.env), (false, eval b X.env)] := by rfl) (hs2 : starEach [b] X.env = [(false, eval b X.env)] := by rfl) :
    DI X tg (.Call (.Name "range" p) [a, b] [] pos) (iR2 fa fb) := impI (pi_range2 hg hm (da_cons (do_of ha) (da_one hb hs2) (by rw [hs, hs2])) hs hs2) fun σ H R h => by
  obtain ⟨x, env, Hs, items, bs, env', I, hf, k⟩ := h
  obtain ⟨⟨d, e1⟩, h1, hf⟩ := Option.bind_eq_some_iff.mp hf
  obtain ⟨lo, ha, hf⟩ := Option.bind_eq_some_iff.mp hf
  obtain ⟨⟨d', e2⟩, h2, hf⟩ := Option.bind_eq_some_iff.mp hf
  obtain ⟨hi, hb, hf⟩ := Option.bind_eq_some_iff.mp hf
  have ha := asI_eq ha
  have hb := asI_eq hb
  dsimp only at ha hb
  subst ha hb
  split at hf
  · rename_i hn
    cases hf
    have h2' : fb e1 = some (.int hi, e2) := h2
    refine ⟨x, env, Hs, [.d (.int lo), .d (.int hi)], e2, I, by unfold aCons oE aNil; rw [h1]; simp only [Option.map_some, Option.bind_some, h2'], fun vs H' Hs' I' s' o' => ?_⟩
    match vs, o' with
    | [v, w], ⟨r, r2, _⟩ =>
      have r : Rp X.K Hs' (.int lo) v := r
      have r2 : Rp X.K Hs' (.int hi) w := r2
      simp only [Rp] at r r2
      subst r r2
      refine ⟨lo, hi, rfl, ⟨by omega, by omega, by omega, by omega⟩, k _ H' Hs' I' s' fun i env2 σ2 Hs2 H2 I2 s2 hb => ⟨fun d hd' => ?_, fun hl => by rw [rng_length] at hl; exact hl⟩⟩
      rw [rng_get] at hd'
      split at hd'
      · rename_i hi
        cases hd'
        exact ⟨hi, fun v H3 hy => by obtain ⟨rfl, rfl⟩ := hy; exact ⟨Hs2, I2, Same.refl _, by simp only [Rp], Same.refl _, fun _ _ _ => rfl⟩⟩
      · cases hd'
  · cases hf
def chkB (pin : Bool) (env : En) (bs : Bs) : Bool := bs.all fun b => match env[b.1]? with
  | some (some (k, d)) => (!pin || k == .pn) && beqD d b.2
  | _ => false
theorem chkB_get {pin : Bool} {env : En} {bs : Bs} (h : chkB pin env bs = true) {b : Nat × D} (hb : b ∈ bs) : ∃ k, env[b.1]? = some (some (k, b.2)) ∧ (pin = true → k = .pn) := by
  have h1 := List.all_eq_true.mp h b hb
  split at h1
  · rename_i k d hq
    simp only [Bool.and_eq_true, Bool.or_eq_true, Bool.not_eq_true', beq_iff_eq] at h1
    rw [beqD_eq h1.2] at hq
    refine ⟨k, hq, fun e => ?_⟩
    rcases h1.1 with z | z
    · rw [e] at z
      cases z
    · exact z
  · cases h1
def forL (bs : Bs) (pt : FG) (body : FS) : List D → En → Option Out
  | [], env => if chkB true env bs then some (.nx env) else none
  | d :: ds, env => if chkB true env bs then (pt env d).bind fun e1 => (body e1).bind fun o => match o with
    | .nx e => forL bs pt body ds e
    | .ct e => forL bs pt body ds e
    | .bk e => some (.nx e)
    | .rt b z e => some (.rt b z e) else none
def sFor (src : FI) (pt : FG) (body : FS) : FS := fun env => (src env).bind fun p => forL p.2.1 pt body p.1 p.2.2
theorem forL_chk {bs : Bs} {pt : FG} {body : FS} {items : List D} {env : En} {o : Out} (h : forL bs pt body items env = some o) : chkB true env bs = true := by
  cases items with
  | nil =>
    unfold forL at h
    split at h
    · assumption
    · cases h
  | cons d ds =>
    unfold forL at h
    split at h
    · assumption
    · cases h
theorem IV.pinned {x : Fx} {env : En} {σ : L2.St} {Hs H : Hp} {bs : Bs} (I : IV K x env σ Hs H) (h : chkB true env bs = true) : ∀ b ∈ bs, σ[b.1]? = some (some (.ref (x.pa b.1))) ∧ ∃ k, env[b.1]? = some (some (k, b.2)) := fun b hb => by
  obtain ⟨k, e, hk⟩ := chkB_get h hb
  have hk := hk rfl
  subst hk
  obtain ⟨p, a, _, _, _, z⟩ := I.ow b.1 .pn b.2 e (by decide)
  rw [z rfl] at a
  exact ⟨a, .pn, e⟩
theorem ds_for {tg iter : Expr} {body : List Stmt} {src : FI} {pt : FG} {us : List Nat} {F : FS} {pos : Pos} (hp : PassesOwn (model X.prog X.w) X.A X.env X.xe) (hc : X.calm = true) (hi : DI X tg iter src) (hg : DG X tg pt us) (hb : DSs X body F)
    (hs : ∀ x, foldedSetIterable iter X.env x = pure x := by intro _; rfl) : DS X (.For tg iter body [] pos) (sFor src pt F) := impS (ps_for hp hc hi hg hb hs) fun Z σ H h => by
  obtain ⟨y, env, Hs, o, I, hf, k⟩ := h
  obtain ⟨⟨items, bs, e1⟩, h1, hf⟩ := Option.bind_eq_some_iff.mp hf
  have hf : forL bs pt F items e1 = some o := hf
  refine ⟨y, env, Hs, items, bs, e1, I, h1, fun J H' Hs' I' s' jok => ?_⟩
  have pin0 := I'.pinned (forL_chk hf)
  refine ⟨fun i m σ' H'' => m = items.length - i ∧ i ≤ items.length ∧ ∃ env2 Hs2 o, IV X.K y env2 σ' Hs2 H'' ∧ Same Hs' Hs2 ∧ forL bs pt F (items.drop i) env2 = some o ∧ OutE X.K y Hs2 Z o, ⟨items.length, by omega, by omega, e1, Hs', o, I', Same.refl _, by simpa using hf, k.mono s'⟩, fun i m σ' H'' hW => ?_⟩
  obtain ⟨rfl, hle, env2, Hs2, o2, I2, s2, hf2, k2⟩ := hW
  have pin2 := I2.pinned (forL_chk hf2)
  obtain ⟨j1, j2⟩ := jok i env2 σ' Hs2 H'' I2 s2 fun b hb => ⟨by rw [(pin2 b hb).1, (pin0 b hb).1], (pin2 b hb).2⟩
  by_cases hlt : i < items.length
  · have hd : items[i]? = some items[i] := List.getElem?_eq_getElem hlt
    obtain ⟨jg, jy⟩ := j1 items[i] hd
    rw [List.drop_eq_getElem_cons hlt] at hf2
    unfold forL at hf2
    split at hf2
    · obtain ⟨e3, h3, hf2⟩ := Option.bind_eq_some_iff.mp hf2
      obtain ⟨ob, h4, hf2⟩ := Option.bind_eq_some_iff.mp hf2
      refine .inr ⟨jg, fun σ3 H3 => ∃ env3 Hs3 o3, IV X.K y env3 σ3 Hs3 H3 ∧ Same Hs' Hs3 ∧ forL bs pt F (items.drop (i + 1)) env3 = some o3 ∧ OutE X.K y Hs3 Z o3, fun σ3 H3 hN => ⟨items.length - (i + 1), by omega, rfl, hlt, hN⟩, fun v H3 hy => ?_⟩
      obtain ⟨Hs3, I3, s3, r3, _, _⟩ := jy v H3 hy
      refine ⟨y, env2, Hs3, items[i], e3, I3, r3, h3, fun σ4 H4 Hs4 I4 s4 _ => ⟨y, e3, Hs4, ob, I4, h4, ?_⟩⟩
      have s24 : Same Hs2 Hs4 := s3.trans s4
      cases ob with
      | nx e => exact fun σ5 H5 Hs5 I5 s5 => ⟨e, Hs5, o2, I5, s2.trans (s24.trans s5), hf2, k2.mono (s24.trans s5)⟩
      | ct e => exact fun σ5 H5 Hs5 I5 s5 => ⟨e, Hs5, o2, I5, s2.trans (s24.trans s5), hf2, k2.mono (s24.trans s5)⟩
      | bk e =>
        cases hf2
        exact fun σ5 H5 Hs5 I5 s5 => k2 σ5 H5 Hs5 I5 (s24.trans s5)
      | rt b z e =>
        cases hf2
        cases b with
        | true => exact fun p σ5 H5 Hs5 I5 s5 => k2 p σ5 H5 Hs5 I5 (s24.trans s5)
        | false => exact fun v σ5 H5 Hs5 I5 s5 => k2 v σ5 H5 Hs5 I5 (s24.trans s5)
    · cases hf2
  · refine .inl ⟨j2 (by omega), ?_⟩
    rw [List.drop_eq_nil_of_le (by omega)] at hf2
    unfold forL at hf2
    split at hf2
    · cases hf2
      exact k2 σ' H'' Hs2 I2 (Same.refl _)
    · cases hf2
def whL (c : FE) (body : FS) : Nat → En → Option Out
  | 0, _ => none
  | n + 1, env => (c env).bind fun p => match p.1 with
    | .bl false => some (.nx p.2)
    | .bl true => (body p.2).bind fun o => match o with
      | .nx e => whL c body n e
      | .ct e => whL c body n e
      | .bk e => some (.nx e)
      | .rt b z e => some (.rt b z e)
    | _ => none
def sWhile (n : Nat) (c : FE) (body : FS) : FS := fun env => whL c body n env
theorem ds_while (n : Nat) {c : Expr} {body : List Stmt} {fc : FE} {F : FS} {pos : Pos} (hp : PassesOwn (model X.prog X.w) X.A X.env X.xe) (hc : DT X c fc) (hb : DSs X body F) : DS X (.While c body [] pos) (sWhile n fc F) := impS (ps_while hp hc hb) fun Z σ H h => by
  obtain ⟨y, env, Hs, o, I, hf, k⟩ := h
  refine ⟨fun m σ' H' => ∃ env2 Hs2 o, IV X.K y env2 σ' Hs2 H' ∧ whL fc F m env2 = some o ∧ OutE X.K y Hs2 Z o, ⟨n, env, Hs, o, I, hf, k⟩, fun m σ' H' hW => ?_⟩
  obtain ⟨env2, Hs2, o2, I2, hf2, k2⟩ := hW
  cases m with
  | zero => cases hf2
  | succ m =>
    unfold whL at hf2
    obtain ⟨⟨d, e3⟩, h3, hf2⟩ := Option.bind_eq_some_iff.mp hf2
    cases d <;> try (cases hf2; done)
    rename_i b
    refine ⟨y, env2, Hs2, b, e3, I2, h3, fun H3 Hs3 I3 s3 => ?_⟩
    cases b with
    | false =>
      cases hf2
      exact k2 σ' H3 Hs3 I3 s3
    | true =>
      obtain ⟨ob, h4, hf2⟩ := Option.bind_eq_some_iff.mp hf2
      refine ⟨fun σ3 H3 => ∃ env3 Hs3 o3, IV X.K y env3 σ3 Hs3 H3 ∧ whL fc F m env3 = some o3 ∧ OutE X.K y Hs3 Z o3, fun σ4 H4 hN => ⟨m, Nat.lt_succ_self _, hN⟩, y, e3, Hs3, ob, I3, h4, ?_⟩
      cases ob with
      | nx e => exact fun σ5 H5 Hs5 I5 s5 => ⟨e, Hs5, o2, I5, hf2, k2.mono (s3.trans s5)⟩
      | ct e => exact fun σ5 H5 Hs5 I5 s5 => ⟨e, Hs5, o2, I5, hf2, k2.mono (s3.trans s5)⟩
      | bk e =>
        cases hf2
        exact fun σ5 H5 Hs5 I5 s5 => k2 σ5 H5 Hs5 I5 (s3.trans s5)
      | rt b z e =>
        cases hf2
        cases b with
        | true => exact fun p σ5 H5 Hs5 I5 s5 => k2 p σ5 H5 Hs5 I5 (s3.trans s5)
        | false => exact fun v σ5 H5 Hs5 I5 s5 => k2 v σ5 H5 Hs5 I5 (s3.trans s5)
def unpin (i : Nat) (e : En) : Option En := match e[i]? with
  | some (some (.pn, d)) => some (e.set i (some (.ow, d)))
  | _ => none
def sPin (i : Nat) (F : FS) : FS := fun env => match env[i]? with
  | some (some (.ow, d)) => (F (env.set i (some (.pn, d)))).bind fun o => match o with
    | .nx e => (unpin i e).map Out.nx
    | .ct e => (unpin i e).map Out.ct
    | .bk e => (unpin i e).map Out.bk
    | .rt b z e => (unpin i e).map (Out.rt b z)
  | _ => F env
theorem IV.pin {x : Fx} {env : En} {σ : L2.St} {Hs H : Hp} {i : Nat} {d : D} (I : IV K x env σ Hs H) (hi : env[i]? = some (some (.ow, d))) : ∃ p, IV K { x with pa := fun j => if j = i then p else x.pa j } (env.set i (some (.pn, d))) σ Hs H := by
  obtain ⟨p, a, b, c, ho, _⟩ := I.ow i .ow d hi (by decide)
  have g : ∀ {m : Nat} {km : Kd} {dm : D}, (env.set i (some (Kd.pn, d)))[m]? = some (some (km, dm)) → (m = i ∧ km = .pn ∧ dm = d) ∨ (m ≠ i ∧ env[m]? = some (some (km, dm))) := fun {m km dm} hh => by
    rcases get_set hh with ⟨em, h⟩ | ⟨em, h⟩
    · cases h
      exact .inl ⟨em, rfl, rfl⟩
    · exact .inr ⟨em, h⟩
  have g2 : ∀ {m : Nat} {km : Kd} {dm : D}, (env.set i (some (Kd.pn, d)))[m]? = some (some (km, dm)) → km ≠ .sh → ∃ km', km' ≠ .sh ∧ env[m]? = some (some (km', dm)) := fun {m km dm} hh hk => by
    rcases g hh with ⟨e1, e2, e3⟩ | ⟨_, h⟩
    · rw [e1, e3]
      exact ⟨.ow, by decide, hi⟩
    · exact ⟨km, hk, h⟩
  refine ⟨p, by rw [List.length_set, I.len], I.ex, I.fr, I.sep, I.h0, fun j e h1 => ?_, fun j k e h1 h2 => ?_, fun j l kj kl dj dl q hne h1 h2 h3 h4 h5 => ?_⟩
  · rcases g h1 with ⟨_, h, _⟩ | ⟨_, h⟩
    · cases h
    · exact I.sh j e h
  · rcases g h1 with ⟨e1, e2, e3⟩ | ⟨hj, h⟩
    · subst e1 e2 e3
      exact ⟨p, a, b, c, ho, fun _ => by show p = if j = j then p else x.pa j; rw [if_pos rfl]⟩
    · obtain ⟨q, a', b', c', o', z'⟩ := I.ow j k e h h2
      exact ⟨q, a', b', c', o', fun z => by show q = if j = i then p else x.pa j; rw [if_neg hj]; exact z' z⟩
  · obtain ⟨k1, n1, g1⟩ := g2 h1 h2
    obtain ⟨k2, n2, g3⟩ := g2 h3 h4
    exact I.dj j l k1 k2 dj dl q hne g1 n1 g3 n2 h5
theorem IV.unpin {x : Fx} {env env' : En} {σ : L2.St} {Hs H : Hp} {i : Nat} {p : Addr} (I : IV K { x with pa := fun j => if j = i then p else x.pa j } env σ Hs H) (h : Qd.unpin i env = some env') : IV K x env' σ Hs H := by
  unfold Qd.unpin at h
  split at h
  · rename_i d hi
    cases h
    have g : ∀ {m : Nat} {km : Kd} {dm : D}, (env.set i (some (Kd.ow, d)))[m]? = some (some (km, dm)) → (m = i ∧ km = .ow ∧ dm = d) ∨ (m ≠ i ∧ env[m]? = some (some (km, dm))) := fun {m km dm} hh => by
      rcases get_set hh with ⟨em, h⟩ | ⟨em, h⟩
      · cases h
        exact .inl ⟨em, rfl, rfl⟩
      · exact .inr ⟨em, h⟩
    have g2 : ∀ {m : Nat} {km : Kd} {dm : D}, (env.set i (some (Kd.ow, d)))[m]? = some (some (km, dm)) → km ≠ .sh → ∃ km', km' ≠ .sh ∧ env[m]? = some (some (km', dm)) := fun {m km dm} hh hk => by
      rcases g hh with ⟨e1, e2, e3⟩ | ⟨_, h⟩
      · rw [e1, e3]
        exact ⟨.pn, by decide, hi⟩
      · exact ⟨km, hk, h⟩
    refine ⟨by rw [List.length_set, I.len], I.ex, I.fr, I.sep, I.h0, fun j e h1 => ?_, fun j k e h1 h2 => ?_, fun j l kj kl dj dl q hne h1 h2 h3 h4 h5 => ?_⟩
    · rcases g h1 with ⟨_, h, _⟩ | ⟨_, h⟩
      · cases h
      · exact I.sh j e h
    · rcases g h1 with ⟨e1, e2, e3⟩ | ⟨hj, h⟩
      · subst e1 e2 e3
        obtain ⟨q, a', b', c', o', z'⟩ := I.ow j .pn _ hi (by decide)
        exact ⟨q, a', b', c', o', fun z => nomatch z⟩
      · obtain ⟨q, a', b', c', o', z'⟩ := I.ow j k e h h2
        refine ⟨q, a', b', c', o', fun z => ?_⟩
        have := z' z
        have this : q = if j = i then p else x.pa j := this
        rw [if_neg hj] at this
        exact this
    · obtain ⟨k1, n1, g1⟩ := g2 h1 h2
      obtain ⟨k2, n2, g3⟩ := g2 h3 h4
      exact I.dj j l k1 k2 dj dl q hne g1 n1 g3 n2 h5
  · cases h
theorem Apart.unpin {env env' : En} {σ : L2.St} {i : Nat} {p : Addr} (h : Qd.unpin i env = some env') (a : Apart env σ p) : Apart env' σ p := by
  unfold Qd.unpin at h
  split at h
  · rename_i d hi
    cases h
    intro j k e h1 h2
    rcases get_set h1 with ⟨em, h⟩ | ⟨em, h⟩
    · cases h
      rw [em]
      exact a i .pn d hi (by decide)
    · exact a j k e h h2
  · cases h
theorem ds_pin (i : Nat) {st : Stmt} {F : FS} (h : DS X st F) : DS X st (sPin i F) := impS h fun Z σ H h => by
  obtain ⟨y, env, Hs, o, I, hf, k⟩ := h
  unfold sPin at hf
  split at hf
  · rename_i d hi
    obtain ⟨p, I'⟩ := I.pin hi
    obtain ⟨o1, h1, hf⟩ := Option.bind_eq_some_iff.mp hf
    refine ⟨_, _, Hs, o1, I', h1, ?_⟩
    cases o1 with
    | nx e =>
      obtain ⟨e2, h2, hf⟩ := Option.map_eq_some_iff.mp hf
      cases hf
      exact fun σ2 H2 Hs2 I2 s2 => k σ2 H2 Hs2 (I2.unpin h2) s2
    | ct e =>
      obtain ⟨e2, h2, hf⟩ := Option.map_eq_some_iff.mp hf
      cases hf
      exact fun σ2 H2 Hs2 I2 s2 => k σ2 H2 Hs2 (I2.unpin h2) s2
    | bk e =>
      obtain ⟨e2, h2, hf⟩ := Option.map_eq_some_iff.mp hf
      cases hf
      exact fun σ2 H2 Hs2 I2 s2 => k σ2 H2 Hs2 (I2.unpin h2) s2
    | rt b z e =>
      obtain ⟨e2, h2, hf⟩ := Option.map_eq_some_iff.mp hf
      cases hf
      cases b with
      | true => exact fun q σ2 H2 Hs2 I2 s2 ow n m ap => k q σ2 H2 Hs2 (I2.unpin h2) s2 ow n m (ap.unpin h2)
      | false => exact fun v σ2 H2 Hs2 I2 s2 r => k v σ2 H2 Hs2 (I2.unpin h2) s2 r
  · exact ⟨y, env, Hs, o, I, hf, k⟩
end
end Qd
namespace Qd
open PySem PySem.Spec L2
def wipeE (env : En) : List Nat → En
  | [] => env
  | v :: vs => (wipeE env vs).set v none
def rest (env e2 : En) : List Nat → En
  | [] => e2
  | v :: vs => (rest env e2 vs).set v (env[v]?.getD none)
def nonOw (env : En) (vs : List Nat) : Bool := vs.all fun v => match env[v]? with
  | some (some (.sh, _)) => true
  | some none => true
  | none => true
  | _ => false
theorem nonOw_get {env : En} {vs : List Nat} (h : nonOw env vs = true) {v : Nat} (hv : v ∈ vs) {k : Kd} {d : D} (e : env[v]? = some (some (k, d))) : k = .sh := by
  have h1 := List.all_eq_true.mp h v hv
  rw [e] at h1
  cases k with
  | sh => rfl
  | ow => cases h1
  | pn => cases h1
theorem rest_len (env e2 : En) : ∀ vs : List Nat, (rest env e2 vs).length = e2.length
  | [] => rfl
  | v :: vs => by simp only [rest, List.length_set, rest_len env e2 vs]
theorem rest_get {env e2 : En} {j : Nat} {s : Sl} : ∀ {vs : List Nat}, (rest env e2 vs)[j]? = some (some s) → (j ∈ vs ∧ env[j]? = some (some s)) ∨ e2[j]? = some (some s)
  | [], h => .inr h
  | v :: vs, h => by
    rcases get_set h with ⟨e, h⟩ | ⟨e, h⟩
    · left
      subst e
      refine ⟨by simp, ?_⟩
      cases q : env[j]? with
      | none =>
        rw [q] at h
        cases h
      | some o =>
        rw [q] at h
        have h : some s = o := h
        rw [← h]
    · rcases rest_get h with ⟨a, b⟩ | b
      · exact .inl ⟨List.mem_cons_of_mem _ a, b⟩
      · exact .inr b
theorem wipe_get (σ : L2.St) {j : Nat} : ∀ {vs : List Nat}, (wipe σ vs)[j]? = if j ∈ vs then (if j < σ.length then some none else none) else σ[j]?
  | [] => by simp [wipe]
  | v :: vs => by
    unfold wipe
    by_cases e : j = v
    · subst e
      rw [if_pos (by simp)]
      by_cases hl : j < σ.length
      · rw [List.getElem?_set_self (by rw [wipe_length]; exact hl), if_pos hl]
      · rw [List.getElem?_eq_none (by rw [List.length_set, wipe_length]; omega), if_neg hl]
    · rw [List.getElem?_set_ne (Ne.symm e), wipe_get σ]
      by_cases hm : j ∈ vs
      · rw [if_pos hm, if_pos (List.mem_cons_of_mem _ hm)]
      · rw [if_neg hm, if_neg (by simp [e, hm])]
theorem wipe_off {vs : List Nat} {σ σ' : L2.St} (h : Off vs (wipe σ vs) σ') : wipe σ' vs = wipe σ vs := by
  obtain ⟨h1, h2⟩ := h
  rw [wipe_length] at h1
  apply List.ext_getElem?
  intro j
  rw [wipe_get, wipe_get]
  by_cases hm : j ∈ vs
  · rw [if_pos hm, if_pos hm, h1]
  · rw [if_neg hm, if_neg hm, h2 j hm, wipe_get, if_neg hm]
section
variable {X : Cx} {K : PySem.W.Frag} {x : Fx} {env env2 : En} {σ σ2 : L2.St} {Hs Hs2 H H2 : Hp}
theorem IV.drop (v : Nat) (I : IV K x env σ Hs H) : IV K x (env.set v none) (σ.set v none) Hs H := by
  refine ⟨by rw [List.length_set, List.length_set, I.len], I.ex, I.fr, I.sep, I.h0, fun j e h1 => ?_, fun j k e h1 h2 => ?_, fun j l kj kl dj dl q hne h1 h2 h3 h4 h5 => ?_⟩
  · rcases get_set h1 with ⟨rfl, h⟩ | ⟨hj, h⟩
    · cases h
    · rw [List.getElem?_set_ne (Ne.symm hj)]
      exact I.sh j e h
  · rcases get_set h1 with ⟨rfl, h⟩ | ⟨hj, h⟩
    · cases h
    · rw [List.getElem?_set_ne (Ne.symm hj)]
      exact I.ow j k e h h2
  · rcases get_set h1 with ⟨rfl, h⟩ | ⟨hj, h⟩
    · cases h
    · rcases get_set h3 with ⟨rfl, h'⟩ | ⟨hl, h'⟩
      · cases h'
      · rw [List.getElem?_set_ne (Ne.symm hj)] at h5
        rw [List.getElem?_set_ne (Ne.symm hl)]
        exact I.dj j l kj kl dj dl q hne h h2 h' h4 h5
theorem IV.wipe (I : IV K x env σ Hs H) : ∀ vs : List Nat, IV K x (wipeE env vs) (L2.wipe σ vs) Hs H
  | [] => I
  | v :: vs => (IV.wipe I vs).drop v
/-- behind a block: the def's own slots again -/
theorem IV.back {vs : List Nat} (I : IV K x env σ Hs H) (hn : nonOw env vs = true) (I2 : IV K x env2 (L2.wipe σ vs) Hs2 H2) (s : Same Hs Hs2) : IV K x (rest env env2 vs) σ Hs2 H2 := by
  have ow : ∀ {j : Nat} {k : Kd} {d : D}, (rest env env2 vs)[j]? = some (some (k, d)) → k ≠ .sh → env2[j]? = some (some (k, d)) := fun {j k d} h hk => by
    rcases rest_get h with ⟨a, b⟩ | b
    · exact absurd (nonOw_get hn a b) hk
    · exact b
  refine ⟨by rw [rest_len, I2.len, wipe_length], I2.ex, I2.fr, I2.sep, I2.h0, fun j e h1 => ?_, fun j k e h1 h2 => ?_, fun j l kj kl dj dl q hne h1 h2 h3 h4 h5 => ?_⟩
  · rcases rest_get h1 with ⟨a, b⟩ | b
    · obtain ⟨v, hv, r⟩ := I.sh j e b
      exact ⟨v, hv, Rp.mono s _ r⟩
    · obtain ⟨v, hv, r⟩ := I2.sh j e b
      exact ⟨v, (wipe_some hv).1, r⟩
  · obtain ⟨p, a, b, c, o, z⟩ := I2.ow j k e (ow h1 h2) h2
    exact ⟨p, (wipe_some a).1, b, c, o, z⟩
  · have g1 := ow h1 h2
    have g3 := ow h3 h4
    obtain ⟨p, a, _⟩ := I2.ow j kj dj g1 h2
    obtain ⟨p', a', _⟩ := I2.ow l kl dl g3 h4
    have e1 := (wipe_some a).1
    have e2 := (wipe_some a').1
    rw [h5] at e1
    cases e1
    intro z
    rw [e2] at z
    cases z
    exact I2.dj j l kj kl dj dl q hne g1 h2 g3 h4 a a'
/-- an object of one's own, guarded -/
theorem IV.guard {L : Addr} {o : HO} (I : IV K x env σ Hs H) (hL : H L = some o) (hn : Hs L = none) (ap : Apart env σ L) : IV K { x with fm := upd x.fm L o } env σ Hs H := by
  refine ⟨I.len, I.ex, fun b u e => ?_, fun b u e => ?_, I.h0, I.sh, fun j k d h1 h2 => ?_, I.dj⟩
  · by_cases hb : b = L
    · subst hb
      have e : upd x.fm b o b = some u := e
      rw [upd_same] at e
      cases e
      exact hL
    · have e : upd x.fm L o b = some u := e
      rw [upd_ne hb] at e
      exact I.fr b u e
  · have hb : b ≠ L := fun z => by
      subst z
      rw [hn] at e
      cases e
    rcases I.sep b u e with z | z
    · exact .inl z
    · right
      show upd x.fm L o b = none
      rw [upd_ne hb]
      exact z
  · obtain ⟨p, a, b, c, w, z⟩ := I.ow j k d h1 h2
    have hp : p ≠ L := fun e => by
      subst e
      exact ap j k d h1 h2 a
    exact ⟨p, a, b, by show upd x.fm L o p = none; rw [upd_ne hp]; exact c, w, z⟩
theorem IV.unguard {L : Addr} {o : HO} (I : IV K { x with fm := upd x.fm L o } env σ Hs H) (hf : x.fm L = none) (h0 : x.hs L = none) : IV K x env σ Hs H ∧ H L = some o ∧ Hs L = none ∧ Apart env σ L := by
  have hl : H L = some o := I.fr L o (show upd x.fm L o L = some o from upd_same)
  have hn : Hs L = none := by
    cases e : Hs L with
    | none => rfl
    | some u =>
      rcases I.sep L u e with z | z
      · have z : x.hs L = some u := z
        rw [h0] at z
        cases z
      · have z : upd x.fm L o L = none := z
        rw [upd_same] at z
        cases z
  have sub : Same x.fm (upd x.fm L o) := same_new hf
  refine ⟨⟨I.len, I.ex, fun b u e => I.fr b u (sub b u e), fun b u e => ?_, I.h0, I.sh, fun j k d h1 h2 => ?_, I.dj⟩, hl, hn, fun j k d h1 h2 e => ?_⟩
  · rcases I.sep b u e with z | z
    · exact .inl z
    · right
      have z : upd x.fm L o b = none := z
      by_cases hb : b = L
      · rw [hb, upd_same] at z
        cases z
      · rw [upd_ne hb] at z
        exact z
  · obtain ⟨p, a, b, c, w, z⟩ := I.ow j k d h1 h2
    have c : upd x.fm L o p = none := c
    have hp : p ≠ L := fun e => by
      rw [e, upd_same] at c
      cases c
    rw [upd_ne hp] at c
    exact ⟨p, a, b, c, w, z⟩
  · obtain ⟨p, a, b, c, w, z⟩ := I.ow j k d h1 h2
    rw [e] at a
    cases a
    have c : upd x.fm L o L = none := c
    rw [upd_same] at c
    cases c
/-- an object that no one here knows is written -/
theorem IV.other {L : Addr} {o : HO} (I : IV K x env σ Hs H) (hn : Hs L = none) (hf : x.fm L = none) (ap : Apart env σ L) : IV K x env σ Hs (upd H L o) := by
  refine ⟨I.len, same_mut I.ex hn, same_mut I.fr hf, I.sep, I.h0, I.sh, fun j k d h1 h2 => ?_, I.dj⟩
  obtain ⟨p, a, b, c, w, z⟩ := I.ow j k d h1 h2
  have hp : p ≠ L := fun e => by
    subst e
    exact ap j k d h1 h2 a
  exact ⟨p, a, b, c, w.mono (Same.refl _) (upd_ne hp), z⟩
theorem Apart.wipe {p : Addr} (ap : Apart env σ p) : ∀ vs : List Nat, Apart (wipeE env vs) (L2.wipe σ vs) p
  | [] => ap
  | v :: vs => fun j k d h1 h2 => by
    rcases get_set h1 with ⟨e, h⟩ | ⟨e, h⟩
    · cases h
    · show ((L2.wipe σ vs).set v none)[j]? ≠ _
      rw [List.getElem?_set_ne (Ne.symm e)]
      exact Apart.wipe ap vs j k d h h2
theorem Apart.back {vs : List Nat} {p : Addr} (hn : nonOw env vs = true) (ap : Apart env2 (L2.wipe σ vs) p) (I2 : IV K x env2 (L2.wipe σ vs) Hs2 H2) : Apart (rest env env2 vs) σ p := fun j k d h1 h2 e => by
  rcases rest_get h1 with ⟨a, b⟩ | b
  · exact h2 (nonOw_get hn a b)
  · obtain ⟨q, a, _⟩ := I2.ow j k d b h2
    have e1 := (wipe_some a).1
    rw [e] at e1
    cases e1
    exact ap j k d b h2 a
def lcL (bs : Bs) (vs : List Nat) (pt : FG) (c f : FE) : List D → En → List D → Option (List D × En)
  | [], env, acc => if chkB false env bs then some (acc, env) else none
  | d :: ds, env, acc => if chkB false env bs then (pt env d).bind fun e1 => (c e1).bind fun p => match p.1 with
    | .bl true => (f p.2).bind fun q => if acc.length < sizeLine then lcL bs vs pt c f ds (wipeE q.2 vs) (acc ++ [q.1]) else none
    | .bl false => lcL bs vs pt c f ds (wipeE p.2 vs) acc
    | _ => none else none
def eLc (src : FI) (vs : List Nat) (pt : FG) (c f : FE) : FE := fun env => (src env).bind fun p => if nonOw p.2.2 vs && p.2.1.all (fun b => decide (b.1 ∉ vs)) then (lcL p.2.1 vs pt c f p.1 (wipeE p.2.2 vs) []).map fun r => (.lst r.1, rest p.2.2 r.2 vs) else none
theorem lcL_chk {bs : Bs} {vs : List Nat} {pt : FG} {c f : FE} {items : List D} {env : En} {acc : List D} {o : List D × En} (h : lcL bs vs pt c f items env acc = some o) : chkB false env bs = true := by
  cases items with
  | nil =>
    unfold lcL at h
    split at h
    · assumption
    · cases h
  | cons d ds =>
    unfold lcL at h
    split at h
    · assumption
    · cases h
theorem lcRun {src : FI} {vs : List Nat} {pt : FG} {c f : FE} {Q : VK} (h : rdF K (eLc src vs pt c f) σ H Q) : tLc (rdI K src) (rdG K pt vs) (rdT K c) (rd K f) vs σ H Q := by
  obtain ⟨y, env, Hs, d, env', I, hf, k⟩ := h
  obtain ⟨⟨items, bs, e1⟩, h1, hf⟩ := Option.bind_eq_some_iff.mp hf
  split at hf
  · rename_i hck
    simp only [Bool.and_eq_true] at hck
    obtain ⟨hno, hbs⟩ := hck
    have hno : nonOw e1 vs = true := hno
    obtain ⟨⟨rs, er⟩, hl, hf⟩ := Option.map_eq_some_iff.mp hf
    cases hf
    have hl : lcL bs vs pt c f items (wipeE e1 vs) [] = some (rs, er) := hl
    refine ⟨y, env, Hs, items, bs, e1, I, h1, fun J H' Hs' I' s' jok L hL => ?_⟩
    have hfm := I'.fm_none hL
    have hh0 : y.hs L = none := by
      cases e : y.hs L with
      | none => rfl
      | some u =>
        rw [I'.ex _ _ (I'.h0 _ _ e)] at hL
        cases hL
    refine ⟨fun i m H2 => m = items.length - i ∧ i ≤ items.length ∧ ∃ env2 Hs2 acc av, IV K y env2 (wipe σ vs) Hs2 H2 ∧ Same Hs' Hs2 ∧ H2 L = some (.lst av) ∧ Rps K Hs2 acc av ∧ Hs2 L = none ∧ Apart env2 (wipe σ vs) L ∧ lcL bs vs pt c f (items.drop i) env2 acc = some (rs, er),
      ⟨items.length, by omega, by omega, wipeE e1 vs, Hs', [], [], (I'.new hL).wipe vs, Same.refl _, upd_same, by simp only [Rps], I'.hs_none hL, (I'.apart hL).wipe vs, by simpa using hl⟩, fun i m H2 hW => ?_⟩
    obtain ⟨rfl, hle, env2, Hs2, acc, av, I2, s2, hav, ra, hLs, ap, hl2⟩ := hW
    have chk := lcL_chk hl2
    obtain ⟨j1, j2⟩ := jok i env2 (wipe σ vs) Hs2 H2 I2 s2 fun b hb => by
      obtain ⟨kk, e, _⟩ := chkB_get chk hb
      refine ⟨?_, kk, e⟩
      have hnv : b.1 ∉ vs := of_decide_eq_true (List.all_eq_true.mp hbs b hb)
      rw [wipe_get, if_neg hnv]
    by_cases hlt : i < items.length
    · have hd : items[i]? = some items[i] := List.getElem?_eq_getElem hlt
      obtain ⟨jg, jy⟩ := j1 items[i] hd
      rw [List.drop_eq_getElem_cons hlt] at hl2
      unfold lcL at hl2
      rw [if_pos chk] at hl2
      · obtain ⟨e3, h3, hl2⟩ := Option.bind_eq_some_iff.mp hl2
        obtain ⟨⟨cb, e4⟩, h4, hl2⟩ := Option.bind_eq_some_iff.mp hl2
        refine .inr ⟨jg, fun H3 => ∃ env3 Hs3 acc av, IV K y env3 (wipe σ vs) Hs3 H3 ∧ Same Hs' Hs3 ∧ H3 L = some (.lst av) ∧ Rps K Hs3 acc av ∧ Hs3 L = none ∧ Apart env3 (wipe σ vs) L ∧ lcL bs vs pt c f (items.drop (i + 1)) env3 acc = some (rs, er), fun H3 hN => ⟨items.length - (i + 1), by omega, rfl, hlt, hN⟩, fun v H3 hy => ?_⟩
        obtain ⟨Hs3, I3, s3, r3, sH, same3⟩ := jy v H3 hy
        have hav3 := sH _ _ hav
        have hLs3 : Hs3 L = none := (same3 L _ hav).trans hLs
        have Ig := I3.guard hav3 hLs3 ap
        refine ⟨_, env2, Hs3, items[i], e3, Ig, r3, h3, fun σ4 H4 Hs4 I4 s4 off => ⟨wipe_off off, ?_⟩⟩
        cases cb <;> try (cases hl2; done)
        rename_i b
        refine ⟨_, e3, Hs4, b, e4, I4, h4, fun H5 Hs5 I5 s5 => ?_⟩
        cases b with
        | true =>
          obtain ⟨⟨z, e6⟩, h6, hl2⟩ := Option.bind_eq_some_iff.mp hl2
          split at hl2
          · rename_i hz
            refine ⟨_, e4, Hs5, z, e6, I5, h6, fun w H6 Hs6 I6 s6 r6 => ?_⟩
            obtain ⟨Iu, hL6, hLs6, ap6⟩ := I6.unguard hfm hh0
            have s26 : Same Hs2 Hs6 := s3.trans (s4.trans (s5.trans s6))
            refine ⟨av, hL6, by rw [ra.length]; exact hz, wipeE e6 vs, Hs6, acc ++ [z], av ++ [w], ?_, s2.trans s26, upd_same, (Rps.mono s26 _ ra).append (by simp only [Rps]; exact ⟨w, [], rfl, r6, rfl⟩), hLs6, ?_, hl2⟩
            · rw [← wipe_off off]
              exact (Iu.other hLs6 hfm ap6).wipe vs
            · rw [← wipe_off off]
              exact ap6.wipe vs
          · cases hl2
        | false =>
          obtain ⟨Iu, hL5, hLs5, ap5⟩ := I5.unguard hfm hh0
          have s25 : Same Hs2 Hs5 := s3.trans (s4.trans s5)
          refine ⟨wipeE e4 vs, Hs5, acc, av, ?_, s2.trans s25, hL5, Rps.mono s25 _ ra, hLs5, ?_, hl2⟩
          · rw [← wipe_off off]
            exact Iu.wipe vs
          · rw [← wipe_off off]
            exact ap5.wipe vs
    · refine .inl ⟨j2 (by omega), ?_⟩
      rw [List.drop_eq_nil_of_le (by omega)] at hl2
      unfold lcL at hl2
      rw [if_pos chk] at hl2
      cases hl2
      exact k L H2 Hs2 (I'.back hno I2 s2) (s'.trans s2) ⟨av, hav, ra⟩ hLs hfm (ap.back hno I2)
  · cases hf
end
end Qd
namespace Qd
open PySem PySem.Spec L2
section
variable {X : Cx} {K : PySem.W.Frag}
theorem dts_nil : PTs X [] (rdT X.K (eK (.bl true))) := ⟨fun pins s σ H Q I h => pts_nil.run pins s σ H Q I (by
  obtain ⟨x, env, Hs, b, env', I, hf, k⟩ := h
  cases hf
  exact k H Hs I (Same.refl _))⟩
theorem dts_one {c : Expr} {f : FE} (h : DT X c f) : PTs X [c] (rdT X.K f) := pts_one h
section
variable {elt tg iter : Expr} {ifs : List Expr} {scope : Scope} {own : List (Str × Nat)} {pos : Pos} {src : FI} {pt : FG} {c f : FE}
theorem df_lc (own : List (Str × Nat)) (hc : X.calm = true) (hN : X.N.Nodup) (hi : DI X tg iter src) (ok : BlkOk X.N X.env.scope scope own)
    (hg : ∀ (s : Shared) (H : Hp) (C : Addr) (cl : List (Str × Addr)) (fp : List Addr), DG (X.blk s H scope (compEnvC scope cl C X.env) fp) tg pt (own.map (·.2))) (ht : ∀ (s : Shared) (H : Hp) (C : Addr) (cl : List (Str × Addr)) (fp : List Addr), PTs (X.blk s H scope (compEnvC scope cl C X.env) fp) ifs (rdT X.K c))
    (he : ∀ (s : Shared) (H : Hp) (C : Addr) (cl : List (Str × Addr)) (fp : List Addr), DE (X.blk s H scope (compEnvC scope cl C X.env) fp) elt f) (hs : ∀ x, foldedSetIterable iter X.env x = pure x := by intro _; rfl) :
    DF X (.ListComp elt [⟨tg, iter, ifs, 0⟩] scope pos) (eLc src (own.map (·.2)) pt c f) := imp (pe_lc hc hN hi ok hg ht he hs) fun _ _ _ h => lcRun h
/-- y = [..] on one line -/
theorem ds_ownLc (i : Nat) (own : List (Str × Nat)) {y : Str} {py spos : Pos} (hc : X.calm = true) (hN : X.N.Nodup) (hi : DI X tg iter src) (ok : BlkOk X.N X.env.scope scope own)
    (hg : ∀ (s : Shared) (H : Hp) (C : Addr) (cl : List (Str × Addr)) (fp : List Addr), DG (X.blk s H scope (compEnvC scope cl C X.env) fp) tg pt (own.map (·.2))) (ht : ∀ (s : Shared) (H : Hp) (C : Addr) (cl : List (Str × Addr)) (fp : List Addr), PTs (X.blk s H scope (compEnvC scope cl C X.env) fp) ifs (rdT X.K c))
    (he : ∀ (s : Shared) (H : Hp) (C : Addr) (cl : List (Str × Addr)) (fp : List Addr), DE (X.blk s H scope (compEnvC scope cl C X.env) fp) elt f) (hy : X.N[i]? = some y := by rfl) (hyl : X.env.scope.names.lookup y = some .local := by rfl)
    (hsw : swapsWith (.ListComp elt [⟨tg, iter, ifs, 0⟩] scope pos) (some (.Name y py)) spos.line X.env = pure true := by exact sw_true rfl rfl rfl (by decide +kernel)) (hs : ∀ x, foldedSetIterable iter X.env x = pure x := by intro _; rfl) :
    DS X (.Assign [.Name y py] (.ListComp elt [⟨tg, iter, ifs, 0⟩] scope pos) spos) (sOw i (eLc src (own.map (·.2)) pt c f)) := impS (ps_setLc hc hN hy hyl hsw hi ok hg ht he hs) fun Z σ H h => by
  obtain ⟨x, env, Hs, o, I, hf, k⟩ := h
  obtain ⟨⟨d, e1⟩, h1, hf⟩ := Option.bind_eq_some_iff.mp hf
  split at hf
  · rename_i ho
    cases hf
    exact lcRun ⟨x, env, Hs, d, e1, I, h1, fun p H' Hs' I' s' ow n m ap => k _ H' Hs' (I'.setOw (by rw [← I'.len]; exact okSet_lt ho) ow n m ap) s'⟩
  · cases hf
theorem ds_setLc (i : Nat) (own : List (Str × Nat)) {y : Str} {py spos : Pos} (hc : X.calm = true) (hN : X.N.Nodup) (hi : DI X tg iter src) (ok : BlkOk X.N X.env.scope scope own)
    (hg : ∀ (s : Shared) (H : Hp) (C : Addr) (cl : List (Str × Addr)) (fp : List Addr), DG (X.blk s H scope (compEnvC scope cl C X.env) fp) tg pt (own.map (·.2))) (ht : ∀ (s : Shared) (H : Hp) (C : Addr) (cl : List (Str × Addr)) (fp : List Addr), PTs (X.blk s H scope (compEnvC scope cl C X.env) fp) ifs (rdT X.K c))
    (he : ∀ (s : Shared) (H : Hp) (C : Addr) (cl : List (Str × Addr)) (fp : List Addr), DE (X.blk s H scope (compEnvC scope cl C X.env) fp) elt f) (hy : X.N[i]? = some y := by rfl) (hyl : X.env.scope.names.lookup y = some .local := by rfl)
    (hsw : swapsWith (.ListComp elt [⟨tg, iter, ifs, 0⟩] scope pos) (some (.Name y py)) spos.line X.env = pure true := by exact sw_true rfl rfl rfl (by decide +kernel)) (hs : ∀ x, foldedSetIterable iter X.env x = pure x := by intro _; rfl) :
    DS X (.Assign [.Name y py] (.ListComp elt [⟨tg, iter, ifs, 0⟩] scope pos) spos) (sG (eLc src (own.map (·.2)) pt c f) (gN i)) := impS (ps_setLc hc hN hy hyl hsw hi ok hg ht he hs) fun Z σ H h => by
  obtain ⟨x, env, Hs, o, I, hf, k⟩ := h
  obtain ⟨⟨d, e1⟩, h1, hf⟩ := Option.bind_eq_some_iff.mp hf
  obtain ⟨e2, h2, hf⟩ := Option.map_eq_some_iff.mp hf
  cases hf
  unfold gN at h2
  split at h2
  · rename_i ho
    cases h2
    refine lcRun ⟨x, env, Hs, d, e1, I, h1, fun p H' Hs' I' s' ow n m ap => ?_⟩
    obtain ⟨G, I2, s2, r⟩ := I'.freeze ow n m ap
    exact k _ H' G (I2.setSh (by rw [← I2.len]; exact okSet_lt ho) r) (s'.trans s2)
  · cases h2
end
def putD (kvs : List (Ky × D)) (k : Ky) (v : D) : List (Ky × D) := if (kvs.any fun kv => decide (kv.1 = k)) = true then kvs.map (fun kv => if kv.1 = k then (kv.1, v) else kv) else kvs ++ [(k, v)]
def dropD (kvs : List (Ky × D)) (k : Ky) : List (Ky × D) := kvs.filter fun kv => decide (kv.1 ≠ k)
theorem RpK.any {H : Hp} {k : Ky} : ∀ {kvs : List (Ky × D)} {ks : List (Key × V)}, RpK K H kvs ks → (ks.any fun kv => decide (kv.1 = k.key)) = kvs.any fun kv => decide (kv.1 = k)
  | [], _, r => by
    simp only [RpK] at r
    subst r
    rfl
  | (k', d) :: kvs, _, r => by
    simp only [RpK] at r
    obtain ⟨w, r', rfl, h1, h2⟩ := r
    simp only [List.any_cons, RpK.any h2]
    congr 1
    by_cases e : k' = k
    · rw [decide_eq_true e, e, decide_eq_true rfl]
    · rw [decide_eq_false e, decide_eq_false fun z => e (Ky.key_inj z)]
theorem RpK.mapPut {H : Hp} {k : Ky} {z : D} {w : V} (rw' : Rp K H z w) : ∀ {kvs : List (Ky × D)} {ks : List (Key × V)}, RpK K H kvs ks → RpK K H (kvs.map fun kv => if kv.1 = k then (kv.1, z) else kv) (ks.map fun kv => if kv.1 = k.key then (kv.1, w) else kv)
  | [], _, r => by
    simp only [RpK] at r
    subst r
    simp only [List.map_nil, RpK]
  | (k', d) :: kvs, _, r => by
    simp only [RpK] at r
    obtain ⟨u, r', rfl, h1, h2⟩ := r
    simp only [List.map_cons]
    by_cases e : k' = k
    · rw [if_pos e, if_pos (by rw [e])]
      simp only [RpK]
      exact ⟨w, _, rfl, rw', RpK.mapPut rw' h2⟩
    · rw [if_neg e, if_neg fun z => e (Ky.key_inj z)]
      simp only [RpK]
      exact ⟨u, _, rfl, h1, RpK.mapPut rw' h2⟩
theorem RpK.append {H : Hp} : ∀ {kvs more : List (Ky × D)} {ks ms : List (Key × V)}, RpK K H kvs ks → RpK K H more ms → RpK K H (kvs ++ more) (ks ++ ms)
  | [], _, _, _, r, s => by
    simp only [RpK] at r
    subst r
    exact s
  | (k', d) :: kvs, _, _, _, r, s => by
    simp only [RpK] at r
    obtain ⟨u, r', rfl, h1, h2⟩ := r
    simp only [List.cons_append, RpK]
    exact ⟨u, _, rfl, h1, RpK.append h2 s⟩
theorem RpK.put {H : Hp} {kvs : List (Ky × D)} {ks : List (Key × V)} {k : Ky} {z : D} {w : V} (r : RpK K H kvs ks) (rw' : Rp K H z w) : RpK K H (putD kvs k z) (putK ks k.key w) := by
  unfold putD putK
  rw [r.any]
  split
  · exact r.mapPut rw'
  · refine r.append ?_
    simp only [RpK]
    exact ⟨w, [], rfl, rw', rfl⟩
theorem RpK.drop {H : Hp} {k : Ky} : ∀ {kvs : List (Ky × D)} {ks : List (Key × V)}, RpK K H kvs ks → RpK K H (dropD kvs k) (dropK ks k.key)
  | [], _, r => by
    simp only [RpK] at r
    subst r
    simp only [dropD, dropK, List.filter_nil, RpK]
  | (k', d) :: kvs, _, r => by
    simp only [RpK] at r
    obtain ⟨u, r', rfl, h1, h2⟩ := r
    have ih := RpK.drop (k := k) h2
    unfold dropD dropK at ih ⊢
    by_cases e : k' = k
    · rw [List.filter_cons_of_neg (by simp [e]), List.filter_cons_of_neg (by simp [e])]
      exact ih
    · rw [List.filter_cons_of_pos (by simp [e]), List.filter_cons_of_pos (by simp; exact fun z => e (Ky.key_inj z))]
      simp only [RpK]
      exact ⟨u, _, rfl, h1, ih⟩
def dcL (bs : Bs) (vs : List Nat) (pt : FG) (c fk fv : FE) : List D → En → List (Ky × D) → Option (List (Ky × D) × En)
  | [], env, acc => if chkB false env bs then some (acc, env) else none
  | d :: ds, env, acc => if chkB false env bs then (pt env d).bind fun e1 => (c e1).bind fun p => match p.1 with
    | .bl true => (fk p.2).bind fun q => (fv q.2).bind fun r => (kyOf q.1).bind fun k => if acc.length < sizeLine then dcL bs vs pt c fk fv ds (wipeE r.2 vs) (putD acc k r.1) else none
    | .bl false => dcL bs vs pt c fk fv ds (wipeE p.2 vs) acc
    | _ => none else none
def eDc (src : FI) (vs : List Nat) (pt : FG) (c fk fv : FE) : FE := fun env => (src env).bind fun p => if nonOw p.2.2 vs && p.2.1.all (fun b => decide (b.1 ∉ vs)) then (dcL p.2.1 vs pt c fk fv p.1 (wipeE p.2.2 vs) []).map fun r => (.dic r.1, rest p.2.2 r.2 vs) else none
theorem dcL_chk {bs : Bs} {vs : List Nat} {pt : FG} {c fk fv : FE} {items : List D} {env : En} {acc : List (Ky × D)} {o : List (Ky × D) × En} (h : dcL bs vs pt c fk fv items env acc = some o) : chkB false env bs = true := by
  cases items with
  | nil =>
    unfold dcL at h
    split at h
    · assumption
    · cases h
  | cons d ds =>
    unfold dcL at h
    split at h
    · assumption
    · cases h
theorem kyOf_rp {H : Hp} {d : D} {v : V} {k : Ky} (h : kyOf d = some k) (p : Rp K H d v) : v = kV k.key := by
  cases d <;> first | (simp only [kyOf] at h; cases h; done) | skip
  · cases h
    simp only [Rp] at p
    exact p
  · cases h
    simp only [Rp] at p
    exact p
theorem dcRun {σ : L2.St} {H : Hp} {src : FI} {vs : List Nat} {pt : FG} {c fk fv : FE} {Q : VK} (h : rdF K (eDc src vs pt c fk fv) σ H Q) : tDc (rdI K src) (rdG K pt vs) (rdT K c) (rd K fk) (rd K fv) vs σ H Q := by
  obtain ⟨y, env, Hs, d, env', I, hf, k⟩ := h
  obtain ⟨⟨items, bs, e1⟩, h1, hf⟩ := Option.bind_eq_some_iff.mp hf
  split at hf
  · rename_i hck
    simp only [Bool.and_eq_true] at hck
    obtain ⟨hno, hbs⟩ := hck
    have hno : nonOw e1 vs = true := hno
    obtain ⟨⟨rs, er⟩, hl, hf⟩ := Option.map_eq_some_iff.mp hf
    cases hf
    have hl : dcL bs vs pt c fk fv items (wipeE e1 vs) [] = some (rs, er) := hl
    refine ⟨y, env, Hs, items, bs, e1, I, h1, fun J H' Hs' I' s' jok L hL => ?_⟩
    have hfm := I'.fm_none hL
    have hh0 : y.hs L = none := by
      cases e : y.hs L with
      | none => rfl
      | some u =>
        rw [I'.ex _ _ (I'.h0 _ _ e)] at hL
        cases hL
    refine ⟨fun i m H2 => m = items.length - i ∧ i ≤ items.length ∧ ∃ env2 Hs2 acc av, IV K y env2 (wipe σ vs) Hs2 H2 ∧ Same Hs' Hs2 ∧ H2 L = some (.dK av) ∧ RpK K Hs2 acc av ∧ Hs2 L = none ∧ Apart env2 (wipe σ vs) L ∧ dcL bs vs pt c fk fv (items.drop i) env2 acc = some (rs, er),
      ⟨items.length, by omega, by omega, wipeE e1 vs, Hs', [], [], (I'.new hL).wipe vs, Same.refl _, upd_same, by simp only [RpK], I'.hs_none hL, (I'.apart hL).wipe vs, by simpa using hl⟩, fun i m H2 hW => ?_⟩
    obtain ⟨rfl, hle, env2, Hs2, acc, av, I2, s2, hav, ra, hLs, ap, hl2⟩ := hW
    have chk := dcL_chk hl2
    obtain ⟨j1, j2⟩ := jok i env2 (wipe σ vs) Hs2 H2 I2 s2 fun b hb => by
      obtain ⟨kk, e, _⟩ := chkB_get chk hb
      refine ⟨?_, kk, e⟩
      have hnv : b.1 ∉ vs := of_decide_eq_true (List.all_eq_true.mp hbs b hb)
      rw [wipe_get, if_neg hnv]
    by_cases hlt : i < items.length
    · have hd : items[i]? = some items[i] := List.getElem?_eq_getElem hlt
      obtain ⟨jg, jy⟩ := j1 items[i] hd
      rw [List.drop_eq_getElem_cons hlt] at hl2
      unfold dcL at hl2
      rw [if_pos chk] at hl2
      obtain ⟨e3, h3, hl2⟩ := Option.bind_eq_some_iff.mp hl2
      obtain ⟨⟨cb, e4⟩, h4, hl2⟩ := Option.bind_eq_some_iff.mp hl2
      refine .inr ⟨jg, fun H3 => ∃ env3 Hs3 acc av, IV K y env3 (wipe σ vs) Hs3 H3 ∧ Same Hs' Hs3 ∧ H3 L = some (.dK av) ∧ RpK K Hs3 acc av ∧ Hs3 L = none ∧ Apart env3 (wipe σ vs) L ∧ dcL bs vs pt c fk fv (items.drop (i + 1)) env3 acc = some (rs, er), fun H3 hN => ⟨items.length - (i + 1), by omega, rfl, hlt, hN⟩, fun v H3 hy => ?_⟩
      obtain ⟨Hs3, I3, s3, r3, sH, same3⟩ := jy v H3 hy
      have hav3 := sH _ _ hav
      have hLs3 : Hs3 L = none := (same3 L _ hav).trans hLs
      have Ig := I3.guard hav3 hLs3 ap
      refine ⟨_, env2, Hs3, items[i], e3, Ig, r3, h3, fun σ4 H4 Hs4 I4 s4 off => ⟨wipe_off off, ?_⟩⟩
      cases cb <;> try (cases hl2; done)
      rename_i b
      refine ⟨_, e3, Hs4, b, e4, I4, h4, fun H5 Hs5 I5 s5 => ?_⟩
      cases b with
      | true =>
        obtain ⟨⟨z, e6⟩, h6, hl2⟩ := Option.bind_eq_some_iff.mp hl2
        obtain ⟨⟨z2, e7⟩, h7, hl2⟩ := Option.bind_eq_some_iff.mp hl2
        obtain ⟨ky, hk, hl2⟩ := Option.bind_eq_some_iff.mp hl2
        split at hl2
        · rename_i hz
          refine ⟨_, e4, Hs5, z, e6, I5, h6, fun w H6 Hs6 I6 s6 r6 => ⟨_, e6, Hs6, z2, e7, I6, h7, fun w2 H7 Hs7 I7 s7 r7 => ?_⟩⟩
          obtain ⟨Iu, hL7, hLs7, ap7⟩ := I7.unguard hfm hh0
          have s27 : Same Hs2 Hs7 := s3.trans (s4.trans (s5.trans (s6.trans s7)))
          refine ⟨av, ky.key, kyOf_rp hk r6, hL7, by rw [ra.length]; exact hz, wipeE e7 vs, Hs7, putD acc ky z2, putK av ky.key w2, ?_, s2.trans s27, upd_same, (RpK.mono s27 _ ra).put r7, hLs7, ?_, hl2⟩
          · rw [← wipe_off off]
            exact (Iu.other hLs7 hfm ap7).wipe vs
          · rw [← wipe_off off]
            exact ap7.wipe vs
        · cases hl2
      | false =>
        obtain ⟨Iu, hL5, hLs5, ap5⟩ := I5.unguard hfm hh0
        have s25 : Same Hs2 Hs5 := s3.trans (s4.trans s5)
        refine ⟨wipeE e4 vs, Hs5, acc, av, ?_, s2.trans s25, hL5, RpK.mono s25 _ ra, hLs5, ?_, hl2⟩
        · rw [← wipe_off off]
          exact Iu.wipe vs
        · rw [← wipe_off off]
          exact ap5.wipe vs
    · refine .inl ⟨j2 (by omega), ?_⟩
      rw [List.drop_eq_nil_of_le (by omega)] at hl2
      unfold dcL at hl2
      rw [if_pos chk] at hl2
      cases hl2
      exact k L H2 Hs2 (I'.back hno I2 s2) (s'.trans s2) ⟨av, hav, ra⟩ hLs hfm (ap.back hno I2)
  · cases hf
section
variable {kx vx tg iter : Expr} {ifs : List Expr} {scope : Scope} {own : List (Str × Nat)} {pos : Pos} {src : FI} {pt : FG} {c fk fv : FE}
theorem df_dc (own : List (Str × Nat)) (hc : X.calm = true) (hN : X.N.Nodup) (hi : DI X tg iter src) (ok : BlkOk X.N X.env.scope scope own)
    (hg : ∀ (s : Shared) (H : Hp) (C : Addr) (cl : List (Str × Addr)) (fp : List Addr), DG (X.blk s H scope (compEnvC scope cl C X.env) fp) tg pt (own.map (·.2))) (ht : ∀ (s : Shared) (H : Hp) (C : Addr) (cl : List (Str × Addr)) (fp : List Addr), PTs (X.blk s H scope (compEnvC scope cl C X.env) fp) ifs (rdT X.K c))
    (hk : ∀ (s : Shared) (H : Hp) (C : Addr) (cl : List (Str × Addr)) (fp : List Addr), DE (X.blk s H scope (compEnvC scope cl C X.env) fp) kx fk) (he : ∀ (s : Shared) (H : Hp) (C : Addr) (cl : List (Str × Addr)) (fp : List Addr), DE (X.blk s H scope (compEnvC scope cl C X.env) fp) vx fv) (hs : ∀ x, foldedSetIterable iter X.env x = pure x := by intro _; rfl) :
    DF X (.DictComp kx vx [⟨tg, iter, ifs, 0⟩] scope pos) (eDc src (own.map (·.2)) pt c fk fv) := imp (pe_dc hc hN hi ok hg ht hk he hs) fun _ _ _ h => dcRun h
theorem sw_trueD {elt elt2 : Expr} {gs : List Comprehension} {scope : Scope} {pos py : Pos} {y : Str} {l : Nat} {env : Env} (hk : env.scope.kind = .function) (hy : env.scope.names.lookup y = some .local) (hl : (py.line == pos.line) = true)
    (ha : (scope.names.any fun (n, k) => n == y && (k == .local || k == .cell)) = false) : swapsWith (.DictComp elt elt2 gs scope pos) (some (.Name y py)) l env = pure true := by
  have ky : env.kindOf y = some .local := hy
  have hb : env.blockKind = .function := by unfold Env.blockKind; rw [hk]; rfl
  unfold swapsWith
  simp only [hb, ky, ha, Expr.pos, hl]
  rfl
theorem ps_setDc {i : Nat} {y : Str} {py : Pos} {spos : Pos} {wi : TI} {g : TG} {tt : TT} {tk tv : TE} (hc : X.calm = true) (hN : X.N.Nodup) (hy : X.N[i]? = some y) (hyl : X.env.scope.names.lookup y = some .local)
    (hsw : swapsWith (.DictComp kx vx [⟨tg, iter, ifs, 0⟩] scope pos) (some (.Name y py)) spos.line X.env = pure true) (hi : PI X tg iter wi) (ok : BlkOk X.N X.env.scope scope own)
    (hg : ∀ (s : Shared) (H : Hp) (C : Addr) (cl : List (Str × Addr)) (fp : List Addr), PG (X.blk s H scope (compEnvC scope cl C X.env) fp) tg g) (ht : ∀ (s : Shared) (H : Hp) (C : Addr) (cl : List (Str × Addr)) (fp : List Addr), PTs (X.blk s H scope (compEnvC scope cl C X.env) fp) ifs tt)
    (hk : ∀ (s : Shared) (H : Hp) (C : Addr) (cl : List (Str × Addr)) (fp : List Addr), PE (X.blk s H scope (compEnvC scope cl C X.env) fp) kx tk)
    (he : ∀ (s : Shared) (H : Hp) (C : Addr) (cl : List (Str × Addr)) (fp : List Addr), PE (X.blk s H scope (compEnvC scope cl C X.env) fp) vx tv) (hs : ∀ x, foldedSetIterable iter X.env x = pure x := by intro _; rfl) :
    PS X (.Assign [.Name y py] (.DictComp kx vx [⟨tg, iter, ifs, 0⟩] scope pos) spos) (tAsg (tDc wi g tt tk tv (own.map (·.2))) (gName i)) := by
  refine ⟨fun pins s σ H D I h => ?_⟩
  rw [exec_Assign_Name_used _ _ _ _ hsw]
  refine wpAny_bind (wpAny_standAt (wpAny_bind ?_))
  show wpAny _ X.A (do let _ ← comprehension (.DictComp kx vx [⟨tg, iter, ifs, 0⟩] scope pos) scope X.env (firstIterPos [⟨tg, iter, ifs, 0⟩] pos) newDict false (eval iter X.env) (some (assign (.Name y py) X.env))) _ _ s
  have h : tDc wi g tt tk tv (own.map (·.2)) σ H (fun x H1 => gName i x σ H1 D.nx) := h
  refine wpAny_bind (thn (dc_core (Qf := fun _ s' => SP X pins D .next s') hc hN I hi ok hg ht hk he hs h fun L C s' m H' I' q hn f => ?_) fun _ s' hq => wpAny_pure (wpAny_pure hq))
  show wpAny _ _ (assign (.Name y py) X.env (.ref L)) _ _ _
  refine wpAny_assign_Name (store_ok2 (v := V.ref L) I' hN hy (.inl hyl) rfl (fun s2 I2 ⟨a, sb, ha⟩ => ?_) (.inr hyl))
  obtain ⟨f0, f1, f2, f3, f4, f5⟩ := f
  have haC : C ≠ a := by
    rcases ha with z | z
    · rw [z]; exact f1
    · exact fun e => f4 y a z e.symm
  refine ⟨m, hn.sameBut sb haC, fun h3 sb3 => ?_⟩
  exact ⟨_, H', I2.turned (t' := s2.toks) (fun b o hb e => (sb3.2 b hb).trans e) f0 f1 f3 f4 f5, q⟩
theorem ds_ownDc (i : Nat) (own : List (Str × Nat)) {y : Str} {py spos : Pos} (hc : X.calm = true) (hN : X.N.Nodup) (hi : DI X tg iter src) (ok : BlkOk X.N X.env.scope scope own)
    (hg : ∀ (s : Shared) (H : Hp) (C : Addr) (cl : List (Str × Addr)) (fp : List Addr), DG (X.blk s H scope (compEnvC scope cl C X.env) fp) tg pt (own.map (·.2))) (ht : ∀ (s : Shared) (H : Hp) (C : Addr) (cl : List (Str × Addr)) (fp : List Addr), PTs (X.blk s H scope (compEnvC scope cl C X.env) fp) ifs (rdT X.K c))
    (hk : ∀ (s : Shared) (H : Hp) (C : Addr) (cl : List (Str × Addr)) (fp : List Addr), DE (X.blk s H scope (compEnvC scope cl C X.env) fp) kx fk) (he : ∀ (s : Shared) (H : Hp) (C : Addr) (cl : List (Str × Addr)) (fp : List Addr), DE (X.blk s H scope (compEnvC scope cl C X.env) fp) vx fv) (hy : X.N[i]? = some y := by rfl) (hyl : X.env.scope.names.lookup y = some .local := by rfl)
    (hsw : swapsWith (.DictComp kx vx [⟨tg, iter, ifs, 0⟩] scope pos) (some (.Name y py)) spos.line X.env = pure true := by exact sw_trueD rfl rfl rfl (by decide +kernel)) (hs : ∀ x, foldedSetIterable iter X.env x = pure x := by intro _; rfl) :
    DS X (.Assign [.Name y py] (.DictComp kx vx [⟨tg, iter, ifs, 0⟩] scope pos) spos) (sOw i (eDc src (own.map (·.2)) pt c fk fv)) := impS (ps_setDc hc hN hy hyl hsw hi ok hg ht hk he hs) fun Z σ H h => by
  obtain ⟨x, env, Hs, o, I, hf, k⟩ := h
  obtain ⟨⟨d, e1⟩, h1, hf⟩ := Option.bind_eq_some_iff.mp hf
  split at hf
  · rename_i ho
    cases hf
    exact dcRun ⟨x, env, Hs, d, e1, I, h1, fun p H' Hs' I' s' ow n m ap => k _ H' Hs' (I'.setOw (by rw [← I'.len]; exact okSet_lt ho) ow n m ap) s'⟩
  · cases hf
end
def sSetK (i : Nat) (fk fv : FE) : FS := fun env => (fv env).bind fun p => (oS i p.2).bind fun _ => (fk p.2).bind fun q => (kyOf q.1).bind fun ky => match q.2[i]? with
    | some (some (k, .dic kvs)) => if k = .sh ∨ ¬ kvs.length < sizeLine then none else some (.nx (q.2.set i (some (k, .dic (putD kvs ky p.1)))))
    | _ => none
theorem ds_setK (i : Nat) {x : Str} {ei e : Expr} {fi fv : FE} {pos px ps : Pos} (hu : X.A.units + 1 < cLine) (hi : DE X ei fi) (he : DE X e fv) (hN : X.N[i]? = some x := by rfl) (hvis : Vis X.env.scope x := by first | exact Or.inl rfl | exact Or.inr (Or.inl rfl) | exact Or.inr (Or.inr rfl)) (hd : (x == ("__debug__" : Str)) = false := by decide)
    (hcd : (x == ("__classdict__" : Str)) = false := by decide) (hs : swapsWith e (some (.Subscript (.Name x px) ei ps)) pos.line X.env = pure false := by rfl) :
    DS X (.Assign [.Subscript (.Name x px) ei ps] e pos) (sSetK i fi fv) := impS (ps_dput hu (do_peek i hN hvis hd hcd) hi he hs) fun Z σ H h => by
  obtain ⟨y, env, Hs, o, I, hf, k⟩ := h
  obtain ⟨⟨d, e1⟩, h1, hf⟩ := Option.bind_eq_some_iff.mp hf
  obtain ⟨⟨o1, e1'⟩, h3, hf⟩ := Option.bind_eq_some_iff.mp hf
  obtain ⟨⟨n, e2⟩, h2, hf⟩ := Option.bind_eq_some_iff.mp hf
  obtain ⟨ky, hk, hf⟩ := Option.bind_eq_some_iff.mp hf
  have h3' : o1 = .s i ∧ e1' = e1 := by
    unfold oS at h3
    split at h3
    · cases h3
      exact ⟨rfl, rfl⟩
    · cases h3
  obtain ⟨rfl, rfl⟩ := h3'
  refine ⟨y, env, Hs, d, _, I, h1, fun v H1 Hs1 I1 s1 r1 => ⟨y, _, Hs1, .s i, _, I1, h3, fun w H2 Hs2 I2 s2 o2 => ⟨y, _, Hs2, n, e2, I2, h2, fun u H3 Hs3 I3 s3 r3 => ?_⟩⟩⟩
  have hf : (match e2[i]? with
    | some (some (k, .dic kvs)) => if k = .sh ∨ ¬ kvs.length < sizeLine then none else some (Out.nx (e2.set i (some (k, .dic (putD kvs ky d)))))
    | _ => none) = some o := hf
  split at hf
  · rename_i kk kvs hi2
    split at hf
    · cases hf
    · rename_i hkk
      cases hf
      have hkn : kk ≠ .sh := fun z => hkk (.inl z)
      have hzz : kvs.length < sizeLine := Classical.byContradiction fun z => hkk (.inr z)
      have o2 : σ[i]? = some (some w) := o2
      obtain ⟨p, a, b, c, ow, _⟩ := I3.ow i kk (.dic kvs) hi2 hkn
      rw [o2] at a
      cases a
      obtain ⟨ws, hp, rw'⟩ := ow
      have ev := kyOf_rp hk r3
      subst ev
      refine ⟨p, _, rfl, DPut.k hp (by rw [rw'.length]; exact hzz), ?_⟩
      exact k σ _ Hs3 (I3.put hi2 hkn o2 ⟨_, upd_same, rw'.put (Rp.mono (s2.trans s3) _ r1)⟩) (s1.trans (s2.trans s3))
  · cases hf
def ePopK (i : Nat) (fk : FE) : FE := fun env => match env[i]? with
  | some (some (_, .dic _)) => (fk env).bind fun q => (kyOf q.1).bind fun ky => match q.2[i]? with
    | some (some (k, .dic kvs)) => if k = .sh then none else (valD kvs ky).map fun v => (v, q.2.set i (some (k, .dic (dropD kvs ky))))
    | _ => none
  | _ => none
theorem de_popK (i : Nat) {x : Str} {e : Expr} {fk : FE} {pos apos cpos : Pos} (hk : DE X e fk) (m : M1 X (.Name x pos) "pop" apos e cpos := by exact ⟨rfl, rfl, rfl, rfl⟩) (hN : X.N[i]? = some x := by rfl) (hvis : Vis X.env.scope x := by first | exact Or.inl rfl | exact Or.inr (Or.inl rfl) | exact Or.inr (Or.inr rfl)) (hd : (x == ("__debug__" : Str)) = false := by decide)
    (hcd : (x == ("__classdict__" : Str)) = false := by decide) : DE X (.Call (.Attribute (.Name x pos) "pop" apos) [e] [] cpos) (ePopK i fk) := imp (pe_dpop1 (do_peek i hN hvis hd hcd) hk m) fun σ H Q h => by
  obtain ⟨y, env, Hs, d, env', I, hf, k⟩ := h
  unfold ePopK at hf
  split at hf
  · rename_i k0 kv0 hi0
    obtain ⟨⟨n, e2⟩, h2, hf⟩ := Option.bind_eq_some_iff.mp hf
    obtain ⟨ky, hky, hf⟩ := Option.bind_eq_some_iff.mp hf
    split at hf
    · rename_i kk kvs hi2
      split at hf
      · cases hf
      · rename_i hkn
        obtain ⟨z, hz, hf⟩ := Option.map_eq_some_iff.mp hf
        cases hf
        refine ⟨y, env, Hs, .s i, env, I, by unfold oS; rw [hi0], fun w H1 Hs1 I1 s1 o1 => ?_⟩
        have o1 : σ[i]? = some (some w) := o1
        obtain ⟨v1, hv1, p1⟩ := I1.slot hi0
        rw [o1] at hv1
        cases hv1
        obtain ⟨a0, ks0, rfl, g2, g3⟩ := p1
        refine ⟨a0, rfl, .inl ⟨ks0, .inl g2⟩, y, env, Hs1, n, e2, I1, h2, fun u H2 Hs2 I2 s2 r2 => ?_⟩
        have hi2 : e2[i]? = some (some (kk, .dic kvs)) := hi2
        obtain ⟨p, a, b, c, ow, _⟩ := I2.ow i kk (.dic kvs) hi2 hkn
        rw [o1] at a
        cases a
        obtain ⟨ws, hp, rw'⟩ := ow
        obtain ⟨w', hw', rz⟩ := (RpK.val (k := ky) rw').1 _ hz
        exact ⟨ws, ky.key, w', hp, kyOf_rp hky r2, hw', k w' _ Hs2 (I2.put hi2 hkn o1 ⟨_, upd_same, rw'.drop⟩) (s1.trans s2) rz⟩
    · cases hf
  · cases hf
end
end Qd
namespace Qd
open PySem PySem.Spec L2
section
variable {X : Cx} {K : PySem.W.Frag}
/-- a new tuple, shared at once -/
theorem IV.newTup {x : Fx} {env : En} {σ : L2.St} {Hs H : Hp} {T : Addr} {ds : List D} {vs : List V} (I : IV K x env σ Hs H) (hT : H T = none) (r : Rps K Hs ds vs) : ∃ Hs', IV K x env σ Hs' (upd H T (.tup vs)) ∧ Same Hs Hs' ∧ Rp K Hs' (.tup ds) (.ref T) ∧ Same H (upd H T (.tup vs)) ∧ ∀ a o, H a = some o → Hs' a = Hs a := by
  obtain ⟨I2, s2⟩ := (I.new (o := .tup vs) hT).share upd_same (I.hs_none hT) (I.fm_none hT) (I.apart hT)
  refine ⟨_, I2, s2, ?_, same_new hT, fun a o e => upd_ne (ne_of_none e hT)⟩
  simp only [Rp]
  exact ⟨T, vs, rfl, SqT.of upd_same, Rps.mono s2 _ r⟩
def enumD (i : Int) : List D → List D
  | [] => []
  | d :: ds => .tup [.int i, d] :: enumD (i + 1) ds
theorem enumD_get : ∀ (i : Int) (ds : List D) (j : Nat), (enumD i ds)[j]? = (ds[j]?).map fun d => .tup [.int (i + j), d]
  | i, [], j => by simp [enumD]
  | i, d :: ds, 0 => by simp [enumD]
  | i, d :: ds, j + 1 => by
    simp only [enumD, List.getElem?_cons_succ, enumD_get (i + 1) ds j]
    have e : i + 1 + (j : Int) = i + ((j + 1 : Nat) : Int) := by omega
    rw [e]
theorem enumD_length (i : Int) : ∀ ds : List D, (enumD i ds).length = ds.length
  | [] => rfl
  | d :: ds => by
    simp only [enumD, List.length_cons]
    rw [enumD_length]
def iEn (fo : FO) : FI := fun env => (fo env).bind fun p => match fetch p.2 p.1 with
  | some (.lst ds) => some (enumD 0 ds, bOf p.1 (.lst ds), p.2)
  | _ => none
theorem di_enum {e : Expr} {fo : FO} {p pos tpos : Pos} {elts : List Expr} {kk : Nat} (hm : X.mg "enumerate" = none) (h : DO X e fo) (hg : Gl X "enumerate" := by rfl) (hs : starEach [e] X.env = [(false, eval e X.env)] := by rfl) :
    DI X (.Tuple elts kk tpos) (.Call (.Name "enumerate" p) [e] [] pos) (iEn fo) := impI (pi_enum hg hm (da_cons h da_nil hs) hs) fun σ H R h => by
  obtain ⟨x, env, Hs, items, bs, env', I, hf, k⟩ := h
  obtain ⟨⟨o, e1⟩, h1, hf⟩ := Option.bind_eq_some_iff.mp hf
  have hf : (match fetch e1 o with
    | some (.lst ds) => some (enumD 0 ds, bOf o (.lst ds), e1)
    | _ => none) = some (items, bs, env') := hf
  split at hf
  · rename_i ds hd
    cases hf
    refine ⟨x, env, Hs, [o], env', I, by unfold aCons aNil; rw [h1]; rfl, fun vs H' Hs' I' s' o' => ?_⟩
    match vs, o' with
    | [v], ⟨o', _⟩ =>
    obtain ⟨a, ws, rfl, g2, g3⟩ := I'.pk o' hd
    refine ⟨a, ws, rfl, SqL.of g2, k _ H' Hs' I' s' fun i env2 σ2 Hs2 H2 I2 s2 hb => ?_⟩
    obtain ⟨a', ws, ea, q2, q3⟩ := later I2 s2 o' hd hb
    cases ea
    refine ⟨fun d hd' => ?_, fun hl => ⟨ws, SqL.of q2, by rw [q3.length]; rw [enumD_length] at hl; exact hl⟩⟩
    rw [enumD_get] at hd'
    obtain ⟨d0, hd0, hd'⟩ := Option.map_eq_some_iff.mp hd'
    obtain ⟨w, hw, rw'⟩ := q3.get hd0
    refine ⟨⟨ws, w, SqL.of q2, hw⟩, fun v H3 hy => ?_⟩
    obtain ⟨T, y, rfl, hT, rfl, hy⟩ := hy
    have e := hy ws (SqL.of q2)
    rw [hw] at e
    cases e
    subst hd'
    obtain ⟨Hs3, I3, s3, r3, sH, sm⟩ := I2.newTup (ds := [.int ((i : Nat) : Int), d0]) (vs := [.int ((i : Nat) : Int), w]) hT (by simp only [Rps, Rp]; exact ⟨_, _, rfl, rfl, _, _, rfl, rw', rfl⟩)
    refine ⟨Hs3, I3, s3, ?_, sH, sm⟩
    rw [Int.zero_add]
    exact r3
  · cases hf
def zipD : List D → List D → List D
  | a :: r, b :: t => .tup [a, b] :: zipD r t
  | _, _ => []
theorem zipD_get : ∀ (xs ys : List D) (j : Nat), (zipD xs ys)[j]? = (xs[j]?).bind fun a => (ys[j]?).map fun b => .tup [a, b]
  | [], ys, j => by simp [zipD]
  | a :: r, [], j => by
    simp only [zipD, List.getElem?_nil]
    cases (a :: r)[j]? <;> rfl
  | a :: r, b :: t, 0 => by simp [zipD]
  | a :: r, b :: t, j + 1 => by
    simp only [zipD, List.getElem?_cons_succ, zipD_get r t j]
theorem zipD_length : ∀ (xs ys : List D), (zipD xs ys).length = min xs.length ys.length
  | [], ys => by simp [zipD]
  | a :: r, [] => by simp [zipD]
  | a :: r, b :: t => by
    simp only [zipD, List.length_cons, zipD_length r t]
    omega
def iZ (fa fb : FO) : FI := fun env => (fa env).bind fun p => (fb p.2).bind fun q => match fetch q.2 p.1, fetch q.2 q.1 with
  | some (.lst ds), some (.lst es) => some (zipD ds es, bOf p.1 (.lst ds) ++ bOf q.1 (.lst es), q.2)
  | _, _ => none
theorem di_zip {e e2 : Expr} {fa fb : FO} {p pos tpos : Pos} {elts : List Expr} {kk : Nat} (hm : X.mg "zip" = none) (h : DO X e fa) (h' : DO X e2 fb) (hg : Gl X "zip" := by rfl)
    (hs : starEach [e, e2] X.env = (false, eval e X.env) :: starEach [e2] X.env := by rfl) (hs2 : starEach [e2] X.env = [(false, eval e2 X.env)] := by rfl) (hpl : (backTo pos (starEach [e2] X.env)).any (·.1) = false := by rfl) :
    DI X (.Tuple elts kk tpos) (.Call (.Name "zip" p) [e, e2] [] pos) (iZ fa fb) := impI (pi_zip hg hm (da_cons h (da_cons h' da_nil hs2) hs) hs hpl) fun σ H R h => by
  obtain ⟨x, env, Hs, items, bs, env', I, hf, k⟩ := h
  obtain ⟨⟨o, e1⟩, h1, hf⟩ := Option.bind_eq_some_iff.mp hf
  obtain ⟨⟨o2, e2⟩, h2, hf⟩ := Option.bind_eq_some_iff.mp hf
  have hf : (match fetch e2 o, fetch e2 o2 with
    | some (.lst ds), some (.lst es) => some (zipD ds es, bOf o (.lst ds) ++ bOf o2 (.lst es), e2)
    | _, _ => none) = some (items, bs, env') := hf
  split at hf
  · rename_i ds es hd he
    cases hf
    have h2' : fb e1 = some (o2, env') := h2
    refine ⟨x, env, Hs, [o, o2], env', I, by unfold aCons aNil; rw [h1]; simp only [Option.bind_some, h2', Option.map_some], fun vs H' Hs' I' s' o' => ?_⟩
    match vs, o' with
    | [v, w], ⟨oa, ob, _⟩ =>
    obtain ⟨a, ws, rfl, g2, g3⟩ := I'.pk oa hd
    obtain ⟨b, us, rfl, f2, f3⟩ := I'.pk ob he
    refine ⟨a, b, ws, us, rfl, SqL.of g2, SqL.of f2, k _ H' Hs' I' s' fun i env2 σ2 Hs2 H2 I2 s2 hb => ?_⟩
    obtain ⟨a', ws, ea, q2, q3⟩ := later I2 s2 oa hd fun z hz => hb z (List.mem_append_left _ hz)
    cases ea
    obtain ⟨b', us, eb, p2, p3⟩ := later I2 s2 ob he fun z hz => hb z (List.mem_append_right _ hz)
    cases eb
    refine ⟨fun d hd' => ?_, fun hl => ⟨ws, us, SqL.of q2, SqL.of p2, by rw [q3.length, p3.length]; rw [zipD_length] at hl; omega⟩⟩
    rw [zipD_get] at hd'
    obtain ⟨d0, hd0, hd'⟩ := Option.bind_eq_some_iff.mp hd'
    obtain ⟨d1, hd1, hd'⟩ := Option.map_eq_some_iff.mp hd'
    obtain ⟨w0, hw0, rw0⟩ := q3.get hd0
    obtain ⟨w1, hw1, rw1⟩ := p3.get hd1
    refine ⟨⟨ws, us, w0, w1, SqL.of q2, SqL.of p2, hw0, hw1⟩, fun v H3 hy => ?_⟩
    obtain ⟨T, y0, y1, rfl, hT, rfl, hy0, hy1⟩ := hy
    have e0 := hy0 ws (SqL.of q2)
    rw [hw0] at e0
    cases e0
    have e1 := hy1 us (SqL.of p2)
    rw [hw1] at e1
    cases e1
    subst hd'
    exact I2.newTup (ds := [d0, d1]) (vs := [w0, w1]) hT (by simp only [Rps]; exact ⟨_, _, rfl, rw0, _, _, rfl, rw1, rfl⟩)
  · cases hf
inductive Res where
  | ok (own : Bool) (d : D) (outs : List D)
abbrev FN := List D → Option Res
def mkEn (ks : List Kd) (ds : List D) : En := List.zipWith (fun k d => some (k, d)) ks ds
def Back (K : PySem.W.Frag) (x : Fx) (ks : List Kd) (Hs Hs' H' : Hp) (outs : List D) : Prop := Same Hs Hs' ∧ Same Hs' H' ∧ Same x.fm H' ∧ (∀ a o, Hs' a = some o → x.hs a = some o ∨ x.fm a = none) ∧
  ∀ (i : Nat), ks[i]? = some .pn → ∃ d', outs[i]? = some d' ∧ Hs' (x.pa i) = none ∧ Own K Hs' H' (x.pa i) d'
def ResE (K : PySem.W.Frag) (x : Fx) (ks : List Kd) (Hs : Hp) (Q : VK) : Res → Prop
  | .ok false d outs => ∀ v H' Hs', Back K x ks Hs Hs' H' outs → Rp K Hs' d v → Q v H'
  | .ok true d outs => ∀ p H' Hs', Back K x ks Hs Hs' H' outs → Own K Hs' H' p d → Hs' p = none → x.fm p = none → (∀ i : Nat, ks[i]? = some .pn → p ≠ x.pa i) → Q (.ref p) H'
def spD (K : PySem.W.Frag) (ks : List Kd) (f : FN) : Sp := fun vs H Q _ => ∃ (x : Fx) (Hs : Hp) (ds : List D) (r : Res), ds.length = ks.length ∧ IV K x (mkEn ks ds) (vs.map some) Hs H ∧ f ds = some r ∧ ResE K x ks Hs Q r
def outsOf : List Kd → En → Option (List D)
  | [], _ => some []
  | .pn :: ks, some (.pn, d) :: e => (outsOf ks e).map fun r => d :: r
  | .pn :: _, _ => none
  | .sh :: ks, _ :: e => (outsOf ks e).map fun r => .non :: r
  | .ow :: ks, _ :: e => (outsOf ks e).map fun r => .non :: r
  | _ :: _, [] => none
theorem outsOf_get : ∀ {ks : List Kd} {e : En} {outs : List D}, outsOf ks e = some outs → ∀ i : Nat, ks[i]? = some .pn → ∃ d, outs[i]? = some d ∧ e[i]? = some (some (.pn, d))
  | [], _, _, _, i, hi => by simp at hi
  | .pn :: ks, [], _, h, i, hi => by cases h
  | .pn :: ks, none :: e, _, h, i, hi => by cases h
  | .pn :: ks, some (.sh, d) :: e, _, h, i, hi => by cases h
  | .pn :: ks, some (.ow, d) :: e, _, h, i, hi => by cases h
  | .pn :: ks, some (.pn, d) :: e, _, h, i, hi => by
    obtain ⟨r, h1, h2⟩ := Option.map_eq_some_iff.mp (show (outsOf ks e).map (fun r => d :: r) = some _ from h)
    subst h2
    cases i with
    | zero => exact ⟨d, rfl, rfl⟩
    | succ i => simpa using outsOf_get h1 i (by simpa using hi)
  | .sh :: ks, [], _, h, i, hi => by cases h
  | .sh :: ks, s :: e, _, h, i, hi => by
    obtain ⟨r, h1, h2⟩ := Option.map_eq_some_iff.mp (show (outsOf ks e).map (fun r => .non :: r) = some _ from h)
    subst h2
    cases i with
    | zero => simp at hi
    | succ i => simpa using outsOf_get h1 i (by simpa using hi)
  | .ow :: ks, [], _, h, i, hi => by cases h
  | .ow :: ks, s :: e, _, h, i, hi => by
    obtain ⟨r, h1, h2⟩ := Option.map_eq_some_iff.mp (show (outsOf ks e).map (fun r => .non :: r) = some _ from h)
    subst h2
    cases i with
    | zero => simp at hi
    | succ i => simpa using outsOf_get h1 i (by simpa using hi)
/-- what a def does, by its body -/
def fnF (ks : List Kd) (n : Nat) (F : FS) : FN := fun ds => if ds.length = ks.length then match F (mkEn ks ds ++ List.replicate n none) with
  | some (.rt own d e) => (outsOf ks e).map fun o => .ok own d o
  | some (.nx e) => (outsOf ks e).map fun o => .ok false .non o
  | _ => none else none
theorem mkEn_length : ∀ {ks : List Kd} {ds : List D}, ds.length = ks.length → (mkEn ks ds).length = ks.length
  | [], [], _ => rfl
  | k :: ks, d :: ds, h => by
    have := mkEn_length (ks := ks) (ds := ds) (by simpa using h)
    simpa [mkEn] using this
theorem IV.pad {x : Fx} {env : En} {σ : L2.St} {Hs H : Hp} (I : IV K x env σ Hs H) (n : Nat) : IV K x (env ++ List.replicate n none) (σ ++ List.replicate n none) Hs H := by
  have g : ∀ {j : Nat} {s : Sl}, (env ++ List.replicate n none)[j]? = some (some s) → env[j]? = some (some s) := fun {j s} h => by
    by_cases hj : j < env.length
    · rw [List.getElem?_append_left hj] at h
      exact h
    · rw [List.getElem?_append_right (by omega), List.getElem?_replicate] at h
      split at h <;> cases h
  have g2 : ∀ {j : Nat} {v : V}, σ[j]? = some (some v) → (σ ++ List.replicate n none)[j]? = some (some v) := fun {j v} h => by
    rw [List.getElem?_append_left (List.getElem?_eq_some_iff.mp h).1]
    exact h
  have g3 : ∀ {j : Nat} {v : V}, (σ ++ List.replicate n none)[j]? = some (some v) → σ[j]? = some (some v) := fun {j v} h => by
    by_cases hj : j < σ.length
    · rw [List.getElem?_append_left hj] at h
      exact h
    · rw [List.getElem?_append_right (by omega), List.getElem?_replicate] at h
      split at h <;> cases h
  refine ⟨by simp [I.len], I.ex, I.fr, I.sep, I.h0, fun i d h => ?_, fun i k d h hk => ?_, fun i j k l d e p hne h1 h2 h3 h4 h5 => ?_⟩
  · obtain ⟨v, a, r⟩ := I.sh i d (g h)
    exact ⟨v, g2 a, r⟩
  · obtain ⟨p, a, r⟩ := I.ow i k d (g h) hk
    exact ⟨p, g2 a, r⟩
  · intro z
    exact I.dj i j k l d e p hne (g h1) h2 (g h3) h4 (g3 h5) (g3 z)
theorem IV.toBack {x : Fx} {e : En} {σ : L2.St} {Hs Hs' H' : Hp} {ks : List Kd} {outs : List D} (I : IV K x e σ Hs' H') (s : Same Hs Hs') (h : outsOf ks e = some outs) : Back K x ks Hs Hs' H' outs ∧ ∀ p, Apart e σ p → ∀ i : Nat, ks[i]? = some .pn → p ≠ x.pa i := by
  refine ⟨⟨s, I.ex, I.fr, I.sep, fun i hi => ?_⟩, fun p ap i hi z => ?_⟩
  · obtain ⟨d, h1, h2⟩ := outsOf_get h i hi
    obtain ⟨p, a, b, c, o, z⟩ := I.ow i .pn d h2 (by decide)
    have z := z rfl
    subst z
    exact ⟨d, h1, b, o⟩
  · obtain ⟨d, h1, h2⟩ := outsOf_get h i hi
    obtain ⟨q, a, b, c, o, w⟩ := I.ow i .pn d h2 (by decide)
    have w := w rfl
    subst w
    subst z
    exact ap i .pn d h2 (by decide) a
end
section
variable {P : Program} {w : World} {K : PySem.W.Frag} {mg : Str → Option Value} {base : Heap} {nm qual : Str} {params : Arguments} {body : List Stmt} {scope : Scope} {dvs : List V} {kws : List (Str × V)} {f : Addr} {fd : FuncData}
/-- a def that raises nothing -/
theorem fn_ok {N ps : List Str} {k : Nat} {ks : List Kd} {F : FS} {g : FN} (FD : FunD K nm qual params body scope dvs kws f fd) (SC : FnScope N ps scope) (hk : ks.length = ps.length) (hN : ps.length ≤ N.length)
    (hb : ∀ (cdv : Value) (A : Around) (outer : List Env) (s : Shared) (H : Hp) (E : XK), Room k (A.deeper (PyProof.Rows.envOfC qual scope s.heap.objs.size f cdv)) → DSs (cxOf CX0 P w K mg base N qual scope f cdv A outer s H E).nox body F)
    (hg : ∀ ds r, g ds = some r → fnF ks (N.length - ps.length) F ds = some r) : FnOk P w K mg base CX0 (k + 1) f fd ps (spD K ks g) := by
  have hlen : ∀ (vs : List V) (x : Fx) (Hs H : Hp) (ds : List D), ds.length = ks.length → IV K x (mkEn ks ds) (vs.map some) Hs H → vs.length = ps.length := fun vs x Hs H ds hd I => by
    have e := I.len
    rw [mkEn_length hd, List.length_map] at e
    omega
  refine FD.ok SC (fun vs H Q E h => ?_) (fun cdv A outer s H vs Q E hr h => ⟨rdS K F, (hb cdv A outer s H E hr).nox, ?_⟩)
  · obtain ⟨x, Hs, ds, r, hd, I, _⟩ := h
    exact hlen vs x Hs H ds hd I
  · obtain ⟨x, Hs, ds, r, hd, I, hf, k⟩ := h
    have hl := hlen vs x Hs H ds hd I
    have hf := hg ds r hf
    unfold fnF at hf
    rw [if_pos hd] at hf
    unfold L2.start
    rw [hl]
    have Ip := I.pad (N.length - ps.length)
    cases ho : F (mkEn ks ds ++ List.replicate (N.length - ps.length) none) with
    | none =>
      rw [ho] at hf
      cases hf
    | some o =>
      rw [ho] at hf
      refine ⟨x, _, Hs, o, Ip, ho, ?_⟩
      cases o with
      | bk e => cases hf
      | ct e => cases hf
      | nx e =>
        obtain ⟨outs, h1, hf⟩ := Option.map_eq_some_iff.mp (show (outsOf ks e).map (fun o => Res.ok false .non o) = some r from hf)
        subst hf
        exact fun σ' H' Hs' I' s' => k .non H' Hs' (I'.toBack s' h1).1 (by simp only [Rp])
      | rt own d e =>
        obtain ⟨outs, h1, hf⟩ := Option.map_eq_some_iff.mp (show (outsOf ks e).map (fun o => Res.ok own d o) = some r from hf)
        subst hf
        cases own with
        | false => exact fun v σ' H' Hs' I' s' r => k v H' Hs' (I'.toBack s' h1).1 r
        | true => exact fun p σ' H' Hs' I' s' ow n m ap => k p H' Hs' (I'.toBack s' h1).1 ow n m ((I'.toBack s' h1).2 p ap)
end
end Qd
namespace Qd
open PySem PySem.Spec L2
/-- a def of the module, known by what it does -/
structure Kn (P : Program) (w : World) (K : PySem.W.Frag) (mg : Str → Option Value) (base : Heap) (k : Nat) (x : Str) (ks : List Kd) (g : FN) : Prop where
  ex : ∃ f fd ps, FnOk P w K mg base CX0 k f fd ps (spD K ks g) ∧ mg x = some (.ref f) ∧ PySem.W.keepIn K (.ref f) = true ∧ Binds K fd ps []
section
variable {X : Cx} {K : PySem.W.Frag}
/-- the shared heap has grown by things that are new since H0 -/
theorem IV.widen {x : Fx} {env : En} {σ : L2.St} {Hs Hs' H0 H : Hp} (I0 : IV K x env σ Hs H0) (e : Same H0 H) (s : Same Hs Hs') (ex : Same Hs' H) (nw : ∀ a o, Hs' a = some o → Hs a = some o ∨ H0 a = none) : IV K x env σ Hs' H := by
  have I := I0.grow e
  refine ⟨I.len, ex, I.fr, fun a o h => ?_, I.h0.trans s, fun i d h => ?_, fun i k d h hk => ?_, I.dj⟩
  · rcases nw a o h with z | z
    · exact I.sep a o z
    · exact .inr (I0.fm_none z)
  · obtain ⟨v, a, r⟩ := I.sh i d h
    exact ⟨v, a, Rp.mono s _ r⟩
  · obtain ⟨p, a, b, c, o, z⟩ := I.ow i k d h hk
    refine ⟨p, a, ?_, c, o.mono s rfl, z⟩
    cases q : Hs' p with
    | none => rfl
    | some u =>
      rcases nw p u q with w | w
      · rw [b] at w
        cases w
      · obtain ⟨p0, a0, b0, c0, o0, _⟩ := I0.ow i k d h hk
        rw [a] at a0
        cases a0
        obtain ⟨u0, hu0⟩ := o0.has
        rw [w] at hu0
        cases hu0
theorem mkEn_sh : ∀ {ks : List Kd} {ds : List D} {i : Nat} {k : Kd} {d : D}, (mkEn ks ds)[i]? = some (some (k, d)) → ks[i]? = some k ∧ ds[i]? = some d
  | [], ds, i, k, d, h => by simp [mkEn] at h
  | _ :: _, [], i, k, d, h => by simp [mkEn] at h
  | k' :: ks, d' :: ds, 0, k, d, h => by
    have h : some (some (k', d')) = some (some (k, d)) := h
    cases h
    exact ⟨rfl, rfl⟩
  | k' :: ks, d' :: ds, i + 1, k, d, h => mkEn_sh (ks := ks) (ds := ds) (i := i) h
def allSh (ks : List Kd) : Bool := ks.all fun k => k == .sh
theorem allSh_get {ks : List Kd} (h : allSh ks = true) {i : Nat} {k : Kd} (e : ks[i]? = some k) : k = .sh := by
  have := List.all_eq_true.mp h k (List.mem_of_getElem? e)
  simpa using this
/-- a callee that is handed shared things alone -/
theorem IV.callee {ks : List Kd} {ds : List D} {vs : List V} {Hs H : Hp} (hk : allSh ks = true) (hl : ds.length = ks.length) (ex : Same Hs H) (r : Rps K Hs ds vs) : IV K ⟨H, Hs, fun _ => 0⟩ (mkEn ks ds) (vs.map some) Hs H := by
  refine ⟨by rw [mkEn_length hl, List.length_map, r.length, hl], ex, Same.refl _, fun a o h => .inl h, Same.refl _, fun i d h => ?_, fun i k d h hn => ?_, fun i j k l d e p _ h1 h2 => ?_⟩
  · obtain ⟨_, h2⟩ := mkEn_sh h
    obtain ⟨v, hv, rv⟩ := r.get h2
    exact ⟨v, by rw [List.getElem?_map, hv]; rfl, rv⟩
  · exact absurd (allSh_get hk (mkEn_sh h).1) hn
  · exact absurd (allSh_get hk (mkEn_sh h1).1) h2
def exV (ks : List Kd) (g : FN) (fa : FA) (env : En) : Option (Bool × D × En) := (fa env).bind fun p => (allD p.1).bind fun ds => if allSh ks ∧ ds.length = ks.length then (g ds).map fun r => match r with
  | .ok own d _ => (own, d, p.2) else none
/-- f(e, ..): values in; shared out, or a new thing out -/
def eCall (ks : List Kd) (g : FN) (fa : FA) : FE := fun env => (exV ks g fa env).map fun r => (r.2.1, r.2.2)
def eCallF (ks : List Kd) (g : FN) (fa : FA) : FE := fun env => (exV ks g fa env).bind fun r => if r.1 then some (r.2.1, r.2.2) else none
theorem callRun {ks : List Kd} {g : FN} {fa : FA} {x : Fx} {env env' : En} {σ : L2.St} {Hs H : Hp} {own : Bool} {d : D} {Q : VK} {E : XK} (I : IV K x env σ Hs H) (hf : exV ks g fa env = some (own, d, env'))
    (k0 : own = false → ∀ v H' Hs', IV K x env' σ Hs' H' → Same Hs Hs' → Rp K Hs' d v → Q v H')
    (k1 : own = true → ∀ p H' Hs', IV K x env' σ Hs' H' → Same Hs Hs' → Own K Hs' H' p d → Hs' p = none → x.fm p = none → Apart env' σ p → Q (.ref p) H') : tCall (spD K ks g) [] E (rdA K fa) σ H Q := by
  unfold exV at hf
  obtain ⟨⟨os, e1⟩, h1, hf⟩ := Option.bind_eq_some_iff.mp hf
  obtain ⟨ds, h2, hf⟩ := Option.bind_eq_some_iff.mp hf
  split at hf
  · rename_i hc
    obtain ⟨r, h3, hf⟩ := Option.map_eq_some_iff.mp hf
    have e0 : os = ds.map Ov.d := allD_eq h2
    refine ⟨x, env, Hs, os, e1, I, h1, fun vs H1 Hs1 I1 s1 o1 => ?_⟩
    rw [e0] at o1
    have rs := o1.rps
    show spD K ks g (vs ++ []) H1 Q E
    rw [List.append_nil]
    refine ⟨_, Hs1, ds, r, hc.2, IV.callee hc.1 hc.2 I1.ex rs, h3, ?_⟩
    cases r with
    | ok own' d' outs =>
      cases hf
      cases own with
      | false =>
        intro v H' Hs' bk r'
        obtain ⟨b1, b2, b3, b4, _⟩ := bk
        exact k0 rfl v H' Hs' (I1.widen b3 b1 b2 b4) (s1.trans b1) r'
      | true =>
        intro p H' Hs' bk ow n m _
        obtain ⟨b1, b2, b3, b4, _⟩ := bk
        have m : H1 p = none := m
        exact k1 rfl p H' Hs' (I1.widen b3 b1 b2 b4) (s1.trans b1) ow n (I1.fm_none m) (I1.apart m)
  · cases hf
theorem de_call {kk : Nat} {ks : List Kd} {g : FN} {n : Str} {e : Expr} {es : List Expr} {fa : FA} {p pos : Pos} (C : Kn X.prog X.w X.K X.mg X.base kk n ks g) (hr : Room kk X.A) (ha : DA X (e :: es) fa) (hg : Gl X n := by rfl) (hdb : (n == ("__debug__" : Str)) = false := by decide)
    (he : starEach (e :: es) X.env = (false, eval e X.env) :: starEach es X.env := by rfl) (hpl : (backTo pos (starEach es X.env)).any (·.1) = false := by rfl) : DE X (.Call (.Name n p) (e :: es) [] pos) (eCall ks g fa) := by
  obtain ⟨f, fd, ps, F, hm, kp, hb⟩ := C.ex
  refine imp (pe_call (E := E0) F hr hg hm kp hb .nil pass0 ha hdb he hpl) fun σ H Q h => ?_
  obtain ⟨x, env, Hs, d, env', I, hf, k⟩ := h
  obtain ⟨⟨own, d', e'⟩, h1, hf⟩ := Option.map_eq_some_iff.mp hf
  cases hf
  refine callRun I h1 (fun _ v H' Hs' I' s' r => k v H' Hs' I' s' r) fun _ p H' Hs' I' s' ow n m ap => ?_
  obtain ⟨G, I2, s2, r⟩ := I'.freeze ow n m ap
  exact k _ H' G I2 (s'.trans s2) r
theorem df_call {kk : Nat} {ks : List Kd} {g : FN} {n : Str} {e : Expr} {es : List Expr} {fa : FA} {p pos : Pos} (C : Kn X.prog X.w X.K X.mg X.base kk n ks g) (hr : Room kk X.A) (ha : DA X (e :: es) fa) (hg : Gl X n := by rfl) (hdb : (n == ("__debug__" : Str)) = false := by decide)
    (he : starEach (e :: es) X.env = (false, eval e X.env) :: starEach es X.env := by rfl) (hpl : (backTo pos (starEach es X.env)).any (·.1) = false := by rfl) : DF X (.Call (.Name n p) (e :: es) [] pos) (eCallF ks g fa) := by
  obtain ⟨f, fd, ps, F, hm, kp, hb⟩ := C.ex
  refine imp (pe_call (E := E0) F hr hg hm kp hb .nil pass0 ha hdb he hpl) fun σ H Q h => ?_
  obtain ⟨x, env, Hs, d, env', I, hf, k⟩ := h
  obtain ⟨⟨own, d', e'⟩, h1, hf⟩ := Option.bind_eq_some_iff.mp hf
  split at hf
  · rename_i ho
    cases hf
    have ho : own = true := ho
    subst ho
    exact callRun I h1 (fun z => nomatch z) fun _ p H' Hs' I' s' ow n m ap => k p H' Hs' I' s' ow n m ap
  · cases hf
/-- f(e, ..), what slots own is lent; a flat answer -/
def eCallB (ks : List Kd) (g : FN) (fa : FA) : FE := fun env => (fa env).bind fun p => (fetchs p.2 p.1).bind fun ds => if allSh ks ∧ ds.length = ks.length then match g ds with
  | some (.ok false d _) => if flat d then some (d, p.2) else none
  | _ => none else none
theorem flat_rp {H H' : Hp} {d : D} {v : V} (h : flat d = true) (r : Rp K H d v) : Rp K H' d v := by
  cases d <;> first | (simp only [flat] at h; cases h; done) | (simp only [Rp] at r ⊢; exact r)
theorem Pks.rps {Hs H : Hp} (ex : Same Hs H) : ∀ {ds : List D} {vs : List V}, Pks K Hs H ds vs → Rps K H ds vs
  | [], [], _ => by simp only [Rps]
  | d :: ds, v :: vs, ⟨a, b⟩ => by
    simp only [Rps]
    exact ⟨v, vs, rfl, a.rp ex, Pks.rps ex b⟩
  | [], _ :: _, h => h.elim
  | _ :: _, [], h => h.elim
theorem de_callB' {kk : Nat} {ks : List Kd} {g : FN} {n : Str} {e : Expr} {es : List Expr} {fa : FA} {p pos : Pos} (C : Kn X.prog X.w X.K X.mg X.base kk n ks g) (hr : Room kk X.A) (ha : DA X (e :: es) fa) (hg : Gl X n := by rfl) (hdb : (n == ("__debug__" : Str)) = false := by decide)
    (he : starEach (e :: es) X.env = (false, eval e X.env) :: starEach es X.env := by rfl) (hpl : (backTo pos (starEach es X.env)).any (·.1) = false := by rfl) : DE X (.Call (.Name n p) (e :: es) [] pos) (eCallB ks g fa) := by
  obtain ⟨f, fd, ps, F, hm, kp, hb⟩ := C.ex
  refine imp (pe_call (E := E0) F hr hg hm kp hb .nil pass0 ha hdb he hpl) fun σ H Q h => ?_
  obtain ⟨x, env, Hs, d, env', I, hf, k⟩ := h
  obtain ⟨⟨os, e1⟩, h1, hf⟩ := Option.bind_eq_some_iff.mp hf
  obtain ⟨ds, h2, hf⟩ := Option.bind_eq_some_iff.mp hf
  split at hf
  · rename_i hc
    split at hf
    · rename_i d' outs hg'
      split at hf
      · rename_i hfl
        cases hf
        refine ⟨x, env, Hs, os, e1, I, h1, fun vs H1 Hs1 I1 s1 o1 => ?_⟩
        show spD X.K ks g (vs ++ []) H1 Q E0
        rw [List.append_nil]
        refine ⟨_, H1, ds, _, hc.2, IV.callee hc.1 hc.2 (Same.refl _) ((I1.pks o1 h2).rps I1.ex), hg', ?_⟩
        intro v H' Hs' bk r'
        obtain ⟨b1, b2, b3, b4, _⟩ := bk
        exact k v H' Hs1 (I1.grow b3) s1 (flat_rp hfl r')
      · cases hf
    · cases hf
  · cases hf
/-- f(xs, e, ..): what slot i owns is handed in and comes back changed -/
def exP (i : Nat) (ks : List Kd) (g : FN) (fa : FA) (env : En) : Option (Bool × D × En) := (oS i env).bind fun _ => (fa env).bind fun p => (allD p.1).bind fun ds => match p.2[i]? with
  | some (some (k, d0)) => if k ≠ .sh ∧ allSh ks ∧ ds.length = ks.length then match g (d0 :: ds) with
    | some (.ok own d (d1 :: _)) => some (own, d, p.2.set i (some (k, d1)))
    | _ => none else none
  | _ => none
def eCallP (i : Nat) (ks : List Kd) (g : FN) (fa : FA) : FE := fun env => (exP i ks g fa env).map fun r => (r.2.1, r.2.2)
def eCallPF (i : Nat) (ks : List Kd) (g : FN) (fa : FA) : FE := fun env => (exP i ks g fa env).bind fun r => if r.1 then some (r.2.1, r.2.2) else none
theorem IV.calleeP {ks : List Kd} {ds : List D} {vs : List V} {Hs H : Hp} {p : Addr} {d0 : D} (hk : allSh ks = true) (hl : ds.length = ks.length) (ex : Same Hs H) (r : Rps K Hs ds vs) (hp : Hs p = none) (ow : Own K Hs H p d0) :
    IV K ⟨fun a => if a = p then none else H a, Hs, fun _ => p⟩ (mkEn (.pn :: ks) (d0 :: ds)) ((.ref p :: vs).map some) Hs H := by
  have g : ∀ {i : Nat} {k : Kd} {d : D}, (mkEn (.pn :: ks) (d0 :: ds))[i]? = some (some (k, d)) → (i = 0 ∧ k = .pn ∧ d = d0) ∨ ∃ j, i = j + 1 ∧ k = .sh ∧ ds[j]? = some d := fun {i k d} h => by
    cases i with
    | zero =>
      have h : some (some (Kd.pn, d0)) = some (some (k, d)) := h
      cases h
      exact .inl ⟨rfl, rfl, rfl⟩
    | succ i =>
      obtain ⟨h1, h2⟩ := mkEn_sh (ks := ks) (ds := ds) (i := i) h
      exact .inr ⟨i, rfl, allSh_get hk h1, h2⟩
  refine ⟨by rw [mkEn_length (by simp [hl])]; simp [r.length, hl], ex, fun b o h => ?_, fun a o h => .inl h, Same.refl _, fun i d h => ?_, fun i k d h hn => ?_, fun i j k l d e q hne h1 h2 h3 h4 => ?_⟩
  · have h : (if b = p then none else H b) = some o := h
    split at h
    · cases h
    · exact h
  · rcases g h with ⟨_, z, _⟩ | ⟨j, rfl, _, h2⟩
    · cases z
    · obtain ⟨v, hv, rv⟩ := r.get h2
      exact ⟨v, by simp [hv], rv⟩
  · rcases g h with ⟨rfl, rfl, rfl⟩ | ⟨j, rfl, z, h2⟩
    · exact ⟨p, rfl, hp, if_pos rfl, ow, fun _ => rfl⟩
    · exact absurd z hn
  · rcases g h1 with ⟨rfl, _, _⟩ | ⟨j1, rfl, z, _⟩
    · rcases g h3 with ⟨rfl, _, _⟩ | ⟨j1, rfl, z, _⟩
      · exact absurd rfl hne
      · exact absurd z h4
    · exact absurd z h2
/-- behind such a call -/
theorem IV.after {x : Fx} {env : En} {σ : L2.St} {Hs Hs' H H' : Hp} {i : Nat} {k : Kd} {d d' : D} {p : Addr} (I : IV K x env σ Hs H) (hi : env[i]? = some (some (k, d))) (hk : k ≠ .sh) (hp : σ[i]? = some (some (.ref p))) (s : Same Hs Hs') (ex : Same Hs' H')
    (kp : ∀ a o, a ≠ p → H a = some o → H' a = some o) (nw : ∀ a o, Hs' a = some o → Hs a = some o ∨ a = p ∨ H a = none) (hn : Hs' p = none) (ow : Own K Hs' H' p d') : IV K x (env.set i (some (k, d'))) σ Hs' H' := by
  obtain ⟨q, a, b, c, _, z⟩ := I.ow i k d hi hk
  rw [hp] at a
  cases a
  refine ⟨by rw [List.length_set, I.len], ex, fun a o h => kp a o (fun e => by subst e; rw [c] at h; cases h) (I.fr a o h), fun a o h => ?_, I.h0.trans s, fun j e h1 => ?_, fun j l e h1 h2 => ?_, fun j l kj kl dj dl r hne h1 h2 h3 h4 h5 => ?_⟩
  · rcases nw a o h with w | w | w
    · exact I.sep a o w
    · subst w
      rw [hn] at h
      cases h
    · exact .inr (I.fm_none w)
  · rcases get_set h1 with ⟨rfl, h⟩ | ⟨hj, h⟩
    · cases h
      exact absurd rfl hk
    · obtain ⟨v, hv, r⟩ := I.sh j e h
      exact ⟨v, hv, Rp.mono s _ r⟩
  · rcases get_set h1 with ⟨rfl, h⟩ | ⟨hj, h⟩
    · cases h
      exact ⟨p, hp, hn, c, ow, z⟩
    · obtain ⟨r, a', b', c', o', z'⟩ := I.ow j l e h h2
      have ne : r ≠ p := fun w => by
        subst w
        exact I.dj j i l k e d r hj h h2 hi hk a' hp
      obtain ⟨u, hu⟩ := o'.has
      refine ⟨r, a', ?_, c', o'.mono s ((kp r u ne hu).trans hu.symm), z'⟩
      cases q : Hs' r with
      | none => rfl
      | some t =>
        rcases nw r t q with w | w | w
        · rw [b'] at w
          cases w
        · exact absurd w ne
        · rw [w] at hu
          cases hu
  · have g : ∀ {m : Nat} {km : Kd} {dm : D}, (env.set i (some (k, d')))[m]? = some (some (km, dm)) → ∃ dm', env[m]? = some (some (km, dm')) := fun {m km dm} hh => by
      rcases get_set hh with ⟨em, h⟩ | ⟨_, h⟩
      · cases h
        rw [em]
        exact ⟨d, hi⟩
      · exact ⟨dm, h⟩
    obtain ⟨d1, g1⟩ := g h1
    obtain ⟨d2, g2⟩ := g h3
    exact I.dj j l kj kl d1 d2 r hne g1 h2 g2 h4 h5
theorem callRunP {i : Nat} {ks : List Kd} {g : FN} {fa : FA} {x : Fx} {env env' : En} {σ : L2.St} {Hs H : Hp} {own : Bool} {d : D} {Q : VK} {E : XK} (I : IV K x env σ Hs H) (hf : exP i ks g fa env = some (own, d, env'))
    (k0 : own = false → ∀ v H' Hs', IV K x env' σ Hs' H' → Same Hs Hs' → Rp K Hs' d v → Q v H')
    (k1 : own = true → ∀ p H' Hs', IV K x env' σ Hs' H' → Same Hs Hs' → Own K Hs' H' p d → Hs' p = none → x.fm p = none → Apart env' σ p → Q (.ref p) H') : tCall (spD K (.pn :: ks) g) [] E (rdA K (aCons (oS i) fa)) σ H Q := by
  unfold exP at hf
  obtain ⟨⟨oi, ei⟩, h0, hf1⟩ := Option.bind_eq_some_iff.mp hf
  obtain ⟨⟨os, e1⟩, h1, hf2⟩ := Option.bind_eq_some_iff.mp hf1
  obtain ⟨ds, h2, hf3⟩ := Option.bind_eq_some_iff.mp hf2
  clear hf hf1 hf2
  have h0' : oi = .s i ∧ ei = env := by
    unfold oS at h0
    split at h0
    · cases h0
      exact ⟨rfl, rfl⟩
    · cases h0
  obtain ⟨rfl, rfl⟩ := h0'
  split at hf3
  · rename_i kk d0 hi
    have hi : e1[i]? = some (some (kk, d0)) := hi
    split at hf3
    · rename_i hc
      obtain ⟨hk, hsh, hl⟩ := hc
      split at hf3
      · rename_i own' d' d1 outs hg
        cases hf3
        have e0 : os = ds.map Ov.d := allD_eq h2
        refine ⟨x, _, Hs, .s i :: os, e1, I, by unfold aCons; rw [h0]; simp only [Option.bind_some, h1, Option.map_some], fun vs H1 Hs1 I1 s1 o1 => ?_⟩
        match vs, o1 with
        | v :: vs, ⟨ov, o1⟩ =>
        have ov : σ[i]? = some (some v) := ov
        rw [e0] at o1
        have rs := o1.rps
        obtain ⟨p, a, b, c, ow, z⟩ := I1.ow i kk d0 hi hk
        rw [ov] at a
        cases a
        show spD K (.pn :: ks) g ((V.ref p :: vs) ++ []) H1 Q E
        rw [List.append_nil]
        refine ⟨_, Hs1, d0 :: ds, _, by simp [hl], IV.calleeP hsh hl I1.ex rs b ow, hg, ?_⟩
        have fin : ∀ {H' Hs' : Hp}, Back K ⟨fun a => if a = p then none else H1 a, Hs1, fun _ => p⟩ (.pn :: ks) Hs1 Hs' H' (d1 :: outs) → IV K x (e1.set i (some (kk, d1))) σ Hs' H' ∧ Same Hs1 Hs' ∧ Hs' p = none := fun {H' Hs'} bk => by
          obtain ⟨b1, b2, b3, b4, b5⟩ := bk
          obtain ⟨d', hd', n1, ow'⟩ := b5 0 rfl
          cases hd'
          refine ⟨I1.after hi hk ov b1 b2 (fun a o ne h => b3 a o (by show (if a = p then none else H1 a) = some o; rw [if_neg ne]; exact h)) (fun a o h => ?_) n1 ow', b1, n1⟩
          rcases b4 a o h with w | w
          · exact .inl w
          · right
            have w : (if a = p then none else H1 a) = none := w
            by_cases e : a = p
            · exact .inl e
            · rw [if_neg e] at w
              exact .inr w
        cases own with
        | false =>
          intro v H' Hs' bk r'
          obtain ⟨f1, f2, _⟩ := fin bk
          exact k0 rfl v H' Hs' f1 (s1.trans f2) r'
        | true =>
          intro q H' Hs' bk ow' n m ne
          obtain ⟨f1, f2, f3⟩ := fin bk
          have nep : q ≠ p := ne 0 rfl
          have m : (if q = p then none else H1 q) = none := m
          rw [if_neg nep] at m
          refine k1 rfl q H' Hs' f1 (s1.trans f2) ow' n (I1.fm_none m) fun j kj dj hj hkj e => ?_
          rcases get_set hj with ⟨ej, hh⟩ | ⟨_, hh⟩
          · cases hh
            rw [ej, ov] at e
            cases e
            exact nep rfl
          · exact I1.apart m j kj dj hh hkj e
      · cases hf3
    · cases hf3
  · cases hf3
theorem de_callP (i : Nat) {kk : Nat} {ks : List Kd} {g : FN} {n y : Str} {es : List Expr} {fa : FA} {p pos py : Pos} (C : Kn X.prog X.w X.K X.mg X.base kk n (.pn :: ks) g) (hr : Room kk X.A) (ha : DA X es fa) (hN : X.N[i]? = some y := by rfl) (hvis : Vis X.env.scope y := by first | exact Or.inl rfl | exact Or.inr (Or.inl rfl) | exact Or.inr (Or.inr rfl)) (hd : (y == ("__debug__" : Str)) = false := by decide)
    (hcd : (y == ("__classdict__" : Str)) = false := by decide) (hg : Gl X n := by rfl) (hdb : (n == ("__debug__" : Str)) = false := by decide)
    (he : starEach (.Name y py :: es) X.env = (false, eval (.Name y py) X.env) :: starEach es X.env := by rfl) (hpl : (backTo pos (starEach es X.env)).any (·.1) = false := by rfl) : DE X (.Call (.Name n p) (.Name y py :: es) [] pos) (eCallP i ks g fa) := by
  obtain ⟨f, fd, ps, F, hm, kp, hb⟩ := C.ex
  refine imp (pe_call (E := E0) F hr hg hm kp hb .nil pass0 (da_cons (do_peek i hN hvis hd hcd) ha he) hdb he hpl) fun σ H Q h => ?_
  obtain ⟨x, env, Hs, d, env', I, hf, k⟩ := h
  obtain ⟨⟨own, d', e'⟩, h1, hf⟩ := Option.map_eq_some_iff.mp hf
  cases hf
  refine callRunP I h1 (fun _ v H' Hs' I' s' r => k v H' Hs' I' s' r) fun _ p H' Hs' I' s' ow n m ap => ?_
  obtain ⟨G, I2, s2, r⟩ := I'.freeze ow n m ap
  exact k _ H' G I2 (s'.trans s2) r
theorem df_callP (i : Nat) {kk : Nat} {ks : List Kd} {g : FN} {n y : Str} {es : List Expr} {fa : FA} {p pos py : Pos} (C : Kn X.prog X.w X.K X.mg X.base kk n (.pn :: ks) g) (hr : Room kk X.A) (ha : DA X es fa) (hN : X.N[i]? = some y := by rfl) (hvis : Vis X.env.scope y := by first | exact Or.inl rfl | exact Or.inr (Or.inl rfl) | exact Or.inr (Or.inr rfl)) (hd : (y == ("__debug__" : Str)) = false := by decide)
    (hcd : (y == ("__classdict__" : Str)) = false := by decide) (hg : Gl X n := by rfl) (hdb : (n == ("__debug__" : Str)) = false := by decide)
    (he : starEach (.Name y py :: es) X.env = (false, eval (.Name y py) X.env) :: starEach es X.env := by rfl) (hpl : (backTo pos (starEach es X.env)).any (·.1) = false := by rfl) : DF X (.Call (.Name n p) (.Name y py :: es) [] pos) (eCallPF i ks g fa) := by
  obtain ⟨f, fd, ps, F, hm, kp, hb⟩ := C.ex
  refine imp (pe_call (E := E0) F hr hg hm kp hb .nil pass0 (da_cons (do_peek i hN hvis hd hcd) ha he) hdb he hpl) fun σ H Q h => ?_
  obtain ⟨x, env, Hs, d, env', I, hf, k⟩ := h
  obtain ⟨⟨own, d', e'⟩, h1, hf⟩ := Option.bind_eq_some_iff.mp hf
  split at hf
  · rename_i ho
    cases hf
    have ho : own = true := ho
    subst ho
    exact callRunP I h1 (fun z => nomatch z) fun _ p H' Hs' I' s' ow n m ap => k p H' Hs' I' s' ow n m ap
  · cases hf
end
end Qd
namespace Qd
open PySem PySem.Spec L2
section
variable {X : Cx} {K : PySem.W.Frag}
/-- return x, x owned: the thing goes out -/
def sRetOw (i : Nat) : FS := fun env => match env[i]? with
  | some (some (.ow, d)) => some (.rt true d (env.set i none))
  | _ => none
theorem IV.forget {x : Fx} {env : En} {σ : L2.St} {Hs H : Hp} (i : Nat) (I : IV K x env σ Hs H) : IV K x (env.set i none) σ Hs H := by
  refine ⟨by rw [List.length_set, I.len], I.ex, I.fr, I.sep, I.h0, fun j e h1 => ?_, fun j k e h1 h2 => ?_, fun j l kj kl dj dl q hne h1 h2 h3 h4 h5 => ?_⟩
  · rcases get_set h1 with ⟨_, h⟩ | ⟨hj, h⟩
    · cases h
    · exact I.sh j e h
  · rcases get_set h1 with ⟨_, h⟩ | ⟨hj, h⟩
    · cases h
    · exact I.ow j k e h h2
  · rcases get_set h1 with ⟨_, h⟩ | ⟨hj, h⟩
    · cases h
    · rcases get_set h3 with ⟨_, h'⟩ | ⟨hl, h'⟩
      · cases h'
      · exact I.dj j l kj kl dj dl q hne h h2 h' h4 h5
theorem ds_retOw (i : Nat) {x : Str} {pos p2 : Pos} (hN : X.N[i]? = some x := by rfl) (hv : Vis X.env.scope x := by first | exact Or.inl rfl | exact Or.inr (Or.inl rfl) | exact Or.inr (Or.inr rfl)) (hd : (x == ("__debug__" : Str)) = false := by decide)
    (hcd : (x == ("__classdict__" : Str)) = false := by decide) : DS X (.Return (some (.Name x pos)) p2) (sRetOw i) := impS (ps_ret (do_peek i hN hv hd hcd)) fun Z σ H h => by
  obtain ⟨y, env, Hs, o, I, hf, k⟩ := h
  unfold sRetOw at hf
  split at hf
  · rename_i d hi
    cases hf
    refine ⟨y, env, Hs, .s i, env, I, by unfold oS; rw [hi], fun v H' Hs' I' s' r => ?_⟩
    have r : σ[i]? = some (some v) := r
    obtain ⟨p, a, b, c, ow, _⟩ := I'.ow i .ow d hi (by decide)
    rw [r] at a
    cases a
    refine k p σ H' Hs' (I'.forget i) s' ow b c fun j kj dj h1 h2 e => ?_
    rcases get_set h1 with ⟨_, h⟩ | ⟨hj, h⟩
    · cases h
    · exact I'.dj j i kj .ow dj d p hj h h2 hi (by decide) e r
  · cases hf
def indexD : D → List D → Option D
  | .lst ds, [d] => if flat d && ds.all flat then (ds.findIdx? fun e => eqB e d).map fun j => .int (j : Nat) else none
  | _, _ => none
theorem mv_index : MV K (rIndex K) indexD := by
  intro Hs H d ds z x xs ex p ps h
  match d, ds, h with
  | .lst es, [d], h =>
    obtain ⟨v, rfl, q⟩ := pks1 ps
    obtain ⟨a, vs, rfl, h2, h3⟩ := p
    have h : (if flat d && es.all flat then (es.findIdx? fun e => eqB e d).map fun j => D.int (j : Nat) else none) = some z := h
    split at h
    · rename_i hf
      simp only [Bool.and_eq_true] at hf
      obtain ⟨j, hj, h⟩ := Option.map_eq_some_iff.mp h
      cases h
      have r1 := q.rp ex
      obtain ⟨hlt, hp, hn⟩ := List.findIdx?_eq_some_iff_getElem.mp hj
      have hg : es[j]? = some es[j] := List.getElem?_eq_getElem hlt
      obtain ⟨w, hw, rw'⟩ := h3.get hg
      have fl : ∀ (m : Nat) (hm : m < es.length), flat es[m] = true := fun m hm => List.all_eq_true.mp hf.2 _ (List.getElem_mem hm)
      refine ⟨.int (j : Nat), by simp only [Rp], fun Q q => ⟨a, vs, v, j, w, rfl, rfl, SqL.of h2, flat_v (Hs := H) hf.1 r1, flats_v hf.2 h3, hw, ?_, fun m z' hm hz' => ?_, q⟩⟩
      · rw [eqV_eqB (fl j hlt) hf.1 rw' r1]
        exact hp
      · have hml : m < es.length := by omega
        obtain ⟨w', hw', rw2⟩ := h3.get (List.getElem?_eq_getElem hml)
        rw [hz'] at hw'
        cases hw'
        rw [eqV_eqB (fl m hml) hf.1 rw2 r1]
        have := hn m hm
        simpa using this
    · cases h
theorem room65 {k : Nat} {A : Around} (hr : Room k A) : A.units + 65 < cLine := by
  have := hr.un
  omega
theorem room64 {k : Nat} {A : Around} (hr : Room k A) : A.units + 64 < cLine := by
  have := hr.un
  omega
theorem room1 {k : Nat} {A : Around} (hr : Room k A) : A.units + 1 < cLine := by
  have := hr.un
  omega
end
section
variable {P : Program} {w : World} {K : PySem.W.Frag} {mg : Str → Option Value} {base : Heap}
theorem Kn.imp {k : Nat} {x : Str} {ks : List Kd} {g g' : FN} (C : Kn P w K mg base k x ks g) (h : ∀ ds r, g' ds = some r → g ds = some r) : Kn P w K mg base k x ks g' := by
  obtain ⟨f, fd, ps, F, a, b, c⟩ := C.ex
  refine ⟨f, fd, ps, F.imp fun vs H Q E q => ?_, a, b, c⟩
  obtain ⟨y, Hs, ds, r, h1, h2, h3, h4⟩ := q
  exact ⟨y, Hs, ds, r, h1, h2, h _ _ h3, h4⟩
theorem Kn.mono {j k : Nat} {x : Str} {ks : List Kd} {g : FN} (C : Kn P w K mg base j x ks g) (h : j ≤ k) : Kn P w K mg base k x ks g := by
  obtain ⟨f, fd, ps, F, a⟩ := C.ex
  exact ⟨f, fd, ps, F.mono h, a⟩
/-- a def that calls itself: its rule gives it depth by depth -/
theorem Kn.none {k : Nat} {x : Str} {ks : List Kd} {f : Addr} {fd : FuncData} {ps : List Str} (a : mg x = some (.ref f)) (b : PySem.W.keepIn K (.ref f) = true) (c : Binds K fd ps []) : Kn P w K mg base k x ks (fun _ => Option.none) :=
  ⟨f, fd, ps, { len := fun vs H Q E h => by
                  obtain ⟨_, _, _, _, _, _, h, _⟩ := h
                  cases h
                run := fun A outer s H args us vs Q E _ _ _ _ h => by
                  obtain ⟨_, _, _, _, _, _, h, _⟩ := h
                  cases h }, a, b, c⟩
def recN (G : FN → FN) : Nat → FN
  | 0 => fun _ => Option.none
  | n + 1 => G (recN G n)
theorem Kn.recur {x : Str} {ks : List Kd} {G : FN → FN} {m : Nat} (h0 : Kn P w K mg base m x ks fun _ => Option.none) (hs : ∀ k g, m ≤ k → Kn P w K mg base k x ks g → Kn P w K mg base (k + 1) x ks (G g)) : ∀ n, Kn P w K mg base (m + n) x ks (recN G n)
  | 0 => h0
  | n + 1 => hs (m + n) _ (by omega) (Kn.recur h0 hs n)
end
end Qd
namespace Qd
open PySem PySem.Spec L2
section
variable {X : Cx} {K : PySem.W.Frag}
theorem RpF.lookup {H : Hp} {f : Str} : ∀ {fs : List (Str × D)} {gs : List (Str × V)}, RpF K H fs gs → (fs.lookup f = none → gs.lookup f = none) ∧ ∀ d, fs.lookup f = some d → ∃ v, gs.lookup f = some v ∧ Rp K H d v
  | [], gs, r => by
    simp only [RpF] at r
    subst r
    exact ⟨fun _ => rfl, fun d h => by cases h⟩
  | (g, d) :: fs, gs, r => by
    simp only [RpF] at r
    obtain ⟨v, r', rfl, h1, h2⟩ := r
    have ih := RpF.lookup (f := f) h2
    simp only [List.lookup_cons]
    cases e : f == g with
    | true =>
      exact ⟨fun h => by simp at h, fun d' h => by
        simp only [Option.some.injEq] at h
        subst h
        exact ⟨v, rfl, h1⟩⟩
    | false => exact ih
theorem RpF.length {H : Hp} : ∀ {fs : List (Str × D)} {gs : List (Str × V)}, RpF K H fs gs → gs.length = fs.length
  | [], gs, r => by
    simp only [RpF] at r
    subst r
    rfl
  | (g, d) :: fs, gs, r => by
    simp only [RpF] at r
    obtain ⟨v, r', rfl, h1, h2⟩ := r
    simp [RpF.length h2]
def putFd (f : Str) (v : D) : List (Str × D) → List (Str × D)
  | [] => [(f, v)]
  | (g, x) :: r => if g = f then (g, v) :: r else (g, x) :: putFd f v r
theorem RpF.put {H : Hp} {f : Str} {d : D} {v : V} (rv : Rp K H d v) : ∀ {fs : List (Str × D)} {gs : List (Str × V)}, RpF K H fs gs → RpF K H (putFd f d fs) (putF f v gs)
  | [], gs, r => by
    simp only [RpF] at r
    subst r
    simp only [putFd, putF, RpF]
    exact ⟨v, [], rfl, rv, rfl⟩
  | (g, x) :: fs, gs, r => by
    simp only [RpF] at r
    obtain ⟨w, r', rfl, h1, h2⟩ := r
    simp only [putFd, putF]
    by_cases e : g = f
    · rw [if_pos e, if_pos e]
      simp only [RpF]
      exact ⟨v, r', rfl, rv, h2⟩
    · rw [if_neg e, if_neg e]
      simp only [RpF]
      exact ⟨w, _, rfl, h1, RpF.put rv h2⟩
/-- o.f -/
def eFld (c f : Str) (fo : FO) : FE := fun env => (fo env).bind fun p => match fetch p.2 p.1 with
  | some (.obj c' fs) => if c' = c then (fs.lookup f).map fun d => (d, p.2) else none
  | _ => none
theorem de_fld {c f : Str} {e : Expr} {fo : FO} {pos : Pos} (hc : Cls X.K (He.ga X.K c)) (hn : NoAttr X.K (He.ga X.K c) f) (h : DO X e fo) (hb : attributeBase e f X.env (eval e X.env) = eval e X.env := by rfl) : DE X (.Attribute e f pos) (eFld c f fo) := imp (pe_fld h hb) fun σ H Q h => by
  obtain ⟨x, env, Hs, d, env', I, hf, k⟩ := h
  obtain ⟨⟨o, e1⟩, h1, hf⟩ := Option.bind_eq_some_iff.mp hf
  have hf2 : (match fetch e1 o with
    | some (.obj c' fs) => if c' = c then (fs.lookup f).map fun d => (d, e1) else none
    | _ => none) = some (d, env') := hf
  clear hf
  split at hf2
  · rename_i c' fs hft
    split at hf2
    · rename_i hcc
      subst hcc
      obtain ⟨d', hl, hd'⟩ := Option.map_eq_some_iff.mp hf2
      cases hd'
      refine ⟨x, env, Hs, o, _, I, h1, fun v H1 Hs1 I1 s1 r1 => ?_⟩
      obtain ⟨a, dx, gs, rfl, hp, rf⟩ := I1.pk r1 hft
      obtain ⟨w, hw, rw⟩ := rf.lookup.2 _ hl
      exact ⟨a, _, dx, gs, w, rfl, hp, hc, hn, hw, k w H1 Hs1 I1 s1 rw⟩
    · cases hf2
  · cases hf2
/-- self.f = e, of an object that a slot owns -/
def sFd (i : Nat) (c f : Str) (fv : FE) : FS := fun env => (fv env).bind fun p => (oS i p.2).bind fun _ => match p.2[i]? with
  | some (some (k, .obj c' fs)) => if k = .sh ∨ c' ≠ c ∨ ¬ fs.length < 1000 then none else some (.nx (p.2.set i (some (k, .obj c' (putFd f p.1 fs)))))
  | _ => none
theorem ds_fld (i : Nat) {c f x : Str} {e : Expr} {fv : FE} {pos px ps : Pos} (hc : Cls X.K (He.ga X.K c)) (hn : NoAttr X.K (He.ga X.K c) f) (he : DE X e fv) (hN : X.N[i]? = some x := by rfl) (hvis : Vis X.env.scope x := by first | exact Or.inl rfl | exact Or.inr (Or.inl rfl) | exact Or.inr (Or.inr rfl)) (hd : (x == ("__debug__" : Str)) = false := by decide)
    (hcd : (x == ("__classdict__" : Str)) = false := by decide) (hs : swapsWith e (some (.Attribute (.Name x px) f ps)) pos.line X.env = pure false := by rfl) :
    DS X (.Assign [.Attribute (.Name x px) f ps] e pos) (sFd i c f fv) := impS (ps_fld (do_peek i hN hvis hd hcd) he hs) fun Z σ H h => by
  obtain ⟨y, env, Hs, o, I, hf, k⟩ := h
  obtain ⟨⟨d, e1⟩, h1, hf⟩ := Option.bind_eq_some_iff.mp hf
  obtain ⟨⟨o1, e1'⟩, h3, hf⟩ := Option.bind_eq_some_iff.mp hf
  have h3' : o1 = .s i ∧ e1' = e1 := by
    unfold oS at h3
    split at h3
    · cases h3
      exact ⟨rfl, rfl⟩
    · cases h3
  obtain ⟨rfl, rfl⟩ := h3'
  refine ⟨y, env, Hs, d, _, I, h1, fun v H1 Hs1 I1 s1 r1 => ⟨y, _, Hs1, .s i, _, I1, h3, fun w H2 Hs2 I2 s2 o2 => ?_⟩⟩
  have hf : (match e1'[i]? with
    | some (some (k, .obj c' fs)) => if k = .sh ∨ c' ≠ c ∨ ¬ fs.length < 1000 then none else some (Out.nx (e1'.set i (some (k, .obj c' (putFd f d fs)))))
    | _ => none) = some o := hf
  split at hf
  · rename_i kk c' fs hi2
    split at hf
    · cases hf
    · rename_i hkk
      cases hf
      have hkn : kk ≠ .sh := fun z => hkk (.inl z)
      have hcc : c' = c := Classical.byContradiction fun z => hkk (.inr (.inl z))
      subst hcc
      have hzz : fs.length < 1000 := Classical.byContradiction fun z => hkk (.inr (.inr z))
      have o2 : σ[i]? = some (some w) := o2
      obtain ⟨p, a, b, c, ow, _⟩ := I2.ow i kk (.obj c' fs) hi2 hkn
      rw [o2] at a
      cases a
      obtain ⟨dx, gs, hp, rw'⟩ := ow
      refine ⟨p, _, dx, gs, rfl, hp, hc, hn, by rw [rw'.length]; exact hzz, ?_⟩
      exact k σ _ Hs2 (I2.put hi2 hkn o2 ⟨dx, _, upd_same, RpF.put (Rp.mono s2 _ r1) rw'⟩) (s1.trans s2)
  · cases hf
/-- a method, known by what it does -/
structure Km (P : Program) (w : World) (K : PySem.W.Frag) (mg : Str → Option Value) (base : Heap) (k : Nat) (c m : Str) (ks : List Kd) (g : FN) : Prop where
  ex : ∃ f fd ps, FnOk P w K mg base CX0 k f fd ps (spD K ks g) ∧ Cls K (He.ga K c) ∧ Meth K (He.ga K c) m f ∧ Binds K fd ps []
theorem Km.mono {P : Program} {w : World} {mg : Str → Option Value} {base : Heap} {j k : Nat} {c m : Str} {ks : List Kd} {g : FN} (C : Km P w K mg base j c m ks g) (h : j ≤ k) : Km P w K mg base k c m ks g := by
  obtain ⟨f, fd, ps, F, a⟩ := C.ex
  exact ⟨f, fd, ps, F.mono h, a⟩
/-- behind the arguments, all shared -/
theorem coreV {ks : List Kd} {g : FN} {x : Fx} {env' : En} {σ : L2.St} {Hs1 H1 : Hp} {ds : List D} {vs : List V} {own : Bool} {d : D} {outs : List D} {Q : VK} {E : XK} (I1 : IV K x env' σ Hs1 H1) (hk : allSh ks = true) (hl : ds.length = ks.length) (rs : Rps K Hs1 ds vs) (hg : g ds = some (.ok own d outs))
    (k0 : own = false → ∀ v H' Hs', IV K x env' σ Hs' H' → Same Hs1 Hs' → Rp K Hs' d v → Q v H')
    (k1 : own = true → ∀ p H' Hs', IV K x env' σ Hs' H' → Same Hs1 Hs' → Own K Hs' H' p d → Hs' p = none → x.fm p = none → Apart env' σ p → Q (.ref p) H') : spD K ks g vs H1 Q E := by
  refine ⟨_, Hs1, ds, _, hl, IV.callee hk hl I1.ex rs, hg, ?_⟩
  cases own with
  | false =>
    intro v H' Hs' bk r'
    obtain ⟨b1, b2, b3, b4, _⟩ := bk
    exact k0 rfl v H' Hs' (I1.widen b3 b1 b2 b4) b1 r'
  | true =>
    intro p H' Hs' bk ow n m _
    obtain ⟨b1, b2, b3, b4, _⟩ := bk
    have m : H1 p = none := m
    exact k1 rfl p H' Hs' (I1.widen b3 b1 b2 b4) b1 ow n (I1.fm_none m) (I1.apart m)
/-- behind the arguments, the first one what a slot owns -/
theorem coreP {i : Nat} {kk : Kd} {ks : List Kd} {g : FN} {x : Fx} {e1 : En} {σ : L2.St} {Hs1 H1 : Hp} {d0 : D} {ds : List D} {p : Addr} {vs : List V} {own : Bool} {d d1 : D} {outs : List D} {Q : VK} {E : XK} (I1 : IV K x e1 σ Hs1 H1) (hi : e1[i]? = some (some (kk, d0))) (hk : kk ≠ .sh) (ov : σ[i]? = some (some (.ref p))) (hsh : allSh ks = true) (hl : ds.length = ks.length) (rs : Rps K Hs1 ds vs) (hg : g (d0 :: ds) = some (.ok own d (d1 :: outs)))
    (k0 : own = false → ∀ v H' Hs', IV K x (e1.set i (some (kk, d1))) σ Hs' H' → Same Hs1 Hs' → Rp K Hs' d v → Q v H')
    (k1 : own = true → ∀ q H' Hs', IV K x (e1.set i (some (kk, d1))) σ Hs' H' → Same Hs1 Hs' → Own K Hs' H' q d → Hs' q = none → x.fm q = none → Apart (e1.set i (some (kk, d1))) σ q → Q (.ref q) H') : spD K (.pn :: ks) g (.ref p :: vs) H1 Q E := by
  obtain ⟨p', a, b, c, ow, z⟩ := I1.ow i kk d0 hi hk
  rw [ov] at a
  cases a
  refine ⟨_, Hs1, d0 :: ds, _, by simp [hl], IV.calleeP hsh hl I1.ex rs b ow, hg, ?_⟩
  have fin : ∀ {H' Hs' : Hp}, Back K ⟨fun a => if a = p then none else H1 a, Hs1, fun _ => p⟩ (.pn :: ks) Hs1 Hs' H' (d1 :: outs) → IV K x (e1.set i (some (kk, d1))) σ Hs' H' ∧ Same Hs1 Hs' ∧ Hs' p = none := fun {H' Hs'} bk => by
    obtain ⟨b1, b2, b3, b4, b5⟩ := bk
    obtain ⟨d', hd', n1, ow'⟩ := b5 0 rfl
    cases hd'
    refine ⟨I1.after hi hk ov b1 b2 (fun a o ne h => b3 a o (by show (if a = p then none else H1 a) = some o; rw [if_neg ne]; exact h)) (fun a o h => ?_) n1 ow', b1, n1⟩
    rcases b4 a o h with w | w
    · exact .inl w
    · right
      have w : (if a = p then none else H1 a) = none := w
      by_cases e : a = p
      · exact .inl e
      · rw [if_neg e] at w
        exact .inr w
  cases own with
  | false =>
    intro v H' Hs' bk r'
    obtain ⟨f1, f2, _⟩ := fin bk
    exact k0 rfl v H' Hs' f1 f2 r'
  | true =>
    intro q H' Hs' bk ow' n m ne
    obtain ⟨f1, f2, f3⟩ := fin bk
    have nep : q ≠ p := ne 0 rfl
    have m : (if q = p then none else H1 q) = none := m
    rw [if_neg nep] at m
    refine k1 rfl q H' Hs' f1 f2 ow' n (I1.fm_none m) fun j kj dj hj hkj e => ?_
    rcases get_set hj with ⟨ej, hh⟩ | ⟨_, hh⟩
    · cases hh
      rw [ej, ov] at e
      cases e
      exact nep rfl
    · exact I1.apart m j kj dj hh hkj e
/-- o.m(e, ..) of a shared object -/
def exM (c m : Str) (ks : List Kd) (g : FN) (fr : FE) (fa : FA) (env : En) : Option (Bool × D × En) := (fr env).bind fun p => match p.1 with
  | .obj c' fs => if c' = c ∧ (fs.lookup m).isNone = true then (fa p.2).bind fun q => (allD q.1).bind fun ds => if allSh ks ∧ ds.length + 1 = ks.length then (g (.obj c' fs :: ds)).map fun r => match r with
    | .ok own d _ => (own, d, q.2) else none else none
  | _ => none
def eMeth (c m : Str) (ks : List Kd) (g : FN) (fr : FE) (fa : FA) : FE := fun env => (exM c m ks g fr fa env).map fun r => (r.2.1, r.2.2)
def eMethF (c m : Str) (ks : List Kd) (g : FN) (fr : FE) (fa : FA) : FE := fun env => (exM c m ks g fr fa env).bind fun r => if r.1 then some (r.2.1, r.2.2) else none
theorem methRun {c m : Str} {ks : List Kd} {g : FN} {fr : FE} {fa : FA} {x : Fx} {env env' : En} {σ : L2.St} {Hs H : Hp} {own : Bool} {d : D} {Q : VK} {E : XK} (I : IV K x env σ Hs H) (hf : exM c m ks g fr fa env = some (own, d, env'))
    (k0 : own = false → ∀ v H' Hs', IV K x env' σ Hs' H' → Same Hs Hs' → Rp K Hs' d v → Q v H')
    (k1 : own = true → ∀ p H' Hs', IV K x env' σ Hs' H' → Same Hs Hs' → Own K Hs' H' p d → Hs' p = none → x.fm p = none → Apart env' σ p → Q (.ref p) H') : tMeth (He.ga K c) m (spD K ks g) [] E (rd K fr) (rdA K fa) σ H Q := by
  unfold exM at hf
  obtain ⟨⟨o, e1⟩, h1, hf⟩ := Option.bind_eq_some_iff.mp hf
  cases o <;> try (cases hf; done)
  rename_i c' fs
  have hf2 : (if c' = c ∧ (fs.lookup m).isNone = true then (fa e1).bind fun q => (allD q.1).bind fun ds => if allSh ks ∧ ds.length + 1 = ks.length then (g (.obj c' fs :: ds)).map fun r => match r with
    | .ok own d _ => (own, d, q.2) else none else none) = some (own, d, env') := hf
  clear hf
  split at hf2
  · rename_i hcm
    obtain ⟨rfl, hno⟩ := hcm
    obtain ⟨⟨os, e2⟩, h2, hf3⟩ := Option.bind_eq_some_iff.mp hf2
    obtain ⟨ds, h3, hf4⟩ := Option.bind_eq_some_iff.mp hf3
    split at hf4
    · rename_i hc
      obtain ⟨r, h4, hf5⟩ := Option.map_eq_some_iff.mp hf4
      have e0 : os = ds.map Ov.d := allD_eq h3
      refine ⟨x, env, Hs, _, e1, I, h1, fun v H1 Hs1 I1 s1 r1 => ?_⟩
      have r1' := r1
      simp only [Rp] at r1
      obtain ⟨a, dx, gs, rfl, hp, rf⟩ := r1
      have hn : fs.lookup m = none := by simpa using hno
      refine ⟨a, dx, gs, rfl, I1.ex _ _ hp, rf.lookup.1 hn, x, e1, Hs1, os, e2, I1, h2, fun vs H2 Hs2 I2 s2 o2 => ?_⟩
      rw [e0] at o2
      have rs := o2.rps
      show spD K ks g (V.ref a :: (vs ++ [])) H2 Q E
      rw [List.append_nil]
      cases r with
      | ok own' d' outs =>
        cases hf5
        refine coreV I2 hc.1 (by simpa using hc.2) (ds := .obj c' fs :: ds) ?_ h4 (fun ho v H' Hs' I' s' r' => k0 ho v H' Hs' I' (s1.trans (s2.trans s')) r') fun ho p H' Hs' I' s' => k1 ho p H' Hs' I' (s1.trans (s2.trans s'))
        simp only [Rps]
        exact ⟨_, _, rfl, Rp.mono s2 _ r1', rs⟩
    · cases hf4
  · cases hf2
end
end Qd
namespace Qd
open PySem PySem.Spec L2
section
variable {X : Cx} {K : PySem.W.Frag}
theorem impDE {e : Expr} {t : TE} {f : FE} {ex : En → Option (Bool × D × En)} (h : PE X e t) (hf : ∀ env, f env = (ex env).map fun r => (r.2.1, r.2.2))
    (run : ∀ {x : Fx} {env env' : En} {σ : L2.St} {Hs H : Hp} {own : Bool} {d : D} {Q : VK}, IV X.K x env σ Hs H → ex env = some (own, d, env') →
      (own = false → ∀ v H' Hs', IV X.K x env' σ Hs' H' → Same Hs Hs' → Rp X.K Hs' d v → Q v H') →
      (own = true → ∀ p H' Hs', IV X.K x env' σ Hs' H' → Same Hs Hs' → Own X.K Hs' H' p d → Hs' p = none → x.fm p = none → Apart env' σ p → Q (.ref p) H') → t σ H Q) : DE X e f := imp h fun σ H Q h => by
  obtain ⟨x, env, Hs, d, env', I, h1, k⟩ := h
  rw [hf] at h1
  obtain ⟨⟨own, d', e'⟩, h2, h3⟩ := Option.map_eq_some_iff.mp h1
  cases h3
  refine run I h2 (fun _ v H' Hs' I' s' r => k v H' Hs' I' s' r) fun _ p H' Hs' I' s' ow n m ap => ?_
  obtain ⟨G, I2, s2, r⟩ := I'.freeze ow n m ap
  exact k _ H' G I2 (s'.trans s2) r
theorem impDF {e : Expr} {t : TE} {f : FE} {ex : En → Option (Bool × D × En)} (h : PE X e t) (hf : ∀ env, f env = (ex env).bind fun r => if r.1 then some (r.2.1, r.2.2) else none)
    (run : ∀ {x : Fx} {env env' : En} {σ : L2.St} {Hs H : Hp} {own : Bool} {d : D} {Q : VK}, IV X.K x env σ Hs H → ex env = some (own, d, env') →
      (own = false → ∀ v H' Hs', IV X.K x env' σ Hs' H' → Same Hs Hs' → Rp X.K Hs' d v → Q v H') →
      (own = true → ∀ p H' Hs', IV X.K x env' σ Hs' H' → Same Hs Hs' → Own X.K Hs' H' p d → Hs' p = none → x.fm p = none → Apart env' σ p → Q (.ref p) H') → t σ H Q) : DF X e f := imp h fun σ H Q h => by
  obtain ⟨x, env, Hs, d, env', I, h1, k⟩ := h
  rw [hf] at h1
  obtain ⟨⟨own, d', e'⟩, h2, h3⟩ := Option.bind_eq_some_iff.mp h1
  split at h3
  · rename_i ho
    cases h3
    have ho : own = true := ho
    subst ho
    exact run I h2 (fun z => nomatch z) fun _ p H' Hs' I' s' ow n m ap => k p H' Hs' I' s' ow n m ap
  · cases h3
section
variable {kk : Nat} {c m : Str} {ks : List Kd} {g : FN} {o e : Expr} {es : List Expr} {fr : FE} {fa : FA} {pos apos : Pos}
theorem de_meth {pl : Sem Bool} (C : Km X.prog X.w X.K X.mg X.base kk c m ks g) (hr : Room kk X.A) (ho : DE X o fr) (ha : DA X (e :: es) fa)
    (hst : starEach (e :: es) X.env = (false, eval e X.env) :: starEach es X.env := by rfl) (hpl : (backTo pos (starEach es X.env)).any (·.1) = false := by rfl)
    (ht : eval (.Call (.Attribute o m apos) (e :: es) [] pos) X.env = (do
      let ov ← eval o X.env
      standAt apos.atName
      let (f, first) ← holding [ov] (getMethod ov m pl)
      callWith pos f first (backTo pos (starEach (e :: es) X.env)) (backToKw pos (keywordEach [] X.env))) := by rfl) : DE X (.Call (.Attribute o m apos) (e :: es) [] pos) (eMeth c m ks g fr fa) := by
  obtain ⟨f, fd, ps, F, hc, hm, hb⟩ := C.ex
  exact impDE (ex := exM c m ks g fr fa) (pe_meth (E := E0) (pl := pl) ho hc hm F hr hb .nil pass0 ha hst hpl ht) (fun _ => rfl) methRun
theorem df_meth {pl : Sem Bool} (C : Km X.prog X.w X.K X.mg X.base kk c m ks g) (hr : Room kk X.A) (ho : DE X o fr) (ha : DA X (e :: es) fa)
    (hst : starEach (e :: es) X.env = (false, eval e X.env) :: starEach es X.env := by rfl) (hpl : (backTo pos (starEach es X.env)).any (·.1) = false := by rfl)
    (ht : eval (.Call (.Attribute o m apos) (e :: es) [] pos) X.env = (do
      let ov ← eval o X.env
      standAt apos.atName
      let (f, first) ← holding [ov] (getMethod ov m pl)
      callWith pos f first (backTo pos (starEach (e :: es) X.env)) (backToKw pos (keywordEach [] X.env))) := by rfl) : DF X (.Call (.Attribute o m apos) (e :: es) [] pos) (eMethF c m ks g fr fa) := by
  obtain ⟨f, fd, ps, F, hc, hm, hb⟩ := C.ex
  exact impDF (ex := exM c m ks g fr fa) (pe_meth (E := E0) (pl := pl) ho hc hm F hr hb .nil pass0 ha hst hpl ht) (fun _ => rfl) methRun
theorem tNil_rd {σ : L2.St} {H : Hp} {Q : List V → Hp → Prop} (h : rdA K aNil σ H Q) : tNil σ H Q := by
  obtain ⟨x, env, Hs, os, env', I, hf, k⟩ := h
  have hf : some (([] : List Ov), env) = some (os, env') := hf
  cases hf
  exact k [] H Hs I (Same.refl _) trivial
theorem de_meth0 {pl : Sem Bool} (C : Km X.prog X.w X.K X.mg X.base kk c m ks g) (hr : Room kk X.A) (ho : DE X o fr)
    (ht : eval (.Call (.Attribute o m apos) [] [] pos) X.env = (do
      let ov ← eval o X.env
      standAt apos.atName
      let (f, first) ← holding [ov] (getMethod ov m pl)
      callWith pos f first (backTo pos (starEach [] X.env)) (backToKw pos (keywordEach [] X.env))) := by rfl) : DE X (.Call (.Attribute o m apos) [] [] pos) (eMeth c m ks g fr aNil) := by
  obtain ⟨f, fd, ps, F, hc, hm, hb⟩ := C.ex
  refine impDE (ex := exM c m ks g fr aNil) (pe_meth0 (E := E0) (pl := pl) ho hc hm F hr hb .nil pass0 ht) (fun _ => rfl) fun I hf k0 k1 => ?_
  obtain ⟨x, env, Hs, d, env', I, h1, h2⟩ := methRun (E := E0) I hf k0 k1
  refine ⟨x, env, Hs, d, env', I, h1, fun v H' Hs' I' s' r => ?_⟩
  obtain ⟨a, dx, gs, e1, e2, e3, e4⟩ := h2 v H' Hs' I' s' r
  exact ⟨a, dx, gs, e1, e2, e3, tNil_rd e4⟩
theorem df_meth0 {pl : Sem Bool} (C : Km X.prog X.w X.K X.mg X.base kk c m ks g) (hr : Room kk X.A) (ho : DE X o fr)
    (ht : eval (.Call (.Attribute o m apos) [] [] pos) X.env = (do
      let ov ← eval o X.env
      standAt apos.atName
      let (f, first) ← holding [ov] (getMethod ov m pl)
      callWith pos f first (backTo pos (starEach [] X.env)) (backToKw pos (keywordEach [] X.env))) := by rfl) : DF X (.Call (.Attribute o m apos) [] [] pos) (eMethF c m ks g fr aNil) := by
  obtain ⟨f, fd, ps, F, hc, hm, hb⟩ := C.ex
  refine impDF (ex := exM c m ks g fr aNil) (pe_meth0 (E := E0) (pl := pl) ho hc hm F hr hb .nil pass0 ht) (fun _ => rfl) fun I hf k0 k1 => ?_
  obtain ⟨x, env, Hs, d, env', I, h1, h2⟩ := methRun (E := E0) I hf k0 k1
  refine ⟨x, env, Hs, d, env', I, h1, fun v H' Hs' I' s' r => ?_⟩
  obtain ⟨a, dx, gs, e1, e2, e3, e4⟩ := h2 v H' Hs' I' s' r
  exact ⟨a, dx, gs, e1, e2, e3, tNil_rd e4⟩
end
/-- self.m(e, ..), self what a slot owns -/
def exMP (i : Nat) (c m : Str) (ks : List Kd) (g : FN) (fa : FA) (env : En) : Option (Bool × D × En) := match env[i]? with
  | some (some (k0, .obj c' fs)) => if c' = c ∧ (fs.lookup m).isNone = true ∧ k0 ≠ .sh then (fa env).bind fun p => (allD p.1).bind fun ds => match p.2[i]? with
    | some (some (k, d0)) => if k ≠ .sh ∧ allSh ks ∧ ds.length = ks.length then match g (d0 :: ds) with
      | some (.ok own d (d1 :: _)) => some (own, d, p.2.set i (some (k, d1)))
      | _ => none else none
    | _ => none else none
  | _ => none
def eMethP (i : Nat) (c m : Str) (ks : List Kd) (g : FN) (fa : FA) : FE := fun env => (exMP i c m ks g fa env).map fun r => (r.2.1, r.2.2)
def eMethPF (i : Nat) (c m : Str) (ks : List Kd) (g : FN) (fa : FA) : FE := fun env => (exMP i c m ks g fa env).bind fun r => if r.1 then some (r.2.1, r.2.2) else none
theorem methRunP {i : Nat} {c m : Str} {ks : List Kd} {g : FN} {fa : FA} {x : Fx} {env env' : En} {σ : L2.St} {Hs H : Hp} {own : Bool} {d : D} {Q : VK} {E : XK} (I : IV K x env σ Hs H) (hf : exMP i c m ks g fa env = some (own, d, env'))
    (k0 : own = false → ∀ v H' Hs', IV K x env' σ Hs' H' → Same Hs Hs' → Rp K Hs' d v → Q v H')
    (k1 : own = true → ∀ p H' Hs', IV K x env' σ Hs' H' → Same Hs Hs' → Own K Hs' H' p d → Hs' p = none → x.fm p = none → Apart env' σ p → Q (.ref p) H') : tMeth (He.ga K c) m (spD K (.pn :: ks) g) [] E (rdO K (oS i)) (rdA K fa) σ H Q := by
  unfold exMP at hf
  split at hf
  · rename_i kk0 c' fs hi0
    split at hf
    · rename_i hcc
      obtain ⟨rfl, hno, hk0⟩ := hcc
      obtain ⟨⟨os, e1⟩, h1, hf2⟩ := Option.bind_eq_some_iff.mp hf
      obtain ⟨ds, h2, hf3⟩ := Option.bind_eq_some_iff.mp hf2
      clear hf hf2
      have hf4 : (match e1[i]? with
        | some (some (k, d0)) => if k ≠ .sh ∧ allSh ks ∧ ds.length = ks.length then match g (d0 :: ds) with
          | some (.ok own d (d1 :: _)) => some (own, d, e1.set i (some (k, d1)))
          | _ => none else none
        | _ => none) = some (own, d, env') := hf3
      clear hf3
      have hS : oS i env = some (.s i, env) := by
        unfold oS
        rw [hi0]
      split at hf4
      · rename_i kk d0 hi
        split at hf4
        · rename_i hc
          obtain ⟨hk, hsh, hl⟩ := hc
          split at hf4
          · rename_i own' d' d1 outs hg
            cases hf4
            have e0 : os = ds.map Ov.d := allD_eq h2
            refine ⟨x, env, Hs, .s i, env, I, hS, fun v H1 Hs1 I1 s1 o1 => ?_⟩
            have o1 : σ[i]? = some (some v) := o1
            obtain ⟨p, a, b, c0, ow, _⟩ := I1.ow i kk0 (.obj c' fs) hi0 hk0
            rw [o1] at a
            cases a
            obtain ⟨dx, gs, hp, rf⟩ := ow
            have hn : fs.lookup m = none := by simpa using hno
            refine ⟨p, dx, gs, rfl, hp, rf.lookup.1 hn, x, env, Hs1, os, e1, I1, h1, fun vs H2 Hs2 I2 s2 o2 => ?_⟩
            rw [e0] at o2
            have rs := o2.rps
            show spD K (.pn :: ks) g (V.ref p :: (vs ++ [])) H2 Q E
            rw [List.append_nil]
            exact coreP I2 hi hk o1 hsh hl rs hg (fun ho v H' Hs' I' s' r' => k0 ho v H' Hs' I' (s1.trans (s2.trans s')) r') fun ho p H' Hs' I' s' => k1 ho p H' Hs' I' (s1.trans (s2.trans s'))
          · cases hf4
        · cases hf4
      · cases hf4
    · cases hf
  · cases hf
section
variable {kk : Nat} {c m y : Str} {ks : List Kd} {g : FN} {e : Expr} {es : List Expr} {fa : FA} {pos apos py : Pos}
theorem de_methP (i : Nat) {pl : Sem Bool} (C : Km X.prog X.w X.K X.mg X.base kk c m (.pn :: ks) g) (hr : Room kk X.A) (ha : DA X (e :: es) fa) (hN : X.N[i]? = some y := by rfl) (hvis : Vis X.env.scope y := by first | exact Or.inl rfl | exact Or.inr (Or.inl rfl) | exact Or.inr (Or.inr rfl)) (hd : (y == ("__debug__" : Str)) = false := by decide)
    (hcd : (y == ("__classdict__" : Str)) = false := by decide)
    (hst : starEach (e :: es) X.env = (false, eval e X.env) :: starEach es X.env := by rfl) (hpl : (backTo pos (starEach es X.env)).any (·.1) = false := by rfl)
    (ht : eval (.Call (.Attribute (.Name y py) m apos) (e :: es) [] pos) X.env = (do
      let ov ← eval (.Name y py) X.env
      standAt apos.atName
      let (f, first) ← holding [ov] (getMethod ov m pl)
      callWith pos f first (backTo pos (starEach (e :: es) X.env)) (backToKw pos (keywordEach [] X.env))) := by rfl) : DE X (.Call (.Attribute (.Name y py) m apos) (e :: es) [] pos) (eMethP i c m ks g fa) := by
  obtain ⟨f, fd, ps, F, hc, hm, hb⟩ := C.ex
  exact impDE (ex := exMP i c m ks g fa) (pe_meth (E := E0) (pl := pl) (do_peek i hN hvis hd hcd) hc hm F hr hb .nil pass0 ha hst hpl ht) (fun _ => rfl) methRunP
theorem df_methP (i : Nat) {pl : Sem Bool} (C : Km X.prog X.w X.K X.mg X.base kk c m (.pn :: ks) g) (hr : Room kk X.A) (ha : DA X (e :: es) fa) (hN : X.N[i]? = some y := by rfl) (hvis : Vis X.env.scope y := by first | exact Or.inl rfl | exact Or.inr (Or.inl rfl) | exact Or.inr (Or.inr rfl)) (hd : (y == ("__debug__" : Str)) = false := by decide)
    (hcd : (y == ("__classdict__" : Str)) = false := by decide)
    (hst : starEach (e :: es) X.env = (false, eval e X.env) :: starEach es X.env := by rfl) (hpl : (backTo pos (starEach es X.env)).any (·.1) = false := by rfl)
    (ht : eval (.Call (.Attribute (.Name y py) m apos) (e :: es) [] pos) X.env = (do
      let ov ← eval (.Name y py) X.env
      standAt apos.atName
      let (f, first) ← holding [ov] (getMethod ov m pl)
      callWith pos f first (backTo pos (starEach (e :: es) X.env)) (backToKw pos (keywordEach [] X.env))) := by rfl) : DF X (.Call (.Attribute (.Name y py) m apos) (e :: es) [] pos) (eMethPF i c m ks g fa) := by
  obtain ⟨f, fd, ps, F, hc, hm, hb⟩ := C.ex
  exact impDF (ex := exMP i c m ks g fa) (pe_meth (E := E0) (pl := pl) (do_peek i hN hvis hd hcd) hc hm F hr hb .nil pass0 ha hst hpl ht) (fun _ => rfl) methRunP
end
/-- a class, known by what its __init__ does -/
structure Kc (P : Program) (w : World) (K : PySem.W.Frag) (mg : Str → Option Value) (base : Heap) (k : Nat) (c : Str) (ks : List Kd) (g : FN) : Prop where
  ex : ∃ f fd ps, FnOk P w K mg base CX0 k f fd ps (spD K (.pn :: ks) g) ∧ Mk K (He.ga K c) f ∧ mg c = some (.ref (He.ga K c)) ∧ Binds K fd ps []
/-- C(e, ..) -/
def eNew (c : Str) (ks : List Kd) (g : FN) (fa : FA) : FE := fun env => (fa env).bind fun p => (allD p.1).bind fun ds => if allSh ks ∧ ds.length = ks.length then match g (.obj c [] :: ds) with
  | some (.ok false .non (d1 :: _)) => some (d1, p.2)
  | _ => none else none
theorem df_new {kk : Nat} {c : Str} {ks : List Kd} {g : FN} {e : Expr} {es : List Expr} {fa : FA} {p pos : Pos} (C : Kc X.prog X.w X.K X.mg X.base kk c ks g) (hr : Room (kk + 1) X.A) (ha : DA X (e :: es) fa) (hg : Gl X c := by rfl) (hdb : (c == ("__debug__" : Str)) = false := by decide)
    (he : starEach (e :: es) X.env = (false, eval e X.env) :: starEach es X.env := by rfl) (hpl : (backTo pos (starEach es X.env)).any (·.1) = false := by rfl) : DF X (.Call (.Name c p) (e :: es) [] pos) (eNew c ks g fa) := by
  obtain ⟨f, fd, ps, F, M, hm, hb⟩ := C.ex
  refine imp (pe_make (E := E0) M F hr hg hm hb .nil pass0 ha hdb he hpl) fun σ H Q h => ?_
  obtain ⟨x, env, Hs, d, env', I, hf, k⟩ := h
  obtain ⟨⟨os, e1⟩, h1, hf2⟩ := Option.bind_eq_some_iff.mp hf
  obtain ⟨ds, h2, hf3⟩ := Option.bind_eq_some_iff.mp hf2
  clear hf hf2
  split at hf3
  · rename_i hc
    split at hf3
    · rename_i d1 outs hgd
      cases hf3
      have e0 : os = ds.map Ov.d := allD_eq h2
      refine ⟨x, env, Hs, os, _, I, h1, fun vs H1 Hs1 I1 s1 o1 q dx hq hdx hne => ?_⟩
      rw [e0] at o1
      have rs := o1.rps
      show spD X.K (.pn :: ks) g (V.ref q :: (vs ++ [])) (upd (upd H1 dx (.own q)) q (.ins (He.ga X.K c) dx [])) (fun v H2 => v = .non ∧ Q (.ref q) H2) E0
      rw [List.append_nil]
      have hq2 : upd H1 dx (.own q) q = none := by rw [upd_ne (fun z => hne z.symm)]; exact hq
      have sm : Same H1 (upd (upd H1 dx (.own q)) q (.ins (He.ga X.K c) dx [])) := (same_new hdx).trans (same_new hq2)
      refine ⟨_, Hs1, .obj c [] :: ds, _, by simp [hc.2], IV.calleeP (p := q) hc.1 hc.2 (I1.ex.trans sm) rs (I1.hs_none hq) ⟨dx, [], upd_same, by simp only [RpF]⟩, hgd, ?_⟩
      intro v H' Hs' bk r'
      obtain ⟨b1, b2, b3, b4, b5⟩ := bk
      obtain ⟨d', hd', n1, ow'⟩ := b5 0 rfl
      cases hd'
      have rv : v = .non := by simpa only [Rp] using r'
      have s3 : Same H1 H' := fun a o ha => b3 a o (by
        have ne : a ≠ q := fun z => by
          rw [z, hq] at ha
          cases ha
        show (if a = q then none else _) = some o
        rw [if_neg ne]
        exact sm a o ha)
      refine ⟨rv, k q H' Hs' (I1.widen s3 b1 b2 fun a o hh => ?_) (s1.trans b1) ow' n1 (I1.fm_none hq) (I1.apart hq)⟩
      rcases b4 a o hh with w | w
      · exact .inl w
      · have w : (if a = q then none else (upd (upd H1 dx (.own q)) q (.ins (He.ga X.K c) dx [])) a) = none := w
        by_cases e : a = q
        · rw [e]
          exact .inr hq
        · rw [if_neg e, upd_ne e] at w
          by_cases e2 : a = dx
          · rw [e2]
            exact .inr hdx
          · rw [upd_ne e2] at w
            exact .inr w
    · cases hf3
  · cases hf3
end
end Qd
namespace Qd
open PySem PySem.Spec L2
/-- a statement that is never come to -/
def sNo : FS := fun _ => none
theorem ds_no {X : Cx} {s : Stmt} : DS X s sNo := ⟨fun pins s σ H Z I h => by
  obtain ⟨_, _, _, _, _, h, _⟩ := h
  cases h⟩
end Qd
namespace Qd
open PySem PySem.Spec L2
section
variable {X : Cx} {K : PySem.W.Frag}
def rEqM (C : Addr) (sp : Sp) : R2 := fun x y H Q => ∃ a b dx dy fs gs, x = .ref a ∧ y = .ref b ∧ H a = some (.ins C dx fs) ∧ H b = some (.ins C dy gs) ∧ sp [x, y] H (fun v H' => (∃ t, v = .bl t) ∧ Q v H') E0
theorem op_eqM {k : Nat} {f C : Addr} {fd : FuncData} {ps : List Str} {sp : Sp} (F : FnOk X.prog X.w X.K X.mg X.base CX0 k f fd ps sp) (hm : Meth X.K C "__eq__" f) (hr : Room k X.A) (hb : Binds X.K fd ps []) : OpR X (compareOp .Eq) (rEqM C sp) := by
  intro pins s σ H x y v u Q I rx ry d
  obtain ⟨a, b, dx, dy, fs, gs, rfl, rfl, ha, hb', hsp⟩ := d
  cases rx
  cases ry
  show wpAny (model X.prog X.w) X.A (richCompare .Eq (.ref a) (.ref b)) (EP X pins σ Q) X.xe s
  obtain ⟨mA, J, _⟩ := ins_get I.hok ha
  obtain ⟨mB, J', _⟩ := ins_get I.hok hb'
  obtain ⟨od, J, _⟩ := J.look
  obtain ⟨od', J', _⟩ := J'.look
  obtain ⟨m, hF⟩ := I.fr
  refine PySem.W.cmp_K (op := .Eq) (tb := .ref C) hr.units0 hF I.ok.mod.kin J J'.type (by simp [PySem.W.notFirst]) hm.at_ hm.fn ?_
  have hl := F.len _ _ _ _ hsp
  have r2 : Vals [V.ref a, V.ref b] [Value.ref a, Value.ref b] := .cons rfl (.cons rfl .nil)
  refine wpAny_call (codeAny_mono (F.run X.A X.stack s H ⟨[.ref a, .ref b], []⟩ [.ref a, .ref b] [.ref a, .ref b] _ E0 hr I.env0 (by
    have := hb s [.ref a, .ref b] I.kIn (by simpa using hl)
    simpa using this) r2 hsp) fun r s' hq => ?_)
  cases r with
  | error e => exact False.elim hq
  | ok fl =>
    cases fl with
    | ret w =>
      obtain ⟨z, H', I', rz, ⟨t, ez⟩, hQ⟩ := I.after hq
      subst ez
      cases rz
      exact ⟨.bl t, H', I', rfl, hQ⟩
    | next => exact False.elim hq
    | brk => exact False.elim hq
    | cont => exact False.elim hq
def exEq (c : Str) (g : FN) (fa fb : FE) (env : En) : Option (D × En) := (fa env).bind fun p => (fb p.2).bind fun q => match p.1, q.1 with
  | .obj c1 fs, .obj c2 gs => if c1 = c ∧ c2 = c then match g [.obj c1 fs, .obj c2 gs] with
    | some (.ok false (.bl t) _) => some (.bl t, q.2)
    | _ => none else none
  | _, _ => none
theorem eqRun {c : Str} {g : FN} {fa fb : FE} {x : Fx} {env env' : En} {σ : L2.St} {Hs H : Hp} {d : D} {Q : VK} (I : IV K x env σ Hs H) (hf : exEq c g fa fb env = some (d, env'))
    (k : ∀ v H' Hs', IV K x env' σ Hs' H' → Same Hs Hs' → Rp K Hs' d v → Q v H') : rd K fa σ H fun v H1 => rd K fb σ H1 fun w H2 => rEqM (He.ga K c) (spD K [.sh, .sh] g) v w H2 Q := by
  unfold exEq at hf
  obtain ⟨⟨d1, e1⟩, h1, hf1⟩ := Option.bind_eq_some_iff.mp hf
  obtain ⟨⟨d2, e2⟩, h2, hf2⟩ := Option.bind_eq_some_iff.mp hf1
  clear hf hf1
  cases d1 <;> try (cases hf2; done)
  rename_i c1 fs
  cases d2 <;> try (cases hf2; done)
  rename_i c2 gs
  have hf3 : (if c1 = c ∧ c2 = c then match g [.obj c1 fs, .obj c2 gs] with
    | some (.ok false (.bl t) _) => some (D.bl t, e2)
    | _ => none else none) = some (d, env') := hf2
  clear hf2
  split at hf3
  · rename_i hcc
    obtain ⟨rfl, rfl⟩ := hcc
    split at hf3
    · rename_i t outs hg
      cases hf3
      refine ⟨x, env, Hs, _, e1, I, h1, fun v H1 Hs1 I1 s1 r1 => ⟨x, e1, Hs1, _, _, I1, h2, fun w H2 Hs2 I2 s2 r2 => ?_⟩⟩
      have r1' := Rp.mono s2 _ r1
      have q1 := r1'
      have q2 := r2
      simp only [Rp] at q1 q2
      obtain ⟨a, dx, gs1, rfl, hp, rf⟩ := q1
      obtain ⟨b, dy, gs2, rfl, hp2, rf2⟩ := q2
      refine ⟨a, b, dx, dy, gs1, gs2, rfl, rfl, I2.ex _ _ hp, I2.ex _ _ hp2, coreV I2 rfl rfl (ds := [.obj c2 fs, .obj c2 gs]) (by simp only [Rps]; exact ⟨_, _, rfl, r1', _, _, rfl, r2, rfl⟩) hg (fun _ v H' Hs' I' s' r' => ⟨⟨t, by simpa only [Rp] using r'⟩, k v H' Hs' I' (s1.trans (s2.trans s')) r'⟩) fun z => nomatch z⟩
    · cases hf3
  · cases hf3
theorem de_eqO {kk : Nat} {c : Str} {g : FN} {a b : Expr} {fa fb : FE} {pos : Pos} (C : Km X.prog X.w X.K X.mg X.base kk c "__eq__" [.sh, .sh] g) (hr : Room kk X.A) (ha : DE X a fa) (hb : DE X b fb) : DE X (.Compare a [.Eq] [b] pos) (exEq c g fa fb) := by
  obtain ⟨f, fd, ps, F, hc, hm, hbn⟩ := C.ex
  refine imp (pe_cmpR (op_eqM F hm hr hbn) ha hb (nomark _)) fun σ H Q h => ?_
  obtain ⟨x, env, Hs, d, env', I, hf, k⟩ := h
  exact eqRun I hf k
theorem dt_eqO {kk : Nat} {c : Str} {g : FN} {a b : Expr} {fa fb : FE} {pos : Pos} (C : Km X.prog X.w X.K X.mg X.base kk c "__eq__" [.sh, .sh] g) (hr : Room kk X.A) (ha : DE X a fa) (hb : DE X b fb) : DT X (.Compare a [.Eq] [b] pos) (exEq c g fa fb) := by
  obtain ⟨f, fd, ps, F, hc, hm, hbn⟩ := C.ex
  refine impT (pt_cmpR (op_eqM F hm hr hbn) ha hb (nomark _)) fun σ H Q h => ?_
  obtain ⟨x, env, Hs, t, env', I, hf, k⟩ := h
  exact eqRun I hf fun v H' Hs' I' s' r => ⟨t, by simpa only [Rp] using r, k H' Hs' I' s'⟩
end
end Qd
namespace Qd
open PySem PySem.Spec L2
section
variable {X : Cx} {K : PySem.W.Frag}
theorem de_cls (c : Str) {pos : Pos} (hm : X.mg c = some (.ref (He.ga X.K c))) (hg : Gl X c := by rfl) (hdb : (c == ("__debug__" : Str)) = false := by decide) : DE X (.Name c pos) (eK (.cls c)) := imp (pe_glob (v := .ref (He.ga X.K c)) hg hm rfl hdb) fun σ H Q h => by
  obtain ⟨y, env, Hs, d, env', I, hf, k⟩ := h
  cases hf
  exact k _ H Hs I (Same.refl _) (by simp only [Rp])
def isoD (c : Str) : List D → Option D
  | [.obj c' _, .cls e] => if c' = c ∧ e = c then some (.bl true) else none
  | _ => none
theorem cv_iso {c : Str} (ic : C8.InsC K (He.ga K c)) : CV K (rIsi K) (isoD c) := by
  intro Hs H ds z vs ex ps h
  unfold isoD at h
  split at h
  · rename_i c' fs e
    obtain ⟨v, w, rfl, p, q⟩ := pks2 ps
    split at h
    · rename_i hcc
      obtain ⟨rfl, rfl⟩ := hcc
      cases h
      cases (show w = .ref (He.ga K e) from q)
      obtain ⟨a, dx, gs, rfl, hp, rf⟩ := p
      exact ⟨.bl true, by simp only [Rp], fun Q q => ⟨.ref a, .ref (He.ga K e), .ref (He.ga K e), .ref (He.ga K e), true, rfl, .own _, .base (.ins hp ic.cl ic.ha ic.hn ic.htk ic.hm), ic.me, q⟩⟩
    · cases h
  · cases h
theorem isoD_eq (c : Str) (fs : List (Str × D)) : isoD c [.obj c fs, .cls c] = some (.bl true) := if_pos ⟨rfl, rfl⟩
end
end Qd
namespace Qd
open PySem PySem.Spec L2
abbrev XFa := PySem.W.Frag → Bool
abbrev AlX : Type := Bool × He.AlD
def obsX (n : Nat) (xf : List XFa) (fa : List He.Fa) (fn : List He.DefD) (g : Addr → Option Obj) : AlX := (xf.all fun f => f (He.frG g (He.asD g n)), He.obsDG n fa fn g)
def SaysX (xf : List XFa) (fa : List He.Fa) (fn : List He.DefD) (K : PySem.W.Frag) : Prop := (xf.all fun f => f K) = true ∧ He.SaysD fa fn K
def hookX (n : Nat) (xf : List XFa) (fa : List He.Fa) (fn : List He.DefD) : PySem.W.Hook where
  α := AlX
  obs := fun s => obsX n xf fa fn s.heap.get?
  val := fun _ => (true, He.valD fn)
  says := fun _ h => ∃ K : PySem.W.Frag, K.In h ∧ SaysX xf fa fn K
  of := fun _ _ e => ⟨_, He.frG_in, congrArg (fun z : AlX => z.1) e, congrArg (fun z : AlX => z.2) e⟩
  keeps := fun _ _ _ ⟨K, hK, c⟩ k => ⟨K, PySem.W.Frag.In.keeps hK k, c⟩
theorem obsX_eq {n : Nat} {xf : List XFa} {fa : List He.Fa} {fn : List He.DefD} {g : Addr → Option Obj} {s : Shared} (h : ∀ a, g a = s.heap.get? a) : obsX n xf fa fn g = (hookX n xf fa fn).obs s := by
  have e : g = s.heap.get? := funext h
  rw [e] <;> rfl
theorem SaysX.x {xf : List XFa} {fa : List He.Fa} {fn : List He.DefD} {K : PySem.W.Frag} (c : SaysX xf fa fn K) (i : Nat) {f : XFa} (h : xf[i]? = some f := by rfl) : f K = true := List.all_eq_true.mp c.1 f (List.mem_of_getElem? h)
/-- what isinstance wants of an own class -/
def insB (c : Str) : XFa := fun K => He.eqO (PySem.W.findIn K (.ref (He.ga K c)) "__class__") (some (some (.builtin "object.__class__"))) && (decide (PySem.W.specialIn K (.builtin "object.__class__") "__get__" = some (some (.builtin "getset_descriptor.__get__"))) &&
  (decide (PySem.W.takesIn K (.builtin "object.__class__") = some true) && (decide (PySem.W.mroIn K (He.ga K c) (.type "object") = some true) && decide (PySem.W.kitOne K (.ref (He.ga K c)) (.ref (He.ga K c)) = some true))))
theorem insB_ok {c : Str} {K : PySem.W.Frag} (cl : Cls K (He.ga K c)) (h : insB c K = true) : C8.InsC K (He.ga K c) := by
  obtain ⟨h1, h⟩ := He.ba h
  obtain ⟨h2, h⟩ := He.ba h
  obtain ⟨h3, h⟩ := He.ba h
  obtain ⟨h4, h5⟩ := He.ba h
  exact ⟨cl, He.eqO_ok h1, of_decide_eq_true h2, of_decide_eq_true h3, of_decide_eq_true h4, of_decide_eq_true h5⟩
end Qd
namespace Qd
open PySem PySem.Spec L2
mutual
/-- no dict within -/
def noDic : D → Bool
  | .dic _ => false
  | .fdic _ => false
  | .tup ds => noDics ds
  | .lst ds => noDics ds
  | .obj _ fs => noDicF fs
  | _ => true
def noDics : List D → Bool
  | [] => true
  | d :: ds => noDic d && noDics ds
def noDicF : List (Str × D) → Bool
  | [] => true
  | (_, d) :: ds => noDic d && noDicF ds
end
def noDicK : List (Ky × D) → Bool
  | [] => true
  | (_, d) :: ds => noDic d && noDicK ds
/-- what is not a dict at that place -/
def IsD (o : HO) : Prop := ∃ ks, o = .dK ks ∨ ∃ u, o = .frz u (.dK ks)
section
variable {K : PySem.W.Frag} {G : Hp} {a0 : Addr} {o1 o2 : HO}
theorem rd_re {a : Addr} {u : HO} (h0 : G a0 = some o1) (hd : IsD o1) (hu : ∀ ks, u ≠ .dK ks) (hf : ∀ x y, u ≠ .frz x y) (h : Rd G a u) : Rd (upd G a0 o2) a u := by
  have ne : a ≠ a0 := fun e => by
    subst e
    obtain ⟨ks, hd⟩ := hd
    rcases h with h | ⟨o, h⟩
    · rw [h0] at h
      cases h
      rcases hd with z | ⟨w, z⟩
      · exact hu ks z
      · exact hf _ _ z
    · rw [h0] at h
      cases h
      rcases hd with z | ⟨w, z⟩
      · cases z
      · cases z
        exact hu ks rfl
  rcases h with h | ⟨o, h⟩
  · exact .inl (by rw [upd_ne ne]; exact h)
  · exact .inr ⟨o, by rw [upd_ne ne]; exact h⟩
theorem sqT_re {a : Addr} {vs : List V} (h0 : G a0 = some o1) (hd : IsD o1) (h : SqT K G a vs) : SqT K (upd G a0 o2) a vs := by
  rcases h with h | h
  · exact .inl (rd_re h0 hd (fun _ z => nomatch z) (fun _ _ z => nomatch z) h)
  · exact .inr h
theorem sqL_re {a : Addr} {vs : List V} (h0 : G a0 = some o1) (hd : IsD o1) (h : SqL K G a vs) : SqL K (upd G a0 o2) a vs := by
  rcases h with h | h
  · exact .inl (rd_re h0 hd (fun _ z => nomatch z) (fun _ _ z => nomatch z) h)
  · exact .inr h
theorem at_re {a : Addr} {u : HO} (h0 : G a0 = some o1) (hd : IsD o1) (hu : ∀ ks, u ≠ .dK ks) (hf : ∀ x y, u ≠ .frz x y) (h : G a = some u) : upd G a0 o2 a = some u := by
  have ne : a ≠ a0 := fun e => by
    subst e
    rw [h0] at h
    cases h
    obtain ⟨ks, z | ⟨w, z⟩⟩ := hd
    · exact hu ks z
    · exact hf _ _ z
  rw [upd_ne ne]
  exact h
mutual
theorem Rp.re (h0 : G a0 = some o1) (hd : IsD o1) : ∀ (d : D) {v : V}, noDic d = true → Rp K G d v → Rp K (upd G a0 o2) d v
  | .non, _, _, h => by simp only [Rp] at h ⊢; exact h
  | .bl _, _, _, h => by simp only [Rp] at h ⊢; exact h
  | .int _, _, _, h => by simp only [Rp] at h ⊢; exact h
  | .str _, _, _, h => by simp only [Rp] at h ⊢; exact h
  | .cls _, _, _, h => by simp only [Rp] at h ⊢; exact h
  | .ty _, _, _, h => by simp only [Rp] at h ⊢; exact h
  | .dic _, _, n, _ => by simp only [noDic] at n; cases n
  | .fdic _, _, n, _ => by simp only [noDic] at n; cases n
  | .tup ds, _, n, h => by
    simp only [Rp] at h ⊢
    obtain ⟨a, vs, h1, h2, h3⟩ := h
    exact ⟨a, vs, h1, sqT_re h0 hd h2, Rps.re h0 hd ds (by simpa only [noDic] using n) h3⟩
  | .lst ds, _, n, h => by
    simp only [Rp] at h ⊢
    obtain ⟨a, vs, h1, h2, h3⟩ := h
    exact ⟨a, vs, h1, at_re h0 hd (fun _ z => nomatch z) (fun _ _ z => nomatch z) h2, Rps.re h0 hd ds (by simpa only [noDic] using n) h3⟩
  | .obj c fs, _, n, h => by
    simp only [Rp] at h ⊢
    obtain ⟨a, dx, gs, h1, h2, h3⟩ := h
    exact ⟨a, dx, gs, h1, at_re h0 hd (fun _ z => nomatch z) (fun _ _ z => nomatch z) h2, RpF.re h0 hd fs (by simpa only [noDic] using n) h3⟩
  | .scr ns, _, _, h => by
    simp only [Rp] at h ⊢
    obtain ⟨a, h1, h2⟩ := h
    exact ⟨a, h1, sqL_re h0 hd h2⟩
theorem Rps.re (h0 : G a0 = some o1) (hd : IsD o1) : ∀ (ds : List D) {vs : List V}, noDics ds = true → Rps K G ds vs → Rps K (upd G a0 o2) ds vs
  | [], _, _, h => by simp only [Rps] at h ⊢; exact h
  | d :: ds, _, n, h => by
    simp only [Rps] at h ⊢
    simp only [noDics, Bool.and_eq_true] at n
    obtain ⟨v, r, h1, h2, h3⟩ := h
    exact ⟨v, r, h1, Rp.re h0 hd d n.1 h2, Rps.re h0 hd ds n.2 h3⟩
theorem RpF.re (h0 : G a0 = some o1) (hd : IsD o1) : ∀ (ds : List (Str × D)) {vs : List (Str × V)}, noDicF ds = true → RpF K G ds vs → RpF K (upd G a0 o2) ds vs
  | [], _, _, h => by simp only [RpF] at h ⊢; exact h
  | (k, d) :: ds, _, n, h => by
    simp only [RpF] at h ⊢
    simp only [noDicF, Bool.and_eq_true] at n
    obtain ⟨v, r, h1, h2, h3⟩ := h
    exact ⟨v, r, h1, Rp.re h0 hd d n.1 h2, RpF.re h0 hd ds n.2 h3⟩
end
theorem RpK.re (h0 : G a0 = some o1) (hd : IsD o1) : ∀ (ds : List (Ky × D)) {vs : List (Key × V)}, noDicK ds = true → RpK K G ds vs → RpK K (upd G a0 o2) ds vs
  | [], _, _, h => by simp only [RpK] at h ⊢; exact h
  | (k, d) :: ds, _, n, h => by
    simp only [RpK] at h ⊢
    simp only [noDicK, Bool.and_eq_true] at n
    obtain ⟨v, r, h1, h2, h3⟩ := h
    exact ⟨v, r, h1, Rp.re h0 hd d n.1 h2, RpK.re h0 hd ds n.2 h3⟩
end
/-- the parts have no dict within -/
def noDicP : D → Bool
  | .dic kvs => noDicK kvs
  | d => noDic d
theorem Own.re {K : PySem.W.Frag} {G H H' : Hp} {a0 p : Addr} {o1 o2 : HO} (h0 : G a0 = some o1) (hd : IsD o1) (e : H' p = H p) : ∀ {d : D}, noDicP d = true → Own K G H p d → Own K (upd G a0 o2) H' p d
  | .lst ds, n, ⟨vs, a, b⟩ => ⟨vs, e.trans a, Rps.re h0 hd _ (by simpa only [noDicP, noDic] using n) b⟩
  | .tup ds, n, ⟨vs, a, b⟩ => ⟨vs, e.trans a, Rps.re h0 hd _ (by simpa only [noDicP, noDic] using n) b⟩
  | .dic ds, n, ⟨vs, a, b⟩ => ⟨vs, e.trans a, RpK.re h0 hd _ (by simpa only [noDicP] using n) b⟩
  | .obj c ds, n, ⟨dx, vs, a, b⟩ => ⟨dx, vs, e.trans a, RpF.re h0 hd _ (by simpa only [noDicP, noDic] using n) b⟩
/-- all slots but i -/
def slOk : Option Sl → Bool
  | none => true
  | some (.sh, d) => noDic d
  | some (_, d) => noDicP d
def othOk (i : Nat) (env : En) : Bool := (env.set i none).all slOk
theorem othOk_get {i j : Nat} {env : En} {s : Option Sl} (h : othOk i env = true) (hj : j ≠ i) (e : env[j]? = some s) : slOk s = true := by
  unfold othOk at h
  rw [List.all_eq_true] at h
  exact h s (List.mem_of_getElem? (by rw [List.getElem?_set_ne (Ne.symm hj)]; exact e))
section
variable {K : PySem.W.Frag} {x : Fx} {env : En} {σ : L2.St} {Hs H : Hp}
abbrev lkX (x : Fx) (d : Addr) (o : HO) : Fx := ⟨upd x.fm d o, upd x.hs d o, x.pa⟩
theorem same_upd {G G' : Hp} {d : Addr} {o : HO} (e : Same G G') : Same (upd G d o) (upd G' d o) := fun b u q => by
  by_cases h : b = d
  · subst h
    rw [upd_same] at q ⊢
    exact q
  · rw [upd_ne h] at q ⊢
    exact e b u q
theorem IV.lockD {i : Nat} {d : Addr} {kvs : List (Ky × D)} {ks : List (Key × V)} {od : Obj} (I : IV K x env σ Hs H) (hi : env[i]? = some (some (.sh, .dic kvs))) (hs : σ[i]? = some (some (.ref d))) (hd : Hs d = some (.dK ks)) (hr : RpK K Hs kvs ks) (ho : othOk i env = true) (hk : noDicK kvs = true) :
    IV K (lkX x d (.frz od (.dK ks))) (env.set i (some (.sh, .fdic kvs))) σ (upd Hs d (.frz od (.dK ks))) (upd H d (.frz od (.dK ks))) := by
  have isd : IsD (.dK ks) := ⟨ks, .inl rfl⟩
  have owne : ∀ (j : Nat) (k : Kd) (e : D) (p : Addr), env[j]? = some (some (k, e)) → k ≠ .sh → Hs p = none → p ≠ d := fun j k e p _ _ hp z => by rw [z, hd] at hp; cases hp
  refine ⟨by rw [List.length_set, I.len], same_upd I.ex, same_upd I.fr, fun a o q => ?_, same_upd I.h0, fun j e h1 => ?_, fun j k e h1 h2 => ?_, fun j l kj kl dj dl p hne h1 h2 h3 h4 h5 => ?_⟩
  · by_cases ha : a = d
    · subst ha
      rw [upd_same] at q
      exact .inl (by show upd x.hs a _ a = some o; rw [upd_same]; exact q)
    · rw [upd_ne ha] at q
      show (upd x.hs d _ a = some o) ∨ upd x.fm d _ a = none
      rw [upd_ne ha, upd_ne ha]
      exact I.sep a o q
  · rcases get_set h1 with ⟨rfl, h⟩ | ⟨hj, h⟩
    · cases h
      refine ⟨.ref d, hs, ?_⟩
      simp only [Rp]
      exact ⟨d, od, ks, rfl, upd_same, RpK.re hd isd kvs hk hr⟩
    · obtain ⟨v, a, r⟩ := I.sh j e h
      exact ⟨v, a, Rp.re hd isd e (othOk_get ho hj h) r⟩
  · rcases get_set h1 with ⟨rfl, h⟩ | ⟨hj, h⟩
    · cases h
      exact absurd rfl h2
    · obtain ⟨p, a, b, c, o, q⟩ := I.ow j k e h h2
      have ne := owne j k e p h h2 b
      refine ⟨p, a, by rw [upd_ne ne]; exact b, by show upd x.fm d _ p = none; rw [upd_ne ne]; exact c, Own.re hd isd (upd_ne ne) ?_ o, q⟩
      have := othOk_get ho hj h
      cases k <;> first | exact absurd rfl h2 | exact this
  · rcases get_set h1 with ⟨rfl, h⟩ | ⟨hj, h⟩
    · cases h
      exact absurd rfl h2
    · rcases get_set h3 with ⟨rfl, h'⟩ | ⟨hl, h'⟩
      · cases h'
        exact absurd rfl h4
      · exact I.dj j l kj kl dj dl p hne h h2 h' h4 h5
theorem IV.unlockD {i : Nat} {d : Addr} {kvs : List (Ky × D)} {ks : List (Key × V)} {od : Obj} {env2 : En} {Hs2 H2 : Hp} (I : IV K x env σ Hs H) (hd : Hs d = some (.dK ks)) (hr : RpK K Hs kvs ks)
    (I2 : IV K (lkX x d (.frz od (.dK ks))) env2 σ Hs2 H2) (s : Same (upd Hs d (.frz od (.dK ks))) Hs2) (hi : env2[i]? = some (some (.sh, .fdic kvs))) (hσ : σ[i]? = some (some (.ref d))) (ho : othOk i env2 = true) :
    IV K x (env2.set i (some (.sh, .dic kvs))) σ (upd Hs2 d (.dK ks)) (upd H2 d (.dK ks)) ∧ Same Hs (upd Hs2 d (.dK ks)) ∧ Hs2 d = some (.frz od (.dK ks)) ∧ H2 d = some (.frz od (.dK ks)) := by
  have isd : IsD (.frz od (.dK ks)) := ⟨ks, .inr ⟨od, rfl⟩⟩
  have e2 : Hs2 d = some (.frz od (.dK ks)) := I2.h0 d _ (by show upd x.hs d _ d = _; rw [upd_same])
  have eH : H2 d = some (.frz od (.dK ks)) := I2.ex d _ e2
  have sm : Same Hs (upd Hs2 d (.dK ks)) := fun b u q => by
    by_cases h : b = d
    · subst h
      rw [hd] at q
      cases q
      exact upd_same
    · rw [upd_ne h]
      exact s b u (by rw [upd_ne h]; exact q)
  have hil : i < σ.length := (List.getElem?_eq_some_iff.mp hσ).1
  refine ⟨⟨by rw [List.length_set, I2.len], same_upd I2.ex, fun a o q => ?_, fun a o q => ?_, fun a o q => ?_, fun j e h1 => ?_, fun j k e h1 h2 => ?_, fun j l kj kl dj dl p hne h1 h2 h3 h4 h5 => ?_⟩, sm, e2, eH⟩
  · by_cases ha : a = d
    · subst ha
      have q1 := I.fr a o q
      have q2 := I.ex a _ hd
      rw [q1] at q2
      rw [upd_same]
      exact q2.symm
    · rw [upd_ne ha]
      exact I2.fr a o (by show upd x.fm d _ a = _; rw [upd_ne ha]; exact q)
  · by_cases ha : a = d
    · subst ha
      rw [upd_same] at q
      cases q
      exact I.sep a _ hd
    · rw [upd_ne ha] at q
      have := I2.sep a o q
      rw [show (lkX x d (.frz od (.dK ks))).hs a = x.hs a from upd_ne ha, show (lkX x d (.frz od (.dK ks))).fm a = x.fm a from upd_ne ha] at this
      exact this
  · by_cases ha : a = d
    · subst ha
      have q1 := I.h0 a o q
      rw [hd] at q1
      rw [upd_same]
      exact q1
    · rw [upd_ne ha]
      exact I2.h0 a o (by show upd x.hs d _ a = _; rw [upd_ne ha]; exact q)
  · rcases get_set h1 with ⟨rfl, h⟩ | ⟨hj, h⟩
    · cases h
      refine ⟨.ref d, hσ, ?_⟩
      simp only [Rp]
      exact ⟨d, ks, rfl, upd_same, RpK.mono sm kvs hr⟩
    · obtain ⟨v, a, r⟩ := I2.sh j e h
      exact ⟨v, a, Rp.re e2 isd e (othOk_get ho hj h) r⟩
  · rcases get_set h1 with ⟨rfl, h⟩ | ⟨hj, h⟩
    · cases h
      exact absurd rfl h2
    · obtain ⟨p, a, b, c, o, q⟩ := I2.ow j k e h h2
      have ne : p ≠ d := fun z => by rw [z, e2] at b; cases b
      have c' : x.fm p = none := by
        have c : upd x.fm d _ p = none := c
        rwa [upd_ne ne] at c
      refine ⟨p, a, by rw [upd_ne ne]; exact b, c', Own.re e2 isd (upd_ne ne) ?_ o, q⟩
      have := othOk_get ho hj h
      cases k <;> first | exact absurd rfl h2 | exact this
  · rcases get_set h1 with ⟨rfl, h⟩ | ⟨hj, h⟩
    · cases h
      exact absurd rfl h2
    · rcases get_set h3 with ⟨rfl, h'⟩ | ⟨hl, h'⟩
      · cases h'
        exact absurd rfl h4
      · exact I2.dj j l kj kl dj dl p hne h h2 h' h4 h5
end
/-- slot i, a dict, is locked while the expression runs -/
def eLk (i : Nat) (f : FE) : FE := fun env => match env[i]? with
  | some (some (.sh, .dic kvs)) => if othOk i env && noDicK kvs then (f (env.set i (some (.sh, .fdic kvs)))).bind fun p => match p.2[i]? with
    | some (some (.sh, .fdic kvs')) => if beqKs kvs' kvs && (othOk i p.2 && noDic p.1) then some (p.1, p.2.set i (some (.sh, .dic kvs))) else none
    | _ => none else none
  | _ => none
section
variable {X : Cx}
theorem de_lk (i : Nat) {e : Expr} {f : FE} (h : DE X e f) : DE X e (eLk i f) := imp (pe_lock h) fun σ H Q hq => by
  obtain ⟨x, env, Hs, d0, env', I, hf, k⟩ := hq
  unfold eLk at hf
  split at hf
  · rename_i kvs hi
    split at hf
    · rename_i hc
      obtain ⟨ho, hk⟩ := Bool.and_eq_true_iff.mp hc
      obtain ⟨⟨d1, e2⟩, h1, hf⟩ := Option.bind_eq_some_iff.mp hf
      have hf : (match e2[i]? with
        | some (some (.sh, .fdic kvs')) => if beqKs kvs' kvs && (othOk i e2 && noDic d1) then some (d1, e2.set i (some (Kd.sh, D.dic kvs))) else none
        | _ => none) = some (d0, env') := hf
      split at hf
      · rename_i kvs' hi2
        split at hf
        · rename_i hc2
          obtain ⟨hb, hc3⟩ := Bool.and_eq_true_iff.mp hc2
          obtain ⟨ho2, hn⟩ := Bool.and_eq_true_iff.mp hc3
          have hb := beqKs_eq hb
          subst hb
          cases hf
          obtain ⟨v, hs, r⟩ := I.sh i _ hi
          simp only [Rp] at r
          obtain ⟨d, ks, rfl, hd, hr⟩ := r
          refine ⟨d, .dK ks, I.ex d _ hd, trivial, fun od => ⟨lkX x d (.frz od (.dK ks)), _, _, _, _, I.lockD hi hs hd hr ho hk, h1, fun v H' Hs2 I2 s2 rv => ?_⟩⟩
          obtain ⟨I3, s3, e2', eH⟩ := I.unlockD hd hr I2 s2 hi2 hs ho2
          exact ⟨eH, k v _ _ I3 s3 (Rp.re e2' ⟨ks, .inr ⟨od, rfl⟩⟩ _ hn rv)⟩
        · cases hf
      · cases hf
    · cases hf
  · cases hf
def keyD : Ky × D → D := fun kv => match kv.1 with
  | .i n => .int n
  | .s x => .str x
def iK (fe : FE) : FI := fun env => (fe env).bind fun p => match p.1 with
  | .fdic kvs => some (kvs.map keyD, [], p.2)
  | _ => none
theorem RpK.getK {K : PySem.W.Frag} {H : Hp} : ∀ {kvs : List (Ky × D)} {ks : List (Key × V)} {i : Nat} {k : Key} {v : V}, RpK K H kvs ks → ks[i]? = some (k, v) → ∃ q, kvs[i]? = some q ∧ k = q.1.key
  | [], _, i, k, v, r, h => by
    simp only [RpK] at r
    subst r
    cases h
  | (k', d') :: kvs, _, i, k, v, r, h => by
    simp only [RpK] at r
    obtain ⟨w, r', rfl, h1, h2⟩ := r
    cases i with
    | zero =>
      cases h
      exact ⟨_, rfl, rfl⟩
    | succ i => exact RpK.getK (i := i) h2 h
theorem di_keys {tg l : Expr} {fe : FE} (h : DE X l fe) : DI X tg l (iK fe) := impI (pi_keys h) fun σ H R h => by
  obtain ⟨x, env, Hs, items, bs, env', I, hf, k⟩ := h
  obtain ⟨⟨d, e1⟩, h1, hf⟩ := Option.bind_eq_some_iff.mp hf
  refine ⟨x, env, Hs, d, e1, I, h1, fun v H' Hs' I' s' r' => ?_⟩
  cases d <;> try (cases hf; done)
  rename_i kvs
  cases hf
  simp only [Rp] at r'
  obtain ⟨a, od, ks, rfl, g2, g3⟩ := r'
  refine ⟨a, od, rfl, .inl ⟨ks, I'.ex a _ g2, k _ H' Hs' I' s' fun i env2 σ2 Hs2 H2 I2 s2 hb => ?_⟩⟩
  have e2 : H2 a = some (.frz od (.dK ks)) := I2.ex a _ (s2 a _ g2)
  have hl : ks.length = kvs.length := g3.length
  refine ⟨fun d hd => ⟨⟨e2, ?_⟩, fun v H3 hy => ?_⟩, fun hi => ⟨e2, ?_⟩⟩
  · have := (List.getElem?_eq_some_iff.mp hd).1
    rw [List.length_map] at this
    omega
  · obtain ⟨rfl, key, u, hk, rfl⟩ := hy
    obtain ⟨q, hq, rfl⟩ := g3.getK hk
    rw [List.getElem?_map, hq] at hd
    cases hd
    refine ⟨Hs2, I2, Same.refl _, ?_, Same.refl _, fun _ _ _ => rfl⟩
    obtain ⟨q1, q2⟩ := q
    cases q1 with
    | i n => simp only [keyD, Rp]; rfl
    | s y => simp only [keyD, Rp]; rfl
  · rw [List.length_map] at hi
    omega
end
end Qd
namespace Qd
open PySem PySem.Spec L2
section
variable {X : Cx} {K : PySem.W.Frag}
def eGet2 (i : Nat) (fk fz : FE) : FE := fun env => match env[i]? with
  | some (some (_, .dic _)) => (fk env).bind fun q => (kyOf q.1).bind fun ky => (fz q.2).bind fun r => match r.2[i]? with
    | some (some (_, .dic kvs)) => some ((valD kvs ky).getD r.1, r.2)
    | _ => none
  | _ => none
theorem de_get2 (i : Nat) {x : Str} {e f : Expr} {fk fz : FE} {pos apos cpos : Pos} (hu : X.A.units + 1 < cLine) (hk : DE X e fk) (hz : DE X f fz) (m : M2 X (.Name x pos) "get" apos e f cpos := by exact ⟨rfl, rfl, rfl, rfl⟩) (hN : X.N[i]? = some x := by rfl) (hvis : Vis X.env.scope x := by first | exact Or.inl rfl | exact Or.inr (Or.inl rfl) | exact Or.inr (Or.inr rfl)) (hd : (x == ("__debug__" : Str)) = false := by decide)
    (hcd : (x == ("__classdict__" : Str)) = false := by decide) : DE X (.Call (.Attribute (.Name x pos) "get" apos) [e, f] [] cpos) (eGet2 i fk fz) := imp (pe_dget2 hu (do_peek i hN hvis hd hcd) hk hz m) fun σ H Q h => by
  obtain ⟨y, env, Hs, d, env', I, hf, k⟩ := h
  unfold eGet2 at hf
  split at hf
  · rename_i k0 kv0 hi0
    obtain ⟨⟨n, e2⟩, h2, hf⟩ := Option.bind_eq_some_iff.mp hf
    obtain ⟨ky, hky, hf⟩ := Option.bind_eq_some_iff.mp hf
    obtain ⟨⟨z, e3⟩, h3, hf⟩ := Option.bind_eq_some_iff.mp hf
    split at hf
    · rename_i kk kvs hi2
      cases hf
      refine ⟨y, env, Hs, .s i, env, I, by unfold oS; rw [hi0], fun w H1 Hs1 I1 s1 o1 => ?_⟩
      have o1 : σ[i]? = some (some w) := o1
      obtain ⟨v1, hv1, p1⟩ := I1.slot hi0
      rw [o1] at hv1
      cases hv1
      obtain ⟨a0, ks0, rfl, g2, g3⟩ := p1
      refine ⟨a0, rfl, .inl ⟨ks0, .inl g2⟩, y, env, Hs1, n, e2, I1, h2, fun u H2 Hs2 I2 s2 r2 => ⟨y, e2, Hs2, z, e3, I2, h3, fun u3 H3 Hs3 I3 s3 r3 => ?_⟩⟩
      have hi2 : e3[i]? = some (some (kk, .dic kvs)) := hi2
      obtain ⟨v3, hv3, p3⟩ := I3.slot hi2
      rw [o1] at hv3
      cases hv3
      obtain ⟨a3, ks3, ea, g4, g5⟩ := p3
      cases ea
      have ev := kyOf_rp hky r2
      subst ev
      refine ⟨valV ks3 ky.key, DGet.k g4, k _ H3 Hs3 I3 (s1.trans (s2.trans s3)) ?_⟩
      cases q : valD kvs ky with
      | none =>
        rw [(RpK.val (k := ky) g5).2 q]
        exact r3
      | some d =>
        obtain ⟨w', hw', rz⟩ := (RpK.val (k := ky) g5).1 _ q
        rw [hw']
        exact rz
    · cases hf
  · cases hf
def kvD : D → Option (Ky × D)
  | .tup [k, v] => (kyOf k).map fun y => (y, v)
  | _ => none
def kvsD : List D → Option (List (Ky × D))
  | [] => some []
  | d :: ds => (kvD d).bind fun p => (kvsD ds).map fun ps => p :: ps
def mergeD (kvs more : List (Ky × D)) : List (Ky × D) := more.foldl (fun acc kv => putD acc kv.1 kv.2) kvs
def dictD : List D → Option D
  | [.lst ds] => (kvsD ds).map fun ps => .dic (mergeD [] ps)
  | _ => none
def rDictP (K : PySem.W.Frag) : List V → Hp → VK → Prop := fun xs H Q => ∃ (a : Addr) (ps : List Addr) (kvs : List (Key × V)), xs = [.ref a] ∧ SqL K H a (ps.map V.ref) ∧ Paired (fun p kv => SqT K H p [kV kv.1, kv.2]) ps kvs ∧ ∀ p, H p = none → Q (.ref p) (upd H p (.dK (mergeK [] kvs)))
theorem cr_dictP (hc : X.calm = true) : CallR X (.type "dict") (rDictP X.K) := call_dictP hc
theorem kvsD_rp {Hs H : Hp} (ex : Same Hs H) : ∀ {ds : List D} {vs : List V} {ps : List (Ky × D)}, Rps K Hs ds vs → kvsD ds = some ps → ∃ (as : List Addr) (ks : List (Key × V)), vs = as.map V.ref ∧ Paired (fun p kv => SqT K H p [kV kv.1, kv.2]) as ks ∧ RpK K Hs ps ks
  | [], vs, ps, r, h => by
    cases h
    simp only [Rps] at r
    subst r
    exact ⟨[], [], rfl, .nil, by simp only [RpK]⟩
  | d :: ds, vs, ps, r, h => by
    obtain ⟨p, h1, h⟩ := Option.bind_eq_some_iff.mp (show (kvD d).bind (fun p => (kvsD ds).map fun ps => p :: ps) = some _ from h)
    obtain ⟨ps, h2, h3⟩ := Option.map_eq_some_iff.mp h
    cases h3
    simp only [Rps] at r
    obtain ⟨v, r', rfl, q1, q2⟩ := r
    obtain ⟨as, ks, e1, e2, e3⟩ := kvsD_rp ex q2 h2
    unfold kvD at h1
    split at h1
    · rename_i k w
      obtain ⟨y, hy, h1⟩ := Option.map_eq_some_iff.mp h1
      cases h1
      simp only [Rp, Rps] at q1
      obtain ⟨a, vs2, rfl, hT, u1, t1, rfl, q3, u2, t2, rfl, q4, rfl⟩ := q1
      have ek := kyOf_rp hy q3
      subst ek
      exact ⟨a :: as, (y.key, u2) :: ks, by rw [e1]; rfl, .cons (same_sqT ex hT) e2, by simp only [RpK]; exact ⟨u2, ks, rfl, q4, e3⟩⟩
    · cases h1
theorem mergeD_rp {Hs : Hp} : ∀ {ps : List (Ky × D)} {ks : List (Key × V)} {acc : List (Ky × D)} {ak : List (Key × V)}, RpK K Hs ps ks → RpK K Hs acc ak → RpK K Hs (mergeD acc ps) (mergeK ak ks)
  | [], _, acc, ak, r, q => by
    simp only [RpK] at r
    subst r
    exact q
  | (k, d) :: ps, _, acc, ak, r, q => by
    simp only [RpK] at r
    obtain ⟨v, r', rfl, h1, h2⟩ := r
    show RpK K Hs (mergeD (putD acc k d) ps) (mergeK (putK ak k.key v) r')
    exact mergeD_rp h2 (q.put h1)
theorem cf_dict : CFr K (rDictP K) dictD := by
  intro Hs H ds z vs ex ps h
  match ds, h with
  | [.lst ds], h =>
    obtain ⟨v, rfl, p⟩ := pks1 ps
    obtain ⟨a, vs, rfl, h2, h3⟩ := p
    obtain ⟨ps, hb, h⟩ := Option.map_eq_some_iff.mp (show (kvsD ds).map (fun ps => D.dic (mergeD [] ps)) = some z from h)
    cases h
    obtain ⟨as, ks, e1, e2, e3⟩ := kvsD_rp ex h3 hb
    exact ⟨.dK (mergeK [] ks), fun p => ⟨_, upd_same, mergeD_rp e3 (by simp only [RpK])⟩, fun Q q => ⟨a, as, ks, rfl, by rw [← e1]; exact SqL.of h2, e2, q⟩⟩
def rLenM (C : Addr) (sp : Sp) : List V → Hp → VK → Prop := fun xs H Q => ∃ a dx fs, xs = [.ref a] ∧ H a = some (.ins C dx fs) ∧ sp [.ref a] H (fun v H' => ∃ n : Int, v = .int n ∧ (0 ≤ n ∧ n < 2 ^ 63) ∧ Q (.int n) H') E0
theorem cr_lenM {k : Nat} {f C : Addr} {fd : FuncData} {ps : List Str} {sp : Sp} (F : FnOk X.prog X.w X.K X.mg X.base CX0 k f fd ps sp) (hm : Meth X.K C "__len__" f) (hr : Room (k + 1) X.A) (hb : Binds X.K fd ps []) : CallR X (.builtin "len") (rLenM C sp) := by
  intro pins s σ H xs us Q I r h
  obtain ⟨a, dx, fs, rfl, ha, hsp⟩ := h
  obtain ⟨u, rfl, ru⟩ := vals1 r
  obtain rfl : u = Value.ref a := ru
  obtain ⟨mA, J, _⟩ := ins_get I.hok ha
  obtain ⟨od, J, _⟩ := J.look
  obtain ⟨m, hF⟩ := I.fr
  refine PySem.W.len_K hF I.ok.mod.kin J hm.at_ hm.fn ?_
  have hl := F.len _ _ _ _ hsp
  have r2 : Vals [V.ref a] [Value.ref a] := .cons rfl .nil
  refine wpAny_call (codeAny_mono (F.run X.A.in1 X.stack s H ⟨[.ref a], []⟩ [.ref a] [.ref a] _ E0 hr.in1 I.env0.in1 (by
    have := hb s [.ref a] I.kIn (by simpa using hl)
    simpa using this) r2 hsp) fun r s' hq => ?_)
  cases r with
  | error e => exact False.elim hq
  | ok fl =>
    cases fl with
    | ret w =>
      obtain ⟨z, H', I', rz, n, ez, hn, hQ⟩ := I.after hq
      subst ez
      obtain ⟨t, rfl⟩ := rz
      exact ⟨hn, .int n, H', I'.tok _, ⟨_, rfl⟩, hQ⟩
    | next => exact False.elim hq
    | brk => exact False.elim hq
    | cont => exact False.elim hq
def eLenM (c : Str) (g : FN) (fe : FE) : FE := fun env => (fe env).bind fun p => match p.1 with
  | .obj c1 fs => if c1 = c then match g [.obj c1 fs] with
    | some (.ok false (.int n) _) => if 0 ≤ n ∧ n < 1000000000 then some (.int n, p.2) else none
    | _ => none else none
  | _ => none
theorem de_lenM {kk : Nat} {c : Str} {g : FN} {e : Expr} {fe : FE} {p pos : Pos} (C : Km X.prog X.w X.K X.mg X.base kk c "__len__" [.sh] g) (hr : Room (kk + 1) X.A) (hm : X.mg "len" = none) (h : DE X e fe) (hg : Gl X "len" := by rfl)
    (he : starEach [e] X.env = (false, eval e X.env) :: starEach [] X.env := by rfl) (hpl : (backTo pos (starEach [] X.env)).any (·.1) = false := by rfl) : DE X (.Call (.Name "len" p) [e] [] pos) (eLenM c g fe) := by
  obtain ⟨f, fd, ps, F, hc, hme, hbn⟩ := C.ex
  refine imp (pe_callB (cr_lenM F hme hr hbn) hg hm (by decide +kernel) (da_one h he) (by decide) (by decide) he hpl) fun σ H Q hq => ?_
  obtain ⟨x, env, Hs, d, env', I, hf, k⟩ := hq
  unfold eLenM at hf
  obtain ⟨⟨d1, e1⟩, h1, hf1⟩ := Option.bind_eq_some_iff.mp hf
  clear hf
  cases d1 <;> try (cases hf1; done)
  rename_i c1 fs
  have hf3 : (if c1 = c then match g [.obj c1 fs] with
    | some (.ok false (.int n) _) => if 0 ≤ n ∧ n < 1000000000 then some (D.int n, e1) else none
    | _ => none else none) = some (d, env') := hf1
  clear hf1
  split at hf3
  · rename_i hcc
    subst hcc
    split at hf3
    · rename_i n outs hg2
      split at hf3
      · rename_i hn
        cases hf3
        refine ⟨x, env, Hs, [.d (.obj c1 fs)], _, I, by unfold aCons oE aNil; rw [h1]; rfl, fun vs H1 Hs1 I1 s1 o1 => ?_⟩
        match vs, o1 with
        | [v], ⟨r1, _⟩ =>
          have r1 : Rp X.K Hs1 (.obj c1 fs) v := r1
          have q1 := r1
          simp only [Rp] at q1
          obtain ⟨a, dx, gs1, rfl, hp, rf⟩ := q1
          exact ⟨a, dx, gs1, rfl, I1.ex _ _ hp, coreV I1 rfl rfl (ds := [.obj c1 fs]) (by simp only [Rps]; exact ⟨_, _, rfl, r1, rfl⟩) hg2 (fun _ v H' Hs' I' s' r' => ⟨n, by simpa only [Rp] using r', ⟨hn.1, by omega⟩, k (.int n) H' Hs' I' (s1.trans s') (by simp only [Rp])⟩) fun z => nomatch z⟩
      · cases hf3
    · cases hf3
  · cases hf3
/-- a class, known by what its __init__ does of its defaults -/
structure Kc0 (P : Program) (w : World) (K : PySem.W.Frag) (mg : Str → Option Value) (base : Heap) (k : Nat) (c : Str) (ks : List Kd) (dds : List D) (g : FN) : Prop where
  ex : ∃ f fd ps ds dvs, FnOk P w K mg base CX0 k f fd ps (spD K (.pn :: ks) g) ∧ Mk K (He.ga K c) f ∧ mg c = some (.ref (He.ga K c)) ∧ Binds K fd ps ds ∧ Vals dvs ds ∧ ∀ H, Rps K H dds dvs
theorem Kc0.mono {P : Program} {w : World} {K : PySem.W.Frag} {mg : Str → Option Value} {base : Heap} {j k : Nat} {c : Str} {ks : List Kd} {dds : List D} {g : FN} (C : Kc0 P w K mg base j c ks dds g) (h : j ≤ k) : Kc0 P w K mg base k c ks dds g := by
  obtain ⟨f, fd, ps, ds, dvs, F, a⟩ := C.ex
  exact ⟨f, fd, ps, ds, dvs, F.mono h, a⟩
def eNew0 (c : Str) (ks : List Kd) (dds : List D) (g : FN) : FE := fun env => if allSh ks ∧ dds.length = ks.length then match g (.obj c [] :: dds) with
  | some (.ok false .non (d1 :: _)) => some (d1, env)
  | _ => none else none
theorem df_new0 {kk : Nat} {c : Str} {ks : List Kd} {dds : List D} {g : FN} {p pos : Pos} (C : Kc0 X.prog X.w X.K X.mg X.base kk c ks dds g) (hr : Room (kk + 1) X.A) (hg : Gl X c := by rfl) (hdb : (c == ("__debug__" : Str)) = false := by decide) : DF X (.Call (.Name c p) [] [] pos) (eNew0 c ks dds g) := by
  obtain ⟨f, fd, ps, dsv, dvs, F, M, hm, hb, hv, hD⟩ := C.ex
  refine imp (pe_make0 (E := E0) M F hr hg hm hb hv pass0 hdb) fun σ H Q h => ?_
  obtain ⟨x, env, Hs, d, env', I, hf3, k⟩ := h
  unfold eNew0 at hf3
  split at hf3
  · rename_i hc
    split at hf3
    · rename_i d1 outs hgd
      cases hf3
      intro q dx hq hdx hne
      have rs := hD Hs
      show spD X.K (.pn :: ks) g (V.ref q :: ([] ++ dvs)) (upd (upd H dx (.own q)) q (.ins (He.ga X.K c) dx [])) (fun v H2 => v = .non ∧ Q (.ref q) H2) E0
      rw [List.nil_append]
      have hq2 : upd H dx (.own q) q = none := by rw [upd_ne (fun z => hne z.symm)]; exact hq
      have sm : Same H (upd (upd H dx (.own q)) q (.ins (He.ga X.K c) dx [])) := (same_new hdx).trans (same_new hq2)
      refine ⟨_, Hs, .obj c [] :: dds, _, by simp [hc.2], IV.calleeP (p := q) hc.1 hc.2 (I.ex.trans sm) rs (I.hs_none hq) ⟨dx, [], upd_same, by simp only [RpF]⟩, hgd, ?_⟩
      intro v H' Hs' bk r'
      obtain ⟨b1, b2, b3, b4, b5⟩ := bk
      obtain ⟨d', hd', n1, ow'⟩ := b5 0 rfl
      cases hd'
      have rv : v = .non := by simpa only [Rp] using r'
      have s3 : Same H H' := fun a o ha => b3 a o (by
        have ne : a ≠ q := fun z => by
          rw [z, hq] at ha
          cases ha
        show (if a = q then none else _) = some o
        rw [if_neg ne]
        exact sm a o ha)
      refine ⟨rv, k q H' Hs' (I.widen s3 b1 b2 fun a o hh => ?_) b1 ow' n1 (I.fm_none hq) (I.apart hq)⟩
      rcases b4 a o hh with w | w
      · exact .inl w
      · have w : (if a = q then none else (upd (upd H dx (.own q)) q (.ins (He.ga X.K c) dx [])) a) = none := w
        by_cases e : a = q
        · rw [e]
          exact .inr hq
        · rw [if_neg e, upd_ne e] at w
          by_cases e2 : a = dx
          · rw [e2]
            exact .inr hdx
          · rw [upd_ne e2] at w
            exact .inr w
    · cases hf3
  · cases hf3
end
end Qd
namespace Qd
open PySem PySem.Spec L2
def pr (env : En) (o : Option D) : Option (D × En) := o.map fun z => (z, env)
theorem pr_some (env : En) (z : D) : pr env (some z) = some (z, env) := id rfl
def eVar_k (env : En) : Option (Option Sl) → Option (D × En)
  | some (some (.sh, d)) => some (d, env)
  | _ => none
theorem eVar_eq (i : Nat) (env : En) : eVar i env = eVar_k env env[i]? := by
  unfold eVar eVar_k
  all_goals (split <;> rename_i h <;> simp_all)
theorem eVar_k1 (env : En) (d : D) : eVar_k env (some (some (.sh, d))) = some (d, env) := id rfl
theorem eK_eq (d : D) (env : En) : eK d env = some (d, env) := id rfl
def oS_k (i : Nat) (env : En) : Option (Option Sl) → Option (Ov × En)
  | some (some _) => some (.s i, env)
  | _ => none
theorem oS_eq (i : Nat) (env : En) : oS i env = oS_k i env env[i]? := by
  unfold oS oS_k
  all_goals (split <;> rename_i h <;> simp_all)
theorem oS_k1 (i : Nat) (env : En) (s : Sl) : oS_k i env (some (some s)) = some (.s i, env) := id rfl
def oE_k (o : Option (D × En)) : Option (Ov × En) := o.map fun p => (.d p.1, p.2)
theorem oE_eq (f : FE) (env : En) : oE f env = oE_k (f env) := id rfl
theorem oE_k1 (d : D) (env : En) : oE_k (some (d, env)) = some (.d d, env) := id rfl
theorem fetch_d (env : En) (d : D) : fetch env (.d d) = some d := id rfl
def fetch_k : Option (Option Sl) → Option D
  | some (some (_, d)) => some d
  | _ => none
theorem fetch_s (env : En) (i : Nat) : fetch env (.s i) = fetch_k env[i]? := by
  show (match env[i]? with
    | some (some (_, d)) => some d
    | _ => none) = fetch_k env[i]?
  unfold fetch_k
  split <;> rfl
theorem fetch_k1 (k : Kd) (d : D) : fetch_k (some (some (k, d))) = some d := id rfl
def op2k4 (g : D → D → Option D) (env : En) (d e : D) : Option (D × En) := pr env (g d e)
def op2k3 (g : D → D → Option D) (b : Ov) (env : En) (d : D) : Option (D × En) := (fetch env b).bind (op2k4 g env d)
def op2k2 (g : D → D → Option D) (a : Ov) (q : Ov × En) : Option (D × En) := (fetch q.2 a).bind (op2k3 g q.1 q.2)
def op2k1 (g : D → D → Option D) (fb : FO) (p : Ov × En) : Option (D × En) := (fb p.2).bind (op2k2 g p.1)
theorem eOp2_eq (g : D → D → Option D) (fa fb : FO) (env : En) : eOp2 g fa fb env = (fa env).bind (op2k1 g fb) := by
  unfold eOp2 ev2
  cases fa env with
  | none => rfl
  | some p =>
    simp only [Option.bind_some, op2k1]
    cases fb p.2 with
    | none => rfl
    | some q =>
      simp only [Option.bind_some, op2k2]
      cases fetch q.2 p.1 with
      | none => rfl
      | some d =>
        simp only [Option.bind_some, op2k3]
        cases fetch q.2 q.1 <;> rfl
theorem op2k1_eq (g : D → D → Option D) (fb : FO) (a : Ov) (e : En) : op2k1 g fb (a, e) = (fb e).bind (op2k2 g a) := id rfl
theorem op2k2_eq (g : D → D → Option D) (a b : Ov) (e : En) : op2k2 g a (b, e) = (fetch e a).bind (op2k3 g b e) := id rfl
theorem op2k3_eq (g : D → D → Option D) (b : Ov) (e : En) (d : D) : op2k3 g b e d = (fetch e b).bind (op2k4 g e d) := id rfl
theorem op2k4_eq (g : D → D → Option D) (e : En) (d d' : D) : op2k4 g e d d' = pr e (g d d') := id rfl
theorem aNil_eq (env : En) : aNil env = some ([], env) := id rfl
def aC2 (a : Ov) (o : Option (List Ov × En)) : Option (List Ov × En) := o.map fun q => (a :: q.1, q.2)
theorem aC2_eq (a : Ov) (os : List Ov) (e : En) : aC2 a (some (os, e)) = some (a :: os, e) := id rfl
def aC1 (fa : FA) (p : Ov × En) : Option (List Ov × En) := aC2 p.1 (fa p.2)
theorem aCons_eq (fo : FO) (fa : FA) (env : En) : aCons fo fa env = (fo env).bind (aC1 fa) := id rfl
theorem aC1_eq (fa : FA) (a : Ov) (e : En) : aC1 fa (a, e) = aC2 a (fa e) := id rfl
theorem fetchs_nil (env : En) : fetchs env [] = some [] := id rfl
def fts2 (d : D) (o : Option (List D)) : Option (List D) := o.map fun ds => d :: ds
theorem fts2_eq (d : D) (ds : List D) : fts2 d (some ds) = some (d :: ds) := id rfl
def fts1 (env : En) (os : List Ov) (d : D) : Option (List D) := fts2 d (fetchs env os)
theorem fetchs_cons (env : En) (o : Ov) (os : List Ov) : fetchs env (o :: os) = (fetch env o).bind (fts1 env os) := id rfl
theorem fts1_eq (env : En) (os : List Ov) (d : D) : fts1 env os d = fts2 d (fetchs env os) := id rfl
def eA2 (g : List D → Option D) (env : En) (ds : List D) : Option (D × En) := pr env (g ds)
def eA1 (g : List D → Option D) (p : List Ov × En) : Option (D × En) := (fetchs p.2 p.1).bind (eA2 g p.2)
theorem eA_eq (g : List D → Option D) (fa : FA) (env : En) : eA g fa env = (fa env).bind (eA1 g) := id rfl
theorem eA1_eq (g : List D → Option D) (os : List Ov) (e : En) : eA1 g (os, e) = (fetchs e os).bind (eA2 g e) := id rfl
theorem eA2_eq (g : List D → Option D) (e : En) (ds : List D) : eA2 g e ds = pr e (g ds) := id rfl
theorem allD_nil : allD [] = some [] := id rfl
theorem allD_cons (d : D) (os : List Ov) : allD (.d d :: os) = fts2 d (allD os) := id rfl
def eD2 (c : List D → D) (env : En) (ds : List D) : Option (D × En) := if ds.length ≤ sizeLine then some (c ds, env) else none
def eD1 (c : List D → D) (p : List Ov × En) : Option (D × En) := (allD p.1).bind (eD2 c p.2)
theorem eDisp_eq (c : List D → D) (fa : FA) (env : En) : eDisp c fa env = (fa env).bind (eD1 c) := id rfl
theorem eD1_eq (c : List D → D) (os : List Ov) (e : En) : eD1 c (os, e) = (allD os).bind (eD2 c e) := id rfl
theorem eD2_eq (c : List D → D) (e : En) (ds : List D) (h : ds.length ≤ 1000) : eD2 c e ds = some (c ds, e) := if_pos (Nat.le_trans h (by decide))
theorem eD2_0 (c : List D → D) (e : En) : eD2 c e [] = some (c [], e) := eD2_eq c e _ (by simp)
theorem eD2_1 (c : List D → D) (e : En) (a : D) : eD2 c e [a] = some (c [a], e) := eD2_eq c e _ (by simp)
theorem eD2_2 (c : List D → D) (e : En) (a b : D) : eD2 c e [a, b] = some (c [a, b], e) := eD2_eq c e _ (by simp)
theorem eD2_3 (c : List D → D) (e : En) (a b d : D) : eD2 c e [a, b, d] = some (c [a, b, d], e) := eD2_eq c e _ (by simp)
theorem eD2_4 (c : List D → D) (e : En) (a b d f : D) : eD2 c e [a, b, d, f] = some (c [a, b, d, f], e) := eD2_eq c e _ (by simp)
theorem eD2_5 (c : List D → D) (e : En) (a b d f g : D) : eD2 c e [a, b, d, f, g] = some (c [a, b, d, f, g], e) := eD2_eq c e _ (by simp)
theorem eD2_6 (c : List D → D) (e : En) (a b d f g h : D) : eD2 c e [a, b, d, f, g, h] = some (c [a, b, d, f, g, h], e) := eD2_eq c e _ (by simp)
theorem pNo_eq (env : En) : pNo env = some (none, env) := id rfl
def pAt1 (p : D × En) : Option (Option Int × En) := match p.1 with
  | .int i => some (some i, p.2)
  | _ => none
theorem pAt_eq (f : FE) (env : En) : pAt f env = (f env).bind pAt1 := id rfl
theorem pAt1_eq (i : Int) (e : En) : pAt1 (.int i, e) = some (some i, e) := id rfl
def sl4 (g : D → Option Int → Option Int → Option D) (env : En) (lo hi : Option Int) (d : D) : Option (D × En) := pr env (g d lo hi)
def sl3 (g : D → Option Int → Option Int → Option D) (a : Ov) (lo : Option Int) (r : Option Int × En) : Option (D × En) := (fetch r.2 a).bind (sl4 g r.2 lo r.1)
def sl2 (g : D → Option Int → Option Int → Option D) (fh : FP) (a : Ov) (q : Option Int × En) : Option (D × En) := (fh q.2).bind (sl3 g a q.1)
def sl1 (g : D → Option Int → Option Int → Option D) (fl fh : FP) (p : Ov × En) : Option (D × En) := (fl p.2).bind (sl2 g fh p.1)
theorem eSl_eq (g : D → Option Int → Option Int → Option D) (fa : FO) (fl fh : FP) (env : En) : eSl g fa fl fh env = (fa env).bind (sl1 g fl fh) := by
  unfold eSl ev3
  cases fa env with
  | none => rfl
  | some p =>
    simp only [Option.bind_some, sl1]
    cases fl p.2 with
    | none => rfl
    | some q =>
      simp only [Option.bind_some, sl2]
      cases fh q.2 with
      | none => rfl
      | some r =>
        simp only [Option.bind_some, sl3]
        cases fetch r.2 p.1 <;> rfl
theorem sl1_eq (g : D → Option Int → Option Int → Option D) (fl fh : FP) (a : Ov) (e : En) : sl1 g fl fh (a, e) = (fl e).bind (sl2 g fh a) := id rfl
theorem sl2_eq (g : D → Option Int → Option Int → Option D) (fh : FP) (a : Ov) (lo : Option Int) (e : En) : sl2 g fh a (lo, e) = (fh e).bind (sl3 g a lo) := id rfl
theorem sl3_eq (g : D → Option Int → Option Int → Option D) (a : Ov) (lo hi : Option Int) (e : En) : sl3 g a lo (hi, e) = (fetch e a).bind (sl4 g e lo hi) := id rfl
theorem sl4_eq (g : D → Option Int → Option Int → Option D) (e : En) (lo hi : Option Int) (d : D) : sl4 g e lo hi d = pr e (g d lo hi) := id rfl
def and1 (fb : FE) (p : D × En) : Option (D × En) := match p.1 with
  | .bl true => fb p.2
  | .bl false => some (.bl false, p.2)
  | _ => none
theorem eAnd_eq (fa fb : FE) (env : En) : eAnd fa fb env = (fa env).bind (and1 fb) := id rfl
theorem and1_eq (fb : FE) (b : Bool) (e : En) : and1 fb (.bl b, e) = if b = true then fb e else some (.bl false, e) := by cases b <;> rfl
def or1 (fb : FE) (p : D × En) : Option (D × En) := match p.1 with
  | .bl true => some (.bl true, p.2)
  | .bl false => fb p.2
  | _ => none
theorem eOr_eq (fa fb : FE) (env : En) : eOr fa fb env = (fa env).bind (or1 fb) := id rfl
theorem or1_eq (fb : FE) (b : Bool) (e : En) : or1 fb (.bl b, e) = if b = true then some (.bl true, e) else fb e := by cases b <;> rfl
def not1 (p : D × En) : Option (D × En) := match p.1 with
  | .bl b => some (.bl (!b), p.2)
  | _ => none
theorem eNot_eq (fa : FE) (env : En) : eNot fa env = (fa env).bind not1 := id rfl
theorem not1_eq (b : Bool) (e : En) : not1 (.bl b, e) = some (.bl (!b), e) := id rfl
def if1 (fa fb : FE) (p : D × En) : Option (D × En) := match p.1 with
  | .bl true => fa p.2
  | .bl false => fb p.2
  | _ => none
theorem eIf_eq (ft fa fb : FE) (env : En) : eIf ft fa fb env = (ft env).bind (if1 fa fb) := id rfl
theorem if1_eq (fa fb : FE) (b : Bool) (e : En) : if1 fa fb (.bl b, e) = if b = true then fa e else fb e := by cases b <;> rfl
def neg1 (p : D × En) : Option (D × En) := match p.1 with
  | .int i => some (.int (-i), p.2)
  | _ => none
theorem eNeg_eq (fa : FE) (env : En) : eNeg fa env = (fa env).bind neg1 := id rfl
theorem neg1_eq (i : Int) (e : En) : neg1 (.int i, e) = some (.int (-i), e) := id rfl
def m4 (g : D → List D → Option D) (env : En) (d : D) (ds : List D) : Option (D × En) := pr env (g d ds)
def m3 (g : D → List D → Option D) (env : En) (os : List Ov) (d : D) : Option (D × En) := (fetchs env os).bind (m4 g env d)
def m2 (g : D → List D → Option D) (o : Ov) (q : List Ov × En) : Option (D × En) := (fetch q.2 o).bind (m3 g q.2 q.1)
def m1 (ty : D → Bool) (g : D → List D → Option D) (fa : FA) (o : Ov) (env : En) (d0 : D) : Option (D × En) := if ty d0 then (fa env).bind (m2 g o) else none
def m0 (ty : D → Bool) (g : D → List D → Option D) (fa : FA) (p : Ov × En) : Option (D × En) := (fetch p.2 p.1).bind (m1 ty g fa p.1 p.2)
theorem eM_eq (ty : D → Bool) (g : D → List D → Option D) (fo : FO) (fa : FA) (env : En) : eM ty g fo fa env = (fo env).bind (m0 ty g fa) := id rfl
theorem m0_eq (ty : D → Bool) (g : D → List D → Option D) (fa : FA) (o : Ov) (e : En) : m0 ty g fa (o, e) = (fetch e o).bind (m1 ty g fa o e) := id rfl
theorem m1_str (g : D → List D → Option D) (fa : FA) (o : Ov) (e : En) (x : List Nat) : m1 isStr g fa o e (.str x) = (fa e).bind (m2 g o) := id rfl
theorem m1_lst (g : D → List D → Option D) (fa : FA) (o : Ov) (e : En) (x : List D) : m1 isLst g fa o e (.lst x) = (fa e).bind (m2 g o) := id rfl
theorem m2_eq (g : D → List D → Option D) (o : Ov) (os : List Ov) (e : En) : m2 g o (os, e) = (fetch e o).bind (m3 g e os) := id rfl
theorem m3_eq (g : D → List D → Option D) (e : En) (os : List Ov) (d : D) : m3 g e os d = (fetchs e os).bind (m4 g e d) := id rfl
theorem m4_eq (g : D → List D → Option D) (e : En) (d : D) (ds : List D) : m4 g e d ds = pr e (g d ds) := id rfl
def mu4 (i : Nat) (k : Kd) (env : En) (o : Option (D × List D)) : Option (D × En) := o.map fun z => (z.1, env.set i (some (k, .lst z.2)))
theorem mu4_eq (i : Nat) (k : Kd) (env : En) (z : D) (ds : List D) : mu4 i k env (some (z, ds)) = some (z, env.set i (some (k, .lst ds))) := id rfl
def mu3 (i : Nat) (g : List D → List D → Option (D × List D)) (env : En) (as : List D) : Option (Option Sl) → Option (D × En)
  | some (some (.sh, _)) => none
  | some (some (k, .lst ds)) => mu4 i k env (g ds as)
  | _ => none
theorem mu3_ow (i : Nat) (g : List D → List D → Option (D × List D)) (env : En) (as ds : List D) : mu3 i g env as (some (some (.ow, .lst ds))) = mu4 i .ow env (g ds as) := id rfl
theorem mu3_pn (i : Nat) (g : List D → List D → Option (D × List D)) (env : En) (as ds : List D) : mu3 i g env as (some (some (.pn, .lst ds))) = mu4 i .pn env (g ds as) := id rfl
def mu2 (i : Nat) (g : List D → List D → Option (D × List D)) (env : En) (as : List D) : Option (D × En) := mu3 i g env as env[i]?
theorem mu2_eq (i : Nat) (g : List D → List D → Option (D × List D)) (env : En) (as : List D) : mu2 i g env as = mu3 i g env as env[i]? := id rfl
def mu1 (i : Nat) (g : List D → List D → Option (D × List D)) (p : List Ov × En) : Option (D × En) := (allD p.1).bind (mu2 i g p.2)
theorem mu1_eq (i : Nat) (g : List D → List D → Option (D × List D)) (os : List Ov) (e : En) : mu1 i g (os, e) = (allD os).bind (mu2 i g e) := id rfl
def mu0 (i : Nat) (g : List D → List D → Option (D × List D)) (fa : FA) (env : En) : Option (Option Sl) → Option (D × En)
  | some (some (_, .lst _)) => (fa env).bind (mu1 i g)
  | _ => none
theorem mu0_eq (i : Nat) (g : List D → List D → Option (D × List D)) (fa : FA) (env : En) (k : Kd) (ds : List D) : mu0 i g fa env (some (some (k, .lst ds))) = (fa env).bind (mu1 i g) := id rfl
theorem eMut_eq (i : Nat) (g : List D → List D → Option (D × List D)) (fa : FA) (env : En) : eMut i g fa env = mu0 i g fa env env[i]? := by
  unfold eMut mu0
  split
  · rename_i h
    try rw [h]
    try simp only
    cases fa env with
    | none => rfl
    | some p =>
      simp only [Option.bind_some, mu1]
      cases allD p.1 with
      | none => rfl
      | some as =>
        simp only [Option.bind_some, mu2, mu3]
        all_goals (split <;> rename_i h2 <;> simp_all [mu4])
  · rename_i h
    first
    | rfl
    | (split
       · rename_i h2
         exact absurd h2 (h _ _)
       · rfl)
theorem gApp_eq (ds : List D) (d : D) (h : ds.length < 1000000) : gApp ds [d] = some (.non, ds ++ [d]) := if_pos (Nat.lt_of_lt_of_le h (by decide))
def seq1 (G : FS) : Out → Option Out
  | .nx e => G e
  | o => some o
theorem sSeq_eq (F G : FS) (env : En) : sSeq F G env = (F env).bind (seq1 G) := by
  unfold sSeq
  cases F env with
  | none => rfl
  | some o => cases o <;> rfl
theorem seq1_nx (G : FS) (e : En) : seq1 G (.nx e) = G e := id rfl
theorem seq1_bk (G : FS) (e : En) : seq1 G (.bk e) = some (.bk e) := id rfl
theorem seq1_ct (G : FS) (e : En) : seq1 G (.ct e) = some (.ct e) := id rfl
theorem seq1_rt (G : FS) (b : Bool) (d : D) (e : En) : seq1 G (.rt b d e) = some (.rt b d e) := id rfl
theorem sNil_eq (env : En) : sNil env = some (.nx env) := id rfl
theorem sBk_eq (env : En) : sBk env = some (.bk env) := id rfl
theorem sCt_eq (env : En) : sCt env = some (.ct env) := id rfl
theorem sRetN_eq (env : En) : sRetN env = some (.rt false .non env) := id rfl
def se1 (o : Option (D × En)) : Option Out := o.map fun p => .nx p.2
theorem sE_eq (f : FE) (env : En) : sE f env = se1 (f env) := id rfl
theorem se1_eq (d : D) (e : En) : se1 (some (d, e)) = some (.nx e) := id rfl
def sret1 (b : Bool) (o : Option (D × En)) : Option Out := o.map fun p => .rt b p.1 p.2
theorem sRet_eq (f : FE) (env : En) : sRet f env = sret1 false (f env) := id rfl
theorem sRetF_eq (f : FE) (env : En) : sRetF f env = sret1 true (f env) := id rfl
theorem sret1_eq (b : Bool) (d : D) (e : En) : sret1 b (some (d, e)) = some (.rt b d e) := id rfl
def sRetOw1 (i : Nat) (env : En) : Option (Option Sl) → Option Out
  | some (some (.ow, d)) => some (.rt true d (env.set i none))
  | _ => none
theorem sRetOw_eq (i : Nat) (env : En) : sRetOw i env = sRetOw1 i env env[i]? := by
  unfold sRetOw sRetOw1
  all_goals (split <;> rename_i h <;> simp_all)
theorem sRetOw1_eq (i : Nat) (env : En) (d : D) : sRetOw1 i env (some (some (.ow, d))) = some (.rt true d (env.set i none)) := id rfl
def sif1 (F G : FS) (p : D × En) : Option Out := match p.1 with
  | .bl true => F p.2
  | .bl false => G p.2
  | _ => none
theorem sIf_eq (c : FE) (F G : FS) (env : En) : sIf c F G env = (c env).bind (sif1 F G) := id rfl
theorem sif1_eq (F G : FS) (b : Bool) (e : En) : sif1 F G (.bl b, e) = if b = true then F e else G e := by cases b <;> rfl
def sg2 (o : Option En) : Option Out := o.map Out.nx
theorem sg2_eq (e : En) : sg2 (some e) = some (.nx e) := id rfl
def sg1 (g : FG) (p : D × En) : Option Out := sg2 (g p.2 p.1)
theorem sG_eq (f : FE) (g : FG) (env : En) : sG f g env = (f env).bind (sg1 g) := id rfl
theorem sg1_eq (g : FG) (d : D) (e : En) : sg1 g (d, e) = sg2 (g e d) := id rfl
def okk : Option (Option Sl) → Bool
  | some (some (.pn, _)) => false
  | some _ => true
  | none => false
theorem okSet_eq (env : En) (i : Nat) : okSet env i = okk env[i]? := by
  unfold okSet okk
  all_goals (split <;> rename_i h <;> simp_all)
theorem okk_none : okk (some none) = true := id rfl
theorem okk_sh (d : D) : okk (some (some (.sh, d))) = true := id rfl
theorem okk_ow (d : D) : okk (some (some (.ow, d))) = true := id rfl
theorem gN_eq (i : Nat) (env : En) (d : D) : gN i env d = if okSet env i = true then some (env.set i (some (.sh, d))) else none := by
  unfold gN
  cases okSet env i <;> rfl
def ow1 (i : Nat) (p : D × En) : Option Out := if okSet p.2 i = true then some (.nx (p.2.set i (some (.ow, p.1)))) else none
theorem sOw_eq (i : Nat) (f : FE) (env : En) : sOw i f env = (f env).bind (ow1 i) := by
  unfold sOw
  cases f env with
  | none => rfl
  | some p =>
    simp only [Option.bind_some, ow1]
theorem ow1_eq (i : Nat) (d : D) (e : En) : ow1 i (d, e) = if okSet e i = true then some (.nx (e.set i (some (.ow, d)))) else none := id rfl
def fz1 (i : Nat) (F : FS) (env : En) : Option (Option Sl) → Option Out
  | some (some (.ow, d)) => F (env.set i (some (.sh, d)))
  | _ => F env
theorem sFz_eq (i : Nat) (F : FS) (env : En) : sFz i F env = fz1 i F env env[i]? := by
  unfold sFz fz1
  all_goals (split <;> rename_i h <;> simp_all)
theorem fz1_ow (i : Nat) (F : FS) (env : En) (d : D) : fz1 i F env (some (some (.ow, d))) = F (env.set i (some (.sh, d))) := id rfl
theorem fz1_sh (i : Nat) (F : FS) (env : En) (d : D) : fz1 i F env (some (some (.sh, d))) = F env := id rfl
theorem fz1_pn (i : Nat) (F : FS) (env : En) (d : D) : fz1 i F env (some (some (.pn, d))) = F env := id rfl
theorem fz1_no (i : Nat) (F : FS) (env : En) : fz1 i F env (some none) = F env := id rfl
def stl3 (i : Nat) (k : Kd) (env : En) (ds : List D) (v : D) (o : Option Nat) : Option Out := o.map fun j => .nx (env.set i (some (k, .lst (ds.set j v))))
theorem stl3_eq (i : Nat) (k : Kd) (env : En) (ds : List D) (v : D) (j : Nat) : stl3 i k env ds v (some j) = some (.nx (env.set i (some (k, .lst (ds.set j v))))) := id rfl
def stl2 (i : Nat) (v : D) (env : En) (n : Int) : Option (Option Sl) → Option Out
  | some (some (.sh, _)) => none
  | some (some (k, .lst ds)) => stl3 i k env ds v (ixN ds.length n)
  | _ => none
theorem stl2_ow (i : Nat) (v : D) (env : En) (n : Int) (ds : List D) : stl2 i v env n (some (some (.ow, .lst ds))) = stl3 i .ow env ds v (ixN ds.length n) := id rfl
theorem stl2_pn (i : Nat) (v : D) (env : En) (n : Int) (ds : List D) : stl2 i v env n (some (some (.pn, .lst ds))) = stl3 i .pn env ds v (ixN ds.length n) := id rfl
def stl1 (i : Nat) (v : D) (q : D × En) : Option Out := match q.1 with
  | .int n => stl2 i v q.2 n q.2[i]?
  | _ => none
theorem stl1_eq (i : Nat) (v : D) (n : Int) (e : En) : stl1 i v (.int n, e) = stl2 i v e n e[i]? := id rfl
def stl0 (i : Nat) (fi : FE) (p : D × En) : Option Out := (oS i p.2).bind fun _ => (fi p.2).bind (stl1 i p.1)
theorem stl0_eq (i : Nat) (fi : FE) (v : D) (e : En) (o : Ov × En) (h : oS i e = some o) : stl0 i fi (v, e) = (fi e).bind (stl1 i v) := by
  unfold stl0
  rw [h]
  rfl
theorem sSetL_eq (i : Nat) (fi fv : FE) (env : En) : sSetL i fi fv env = (fv env).bind (stl0 i fi) := by
  unfold sSetL
  cases fv env with
  | none => rfl
  | some p =>
    simp only [Option.bind_some, stl0]
    cases oS i p.2 with
    | none => rfl
    | some o =>
      simp only [Option.bind_some]
      cases fi p.2 with
      | none => rfl
      | some q =>
        simp only [Option.bind_some, stl1]
        cases q.1 <;> try rfl
        simp only [stl2, stl3]
        split
        · rename_i k ds h
          cases k <;> simp_all [stl2, stl3]
        · rename_i h
          split
          · rfl
          · rename_i h2
            exact absurd h2 (h _ _)
          · rfl
def sfor1 (pt : FG) (body : FS) (p : List D × Bs × En) : Option Out := forL p.2.1 pt body p.1 p.2.2
theorem sFor_eq (src : FI) (pt : FG) (body : FS) (env : En) : sFor src pt body env = (src env).bind (sfor1 pt body) := id rfl
theorem sfor1_eq (pt : FG) (body : FS) (items : List D) (bs : Bs) (e : En) : sfor1 pt body (items, bs, e) = forL bs pt body items e := id rfl
theorem sWhile_eq (n : Nat) (c : FE) (body : FS) (env : En) : sWhile n c body env = whL c body n env := id rfl
def il2 (o : Ov) (env : En) : Option D → Option (List D × Bs × En)
  | some (.lst ds) => some (ds, bOf o (.lst ds), env)
  | _ => none
def il1 (p : Ov × En) : Option (List D × Bs × En) := il2 p.1 p.2 (fetch p.2 p.1)
theorem iL_eq (fo : FO) (env : En) : iL fo env = (fo env).bind il1 := by
  unfold iL
  cases fo env with
  | none => rfl
  | some p =>
    simp only [Option.bind_some, il1, il2]
    all_goals (split <;> rename_i h <;> simp_all)
theorem il1_eq (o : Ov) (e : En) : il1 (o, e) = il2 o e (fetch e o) := id rfl
theorem il2_eq (o : Ov) (e : En) (ds : List D) : il2 o e (some (.lst ds)) = some (ds, bOf o (.lst ds), e) := id rfl
theorem bOf_d (d e : D) : bOf (.d d) e = [] := id rfl
theorem bOf_s (i : Nat) (e : D) : bOf (.s i) e = [(i, e)] := id rfl
def ir1 (p : D × En) : Option (List D × Bs × En) := match p.1 with
  | .int n => if -1000000000 ≤ n ∧ n < 1000000000 then some (rng 0 n.toNat, [], p.2) else none
  | _ => none
theorem iR1_eq (fa : FE) (env : En) : iR1 fa env = (fa env).bind ir1 := id rfl
theorem ir1_eq (n : Int) (e : En) : ir1 (.int n, e) = if -1000000000 ≤ n ∧ n < 1000000000 then some (rng 0 n.toNat, [], e) else none := id rfl
theorem forL_nil (pt : FG) (body : FS) (env : En) : forL [] pt body [] env = some (.nx env) := id rfl
def for1 (bs : Bs) (pt : FG) (body : FS) (ds : List D) : Out → Option Out
  | .nx e => forL bs pt body ds e
  | .ct e => forL bs pt body ds e
  | .bk e => some (.nx e)
  | .rt b z e => some (.rt b z e)
def for0 (bs : Bs) (pt : FG) (body : FS) (ds : List D) (e : En) : Option Out := (body e).bind (for1 bs pt body ds)
theorem forL_cons (pt : FG) (body : FS) (d : D) (ds : List D) (env : En) : forL [] pt body (d :: ds) env = (pt env d).bind (for0 [] pt body ds) := by
  rw [forL]
  simp only [chkB, List.all_nil, if_true]
  cases pt env d with
  | none => rfl
  | some e =>
    simp only [Option.bind_some, for0]
    cases body e with
    | none => rfl
    | some o => cases o <;> rfl
theorem for0_eq (bs : Bs) (pt : FG) (body : FS) (ds : List D) (e : En) : for0 bs pt body ds e = (body e).bind (for1 bs pt body ds) := id rfl
theorem for1_nx (bs : Bs) (pt : FG) (body : FS) (ds : List D) (e : En) : for1 bs pt body ds (.nx e) = forL bs pt body ds e := id rfl
theorem for1_ct (bs : Bs) (pt : FG) (body : FS) (ds : List D) (e : En) : for1 bs pt body ds (.ct e) = forL bs pt body ds e := id rfl
theorem for1_bk (bs : Bs) (pt : FG) (body : FS) (ds : List D) (e : En) : for1 bs pt body ds (.bk e) = some (.nx e) := id rfl
theorem for1_rt (bs : Bs) (pt : FG) (body : FS) (ds : List D) (b : Bool) (z : D) (e : En) : for1 bs pt body ds (.rt b z e) = some (.rt b z e) := id rfl
def wh2 (c : FE) (body : FS) (n : Nat) : Out → Option Out
  | .nx e => whL c body n e
  | .ct e => whL c body n e
  | .bk e => some (.nx e)
  | .rt b z e => some (.rt b z e)
def wh1 (c : FE) (body : FS) (n : Nat) (p : D × En) : Option Out := match p.1 with
  | .bl false => some (.nx p.2)
  | .bl true => (body p.2).bind (wh2 c body n)
  | _ => none
theorem whL_succ (c : FE) (body : FS) (n : Nat) (env : En) : whL c body (n + 1) env = (c env).bind (wh1 c body n) := by
  rw [whL]
  cases c env with
  | none => rfl
  | some p =>
    obtain ⟨d, e⟩ := p
    simp only [Option.bind_some, wh1]
    cases d <;> rfl
theorem wh1_eq (c : FE) (body : FS) (n : Nat) (b : Bool) (e : En) : wh1 c body n (.bl b, e) = if b = true then (body e).bind (wh2 c body n) else some (.nx e) := by cases b <;> rfl
theorem wh2_nx (c : FE) (body : FS) (n : Nat) (e : En) : wh2 c body n (.nx e) = whL c body n e := id rfl
theorem wh2_ct (c : FE) (body : FS) (n : Nat) (e : En) : wh2 c body n (.ct e) = whL c body n e := id rfl
theorem wh2_bk (c : FE) (body : FS) (n : Nat) (e : En) : wh2 c body n (.bk e) = some (.nx e) := id rfl
theorem wh2_rt (c : FE) (body : FS) (n : Nat) (b : Bool) (z : D) (e : En) : wh2 c body n (.rt b z e) = some (.rt b z e) := id rfl
def fn1 (ks : List Kd) : Option Out → Option Res
  | some (.rt own d e) => (outsOf ks e).map fun o => .ok own d o
  | some (.nx e) => (outsOf ks e).map fun o => .ok false .non o
  | _ => none
theorem fnF_eq (ks : List Kd) (n : Nat) (F : FS) (ds : List D) (h : ds.length = ks.length) : fnF ks n F ds = fn1 ks (F (mkEn ks ds ++ List.replicate n none)) := by
  unfold fnF fn1
  rw [if_pos h]
  all_goals (split <;> rename_i h2 <;> simp_all)
theorem fn1_rt (ks : List Kd) (own : Bool) (d : D) (e : En) : fn1 ks (some (.rt own d e)) = (outsOf ks e).map fun o => .ok own d o := id rfl
theorem fn1_nx (ks : List Kd) (e : En) : fn1 ks (some (.nx e)) = (outsOf ks e).map fun o => .ok false .non o := id rfl
def cv3 (env : En) : Option Res → Option (Bool × D × En)
  | some (.ok own d _) => some (own, d, env)
  | none => none
def cv2 (ks : List Kd) (g : FN) (env : En) (ds : List D) : Option (Bool × D × En) := if allSh ks = true ∧ ds.length = ks.length then cv3 env (g ds) else none
def cv1 (ks : List Kd) (g : FN) (p : List Ov × En) : Option (Bool × D × En) := (allD p.1).bind (cv2 ks g p.2)
def cvE (o : Option (Bool × D × En)) : Option (D × En) := o.map fun r => (r.2.1, r.2.2)
def cvF : Option (Bool × D × En) → Option (D × En)
  | some (true, d, e) => some (d, e)
  | _ => none
theorem exV_eq (ks : List Kd) (g : FN) (fa : FA) (env : En) : exV ks g fa env = (fa env).bind (cv1 ks g) := by
  unfold exV
  cases fa env with
  | none => rfl
  | some p =>
    simp only [Option.bind_some, cv1]
    cases allD p.1 with
    | none => rfl
    | some ds =>
      simp only [Option.bind_some, cv2]
      split
      · cases g ds with
        | none => rfl
        | some r => cases r; rfl
      · rfl
theorem eCall_eq (ks : List Kd) (g : FN) (fa : FA) (env : En) : eCall ks g fa env = cvE ((fa env).bind (cv1 ks g)) := by
  unfold eCall
  rw [exV_eq]
  rfl
theorem eCallF_eq (ks : List Kd) (g : FN) (fa : FA) (env : En) : eCallF ks g fa env = cvF ((fa env).bind (cv1 ks g)) := by
  unfold eCallF
  rw [exV_eq]
  cases (fa env).bind (cv1 ks g) with
  | none => rfl
  | some r =>
    obtain ⟨o, d, e⟩ := r
    cases o <;> rfl
theorem cv1_eq (ks : List Kd) (g : FN) (os : List Ov) (e : En) : cv1 ks g (os, e) = (allD os).bind (cv2 ks g e) := id rfl
theorem cv2_eq (ks : List Kd) (g : FN) (e : En) (ds : List D) (h : allSh ks = true) (h2 : ds.length = ks.length) : cv2 ks g e ds = cv3 e (g ds) := if_pos ⟨h, h2⟩
theorem cv2_1 (g : FN) (e : En) (a : D) : cv2 [.sh] g e [a] = cv3 e (g [a]) := id rfl
theorem cv2_2 (g : FN) (e : En) (a b : D) : cv2 [.sh, .sh] g e [a, b] = cv3 e (g [a, b]) := id rfl
theorem cv2_3 (g : FN) (e : En) (a b c : D) : cv2 [.sh, .sh, .sh] g e [a, b, c] = cv3 e (g [a, b, c]) := id rfl
theorem cv3_eq (e : En) (own : Bool) (d : D) (o : List D) : cv3 e (some (.ok own d o)) = some (own, d, e) := id rfl
theorem cvE_eq (own : Bool) (d : D) (e : En) : cvE (some (own, d, e)) = some (d, e) := id rfl
theorem cvF_eq (d : D) (e : En) : cvF (some (true, d, e)) = some (d, e) := id rfl
def cb2 (env : En) : Option Res → Option (D × En)
  | some (.ok false d _) => if flat d = true then some (d, env) else none
  | _ => none
def cb1 (ks : List Kd) (g : FN) (env : En) (ds : List D) : Option (D × En) := if allSh ks = true ∧ ds.length = ks.length then cb2 env (g ds) else none
def cb0 (ks : List Kd) (g : FN) (p : List Ov × En) : Option (D × En) := (fetchs p.2 p.1).bind (cb1 ks g p.2)
theorem eCallB_eq (ks : List Kd) (g : FN) (fa : FA) (env : En) : eCallB ks g fa env = (fa env).bind (cb0 ks g) := by
  unfold eCallB
  cases fa env with
  | none => rfl
  | some p =>
    simp only [Option.bind_some, cb0]
    cases fetchs p.2 p.1 with
    | none => rfl
    | some ds =>
      simp only [Option.bind_some, cb1]
      split
      · simp only [cb2]
        all_goals (split <;> rename_i h <;> simp_all)
      · rfl
theorem cb0_eq (ks : List Kd) (g : FN) (os : List Ov) (e : En) : cb0 ks g (os, e) = (fetchs e os).bind (cb1 ks g e) := id rfl
theorem cb1_1 (g : FN) (e : En) (a : D) : cb1 [.sh] g e [a] = cb2 e (g [a]) := id rfl
theorem cb1_2 (g : FN) (e : En) (a b : D) : cb1 [.sh, .sh] g e [a, b] = cb2 e (g [a, b]) := id rfl
theorem cb1_3 (g : FN) (e : En) (a b c : D) : cb1 [.sh, .sh, .sh] g e [a, b, c] = cb2 e (g [a, b, c]) := id rfl
theorem cb2_bl (e : En) (b : Bool) (o : List D) : cb2 e (some (.ok false (.bl b) o)) = some (.bl b, e) := id rfl
theorem cb2_int (e : En) (b : Int) (o : List D) : cb2 e (some (.ok false (.int b) o)) = some (.int b, e) := id rfl
theorem cb2_str (e : En) (b : List Nat) (o : List D) : cb2 e (some (.ok false (.str b) o)) = some (.str b, e) := id rfl
def cp4 (i : Nat) (k : Kd) (env : En) : Option Res → Option (Bool × D × En)
  | some (.ok own d (d1 :: _)) => some (own, d, env.set i (some (k, d1)))
  | _ => none
def cp3 (i : Nat) (ks : List Kd) (g : FN) (env : En) (ds : List D) : Option (Option Sl) → Option (Bool × D × En)
  | some (some (k, d0)) => if k ≠ .sh ∧ allSh ks = true ∧ ds.length = ks.length then cp4 i k env (g (d0 :: ds)) else none
  | _ => none
def cp2 (i : Nat) (ks : List Kd) (g : FN) (env : En) (ds : List D) : Option (Bool × D × En) := cp3 i ks g env ds env[i]?
def cp1 (i : Nat) (ks : List Kd) (g : FN) (p : List Ov × En) : Option (Bool × D × En) := (allD p.1).bind (cp2 i ks g p.2)
def cp0 (i : Nat) (ks : List Kd) (g : FN) (fa : FA) (env : En) : Option (Option Sl) → Option (Bool × D × En)
  | some (some _) => (fa env).bind (cp1 i ks g)
  | _ => none
theorem exP_eq (i : Nat) (ks : List Kd) (g : FN) (fa : FA) (env : En) : exP i ks g fa env = cp0 i ks g fa env env[i]? := by
  unfold exP
  rw [oS_eq]
  unfold oS_k cp0
  split
  · rename_i h
    simp only [Option.bind_some]
    cases fa env with
    | none => rfl
    | some p =>
      simp only [Option.bind_some, cp1]
      cases allD p.1 with
      | none => rfl
      | some ds =>
        simp only [Option.bind_some, cp2, cp3]
        all_goals (split <;> rename_i h2 <;> simp_all)
        split
        · simp only [cp4]
          all_goals (split <;> rename_i h3 <;> simp_all)
        · rfl
  · rfl
theorem eCallP_eq (i : Nat) (ks : List Kd) (g : FN) (fa : FA) (env : En) : eCallP i ks g fa env = cvE (cp0 i ks g fa env env[i]?) := by
  unfold eCallP
  rw [exP_eq]
  rfl
theorem eCallPF_eq (i : Nat) (ks : List Kd) (g : FN) (fa : FA) (env : En) : eCallPF i ks g fa env = cvF (cp0 i ks g fa env env[i]?) := by
  unfold eCallPF
  rw [exP_eq]
  cases cp0 i ks g fa env env[i]? with
  | none => rfl
  | some r =>
    obtain ⟨o, d, e⟩ := r
    cases o <;> rfl
theorem cp0_eq (i : Nat) (ks : List Kd) (g : FN) (fa : FA) (env : En) (s : Sl) : cp0 i ks g fa env (some (some s)) = (fa env).bind (cp1 i ks g) := id rfl
theorem cp1_eq (i : Nat) (ks : List Kd) (g : FN) (os : List Ov) (e : En) : cp1 i ks g (os, e) = (allD os).bind (cp2 i ks g e) := id rfl
theorem cp2_eq (i : Nat) (ks : List Kd) (g : FN) (e : En) (ds : List D) : cp2 i ks g e ds = cp3 i ks g e ds e[i]? := id rfl
theorem cp3_0 (i : Nat) (g : FN) (e : En) (k : Kd) (d0 : D) (h : k ≠ .sh) : cp3 i [] g e [] (some (some (k, d0))) = cp4 i k e (g [d0]) := if_pos ⟨h, rfl, rfl⟩
theorem cp3_ow0 (i : Nat) (g : FN) (e : En) (d0 : D) : cp3 i [] g e [] (some (some (.ow, d0))) = cp4 i .ow e (g [d0]) := id rfl
theorem cp3_ow1 (i : Nat) (g : FN) (e : En) (d0 a : D) : cp3 i [.sh] g e [a] (some (some (.ow, d0))) = cp4 i .ow e (g [d0, a]) := id rfl
theorem cp3_ow2 (i : Nat) (g : FN) (e : En) (d0 a b : D) : cp3 i [.sh, .sh] g e [a, b] (some (some (.ow, d0))) = cp4 i .ow e (g [d0, a, b]) := id rfl
theorem cp3_pn0 (i : Nat) (g : FN) (e : En) (d0 : D) : cp3 i [] g e [] (some (some (.pn, d0))) = cp4 i .pn e (g [d0]) := id rfl
theorem cp3_pn1 (i : Nat) (g : FN) (e : En) (d0 a : D) : cp3 i [.sh] g e [a] (some (some (.pn, d0))) = cp4 i .pn e (g [d0, a]) := id rfl
theorem cp3_pn2 (i : Nat) (g : FN) (e : En) (d0 a b : D) : cp3 i [.sh, .sh] g e [a, b] (some (some (.pn, d0))) = cp4 i .pn e (g [d0, a, b]) := id rfl
theorem cp4_eq (i : Nat) (k : Kd) (e : En) (own : Bool) (d d1 : D) (o : List D) : cp4 i k e (some (.ok own d (d1 :: o))) = some (own, d, e.set i (some (k, d1))) := id rfl
def lc2 (vs : List Nat) (e1 : En) (o : Option (List D × En)) : Option (D × En) := o.map fun r => (.lst r.1, rest e1 r.2 vs)
theorem lc2_eq (vs : List Nat) (e1 : En) (ds : List D) (e : En) : lc2 vs e1 (some (ds, e)) = some (.lst ds, rest e1 e vs) := id rfl
def lc1 (vs : List Nat) (pt : FG) (c f : FE) (p : List D × Bs × En) : Option (D × En) := if nonOw p.2.2 vs = true ∧ p.2.1.all (fun b => decide (b.1 ∉ vs)) = true then lc2 vs p.2.2 (lcL p.2.1 vs pt c f p.1 (wipeE p.2.2 vs) []) else none
theorem eLc_eq (src : FI) (vs : List Nat) (pt : FG) (c f : FE) (env : En) : eLc src vs pt c f env = (src env).bind (lc1 vs pt c f) := by
  unfold eLc
  cases src env with
  | none => rfl
  | some p =>
    simp only [Option.bind_some, lc1, Bool.and_eq_true]
    rfl
theorem lc1_eq (vs : List Nat) (pt : FG) (c f : FE) (items : List D) (bs : Bs) (e : En) (h : nonOw e vs = true) (h2 : bs.all (fun b => decide (b.1 ∉ vs)) = true) : lc1 vs pt c f (items, bs, e) = lc2 vs e (lcL bs vs pt c f items (wipeE e vs) []) := if_pos ⟨h, h2⟩
def dc2 (vs : List Nat) (e1 : En) (o : Option (List (Ky × D) × En)) : Option (D × En) := o.map fun r => (.dic r.1, rest e1 r.2 vs)
theorem dc2_eq (vs : List Nat) (e1 : En) (ds : List (Ky × D)) (e : En) : dc2 vs e1 (some (ds, e)) = some (.dic ds, rest e1 e vs) := id rfl
def dc1 (vs : List Nat) (pt : FG) (c fk fv : FE) (p : List D × Bs × En) : Option (D × En) := if nonOw p.2.2 vs = true ∧ p.2.1.all (fun b => decide (b.1 ∉ vs)) = true then dc2 vs p.2.2 (dcL p.2.1 vs pt c fk fv p.1 (wipeE p.2.2 vs) []) else none
theorem eDc_eq (src : FI) (vs : List Nat) (pt : FG) (c fk fv : FE) (env : En) : eDc src vs pt c fk fv env = (src env).bind (dc1 vs pt c fk fv) := by
  unfold eDc
  cases src env with
  | none => rfl
  | some p =>
    simp only [Option.bind_some, dc1, Bool.and_eq_true]
    rfl
theorem dc1_eq (vs : List Nat) (pt : FG) (c fk fv : FE) (items : List D) (bs : Bs) (e : En) (h : nonOw e vs = true) (h2 : bs.all (fun b => decide (b.1 ∉ vs)) = true) : dc1 vs pt c fk fv (items, bs, e) = dc2 vs e (dcL bs vs pt c fk fv items (wipeE e vs) []) := if_pos ⟨h, h2⟩
end Qd
namespace Qd
open PySem PySem.Spec L2
theorem bnd_some {α β : Type} (a : α) (f : α → Option β) : (some a).bind f = f a := id rfl
theorem mp_some {α β : Type} (a : α) (f : α → β) : (some a).map f = some (f a) := id rfl
theorem gt0 {α : Type} (a : α) (l : List α) : (a :: l)[0]? = some a := id rfl
theorem gtS {α : Type} (a : α) (l : List α) (n : Nat) : (a :: l)[n + 1]? = l[n]? := id rfl
theorem st0 {α : Type} (a b : α) (l : List α) : (a :: l).set 0 b = b :: l := id rfl
theorem stS {α : Type} (a b : α) (l : List α) (n : Nat) : (a :: l).set (n + 1) b = a :: l.set n b := id rfl
theorem gd_some {α : Type} (a b : α) : (some a).getD b = a := id rfl
theorem gd_none {α : Type} (b : α) : (none : Option α).getD b = b := id rfl
theorem wipe0 (e : En) : wipeE e [] = e := id rfl
theorem wipe1 (e : En) (v : Nat) (vs : List Nat) : wipeE e (v :: vs) = (wipeE e vs).set v none := id rfl
theorem rest0 (e f : En) : Qd.rest e f [] = f := id rfl
theorem rest1 (e f : En) (v : Nat) (vs : List Nat) : Qd.rest e f (v :: vs) = (Qd.rest e f vs).set v (e[v]?.getD none) := id rfl
theorem atI_of {α : Type} {ds : List α} {n : Nat} {d : α} (h : ds[n]? = some d) : atI ds (n : Int) = some d := by
  have hl : n < ds.length := (List.getElem?_eq_some_iff.mp h).1
  unfold atI ixN
  rw [if_pos (by omega), if_pos (by omega)]
  simpa using h
theorem ixD_l {ds : List D} {n : Nat} {d : D} (h : ds[n]? = some d) : ixD (.lst ds) (.int (n : Int)) = some d := atI_of h
theorem ixD_t {ds : List D} {n : Nat} {d : D} (h : ds[n]? = some d) : ixD (.tup ds) (.int (n : Int)) = some d := atI_of h
theorem ix0 (a : D) (r : List D) : ixD (.lst (a :: r)) (.int 0) = some a := ixD_l (n := 0) rfl
theorem ix1 (a b : D) (r : List D) : ixD (.lst (a :: b :: r)) (.int 1) = some b := ixD_l (n := 1) rfl
theorem ix2 (a b c : D) (r : List D) : ixD (.lst (a :: b :: c :: r)) (.int 2) = some c := ixD_l (n := 2) rfl
theorem ix3 (a b c d : D) (r : List D) : ixD (.lst (a :: b :: c :: d :: r)) (.int 3) = some d := ixD_l (n := 3) rfl
theorem ix4 (a b c d e : D) (r : List D) : ixD (.lst (a :: b :: c :: d :: e :: r)) (.int 4) = some e := ixD_l (n := 4) rfl
theorem ixT0 (a : D) (r : List D) : ixD (.tup (a :: r)) (.int 0) = some a := ixD_t (n := 0) rfl
theorem ixT1 (a b : D) (r : List D) : ixD (.tup (a :: b :: r)) (.int 1) = some b := ixD_t (n := 1) rfl
theorem ixT2 (a b c : D) (r : List D) : ixD (.tup (a :: b :: c :: r)) (.int 2) = some c := ixD_t (n := 2) rfl
theorem ixN_of {n k : Nat} (h : k < n) : ixN n (k : Int) = some k := by
  unfold ixN
  rw [if_pos (by omega), if_pos (by omega)]
  simp
def stk (i : Nat) (fi : FE) (v : D) (e : En) (_ : Ov × En) : Option Out := (fi e).bind (stl1 i v)
theorem stl0_eq2 (i : Nat) (fi : FE) (v : D) (e : En) : stl0 i fi (v, e) = (oS i e).bind (stk i fi v e) := id rfl
theorem stk_eq (i : Nat) (fi : FE) (v : D) (e : En) (o : Ov × En) : stk i fi v e o = (fi e).bind (stl1 i v) := id rfl
theorem ixN50 : ixN 5 0 = some 0 := id rfl
theorem ixN51 : ixN 5 1 = some 1 := id rfl
theorem ixN52 : ixN 5 2 = some 2 := id rfl
theorem ixN53 : ixN 5 3 = some 3 := id rfl
theorem ixN54 : ixN 5 4 = some 4 := id rfl
theorem addD_i (i j : Int) : addD (.int i) (.int j) = some (.int (i + j)) := id rfl
theorem addD_s (a b : List Nat) (h : a.length + b.length ≤ 1000000) : addD (.str a) (.str b) = some (.str (a ++ b)) := if_pos (Nat.le_trans h (by decide))
theorem subD_i (i j : Int) : subD (.int i) (.int j) = some (.int (i - j)) := id rfl
theorem mulD_r (i j : Int) (h : -18446744073709551616 < j ∧ j < 18446744073709551616) : mulD (.int i) (.int j) = some (.int (i * j)) := if_pos (.inr h)
theorem mulD_l (i j : Int) (h : -18446744073709551616 < i ∧ i < 18446744073709551616) : mulD (.int i) (.int j) = some (.int (i * j)) := if_pos (.inl h)
theorem modD_i (i j : Int) (h : 0 < j) : modD (.int i) (.int j) = some (.int (i % j)) := if_pos h
theorem fdivD_i (i j : Int) (h : 0 < j ∧ j < 1073741824) : fdivD (.int i) (.int j) = some (.int (i / j)) := if_pos h
theorem ltD_i (i j : Int) : ltD (.int i) (.int j) = some (.bl (decide (i < j))) := id rfl
theorem ltD_s (i j : List Nat) : ltD (.str i) (.str j) = some (.bl (decide (i < j))) := id rfl
theorem leD_i (i j : Int) : leD (.int i) (.int j) = some (.bl (decide (i ≤ j))) := id rfl
theorem gtD_i (i j : Int) : gtD (.int i) (.int j) = some (.bl (decide (j < i))) := id rfl
theorem gtD_s (i j : List Nat) : gtD (.str i) (.str j) = some (.bl (decide (j < i))) := id rfl
theorem geD_i (i j : Int) : geD (.int i) (.int j) = some (.bl (decide (j ≤ i))) := id rfl
theorem powD_18 : powD (.int 10) (.int 18) = some (.int 1000000000000000000) := by
  show (if (0:Int) ≤ 18 ∧ (18:Int) ≤ 1000000 ∧ Int.natAbs 10 < 2 ^ 64 then some (D.int (10 ^ Int.toNat 18)) else none) = _
  rw [if_pos (by decide)]
  rfl
theorem lenD_l (ds : List D) : lenD [.lst ds] = some (.int ds.length) := id rfl
theorem lenD_t (ds : List D) : lenD [.tup ds] = some (.int ds.length) := id rfl
theorem lenD_d (ds : List (Ky × D)) : lenD [.dic ds] = some (.int ds.length) := id rfl
theorem lenD_s (x : List Nat) (h : x.length ≤ 1000000) : lenD [.str x] = some (.int x.length) := if_pos (Nat.le_trans h (by decide))
theorem eqD_s (a b : List Nat) : eqD (.str a) (.str b) = some (.bl (decide (a = b))) := id rfl
theorem neD_s (a b : List Nat) : neD (.str a) (.str b) = some (.bl (!decide (a = b))) := id rfl
theorem eqD_of {d e : D} (h : shp d = true) (h2 : shp e = true) : eqD d e = some (.bl (eqB d e)) := by
  unfold eqD
  split
  · rename_i a b
    simp only [Option.some.injEq, D.bl.injEq]
    unfold eqB
    simp only [toPy, PyData.eqv]
    by_cases hab : a = b
    · subst hab
      simp
    · rw [decide_eq_false hab]
      symm
      rw [beq_eq_false_iff_ne]
      exact fun z => hab (S_inj z)
  · rw [if_pos (by simp [h, h2])]
theorem shp_i (i : Int) : shp (.int i) = true := by
  unfold shp SeqAt.shaped
  simp [toPy, PyData.canLay0, PyData.depth]
theorem eqD_i (i j : Int) : eqD (.int i) (.int j) = some (.bl (decide (i = j))) := by
  rw [eqD_of (shp_i i) (shp_i j)]
  unfold eqB
  simp only [toPy, PyData.eqv]
  by_cases h : i = j
  · subst h
    simp
  · rw [decide_eq_false h]
    simp [h]
theorem neD_of {d e : D} {b : Bool} (h : eqD d e = some (.bl b)) : neD d e = some (.bl (!b)) := by
  unfold neD
  rw [h]
  rfl
theorem neD_i (i j : Int) : neD (.int i) (.int j) = some (.bl (!decide (i = j))) := neD_of (eqD_i i j)
/-- texts of signs that Python has -/
def okS (x : List Nat) : Bool := PyData.strOk (S x)
theorem canLayAll_str : ∀ (xs : List (List Nat)), (∀ x ∈ xs, okS x = true) → PyData.canLayAll0 (toPys (xs.map D.str)) = true
  | [], _ => rfl
  | x :: xs, h => by
    simp only [List.map_cons, toPys, toPy, PyData.canLayAll0, PyData.canLay0, Bool.and_eq_true]
    exact ⟨h x (by simp), canLayAll_str xs fun y hy => h y (by simp [hy])⟩
theorem depthAll_str : ∀ (xs : List (List Nat)), PyData.depthAll (toPys (xs.map D.str)) = 0
  | [] => rfl
  | x :: xs => by
    simp only [List.map_cons, toPys, toPy, PyData.depthAll, PyData.depth, depthAll_str xs]
    rfl
theorem shp_ls (xs : List (List Nat)) (h : ∀ x ∈ xs, okS x = true) : shp (.lst (xs.map D.str)) = true := by
  unfold shp SeqAt.shaped
  simp only [toPy, PyData.canLay0, PyData.depth, canLayAll_str xs h, depthAll_str]
  rfl
theorem eqvAll_str : ∀ (xs ys : List (List Nat)), PyData.eqvAll (toPys (xs.map D.str)) (toPys (ys.map D.str)) = decide (xs = ys)
  | [], [] => rfl
  | [], _ :: _ => by simp [toPys, PyData.eqvAll]
  | _ :: _, [] => by simp [toPys, PyData.eqvAll]
  | x :: xs, y :: ys => by
    simp only [List.map_cons, toPys, toPy, PyData.eqvAll, PyData.eqv, eqvAll_str xs ys]
    by_cases h : x = y
    · subst h
      simp
    · have e : (S x == S y) = false := by
        rw [beq_eq_false_iff_ne]
        exact fun z => h (S_inj z)
      rw [e]
      simp [h]
theorem eqD_ls (xs ys : List (List Nat)) (h : ∀ x ∈ xs, okS x = true) (h2 : ∀ x ∈ ys, okS x = true) : eqD (.lst (xs.map D.str)) (.lst (ys.map D.str)) = some (.bl (decide (xs = ys))) := by
  rw [eqD_of (shp_ls xs h) (shp_ls ys h2)]
  unfold eqB
  simp only [toPy, PyData.eqv, eqvAll_str]
theorem neD_ls (xs ys : List (List Nat)) (h : ∀ x ∈ xs, okS x = true) (h2 : ∀ x ∈ ys, okS x = true) : neD (.lst (xs.map D.str)) (.lst (ys.map D.str)) = some (.bl (!decide (xs = ys))) := neD_of (eqD_ls xs ys h h2)
end Qd
namespace Qd
open PySem PySem.Spec L2
def W {α : Type} (o : Option α) (Q : α → Prop) : Prop := ∃ a, o = some a ∧ Q a
section
variable {α β : Type} {o : Option α} {P Q : α → Prop}
theorem W.ret {a : α} (h : Q a) : W (some a) Q := ⟨a, rfl, h⟩
theorem W.mono (h : W o P) (k : ∀ a, P a → Q a) : W o Q := let ⟨a, e, p⟩ := h; ⟨a, e, k a p⟩
theorem W.bind {f : α → Option β} {R : β → Prop} (h : W o P) (k : ∀ a, P a → W (f a) R) : W (o.bind f) R := by
  obtain ⟨a, rfl, p⟩ := h
  exact k a p
end
theorem W.fn {ks : List Kd} {o : Option Out} {P : Out → Prop} {Q : Res → Prop} (h : W o P) (k : ∀ a, P a → W (fn1 ks (some a)) Q) : W (fn1 ks o) Q := by
  obtain ⟨a, rfl, p⟩ := h
  exact k a p
theorem W.lc2 {vs : List Nat} {e1 : En} {o : Option (List D × En)} {P : List D × En → Prop} {Q : D × En → Prop} (h : W o P) (k : ∀ ds e, P (ds, e) → Q (.lst ds, rest e1 e vs)) : W (Qd.lc2 vs e1 o) Q := by
  obtain ⟨⟨a, e⟩, rfl, p⟩ := h
  exact W.ret (k a e p)
theorem W.dc2 {vs : List Nat} {e1 : En} {o : Option (List (Ky × D) × En)} {P : List (Ky × D) × En → Prop} {Q : D × En → Prop} (h : W o P) (k : ∀ ds e, P (ds, e) → Q (.dic ds, rest e1 e vs)) : W (Qd.dc2 vs e1 o) Q := by
  obtain ⟨⟨a, e⟩, rfl, p⟩ := h
  exact W.ret (k a e p)
/-- what a loop's body leaves -/
def Aft (I : En → Prop) (Q : Out → Prop) : Out → Prop
  | .nx e => I e
  | .ct e => I e
  | .bk e => Q (.nx e)
  | .rt b z e => Q (.rt b z e)
theorem W.forL {bs : Bs} {pt : FG} {body : FS} {Q : Out → Prop} (I : List D → En → Prop) (h0 : ∀ e, I [] e → chkB true e bs = true ∧ Q (.nx e))
    (h1 : ∀ d ds e, I (d :: ds) e → chkB true e bs = true ∧ ∃ e1, pt e d = some e1 ∧ W (body e1) (Aft (I ds) Q)) : ∀ items e, I items e → W (Qd.forL bs pt body items e) Q
  | [], e, h => by
    unfold Qd.forL
    rw [if_pos (h0 e h).1]
    exact W.ret (h0 e h).2
  | d :: ds, e, h => by
    obtain ⟨c, e1, q1, o, q2, q3⟩ := h1 d ds e h
    unfold Qd.forL
    rw [if_pos c, q1, Option.bind_some, q2, Option.bind_some]
    cases o with
    | nx e2 => exact W.forL I h0 h1 ds e2 q3
    | ct e2 => exact W.forL I h0 h1 ds e2 q3
    | bk e2 => exact W.ret q3
    | rt b z e2 => exact W.ret q3
theorem W.whL {c : FE} {body : FS} {Q : Out → Prop} (I : Nat → En → Prop)
    (h : ∀ n e, I n e → ∃ b e1, c e = some (.bl b, e1) ∧ if b = true then W (body e1) (Aft (fun e2 => ∃ m, m < n ∧ I m e2) Q) else Q (.nx e1)) : ∀ f n e, n < f → I n e → W (Qd.whL c body f e) Q
  | 0, _, _, hl, _ => absurd hl (by omega)
  | f + 1, n, e, hl, hI => by
    obtain ⟨b, e1, q1, q2⟩ := h n e hI
    unfold Qd.whL
    rw [q1, Option.bind_some]
    cases b with
    | false => exact W.ret (by simpa using q2)
    | true =>
      obtain ⟨o, q3, q4⟩ : W (body e1) _ := by simpa using q2
      rw [q3, Option.bind_some]
      cases o with
      | nx e2 =>
        obtain ⟨m, hm, hI⟩ := q4
        exact W.whL I h f m e2 (by omega) hI
      | ct e2 =>
        obtain ⟨m, hm, hI⟩ := q4
        exact W.whL I h f m e2 (by omega) hI
      | bk e2 => exact W.ret q4
      | rt b z e2 => exact W.ret q4
/-- list comprehensions: `J` of the items that are left, the environment, and what is gathered -/
theorem W.lcL {bs : Bs} {vs : List Nat} {pt : FG} {c f : FE} {Q : List D × En → Prop} (J : List D → En → List D → Prop) (h0 : ∀ e acc, J [] e acc → chkB false e bs = true ∧ Q (acc, e))
    (h1 : ∀ d ds e acc, J (d :: ds) e acc → chkB false e bs = true ∧ ∃ e1 b e2, pt e d = some e1 ∧ c e1 = some (.bl b, e2) ∧ if b = true then ∃ z e3, f e2 = some (z, e3) ∧ acc.length < 1000000 ∧ J ds (wipeE e3 vs) (acc ++ [z]) else J ds (wipeE e2 vs) acc) : ∀ items e acc, J items e acc → W (Qd.lcL bs vs pt c f items e acc) Q
  | [], e, acc, h => by
    unfold Qd.lcL
    rw [if_pos (h0 e acc h).1]
    exact W.ret (h0 e acc h).2
  | d :: ds, e, acc, h => by
    obtain ⟨k, e1, b, e2, q1, q2, q3⟩ := h1 d ds e acc h
    unfold Qd.lcL
    rw [if_pos k, q1, Option.bind_some, q2, Option.bind_some]
    cases b with
    | true =>
      rw [if_pos rfl] at q3
      obtain ⟨z, e3, q4, q5, q6⟩ := q3
      simp only [q4, Option.bind_some]
      rw [if_pos (Nat.lt_trans q5 (by decide))]
      exact W.lcL J h0 h1 ds _ _ q6
    | false => exact W.lcL J h0 h1 ds _ _ (by simpa using q3)
theorem W.dcL {bs : Bs} {vs : List Nat} {pt : FG} {c fk fv : FE} {Q : List (Ky × D) × En → Prop} (J : List D → En → List (Ky × D) → Prop) (h0 : ∀ e acc, J [] e acc → chkB false e bs = true ∧ Q (acc, e))
    (h1 : ∀ d ds e acc, J (d :: ds) e acc → chkB false e bs = true ∧ ∃ e1 b e2, pt e d = some e1 ∧ c e1 = some (.bl b, e2) ∧ if b = true then ∃ k z w e3 e4, fk e2 = some (k, e3) ∧ fv e3 = some (w, e4) ∧ kyOf k = some z ∧ acc.length < 1000000 ∧ J ds (wipeE e4 vs) (putD acc z w) else J ds (wipeE e2 vs) acc) : ∀ items e acc, J items e acc → W (Qd.dcL bs vs pt c fk fv items e acc) Q
  | [], e, acc, h => by
    unfold Qd.dcL
    rw [if_pos (h0 e acc h).1]
    exact W.ret (h0 e acc h).2
  | d :: ds, e, acc, h => by
    obtain ⟨k, e1, b, e2, q1, q2, q3⟩ := h1 d ds e acc h
    unfold Qd.dcL
    rw [if_pos k, q1, Option.bind_some, q2, Option.bind_some]
    cases b with
    | true =>
      rw [if_pos rfl] at q3
      obtain ⟨k, z, w, e3, e4, q4, q5, q6, q7, q8⟩ := q3
      simp only [q4, q5, q6, Option.bind_some]
      rw [if_pos (Nat.lt_trans q7 (by decide))]
      exact W.dcL J h0 h1 ds _ _ q8
    | false => exact W.dcL J h0 h1 ds _ _ (by simpa using q3)
theorem cut_all {α : Type} (xs : List α) : cut xs none none = xs := by
  unfold cut
  simp [HT.sIx]
end Qd
namespace Qd
open PySem PySem.Spec L2
theorem cut_to {α : Type} (xs : List α) (n : Nat) : cut xs none (some (n : Int)) = xs.take n := by
  unfold cut
  rw [HT.sIx_none, HT.sIx_nat, List.drop_zero, Nat.sub_zero]
  by_cases h : n ≤ xs.length
  · rw [Nat.min_eq_left h]
  · rw [Nat.min_eq_right (by omega), List.take_of_length_le (by omega), List.take_of_length_le (by omega)]
theorem cut_up {α : Type} (xs : List α) : cut xs none (some (-1)) = xs.dropLast := by
  unfold cut
  rw [HT.sIx_none, List.drop_zero, Nat.sub_zero, List.dropLast_eq_take]
  congr 1
  show (if (-1:Int) < 0 then ((-1:Int) + (xs.length : Int)).toNat else min (-1:Int).toNat xs.length) = _
  rw [if_pos (by decide)]
  omega
theorem cut_last {α : Type} (xs : List α) : cut xs (some (-1)) none = xs.drop (xs.length - 1) := by
  unfold cut
  rw [HT.sIx_none]
  have e : HT.sIx xs.length 0 (some (-1)) = xs.length - 1 := by
    show (if (-1:Int) < 0 then ((-1:Int) + (xs.length : Int)).toNat else min (-1:Int).toNat xs.length) = _
    rw [if_pos (by decide)]
    omega
  rw [e, List.take_of_length_le]
  simp
theorem slS_eq (x : List Nat) (lo hi : Option Int) (h : x.length ≤ 1000000) : slS (.str x) lo hi = some (.str (cut x lo hi)) := if_pos (Nat.le_trans h (by decide))
theorem slL_eq (ds : List D) (lo hi : Option Int) : slL (.lst ds) lo hi = some (.lst (cut ds lo hi)) := id rfl
theorem slL_scr (ns : List Int) (lo hi : Option Int) : slL (.scr ns) lo hi = some (.lst ((cut ns lo hi).map D.int)) := id rfl
theorem listD_l (ds : List D) : listD [.lst ds] = some (.lst ds) := id rfl
theorem eqB_s (a b : List Nat) : eqB (.str a) (.str b) = decide (a = b) := by
  unfold eqB
  simp only [toPy, PyData.eqv]
  by_cases h : a = b
  · subst h
    simp
  · have e : (S a == S b) = false := by
      rw [beq_eq_false_iff_ne]
      exact fun z => h (S_inj z)
    rw [e]
    simp [h]
theorem eqB_i (a b : Int) : eqB (.int a) (.int b) = decide (a = b) := by
  unfold eqB
  simp only [toPy, PyData.eqv]
  by_cases h : a = b
  · subst h
    simp
  · simp [h]
theorem flats_s (xs : List (List Nat)) : (xs.map D.str).all flat = true := by
  simp [List.all_eq_true, flat]
theorem flats_i (xs : List Int) : (xs.map D.int).all flat = true := by
  simp [List.all_eq_true, flat]
theorem inD_ls (x : List Nat) (xs : List (List Nat)) : inD (.str x) (.lst (xs.map D.str)) = some (.bl (decide (x ∈ xs))) := by
  show (if flat (.str x) && (xs.map D.str).all flat then some (D.bl ((xs.map D.str).any fun e => eqB e (.str x))) else _) = _
  rw [if_pos (by rw [flats_s]; rfl)]
  congr 2
  rw [List.any_map, Bool.eq_iff_iff, List.any_eq_true, decide_eq_true_iff]
  constructor
  · rintro ⟨y, hy, h⟩
    have h : eqB (.str y) (.str x) = true := h
    rw [eqB_s] at h
    rw [← of_decide_eq_true h]
    exact hy
  · exact fun h => ⟨x, h, by show eqB (.str x) (.str x) = true; rw [eqB_s]; simp⟩
/-- a dict of texts, each with True -/
def keysD (xs : List (List Nat)) : List (Ky × D) := xs.map fun x => (Ky.s x, D.bl true)
theorem valD_keys (x : List Nat) : ∀ xs : List (List Nat), valD (keysD xs) (.s x) = if x ∈ xs then some (.bl true) else none
  | [] => rfl
  | y :: xs => by
    have ih := valD_keys x xs
    unfold valD keysD at *
    simp only [List.map_cons, List.find?_cons]
    by_cases h : y = x
    · subst h
      simp
    · have e : decide ((Ky.s y, D.bl true).1 = Ky.s x) = false := by
        simp only [decide_eq_false_iff_not]
        exact fun z => h (by cases z; rfl)
      have h2 : x ≠ y := fun z => h z.symm
      rw [e]
      simp only [ih, List.mem_cons, h2, false_or]
theorem inD_keys (x : List Nat) (xs : List (List Nat)) : inD (.str x) (.dic (keysD xs)) = some (.bl (decide (x ∈ xs))) := by
  show some (D.bl (valD (keysD xs) (.s x)).isSome) = _
  rw [valD_keys]
  by_cases h : x ∈ xs <;> simp [h]
theorem dropD_keys (x : List Nat) (xs : List (List Nat)) : dropD (keysD xs) (.s x) = keysD (xs.filter fun y => decide (y ≠ x)) := by
  unfold dropD keysD
  rw [List.filter_map]
  congr 1
  apply List.filter_congr
  intro y _
  show decide (Ky.s y ≠ Ky.s x) = decide (y ≠ x)
  rw [Bool.eq_iff_iff, decide_eq_true_iff, decide_eq_true_iff]
  exact ⟨fun h z => h (by rw [z]), fun h z => h (by cases z; rfl)⟩
theorem putD_keys (x : List Nat) (xs : List (List Nat)) (h : x ∉ xs) : putD (keysD xs) (.s x) (.bl true) = keysD (xs ++ [x]) := by
  unfold putD
  rw [if_neg]
  · simp [keysD]
  · rw [List.any_eq_true]
    rintro ⟨kv, hm, hk⟩
    obtain ⟨y, hy, rfl⟩ := List.mem_map.mp hm
    have hk : decide (Ky.s y = Ky.s x) = true := hk
    have := of_decide_eq_true hk
    cases this
    exact h hy
theorem sortD_ls (xs : List (List Nat)) (h : xs.length < 64) : sortD [.lst (xs.map D.str)] = some (.lst ((sortS xs).map D.str)) := by
  show ((strsD (xs.map D.str)).bind fun xs => if xs.length < 64 then some (D.lst ((sortS xs).map D.str)) else none) = _
  rw [strsD_map, Option.bind_some, if_pos h]
theorem sorted_uniq : ∀ {a b : List (List Nat)}, a.Pairwise (· ≤ ·) → b.Pairwise (· ≤ ·) → a.Perm b → a = b
  | [], b, _, _, p => (List.nil_perm.mp p).symm
  | x :: a, [], _, _, p => absurd (List.perm_nil.mp p) (by simp)
  | x :: a, y :: b, ha, hb, p => by
    have ha2 := List.pairwise_cons.mp ha
    have hb2 := List.pairwise_cons.mp hb
    have e : x = y := by
      have hx : x ∈ y :: b := p.mem_iff.mp (by simp)
      have hy : y ∈ x :: a := p.mem_iff.mpr (by simp)
      have h1 : y ≤ x := by
        rcases List.mem_cons.mp hx with rfl | h
        · exact List.le_refl _
        · exact hb2.1 x h
      have h2 : x ≤ y := by
        rcases List.mem_cons.mp hy with rfl | h
        · exact List.le_refl _
        · exact ha2.1 y h
      exact List.le_antisymm h2 h1
    subst e
    rw [sorted_uniq ha2.2 hb2.2 (List.Perm.cons_inv p)]
theorem sortS_congr {a b : List (List Nat)} (p : a.Perm b) : sortS a = sortS b := sorted_uniq (sortS_sorted a) (sortS_sorted b) ((sortS_perm a).trans (p.trans (sortS_perm b).symm))
theorem sortS_len (a : List (List Nat)) : (sortS a).length = a.length := (sortS_perm a).length_eq
theorem perm_of_mem {a b : List (List Nat)} (ha : a.Nodup) (hb : b.Nodup) (h : ∀ x, x ∈ a ↔ x ∈ b) : a.Perm b := (List.perm_ext_iff_of_nodup ha hb).mpr h
theorem sortS_ext {a b : List (List Nat)} (ha : a.Nodup) (hb : b.Nodup) (h : ∀ x, x ∈ a ↔ x ∈ b) : sortS a = sortS b := sortS_congr (perm_of_mem ha hb h)
theorem gPop_eq (ds : List D) (d : D) : gPop (ds ++ [d]) [] = some (d, ds) := by
  unfold gPop
  simp
theorem gPopAt_eq (ds : List D) (i : Nat) (d : D) (h : ds[i]? = some d) (h2 : ds.length ≤ 1000000) : gPopAt ds [.int (i : Int)] = some (d, ds.eraseIdx i) := by
  have hl := (List.getElem?_eq_some_iff.mp h).1
  unfold gPopAt
  simp only [Int.toNat_natCast, h]
  rw [if_pos (by omega)]
theorem catD_eq (xs ys : List D) (h : xs.length + ys.length ≤ 1000000) : catD (.lst xs) (.lst ys) = some (.lst (xs ++ ys)) := if_pos (Nat.le_trans h (by decide))
theorem allB_eq (bs : List Bool) : allB [.lst (bs.map D.bl)] = some (.bl (bs.all id)) := by
  show (bls (bs.map D.bl)).map _ = _
  rw [bls_map]
  rfl
/-- texts of noughts and ones -/
def Bin (x : List Nat) : Prop := ∀ c ∈ x, c = 48 ∨ c = 49
theorem Bin.ok {x : List Nat} (h : Bin x) : okS x = true := by
  unfold okS PyData.strOk S
  rw [List.all_toArray, List.all_eq_true]
  intro c hc
  rcases h c hc with rfl | rfl <;> rfl
end Qd
namespace Qm
open Qd
abbrev Wd := List Nat
theorem Bin.snoc {w : Wd} {c : Nat} (h : Bin w) (hc : c = 48 ∨ c = 49) : Bin (w ++ [c]) := fun x hx => by
  rcases List.mem_append.mp hx with hx | hx
  · exact h x hx
  · rw [List.mem_singleton.mp hx]
    exact hc
theorem Bin.left {w v : Wd} (h : Bin (w ++ v)) : Bin w := fun x hx => h x (List.mem_append.mpr (.inl hx))
theorem Bin.nil : Bin [] := fun _ h => absurd h (by simp)
theorem Bin.pre {w v : Wd} (h : Bin w) (p : v <+: w) : Bin v := by
  obtain ⟨t, rfl⟩ := p
  exact Bin.left h
def Bi (s : Nat → Nat) : Prop := ∀ i, s i = 48 ∨ s i = 49
def pre (s : Nat → Nat) (n : Nat) : Wd := (List.range n).map s
theorem pre_len (s : Nat → Nat) (n : Nat) : (pre s n).length = n := by simp [pre]
theorem pre_succ (s : Nat → Nat) (n : Nat) : pre s (n + 1) = pre s n ++ [s n] := by simp [pre, List.range_succ]
theorem pre_le (s : Nat → Nat) (n : Nat) : ∀ k, pre s n <+: pre s (n + k)
  | 0 => List.prefix_refl _
  | k + 1 => (pre_le s n k).trans (by rw [← Nat.add_assoc, pre_succ]; exact List.prefix_append _ _)
def Pre (w : Wd) (s : Nat → Nat) : Prop := w = pre s w.length
theorem Pre.snoc {w : Wd} {c : Nat} {s : Nat → Nat} : Pre (w ++ [c]) s ↔ Pre w s ∧ c = s w.length := by
  unfold Pre
  rw [List.length_append, List.length_singleton, pre_succ]
  constructor
  · intro h
    have h2 := List.append_inj h (by rw [pre_len])
    exact ⟨h2.1, by simpa using h2.2⟩
  · rintro ⟨h, h2⟩
    rw [← h, ← h2]
theorem Pre.le {v w : Wd} {s : Nat → Nat} (h1 : Pre v s) (h2 : Pre w s) (hl : v.length ≤ w.length) : v <+: w := by
  rw [h1, h2]
  obtain ⟨k, hk⟩ := Nat.exists_eq_add_of_le hl
  rw [hk]
  exact pre_le s _ k
theorem Pre.of {v w : Wd} {s : Nat → Nat} (h : Pre w s) (p : v <+: w) : Pre v s := by
  obtain ⟨k, hk⟩ := Nat.exists_eq_add_of_le p.length_le
  have h2 : pre s v.length <+: w := by
    rw [h, hk]
    exact pre_le s _ k
  exact (List.prefix_of_prefix_length_le p h2 (by rw [pre_len]; exact Nat.le_refl _)).eq_of_length (by rw [pre_len])
/-- a row that begins with a head -/
def strm (w : Wd) (i : Nat) : Nat := w.getD i 48
theorem strm_bi {w : Wd} (h : Bin w) : Bi (strm w) := fun i => by
  unfold strm
  by_cases hi : i < w.length
  · rw [List.getD_eq_getElem?_getD, List.getElem?_eq_getElem hi]
    exact h _ (List.getElem_mem hi)
  · rw [List.getD_eq_getElem?_getD, List.getElem?_eq_none (by omega)]
    exact .inl rfl
theorem strm_pre (w : Wd) : Pre w (strm w) := by
  unfold Pre pre strm
  apply List.ext_getElem
  · simp
  · intro i h1 h2
    simp [List.getD_eq_getElem?_getD, List.getElem?_eq_getElem h1]
def Cov (S : List Wd) (s : Nat → Nat) : Prop := ∃ w ∈ S, Pre w s
def Anti (S : List Wd) : Prop := ∀ v ∈ S, ∀ w ∈ S, v <+: w → v = w
def Red (S : List Wd) : Prop := ∀ u, ¬ (u ++ [48] ∈ S ∧ u ++ [49] ∈ S)
def Full (S : List Wd) (w : Wd) : Prop := ∀ s, Bi s → Pre w s → Cov S s
theorem full_pre {S : List Wd} (hr : Red S) (L : Nat) (hL : ∀ w ∈ S, w.length ≤ L) : ∀ n (w : Wd), L ≤ w.length + n → Bin w → Full S w → ∃ v ∈ S, v <+: w
  | 0, w, hl, hb, hf => by
    obtain ⟨v, hv, hp⟩ := hf (strm w) (strm_bi hb) (strm_pre w)
    exact ⟨v, hv, hp.le (strm_pre w) (by have := hL v hv; omega)⟩
  | n + 1, w, hl, hb, hf => by
    obtain ⟨v, hv, hp⟩ := full_pre hr L hL n (w ++ [48]) (by simp; omega) (Bin.snoc hb (.inl rfl)) (fun s hs hp => hf s hs (Pre.snoc.mp hp).1)
    rcases List.prefix_concat_iff.mp hp with rfl | hp
    · obtain ⟨v2, hv2, hp2⟩ := full_pre hr L hL n (w ++ [49]) (by simp; omega) (Bin.snoc hb (.inr rfl)) (fun s hs hp => hf s hs (Pre.snoc.mp hp).1)
      rcases List.prefix_concat_iff.mp hp2 with rfl | hp2
      · exact absurd ⟨hv, hv2⟩ (hr w)
      · exact ⟨v2, hv2, hp2⟩
    · exact ⟨v, hv, hp⟩
theorem exists_bound : ∀ S : List Wd, ∃ L, ∀ w ∈ S, w.length ≤ L
  | [] => ⟨0, fun _ h => absurd h (by simp)⟩
  | w :: S => by
    obtain ⟨L, h⟩ := exists_bound S
    refine ⟨max L w.length, fun v hv => ?_⟩
    rcases List.mem_cons.mp hv with rfl | hv
    · omega
    · have := h v hv
      omega
theorem mem_full {S : List Wd} (hb : ∀ w ∈ S, Bin w) (ha : Anti S) (hr : Red S) (w : Wd) : w ∈ S ↔ Bin w ∧ Full S w ∧ ∀ v, v <+: w → Full S v → v = w := by
  obtain ⟨L, hL⟩ := exists_bound S
  constructor
  · refine fun h => ⟨hb w h, fun s _ hp => ⟨w, h, hp⟩, fun v hv hf => ?_⟩
    obtain ⟨u, hu, hp⟩ := full_pre hr L hL L v (by omega) (Bin.pre (hb w h) hv) hf
    have e := ha u hu w h (hp.trans hv)
    subst e
    exact (hp.eq_of_length_le hv.length_le).symm
  · rintro ⟨h1, h2, h3⟩
    obtain ⟨u, hu, hp⟩ := full_pre hr L hL L w (by omega) h1 h2
    have := h3 u hp fun s _ hq => ⟨u, hu, hq⟩
    rw [← this]
    exact hu
theorem uniq {S T : List Wd} (b1 : ∀ w ∈ S, Bin w) (b2 : ∀ w ∈ T, Bin w) (a1 : Anti S) (a2 : Anti T) (r1 : Red S) (r2 : Red T) (h : ∀ s, Bi s → (Cov S s ↔ Cov T s)) (w : Wd) : w ∈ S ↔ w ∈ T := by
  have hf : ∀ v, Full S v ↔ Full T v := fun v => ⟨fun f s hs hp => (h s hs).mp (f s hs hp), fun f s hs hp => (h s hs).mpr (f s hs hp)⟩
  rw [mem_full b1 a1 r1, mem_full b2 a2 r2]
  constructor
  · exact fun ⟨p, q, r⟩ => ⟨p, (hf w).mp q, fun v hv hq => r v hv ((hf v).mpr hq)⟩
  · exact fun ⟨p, q, r⟩ => ⟨p, (hf w).mpr q, fun v hv hq => r v hv ((hf v).mp hq)⟩
/-- heads that are apart, of at most n signs -/
structure Hd (n : Nat) (S : List Wd) : Prop where
  nd : S.Nodup
  bin : ∀ w ∈ S, Bin w
  anti : Anti S
  wl : ∀ w ∈ S, w.length ≤ n
theorem Hd.ok {n : Nat} {S : List Wd} (h : Hd n S) : ∀ x ∈ S, okS x = true := fun x hx => (h.bin x hx).ok
theorem Hd.of {n m : Nat} {S T : List Wd} (h : Hd n S) (hn : n ≤ m) (nd : T.Nodup) (hT : ∀ x ∈ T, x ∈ S) : Hd m T := ⟨nd, fun w hw => h.bin w (hT w hw), fun v hv w hw => h.anti v (hT v hv) w (hT w hw), fun w hw => Nat.le_trans (h.wl w (hT w hw)) hn⟩
theorem Hd.perm {n : Nat} {S T : List Wd} (h : Hd n S) (p : T.Perm S) : Hd n T := h.of (Nat.le_refl _) (p.nodup_iff.mpr h.nd) fun x hx => p.mem_iff.mp hx
theorem not_pre_snoc (u : Wd) (c : Nat) : ¬ (u ++ [c]) <+: u := fun h => by
  have := h.length_le
  simp at this
  omega
theorem pre_up {v u : Wd} {c : Nat} (h : v <+: u) : v <+: u ++ [c] := h.trans (List.prefix_append _ _)
/-- a word below another one goes on with a nought or a one -/
theorem pre_cases {u v : Wd} (hb : Bin v) (h : u <+: v) : v = u ∨ (u ++ [48]) <+: v ∨ (u ++ [49]) <+: v := by
  obtain ⟨t, rfl⟩ := h
  cases t with
  | nil => exact .inl (by simp)
  | cons c t =>
    have : c = 48 ∨ c = 49 := hb c (by simp)
    rcases this with rfl | rfl
    · exact .inr (.inl ⟨t, by simp⟩)
    · exact .inr (.inr ⟨t, by simp⟩)
/-- two heads joined -/
theorem Hd.join {n : Nat} {S T : List Wd} {u : Wd} (h : Hd n S) (h0 : u ++ [48] ∈ S) (h1 : u ++ [49] ∈ S) (nd : T.Nodup) (hT : ∀ x, x ∈ T ↔ x = u ∨ (x ∈ S ∧ x ≠ u ++ [48] ∧ x ≠ u ++ [49])) : Hd n T := by
  have hu : Bin u := Bin.left (h.bin _ h0)
  refine ⟨nd, fun w hw => ?_, fun v hv w hw hp => ?_, fun w hw => ?_⟩
  · rcases (hT w).mp hw with rfl | hw
    · exact hu
    · exact h.bin w hw.1
  · rcases (hT v).mp hv with rfl | hv
    · rcases (hT w).mp hw with rfl | hw
      · rfl
      · rcases pre_cases (h.bin w hw.1) hp with e | e | e
        · exact e.symm
        · exact absurd (h.anti _ h0 w hw.1 e).symm hw.2.1
        · exact absurd (h.anti _ h1 w hw.1 e).symm hw.2.2
    · rcases (hT w).mp hw with rfl | hw
      · exact absurd (h.anti v hv.1 _ h0 (pre_up hp)) hv.2.1
      · exact h.anti v hv.1 w hw.1 hp
  · rcases (hT w).mp hw with rfl | hw
    · have := h.wl _ h0
      simp at this
      omega
    · exact h.wl w hw.1
theorem cov_join {S T : List Wd} {u : Wd} (h0 : u ++ [48] ∈ S) (h1 : u ++ [49] ∈ S) (hT : ∀ x, x ∈ T ↔ x = u ∨ (x ∈ S ∧ x ≠ u ++ [48] ∧ x ≠ u ++ [49])) (s : Nat → Nat) (hs : Bi s) : Cov T s ↔ Cov S s := by
  constructor
  · rintro ⟨w, hw, hp⟩
    rcases (hT w).mp hw with rfl | hw
    · rcases hs w.length with e | e
      · exact ⟨_, h0, Pre.snoc.mpr ⟨hp, e.symm⟩⟩
      · exact ⟨_, h1, Pre.snoc.mpr ⟨hp, e.symm⟩⟩
    · exact ⟨w, hw.1, hp⟩
  · rintro ⟨w, hw, hp⟩
    by_cases e0 : w = u ++ [48]
    · subst e0
      exact ⟨u, (hT u).mpr (.inl rfl), (Pre.snoc.mp hp).1⟩
    · by_cases e1 : w = u ++ [49]
      · subst e1
        exact ⟨u, (hT u).mpr (.inl rfl), (Pre.snoc.mp hp).1⟩
      · exact ⟨w, (hT w).mpr (.inr ⟨hw, e0, e1⟩), hp⟩
/-- a head parted -/
theorem Hd.part {n : Nat} {S T : List Wd} {u : Wd} (h : Hd n S) (hu : u ∈ S) (nd : T.Nodup) (hT : ∀ x, x ∈ T ↔ x = u ++ [48] ∨ x = u ++ [49] ∨ (x ∈ S ∧ x ≠ u)) : Hd (n + 1) T := by
  have hb := h.bin u hu
  have key : ∀ c, ∀ w ∈ S, w ≠ u → ¬ w <+: u ++ [c] ∧ ¬ (u ++ [c]) <+: w := fun c w hw hn => by
    constructor
    · intro hp
      rcases List.prefix_concat_iff.mp hp with rfl | hp
      · exact hn (h.anti u hu _ hw (List.prefix_append _ _)).symm
      · exact hn (h.anti w hw u hu hp)
    · intro hp
      exact hn (h.anti u hu w hw ((List.prefix_append u [c]).trans hp)).symm
  have ne : ∀ a b : Nat, (u ++ [a]) <+: (u ++ [b]) → u ++ [a] = u ++ [b] := fun a b hp => hp.eq_of_length (by simp)
  refine ⟨nd, fun w hw => ?_, fun v hv w hw hp => ?_, fun w hw => ?_⟩
  · rcases (hT w).mp hw with rfl | rfl | hw
    · exact Bin.snoc hb (.inl rfl)
    · exact Bin.snoc hb (.inr rfl)
    · exact h.bin w hw.1
  · rcases (hT v).mp hv with rfl | rfl | hv <;> rcases (hT w).mp hw with rfl | rfl | hw
    · rfl
    · exact ne _ _ hp
    · exact absurd hp (key _ w hw.1 hw.2).2
    · exact ne _ _ hp
    · rfl
    · exact absurd hp (key _ w hw.1 hw.2).2
    · exact absurd hp (key _ v hv.1 hv.2).1
    · exact absurd hp (key _ v hv.1 hv.2).1
    · exact h.anti v hv.1 w hw.1 hp
  · rcases (hT w).mp hw with rfl | rfl | hw
    · have := h.wl u hu
      simp
      omega
    · have := h.wl u hu
      simp
      omega
    · exact Nat.le_succ_of_le (h.wl w hw.1)
theorem cov_part {S T : List Wd} {u : Wd} (hu : u ∈ S) (hT : ∀ x, x ∈ T ↔ x = u ++ [48] ∨ x = u ++ [49] ∨ (x ∈ S ∧ x ≠ u)) (s : Nat → Nat) (hs : Bi s) (h : Cov S s) : Cov T s := by
  obtain ⟨w, hw, hp⟩ := h
  by_cases e : w = u
  · subst e
    rcases hs w.length with e | e
    · exact ⟨_, (hT _).mpr (.inl rfl), Pre.snoc.mpr ⟨hp, e.symm⟩⟩
    · exact ⟨_, (hT _).mpr (.inr (.inl rfl)), Pre.snoc.mpr ⟨hp, e.symm⟩⟩
  · exact ⟨w, (hT w).mpr (.inr (.inr ⟨hw, e⟩)), hp⟩
/-- what comes of heads by joining -/
structure Jn (n : Nat) (A S : List Wd) : Prop where
  hd : Hd n S
  cov : ∀ s, Bi s → (Cov S s ↔ Cov A s)
  len : S.length ≤ A.length
theorem Jn.refl {n : Nat} {A S : List Wd} (h : Hd n A) (p : S.Perm A) : Jn n A S := ⟨h.perm p, fun s _ => ⟨fun ⟨w, hw, hp⟩ => ⟨w, p.mem_iff.mp hw, hp⟩, fun ⟨w, hw, hp⟩ => ⟨w, p.mem_iff.mpr hw, hp⟩⟩, by rw [p.length_eq]; exact Nat.le_refl _⟩
theorem Jn.fin {n m : Nat} {A B S T : List Wd} (h : Jn n A S) (h2 : Jn m B T) (p : A.Perm B) (r1 : Red S) (r2 : Red T) : sortS S = sortS T :=
  sortS_ext h.hd.nd h2.hd.nd (uniq h.hd.bin h2.hd.bin h.hd.anti h2.hd.anti r1 r2 fun s hs => (h.cov s hs).trans (Iff.trans ⟨fun ⟨w, hw, hp⟩ => ⟨w, p.mem_iff.mp hw, hp⟩, fun ⟨w, hw, hp⟩ => ⟨w, p.mem_iff.mpr hw, hp⟩⟩ (h2.cov s hs).symm))
/-- a list that has all but two and one more is shorter by one -/
theorem len_join {S T : List Wd} {u : Wd} (nS : S.Nodup) (nT : T.Nodup) (h0 : u ++ [48] ∈ S) (h1 : u ++ [49] ∈ S) (hu : u ∉ S) (hT : ∀ x, x ∈ T ↔ x = u ∨ (x ∈ S ∧ x ≠ u ++ [48] ∧ x ≠ u ++ [49])) : T.length + 1 = S.length := by
  have ne : u ++ [48] ≠ u ++ [49] := by simp
  have nd2 : ((u ++ [48]) :: (u ++ [49]) :: T).Nodup := by
    refine List.nodup_cons.mpr ⟨?_, List.nodup_cons.mpr ⟨?_, nT⟩⟩
    · rw [List.mem_cons]
      rintro (e | e)
      · exact ne e
      · rcases (hT _).mp e with e | e
        · simp at e
        · exact e.2.1 rfl
    · intro e
      rcases (hT _).mp e with e | e
      · simp at e
      · exact e.2.2 rfl
  have nd3 : (u :: S).Nodup := List.nodup_cons.mpr ⟨hu, nS⟩
  have pm := perm_of_mem nd2 nd3 (fun x => by
    simp only [List.mem_cons]
    rw [hT x]
    constructor
    · rintro (rfl | rfl | rfl | h)
      · exact .inr h0
      · exact .inr h1
      · exact .inl rfl
      · exact .inr h.1
    · rintro (rfl | h)
      · exact .inr (.inr (.inl rfl))
      · by_cases e0 : x = u ++ [48]
        · exact .inl e0
        · by_cases e1 : x = u ++ [49]
          · exact .inr (.inl e1)
          · exact .inr (.inr (.inr ⟨h, e0, e1⟩)))
  have := pm.length_eq
  simp at this
  omega
theorem Hd.not_up {n : Nat} {S : List Wd} {u : Wd} {c : Nat} (h : Hd n S) (h0 : u ++ [c] ∈ S) : u ∉ S := fun hu => by
  have := h.anti u hu _ h0 (List.prefix_append _ _)
  simp at this
theorem Jn.join {n : Nat} {A S T : List Wd} {u : Wd} (h : Jn n A S) (h0 : u ++ [48] ∈ S) (h1 : u ++ [49] ∈ S) (nd : T.Nodup) (hT : ∀ x, x ∈ T ↔ x = u ∨ (x ∈ S ∧ x ≠ u ++ [48] ∧ x ≠ u ++ [49])) : Jn n A T ∧ T.length + 1 = S.length :=
  have e := len_join h.hd.nd nd h0 h1 (h.hd.not_up h0) hT
  ⟨⟨h.hd.join h0 h1 nd hT, fun s hs => (cov_join h0 h1 hT s hs).trans (h.cov s hs), by have := h.len; omega⟩, e⟩
end Qm
namespace Qm
open Qd
structure Ct (n : Nat) (S : List Wd) : Prop where
  hd : Hd n S
  cov : ∀ s, Bi s → Cov S s
theorem Cov.perm {S T : List Wd} (p : T.Perm S) {s : Nat → Nat} (h : Cov S s) : Cov T s := let ⟨w, hw, hp⟩ := h; ⟨w, p.mem_iff.mpr hw, hp⟩
theorem Ct.perm {n : Nat} {S T : List Wd} (h : Ct n S) (p : T.Perm S) : Ct n T := ⟨h.hd.perm p, fun s hs => (h.cov s hs).perm p⟩
def has (A : List Wd) (x : Wd) : Bool := A.any fun u => u.isPrefixOf x
def hasS (A : List Wd) (x : Wd) : Bool := A.any fun u => u.isPrefixOf x && !decide (x = u)
theorem has_iff {A : List Wd} {x : Wd} : has A x = true ↔ ∃ u ∈ A, u <+: x := by
  unfold has
  rw [List.any_eq_true]
  simp only [List.isPrefixOf_iff_prefix]
theorem hasS_iff {A : List Wd} {x : Wd} : hasS A x = true ↔ ∃ u ∈ A, u <+: x ∧ x ≠ u := by
  unfold hasS
  rw [List.any_eq_true]
  simp only [Bool.and_eq_true, List.isPrefixOf_iff_prefix, Bool.not_eq_true', decide_eq_false_iff_not, ne_eq]
def comm (A B : List Wd) : List Wd := A.filter (has B) ++ B.filter (hasS A)
theorem comm_mem {A B : List Wd} (x : Wd) : x ∈ comm A B ↔ (x ∈ A ∧ ∃ u ∈ B, u <+: x) ∨ (x ∈ B ∧ ∃ u ∈ A, u <+: x) := by
  unfold comm
  rw [List.mem_append, List.mem_filter, List.mem_filter, has_iff, hasS_iff]
  constructor
  · rintro (h | ⟨h1, u, hu, hp, _⟩)
    · exact .inl h
    · exact .inr ⟨h1, u, hu, hp⟩
  · rintro (h | ⟨h1, u, hu, hp⟩)
    · exact .inl h
    · by_cases e : x = u
      · subst e
        exact .inl ⟨hu, x, h1, List.prefix_refl _⟩
      · exact .inr ⟨h1, u, hu, hp, e⟩
theorem comm_nodup {n m : Nat} {A B : List Wd} (hA : Hd n A) (hB : Hd m B) : (comm A B).Nodup := by
  refine List.nodup_append.mpr ⟨hA.nd.filter _, hB.nd.filter _, fun a ha b hb e => ?_⟩
  subst e
  obtain ⟨u, hu, hp, hn⟩ := hasS_iff.mp (List.mem_filter.mp hb).2
  exact hn (hA.anti u hu a (List.mem_filter.mp ha).1 hp).symm
theorem comm_hd {n m : Nat} {A B : List Wd} (hA : Hd n A) (hB : Hd m B) : Hd (max n m) (comm A B) := by
  have cross : ∀ {A B : List Wd}, Anti B → ∀ v ∈ A, ∀ w ∈ B, (∃ u ∈ B, u <+: v) → v <+: w → v = w := fun aB v _ w hw ⟨u, hu, hp⟩ hq => by
    have e := aB u hu w hw (hp.trans hq)
    subst e
    exact (hp.eq_of_length_le hq.length_le).symm
  refine ⟨comm_nodup hA hB, fun w hw => ?_, fun v hv w hw hp => ?_, fun w hw => ?_⟩
  · rcases (comm_mem w).mp hw with h | h
    · exact hA.bin w h.1
    · exact hB.bin w h.1
  · rcases (comm_mem v).mp hv with h | h <;> rcases (comm_mem w).mp hw with g | g
    · exact hA.anti v h.1 w g.1 hp
    · exact cross hB.anti v h.1 w g.1 h.2 hp
    · exact cross hA.anti v h.1 w g.1 h.2 hp
    · exact hB.anti v h.1 w g.1 hp
  · rcases (comm_mem w).mp hw with h | h
    · have := hA.wl w h.1
      omega
    · have := hB.wl w h.1
      omega
theorem comm_ct {n m : Nat} {A B : List Wd} (hA : Ct n A) (hB : Ct m B) : Ct (max n m) (comm A B) := by
  refine ⟨comm_hd hA.hd hB.hd, fun s hs => ?_⟩
  obtain ⟨a, ha, pa⟩ := hA.cov s hs
  obtain ⟨b, hb, pb⟩ := hB.cov s hs
  rcases Nat.le_total b.length a.length with h | h
  · exact ⟨a, (comm_mem a).mpr (.inl ⟨ha, b, hb, pb.le pa h⟩), pa⟩
  · exact ⟨b, (comm_mem b).mpr (.inr ⟨hb, a, ha, pa.le pb h⟩), pb⟩
theorem comm_sym {n m : Nat} {A B : List Wd} (hA : Hd n A) (hB : Hd m B) : sortS (comm A B) = sortS (comm B A) := sortS_ext (comm_nodup hA hB) (comm_nodup hB hA) fun x => by
  rw [comm_mem, comm_mem]
  exact Or.comm
theorem comm_self {n : Nat} {A : List Wd} (hA : Hd n A) : sortS (comm A A) = sortS A := sortS_ext (comm_nodup hA hA) hA.nd fun x => by
  rw [comm_mem]
  constructor
  · rintro (h | h) <;> exact h.1
  · exact fun h => .inl ⟨h, x, h, List.prefix_refl _⟩
theorem comm_perm {A B A' B' : List Wd} {n m : Nat} (hA : Hd n A) (hB : Hd m B) (p : A'.Perm A) (q : B'.Perm B) : sortS (comm A' B') = sortS (comm A B) := sortS_ext (comm_nodup (hA.perm p) (hB.perm q)) (comm_nodup hA hB) fun x => by
  rw [comm_mem, comm_mem, p.mem_iff, q.mem_iff]
  simp only [p.mem_iff, q.mem_iff]
def sumN (f : Wd → Nat) : List Wd → Nat
  | [] => 0
  | w :: S => f w + sumN f S
theorem sumN_add {f g h : Wd → Nat} : ∀ {S : List Wd}, (∀ w ∈ S, f w = g w + h w) → sumN f S = sumN g S + sumN h S
  | [], _ => rfl
  | w :: S, e => by
    have ih := sumN_add (S := S) fun v hv => e v (by simp [hv])
    have e1 := e w (by simp)
    simp only [sumN]
    omega
theorem sumN_zero {f : Wd → Nat} : ∀ {S : List Wd}, (∀ w ∈ S, f w = 0) → sumN f S = 0
  | [], _ => rfl
  | w :: S, e => by
    have ih := sumN_zero (S := S) fun v hv => e v (by simp [hv])
    have e1 := e w (by simp)
    simp only [sumN]
    omega
theorem sumN_one {f : Wd → Nat} {u : Wd} : ∀ {S : List Wd}, S.Nodup → u ∈ S → (∀ w ∈ S, w ≠ u → f w = 0) → sumN f S = f u
  | [], _, h, _ => absurd h (by simp)
  | w :: S, nd, h, e => by
    obtain ⟨n1, n2⟩ := List.nodup_cons.mp nd
    simp only [sumN]
    by_cases hw : w = u
    · subst hw
      rw [sumN_zero fun v hv => e v (by simp [hv]) fun z => n1 (z ▸ hv)]
      omega
    · rcases List.mem_cons.mp h with h | h
      · exact absurd h.symm hw
      · rw [e w (by simp) hw, sumN_one n2 h fun v hv => e v (by simp [hv])]
        omega
theorem sumN_congr {f g : Wd → Nat} : ∀ {S : List Wd}, (∀ w ∈ S, f w = g w) → sumN f S = sumN g S
  | [], _ => rfl
  | w :: S, e => by
    simp only [sumN]
    rw [e w (by simp), sumN_congr fun v hv => e v (by simp [hv])]
def under (L : Nat) (u w : Wd) : Nat := if u.isPrefixOf w = true then 2 ^ (L - w.length) else 0
theorem under_pos {L : Nat} {u w : Wd} (h : u <+: w) : under L u w = 2 ^ (L - w.length) := if_pos (List.isPrefixOf_iff_prefix.mpr h)
theorem under_neg {L : Nat} {u w : Wd} (h : ¬ u <+: w) : under L u w = 0 := if_neg fun z => h (List.isPrefixOf_iff_prefix.mp z)
theorem kraft_at {n : Nat} {S : List Wd} (h : Ct n S) (L : Nat) (hL : ∀ w ∈ S, w.length ≤ L) : ∀ k (u : Wd), L ≤ u.length + k → Bin u → (∀ w ∈ S, w <+: u → w = u) → sumN (under L u) S = 2 ^ (L - u.length) := by
  intro k
  induction k with
  | zero =>
    intro u hk hb hp
    obtain ⟨w, hw, hq⟩ := h.cov (strm u) (strm_bi hb)
    have hpw : w <+: u := hq.le (strm_pre u) (by have := hL w hw; omega)
    have e := hp w hw hpw
    subst e
    rw [sumN_one h.hd.nd hw fun v hv hne => under_neg fun z => hne (h.hd.anti w hw v hv z).symm, under_pos (List.prefix_refl _)]
  | succ k ih =>
    intro u hk hb hp
    by_cases hu : u ∈ S
    · rw [sumN_one h.hd.nd hu fun v hv hne => under_neg fun z => hne (h.hd.anti u hu v hv z).symm, under_pos (List.prefix_refl _)]
    · have hlt : u.length < L := by
        rcases Nat.lt_or_ge u.length L with h1 | h1
        · exact h1
        · exfalso
          obtain ⟨w, hw, hq⟩ := h.cov (strm u) (strm_bi hb)
          have hpw : w <+: u := hq.le (strm_pre u) (by have := hL w hw; omega)
          exact hu (hp w hw hpw ▸ hw)
      have key : ∀ c, (c = 48 ∨ c = 49) → sumN (under L (u ++ [c])) S = 2 ^ (L - (u.length + 1)) := fun c hc => by
        have := ih (u ++ [c]) (by simp; omega) (Bin.snoc hb hc) fun w hw hq => by
          rcases List.prefix_concat_iff.mp hq with e | e
          · exact e
          · exact absurd (hp w hw e ▸ hw) hu
        rw [this]
        simp
      rw [sumN_add (g := under L (u ++ [48])) (h := under L (u ++ [49])) fun w hw => ?_, key 48 (.inl rfl), key 49 (.inr rfl)]
      · have : L - u.length = (L - (u.length + 1)) + 1 := by omega
        rw [this, Nat.pow_succ]
        omega
      · by_cases hq : u <+: w
        · have no : ∀ a b : Nat, a ≠ b → (u ++ [a]) <+: w → ¬ (u ++ [b]) <+: w := fun a b hab h1 h2 => by
            have := List.prefix_of_prefix_length_le h1 h2 (by simp)
            have := this.eq_of_length (by simp)
            simp at this
            exact hab this
          rcases pre_cases (h.hd.bin w hw) hq with e | e | e
          · exact absurd (e ▸ hw) hu
          · rw [under_pos hq, under_pos e, under_neg (no 48 49 (by decide) e), Nat.add_zero]
          · rw [under_pos hq, under_pos e, under_neg (no 49 48 (by decide) e)]
            omega
        · rw [under_neg hq, under_neg fun z => hq ((List.prefix_append u [48]).trans z), under_neg fun z => hq ((List.prefix_append u [49]).trans z)]
theorem kraft {n : Nat} {S : List Wd} (h : Ct n S) (L : Nat) (hL : ∀ w ∈ S, w.length ≤ L) : sumN (fun w => 2 ^ (L - w.length)) S = 2 ^ L := by
  have := kraft_at h L hL L [] (by simp) Bin.nil fun w hw hp => by simpa using hp
  rw [sumN_congr fun w _ => under_pos (List.nil_prefix)] at this
  simpa using this
end Qm
namespace Qd
open PySem PySem.Spec L2
def pk4 (i : Nat) (k : Kd) (e : En) (kvs : List (Ky × D)) (ky : Ky) (o : Option D) : Option (D × En) := o.map fun v => (v, e.set i (some (k, .dic (dropD kvs ky))))
theorem pk4_eq (i : Nat) (k : Kd) (e : En) (kvs : List (Ky × D)) (ky : Ky) (v : D) : pk4 i k e kvs ky (some v) = some (v, e.set i (some (k, .dic (dropD kvs ky)))) := id rfl
def pk3 (i : Nat) (e : En) (ky : Ky) : Option (Option Sl) → Option (D × En)
  | some (some (k, .dic kvs)) => if k = .sh then none else pk4 i k e kvs ky (valD kvs ky)
  | _ => none
theorem pk3_ow (i : Nat) (e : En) (ky : Ky) (kvs : List (Ky × D)) : pk3 i e ky (some (some (.ow, .dic kvs))) = pk4 i .ow e kvs ky (valD kvs ky) := id rfl
theorem pk3_pn (i : Nat) (e : En) (ky : Ky) (kvs : List (Ky × D)) : pk3 i e ky (some (some (.pn, .dic kvs))) = pk4 i .pn e kvs ky (valD kvs ky) := id rfl
def pk2 (i : Nat) (e : En) (ky : Ky) : Option (D × En) := pk3 i e ky e[i]?
theorem pk2_eq (i : Nat) (e : En) (ky : Ky) : pk2 i e ky = pk3 i e ky e[i]? := id rfl
def pk1 (i : Nat) (p : D × En) : Option (D × En) := (kyOf p.1).bind (pk2 i p.2)
theorem pk1_s (i : Nat) (x : List Nat) (e : En) : pk1 i (.str x, e) = pk2 i e (.s x) := id rfl
theorem pk1_i (i : Nat) (x : Int) (e : En) : pk1 i (.int x, e) = pk2 i e (.i x) := id rfl
def pk0 (i : Nat) (fk : FE) (env : En) : Option (Option Sl) → Option (D × En)
  | some (some (_, .dic _)) => (fk env).bind (pk1 i)
  | _ => none
theorem pk0_eq (i : Nat) (fk : FE) (env : En) (k : Kd) (kvs : List (Ky × D)) : pk0 i fk env (some (some (k, .dic kvs))) = (fk env).bind (pk1 i) := id rfl
theorem ePopK_eq (i : Nat) (fk : FE) (env : En) : ePopK i fk env = pk0 i fk env env[i]? := by
  unfold ePopK pk0
  split
  · rename_i h
    try rw [h]
    try simp only
    cases fk env with
    | none => rfl
    | some q =>
      simp only [Option.bind_some, pk1]
      cases kyOf q.1 with
      | none => rfl
      | some ky =>
        simp only [Option.bind_some, pk2, pk3]
        all_goals (split <;> rename_i h2 <;> simp_all [pk4])
  · rename_i h
    first
    | rfl
    | (split
       · rename_i h2
         exact absurd h2 (h _ _)
       · rfl)
def sk4 (i : Nat) (v : D) (e : En) (ky : Ky) : Option (Option Sl) → Option Out
  | some (some (k, .dic kvs)) => if k = .sh ∨ ¬ kvs.length < sizeLine then none else some (.nx (e.set i (some (k, .dic (putD kvs ky v)))))
  | _ => none
theorem sk4_ow (i : Nat) (v : D) (e : En) (ky : Ky) (kvs : List (Ky × D)) (h : kvs.length < 1000000) : sk4 i v e ky (some (some (.ow, .dic kvs))) = some (.nx (e.set i (some (.ow, .dic (putD kvs ky v))))) := by
  show (if Kd.ow = .sh ∨ ¬ kvs.length < sizeLine then none else some (Out.nx (e.set i (some (Kd.ow, D.dic (putD kvs ky v)))))) = _
  rw [if_neg]
  rintro (h2 | h2)
  · cases h2
  · exact h2 (Nat.lt_trans h (by decide))
def sk3 (i : Nat) (v : D) (e : En) (ky : Ky) : Option Out := sk4 i v e ky e[i]?
theorem sk3_eq (i : Nat) (v : D) (e : En) (ky : Ky) : sk3 i v e ky = sk4 i v e ky e[i]? := id rfl
def sk2 (i : Nat) (v : D) (p : D × En) : Option Out := (kyOf p.1).bind (sk3 i v p.2)
theorem sk2_s (i : Nat) (v : D) (x : List Nat) (e : En) : sk2 i v (.str x, e) = sk3 i v e (.s x) := id rfl
theorem sk2_i (i : Nat) (v : D) (x : Int) (e : En) : sk2 i v (.int x, e) = sk3 i v e (.i x) := id rfl
def sk1 (i : Nat) (fk : FE) (v : D) (e : En) (_ : Ov × En) : Option Out := (fk e).bind (sk2 i v)
theorem sk1_eq (i : Nat) (fk : FE) (v : D) (e : En) (o : Ov × En) : sk1 i fk v e o = (fk e).bind (sk2 i v) := id rfl
def sk0 (i : Nat) (fk : FE) (p : D × En) : Option Out := (oS i p.2).bind (sk1 i fk p.1 p.2)
theorem sk0_eq (i : Nat) (fk : FE) (v : D) (e : En) : sk0 i fk (v, e) = (oS i e).bind (sk1 i fk v e) := id rfl
theorem sSetK_eq (i : Nat) (fk fv : FE) (env : En) : sSetK i fk fv env = (fv env).bind (sk0 i fk) := id rfl
theorem listD_keys (xs : List (List Nat)) : listD [.dic (keysD xs)] = some (.lst (xs.map D.str)) := by
  show some (D.lst ((keysD xs).map _)) = _
  unfold keysD
  rw [List.map_map]
  rfl
theorem keysD_len (xs : List (List Nat)) : (keysD xs).length = xs.length := by simp [keysD]
theorem neD_nil (xs : List (List Nat)) (h : ∀ x ∈ xs, okS x = true) : neD (.lst (xs.map D.str)) (.lst []) = some (.bl (!decide (xs = []))) := neD_ls xs [] h (fun _ h => absurd h (by simp))
end Qd
namespace Qd
open PySem PySem.Spec L2
theorem lcL_filter {α : Type} {bs : Bs} {vs : List Nat} {pt : FG} {c f : FE} {e : En} (enc : α → D) (p : α → Bool) (φ : α → D) (hc : chkB false e bs = true) : ∀ (xs : List α) (acc : List D), acc.length + xs.length ≤ 1000000 →
    (∀ x ∈ xs, ∃ e1, pt e (enc x) = some e1 ∧ c e1 = some (.bl (p x), e1) ∧ (p x = true → f e1 = some (φ x, e1)) ∧ wipeE e1 vs = e) → lcL bs vs pt c f (xs.map enc) e acc = some (acc ++ (xs.filter p).map φ, e)
  | [], acc, _, _ => by
    unfold lcL
    simp [hc]
  | x :: xs, acc, hl, h => by
    obtain ⟨e1, q1, q2, q3, q4⟩ := h x (by simp)
    simp only [List.map_cons]
    unfold lcL
    rw [if_pos hc, q1, Option.bind_some, q2, Option.bind_some]
    have hl : acc.length + (xs.length + 1) ≤ 1000000 := hl
    cases hp : p x with
    | true =>
      simp only [q3 hp, Option.bind_some, q4]
      rw [if_pos (Nat.lt_of_lt_of_le (m := 1000000) (by omega) (by decide)), lcL_filter enc p φ hc xs _ (by simp; omega) fun y hy => h y (by simp [hy]), List.filter_cons_of_pos hp]
      simp
    | false =>
      simp only [q4]
      rw [lcL_filter enc p φ hc xs _ (by omega) fun y hy => h y (by simp [hy]), List.filter_cons_of_neg (by simp [hp])]
theorem filter_true {α : Type} (xs : List α) : xs.filter (fun _ => true) = xs := List.filter_eq_self.mpr fun _ _ => rfl
theorem dcL_keys {bs : Bs} {vs : List Nat} {pt : FG} {c fk fv : FE} {e : En} (hc : chkB false e bs = true) : ∀ (xs acc : List (List Nat)), acc.length + xs.length ≤ 1000000 → (acc ++ xs).Nodup →
    (∀ x ∈ xs, ∃ e1, pt e (.str x) = some e1 ∧ c e1 = some (.bl true, e1) ∧ fk e1 = some (.str x, e1) ∧ fv e1 = some (.bl true, e1) ∧ wipeE e1 vs = e) → dcL bs vs pt c fk fv (xs.map D.str) e (keysD acc) = some (keysD (acc ++ xs), e)
  | [], acc, _, _, _ => by
    unfold dcL
    simp [hc]
  | x :: xs, acc, hl, hn, h => by
    obtain ⟨e1, q1, q2, q3, q4, q5⟩ := h x (by simp)
    simp only [List.map_cons]
    unfold dcL
    rw [if_pos hc, q1, Option.bind_some, q2, Option.bind_some]
    have hl : acc.length + (xs.length + 1) ≤ 1000000 := hl
    have hx : x ∉ acc := fun hx => (List.nodup_append.mp hn).2.2 x hx x (by simp) rfl
    simp only [q3, q4, q5, Option.bind_some, kyOf]
    rw [if_pos (Nat.lt_of_lt_of_le (m := 1000000) (by rw [keysD_len]; omega) (by decide)), putD_keys x acc hx, dcL_keys hc xs (acc ++ [x]) (by simp; omega) (by simpa using hn) fun y hy => h y (by simp [hy])]
    simp
end Qd
namespace Qd
open PySem PySem.Spec L2
theorem isi_non_bool : isiD [.non, .ty "bool"] = some (.bl false) := id rfl
theorem isi_non_int : isiD [.non, .ty "int"] = some (.bl false) := id rfl
theorem isi_non_str : isiD [.non, .ty "str"] = some (.bl false) := id rfl
theorem isi_non_tuple : isiD [.non, .ty "tuple"] = some (.bl false) := id rfl
theorem isi_non_list : isiD [.non, .ty "list"] = some (.bl false) := id rfl
theorem isi_bl_bool (b : Bool) : isiD [(.bl b), .ty "bool"] = some (.bl true) := id rfl
theorem isi_bl_int (b : Bool) : isiD [(.bl b), .ty "int"] = some (.bl true) := id rfl
theorem isi_bl_str (b : Bool) : isiD [(.bl b), .ty "str"] = some (.bl false) := id rfl
theorem isi_bl_tuple (b : Bool) : isiD [(.bl b), .ty "tuple"] = some (.bl false) := id rfl
theorem isi_bl_list (b : Bool) : isiD [(.bl b), .ty "list"] = some (.bl false) := id rfl
theorem isi_int_bool (i : Int) : isiD [(.int i), .ty "bool"] = some (.bl false) := id rfl
theorem isi_int_int (i : Int) : isiD [(.int i), .ty "int"] = some (.bl true) := id rfl
theorem isi_int_str (i : Int) : isiD [(.int i), .ty "str"] = some (.bl false) := id rfl
theorem isi_int_tuple (i : Int) : isiD [(.int i), .ty "tuple"] = some (.bl false) := id rfl
theorem isi_int_list (i : Int) : isiD [(.int i), .ty "list"] = some (.bl false) := id rfl
theorem isi_str_bool (x : List Nat) : isiD [(.str x), .ty "bool"] = some (.bl false) := id rfl
theorem isi_str_int (x : List Nat) : isiD [(.str x), .ty "int"] = some (.bl false) := id rfl
theorem isi_str_str (x : List Nat) : isiD [(.str x), .ty "str"] = some (.bl true) := id rfl
theorem isi_str_tuple (x : List Nat) : isiD [(.str x), .ty "tuple"] = some (.bl false) := id rfl
theorem isi_str_list (x : List Nat) : isiD [(.str x), .ty "list"] = some (.bl false) := id rfl
theorem isi_tup_bool (ds : List D) : isiD [(.tup ds), .ty "bool"] = some (.bl false) := id rfl
theorem isi_tup_int (ds : List D) : isiD [(.tup ds), .ty "int"] = some (.bl false) := id rfl
theorem isi_tup_str (ds : List D) : isiD [(.tup ds), .ty "str"] = some (.bl false) := id rfl
theorem isi_tup_tuple (ds : List D) : isiD [(.tup ds), .ty "tuple"] = some (.bl true) := id rfl
theorem isi_tup_list (ds : List D) : isiD [(.tup ds), .ty "list"] = some (.bl false) := id rfl
theorem isi_lst_bool (ds : List D) : isiD [(.lst ds), .ty "bool"] = some (.bl false) := id rfl
theorem isi_lst_int (ds : List D) : isiD [(.lst ds), .ty "int"] = some (.bl false) := id rfl
theorem isi_lst_str (ds : List D) : isiD [(.lst ds), .ty "str"] = some (.bl false) := id rfl
theorem isi_lst_tuple (ds : List D) : isiD [(.lst ds), .ty "tuple"] = some (.bl false) := id rfl
theorem isi_lst_list (ds : List D) : isiD [(.lst ds), .ty "list"] = some (.bl true) := id rfl
theorem isN_non : isN .non .non = some (.bl true) := id rfl
theorem isN_bl (b : Bool) : isN (.bl b) .non = some (.bl false) := id rfl
theorem isN_int (i : Int) : isN (.int i) .non = some (.bl false) := id rfl
theorem isN_str (x : List Nat) : isN (.str x) .non = some (.bl false) := id rfl
theorem isN_tup (ds : List D) : isN (.tup ds) .non = some (.bl false) := id rfl
theorem isN_lst (ds : List D) : isN (.lst ds) .non = some (.bl false) := id rfl
theorem shp_b (b : Bool) : shp (.bl b) = true := by
  unfold shp SeqAt.shaped
  simp [toPy, PyData.canLay0, PyData.depth]
theorem eqD_b (a b : Bool) : eqD (.bl a) (.bl b) = some (.bl (decide (a = b))) := by
  rw [eqD_of (shp_b a) (shp_b b)]
  unfold eqB
  simp only [toPy, PyData.eqv]
  cases a <;> cases b <;> rfl
theorem neD_b (a b : Bool) : neD (.bl a) (.bl b) = some (.bl (!decide (a = b))) := neD_of (eqD_b a b)
theorem rng_map : ∀ (lo n : Nat), rng (lo : Int) n = (List.range' lo n).map fun (i : Nat) => D.int (i : Int)
  | lo, 0 => rfl
  | lo, n + 1 => by
    have := rng_map (lo + 1) n
    simp only [rng, List.range'_succ, List.map_cons]
    rw [show ((lo : Int) + 1) = ((lo + 1 : Nat) : Int) by omega, this]
theorem rng0_map (n : Nat) : rng 0 n = (List.range n).map fun (i : Nat) => D.int (i : Int) := by
  have := rng_map 0 n
  rw [List.range_eq_range']
  exact this
/-- data that _law_like finds like themselves -/
def Pl : Nat → D → Prop
  | 0, d => flat d = true
  | k + 1, d => flat d = true ∨ ∃ ds, (d = .lst ds ∨ d = .tup ds) ∧ ds.length < 1000 ∧ ∀ x ∈ ds, Pl k x
end Qd
namespace Qd
open PySem PySem.Spec L2
theorem spD_script {K : PySem.W.Frag} {H : Hp} {a : Addr} (ns : List Int) (hS : SqL K H a (ns.map V.int)) {g : FN} (hg : ∃ outs, g [.scr ns] = some (.ok false (.bl true) outs)) : spD K [.sh] g [.ref a] H (fun v _ => v = .bl true) fun _ _ _ => False := by
  obtain ⟨outs, hg⟩ := hg
  refine ⟨⟨fun _ => none, H, fun _ => 0⟩, H, [.scr ns], _, rfl, ⟨rfl, fun _ _ h => h, fun _ _ h => (by cases h), fun _ _ h => Or.inl h, fun _ _ h => h, fun i d h => ?_, fun i k d h hk => ?_, fun i j k l d e p hij h hk => ?_⟩, hg, fun v H' Hs' _ r => ?_⟩
  · match i, h with
    | 0, h =>
      cases h
      exact ⟨.ref a, rfl, a, rfl, hS⟩
    | i + 1, h => simp [mkEn] at h
  · match i, h with
    | 0, h =>
      cases h
      exact absurd rfl hk
    | i + 1, h => simp [mkEn] at h
  · match i, h with
    | 0, h =>
      cases h
      exact absurd rfl hk
    | i + 1, h => simp [mkEn] at h
  · have r : v = .bl true := by simpa [Rp] using r
    exact r
end Qd
namespace Lw
open PySem PySem.Spec L2 Qd Qm
def Sh (x : Option Sl) : Prop := x = none ∨ ∃ d, x = some (.sh, d)
theorem Sh.okk {x : Option Sl} (h : Sh x) : Qd.okk (some x) = true := by
  rcases h with rfl | ⟨d, rfl⟩ <;> rfl
theorem Sh.no : Sh none := .inl rfl
theorem Sh.sh (d : D) : Sh (some (.sh, d)) := .inr ⟨d, rfl⟩
theorem eraseIdx_perm {α : Type} : ∀ (xs : List α) (i : Nat) (w : α), xs[i]? = some w → (w :: xs.eraseIdx i).Perm xs
  | [], _, _, h => by simp at h
  | x :: xs, 0, w, h => by
    simp at h
    subst h
    exact List.Perm.refl _
  | x :: xs, i + 1, w, h => by
    simp at h
    simp only [List.eraseIdx_cons_succ]
    exact (List.Perm.swap x w _).trans ((eraseIdx_perm xs i w h).cons x)
theorem map_eraseIdx {α β : Type} (f : α → β) : ∀ (xs : List α) (n : Nat), (xs.map f).eraseIdx n = (xs.eraseIdx n).map f
  | [], _ => rfl
  | _ :: _, 0 => rfl
  | x :: xs, n + 1 => by simp [map_eraseIdx f xs n]
theorem minD1_ints (i : Int) (is : List Int) : ∃ m, minD1 [.lst ((i :: is).map D.int)] = some (.int m) ∧ m ∈ i :: is := by
  refine ⟨minL i is, ?_, ?_⟩
  · show (intsD (is.map D.int)).map (fun bs => D.int (minL i bs)) = _
    rw [intsD_map]
    rfl
  · rcases (minL_spec i is).1 with h | h
    · rw [h]
      simp
    · exact List.mem_cons.mpr (.inr h)
theorem indexD_ints (is : List Int) (m : Int) (h : m ∈ is) : ∃ j : Nat, indexD (.lst (is.map D.int)) [.int m] = some (.int j) ∧ j < is.length := by
  have e : indexD (.lst (is.map D.int)) [.int m] = (((is.map D.int).findIdx? fun e => eqB e (.int m)).map fun j => .int (j : Nat)) := by
    show (if flat (.int m) && (is.map D.int).all flat then _ else _) = _
    rw [if_pos (by rw [flats_i]; rfl)]
  rw [e]
  have f : ((is.map D.int).findIdx? fun e => eqB e (.int m)).isSome = true := by
    rw [List.findIdx?_isSome, List.any_eq_true]
    exact ⟨.int m, List.mem_map.mpr ⟨m, h, rfl⟩, by rw [eqB_i]; simp⟩
  obtain ⟨j, hj⟩ := Option.isSome_iff_exists.mp f
  rw [hj]
  refine ⟨j, rfl, ?_⟩
  have := (List.findIdx?_eq_some_iff_getElem.mp hj).1
  simpa using this
/-- what a draw does: some number below the given one, and another box -/
theorem rng_len (lo : Int) : ∀ n, (rng lo n).length = n
  | 0 => rfl
  | n + 1 => by simp [rng, rng_len (lo + 1) n]
theorem get_str {xs : List Wd} {n : Nat} (h : n < xs.length) : (xs.map D.str)[n]? = some (.str xs[n]) := by
  simp [List.getElem?_eq_getElem h]
theorem last_iff (z : Wd) (c : Nat) : z.drop (z.length - 1) = [c] ↔ z = z.dropLast ++ [c] := by
  rcases List.eq_nil_or_concat z with rfl | ⟨u, d, rfl⟩
  · simp
  · simp
theorem snoc_cases {x : Wd} (hb : Bin x) (hn : x ≠ []) : x = x.dropLast ++ [48] ∨ x = x.dropLast ++ [49] := by
  rcases List.eq_nil_or_concat x with rfl | ⟨u, d, rfl⟩
  · exact absurd rfl hn
  · have : d = 48 ∨ d = 49 := hb d (by simp)
    rcases this with rfl | rfl <;> simp
/-- the heads that joining leaves, and the joined one -/
theorem perm_map {α β : Type} (f : α → β) {zs l : List β} (p : zs.Perm l) : ∀ ys : List α, l = ys.map f → ∃ ws : List α, zs = ws.map f ∧ ws.Perm ys := by
  induction p with
  | nil =>
    intro ys h
    have : ys = [] := by simpa using h.symm
    subst this
    exact ⟨[], rfl, List.Perm.refl _⟩
  | cons x p ih =>
    intro ys h
    cases ys with
    | nil => cases h
    | cons y ys =>
      simp only [List.map_cons, List.cons.injEq] at h
      obtain ⟨ws, h1, h2⟩ := ih ys h.2
      exact ⟨y :: ws, by simp [h.1, h1], h2.cons y⟩
  | swap x y l =>
    intro ys h
    match ys, h with
    | a :: b :: ys, h =>
      simp only [List.map_cons, List.cons.injEq] at h
      exact ⟨b :: a :: ys, by simp [h.1, h.2.1, h.2.2], List.Perm.swap a b ys⟩
  | trans p q ih1 ih2 =>
    intro ys h
    obtain ⟨ws, h1, h2⟩ := ih2 ys h
    obtain ⟨vs, h3, h4⟩ := ih1 ws h1
    exact ⟨vs, h3, h4.trans h2⟩
def ShO (x : Option Sl) : Prop := Sh x ∨ ∃ d, x = some (.ow, d)
theorem ShO.okk {x : Option Sl} (h : ShO x) : Qd.okk (some x) = true := by
  rcases h with h | ⟨d, rfl⟩
  · exact h.okk
  · rfl
theorem pl_strs (xs : List Wd) (h : xs.length < 1000) : Pl 1 (.lst (xs.map D.str)) := .inr ⟨_, .inl rfl, by simpa using h, fun x hx => by
  obtain ⟨w, _, rfl⟩ := List.mem_map.mp hx
  rfl⟩
end Lw
namespace Qd
open PySem PySem.Spec L2 PyProof.Rows Srt
abbrev P2 := List Nat × (Int ⊕ List Nat)
abbrev Sk := List (Int ⊕ List Nat)
def P2.enc : P2 → D
  | (a, .inl i) => .tup [.str a, .int i]
  | (a, .inr b) => .tup [.str a, .str b]
def P2.vs : P2 → List V
  | (a, .inl i) => [.str ⟨a.toArray⟩, .int i]
  | (a, .inr b) => [.str ⟨a.toArray⟩, .str ⟨b.toArray⟩]
def P2.key (p : P2) : Sk := [.inr p.1, p.2]
def P2.tag : P2 → Bool
  | (_, .inl _) => false
  | (_, .inr _) => true
def shp2 (b : Bool) : Nat → Bool := fun i => i == 0 || b
def ltK (a b : Sk) : Bool := PyProof.Rows.lexLt PyProof.Rows.itemOrd a b
abbrev KO : PyProof.Rows.KeyOrd := PyProof.Rows.listOrd PyProof.Rows.itemOrd
theorem ltK_asym {a b : Sk} (h : ltK a b = true) : ltK b a = false := by
  cases q : ltK b a with
  | false => rfl
  | true =>
    have := KO.trans a b a h q
    rw [KO.irrefl] at this
    cases this
theorem ltK_tr {a b c : Sk} (h1 : ltK b a = false) (h2 : ltK c b = false) : ltK c a = false := by
  cases q : ltK c a with
  | false => rfl
  | true =>
    rcases KO.negTrans c b a q with h | h
    · exact absurd (h2.symm.trans h) (by decide)
    · exact absurd (h1.symm.trans h) (by decide)
def rSortT2 (K : PySem.W.Frag) : List V → Hp → VK → Prop := fun vs H Q => ∃ (b : Bool) (a : Addr) (zs : List (V × P2)), vs = [.ref a] ∧ SqL K H a (zs.map (·.1)) ∧ (∀ z ∈ zs, z.2.tag = b ∧ ∃ t, z.1 = .ref t ∧ SqT K H t z.2.vs) ∧
  ∀ (ys : List (V × P2)) (p : Addr), ys.Perm zs → ys.Pairwise (fun x y => ltK y.2.key x.2.key = false) → H p = none → Q (.ref p) (upd H p (.lst (ys.map (·.1))))
/-- a value's key in a heap -/
def kfH (h : Heap) (b : Bool) (v : Value) : Sk := (PyProof.Rows.tupKey h (shp2 b) v).getD []
theorem tupKey_of {h : Heap} {t : Addr} {o : Obj} {its : List Value} {n : Nat} {p : P2} {b : Bool} (ho : h.get? t = some o) (hd : o.data = .seq its.toArray n) (hv : Vals p.vs its) (hb : p.tag = b) : PyProof.Rows.tupKey h (shp2 b) (.ref t) = some p.key ∧ ∃ x tk, its[0]? = some (.str x tk) := by
  subst hb
  obtain ⟨a, q⟩ := p
  have e : PyProof.Rows.tupKey h (shp2 (P2.tag (a, q))) (.ref t) = PyProof.Rows.tupItems (shp2 (P2.tag (a, q))) 0 its := by
    simp only [PyProof.Rows.tupKey, ho, hd]
  rw [e]
  cases q with
  | inl i =>
    cases hv with
    | cons r1 hv =>
      cases hv with
      | cons r2 hv =>
        cases hv
        obtain ⟨t1, rfl⟩ := r1
        obtain ⟨t2, rfl⟩ := r2
        exact ⟨by simp [PyProof.Rows.tupItems, shp2, P2.tag, P2.key], _, t1, rfl⟩
  | inr c =>
    cases hv with
    | cons r1 hv =>
      cases hv with
      | cons r2 hv =>
        cases hv
        obtain ⟨t1, rfl⟩ := r1
        obtain ⟨t2, rfl⟩ := r2
        exact ⟨by simp [PyProof.Rows.tupItems, shp2, P2.tag, P2.key], _, t1, rfl⟩
theorem tupsOf_mk {h : Heap} {b : Bool} : ∀ {vs : List Value}, (∀ v ∈ vs, ∃ f, PyProof.Rows.TupOf h (shp2 b) v f) → ∃ fs, PyProof.Rows.TupsOf h (shp2 b) vs fs ∧ fs.length = vs.length
  | [], _ => ⟨[], .nil, rfl⟩
  | v :: vs, hv => by
    obtain ⟨f, hf⟩ := hv v (by simp)
    obtain ⟨fs, h1, h2⟩ := tupsOf_mk (vs := vs) fun u hu => hv u (List.mem_cons_of_mem _ hu)
    exact ⟨f :: fs, .cons hf h1, by simp [h2]⟩
theorem cr_sortedT2 {X : Cx} : CallR X (.builtin "sorted") (rSortT2 X.K) := by
  intro pins s σ H vs us Q I r h
  obtain ⟨b, a, zs, rfl, hs, hz, q⟩ := h
  obtain ⟨its, rv, hl, hlen⟩ := I.list hs
  obtain ⟨u, rfl, ru⟩ := vals1 r
  obtain rfl : u = Value.ref a := ru
  obtain ⟨e1, e2⟩ := refs_back rv fun x m => by
    obtain ⟨z, hz1, rfl⟩ := List.mem_map.mp m
    obtain ⟨_, t, e, _⟩ := hz z hz1
    exact ⟨t, e⟩
  have hlz : its.length = zs.length := by
    have := rv.length
    rw [List.length_map] at this
    exact this.symm
  -- what each item is
  have item : ∀ w ∈ its.zip zs, ∃ t, w.1 = .ref t ∧ w.2.1 = .ref t ∧ w.2.2.tag = b ∧ ∃ o its2 n, s.heap.get? t = some o ∧ o.cls = .type "tuple" ∧ o.data = .seq (List.toArray its2) n ∧ Vals w.2.2.vs its2 := fun w hw => by
    have hwz : w.2 ∈ zs := (List.of_mem_zip hw).2
    have hwi : w.1 ∈ its := (List.of_mem_zip hw).1
    obtain ⟨ht, t, e, st⟩ := hz w.2 hwz
    obtain ⟨t', et⟩ := e2 w.1 hwi
    have hb : w.2.1 = backV w.1 := by
      obtain ⟨i, hi, rfl⟩ := List.getElem_of_mem hw
      rw [List.getElem_zip]
      have := congrArg (fun l => l[i]?) e1
      simp only [List.getElem?_map] at this
      rw [List.length_zip] at hi
      rw [List.getElem?_eq_getElem (by omega), List.getElem?_eq_getElem (by omega)] at this
      simpa using this
    rw [et] at hb
    rw [e] at hb
    cases hb
    obtain ⟨its2, r2, ⟨o, ho, hc, n, hd⟩, _⟩ := I.tuple st
    exact ⟨t, et, e, ht, o, its2, n, ho, hc, hd, r2⟩
  have key : ∀ w ∈ its.zip zs, kfH s.heap b w.1 = w.2.2.key := fun w hw => by
    obtain ⟨t, h1, h2, h3, o, its2, n, ho, hc, hd, r2⟩ := item w hw
    unfold kfH
    rw [h1, (tupKey_of ho hd r2 h3).1]
    rfl
  have inZip : ∀ v ∈ its, ∃ z, (v, z) ∈ its.zip zs := fun v hv => by
    obtain ⟨i, hi, rfl⟩ := List.getElem_of_mem hv
    exact ⟨zs[i], List.mem_iff_getElem.mpr ⟨i, by rw [List.length_zip]; omega, by simp⟩⟩
  refine SrtO.sorted_ord (ltv := fun v u => ltK (kfH s.heap b v) (kfH s.heap b u)) ⟨fun x y h => ltK_asym h, fun x y z h1 h2 => ltK_tr h1 h2⟩ hl.isList (by rw [← rv.length]; exact hlen) (fun h2 h₁ l ha kk => ?_) fun out hs2 hb2 => ?_
  · intro h' keep
    have look : ∀ v ∈ its, PyProof.Rows.tupKey h' (shp2 b) v = some (kfH s.heap b v) ∧ ∃ f, PyProof.Rows.TupOf h' (shp2 b) v f := fun v hv => by
      obtain ⟨z, hw⟩ := inZip v hv
      obtain ⟨t, e, _, h3, o, its2, n, ho, hc, hd, r2⟩ := item _ hw
      have e : v = .ref t := e
      subst e
      have hlt : t ≠ l := fun z => by
        subst z
        have := (kk t o ho).2
        rw [ha] at this
        cases this
        exact absurd (Value.type.inj hc) (by decide)
      have ho' : h'.get? t = some o := keep t o hlt ((kk t o ho).2)
      obtain ⟨k1, x, tk, k2⟩ := tupKey_of ho' hd r2 h3
      obtain ⟨k3, _⟩ := tupKey_of ho hd r2 h3
      refine ⟨by unfold kfH; rw [k1, k3]; rfl, .str x tk, t, o, _, n, rfl, ho', hc, hd, by simpa using k2, fun z => ?_, fun _ => ⟨x, tk, rfl⟩⟩
      simp [shp2] at z
    refine ⟨tuples' true, fun Q E hq => ?_, fun p q hp hq => ?_⟩
    · obtain ⟨fs, h1, h2'⟩ := tupsOf_mk (h := h') (b := b) fun v hv => (look v hv).2
      exact PyProof.Rows.tup_kind (s := { s with heap := h' }) (by omega) h1 hq
    · exact PyProof.Rows.tup_ltAt (s := { s with heap := h' }) (shape := shp2 b) true _ _ p.1 q.1 _ _ (look p.1 hp).1 (look q.1 hq).1 ⟨rfl, rfl⟩
  · have hpm : out.Perm ((its.zip zs).map (·.1)) := by
      rw [List.map_fst_zip (by omega)]
      exact hb2.perm
    obtain ⟨ws, e3, pw⟩ := Lw.perm_map (fun w : Value × (V × P2) => w.1) hpm (its.zip zs) rfl
    have hback : out.map backV = (ws.map (·.2)).map (·.1) := by
      rw [e3, List.map_map, List.map_map]
      refine List.map_congr_left fun w hw => ?_
      obtain ⟨t, h1, h2, _⟩ := item w (pw.mem_iff.mp hw)
      show backV w.1 = w.2.1
      rw [h1, h2]
      rfl
    have h3 : ∀ u ∈ out, ∃ a, u = Value.ref a := fun u hu => e2 u (hb2.perm.mem_iff.mp hu)
    obtain ⟨n, hn⟩ := sortedAll_at s.heap its out.toArray
    refine ⟨.ref (s.heap.objs.size + 1), upd H (s.heap.objs.size + 1) (.lst (out.map backV)), I.laid (t' := s.toks) (fun b o e => sortedAll_old e) (Nat.le_succ _) ⟨?_, out, n, vals_back h3, hn⟩, rfl, ?_⟩
    · rw [List.length_map, hb2.perm.length_eq, ← rv.length]
      exact hlen
    · rw [hback]
      refine q (ws.map (·.2)) _ ?_ ?_ (I.hok.fresh (Nat.le_succ _))
      · have := pw.map (fun w : Value × (V × P2) => w.2)
        rwa [List.map_snd_zip (by omega)] at this
      · refine List.pairwise_map.mpr ?_
        have hs3 : ws.Pairwise fun x y => ltK (kfH s.heap b y.1) (kfH s.heap b x.1) = false := by
          have hs4 : List.Pairwise (fun x y => ltK (kfH s.heap b y) (kfH s.heap b x) = false) out := hs2
          rw [e3] at hs4
          exact List.pairwise_map.mp hs4
        refine (List.Pairwise.imp_of_mem (fun {x y} hx hy h => ?_) hs3)
        rwa [key x (pw.mem_iff.mp hx), key y (pw.mem_iff.mp hy)] at h
end Qd
namespace Qd
open PySem PySem.Spec L2
theorem ltK_irr (a : Sk) : ltK a a = false := KO.irrefl a
def insP (x : P2) : List P2 → List P2
  | [] => [x]
  | y :: r => if ltK y.key x.key = true then y :: insP x r else x :: y :: r
def sortP : List P2 → List P2
  | [] => []
  | x :: r => insP x (sortP r)
theorem insP_perm (x : P2) : ∀ l, (insP x l).Perm (x :: l)
  | [] => List.Perm.refl _
  | y :: r => by
    unfold insP
    split
    · exact ((insP_perm x r).cons y).trans (List.Perm.swap x y r)
    · exact List.Perm.refl _
theorem sortP_perm : ∀ l, (sortP l).Perm l
  | [] => List.Perm.refl _
  | x :: r => (insP_perm x (sortP r)).trans ((sortP_perm r).cons x)
abbrev SrP (l : List P2) : Prop := l.Pairwise fun x y => ltK y.key x.key = false
theorem insP_sorted (x : P2) : ∀ l, SrP l → SrP (insP x l)
  | [], _ => List.pairwise_singleton _ _
  | y :: r, h => by
    obtain ⟨h1, h2⟩ := List.pairwise_cons.mp h
    unfold insP
    split
    · rename_i c
      refine List.pairwise_cons.mpr ⟨fun z hz => ?_, insP_sorted x r h2⟩
      rcases List.mem_cons.mp ((insP_perm x r).mem_iff.mp hz) with e | hz
      · rw [e]
        exact ltK_asym c
      · exact h1 z hz
    · rename_i c
      have c : ltK y.key x.key = false := Bool.eq_false_iff.mpr c
      refine List.pairwise_cons.mpr ⟨fun z hz => ?_, h⟩
      rcases List.mem_cons.mp hz with e | hz
      · rw [e]
        exact c
      · exact ltK_tr c (h1 z hz)
theorem sortP_sorted : ∀ l, SrP (sortP l)
  | [] => List.Pairwise.nil
  | x :: r => insP_sorted x _ (sortP_sorted r)
theorem key_inj {x y : P2} (h : x.key = y.key) : x = y := by
  obtain ⟨a, q⟩ := x
  obtain ⟨b, r⟩ := y
  unfold P2.key at h
  simp only [List.cons.injEq, Sum.inr.injEq, and_true] at h
  rw [h.1, h.2]
theorem srP_uniq : ∀ {l m : List P2}, SrP l → SrP m → l.Perm m → l = m
  | [], m, _, _, p => (List.Perm.eq_nil p.symm).symm
  | x :: l, [], _, _, p => absurd p.length_eq (by simp)
  | x :: l, y :: m, hl, hm, p => by
    obtain ⟨l1, l2⟩ := List.pairwise_cons.mp hl
    obtain ⟨m1, m2⟩ := List.pairwise_cons.mp hm
    have h1 : ltK x.key y.key = false := by
      rcases List.mem_cons.mp (p.mem_iff.mp (List.mem_cons_self (a := x) (l := l))) with e | hx
      · rw [e]
        exact ltK_irr _
      · exact m1 x hx
    have h2 : ltK y.key x.key = false := by
      rcases List.mem_cons.mp (p.mem_iff.mpr (List.mem_cons_self (a := y) (l := m))) with e | hy
      · rw [e]
        exact ltK_irr _
      · exact l1 y hy
    have e : x = y := key_inj (KO.total _ _ h1 h2)
    subst e
    rw [srP_uniq l2 m2 p.cons_inv]
theorem sortP_uniq {ys xs : List P2} (p : ys.Perm xs) (h : SrP ys) : ys = sortP xs := srP_uniq h (sortP_sorted xs) (p.trans (sortP_perm xs).symm)
theorem sortP_congr {xs ys : List P2} (p : xs.Perm ys) : sortP xs = sortP ys := srP_uniq (sortP_sorted xs) (sortP_sorted ys) ((sortP_perm xs).trans (p.trans (sortP_perm ys).symm))
theorem sortP_len (xs : List P2) : (sortP xs).length = xs.length := (sortP_perm xs).length_eq
def p2D : D → Option P2
  | .tup [.str a, .int i] => some (a, .inl i)
  | .tup [.str a, .str b] => some (a, .inr b)
  | _ => none
theorem p2D_enc (p : P2) : p2D p.enc = some p := by
  obtain ⟨a, q⟩ := p
  cases q <;> rfl
theorem p2D_eq {d : D} {p : P2} (h : p2D d = some p) : d = p.enc := by
  unfold p2D at h
  split at h <;> first | (cases h; rfl) | cases h
def p2s : List D → Option (List P2)
  | [] => some []
  | d :: ds => (p2D d).bind fun p => (p2s ds).map fun ps => p :: ps
theorem p2s_enc : ∀ ps : List P2, p2s (ps.map P2.enc) = some ps
  | [] => rfl
  | p :: ps => by
    show (p2D p.enc).bind (fun p => (p2s (ps.map P2.enc)).map fun ps => p :: ps) = _
    rw [p2D_enc, p2s_enc ps]
    rfl
theorem p2s_eq : ∀ {ds : List D} {ps : List P2}, p2s ds = some ps → ds = ps.map P2.enc
  | [], _, h => by cases h; rfl
  | d :: ds, _, h => by
    obtain ⟨p, h1, h⟩ := Option.bind_eq_some_iff.mp (show (p2D d).bind (fun p => (p2s ds).map fun ps => p :: ps) = some _ from h)
    obtain ⟨ps, h2, h3⟩ := Option.map_eq_some_iff.mp h
    cases h3
    rw [p2D_eq h1, p2s_eq h2]
    rfl
def tags (ps : List P2) : Bool := ps.all P2.tag || ps.all fun p => !p.tag
def sortT : List D → Option D
  | [.lst ds] => (p2s ds).bind fun ps => if tags ps then some (.lst ((sortP ps).map P2.enc)) else none
  | _ => none
theorem sortT_eq (ps : List P2) (h : tags ps = true) : sortT [.lst (ps.map P2.enc)] = some (.lst ((sortP ps).map P2.enc)) := by
  show (p2s (ps.map P2.enc)).bind (fun ps => if tags ps then some (D.lst ((sortP ps).map P2.enc)) else none) = _
  rw [p2s_enc, Option.bind_some, if_pos h]
/-- a new thing, whose object is told with its address -/
def CFx (K : PySem.W.Frag) (r : List V → Hp → VK → Prop) (g : List D → Option D) : Prop := ∀ (Hs H : Hp) (ds : List D) (z : D) (vs : List V), Same Hs H → Pks K Hs H ds vs → g ds = some z → ∀ Q : VK, (∀ p o, H p = none → Own K Hs (upd H p o) p z → Q (.ref p) (upd H p o)) → r vs H Q
section
variable {X : Cx} {K : PySem.W.Frag} {σ : L2.St} {H : Hp}
theorem aFx {r : List V → Hp → VK → Prop} {g : List D → Option D} {fa : FA} (hs : CFx K r g) {Q : VK} (h : rdF K (eA g fa) σ H Q) : tCB r (rdA K fa) σ H Q := by
  obtain ⟨x, env, Hs, d, env', I, hf, k⟩ := h
  obtain ⟨⟨os, e2⟩, h1, h2⟩ := Option.bind_eq_some_iff.mp hf
  obtain ⟨ds, h3, h4⟩ := Option.bind_eq_some_iff.mp h2
  obtain ⟨z, h5, h6⟩ := Option.map_eq_some_iff.mp h4
  cases h6
  refine ⟨x, env, Hs, os, _, I, h1, fun vs H' Hs' I' s o => ?_⟩
  exact hs Hs' H' ds _ vs I'.ex (I'.pks o h3) h5 Q fun p ob hp ho => k p _ Hs' (I'.new hp) s ho (I'.hs_none hp) (I'.fm_none hp) (I'.apart hp)
theorem df_callBx {id : String} {n : Str} {r : List V → Hp → VK → Prop} {g : List D → Option D} {e : Expr} {es : List Expr} {fa : FA} {p pos : Pos} (hc : CallR X (.builtin id) r) (hs : CFx X.K r g) (hm : X.mg n = none) (hv : bootBuiltins n = some (.builtin id)) (ha : DA X (e :: es) fa)
    (hg : Gl X n := by rfl) (hn : n ≠ "__name__" := by decide) (hdb : (n == ("__debug__" : Str)) = false := by decide)
    (he : starEach (e :: es) X.env = (false, eval e X.env) :: starEach es X.env := by rfl) (hpl : (backTo pos (starEach es X.env)).any (·.1) = false := by rfl) : DF X (.Call (.Name n p) (e :: es) [] pos) (eA g fa) :=
  imp (pe_callB hc hg hm hv ha hn hdb he hpl) fun _ _ _ h => aFx hs h
theorem rp_enc {Hs : Hp} {p : P2} {v : V} (h : Rp K Hs p.enc v) : ∃ t, v = .ref t ∧ SqT K Hs t p.vs := by
  obtain ⟨a, q⟩ := p
  cases q <;> (simp only [P2.enc, Rp, Rps] at h; obtain ⟨t, vs, h1, h2, v1, r1, h3, h4, v2, r2, h5, h6, h7⟩ := h; subst h7 h5 h3 h6 h4 ; exact ⟨t, h1, h2⟩)
theorem Rps.zip {Hs : Hp} : ∀ {ps : List P2} {vs : List V}, Rps K Hs (ps.map P2.enc) vs → ∃ zs : List (V × P2), zs.map (·.1) = vs ∧ zs.map (·.2) = ps ∧ ∀ z ∈ zs, Rp K Hs z.2.enc z.1
  | [], vs, h => by
    simp only [List.map_nil, Rps] at h
    exact ⟨[], h.symm, rfl, fun _ h => absurd h (by simp)⟩
  | p :: ps, vs, h => by
    simp only [List.map_cons, Rps] at h
    obtain ⟨v, r, rfl, h1, h2⟩ := h
    obtain ⟨zs, e1, e2, e3⟩ := Rps.zip h2
    refine ⟨(v, p) :: zs, by simp [e1], by simp [e2], fun z hz => ?_⟩
    rcases List.mem_cons.mp hz with rfl | hz
    · exact h1
    · exact e3 z hz
theorem Rps.of_zip {Hs : Hp} : ∀ {zs : List (V × P2)}, (∀ z ∈ zs, Rp K Hs z.2.enc z.1) → Rps K Hs ((zs.map (·.2)).map P2.enc) (zs.map (·.1))
  | [], _ => by simp only [List.map_nil, Rps]
  | z :: zs, h => by
    simp only [List.map_cons, Rps]
    exact ⟨_, _, rfl, h z (by simp), Rps.of_zip fun y hy => h y (by simp [hy])⟩
theorem cfx_sortT : CFx K (rSortT2 K) sortT := by
  intro Hs H ds z vs ex ps h Q q
  match ds, h with
  | [.lst ds], h =>
    obtain ⟨v, rfl, p⟩ := pks1 ps
    obtain ⟨a, vs, rfl, h2, h3⟩ := p
    obtain ⟨xs, hb, h⟩ := Option.bind_eq_some_iff.mp (show (p2s ds).bind (fun ps => if tags ps then some (D.lst ((sortP ps).map P2.enc)) else none) = some z from h)
    split at h
    · rename_i ht
      cases h
      rw [p2s_eq hb] at h3
      obtain ⟨zs, e1, e2, e3⟩ := h3.zip
      obtain ⟨b, hb⟩ : ∃ b, ∀ p ∈ xs, p.tag = b := by
        rcases Bool.or_eq_true_iff.mp ht with c | c
        · exact ⟨true, fun p hp => List.all_eq_true.mp c p hp⟩
        · exact ⟨false, fun p hp => by simpa using List.all_eq_true.mp c p hp⟩
      refine ⟨b, a, zs, rfl, by rw [e1]; exact SqL.of h2, fun z hz => ⟨hb _ (by rw [← e2]; exact List.mem_map.mpr ⟨z, hz, rfl⟩), ?_⟩, fun ys p py sy hp => ?_⟩
      · obtain ⟨t, h4, h5⟩ := rp_enc (e3 z hz)
        exact ⟨t, h4, same_sqT ex h5⟩
      · refine q p _ hp ⟨_, upd_same, ?_⟩
        have e4 : ys.map (·.2) = sortP xs := by
          refine sortP_uniq ?_ (List.pairwise_map.mpr sy)
          rw [← e2]
          exact py.map _
        rw [← e4]
        exact Rps.of_zip fun z hz => e3 z (py.mem_iff.mp hz)
    · cases h
end
end Qd
namespace Qd
open PySem PySem.Spec L2
section
variable {X : Cx} {K : PySem.W.Frag}
def iLT (fo : FO) : FI := fun env => (fo env).bind fun p => match fetch p.2 p.1 with
  | some (.lst ds) => some (ds, bOf p.1 (.lst ds), p.2)
  | some (.tup ds) => some (ds, bOf p.1 (.tup ds), p.2)
  | _ => none
theorem di_lt {tg l : Expr} {fo : FO} (h : DO X l fo) : DI X tg l (iLT fo) := ⟨fun pins s σ H R I hq => by
  obtain ⟨x, env, Hs, items, bs, env', I0, hf, k⟩ := hq
  unfold iLT at hf
  obtain ⟨⟨o, e1⟩, h1, hf2⟩ := Option.bind_eq_some_iff.mp hf
  have hf3 : (match fetch e1 o with
    | some (.lst ds) => some (ds, bOf o (.lst ds), e1)
    | some (.tup ds) => some (ds, bOf o (.tup ds), e1)
    | _ => none) = some (items, bs, env') := hf2
  clear hf hf2
  split at hf3
  · rename_i ds hd
    cases hf3
    exact (di_list h).run pins s σ H R I ⟨x, env, Hs, _, _, _, I0, by unfold iL; rw [h1, Option.bind_some]; simp only [hd], k⟩
  · rename_i ds hd
    cases hf3
    exact (di_tup h).run pins s σ H R I ⟨x, env, Hs, _, _, _, I0, by unfold iT; rw [h1, Option.bind_some]; simp only [hd], k⟩
  · cases hf3⟩
end
mutual
/-- data as it lies in the written part -/
def rpB (K : PySem.W.Frag) : D → V → Bool
  | .non, v => decide (v = .non)
  | .bl b, v => decide (v = .bl b)
  | .int i, v => decide (v = .int i)
  | .str x, v => decide (v = .str ⟨x.toArray⟩)
  | .tup ds, v => (match v with
    | .ref a => (match K.lookup a with
      | some ⟨.type c, _, .seq its _, _⟩ => decide (c = "tuple") && (decide (its.size ≤ sizeLine) && rpsB K ds its.toList)
      | _ => false)
    | _ => false)
  | _, _ => false
def rpsB (K : PySem.W.Frag) : List D → List Value → Bool
  | [], us => us.isEmpty
  | d :: ds, us => (match us with
    | u :: r => (match absV u with
      | some v => rpB K d v && rpsB K ds r
      | none => false)
    | [] => false)
end
theorem absV_rel {u : Value} {v : V} (h : absV u = some v) : RelV v u := by
  cases u <;> simp only [absV] at h <;> first | (cases h; done) | (cases h; first | rfl | exact ⟨_, rfl⟩)
mutual
theorem rpB_ok {K : PySem.W.Frag} : ∀ (d : D) {v : V}, rpB K d v = true → ∀ H, Rp K H d v
  | .non, v, h, H => by simp only [rpB] at h; simp only [Rp]; exact of_decide_eq_true h
  | .bl b, v, h, H => by simp only [rpB] at h; simp only [Rp]; exact of_decide_eq_true h
  | .int i, v, h, H => by simp only [rpB] at h; simp only [Rp]; exact of_decide_eq_true h
  | .str x, v, h, H => by simp only [rpB] at h; simp only [Rp]; exact of_decide_eq_true h
  | .tup ds, v, h, H => by
    simp only [rpB] at h
    split at h
    · rename_i a
      split at h
      · rename_i c od its n sl hk
        obtain ⟨h1, h⟩ := He.ba h
        obtain ⟨h2, h3⟩ := He.ba h
        have h1 := of_decide_eq_true h1
        have h2 := of_decide_eq_true h2
        subst h1
        obtain ⟨vs, r1, r2⟩ := rpsB_ok ds h3
        simp only [Rp]
        exact ⟨a, vs, rfl, .inr ⟨_, its, n, hk, rfl, rfl, h2, r1⟩, r2 H⟩
      · cases h
    · cases h
  | .lst _, v, h, _ => by simp only [rpB] at h; cases h
  | .dic _, v, h, _ => by simp only [rpB] at h; cases h
  | .fdic _, v, h, _ => by simp only [rpB] at h; cases h
  | .obj _ _, v, h, _ => by simp only [rpB] at h; cases h
  | .scr _, v, h, _ => by simp only [rpB] at h; cases h
  | .cls _, v, h, _ => by simp only [rpB] at h; cases h
  | .ty _, v, h, _ => by simp only [rpB] at h; cases h
theorem rpsB_ok {K : PySem.W.Frag} : ∀ (ds : List D) {us : List Value}, rpsB K ds us = true → ∃ vs, Vals vs us ∧ ∀ H, Rps K H ds vs
  | [], us, h => by
    simp only [rpsB] at h
    have : us = [] := List.isEmpty_iff.mp h
    subst this
    exact ⟨[], .nil, fun H => by simp only [Rps]⟩
  | d :: ds, us, h => by
    simp only [rpsB] at h
    split at h
    · rename_i u r
      split at h
      · rename_i v hv
        obtain ⟨h1, h2⟩ := He.ba h
        obtain ⟨vs, r1, r2⟩ := rpsB_ok ds h2
        exact ⟨v :: vs, .cons (absV_rel hv) r1, fun H => by simp only [Rps]; exact ⟨_, _, rfl, rpB_ok d h1 H, r2 H⟩⟩
      · cases h
    · cases h
end
end Qd
namespace Qd
open PySem PySem.Spec L2
section
variable {X : Cx} {K : PySem.W.Frag}
def par2 (i j : Nat) (e : En) : List D → Option Out
  | [d1, d2] => if okSet e i && okSet e j then some (.nx ((e.set i (some (.sh, d1))).set j (some (.sh, d2)))) else none
  | _ => none
def sPar (i j : Nat) (fa : FA) : FS := fun env => (fa env).bind fun p => (allD p.1).bind (par2 i j p.2)
theorem ds_par (i j : Nat) {x y : Str} {a b : Expr} {fa : FA} {px py pt pos : Pos} {kt k2 pt2} (hc : X.calm = true) (hN : X.N.Nodup) (ha : DA X [a, b] fa) (hi : X.N[i]? = some x := by rfl) (hj : X.N[j]? = some y := by rfl) (hij : i ≠ j := by decide)
    (hx : X.env.scope.names.lookup x = some .local := by rfl) (hy : X.env.scope.names.lookup y = some .local := by rfl)
    (hw : swappedStores [.Tuple [.Name x px, .Name y py] kt pt] (.Tuple [a, b] k2 pt2) X.env = pure (some [x, y]) := by rfl)
    (hs : swapsWithSole [.Tuple [.Name x px, .Name y py] kt pt] (.Tuple [a, b] k2 pt2) pos.line X.env = pure false := by rfl) : DS X (.Assign [.Tuple [.Name x px, .Name y py] kt pt] (.Tuple [a, b] k2 pt2) pos) (sPar i j fa) := impS (ps_par hc hN hi hj hij hx hy ha hw hs) fun Z σ H h => by
  obtain ⟨x, env, Hs, o, I, hf, k⟩ := h
  obtain ⟨⟨os, e1⟩, h1, hf⟩ := Option.bind_eq_some_iff.mp hf
  obtain ⟨ds, h2, hf⟩ := Option.bind_eq_some_iff.mp hf
  have e0 : os = ds.map Ov.d := allD_eq h2
  refine ⟨x, env, Hs, os, e1, I, h1, fun vs H1 Hs1 I1 s1 o1 => ?_⟩
  rw [e0] at o1
  have rs := o1.rps
  unfold par2 at hf
  split at hf
  · rename_i d1 d2
    split at hf
    · rename_i hk
      cases hf
      simp only [Rps] at rs
      obtain ⟨v1, r1, rfl, q1, v2, r2, rfl, q2, rfl⟩ := rs
      obtain ⟨ki, kj⟩ := Bool.and_eq_true_iff.mp hk
      have hil : i < e1.length := by
        unfold okSet at ki
        split at ki
        · cases ki
        · rename_i hq
          exact (List.getElem?_eq_some_iff.mp hq).1
        · cases ki
      have hjl : j < e1.length := by
        unfold okSet at kj
        split at kj
        · cases kj
        · rename_i hq
          exact (List.getElem?_eq_some_iff.mp hq).1
        · cases kj
      refine ⟨v1, v2, rfl, k _ H1 Hs1 ((I1.setSh (by rw [← I1.len]; exact hil) q1).setSh (by rw [List.length_set, ← I1.len]; exact hjl) q2) s1⟩
    · cases hf
  · cases hf
end
end Qd
namespace Lw
open PySem PySem.Spec L2 Qd
def FU : Nat := 1000000
def topS (i : Nat) : Stmt := PySem.Challenge.pw_headswap_k11_what_rows_go_to.main.body.getD i (.Pass ⟨0, 0, 0, 0⟩)
def clsS (s : Stmt) (j : Nat) : Stmt := match s with
  | .ClassDef _ _ _ b _ _ _ _ _ _ _ => b.getD j (.Pass ⟨0, 0, 0, 0⟩)
  | s => s
structure Gm (K : PySem.W.Frag) (mg : Str → Option Value) : Prop where
  m_all : mg "all" = none
  m_len : mg "len" = none
  m_any : mg "any" = none
  m_enumerate : mg "enumerate" = none
  m_sorted : mg "sorted" = none
  m_zip : mg "zip" = none
  m_max : mg "max" = none
  m_min : mg "min" = none
  m_range : mg "range" = none
  m_list : mg "list" = none
  m_int : mg "int" = none
  m_isinstance : mg "isinstance" = none
  m_bool : mg "bool" = none
  m_str : mg "str" = none
  m_tuple : mg "tuple" = none
  m_dict : mg "dict" = none
  c_SIGNS : ∃ t, mg "SIGNS" = some (.str (S [48, 49]) t)
  c_LONGEST : ∃ t, mg "LONGEST" = some (.int 60 t)
  c_MOST_ROWS : ∃ t, mg "MOST_ROWS" = some (.int 64 t)
  k_Endless : Cls K (He.ga K "Endless")
  k_Swap : Cls K (He.ga K "Swap")
  n_Endless_begun : NoAttr K (He.ga K "Endless") "begun"
  n_Endless_round : NoAttr K (He.ga K "Endless") "round"
  n_Swap_kept : NoAttr K (He.ga K "Swap") "kept"
  v_Endless : mg "Endless" = some (.ref (He.ga K "Endless"))
  v_Swap : mg "Swap" = some (.ref (He.ga K "Swap"))
  i_Endless : C8.InsC K (He.ga K "Endless")
  i_Swap : C8.InsC K (He.ga K "Swap")
def F_is_signs : FS :=
  sRet (eA allB (aCons (oE (eLc (iS (oE (eVar 0))) [1] (gN 1) (eK (.bl true)) (eOp2 inD (oS 1) (oE (eK (.str [48, 49])))))) aNil))
abbrev st_is_signs : Stmt := topS 11
theorem sc_is_signs : FnScope ["text", "sign"] ["text"] (defScope st_is_signs) := ⟨rfl, rfl, rfl, by decide +kernel, rfl, by decide +kernel, by decide +kernel⟩
theorem ok_is_signs {P : Program} {w : World} {K : PySem.W.Frag} {mg : Str → Option Value} {base : Heap} {k : Nat} {f : Addr} {fd : FuncData} (G : Gm K mg) (FD : FunD K "is_signs" "is_signs" (defArgs st_is_signs) (defBody st_is_signs) (defScope st_is_signs) [] [] f fd) (a : mg "is_signs" = some (.ref f))  :
    Kn P w K mg base (k + 1) "is_signs" [.sh] (fnF [.sh] 1 F_is_signs) := by
  refine ⟨f, fd, ["text"], fn_ok FD sc_is_signs rfl (by decide) (fun cdv A outer s H E hr => ?_) (fun ds r h => h), a, FD.kp, FD.bindsN fun _ _ _ _ _ _ us hl => match us, hl with | [_], _ => rfl⟩
  have nd := sc_is_signs.nd
  unfold F_is_signs
  exact dss_one (ds_ret (de_callB (cr_all rfl) cv_all G.m_all (by decide +kernel) (da_cons (do_of (de_frz (df_lc [("sign", 1)] rfl nd (di_str (do_of (de_var 0))) (blkOk_by (by first | rfl | decide +kernel)) (fun _ _ _ _ _ => dg_name 1 nd) (fun _ _ _ _ _ => dts_nil) (fun _ _ _ _ _ => de_cmp2 (op_inX (room65 hr)) ov_in (do_peek 1) (do_of (de_gloS [48, 49] G.c_SIGNS.choose_spec)) (by rfl))))) da_nil)))
def F_is_head (g_is_signs : FN) : FS :=
  sRet (eAnd (eOp2 leD (oE (eA lenD (aCons (oS 0) aNil))) (oE (eK (.int 60)))) (eCall [.sh] g_is_signs (aCons (oE (eVar 0)) aNil)))
abbrev st_is_head : Stmt := topS 12
theorem sc_is_head : FnScope ["text"] ["text"] (defScope st_is_head) := ⟨rfl, rfl, rfl, by decide +kernel, rfl, by decide +kernel, by decide +kernel⟩
theorem ok_is_head {P : Program} {w : World} {K : PySem.W.Frag} {mg : Str → Option Value} {base : Heap} {k : Nat} {f : Addr} {fd : FuncData} (G : Gm K mg) (FD : FunD K "is_head" "is_head" (defArgs st_is_head) (defBody st_is_head) (defScope st_is_head) [] [] f fd) (a : mg "is_head" = some (.ref f)) {g_is_signs : FN} (C_is_signs : Kn P w K mg base k "is_signs" [.sh] g_is_signs) :
    Kn P w K mg base (k + 1) "is_head" [.sh] (fnF [.sh] 0 (F_is_head g_is_signs)) := by
  refine ⟨f, fd, ["text"], fn_ok FD sc_is_head rfl (by decide) (fun cdv A outer s H E hr => ?_) (fun ds r h => h), a, FD.kp, FD.bindsN fun _ _ _ _ _ _ us hl => match us, hl with | [_], _ => rfl⟩
  have nd := sc_is_head.nd
  unfold F_is_head
  exact dss_one (ds_ret (de_and (de_cmp2 op_leD ov_le (do_of (de_callB cr_lenX cv_len G.m_len (by decide +kernel) (da_cons (do_peek 0) da_nil))) (do_of (de_gloI 60 G.c_LONGEST.choose_spec)) (nomark _)) (de_one (de_call C_is_signs hr (da_cons (do_of (de_var 0)) da_nil)))))
def F_need_head (g_is_head : FN) : FS :=
  sIf (eNot (eCall [.sh] g_is_head (aCons (oE (eVar 0)) aNil))) sNo sNil
abbrev st_need_head : Stmt := topS 13
theorem sc_need_head : FnScope ["text"] ["text"] (defScope st_need_head) := ⟨rfl, rfl, rfl, by decide +kernel, rfl, by decide +kernel, by decide +kernel⟩
theorem ok_need_head {P : Program} {w : World} {K : PySem.W.Frag} {mg : Str → Option Value} {base : Heap} {k : Nat} {f : Addr} {fd : FuncData} (G : Gm K mg) (FD : FunD K "need_head" "need_head" (defArgs st_need_head) (defBody st_need_head) (defScope st_need_head) [] [] f fd) (a : mg "need_head" = some (.ref f)) {g_is_head : FN} (C_is_head : Kn P w K mg base k "is_head" [.sh] g_is_head) :
    Kn P w K mg base (k + 1) "need_head" [.sh] (fnF [.sh] 0 (F_need_head g_is_head)) := by
  refine ⟨f, fd, ["text"], fn_ok FD sc_need_head rfl (by decide) (fun cdv A outer s H E hr => ?_) (fun ds r h => h), a, FD.kp, FD.bindsN fun _ _ _ _ _ _ us hl => match us, hl with | [_], _ => rfl⟩
  have nd := sc_need_head.nd
  unfold F_need_head
  exact dss_one (ds_if (dt_not (dt_of (de_call C_is_head hr (da_cons (do_of (de_var 0)) da_nil)))) (dss_one ds_no) dss_nil)
def F_lacking : FS :=
  sSeq (sOw 1 (eDisp .lst (aCons (oE (eK (.str []))) aNil)))
    (sSeq (sWhile FU (eOp2 neD (oS 1) (oE (eDisp .lst aNil))) (sSeq (sG (eMut 1 gPop aNil) (gN 2))
    (sIf (eOp2 notInD (oS 2) (oS 0)) (sSeq (sIf (eNot (eA anyB (aCons (oE (eLk 0 (eLc (iK (eVar 0)) [3] (gN 3) (eK (.bl true)) (eM isStr startsD (oS 3) (aCons (oS 2) aNil))))) aNil))) (sRet (eVar 2)) sNil)
    (sE (eMut 1 gExt (aCons (oE (eDisp .lst (aCons (oE (eOp2 addD (oS 2) (oE (eK (.str [49]))))) (aCons (oE (eOp2 addD (oS 2) (oE (eK (.str [48]))))) aNil)))) aNil)))) sNil)))
    (sRet (eK .non)))
abbrev st_lacking : Stmt := topS 14
theorem sc_lacking : FnScope ["heads", "todo", "here", "head"] ["heads"] (defScope st_lacking) := ⟨rfl, rfl, rfl, by decide +kernel, rfl, by decide +kernel, by decide +kernel⟩
theorem ok_lacking {P : Program} {w : World} {K : PySem.W.Frag} {mg : Str → Option Value} {base : Heap} {k : Nat} {f : Addr} {fd : FuncData} (G : Gm K mg) (FD : FunD K "lacking" "lacking" (defArgs st_lacking) (defBody st_lacking) (defScope st_lacking) [] [] f fd) (a : mg "lacking" = some (.ref f))  :
    Kn P w K mg base (k + 1) "lacking" [.sh] (fnF [.sh] 3 F_lacking) := by
  refine ⟨f, fd, ["heads"], fn_ok FD sc_lacking rfl (by decide) (fun cdv A outer s H E hr => ?_) (fun ds r h => h), a, FD.kp, FD.bindsN fun _ _ _ _ _ _ us hl => match us, hl with | [_], _ => rfl⟩
  have nd := sc_lacking.nd
  unfold F_lacking
  exact dss_cons (ds_own 1 nd (df_lst (da_cons (do_of (de_str [])) da_nil)))
    (dss_cons (ds_while FU PassesOwn.never (dt_cmp2 (op_neX (room64 hr)) ov_ne (do_peek 1) (do_of (de_frz (df_lst da_nil))) (nomark _)) (dss_cons (ds_set 2 nd (de_mut0 1 PySem.F.slot_list_pop PySem.F.type_list_pop mt_pop mm_pop))
    (dss_one (ds_if (dt_cmp2 (op_notInX (room65 hr)) ov_notIn (do_peek 2) (do_peek 0) (by rfl)) (dss_cons (ds_if (dt_not (dt_of (de_callB (cr_any rfl) cv_any G.m_any (by decide +kernel) (da_cons (do_of (de_lk 0 (de_frz (df_lc [("head", 3)] rfl nd (di_keys (de_var 0)) (blkOk_by (by first | rfl | decide +kernel)) (fun _ _ _ _ _ => dg_name 3 nd) (fun _ _ _ _ _ => dts_nil) (fun _ _ _ _ _ => de_m PySem.F.plainAttrs_str PySem.F.slot_str_startswith PySem.F.type_str_startswith mt_startswith ty_str mv_starts (do_peek 3) (da_cons (do_peek 2) da_nil)))))) da_nil)))) (dss_one (ds_ret (de_var 2))) dss_nil)
    (dss_one (ds_expr (de_mut 1 PySem.F.slot_list_extend PySem.F.type_list_extend mt_extend mm_ext (da_cons (do_of (de_frz (df_lst (da_cons (do_of (de_op2 op_addD ov_add (do_peek 2) (do_of (de_str [49])))) (da_cons (do_of (de_op2 op_addD ov_add (do_peek 2) (do_of (de_str [48])))) da_nil))))) da_nil))))) dss_nil))))
    (dss_one (ds_ret de_non)))
def F_trouble (g_lacking : FN) : FS :=
  sSeq (sG (eA sortT (aCons (oE (eLc (iEn (oE (eVar 0))) [4, 2] (gT 2 (gsCons (gN 4) (gsCons (gN 2) gsNil))) (eK (.bl true)) (eDisp .tup (aCons (oE (eVar 2)) (aCons (oE (eVar 4)) aNil))))) aNil)) (gN 1))
    (sSeq (sFor (iZ (oE (eVar 1)) (oE (eSl slL (oS 1) (pAt (eK (.int 1))) pNo))) (gT 2 (gsCons (gT 2 (gsCons (gN 3) (gsCons (gN 4) gsNil))) (gsCons (gT 2 (gsCons (gN 5) (gsCons (gN 6) gsNil))) gsNil))) (sIf (eM isStr startsD (oS 5) (aCons (oS 3) aNil)) (sRet (eDisp .tup (aCons (oE (eK (.str [98, 111, 116, 104]))) (aCons (oE (eA minD2 (aCons (oS 4) (aCons (oS 6) aNil)))) (aCons (oE (eA maxD2 (aCons (oS 4) (aCons (oS 6) aNil)))) aNil))))) sNil))
    (sSeq (sG (eCall [.sh] g_lacking (aCons (oE (eDc (iL (oE (eVar 0))) [2] (gN 2) (eK (.bl true)) (eVar 2) (eK (.bl true)))) aNil)) (gN 2))
    (sRet (eIf (eOp2 isN (oS 2) (oE (eK .non))) (eK .non) (eDisp .tup (aCons (oE (eK (.str [110, 111, 110, 101]))) (aCons (oE (eVar 2)) aNil)))))))
abbrev st_trouble : Stmt := topS 15
theorem sc_trouble : FnScope ["heads", "order", "head", "one", "at", "other", "to"] ["heads"] (defScope st_trouble) := ⟨rfl, rfl, rfl, by decide +kernel, rfl, by decide +kernel, by decide +kernel⟩
theorem ok_trouble {P : Program} {w : World} {K : PySem.W.Frag} {mg : Str → Option Value} {base : Heap} {k : Nat} {f : Addr} {fd : FuncData} (G : Gm K mg) (FD : FunD K "trouble" "trouble" (defArgs st_trouble) (defBody st_trouble) (defScope st_trouble) [] [] f fd) (a : mg "trouble" = some (.ref f)) {g_lacking : FN} (C_lacking : Kn P w K mg base k "lacking" [.sh] g_lacking) :
    Kn P w K mg base (k + 1) "trouble" [.sh] (fnF [.sh] 6 (F_trouble g_lacking)) := by
  refine ⟨f, fd, ["heads"], fn_ok FD sc_trouble rfl (by decide) (fun cdv A outer s H E hr => ?_) (fun ds r h => h), a, FD.kp, FD.bindsN fun _ _ _ _ _ _ us hl => match us, hl with | [_], _ => rfl⟩
  have nd := sc_trouble.nd
  unfold F_trouble
  exact dss_cons (ds_set 1 nd (de_frz (df_callBx cr_sortedT2 cfx_sortT G.m_sorted (by decide +kernel) (da_cons (do_of (de_frz (df_lc [("at", 4), ("head", 2)] rfl nd (di_enum G.m_enumerate (do_of (de_var 0))) (blkOk_by (by first | rfl | decide +kernel)) (fun _ _ _ _ _ => dg_tup rfl (dgs_cons (dg_name 4 nd) (dgs_cons (dg_name 2 nd) dgs_nil))) (fun _ _ _ _ _ => dts_nil) (fun _ _ _ _ _ => de_frz (df_tup (da_cons (do_of (de_var 2)) (da_cons (do_of (de_var 4)) da_nil))))))) da_nil))))
    (dss_cons (ds_for PassesOwn.never rfl (di_zip G.m_zip (do_of (de_var 1)) (do_of (de_frz (df_slL (do_peek 1) (dp_at de_int) dp_no)))) (dg_tup rfl (dgs_cons (dg_tup rfl (dgs_cons (dg_name 3 nd) (dgs_cons (dg_name 4 nd) dgs_nil))) (dgs_cons (dg_tup rfl (dgs_cons (dg_name 5 nd) (dgs_cons (dg_name 6 nd) dgs_nil))) dgs_nil))) (dss_one (ds_if (dt_of (de_m PySem.F.plainAttrs_str PySem.F.slot_str_startswith PySem.F.type_str_startswith mt_startswith ty_str mv_starts (do_peek 5) (da_cons (do_peek 3) da_nil))) (dss_one (ds_ret (de_frz (df_tup (da_cons (do_of (de_str [98, 111, 116, 104])) (da_cons (do_of (de_callB (call_min2 rfl) cv_min2 G.m_min (by decide +kernel) (da_cons (do_peek 4) (da_cons (do_peek 6) da_nil)))) (da_cons (do_of (de_callB (call_max2 rfl) cv_max2 G.m_max (by decide +kernel) (da_cons (do_peek 4) (da_cons (do_peek 6) da_nil)))) da_nil))))))) dss_nil)))
    (dss_cons (ds_set 2 nd (de_call C_lacking hr (da_cons (do_of (de_frz (df_dc [("head", 2)] rfl nd (di_list (do_of (de_var 0))) (blkOk_by (by first | rfl | decide +kernel)) (fun _ _ _ _ _ => dg_name 2 nd) (fun _ _ _ _ _ => dts_nil) (fun _ _ _ _ _ => de_var 2) (fun _ _ _ _ _ => de_bl)))) da_nil)))
    (dss_one (ds_ret (de_if (dt_cmp2 op_isN ov_isN (do_peek 2) (do_of de_non) (nomark _)) de_non (de_frz (df_tup (da_cons (do_of (de_str [110, 111, 110, 101])) (da_cons (do_of (de_var 2)) da_nil)))))))))
def F_shortest_ring : FS :=
  sSeq (sFor (iR2 (eK (.int 1)) (eA lenD (aCons (oS 0) aNil))) (gN 1) (sIf (eAnd (eOp2 eqD (oE (eOp2 modD (oE (eA lenD (aCons (oS 0) aNil))) (oS 1))) (oE (eK (.int 0)))) (eOp2 eqD (oE (eOp2 mulD (oE (eSl slS (oS 0) pNo (pAt (eVar 1)))) (oE (eOp2 fdivD (oE (eA lenD (aCons (oS 0) aNil))) (oS 1))))) (oS 0))) (sRet (eSl slS (oS 0) pNo (pAt (eVar 1)))) sNil))
    (sRet (eVar 0))
abbrev st_shortest_ring : Stmt := topS 19
theorem sc_shortest_ring : FnScope ["ring", "size"] ["ring"] (defScope st_shortest_ring) := ⟨rfl, rfl, rfl, by decide +kernel, rfl, by decide +kernel, by decide +kernel⟩
theorem ok_shortest_ring {P : Program} {w : World} {K : PySem.W.Frag} {mg : Str → Option Value} {base : Heap} {k : Nat} {f : Addr} {fd : FuncData} (G : Gm K mg) (FD : FunD K "shortest_ring" "shortest_ring" (defArgs st_shortest_ring) (defBody st_shortest_ring) (defScope st_shortest_ring) [] [] f fd) (a : mg "shortest_ring" = some (.ref f))  :
    Kn P w K mg base (k + 1) "shortest_ring" [.sh] (fnF [.sh] 1 F_shortest_ring) := by
  refine ⟨f, fd, ["ring"], fn_ok FD sc_shortest_ring rfl (by decide) (fun cdv A outer s H E hr => ?_) (fun ds r h => h), a, FD.kp, FD.bindsN fun _ _ _ _ _ _ us hl => match us, hl with | [_], _ => rfl⟩
  have nd := sc_shortest_ring.nd
  unfold F_shortest_ring
  exact dss_cons (ds_for PassesOwn.never rfl (di_range2 G.m_range de_int (de_callB cr_lenX cv_len G.m_len (by decide +kernel) (da_cons (do_peek 0) da_nil))) (dg_name 1 nd) (dss_one (ds_if (dt_w (dw_and (dt_cmp2 (op_eqX (room64 hr)) ov_eq (do_of (de_op2 op_mod ov_mod (do_of (de_callB cr_lenX cv_len G.m_len (by decide +kernel) (da_cons (do_peek 0) da_nil))) (do_peek 1))) (do_of de_int) (nomark _)) (dw_and1 (dt_cmp2 (op_eqX (room64 hr)) ov_eq (do_of (de_op2 op_mulD ov_mul (do_of (de_slS (do_peek 0) dp_no (dp_at (de_var 1)))) (do_of (de_op2 op_fdivN ov_fdiv (do_of (de_callB cr_lenX cv_len G.m_len (by decide +kernel) (da_cons (do_peek 0) da_nil))) (do_peek 1))))) (do_peek 0) (nomark _))))) (dss_one (ds_ret (de_slS (do_peek 0) dp_no (dp_at (de_var 1))))) dss_nil)))
    (dss_one (ds_ret (de_var 0)))
def F_Endless__settle (g_shortest_ring : FN) : FS :=
  sSeq (sG (eCall [.sh] g_shortest_ring (aCons (oE (eVar 2)) aNil)) (gN 2))
    (sSeq (sWhile FU (eAnd (eOp2 neD (oS 1) (oE (eK (.str [])))) (eOp2 eqD (oE (eOp2 ixD (oS 1) (oE (eNeg (eK (.int 1)))))) (oE (eOp2 ixD (oS 2) (oE (eNeg (eK (.int 1)))))))) (sSeq (sG (eOp2 addD (oE (eOp2 ixD (oS 2) (oE (eNeg (eK (.int 1)))))) (oE (eSl slS (oS 2) pNo (pAt (eNeg (eK (.int 1))))))) (gN 2))
    (sG (eSl slS (oS 1) pNo (pAt (eNeg (eK (.int 1))))) (gN 1))))
    (sSeq (sFd 0 "Endless" "begun" (eVar 1))
    (sFd 0 "Endless" "round" (eVar 2))))
abbrev st_Endless__settle : Stmt := clsS (topS 21) 1
theorem sc_Endless__settle : FnScope ["self", "head", "ring"] ["self", "head", "ring"] (defScope st_Endless__settle) := ⟨rfl, rfl, rfl, by decide +kernel, rfl, by decide +kernel, by decide +kernel⟩
theorem ok_Endless__settle {P : Program} {w : World} {K : PySem.W.Frag} {mg : Str → Option Value} {base : Heap} {k : Nat} {f : Addr} {fd : FuncData} (G : Gm K mg) (FD : FunD K "settle" "Endless.settle" (defArgs st_Endless__settle) (defBody st_Endless__settle) (defScope st_Endless__settle) [] [] f fd) (M : Meth K (He.ga K "Endless") "settle" f) {g_shortest_ring : FN} (C_shortest_ring : Kn P w K mg base k "shortest_ring" [.sh] g_shortest_ring) :
    Km P w K mg base (k + 1) "Endless" "settle" [.pn, .sh, .sh] (fnF [.pn, .sh, .sh] 0 (F_Endless__settle g_shortest_ring)) := by
  refine ⟨f, fd, ["self", "head", "ring"], fn_ok FD sc_Endless__settle rfl (by decide) (fun cdv A outer s H E hr => ?_) (fun ds r h => h), G.k_Endless, M, FD.bindsN fun _ _ _ _ _ _ us hl => match us, hl with | [_, _, _], _ => rfl⟩
  have nd := sc_Endless__settle.nd
  unfold F_Endless__settle
  exact dss_cons (ds_set 2 nd (de_call C_shortest_ring hr (da_cons (do_of (de_var 2)) da_nil)))
    (dss_cons (ds_while FU PassesOwn.never (dt_w (dw_and (dt_cmp2 (op_neX (room64 hr)) ov_ne (do_peek 1) (do_of (de_str [])) (nomark _)) (dw_and1 (dt_cmp2 (op_eqX (room64 hr)) ov_eq (do_of (de_ix (do_peek 1) (do_of (de_neg de_int)))) (do_of (de_ix (do_peek 2) (do_of (de_neg de_int)))) (nomark _))))) (dss_cons (ds_set 2 nd (de_op2 op_addD ov_add (do_of (de_ix (do_peek 2) (do_of (de_neg de_int)))) (do_of (de_slS (do_peek 2) dp_no (dp_at (de_neg de_int))))))
    (dss_one (ds_set 1 nd (de_slS (do_peek 1) dp_no (dp_at (de_neg de_int)))))))
    (dss_cons (ds_fld 0 G.k_Endless G.n_Endless_begun (de_var 1))
    (dss_one (ds_fld 0 G.k_Endless G.n_Endless_round (de_var 2)))))
def F_Endless____init__ (g_need_head : FN) (g_Endless__settle : FN) : FS :=
  sSeq (sE (eCall [.sh] g_need_head (aCons (oE (eVar 1)) aNil)))
    (sSeq (sE (eCall [.sh] g_need_head (aCons (oE (eVar 2)) aNil)))
    (sSeq (sIf (eOp2 eqD (oS 2) (oE (eK (.str [])))) sNo sNil)
    (sE (eMethP 0 "Endless" "settle" [.sh, .sh] g_Endless__settle (aCons (oE (eVar 1)) (aCons (oE (eVar 2)) aNil))))))
abbrev st_Endless____init__ : Stmt := clsS (topS 21) 0
theorem sc_Endless____init__ : FnScope ["self", "head", "ring"] ["self", "head", "ring"] (defScope st_Endless____init__) := ⟨rfl, rfl, rfl, by decide +kernel, rfl, by decide +kernel, by decide +kernel⟩
theorem ok_Endless____init__ {P : Program} {w : World} {K : PySem.W.Frag} {mg : Str → Option Value} {base : Heap} {k : Nat} {f : Addr} {fd : FuncData} (G : Gm K mg) (FD : FunD K "__init__" "Endless.__init__" (defArgs st_Endless____init__) (defBody st_Endless____init__) (defScope st_Endless____init__) [] [] f fd) (a : mg "Endless" = some (.ref (He.ga K "Endless"))) (M : Mk K (He.ga K "Endless") f) {g_need_head : FN} (C_need_head : Kn P w K mg base k "need_head" [.sh] g_need_head) {g_Endless__settle : FN} (C_Endless__settle : Km P w K mg base k "Endless" "settle" [.pn, .sh, .sh] g_Endless__settle) :
    Kc P w K mg base (k + 1) "Endless" [.sh, .sh] (fnF [.pn, .sh, .sh] 0 (F_Endless____init__ g_need_head g_Endless__settle)) := by
  refine ⟨f, fd, ["self", "head", "ring"], fn_ok FD sc_Endless____init__ rfl (by decide) (fun cdv A outer s H E hr => ?_) (fun ds r h => h), M, a, FD.bindsN fun _ _ _ _ _ _ us hl => match us, hl with | [_, _, _], _ => rfl⟩
  have nd := sc_Endless____init__.nd
  unfold F_Endless____init__
  exact dss_cons (ds_expr (de_call C_need_head hr (da_cons (do_of (de_var 1)) da_nil)))
    (dss_cons (ds_expr (de_call C_need_head hr (da_cons (do_of (de_var 2)) da_nil)))
    (dss_cons (ds_if (dt_cmp2 (op_eqX (room64 hr)) ov_eq (do_peek 2) (do_of (de_str [])) (nomark _)) (dss_one ds_no) dss_nil)
    (dss_one (ds_expr (de_methP 0 C_Endless__settle hr (da_cons (do_of (de_var 1)) (da_cons (do_of (de_var 2)) da_nil)))))))
def F_Endless__head : FS :=
  sRet (eFld "Endless" "begun" (oS 0))
abbrev st_Endless__head : Stmt := clsS (topS 21) 2
theorem sc_Endless__head : FnScope ["self"] ["self"] (defScope st_Endless__head) := ⟨rfl, rfl, rfl, by decide +kernel, rfl, by decide +kernel, by decide +kernel⟩
theorem ok_Endless__head {P : Program} {w : World} {K : PySem.W.Frag} {mg : Str → Option Value} {base : Heap} {k : Nat} {f : Addr} {fd : FuncData} (G : Gm K mg) (FD : FunD K "head" "Endless.head" (defArgs st_Endless__head) (defBody st_Endless__head) (defScope st_Endless__head) [] [] f fd) (M : Meth K (He.ga K "Endless") "head" f)  :
    Km P w K mg base (k + 1) "Endless" "head" [.sh] (fnF [.sh] 0 F_Endless__head) := by
  refine ⟨f, fd, ["self"], fn_ok FD sc_Endless__head rfl (by decide) (fun cdv A outer s H E hr => ?_) (fun ds r h => h), G.k_Endless, M, FD.bindsN fun _ _ _ _ _ _ us hl => match us, hl with | [_], _ => rfl⟩
  have nd := sc_Endless__head.nd
  unfold F_Endless__head
  exact dss_one (ds_ret (de_fld G.k_Endless G.n_Endless_begun (do_peek 0)))
def F_Endless__ring : FS :=
  sRet (eFld "Endless" "round" (oS 0))
abbrev st_Endless__ring : Stmt := clsS (topS 21) 3
theorem sc_Endless__ring : FnScope ["self"] ["self"] (defScope st_Endless__ring) := ⟨rfl, rfl, rfl, by decide +kernel, rfl, by decide +kernel, by decide +kernel⟩
theorem ok_Endless__ring {P : Program} {w : World} {K : PySem.W.Frag} {mg : Str → Option Value} {base : Heap} {k : Nat} {f : Addr} {fd : FuncData} (G : Gm K mg) (FD : FunD K "ring" "Endless.ring" (defArgs st_Endless__ring) (defBody st_Endless__ring) (defScope st_Endless__ring) [] [] f fd) (M : Meth K (He.ga K "Endless") "ring" f)  :
    Km P w K mg base (k + 1) "Endless" "ring" [.sh] (fnF [.sh] 0 F_Endless__ring) := by
  refine ⟨f, fd, ["self"], fn_ok FD sc_Endless__ring rfl (by decide) (fun cdv A outer s H E hr => ?_) (fun ds r h => h), G.k_Endless, M, FD.bindsN fun _ _ _ _ _ _ us hl => match us, hl with | [_], _ => rfl⟩
  have nd := sc_Endless__ring.nd
  unfold F_Endless__ring
  exact dss_one (ds_ret (de_fld G.k_Endless G.n_Endless_round (do_peek 0)))
def F_Endless__first : FS :=
  sSeq (sG (eA maxD2 (aCons (oE (eK (.int 0))) (aCons (oE (eOp2 subD (oS 1) (oE (eA lenD (aCons (oE (eFld "Endless" "begun" (oS 0))) aNil))))) aNil))) (gN 2))
    (sRet (eSl slS (oE (eOp2 addD (oE (eFld "Endless" "begun" (oS 0))) (oE (eOp2 mulD (oE (eFld "Endless" "round" (oS 0))) (oE (eOp2 addD (oE (eOp2 fdivD (oS 2) (oE (eA lenD (aCons (oE (eFld "Endless" "round" (oS 0))) aNil))))) (oE (eK (.int 1))))))))) pNo (pAt (eVar 1))))
abbrev st_Endless__first : Stmt := clsS (topS 21) 4
theorem sc_Endless__first : FnScope ["self", "many", "more"] ["self", "many"] (defScope st_Endless__first) := ⟨rfl, rfl, rfl, by decide +kernel, rfl, by decide +kernel, by decide +kernel⟩
theorem ok_Endless__first {P : Program} {w : World} {K : PySem.W.Frag} {mg : Str → Option Value} {base : Heap} {k : Nat} {f : Addr} {fd : FuncData} (G : Gm K mg) (FD : FunD K "first" "Endless.first" (defArgs st_Endless__first) (defBody st_Endless__first) (defScope st_Endless__first) [] [] f fd) (M : Meth K (He.ga K "Endless") "first" f)  :
    Km P w K mg base (k + 1) "Endless" "first" [.sh, .sh] (fnF [.sh, .sh] 1 F_Endless__first) := by
  refine ⟨f, fd, ["self", "many"], fn_ok FD sc_Endless__first rfl (by decide) (fun cdv A outer s H E hr => ?_) (fun ds r h => h), G.k_Endless, M, FD.bindsN fun _ _ _ _ _ _ us hl => match us, hl with | [_, _], _ => rfl⟩
  have nd := sc_Endless__first.nd
  unfold F_Endless__first
  exact dss_cons (ds_set 2 nd (de_callB (call_max2 rfl) cv_max2 G.m_max (by decide +kernel) (da_cons (do_of de_int) (da_cons (do_of (de_op2 op_sub ov_sub (do_peek 1) (do_of (de_callB cr_lenX cv_len G.m_len (by decide +kernel) (da_cons (do_of (de_fld G.k_Endless G.n_Endless_begun (do_peek 0))) da_nil))))) da_nil))))
    (dss_one (ds_ret (de_slS (do_of (de_op2 op_addD ov_add (do_of (de_fld G.k_Endless G.n_Endless_begun (do_peek 0))) (do_of (de_op2 op_mulD ov_mul (do_of (de_fld G.k_Endless G.n_Endless_round (do_peek 0))) (do_of (de_op2 op_addD ov_add (do_of (de_op2 op_fdivN ov_fdiv (do_peek 2) (do_of (de_callB cr_lenX cv_len G.m_len (by decide +kernel) (da_cons (do_of (de_fld G.k_Endless G.n_Endless_round (do_peek 0))) da_nil))))) (do_of de_int))))))) dp_no (dp_at (de_var 1)))))
def F_row_of (g_Endless____init__ : FN) (g_Endless__settle : FN) : FS :=
  sSeq (sOw 2 (eNew "Endless" [.sh, .sh] g_Endless____init__ (aCons (oE (eK (.str []))) (aCons (oE (eK (.str [48]))) aNil))))
    (sSeq (sE (eMethP 2 "Endless" "settle" [.sh, .sh] g_Endless__settle (aCons (oE (eVar 0)) (aCons (oE (eVar 1)) aNil))))
    (sRetOw 2))
abbrev st_row_of : Stmt := topS 22
theorem sc_row_of : FnScope ["head", "ring", "row"] ["head", "ring"] (defScope st_row_of) := ⟨rfl, rfl, rfl, by decide +kernel, rfl, by decide +kernel, by decide +kernel⟩
theorem ok_row_of {P : Program} {w : World} {K : PySem.W.Frag} {mg : Str → Option Value} {base : Heap} {k : Nat} {f : Addr} {fd : FuncData} (G : Gm K mg) (FD : FunD K "row_of" "row_of" (defArgs st_row_of) (defBody st_row_of) (defScope st_row_of) [] [] f fd) (a : mg "row_of" = some (.ref f)) {g_Endless____init__ : FN} (C_Endless____init__ : Kc P w K mg base k "Endless" [.sh, .sh] g_Endless____init__) {g_Endless__settle : FN} (C_Endless__settle : Km P w K mg base (k + 1) "Endless" "settle" [.pn, .sh, .sh] g_Endless__settle) :
    Kn P w K mg base (k + 1 + 1) "row_of" [.sh, .sh] (fnF [.sh, .sh] 1 (F_row_of g_Endless____init__ g_Endless__settle)) := by
  refine ⟨f, fd, ["head", "ring"], fn_ok FD sc_row_of rfl (by decide) (fun cdv A outer s H E hr => ?_) (fun ds r h => h), a, FD.kp, FD.bindsN fun _ _ _ _ _ _ us hl => match us, hl with | [_, _], _ => rfl⟩
  have nd := sc_row_of.nd
  unfold F_row_of
  exact dss_cons (ds_own 2 nd (df_new C_Endless____init__ hr (da_cons (do_of (de_str [])) (da_cons (do_of (de_str [48])) da_nil))))
    (dss_cons (ds_expr (de_methP 2 C_Endless__settle hr (da_cons (do_of (de_var 0)) (da_cons (do_of (de_var 1)) da_nil))))
    (dss_one (ds_retOw 2)))
def F_Endless__later (g_row_of : FN) : FS :=
  sSeq (sIf (eOp2 leD (oS 1) (oE (eA lenD (aCons (oE (eFld "Endless" "begun" (oS 0))) aNil)))) (sRetF (eCallF [.sh, .sh] g_row_of (aCons (oE (eSl slS (oE (eFld "Endless" "begun" (oS 0))) (pAt (eVar 1)) pNo)) (aCons (oE (eFld "Endless" "round" (oS 0))) aNil)))) sNil)
    (sSeq (sG (eOp2 modD (oE (eOp2 subD (oS 1) (oE (eA lenD (aCons (oE (eFld "Endless" "begun" (oS 0))) aNil))))) (oE (eA lenD (aCons (oE (eFld "Endless" "round" (oS 0))) aNil)))) (gN 2))
    (sRetF (eCallF [.sh, .sh] g_row_of (aCons (oE (eK (.str []))) (aCons (oE (eOp2 addD (oE (eSl slS (oE (eFld "Endless" "round" (oS 0))) (pAt (eVar 2)) pNo)) (oE (eSl slS (oE (eFld "Endless" "round" (oS 0))) pNo (pAt (eVar 2)))))) aNil)))))
abbrev st_Endless__later : Stmt := clsS (topS 21) 6
theorem sc_Endless__later : FnScope ["self", "many", "turn"] ["self", "many"] (defScope st_Endless__later) := ⟨rfl, rfl, rfl, by decide +kernel, rfl, by decide +kernel, by decide +kernel⟩
theorem ok_Endless__later {P : Program} {w : World} {K : PySem.W.Frag} {mg : Str → Option Value} {base : Heap} {k : Nat} {f : Addr} {fd : FuncData} (G : Gm K mg) (FD : FunD K "later" "Endless.later" (defArgs st_Endless__later) (defBody st_Endless__later) (defScope st_Endless__later) [] [] f fd) (M : Meth K (He.ga K "Endless") "later" f) {g_row_of : FN} (C_row_of : Kn P w K mg base k "row_of" [.sh, .sh] g_row_of) :
    Km P w K mg base (k + 1) "Endless" "later" [.sh, .sh] (fnF [.sh, .sh] 1 (F_Endless__later g_row_of)) := by
  refine ⟨f, fd, ["self", "many"], fn_ok FD sc_Endless__later rfl (by decide) (fun cdv A outer s H E hr => ?_) (fun ds r h => h), G.k_Endless, M, FD.bindsN fun _ _ _ _ _ _ us hl => match us, hl with | [_, _], _ => rfl⟩
  have nd := sc_Endless__later.nd
  unfold F_Endless__later
  exact dss_cons (ds_if (dt_cmp2 op_leD ov_le (do_peek 1) (do_of (de_callB cr_lenX cv_len G.m_len (by decide +kernel) (da_cons (do_of (de_fld G.k_Endless G.n_Endless_begun (do_peek 0))) da_nil))) (nomark _)) (dss_one (ds_retF (df_call C_row_of hr (da_cons (do_of (de_slS (do_of (de_fld G.k_Endless G.n_Endless_begun (do_peek 0))) (dp_at (de_var 1)) dp_no)) (da_cons (do_of (de_fld G.k_Endless G.n_Endless_round (do_peek 0))) da_nil))))) dss_nil)
    (dss_cons (ds_set 2 nd (de_op2 op_mod ov_mod (do_of (de_op2 op_sub ov_sub (do_peek 1) (do_of (de_callB cr_lenX cv_len G.m_len (by decide +kernel) (da_cons (do_of (de_fld G.k_Endless G.n_Endless_begun (do_peek 0))) da_nil))))) (do_of (de_callB cr_lenX cv_len G.m_len (by decide +kernel) (da_cons (do_of (de_fld G.k_Endless G.n_Endless_round (do_peek 0))) da_nil)))))
    (dss_one (ds_retF (df_call C_row_of hr (da_cons (do_of (de_str [])) (da_cons (do_of (de_op2 op_addD ov_add (do_of (de_slS (do_of (de_fld G.k_Endless G.n_Endless_round (do_peek 0))) (dp_at (de_var 2)) dp_no)) (do_of (de_slS (do_of (de_fld G.k_Endless G.n_Endless_round (do_peek 0))) dp_no (dp_at (de_var 2)))))) da_nil))))))
def F_Endless__below (g_row_of : FN) : FS :=
  sRetF (eCallF [.sh, .sh] g_row_of (aCons (oE (eOp2 addD (oS 1) (oE (eFld "Endless" "begun" (oS 0))))) (aCons (oE (eFld "Endless" "round" (oS 0))) aNil)))
abbrev st_Endless__below : Stmt := clsS (topS 21) 8
theorem sc_Endless__below : FnScope ["self", "head"] ["self", "head"] (defScope st_Endless__below) := ⟨rfl, rfl, rfl, by decide +kernel, rfl, by decide +kernel, by decide +kernel⟩
theorem ok_Endless__below {P : Program} {w : World} {K : PySem.W.Frag} {mg : Str → Option Value} {base : Heap} {k : Nat} {f : Addr} {fd : FuncData} (G : Gm K mg) (FD : FunD K "below" "Endless.below" (defArgs st_Endless__below) (defBody st_Endless__below) (defScope st_Endless__below) [] [] f fd) (M : Meth K (He.ga K "Endless") "below" f) {g_row_of : FN} (C_row_of : Kn P w K mg base k "row_of" [.sh, .sh] g_row_of) :
    Km P w K mg base (k + 1) "Endless" "below" [.sh, .sh] (fnF [.sh, .sh] 0 (F_Endless__below g_row_of)) := by
  refine ⟨f, fd, ["self", "head"], fn_ok FD sc_Endless__below rfl (by decide) (fun cdv A outer s H E hr => ?_) (fun ds r h => h), G.k_Endless, M, FD.bindsN fun _ _ _ _ _ _ us hl => match us, hl with | [_, _], _ => rfl⟩
  have nd := sc_Endless__below.nd
  unfold F_Endless__below
  exact dss_one (ds_retF (df_call C_row_of hr (da_cons (do_of (de_op2 op_addD ov_add (do_peek 1) (do_of (de_fld G.k_Endless G.n_Endless_begun (do_peek 0))))) (da_cons (do_of (de_fld G.k_Endless G.n_Endless_round (do_peek 0))) da_nil))))
def F_Endless__begins (g_Endless__first : FN) : FS :=
  sRet (eOp2 eqD (oE (eMeth "Endless" "first" [.sh, .sh] g_Endless__first (eVar 0) (aCons (oE (eA lenD (aCons (oS 1) aNil))) aNil))) (oS 1))
abbrev st_Endless__begins : Stmt := clsS (topS 21) 10
theorem sc_Endless__begins : FnScope ["self", "head"] ["self", "head"] (defScope st_Endless__begins) := ⟨rfl, rfl, rfl, by decide +kernel, rfl, by decide +kernel, by decide +kernel⟩
theorem ok_Endless__begins {P : Program} {w : World} {K : PySem.W.Frag} {mg : Str → Option Value} {base : Heap} {k : Nat} {f : Addr} {fd : FuncData} (G : Gm K mg) (FD : FunD K "begins" "Endless.begins" (defArgs st_Endless__begins) (defBody st_Endless__begins) (defScope st_Endless__begins) [] [] f fd) (M : Meth K (He.ga K "Endless") "begins" f) {g_Endless__first : FN} (C_Endless__first : Km P w K mg base k "Endless" "first" [.sh, .sh] g_Endless__first) :
    Km P w K mg base (k + 1) "Endless" "begins" [.sh, .sh] (fnF [.sh, .sh] 0 (F_Endless__begins g_Endless__first)) := by
  refine ⟨f, fd, ["self", "head"], fn_ok FD sc_Endless__begins rfl (by decide) (fun cdv A outer s H E hr => ?_) (fun ds r h => h), G.k_Endless, M, FD.bindsN fun _ _ _ _ _ _ us hl => match us, hl with | [_, _], _ => rfl⟩
  have nd := sc_Endless__begins.nd
  unfold F_Endless__begins
  exact dss_one (ds_ret (de_cmp2 (op_eqX (room64 hr)) ov_eq (do_of (de_meth C_Endless__first hr (de_var 0) (da_cons (do_of (de_callB cr_lenX cv_len G.m_len (by decide +kernel) (da_cons (do_peek 1) da_nil))) da_nil))) (do_peek 1) (nomark _)))
def F_fewest_rows : FS :=
  sSeq (sOw 1 (eDc (iLT (oE (eVar 0))) [3, 6] (gT 2 (gsCons (gN 3) (gsCons (gN 6) gsNil))) (eK (.bl true)) (eVar 3) (eVar 6)))
    (sSeq (sOw 2 (eLc (iLT (oE (eVar 0))) [3, 6] (gT 2 (gsCons (gN 3) (gsCons (gN 6) gsNil))) (eK (.bl true)) (eVar 3)))
    (sSeq (sWhile FU (eOp2 neD (oS 2) (oE (eDisp .lst aNil))) (sSeq (sG (eMut 2 gPop aNil) (gN 3))
    (sSeq (sG (eSl slS (oS 3) pNo (pAt (eNeg (eK (.int 1))))) (gN 4))
    (sIf (eAnd (eOp2 neD (oS 3) (oE (eK (.str [])))) (eAnd (eOp2 inD (oE (eOp2 addD (oS 4) (oE (eK (.str [48]))))) (oS 1)) (eOp2 inD (oE (eOp2 addD (oS 4) (oE (eK (.str [49]))))) (oS 1)))) (sSeq (sG (eOp2 getD' (oS 1) (oE (eOp2 addD (oS 4) (oE (eK (.str [48])))))) (gN 5))
    (sSeq (sG (eOp2 getD' (oS 1) (oE (eOp2 addD (oS 4) (oE (eK (.str [49])))))) (gN 6))
    (sIf (eAnd (eOp2 eqD (oE (eSl slS (oS 5) (pAt (eNeg (eK (.int 1)))) pNo)) (oE (eK (.str [48])))) (eAnd (eOp2 eqD (oE (eSl slS (oS 6) (pAt (eNeg (eK (.int 1)))) pNo)) (oE (eK (.str [49])))) (eOp2 eqD (oE (eSl slS (oS 5) pNo (pAt (eNeg (eK (.int 1)))))) (oE (eSl slS (oS 6) pNo (pAt (eNeg (eK (.int 1))))))))) (sSeq (sE (ePopK 1 (eOp2 addD (oS 4) (oE (eK (.str [48]))))))
    (sSeq (sE (ePopK 1 (eOp2 addD (oS 4) (oE (eK (.str [49]))))))
    (sSeq (sSetK 1 (eVar 4) (eSl slS (oS 5) pNo (pAt (eNeg (eK (.int 1))))))
    (sE (eMut 2 gApp (aCons (oE (eVar 4)) aNil)))))) sNil))) sNil))))
    (sRetF (eLc (iL (oE (eA sortD (aCons (oE (eA listD (aCons (oS 1) aNil))) aNil)))) [3] (gN 3) (eK (.bl true)) (eDisp .tup (aCons (oE (eVar 3)) (aCons (oE (eOp2 getD' (oS 1) (oS 3))) aNil)))))))
abbrev st_fewest_rows : Stmt := topS 24
theorem sc_fewest_rows : FnScope ["rows", "there", "todo", "head", "up", "one", "other"] ["rows"] (defScope st_fewest_rows) := ⟨rfl, rfl, rfl, by decide +kernel, rfl, by decide +kernel, by decide +kernel⟩
theorem ok_fewest_rows {P : Program} {w : World} {K : PySem.W.Frag} {mg : Str → Option Value} {base : Heap} {k : Nat} {f : Addr} {fd : FuncData} (G : Gm K mg) (FD : FunD K "fewest_rows" "fewest_rows" (defArgs st_fewest_rows) (defBody st_fewest_rows) (defScope st_fewest_rows) [] [] f fd) (a : mg "fewest_rows" = some (.ref f))  :
    Kn P w K mg base (k + 1) "fewest_rows" [.sh] (fnF [.sh] 6 F_fewest_rows) := by
  refine ⟨f, fd, ["rows"], fn_ok FD sc_fewest_rows rfl (by decide) (fun cdv A outer s H E hr => ?_) (fun ds r h => h), a, FD.kp, FD.bindsN fun _ _ _ _ _ _ us hl => match us, hl with | [_], _ => rfl⟩
  have nd := sc_fewest_rows.nd
  unfold F_fewest_rows
  exact dss_cons (ds_own 1 nd (df_dc [("head", 3), ("other", 6)] rfl nd (di_lt (do_of (de_var 0))) (blkOk_by (by first | rfl | decide +kernel)) (fun _ _ _ _ _ => dg_tup rfl (dgs_cons (dg_name 3 nd) (dgs_cons (dg_name 6 nd) dgs_nil))) (fun _ _ _ _ _ => dts_nil) (fun _ _ _ _ _ => de_var 3) (fun _ _ _ _ _ => de_var 6)))
    (dss_cons (ds_ownLc 2 [("head", 3), ("other", 6)] rfl nd (di_lt (do_of (de_var 0))) (blkOk_by (by first | rfl | decide +kernel)) (fun _ _ _ _ _ => dg_tup rfl (dgs_cons (dg_name 3 nd) (dgs_cons (dg_name 6 nd) dgs_nil))) (fun _ _ _ _ _ => dts_nil) (fun _ _ _ _ _ => de_var 3))
    (dss_cons (ds_while FU PassesOwn.never (dt_cmp2 (op_neX (room64 hr)) ov_ne (do_peek 2) (do_of (de_frz (df_lst da_nil))) (nomark _)) (dss_cons (ds_set 3 nd (de_mut0 2 PySem.F.slot_list_pop PySem.F.type_list_pop mt_pop mm_pop))
    (dss_cons (ds_set 4 nd (de_slS (do_peek 3) dp_no (dp_at (de_neg de_int))))
    (dss_one (ds_if (dt_w (dw_and (dt_cmp2 (op_neX (room64 hr)) ov_ne (do_peek 3) (do_of (de_str [])) (nomark _)) (dw_and (dt_cmp2 (op_inX (room65 hr)) ov_in (do_of (de_op2 op_addD ov_add (do_peek 4) (do_of (de_str [48])))) (do_peek 1) (by rfl)) (dw_and1 (dt_cmp2 (op_inX (room65 hr)) ov_in (do_of (de_op2 op_addD ov_add (do_peek 4) (do_of (de_str [49])))) (do_peek 1) (by rfl)))))) (dss_cons (ds_set 5 nd (de_dget (room1 hr) (do_peek 1) (do_of (de_op2 op_addD ov_add (do_peek 4) (do_of (de_str [48]))))))
    (dss_cons (ds_set 6 nd (de_dget (room1 hr) (do_peek 1) (do_of (de_op2 op_addD ov_add (do_peek 4) (do_of (de_str [49]))))))
    (dss_one (ds_if (dt_w (dw_and (dt_cmp2 (op_eqX (room64 hr)) ov_eq (do_of (de_slS (do_peek 5) (dp_at (de_neg de_int)) dp_no)) (do_of (de_str [48])) (nomark _)) (dw_and (dt_cmp2 (op_eqX (room64 hr)) ov_eq (do_of (de_slS (do_peek 6) (dp_at (de_neg de_int)) dp_no)) (do_of (de_str [49])) (nomark _)) (dw_and1 (dt_cmp2 (op_eqX (room64 hr)) ov_eq (do_of (de_slS (do_peek 5) dp_no (dp_at (de_neg de_int)))) (do_of (de_slS (do_peek 6) dp_no (dp_at (de_neg de_int)))) (nomark _)))))) (dss_cons (ds_expr (de_popK 1 (de_op2 op_addD ov_add (do_peek 4) (do_of (de_str [48])))))
    (dss_cons (ds_expr (de_popK 1 (de_op2 op_addD ov_add (do_peek 4) (do_of (de_str [49])))))
    (dss_cons (ds_setK 1 (room1 hr) (de_var 4) (de_slS (do_peek 5) dp_no (dp_at (de_neg de_int))))
    (dss_one (ds_expr (de_mut 2 PySem.F.slot_list_append PySem.F.type_list_append mt_append mm_app (da_cons (do_of (de_var 4)) da_nil))))))) dss_nil)))) dss_nil)))))
    (dss_one (ds_retF (df_lc [("head", 3)] rfl nd (di_list (do_of (de_frz (df_callB cr_sortedS cf_sort G.m_sorted (by decide +kernel) (da_cons (do_of (de_frz (df_callTy (cr_listX rfl) cf_list G.m_list (by decide +kernel) (da_cons (do_peek 1) da_nil)))) da_nil))))) (blkOk_by (by first | rfl | decide +kernel)) (fun _ _ _ _ _ => dg_name 3 nd) (fun _ _ _ _ _ => dts_nil) (fun _ _ _ _ _ => de_frz (df_tup (da_cons (do_of (de_var 3)) (da_cons (do_of (de_dget (room1 hr) (do_peek 1) (do_peek 3))) da_nil)))))))))
def F_is_table (g_trouble : FN) : FS :=
  sRet (eAnd (eOp2 isN (oE (eCall [.sh] g_trouble (aCons (oE (eLc (iLT (oE (eVar 0))) [1] (gN 1) (eK (.bl true)) (eOp2 ixD (oS 1) (oE (eK (.int 0)))))) aNil))) (oE (eK .non))) (eOp2 isN (oE (eCall [.sh] g_trouble (aCons (oE (eLc (iLT (oE (eVar 0))) [1] (gN 1) (eK (.bl true)) (eOp2 ixD (oS 1) (oE (eK (.int 1)))))) aNil))) (oE (eK .non))))
abbrev st_is_table : Stmt := topS 25
theorem sc_is_table : FnScope ["rows", "row"] ["rows"] (defScope st_is_table) := ⟨rfl, rfl, rfl, by decide +kernel, rfl, by decide +kernel, by decide +kernel⟩
theorem ok_is_table {P : Program} {w : World} {K : PySem.W.Frag} {mg : Str → Option Value} {base : Heap} {k : Nat} {f : Addr} {fd : FuncData} (G : Gm K mg) (FD : FunD K "is_table" "is_table" (defArgs st_is_table) (defBody st_is_table) (defScope st_is_table) [] [] f fd) (a : mg "is_table" = some (.ref f)) {g_trouble : FN} (C_trouble : Kn P w K mg base k "trouble" [.sh] g_trouble) :
    Kn P w K mg base (k + 1) "is_table" [.sh] (fnF [.sh] 1 (F_is_table g_trouble)) := by
  refine ⟨f, fd, ["rows"], fn_ok FD sc_is_table rfl (by decide) (fun cdv A outer s H E hr => ?_) (fun ds r h => h), a, FD.kp, FD.bindsN fun _ _ _ _ _ _ us hl => match us, hl with | [_], _ => rfl⟩
  have nd := sc_is_table.nd
  unfold F_is_table
  exact dss_one (ds_ret (de_and (de_cmp2 op_isN ov_isN (do_of (de_call C_trouble hr (da_cons (do_of (de_frz (df_lc [("row", 1)] rfl nd (di_lt (do_of (de_var 0))) (blkOk_by (by first | rfl | decide +kernel)) (fun _ _ _ _ _ => dg_name 1 nd) (fun _ _ _ _ _ => dts_nil) (fun _ _ _ _ _ => de_ix (do_peek 1) (do_of de_int))))) da_nil))) (do_of de_non) (nomark _)) (de_one (de_cmp2 op_isN ov_isN (do_of (de_call C_trouble hr (da_cons (do_of (de_frz (df_lc [("row", 1)] rfl nd (di_lt (do_of (de_var 0))) (blkOk_by (by first | rfl | decide +kernel)) (fun _ _ _ _ _ => dg_name 1 nd) (fun _ _ _ _ _ => dts_nil) (fun _ _ _ _ _ => de_ix (do_peek 1) (do_of de_int))))) da_nil))) (do_of de_non) (nomark _)))))
def F_image (g_Endless__begins : FN) (g_Endless__later : FN) (g_Endless__below : FN) : FS :=
  sSeq (sFor (iL (oE (eVar 0))) (gT 2 (gsCons (gN 2) (gsCons (gN 3) gsNil))) (sIf (eMeth "Endless" "begins" [.sh, .sh] g_Endless__begins (eVar 1) (aCons (oE (eVar 2)) aNil)) (sRet (eMethF "Endless" "below" [.sh, .sh] g_Endless__below (eMethF "Endless" "later" [.sh, .sh] g_Endless__later (eVar 1) (aCons (oE (eA lenD (aCons (oS 2) aNil))) aNil)) (aCons (oE (eVar 3)) aNil))) sNil))
    (sRet (eVar 1))
abbrev st_image : Stmt := topS 28
theorem sc_image : FnScope ["rows", "row", "head", "other"] ["rows", "row"] (defScope st_image) := ⟨rfl, rfl, rfl, by decide +kernel, rfl, by decide +kernel, by decide +kernel⟩
theorem ok_image {P : Program} {w : World} {K : PySem.W.Frag} {mg : Str → Option Value} {base : Heap} {k : Nat} {f : Addr} {fd : FuncData} (G : Gm K mg) (FD : FunD K "image" "image" (defArgs st_image) (defBody st_image) (defScope st_image) [] [] f fd) (a : mg "image" = some (.ref f)) {g_Endless__begins : FN} (C_Endless__begins : Km P w K mg base k "Endless" "begins" [.sh, .sh] g_Endless__begins) {g_Endless__later : FN} (C_Endless__later : Km P w K mg base k "Endless" "later" [.sh, .sh] g_Endless__later) {g_Endless__below : FN} (C_Endless__below : Km P w K mg base k "Endless" "below" [.sh, .sh] g_Endless__below) :
    Kn P w K mg base (k + 1) "image" [.sh, .sh] (fnF [.sh, .sh] 2 (F_image g_Endless__begins g_Endless__later g_Endless__below)) := by
  refine ⟨f, fd, ["rows", "row"], fn_ok FD sc_image rfl (by decide) (fun cdv A outer s H E hr => ?_) (fun ds r h => h), a, FD.kp, FD.bindsN fun _ _ _ _ _ _ us hl => match us, hl with | [_, _], _ => rfl⟩
  have nd := sc_image.nd
  unfold F_image
  exact dss_cons (ds_for PassesOwn.never rfl (di_list (do_of (de_var 0))) (dg_tup rfl (dgs_cons (dg_name 2 nd) (dgs_cons (dg_name 3 nd) dgs_nil))) (dss_one (ds_if (dt_of (de_meth C_Endless__begins hr (de_var 1) (da_cons (do_of (de_var 2)) da_nil))) (dss_one (ds_ret (de_frz (df_meth C_Endless__below hr (de_frz (df_meth C_Endless__later hr (de_var 1) (da_cons (do_of (de_callB cr_lenX cv_len G.m_len (by decide +kernel) (da_cons (do_peek 2) da_nil))) da_nil))) (da_cons (do_of (de_var 3)) da_nil))))) dss_nil)))
    (dss_one (ds_ret (de_var 1)))
def F_Swap____init__ (g_need_head : FN) (g_is_table : FN) (g_fewest_rows : FN) : FS :=
  sSeq (sFor (iLT (oE (eVar 1))) (gT 2 (gsCons (gN 2) (gsCons (gN 3) gsNil))) (sSeq (sE (eCall [.sh] g_need_head (aCons (oE (eVar 2)) aNil)))
    (sE (eCall [.sh] g_need_head (aCons (oE (eVar 3)) aNil)))))
    (sSeq (sIf (eNot (eCall [.sh] g_is_table (aCons (oE (eVar 1)) aNil))) sNo sNil)
    (sSeq (sFd 0 "Swap" "kept" (eCallF [.sh] g_fewest_rows (aCons (oE (eVar 1)) aNil)))
    (sIf (eOp2 gtD (oE (eA lenD (aCons (oE (eFld "Swap" "kept" (oS 0))) aNil))) (oE (eK (.int 64)))) sNo sNil)))
abbrev st_Swap____init__ : Stmt := clsS (topS 34) 0
theorem sc_Swap____init__ : FnScope ["self", "rows", "head", "other"] ["self", "rows"] (defScope st_Swap____init__) := ⟨rfl, rfl, rfl, by decide +kernel, rfl, by decide +kernel, by decide +kernel⟩
theorem okf_Swap____init__ {P : Program} {w : World} {K : PySem.W.Frag} {mg : Str → Option Value} {base : Heap} {k : Nat} {f : Addr} {fd : FuncData} (G : Gm K mg) (FD : FunD K "__init__" "Swap.__init__" (defArgs st_Swap____init__) (defBody st_Swap____init__) (defScope st_Swap____init__) [.ref (He.dflAt ("Swap", some "__init__") 0 K)] [] f fd) {g_need_head : FN} (C_need_head : Kn P w K mg base k "need_head" [.sh] g_need_head) {g_is_table : FN} (C_is_table : Kn P w K mg base k "is_table" [.sh] g_is_table) {g_fewest_rows : FN} (C_fewest_rows : Kn P w K mg base k "fewest_rows" [.sh] g_fewest_rows) :
    FnOk P w K mg base CX0 (k + 1) f fd ["self", "rows"] (spD K [.pn, .sh] (fnF [.pn, .sh] 2 (F_Swap____init__ g_need_head g_is_table g_fewest_rows))) := by
  refine fn_ok FD sc_Swap____init__ rfl (by decide) (fun cdv A outer s H E hr => ?_) (fun ds r h => h)
  have nd := sc_Swap____init__.nd
  unfold F_Swap____init__
  exact dss_cons (ds_for PassesOwn.never rfl (di_lt (do_of (de_var 1))) (dg_tup rfl (dgs_cons (dg_name 2 nd) (dgs_cons (dg_name 3 nd) dgs_nil))) (dss_cons (ds_expr (de_call C_need_head hr (da_cons (do_of (de_var 2)) da_nil)))
    (dss_one (ds_expr (de_call C_need_head hr (da_cons (do_of (de_var 3)) da_nil))))))
    (dss_cons (ds_if (dt_not (dt_of (de_call C_is_table hr (da_cons (do_of (de_var 1)) da_nil)))) (dss_one ds_no) dss_nil)
    (dss_cons (ds_fld 0 G.k_Swap G.n_Swap_kept (de_frz (df_call C_fewest_rows hr (da_cons (do_of (de_var 1)) da_nil))))
    (dss_one (ds_if (dt_cmp2 op_gtD ov_gt (do_of (de_callB cr_lenX cv_len G.m_len (by decide +kernel) (da_cons (do_of (de_fld G.k_Swap G.n_Swap_kept (do_peek 0))) da_nil))) (do_of (de_gloI 64 G.c_MOST_ROWS.choose_spec)) (nomark _)) (dss_one ds_no) dss_nil))))
theorem ok_Swap____init__ {P : Program} {w : World} {K : PySem.W.Frag} {mg : Str → Option Value} {base : Heap} {k : Nat} {f : Addr} {fd : FuncData} (G : Gm K mg) (FD : FunD K "__init__" "Swap.__init__" (defArgs st_Swap____init__) (defBody st_Swap____init__) (defScope st_Swap____init__) [.ref (He.dflAt ("Swap", some "__init__") 0 K)] [] f fd) (a : mg "Swap" = some (.ref (He.ga K "Swap"))) (M : Mk K (He.ga K "Swap") f) {g_need_head : FN} (C_need_head : Kn P w K mg base k "need_head" [.sh] g_need_head) {g_is_table : FN} (C_is_table : Kn P w K mg base k "is_table" [.sh] g_is_table) {g_fewest_rows : FN} (C_fewest_rows : Kn P w K mg base k "fewest_rows" [.sh] g_fewest_rows) :
    Kc P w K mg base (k + 1) "Swap" [.sh] (fnF [.pn, .sh] 2 (F_Swap____init__ g_need_head g_is_table g_fewest_rows)) := by
  obtain ⟨ds, hv, hb⟩ := FD.binds1 (ps := ["self", "rows"]) 2 1 (by simp) rfl fun _ _ _ _ _ _ _ us its hu hi => match us, hu, its, hi with | [_, _], _, [_], _ => ⟨_, rfl, rfl⟩
  cases hv
  exact ⟨f, fd, ["self", "rows"], (okf_Swap____init__ G FD C_need_head C_is_table C_fewest_rows), M, a, hb⟩
theorem ok_Swap____init0__ {P : Program} {w : World} {K : PySem.W.Frag} {mg : Str → Option Value} {base : Heap} {k : Nat} {f : Addr} {fd : FuncData} (G : Gm K mg) (FD : FunD K "__init__" "Swap.__init__" (defArgs st_Swap____init__) (defBody st_Swap____init__) (defScope st_Swap____init__) [.ref (He.dflAt ("Swap", some "__init__") 0 K)] [] f fd) (a : mg "Swap" = some (.ref (He.ga K "Swap"))) (M : Mk K (He.ga K "Swap") f) (hD : ∀ H, Rps K H [.tup [.tup [.str [], .str []]]] [.ref (He.dflAt ("Swap", some "__init__") 0 K)]) {g_need_head : FN} (C_need_head : Kn P w K mg base k "need_head" [.sh] g_need_head) {g_is_table : FN} (C_is_table : Kn P w K mg base k "is_table" [.sh] g_is_table) {g_fewest_rows : FN} (C_fewest_rows : Kn P w K mg base k "fewest_rows" [.sh] g_fewest_rows) :
    Kc0 P w K mg base (k + 1) "Swap" [.sh] [.tup [.tup [.str [], .str []]]] (fnF [.pn, .sh] 2 (F_Swap____init__ g_need_head g_is_table g_fewest_rows)) := by
  obtain ⟨ds, hv, hb⟩ := FD.binds1 (ps := ["self", "rows"]) 1 0 (by simp) rfl fun _ _ _ _ _ _ _ us its hu hi => match us, hu, its, hi with | [_], _, [_], _ => ⟨_, rfl, rfl⟩
  exact ⟨f, fd, ["self", "rows"], ds, _, (okf_Swap____init__ G FD C_need_head C_is_table C_fewest_rows), M, a, hb, hv, hD⟩
def F_Swap__rows : FS :=
  sRetF (eA listD (aCons (oE (eFld "Swap" "kept" (oS 0))) aNil))
abbrev st_Swap__rows : Stmt := clsS (topS 34) 1
theorem sc_Swap__rows : FnScope ["self"] ["self"] (defScope st_Swap__rows) := ⟨rfl, rfl, rfl, by decide +kernel, rfl, by decide +kernel, by decide +kernel⟩
theorem ok_Swap__rows {P : Program} {w : World} {K : PySem.W.Frag} {mg : Str → Option Value} {base : Heap} {k : Nat} {f : Addr} {fd : FuncData} (G : Gm K mg) (FD : FunD K "rows" "Swap.rows" (defArgs st_Swap__rows) (defBody st_Swap__rows) (defScope st_Swap__rows) [] [] f fd) (M : Meth K (He.ga K "Swap") "rows" f)  :
    Km P w K mg base (k + 1) "Swap" "rows" [.sh] (fnF [.sh] 0 F_Swap__rows) := by
  refine ⟨f, fd, ["self"], fn_ok FD sc_Swap__rows rfl (by decide) (fun cdv A outer s H E hr => ?_) (fun ds r h => h), G.k_Swap, M, FD.bindsN fun _ _ _ _ _ _ us hl => match us, hl with | [_], _ => rfl⟩
  have nd := sc_Swap__rows.nd
  unfold F_Swap__rows
  exact dss_one (ds_retF (df_callTy (cr_listX rfl) cf_list G.m_list (by decide +kernel) (da_cons (do_of (de_fld G.k_Swap G.n_Swap_kept (do_peek 0))) da_nil)))
def F_Swap__of (g_image : FN) : FS :=
  sRet (eCall [.sh, .sh] g_image (aCons (oE (eFld "Swap" "kept" (oS 0))) (aCons (oE (eVar 1)) aNil)))
abbrev st_Swap__of : Stmt := clsS (topS 34) 2
theorem sc_Swap__of : FnScope ["self", "row"] ["self", "row"] (defScope st_Swap__of) := ⟨rfl, rfl, rfl, by decide +kernel, rfl, by decide +kernel, by decide +kernel⟩
theorem ok_Swap__of {P : Program} {w : World} {K : PySem.W.Frag} {mg : Str → Option Value} {base : Heap} {k : Nat} {f : Addr} {fd : FuncData} (G : Gm K mg) (FD : FunD K "of" "Swap.of" (defArgs st_Swap__of) (defBody st_Swap__of) (defScope st_Swap__of) [] [] f fd) (M : Meth K (He.ga K "Swap") "of" f) {g_image : FN} (C_image : Kn P w K mg base k "image" [.sh, .sh] g_image) :
    Km P w K mg base (k + 1) "Swap" "of" [.sh, .sh] (fnF [.sh, .sh] 0 (F_Swap__of g_image)) := by
  refine ⟨f, fd, ["self", "row"], fn_ok FD sc_Swap__of rfl (by decide) (fun cdv A outer s H E hr => ?_) (fun ds r h => h), G.k_Swap, M, FD.bindsN fun _ _ _ _ _ _ us hl => match us, hl with | [_, _], _ => rfl⟩
  have nd := sc_Swap__of.nd
  unfold F_Swap__of
  exact dss_one (ds_ret (de_call C_image hr (da_cons (do_of (de_fld G.k_Swap G.n_Swap_kept (do_peek 0))) (da_cons (do_of (de_var 1)) da_nil))))
def F_Swap____len__ : FS :=
  sRet (eA lenD (aCons (oE (eFld "Swap" "kept" (oS 0))) aNil))
abbrev st_Swap____len__ : Stmt := clsS (topS 34) 12
theorem sc_Swap____len__ : FnScope ["self"] ["self"] (defScope st_Swap____len__) := ⟨rfl, rfl, rfl, by decide +kernel, rfl, by decide +kernel, by decide +kernel⟩
theorem ok_Swap____len__ {P : Program} {w : World} {K : PySem.W.Frag} {mg : Str → Option Value} {base : Heap} {k : Nat} {f : Addr} {fd : FuncData} (G : Gm K mg) (FD : FunD K "__len__" "Swap.__len__" (defArgs st_Swap____len__) (defBody st_Swap____len__) (defScope st_Swap____len__) [] [] f fd) (M : Meth K (He.ga K "Swap") "__len__" f)  :
    Km P w K mg base (k + 1) "Swap" "__len__" [.sh] (fnF [.sh] 0 F_Swap____len__) := by
  refine ⟨f, fd, ["self"], fn_ok FD sc_Swap____len__ rfl (by decide) (fun cdv A outer s H E hr => ?_) (fun ds r h => h), G.k_Swap, M, FD.bindsN fun _ _ _ _ _ _ us hl => match us, hl with | [_], _ => rfl⟩
  have nd := sc_Swap____len__.nd
  unfold F_Swap____len__
  exact dss_one (ds_ret (de_callB cr_lenX cv_len G.m_len (by decide +kernel) (da_cons (do_of (de_fld G.k_Swap G.n_Swap_kept (do_peek 0))) da_nil)))
def F__law_open : FS :=
  sSeq (sG (eK (.int 1009)) (gN 1))
    (sSeq (sFor (iL (oE (eSl slL (oS 0) pNo (pAt (eK (.int 63)))))) (gN 2) (sG (eOp2 modD (oE (eOp2 addD (oE (eOp2 addD (oE (eOp2 mulD (oS 1) (oE (eK (.int 48271))))) (oE (eOp2 modD (oS 2) (oE (eK (.int 2147483629))))))) (oE (eK (.int 11))))) (oE (eK (.int 2147483647)))) (gN 1)))
    (sRetF (eDisp .lst (aCons (oE (eA listD (aCons (oE (eSl slL (oS 0) pNo (pAt (eK (.int 63))))) aNil))) (aCons (oE (eK (.int 0))) (aCons (oE (eK (.int 0))) (aCons (oE (eVar 1)) (aCons (oE (eK (.int 0))) aNil))))))))
abbrev st__law_open : Stmt := topS 36
theorem sc__law_open : FnScope ["_law_script", "_law_seed", "_law_cell"] ["_law_script"] (defScope st__law_open) := ⟨rfl, rfl, rfl, by decide +kernel, rfl, by decide +kernel, by decide +kernel⟩
theorem ok__law_open {P : Program} {w : World} {K : PySem.W.Frag} {mg : Str → Option Value} {base : Heap} {k : Nat} {f : Addr} {fd : FuncData} (G : Gm K mg) (FD : FunD K "_law_open" "_law_open" (defArgs st__law_open) (defBody st__law_open) (defScope st__law_open) [] [] f fd) (a : mg "_law_open" = some (.ref f))  :
    Kn P w K mg base (k + 1) "_law_open" [.sh] (fnF [.sh] 2 F__law_open) := by
  refine ⟨f, fd, ["_law_script"], fn_ok FD sc__law_open rfl (by decide) (fun cdv A outer s H E hr => ?_) (fun ds r h => h), a, FD.kp, FD.bindsN fun _ _ _ _ _ _ us hl => match us, hl with | [_], _ => rfl⟩
  have nd := sc__law_open.nd
  unfold F__law_open
  exact dss_cons (ds_set 1 nd de_int)
    (dss_cons (ds_for PassesOwn.never rfl (di_list (do_of (de_frz (df_slL (do_peek 0) dp_no (dp_at de_int))))) (dg_name 2 nd) (dss_one (ds_set 1 nd (de_op2 op_mod ov_mod (do_of (de_op2 op_addD ov_add (do_of (de_op2 op_addD ov_add (do_of (de_op2 op_mulD ov_mul (do_peek 1) (do_of de_int))) (do_of (de_op2 op_mod ov_mod (do_peek 2) (do_of de_int))))) (do_of de_int))) (do_of de_int)))))
    (dss_one (ds_retF (df_lst (da_cons (do_of (de_frz (df_callTy (cr_listX rfl) cf_list G.m_list (by decide +kernel) (da_cons (do_of (de_frz (df_slL (do_peek 0) dp_no (dp_at de_int)))) da_nil)))) (da_cons (do_of de_int) (da_cons (do_of de_int) (da_cons (do_of (de_var 1)) (da_cons (do_of de_int) da_nil)))))))))
def F__law_draw : FS :=
  sSeq (sIf (eAnd (eOp2 ltD (oE (eOp2 ixD (oS 0) (oE (eK (.int 2))))) (oE (eK (.int 1)))) (eOp2 ltD (oE (eOp2 ixD (oS 0) (oE (eK (.int 1))))) (oE (eA lenD (aCons (oE (eOp2 ixD (oS 0) (oE (eK (.int 0))))) aNil))))) (sSeq (sG (eOp2 ixD (oE (eOp2 ixD (oS 0) (oE (eK (.int 0))))) (oE (eOp2 ixD (oS 0) (oE (eK (.int 1)))))) (gN 3))
    (sSeq (sSetL 0 (eK (.int 1)) (eOp2 addD (oE (eOp2 ixD (oS 0) (oE (eK (.int 1))))) (oE (eK (.int 1)))))
    (sIf (eOp2 geD (oS 3) (oE (eOp2 powD (oE (eK (.int 10))) (oE (eK (.int 18)))))) (sSetL 0 (eK (.int 2)) (eVar 3)) (sSetL 0 (eK (.int 3)) (eOp2 modD (oE (eOp2 addD (oE (eOp2 ixD (oS 0) (oE (eK (.int 3))))) (oE (eOp2 mulD (oE (eOp2 modD (oS 3) (oE (eK (.int 2147483629))))) (oE (eK (.int 69621))))))) (oE (eK (.int 2147483647)))))))) sNil)
    (sSeq (sIf (eOp2 gtD (oE (eOp2 ixD (oS 0) (oE (eK (.int 2))))) (oE (eK (.int 0)))) (sSeq (sG (eOp2 modD (oE (eOp2 ixD (oS 0) (oE (eK (.int 2))))) (oS 1)) (gN 4))
    (sSeq (sSetL 0 (eK (.int 2)) (eOp2 fdivD (oE (eOp2 ixD (oS 0) (oE (eK (.int 2))))) (oS 1)))
    (sRet (eVar 4)))) sNil)
    (sSeq (sSetL 0 (eK (.int 4)) (eOp2 addD (oE (eOp2 ixD (oS 0) (oE (eK (.int 4))))) (oE (eK (.int 1)))))
    (sSeq (sG (eOp2 modD (oE (eOp2 addD (oE (eOp2 ixD (oS 0) (oE (eK (.int 3))))) (oE (eOp2 mulD (oE (eOp2 ixD (oS 0) (oE (eK (.int 4))))) (oE (eK (.int 7919))))))) (oE (eK (.int 2147483647)))) (gN 2))
    (sSeq (sSetL 0 (eK (.int 3)) (eOp2 modD (oE (eOp2 addD (oE (eOp2 addD (oE (eOp2 mulD (oE (eOp2 modD (oE (eOp2 mulD (oS 2) (oS 2))) (oE (eK (.int 2147483629))))) (oE (eOp2 addD (oE (eOp2 modD (oS 2) (oE (eK (.int 65521))))) (oE (eK (.int 3))))))) (oE (eOp2 mulD (oE (eK (.int 40692))) (oS 2))))) (oE (eK (.int 1013))))) (oE (eK (.int 2147483647)))))
    (sRet (eOp2 modD (oE (eOp2 addD (oE (eOp2 fdivD (oE (eOp2 ixD (oS 0) (oE (eK (.int 3))))) (oE (eK (.int 61))))) (oE (eOp2 mulD (oE (eOp2 modD (oE (eOp2 ixD (oS 0) (oE (eK (.int 3))))) (oE (eK (.int 8191))))) (oE (eK (.int 29))))))) (oS 1)))))))
abbrev st__law_draw : Stmt := topS 37
theorem sc__law_draw : FnScope ["_law_box", "_law_many", "_law_base", "_law_cell", "_law_got"] ["_law_box", "_law_many"] (defScope st__law_draw) := ⟨rfl, rfl, rfl, by decide +kernel, rfl, by decide +kernel, by decide +kernel⟩
theorem ok__law_draw {P : Program} {w : World} {K : PySem.W.Frag} {mg : Str → Option Value} {base : Heap} {k : Nat} {f : Addr} {fd : FuncData} (G : Gm K mg) (FD : FunD K "_law_draw" "_law_draw" (defArgs st__law_draw) (defBody st__law_draw) (defScope st__law_draw) [] [] f fd) (a : mg "_law_draw" = some (.ref f))  :
    Kn P w K mg base (k + 1) "_law_draw" [.pn, .sh] (fnF [.pn, .sh] 3 F__law_draw) := by
  refine ⟨f, fd, ["_law_box", "_law_many"], fn_ok FD sc__law_draw rfl (by decide) (fun cdv A outer s H E hr => ?_) (fun ds r h => h), a, FD.kp, FD.bindsN fun _ _ _ _ _ _ us hl => match us, hl with | [_, _], _ => rfl⟩
  have nd := sc__law_draw.nd
  unfold F__law_draw
  exact dss_cons (ds_if (dt_w (dw_and (dt_cmp2 op_ltD ov_lt (do_of (de_ix (do_peek 0) (do_of de_int))) (do_of de_int) (nomark _)) (dw_and1 (dt_cmp2 op_ltD ov_lt (do_of (de_ix (do_peek 0) (do_of de_int))) (do_of (de_callB cr_lenX cv_len G.m_len (by decide +kernel) (da_cons (do_of (de_ix (do_peek 0) (do_of de_int))) da_nil))) (nomark _))))) (dss_cons (ds_set 3 nd (de_ix (do_of (de_ix (do_peek 0) (do_of de_int))) (do_of (de_ix (do_peek 0) (do_of de_int)))))
    (dss_cons (ds_setL 0 de_int (de_op2 op_addD ov_add (do_of (de_ix (do_peek 0) (do_of de_int))) (do_of de_int)))
    (dss_one (ds_if (dt_cmp2 op_geD ov_ge (do_peek 3) (do_of (de_op2 op_pow ov_pow (do_of de_int) (do_of de_int))) (nomark _)) (dss_one (ds_setL 0 de_int (de_var 3))) (dss_one (ds_setL 0 de_int (de_op2 op_mod ov_mod (do_of (de_op2 op_addD ov_add (do_of (de_ix (do_peek 0) (do_of de_int))) (do_of (de_op2 op_mulD ov_mul (do_of (de_op2 op_mod ov_mod (do_peek 3) (do_of de_int))) (do_of de_int))))) (do_of de_int)))))))) dss_nil)
    (dss_cons (ds_if (dt_cmp2 op_gtD ov_gt (do_of (de_ix (do_peek 0) (do_of de_int))) (do_of de_int) (nomark _)) (dss_cons (ds_set 4 nd (de_op2 op_mod ov_mod (do_of (de_ix (do_peek 0) (do_of de_int))) (do_peek 1)))
    (dss_cons (ds_setL 0 de_int (de_op2 op_fdivN ov_fdiv (do_of (de_ix (do_peek 0) (do_of de_int))) (do_peek 1)))
    (dss_one (ds_ret (de_var 4))))) dss_nil)
    (dss_cons (ds_setL 0 de_int (de_op2 op_addD ov_add (do_of (de_ix (do_peek 0) (do_of de_int))) (do_of de_int)))
    (dss_cons (ds_set 2 nd (de_op2 op_mod ov_mod (do_of (de_op2 op_addD ov_add (do_of (de_ix (do_peek 0) (do_of de_int))) (do_of (de_op2 op_mulD ov_mul (do_of (de_ix (do_peek 0) (do_of de_int))) (do_of de_int))))) (do_of de_int)))
    (dss_cons (ds_setL 0 de_int (de_op2 op_mod ov_mod (do_of (de_op2 op_addD ov_add (do_of (de_op2 op_addD ov_add (do_of (de_op2 op_mulD ov_mul (do_of (de_op2 op_mod ov_mod (do_of (de_op2 op_mulD ov_mul (do_peek 2) (do_peek 2))) (do_of de_int))) (do_of (de_op2 op_addD ov_add (do_of (de_op2 op_mod ov_mod (do_peek 2) (do_of de_int))) (do_of de_int))))) (do_of (de_op2 op_mulD ov_mul (do_of de_int) (do_peek 2))))) (do_of de_int))) (do_of de_int)))
    (dss_one (ds_ret (de_op2 op_mod ov_mod (do_of (de_op2 op_addD ov_add (do_of (de_op2 op_fdivN ov_fdiv (do_of (de_ix (do_peek 0) (do_of de_int))) (do_of de_int))) (do_of (de_op2 op_mulD ov_mul (do_of (de_op2 op_mod ov_mod (do_of (de_ix (do_peek 0) (do_of de_int))) (do_of de_int))) (do_of de_int))))) (do_peek 1))))))))
def F__law_int : FS :=
  sRet (eAnd (eA isiD (aCons (oS 0) (aCons (oE (eK (.ty "int"))) aNil))) (eNot (eA isiD (aCons (oS 0) (aCons (oE (eK (.ty "bool"))) aNil)))))
abbrev st__law_int : Stmt := topS 38
theorem sc__law_int : FnScope ["_law_found"] ["_law_found"] (defScope st__law_int) := ⟨rfl, rfl, rfl, by decide +kernel, rfl, by decide +kernel, by decide +kernel⟩
theorem ok__law_int {P : Program} {w : World} {K : PySem.W.Frag} {mg : Str → Option Value} {base : Heap} {k : Nat} {f : Addr} {fd : FuncData} (G : Gm K mg) (FD : FunD K "_law_int" "_law_int" (defArgs st__law_int) (defBody st__law_int) (defScope st__law_int) [] [] f fd) (a : mg "_law_int" = some (.ref f))  :
    Kn P w K mg base (k + 1) "_law_int" [.sh] (fnF [.sh] 0 F__law_int) := by
  refine ⟨f, fd, ["_law_found"], fn_ok FD sc__law_int rfl (by decide) (fun cdv A outer s H E hr => ?_) (fun ds r h => h), a, FD.kp, FD.bindsN fun _ _ _ _ _ _ us hl => match us, hl with | [_], _ => rfl⟩
  have nd := sc__law_int.nd
  unfold F__law_int
  exact dss_one (ds_ret (de_and (de_callB call_isi cv_isi G.m_isinstance (by decide +kernel) (da_cons (do_peek 0) (da_cons (do_of (de_ty G.m_int (by decide +kernel))) da_nil))) (de_one (de_not (de_callB call_isi cv_isi G.m_isinstance (by decide +kernel) (da_cons (do_peek 0) (da_cons (do_of (de_ty G.m_bool (by decide +kernel))) da_nil)))))))
def F__law_like (g__law_int : FN) (g__law_like : FN) : FS :=
  sSeq (sIf (eOp2 isN (oS 1) (oE (eK .non))) (sRet (eOp2 isN (oS 0) (oE (eK .non)))) sNil)
    (sSeq (sIf (eA isiD (aCons (oS 1) (aCons (oE (eK (.ty "bool"))) aNil))) (sRet (eAnd (eA isiD (aCons (oS 0) (aCons (oE (eK (.ty "bool"))) aNil))) (eOp2 eqD (oS 0) (oS 1)))) sNil)
    (sSeq (sIf (eA isiD (aCons (oS 1) (aCons (oE (eK (.ty "int"))) aNil))) (sRet (eAnd (eCallB [.sh] g__law_int (aCons (oS 0) aNil)) (eOp2 eqD (oS 0) (oS 1)))) sNil)
    (sSeq (sIf (eA isiD (aCons (oS 1) (aCons (oE (eK (.ty "str"))) aNil))) (sRet (eAnd (eA isiD (aCons (oS 0) (aCons (oE (eK (.ty "str"))) aNil))) (eOp2 eqD (oS 0) (oS 1)))) sNil)
    (sSeq (sIf (eOr (eOp2 neD (oE (eA isiD (aCons (oS 1) (aCons (oE (eK (.ty "tuple"))) aNil)))) (oE (eA isiD (aCons (oS 0) (aCons (oE (eK (.ty "tuple"))) aNil))))) (eOp2 neD (oE (eA isiD (aCons (oS 1) (aCons (oE (eK (.ty "list"))) aNil)))) (oE (eA isiD (aCons (oS 0) (aCons (oE (eK (.ty "list"))) aNil)))))) (sRet (eK (.bl false))) sNil)
    (sRet (eAnd (eOp2 eqD (oE (eA lenD (aCons (oS 0) aNil))) (oE (eA lenD (aCons (oS 1) aNil)))) (eA allB (aCons (oE (eLc (iR1 (eA lenD (aCons (oS 1) aNil))) [2] (gN 2) (eK (.bl true)) (eCallB [.sh, .sh] g__law_like (aCons (oE (eOp2 ixD (oS 0) (oS 2))) (aCons (oE (eOp2 ixD (oS 1) (oS 2))) aNil))))) aNil))))))))
abbrev st__law_like : Stmt := topS 39
theorem sc__law_like : FnScope ["_law_found", "_law_due", "_law_k"] ["_law_found", "_law_due"] (defScope st__law_like) := ⟨rfl, rfl, rfl, by decide +kernel, rfl, by decide +kernel, by decide +kernel⟩
theorem ok__law_like {P : Program} {w : World} {K : PySem.W.Frag} {mg : Str → Option Value} {base : Heap} {k : Nat} {f : Addr} {fd : FuncData} (G : Gm K mg) (FD : FunD K "_law_like" "_law_like" (defArgs st__law_like) (defBody st__law_like) (defScope st__law_like) [] [] f fd) (a : mg "_law_like" = some (.ref f)) {g__law_int : FN} (C__law_int : Kn P w K mg base k "_law_int" [.sh] g__law_int) {g__law_like : FN} (C__law_like : Kn P w K mg base k "_law_like" [.sh, .sh] g__law_like) :
    Kn P w K mg base (k + 1) "_law_like" [.sh, .sh] (fnF [.sh, .sh] 1 (F__law_like g__law_int g__law_like)) := by
  refine ⟨f, fd, ["_law_found", "_law_due"], fn_ok FD sc__law_like rfl (by decide) (fun cdv A outer s H E hr => ?_) (fun ds r h => h), a, FD.kp, FD.bindsN fun _ _ _ _ _ _ us hl => match us, hl with | [_, _], _ => rfl⟩
  have nd := sc__law_like.nd
  unfold F__law_like
  exact dss_cons (ds_if (dt_cmp2 op_isN ov_isN (do_peek 1) (do_of de_non) (nomark _)) (dss_one (ds_ret (de_cmp2 op_isN ov_isN (do_peek 0) (do_of de_non) (nomark _)))) dss_nil)
    (dss_cons (ds_if (dt_of (de_callB call_isi cv_isi G.m_isinstance (by decide +kernel) (da_cons (do_peek 1) (da_cons (do_of (de_ty G.m_bool (by decide +kernel))) da_nil)))) (dss_one (ds_ret (de_and (de_callB call_isi cv_isi G.m_isinstance (by decide +kernel) (da_cons (do_peek 0) (da_cons (do_of (de_ty G.m_bool (by decide +kernel))) da_nil))) (de_one (de_cmp2 (op_eqX (room64 hr)) ov_eq (do_peek 0) (do_peek 1) (nomark _)))))) dss_nil)
    (dss_cons (ds_if (dt_of (de_callB call_isi cv_isi G.m_isinstance (by decide +kernel) (da_cons (do_peek 1) (da_cons (do_of (de_ty G.m_int (by decide +kernel))) da_nil)))) (dss_one (ds_ret (de_and (de_callB' C__law_int hr (da_cons (do_peek 0) da_nil)) (de_one (de_cmp2 (op_eqX (room64 hr)) ov_eq (do_peek 0) (do_peek 1) (nomark _)))))) dss_nil)
    (dss_cons (ds_if (dt_of (de_callB call_isi cv_isi G.m_isinstance (by decide +kernel) (da_cons (do_peek 1) (da_cons (do_of (de_ty G.m_str (by decide +kernel))) da_nil)))) (dss_one (ds_ret (de_and (de_callB call_isi cv_isi G.m_isinstance (by decide +kernel) (da_cons (do_peek 0) (da_cons (do_of (de_ty G.m_str (by decide +kernel))) da_nil))) (de_one (de_cmp2 (op_eqX (room64 hr)) ov_eq (do_peek 0) (do_peek 1) (nomark _)))))) dss_nil)
    (dss_cons (ds_if (dt_w (dw_or (dt_cmp2 (op_neX (room64 hr)) ov_ne (do_of (de_callB call_isi cv_isi G.m_isinstance (by decide +kernel) (da_cons (do_peek 1) (da_cons (do_of (de_ty G.m_tuple (by decide +kernel))) da_nil)))) (do_of (de_callB call_isi cv_isi G.m_isinstance (by decide +kernel) (da_cons (do_peek 0) (da_cons (do_of (de_ty G.m_tuple (by decide +kernel))) da_nil)))) (nomark _)) (dw_or1 (dt_cmp2 (op_neX (room64 hr)) ov_ne (do_of (de_callB call_isi cv_isi G.m_isinstance (by decide +kernel) (da_cons (do_peek 1) (da_cons (do_of (de_ty G.m_list (by decide +kernel))) da_nil)))) (do_of (de_callB call_isi cv_isi G.m_isinstance (by decide +kernel) (da_cons (do_peek 0) (da_cons (do_of (de_ty G.m_list (by decide +kernel))) da_nil)))) (nomark _))))) (dss_one (ds_ret de_bl)) dss_nil)
    (dss_one (ds_ret (de_and (de_cmp2 (op_eqX (room64 hr)) ov_eq (do_of (de_callB cr_lenX cv_len G.m_len (by decide +kernel) (da_cons (do_peek 0) da_nil))) (do_of (de_callB cr_lenX cv_len G.m_len (by decide +kernel) (da_cons (do_peek 1) da_nil))) (nomark _)) (de_one (de_callB (cr_all rfl) cv_all G.m_all (by decide +kernel) (da_cons (do_of (de_frz (df_lc [("_law_k", 2)] rfl nd (di_range1 G.m_range (de_callB cr_lenX cv_len G.m_len (by decide +kernel) (da_cons (do_peek 1) da_nil))) (blkOk_by (by first | rfl | decide +kernel)) (fun _ _ _ _ _ => dg_name 2 nd) (fun _ _ _ _ _ => dts_nil) (fun _ _ _ _ _ => de_callB' C__law_like hr (da_cons (do_of (de_ix (do_peek 0) (do_peek 2))) (da_cons (do_of (de_ix (do_peek 1) (do_peek 2))) da_nil)))))) da_nil))))))))))
def F__law_signs (g__law_draw : FN) : FS :=
  sRet (eM isStr joinD (oE (eK (.str []))) (aCons (oE (eLc (iR1 (eVar 1)) [2] (gN 2) (eK (.bl true)) (eOp2 ixD (oE (eK (.str [48, 49]))) (oE (eCallP 0 [.sh] g__law_draw (aCons (oE (eK (.int 2))) aNil)))))) aNil))
abbrev st__law_signs : Stmt := topS 40
theorem sc__law_signs : FnScope ["_law_box", "_law_many", "_law_step"] ["_law_box", "_law_many"] (defScope st__law_signs) := ⟨rfl, rfl, rfl, by decide +kernel, rfl, by decide +kernel, by decide +kernel⟩
theorem ok__law_signs {P : Program} {w : World} {K : PySem.W.Frag} {mg : Str → Option Value} {base : Heap} {k : Nat} {f : Addr} {fd : FuncData} (G : Gm K mg) (FD : FunD K "_law_signs" "_law_signs" (defArgs st__law_signs) (defBody st__law_signs) (defScope st__law_signs) [] [] f fd) (a : mg "_law_signs" = some (.ref f)) {g__law_draw : FN} (C__law_draw : Kn P w K mg base k "_law_draw" [.pn, .sh] g__law_draw) :
    Kn P w K mg base (k + 1) "_law_signs" [.pn, .sh] (fnF [.pn, .sh] 1 (F__law_signs g__law_draw)) := by
  refine ⟨f, fd, ["_law_box", "_law_many"], fn_ok FD sc__law_signs rfl (by decide) (fun cdv A outer s H E hr => ?_) (fun ds r h => h), a, FD.kp, FD.bindsN fun _ _ _ _ _ _ us hl => match us, hl with | [_, _], _ => rfl⟩
  have nd := sc__law_signs.nd
  unfold F__law_signs
  exact dss_one (ds_ret (de_m PySem.F.plainAttrs_str PySem.F.slot_str_join PySem.F.type_str_join mt_join ty_str mv_join (do_of (de_str [])) (da_cons (do_of (de_frz (df_lc [("_law_step", 2)] rfl nd (di_range1 G.m_range (de_var 1)) (blkOk_by (by first | rfl | decide +kernel)) (fun _ _ _ _ _ => dg_name 2 nd) (fun _ _ _ _ _ => dts_nil) (fun _ _ _ _ _ => de_ix (do_of (de_str [48, 49])) (do_of (de_callP 0 C__law_draw hr (da_cons (do_of de_int) da_nil))))))) da_nil)))
def F__law_cut (g__law_draw : FN) : FS :=
  sSeq (sOw 2 (eDisp .lst (aCons (oE (eK (.str []))) aNil)))
    (sSeq (sFor (iR1 (eOp2 subD (oS 1) (oE (eK (.int 1))))) (gN 3) (sSeq (sG (eCallP 0 [.sh] g__law_draw (aCons (oE (eA lenD (aCons (oS 2) aNil))) aNil)) (gN 4))
    (sSeq (sIf (eOp2 gtD (oE (eA lenD (aCons (oE (eOp2 ixD (oS 2) (oS 4))) aNil))) (oE (eK (.int 9)))) (sSeq (sG (eLc (iL (oS 2)) [5] (gN 5) (eK (.bl true)) (eA lenD (aCons (oS 5) aNil))) (gN 6))
    (sG (eM isLst indexD (oS 6) (aCons (oE (eA minD1 (aCons (oS 6) aNil))) aNil)) (gN 4))) sNil)
    (sSeq (sG (eMut 2 gPopAt (aCons (oE (eVar 4)) aNil)) (gN 5))
    (sOw 2 (eOp2 catD (oS 2) (oE (eDisp .lst (aCons (oE (eOp2 addD (oS 5) (oE (eK (.str [48]))))) (aCons (oE (eOp2 addD (oS 5) (oE (eK (.str [49]))))) aNil))))))))))
    (sRetF (eA sortD (aCons (oS 2) aNil))))
abbrev st__law_cut : Stmt := topS 41
theorem sc__law_cut : FnScope ["_law_box", "_law_many", "_law_heads", "_law_step", "_law_at", "_law_head", "_law_sizes"] ["_law_box", "_law_many"] (defScope st__law_cut) := ⟨rfl, rfl, rfl, by decide +kernel, rfl, by decide +kernel, by decide +kernel⟩
theorem ok__law_cut {P : Program} {w : World} {K : PySem.W.Frag} {mg : Str → Option Value} {base : Heap} {k : Nat} {f : Addr} {fd : FuncData} (G : Gm K mg) (FD : FunD K "_law_cut" "_law_cut" (defArgs st__law_cut) (defBody st__law_cut) (defScope st__law_cut) [] [] f fd) (a : mg "_law_cut" = some (.ref f)) {g__law_draw : FN} (C__law_draw : Kn P w K mg base k "_law_draw" [.pn, .sh] g__law_draw) :
    Kn P w K mg base (k + 1) "_law_cut" [.pn, .sh] (fnF [.pn, .sh] 5 (F__law_cut g__law_draw)) := by
  refine ⟨f, fd, ["_law_box", "_law_many"], fn_ok FD sc__law_cut rfl (by decide) (fun cdv A outer s H E hr => ?_) (fun ds r h => h), a, FD.kp, FD.bindsN fun _ _ _ _ _ _ us hl => match us, hl with | [_, _], _ => rfl⟩
  have nd := sc__law_cut.nd
  unfold F__law_cut
  exact dss_cons (ds_own 2 nd (df_lst (da_cons (do_of (de_str [])) da_nil)))
    (dss_cons (ds_for PassesOwn.never rfl (di_range1 G.m_range (de_op2 op_sub ov_sub (do_peek 1) (do_of de_int))) (dg_name 3 nd) (dss_cons (ds_set 4 nd (de_callP 0 C__law_draw hr (da_cons (do_of (de_callB cr_lenX cv_len G.m_len (by decide +kernel) (da_cons (do_peek 2) da_nil))) da_nil)))
    (dss_cons (ds_if (dt_cmp2 op_gtD ov_gt (do_of (de_callB cr_lenX cv_len G.m_len (by decide +kernel) (da_cons (do_of (de_ix (do_peek 2) (do_peek 4))) da_nil))) (do_of de_int) (nomark _)) (dss_cons (ds_setLc 6 [("_law_head", 5)] rfl nd (di_list (do_peek 2)) (blkOk_by (by first | rfl | decide +kernel)) (fun _ _ _ _ _ => dg_name 5 nd) (fun _ _ _ _ _ => dts_nil) (fun _ _ _ _ _ => de_callB cr_lenX cv_len G.m_len (by decide +kernel) (da_cons (do_peek 5) da_nil)))
    (dss_one (ds_set 4 nd (de_m PySem.F.plainAttrs_list PySem.F.slot_list_index PySem.F.type_list_index mt_index ty_lst mv_index (do_peek 6) (da_cons (do_of (de_callB (cr_min rfl) cv_min1 G.m_min (by decide +kernel) (da_cons (do_peek 6) da_nil))) da_nil))))) dss_nil)
    (dss_cons (ds_set 5 nd (de_mut 2 PySem.F.slot_list_pop PySem.F.type_list_pop mt_popAt mm_popAt (da_cons (do_of (de_var 4)) da_nil)))
    (dss_one (ds_own 2 nd (df_op2 op_cat of_cat (do_peek 2) (do_of (de_frz (df_lst (da_cons (do_of (de_op2 op_addD ov_add (do_peek 5) (do_of (de_str [48])))) (da_cons (do_of (de_op2 op_addD ov_add (do_peek 5) (do_of (de_str [49])))) da_nil))))))))))))
    (dss_one (ds_retF (df_callB cr_sortedS cf_sort G.m_sorted (by decide +kernel) (da_cons (do_peek 2) da_nil)))))
def F__law_mixed (g__law_draw : FN) : FS :=
  sSeq (sOw 2 (eA listD (aCons (oS 1) aNil)))
    (sSeq (sOw 3 (eDisp .lst aNil))
    (sSeq (sFor (iR1 (eA lenD (aCons (oS 1) aNil))) (gN 4) (sE (eMut 3 gApp (aCons (oE (eMut 2 gPopAt (aCons (oE (eCallP 0 [.sh] g__law_draw (aCons (oE (eA lenD (aCons (oS 2) aNil))) aNil))) aNil))) aNil))))
    (sRetOw 3)))
abbrev st__law_mixed : Stmt := topS 42
theorem sc__law_mixed : FnScope ["_law_box", "_law_row", "_law_left", "_law_found", "_law_step"] ["_law_box", "_law_row"] (defScope st__law_mixed) := ⟨rfl, rfl, rfl, by decide +kernel, rfl, by decide +kernel, by decide +kernel⟩
theorem ok__law_mixed {P : Program} {w : World} {K : PySem.W.Frag} {mg : Str → Option Value} {base : Heap} {k : Nat} {f : Addr} {fd : FuncData} (G : Gm K mg) (FD : FunD K "_law_mixed" "_law_mixed" (defArgs st__law_mixed) (defBody st__law_mixed) (defScope st__law_mixed) [] [] f fd) (a : mg "_law_mixed" = some (.ref f)) {g__law_draw : FN} (C__law_draw : Kn P w K mg base k "_law_draw" [.pn, .sh] g__law_draw) :
    Kn P w K mg base (k + 1) "_law_mixed" [.pn, .sh] (fnF [.pn, .sh] 3 (F__law_mixed g__law_draw)) := by
  refine ⟨f, fd, ["_law_box", "_law_row"], fn_ok FD sc__law_mixed rfl (by decide) (fun cdv A outer s H E hr => ?_) (fun ds r h => h), a, FD.kp, FD.bindsN fun _ _ _ _ _ _ us hl => match us, hl with | [_, _], _ => rfl⟩
  have nd := sc__law_mixed.nd
  unfold F__law_mixed
  exact dss_cons (ds_own 2 nd (df_callTy (cr_listX rfl) cf_list G.m_list (by decide +kernel) (da_cons (do_peek 1) da_nil)))
    (dss_cons (ds_own 3 nd (df_lst da_nil))
    (dss_cons (ds_for PassesOwn.never rfl (di_range1 G.m_range (de_callB cr_lenX cv_len G.m_len (by decide +kernel) (da_cons (do_peek 1) da_nil))) (dg_name 4 nd) (dss_one (ds_expr (de_mut 3 PySem.F.slot_list_append PySem.F.type_list_append mt_append mm_app (da_cons (do_of (de_mut 2 PySem.F.slot_list_pop PySem.F.type_list_pop mt_popAt mm_popAt (da_cons (do_of (de_callP 0 C__law_draw hr (da_cons (do_of (de_callB cr_lenX cv_len G.m_len (by decide +kernel) (da_cons (do_peek 2) da_nil))) da_nil))) da_nil))) da_nil)))))
    (dss_one (ds_retOw 3))))
def F__law_rows (g__law_draw : FN) (g__law_cut : FN) (g__law_mixed : FN) : FS :=
  sSeq (sG (eOp2 addD (oE (eK (.int 1))) (oE (eCallP 0 [.sh] g__law_draw (aCons (oE (eVar 1)) aNil)))) (gN 2))
    (sSeq (sG (eCallPF 0 [.sh] g__law_cut (aCons (oE (eVar 2)) aNil)) (gN 3))
    (sSeq (sG (eCallP 0 [.sh] g__law_draw (aCons (oE (eK (.int 4))) aNil)) (gN 4))
    (sSeq (sIf (eOp2 eqD (oS 4) (oE (eK (.int 0)))) (sSeq (sG (eCallP 0 [.sh] g__law_draw (aCons (oE (eVar 2)) aNil)) (gN 5))
    (sG (eOp2 catD (oE (eSl slL (oS 3) (pAt (eVar 5)) pNo)) (oE (eSl slL (oS 3) pNo (pAt (eVar 5))))) (gN 3))) (sIf (eOp2 gtD (oS 4) (oE (eK (.int 1)))) (sG (eCallPF 0 [.sh] g__law_mixed (aCons (oE (eVar 3)) aNil)) (gN 3)) sNil))
    (sRetF (eLc (iZ (oE (eCallPF 0 [.sh] g__law_cut (aCons (oE (eVar 2)) aNil))) (oE (eVar 3))) [6, 7] (gT 2 (gsCons (gN 6) (gsCons (gN 7) gsNil))) (eK (.bl true)) (eDisp .tup (aCons (oE (eVar 6)) (aCons (oE (eVar 7)) aNil))))))))
abbrev st__law_rows : Stmt := topS 43
theorem sc__law_rows : FnScope ["_law_box", "_law_most", "_law_many", "_law_others", "_law_way", "_law_turn", "_law_head", "_law_other"] ["_law_box", "_law_most"] (defScope st__law_rows) := ⟨rfl, rfl, rfl, by decide +kernel, rfl, by decide +kernel, by decide +kernel⟩
theorem ok__law_rows {P : Program} {w : World} {K : PySem.W.Frag} {mg : Str → Option Value} {base : Heap} {k : Nat} {f : Addr} {fd : FuncData} (G : Gm K mg) (FD : FunD K "_law_rows" "_law_rows" (defArgs st__law_rows) (defBody st__law_rows) (defScope st__law_rows) [] [] f fd) (a : mg "_law_rows" = some (.ref f)) {g__law_draw : FN} (C__law_draw : Kn P w K mg base k "_law_draw" [.pn, .sh] g__law_draw) {g__law_cut : FN} (C__law_cut : Kn P w K mg base k "_law_cut" [.pn, .sh] g__law_cut) {g__law_mixed : FN} (C__law_mixed : Kn P w K mg base k "_law_mixed" [.pn, .sh] g__law_mixed) :
    Kn P w K mg base (k + 1) "_law_rows" [.pn, .sh] (fnF [.pn, .sh] 6 (F__law_rows g__law_draw g__law_cut g__law_mixed)) := by
  refine ⟨f, fd, ["_law_box", "_law_most"], fn_ok FD sc__law_rows rfl (by decide) (fun cdv A outer s H E hr => ?_) (fun ds r h => h), a, FD.kp, FD.bindsN fun _ _ _ _ _ _ us hl => match us, hl with | [_, _], _ => rfl⟩
  have nd := sc__law_rows.nd
  unfold F__law_rows
  exact dss_cons (ds_set 2 nd (de_op2 op_addD ov_add (do_of de_int) (do_of (de_callP 0 C__law_draw hr (da_cons (do_of (de_var 1)) da_nil)))))
    (dss_cons (ds_set 3 nd (de_frz (df_callP 0 C__law_cut hr (da_cons (do_of (de_var 2)) da_nil))))
    (dss_cons (ds_set 4 nd (de_callP 0 C__law_draw hr (da_cons (do_of de_int) da_nil)))
    (dss_cons (ds_if (dt_cmp2 (op_eqX (room64 hr)) ov_eq (do_peek 4) (do_of de_int) (nomark _)) (dss_cons (ds_set 5 nd (de_callP 0 C__law_draw hr (da_cons (do_of (de_var 2)) da_nil)))
    (dss_one (ds_set 3 nd (de_frz (df_op2 op_cat of_cat (do_of (de_frz (df_slL (do_peek 3) (dp_at (de_var 5)) dp_no))) (do_of (de_frz (df_slL (do_peek 3) dp_no (dp_at (de_var 5)))))))))) (dss_one (ds_if (dt_cmp2 op_gtD ov_gt (do_peek 4) (do_of de_int) (nomark _)) (dss_one (ds_set 3 nd (de_frz (df_callP 0 C__law_mixed hr (da_cons (do_of (de_var 3)) da_nil))))) dss_nil)))
    (dss_one (ds_retF (df_lc [("_law_head", 6), ("_law_other", 7)] rfl nd (di_zip G.m_zip (do_of (de_frz (df_callP 0 C__law_cut hr (da_cons (do_of (de_var 2)) da_nil)))) (do_of (de_var 3))) (blkOk_by (by first | rfl | decide +kernel)) (fun _ _ _ _ _ => dg_tup rfl (dgs_cons (dg_name 6 nd) (dgs_cons (dg_name 7 nd) dgs_nil))) (fun _ _ _ _ _ => dts_nil) (fun _ _ _ _ _ => de_frz (df_tup (da_cons (do_of (de_var 6)) (da_cons (do_of (de_var 7)) da_nil))))))))))
def F__law_few : FS :=
  sSeq (sOw 1 (eA dictD (aCons (oS 0) aNil)))
    (sSeq (sG (eK (.bl true)) (gN 2))
    (sSeq (sWhile FU (eVar 2) (sSeq (sG (eK (.bl false)) (gN 2))
    (sFor (iL (oE (eA sortD (aCons (oE (eA listD (aCons (oS 1) aNil))) aNil)))) (gN 3) (sSeq (sPar 4 5 (aCons (oE (eGet2 1 (eOp2 addD (oE (eSl slS (oS 3) pNo (pAt (eNeg (eK (.int 1)))))) (oE (eK (.str [48])))) (eK (.str [63])))) (aCons (oE (eGet2 1 (eOp2 addD (oE (eSl slS (oS 3) pNo (pAt (eNeg (eK (.int 1)))))) (oE (eK (.str [49])))) (eK (.str [63])))) aNil)))
    (sIf (eAnd (eOp2 neD (oS 3) (oE (eK (.str [])))) (eAnd (eOp2 eqD (oE (eSl slS (oS 4) pNo (pAt (eNeg (eK (.int 1)))))) (oE (eSl slS (oS 5) pNo (pAt (eNeg (eK (.int 1))))))) (eAnd (eOp2 eqD (oE (eSl slS (oS 4) (pAt (eNeg (eK (.int 1)))) pNo)) (oE (eK (.str [48])))) (eOp2 eqD (oE (eSl slS (oS 5) (pAt (eNeg (eK (.int 1)))) pNo)) (oE (eK (.str [49]))))))) (sSeq (sE (ePopK 1 (eOp2 addD (oE (eSl slS (oS 3) pNo (pAt (eNeg (eK (.int 1)))))) (oE (eK (.str [48]))))))
    (sSeq (sE (ePopK 1 (eOp2 addD (oE (eSl slS (oS 3) pNo (pAt (eNeg (eK (.int 1)))))) (oE (eK (.str [49]))))))
    (sSeq (sSetK 1 (eSl slS (oS 3) pNo (pAt (eNeg (eK (.int 1))))) (eSl slS (oS 4) pNo (pAt (eNeg (eK (.int 1))))))
    (sSeq (sG (eK (.bl true)) (gN 2))
    sBk)))) sNil)))))
    (sRetF (eLc (iL (oE (eA sortD (aCons (oE (eA listD (aCons (oS 1) aNil))) aNil)))) [3] (gN 3) (eK (.bl true)) (eDisp .tup (aCons (oE (eVar 3)) (aCons (oE (eOp2 getD' (oS 1) (oS 3))) aNil)))))))
abbrev st__law_few : Stmt := topS 44
theorem sc__law_few : FnScope ["_law_rows_here", "_law_found", "_law_again", "_law_head", "_law_low", "_law_high"] ["_law_rows_here"] (defScope st__law_few) := ⟨rfl, rfl, rfl, by decide +kernel, rfl, by decide +kernel, by decide +kernel⟩
theorem ok__law_few {P : Program} {w : World} {K : PySem.W.Frag} {mg : Str → Option Value} {base : Heap} {k : Nat} {f : Addr} {fd : FuncData} (G : Gm K mg) (FD : FunD K "_law_few" "_law_few" (defArgs st__law_few) (defBody st__law_few) (defScope st__law_few) [] [] f fd) (a : mg "_law_few" = some (.ref f))  :
    Kn P w K mg base (k + 1) "_law_few" [.sh] (fnF [.sh] 5 F__law_few) := by
  refine ⟨f, fd, ["_law_rows_here"], fn_ok FD sc__law_few rfl (by decide) (fun cdv A outer s H E hr => ?_) (fun ds r h => h), a, FD.kp, FD.bindsN fun _ _ _ _ _ _ us hl => match us, hl with | [_], _ => rfl⟩
  have nd := sc__law_few.nd
  unfold F__law_few
  exact dss_cons (ds_own 1 nd (df_callTy (cr_dictP rfl) cf_dict G.m_dict (by decide +kernel) (da_cons (do_peek 0) da_nil)))
    (dss_cons (ds_set 2 nd de_bl)
    (dss_cons (ds_while FU PassesOwn.never (dt_of (de_var 2)) (dss_cons (ds_set 2 nd de_bl)
    (dss_one (ds_for PassesOwn.never rfl (di_list (do_of (de_frz (df_callB cr_sortedS cf_sort G.m_sorted (by decide +kernel) (da_cons (do_of (de_frz (df_callTy (cr_listX rfl) cf_list G.m_list (by decide +kernel) (da_cons (do_peek 1) da_nil)))) da_nil))))) (dg_name 3 nd) (dss_cons (ds_par 4 5 rfl nd (da_cons (do_of (de_get2 1 (room1 hr) (de_op2 op_addD ov_add (do_of (de_slS (do_peek 3) dp_no (dp_at (de_neg de_int)))) (do_of (de_str [48]))) (de_str [63]))) (da_cons (do_of (de_get2 1 (room1 hr) (de_op2 op_addD ov_add (do_of (de_slS (do_peek 3) dp_no (dp_at (de_neg de_int)))) (do_of (de_str [49]))) (de_str [63]))) da_nil)))
    (dss_one (ds_if (dt_w (dw_and (dt_cmp2 (op_neX (room64 hr)) ov_ne (do_peek 3) (do_of (de_str [])) (nomark _)) (dw_and (dt_cmp2 (op_eqX (room64 hr)) ov_eq (do_of (de_slS (do_peek 4) dp_no (dp_at (de_neg de_int)))) (do_of (de_slS (do_peek 5) dp_no (dp_at (de_neg de_int)))) (nomark _)) (dw_and (dt_cmp2 (op_eqX (room64 hr)) ov_eq (do_of (de_slS (do_peek 4) (dp_at (de_neg de_int)) dp_no)) (do_of (de_str [48])) (nomark _)) (dw_and1 (dt_cmp2 (op_eqX (room64 hr)) ov_eq (do_of (de_slS (do_peek 5) (dp_at (de_neg de_int)) dp_no)) (do_of (de_str [49])) (nomark _))))))) (dss_cons (ds_expr (de_popK 1 (de_op2 op_addD ov_add (do_of (de_slS (do_peek 3) dp_no (dp_at (de_neg de_int)))) (do_of (de_str [48])))))
    (dss_cons (ds_expr (de_popK 1 (de_op2 op_addD ov_add (do_of (de_slS (do_peek 3) dp_no (dp_at (de_neg de_int)))) (do_of (de_str [49])))))
    (dss_cons (ds_setK 1 (room1 hr) (de_slS (do_peek 3) dp_no (dp_at (de_neg de_int))) (de_slS (do_peek 4) dp_no (dp_at (de_neg de_int))))
    (dss_cons (ds_set 2 nd de_bl)
    (dss_one ds_break))))) dss_nil)))))))
    (dss_one (ds_retF (df_lc [("_law_head", 3)] rfl nd (di_list (do_of (de_frz (df_callB cr_sortedS cf_sort G.m_sorted (by decide +kernel) (da_cons (do_of (de_frz (df_callTy (cr_listX rfl) cf_list G.m_list (by decide +kernel) (da_cons (do_peek 1) da_nil)))) da_nil))))) (blkOk_by (by first | rfl | decide +kernel)) (fun _ _ _ _ _ => dg_name 3 nd) (fun _ _ _ _ _ => dts_nil) (fun _ _ _ _ _ => de_frz (df_tup (da_cons (do_of (de_var 3)) (da_cons (do_of (de_dget (room1 hr) (do_peek 1) (do_peek 3))) da_nil)))))))))
def F__law_plain : FS :=
  sSeq (sG (eLc (iR2 (eK (.int 1)) (eOp2 addD (oE (eA lenD (aCons (oS 1) aNil))) (oE (eK (.int 1))))) [3] (gN 3) (eOp2 eqD (oE (eOp2 mulD (oE (eSl slS (oS 1) pNo (pAt (eVar 3)))) (oE (eOp2 fdivD (oE (eA lenD (aCons (oS 1) aNil))) (oS 3))))) (oS 1)) (eVar 3)) (gN 2))
    (sSeq (sG (eSl slS (oS 1) pNo (pAt (eOp2 ixD (oS 2) (oE (eK (.int 0)))))) (gN 1))
    (sSeq (sWhile FU (eAnd (eOp2 neD (oS 0) (oE (eK (.str [])))) (eOp2 eqD (oE (eOp2 ixD (oS 0) (oE (eNeg (eK (.int 1)))))) (oE (eOp2 ixD (oS 1) (oE (eNeg (eK (.int 1)))))))) (sSeq (sG (eOp2 addD (oE (eOp2 ixD (oS 1) (oE (eNeg (eK (.int 1)))))) (oE (eSl slS (oS 1) pNo (pAt (eNeg (eK (.int 1))))))) (gN 1))
    (sG (eSl slS (oS 0) pNo (pAt (eNeg (eK (.int 1))))) (gN 0))))
    (sRet (eDisp .tup (aCons (oE (eVar 0)) (aCons (oE (eVar 1)) aNil))))))
abbrev st__law_plain : Stmt := topS 45
theorem sc__law_plain : FnScope ["_law_head", "_law_ring", "_law_sizes", "_law_size"] ["_law_head", "_law_ring"] (defScope st__law_plain) := ⟨rfl, rfl, rfl, by decide +kernel, rfl, by decide +kernel, by decide +kernel⟩
theorem ok__law_plain {P : Program} {w : World} {K : PySem.W.Frag} {mg : Str → Option Value} {base : Heap} {k : Nat} {f : Addr} {fd : FuncData} (G : Gm K mg) (FD : FunD K "_law_plain" "_law_plain" (defArgs st__law_plain) (defBody st__law_plain) (defScope st__law_plain) [] [] f fd) (a : mg "_law_plain" = some (.ref f))  :
    Kn P w K mg base (k + 1) "_law_plain" [.sh, .sh] (fnF [.sh, .sh] 2 F__law_plain) := by
  refine ⟨f, fd, ["_law_head", "_law_ring"], fn_ok FD sc__law_plain rfl (by decide) (fun cdv A outer s H E hr => ?_) (fun ds r h => h), a, FD.kp, FD.bindsN fun _ _ _ _ _ _ us hl => match us, hl with | [_, _], _ => rfl⟩
  have nd := sc__law_plain.nd
  unfold F__law_plain
  exact dss_cons (ds_setLc 2 [("_law_size", 3)] rfl nd (di_range2 G.m_range de_int (de_op2 op_addD ov_add (do_of (de_callB cr_lenX cv_len G.m_len (by decide +kernel) (da_cons (do_peek 1) da_nil))) (do_of de_int))) (blkOk_by (by first | rfl | decide +kernel)) (fun _ _ _ _ _ => dg_name 3 nd) (fun _ _ _ _ _ => dts_one (dt_cmp2 (op_eqX (room64 hr)) ov_eq (do_of (de_op2 op_mulD ov_mul (do_of (de_slS (do_peek 1) dp_no (dp_at (de_var 3)))) (do_of (de_op2 op_fdivN ov_fdiv (do_of (de_callB cr_lenX cv_len G.m_len (by decide +kernel) (da_cons (do_peek 1) da_nil))) (do_peek 3))))) (do_peek 1) (nomark _))) (fun _ _ _ _ _ => de_var 3))
    (dss_cons (ds_set 1 nd (de_slS (do_peek 1) dp_no (dp_at (de_ix (do_peek 2) (do_of de_int)))))
    (dss_cons (ds_while FU PassesOwn.never (dt_w (dw_and (dt_cmp2 (op_neX (room64 hr)) ov_ne (do_peek 0) (do_of (de_str [])) (nomark _)) (dw_and1 (dt_cmp2 (op_eqX (room64 hr)) ov_eq (do_of (de_ix (do_peek 0) (do_of (de_neg de_int)))) (do_of (de_ix (do_peek 1) (do_of (de_neg de_int)))) (nomark _))))) (dss_cons (ds_set 1 nd (de_op2 op_addD ov_add (do_of (de_ix (do_peek 1) (do_of (de_neg de_int)))) (do_of (de_slS (do_peek 1) dp_no (dp_at (de_neg de_int))))))
    (dss_one (ds_set 0 nd (de_slS (do_peek 0) dp_no (dp_at (de_neg de_int)))))))
    (dss_one (ds_ret (de_frz (df_tup (da_cons (do_of (de_var 0)) (da_cons (do_of (de_var 1)) da_nil))))))))
def F__law_first : FS :=
  sRet (eSl slS (oE (eOp2 addD (oE (eOp2 ixD (oS 0) (oE (eK (.int 0))))) (oE (eOp2 mulD (oE (eOp2 ixD (oS 0) (oE (eK (.int 1))))) (oE (eOp2 addD (oE (eOp2 fdivD (oS 1) (oE (eA lenD (aCons (oE (eOp2 ixD (oS 0) (oE (eK (.int 1))))) aNil))))) (oE (eK (.int 1))))))))) pNo (pAt (eVar 1)))
abbrev st__law_first : Stmt := topS 46
theorem sc__law_first : FnScope ["_law_pair_here", "_law_many"] ["_law_pair_here", "_law_many"] (defScope st__law_first) := ⟨rfl, rfl, rfl, by decide +kernel, rfl, by decide +kernel, by decide +kernel⟩
theorem ok__law_first {P : Program} {w : World} {K : PySem.W.Frag} {mg : Str → Option Value} {base : Heap} {k : Nat} {f : Addr} {fd : FuncData} (G : Gm K mg) (FD : FunD K "_law_first" "_law_first" (defArgs st__law_first) (defBody st__law_first) (defScope st__law_first) [] [] f fd) (a : mg "_law_first" = some (.ref f))  :
    Kn P w K mg base (k + 1) "_law_first" [.sh, .sh] (fnF [.sh, .sh] 0 F__law_first) := by
  refine ⟨f, fd, ["_law_pair_here", "_law_many"], fn_ok FD sc__law_first rfl (by decide) (fun cdv A outer s H E hr => ?_) (fun ds r h => h), a, FD.kp, FD.bindsN fun _ _ _ _ _ _ us hl => match us, hl with | [_, _], _ => rfl⟩
  have nd := sc__law_first.nd
  unfold F__law_first
  exact dss_one (ds_ret (de_slS (do_of (de_op2 op_addD ov_add (do_of (de_ix (do_peek 0) (do_of de_int))) (do_of (de_op2 op_mulD ov_mul (do_of (de_ix (do_peek 0) (do_of de_int))) (do_of (de_op2 op_addD ov_add (do_of (de_op2 op_fdivN ov_fdiv (do_peek 1) (do_of (de_callB cr_lenX cv_len G.m_len (by decide +kernel) (da_cons (do_of (de_ix (do_peek 0) (do_of de_int))) da_nil))))) (do_of de_int))))))) dp_no (dp_at (de_var 1))))
def F__law_real (g_Endless____init__ : FN) : FS :=
  sRetF (eNew "Endless" [.sh, .sh] g_Endless____init__ (aCons (oE (eOp2 ixD (oS 0) (oE (eK (.int 0))))) (aCons (oE (eOp2 ixD (oS 0) (oE (eK (.int 1))))) aNil)))
abbrev st__law_real : Stmt := topS 47
theorem sc__law_real : FnScope ["_law_pair_here"] ["_law_pair_here"] (defScope st__law_real) := ⟨rfl, rfl, rfl, by decide +kernel, rfl, by decide +kernel, by decide +kernel⟩
theorem ok__law_real {P : Program} {w : World} {K : PySem.W.Frag} {mg : Str → Option Value} {base : Heap} {k : Nat} {f : Addr} {fd : FuncData} (G : Gm K mg) (FD : FunD K "_law_real" "_law_real" (defArgs st__law_real) (defBody st__law_real) (defScope st__law_real) [] [] f fd) (a : mg "_law_real" = some (.ref f)) {g_Endless____init__ : FN} (C_Endless____init__ : Kc P w K mg base k "Endless" [.sh, .sh] g_Endless____init__) :
    Kn P w K mg base (k + 1 + 1) "_law_real" [.sh] (fnF [.sh] 0 (F__law_real g_Endless____init__)) := by
  refine ⟨f, fd, ["_law_pair_here"], fn_ok FD sc__law_real rfl (by decide) (fun cdv A outer s H E hr => ?_) (fun ds r h => h), a, FD.kp, FD.bindsN fun _ _ _ _ _ _ us hl => match us, hl with | [_], _ => rfl⟩
  have nd := sc__law_real.nd
  unfold F__law_real
  exact dss_one (ds_retF (df_new C_Endless____init__ hr (da_cons (do_of (de_ix (do_peek 0) (do_of de_int))) (da_cons (do_of (de_ix (do_peek 0) (do_of de_int))) da_nil))))
def F__law_is_row (g__law_plain : FN) (g_Endless__ring : FN) (g_Endless__head : FN) (g__law_like : FN) : FS :=
  sSeq (sIf (eNot (eA (isoD "Endless") (aCons (oS 0) (aCons (oE (eK (.cls "Endless"))) aNil)))) (sRet (eK (.bl false))) sNil)
    (sRet (eCallB [.sh, .sh] g__law_like (aCons (oE (eDisp .lst (aCons (oE (eMeth "Endless" "head" [.sh] g_Endless__head (eVar 0) aNil)) (aCons (oE (eMeth "Endless" "ring" [.sh] g_Endless__ring (eVar 0) aNil)) aNil)))) (aCons (oE (eA listD (aCons (oE (eCall [.sh, .sh] g__law_plain (aCons (oE (eOp2 ixD (oS 1) (oE (eK (.int 0))))) (aCons (oE (eOp2 ixD (oS 1) (oE (eK (.int 1))))) aNil)))) aNil))) aNil))))
abbrev st__law_is_row : Stmt := topS 48
theorem sc__law_is_row : FnScope ["_law_found", "_law_pair_here"] ["_law_found", "_law_pair_here"] (defScope st__law_is_row) := ⟨rfl, rfl, rfl, by decide +kernel, rfl, by decide +kernel, by decide +kernel⟩
theorem ok__law_is_row {P : Program} {w : World} {K : PySem.W.Frag} {mg : Str → Option Value} {base : Heap} {k : Nat} {f : Addr} {fd : FuncData} (G : Gm K mg) (FD : FunD K "_law_is_row" "_law_is_row" (defArgs st__law_is_row) (defBody st__law_is_row) (defScope st__law_is_row) [] [] f fd) (a : mg "_law_is_row" = some (.ref f)) {g__law_plain : FN} (C__law_plain : Kn P w K mg base k "_law_plain" [.sh, .sh] g__law_plain) {g_Endless__ring : FN} (C_Endless__ring : Km P w K mg base k "Endless" "ring" [.sh] g_Endless__ring) {g_Endless__head : FN} (C_Endless__head : Km P w K mg base k "Endless" "head" [.sh] g_Endless__head) {g__law_like : FN} (C__law_like : Kn P w K mg base k "_law_like" [.sh, .sh] g__law_like) :
    Kn P w K mg base (k + 1) "_law_is_row" [.sh, .sh] (fnF [.sh, .sh] 0 (F__law_is_row g__law_plain g_Endless__ring g_Endless__head g__law_like)) := by
  refine ⟨f, fd, ["_law_found", "_law_pair_here"], fn_ok FD sc__law_is_row rfl (by decide) (fun cdv A outer s H E hr => ?_) (fun ds r h => h), a, FD.kp, FD.bindsN fun _ _ _ _ _ _ us hl => match us, hl with | [_, _], _ => rfl⟩
  have nd := sc__law_is_row.nd
  unfold F__law_is_row
  exact dss_cons (ds_if (dt_not (dt_of (de_callB call_isi (cv_iso G.i_Endless) G.m_isinstance (by decide +kernel) (da_cons (do_peek 0) (da_cons (do_of (de_cls "Endless" G.v_Endless)) da_nil))))) (dss_one (ds_ret de_bl)) dss_nil)
    (dss_one (ds_ret (de_callB' C__law_like hr (da_cons (do_of (de_frz (df_lst (da_cons (do_of (de_meth0 C_Endless__head hr (de_var 0) )) (da_cons (do_of (de_meth0 C_Endless__ring hr (de_var 0) )) da_nil))))) (da_cons (do_of (de_frz (df_callTy (cr_listX rfl) cf_list G.m_list (by decide +kernel) (da_cons (do_of (de_call C__law_plain hr (da_cons (do_of (de_ix (do_peek 1) (do_of de_int))) (da_cons (do_of (de_ix (do_peek 1) (do_of de_int))) da_nil)))) da_nil)))) da_nil)))))
def F__law_goes (g__law_first : FN) (g__law_plain : FN) : FS :=
  sSeq (sFor (iL (oE (eVar 0))) (gT 2 (gsCons (gN 2) (gsCons (gN 3) gsNil))) (sIf (eOp2 eqD (oE (eCall [.sh, .sh] g__law_first (aCons (oE (eVar 1)) (aCons (oE (eA lenD (aCons (oS 2) aNil))) aNil)))) (oS 2)) (sSeq (sG (eOp2 addD (oE (eOp2 ixD (oS 1) (oE (eK (.int 0))))) (oE (eOp2 mulD (oE (eOp2 ixD (oS 1) (oE (eK (.int 1))))) (oE (eOp2 addD (oE (eOp2 fdivD (oE (eA lenD (aCons (oS 2) aNil))) (oE (eA lenD (aCons (oE (eOp2 ixD (oS 1) (oE (eK (.int 1))))) aNil))))) (oE (eK (.int 1)))))))) (gN 4))
    (sRet (eCall [.sh, .sh] g__law_plain (aCons (oE (eOp2 addD (oS 3) (oE (eSl slS (oS 4) (pAt (eA lenD (aCons (oS 2) aNil))) pNo)))) (aCons (oE (eOp2 ixD (oS 1) (oE (eK (.int 1))))) aNil))))) sNil))
    (sRet (eVar 1))
abbrev st__law_goes : Stmt := topS 49
theorem sc__law_goes : FnScope ["_law_rows_here", "_law_pair_here", "_law_head", "_law_other", "_law_late"] ["_law_rows_here", "_law_pair_here"] (defScope st__law_goes) := ⟨rfl, rfl, rfl, by decide +kernel, rfl, by decide +kernel, by decide +kernel⟩
theorem ok__law_goes {P : Program} {w : World} {K : PySem.W.Frag} {mg : Str → Option Value} {base : Heap} {k : Nat} {f : Addr} {fd : FuncData} (G : Gm K mg) (FD : FunD K "_law_goes" "_law_goes" (defArgs st__law_goes) (defBody st__law_goes) (defScope st__law_goes) [] [] f fd) (a : mg "_law_goes" = some (.ref f)) {g__law_first : FN} (C__law_first : Kn P w K mg base k "_law_first" [.sh, .sh] g__law_first) {g__law_plain : FN} (C__law_plain : Kn P w K mg base k "_law_plain" [.sh, .sh] g__law_plain) :
    Kn P w K mg base (k + 1) "_law_goes" [.sh, .sh] (fnF [.sh, .sh] 3 (F__law_goes g__law_first g__law_plain)) := by
  refine ⟨f, fd, ["_law_rows_here", "_law_pair_here"], fn_ok FD sc__law_goes rfl (by decide) (fun cdv A outer s H E hr => ?_) (fun ds r h => h), a, FD.kp, FD.bindsN fun _ _ _ _ _ _ us hl => match us, hl with | [_, _], _ => rfl⟩
  have nd := sc__law_goes.nd
  unfold F__law_goes
  exact dss_cons (ds_for PassesOwn.never rfl (di_list (do_of (de_var 0))) (dg_tup rfl (dgs_cons (dg_name 2 nd) (dgs_cons (dg_name 3 nd) dgs_nil))) (dss_one (ds_if (dt_cmp2 (op_eqX (room64 hr)) ov_eq (do_of (de_call C__law_first hr (da_cons (do_of (de_var 1)) (da_cons (do_of (de_callB cr_lenX cv_len G.m_len (by decide +kernel) (da_cons (do_peek 2) da_nil))) da_nil)))) (do_peek 2) (nomark _)) (dss_cons (ds_set 4 nd (de_op2 op_addD ov_add (do_of (de_ix (do_peek 1) (do_of de_int))) (do_of (de_op2 op_mulD ov_mul (do_of (de_ix (do_peek 1) (do_of de_int))) (do_of (de_op2 op_addD ov_add (do_of (de_op2 op_fdivN ov_fdiv (do_of (de_callB cr_lenX cv_len G.m_len (by decide +kernel) (da_cons (do_peek 2) da_nil))) (do_of (de_callB cr_lenX cv_len G.m_len (by decide +kernel) (da_cons (do_of (de_ix (do_peek 1) (do_of de_int))) da_nil))))) (do_of de_int)))))))
    (dss_one (ds_ret (de_call C__law_plain hr (da_cons (do_of (de_op2 op_addD ov_add (do_peek 3) (do_of (de_slS (do_peek 4) (dp_at (de_callB cr_lenX cv_len G.m_len (by decide +kernel) (da_cons (do_peek 2) da_nil))) dp_no)))) (da_cons (do_of (de_ix (do_peek 1) (do_of de_int))) da_nil)))))) dss_nil)))
    (dss_one (ds_ret (de_var 1)))
def F__law_pair (g__law_draw : FN) (g__law_signs : FN) (g__law_plain : FN) : FS :=
  sRet (eCall [.sh, .sh] g__law_plain (aCons (oE (eCallP 0 [.sh] g__law_signs (aCons (oE (eCallP 0 [.sh] g__law_draw (aCons (oE (eVar 1)) aNil))) aNil))) (aCons (oE (eCallP 0 [.sh] g__law_signs (aCons (oE (eOp2 addD (oE (eK (.int 1))) (oE (eCallP 0 [.sh] g__law_draw (aCons (oE (eVar 1)) aNil))))) aNil))) aNil)))
abbrev st__law_pair : Stmt := topS 50
theorem sc__law_pair : FnScope ["_law_box", "_law_most"] ["_law_box", "_law_most"] (defScope st__law_pair) := ⟨rfl, rfl, rfl, by decide +kernel, rfl, by decide +kernel, by decide +kernel⟩
theorem ok__law_pair {P : Program} {w : World} {K : PySem.W.Frag} {mg : Str → Option Value} {base : Heap} {k : Nat} {f : Addr} {fd : FuncData} (G : Gm K mg) (FD : FunD K "_law_pair" "_law_pair" (defArgs st__law_pair) (defBody st__law_pair) (defScope st__law_pair) [] [] f fd) (a : mg "_law_pair" = some (.ref f)) {g__law_draw : FN} (C__law_draw : Kn P w K mg base k "_law_draw" [.pn, .sh] g__law_draw) {g__law_signs : FN} (C__law_signs : Kn P w K mg base k "_law_signs" [.pn, .sh] g__law_signs) {g__law_plain : FN} (C__law_plain : Kn P w K mg base k "_law_plain" [.sh, .sh] g__law_plain) :
    Kn P w K mg base (k + 1) "_law_pair" [.pn, .sh] (fnF [.pn, .sh] 0 (F__law_pair g__law_draw g__law_signs g__law_plain)) := by
  refine ⟨f, fd, ["_law_box", "_law_most"], fn_ok FD sc__law_pair rfl (by decide) (fun cdv A outer s H E hr => ?_) (fun ds r h => h), a, FD.kp, FD.bindsN fun _ _ _ _ _ _ us hl => match us, hl with | [_, _], _ => rfl⟩
  have nd := sc__law_pair.nd
  unfold F__law_pair
  exact dss_one (ds_ret (de_call C__law_plain hr (da_cons (do_of (de_callP 0 C__law_signs hr (da_cons (do_of (de_callP 0 C__law_draw hr (da_cons (do_of (de_var 1)) da_nil))) da_nil))) (da_cons (do_of (de_callP 0 C__law_signs hr (da_cons (do_of (de_op2 op_addD ov_add (do_of de_int) (do_of (de_callP 0 C__law_draw hr (da_cons (do_of (de_var 1)) da_nil))))) da_nil))) da_nil))))
def F__law_stands (g__law_few : FN) (g_Swap____len__ : FN) (g_Swap__rows : FN) (g__law_like : FN) : FS :=
  sSeq (sG (eCallF [.sh] g__law_few (aCons (oE (eVar 1)) aNil)) (gN 2))
    (sRet (eAnd (eA (isoD "Swap") (aCons (oS 0) (aCons (oE (eK (.cls "Swap"))) aNil))) (eCallB [.sh, .sh] g__law_like (aCons (oE (eDisp .lst (aCons (oE (eMethF "Swap" "rows" [.sh] g_Swap__rows (eVar 0) aNil)) (aCons (oE (eLenM "Swap" g_Swap____len__ (eVar 0))) aNil)))) (aCons (oE (eDisp .lst (aCons (oE (eVar 2)) (aCons (oE (eA lenD (aCons (oS 2) aNil))) aNil)))) aNil)))))
abbrev st__law_stands : Stmt := topS 51
theorem sc__law_stands : FnScope ["_law_found", "_law_rows_here", "_law_due"] ["_law_found", "_law_rows_here"] (defScope st__law_stands) := ⟨rfl, rfl, rfl, by decide +kernel, rfl, by decide +kernel, by decide +kernel⟩
theorem ok__law_stands {P : Program} {w : World} {K : PySem.W.Frag} {mg : Str → Option Value} {base : Heap} {k : Nat} {f : Addr} {fd : FuncData} (G : Gm K mg) (FD : FunD K "_law_stands" "_law_stands" (defArgs st__law_stands) (defBody st__law_stands) (defScope st__law_stands) [] [] f fd) (a : mg "_law_stands" = some (.ref f)) {g__law_few : FN} (C__law_few : Kn P w K mg base (k + 1) "_law_few" [.sh] g__law_few) {g_Swap____len__ : FN} (C_Swap____len__ : Km P w K mg base k "Swap" "__len__" [.sh] g_Swap____len__) {g_Swap__rows : FN} (C_Swap__rows : Km P w K mg base (k + 1) "Swap" "rows" [.sh] g_Swap__rows) {g__law_like : FN} (C__law_like : Kn P w K mg base (k + 1) "_law_like" [.sh, .sh] g__law_like) :
    Kn P w K mg base (k + 1 + 1) "_law_stands" [.sh, .sh] (fnF [.sh, .sh] 1 (F__law_stands g__law_few g_Swap____len__ g_Swap__rows g__law_like)) := by
  refine ⟨f, fd, ["_law_found", "_law_rows_here"], fn_ok FD sc__law_stands rfl (by decide) (fun cdv A outer s H E hr => ?_) (fun ds r h => h), a, FD.kp, FD.bindsN fun _ _ _ _ _ _ us hl => match us, hl with | [_, _], _ => rfl⟩
  have nd := sc__law_stands.nd
  unfold F__law_stands
  exact dss_cons (ds_set 2 nd (de_frz (df_call C__law_few hr (da_cons (do_of (de_var 1)) da_nil))))
    (dss_one (ds_ret (de_and (de_callB call_isi (cv_iso G.i_Swap) G.m_isinstance (by decide +kernel) (da_cons (do_peek 0) (da_cons (do_of (de_cls "Swap" G.v_Swap)) da_nil))) (de_one (de_callB' C__law_like hr (da_cons (do_of (de_frz (df_lst (da_cons (do_of (de_frz (df_meth0 C_Swap__rows hr (de_var 0) ))) (da_cons (do_of (de_lenM C_Swap____len__ hr G.m_len (de_var 0))) da_nil))))) (da_cons (do_of (de_frz (df_lst (da_cons (do_of (de_var 2)) (da_cons (do_of (de_callB cr_lenX cv_len G.m_len (by decide +kernel) (da_cons (do_peek 2) da_nil))) da_nil))))) da_nil)))))))
def F_law (g__law_open : FN) (g__law_rows : FN) (g_Swap____init__ : FN) (g__law_pair : FN) (g__law_draw : FN) (g__law_plain : FN) (g__law_real : FN) (g__law_goes : FN) (g_Swap__of : FN) (g__law_is_row : FN) (g__law_signs : FN) (g__law_stands : FN) (g_Endless____init__ : FN) (g_Swap____init0__ : FN) : FS :=
  sSeq (sOw 1 (eCallF [.sh] g__law_open (aCons (oE (eVar 0)) aNil)))
    (sSeq (sFor (iR1 (eK (.int 4))) (gN 2) (sSeq (sG (eCallPF 1 [.sh] g__law_rows (aCons (oE (eK (.int 10))) aNil)) (gN 3))
    (sSeq (sG (eNew "Swap" [.sh] g_Swap____init__ (aCons (oE (eVar 3)) aNil)) (gN 4))
    (sSeq (sFor (iR1 (eK (.int 4))) (gN 5) (sSeq (sG (eCallP 1 [.sh] g__law_pair (aCons (oE (eK (.int 7))) aNil)) (gN 7))
    (sSeq (sG (eOp2 ixD (oE (eOp2 ixD (oS 3) (oE (eCallP 1 [.sh] g__law_draw (aCons (oE (eA lenD (aCons (oS 3) aNil))) aNil))))) (oE (eK (.int 0)))) (gN 8))
    (sSeq (sIf (eOp2 eqD (oE (eCallP 1 [.sh] g__law_draw (aCons (oE (eK (.int 2))) aNil))) (oE (eK (.int 0)))) (sG (eCall [.sh, .sh] g__law_plain (aCons (oE (eOp2 addD (oS 8) (oE (eOp2 ixD (oS 7) (oE (eK (.int 0))))))) (aCons (oE (eOp2 ixD (oS 7) (oE (eK (.int 1))))) aNil))) (gN 7)) sNil)
    (sSeq (sG (eCallF [.sh] g__law_real (aCons (oE (eVar 7)) aNil)) (gN 9))
    (sFor (iR1 (eK (.int 2))) (gN 10) (sIf (eOr (eNot (eCall [.sh, .sh] g__law_is_row (aCons (oE (eMeth "Swap" "of" [.sh, .sh] g_Swap__of (eVar 4) (aCons (oE (eVar 9)) aNil))) (aCons (oE (eCall [.sh, .sh] g__law_goes (aCons (oE (eVar 3)) (aCons (oE (eVar 7)) aNil)))) aNil)))) (eNot (eCall [.sh, .sh] g__law_is_row (aCons (oE (eVar 9)) (aCons (oE (eVar 7)) aNil))))) (sRet (eK (.bl false))) sNil)))))))
    (sSeq (sG (eCall [.sh, .sh] g__law_plain (aCons (oE (eCallP 1 [.sh] g__law_signs (aCons (oE (eK (.int 60))) aNil))) (aCons (oE (eCallP 1 [.sh] g__law_signs (aCons (oE (eK (.int 60))) aNil))) aNil))) (gN 6))
    (sSeq (sIf (eNot (eCall [.sh, .sh] g__law_is_row (aCons (oE (eMeth "Swap" "of" [.sh, .sh] g_Swap__of (eVar 4) (aCons (oE (eCallF [.sh] g__law_real (aCons (oE (eVar 6)) aNil))) aNil))) (aCons (oE (eCall [.sh, .sh] g__law_goes (aCons (oE (eVar 3)) (aCons (oE (eVar 6)) aNil)))) aNil)))) (sRet (eK (.bl false))) sNil)
    (sIf (eNot (eCall [.sh, .sh] g__law_stands (aCons (oE (eVar 4)) (aCons (oE (eVar 3)) aNil)))) (sRet (eK (.bl false))) sNil)))))))
    (sRet (eCall [.sh, .sh] g__law_is_row (aCons (oE (eMeth "Swap" "of" [.sh, .sh] g_Swap__of (eNew0 "Swap" [.sh] [.tup [.tup [.str [], .str []]]] g_Swap____init0__) (aCons (oE (eNew "Endless" [.sh, .sh] g_Endless____init__ (aCons (oE (eK (.str []))) (aCons (oE (eK (.str [48, 49]))) aNil)))) aNil))) (aCons (oE (eDisp .tup (aCons (oE (eK (.str []))) (aCons (oE (eK (.str [48, 49]))) aNil)))) aNil)))))
abbrev st_law : Stmt := topS 52
theorem sc_law : FnScope ["_law_script", "_law_box", "_law_turn", "_law_rows_here", "_law_swap", "_law_step", "_law_far", "_law_pair_here", "_law_head", "_law_row", "_law_again"] ["_law_script"] (defScope st_law) := ⟨rfl, rfl, rfl, by decide +kernel, rfl, by decide +kernel, by decide +kernel⟩
theorem ok_law {P : Program} {w : World} {K : PySem.W.Frag} {mg : Str → Option Value} {base : Heap} {k : Nat} {f : Addr} {fd : FuncData} (G : Gm K mg) (FD : FunD K "law" "law" (defArgs st_law) (defBody st_law) (defScope st_law) [] [] f fd) (a : mg "law" = some (.ref f)) {g__law_open : FN} (C__law_open : Kn P w K mg base (k + 1) "_law_open" [.sh] g__law_open) {g__law_rows : FN} (C__law_rows : Kn P w K mg base (k + 1) "_law_rows" [.pn, .sh] g__law_rows) {g_Swap____init__ : FN} (C_Swap____init__ : Kc P w K mg base k "Swap" [.sh] g_Swap____init__) {g__law_pair : FN} (C__law_pair : Kn P w K mg base (k + 1) "_law_pair" [.pn, .sh] g__law_pair) {g__law_draw : FN} (C__law_draw : Kn P w K mg base (k + 1) "_law_draw" [.pn, .sh] g__law_draw) {g__law_plain : FN} (C__law_plain : Kn P w K mg base (k + 1) "_law_plain" [.sh, .sh] g__law_plain) {g__law_real : FN} (C__law_real : Kn P w K mg base (k + 1) "_law_real" [.sh] g__law_real) {g__law_goes : FN} (C__law_goes : Kn P w K mg base (k + 1) "_law_goes" [.sh, .sh] g__law_goes) {g_Swap__of : FN} (C_Swap__of : Km P w K mg base (k + 1) "Swap" "of" [.sh, .sh] g_Swap__of) {g__law_is_row : FN} (C__law_is_row : Kn P w K mg base (k + 1) "_law_is_row" [.sh, .sh] g__law_is_row) {g__law_signs : FN} (C__law_signs : Kn P w K mg base (k + 1) "_law_signs" [.pn, .sh] g__law_signs) {g__law_stands : FN} (C__law_stands : Kn P w K mg base (k + 1) "_law_stands" [.sh, .sh] g__law_stands) {g_Endless____init__ : FN} (C_Endless____init__ : Kc P w K mg base k "Endless" [.sh, .sh] g_Endless____init__) {g_Swap____init0__ : FN} (C_Swap____init0__ : Kc0 P w K mg base k "Swap" [.sh] [.tup [.tup [.str [], .str []]]] g_Swap____init0__) :
    FnOk P w K mg base CX0 (k + 1 + 1) f fd ["_law_script"] (spD K [.sh] (fnF [.sh] 10 (F_law g__law_open g__law_rows g_Swap____init__ g__law_pair g__law_draw g__law_plain g__law_real g__law_goes g_Swap__of g__law_is_row g__law_signs g__law_stands g_Endless____init__ g_Swap____init0__))) := by
  refine fn_ok FD sc_law rfl (by decide) (fun cdv A outer s H E hr => ?_) (fun ds r h => h)
  have nd := sc_law.nd
  unfold F_law
  exact dss_cons (ds_own 1 nd (df_call C__law_open hr (da_cons (do_of (de_var 0)) da_nil)))
    (dss_cons (ds_for PassesOwn.never rfl (di_range1 G.m_range de_int) (dg_name 2 nd) (dss_cons (ds_set 3 nd (de_frz (df_callP 1 C__law_rows hr (da_cons (do_of de_int) da_nil))))
    (dss_cons (ds_set 4 nd (de_frz (df_new C_Swap____init__ hr (da_cons (do_of (de_var 3)) da_nil))))
    (dss_cons (ds_for PassesOwn.never rfl (di_range1 G.m_range de_int) (dg_name 5 nd) (dss_cons (ds_set 7 nd (de_callP 1 C__law_pair hr (da_cons (do_of de_int) da_nil)))
    (dss_cons (ds_set 8 nd (de_ix (do_of (de_ix (do_peek 3) (do_of (de_callP 1 C__law_draw hr (da_cons (do_of (de_callB cr_lenX cv_len G.m_len (by decide +kernel) (da_cons (do_peek 3) da_nil))) da_nil))))) (do_of de_int)))
    (dss_cons (ds_if (dt_cmp2 (op_eqX (room64 hr)) ov_eq (do_of (de_callP 1 C__law_draw hr (da_cons (do_of de_int) da_nil))) (do_of de_int) (nomark _)) (dss_one (ds_set 7 nd (de_call C__law_plain hr (da_cons (do_of (de_op2 op_addD ov_add (do_peek 8) (do_of (de_ix (do_peek 7) (do_of de_int))))) (da_cons (do_of (de_ix (do_peek 7) (do_of de_int))) da_nil))))) dss_nil)
    (dss_cons (ds_set 9 nd (de_frz (df_call C__law_real hr (da_cons (do_of (de_var 7)) da_nil))))
    (dss_one (ds_for PassesOwn.never rfl (di_range1 G.m_range de_int) (dg_name 10 nd) (dss_one (ds_if (dt_w (dw_or (dt_not (dt_of (de_call C__law_is_row hr (da_cons (do_of (de_meth C_Swap__of hr (de_var 4) (da_cons (do_of (de_var 9)) da_nil))) (da_cons (do_of (de_call C__law_goes hr (da_cons (do_of (de_var 3)) (da_cons (do_of (de_var 7)) da_nil)))) da_nil))))) (dw_or1 (dt_not (dt_of (de_call C__law_is_row hr (da_cons (do_of (de_var 9)) (da_cons (do_of (de_var 7)) da_nil)))))))) (dss_one (ds_ret de_bl)) dss_nil)))))))))
    (dss_cons (ds_set 6 nd (de_call C__law_plain hr (da_cons (do_of (de_callP 1 C__law_signs hr (da_cons (do_of de_int) da_nil))) (da_cons (do_of (de_callP 1 C__law_signs hr (da_cons (do_of de_int) da_nil))) da_nil))))
    (dss_cons (ds_if (dt_not (dt_of (de_call C__law_is_row hr (da_cons (do_of (de_meth C_Swap__of hr (de_var 4) (da_cons (do_of (de_frz (df_call C__law_real hr (da_cons (do_of (de_var 6)) da_nil)))) da_nil))) (da_cons (do_of (de_call C__law_goes hr (da_cons (do_of (de_var 3)) (da_cons (do_of (de_var 6)) da_nil)))) da_nil))))) (dss_one (ds_ret de_bl)) dss_nil)
    (dss_one (ds_if (dt_not (dt_of (de_call C__law_stands hr (da_cons (do_of (de_var 4)) (da_cons (do_of (de_var 3)) da_nil))))) (dss_one (ds_ret de_bl)) dss_nil))))))))
    (dss_one (ds_ret (de_call C__law_is_row hr (da_cons (do_of (de_meth C_Swap__of hr (de_frz (df_new0 C_Swap____init0__ hr)) (da_cons (do_of (de_frz (df_new C_Endless____init__ hr (da_cons (do_of (de_str [])) (da_cons (do_of (de_str [48, 49])) da_nil))))) da_nil))) (da_cons (do_of (de_frz (df_tup (da_cons (do_of (de_str [])) (da_cons (do_of (de_str [48, 49])) da_nil))))) da_nil))))))
def G_is_signs : FN := fnF [.sh] 1 F_is_signs
def G_is_head : FN := fnF [.sh] 0 (F_is_head G_is_signs)
def G_need_head : FN := fnF [.sh] 0 (F_need_head G_is_head)
def G_lacking : FN := fnF [.sh] 3 F_lacking
def G_trouble : FN := fnF [.sh] 6 (F_trouble G_lacking)
def G_shortest_ring : FN := fnF [.sh] 1 F_shortest_ring
def G_Endless__settle : FN := fnF [.pn, .sh, .sh] 0 (F_Endless__settle G_shortest_ring)
def G_Endless____init__ : FN := fnF [.pn, .sh, .sh] 0 (F_Endless____init__ G_need_head G_Endless__settle)
def G_Endless__head : FN := fnF [.sh] 0 F_Endless__head
def G_Endless__ring : FN := fnF [.sh] 0 F_Endless__ring
def G_Endless__first : FN := fnF [.sh, .sh] 1 F_Endless__first
def G_row_of : FN := fnF [.sh, .sh] 1 (F_row_of G_Endless____init__ G_Endless__settle)
def G_Endless__later : FN := fnF [.sh, .sh] 1 (F_Endless__later G_row_of)
def G_Endless__below : FN := fnF [.sh, .sh] 0 (F_Endless__below G_row_of)
def G_Endless__begins : FN := fnF [.sh, .sh] 0 (F_Endless__begins G_Endless__first)
def G_fewest_rows : FN := fnF [.sh] 6 F_fewest_rows
def G_is_table : FN := fnF [.sh] 1 (F_is_table G_trouble)
def G_image : FN := fnF [.sh, .sh] 2 (F_image G_Endless__begins G_Endless__later G_Endless__below)
def G_Swap____init__ : FN := fnF [.pn, .sh] 2 (F_Swap____init__ G_need_head G_is_table G_fewest_rows)
abbrev G_Swap____init0__ : FN := G_Swap____init__
def G_Swap__rows : FN := fnF [.sh] 0 F_Swap__rows
def G_Swap__of : FN := fnF [.sh, .sh] 0 (F_Swap__of G_image)
def G_Swap____len__ : FN := fnF [.sh] 0 F_Swap____len__
def G__law_open : FN := fnF [.sh] 2 F__law_open
def G__law_draw : FN := fnF [.pn, .sh] 3 F__law_draw
def G__law_int : FN := fnF [.sh] 0 F__law_int
def R__law_like (g : FN) : FN := fnF [.sh, .sh] 1 (F__law_like G__law_int g)
def G__law_like : FN := recN R__law_like 5
def G__law_signs : FN := fnF [.pn, .sh] 1 (F__law_signs G__law_draw)
def G__law_cut : FN := fnF [.pn, .sh] 5 (F__law_cut G__law_draw)
def G__law_mixed : FN := fnF [.pn, .sh] 3 (F__law_mixed G__law_draw)
def G__law_rows : FN := fnF [.pn, .sh] 6 (F__law_rows G__law_draw G__law_cut G__law_mixed)
def G__law_few : FN := fnF [.sh] 5 F__law_few
def G__law_plain : FN := fnF [.sh, .sh] 2 F__law_plain
def G__law_first : FN := fnF [.sh, .sh] 0 F__law_first
def G__law_real : FN := fnF [.sh] 0 (F__law_real G_Endless____init__)
def G__law_is_row : FN := fnF [.sh, .sh] 0 (F__law_is_row G__law_plain G_Endless__ring G_Endless__head G__law_like)
def G__law_goes : FN := fnF [.sh, .sh] 3 (F__law_goes G__law_first G__law_plain)
def G__law_pair : FN := fnF [.pn, .sh] 0 (F__law_pair G__law_draw G__law_signs G__law_plain)
def G__law_stands : FN := fnF [.sh, .sh] 1 (F__law_stands G__law_few G_Swap____len__ G_Swap__rows G__law_like)
def G_law : FN := fnF [.sh] 10 (F_law G__law_open G__law_rows G_Swap____init__ G__law_pair G__law_draw G__law_plain G__law_real G__law_goes G_Swap__of G__law_is_row G__law_signs G__law_stands G_Endless____init__ G_Swap____init0__)
end Lw
namespace Qd
open PySem PySem.Spec L2
theorem startsD_eq (a b : List Nat) : startsD (.str a) [.str b] = some (.bl (b.isPrefixOf a)) := id rfl
theorem anyB_eq (bs : List Bool) : anyB [.lst (bs.map D.bl)] = some (.bl (bs.any id)) := by
  show (bls (bs.map D.bl)).map _ = _
  rw [bls_map]
  rfl
theorem sumD_eq (is : List Int) : sumD [.lst (is.map D.int)] = some (.int is.sum) := by
  show (intsD (is.map D.int)).map _ = _
  rw [intsD_map]
  rfl
theorem maxD1_eq (i : Int) (is : List Int) : maxD1 [.lst (.int i :: is.map D.int)] = some (.int (maxL i is)) := by
  show (intsD (is.map D.int)).map (fun bs => D.int (maxL i bs)) = _
  rw [intsD_map]
  rfl
theorem notInD_ls (x : List Nat) (xs : List (List Nat)) : notInD (.str x) (.lst (xs.map D.str)) = some (.bl (!decide (x ∈ xs))) := by
  unfold notInD
  rw [inD_ls]
  rfl
theorem notInD_keys (x : List Nat) (xs : List (List Nat)) : notInD (.str x) (.dic (keysD xs)) = some (.bl (!decide (x ∈ xs))) := by
  unfold notInD
  rw [inD_keys]
  rfl
theorem gsNil_eq (env : En) : gsNil env [] = some env := id rfl
def gsk (g : FGs) (r : List D) (e : En) : Option En := g e r
theorem gsCons_eq (f : FG) (g : FGs) (env : En) (d : D) (r : List D) : gsCons f g env (d :: r) = (f env d).bind (gsk g r) := id rfl
theorem gsk_eq (g : FGs) (r : List D) (e : En) : gsk g r e = g e r := id rfl
theorem gT2_eq (f : FGs) (env : En) (a b : D) : gT 2 f env (.tup [a, b]) = f env [a, b] := id rfl
theorem gT3_eq (f : FGs) (env : En) (a b c : D) : gT 3 f env (.tup [a, b, c]) = f env [a, b, c] := id rfl
def iz2 (o q : Ov) (env : En) : Option D → Option D → Option (List D × Bs × En)
  | some (.lst ds), some (.lst es) => some (zipD ds es, bOf o (.lst ds) ++ bOf q (.lst es), env)
  | _, _ => none
def iz1 (o : Ov) (q : Ov × En) : Option (List D × Bs × En) := iz2 o q.1 q.2 (fetch q.2 o) (fetch q.2 q.1)
def iz0 (fb : FO) (p : Ov × En) : Option (List D × Bs × En) := (fb p.2).bind (iz1 p.1)
theorem iZ_eq (fa fb : FO) (env : En) : iZ fa fb env = (fa env).bind (iz0 fb) := by
  unfold iZ
  cases fa env with
  | none => rfl
  | some p =>
    simp only [Option.bind_some, iz0]
    cases fb p.2 with
    | none => rfl
    | some q =>
      simp only [Option.bind_some, iz1, iz2]
      all_goals (split <;> simp_all)
theorem iz0_eq (fb : FO) (o : Ov) (e : En) : iz0 fb (o, e) = (fb e).bind (iz1 o) := id rfl
theorem iz1_eq (o q : Ov) (e : En) : iz1 o (q, e) = iz2 o q e (fetch e o) (fetch e q) := id rfl
theorem iz2_eq (o q : Ov) (e : En) (ds es : List D) : iz2 o q e (some (.lst ds)) (some (.lst es)) = some (zipD ds es, bOf o (.lst ds) ++ bOf q (.lst es), e) := id rfl
def pin1 (i : Nat) : Out → Option Out
  | .nx e => (unpin i e).map Out.nx
  | .ct e => (unpin i e).map Out.ct
  | .bk e => (unpin i e).map Out.bk
  | .rt b z e => (unpin i e).map (Out.rt b z)
def pin0 (i : Nat) (F : FS) (env : En) : Option (Option Sl) → Option Out
  | some (some (.ow, d)) => (F (env.set i (some (.pn, d)))).bind (pin1 i)
  | _ => F env
theorem sPin_eq (i : Nat) (F : FS) (env : En) : sPin i F env = pin0 i F env env[i]? := by
  unfold sPin pin0
  all_goals (split <;> rename_i h <;> (try simp_all))
  all_goals (first | rfl | congr 1)
theorem pin0_ow (i : Nat) (F : FS) (env : En) (d : D) : pin0 i F env (some (some (.ow, d))) = (F (env.set i (some (.pn, d)))).bind (pin1 i) := id rfl
theorem pin0_sh (i : Nat) (F : FS) (env : En) (d : D) : pin0 i F env (some (some (.sh, d))) = F env := id rfl
def unp (i : Nat) (e : En) : Option (Option Sl) → Option En
  | some (some (.pn, d)) => some (e.set i (some (.ow, d)))
  | _ => none
theorem unpin_eq (i : Nat) (e : En) : unpin i e = unp i e e[i]? := by
  unfold unpin unp
  all_goals (split <;> rename_i h <;> simp_all)
theorem unp_pn (i : Nat) (e : En) (d : D) : unp i e (some (some (.pn, d))) = some (e.set i (some (.ow, d))) := id rfl
theorem pin1_nx (i : Nat) (e : En) : pin1 i (.nx e) = (unpin i e).map Out.nx := id rfl
theorem pin1_rt (i : Nat) (b : Bool) (z : D) (e : En) : pin1 i (.rt b z e) = (unpin i e).map (Out.rt b z) := id rfl
theorem lcL_map {α : Type} {bs : Bs} {vs : List Nat} {pt : FG} {c f : FE} {e : En} (enc : α → D) (φ : α → D) (hc : chkB false e bs = true) (xs : List α) (hl : xs.length ≤ 1000000)
    (h : ∀ x ∈ xs, ∃ e1, pt e (enc x) = some e1 ∧ c e1 = some (.bl true, e1) ∧ f e1 = some (φ x, e1) ∧ wipeE e1 vs = e) : lcL bs vs pt c f (xs.map enc) e [] = some (xs.map φ, e) := by
  rw [lcL_filter enc (fun _ => true) φ hc xs [] (by simpa using hl) fun x hx => ?_, filter_true]
  · rfl
  · obtain ⟨e1, q1, q2, q3, q4⟩ := h x hx
    exact ⟨e1, q1, q2, fun _ => q3, q4⟩
theorem anyB_map {α : Type} (f : α → Bool) (xs : List α) : anyB [.lst (xs.map fun x => .bl (f x))] = some (.bl (xs.any f)) := by
  have := anyB_eq (xs.map f)
  rw [List.map_map] at this
  rw [show (xs.map fun x => D.bl (f x)) = xs.map (D.bl ∘ f) from rfl, this, List.any_map]
  rfl
theorem allB_map {α : Type} (f : α → Bool) (xs : List α) : allB [.lst (xs.map fun x => .bl (f x))] = some (.bl (xs.all f)) := by
  have := allB_eq (xs.map f)
  rw [List.map_map] at this
  rw [show (xs.map fun x => D.bl (f x)) = xs.map (D.bl ∘ f) from rfl, this, List.all_map]
  rfl
theorem sumD_map {α : Type} (f : α → Int) (xs : List α) : sumD [.lst (xs.map fun x => .int (f x))] = some (.int (xs.map f).sum) := by
  have := sumD_eq (xs.map f)
  rw [List.map_map] at this
  exact this
theorem maxD1_map {α : Type} (i : Int) (f : α → Int) (xs : List α) : maxD1 [.lst (.int i :: xs.map fun x => .int (f x))] = some (.int (maxL i (xs.map f))) := by
  have := maxD1_eq i (xs.map f)
  rw [List.map_map] at this
  exact this
theorem zipD_strs : ∀ xs ys : List (List Nat), zipD (xs.map D.str) (ys.map D.str) = (xs.zip ys).map fun p => .tup [.str p.1, .str p.2]
  | [], _ => rfl
  | _ :: _, [] => rfl
  | x :: xs, y :: ys => by
    simp only [List.map_cons, zipD, List.zip_cons_cons, zipD_strs xs ys]
theorem cut_from {α : Type} (xs : List α) (n : Nat) : cut xs (some (n : Int)) none = xs.drop n := by
  unfold cut
  rw [HT.sIx_none, HT.sIx_nat]
  by_cases h : n ≤ xs.length
  · rw [Nat.min_eq_left h, List.take_of_length_le (by simp)]
  · rw [List.drop_of_length_le (by omega), List.drop_of_length_le (by omega)]
    simp
theorem cut_from1 {α : Type} (xs : List α) : cut xs (some 1) none = xs.drop 1 := cut_from xs 1
theorem zip_tail_mem {α : Type} : ∀ {xs : List α}, xs.Nodup → ∀ p ∈ xs.zip (xs.drop 1), p.1 ∈ xs ∧ p.2 ∈ xs ∧ p.1 ≠ p.2
  | [], _, p, h => by simp at h
  | [x], _, p, h => by simp at h
  | x :: y :: xs, nd, p, h => by
    simp only [List.drop_succ_cons, List.drop_zero, List.zip_cons_cons, List.mem_cons] at h
    obtain ⟨n1, n2⟩ := List.nodup_cons.mp nd
    rcases h with rfl | h
    · exact ⟨by simp, by simp, fun e => n1 (by simp [show x = y from e])⟩
    · have ih := zip_tail_mem n2 p h
      exact ⟨List.mem_cons_of_mem _ ih.1, List.mem_cons_of_mem _ ih.2.1, ih.2.2⟩
end Qd
namespace Qd
open PySem PySem.Spec L2
mutual
theorem eqv_refl : ∀ d : PyData, PyData.canLay0 d = true → PyData.eqv d d = true
  | .none, _ => rfl
  | .bool b, _ => by simp [PyData.eqv]
  | .int i, _ => by simp [PyData.eqv]
  | .str x, _ => by simp [PyData.eqv]
  | .list xs, h => by
    simp only [PyData.canLay0] at h
    simp only [PyData.eqv]
    exact eqvAll_refl xs h
  | .tuple xs, h => by
    simp only [PyData.canLay0] at h
    simp only [PyData.eqv]
    exact eqvAll_refl xs h
  | .dict _, h => by simp [PyData.canLay0] at h
theorem eqvAll_refl : ∀ ds : List PyData, PyData.canLayAll0 ds = true → PyData.eqvAll ds ds = true
  | [], _ => rfl
  | d :: ds, h => by
    simp only [PyData.canLayAll0, Bool.and_eq_true] at h
    simp only [PyData.eqvAll, eqv_refl d h.1, eqvAll_refl ds h.2, Bool.and_self]
end
theorem shp_lay {d : D} (h : shp d = true) : PyData.canLay0 (toPy d) = true := SeqAt.canLay_of_shaped h
theorem eqD_self {d : D} (h : shp d = true) : eqD d d = some (.bl true) := by
  rw [eqD_of h h]
  unfold eqB
  rw [eqv_refl _ (shp_lay h)]
theorem neD_self {d : D} (h : shp d = true) : neD d d = some (.bl false) := neD_of (eqD_self h)
/-- data of at most k levels, whose texts are of Python's signs -/
def Ok0 : D → Prop
  | .non => True
  | .bl _ => True
  | .int _ => True
  | .str x => okS x = true
  | _ => False
def Okd : Nat → D → Prop
  | 0, d => Ok0 d
  | k + 1, d => Ok0 d ∨ ∃ ds, (d = .lst ds ∨ d = .tup ds) ∧ ∀ x ∈ ds, Okd k x
theorem okd0 {d : D} (h : Ok0 d) : PyData.canLay0 (toPy d) = true ∧ PyData.depth (toPy d) = 0 := by
  cases d <;> first | exact h.elim | skip
  · exact ⟨rfl, rfl⟩
  · exact ⟨rfl, rfl⟩
  · exact ⟨rfl, rfl⟩
  · exact ⟨h, rfl⟩
theorem all_depth {k : Nat} : ∀ {ds : List D}, (∀ x ∈ ds, PyData.canLay0 (toPy x) = true ∧ PyData.depth (toPy x) ≤ k) → PyData.canLayAll0 (toPys ds) = true ∧ PyData.depthAll (toPys ds) ≤ k
  | [], _ => ⟨rfl, Nat.zero_le _⟩
  | d :: ds, h => by
    have h1 := h d (by simp)
    have h2 := all_depth fun x hx => h x (List.mem_cons_of_mem d hx)
    simp only [toPys, PyData.canLayAll0, PyData.depthAll, h1.1, h2.1, Bool.and_self, true_and]
    have := h1.2
    have := h2.2
    omega
theorem Okd.lay : ∀ {k : Nat} {d : D}, Okd k d → PyData.canLay0 (toPy d) = true ∧ PyData.depth (toPy d) ≤ k
  | 0, d, h => ⟨(okd0 h).1, by rw [(okd0 h).2]; exact Nat.le_refl _⟩
  | k + 1, d, h => by
    rcases h with h | ⟨ds, h, ha⟩
    · exact ⟨(okd0 h).1, by rw [(okd0 h).2]; exact Nat.zero_le _⟩
    · have := all_depth fun x hx => Okd.lay (ha x hx)
      rcases h with rfl | rfl
      · simp only [toPy, PyData.canLay0, PyData.depth]
        exact ⟨this.1, by have := this.2; omega⟩
      · simp only [toPy, PyData.canLay0, PyData.depth]
        exact ⟨this.1, by have := this.2; omega⟩
theorem Okd.shp {k : Nat} {d : D} (h : Okd k d) (hk : k ≤ 64) : Qd.shp d = true := by
  unfold Qd.shp SeqAt.shaped
  rw [h.lay.1, Bool.true_and, decide_eq_true_eq]
  have := h.lay.2
  omega
theorem okd_strs {xs : List (List Nat)} (h : ∀ x ∈ xs, okS x = true) : Okd 1 (.lst (xs.map D.str)) := .inr ⟨_, .inl rfl, fun x hx => by
  obtain ⟨w, hw, rfl⟩ := List.mem_map.mp hx
  exact h w hw⟩
end Qd
namespace Qd
open PySem PySem.Spec L2
abbrev sv (d : D) : Option Sl := some (.sh, d)
abbrev ov (d : D) : Option Sl := some (.ow, d)
abbrev pv (d : D) : Option Sl := some (.pn, d)
theorem W.fnK {ks : List Kd} {o : Option Out} {Q : Res → Prop} (h : W o fun a => W (fn1 ks (some a)) Q) : W (fn1 ks o) Q := W.fn h fun _ z => z
theorem W.bindK {α β : Type} {o : Option α} {f : α → Option β} {R : β → Prop} (h : W o fun a => W (f a) R) : W (o.bind f) R := W.bind h fun _ z => z
theorem W.forK {β : Type} {bs : Bs} {pt : FG} {body : FS} {k : Out → Option β} {Q : β → Prop} {items : List D} {e : En} (I : List D → En → Prop) (hi : I items e) (h0 : ∀ e, I [] e → chkB true e bs = true ∧ W (k (.nx e)) Q)
    (h1 : ∀ d ds e, I (d :: ds) e → chkB true e bs = true ∧ ∃ e1, pt e d = some e1 ∧ W (body e1) (Aft (I ds) fun o => W (k o) Q)) : W ((Qd.forL bs pt body items e).bind k) Q :=
  W.bindK (W.forL I (fun e h => h0 e h) h1 items e hi)
theorem W.whK {β : Type} {c : FE} {body : FS} {k : Out → Option β} {Q : β → Prop} {f : Nat} {e : En} (I : Nat → En → Prop) (n : Nat) (hf : n < f) (hi : I n e)
    (h : ∀ n e, I n e → ∃ b e1, c e = some (.bl b, e1) ∧ if b = true then W (body e1) (Aft (fun e2 => ∃ m, m < n ∧ I m e2) fun o => W (k o) Q) else W (k (.nx e1)) Q) : W ((Qd.whL c body f e).bind k) Q :=
  W.bindK (W.whL I h f n e hf hi)
theorem W.lcK {β : Type} {bs : Bs} {vs : List Nat} {pt : FG} {c f : FE} {k : D × En → Option β} {Q : β → Prop} {items : List D} {e e0 : En} {acc : List D} (J : List D → En → List D → Prop) (hi : J items e acc) (h0 : ∀ e acc, J [] e acc → chkB false e bs = true ∧ W (k (.lst acc, rest e0 e vs)) Q)
    (h1 : ∀ d ds e acc, J (d :: ds) e acc → chkB false e bs = true ∧ ∃ e1 b e2, pt e d = some e1 ∧ c e1 = some (.bl b, e2) ∧ if b = true then ∃ z e3, f e2 = some (z, e3) ∧ acc.length < 1000000 ∧ J ds (wipeE e3 vs) (acc ++ [z]) else J ds (wipeE e2 vs) acc) : W ((Qd.lc2 vs e0 (Qd.lcL bs vs pt c f items e acc)).bind k) Q :=
  W.bindK (W.lc2 (P := fun p => chkB false p.2 bs = true ∧ W (k (.lst p.1, rest e0 p.2 vs)) Q) (W.lcL J (fun e acc h => ⟨(h0 e acc h).1, h0 e acc h⟩) h1 items e acc hi) fun ds e h => h.2)
theorem W.dcK {β : Type} {bs : Bs} {vs : List Nat} {pt : FG} {c fk fv : FE} {k : D × En → Option β} {Q : β → Prop} {items : List D} {e e0 : En} {acc : List (Ky × D)} (J : List D → En → List (Ky × D) → Prop) (hi : J items e acc) (h0 : ∀ e acc, J [] e acc → chkB false e bs = true ∧ W (k (.dic acc, rest e0 e vs)) Q)
    (h1 : ∀ d ds e acc, J (d :: ds) e acc → chkB false e bs = true ∧ ∃ e1 b e2, pt e d = some e1 ∧ c e1 = some (.bl b, e2) ∧ if b = true then ∃ k z w e3 e4, fk e2 = some (k, e3) ∧ fv e3 = some (w, e4) ∧ kyOf k = some z ∧ acc.length < 1000000 ∧ J ds (wipeE e4 vs) (putD acc z w) else J ds (wipeE e2 vs) acc) : W ((Qd.dc2 vs e0 (Qd.dcL bs vs pt c fk fv items e acc)).bind k) Q :=
  W.bindK (W.dc2 (P := fun p => chkB false p.2 bs = true ∧ W (k (.dic p.1, rest e0 p.2 vs)) Q) (W.dcL J (fun e acc h => ⟨(h0 e acc h).1, h0 e acc h⟩) h1 items e acc hi) fun ds e h => h.2)
theorem W.eq {α : Type} {o : Option α} {a : α} (h : W o fun r => r = a) : o = some a := by
  obtain ⟨r, e, rfl⟩ := h
  exact e
theorem W.of {α : Type} {o : Option α} {a : α} {Q : α → Prop} (e : o = some a) (h : Q a) : W o Q := ⟨a, e, h⟩
theorem Aft.nx {I : En → Prop} {Q : Out → Prop} {e : En} (h : I e) : Aft I Q (.nx e) := h
theorem Aft.ct {I : En → Prop} {Q : Out → Prop} {e : En} (h : I e) : Aft I Q (.ct e) := h
theorem Aft.bk {I : En → Prop} {Q : Out → Prop} {e : En} (h : Q (.nx e)) : Aft I Q (.bk e) := h
theorem Aft.rt {I : En → Prop} {Q : Out → Prop} {b : Bool} {z : D} {e : En} (h : Q (.rt b z e)) : Aft I Q (.rt b z e) := h
end Qd
namespace Qd
open PySem PySem.Spec L2
theorem Kc.mono {P : Program} {w : World} {K : PySem.W.Frag} {mg : Str → Option Value} {base : Heap} {j k : Nat} {c : Str} {ks : List Kd} {g : FN} (C : Kc P w K mg base j c ks g) (h : j ≤ k) : Kc P w K mg base k c ks g := by
  obtain ⟨f, fd, ps, F, a⟩ := C.ex
  exact ⟨f, fd, ps, F.mono h, a⟩
/-- a field's value -/
def fldD (c f : Str) : D → Option D
  | .obj c' fs => if c' = c then fs.lookup f else none
  | _ => none
def fd1 (c f : Str) (e : En) (o : Option D) : Option (D × En) := pr e (o.bind (fldD c f))
def fd0 (c f : Str) (p : Ov × En) : Option (D × En) := fd1 c f p.2 (fetch p.2 p.1)
theorem eFld_eq (c f : Str) (fo : FO) (env : En) : eFld c f fo env = (fo env).bind (fd0 c f) := by
  unfold eFld
  cases fo env with
  | none => rfl
  | some p =>
    simp only [Option.bind_some, fd0, fd1]
    cases fetch p.2 p.1 with
    | none => rfl
    | some d =>
      cases d <;> simp only [Option.bind_some, fldD] <;> first | rfl | skip
      split
      · rename_i c' fs h
        cases List.lookup f fs <;> rfl
      · rfl
theorem fd0_eq (c f : Str) (o : Ov) (e : En) : fd0 c f (o, e) = fd1 c f e (fetch e o) := id rfl
theorem fd1_eq (c f : Str) (e : En) (d : D) : fd1 c f e (some d) = pr e (fldD c f d) := id rfl
/-- a field set -/
def setFD (c f : Str) (v : D) : D → Option D
  | .obj c' fs => if c' ≠ c ∨ ¬ fs.length < 1000 then none else some (.obj c' (putFd f v fs))
  | _ => none
def sfd2 (i : Nat) (k : Kd) (e : En) (o : Option D) : Option Out := o.map fun d => .nx (e.set i (some (k, d)))
def sfd1 (i : Nat) (c f : Str) (v : D) (e : En) : Option (Option Sl) → Option Out
  | some (some (.ow, d)) => sfd2 i .ow e (setFD c f v d)
  | some (some (.pn, d)) => sfd2 i .pn e (setFD c f v d)
  | _ => none
def sfd0 (i : Nat) (c f : Str) (p : D × En) : Option Out := sfd1 i c f p.1 p.2 p.2[i]?
theorem sFd_eq (i : Nat) (c f : Str) (fv : FE) (env : En) : sFd i c f fv env = (fv env).bind (sfd0 i c f) := by
  unfold sFd
  cases fv env with
  | none => rfl
  | some p =>
    obtain ⟨v, e⟩ := p
    simp only [Option.bind_some, sfd0]
    unfold oS
    cases e[i]? with
    | none => rfl
    | some z =>
      cases z with
      | none => rfl
      | some kd =>
        obtain ⟨k, d⟩ := kd
        cases k <;> cases d <;> simp [sfd1, sfd2, setFD] <;> split <;> rfl
theorem sfd0_eq (i : Nat) (c f : Str) (v : D) (e : En) : sfd0 i c f (v, e) = sfd1 i c f v e e[i]? := id rfl
theorem sfd1_ow (i : Nat) (c f : Str) (v d : D) (e : En) : sfd1 i c f v e (some (some (.ow, d))) = sfd2 i .ow e (setFD c f v d) := id rfl
theorem sfd1_pn (i : Nat) (c f : Str) (v d : D) (e : En) : sfd1 i c f v e (some (some (.pn, d))) = sfd2 i .pn e (setFD c f v d) := id rfl
theorem sfd2_eq (i : Nat) (k : Kd) (e : En) (d : D) : sfd2 i k e (some d) = some (.nx (e.set i (some (k, d)))) := id rfl
/-- an object of the class, without a field of that name -/
def hasM (c m : Str) : D → Bool
  | .obj c' fs => decide (c' = c) && (fs.lookup m).isNone
  | _ => false
theorem hasM_iff {c m c' : Str} {fs : List (Str × D)} : hasM c m (.obj c' fs) = true ↔ c' = c ∧ (fs.lookup m).isNone = true := by
  simp [hasM]
def me3 (ks : List Kd) (g : FN) (d : D) (e : En) (ds : List D) : Option (Bool × D × En) := if allSh ks = true ∧ ds.length + 1 = ks.length then cv3 e (g (d :: ds)) else none
def me2 (ks : List Kd) (g : FN) (d : D) (p : List Ov × En) : Option (Bool × D × En) := (allD p.1).bind (me3 ks g d p.2)
def me1 (ks : List Kd) (g : FN) (fa : FA) (d : D) (e : En) (b : Bool) : Option (Bool × D × En) := if b then (fa e).bind (me2 ks g d) else none
def me0 (c m : Str) (ks : List Kd) (g : FN) (fa : FA) (p : D × En) : Option (Bool × D × En) := me1 ks g fa p.1 p.2 (hasM c m p.1)
theorem exM_eq (c m : Str) (ks : List Kd) (g : FN) (fr : FE) (fa : FA) (env : En) : exM c m ks g fr fa env = (fr env).bind (me0 c m ks g fa) := by
  unfold exM
  cases fr env with
  | none => rfl
  | some p =>
    obtain ⟨d, e⟩ := p
    simp only [Option.bind_some, me0, me1]
    cases d <;> first | rfl | skip
    rename_i c' fs
    by_cases h : hasM c m (.obj c' fs) = true
    · rw [if_pos h]
      simp only
      rw [if_pos (hasM_iff.mp h)]
      cases fa e with
      | none => rfl
      | some q =>
        simp only [Option.bind_some, me2]
        cases allD q.1 with
        | none => rfl
        | some ds =>
          simp only [Option.bind_some, me3]
          split
          · cases g (D.obj c' fs :: ds) with
            | none => rfl
            | some r => cases r; rfl
          · rfl
    · rw [if_neg h]
      simp only
      rw [if_neg fun z => h (hasM_iff.mpr z)]
theorem eMeth_eq (c m : Str) (ks : List Kd) (g : FN) (fr : FE) (fa : FA) (env : En) : eMeth c m ks g fr fa env = cvE ((fr env).bind (me0 c m ks g fa)) := by
  unfold eMeth
  rw [exM_eq]
  rfl
theorem eMethF_eq (c m : Str) (ks : List Kd) (g : FN) (fr : FE) (fa : FA) (env : En) : eMethF c m ks g fr fa env = cvF ((fr env).bind (me0 c m ks g fa)) := by
  unfold eMethF
  rw [exM_eq]
  cases (fr env).bind (me0 c m ks g fa) with
  | none => rfl
  | some r =>
    obtain ⟨b, d, e⟩ := r
    cases b <;> rfl
theorem me0_eq (c m : Str) (ks : List Kd) (g : FN) (fa : FA) (d : D) (e : En) : me0 c m ks g fa (d, e) = me1 ks g fa d e (hasM c m d) := id rfl
theorem me1_eq (ks : List Kd) (g : FN) (fa : FA) (d : D) (e : En) : me1 ks g fa d e true = (fa e).bind (me2 ks g d) := id rfl
theorem me2_eq (ks : List Kd) (g : FN) (d : D) (os : List Ov) (e : En) : me2 ks g d (os, e) = (allD os).bind (me3 ks g d e) := id rfl
theorem me3_0 (g : FN) (d : D) (e : En) : me3 [.sh] g d e [] = cv3 e (g [d]) := id rfl
theorem me3_1 (g : FN) (d a : D) (e : En) : me3 [.sh, .sh] g d e [a] = cv3 e (g [d, a]) := id rfl
theorem me3_2 (g : FN) (d a b : D) (e : En) : me3 [.sh, .sh, .sh] g d e [a, b] = cv3 e (g [d, a, b]) := id rfl
theorem me3_3 (g : FN) (d a b c : D) (e : En) : me3 [.sh, .sh, .sh, .sh] g d e [a, b, c] = cv3 e (g [d, a, b, c]) := id rfl
def mp1 (i : Nat) (ks : List Kd) (g : FN) (fa : FA) (env : En) (b : Bool) : Option (Bool × D × En) := if b then (fa env).bind (cp1 i ks g) else none
def mp0 (i : Nat) (c m : Str) (ks : List Kd) (g : FN) (fa : FA) (env : En) : Option (Option Sl) → Option (Bool × D × En)
  | some (some (.ow, d)) => mp1 i ks g fa env (hasM c m d)
  | some (some (.pn, d)) => mp1 i ks g fa env (hasM c m d)
  | _ => none
theorem exMP_eq (i : Nat) (c m : Str) (ks : List Kd) (g : FN) (fa : FA) (env : En) : exMP i c m ks g fa env = mp0 i c m ks g fa env env[i]? := by
  unfold exMP
  cases env[i]? with
  | none => rfl
  | some z =>
    cases z with
    | none => rfl
    | some kd =>
      obtain ⟨k0, d⟩ := kd
      have key : ∀ k0 d, k0 ≠ Kd.sh → (match (some (some (k0, d)) : Option (Option Sl)) with
          | some (some (k0, .obj c' fs)) => if c' = c ∧ (fs.lookup m).isNone = true ∧ k0 ≠ .sh then (fa env).bind fun p => (allD p.1).bind fun ds => match p.2[i]? with
            | some (some (k, d0)) => if k ≠ .sh ∧ allSh ks ∧ ds.length = ks.length then match g (d0 :: ds) with
              | some (.ok own d (d1 :: _)) => some (own, d, p.2.set i (some (k, d1)))
              | _ => none else none
            | _ => none else none
          | _ => none) = mp1 i ks g fa env (hasM c m d) := fun k0 d hk => by
        cases d <;> first | rfl | skip
        rename_i c' fs
        unfold mp1
        by_cases h : hasM c m (.obj c' fs) = true
        · rw [if_pos h]
          simp only
          rw [if_pos ⟨(hasM_iff.mp h).1, (hasM_iff.mp h).2, hk⟩]
          cases fa env with
          | none => rfl
          | some p =>
            simp only [Option.bind_some, cp1]
            cases allD p.1 with
            | none => rfl
            | some ds =>
              simp only [Option.bind_some, cp2]
              cases p.2[i]? with
              | none => rfl
              | some z =>
                cases z with
                | none => rfl
                | some kd =>
                  obtain ⟨k, d0⟩ := kd
                  simp only [cp3]
                  split
                  · cases g (d0 :: ds) with
                    | none => rfl
                    | some r =>
                      obtain ⟨own, d, outs⟩ := r
                      cases outs <;> rfl
                  · rfl
        · rw [if_neg h]
          simp only
          rw [if_neg fun z => h (hasM_iff.mpr ⟨z.1, z.2.1⟩)]
      cases k0 with
      | sh => 
        show _ = none
        cases d <;> first | rfl | skip
        simp only
        rw [if_neg (fun z => z.2.2 rfl)]
      | ow => exact key .ow d (by decide)
      | pn => exact key .pn d (by decide)
theorem eMethP_eq (i : Nat) (c m : Str) (ks : List Kd) (g : FN) (fa : FA) (env : En) : eMethP i c m ks g fa env = cvE (mp0 i c m ks g fa env env[i]?) := by
  unfold eMethP
  rw [exMP_eq]
  rfl
theorem eMethPF_eq (i : Nat) (c m : Str) (ks : List Kd) (g : FN) (fa : FA) (env : En) : eMethPF i c m ks g fa env = cvF (mp0 i c m ks g fa env env[i]?) := by
  unfold eMethPF
  rw [exMP_eq]
  cases mp0 i c m ks g fa env env[i]? with
  | none => rfl
  | some r =>
    obtain ⟨b, d, e⟩ := r
    cases b <;> rfl
theorem mp0_ow (i : Nat) (c m : Str) (ks : List Kd) (g : FN) (fa : FA) (env : En) (d : D) : mp0 i c m ks g fa env (some (some (.ow, d))) = mp1 i ks g fa env (hasM c m d) := id rfl
theorem mp0_pn (i : Nat) (c m : Str) (ks : List Kd) (g : FN) (fa : FA) (env : En) (d : D) : mp0 i c m ks g fa env (some (some (.pn, d))) = mp1 i ks g fa env (hasM c m d) := id rfl
theorem mp1_eq (i : Nat) (ks : List Kd) (g : FN) (fa : FA) (env : En) : mp1 i ks g fa env true = (fa env).bind (cp1 i ks g) := id rfl
/-- a new object -/
def nw2 (e : En) : Option Res → Option (D × En)
  | some (.ok false .non (d1 :: _)) => some (d1, e)
  | _ => none
def nw1 (c : Str) (ks : List Kd) (g : FN) (e : En) (ds : List D) : Option (D × En) := if allSh ks = true ∧ ds.length = ks.length then nw2 e (g (.obj c [] :: ds)) else none
def nw0 (c : Str) (ks : List Kd) (g : FN) (p : List Ov × En) : Option (D × En) := (allD p.1).bind (nw1 c ks g p.2)
theorem eNew_eq (c : Str) (ks : List Kd) (g : FN) (fa : FA) (env : En) : eNew c ks g fa env = (fa env).bind (nw0 c ks g) := by
  unfold eNew
  cases fa env with
  | none => rfl
  | some p =>
    simp only [Option.bind_some, nw0]
    cases allD p.1 with
    | none => rfl
    | some ds =>
      simp only [Option.bind_some, nw1]
      split
      · cases g (D.obj c [] :: ds) with
        | none => rfl
        | some r =>
          obtain ⟨own, d, outs⟩ := r
          cases own <;> cases d <;> cases outs <;> rfl
      · rfl
theorem nw0_eq (c : Str) (ks : List Kd) (g : FN) (os : List Ov) (e : En) : nw0 c ks g (os, e) = (allD os).bind (nw1 c ks g e) := id rfl
theorem nw1_0 (c : Str) (g : FN) (e : En) : nw1 c [] g e [] = nw2 e (g [.obj c []]) := id rfl
theorem nw1_1 (c : Str) (g : FN) (e : En) (a : D) : nw1 c [.sh] g e [a] = nw2 e (g [.obj c [], a]) := id rfl
theorem nw1_2 (c : Str) (g : FN) (e : En) (a b : D) : nw1 c [.sh, .sh] g e [a, b] = nw2 e (g [.obj c [], a, b]) := id rfl
theorem nw2_eq (e : En) (d1 : D) (o : List D) : nw2 e (some (.ok false .non (d1 :: o))) = some (d1, e) := id rfl
/-- an object of the class -/
def isC (c : Str) : D → Bool
  | .obj c' _ => decide (c' = c)
  | _ => false
theorem isC_iff {c c' : Str} {fs : List (Str × D)} : isC c (.obj c' fs) = true ↔ c' = c := by
  simp [isC]
def xq3 (e : En) : Option Res → Option (D × En)
  | some (.ok false (.bl t) _) => some (.bl t, e)
  | _ => none
def xq2 (g : FN) (d d2 : D) (e : En) (b b2 : Bool) : Option (D × En) := if b && b2 then xq3 e (g [d, d2]) else none
def xq1 (c : Str) (g : FN) (d : D) (p : D × En) : Option (D × En) := xq2 g d p.1 p.2 (isC c d) (isC c p.1)
def xq0 (c : Str) (g : FN) (fb : FE) (p : D × En) : Option (D × En) := (fb p.2).bind (xq1 c g p.1)
theorem exEq_eq (c : Str) (g : FN) (fa fb : FE) (env : En) : exEq c g fa fb env = (fa env).bind (xq0 c g fb) := by
  unfold exEq
  cases fa env with
  | none => rfl
  | some p =>
    simp only [Option.bind_some, xq0]
    cases fb p.2 with
    | none => rfl
    | some q =>
      obtain ⟨d, e⟩ := p
      obtain ⟨d2, e2⟩ := q
      simp only [Option.bind_some, xq1, xq2]
      cases d <;> first | rfl | skip
      rename_i c1 fs
      cases d2 <;> first | (simp only [isC, Bool.and_false, Bool.false_eq_true, if_false]; done) | skip
      rename_i c2 gs
      simp only
      by_cases h : c1 = c
      · by_cases h2 : c2 = c
        · rw [if_pos ⟨h, h2⟩, if_pos (by rw [isC_iff.mpr h, isC_iff.mpr h2]; rfl)]
          cases g [D.obj c1 fs, D.obj c2 gs] with
          | none => rfl
          | some r =>
            obtain ⟨own, d, outs⟩ := r
            cases own <;> cases d <;> rfl
        · rw [if_neg (fun z => h2 z.2), if_neg (fun z => h2 (isC_iff.mp (Bool.and_eq_true_iff.mp z).2))]
      · rw [if_neg (fun z => h z.1), if_neg (fun z => h (isC_iff.mp (Bool.and_eq_true_iff.mp z).1))]
theorem xq0_eq (c : Str) (g : FN) (fb : FE) (d : D) (e : En) : xq0 c g fb (d, e) = (fb e).bind (xq1 c g d) := id rfl
theorem xq1_eq (c : Str) (g : FN) (d d2 : D) (e : En) : xq1 c g d (d2, e) = xq2 g d d2 e (isC c d) (isC c d2) := id rfl
theorem xq2_eq (g : FN) (d d2 : D) (e : En) : xq2 g d d2 e true true = xq3 e (g [d, d2]) := id rfl
theorem xq3_eq (e : En) (t : Bool) (o : List D) : xq3 e (some (.ok false (.bl t) o)) = some (.bl t, e) := id rfl
def iso1 (c : Str) (b : Bool) : Option D := if b then some (.bl true) else none
theorem iso_eq (c : Str) (d : D) : isoD c [d, .cls c] = iso1 c (isC c d) := by
  cases d <;> first | rfl | skip
  rename_i c' fs
  unfold iso1 isoD
  by_cases h : c' = c
  · rw [if_pos (isC_iff.mpr h)]
    exact if_pos ⟨h, rfl⟩
  · rw [if_neg (fun z => h (isC_iff.mp z))]
    exact if_neg (fun z => h z.1)
theorem iso1_t (c : Str) : iso1 c true = some (.bl true) := id rfl
end Qd
namespace Qd
open PySem PySem.Spec L2
theorem ixS_last (x : List Nat) (c : Nat) (h : x.length ≤ 999999) : ixD (.str (x ++ [c])) (.int (-1)) = some (.str [c]) := by
  have e : atI (x ++ [c]) (-1) = some c := by
    unfold atI ixN
    rw [if_neg (by decide), if_pos (by simp; omega), Option.bind_some]
    have : ((-1 : Int) + ((x ++ [c]).length : Int)).toNat = x.length := by simp; omega
    rw [this]
    simp
  show (if (x ++ [c]).length ≤ sizeLine then (atI (x ++ [c]) (-1)).map (fun c => D.str [c]) else none) = _
  rw [e, if_pos (Nat.le_trans (show (x ++ [c]).length ≤ 1000000 by simp; omega) (by decide))]
  rfl
theorem ixS_at (x : List Nat) (n c : Nat) (h : x.length ≤ 1000000) (e : x[n]? = some c) : ixD (.str x) (.int (n : Int)) = some (.str [c]) := by
  show (if x.length ≤ sizeLine then (atI x (n : Int)).map (fun c => D.str [c]) else none) = _
  rw [atI_of e, if_pos (Nat.le_trans h (by decide))]
  rfl
theorem ixS_01 (n : Nat) (h : n < 2) : ∃ c, (c = 48 ∨ c = 49) ∧ ixD (.str [48, 49]) (.int (n : Int)) = some (.str [c]) := by
  rcases (show n = 0 ∨ n = 1 by omega) with rfl | rfl
  · exact ⟨48, .inl rfl, ixS_at _ 0 48 (by decide) rfl⟩
  · exact ⟨49, .inr rfl, ixS_at _ 1 49 (by decide) rfl⟩
theorem mulD_s (a : List Nat) (n : Nat) (h : n < 1000000) (h2 : a.length * n ≤ 1000000) : mulD (.str a) (.int (n : Int)) = some (.str (List.replicate n a).flatten) := by
  show (if 0 ≤ (n : Int) ∧ (n : Int) < 1000000 ∧ a.length * (n : Int).toNat ≤ sizeLine then some (D.str (List.replicate (n : Int).toNat a).flatten) else none) = _
  rw [Int.toNat_natCast, if_pos ⟨by omega, by omega, Nat.le_trans h2 (by decide)⟩]
theorem inD_sign (c : Nat) (z : List Nat) : inD (.str [c]) (.str z) = some (.bl (decide (c ∈ z))) := id rfl
theorem joinL_nil : ∀ xs : List (List Nat), TL.joinL [] xs = xs.flatten
  | [] => rfl
  | [p] => by simp [TL.joinL]
  | p :: q :: r => by
    rw [TL.joinL, joinL_nil (q :: r)]
    simp
theorem joinD_s (xs : List (List Nat)) (h : xs.flatten.length ≤ 1000000) : joinD (.str []) [.lst (xs.map D.str)] = some (.str xs.flatten) := by
  show (strsD (xs.map D.str)).bind (fun xs => if (xs.map (·.length)).sum + xs.length * ([] : List Nat).length ≤ 16777216 then some (D.str (TL.joinL [] xs)) else none) = _
  rw [strsD_map, Option.bind_some, joinL_nil, if_pos]
  rw [List.length_flatten] at h
  simp only [List.length_nil, Nat.mul_zero, Nat.add_zero]
  exact Nat.le_trans h (by decide)
theorem joinD_sep (a : List Nat) (xs : List (List Nat)) (h : (xs.map (·.length)).sum + xs.length * a.length ≤ 1000000) : joinD (.str a) [.lst (xs.map D.str)] = some (.str (TL.joinL a xs)) := by
  show (strsD (xs.map D.str)).bind (fun xs => if (xs.map (·.length)).sum + xs.length * a.length ≤ 16777216 then some (D.str (TL.joinL a xs)) else none) = _
  rw [strsD_map, Option.bind_some, if_pos (Nat.le_trans h (by decide))]
theorem maxD2_i (i j : Int) : maxD2 [.int i, .int j] = some (.int (if j > i then j else i)) := id rfl
theorem minD2_i (i j : Int) : minD2 [.int i, .int j] = some (.int (if j < i then j else i)) := id rfl
def is0 (e : En) : Option D → Option (List D × Bs × En)
  | some (.str x) => some (x.map fun c => .str [c], [], e)
  | _ => none
def is1 (p : Ov × En) : Option (List D × Bs × En) := is0 p.2 (fetch p.2 p.1)
theorem iS_eq (fo : FO) (env : En) : iS fo env = (fo env).bind is1 := by
  unfold iS
  cases fo env with
  | none => rfl
  | some p =>
    simp only [Option.bind_some, is1]
    cases fetch p.2 p.1 with
    | none => rfl
    | some d => cases d <;> rfl
theorem is1_eq (o : Ov) (e : En) : is1 (o, e) = is0 e (fetch e o) := id rfl
theorem is0_eq (e : En) (x : List Nat) : is0 e (some (.str x)) = some (x.map fun c => .str [c], [], e) := id rfl
def ir2d (a b : Int) (e : En) : Option (List D × Bs × En) := if -1000000000 ≤ a ∧ a < 1000000000 ∧ -1000000000 ≤ b ∧ b < 1000000000 then some (rng a (b - a).toNat, [], e) else none
def ir2c (a : Int) : D × En → Option (List D × Bs × En)
  | (.int b, e) => ir2d a b e
  | _ => none
def ir2a (fb : FE) : D × En → Option (List D × Bs × En)
  | (.int a, e) => (fb e).bind (ir2c a)
  | _ => none
theorem iR2_eq (fa fb : FE) (env : En) : iR2 fa fb env = (fa env).bind (ir2a fb) := by
  unfold iR2
  cases fa env with
  | none => rfl
  | some p =>
    obtain ⟨d, e⟩ := p
    cases d <;> first | rfl | skip
    rename_i a
    show ((asI (.int a)).bind fun a => _) = (fb e).bind (ir2c a)
    simp only [asI, Option.bind_some]
    cases fb e with
    | none => rfl
    | some q =>
      obtain ⟨d2, e2⟩ := q
      cases d2 <;> rfl
theorem ir2a_eq (fb : FE) (a : Int) (e : En) : ir2a fb (.int a, e) = (fb e).bind (ir2c a) := id rfl
theorem ir2c_eq (a b : Int) (e : En) : ir2c a (.int b, e) = ir2d a b e := id rfl
theorem ir2d_eq (a b : Int) (e : En) (h : -1000000000 ≤ a ∧ a < 1000000000 ∧ -1000000000 ≤ b ∧ b < 1000000000) : ir2d a b e = some (rng a (b - a).toNat, [], e) := if_pos h
end Qd
namespace Qm
open Qd
/-- the sign of a row at a place -/
def sgn (h r : Wd) (i : Nat) : Nat := if i < h.length then h.getD i 0 else r.getD ((i - h.length) % r.length) 0
/-- a row with period p from n on -/
def Per (x : Nat → Nat) (n p : Nat) : Prop := ∀ i, n ≤ i → x (i + p) = x i
theorem sgn_per (h r : Wd) : Per (sgn h r) h.length r.length := fun i hi => by
  unfold sgn
  rw [if_neg (by omega), if_neg (by omega), show i + r.length - h.length = (i - h.length) + r.length by omega, Nat.add_mod_right]
theorem Per.mul {x : Nat → Nat} {n p : Nat} (h : Per x n p) (k : Nat) : Per x n (k * p) := by
  induction k with
  | zero => intro i _; simp
  | succ k ih =>
    intro i hi
    rw [Nat.succ_mul, ← Nat.add_assoc, h _ (by omega), ih i hi]
theorem Per.ge {x : Nat → Nat} {n m p : Nat} (h : Per x n p) (hm : n ≤ m) : Per x m p := fun i hi => h i (by omega)
/-- two rows that agree long enough agree for ever -/
theorem agree {x y : Nat → Nat} {n p q : Nat} (hx : Per x n p) (hy : Per y n q) (hp : 0 < p) (hq : 0 < q) (h : ∀ i, i < n + p + q → x i = y i) : ∀ i, x i = y i := by
  intro i
  induction i using Nat.strongRecOn with
  | _ i ih =>
    by_cases hi : i < n + p + q
    · exact h i hi
    · have e1 : x i = x (i - p) := by
        have := hx (i - p) (by omega)
        rwa [show i - p + p = i by omega] at this
      have e2 : y (i - p) = y (i - p - q) := by
        have := hy (i - p - q) (by omega)
        rwa [show i - p - q + q = i - p by omega] at this
      have e3 : x (i - q) = x (i - q - p) := by
        have := hx (i - q - p) (by omega)
        rwa [show i - q - p + p = i - q by omega] at this
      have e4 : y i = y (i - q) := by
        have := hy (i - q) (by omega)
        rwa [show i - q + q = i by omega] at this
      rw [e1, ih (i - p) (by omega), e2, e4, ← ih (i - q) (by omega), e3, show i - q - p = i - p - q by omega, ih (i - p - q) (by omega)]
/-- a period from somewhere is a period from where the row is round -/
theorem Per.back {x : Nat → Nat} {n m p q : Nat} (hx : Per x n p) (hp : 0 < p) (hy : Per x m q) : Per x n q := fun i hi => by
  have h1 := hx.mul m
  have e1 := h1 (i + q) (by omega)
  have e2 := h1 i hi
  have : m ≤ i + m * p := by
    have : m * 1 ≤ m * p := Nat.mul_le_mul_left m hp
    omega
  have e3 := hy (i + m * p) this
  rw [← e1, show i + q + m * p = i + m * p + q by omega, e3, e2]
theorem Per.sub {x : Nat → Nat} {n p q : Nat} (hp : Per x n p) (hq : Per x n q) (h : q ≤ p) : Per x n (p - q) := fun i hi => by
  have := hq (i + (p - q)) (by omega)
  rw [show i + (p - q) + q = i + p by omega, hp i hi] at this
  exact this.symm
theorem Per.gcd {x : Nat → Nat} {n : Nat} : ∀ (k p q : Nat), p + q ≤ k → 0 < p → 0 < q → Per x n p → Per x n q → Per x n (Nat.gcd p q)
  | 0, p, q, h, h1, _, _, _ => by omega
  | k + 1, p, q, h, h1, h2, hp, hq => by
    by_cases e : p = q
    · subst e
      rw [Nat.gcd_self]
      exact hp
    · by_cases l : q < p
      · have := Per.gcd k (p - q) q (by omega) (by omega) h2 (hp.sub hq (by omega)) hq
        rwa [Nat.gcd_sub_self_left (by omega)] at this
      · have := Per.gcd k p (q - p) (by omega) h1 (by omega) hp (hq.sub hp (by omega))
        rwa [Nat.gcd_sub_self_right (by omega)] at this
/-- rows of the same period that agree for one turn agree for ever -/
theorem agree_mul {x y : Nat → Nat} {n p q : Nat} (hx : Per x n p) (hy : Per y n q) (hp : 0 < p) (hq : 0 < q) (h : ∀ i, i < n + p * q → x i = y i) : ∀ i, x i = y i := by
  have h1 : Per x n (p * q) := by
    have := hx.mul q
    rwa [Nat.mul_comm] at this
  have h2 : Per y n (p * q) := hy.mul p
  have hpq : 0 < p * q := Nat.mul_pos hp hq
  intro i
  induction i using Nat.strongRecOn with
  | _ i ih =>
    by_cases hi : i < n + p * q
    · exact h i hi
    · have e1 := h1 (i - p * q) (by omega)
      have e2 := h2 (i - p * q) (by omega)
      rw [show i - p * q + p * q = i by omega] at e1 e2
      rw [e1, e2]
      exact ih _ (by omega)
/-- the first unlike sign is the lesser one -/
def Lt (x y : Nat → Nat) : Prop := ∃ d, (∀ i, i < d → x i = y i) ∧ x d < y d
theorem pre_get (x : Nat → Nat) (n i : Nat) (h : i < (pre x n).length) : (pre x n)[i] = x i := by simp [pre]
theorem pre_lt (x y : Nat → Nat) (n : Nat) : pre x n < pre y n ↔ ∃ d, d < n ∧ (∀ i, i < d → x i = y i) ∧ x d < y d := by
  rw [List.lt_iff_exists]
  constructor
  · rintro (⟨_, h⟩ | ⟨i, h1, h2, h3, h4⟩)
    · rw [pre_len, pre_len] at h
      omega
    · rw [pre_len] at h1
      refine ⟨i, h1, fun j hj => ?_, ?_⟩
      · have := h3 j hj
        rwa [pre_get, pre_get] at this
      · rwa [pre_get, pre_get] at h4
  · rintro ⟨d, hd, h1, h2⟩
    refine .inr ⟨d, by rw [pre_len]; exact hd, by rw [pre_len]; exact hd, fun j hj => ?_, ?_⟩
    · rw [pre_get, pre_get]
      exact h1 j hj
    · rw [pre_get, pre_get]
      exact h2
theorem pre_lt_iff {x y : Nat → Nat} {n : Nat} (h : (∀ i, i < n → x i = y i) → ∀ i, x i = y i) : pre x n < pre y n ↔ Lt x y := by
  rw [pre_lt]
  constructor
  · exact fun ⟨d, _, h1, h2⟩ => ⟨d, h1, h2⟩
  · rintro ⟨d, h1, h2⟩
    by_cases hd : d < n
    · exact ⟨d, hd, h1, h2⟩
    · exfalso
      have := h (fun i hi => h1 i (by omega)) d
      omega
theorem Lt.asymm {x y : Nat → Nat} (h1 : Lt x y) (h2 : Lt y x) : False := by
  obtain ⟨d, a, b⟩ := h1
  obtain ⟨e, a', b'⟩ := h2
  rcases Nat.lt_trichotomy d e with h | h | h
  · have := a' d h
    omega
  · subst h
    omega
  · have := a e h
    omega
theorem Lt.trans {x y z : Nat → Nat} (h1 : Lt x y) (h2 : Lt y z) : Lt x z := by
  obtain ⟨d, a, b⟩ := h1
  obtain ⟨e, a', b'⟩ := h2
  rcases Nat.lt_trichotomy d e with h | h | h
  · exact ⟨d, fun i hi => (a i hi).trans (a' i (by omega)), by rw [← a' d h]; exact b⟩
  · subst h
    exact ⟨d, fun i hi => (a i hi).trans (a' i hi), by omega⟩
  · exact ⟨e, fun i hi => (a i (by omega)).trans (a' i hi), by rw [a e h]; exact b'⟩
theorem Lt.tri {x y : Nat → Nat} (h1 : ¬ Lt x y) (h2 : ¬ Lt y x) : ∀ i, x i = y i := by
  intro i
  induction i using Nat.strongRecOn with
  | _ i ih =>
    rcases Nat.lt_trichotomy (x i) (y i) with h | h | h
    · exact absurd ⟨i, ih, h⟩ h1
    · exact h
    · exact absurd ⟨i, fun j hj => (ih j hj).symm, h⟩ h2
theorem rep_get (r : Wd) (hr : 0 < r.length) : ∀ (m j : Nat), j < m * r.length → (List.replicate m r).flatten[j]? = some (r.getD (j % r.length) 0)
  | 0, j, h => by simp at h
  | m + 1, j, h => by
    rw [List.replicate_succ, List.flatten_cons]
    by_cases hj : j < r.length
    · rw [List.getElem?_append_left hj, Nat.mod_eq_of_lt hj, List.getElem?_eq_getElem hj, List.getD_eq_getElem?_getD, List.getElem?_eq_getElem hj]
      rfl
    · rw [List.getElem?_append_right (by omega), rep_get r hr m (j - r.length) (by rw [Nat.succ_mul] at h; omega)]
      have : (j - r.length) % r.length = j % r.length := by
        rw [Nat.mod_eq_sub_mod (a := j) (by omega)]
      rw [this]
theorem rep_len (r : Wd) (m : Nat) : (List.replicate m r).flatten.length = m * r.length := by simp
theorem first_eq (h r : Wd) (hr : 0 < r.length) (m n : Nat) (hn : n ≤ h.length + m * r.length) : (h ++ (List.replicate m r).flatten).take n = pre (sgn h r) n := by
  apply List.ext_getElem?
  intro i
  by_cases hi : i < n
  · rw [List.getElem?_take_of_lt hi]
    have e : (pre (sgn h r) n)[i]? = some (sgn h r i) := by
      rw [List.getElem?_eq_getElem (by rw [pre_len]; exact hi), pre_get]
    rw [e]
    unfold sgn
    by_cases hh : i < h.length
    · rw [List.getElem?_append_left hh, if_pos hh, List.getD_eq_getElem?_getD, List.getElem?_eq_getElem hh]
      rfl
    · rw [List.getElem?_append_right (by omega), if_neg hh, rep_get r hr m _ (by omega)]
  · rw [List.getElem?_eq_none (by simp; omega), List.getElem?_eq_none (by rw [pre_len]; omega)]
end Qm
namespace Qm
open Qd
/-- a ring is its first k signs again and again -/
def rep (r : Wd) (k : Nat) : Prop := (List.replicate (r.length / k) (r.take k)).flatten = r
instance (r : Wd) (k : Nat) : Decidable (rep r k) := inferInstanceAs (Decidable (_ = _))
theorem rep_self (r : Wd) (h : 0 < r.length) : rep r r.length := by
  unfold rep
  rw [Nat.div_self h, List.take_length]
  simp
theorem rep_dvd {r : Wd} {k : Nat} (hk : k ≤ r.length) (h : rep r k) : k ∣ r.length := by
  have := congrArg List.length h
  rw [rep_len, List.length_take, Nat.min_eq_left hk] at this
  exact ⟨r.length / k, by rw [Nat.mul_comm]; exact this.symm⟩
/-- no shorter ring tells the same -/
def Prim (r : Wd) : Prop := 0 < r.length ∧ ∀ k, 0 < k → k < r.length → ¬ rep r k
theorem sgn_nil (r : Wd) (i : Nat) : sgn [] r i = r.getD (i % r.length) 0 := by
  unfold sgn
  simp
theorem rep_per {r : Wd} {k : Nat} (h0 : 0 < k) (hk : k ≤ r.length) : rep r k ↔ k ∣ r.length ∧ Per (sgn [] r) 0 k := by
  have hl : (r.take k).length = k := by rw [List.length_take, Nat.min_eq_left hk]
  have hr : 0 < r.length := by omega
  constructor
  · intro h
    refine ⟨rep_dvd hk h, fun i _ => ?_⟩
    obtain ⟨m, hm⟩ := rep_dvd hk h
    have key : ∀ j, j < r.length → r.getD j 0 = (r.take k).getD (j % k) 0 := fun j hj => by
      have := rep_get (r.take k) (by omega) (r.length / k) j (by rw [hl, Nat.div_mul_cancel (rep_dvd hk h)]; exact hj)
      rw [show (List.replicate (r.length / k) (r.take k)).flatten = r from h, hl] at this
      rw [List.getD_eq_getElem?_getD, this]
      rfl
    rw [sgn_nil, sgn_nil, key _ (Nat.mod_lt _ hr), key _ (Nat.mod_lt _ hr), Nat.mod_mod_of_dvd _ (rep_dvd hk h), Nat.mod_mod_of_dvd _ (rep_dvd hk h), Nat.add_mod_right]
  · rintro ⟨hd, hp⟩
    unfold rep
    apply List.ext_getElem?
    intro j
    by_cases hj : j < r.length
    · rw [rep_get (r.take k) (by omega) _ j (by rw [hl, Nat.div_mul_cancel hd]; exact hj), hl]
      have e1 : sgn [] r j = sgn [] r (j % k) := by
        have := hp.mul (j / k) (j % k) (by omega)
        rw [show j % k + j / k * k = j by rw [Nat.mul_comm]; exact Nat.mod_add_div j k] at this
        exact this
      have hm : j % k < k := Nat.mod_lt _ h0
      rw [sgn_nil, sgn_nil, Nat.mod_eq_of_lt hj, Nat.mod_eq_of_lt (by omega)] at e1
      rw [List.getElem?_eq_getElem hj]
      rw [List.getD_eq_getElem?_getD, List.getElem?_eq_getElem hj, Option.getD_some] at e1
      rw [e1, List.getD_eq_getElem?_getD, List.getD_eq_getElem?_getD, List.getElem?_take_of_lt hm]
    · rw [List.getElem?_eq_none (by rw [rep_len, hl, Nat.div_mul_cancel hd]; omega), List.getElem?_eq_none (by omega)]
/-- the shortest ring -/
theorem exists_min (r : Wd) (h : 0 < r.length) : ∃ k, 0 < k ∧ k ≤ r.length ∧ rep r k ∧ ∀ j, 0 < j → j < k → ¬ rep r j := by
  have : ∀ n, n ≤ r.length → (∃ k, 0 < k ∧ k ≤ n ∧ rep r k ∧ ∀ j, 0 < j → j < k → ¬ rep r j) ∨ ∀ j, 0 < j → j ≤ n → ¬ rep r j := by
    intro n
    induction n with
    | zero => exact fun _ => .inr fun j h1 h2 => by omega
    | succ n ih =>
      intro hn
      rcases ih (by omega) with ⟨k, h1, h2, h3, h4⟩ | hno
      · exact .inl ⟨k, h1, by omega, h3, h4⟩
      · by_cases c : rep r (n + 1)
        · exact .inl ⟨n + 1, by omega, by omega, c, fun j h1 h2 => hno j h1 (by omega)⟩
        · refine .inr fun j h1 h2 => ?_
          by_cases e : j = n + 1
          · rw [e]
            exact c
          · exact hno j h1 (by omega)
  rcases this r.length (Nat.le_refl _) with ⟨k, h1, h2, h3, h4⟩ | hno
  · exact ⟨k, h1, h2, h3, h4⟩
  · exact absurd (rep_self r h) (hno _ h (Nat.le_refl _))
/-- k signs of it are the shortest ring -/
def Min (r : Wd) (k : Nat) : Prop := 0 < k ∧ k ≤ r.length ∧ rep r k ∧ ∀ j, 0 < j → j < k → ¬ rep r j
theorem Min.uniq {r : Wd} {k l : Nat} (h : Min r k) (g : Min r l) : k = l := by
  rcases Nat.lt_trichotomy k l with c | c | c
  · exact absurd h.2.2.1 (g.2.2.2 k h.1 c)
  · exact c
  · exact absurd g.2.2.1 (h.2.2.2 l g.1 c)
theorem sgn_take {r : Wd} {k : Nat} (h0 : 0 < k) (hk : k ≤ r.length) (h : rep r k) (i : Nat) : sgn [] (r.take k) i = sgn [] r i := by
  have hl : (r.take k).length = k := by rw [List.length_take, Nat.min_eq_left hk]
  have hp := ((rep_per h0 hk).mp h).2
  have hm : i % k < k := Nat.mod_lt _ h0
  have e : sgn [] r i = sgn [] r (i % k) := by
    have := hp.mul (i / k) (i % k) (by omega)
    rw [show i % k + i / k * k = i by rw [Nat.mul_comm]; exact Nat.mod_add_div i k] at this
    exact this
  rw [e, sgn_nil, sgn_nil, hl, Nat.mod_eq_of_lt (show i % k < r.length by omega), List.getD_eq_getElem?_getD, List.getD_eq_getElem?_getD, List.getElem?_take_of_lt hm]
theorem Min.prim {r : Wd} {k : Nat} (h : Min r k) : Prim (r.take k) := by
  have hl : (r.take k).length = k := by rw [List.length_take, Nat.min_eq_left h.2.1]
  refine ⟨by rw [hl]; exact h.1, fun j h1 h2 h3 => ?_⟩
  rw [hl] at h2
  obtain ⟨hd, hp⟩ := (rep_per h1 (by rw [hl]; omega)).mp h3
  rw [hl] at hd
  refine h.2.2.2 j h1 h2 ((rep_per h1 (by have := h.2.1; omega)).mpr ⟨Nat.dvd_trans hd (rep_dvd h.2.1 h.2.2.1), fun i hi => ?_⟩)
  rw [← sgn_take h.1 h.2.1 h.2.2.1, ← sgn_take h.1 h.2.1 h.2.2.1]
  exact hp i hi
theorem Prim.min {r : Wd} (h : Prim r) : Min r r.length := ⟨h.1, Nat.le_refl _, rep_self r h.1, h.2⟩
theorem Prim.per {r : Wd} (h : Prim r) {k : Nat} (h0 : 0 < k) (hk : k < r.length) (hd : k ∣ r.length) : ¬ Per (sgn [] r) 0 k := fun hp => h.2 k h0 hk ((rep_per h0 (by omega)).mpr ⟨hd, hp⟩)
end Qm
namespace Qm
open Qd
/-- a head and a ring in plain form -/
structure Can (h r : Wd) : Prop where
  prim : Prim r
  last : ∀ u c v, ¬ (h = u ++ [c] ∧ r = v ++ [c])
theorem sgn_lt {h r : Wd} {i : Nat} (hi : i < h.length) : sgn h r i = h.getD i 0 := if_pos hi
theorem sgn_ge {h r : Wd} {i : Nat} (hi : h.length ≤ i) : sgn h r i = sgn [] r (i - h.length) := by
  rw [sgn_nil]
  unfold sgn
  rw [if_neg (by omega)]
theorem sgn_add (h r : Wd) (i : Nat) : sgn h r (i + h.length) = sgn [] r i := by
  rw [sgn_ge (Nat.le_add_left _ _), Nat.add_sub_cancel]
theorem per_nil {h r : Wd} {k : Nat} (p : Per (sgn h r) h.length k) : Per (sgn [] r) 0 k := fun i _ => by
  have := p (i + h.length) (by omega)
  rw [show i + h.length + k = (i + k) + h.length by omega, sgn_add, sgn_add] at this
  exact this
/-- the last sign of a ring, told by the row -/
theorem sgn_last {h v : Wd} {c : Nat} : sgn h (v ++ [c]) (h.length + v.length) = c := by
  rw [sgn_ge (by omega), sgn_nil, Nat.add_sub_cancel_left, Nat.mod_eq_of_lt (by simp)]
  simp [List.getD_eq_getElem?_getD]
theorem Can.le {h1 r1 h2 r2 : Wd} (c1 : Can h1 r1) (c2 : Can h2 r2) (e : ∀ i, sgn h1 r1 i = sgn h2 r2 i) : h2.length ≤ h1.length := by
  rcases Nat.lt_or_ge h1.length h2.length with hl | hl
  · exfalso
    have p1 : Per (sgn h2 r2) h1.length r1.length := fun i hi => by rw [← e, ← e]; exact sgn_per h1 r1 i hi
    have p2 := p1.back c1.prim.1 (sgn_per h2 r2)
    rcases List.eq_nil_or_concat h2 with z | ⟨u, c, z⟩
    · rw [z] at hl
      simp at hl
    · rcases List.eq_nil_or_concat r2 with z2 | ⟨v, d, z2⟩
      · have := c2.prim.1
        rw [z2] at this
        simp at this
      · rw [List.concat_eq_append] at z z2
        have hh : h2.length = u.length + 1 := by rw [z]; simp
        have hr : r2.length = v.length + 1 := by rw [z2]; simp
        have q := p2 u.length (by omega)
        rw [show u.length + r2.length = h2.length + v.length by omega] at q
        have l1 : sgn h2 r2 (h2.length + v.length) = d := by
          rw [z2]
          exact sgn_last
        have l2 : sgn h2 r2 u.length = c := by
          rw [sgn_lt (by omega), z]
          simp [List.getD_eq_getElem?_getD]
        rw [l1, l2] at q
        subst q
        exact c2.last u d v ⟨z, z2⟩
  · exact hl
theorem Can.uniq {h1 r1 h2 r2 : Wd} (c1 : Can h1 r1) (c2 : Can h2 r2) (e : ∀ i, sgn h1 r1 i = sgn h2 r2 i) : h1 = h2 ∧ r1 = r2 := by
  have hl : h1.length = h2.length := Nat.le_antisymm (Can.le c2 c1 fun i => (e i).symm) (Can.le c1 c2 e)
  have eh : h1 = h2 := by
    apply List.ext_getElem hl
    intro i a b
    have := e i
    rw [sgn_lt a, sgn_lt b] at this
    simpa [List.getD_eq_getElem?_getD, a, b] using this
  have er : ∀ i, sgn [] r1 i = sgn [] r2 i := fun i => by
    have := e (i + h1.length)
    rw [sgn_add, show i + h1.length = i + h2.length by omega, sgn_add] at this
    exact this
  have p1 : Per (sgn [] r1) 0 r1.length := sgn_per [] r1
  have p2 : Per (sgn [] r1) 0 r2.length := fun i hi => by rw [er, er]; exact sgn_per [] r2 i hi
  have pg := Per.gcd _ _ _ (Nat.le_refl _) c1.prim.1 c2.prim.1 p1 p2
  have pg2 : Per (sgn [] r2) 0 (Nat.gcd r1.length r2.length) := fun i hi => by rw [← er, ← er]; exact pg i hi
  have g0 : 0 < Nat.gcd r1.length r2.length := Nat.gcd_pos_of_pos_left _ c1.prim.1
  have e1 : Nat.gcd r1.length r2.length = r1.length := by
    have := Nat.le_of_dvd c1.prim.1 (Nat.gcd_dvd_left r1.length r2.length)
    rcases Nat.lt_or_ge (Nat.gcd r1.length r2.length) r1.length with h | h
    · exact absurd pg (c1.prim.per g0 h (Nat.gcd_dvd_left _ _))
    · omega
  have e2 : Nat.gcd r1.length r2.length = r2.length := by
    have := Nat.le_of_dvd c2.prim.1 (Nat.gcd_dvd_right r1.length r2.length)
    rcases Nat.lt_or_ge (Nat.gcd r1.length r2.length) r2.length with h | h
    · exact absurd pg2 (c2.prim.per g0 h (Nat.gcd_dvd_right _ _))
    · omega
  refine ⟨eh, List.ext_getElem (by omega) fun i a b => ?_⟩
  have := er i
  rw [sgn_nil, sgn_nil, Nat.mod_eq_of_lt a, Nat.mod_eq_of_lt b] at this
  simpa [List.getD_eq_getElem?_getD, a, b] using this
end Qm
namespace Qm
open Qd
/-- one roll -/
theorem sgn_roll (u v : Wd) (c i : Nat) : sgn (u ++ [c]) (v ++ [c]) i = sgn u (c :: v) i := by
  have hl : (v ++ [c]).length = v.length + 1 := by simp
  have hc : (c :: v).length = v.length + 1 := rfl
  have hu : (u ++ [c]).length = u.length + 1 := by simp
  rcases Nat.lt_trichotomy i u.length with h | h | h
  · rw [sgn_lt (by omega), sgn_lt h]
    simp [List.getD_eq_getElem?_getD, List.getElem?_append_left h]
  · subst h
    rw [sgn_lt (by omega), sgn_ge (Nat.le_refl _), sgn_nil]
    simp [List.getD_eq_getElem?_getD]
  · rw [sgn_ge (h := u ++ [c]) (by omega), sgn_ge (h := u) (by omega), sgn_nil, sgn_nil, hl, hc, hu]
    obtain ⟨j, rfl⟩ : ∃ j, i = u.length + 1 + j := ⟨i - u.length - 1, by omega⟩
    rw [show u.length + 1 + j - (u.length + 1) = j by omega, show u.length + 1 + j - u.length = j + 1 by omega]
    have hm : j % (v.length + 1) < v.length + 1 := Nat.mod_lt _ (by omega)
    by_cases e : j % (v.length + 1) = v.length
    · have : (j + 1) % (v.length + 1) = 0 := by
        rw [Nat.add_mod, e]
        by_cases z : v.length = 0
        · simp [z]
        · rw [Nat.mod_eq_of_lt (show 1 < v.length + 1 by omega), Nat.mod_self]
      rw [e, this]
      simp [List.getD_eq_getElem?_getD]
    · have : (j + 1) % (v.length + 1) = j % (v.length + 1) + 1 := by
        rw [Nat.add_mod, Nat.mod_eq_of_lt (show 1 < v.length + 1 by omega), Nat.mod_eq_of_lt (by omega)]
      rw [this]
      simp [List.getD_eq_getElem?_getD, List.getElem?_append_left (show j % (v.length + 1) < v.length by omega)]
theorem prim_roll {v : Wd} {c : Nat} (h : Prim (v ++ [c])) : Prim (c :: v) := by
  refine ⟨by simp, fun k h1 h2 h3 => ?_⟩
  obtain ⟨hd, hp⟩ := (rep_per h1 (by omega)).mp h3
  have hl : (v ++ [c]).length = (c :: v).length := by simp
  refine h.2 k h1 (by omega) ((rep_per h1 (by omega)).mpr ⟨by rw [hl]; exact hd, fun i _ => ?_⟩)
  have e : ∀ i, sgn [] (v ++ [c]) i = sgn [] (c :: v) (i + 1) := fun i => by
    have := sgn_roll [] v c (i + 1)
    rw [List.nil_append, sgn_ge (by simp)] at this
    simpa using this
  rw [e, e, show i + k + 1 = (i + 1) + k by omega]
  exact hp (i + 1) (by omega)
/-- the head rolled into the ring, by the head turned about -/
def rollR : List Nat → Wd → Wd × Wd
  | [], r => ([], r)
  | c :: t, r => if r.getLast? = some c then rollR t (c :: r.dropLast) else ((c :: t).reverse, r)
def roll (h r : Wd) : Wd × Wd := rollR h.reverse r
theorem roll_nil (r : Wd) : roll [] r = ([], r) := rfl
theorem roll_hit (u v : Wd) (c : Nat) : roll (u ++ [c]) (v ++ [c]) = roll u (c :: v) := by
  unfold roll
  rw [List.reverse_append, List.reverse_singleton, List.singleton_append, rollR, if_pos (by simp)]
  simp
theorem roll_no (u : Wd) (r : Wd) (c : Nat) (h : r.getLast? ≠ some c) : roll (u ++ [c]) r = (u ++ [c], r) := by
  unfold roll
  rw [List.reverse_append, List.reverse_singleton, List.singleton_append, rollR, if_neg h]
  simp
theorem roll_can : ∀ (t : List Nat) (r : Wd), Prim r → Can (roll t.reverse r).1 (roll t.reverse r).2 ∧ (∀ i, sgn (roll t.reverse r).1 (roll t.reverse r).2 i = sgn t.reverse r i) ∧ (roll t.reverse r).1.length ≤ t.length ∧ (roll t.reverse r).2.length = r.length
  | [], r, h => by
    rw [List.reverse_nil, roll_nil]
    exact ⟨⟨h, fun u c v e => by have := e.1; simp at this⟩, fun _ => rfl, by simp, rfl⟩
  | c :: t, r, h => by
    rw [List.reverse_cons]
    by_cases hc : r.getLast? = some c
    · obtain ⟨v, rfl⟩ : ∃ v, r = v ++ [c] := ⟨r.dropLast, by
        rcases List.eq_nil_or_concat r with z | ⟨w, d, z⟩
        · rw [z] at hc
          simp at hc
        · rw [List.concat_eq_append] at z
          rw [z] at hc ⊢
          have : d = c := by simpa using hc
          rw [this]
          simp⟩
      rw [roll_hit]
      obtain ⟨h1, h2, h3, h4⟩ := roll_can t (c :: v) (prim_roll h)
      refine ⟨h1, fun i => ?_, by simp; omega, by rw [h4]; simp⟩
      rw [h2, sgn_roll]
    · rw [roll_no _ _ _ hc]
      refine ⟨⟨h, fun u d v e => ?_⟩, fun _ => rfl, by simp, rfl⟩
      have e1 := (List.append_inj' e.1 rfl).2
      have : c = d := by simpa using e1
      subst this
      have e2 : r = v ++ [c] := e.2
      rw [e2] at hc
      simp at hc
/-- the shortest ring of a ring -/
noncomputable def short (r : Wd) : Wd := if h : 0 < r.length then r.take (Classical.choose (exists_min r h)) else r
theorem short_eq {r : Wd} {k : Nat} (h : Min r k) : short r = r.take k := by
  have h0 : 0 < r.length := Nat.lt_of_lt_of_le h.1 h.2.1
  unfold short
  rw [dif_pos h0, Min.uniq (Classical.choose_spec (exists_min r h0)) h]
theorem short_min {r : Wd} (h0 : 0 < r.length) : ∃ k, Min r k ∧ short r = r.take k := by
  obtain ⟨k, h⟩ := exists_min r h0
  exact ⟨k, h, short_eq h⟩
/-- the plain form of a row -/
noncomputable def can (h r : Wd) : Wd × Wd := roll h (short r)
theorem sgn_ring {h r s : Wd} (e : ∀ i, sgn [] r i = sgn [] s i) (i : Nat) : sgn h r i = sgn h s i := by
  by_cases c : i < h.length
  · rw [sgn_lt c, sgn_lt c]
  · rw [sgn_ge (h := h) (r := r) (by omega), sgn_ge (h := h) (r := s) (by omega), e]
theorem can_can (h r : Wd) (h0 : 0 < r.length) : Can (can h r).1 (can h r).2 ∧ (∀ i, sgn (can h r).1 (can h r).2 i = sgn h r i) ∧ (can h r).1.length ≤ h.length ∧ (can h r).2.length ≤ r.length := by
  obtain ⟨k, hk, e⟩ := short_min h0
  have hp := hk.prim
  have := roll_can h.reverse (r.take k) hp
  rw [List.reverse_reverse] at this
  unfold can
  rw [e]
  refine ⟨this.1, fun i => ?_, by simpa using this.2.2.1, by rw [this.2.2.2, List.length_take]; omega⟩
  rw [this.2.1]
  exact sgn_ring (sgn_take hk.1 hk.2.1 hk.2.2.1) i
theorem can_eq {h r h' r' : Wd} (h0 : 0 < r.length) (c : Can h' r') (e : ∀ i, sgn h' r' i = sgn h r i) : can h r = (h', r') := by
  obtain ⟨a, b, _, _⟩ := can_can h r h0
  obtain ⟨x, y⟩ := a.uniq c fun i => by rw [b, e]
  exact Prod.ext x y
theorem can_self {h r : Wd} (c : Can h r) : can h r = (h, r) := can_eq c.prim.1 c fun _ => rfl
theorem can_congr {h r h' r' : Wd} (h0 : 0 < r.length) (h0' : 0 < r'.length) (e : ∀ i, sgn h r i = sgn h' r' i) : can h r = can h' r' := by
  obtain ⟨a, b, _, _⟩ := can_can h' r' h0'
  exact can_eq h0 a fun i => (b i).trans (e i).symm
end Qm
namespace Qd
open PySem PySem.Spec L2 Qm
def now1 : Option (Option Sl) → Bool
  | some (some (.sh, _)) => true
  | some none => true
  | none => true
  | _ => false
theorem now_nil (e : En) : nonOw e [] = true := id rfl
theorem now_cons (e : En) (v : Nat) (vs : List Nat) : nonOw e (v :: vs) = (now1 e[v]? && nonOw e vs) := by
  unfold nonOw
  rw [List.all_cons]
  congr 1
theorem now1_sh (d : D) : now1 (some (some (.sh, d))) = true := id rfl
theorem now1_none : now1 (some none) = true := id rfl
theorem now1_of {x : Option Sl} (h : Lw.Sh x) : now1 (some x) = true := by
  rcases h with rfl | ⟨d, rfl⟩ <;> rfl
def bsV (bs : Bs) (vs : List Nat) : Bool := bs.all fun b => decide (b.1 ∉ vs)
theorem bsV_nil (vs : List Nat) : bsV [] vs = true := id rfl
def nin (i : Nat) : List Nat → Bool
  | [] => true
  | v :: vs => i != v && nin i vs
theorem nin_nil (i : Nat) : nin i [] = true := id rfl
theorem nin_cons (i v : Nat) (vs : List Nat) : nin i (v :: vs) = (i != v && nin i vs) := id rfl
theorem nin_eq (i : Nat) : ∀ vs, decide (i ∉ vs) = nin i vs
  | [] => by simp [nin]
  | v :: vs => by
    rw [nin_cons, ← nin_eq i vs]
    by_cases h : i = v
    · subst h
      simp
    · simp [h]
theorem bsV_cons (i : Nat) (d : D) (bs : Bs) (vs : List Nat) : bsV ((i, d) :: bs) vs = (nin i vs && bsV bs vs) := by
  rw [← nin_eq]
  rfl
def lcc (vs : List Nat) (pt : FG) (c f : FE) (items : List D) (bs : Bs) (e : En) (b : Bool) : Option (D × En) := if b then lc2 vs e (lcL bs vs pt c f items (wipeE e vs) []) else none
theorem lc1_go (vs : List Nat) (pt : FG) (c f : FE) (items : List D) (bs : Bs) (e : En) : lc1 vs pt c f (items, bs, e) = lcc vs pt c f items bs e (nonOw e vs && bsV bs vs) := by
  unfold lc1 lcc bsV
  by_cases h : nonOw e vs = true ∧ bs.all (fun b => decide (b.1 ∉ vs)) = true
  · rw [if_pos h, if_pos (by rw [h.1, h.2]; rfl)]
  · rw [if_neg h, if_neg (fun z => h (Bool.and_eq_true_iff.mp z))]
theorem lcc_eq (vs : List Nat) (pt : FG) (c f : FE) (items : List D) (bs : Bs) (e : En) : lcc vs pt c f items bs e true = lc2 vs e (lcL bs vs pt c f items (wipeE e vs) []) := id rfl
def dcc (vs : List Nat) (pt : FG) (c fk fv : FE) (items : List D) (bs : Bs) (e : En) (b : Bool) : Option (D × En) := if b then dc2 vs e (dcL bs vs pt c fk fv items (wipeE e vs) []) else none
theorem dc1_go (vs : List Nat) (pt : FG) (c fk fv : FE) (items : List D) (bs : Bs) (e : En) : dc1 vs pt c fk fv (items, bs, e) = dcc vs pt c fk fv items bs e (nonOw e vs && bsV bs vs) := by
  unfold dc1 dcc bsV
  by_cases h : nonOw e vs = true ∧ bs.all (fun b => decide (b.1 ∉ vs)) = true
  · rw [if_pos h, if_pos (by rw [h.1, h.2]; rfl)]
  · rw [if_neg h, if_neg (fun z => h (Bool.and_eq_true_iff.mp z))]
theorem dcc_eq (vs : List Nat) (pt : FG) (c fk fv : FE) (items : List D) (bs : Bs) (e : En) : dcc vs pt c fk fv items bs e true = dc2 vs e (dcL bs vs pt c fk fv items (wipeE e vs) []) := id rfl
def endD (h r : Wd) : D := .obj "Endless" [("begun", .str h), ("round", .str r)]
theorem fld_b (h r : Wd) : fldD "Endless" "begun" (endD h r) = some (.str h) := by rfl
theorem fld_r (h r : Wd) : fldD "Endless" "round" (endD h r) = some (.str r) := by rfl
theorem set_b0 (h : Wd) : setFD "Endless" "begun" (.str h) (.obj "Endless" []) = some (.obj "Endless" [("begun", .str h)]) := by rfl
theorem set_r0 (h r : Wd) : setFD "Endless" "round" (.str r) (.obj "Endless" [("begun", .str h)]) = some (endD h r) := by rfl
theorem set_b1 (h r h' : Wd) : setFD "Endless" "begun" (.str h') (endD h r) = some (endD h' r) := by rfl
theorem set_r1 (h r r' : Wd) : setFD "Endless" "round" (.str r') (endD h r) = some (endD h r') := by rfl
theorem isC_end (h r : Wd) : isC "Endless" (endD h r) = true := by rfl
theorem hasM_settle0 : hasM "Endless" "settle" (.obj "Endless" []) = true := by rfl
theorem hasM_settle (h r : Wd) : hasM "Endless" "settle" (endD h r) = true := by rfl
theorem hasM_head (h r : Wd) : hasM "Endless" "head" (endD h r) = true := by rfl
theorem hasM_ring (h r : Wd) : hasM "Endless" "ring" (endD h r) = true := by rfl
theorem hasM_first (h r : Wd) : hasM "Endless" "first" (endD h r) = true := by rfl
theorem hasM_signs (h r : Wd) : hasM "Endless" "signs" (endD h r) = true := by rfl
theorem hasM_later (h r : Wd) : hasM "Endless" "later" (endD h r) = true := by rfl
theorem hasM_behind (h r : Wd) : hasM "Endless" "behind" (endD h r) = true := by rfl
theorem hasM_below (h r : Wd) : hasM "Endless" "below" (endD h r) = true := by rfl
theorem hasM_under (h r : Wd) : hasM "Endless" "under" (endD h r) = true := by rfl
theorem hasM_begins (h r : Wd) : hasM "Endless" "begins" (endD h r) = true := by rfl
theorem hasM_starts (h r : Wd) : hasM "Endless" "starts" (endD h r) = true := by rfl
theorem hasM_before (h r : Wd) : hasM "Endless" "before" (endD h r) = true := by rfl
/-- the order of rows -/
noncomputable def ltR (x y : Nat → Nat) : Bool := @decide (Lt x y) (Classical.propDecidable _)
theorem ltR_iff {x y : Nat → Nat} : ltR x y = true ↔ Lt x y := by
  unfold ltR
  exact @decide_eq_true_iff _ (Classical.propDecidable _)
/-- noughts and ones alone -/
def bits (x : Wd) : Bool := x.all fun c => decide (c ∈ [48, 49])
theorem bits_iff {x : Wd} : bits x = true ↔ Bin x := by
  unfold bits Bin
  rw [List.all_eq_true]
  constructor
  · intro h c hc
    have := of_decide_eq_true (h c hc)
    simpa using this
  · intro h c hc
    have := h c hc
    exact decide_eq_true (by simpa using this)
end Qd
namespace Qm
open Qd
def app (k : Wd) (s : Nat → Nat) : Nat → Nat := fun i => if i < k.length then k.getD i 0 else s (i - k.length)
def shf (n : Nat) (s : Nat → Nat) : Nat → Nat := fun i => s (i + n)
theorem app_lt {k : Wd} {s : Nat → Nat} {i : Nat} (h : i < k.length) : app k s i = k.getD i 0 := if_pos h
theorem app_ge {k : Wd} {s : Nat → Nat} {i : Nat} (h : k.length ≤ i) : app k s i = s (i - k.length) := if_neg (by omega)
theorem pre_iff {w : Wd} {s : Nat → Nat} : Pre w s ↔ ∀ i, i < w.length → w.getD i 0 = s i := by
  unfold Pre
  constructor
  · intro h i hi
    rw [h, List.getD_eq_getElem?_getD, List.getElem?_eq_getElem (by rw [pre_len]; exact hi), Option.getD_some, pre_get]
  · intro h
    apply List.ext_getElem (by rw [pre_len])
    intro i h1 h2
    rw [pre_get, ← h i h1, List.getD_eq_getElem?_getD, List.getElem?_eq_getElem h1]
    rfl
theorem pre_app (k : Wd) (s : Nat → Nat) : Pre k (app k s) := pre_iff.mpr fun i hi => (app_lt hi).symm
theorem app_shf {w : Wd} {s : Nat → Nat} (h : Pre w s) : app w (shf w.length s) = s := by
  funext i
  by_cases hi : i < w.length
  · rw [app_lt hi, pre_iff.mp h i hi]
  · rw [app_ge (by omega)]
    show s (i - w.length + w.length) = s i
    rw [Nat.sub_add_cancel (by omega)]
theorem shf_app (w : Wd) (s : Nat → Nat) : shf w.length (app w s) = s := by
  funext i
  show app w s (i + w.length) = s i
  rw [app_ge (by omega), Nat.add_sub_cancel]
theorem app_append (u v : Wd) (s : Nat → Nat) : app (u ++ v) s = app u (app v s) := by
  funext i
  by_cases h1 : i < u.length
  · rw [app_lt (by simp; omega), app_lt h1]
    simp [List.getD_eq_getElem?_getD, List.getElem?_append_left h1]
  · rw [app_ge (k := u) (by omega)]
    by_cases h2 : i < u.length + v.length
    · rw [app_lt (by simp; omega), app_lt (by omega)]
      simp [List.getD_eq_getElem?_getD, List.getElem?_append_right (show u.length ≤ i by omega)]
    · rw [app_ge (by simp; omega), app_ge (by omega)]
      congr 1
      simp
      omega
theorem shf_shf (n m : Nat) (s : Nat → Nat) : shf n (shf m s) = shf (n + m) s := by
  funext i
  show s (i + n + m) = s (i + (n + m))
  rw [Nat.add_assoc]
theorem pre_append {u v : Wd} {s : Nat → Nat} : Pre (u ++ v) s ↔ Pre u s ∧ Pre v (shf u.length s) := by
  constructor
  · intro h
    have hs := app_shf h
    rw [app_append] at hs
    have h1 : Pre u s := by
      rw [← hs]
      exact pre_app _ _
    refine ⟨h1, ?_⟩
    rw [← hs, shf_app]
    exact pre_app _ _
  · rintro ⟨h1, h2⟩
    rw [← app_shf h1, ← app_shf h2, ← app_append]
    exact pre_app _ _
theorem bi_shf {s : Nat → Nat} (h : Bi s) (n : Nat) : Bi (shf n s) := fun i => h (i + n)
theorem bi_app {w : Wd} {s : Nat → Nat} (hw : Bin w) (h : Bi s) : Bi (app w s) := fun i => by
  by_cases hi : i < w.length
  · rw [app_lt hi, List.getD_eq_getElem?_getD, List.getElem?_eq_getElem hi]
    exact hw _ (List.getElem_mem hi)
  · rw [app_ge (by omega)]
    exact h _
/-- two heads ahead of all rows alike are one -/
theorem app_inj {v w : Wd} (hv : v.length ≤ w.length) (h : ∀ s, Bi s → app v s = app w s) : v = w := by
  have key : v.length = w.length := by
    rcases Nat.lt_or_ge v.length w.length with hl | hl
    · exfalso
      have e0 := congrFun (h (fun _ => 48) (fun _ => .inl rfl)) v.length
      have e1 := congrFun (h (fun _ => 49) (fun _ => .inr rfl)) v.length
      rw [app_ge (Nat.le_refl _), app_lt hl] at e0 e1
      omega
    · omega
  apply List.ext_getElem key
  intro i h1 h2
  have e := congrFun (h (fun _ => 48) (fun _ => .inl rfl)) i
  rw [app_lt h1, app_lt h2] at e
  simpa [List.getD_eq_getElem?_getD, h1, h2] using e
abbrev Rw := Wd × Wd
abbrev hds (T : List Rw) : List Wd := T.map (·.1)
abbrev oth (T : List Rw) : List Wd := T.map (·.2)
/-- a table leads a row to a row -/
def Mv (T : List Rw) (s t : Nat → Nat) : Prop := ∃ p ∈ T, Pre p.1 s ∧ t = app p.2 (shf p.1.length s)
/-- all under w goes to v, sign by sign behind it -/
def Sg (T : List Rw) (w v : Wd) : Prop := ∀ s, Bi s → Pre w s → Mv T s (app v (shf w.length s))
def RedT (T : List Rw) : Prop := ∀ u v : Wd, ¬ ((u ++ [48], v ++ [48]) ∈ T ∧ (u ++ [49], v ++ [49]) ∈ T)
theorem anti_one {T : List Rw} (nd : (hds T).Nodup) (ha : Anti (hds T)) {p q : Rw} (hp : p ∈ T) (hq : q ∈ T) {s : Nat → Nat} (h1 : Pre p.1 s) (h2 : Pre q.1 s) : p = q := by
  have mp : p.1 ∈ hds T := List.mem_map.mpr ⟨p, hp, rfl⟩
  have mq : q.1 ∈ hds T := List.mem_map.mpr ⟨q, hq, rfl⟩
  have e : p.1 = q.1 := by
    rcases Nat.le_total p.1.length q.1.length with hl | hl
    · exact ha _ mp _ mq (h1.le h2 hl)
    · exact (ha _ mq _ mp (h2.le h1 hl)).symm
  clear h1 h2 mp mq ha
  induction T with
  | nil => cases hp
  | cons r T ih =>
    obtain ⟨n1, n2⟩ := List.nodup_cons.mp nd
    rcases List.mem_cons.mp hp with ep | hp'
    · rcases List.mem_cons.mp hq with eq | hq'
      · rw [ep, eq]
      · exact absurd (show r.1 ∈ List.map (fun x => x.1) T from List.mem_map.mpr ⟨q, hq', by rw [← e, ep]⟩) n1
    · rcases List.mem_cons.mp hq with eq | hq'
      · exact absurd (show r.1 ∈ List.map (fun x => x.1) T from List.mem_map.mpr ⟨p, hp', by rw [e, eq]⟩) n1
      · exact ih n2 hp' hq'
theorem sg_of {T : List Rw} {p : Rw} (hp : p ∈ T) (x : Wd) : Sg T (p.1 ++ x) (p.2 ++ x) := fun s hs h => by
  obtain ⟨h1, h2⟩ := pre_append.mp h
  refine ⟨p, hp, h1, ?_⟩
  rw [app_append]
  congr 1
  rw [List.length_append, Nat.add_comm, ← shf_shf]
  exact app_shf h2
theorem sg_snoc {T : List Rw} {w v : Wd} {c : Nat} (h : Sg T w v) : Sg T (w ++ [c]) (v ++ [c]) := fun s hs hp => by
  obtain ⟨h1, h2⟩ := pre_append.mp hp
  have := h s hs h1
  rw [app_append]
  have e : app [c] (shf (w ++ [c]).length s) = shf w.length s := by
    rw [List.length_append, Nat.add_comm, ← shf_shf]
    exact app_shf h2
  rw [e]
  exact this
theorem sg_hit {T : List Rw} (nd : (hds T).Nodup) (ha : Anti (hds T)) {p : Rw} (hp : p ∈ T) {x v : Wd} (hb : Bin (p.1 ++ x)) (h : Sg T (p.1 ++ x) v) : v = p.2 ++ x := by
  have key : ∀ s, Bi s → app v s = app (p.2 ++ x) s := fun s hs => by
    have hb2 : Bi (app (p.1 ++ x) s) := bi_app hb hs
    obtain ⟨q, hq, h1, h2⟩ := h (app (p.1 ++ x) s) hb2 (pre_app _ _)
    have h3 : Pre p.1 (app (p.1 ++ x) s) := (pre_append.mp (pre_app (p.1 ++ x) s)).1
    have e := anti_one nd ha hq hp h1 h3
    subst e
    rw [shf_app] at h2
    rw [h2, app_append, app_append, shf_app]
  rcases Nat.le_total v.length (p.2 ++ x).length with hl | hl
  · exact app_inj hl key
  · exact (app_inj hl fun s hs => (key s hs).symm).symm
theorem sg_pre {T : List Rw} (nd : (hds T).Nodup) (ha : Anti (hds T)) (hr : RedT T) (L : Nat) (hL : ∀ p ∈ T, p.1.length ≤ L) : ∀ n (w v : Wd), L ≤ w.length + n → Bin w → Sg T w v → ∃ p ∈ T, ∃ x, w = p.1 ++ x ∧ v = p.2 ++ x := by
  intro n
  induction n with
  | zero =>
    intro w v hl hb h
    obtain ⟨q, hq, h1, h2⟩ := h (app w fun _ => 48) (bi_app hb fun _ => .inl rfl) (pre_app _ _)
    obtain ⟨x, hx⟩ : q.1 <+: w := h1.le (pre_app _ _) (by have := hL q hq; omega)
    refine ⟨q, hq, x, hx.symm, ?_⟩
    rw [← hx] at h hb
    exact sg_hit nd ha hq hb h
  | succ n ih =>
    intro w v hl hb h
    by_cases c : ∃ p ∈ T, p.1 <+: w
    · obtain ⟨q, hq, x, hx⟩ := c
      refine ⟨q, hq, x, hx.symm, ?_⟩
      rw [← hx] at h hb
      exact sg_hit nd ha hq hb h
    · exfalso
      have go : ∀ c, (c = 48 ∨ c = 49) → (w ++ [c], v ++ [c]) ∈ T := fun c0 hc => by
        obtain ⟨p, hp, x, e1, e2⟩ := ih (w ++ [c0]) (v ++ [c0]) (by simp; omega) (Qm.Bin.snoc hb hc) (sg_snoc h)
        rcases List.eq_nil_or_concat x with z | ⟨y, d, z⟩
        · rw [z, List.append_nil] at e1 e2
          rw [e1, e2]
          exact hp
        · rw [z, List.concat_eq_append, ← List.append_assoc] at e1
          have := (List.append_inj' e1 rfl).1
          exact absurd ⟨p, hp, y, this.symm⟩ c
      exact hr w v ⟨go 48 (.inl rfl), go 49 (.inr rfl)⟩
theorem mem_sg {T : List Rw} (nd : (hds T).Nodup) (hb : ∀ p ∈ T, Bin p.1) (ha : Anti (hds T)) (hr : RedT T) (w v : Wd) : (w, v) ∈ T ↔ Bin w ∧ Sg T w v ∧ ∀ w' v' x, w = w' ++ x → v = v' ++ x → Sg T w' v' → x = [] := by
  obtain ⟨L, hL⟩ := exists_bound (hds T)
  have hL : ∀ p ∈ T, p.1.length ≤ L := fun p hp => hL _ (List.mem_map.mpr ⟨p, hp, rfl⟩)
  constructor
  · intro h
    refine ⟨hb _ h, ?_, fun w' v' x e1 e2 hs => ?_⟩
    · have := sg_of h []
      simpa using this
    · have bw : Bin w' := Qm.Bin.left (show Bin (w' ++ x) from e1 ▸ hb _ h)
      obtain ⟨p, hp, y, e3, e4⟩ := sg_pre nd ha hr L hL L w' v' (by omega) bw hs
      have : p.1 = w := ha _ (List.mem_map.mpr ⟨p, hp, rfl⟩) _ (List.mem_map.mpr ⟨_, h, rfl⟩) ⟨y ++ x, by rw [e1, e3, List.append_assoc]⟩
      have hl := congrArg List.length e1
      have hl2 := congrArg List.length e3
      have hl3 := congrArg List.length this
      simp at hl hl2
      exact List.eq_nil_of_length_eq_zero (by omega)
  · rintro ⟨h1, h2, h3⟩
    obtain ⟨p, hp, x, e1, e2⟩ := sg_pre nd ha hr L hL L w v (by omega) h1 h2
    have hx := h3 p.1 p.2 x e1 e2 (by simpa using sg_of hp [])
    subst hx
    rw [List.append_nil] at e1 e2
    rw [e1, e2]
    exact hp
theorem uniqT {S T : List Rw} (n1 : (hds S).Nodup) (n2 : (hds T).Nodup) (b1 : ∀ p ∈ S, Bin p.1) (b2 : ∀ p ∈ T, Bin p.1) (a1 : Anti (hds S)) (a2 : Anti (hds T)) (r1 : RedT S) (r2 : RedT T) (h : ∀ s t, Bi s → (Mv S s t ↔ Mv T s t)) (p : Rw) : p ∈ S ↔ p ∈ T := by
  have e : ∀ w v, Sg S w v ↔ Sg T w v := fun w v => ⟨fun q s hs hp => (h _ _ hs).mp (q s hs hp), fun q s hs hp => (h _ _ hs).mpr (q s hs hp)⟩
  obtain ⟨w, v⟩ := p
  rw [mem_sg n1 b1 a1 r1, mem_sg n2 b2 a2 r2]
  simp only [e]
structure Tb (n : Nat) (T : List Rw) : Prop where
  hd : Hd n (hds T)
  cov : ∀ s, Bi s → Cov (hds T) s
/-- S is T told by other rows -/
structure Te (T S : List Rw) : Prop where
  nd : (hds S).Nodup
  bin : ∀ p ∈ S, Bin p.1
  anti : Anti (hds S)
  mv : ∀ s t, Bi s → (Mv S s t ↔ Mv T s t)
theorem Te.refl {n : Nat} {T : List Rw} (h : Hd n (hds T)) : Te T T := ⟨h.nd, fun p hp => h.bin _ (List.mem_map.mpr ⟨p, hp, rfl⟩), h.anti, fun _ _ _ => Iff.rfl⟩
theorem Te.perm {T S R : List Rw} (h : Te T S) (p : R.Perm S) : Te T R := by
  have pm : (hds R).Perm (hds S) := p.map _
  refine ⟨pm.nodup_iff.mpr h.nd, fun q hq => h.bin q (p.mem_iff.mp hq), fun v hv w hw => h.anti v (pm.mem_iff.mp hv) w (pm.mem_iff.mp hw), fun s t hs => ?_⟩
  rw [← h.mv s t hs]
  constructor
  · exact fun ⟨q, a, b⟩ => ⟨q, p.mem_iff.mp a, b⟩
  · exact fun ⟨q, a, b⟩ => ⟨q, p.mem_iff.mpr a, b⟩
theorem Te.trans {A B C : List Rw} (h1 : Te A B) (h2 : Te B C) : Te A C := ⟨h2.nd, h2.bin, h2.anti, fun s t hs => (h2.mv s t hs).trans (h1.mv s t hs)⟩
theorem Te.fin {T T' S S' : List Rw} (h : Te T S) (h' : Te T' S') (r : RedT S) (r' : RedT S') (e : ∀ s t, Bi s → (Mv T s t ↔ Mv T' s t)) (p : Rw) : p ∈ S ↔ p ∈ S' :=
  uniqT h.nd h'.nd h.bin h'.bin h.anti h'.anti r r' (fun s t hs => (h.mv s t hs).trans ((e s t hs).trans (h'.mv s t hs).symm)) p
/-- two rows joined -/
theorem Te.join {T S R : List Rw} {u v : Wd} (h : Te T S) (h0 : (u ++ [48], v ++ [48]) ∈ S) (h1 : (u ++ [49], v ++ [49]) ∈ S) (nd : (hds R).Nodup) (hR : ∀ p, p ∈ R ↔ p = (u, v) ∨ (p ∈ S ∧ p ≠ (u ++ [48], v ++ [48]) ∧ p ≠ (u ++ [49], v ++ [49]))) : Te T R := by
  have m0 : u ++ [48] ∈ hds S := List.mem_map.mpr ⟨_, h0, rfl⟩
  have m1 : u ++ [49] ∈ hds S := List.mem_map.mpr ⟨_, h1, rfl⟩
  have bu : Bin u := Qm.Bin.left (h.bin _ h0)
  have one : ∀ p ∈ S, p.1 = u ++ [48] → p = (u ++ [48], v ++ [48]) := fun p hp e => anti_one h.nd h.anti hp h0 (s := app (u ++ [48]) fun _ => 48) (by rw [e]; exact pre_app _ _) (pre_app _ _)
  have two : ∀ p ∈ S, p.1 = u ++ [49] → p = (u ++ [49], v ++ [49]) := fun p hp e => anti_one h.nd h.anti hp h1 (s := app (u ++ [49]) fun _ => 48) (by rw [e]; exact pre_app _ _) (pre_app _ _)
  have mem : ∀ x, x ∈ hds R ↔ x = u ∨ (x ∈ hds S ∧ x ≠ u ++ [48] ∧ x ≠ u ++ [49]) := fun x => by
    constructor
    · intro hx
      obtain ⟨p, hp, rfl⟩ := List.mem_map.mp hx
      rcases (hR p).mp hp with e | ⟨a, b, c⟩
      · rw [e]
        exact .inl rfl
      · exact .inr ⟨List.mem_map.mpr ⟨p, a, rfl⟩, fun e => b (one p a e), fun e => c (two p a e)⟩
    · rintro (rfl | ⟨a, b, c⟩)
      · exact List.mem_map.mpr ⟨(x, v), (hR _).mpr (.inl rfl), rfl⟩
      · obtain ⟨p, hp, rfl⟩ := List.mem_map.mp a
        exact List.mem_map.mpr ⟨p, (hR _).mpr (.inr ⟨hp, fun e => b (by rw [e]), fun e => c (by rw [e])⟩), rfl⟩
  obtain ⟨L, hL⟩ := exists_bound (hds S)
  have HS : Hd L (hds S) := ⟨h.nd, fun w hw => by
    obtain ⟨p, hp, rfl⟩ := List.mem_map.mp hw
    exact h.bin p hp, h.anti, hL⟩
  have HR := HS.join m0 m1 nd mem
  refine ⟨nd, fun p hp => HR.bin _ (List.mem_map.mpr ⟨p, hp, rfl⟩), HR.anti, fun s t hs => ?_⟩
  rw [← h.mv s t hs]
  constructor
  · rintro ⟨p, hp, a, b⟩
    rcases (hR p).mp hp with e | ⟨c, _, _⟩
    · subst e
      have a : Pre u s := a
      have b : t = app v (shf u.length s) := b
      have hc := hs u.length
      rcases hc with hc | hc
      · have hp0 : Pre (u ++ [48]) s := Pre.snoc.mpr ⟨a, hc.symm⟩
        refine ⟨_, h0, hp0, ?_⟩
        rw [b, app_append]
        congr 1
        have h2 := (pre_append.mp hp0).2
        show _ = app [48] (shf (u ++ [48]).length s)
        rw [List.length_append, Nat.add_comm, ← shf_shf]
        exact (app_shf h2).symm
      · have hp0 : Pre (u ++ [49]) s := Pre.snoc.mpr ⟨a, hc.symm⟩
        refine ⟨_, h1, hp0, ?_⟩
        rw [b, app_append]
        congr 1
        have h2 := (pre_append.mp hp0).2
        show _ = app [49] (shf (u ++ [49]).length s)
        rw [List.length_append, Nat.add_comm, ← shf_shf]
        exact (app_shf h2).symm
    · exact ⟨p, c, a, b⟩
  · rintro ⟨p, hp, a, b⟩
    by_cases e0 : p = (u ++ [48], v ++ [48])
    · subst e0
      refine ⟨(u, v), (hR _).mpr (.inl rfl), (pre_append.mp a).1, ?_⟩
      rw [b]
      show app (v ++ [48]) _ = app v _
      rw [app_append]
      congr 1
      show app [48] (shf (u ++ [48]).length s) = _
      rw [List.length_append, Nat.add_comm, ← shf_shf]
      exact app_shf (pre_append.mp a).2
    · by_cases e1 : p = (u ++ [49], v ++ [49])
      · subst e1
        refine ⟨(u, v), (hR _).mpr (.inl rfl), (pre_append.mp a).1, ?_⟩
        rw [b]
        show app (v ++ [49]) _ = app v _
        rw [app_append]
        congr 1
        show app [49] (shf (u ++ [49]).length s) = _
        rw [List.length_append, Nat.add_comm, ← shf_shf]
        exact app_shf (pre_append.mp a).2
      · exact ⟨p, (hR p).mpr (.inr ⟨hp, e0, e1⟩), a, b⟩
end Qm
namespace Qd
open PySem PySem.Spec L2 Qm
theorem eLk_run (i : Nat) (f : FE) (env : En) (kvs : List (Ky × D)) (d : D) (h0 : env[i]? = some (some (.sh, .dic kvs))) (h1 : othOk i env = true) (h2 : noDicK kvs = true) (hf : f (env.set i (some (.sh, .fdic kvs))) = some (d, env.set i (some (.sh, .fdic kvs)))) (hd : noDic d = true) : eLk i f env = some (d, env) := by
  have hi : i < env.length := (List.getElem?_eq_some_iff.mp h0).1
  have g : (env.set i (some (Kd.sh, D.fdic kvs)))[i]? = some (some (.sh, .fdic kvs)) := List.getElem?_set_self hi
  have h3 : othOk i (env.set i (some (Kd.sh, D.fdic kvs))) = true := by
    unfold othOk at h1 ⊢
    rw [List.set_set]
    exact h1
  have e : (env.set i (some (Kd.sh, D.fdic kvs))).set i (some (.sh, .dic kvs)) = env := by
    rw [List.set_set]
    apply List.ext_getElem?
    intro j
    by_cases hj : j = i
    · subst hj
      rw [List.getElem?_set_self hi, h0]
    · rw [List.getElem?_set_ne (Ne.symm hj)]
  unfold eLk
  simp only [h0, h1, h2, Bool.and_self, if_true, hf, Option.bind_some, g, beqKs_refl, h3, hd, e]
def ik0 : D × En → Option (List D × Bs × En)
  | (.fdic kvs, e) => some (kvs.map keyD, [], e)
  | _ => none
theorem iK_eq (fe : FE) (env : En) : iK fe env = (fe env).bind ik0 := by
  unfold iK
  cases fe env with
  | none => rfl
  | some p =>
    obtain ⟨d, e⟩ := p
    cases d <;> rfl
theorem ik0_eq (kvs : List (Ky × D)) (e : En) : ik0 (.fdic kvs, e) = some (kvs.map keyD, [], e) := id rfl
theorem keyD_keys (xs : List (List Nat)) : (keysD xs).map keyD = xs.map D.str := by
  unfold keysD
  rw [List.map_map]
  rfl
def ge3 (ky : Ky) (z : D) (e : En) : Option (Option Sl) → Option (D × En)
  | some (some (_, .dic kvs)) => some ((valD kvs ky).getD z, e)
  | _ => none
def ge2 (i : Nat) (ky : Ky) (p : D × En) : Option (D × En) := ge3 ky p.1 p.2 p.2[i]?
def ge1 (i : Nat) (fz : FE) (p : D × En) : Option (D × En) := (kyOf p.1).bind fun ky => (fz p.2).bind (ge2 i ky)
def ge0 (i : Nat) (fk fz : FE) (env : En) : Option (Option Sl) → Option (D × En)
  | some (some (_, .dic _)) => (fk env).bind (ge1 i fz)
  | _ => none
theorem eGet2_eq (i : Nat) (fk fz : FE) (env : En) : eGet2 i fk fz env = ge0 i fk fz env env[i]? := by
  unfold eGet2
  cases env[i]? with
  | none => rfl
  | some z =>
    cases z with
    | none => rfl
    | some kd =>
      obtain ⟨k, d⟩ := kd
      cases d <;> first | rfl | skip
theorem ge0_eq (i : Nat) (fk fz : FE) (env : En) (k : Kd) (kvs : List (Ky × D)) : ge0 i fk fz env (some (some (k, .dic kvs))) = (fk env).bind (ge1 i fz) := id rfl
theorem ge1_s (i : Nat) (fz : FE) (x : List Nat) (e : En) : ge1 i fz (.str x, e) = (fz e).bind (ge2 i (.s x)) := id rfl
theorem ge2_eq (i : Nat) (ky : Ky) (z : D) (e : En) : ge2 i ky (z, e) = ge3 ky z e e[i]? := id rfl
theorem ge3_eq (ky : Ky) (z : D) (e : En) (k : Kd) (kvs : List (Ky × D)) : ge3 ky z e (some (some (k, .dic kvs))) = some ((valD kvs ky).getD z, e) := id rfl
def lm2 (e : En) : Option Res → Option (D × En)
  | some (.ok false (.int n) _) => if 0 ≤ n ∧ n < 1000000000 then some (.int n, e) else none
  | _ => none
def lm1 (g : FN) (d : D) (e : En) (b : Bool) : Option (D × En) := if b then lm2 e (g [d]) else none
def lm0 (c : Str) (g : FN) (p : D × En) : Option (D × En) := lm1 g p.1 p.2 (isC c p.1)
theorem eLenM_eq (c : Str) (g : FN) (fe : FE) (env : En) : eLenM c g fe env = (fe env).bind (lm0 c g) := by
  unfold eLenM
  cases fe env with
  | none => rfl
  | some p =>
    obtain ⟨d, e⟩ := p
    simp only [Option.bind_some, lm0, lm1]
    cases d <;> first | rfl | skip
    rename_i c1 fs
    simp only
    by_cases h : c1 = c
    · rw [if_pos h, if_pos (isC_iff.mpr h)]
      cases g [D.obj c1 fs] with
      | none => rfl
      | some r =>
        obtain ⟨own, d, outs⟩ := r
        cases own <;> cases d <;> rfl
    · rw [if_neg h, if_neg fun z => h (isC_iff.mp z)]
theorem lm0_eq (c : Str) (g : FN) (d : D) (e : En) : lm0 c g (d, e) = lm1 g d e (isC c d) := id rfl
theorem lm1_eq (g : FN) (d : D) (e : En) : lm1 g d e true = lm2 e (g [d]) := id rfl
theorem lm2_eq (e : En) (n : Nat) (o : List D) (h : n < 1000000000) : lm2 e (some (.ok false (.int (n : Int)) o)) = some (.int (n : Int), e) := by
  simp only [lm2]
  rw [if_pos ⟨by omega, by omega⟩]
theorem new0_1 (c : Str) (a : D) (g : FN) (env : En) : eNew0 c [.sh] [a] g env = nw2 env (g [.obj c [], a]) := by
  unfold eNew0
  rw [if_pos ⟨rfl, rfl⟩]
  cases g [D.obj c [], a] with
  | none => rfl
  | some r =>
    obtain ⟨own, d, outs⟩ := r
    cases own <;> cases d <;> cases outs <;> rfl
def parC (b : Bool) (o : Out) : Option Out := if b then some o else none
theorem parC_t (o : Out) : parC true o = some o := id rfl
theorem par2_go (i j : Nat) (e : En) (d1 d2 : D) : par2 i j e [d1, d2] = parC (okk e[i]? && okk e[j]?) (.nx ((e.set i (some (.sh, d1))).set j (some (.sh, d2)))) := by
  rw [← okSet_eq, ← okSet_eq]
  rfl
def par0 (i j : Nat) (p : List Ov × En) : Option Out := (allD p.1).bind (par2 i j p.2)
theorem sPar_eq (i j : Nat) (fa : FA) (env : En) : sPar i j fa env = (fa env).bind (par0 i j) := id rfl
theorem par0_eq (i j : Nat) (os : List Ov) (e : En) : par0 i j (os, e) = (allD os).bind (par2 i j e) := id rfl
def lt2 (o : Ov) (e : En) : Option D → Option (List D × Bs × En)
  | some (.lst ds) => some (ds, bOf o (.lst ds), e)
  | some (.tup ds) => some (ds, bOf o (.tup ds), e)
  | _ => none
def lt1 (p : Ov × En) : Option (List D × Bs × En) := lt2 p.1 p.2 (fetch p.2 p.1)
theorem iLT_eq (fo : FO) (env : En) : iLT fo env = (fo env).bind lt1 := by
  unfold iLT
  cases fo env with
  | none => rfl
  | some p =>
    simp only [Option.bind_some, lt1]
    cases fetch p.2 p.1 with
    | none => rfl
    | some d => cases d <;> rfl
theorem lt1_eq (o : Ov) (e : En) : lt1 (o, e) = lt2 o e (fetch e o) := id rfl
theorem lt2_l (o : Ov) (e : En) (ds : List D) : lt2 o e (some (.lst ds)) = some (ds, bOf o (.lst ds), e) := id rfl
theorem lt2_t (o : Ov) (e : En) (ds : List D) : lt2 o e (some (.tup ds)) = some (ds, bOf o (.tup ds), e) := id rfl
abbrev rowD (p : Rw) : D := .tup [.str p.1, .str p.2]
abbrev rowsD (T : List Rw) : D := .lst (T.map rowD)
def tD (T : List Rw) : List (Ky × D) := T.map fun p => (Ky.s p.1, D.str p.2)
def swD (T : List Rw) : D := .obj "Swap" [("kept", rowsD T)]
theorem fld_k (T : List Rw) : fldD "Swap" "kept" (swD T) = some (rowsD T) := by rfl
theorem set_k0 (v : D) : setFD "Swap" "kept" v (.obj "Swap" []) = some (.obj "Swap" [("kept", v)]) := by rfl
theorem set_k1 (T : List Rw) (v : D) : setFD "Swap" "kept" v (swD T) = some (.obj "Swap" [("kept", v)]) := by rfl
theorem isC_sw (T : List Rw) : isC "Swap" (swD T) = true := by rfl
theorem hasW_rows (T : List Rw) : hasM "Swap" "rows" (swD T) = true := by rfl
theorem hasW_of (T : List Rw) : hasM "Swap" "of" (swD T) = true := by rfl
theorem hasW_leads (T : List Rw) : hasM "Swap" "leads" (swD T) = true := by rfl
theorem hasW_then (T : List Rw) : hasM "Swap" "then" (swD T) = true := by rfl
theorem hasW_back (T : List Rw) : hasM "Swap" "back" (swD T) = true := by rfl
theorem hasW_power (T : List Rw) : hasM "Swap" "power" (swD T) = true := by rfl
theorem hasW_seen (T : List Rw) : hasM "Swap" "seen" (swD T) = true := by rfl
theorem hasW_within (T : List Rw) : hasM "Swap" "within" (swD T) = true := by rfl
theorem hasW_fixed (T : List Rw) : hasM "Swap" "fixed" (swD T) = true := by rfl
theorem hasW_parted (T : List Rw) : hasM "Swap" "parted" (swD T) = true := by rfl
theorem tD_len (T : List Rw) : (tD T).length = T.length := by simp [tD]
theorem valD_tD (x : List Nat) : ∀ T : List Rw, valD (tD T) (.s x) = (T.lookup x).map D.str
  | [] => rfl
  | p :: T => by
    obtain ⟨a, b⟩ := p
    by_cases h : a = x
    · subst h
      simp [valD, tD, List.find?_cons, List.lookup_cons]
    · have h2 : ¬ x = a := fun e => h e.symm
      have ih := valD_tD x T
      simp only [valD, tD, List.map_cons, List.find?_cons, List.lookup_cons] at ih ⊢
      rw [show decide (Ky.s a = Ky.s x) = false from decide_eq_false fun z => h (Ky.s.inj z), show (x == a) = false from beq_eq_false_iff_ne.mpr h2]
      exact ih
theorem lookup_mem {x : List Nat} : ∀ {T : List Rw}, (hds T).Nodup → ∀ {y : List Nat}, (x, y) ∈ T → T.lookup x = some y
  | [], _, _, h => by cases h
  | p :: T, nd, y, h => by
    obtain ⟨n1, n2⟩ := List.nodup_cons.mp nd
    rcases List.mem_cons.mp h with e | h'
    · rw [← e]
      simp [List.lookup_cons]
    · have : x ≠ p.1 := fun e => n1 (List.mem_map.mpr ⟨_, h', e⟩)
      obtain ⟨a, b⟩ := p
      rw [List.lookup_cons, show (x == a) = false from beq_eq_false_iff_ne.mpr this]
      exact lookup_mem n2 h'
theorem lookup_none {x : List Nat} : ∀ {T : List Rw}, x ∉ hds T → T.lookup x = none
  | [], _ => rfl
  | p :: T, h => by
    obtain ⟨a, b⟩ := p
    have h1 : x ≠ a := fun e => h (by simp [e])
    rw [List.lookup_cons, show (x == a) = false from beq_eq_false_iff_ne.mpr h1]
    exact lookup_none fun z => h (List.mem_cons_of_mem _ z)
theorem inD_tD (x : List Nat) (T : List Rw) : inD (.str x) (.dic (tD T)) = some (.bl (decide (x ∈ hds T))) := by
  have e : inD (.str x) (.dic (tD T)) = some (.bl (valD (tD T) (.s x)).isSome) := by
    cases x with
    | nil => rfl
    | cons c r => cases r <;> rfl
  rw [e, valD_tD]
  congr 2
  by_cases h : x ∈ hds T
  · rw [decide_eq_true h]
    clear e
    induction T with
    | nil => cases h
    | cons p T ih =>
      obtain ⟨a, b⟩ := p
      rw [List.lookup_cons]
      by_cases hx : x = a
      · simp [hx]
      · rw [show (x == a) = false from beq_eq_false_iff_ne.mpr hx]
        rcases List.mem_cons.mp h with z | z
        · exact absurd z hx
        · exact ih z
  · rw [decide_eq_false h, lookup_none h]
    rfl
theorem getD_tD {x y : List Nat} {T : List Rw} (nd : (hds T).Nodup) (h : (x, y) ∈ T) : getD' (.dic (tD T)) (.str x) = some (.str y) := by
  show ((kyOf (.str x)).bind fun k => valD (tD T) k) = _
  show valD (tD T) (.s x) = _
  rw [valD_tD, lookup_mem nd h]
  rfl
theorem dropD_tD (x : List Nat) (T : List Rw) : dropD (tD T) (.s x) = tD (T.filter fun p => decide (p.1 ≠ x)) := by
  unfold dropD tD
  rw [List.filter_map]
  congr 1
  apply List.filter_congr
  intro p _
  simp
theorem putD_tD (x y : List Nat) (T : List Rw) (h : x ∉ hds T) : putD (tD T) (.s x) (.str y) = tD (T ++ [(x, y)]) := by
  unfold putD
  rw [if_neg]
  · simp [tD]
  · intro z
    obtain ⟨kv, h1, h2⟩ := List.any_eq_true.mp z
    obtain ⟨p, hp, rfl⟩ := List.mem_map.mp h1
    have := Ky.s.inj (of_decide_eq_true h2)
    exact h (List.mem_map.mpr ⟨p, hp, this⟩)
theorem listD_tD (T : List Rw) : listD [.dic (tD T)] = some (.lst ((hds T).map D.str)) := by
  show some (D.lst ((tD T).map fun kv => match kv.1 with | .i n => D.int n | .s x => D.str x)) = _
  unfold tD
  rw [List.map_map, List.map_map]
  rfl
theorem kvsD_rows : ∀ T : List Rw, kvsD (T.map rowD) = some (tD T)
  | [] => rfl
  | p :: T => by
    show (kvD (rowD p)).bind (fun q => (kvsD (T.map rowD)).map fun ps => q :: ps) = _
    rw [kvsD_rows T]
    rfl
theorem mergeD_tD : ∀ (T A : List Rw), (hds (A ++ T)).Nodup → mergeD (tD A) (tD T) = tD (A ++ T)
  | [], A, _ => by simp [mergeD, tD]
  | p :: T, A, nd => by
    have hp : p.1 ∉ hds A := fun h => by
      rw [hds, List.map_append, List.nodup_append] at nd
      exact nd.2.2 _ h _ (by simp) rfl
    show mergeD (putD (tD A) (.s p.1) (.str p.2)) (tD T) = _
    rw [putD_tD _ _ _ hp, mergeD_tD T (A ++ [(p.1, p.2)]) (by simpa using nd)]
    simp
theorem dictD_rows (T : List Rw) (nd : (hds T).Nodup) : dictD [rowsD T] = some (.dic (tD T)) := by
  show (kvsD (T.map rowD)).map (fun ps => D.dic (mergeD [] ps)) = _
  rw [kvsD_rows]
  have := mergeD_tD T [] (by simpa using nd)
  show some (D.dic (mergeD [] (tD T))) = _
  rw [show mergeD [] (tD T) = tD T from this]
theorem dcL_rows {bs : Bs} {vs : List Nat} {pt : FG} {c fk fv : FE} {e : En} (hc : chkB false e bs = true) : ∀ (T A : List Rw), A.length + T.length ≤ 1000000 → (hds (A ++ T)).Nodup →
    (∀ p ∈ T, ∃ e1, pt e (rowD p) = some e1 ∧ c e1 = some (.bl true, e1) ∧ fk e1 = some (.str p.1, e1) ∧ fv e1 = some (.str p.2, e1) ∧ wipeE e1 vs = e) → dcL bs vs pt c fk fv (T.map rowD) e (tD A) = some (tD (A ++ T), e)
  | [], A, _, _, _ => by
    unfold dcL
    simp [hc]
  | p :: T, A, hl, nd, h => by
    obtain ⟨e1, q1, q2, q3, q4, q5⟩ := h p (by simp)
    have hp : p.1 ∉ hds A := fun h => by
      rw [hds, List.map_append, List.nodup_append] at nd
      exact nd.2.2 _ h _ (by simp) rfl
    simp only [List.map_cons]
    unfold dcL
    rw [if_pos hc, q1, Option.bind_some, q2, Option.bind_some]
    simp only [q3, q4, Option.bind_some, kyOf]
    rw [if_pos (by rw [tD_len]; simp at hl; exact Nat.lt_of_lt_of_le (show A.length < 1000000 by omega) (by decide)), q5, putD_tD _ _ _ hp, dcL_rows hc T (A ++ [(p.1, p.2)]) (by simp at hl ⊢; omega) (by simpa using nd) fun q hq => h q (by simp [hq])]
    simp
end Qd
namespace Qm
open Qd
/-- how many heads are below t -/
def cnt (S : List Wd) (t : Wd) : Nat := (S.filter (t.isPrefixOf ·)).length
/-- no head ahead of t -/
def Fr (S : List Wd) (t : Wd) : Prop := Bin t ∧ ∀ w ∈ S, w <+: t → w = t
theorem ipf {t h : Wd} : t.isPrefixOf h = true ↔ t <+: h := List.isPrefixOf_iff_prefix
theorem cnt_mem {n : Nat} {S : List Wd} (h : Ct n S) {t : Wd} (ht : t ∈ S) : cnt S t = 1 := by
  have : S.filter (fun h => t.isPrefixOf h) = S.filter (fun h => decide (h = t)) := List.filter_congr fun w hw => by
    rw [Bool.eq_iff_iff, ipf, decide_eq_true_iff]
    constructor
    · exact fun z => (h.hd.anti t ht w hw z).symm
    · intro z
      rw [z]
      exact List.prefix_refl _
  unfold cnt
  rw [this]
  have nd := h.hd.nd
  clear this h
  induction S with
  | nil => cases ht
  | cons a S ih =>
    obtain ⟨n1, n2⟩ := List.nodup_cons.mp nd
    by_cases e : a = t
    · subst e
      rw [List.filter_cons_of_pos (by simp), List.length_cons]
      have : S.filter (fun h => decide (h = a)) = [] := List.filter_eq_nil_iff.mpr fun w hw z => n1 (by have := of_decide_eq_true z; rw [← this]; exact hw)
      rw [this]
      rfl
    · rw [List.filter_cons_of_neg (by simpa using e)]
      rcases List.mem_cons.mp ht with z | z
      · exact absurd z.symm e
      · exact ih z n2
theorem cnt_pos {n : Nat} {S : List Wd} (h : Ct n S) {t : Wd} (ht : Fr S t) : 0 < cnt S t := by
  obtain ⟨w, hw, hp⟩ := h.cov (app t fun _ => 48) (bi_app ht.1 fun _ => .inl rfl)
  have hm : w ∈ S.filter fun h => t.isPrefixOf h := by
    refine List.mem_filter.mpr ⟨hw, ipf.mpr ?_⟩
    rcases Nat.le_total t.length w.length with hl | hl
    · exact (pre_app t _).le hp hl
    · rw [ht.2 w hw (hp.le (pre_app t _) hl)]
      exact List.prefix_refl _
  exact List.length_pos_of_mem hm
theorem fr_snoc {S : List Wd} {t : Wd} {c : Nat} (ht : Fr S t) (hn : t ∉ S) (hc : c = 48 ∨ c = 49) : Fr S (t ++ [c]) := by
  refine ⟨Qm.Bin.snoc ht.1 hc, fun w hw hp => ?_⟩
  rcases List.prefix_concat_iff.mp (by rwa [← List.concat_eq_append] at hp) with e | e
  · exact e
  · have := ht.2 w hw e
    rw [this] at hw
    exact absurd hw hn
theorem cnt_two {n : Nat} {S : List Wd} (h : Ct n S) {t : Wd} (ht : Fr S t) (hn : t ∉ S) : cnt S t = cnt S (t ++ [48]) + cnt S (t ++ [49]) := by
  have hb := h.hd.bin
  unfold cnt
  clear h
  induction S with
  | nil => rfl
  | cons a S ih =>
    have ih := ih ⟨ht.1, fun w hw => ht.2 w (by simp [hw])⟩ (fun z => hn (by simp [z])) (fun w hw => hb w (by simp [hw]))
    have ha := hb a (by simp)
    have hna : a ≠ t := fun z => hn (by simp [z])
    by_cases p : t <+: a
    · rcases pre_cases ha p with z | z | z
      · exact absurd z hna
      · have no : ¬ (t ++ [49]) <+: a := fun z2 => by
          have := List.prefix_of_prefix_length_le z z2 (by simp)
          have := this.eq_of_length (by simp)
          simp at this
        rw [List.filter_cons_of_pos (ipf.mpr p), List.filter_cons_of_pos (ipf.mpr z), List.filter_cons_of_neg (fun q => no (ipf.mp q)), List.length_cons, List.length_cons, ih]
        simp only [Nat.add_right_comm, Nat.add_assoc, Nat.add_comm, Nat.add_left_comm]
      · have no : ¬ (t ++ [48]) <+: a := fun z2 => by
          have := List.prefix_of_prefix_length_le z z2 (by simp)
          have := this.eq_of_length (by simp)
          simp at this
        rw [List.filter_cons_of_pos (ipf.mpr p), List.filter_cons_of_pos (ipf.mpr z), List.filter_cons_of_neg (fun q => no (ipf.mp q)), List.length_cons, List.length_cons, ih]
        simp only [Nat.add_right_comm, Nat.add_assoc, Nat.add_comm, Nat.add_left_comm]
    · have no : ∀ c, ¬ (t ++ [c]) <+: a := fun c z => p ((List.prefix_append t [c]).trans z)
      rw [List.filter_cons_of_neg (fun q => p (ipf.mp q)), List.filter_cons_of_neg (fun q => no _ (ipf.mp q)), List.filter_cons_of_neg (fun q => no _ (ipf.mp q)), ih]
def mu (S : List Wd) (todo : List Wd) : Nat := (todo.map fun t => 2 * cnt S t - 1).sum
theorem mu_snoc (S todo : List Wd) (t : Wd) : mu S (todo ++ [t]) = mu S todo + (2 * cnt S t - 1) := by simp [mu]
theorem mu_mem {n : Nat} {S : List Wd} (h : Ct n S) {todo : List Wd} {t : Wd} (ht : t ∈ S) : mu S todo + 1 = mu S (todo ++ [t]) := by
  rw [mu_snoc, cnt_mem h ht]
theorem mu_two {n : Nat} {S : List Wd} (h : Ct n S) {todo : List Wd} {t : Wd} (ht : Fr S t) (hn : t ∉ S) : mu S (todo ++ [t ++ [49], t ++ [48]]) + 1 = mu S (todo ++ [t]) := by
  have e : todo ++ [t ++ [49], t ++ [48]] = (todo ++ [t ++ [49]]) ++ [t ++ [48]] := by simp
  rw [e, mu_snoc, mu_snoc, mu_snoc, cnt_two h ht hn]
  have a := cnt_pos h (fr_snoc ht hn (.inl rfl))
  have b := cnt_pos h (fr_snoc ht hn (.inr rfl))
  omega
theorem mu_start (S : List Wd) : mu S [[]] ≤ 2 * S.length := by
  have := List.length_filter_le (fun h => ([] : Wd).isPrefixOf h) S
  simp only [mu, cnt, List.map_cons, List.map_nil, List.sum_cons, List.sum_nil]
  omega
/-- a table with cuts on both sides -/
structure Tw (n : Nat) (T : List Rw) : Prop where
  h : Ct n (hds T)
  o : Ct n (oth T)
theorem Ct.mono {n m : Nat} {S : List Wd} (h : Ct n S) (hm : n ≤ m) : Ct m S := ⟨h.hd.of hm h.hd.nd fun _ z => z, h.cov⟩
theorem Tw.mono {n m : Nat} {T : List Rw} (h : Tw n T) (hm : n ≤ m) : Tw m T := ⟨h.h.mono hm, h.o.mono hm⟩
theorem Tw.perm {n : Nat} {S T : List Rw} (h : Tw n S) (p : T.Perm S) : Tw n T := ⟨h.h.perm (p.map _), h.o.perm (p.map _)⟩
theorem Tw.te {n : Nat} {T : List Rw} (h : Tw n T) : Te T T := Te.refl h.h.hd
theorem Ct.join {n : Nat} {S T : List Wd} {u : Wd} (h : Ct n S) (h0 : u ++ [48] ∈ S) (h1 : u ++ [49] ∈ S) (nd : T.Nodup) (hT : ∀ x, x ∈ T ↔ x = u ∨ (x ∈ S ∧ x ≠ u ++ [48] ∧ x ≠ u ++ [49])) : Ct n T :=
  ⟨h.hd.join h0 h1 nd hT, fun s hs => (cov_join h0 h1 hT s hs).mpr (h.cov s hs)⟩
theorem nd_inj {α β : Type} {f : α → β} : ∀ {T : List α}, (T.map f).Nodup → ∀ {p q : α}, p ∈ T → q ∈ T → f p = f q → p = q
  | [], _, _, _, h, _, _ => by cases h
  | r :: T, nd, p, q, hp, hq, e => by
    rw [List.map_cons] at nd
    obtain ⟨n1, n2⟩ := List.nodup_cons.mp nd
    rcases List.mem_cons.mp hp with ep | hp'
    · rcases List.mem_cons.mp hq with eq | hq'
      · rw [ep, eq]
      · exact absurd (List.mem_map.mpr ⟨q, hq', by rw [← e, ep]⟩) n1
    · rcases List.mem_cons.mp hq with eq | hq'
      · exact absurd (List.mem_map.mpr ⟨p, hp', by rw [e, eq]⟩) n1
      · exact nd_inj n2 hp' hq' e
/-- the rows behind a join -/
def joinR (S : List Rw) (u v : Wd) : List Rw := ((S.filter fun p => decide (p.1 ≠ u ++ [48])).filter fun p => decide (p.1 ≠ u ++ [49])) ++ [(u, v)]
theorem joinR_mem {S : List Rw} {u v : Wd} (nd : (hds S).Nodup) (h0 : (u ++ [48], v ++ [48]) ∈ S) (h1 : (u ++ [49], v ++ [49]) ∈ S) (p : Rw) : p ∈ joinR S u v ↔ p = (u, v) ∨ (p ∈ S ∧ p ≠ (u ++ [48], v ++ [48]) ∧ p ≠ (u ++ [49], v ++ [49])) := by
  unfold joinR
  simp only [List.mem_append, List.mem_filter, List.mem_singleton, decide_eq_true_eq]
  constructor
  · rintro (⟨⟨a, b⟩, c⟩ | h)
    · exact .inr ⟨a, fun e => b (by rw [e]), fun e => c (by rw [e])⟩
    · exact .inl h
  · rintro (h | ⟨a, b, c⟩)
    · exact .inr h
    · exact .inl ⟨⟨a, fun e => b (nd_inj nd a h0 e)⟩, fun e => c (nd_inj nd a h1 e)⟩
theorem joinR_len {S : List Rw} {u v : Wd} (nd : (hds S).Nodup) (h0 : (u ++ [48], v ++ [48]) ∈ S) (h1 : (u ++ [49], v ++ [49]) ∈ S) : (joinR S u v).length + 1 = S.length := by
  have key : ∀ (x : Wd) (T : List Rw), (hds T).Nodup → x ∈ hds T → (T.filter fun p => decide (p.1 ≠ x)).length + 1 = T.length := fun x T => by
    induction T with
    | nil => exact fun _ h => by cases h
    | cons p T ih =>
      intro nd hx
      obtain ⟨n1, n2⟩ := List.nodup_cons.mp nd
      by_cases e : p.1 = x
      · have ft : T.filter (fun p => decide (p.1 ≠ x)) = T := List.filter_eq_self.mpr fun q hq => decide_eq_true fun z => n1 (by
          show p.1 ∈ _
          rw [e, ← z]
          exact List.mem_map.mpr ⟨q, hq, rfl⟩)
        rw [List.filter_cons_of_neg (by simpa using e), ft]
        rfl
      · rw [List.filter_cons_of_pos (by simpa using e), List.length_cons, List.length_cons]
        rcases List.mem_cons.mp hx with z | z
        · exact absurd z.symm e
        · rw [ih n2 z]
  have a := key (u ++ [48]) S nd (List.mem_map.mpr ⟨_, h0, rfl⟩)
  have nd2 : (hds (S.filter fun p => decide (p.1 ≠ u ++ [48]))).Nodup := nd.sublist ((List.filter_sublist).map _)
  have b := key (u ++ [49]) _ nd2 (List.mem_map.mpr ⟨(u ++ [49], v ++ [49]), List.mem_filter.mpr ⟨h1, by simp⟩, rfl⟩)
  unfold joinR
  rw [List.length_append, List.length_singleton]
  omega
theorem Tw.join {n : Nat} {S : List Rw} {u v : Wd} (h : Tw n S) (h0 : (u ++ [48], v ++ [48]) ∈ S) (h1 : (u ++ [49], v ++ [49]) ∈ S) : Tw n (joinR S u v) ∧ Te S (joinR S u v) := by
  have nd := h.h.hd.nd
  have nd' := h.o.hd.nd
  have hm := joinR_mem nd h0 h1
  have m0 : u ++ [48] ∈ hds S := List.mem_map.mpr ⟨_, h0, rfl⟩
  have m1 : u ++ [49] ∈ hds S := List.mem_map.mpr ⟨_, h1, rfl⟩
  have k0 : v ++ [48] ∈ oth S := List.mem_map.mpr ⟨_, h0, rfl⟩
  have k1 : v ++ [49] ∈ oth S := List.mem_map.mpr ⟨_, h1, rfl⟩
  have sub : (((S.filter fun p => decide (p.1 ≠ u ++ [48])).filter fun p => decide (p.1 ≠ u ++ [49]))).Sublist S := List.filter_sublist.trans List.filter_sublist
  have ndR : (hds (joinR S u v)).Nodup := by
    unfold joinR hds
    rw [List.map_append, List.nodup_append]
    refine ⟨nd.sublist (sub.map _), by simp, fun a ha b hb e => ?_⟩
    simp at hb
    subst hb
    subst e
    exact h.h.hd.not_up m0 ((sub.map _).subset ha)
  have ndO : (oth (joinR S u v)).Nodup := by
    unfold joinR oth
    rw [List.map_append, List.nodup_append]
    refine ⟨nd'.sublist (sub.map _), by simp, fun a ha b hb e => ?_⟩
    simp at hb
    subst hb
    subst e
    exact h.o.hd.not_up k0 ((sub.map _).subset ha)
  have mh : ∀ x, x ∈ hds (joinR S u v) ↔ x = u ∨ (x ∈ hds S ∧ x ≠ u ++ [48] ∧ x ≠ u ++ [49]) := fun x => by
    constructor
    · intro hx
      obtain ⟨p, hp, rfl⟩ := List.mem_map.mp hx
      rcases (hm p).mp hp with e | ⟨a, b, c⟩
      · exact .inl (by rw [e])
      · exact .inr ⟨List.mem_map.mpr ⟨p, a, rfl⟩, fun e => b (nd_inj nd a h0 e), fun e => c (nd_inj nd a h1 e)⟩
    · rintro (rfl | ⟨a, b, c⟩)
      · exact List.mem_map.mpr ⟨(x, v), (hm _).mpr (.inl rfl), rfl⟩
      · obtain ⟨p, hp, rfl⟩ := List.mem_map.mp a
        exact List.mem_map.mpr ⟨p, (hm _).mpr (.inr ⟨hp, fun e => b (by rw [e]), fun e => c (by rw [e])⟩), rfl⟩
  have mo : ∀ x, x ∈ oth (joinR S u v) ↔ x = v ∨ (x ∈ oth S ∧ x ≠ v ++ [48] ∧ x ≠ v ++ [49]) := fun x => by
    constructor
    · intro hx
      obtain ⟨p, hp, rfl⟩ := List.mem_map.mp hx
      rcases (hm p).mp hp with e | ⟨a, b, c⟩
      · exact .inl (by rw [e])
      · exact .inr ⟨List.mem_map.mpr ⟨p, a, rfl⟩, fun e => b (nd_inj nd' a h0 e), fun e => c (nd_inj nd' a h1 e)⟩
    · rintro (rfl | ⟨a, b, c⟩)
      · exact List.mem_map.mpr ⟨(u, x), (hm _).mpr (.inl rfl), rfl⟩
      · obtain ⟨p, hp, rfl⟩ := List.mem_map.mp a
        exact List.mem_map.mpr ⟨p, (hm _).mpr (.inr ⟨hp, fun e => b (by rw [e]), fun e => c (by rw [e])⟩), rfl⟩
  exact ⟨⟨h.h.join m0 m1 ndR mh, h.o.join k0 k1 ndO mo⟩, Te.join h.te h0 h1 ndR hm⟩
/-- in the order of the heads -/
def srt (S : List Rw) : List Rw := (sortS (hds S)).map fun h => (h, (S.lookup h).getD [])
theorem srt_perm {S : List Rw} (nd : (hds S).Nodup) : (srt S).Perm S := by
  unfold srt
  refine ((sortS_perm (hds S)).map _).trans ?_
  have e : (hds S).map (fun h => (h, (S.lookup h).getD [])) = S := by
    unfold hds
    rw [List.map_map]
    conv => rhs; rw [← List.map_id S]
    refine List.map_congr_left fun p hp => ?_
    obtain ⟨a, b⟩ := p
    show (a, (S.lookup a).getD []) = (a, b)
    have : S.lookup a = some b := by
      induction S with
      | nil => cases hp
      | cons q S ih =>
        obtain ⟨n1, n2⟩ := List.nodup_cons.mp nd
        obtain ⟨c, d⟩ := q
        rw [List.lookup_cons]
        rcases List.mem_cons.mp hp with z | z
        · cases z
          simp
        · have : ¬ a = c := fun w => n1 (List.mem_map.mpr ⟨_, z, w⟩)
          rw [show (a == c) = false from beq_eq_false_iff_ne.mpr this]
          exact ih n2 z
    rw [this]
    rfl
  rw [e]
theorem srt_hds (S : List Rw) : hds (srt S) = sortS (hds S) := by
  unfold srt hds
  rw [List.map_map]
  conv => rhs; rw [← List.map_id (sortS _)]
  rfl
theorem srt_ext {S T : List Rw} (n1 : (hds S).Nodup) (n2 : (hds T).Nodup) (h : ∀ p, p ∈ S ↔ p ∈ T) : srt S = srt T := by
  have hh : ∀ x, x ∈ hds S ↔ x ∈ hds T := fun x => by
    constructor
    · intro hx
      obtain ⟨p, hp, rfl⟩ := List.mem_map.mp hx
      exact List.mem_map.mpr ⟨p, (h p).mp hp, rfl⟩
    · intro hx
      obtain ⟨p, hp, rfl⟩ := List.mem_map.mp hx
      exact List.mem_map.mpr ⟨p, (h p).mpr hp, rfl⟩
  have e := sortS_ext n1 n2 hh
  apply List.ext_getElem?
  intro i
  have pS := srt_perm n1
  have pT := srt_perm n2
  have eh : (hds (srt S))[i]? = (hds (srt T))[i]? := by rw [srt_hds, srt_hds, e]
  unfold hds at eh
  rw [List.getElem?_map, List.getElem?_map] at eh
  cases q1 : (srt S)[i]? with
  | none =>
    rw [q1] at eh
    cases q2 : (srt T)[i]? with
    | none => rfl
    | some b =>
      rw [q2] at eh
      cases eh
  | some a =>
    rw [q1] at eh
    cases q2 : (srt T)[i]? with
    | none =>
      rw [q2] at eh
      cases eh
    | some b =>
      rw [q2] at eh
      have e1 : a.1 = b.1 := by simpa using eh
      have ma : a ∈ T := (h a).mp (pS.mem_iff.mp (List.mem_of_getElem? q1))
      have mb : b ∈ T := pT.mem_iff.mp (List.mem_of_getElem? q2)
      rw [nd_inj n2 ma mb e1]
open Classical in
/-- the fewest rows -/
noncomputable def few (T : List Rw) : List Rw := if h : ∃ S, Te T S ∧ RedT S then srt (Classical.choose h) else []
theorem few_eq {T S : List Rw} (h : Te T S) (r : RedT S) : srt S = few T := by
  have ex : ∃ S, Te T S ∧ RedT S := ⟨S, h, r⟩
  unfold few
  rw [dif_pos ex]
  obtain ⟨h2, r2⟩ := Classical.choose_spec ex
  exact srt_ext h.nd h2.nd fun p => h.fin h2 r r2 (fun _ _ _ => Iff.rfl) p
theorem few_congr {T T' : List Rw} (e : ∀ s t, Bi s → (Mv T s t ↔ Mv T' s t)) : few T = few T' := by
  have key : ∀ S, Te T S ↔ Te T' S := fun S => ⟨fun h => ⟨h.nd, h.bin, h.anti, fun s t hs => (h.mv s t hs).trans (e s t hs)⟩, fun h => ⟨h.nd, h.bin, h.anti, fun s t hs => (h.mv s t hs).trans (e s t hs).symm⟩⟩
  by_cases ex : ∃ S, Te T S ∧ RedT S
  · obtain ⟨S, h, r⟩ := ex
    rw [← few_eq h r, ← few_eq ((key S).mp h) r]
  · unfold few
    rw [dif_neg ex, dif_neg fun ⟨S, h, r⟩ => ex ⟨S, (key S).mpr h, r⟩]
theorem red_perm {S R : List Rw} (h : RedT S) (p : R.Perm S) : RedT R := fun u v ⟨a, b⟩ => h u v ⟨p.mem_iff.mp a, p.mem_iff.mp b⟩
end Qm
namespace Qm
open Qd
def dropT (x : Wd) (T : List Rw) : List Rw := T.filter fun p => decide (p.1 ≠ x)
theorem joinR_eq (S : List Rw) (u v : Wd) : dropT (u ++ [49]) (dropT (u ++ [48]) S) ++ [(u, v)] = joinR S u v := rfl
theorem exists_few {n : Nat} : ∀ (m : Nat) (T : List Rw), T.length ≤ m → Tw n T → ∃ S, Tw n S ∧ Te T S ∧ RedT S ∧ S.length ≤ T.length := by
  intro m
  induction m with
  | zero =>
    intro T hl h
    have : T = [] := List.eq_nil_of_length_eq_zero (by omega)
    subst this
    exact ⟨[], h, h.te, (fun u v z => absurd z.1 (by simp)), Nat.le_refl _⟩
  | succ m ih =>
    intro T hl h
    by_cases r : RedT T
    · exact ⟨T, h, h.te, r, Nat.le_refl _⟩
    · obtain ⟨u, v, h0, h1⟩ : ∃ u v, (u ++ [48], v ++ [48]) ∈ T ∧ (u ++ [49], v ++ [49]) ∈ T := by
        refine Classical.byContradiction fun z => r fun u v w => z ⟨u, v, w⟩
      obtain ⟨h2, h3⟩ := h.join h0 h1
      have hl2 := joinR_len h.h.hd.nd h0 h1
      obtain ⟨S, a, b, c, d⟩ := ih (joinR T u v) (by omega) h2
      exact ⟨S, a, h3.trans b, c, by omega⟩
theorem few_all {n : Nat} {T : List Rw} (h : Tw n T) : Tw n (few T) ∧ Te T (few T) ∧ RedT (few T) ∧ (few T).length ≤ T.length := by
  obtain ⟨S, a, b, c, d⟩ := exists_few T.length T (Nat.le_refl _) h
  have p := srt_perm b.nd
  rw [← few_eq b c]
  exact ⟨a.perm p, b.perm p, red_perm c p, by rw [p.length_eq]; exact d⟩
theorem few_srt {n : Nat} {T : List Rw} (h : Tw n T) : hds (few T) = sortS (hds (few T)) := by
  obtain ⟨S, a, b, c, d⟩ := exists_few T.length T (Nat.le_refl _) h
  rw [← few_eq b c, srt_hds]
  exact (sortS_congr (sortS_perm _)).symm
end Qm
namespace Qd
open PySem PySem.Spec L2 Qm
theorem dropD_tDT (x : List Nat) (T : List Rw) : dropD (tD T) (.s x) = tD (dropT x T) := dropD_tD x T
theorem sk4_owT (i : Nat) (v : D) (e : En) (ky : Ky) (T : List Rw) (h : T.length < 1000000) : sk4 i v e ky (some (some (.ow, .dic (tD T)))) = some (.nx (e.set i (some (.ow, .dic (putD (tD T) ky v))))) := sk4_ow i v e ky (tD T) (by rw [tD_len]; exact h)
theorem set_k0T (T : List Rw) : setFD "Swap" "kept" (.lst (T.map rowD)) (.obj "Swap" []) = some (swD T) := by rfl
theorem set_k1T (S T : List Rw) : setFD "Swap" "kept" (.lst (T.map rowD)) (swD S) = some (swD T) := by rfl
theorem noDics_str : ∀ xs : List (List Nat), noDics (xs.map D.str) = true
  | [] => rfl
  | x :: xs => by
    show (noDic (.str x) && noDics (xs.map D.str)) = true
    rw [noDics_str xs]
    rfl
theorem noDics_bl {α : Type} (f : α → Bool) : ∀ xs : List α, noDics (xs.map fun x => D.bl (f x)) = true
  | [] => rfl
  | x :: xs => by
    show (noDic (.bl (f x)) && noDics (xs.map fun x => D.bl (f x))) = true
    rw [noDics_bl f xs]
    rfl
theorem noDicK_keys : ∀ xs : List (List Nat), noDicK (keysD xs) = true
  | [] => rfl
  | x :: xs => by
    show (noDic (.bl true) && noDicK (keysD xs)) = true
    rw [noDicK_keys xs]
    rfl
theorem gExt_eq (ds es : List D) (h : ds.length + es.length ≤ 1000000) : gExt ds [.lst es] = some (.non, ds ++ es) := if_pos (Nat.le_trans h (by decide))
def en2 (o : Ov) (e : En) : Option D → Option (List D × Bs × En)
  | some (.lst ds) => some (enumD 0 ds, bOf o (.lst ds), e)
  | _ => none
def en1 (p : Ov × En) : Option (List D × Bs × En) := en2 p.1 p.2 (fetch p.2 p.1)
theorem iEn_eq (fo : FO) (env : En) : iEn fo env = (fo env).bind en1 := by
  unfold iEn
  cases fo env with
  | none => rfl
  | some p =>
    simp only [Option.bind_some, en1]
    cases fetch p.2 p.1 with
    | none => rfl
    | some d => cases d <;> rfl
theorem en1_eq (o : Ov) (e : En) : en1 (o, e) = en2 o e (fetch e o) := id rfl
theorem en2_eq (o : Ov) (e : En) (ds : List D) : en2 o e (some (.lst ds)) = some (enumD 0 ds, bOf o (.lst ds), e) := id rfl
/-- heads with their places -/
def plc (i : Nat) : List Wd → List (Wd × Nat)
  | [] => []
  | x :: xs => (x, i) :: plc (i + 1) xs
theorem plc_fst : ∀ (i : Nat) (xs : List Wd), (plc i xs).map (·.1) = xs
  | _, [] => rfl
  | i, x :: xs => by
    show x :: (plc (i + 1) xs).map (·.1) = _
    rw [plc_fst]
theorem plc_len (i : Nat) (xs : List Wd) : (plc i xs).length = xs.length := by
  have := congrArg List.length (plc_fst i xs)
  simpa using this
theorem enum_plc : ∀ (i : Nat) (xs : List Wd), enumD (i : Int) (xs.map D.str) = (plc i xs).map fun q => D.tup [.int (q.2 : Int), .str q.1]
  | _, [] => rfl
  | i, x :: xs => by
    have := enum_plc (i + 1) xs
    show D.tup [.int (i : Int), .str x] :: enumD ((i : Int) + 1) (xs.map D.str) = _
    rw [show ((i : Int) + 1) = ((i + 1 : Nat) : Int) by omega, this]
    rfl
def p2i (q : Wd × Nat) : P2 := (q.1, .inl (q.2 : Int))
theorem p2i_enc (q : Wd × Nat) : (p2i q).enc = .tup [.str q.1, .int (q.2 : Int)] := rfl
theorem tags_p2i (qs : List (Wd × Nat)) : tags (qs.map p2i) = true := by
  unfold tags
  rw [Bool.or_eq_true]
  refine .inr (List.all_eq_true.mpr fun p hp => ?_)
  obtain ⟨q, _, rfl⟩ := List.mem_map.mp hp
  rfl
theorem zipD_map {α : Type} (f : α → D) : ∀ xs ys : List α, zipD (xs.map f) (ys.map f) = (xs.zip ys).map fun p => .tup [f p.1, f p.2]
  | [], _ => by simp [zipD]
  | _ :: _, [] => by simp [zipD]
  | x :: xs, y :: ys => by
    show D.tup [f x, f y] :: zipD (xs.map f) (ys.map f) = _
    rw [zipD_map f xs ys]
    rfl
end Qd
namespace Lw
open PySem PySem.Spec L2 Qd Qm
local macro_rules | `(tactic| walk_at "ev") => `(tactic| simp only [eVar_eq, eVar_k1, eK_eq, oS_eq, oS_k1, oE_eq, oE_k1, fetch_d, fetch_s, fetch_k1, eOp2_eq, op2k1_eq, op2k2_eq, op2k3_eq, op2k4_eq, pr_some, aNil_eq, aC2_eq, aCons_eq, aC1_eq, fetchs_nil, fts2_eq, fetchs_cons, fts1_eq, eA_eq, eA1_eq, eA2_eq, allD_nil, allD_cons, eDisp_eq, eD1_eq, eD2_0, eD2_1, eD2_2, eD2_3, eD2_4, eD2_5, eD2_6, pNo_eq, pAt_eq, pAt1_eq, eSl_eq, sl1_eq, sl2_eq, sl3_eq, sl4_eq, eAnd_eq, and1_eq, eOr_eq, or1_eq, eNot_eq, not1_eq, eIf_eq, if1_eq, eNeg_eq, neg1_eq, eM_eq, m0_eq, m1_str, m1_lst, m2_eq, m3_eq, m4_eq, mu4_eq, mu3_ow, mu3_pn, mu2_eq, mu1_eq, mu0_eq, eMut_eq, sSeq_eq, seq1_nx, seq1_bk, seq1_ct, seq1_rt, sNil_eq, sBk_eq, sCt_eq, sRetN_eq, sE_eq, se1_eq, sRet_eq, sRetF_eq, sret1_eq, sRetOw_eq, sRetOw1_eq, sIf_eq, sif1_eq, sg2_eq, sG_eq, sg1_eq, okSet_eq, okk_none, okk_sh, okk_ow, gN_eq, sOw_eq, ow1_eq, sFz_eq, fz1_ow, fz1_sh, fz1_pn, fz1_no, stl3_eq, stl2_ow, stl2_pn, stl1_eq, sSetL_eq, sFor_eq, sfor1_eq, sWhile_eq, iL_eq, il1_eq, il2_eq, bOf_d, bOf_s, iR1_eq, ir1_eq, fn1_rt, fn1_nx, eCall_eq, eCallF_eq, cv1_eq, cv2_1, cv2_2, cv2_3, cv3_eq, cvE_eq, cvF_eq, eCallB_eq, cb0_eq, cb1_1, cb1_2, cb1_3, cb2_bl, cb2_int, cb2_str, eCallP_eq, eCallPF_eq, cp0_eq, cp1_eq, cp2_eq, cp3_ow0, cp3_ow1, cp3_ow2, cp3_pn0, cp3_pn1, cp3_pn2, cp4_eq, eLc_eq, lc2_eq, eDc_eq, dc2_eq, bnd_some, mp_some, gt0, gtS, st0, stS, if_true, if_false, if_pos, Bool.true_eq_false, Bool.false_eq_true, stl0_eq2, stk_eq, ix0, ix1, ix2, ix3, ix4, ixT0, ixT1, ixT2, addD_i, subD_i, ltD_i, ltD_s, leD_i, gtD_i, gtD_s, geD_i, powD_18, lenD_l, lenD_t, lenD_d, eqD_s, neD_s, eqD_i, neD_i, decide_eq_true_eq, ↓reduceIte, decide_true, decide_false, not_true_eq_false, not_false_eq_true, Bool.not_true, Bool.not_false, List.length_map, List.length_cons, List.length_nil, Int.reduceLT, Int.reduceLE, Int.reduceNeg, and_self, and_true, true_and, mulD_r, mulD_l, modD_i, fdivD_i, Int.reduceAdd, Nat.reduceAdd, ixN50, ixN51, ixN52, ixN53, ixN54, slL_eq, slL_scr, listD_l, cut_up, cut_last, cut_all, slS_eq, inD_ls, inD_keys, wipe0, wipe1, rest0, rest1, gd_some, gd_none, decide_not, Bool.not_eq_true', decide_eq_false_iff_not, Classical.not_not, gPop_eq, allB_eq, List.nil_append, pk4_eq, pk3_ow, pk3_pn, pk2_eq, pk1_s, pk1_i, pk0_eq, ePopK_eq, sk3_eq, sk2_s, sk2_i, sk1_eq, sk0_eq, sSetK_eq, listD_keys, neD_nil, dropD_keys, eq_self, isi_non_bool, isi_non_int, isi_non_str, isi_non_tuple, isi_non_list, isi_bl_bool, isi_bl_int, isi_bl_str, isi_bl_tuple, isi_bl_list, isi_int_bool, isi_int_int, isi_int_str, isi_int_tuple, isi_int_list, isi_str_bool, isi_str_int, isi_str_str, isi_str_tuple, isi_str_list, isi_tup_bool, isi_tup_int, isi_tup_str, isi_tup_tuple, isi_tup_list, isi_lst_bool, isi_lst_int, isi_lst_str, isi_lst_tuple, isi_lst_list, isN_non, isN_bl, isN_int, isN_str, isN_tup, isN_lst, eqD_b, neD_b, startsD_eq, anyB_map, allB_map, sumD_map, maxD1_map, notInD_ls, notInD_keys, gsNil_eq, gsCons_eq, gsk_eq, gT2_eq, gT3_eq, iZ_eq, iz0_eq, iz1_eq, iz2_eq, sPin_eq, pin0_ow, pin0_sh, unpin_eq, unp_pn, pin1_nx, pin1_rt, cut_to, cut_from1, eFld_eq, fd0_eq, fd1_eq, sFd_eq, sfd0_eq, sfd1_ow, sfd1_pn, sfd2_eq, eMeth_eq, eMethF_eq, me0_eq, me1_eq, me2_eq, me3_0, me3_1, me3_2, me3_3, eMethP_eq, eMethPF_eq, mp0_ow, mp0_pn, mp1_eq, eNew_eq, nw0_eq, nw1_0, nw1_1, nw1_2, nw2_eq, exEq_eq, xq0_eq, xq1_eq, xq2_eq, xq3_eq, iso_eq, iso1_t, iS_eq, is1_eq, is0_eq, iR2_eq, ir2a_eq, ir2c_eq, maxD2_i, inD_sign, lc1_go, lcc_eq, dc1_go, dcc_eq, now_nil, now_cons, now1_sh, now1_none, bsV_nil, bsV_cons, Bool.and_true, Bool.true_and, fld_b, fld_r, set_b0, set_r0, set_b1, set_r1, isC_end, hasM_settle0, hasM_settle, hasM_head, hasM_ring, hasM_first, hasM_signs, hasM_later, hasM_behind, hasM_below, hasM_under, hasM_begins, hasM_starts, hasM_before, nin_nil, nin_cons, Nat.reduceBNe, iK_eq, ik0_eq, keyD_keys, eGet2_eq, ge0_eq, ge1_s, ge2_eq, ge3_eq, eLenM_eq, lm0_eq, lm1_eq, new0_1, parC_t, par2_go, sPar_eq, par0_eq, iLT_eq, lt1_eq, lt2_l, lt2_t, fld_k, set_k0, set_k1, isC_sw, hasW_rows, hasW_of, hasW_leads, hasW_then, hasW_back, hasW_power, hasW_seen, hasW_within, hasW_fixed, hasW_parted, inD_tD, dropD_tD, listD_tD, valD_tD, iEn_eq, en1_eq, en2_eq])
local macro_rules | `(tactic| walk_at "eh") => `(tactic| simp only [eVar_eq, eVar_k1, eK_eq, oS_eq, oS_k1, oE_eq, oE_k1, fetch_d, fetch_s, fetch_k1, eOp2_eq, op2k1_eq, op2k2_eq, op2k3_eq, op2k4_eq, pr_some, aNil_eq, aC2_eq, aCons_eq, aC1_eq, fetchs_nil, fts2_eq, fetchs_cons, fts1_eq, eA_eq, eA1_eq, eA2_eq, allD_nil, allD_cons, eDisp_eq, eD1_eq, eD2_0, eD2_1, eD2_2, eD2_3, eD2_4, eD2_5, eD2_6, pNo_eq, pAt_eq, pAt1_eq, eSl_eq, sl1_eq, sl2_eq, sl3_eq, sl4_eq, eAnd_eq, and1_eq, eOr_eq, or1_eq, eNot_eq, not1_eq, eIf_eq, if1_eq, eNeg_eq, neg1_eq, eM_eq, m0_eq, m1_str, m1_lst, m2_eq, m3_eq, m4_eq, mu4_eq, mu3_ow, mu3_pn, mu2_eq, mu1_eq, mu0_eq, eMut_eq, sSeq_eq, seq1_nx, seq1_bk, seq1_ct, seq1_rt, sNil_eq, sBk_eq, sCt_eq, sRetN_eq, sE_eq, se1_eq, sRet_eq, sRetF_eq, sret1_eq, sRetOw_eq, sRetOw1_eq, sIf_eq, sif1_eq, sg2_eq, sG_eq, sg1_eq, okSet_eq, okk_none, okk_sh, okk_ow, gN_eq, sOw_eq, ow1_eq, sFz_eq, fz1_ow, fz1_sh, fz1_pn, fz1_no, stl3_eq, stl2_ow, stl2_pn, stl1_eq, sSetL_eq, sFor_eq, sfor1_eq, sWhile_eq, iL_eq, il1_eq, il2_eq, bOf_d, bOf_s, iR1_eq, ir1_eq, fn1_rt, fn1_nx, eCall_eq, eCallF_eq, cv1_eq, cv2_1, cv2_2, cv2_3, cv3_eq, cvE_eq, cvF_eq, eCallB_eq, cb0_eq, cb1_1, cb1_2, cb1_3, cb2_bl, cb2_int, cb2_str, eCallP_eq, eCallPF_eq, cp0_eq, cp1_eq, cp2_eq, cp3_ow0, cp3_ow1, cp3_ow2, cp3_pn0, cp3_pn1, cp3_pn2, cp4_eq, eLc_eq, lc2_eq, eDc_eq, dc2_eq, bnd_some, mp_some, gt0, gtS, st0, stS, if_true, if_false, if_pos, Bool.true_eq_false, Bool.false_eq_true, stl0_eq2, stk_eq, ix0, ix1, ix2, ix3, ix4, ixT0, ixT1, ixT2, addD_i, subD_i, ltD_i, ltD_s, leD_i, gtD_i, gtD_s, geD_i, powD_18, lenD_l, lenD_t, lenD_d, eqD_s, neD_s, eqD_i, neD_i, decide_eq_true_eq, ↓reduceIte, decide_true, decide_false, not_true_eq_false, not_false_eq_true, Bool.not_true, Bool.not_false, List.length_map, List.length_cons, List.length_nil, Int.reduceLT, Int.reduceLE, Int.reduceNeg, and_self, and_true, true_and, mulD_r, mulD_l, modD_i, fdivD_i, Int.reduceAdd, Nat.reduceAdd, ixN50, ixN51, ixN52, ixN53, ixN54, slL_eq, slL_scr, listD_l, cut_up, cut_last, cut_all, slS_eq, inD_ls, inD_keys, wipe0, wipe1, rest0, rest1, gd_some, gd_none, decide_not, Bool.not_eq_true', decide_eq_false_iff_not, Classical.not_not, gPop_eq, allB_eq, List.nil_append, pk4_eq, pk3_ow, pk3_pn, pk2_eq, pk1_s, pk1_i, pk0_eq, ePopK_eq, sk3_eq, sk2_s, sk2_i, sk1_eq, sk0_eq, sSetK_eq, listD_keys, neD_nil, dropD_keys, eq_self, isi_non_bool, isi_non_int, isi_non_str, isi_non_tuple, isi_non_list, isi_bl_bool, isi_bl_int, isi_bl_str, isi_bl_tuple, isi_bl_list, isi_int_bool, isi_int_int, isi_int_str, isi_int_tuple, isi_int_list, isi_str_bool, isi_str_int, isi_str_str, isi_str_tuple, isi_str_list, isi_tup_bool, isi_tup_int, isi_tup_str, isi_tup_tuple, isi_tup_list, isi_lst_bool, isi_lst_int, isi_lst_str, isi_lst_tuple, isi_lst_list, isN_non, isN_bl, isN_int, isN_str, isN_tup, isN_lst, eqD_b, neD_b, startsD_eq, anyB_map, allB_map, sumD_map, maxD1_map, notInD_ls, notInD_keys, gsNil_eq, gsCons_eq, gsk_eq, gT2_eq, gT3_eq, iZ_eq, iz0_eq, iz1_eq, iz2_eq, sPin_eq, pin0_ow, pin0_sh, unpin_eq, unp_pn, pin1_nx, pin1_rt, cut_to, cut_from1, eFld_eq, fd0_eq, fd1_eq, sFd_eq, sfd0_eq, sfd1_ow, sfd1_pn, sfd2_eq, eMeth_eq, eMethF_eq, me0_eq, me1_eq, me2_eq, me3_0, me3_1, me3_2, me3_3, eMethP_eq, eMethPF_eq, mp0_ow, mp0_pn, mp1_eq, eNew_eq, nw0_eq, nw1_0, nw1_1, nw1_2, nw2_eq, exEq_eq, xq0_eq, xq1_eq, xq2_eq, xq3_eq, iso_eq, iso1_t, iS_eq, is1_eq, is0_eq, iR2_eq, ir2a_eq, ir2c_eq, maxD2_i, inD_sign, lc1_go, lcc_eq, dc1_go, dcc_eq, now_nil, now_cons, now1_sh, now1_none, bsV_nil, bsV_cons, Bool.and_true, Bool.true_and, fld_b, fld_r, set_b0, set_r0, set_b1, set_r1, isC_end, hasM_settle0, hasM_settle, hasM_head, hasM_ring, hasM_first, hasM_signs, hasM_later, hasM_behind, hasM_below, hasM_under, hasM_begins, hasM_starts, hasM_before, nin_nil, nin_cons, Nat.reduceBNe, iK_eq, ik0_eq, keyD_keys, eGet2_eq, ge0_eq, ge1_s, ge2_eq, ge3_eq, eLenM_eq, lm0_eq, lm1_eq, new0_1, parC_t, par2_go, sPar_eq, par0_eq, iLT_eq, lt1_eq, lt2_l, lt2_t, fld_k, set_k0, set_k1, isC_sw, hasW_rows, hasW_of, hasW_leads, hasW_then, hasW_back, hasW_power, hasW_seen, hasW_within, hasW_fixed, hasW_parted, inD_tD, dropD_tD, listD_tD, valD_tD, iEn_eq, en1_eq, en2_eq, *])
theorem lacking_run {n : Nat} {S : List Wd} (h : Ct n S) (hn : n ≤ 1000) (hl : S.length ≤ 1000) : fnF [.sh] 3 F_lacking [.dic (keysD S)] = some (.ok false .non [.non]) := by
  apply W.eq
  rw [fnF_eq _ _ _ _ rfl]
  show W (fn1 [.sh] (F_lacking [sv (.dic (keysD S)), none, none, none])) _
  unfold F_lacking
  walk_at "ev"
  refine W.fnK (W.whK (fun m e => ∃ (todo : List Wd) (x2 : Option Sl), e = [sv (.dic (keysD S)), ov (.lst (todo.map D.str)), x2, none] ∧ Sh x2 ∧ (∀ x, x2 = some (.sh, x) → noDic x = true) ∧ m = mu S todo ∧ (∀ t ∈ todo, Fr S t) ∧ todo.length + m ≤ 2 * S.length + 1) (mu S [[]]) (by have := mu_start S; unfold FU; omega) ⟨[[]], none, rfl, Sh.no, (fun _ z => by cases z), rfl, fun t ht => ?_, by have := mu_start S; simp; omega⟩ ?_)
  · rw [List.mem_singleton.mp ht]
    exact ⟨Qm.Bin.nil, fun w _ hp => List.prefix_nil.mp hp⟩
  · rintro m e ⟨todo, x2, rfl, s2, nx, rfl, hf, hm⟩
    rcases List.eq_nil_or_concat todo with z | ⟨r, t, z⟩
    · subst z
      have q := neD_nil [] (fun _ z => absurd z (by simp))
      simp only [List.map_nil, decide_true, Bool.not_true] at q
      refine ⟨false, [sv (.dic (keysD S)), ov (.lst []), x2, none], by clear hf; simp only [List.map_nil]; walk_at "eh", ?_⟩
      rw [if_neg (by decide)]
      walk_at "ev"
      exact W.ret (W.ret rfl)
    · rw [List.concat_eq_append] at z
      subst z
      have ft := hf t (by simp)
      have hr : ∀ x ∈ r, Fr S x := fun x hx => hf x (by simp [hx])
      have q := neD_nil (r ++ [t]) (fun x hx => (hf x hx).1.ok)
      rw [decide_eq_false (by simp), Bool.not_false] at q
      refine ⟨true, [sv (.dic (keysD S)), ov (.lst ((r ++ [t]).map D.str)), x2, none], by clear hf; walk_at "eh", ?_⟩
      rw [if_pos rfl]
      have p1 := gPop_eq (r.map D.str) (.str t)
      rw [show r.map D.str ++ [D.str t] = (r ++ [t]).map D.str by simp] at p1
      have o2 := s2.okk
      clear hf
      by_cases c : t ∈ S
      · have e1 := mu_mem h (todo := r) c
        clear nx q
        walk_at "eh"
        exact W.ret (Aft.nx ⟨mu S r, by omega, r, _, rfl, Sh.sh _, fun x hx => by cases hx; rfl, rfl, hr, by simp at hm; omega⟩)
      · have e1 := mu_two h (todo := r) ft c
        have any : (S.any fun w => t.isPrefixOf w) = true := by
          have := cnt_pos h ft
          obtain ⟨w, hw⟩ := List.exists_mem_of_length_pos this
          exact List.any_eq_true.mpr ⟨w, (List.mem_filter.mp hw).1, (List.mem_filter.mp hw).2⟩
        have lk : eLk 0 (eLc (iK (eVar 0)) [3] (gN 3) (eK (.bl true)) (eM isStr startsD (oS 3) (aCons (oS 2) aNil))) [sv (.dic (keysD S)), ov (.lst (r.map D.str)), sv (.str t), none] = some (.lst (S.map fun w => .bl (t.isPrefixOf w)), [sv (.dic (keysD S)), ov (.lst (r.map D.str)), sv (.str t), none]) := by
          refine eLk_run 0 _ _ (keysD S) _ rfl ?_ (noDicK_keys S) ?_ ?_
          · show (true && (noDicP (.lst (r.map D.str)) && (noDic (.str t) && (true && true)))) = true
            rw [show noDicP (.lst (r.map D.str)) = noDics (r.map D.str) from rfl, noDics_str]
            rfl
          · clear hr ft nx q p1 e1 any hm o2
            walk_at "ev"
            rw [lcL_map D.str (fun w => .bl (t.isPrefixOf w)) rfl S (by omega) fun w hw => ⟨[sv (.fdic (keysD S)), ov (.lst (r.map D.str)), sv (.str t), sv (.str w)], by walk_at "ev", by walk_at "ev", by walk_at "ev", by walk_at "ev"⟩]
            walk_at "ev"
          · show noDics (S.map fun w => D.bl (t.isPrefixOf w)) = true
            exact noDics_bl _ S
        have lt : t.length ≤ 1000 := by
          have := cnt_pos h ft
          obtain ⟨w, hw⟩ := List.exists_mem_of_length_pos this
          have hp := ipf.mp (List.mem_filter.mp hw).2
          have := h.hd.wl w (List.mem_filter.mp hw).1
          have := hp.length_le
          omega
        have a1 := addD_s t [49] (by simp; omega)
        have a2 := addD_s t [48] (by simp; omega)
        have g1 := gExt_eq (r.map D.str) [.str (t ++ [49]), .str (t ++ [48])] (by simp at hm ⊢; omega)
        rw [show r.map D.str ++ [D.str (t ++ [49]), D.str (t ++ [48])] = (r ++ [t ++ [49], t ++ [48]]).map D.str by simp] at g1
        have fr2 : ∀ x ∈ r ++ [t ++ [49], t ++ [48]], Fr S x := fun x hx => by
          rcases List.mem_append.mp hx with z | z
          · exact hr x z
          · simp only [List.mem_cons, List.not_mem_nil, or_false] at z
            rcases z with rfl | rfl
            · exact fr_snoc ft c (.inr rfl)
            · exact fr_snoc ft c (.inl rfl)
        clear hr nx q ft
        walk_at "eh"
        exact W.ret (Aft.nx ⟨mu S (r ++ [t ++ [49], t ++ [48]]), by omega, _, _, rfl, Sh.sh _, fun x hx => by cases hx; rfl, rfl, fr2, by simp at hm ⊢; omega⟩)
theorem trouble_run {g : FN} (hg : ∀ {n : Nat} {S : List Wd}, Ct n S → n ≤ 1000 → S.length ≤ 1000 → g [.dic (keysD S)] = some (.ok false .non [.non])) {n : Nat} {S : List Wd} (h : Ct n S) (hn : n ≤ 1000) (hl : S.length ≤ 1000) : fnF [.sh] 6 (F_trouble g) [.lst (S.map D.str)] = some (.ok false .non [.non]) := by
  apply W.eq
  rw [fnF_eq _ _ _ _ rfl]
  show W (fn1 [.sh] (F_trouble g [sv (.lst (S.map D.str)), none, none, none, none, none, none])) _
  unfold F_trouble
  have g1 := hg h hn hl
  have en := enum_plc 0 S
  rw [show ((0 : Nat) : Int) = 0 from rfl] at en
  have st := sortT_eq ((plc 0 S).map p2i) (tags_p2i _)
  rw [List.map_map] at st
  have hO : ∀ p ∈ sortP ((plc 0 S).map p2i), ∃ q ∈ plc 0 S, p = p2i q := fun p hp => by
    obtain ⟨q, hq, e⟩ := List.mem_map.mp ((sortP_perm _).mem_iff.mp hp)
    exact ⟨q, hq, e.symm⟩
  have ndp : ((plc 0 S).map p2i).Nodup := by
    have : ((plc 0 S).map (·.1)).Nodup := by rw [plc_fst]; exact h.hd.nd
    exact List.Pairwise.of_map (S := fun a b => a ≠ b) (fun p : P2 => p.1) (fun a b h e => h (by rw [e])) (by rw [List.map_map]; exact this)
  have ndO : (sortP ((plc 0 S).map p2i)).Nodup := (sortP_perm _).nodup_iff.mpr ndp
  have adj : ∀ z ∈ (sortP ((plc 0 S).map p2i)).zip ((sortP ((plc 0 S).map p2i)).drop 1), ∃ a b : Wd × Nat, z = (p2i a, p2i b) ∧ a.1.isPrefixOf b.1 = false := fun z hz => by
    obtain ⟨h1, h2, h3⟩ := zip_tail_mem ndO z hz
    obtain ⟨a, ha, e1⟩ := hO _ h1
    obtain ⟨b, hb, e2⟩ := hO _ h2
    refine ⟨a, b, Prod.ext e1 e2, ?_⟩
    rw [Bool.eq_false_iff]
    intro hp
    have ma : a.1 ∈ S := by rw [← plc_fst 0 S]; exact List.mem_map.mpr ⟨a, ha, rfl⟩
    have mb : b.1 ∈ S := by rw [← plc_fst 0 S]; exact List.mem_map.mpr ⟨b, hb, rfl⟩
    have e := h.hd.anti _ ma _ mb (ipf.mp hp)
    have hab : a = b := nd_inj (f := fun q : Wd × Nat => q.1) (by rw [plc_fst]; exact h.hd.nd) ha hb e
    exact h3 (by rw [e1, e2, hab])
  have zl : ((sortP ((plc 0 S).map p2i)).zip ((sortP ((plc 0 S).map p2i)).drop 1)).length ≤ 1000 := by
    rw [List.length_zip, sortP_len, List.length_map, plc_len]
    omega
  have zd := zipD_map P2.enc (sortP ((plc 0 S).map p2i)) ((sortP ((plc 0 S).map p2i)).drop 1)
  rw [List.map_drop] at zd
  generalize sortP ((plc 0 S).map p2i) = O at *
  walk_at "ev"
  rw [en, lcL_map (fun q : Wd × Nat => D.tup [.int (q.2 : Int), .str q.1]) (P2.enc ∘ p2i) rfl (plc 0 S) (by rw [plc_len]; omega) fun q hq => ⟨[sv (.lst (S.map D.str)), none, sv (.str q.1), none, sv (.int (q.2 : Int)), none, none], by walk_at "ev", by walk_at "ev", by walk_at "ev"; rfl, by walk_at "ev"⟩]
  clear en hO ndp ndO hg
  walk_at "eh"
  refine W.fnK (W.forK (fun items e => ∃ (zs : List (P2 × P2)) (x3 x4 x5 x6 : Option Sl), items = zs.map (fun p => .tup [P2.enc p.1, P2.enc p.2]) ∧ e = [sv (.lst (S.map D.str)), sv (.lst (O.map P2.enc)), none, x3, x4, x5, x6] ∧ Sh x3 ∧ Sh x4 ∧ Sh x5 ∧ Sh x6 ∧ ∀ z ∈ zs, z ∈ O.zip (O.drop 1)) ⟨_, none, none, none, none, rfl, rfl, Sh.no, Sh.no, Sh.no, Sh.no, fun _ z => z⟩ ?_ ?_)
  · rintro e ⟨zs, x3, x4, x5, x6, hz, rfl, s3, s4, s5, s6, hm⟩
    refine ⟨rfl, ?_⟩
    walk_at "ev"
    rw [show ([] : List (Ky × D)) = keysD [] from rfl, dcL_keys rfl S [] (by simp; omega) (by simpa using h.hd.nd) fun x hx => ⟨[sv (.lst (S.map D.str)), sv (.lst (O.map P2.enc)), sv (.str x), x3, x4, x5, x6], by walk_at "ev", by walk_at "ev", by walk_at "ev", by walk_at "ev", by walk_at "ev"⟩]
    clear zd adj st hz hm
    walk_at "eh"
    exact W.ret (W.ret rfl)
  · rintro d ds e ⟨zs, x3, x4, x5, x6, hz, rfl, s3, s4, s5, s6, hm⟩
    cases zs with
    | nil => cases hz
    | cons z zs =>
      cases hz
      obtain ⟨a, b, rfl, hab⟩ := adj z (hm z (by simp))
      have o3 := s3.okk
      have o4 := s4.okk
      have o5 := s5.okk
      have o6 := s6.okk
      refine ⟨rfl, [sv (.lst (S.map D.str)), sv (.lst (O.map P2.enc)), none, sv (.str a.1), sv (.int (a.2 : Int)), sv (.str b.1), sv (.int (b.2 : Int))], by clear zd st adj; simp only [p2i_enc]; walk_at "eh", ?_⟩
      clear zd st adj
      walk_at "eh"
      exact W.ret (Aft.nx ⟨zs, _, _, _, _, rfl, rfl, Sh.sh _, Sh.sh _, Sh.sh _, Sh.sh _, fun z hz => hm z (by simp [hz])⟩)
theorem is_table_run {g : FN} (hg : ∀ {n : Nat} {S : List Wd}, Ct n S → n ≤ 1000 → S.length ≤ 1000 → g [.lst (S.map D.str)] = some (.ok false .non [.non])) {n : Nat} {T : List Rw} (h : Tw n T) (hn : n ≤ 1000) (hl : T.length ≤ 1000) (d : D) (hd : d = .lst (T.map rowD) ∨ d = .tup (T.map rowD)) : fnF [.sh] 1 (F_is_table g) [d] = some (.ok false (.bl true) [.non]) := by
  rw [fnF_eq _ _ _ _ rfl]
  show fn1 [.sh] (F_is_table g [sv d, none]) = _
  unfold F_is_table
  have g1 := hg h.h hn (by simpa using hl)
  have g2 := hg h.o hn (by simpa using hl)
  unfold hds at g1
  unfold oth at g2
  rw [List.map_map] at g1 g2
  have c1 : ∀ d, lcL [] [1] (gN 1) (eK (.bl true)) (eOp2 ixD (oS 1) (oE (eK (.int 0)))) (T.map rowD) [sv d, none] [] = some (T.map (D.str ∘ fun x => x.1), [sv d, none]) := fun d => lcL_map rowD (D.str ∘ fun x => x.1) rfl T (by omega) fun q hq => ⟨[sv d, sv (rowD q)], by walk_at "ev", by walk_at "ev", by walk_at "ev"; rfl, by walk_at "ev"⟩
  have c2 : ∀ d, lcL [] [1] (gN 1) (eK (.bl true)) (eOp2 ixD (oS 1) (oE (eK (.int 1)))) (T.map rowD) [sv d, none] [] = some (T.map (D.str ∘ fun x => x.2), [sv d, none]) := fun d => lcL_map rowD (D.str ∘ fun x => x.2) rfl T (by omega) fun q hq => ⟨[sv d, sv (rowD q)], by walk_at "ev", by walk_at "ev", by walk_at "ev"; rfl, by walk_at "ev"⟩
  clear hg
  rcases hd with rfl | rfl
  · walk_at "ev"
    rw [c1]
    walk_at "eh"
    rfl
  · walk_at "ev"
    rw [c1]
    walk_at "eh"
    rfl
end Lw
namespace Lw
open PySem PySem.Spec L2 Qd Qm
local macro_rules | `(tactic| walk_at "ev") => `(tactic| simp only [eVar_eq, eVar_k1, eK_eq, oS_eq, oS_k1, oE_eq, oE_k1, fetch_d, fetch_s, fetch_k1, eOp2_eq, op2k1_eq, op2k2_eq, op2k3_eq, op2k4_eq, pr_some, aNil_eq, aC2_eq, aCons_eq, aC1_eq, fetchs_nil, fts2_eq, fetchs_cons, fts1_eq, eA_eq, eA1_eq, eA2_eq, allD_nil, allD_cons, eDisp_eq, eD1_eq, eD2_0, eD2_1, eD2_2, eD2_3, eD2_4, eD2_5, eD2_6, pNo_eq, pAt_eq, pAt1_eq, eSl_eq, sl1_eq, sl2_eq, sl3_eq, sl4_eq, eAnd_eq, and1_eq, eOr_eq, or1_eq, eNot_eq, not1_eq, eIf_eq, if1_eq, eNeg_eq, neg1_eq, eM_eq, m0_eq, m1_str, m1_lst, m2_eq, m3_eq, m4_eq, mu4_eq, mu3_ow, mu3_pn, mu2_eq, mu1_eq, mu0_eq, eMut_eq, sSeq_eq, seq1_nx, seq1_bk, seq1_ct, seq1_rt, sNil_eq, sBk_eq, sCt_eq, sRetN_eq, sE_eq, se1_eq, sRet_eq, sRetF_eq, sret1_eq, sRetOw_eq, sRetOw1_eq, sIf_eq, sif1_eq, sg2_eq, sG_eq, sg1_eq, okSet_eq, okk_none, okk_sh, okk_ow, gN_eq, sOw_eq, ow1_eq, sFz_eq, fz1_ow, fz1_sh, fz1_pn, fz1_no, stl3_eq, stl2_ow, stl2_pn, stl1_eq, sSetL_eq, sFor_eq, sfor1_eq, sWhile_eq, iL_eq, il1_eq, il2_eq, bOf_d, bOf_s, iR1_eq, ir1_eq, fn1_rt, fn1_nx, eCall_eq, eCallF_eq, cv1_eq, cv2_1, cv2_2, cv2_3, cv3_eq, cvE_eq, cvF_eq, eCallB_eq, cb0_eq, cb1_1, cb1_2, cb1_3, cb2_bl, cb2_int, cb2_str, eCallP_eq, eCallPF_eq, cp0_eq, cp1_eq, cp2_eq, cp3_ow0, cp3_ow1, cp3_ow2, cp3_pn0, cp3_pn1, cp3_pn2, cp4_eq, eLc_eq, lc2_eq, eDc_eq, dc2_eq, bnd_some, mp_some, gt0, gtS, st0, stS, if_true, if_false, if_pos, Bool.true_eq_false, Bool.false_eq_true, stl0_eq2, stk_eq, ix0, ix1, ix2, ix3, ix4, ixT0, ixT1, ixT2, addD_i, subD_i, ltD_i, ltD_s, leD_i, gtD_i, gtD_s, geD_i, powD_18, lenD_l, lenD_t, lenD_d, eqD_s, neD_s, eqD_i, neD_i, decide_eq_true_eq, ↓reduceIte, decide_true, decide_false, not_true_eq_false, not_false_eq_true, Bool.not_true, Bool.not_false, List.length_map, List.length_cons, List.length_nil, Int.reduceLT, Int.reduceLE, Int.reduceNeg, and_self, and_true, true_and, mulD_r, mulD_l, modD_i, fdivD_i, Int.reduceAdd, Nat.reduceAdd, ixN50, ixN51, ixN52, ixN53, ixN54, slL_eq, slL_scr, listD_l, cut_up, cut_last, cut_all, slS_eq, inD_ls, inD_keys, wipe0, wipe1, rest0, rest1, gd_some, gd_none, decide_not, Bool.not_eq_true', decide_eq_false_iff_not, Classical.not_not, gPop_eq, allB_eq, List.nil_append, pk4_eq, pk3_ow, pk3_pn, pk2_eq, pk1_s, pk1_i, pk0_eq, ePopK_eq, sk3_eq, sk2_s, sk2_i, sk1_eq, sk0_eq, sSetK_eq, listD_keys, neD_nil, dropD_keys, eq_self, isi_non_bool, isi_non_int, isi_non_str, isi_non_tuple, isi_non_list, isi_bl_bool, isi_bl_int, isi_bl_str, isi_bl_tuple, isi_bl_list, isi_int_bool, isi_int_int, isi_int_str, isi_int_tuple, isi_int_list, isi_str_bool, isi_str_int, isi_str_str, isi_str_tuple, isi_str_list, isi_tup_bool, isi_tup_int, isi_tup_str, isi_tup_tuple, isi_tup_list, isi_lst_bool, isi_lst_int, isi_lst_str, isi_lst_tuple, isi_lst_list, isN_non, isN_bl, isN_int, isN_str, isN_tup, isN_lst, eqD_b, neD_b, startsD_eq, anyB_map, allB_map, sumD_map, maxD1_map, notInD_ls, notInD_keys, gsNil_eq, gsCons_eq, gsk_eq, gT2_eq, gT3_eq, iZ_eq, iz0_eq, iz1_eq, iz2_eq, sPin_eq, pin0_ow, pin0_sh, unpin_eq, unp_pn, pin1_nx, pin1_rt, cut_to, cut_from1, eFld_eq, fd0_eq, fd1_eq, sFd_eq, sfd0_eq, sfd1_ow, sfd1_pn, sfd2_eq, eMeth_eq, eMethF_eq, me0_eq, me1_eq, me2_eq, me3_0, me3_1, me3_2, me3_3, eMethP_eq, eMethPF_eq, mp0_ow, mp0_pn, mp1_eq, eNew_eq, nw0_eq, nw1_0, nw1_1, nw1_2, nw2_eq, exEq_eq, xq0_eq, xq1_eq, xq2_eq, xq3_eq, iso_eq, iso1_t, iS_eq, is1_eq, is0_eq, iR2_eq, ir2a_eq, ir2c_eq, maxD2_i, inD_sign, lc1_go, lcc_eq, dc1_go, dcc_eq, now_nil, now_cons, now1_sh, now1_none, bsV_nil, bsV_cons, Bool.and_true, Bool.true_and, fld_b, fld_r, set_b0, set_r0, set_b1, set_r1, isC_end, hasM_settle0, hasM_settle, hasM_head, hasM_ring, hasM_first, hasM_signs, hasM_later, hasM_behind, hasM_below, hasM_under, hasM_begins, hasM_starts, hasM_before, nin_nil, nin_cons, Nat.reduceBNe, iK_eq, ik0_eq, keyD_keys, eGet2_eq, ge0_eq, ge1_s, ge2_eq, ge3_eq, eLenM_eq, lm0_eq, lm1_eq, new0_1, parC_t, par2_go, sPar_eq, par0_eq, iLT_eq, lt1_eq, lt2_l, lt2_t, fld_k, set_k0, set_k1, isC_sw, hasW_rows, hasW_of, hasW_leads, hasW_then, hasW_back, hasW_power, hasW_seen, hasW_within, hasW_fixed, hasW_parted, inD_tD, listD_tD, valD_tD, iEn_eq, en1_eq, en2_eq, dropD_tDT])
local macro_rules | `(tactic| walk_at "eh") => `(tactic| simp only [eVar_eq, eVar_k1, eK_eq, oS_eq, oS_k1, oE_eq, oE_k1, fetch_d, fetch_s, fetch_k1, eOp2_eq, op2k1_eq, op2k2_eq, op2k3_eq, op2k4_eq, pr_some, aNil_eq, aC2_eq, aCons_eq, aC1_eq, fetchs_nil, fts2_eq, fetchs_cons, fts1_eq, eA_eq, eA1_eq, eA2_eq, allD_nil, allD_cons, eDisp_eq, eD1_eq, eD2_0, eD2_1, eD2_2, eD2_3, eD2_4, eD2_5, eD2_6, pNo_eq, pAt_eq, pAt1_eq, eSl_eq, sl1_eq, sl2_eq, sl3_eq, sl4_eq, eAnd_eq, and1_eq, eOr_eq, or1_eq, eNot_eq, not1_eq, eIf_eq, if1_eq, eNeg_eq, neg1_eq, eM_eq, m0_eq, m1_str, m1_lst, m2_eq, m3_eq, m4_eq, mu4_eq, mu3_ow, mu3_pn, mu2_eq, mu1_eq, mu0_eq, eMut_eq, sSeq_eq, seq1_nx, seq1_bk, seq1_ct, seq1_rt, sNil_eq, sBk_eq, sCt_eq, sRetN_eq, sE_eq, se1_eq, sRet_eq, sRetF_eq, sret1_eq, sRetOw_eq, sRetOw1_eq, sIf_eq, sif1_eq, sg2_eq, sG_eq, sg1_eq, okSet_eq, okk_none, okk_sh, okk_ow, gN_eq, sOw_eq, ow1_eq, sFz_eq, fz1_ow, fz1_sh, fz1_pn, fz1_no, stl3_eq, stl2_ow, stl2_pn, stl1_eq, sSetL_eq, sFor_eq, sfor1_eq, sWhile_eq, iL_eq, il1_eq, il2_eq, bOf_d, bOf_s, iR1_eq, ir1_eq, fn1_rt, fn1_nx, eCall_eq, eCallF_eq, cv1_eq, cv2_1, cv2_2, cv2_3, cv3_eq, cvE_eq, cvF_eq, eCallB_eq, cb0_eq, cb1_1, cb1_2, cb1_3, cb2_bl, cb2_int, cb2_str, eCallP_eq, eCallPF_eq, cp0_eq, cp1_eq, cp2_eq, cp3_ow0, cp3_ow1, cp3_ow2, cp3_pn0, cp3_pn1, cp3_pn2, cp4_eq, eLc_eq, lc2_eq, eDc_eq, dc2_eq, bnd_some, mp_some, gt0, gtS, st0, stS, if_true, if_false, if_pos, Bool.true_eq_false, Bool.false_eq_true, stl0_eq2, stk_eq, ix0, ix1, ix2, ix3, ix4, ixT0, ixT1, ixT2, addD_i, subD_i, ltD_i, ltD_s, leD_i, gtD_i, gtD_s, geD_i, powD_18, lenD_l, lenD_t, lenD_d, eqD_s, neD_s, eqD_i, neD_i, decide_eq_true_eq, ↓reduceIte, decide_true, decide_false, not_true_eq_false, not_false_eq_true, Bool.not_true, Bool.not_false, List.length_map, List.length_cons, List.length_nil, Int.reduceLT, Int.reduceLE, Int.reduceNeg, and_self, and_true, true_and, mulD_r, mulD_l, modD_i, fdivD_i, Int.reduceAdd, Nat.reduceAdd, ixN50, ixN51, ixN52, ixN53, ixN54, slL_eq, slL_scr, listD_l, cut_up, cut_last, cut_all, slS_eq, inD_ls, inD_keys, wipe0, wipe1, rest0, rest1, gd_some, gd_none, decide_not, Bool.not_eq_true', decide_eq_false_iff_not, Classical.not_not, gPop_eq, allB_eq, List.nil_append, pk4_eq, pk3_ow, pk3_pn, pk2_eq, pk1_s, pk1_i, pk0_eq, ePopK_eq, sk3_eq, sk2_s, sk2_i, sk1_eq, sk0_eq, sSetK_eq, listD_keys, neD_nil, dropD_keys, eq_self, isi_non_bool, isi_non_int, isi_non_str, isi_non_tuple, isi_non_list, isi_bl_bool, isi_bl_int, isi_bl_str, isi_bl_tuple, isi_bl_list, isi_int_bool, isi_int_int, isi_int_str, isi_int_tuple, isi_int_list, isi_str_bool, isi_str_int, isi_str_str, isi_str_tuple, isi_str_list, isi_tup_bool, isi_tup_int, isi_tup_str, isi_tup_tuple, isi_tup_list, isi_lst_bool, isi_lst_int, isi_lst_str, isi_lst_tuple, isi_lst_list, isN_non, isN_bl, isN_int, isN_str, isN_tup, isN_lst, eqD_b, neD_b, startsD_eq, anyB_map, allB_map, sumD_map, maxD1_map, notInD_ls, notInD_keys, gsNil_eq, gsCons_eq, gsk_eq, gT2_eq, gT3_eq, iZ_eq, iz0_eq, iz1_eq, iz2_eq, sPin_eq, pin0_ow, pin0_sh, unpin_eq, unp_pn, pin1_nx, pin1_rt, cut_to, cut_from1, eFld_eq, fd0_eq, fd1_eq, sFd_eq, sfd0_eq, sfd1_ow, sfd1_pn, sfd2_eq, eMeth_eq, eMethF_eq, me0_eq, me1_eq, me2_eq, me3_0, me3_1, me3_2, me3_3, eMethP_eq, eMethPF_eq, mp0_ow, mp0_pn, mp1_eq, eNew_eq, nw0_eq, nw1_0, nw1_1, nw1_2, nw2_eq, exEq_eq, xq0_eq, xq1_eq, xq2_eq, xq3_eq, iso_eq, iso1_t, iS_eq, is1_eq, is0_eq, iR2_eq, ir2a_eq, ir2c_eq, maxD2_i, inD_sign, lc1_go, lcc_eq, dc1_go, dcc_eq, now_nil, now_cons, now1_sh, now1_none, bsV_nil, bsV_cons, Bool.and_true, Bool.true_and, fld_b, fld_r, set_b0, set_r0, set_b1, set_r1, isC_end, hasM_settle0, hasM_settle, hasM_head, hasM_ring, hasM_first, hasM_signs, hasM_later, hasM_behind, hasM_below, hasM_under, hasM_begins, hasM_starts, hasM_before, nin_nil, nin_cons, Nat.reduceBNe, iK_eq, ik0_eq, keyD_keys, eGet2_eq, ge0_eq, ge1_s, ge2_eq, ge3_eq, eLenM_eq, lm0_eq, lm1_eq, new0_1, parC_t, par2_go, sPar_eq, par0_eq, iLT_eq, lt1_eq, lt2_l, lt2_t, fld_k, set_k0, set_k1, isC_sw, hasW_rows, hasW_of, hasW_leads, hasW_then, hasW_back, hasW_power, hasW_seen, hasW_within, hasW_fixed, hasW_parted, inD_tD, listD_tD, valD_tD, iEn_eq, en1_eq, en2_eq, dropD_tDT, *])
theorem mem_lookup {x : Wd} {T : List Rw} (nd : (hds T).Nodup) (h : x ∈ hds T) : ∃ y, (x, y) ∈ T ∧ T.lookup x = some y := by
  obtain ⟨p, hp, rfl⟩ := List.mem_map.mp h
  exact ⟨p.2, hp, lookup_mem nd hp⟩
theorem dropT_lookup {x y : Wd} {b : Wd} {T : List Rw} (nd : (hds T).Nodup) (h : (x, b) ∈ T) (hn : x ≠ y) : (dropT y T).lookup x = some b := by
  refine lookup_mem (nd.sublist ((List.filter_sublist).map _)) (List.mem_filter.mpr ⟨h, ?_⟩)
  simpa using hn
/-- every two rows that can be joined wait -/
def Wt (S : List Rw) (td : List Wd) : Prop := ∀ u v, (u ++ [48], v ++ [48]) ∈ S → (u ++ [49], v ++ [49]) ∈ S → u ++ [48] ∈ td ∨ u ++ [49] ∈ td
theorem Wt.red {S : List Rw} (h : Wt S []) : RedT S := fun u v z => by
  rcases h u v z.1 z.2 with w | w <;> cases w
theorem Wt.pop {S : List Rw} {r : List Wd} {x : Wd} (h : Wt S (r ++ [x])) (no : ∀ u v, x = u ++ [48] ∨ x = u ++ [49] → (u ++ [48], v ++ [48]) ∈ S → (u ++ [49], v ++ [49]) ∈ S → False) : Wt S r := fun u v h0 h1 => by
  have key : ∀ c, (c = 48 ∨ c = 49) → u ++ [c] ∈ r ++ [x] → u ++ [c] ∈ r := fun c hc z => by
    rcases List.mem_append.mp z with w | w
    · exact w
    · have e := List.mem_singleton.mp w
      refine (no u v ?_ h0 h1).elim
      rcases hc with rfl | rfl
      · exact .inl e.symm
      · exact .inr e.symm
  rcases h u v h0 h1 with z | z
  · exact .inl (key _ (.inl rfl) z)
  · exact .inr (key _ (.inr rfl) z)
theorem Wt.join {n : Nat} {S : List Rw} {r : List Wd} {u v : Wd} {c : Nat} (hT : Tw n S) (h : Wt S (r ++ [u ++ [c]])) (h0 : (u ++ [48], v ++ [48]) ∈ S) (h1 : (u ++ [49], v ++ [49]) ∈ S) : Wt (joinR S u v) (r ++ [u]) := fun a b g0 g1 => by
  have hm := joinR_mem hT.h.hd.nd h0 h1
  rcases (hm _).mp g0 with e | ⟨m0, n0, _⟩
  · left
    rw [Prod.mk.injEq] at e
    rw [e.1]
    simp
  · rcases (hm _).mp g1 with e | ⟨m1, n1, n2⟩
    · right
      rw [Prod.mk.injEq] at e
      rw [e.1]
      simp
    · have hau : a ≠ u := fun z => by
        subst z
        exact n0 (nd_inj hT.h.hd.nd m0 h0 rfl)
      have key : ∀ d, a ++ [d] ∈ r ++ [u ++ [c]] → a ++ [d] ∈ r ++ [u] := fun d z => by
        rcases List.mem_append.mp z with w | w
        · exact List.mem_append.mpr (.inl w)
        · have e := List.mem_singleton.mp w
          exact absurd (List.append_inj' e rfl).1 hau
      rcases h a b m0 m1 with z | z
      · exact .inl (key _ z)
      · exact .inr (key _ z)
theorem fewest_run {n : Nat} {T : List Rw} (h : Tw n T) (hn : n ≤ 1000) (hl : T.length < 64) (d : D) (hd : d = .lst (T.map rowD) ∨ d = .tup (T.map rowD)) : fnF [.sh] 6 F_fewest_rows [d] = some (.ok true (rowsD (few T)) [.non]) := by
  apply W.eq
  rw [fnF_eq _ _ _ _ rfl]
  show W (fn1 [.sh] (F_fewest_rows [sv d, none, none, none, none, none, none])) _
  unfold F_fewest_rows
  have c1 : ∀ d, dcL [] [3, 6] (gT 2 (gsCons (gN 3) (gsCons (gN 6) gsNil))) (eK (.bl true)) (eVar 3) (eVar 6) (T.map rowD) [sv d, none, none, none, none, none, none] [] = some (tD T, [sv d, none, none, none, none, none, none]) := fun d => by
    rw [show ([] : List (Ky × D)) = tD [] from rfl, dcL_rows rfl T [] (by simp; omega) (by simpa using h.h.hd.nd) fun p hp => ⟨[sv d, none, none, sv (.str p.1), none, none, sv (.str p.2)], by walk_at "ev", by walk_at "ev", by walk_at "ev", by walk_at "ev", by walk_at "ev"⟩]
    rfl
  have c2 : ∀ d, lcL [] [3, 6] (gT 2 (gsCons (gN 3) (gsCons (gN 6) gsNil))) (eK (.bl true)) (eVar 3) (T.map rowD) [sv d, ov (.dic (tD T)), none, none, none, none, none] [] = some (T.map (fun p => D.str p.1), [sv d, ov (.dic (tD T)), none, none, none, none, none]) := fun d => lcL_map rowD (fun p => D.str p.1) rfl T (by omega) fun p hp => ⟨[sv d, ov (.dic (tD T)), none, sv (.str p.1), none, none, sv (.str p.2)], by walk_at "ev", by walk_at "ev", by walk_at "ev", by walk_at "ev"⟩
  have c3 : T.map (fun p => D.str p.1) = (hds T).map D.str := by rw [hds, List.map_map]; rfl
  have go : W (fn1 [Kd.sh] ((whL (eOp2 neD (oS 2) (oE (eDisp .lst aNil))) (sSeq (sG (eMut 2 gPop aNil) (gN 3))
    (sSeq (sG (eSl slS (oS 3) pNo (pAt (eNeg (eK (.int 1))))) (gN 4))
    (sIf (eAnd (eOp2 neD (oS 3) (oE (eK (.str [])))) (eAnd (eOp2 inD (oE (eOp2 addD (oS 4) (oE (eK (.str [48]))))) (oS 1)) (eOp2 inD (oE (eOp2 addD (oS 4) (oE (eK (.str [49]))))) (oS 1)))) (sSeq (sG (eOp2 getD' (oS 1) (oE (eOp2 addD (oS 4) (oE (eK (.str [48])))))) (gN 5))
    (sSeq (sG (eOp2 getD' (oS 1) (oE (eOp2 addD (oS 4) (oE (eK (.str [49])))))) (gN 6))
    (sIf (eAnd (eOp2 eqD (oE (eSl slS (oS 5) (pAt (eNeg (eK (.int 1)))) pNo)) (oE (eK (.str [48])))) (eAnd (eOp2 eqD (oE (eSl slS (oS 6) (pAt (eNeg (eK (.int 1)))) pNo)) (oE (eK (.str [49])))) (eOp2 eqD (oE (eSl slS (oS 5) pNo (pAt (eNeg (eK (.int 1)))))) (oE (eSl slS (oS 6) pNo (pAt (eNeg (eK (.int 1))))))))) (sSeq (sE (ePopK 1 (eOp2 addD (oS 4) (oE (eK (.str [48]))))))
    (sSeq (sE (ePopK 1 (eOp2 addD (oS 4) (oE (eK (.str [49]))))))
    (sSeq (sSetK 1 (eVar 4) (eSl slS (oS 5) pNo (pAt (eNeg (eK (.int 1))))))
    (sE (eMut 2 gApp (aCons (oE (eVar 4)) aNil)))))) sNil))) sNil))) FU [sv d, ov (.dic (tD T)), ov (.lst ((hds T).map D.str)), none, none, none, none]).bind (seq1 (sRetF (eLc (iL (oE (eA sortD (aCons (oE (eA listD (aCons (oS 1) aNil))) aNil)))) [3] (gN 3) (eK (.bl true)) (eDisp .tup (aCons (oE (eVar 3)) (aCons (oE (eOp2 getD' (oS 1) (oS 3))) aNil)))))))) fun r => r = .ok true (rowsD (few T)) [.non] := by
    clear c1 c2 c3 hd
    refine W.fnK (W.whK (fun m e => ∃ (S : List Rw) (td : List Wd) (x3 x4 x5 x6 : Option Sl), e = [sv d, ov (.dic (tD S)), ov (.lst (td.map D.str)), x3, x4, x5, x6] ∧ Sh x3 ∧ Sh x4 ∧ Sh x5 ∧ Sh x6 ∧ Tw n S ∧ Te T S ∧ S.length ≤ T.length ∧ m = S.length + td.length ∧ Wt S td ∧ (∀ t ∈ td, Bin t ∧ t.length ≤ n) ∧ td.length ≤ T.length) (T.length + (hds T).length) (by simp; unfold FU; omega) ⟨T, hds T, none, none, none, none, rfl, Sh.no, Sh.no, Sh.no, Sh.no, h, h.te, Nat.le_refl _, rfl, fun u v h0 _ => .inl (List.mem_map.mpr ⟨_, h0, rfl⟩), fun t ht => ⟨h.h.hd.bin t ht, h.h.hd.wl t ht⟩, by simp⟩ ?_)
    rintro m e ⟨S, td, x3, x4, x5, x6, rfl, s3, s4, s5, s6, hS, te, sl, rfl, wt, ht, tl⟩
    have nd := hS.h.hd.nd
    rcases List.eq_nil_or_concat td with z | ⟨r, x, z⟩
    · subst z
      have q := neD_nil [] (fun _ z => absurd z (by simp))
      simp only [List.map_nil, decide_true, Bool.not_true] at q
      have red := wt.red
      have sd := sortD_ls (hds S) (by simp; omega)
      have w3 := now1_of s3
      refine ⟨false, [sv d, ov (.dic (tD S)), ov (.lst []), x3, x4, x5, x6], by clear ht wt; simp only [List.map_nil]; walk_at "eh", ?_⟩
      rw [if_neg (by decide)]
      clear q ht wt
      walk_at "eh"
      rw [lcL_map D.str (fun x => rowD (x, (S.lookup x).getD [])) rfl (sortS (hds S)) (by rw [sortS_len]; simp; omega) fun x hx => ⟨[sv d, ov (.dic (tD S)), ov (.lst []), sv (.str x), x4, x5, x6], by walk_at "ev", by walk_at "ev", ?_, by walk_at "ev"⟩]
      · rw [show (sortS (hds S)).map (fun x => rowD (x, (S.lookup x).getD [])) = (srt S).map rowD by unfold srt; rw [List.map_map]; rfl, few_eq te red]
        walk_at "ev"
        exact W.ret (W.ret rfl)
      · obtain ⟨y, hy, hy2⟩ := mem_lookup nd ((sortS_perm _).mem_iff.mp hx)
        have g := getD_tD nd hy
        rw [hy2]
        clear sd red
        walk_at "eh"
    · rw [List.concat_eq_append] at z
      subst z
      have hx := ht x (by simp)
      have hr' : ∀ t ∈ r, Bin t ∧ t.length ≤ n := fun t h => ht t (by simp [h])
      have q := neD_nil (r ++ [x]) (fun y hy => (ht y hy).1.ok)
      rw [decide_eq_false (by simp), Bool.not_false] at q
      refine ⟨true, [sv d, ov (.dic (tD S)), ov (.lst ((r ++ [x]).map D.str)), x3, x4, x5, x6], by clear ht wt; walk_at "eh", ?_⟩
      rw [if_pos rfl]
      have p1 := gPop_eq (r.map D.str) (.str x)
      rw [show r.map D.str ++ [D.str x] = (r ++ [x]).map D.str by simp] at p1
      have o3 := s3.okk
      have o4 := s4.okk
      have o5 := s5.okk
      have o6 := s6.okk
      have lx : x.length ≤ 1000 := by omega
      simp only [List.length_append, List.length_singleton] at tl
      clear q ht
      by_cases c0 : x = []
      · subst c0
        have l4 := slS_eq [] none (some (-1)) (by simp)
        rw [cut_up] at l4
        simp only [List.dropLast_nil] at l4
        have wt2 := wt.pop fun u v e _ _ => by rcases e with e | e <;> simp at e
        clear wt
        walk_at "eh"
        exact W.ret (Aft.nx ⟨S.length + r.length, by simp, S, r, _, _, _, _, rfl, Sh.sh _, Sh.sh _, s5, s6, hS, te, sl, rfl, wt2, hr', by omega⟩)
      · obtain ⟨u, c, ex, hc⟩ : ∃ u c, x = u ++ [c] ∧ (c = 48 ∨ c = 49) := by
          rcases snoc_cases hx.1 c0 with e | e
          · exact ⟨_, _, e, .inl rfl⟩
          · exact ⟨_, _, e, .inr rfl⟩
        subst ex
        have l4 := slS_eq (u ++ [c]) none (some (-1)) (by omega)
        rw [cut_up, List.dropLast_concat] at l4
        have lu : u.length ≤ 1000 := by simp at lx; omega
        have a0 := addD_s u [48] (by simp; omega)
        have a1 := addD_s u [49] (by simp; omega)
        have hu : ∀ a, (u ++ [c] = a ++ [48] ∨ u ++ [c] = a ++ [49]) → a = u := fun a e => by
          rcases e with e | e
          · exact (List.append_inj' e rfl).1.symm
          · exact (List.append_inj' e rfl).1.symm
        by_cases c1 : u ++ [48] ∈ hds S
        · by_cases c2 : u ++ [49] ∈ hds S
          · obtain ⟨y0, m0, k0⟩ := mem_lookup nd c1
            obtain ⟨y1, m1, k1⟩ := mem_lookup nd c2
            have g0 := getD_tD nd m0
            have g1 := getD_tD nd m1
            have b0 := hS.o.hd.bin y0 (List.mem_map.mpr ⟨_, m0, rfl⟩)
            have ly0 := hS.o.hd.wl y0 (List.mem_map.mpr ⟨_, m0, rfl⟩)
            have ly1 := hS.o.hd.wl y1 (List.mem_map.mpr ⟨_, m1, rfl⟩)
            have t0 := slS_eq y0 (some (-1)) none (by omega)
            have t1 := slS_eq y1 (some (-1)) none (by omega)
            rw [cut_last] at t0 t1
            have t2 := slS_eq y0 none (some (-1)) (by omega)
            have t3 := slS_eq y1 none (some (-1)) (by omega)
            rw [cut_up] at t2 t3
            by_cases c3 : y0.drop (y0.length - 1) = [48] ∧ y1.drop (y1.length - 1) = [49] ∧ y0.dropLast = y1.dropLast
            · obtain ⟨d1, d2, d3⟩ := c3
              have e0 := (last_iff y0 48).mp d1
              have e1 := (last_iff y1 49).mp d2
              rw [← d3] at e1 t3
              have n0 : (u ++ [48], y0.dropLast ++ [48]) ∈ S := by rw [← e0]; exact m0
              have n1 : (u ++ [49], y0.dropLast ++ [49]) ∈ S := by rw [← e1]; exact m1
              obtain ⟨hJ, teJ⟩ := hS.join n0 n1
              have lJ := joinR_len nd n0 n1
              have wtJ := Wt.join hS wt n0 n1
              have k2 := dropT_lookup nd m1 (show u ++ [49] ≠ u ++ [48] by simp)
              have hnot : u ∉ hds (dropT (u ++ [49]) (dropT (u ++ [48]) S)) := fun z => by
                obtain ⟨p, hp, e⟩ := List.mem_map.mp z
                have hp2 := (List.mem_filter.mp (List.mem_filter.mp hp).1).1
                exact hS.h.hd.not_up c1 (by rw [← e]; exact List.mem_map.mpr ⟨p, hp2, rfl⟩)
              have pj := putD_tD u y0.dropLast _ hnot
              rw [joinR_eq] at pj
              have ln : (dropT (u ++ [49]) (dropT (u ++ [48]) S)).length < 1000000 := by
                have := congrArg List.length (joinR_eq S u y0.dropLast)
                rw [List.length_append] at this
                simp at this
                omega
              have sk := fun v e => sk4_owT 1 v e (.s u) (dropT (u ++ [49]) (dropT (u ++ [48]) S)) ln
              have ga := gApp_eq (r.map D.str) (.str u) (by simp; omega)
              rw [show r.map D.str ++ [D.str u] = (r ++ [u]).map D.str by simp] at ga
              have d1' : List.drop (y0.length - 1) y0 = [48] := d1
              clear wt e0 e1 n0 n1 hnot ln m0 m1 hu b0 d3
              walk_at "eh"
              refine W.ret (Aft.nx ⟨(joinR S u y0.dropLast).length + (r ++ [u]).length, by simp; omega, _, r ++ [u], _, _, _, _, rfl, Sh.sh _, Sh.sh _, Sh.sh _, Sh.sh _, hJ, te.trans teJ, by omega, rfl, wtJ, fun t hm => ?_, by simp; omega⟩)
              rcases List.mem_append.mp hm with z | z
              · exact hr' t z
              · rw [List.mem_singleton.mp z]
                refine ⟨Qm.Bin.left hx.1, ?_⟩
                have := hx.2
                simp at this
                omega
            · have wt2 := wt.pop fun a v e n0 n1 => by
                have := hu a e
                subst this
                have z0 : y0 = v ++ [48] := congrArg Prod.snd (nd_inj nd m0 n0 rfl)
                have z1 : y1 = v ++ [49] := congrArg Prod.snd (nd_inj nd m1 n1 rfl)
                refine c3 ⟨(last_iff _ _).mpr ?_, (last_iff _ _).mpr ?_, ?_⟩
                · rw [z0]
                  simp
                · rw [z1]
                  simp
                · rw [z0, z1]
                  simp
              have fin : ∀ y5 y6, Sh y5 → Sh y6 → W (some (Out.nx [sv d, ov (.dic (tD S)), ov (.lst (r.map D.str)), sv (.str (u ++ [c])), sv (.str u), y5, y6])) (Aft (fun e2 => ∃ m, m < S.length + (r ++ [u ++ [c]]).length ∧ ∃ (S_1 : List Rw) (td : List Wd) (x3 x4 x5 x6 : Option Sl), e2 = [sv d, ov (.dic (tD S_1)), ov (.lst (td.map D.str)), x3, x4, x5, x6] ∧ Sh x3 ∧ Sh x4 ∧ Sh x5 ∧ Sh x6 ∧ Tw n S_1 ∧ Te T S_1 ∧ S_1.length ≤ T.length ∧ m = S_1.length + td.length ∧ Wt S_1 td ∧ (∀ t ∈ td, Bin t ∧ t.length ≤ n) ∧ td.length ≤ T.length) fun o => W (seq1 (sRetF (eLc (iL (oE (eA sortD (aCons (oE (eA listD (aCons (oS 1) aNil))) aNil)))) [3] (gN 3) (eK (.bl true)) (eDisp .tup (aCons (oE (eVar 3)) (aCons (oE (eOp2 getD' (oS 1) (oS 3))) aNil))))) o) fun a => W (fn1 [Kd.sh] (some a)) fun r => r = .ok true (rowsD (few T)) [.non]) := fun y5 y6 q5 q6 => W.ret (Aft.nx ⟨S.length + r.length, by simp, S, r, _, _, _, _, rfl, Sh.sh _, Sh.sh _, q5, q6, hS, te, sl, rfl, wt2, hr', by omega⟩)
              have q5 := Sh.sh (.str y0)
              have q6 := Sh.sh (.str y1)
              clear wt hu m0 m1 b0 wt2
              by_cases d1 : y0.drop (y0.length - 1) = [48]
              · by_cases d2 : y1.drop (y1.length - 1) = [49]
                · have d3 : ¬ y0.dropLast = y1.dropLast := fun z => c3 ⟨d1, d2, z⟩
                  clear c3
                  have fin := fin _ _ q5 q6
                  walk_at "eh"
                · clear c3
                  have fin := fin _ _ q5 q6
                  walk_at "eh"
              · clear c3
                have fin := fin _ _ q5 q6
                walk_at "eh"
          · have wt2 := wt.pop fun a v e n0 n1 => by
              have := hu a e
              subst this
              exact c2 (List.mem_map.mpr ⟨_, n1, rfl⟩)
            clear wt hu
            walk_at "eh"
            exact W.ret (Aft.nx ⟨S.length + r.length, by simp, S, r, _, _, _, _, rfl, Sh.sh _, Sh.sh _, s5, s6, hS, te, sl, rfl, wt2, hr', by omega⟩)
        · have wt2 := wt.pop fun a v e n0 n1 => by
            have := hu a e
            subst this
            exact c1 (List.mem_map.mpr ⟨_, n0, rfl⟩)
          clear wt hu
          walk_at "eh"
          exact W.ret (Aft.nx ⟨S.length + r.length, by simp, S, r, _, _, _, _, rfl, Sh.sh _, Sh.sh _, s5, s6, hS, te, sl, rfl, wt2, hr', by omega⟩)
  rcases hd with rfl | rfl
  · walk_at "eh"
  · walk_at "eh"
end Lw
namespace Lw
open PySem PySem.Spec L2 Qd Qm
local macro_rules | `(tactic| walk_at "ev") => `(tactic| simp only [eVar_eq, eVar_k1, eK_eq, oS_eq, oS_k1, oE_eq, oE_k1, fetch_d, fetch_s, fetch_k1, eOp2_eq, op2k1_eq, op2k2_eq, op2k3_eq, op2k4_eq, pr_some, aNil_eq, aC2_eq, aCons_eq, aC1_eq, fetchs_nil, fts2_eq, fetchs_cons, fts1_eq, eA_eq, eA1_eq, eA2_eq, allD_nil, allD_cons, eDisp_eq, eD1_eq, eD2_0, eD2_1, eD2_2, eD2_3, eD2_4, eD2_5, eD2_6, pNo_eq, pAt_eq, pAt1_eq, eSl_eq, sl1_eq, sl2_eq, sl3_eq, sl4_eq, eAnd_eq, and1_eq, eOr_eq, or1_eq, eNot_eq, not1_eq, eIf_eq, if1_eq, eNeg_eq, neg1_eq, eM_eq, m0_eq, m1_str, m1_lst, m2_eq, m3_eq, m4_eq, mu4_eq, mu3_ow, mu3_pn, mu2_eq, mu1_eq, mu0_eq, eMut_eq, sSeq_eq, seq1_nx, seq1_bk, seq1_ct, seq1_rt, sNil_eq, sBk_eq, sCt_eq, sRetN_eq, sE_eq, se1_eq, sRet_eq, sRetF_eq, sret1_eq, sRetOw_eq, sRetOw1_eq, sIf_eq, sif1_eq, sg2_eq, sG_eq, sg1_eq, okSet_eq, okk_none, okk_sh, okk_ow, gN_eq, sOw_eq, ow1_eq, sFz_eq, fz1_ow, fz1_sh, fz1_pn, fz1_no, stl3_eq, stl2_ow, stl2_pn, stl1_eq, sSetL_eq, sFor_eq, sfor1_eq, sWhile_eq, iL_eq, il1_eq, il2_eq, bOf_d, bOf_s, iR1_eq, ir1_eq, fn1_rt, fn1_nx, eCall_eq, eCallF_eq, cv1_eq, cv2_1, cv2_2, cv2_3, cv3_eq, cvE_eq, cvF_eq, eCallB_eq, cb0_eq, cb1_1, cb1_2, cb1_3, cb2_bl, cb2_int, cb2_str, eCallP_eq, eCallPF_eq, cp0_eq, cp1_eq, cp2_eq, cp3_ow0, cp3_ow1, cp3_ow2, cp3_pn0, cp3_pn1, cp3_pn2, cp4_eq, eLc_eq, lc2_eq, eDc_eq, dc2_eq, bnd_some, mp_some, gt0, gtS, st0, stS, if_true, if_false, if_pos, Bool.true_eq_false, Bool.false_eq_true, stl0_eq2, stk_eq, ix0, ix1, ix2, ix3, ix4, ixT0, ixT1, ixT2, addD_i, subD_i, ltD_i, ltD_s, leD_i, gtD_i, gtD_s, geD_i, powD_18, lenD_l, lenD_t, lenD_d, eqD_s, neD_s, eqD_i, neD_i, decide_eq_true_eq, ↓reduceIte, decide_true, decide_false, not_true_eq_false, not_false_eq_true, Bool.not_true, Bool.not_false, List.length_map, List.length_cons, List.length_nil, Int.reduceLT, Int.reduceLE, Int.reduceNeg, and_self, and_true, true_and, mulD_r, mulD_l, modD_i, fdivD_i, Int.reduceAdd, Nat.reduceAdd, ixN50, ixN51, ixN52, ixN53, ixN54, slL_eq, slL_scr, listD_l, cut_up, cut_last, cut_all, slS_eq, inD_ls, inD_keys, wipe0, wipe1, rest0, rest1, gd_some, gd_none, decide_not, Bool.not_eq_true', decide_eq_false_iff_not, Classical.not_not, gPop_eq, allB_eq, List.nil_append, pk4_eq, pk3_ow, pk3_pn, pk2_eq, pk1_s, pk1_i, pk0_eq, ePopK_eq, sk3_eq, sk2_s, sk2_i, sk1_eq, sk0_eq, sSetK_eq, listD_keys, neD_nil, dropD_keys, eq_self, isi_non_bool, isi_non_int, isi_non_str, isi_non_tuple, isi_non_list, isi_bl_bool, isi_bl_int, isi_bl_str, isi_bl_tuple, isi_bl_list, isi_int_bool, isi_int_int, isi_int_str, isi_int_tuple, isi_int_list, isi_str_bool, isi_str_int, isi_str_str, isi_str_tuple, isi_str_list, isi_tup_bool, isi_tup_int, isi_tup_str, isi_tup_tuple, isi_tup_list, isi_lst_bool, isi_lst_int, isi_lst_str, isi_lst_tuple, isi_lst_list, isN_non, isN_bl, isN_int, isN_str, isN_tup, isN_lst, eqD_b, neD_b, startsD_eq, anyB_map, allB_map, sumD_map, maxD1_map, notInD_ls, notInD_keys, gsNil_eq, gsCons_eq, gsk_eq, gT2_eq, gT3_eq, iZ_eq, iz0_eq, iz1_eq, iz2_eq, sPin_eq, pin0_ow, pin0_sh, unpin_eq, unp_pn, pin1_nx, pin1_rt, cut_to, cut_from1, eFld_eq, fd0_eq, fd1_eq, sFd_eq, sfd0_eq, sfd1_ow, sfd1_pn, sfd2_eq, eMeth_eq, eMethF_eq, me0_eq, me1_eq, me2_eq, me3_0, me3_1, me3_2, me3_3, eMethP_eq, eMethPF_eq, mp0_ow, mp0_pn, mp1_eq, eNew_eq, nw0_eq, nw1_0, nw1_1, nw1_2, nw2_eq, exEq_eq, xq0_eq, xq1_eq, xq2_eq, xq3_eq, iso_eq, iso1_t, iS_eq, is1_eq, is0_eq, iR2_eq, ir2a_eq, ir2c_eq, maxD2_i, inD_sign, lc1_go, lcc_eq, dc1_go, dcc_eq, now_nil, now_cons, now1_sh, now1_none, bsV_nil, bsV_cons, Bool.and_true, Bool.true_and, fld_b, fld_r, set_b0, set_r0, set_b1, set_r1, isC_end, hasM_settle0, hasM_settle, hasM_head, hasM_ring, hasM_first, hasM_signs, hasM_later, hasM_behind, hasM_below, hasM_under, hasM_begins, hasM_starts, hasM_before, nin_nil, nin_cons, Nat.reduceBNe, iK_eq, ik0_eq, keyD_keys, eGet2_eq, ge0_eq, ge1_s, ge2_eq, ge3_eq, eLenM_eq, lm0_eq, lm1_eq, new0_1, parC_t, par2_go, sPar_eq, par0_eq, iLT_eq, lt1_eq, lt2_l, lt2_t, fld_k, isC_sw, hasW_rows, hasW_of, hasW_leads, hasW_then, hasW_back, hasW_power, hasW_seen, hasW_within, hasW_fixed, hasW_parted, inD_tD, listD_tD, valD_tD, iEn_eq, en1_eq, en2_eq, dropD_tDT, set_k0T, set_k1T])
local macro_rules | `(tactic| walk_at "eh") => `(tactic| simp only [eVar_eq, eVar_k1, eK_eq, oS_eq, oS_k1, oE_eq, oE_k1, fetch_d, fetch_s, fetch_k1, eOp2_eq, op2k1_eq, op2k2_eq, op2k3_eq, op2k4_eq, pr_some, aNil_eq, aC2_eq, aCons_eq, aC1_eq, fetchs_nil, fts2_eq, fetchs_cons, fts1_eq, eA_eq, eA1_eq, eA2_eq, allD_nil, allD_cons, eDisp_eq, eD1_eq, eD2_0, eD2_1, eD2_2, eD2_3, eD2_4, eD2_5, eD2_6, pNo_eq, pAt_eq, pAt1_eq, eSl_eq, sl1_eq, sl2_eq, sl3_eq, sl4_eq, eAnd_eq, and1_eq, eOr_eq, or1_eq, eNot_eq, not1_eq, eIf_eq, if1_eq, eNeg_eq, neg1_eq, eM_eq, m0_eq, m1_str, m1_lst, m2_eq, m3_eq, m4_eq, mu4_eq, mu3_ow, mu3_pn, mu2_eq, mu1_eq, mu0_eq, eMut_eq, sSeq_eq, seq1_nx, seq1_bk, seq1_ct, seq1_rt, sNil_eq, sBk_eq, sCt_eq, sRetN_eq, sE_eq, se1_eq, sRet_eq, sRetF_eq, sret1_eq, sRetOw_eq, sRetOw1_eq, sIf_eq, sif1_eq, sg2_eq, sG_eq, sg1_eq, okSet_eq, okk_none, okk_sh, okk_ow, gN_eq, sOw_eq, ow1_eq, sFz_eq, fz1_ow, fz1_sh, fz1_pn, fz1_no, stl3_eq, stl2_ow, stl2_pn, stl1_eq, sSetL_eq, sFor_eq, sfor1_eq, sWhile_eq, iL_eq, il1_eq, il2_eq, bOf_d, bOf_s, iR1_eq, ir1_eq, fn1_rt, fn1_nx, eCall_eq, eCallF_eq, cv1_eq, cv2_1, cv2_2, cv2_3, cv3_eq, cvE_eq, cvF_eq, eCallB_eq, cb0_eq, cb1_1, cb1_2, cb1_3, cb2_bl, cb2_int, cb2_str, eCallP_eq, eCallPF_eq, cp0_eq, cp1_eq, cp2_eq, cp3_ow0, cp3_ow1, cp3_ow2, cp3_pn0, cp3_pn1, cp3_pn2, cp4_eq, eLc_eq, lc2_eq, eDc_eq, dc2_eq, bnd_some, mp_some, gt0, gtS, st0, stS, if_true, if_false, if_pos, Bool.true_eq_false, Bool.false_eq_true, stl0_eq2, stk_eq, ix0, ix1, ix2, ix3, ix4, ixT0, ixT1, ixT2, addD_i, subD_i, ltD_i, ltD_s, leD_i, gtD_i, gtD_s, geD_i, powD_18, lenD_l, lenD_t, lenD_d, eqD_s, neD_s, eqD_i, neD_i, decide_eq_true_eq, ↓reduceIte, decide_true, decide_false, not_true_eq_false, not_false_eq_true, Bool.not_true, Bool.not_false, List.length_map, List.length_cons, List.length_nil, Int.reduceLT, Int.reduceLE, Int.reduceNeg, and_self, and_true, true_and, mulD_r, mulD_l, modD_i, fdivD_i, Int.reduceAdd, Nat.reduceAdd, ixN50, ixN51, ixN52, ixN53, ixN54, slL_eq, slL_scr, listD_l, cut_up, cut_last, cut_all, slS_eq, inD_ls, inD_keys, wipe0, wipe1, rest0, rest1, gd_some, gd_none, decide_not, Bool.not_eq_true', decide_eq_false_iff_not, Classical.not_not, gPop_eq, allB_eq, List.nil_append, pk4_eq, pk3_ow, pk3_pn, pk2_eq, pk1_s, pk1_i, pk0_eq, ePopK_eq, sk3_eq, sk2_s, sk2_i, sk1_eq, sk0_eq, sSetK_eq, listD_keys, neD_nil, dropD_keys, eq_self, isi_non_bool, isi_non_int, isi_non_str, isi_non_tuple, isi_non_list, isi_bl_bool, isi_bl_int, isi_bl_str, isi_bl_tuple, isi_bl_list, isi_int_bool, isi_int_int, isi_int_str, isi_int_tuple, isi_int_list, isi_str_bool, isi_str_int, isi_str_str, isi_str_tuple, isi_str_list, isi_tup_bool, isi_tup_int, isi_tup_str, isi_tup_tuple, isi_tup_list, isi_lst_bool, isi_lst_int, isi_lst_str, isi_lst_tuple, isi_lst_list, isN_non, isN_bl, isN_int, isN_str, isN_tup, isN_lst, eqD_b, neD_b, startsD_eq, anyB_map, allB_map, sumD_map, maxD1_map, notInD_ls, notInD_keys, gsNil_eq, gsCons_eq, gsk_eq, gT2_eq, gT3_eq, iZ_eq, iz0_eq, iz1_eq, iz2_eq, sPin_eq, pin0_ow, pin0_sh, unpin_eq, unp_pn, pin1_nx, pin1_rt, cut_to, cut_from1, eFld_eq, fd0_eq, fd1_eq, sFd_eq, sfd0_eq, sfd1_ow, sfd1_pn, sfd2_eq, eMeth_eq, eMethF_eq, me0_eq, me1_eq, me2_eq, me3_0, me3_1, me3_2, me3_3, eMethP_eq, eMethPF_eq, mp0_ow, mp0_pn, mp1_eq, eNew_eq, nw0_eq, nw1_0, nw1_1, nw1_2, nw2_eq, exEq_eq, xq0_eq, xq1_eq, xq2_eq, xq3_eq, iso_eq, iso1_t, iS_eq, is1_eq, is0_eq, iR2_eq, ir2a_eq, ir2c_eq, maxD2_i, inD_sign, lc1_go, lcc_eq, dc1_go, dcc_eq, now_nil, now_cons, now1_sh, now1_none, bsV_nil, bsV_cons, Bool.and_true, Bool.true_and, fld_b, fld_r, set_b0, set_r0, set_b1, set_r1, isC_end, hasM_settle0, hasM_settle, hasM_head, hasM_ring, hasM_first, hasM_signs, hasM_later, hasM_behind, hasM_below, hasM_under, hasM_begins, hasM_starts, hasM_before, nin_nil, nin_cons, Nat.reduceBNe, iK_eq, ik0_eq, keyD_keys, eGet2_eq, ge0_eq, ge1_s, ge2_eq, ge3_eq, eLenM_eq, lm0_eq, lm1_eq, new0_1, parC_t, par2_go, sPar_eq, par0_eq, iLT_eq, lt1_eq, lt2_l, lt2_t, fld_k, isC_sw, hasW_rows, hasW_of, hasW_leads, hasW_then, hasW_back, hasW_power, hasW_seen, hasW_within, hasW_fixed, hasW_parted, inD_tD, listD_tD, valD_tD, iEn_eq, en1_eq, en2_eq, dropD_tDT, set_k0T, set_k1T, *])
theorem is_signs_run (x : Wd) (hx : x.length ≤ 100000) : fnF [.sh] 1 F_is_signs [.str x] = some (.ok false (.bl (bits x)) [.non]) := by
  rw [fnF_eq _ _ _ _ rfl]
  show fn1 [.sh] (F_is_signs [sv (.str x), none]) = _
  unfold F_is_signs
  walk_at "ev"
  rw [lcL_map (fun c => D.str [c]) (fun c => .bl (decide (c ∈ [48, 49]))) rfl x (by omega) fun c hc => ⟨[sv (.str x), sv (.str [c])], by walk_at "ev", by walk_at "ev", by walk_at "ev", by walk_at "ev"⟩]
  walk_at "ev"
  rfl
theorem is_head_run {g : FN} (hg : ∀ x : Wd, x.length ≤ 100000 → g [.str x] = some (.ok false (.bl (bits x)) [.non])) (x : Wd) (hx : x.length ≤ 100000) : fnF [.sh] 0 (F_is_head g) [.str x] = some (.ok false (.bl (decide ((x.length : Int) ≤ 60) && bits x)) [.non]) := by
  rw [fnF_eq _ _ _ _ rfl]
  show fn1 [.sh] (F_is_head g [sv (.str x)]) = _
  unfold F_is_head
  have h1 := lenD_s x (by omega)
  have h2 := hg x hx
  by_cases c : (x.length : Int) ≤ 60
  · walk_at "eh"
    rfl
  · walk_at "eh"
    rfl
theorem need_head_run {g : FN} (hg : ∀ x : Wd, x.length ≤ 100000 → g [.str x] = some (.ok false (.bl (decide ((x.length : Int) ≤ 60) && bits x)) [.non])) (x : Wd) (hx : x.length ≤ 60) (hb : Bin x) : fnF [.sh] 0 (F_need_head g) [.str x] = some (.ok false .non [.non]) := by
  rw [fnF_eq _ _ _ _ rfl]
  show fn1 [.sh] (F_need_head g [sv (.str x)]) = _
  unfold F_need_head
  have h2 := hg x (by omega)
  rw [bits_iff.mpr hb, decide_eq_true (by omega)] at h2
  walk_at "eh"
  rfl
end Lw
namespace Lw
open PySem PySem.Spec L2 Qd Qm
local macro_rules | `(tactic| walk_at "ev") => `(tactic| simp only [eVar_eq, eVar_k1, eK_eq, oS_eq, oS_k1, oE_eq, oE_k1, fetch_d, fetch_s, fetch_k1, eOp2_eq, op2k1_eq, op2k2_eq, op2k3_eq, op2k4_eq, pr_some, aNil_eq, aC2_eq, aCons_eq, aC1_eq, fetchs_nil, fts2_eq, fetchs_cons, fts1_eq, eA_eq, eA1_eq, eA2_eq, allD_nil, allD_cons, eDisp_eq, eD1_eq, eD2_0, eD2_1, eD2_2, eD2_3, eD2_4, eD2_5, eD2_6, pNo_eq, pAt_eq, pAt1_eq, eSl_eq, sl1_eq, sl2_eq, sl3_eq, sl4_eq, eAnd_eq, and1_eq, eOr_eq, or1_eq, eNot_eq, not1_eq, eIf_eq, if1_eq, eNeg_eq, neg1_eq, eM_eq, m0_eq, m1_str, m1_lst, m2_eq, m3_eq, m4_eq, mu4_eq, mu3_ow, mu3_pn, mu2_eq, mu1_eq, mu0_eq, eMut_eq, sSeq_eq, seq1_nx, seq1_bk, seq1_ct, seq1_rt, sNil_eq, sBk_eq, sCt_eq, sRetN_eq, sE_eq, se1_eq, sRet_eq, sRetF_eq, sret1_eq, sRetOw_eq, sRetOw1_eq, sIf_eq, sif1_eq, sg2_eq, sG_eq, sg1_eq, okSet_eq, okk_none, okk_sh, okk_ow, gN_eq, sOw_eq, ow1_eq, sFz_eq, fz1_ow, fz1_sh, fz1_pn, fz1_no, stl3_eq, stl2_ow, stl2_pn, stl1_eq, sSetL_eq, sFor_eq, sfor1_eq, sWhile_eq, iL_eq, il1_eq, il2_eq, bOf_d, bOf_s, iR1_eq, ir1_eq, fn1_rt, fn1_nx, eCall_eq, eCallF_eq, cv1_eq, cv2_1, cv2_2, cv2_3, cv3_eq, cvE_eq, cvF_eq, eCallB_eq, cb0_eq, cb1_1, cb1_2, cb1_3, cb2_bl, cb2_int, cb2_str, eCallP_eq, eCallPF_eq, cp0_eq, cp1_eq, cp2_eq, cp3_ow0, cp3_ow1, cp3_ow2, cp3_pn0, cp3_pn1, cp3_pn2, cp4_eq, eLc_eq, lc2_eq, eDc_eq, dc2_eq, bnd_some, mp_some, gt0, gtS, st0, stS, if_true, if_false, if_pos, Bool.true_eq_false, Bool.false_eq_true, stl0_eq2, stk_eq, ix0, ix1, ix2, ix3, ix4, ixT0, ixT1, ixT2, addD_i, subD_i, ltD_i, ltD_s, leD_i, gtD_i, gtD_s, geD_i, powD_18, lenD_l, lenD_t, lenD_d, eqD_s, neD_s, eqD_i, neD_i, decide_eq_true_eq, ↓reduceIte, decide_true, decide_false, not_true_eq_false, not_false_eq_true, Bool.not_true, Bool.not_false, List.length_map, List.length_cons, List.length_nil, Int.reduceLT, Int.reduceLE, Int.reduceNeg, and_self, and_true, true_and, mulD_r, mulD_l, modD_i, fdivD_i, Int.reduceAdd, Nat.reduceAdd, ixN50, ixN51, ixN52, ixN53, ixN54, slL_eq, slL_scr, listD_l, cut_up, cut_last, cut_all, slS_eq, inD_ls, inD_keys, wipe0, wipe1, rest0, rest1, gd_some, gd_none, decide_not, Bool.not_eq_true', decide_eq_false_iff_not, Classical.not_not, gPop_eq, allB_eq, List.nil_append, pk4_eq, pk3_ow, pk3_pn, pk2_eq, pk1_s, pk1_i, pk0_eq, ePopK_eq, sk3_eq, sk2_s, sk2_i, sk1_eq, sk0_eq, sSetK_eq, listD_keys, neD_nil, dropD_keys, eq_self, isi_non_bool, isi_non_int, isi_non_str, isi_non_tuple, isi_non_list, isi_bl_bool, isi_bl_int, isi_bl_str, isi_bl_tuple, isi_bl_list, isi_int_bool, isi_int_int, isi_int_str, isi_int_tuple, isi_int_list, isi_str_bool, isi_str_int, isi_str_str, isi_str_tuple, isi_str_list, isi_tup_bool, isi_tup_int, isi_tup_str, isi_tup_tuple, isi_tup_list, isi_lst_bool, isi_lst_int, isi_lst_str, isi_lst_tuple, isi_lst_list, isN_non, isN_bl, isN_int, isN_str, isN_tup, isN_lst, eqD_b, neD_b, startsD_eq, anyB_map, allB_map, sumD_map, maxD1_map, notInD_ls, notInD_keys, gsNil_eq, gsCons_eq, gsk_eq, gT2_eq, gT3_eq, iZ_eq, iz0_eq, iz1_eq, iz2_eq, sPin_eq, pin0_ow, pin0_sh, unpin_eq, unp_pn, pin1_nx, pin1_rt, cut_to, cut_from1, eFld_eq, fd0_eq, fd1_eq, sFd_eq, sfd0_eq, sfd1_ow, sfd1_pn, sfd2_eq, eMeth_eq, eMethF_eq, me0_eq, me1_eq, me2_eq, me3_0, me3_1, me3_2, me3_3, eMethP_eq, eMethPF_eq, mp0_ow, mp0_pn, mp1_eq, eNew_eq, nw0_eq, nw1_0, nw1_1, nw1_2, nw2_eq, exEq_eq, xq0_eq, xq1_eq, xq2_eq, xq3_eq, iso_eq, iso1_t, iS_eq, is1_eq, is0_eq, iR2_eq, ir2a_eq, ir2c_eq, maxD2_i, inD_sign, lc1_go, lcc_eq, dc1_go, dcc_eq, now_nil, now_cons, now1_sh, now1_none, bsV_nil, bsV_cons, Bool.and_true, Bool.true_and, fld_b, fld_r, set_b0, set_r0, set_b1, set_r1, isC_end, hasM_settle0, hasM_settle, hasM_head, hasM_ring, hasM_first, hasM_signs, hasM_later, hasM_behind, hasM_below, hasM_under, hasM_begins, hasM_starts, hasM_before, nin_nil, nin_cons, Nat.reduceBNe, iK_eq, ik0_eq, keyD_keys, eGet2_eq, ge0_eq, ge1_s, ge2_eq, ge3_eq, eLenM_eq, lm0_eq, lm1_eq, new0_1, parC_t, par2_go, sPar_eq, par0_eq, iLT_eq, lt1_eq, lt2_l, lt2_t, fld_k, isC_sw, hasW_rows, hasW_of, hasW_leads, hasW_then, hasW_back, hasW_power, hasW_seen, hasW_within, hasW_fixed, hasW_parted, inD_tD, listD_tD, valD_tD, iEn_eq, en1_eq, en2_eq, dropD_tDT, set_k0T, set_k1T])
local macro_rules | `(tactic| walk_at "eh") => `(tactic| simp only [eVar_eq, eVar_k1, eK_eq, oS_eq, oS_k1, oE_eq, oE_k1, fetch_d, fetch_s, fetch_k1, eOp2_eq, op2k1_eq, op2k2_eq, op2k3_eq, op2k4_eq, pr_some, aNil_eq, aC2_eq, aCons_eq, aC1_eq, fetchs_nil, fts2_eq, fetchs_cons, fts1_eq, eA_eq, eA1_eq, eA2_eq, allD_nil, allD_cons, eDisp_eq, eD1_eq, eD2_0, eD2_1, eD2_2, eD2_3, eD2_4, eD2_5, eD2_6, pNo_eq, pAt_eq, pAt1_eq, eSl_eq, sl1_eq, sl2_eq, sl3_eq, sl4_eq, eAnd_eq, and1_eq, eOr_eq, or1_eq, eNot_eq, not1_eq, eIf_eq, if1_eq, eNeg_eq, neg1_eq, eM_eq, m0_eq, m1_str, m1_lst, m2_eq, m3_eq, m4_eq, mu4_eq, mu3_ow, mu3_pn, mu2_eq, mu1_eq, mu0_eq, eMut_eq, sSeq_eq, seq1_nx, seq1_bk, seq1_ct, seq1_rt, sNil_eq, sBk_eq, sCt_eq, sRetN_eq, sE_eq, se1_eq, sRet_eq, sRetF_eq, sret1_eq, sRetOw_eq, sRetOw1_eq, sIf_eq, sif1_eq, sg2_eq, sG_eq, sg1_eq, okSet_eq, okk_none, okk_sh, okk_ow, gN_eq, sOw_eq, ow1_eq, sFz_eq, fz1_ow, fz1_sh, fz1_pn, fz1_no, stl3_eq, stl2_ow, stl2_pn, stl1_eq, sSetL_eq, sFor_eq, sfor1_eq, sWhile_eq, iL_eq, il1_eq, il2_eq, bOf_d, bOf_s, iR1_eq, ir1_eq, fn1_rt, fn1_nx, eCall_eq, eCallF_eq, cv1_eq, cv2_1, cv2_2, cv2_3, cv3_eq, cvE_eq, cvF_eq, eCallB_eq, cb0_eq, cb1_1, cb1_2, cb1_3, cb2_bl, cb2_int, cb2_str, eCallP_eq, eCallPF_eq, cp0_eq, cp1_eq, cp2_eq, cp3_ow0, cp3_ow1, cp3_ow2, cp3_pn0, cp3_pn1, cp3_pn2, cp4_eq, eLc_eq, lc2_eq, eDc_eq, dc2_eq, bnd_some, mp_some, gt0, gtS, st0, stS, if_true, if_false, if_pos, Bool.true_eq_false, Bool.false_eq_true, stl0_eq2, stk_eq, ix0, ix1, ix2, ix3, ix4, ixT0, ixT1, ixT2, addD_i, subD_i, ltD_i, ltD_s, leD_i, gtD_i, gtD_s, geD_i, powD_18, lenD_l, lenD_t, lenD_d, eqD_s, neD_s, eqD_i, neD_i, decide_eq_true_eq, ↓reduceIte, decide_true, decide_false, not_true_eq_false, not_false_eq_true, Bool.not_true, Bool.not_false, List.length_map, List.length_cons, List.length_nil, Int.reduceLT, Int.reduceLE, Int.reduceNeg, and_self, and_true, true_and, mulD_r, mulD_l, modD_i, fdivD_i, Int.reduceAdd, Nat.reduceAdd, ixN50, ixN51, ixN52, ixN53, ixN54, slL_eq, slL_scr, listD_l, cut_up, cut_last, cut_all, slS_eq, inD_ls, inD_keys, wipe0, wipe1, rest0, rest1, gd_some, gd_none, decide_not, Bool.not_eq_true', decide_eq_false_iff_not, Classical.not_not, gPop_eq, allB_eq, List.nil_append, pk4_eq, pk3_ow, pk3_pn, pk2_eq, pk1_s, pk1_i, pk0_eq, ePopK_eq, sk3_eq, sk2_s, sk2_i, sk1_eq, sk0_eq, sSetK_eq, listD_keys, neD_nil, dropD_keys, eq_self, isi_non_bool, isi_non_int, isi_non_str, isi_non_tuple, isi_non_list, isi_bl_bool, isi_bl_int, isi_bl_str, isi_bl_tuple, isi_bl_list, isi_int_bool, isi_int_int, isi_int_str, isi_int_tuple, isi_int_list, isi_str_bool, isi_str_int, isi_str_str, isi_str_tuple, isi_str_list, isi_tup_bool, isi_tup_int, isi_tup_str, isi_tup_tuple, isi_tup_list, isi_lst_bool, isi_lst_int, isi_lst_str, isi_lst_tuple, isi_lst_list, isN_non, isN_bl, isN_int, isN_str, isN_tup, isN_lst, eqD_b, neD_b, startsD_eq, anyB_map, allB_map, sumD_map, maxD1_map, notInD_ls, notInD_keys, gsNil_eq, gsCons_eq, gsk_eq, gT2_eq, gT3_eq, iZ_eq, iz0_eq, iz1_eq, iz2_eq, sPin_eq, pin0_ow, pin0_sh, unpin_eq, unp_pn, pin1_nx, pin1_rt, cut_to, cut_from1, eFld_eq, fd0_eq, fd1_eq, sFd_eq, sfd0_eq, sfd1_ow, sfd1_pn, sfd2_eq, eMeth_eq, eMethF_eq, me0_eq, me1_eq, me2_eq, me3_0, me3_1, me3_2, me3_3, eMethP_eq, eMethPF_eq, mp0_ow, mp0_pn, mp1_eq, eNew_eq, nw0_eq, nw1_0, nw1_1, nw1_2, nw2_eq, exEq_eq, xq0_eq, xq1_eq, xq2_eq, xq3_eq, iso_eq, iso1_t, iS_eq, is1_eq, is0_eq, iR2_eq, ir2a_eq, ir2c_eq, maxD2_i, inD_sign, lc1_go, lcc_eq, dc1_go, dcc_eq, now_nil, now_cons, now1_sh, now1_none, bsV_nil, bsV_cons, Bool.and_true, Bool.true_and, fld_b, fld_r, set_b0, set_r0, set_b1, set_r1, isC_end, hasM_settle0, hasM_settle, hasM_head, hasM_ring, hasM_first, hasM_signs, hasM_later, hasM_behind, hasM_below, hasM_under, hasM_begins, hasM_starts, hasM_before, nin_nil, nin_cons, Nat.reduceBNe, iK_eq, ik0_eq, keyD_keys, eGet2_eq, ge0_eq, ge1_s, ge2_eq, ge3_eq, eLenM_eq, lm0_eq, lm1_eq, new0_1, parC_t, par2_go, sPar_eq, par0_eq, iLT_eq, lt1_eq, lt2_l, lt2_t, fld_k, isC_sw, hasW_rows, hasW_of, hasW_leads, hasW_then, hasW_back, hasW_power, hasW_seen, hasW_within, hasW_fixed, hasW_parted, inD_tD, listD_tD, valD_tD, iEn_eq, en1_eq, en2_eq, dropD_tDT, set_k0T, set_k1T, *])
theorem rep_mod {r : Wd} {k : Nat} (hk : k ≤ r.length) (h : rep r k) : r.length % k = 0 := Nat.mod_eq_zero_of_dvd (rep_dvd hk h)
theorem shortest_run (r : Wd) (h0 : 0 < r.length) (hr : r.length ≤ 5000) : fnF [.sh] 1 F_shortest_ring [.str r] = some (.ok false (.str (short r)) [.non]) := by
  apply W.eq
  rw [fnF_eq _ _ _ _ rfl]
  show W (fn1 [.sh] (F_shortest_ring [sv (.str r), none])) _
  unfold F_shortest_ring
  have h1 := lenD_s r (by omega)
  have n1 : -1000000000 ≤ (1 : Int) ∧ (1 : Int) < 1000000000 ∧ -1000000000 ≤ (r.length : Int) ∧ (r.length : Int) < 1000000000 := by omega
  have n2 := fun e => ir2d_eq 1 r.length e n1
  walk_at "eh"
  refine W.fnK (W.forK (fun items e => ∃ (k : Nat) (x : Option Sl), e = [sv (.str r), x] ∧ Sh x ∧ 0 < k ∧ items = rng (k : Int) (r.length - k) ∧ ∀ j, 0 < j → j < k → j < r.length → ¬ rep r j) ?_ ?_ ?_)
  · exact ⟨1, none, rfl, Sh.no, by omega, by congr 1; omega, fun j a b c => by omega⟩
  · rintro e ⟨k, x, rfl, sx, hk, hi, hno⟩
    have hl : r.length ≤ k := by
      have := congrArg List.length hi
      rw [rng_len] at this
      simp at this
      omega
    have hm : Min r r.length := ⟨h0, Nat.le_refl _, rep_self r h0, fun j a b => hno j a (by omega) b⟩
    have hs : short r = r := by rw [short_eq hm, List.take_length]
    refine ⟨rfl, ?_⟩
    walk_at "ev"
    rw [hs]
    exact W.ret (W.ret rfl)
  · rintro d ds e ⟨k, x, rfl, sx, hk, hi, hno⟩
    have hl : k < r.length := by
      have := congrArg List.length hi
      rw [rng_len] at this
      simp at this
      omega
    rw [show r.length - k = (r.length - (k + 1)) + 1 by omega, rng] at hi
    obtain ⟨rfl, rfl⟩ := List.cons.inj hi
    have o1 := sx.okk
    refine ⟨rfl, [sv (.str r), sv (.int (k : Int))], by walk_at "eh", ?_⟩
    have m1 := modD_i (r.length : Int) (k : Int) (by omega)
    have m2 := fdivD_i (r.length : Int) (k : Int) (by omega)
    have m3 : slS (.str r) none (some (k : Int)) = some (.str (r.take k)) := by rw [slS_eq _ _ _ (by omega), cut_to]
    have m4 := mulD_s (r.take k) (r.length / k) (by have := Nat.div_le_self r.length k; omega) (by
      rw [List.length_take, Nat.min_eq_left (by omega)]
      have := Nat.mul_div_le r.length k
      omega)
    rw [Int.natCast_ediv] at m4
    by_cases c : rep r k
    · have hz : (r.length : Int) % (k : Int) = 0 := by
        have := rep_mod (by omega) c
        omega
      have c2 : (List.replicate (r.length / k) (r.take k)).flatten = r := c
      have hm : Min r k := ⟨hk, by omega, c, fun j a b => hno j a b (by omega)⟩
      rw [short_eq hm]
      clear hno hm n1 n2
      rw [c2] at m4
      walk_at "eh"
      refine W.ret (Aft.rt ?_)
      walk_at "ev"
      exact W.ret (W.ret rfl)
    · have c2 : ¬ (List.replicate (r.length / k) (r.take k)).flatten = r := c
      have fin : ∃ (k_1 : Nat) (x : Option Sl), [sv (D.str r), sv (D.int (k : Int))] = [sv (D.str r), x] ∧ Sh x ∧ 0 < k_1 ∧ rng ((k : Int) + 1) (r.length - (k + 1)) = rng (k_1 : Int) (r.length - k_1) ∧ ∀ j, 0 < j → j < k_1 → j < r.length → ¬ rep r j := by
        refine ⟨k + 1, _, rfl, Sh.sh _, by omega, rfl, fun j a b d => ?_⟩
        by_cases e : j = k
        · rw [e]
          exact c
        · exact hno j a (by omega) d
      by_cases hz : (r.length : Int) % (k : Int) = 0
      · clear hno n1 n2
        walk_at "eh"
        exact W.ret (Aft.nx fin)
      · clear hno n1 n2
        walk_at "eh"
        exact W.ret (Aft.nx fin)
theorem snoc_of {h : Wd} (hn : h ≠ []) : ∃ u c, h = u ++ [c] := by
  rcases List.eq_nil_or_concat h with z | ⟨u, c, z⟩
  · exact absurd z hn
  · exact ⟨u, c, by rw [z, List.concat_eq_append]⟩
theorem roll_one {u v : Wd} {c : Nat} {X : Wd × Wd} (e : roll (u ++ [c]) (v ++ [c]) = X) : roll u (c :: v) = X := by rw [← e, roll_hit]
/-- the thing that settle is done on -/
def Eo (o : D) : Prop := o = .obj "Endless" [] ∨ ∃ a b, o = endD a b
theorem settle_run {g : FN} (hg : ∀ r : Wd, 0 < r.length → r.length ≤ 5000 → g [.str r] = some (.ok false (.str (short r)) [.non])) (o : D) (ho : Eo o) (h r : Wd) (h0 : 0 < r.length) (hr : r.length ≤ 5000) (hh : h.length ≤ 100000) : fnF [.pn, .sh, .sh] 0 (F_Endless__settle g) [o, .str h, .str r] = some (.ok false .non [endD (can h r).1 (can h r).2, .non, .non]) := by
  apply W.eq
  rw [fnF_eq _ _ _ _ rfl]
  show W (fn1 [.pn, .sh, .sh] (F_Endless__settle g [pv o, sv (.str h), sv (.str r)])) _
  unfold F_Endless__settle
  have h1 := hg r h0 hr
  walk_at "eh"
  obtain ⟨k, hk, es⟩ := short_min h0
  have hs0 : 0 < (short r).length := by rw [es, List.length_take]; have := hk.1; have := hk.2.1; omega
  have hs1 : (short r).length ≤ 5000 := by rw [es, List.length_take]; omega
  refine W.fnK (W.whK (fun n e => ∃ a b : Wd, e = [pv o, sv (.str a), sv (.str b)] ∧ n = a.length ∧ a.length ≤ 100000 ∧ 0 < b.length ∧ b.length ≤ 5000 ∧ roll a b = can h r) h.length (by unfold FU; omega) ⟨h, short r, rfl, rfl, hh, hs0, hs1, rfl⟩ ?_)
  rintro n e ⟨a, b, rfl, rfl, ha, hb0, hb1, hq⟩
  have fin : roll a b = (a, b) → W (seq1 (sSeq (sFd 0 "Endless" "begun" (eVar 1)) (sFd 0 "Endless" "round" (eVar 2))) (.nx [pv o, sv (.str a), sv (.str b)])) fun a_1 => W (fn1 [.pn, .sh, .sh] (some a_1)) fun r_1 => r_1 = .ok false .non [endD (can h r).1 (can h r).2, .non, .non] := fun z => by
    rw [← hq, z]
    clear h1 hg hq z
    rcases ho with rfl | ⟨x, y, rfl⟩
    · walk_at "ev"
      exact W.ret (W.ret rfl)
    · walk_at "ev"
      exact W.ret (W.ret rfl)
  by_cases c : a = []
  · subst c
    refine ⟨false, [pv o, sv (.str []), sv (.str b)], by walk_at "ev", ?_⟩
    rw [if_neg (by decide)]
    exact fin (roll_nil b)
  · obtain ⟨u, x, rfl⟩ := snoc_of c
    obtain ⟨v, y, rfl⟩ := snoc_of (show b ≠ [] from fun z => by rw [z] at hb0; simp at hb0)
    have l1 := ixS_last u x (by simp at ha; omega)
    have l2 := ixS_last v y (by simp at hb1; omega)
    by_cases q : x = y
    · subst q
      refine ⟨true, [pv o, sv (.str (u ++ [x])), sv (.str (v ++ [x]))], by walk_at "eh", ?_⟩
      rw [if_pos rfl]
      have l3 := slS_eq (v ++ [x]) none (some (-1)) (by omega)
      have l4 := slS_eq (u ++ [x]) none (some (-1)) (by omega)
      rw [cut_up, List.dropLast_concat] at l3 l4
      have l5 := addD_s [x] v (by simp at hb1 ⊢; omega)
      clear fin c
      walk_at "eh"
      refine W.ret (Aft.nx ⟨u.length, by simp, u, [x] ++ v, rfl, rfl, by simp at ha; omega, by simp, by simp at hb1 ⊢; omega, ?_⟩)
      rw [← hq, roll_hit]
      rfl
    · have hx : ¬ [x] = [y] := fun z => q (by simpa using z)
      refine ⟨false, [pv o, sv (.str (u ++ [x])), sv (.str (v ++ [y]))], by walk_at "eh", ?_⟩
      rw [if_neg (by decide)]
      exact fin (roll_no u _ x (by simpa using fun z => q z.symm))
theorem init_run {gn gs : FN} (hn : ∀ x : Wd, x.length ≤ 60 → Bin x → gn [.str x] = some (.ok false .non [.non])) (hs : ∀ (o : D), Eo o → ∀ (h r : Wd), 0 < r.length → r.length ≤ 5000 → h.length ≤ 100000 → gs [o, .str h, .str r] = some (.ok false .non [endD (can h r).1 (can h r).2, .non, .non])) (h r : Wd) (h0 : 0 < r.length) (hr : r.length ≤ 60) (hh : h.length ≤ 60) (bh : Bin h) (br : Bin r) : fnF [.pn, .sh, .sh] 0 (F_Endless____init__ gn gs) [.obj "Endless" [], .str h, .str r] = some (.ok false .non [endD (can h r).1 (can h r).2, .non, .non]) := by
  rw [fnF_eq _ _ _ _ rfl]
  show fn1 [.pn, .sh, .sh] (F_Endless____init__ gn gs [pv (.obj "Endless" []), sv (.str h), sv (.str r)]) = _
  unfold F_Endless____init__
  have a1 := hn h hh bh
  have a2 := hn r hr br
  have a3 := hs (.obj "Endless" []) (.inl rfl) h r h0 (by omega) (by omega)
  have a4 : ¬ r = [] := fun z => by rw [z] at h0; simp at h0
  walk_at "eh"
  rfl
theorem first_run (h r : Wd) (h0 : 0 < r.length) (hr : r.length ≤ 5000) (hh : h.length ≤ 100000) (n : Nat) (hn : n ≤ 100000) : fnF [.sh, .sh] 1 F_Endless__first [endD h r, .int (n : Int)] = some (.ok false (.str (pre (sgn h r) n)) [.non, .non]) := by
  rw [fnF_eq _ _ _ _ rfl]
  show fn1 [.sh, .sh] (F_Endless__first [sv (endD h r), sv (.int (n : Int)), none]) = _
  unfold F_Endless__first
  have a1 := lenD_s h (by omega)
  have a2 := lenD_s r (by omega)
  have a3 : (if (n : Int) - (h.length : Int) > 0 then (n : Int) - (h.length : Int) else 0) = ((n - h.length : Nat) : Int) := by
    split <;> omega
  have a4 := fdivD_i ((n - h.length : Nat) : Int) (r.length : Int) (by omega)
  have dl := Nat.div_le_self (n - h.length) r.length
  have hd : r.length * ((n - h.length) / r.length) ≤ n - h.length := Nat.mul_div_le _ _
  have hm : n - h.length < r.length * ((n - h.length) / r.length) + r.length := by
    have := Nat.lt_mul_div_succ (n - h.length) h0
    rw [Nat.mul_add, Nat.mul_one] at this
    exact this
  have a5 := mulD_s r ((n - h.length) / r.length + 1) (by omega) (by rw [Nat.mul_add, Nat.mul_one]; omega)
  have e5 : (((n - h.length) / r.length + 1 : Nat) : Int) = ((n - h.length : Nat) : Int) / (r.length : Int) + 1 := by
    rw [Int.natCast_add, Int.natCast_ediv]
    rfl
  rw [e5] at a5
  have a6 := addD_s h (List.replicate ((n - h.length) / r.length + 1) r).flatten (by rw [rep_len, Nat.add_mul, Nat.one_mul, Nat.mul_comm _ r.length]; omega)
  have a7 := slS_eq (h ++ (List.replicate ((n - h.length) / r.length + 1) r).flatten) none (some (n : Int)) (by rw [List.length_append, rep_len, Nat.add_mul, Nat.one_mul, Nat.mul_comm _ r.length]; omega)
  rw [cut_to, first_eq h r h0 _ n (by rw [Nat.add_mul, Nat.one_mul, Nat.mul_comm _ r.length]; omega)] at a7
  clear e5 dl hd hm hn hh hr
  walk_at "eh"
  rfl
end Lw
namespace Lw
open PySem PySem.Spec L2 Qd Qm
local macro_rules | `(tactic| walk_at "ev") => `(tactic| simp only [eVar_eq, eVar_k1, eK_eq, oS_eq, oS_k1, oE_eq, oE_k1, fetch_d, fetch_s, fetch_k1, eOp2_eq, op2k1_eq, op2k2_eq, op2k3_eq, op2k4_eq, pr_some, aNil_eq, aC2_eq, aCons_eq, aC1_eq, fetchs_nil, fts2_eq, fetchs_cons, fts1_eq, eA_eq, eA1_eq, eA2_eq, allD_nil, allD_cons, eDisp_eq, eD1_eq, eD2_0, eD2_1, eD2_2, eD2_3, eD2_4, eD2_5, eD2_6, pNo_eq, pAt_eq, pAt1_eq, eSl_eq, sl1_eq, sl2_eq, sl3_eq, sl4_eq, eAnd_eq, and1_eq, eOr_eq, or1_eq, eNot_eq, not1_eq, eIf_eq, if1_eq, eNeg_eq, neg1_eq, eM_eq, m0_eq, m1_str, m1_lst, m2_eq, m3_eq, m4_eq, mu4_eq, mu3_ow, mu3_pn, mu2_eq, mu1_eq, mu0_eq, eMut_eq, sSeq_eq, seq1_nx, seq1_bk, seq1_ct, seq1_rt, sNil_eq, sBk_eq, sCt_eq, sRetN_eq, sE_eq, se1_eq, sRet_eq, sRetF_eq, sret1_eq, sRetOw_eq, sRetOw1_eq, sIf_eq, sif1_eq, sg2_eq, sG_eq, sg1_eq, okSet_eq, okk_none, okk_sh, okk_ow, gN_eq, sOw_eq, ow1_eq, sFz_eq, fz1_ow, fz1_sh, fz1_pn, fz1_no, stl3_eq, stl2_ow, stl2_pn, stl1_eq, sSetL_eq, sFor_eq, sfor1_eq, sWhile_eq, iL_eq, il1_eq, il2_eq, bOf_d, bOf_s, iR1_eq, ir1_eq, fn1_rt, fn1_nx, eCall_eq, eCallF_eq, cv1_eq, cv2_1, cv2_2, cv2_3, cv3_eq, cvE_eq, cvF_eq, eCallB_eq, cb0_eq, cb1_1, cb1_2, cb1_3, cb2_bl, cb2_int, cb2_str, eCallP_eq, eCallPF_eq, cp0_eq, cp1_eq, cp2_eq, cp3_ow0, cp3_ow1, cp3_ow2, cp3_pn0, cp3_pn1, cp3_pn2, cp4_eq, eLc_eq, lc2_eq, eDc_eq, dc2_eq, bnd_some, mp_some, gt0, gtS, st0, stS, if_true, if_false, if_pos, Bool.true_eq_false, Bool.false_eq_true, stl0_eq2, stk_eq, ix0, ix1, ix2, ix3, ix4, ixT0, ixT1, ixT2, addD_i, subD_i, ltD_i, ltD_s, leD_i, gtD_i, gtD_s, geD_i, powD_18, lenD_l, lenD_t, lenD_d, eqD_s, neD_s, eqD_i, neD_i, decide_eq_true_eq, ↓reduceIte, decide_true, decide_false, not_true_eq_false, not_false_eq_true, Bool.not_true, Bool.not_false, List.length_map, List.length_cons, List.length_nil, Int.reduceLT, Int.reduceLE, Int.reduceNeg, and_self, and_true, true_and, mulD_r, mulD_l, modD_i, fdivD_i, Int.reduceAdd, Nat.reduceAdd, ixN50, ixN51, ixN52, ixN53, ixN54, slL_eq, slL_scr, listD_l, cut_up, cut_last, cut_all, slS_eq, inD_ls, inD_keys, wipe0, wipe1, rest0, rest1, gd_some, gd_none, decide_not, Bool.not_eq_true', decide_eq_false_iff_not, Classical.not_not, gPop_eq, allB_eq, List.nil_append, pk4_eq, pk3_ow, pk3_pn, pk2_eq, pk1_s, pk1_i, pk0_eq, ePopK_eq, sk3_eq, sk2_s, sk2_i, sk1_eq, sk0_eq, sSetK_eq, listD_keys, neD_nil, dropD_keys, eq_self, isi_non_bool, isi_non_int, isi_non_str, isi_non_tuple, isi_non_list, isi_bl_bool, isi_bl_int, isi_bl_str, isi_bl_tuple, isi_bl_list, isi_int_bool, isi_int_int, isi_int_str, isi_int_tuple, isi_int_list, isi_str_bool, isi_str_int, isi_str_str, isi_str_tuple, isi_str_list, isi_tup_bool, isi_tup_int, isi_tup_str, isi_tup_tuple, isi_tup_list, isi_lst_bool, isi_lst_int, isi_lst_str, isi_lst_tuple, isi_lst_list, isN_non, isN_bl, isN_int, isN_str, isN_tup, isN_lst, eqD_b, neD_b, startsD_eq, anyB_map, allB_map, sumD_map, maxD1_map, notInD_ls, notInD_keys, gsNil_eq, gsCons_eq, gsk_eq, gT2_eq, gT3_eq, iZ_eq, iz0_eq, iz1_eq, iz2_eq, sPin_eq, pin0_ow, pin0_sh, unpin_eq, unp_pn, pin1_nx, pin1_rt, cut_to, cut_from1, eFld_eq, fd0_eq, fd1_eq, sFd_eq, sfd0_eq, sfd1_ow, sfd1_pn, sfd2_eq, eMeth_eq, eMethF_eq, me0_eq, me1_eq, me2_eq, me3_0, me3_1, me3_2, me3_3, eMethP_eq, eMethPF_eq, mp0_ow, mp0_pn, mp1_eq, eNew_eq, nw0_eq, nw1_0, nw1_1, nw1_2, nw2_eq, exEq_eq, xq0_eq, xq1_eq, xq2_eq, xq3_eq, iso_eq, iso1_t, iS_eq, is1_eq, is0_eq, iR2_eq, ir2a_eq, ir2c_eq, maxD2_i, inD_sign, lc1_go, lcc_eq, dc1_go, dcc_eq, now_nil, now_cons, now1_sh, now1_none, bsV_nil, bsV_cons, Bool.and_true, Bool.true_and, fld_b, fld_r, set_b0, set_r0, set_b1, set_r1, isC_end, hasM_settle0, hasM_settle, hasM_head, hasM_ring, hasM_first, hasM_signs, hasM_later, hasM_behind, hasM_below, hasM_under, hasM_begins, hasM_starts, hasM_before, nin_nil, nin_cons, Nat.reduceBNe, iK_eq, ik0_eq, keyD_keys, eGet2_eq, ge0_eq, ge1_s, ge2_eq, ge3_eq, eLenM_eq, lm0_eq, lm1_eq, new0_1, parC_t, par2_go, sPar_eq, par0_eq, iLT_eq, lt1_eq, lt2_l, lt2_t, fld_k, isC_sw, hasW_rows, hasW_of, hasW_leads, hasW_then, hasW_back, hasW_power, hasW_seen, hasW_within, hasW_fixed, hasW_parted, inD_tD, listD_tD, valD_tD, iEn_eq, en1_eq, en2_eq, dropD_tDT, set_k0T, set_k1T])
local macro_rules | `(tactic| walk_at "eh") => `(tactic| simp only [eVar_eq, eVar_k1, eK_eq, oS_eq, oS_k1, oE_eq, oE_k1, fetch_d, fetch_s, fetch_k1, eOp2_eq, op2k1_eq, op2k2_eq, op2k3_eq, op2k4_eq, pr_some, aNil_eq, aC2_eq, aCons_eq, aC1_eq, fetchs_nil, fts2_eq, fetchs_cons, fts1_eq, eA_eq, eA1_eq, eA2_eq, allD_nil, allD_cons, eDisp_eq, eD1_eq, eD2_0, eD2_1, eD2_2, eD2_3, eD2_4, eD2_5, eD2_6, pNo_eq, pAt_eq, pAt1_eq, eSl_eq, sl1_eq, sl2_eq, sl3_eq, sl4_eq, eAnd_eq, and1_eq, eOr_eq, or1_eq, eNot_eq, not1_eq, eIf_eq, if1_eq, eNeg_eq, neg1_eq, eM_eq, m0_eq, m1_str, m1_lst, m2_eq, m3_eq, m4_eq, mu4_eq, mu3_ow, mu3_pn, mu2_eq, mu1_eq, mu0_eq, eMut_eq, sSeq_eq, seq1_nx, seq1_bk, seq1_ct, seq1_rt, sNil_eq, sBk_eq, sCt_eq, sRetN_eq, sE_eq, se1_eq, sRet_eq, sRetF_eq, sret1_eq, sRetOw_eq, sRetOw1_eq, sIf_eq, sif1_eq, sg2_eq, sG_eq, sg1_eq, okSet_eq, okk_none, okk_sh, okk_ow, gN_eq, sOw_eq, ow1_eq, sFz_eq, fz1_ow, fz1_sh, fz1_pn, fz1_no, stl3_eq, stl2_ow, stl2_pn, stl1_eq, sSetL_eq, sFor_eq, sfor1_eq, sWhile_eq, iL_eq, il1_eq, il2_eq, bOf_d, bOf_s, iR1_eq, ir1_eq, fn1_rt, fn1_nx, eCall_eq, eCallF_eq, cv1_eq, cv2_1, cv2_2, cv2_3, cv3_eq, cvE_eq, cvF_eq, eCallB_eq, cb0_eq, cb1_1, cb1_2, cb1_3, cb2_bl, cb2_int, cb2_str, eCallP_eq, eCallPF_eq, cp0_eq, cp1_eq, cp2_eq, cp3_ow0, cp3_ow1, cp3_ow2, cp3_pn0, cp3_pn1, cp3_pn2, cp4_eq, eLc_eq, lc2_eq, eDc_eq, dc2_eq, bnd_some, mp_some, gt0, gtS, st0, stS, if_true, if_false, if_pos, Bool.true_eq_false, Bool.false_eq_true, stl0_eq2, stk_eq, ix0, ix1, ix2, ix3, ix4, ixT0, ixT1, ixT2, addD_i, subD_i, ltD_i, ltD_s, leD_i, gtD_i, gtD_s, geD_i, powD_18, lenD_l, lenD_t, lenD_d, eqD_s, neD_s, eqD_i, neD_i, decide_eq_true_eq, ↓reduceIte, decide_true, decide_false, not_true_eq_false, not_false_eq_true, Bool.not_true, Bool.not_false, List.length_map, List.length_cons, List.length_nil, Int.reduceLT, Int.reduceLE, Int.reduceNeg, and_self, and_true, true_and, mulD_r, mulD_l, modD_i, fdivD_i, Int.reduceAdd, Nat.reduceAdd, ixN50, ixN51, ixN52, ixN53, ixN54, slL_eq, slL_scr, listD_l, cut_up, cut_last, cut_all, slS_eq, inD_ls, inD_keys, wipe0, wipe1, rest0, rest1, gd_some, gd_none, decide_not, Bool.not_eq_true', decide_eq_false_iff_not, Classical.not_not, gPop_eq, allB_eq, List.nil_append, pk4_eq, pk3_ow, pk3_pn, pk2_eq, pk1_s, pk1_i, pk0_eq, ePopK_eq, sk3_eq, sk2_s, sk2_i, sk1_eq, sk0_eq, sSetK_eq, listD_keys, neD_nil, dropD_keys, eq_self, isi_non_bool, isi_non_int, isi_non_str, isi_non_tuple, isi_non_list, isi_bl_bool, isi_bl_int, isi_bl_str, isi_bl_tuple, isi_bl_list, isi_int_bool, isi_int_int, isi_int_str, isi_int_tuple, isi_int_list, isi_str_bool, isi_str_int, isi_str_str, isi_str_tuple, isi_str_list, isi_tup_bool, isi_tup_int, isi_tup_str, isi_tup_tuple, isi_tup_list, isi_lst_bool, isi_lst_int, isi_lst_str, isi_lst_tuple, isi_lst_list, isN_non, isN_bl, isN_int, isN_str, isN_tup, isN_lst, eqD_b, neD_b, startsD_eq, anyB_map, allB_map, sumD_map, maxD1_map, notInD_ls, notInD_keys, gsNil_eq, gsCons_eq, gsk_eq, gT2_eq, gT3_eq, iZ_eq, iz0_eq, iz1_eq, iz2_eq, sPin_eq, pin0_ow, pin0_sh, unpin_eq, unp_pn, pin1_nx, pin1_rt, cut_to, cut_from1, eFld_eq, fd0_eq, fd1_eq, sFd_eq, sfd0_eq, sfd1_ow, sfd1_pn, sfd2_eq, eMeth_eq, eMethF_eq, me0_eq, me1_eq, me2_eq, me3_0, me3_1, me3_2, me3_3, eMethP_eq, eMethPF_eq, mp0_ow, mp0_pn, mp1_eq, eNew_eq, nw0_eq, nw1_0, nw1_1, nw1_2, nw2_eq, exEq_eq, xq0_eq, xq1_eq, xq2_eq, xq3_eq, iso_eq, iso1_t, iS_eq, is1_eq, is0_eq, iR2_eq, ir2a_eq, ir2c_eq, maxD2_i, inD_sign, lc1_go, lcc_eq, dc1_go, dcc_eq, now_nil, now_cons, now1_sh, now1_none, bsV_nil, bsV_cons, Bool.and_true, Bool.true_and, fld_b, fld_r, set_b0, set_r0, set_b1, set_r1, isC_end, hasM_settle0, hasM_settle, hasM_head, hasM_ring, hasM_first, hasM_signs, hasM_later, hasM_behind, hasM_below, hasM_under, hasM_begins, hasM_starts, hasM_before, nin_nil, nin_cons, Nat.reduceBNe, iK_eq, ik0_eq, keyD_keys, eGet2_eq, ge0_eq, ge1_s, ge2_eq, ge3_eq, eLenM_eq, lm0_eq, lm1_eq, new0_1, parC_t, par2_go, sPar_eq, par0_eq, iLT_eq, lt1_eq, lt2_l, lt2_t, fld_k, isC_sw, hasW_rows, hasW_of, hasW_leads, hasW_then, hasW_back, hasW_power, hasW_seen, hasW_within, hasW_fixed, hasW_parted, inD_tD, listD_tD, valD_tD, iEn_eq, en1_eq, en2_eq, dropD_tDT, set_k0T, set_k1T, *])
theorem bin_short {r : Wd} (h : Bin r) (h0 : 0 < r.length) : Bin (short r) := by
  obtain ⟨k, _, e⟩ := short_min h0
  rw [e]
  exact fun c hc => h c (List.mem_of_mem_take hc)
theorem bin_rollR : ∀ (t : List Nat) (r : Wd), Bin t → Bin r → Bin (rollR t r).1 ∧ Bin (rollR t r).2
  | [], r, _, h => ⟨Qm.Bin.nil, h⟩
  | c :: t, r, ht, h => by
    unfold rollR
    split
    · refine bin_rollR t _ (fun x hx => ht x (by simp [hx])) fun x hx => ?_
      rcases List.mem_cons.mp hx with z | z
      · exact ht x (by simp [z])
      · exact h x (List.dropLast_subset _ z)
    · exact ⟨fun x hx => ht x (List.mem_reverse.mp hx), h⟩
theorem bin_can {h r : Wd} (bh : Bin h) (br : Bin r) (h0 : 0 < r.length) : Bin (can h r).1 ∧ Bin (can h r).2 := bin_rollR _ _ (fun x hx => bh x (List.mem_reverse.mp hx)) (bin_short br h0)
end Lw
namespace Lw
open PySem PySem.Spec L2 Qd Qm
local macro_rules | `(tactic| walk_at "ev") => `(tactic| simp only [eVar_eq, eVar_k1, eK_eq, oS_eq, oS_k1, oE_eq, oE_k1, fetch_d, fetch_s, fetch_k1, eOp2_eq, op2k1_eq, op2k2_eq, op2k3_eq, op2k4_eq, pr_some, aNil_eq, aC2_eq, aCons_eq, aC1_eq, fetchs_nil, fts2_eq, fetchs_cons, fts1_eq, eA_eq, eA1_eq, eA2_eq, allD_nil, allD_cons, eDisp_eq, eD1_eq, eD2_0, eD2_1, eD2_2, eD2_3, eD2_4, eD2_5, eD2_6, pNo_eq, pAt_eq, pAt1_eq, eSl_eq, sl1_eq, sl2_eq, sl3_eq, sl4_eq, eAnd_eq, and1_eq, eOr_eq, or1_eq, eNot_eq, not1_eq, eIf_eq, if1_eq, eNeg_eq, neg1_eq, eM_eq, m0_eq, m1_str, m1_lst, m2_eq, m3_eq, m4_eq, mu4_eq, mu3_ow, mu3_pn, mu2_eq, mu1_eq, mu0_eq, eMut_eq, sSeq_eq, seq1_nx, seq1_bk, seq1_ct, seq1_rt, sNil_eq, sBk_eq, sCt_eq, sRetN_eq, sE_eq, se1_eq, sRet_eq, sRetF_eq, sret1_eq, sRetOw_eq, sRetOw1_eq, sIf_eq, sif1_eq, sg2_eq, sG_eq, sg1_eq, okSet_eq, okk_none, okk_sh, okk_ow, gN_eq, sOw_eq, ow1_eq, sFz_eq, fz1_ow, fz1_sh, fz1_pn, fz1_no, stl3_eq, stl2_ow, stl2_pn, stl1_eq, sSetL_eq, sFor_eq, sfor1_eq, sWhile_eq, iL_eq, il1_eq, il2_eq, bOf_d, bOf_s, iR1_eq, ir1_eq, fn1_rt, fn1_nx, eCall_eq, eCallF_eq, cv1_eq, cv2_1, cv2_2, cv2_3, cv3_eq, cvE_eq, cvF_eq, eCallB_eq, cb0_eq, cb1_1, cb1_2, cb1_3, cb2_bl, cb2_int, cb2_str, eCallP_eq, eCallPF_eq, cp0_eq, cp1_eq, cp2_eq, cp3_ow0, cp3_ow1, cp3_ow2, cp3_pn0, cp3_pn1, cp3_pn2, cp4_eq, eLc_eq, lc2_eq, eDc_eq, dc2_eq, bnd_some, mp_some, gt0, gtS, st0, stS, if_true, if_false, if_pos, Bool.true_eq_false, Bool.false_eq_true, stl0_eq2, stk_eq, ix0, ix1, ix2, ix3, ix4, ixT0, ixT1, ixT2, addD_i, subD_i, ltD_i, ltD_s, leD_i, gtD_i, gtD_s, geD_i, powD_18, lenD_l, lenD_t, lenD_d, eqD_s, neD_s, eqD_i, neD_i, decide_eq_true_eq, ↓reduceIte, decide_true, decide_false, not_true_eq_false, not_false_eq_true, Bool.not_true, Bool.not_false, List.length_map, List.length_cons, List.length_nil, Int.reduceLT, Int.reduceLE, Int.reduceNeg, and_self, and_true, true_and, mulD_r, mulD_l, modD_i, fdivD_i, Int.reduceAdd, Nat.reduceAdd, ixN50, ixN51, ixN52, ixN53, ixN54, slL_eq, slL_scr, listD_l, cut_up, cut_last, cut_all, slS_eq, inD_ls, inD_keys, wipe0, wipe1, rest0, rest1, gd_some, gd_none, decide_not, Bool.not_eq_true', decide_eq_false_iff_not, Classical.not_not, gPop_eq, allB_eq, List.nil_append, pk4_eq, pk3_ow, pk3_pn, pk2_eq, pk1_s, pk1_i, pk0_eq, ePopK_eq, sk3_eq, sk2_s, sk2_i, sk1_eq, sk0_eq, sSetK_eq, listD_keys, neD_nil, dropD_keys, eq_self, isi_non_bool, isi_non_int, isi_non_str, isi_non_tuple, isi_non_list, isi_bl_bool, isi_bl_int, isi_bl_str, isi_bl_tuple, isi_bl_list, isi_int_bool, isi_int_int, isi_int_str, isi_int_tuple, isi_int_list, isi_str_bool, isi_str_int, isi_str_str, isi_str_tuple, isi_str_list, isi_tup_bool, isi_tup_int, isi_tup_str, isi_tup_tuple, isi_tup_list, isi_lst_bool, isi_lst_int, isi_lst_str, isi_lst_tuple, isi_lst_list, isN_non, isN_bl, isN_int, isN_str, isN_tup, isN_lst, eqD_b, neD_b, startsD_eq, anyB_map, allB_map, sumD_map, maxD1_map, notInD_ls, notInD_keys, gsNil_eq, gsCons_eq, gsk_eq, gT2_eq, gT3_eq, iZ_eq, iz0_eq, iz1_eq, iz2_eq, sPin_eq, pin0_ow, pin0_sh, unpin_eq, unp_pn, pin1_nx, pin1_rt, cut_to, cut_from1, eFld_eq, fd0_eq, fd1_eq, sFd_eq, sfd0_eq, sfd1_ow, sfd1_pn, sfd2_eq, eMeth_eq, eMethF_eq, me0_eq, me1_eq, me2_eq, me3_0, me3_1, me3_2, me3_3, eMethP_eq, eMethPF_eq, mp0_ow, mp0_pn, mp1_eq, eNew_eq, nw0_eq, nw1_0, nw1_1, nw1_2, nw2_eq, exEq_eq, xq0_eq, xq1_eq, xq2_eq, xq3_eq, iso_eq, iso1_t, iS_eq, is1_eq, is0_eq, iR2_eq, ir2a_eq, ir2c_eq, maxD2_i, inD_sign, lc1_go, lcc_eq, dc1_go, dcc_eq, now_nil, now_cons, now1_sh, now1_none, bsV_nil, bsV_cons, Bool.and_true, Bool.true_and, fld_b, fld_r, set_b0, set_r0, set_b1, set_r1, isC_end, hasM_settle0, hasM_settle, hasM_head, hasM_ring, hasM_first, hasM_signs, hasM_later, hasM_behind, hasM_below, hasM_under, hasM_begins, hasM_starts, hasM_before, nin_nil, nin_cons, Nat.reduceBNe, iK_eq, ik0_eq, keyD_keys, eGet2_eq, ge0_eq, ge1_s, ge2_eq, ge3_eq, eLenM_eq, lm0_eq, lm1_eq, new0_1, parC_t, par2_go, sPar_eq, par0_eq, iLT_eq, lt1_eq, lt2_l, lt2_t, fld_k, isC_sw, hasW_rows, hasW_of, hasW_leads, hasW_then, hasW_back, hasW_power, hasW_seen, hasW_within, hasW_fixed, hasW_parted, inD_tD, listD_tD, valD_tD, iEn_eq, en1_eq, en2_eq, dropD_tDT, set_k0T, set_k1T])
local macro_rules | `(tactic| walk_at "eh") => `(tactic| simp only [eVar_eq, eVar_k1, eK_eq, oS_eq, oS_k1, oE_eq, oE_k1, fetch_d, fetch_s, fetch_k1, eOp2_eq, op2k1_eq, op2k2_eq, op2k3_eq, op2k4_eq, pr_some, aNil_eq, aC2_eq, aCons_eq, aC1_eq, fetchs_nil, fts2_eq, fetchs_cons, fts1_eq, eA_eq, eA1_eq, eA2_eq, allD_nil, allD_cons, eDisp_eq, eD1_eq, eD2_0, eD2_1, eD2_2, eD2_3, eD2_4, eD2_5, eD2_6, pNo_eq, pAt_eq, pAt1_eq, eSl_eq, sl1_eq, sl2_eq, sl3_eq, sl4_eq, eAnd_eq, and1_eq, eOr_eq, or1_eq, eNot_eq, not1_eq, eIf_eq, if1_eq, eNeg_eq, neg1_eq, eM_eq, m0_eq, m1_str, m1_lst, m2_eq, m3_eq, m4_eq, mu4_eq, mu3_ow, mu3_pn, mu2_eq, mu1_eq, mu0_eq, eMut_eq, sSeq_eq, seq1_nx, seq1_bk, seq1_ct, seq1_rt, sNil_eq, sBk_eq, sCt_eq, sRetN_eq, sE_eq, se1_eq, sRet_eq, sRetF_eq, sret1_eq, sRetOw_eq, sRetOw1_eq, sIf_eq, sif1_eq, sg2_eq, sG_eq, sg1_eq, okSet_eq, okk_none, okk_sh, okk_ow, gN_eq, sOw_eq, ow1_eq, sFz_eq, fz1_ow, fz1_sh, fz1_pn, fz1_no, stl3_eq, stl2_ow, stl2_pn, stl1_eq, sSetL_eq, sFor_eq, sfor1_eq, sWhile_eq, iL_eq, il1_eq, il2_eq, bOf_d, bOf_s, iR1_eq, ir1_eq, fn1_rt, fn1_nx, eCall_eq, eCallF_eq, cv1_eq, cv2_1, cv2_2, cv2_3, cv3_eq, cvE_eq, cvF_eq, eCallB_eq, cb0_eq, cb1_1, cb1_2, cb1_3, cb2_bl, cb2_int, cb2_str, eCallP_eq, eCallPF_eq, cp0_eq, cp1_eq, cp2_eq, cp3_ow0, cp3_ow1, cp3_ow2, cp3_pn0, cp3_pn1, cp3_pn2, cp4_eq, eLc_eq, lc2_eq, eDc_eq, dc2_eq, bnd_some, mp_some, gt0, gtS, st0, stS, if_true, if_false, if_pos, Bool.true_eq_false, Bool.false_eq_true, stl0_eq2, stk_eq, ix0, ix1, ix2, ix3, ix4, ixT0, ixT1, ixT2, addD_i, subD_i, ltD_i, ltD_s, leD_i, gtD_i, gtD_s, geD_i, powD_18, lenD_l, lenD_t, lenD_d, eqD_s, neD_s, eqD_i, neD_i, decide_eq_true_eq, ↓reduceIte, decide_true, decide_false, not_true_eq_false, not_false_eq_true, Bool.not_true, Bool.not_false, List.length_map, List.length_cons, List.length_nil, Int.reduceLT, Int.reduceLE, Int.reduceNeg, and_self, and_true, true_and, mulD_r, mulD_l, modD_i, fdivD_i, Int.reduceAdd, Nat.reduceAdd, ixN50, ixN51, ixN52, ixN53, ixN54, slL_eq, slL_scr, listD_l, cut_up, cut_last, cut_all, slS_eq, inD_ls, inD_keys, wipe0, wipe1, rest0, rest1, gd_some, gd_none, decide_not, Bool.not_eq_true', decide_eq_false_iff_not, Classical.not_not, gPop_eq, allB_eq, List.nil_append, pk4_eq, pk3_ow, pk3_pn, pk2_eq, pk1_s, pk1_i, pk0_eq, ePopK_eq, sk3_eq, sk2_s, sk2_i, sk1_eq, sk0_eq, sSetK_eq, listD_keys, neD_nil, dropD_keys, eq_self, isi_non_bool, isi_non_int, isi_non_str, isi_non_tuple, isi_non_list, isi_bl_bool, isi_bl_int, isi_bl_str, isi_bl_tuple, isi_bl_list, isi_int_bool, isi_int_int, isi_int_str, isi_int_tuple, isi_int_list, isi_str_bool, isi_str_int, isi_str_str, isi_str_tuple, isi_str_list, isi_tup_bool, isi_tup_int, isi_tup_str, isi_tup_tuple, isi_tup_list, isi_lst_bool, isi_lst_int, isi_lst_str, isi_lst_tuple, isi_lst_list, isN_non, isN_bl, isN_int, isN_str, isN_tup, isN_lst, eqD_b, neD_b, startsD_eq, anyB_map, allB_map, sumD_map, maxD1_map, notInD_ls, notInD_keys, gsNil_eq, gsCons_eq, gsk_eq, gT2_eq, gT3_eq, iZ_eq, iz0_eq, iz1_eq, iz2_eq, sPin_eq, pin0_ow, pin0_sh, unpin_eq, unp_pn, pin1_nx, pin1_rt, cut_to, cut_from1, eFld_eq, fd0_eq, fd1_eq, sFd_eq, sfd0_eq, sfd1_ow, sfd1_pn, sfd2_eq, eMeth_eq, eMethF_eq, me0_eq, me1_eq, me2_eq, me3_0, me3_1, me3_2, me3_3, eMethP_eq, eMethPF_eq, mp0_ow, mp0_pn, mp1_eq, eNew_eq, nw0_eq, nw1_0, nw1_1, nw1_2, nw2_eq, exEq_eq, xq0_eq, xq1_eq, xq2_eq, xq3_eq, iso_eq, iso1_t, iS_eq, is1_eq, is0_eq, iR2_eq, ir2a_eq, ir2c_eq, maxD2_i, inD_sign, lc1_go, lcc_eq, dc1_go, dcc_eq, now_nil, now_cons, now1_sh, now1_none, bsV_nil, bsV_cons, Bool.and_true, Bool.true_and, fld_b, fld_r, set_b0, set_r0, set_b1, set_r1, isC_end, hasM_settle0, hasM_settle, hasM_head, hasM_ring, hasM_first, hasM_signs, hasM_later, hasM_behind, hasM_below, hasM_under, hasM_begins, hasM_starts, hasM_before, nin_nil, nin_cons, Nat.reduceBNe, iK_eq, ik0_eq, keyD_keys, eGet2_eq, ge0_eq, ge1_s, ge2_eq, ge3_eq, eLenM_eq, lm0_eq, lm1_eq, new0_1, parC_t, par2_go, sPar_eq, par0_eq, iLT_eq, lt1_eq, lt2_l, lt2_t, fld_k, isC_sw, hasW_rows, hasW_of, hasW_leads, hasW_then, hasW_back, hasW_power, hasW_seen, hasW_within, hasW_fixed, hasW_parted, inD_tD, listD_tD, valD_tD, iEn_eq, en1_eq, en2_eq, dropD_tDT, set_k0T, set_k1T, *])
theorem swap_init_run {gn gt gf : FN} (hn : ∀ x : Wd, x.length ≤ 60 → Bin x → gn [.str x] = some (.ok false .non [.non])) (ht : ∀ {n : Nat} {T : List Rw}, Tw n T → n ≤ 1000 → T.length ≤ 1000 → ∀ d : D, (d = .lst (T.map rowD) ∨ d = .tup (T.map rowD)) → gt [d] = some (.ok false (.bl true) [.non]))
    (hf : ∀ {n : Nat} {T : List Rw}, Tw n T → n ≤ 1000 → T.length < 64 → ∀ d : D, (d = .lst (T.map rowD) ∨ d = .tup (T.map rowD)) → gf [d] = some (.ok true (rowsD (few T)) [.non])) {n : Nat} {T : List Rw} (h : Tw n T) (h60 : n ≤ 60) (hl : T.length < 64) (d : D) (hd : d = .lst (T.map rowD) ∨ d = .tup (T.map rowD)) :
    fnF [.pn, .sh] 2 (F_Swap____init__ gn gt gf) [.obj "Swap" [], d] = some (.ok false .non [swD (few T), .non]) := by
  apply W.eq
  rw [fnF_eq _ _ _ _ rfl]
  show W (fn1 [.pn, .sh] (F_Swap____init__ gn gt gf [pv (.obj "Swap" []), sv d, none, none])) _
  unfold F_Swap____init__
  have g1 := ht h (by omega) (by omega) d hd
  have g2 := hf h (by omega) hl d hd
  have fl := (few_all h).2.2.2
  have nl : ¬ (64 : Int) < ((few T).length : Int) := by omega
  have go : W (fn1 [.pn, .sh] ((forL [] (gT 2 (gsCons (gN 2) (gsCons (gN 3) gsNil))) (sSeq (sE (eCall [.sh] gn (aCons (oE (eVar 2)) aNil)))
    (sE (eCall [.sh] gn (aCons (oE (eVar 3)) aNil)))) (T.map rowD) [pv (.obj "Swap" []), sv d, none, none]).bind (seq1 (sSeq (sIf (eNot (eCall [.sh] gt (aCons (oE (eVar 1)) aNil))) sNo sNil)
    (sSeq (sFd 0 "Swap" "kept" (eCallF [.sh] gf (aCons (oE (eVar 1)) aNil)))
    (sIf (eOp2 gtD (oE (eA lenD (aCons (oE (eFld "Swap" "kept" (oS 0))) aNil))) (oE (eK (.int 64)))) sNo sNil)))))) fun r => r = .ok false .non [swD (few T), .non] := by
    refine W.fnK (W.forK (fun items e => ∃ (zs : List Rw) (x2 x3 : Option Sl), zs.map rowD = items ∧ e = [pv (.obj "Swap" []), sv d, x2, x3] ∧ Sh x2 ∧ Sh x3 ∧ ∀ z ∈ zs, z ∈ T) ⟨T, none, none, rfl, rfl, Sh.no, Sh.no, fun _ z => z⟩ ?_ ?_)
    · rintro e ⟨zs, x2, x3, hz, rfl, s2, s3, hm⟩
      refine ⟨rfl, ?_⟩
      clear hz hm hd hn ht hf
      walk_at "eh"
      exact W.ret (W.ret rfl)
    · rintro d' ds e ⟨zs, x2, x3, hz, rfl, s2, s3, hm⟩
      cases zs with
      | nil => cases hz
      | cons z zs =>
        cases hz
        have o2 := s2.okk
        have o3 := s3.okk
        have mz := hm z (by simp)
        have k1 := hn z.1 (Nat.le_trans (h.h.hd.wl _ (List.mem_map.mpr ⟨z, mz, rfl⟩)) h60) (h.h.hd.bin _ (List.mem_map.mpr ⟨z, mz, rfl⟩))
        have k2 := hn z.2 (Nat.le_trans (h.o.hd.wl _ (List.mem_map.mpr ⟨z, mz, rfl⟩)) h60) (h.o.hd.bin _ (List.mem_map.mpr ⟨z, mz, rfl⟩))
        clear hd hn ht hf
        refine ⟨rfl, [pv (.obj "Swap" []), sv d, sv (.str z.1), sv (.str z.2)], by clear hm; walk_at "eh", ?_⟩
        have hm2 : ∀ y ∈ zs, y ∈ T := fun y hy => hm y (by simp [hy])
        clear hm
        walk_at "eh"
        exact W.ret (Aft.nx ⟨zs, _, _, rfl, rfl, Sh.sh _, Sh.sh _, hm2⟩)
  clear hn ht hf
  rcases hd with rfl | rfl
  · walk_at "eh"
  · walk_at "eh"
theorem swap_rows_run (T : List Rw) : fnF [.sh] 0 F_Swap__rows [swD T] = some (.ok true (rowsD T) [.non]) := by
  rw [fnF_eq _ _ _ _ rfl]
  show fn1 [.sh] (F_Swap__rows [sv (swD T)]) = _
  unfold F_Swap__rows
  walk_at "ev"
  rfl
theorem swap_len_run (T : List Rw) : fnF [.sh] 0 F_Swap____len__ [swD T] = some (.ok false (.int (T.length : Int)) [.non]) := by
  rw [fnF_eq _ _ _ _ rfl]
  show fn1 [.sh] (F_Swap____len__ [sv (swD T)]) = _
  unfold F_Swap____len__
  walk_at "ev"
  rfl
theorem head_run (h r : Wd) : fnF [.sh] 0 F_Endless__head [endD h r] = some (.ok false (.str h) [.non]) := by
  rw [fnF_eq _ _ _ _ rfl]
  show fn1 [.sh] (F_Endless__head [sv (endD h r)]) = _
  unfold F_Endless__head
  walk_at "ev"
  rfl
theorem ring_run (h r : Wd) : fnF [.sh] 0 F_Endless__ring [endD h r] = some (.ok false (.str r) [.non]) := by
  rw [fnF_eq _ _ _ _ rfl]
  show fn1 [.sh] (F_Endless__ring [sv (endD h r)]) = _
  unfold F_Endless__ring
  walk_at "ev"
  rfl
theorem row_of_run {gi gs : FN} (hi : ∀ (h r : Wd), 0 < r.length → r.length ≤ 60 → h.length ≤ 60 → Bin h → Bin r → gi [.obj "Endless" [], .str h, .str r] = some (.ok false .non [endD (can h r).1 (can h r).2, .non, .non]))
    (hs : ∀ (o : D), Eo o → ∀ (h r : Wd), 0 < r.length → r.length ≤ 5000 → h.length ≤ 100000 → gs [o, .str h, .str r] = some (.ok false .non [endD (can h r).1 (can h r).2, .non, .non])) (h r : Wd) (h0 : 0 < r.length) (hr : r.length ≤ 5000) (hh : h.length ≤ 100000) : fnF [.sh, .sh] 1 (F_row_of gi gs) [.str h, .str r] = some (.ok true (endD (can h r).1 (can h r).2) [.non, .non]) := by
  rw [fnF_eq _ _ _ _ rfl]
  show fn1 [.sh, .sh] (F_row_of gi gs [sv (.str h), sv (.str r), none]) = _
  unfold F_row_of
  have a1 := hi [] [48] (by decide) (by decide) (by decide) (by simp [Bin]) (by simp [Bin])
  have a2 := hs (endD (can [] [48]).1 (can [] [48]).2) (.inr ⟨_, _, rfl⟩) h r h0 hr hh
  clear hi hs
  walk_at "eh"
  rfl
/-- a row as it is kept -/
structure Rs (n : Nat) (s : Nat → Nat) (a b : Wd) : Prop where
  can : Can a b
  sg : ∀ i, sgn a b i = s i
  ba : Bin a
  bb : Bin b
  la : a.length ≤ n
  lb : b.length ≤ n
theorem Rs.uniq {n m : Nat} {s : Nat → Nat} {a b c d : Wd} (h : Rs n s a b) (g : Rs m s c d) : a = c ∧ b = d := h.can.uniq g.can fun i => by rw [h.sg, g.sg]
theorem Rs.of_can {n : Nat} {h r : Wd} (h0 : 0 < r.length) (bh : Bin h) (br : Bin r) (lh : h.length ≤ n) (lr : r.length ≤ n) : Rs n (sgn h r) (Qm.can h r).1 (Qm.can h r).2 := by
  obtain ⟨a, b, c, d⟩ := can_can h r h0
  obtain ⟨e, f⟩ := bin_can bh br h0
  exact ⟨a, b, e, f, by omega, by omega⟩
theorem Rs.bi {n : Nat} {s : Nat → Nat} {a b : Wd} (h : Rs n s a b) : Bi s := fun i => by
  rw [← h.sg]
  unfold sgn
  split
  · rename_i hi
    rw [List.getD_eq_getElem?_getD, List.getElem?_eq_getElem hi]
    exact h.ba _ (List.getElem_mem hi)
  · have hm := Nat.mod_lt (i - a.length) h.can.prim.1
    rw [List.getD_eq_getElem?_getD, List.getElem?_eq_getElem hm]
    exact h.bb _ (List.getElem_mem hm)
theorem sgn_app (h r : Wd) (i : Nat) : sgn h r i = app h (sgn [] r) i := by
  by_cases c : i < h.length
  · rw [sgn_lt c, app_lt c]
  · rw [sgn_ge (by omega), app_ge (by omega)]
theorem sgn_head (x h r : Wd) (i : Nat) : sgn (x ++ h) r i = app x (sgn h r) i := by
  rw [sgn_app, app_append, show app h (sgn [] r) = sgn h r from funext fun j => (sgn_app h r j).symm]
theorem sgn_drop (h r : Wd) (n i : Nat) (hn : n ≤ h.length) : sgn (h.drop n) r i = shf n (sgn h r) i := by
  have e : h = h.take n ++ h.drop n := (List.take_append_drop n h).symm
  have hl : (h.take n).length = n := by rw [List.length_take]; omega
  show _ = sgn h r (i + n)
  conv => rhs; rw [e]
  rw [sgn_head, app_ge (by omega), hl, Nat.add_sub_cancel]
/-- the ring turned -/
theorem sgn_turn (r : Wd) (h0 : 0 < r.length) (k i : Nat) : sgn [] (r.drop (k % r.length) ++ r.take (k % r.length)) i = sgn [] r (i + k) := by
  have hk := Nat.mod_lt k h0
  have hl : (r.drop (k % r.length) ++ r.take (k % r.length)).length = r.length := by simp; omega
  rw [sgn_nil, sgn_nil, hl]
  have e : (i + k) % r.length = (i % r.length + k % r.length) % r.length := by rw [Nat.add_mod]
  rw [e]
  have hi := Nat.mod_lt i h0
  generalize i % r.length = a at *
  generalize k % r.length = b at *
  by_cases c : a < r.length - b
  · rw [Nat.mod_eq_of_lt (show a + b < r.length by omega), List.getD_eq_getElem?_getD, List.getD_eq_getElem?_getD, List.getElem?_append_left (by simp; omega), List.getElem?_drop, Nat.add_comm]
  · have : (a + b) % r.length = a + b - r.length := by
      rw [Nat.mod_eq_sub_mod (by omega), Nat.mod_eq_of_lt (by omega)]
    rw [this, List.getD_eq_getElem?_getD, List.getD_eq_getElem?_getD, List.getElem?_append_right (by simp; omega), List.getElem?_take_of_lt (by simp; omega)]
    congr 2
    simp
    omega
theorem later_run {g : FN} (hg : ∀ (h r : Wd), 0 < r.length → r.length ≤ 5000 → h.length ≤ 100000 → g [.str h, .str r] = some (.ok true (endD (can h r).1 (can h r).2) [.non, .non])) {n : Nat} {s : Nat → Nat} {h r : Wd} (hs : Rs n s h r) (hn : n ≤ 5000) (k : Nat) : ∃ a b, Rs n (shf k s) a b ∧ fnF [.sh, .sh] 1 (F_Endless__later g) [endD h r, .int (k : Int)] = some (.ok true (endD a b) [.non, .non]) := by
  have h0 := hs.can.prim.1
  have lh := hs.la
  have lr := hs.lb
  have b1 := lenD_s h (by omega)
  have b2 := lenD_s r (by omega)
  by_cases c : (k : Int) ≤ (h.length : Int)
  · have hk : k ≤ h.length := by omega
    have e := hg (h.drop k) r h0 (by omega) (by simp; omega)
    have s1 := slS_eq h (some (k : Int)) none (by omega)
    rw [cut_from] at s1
    have rs := Rs.of_can (n := n) h0 (fun x hx => hs.ba x (List.mem_of_mem_drop hx)) hs.bb (h := h.drop k) (by simp; omega) lr
    refine ⟨_, _, ⟨rs.can, fun i => ?_, rs.ba, rs.bb, rs.la, rs.lb⟩, ?_⟩
    · rw [rs.sg, sgn_drop h r k i hk]
      exact hs.sg _
    · clear hg rs hs
      rw [fnF_eq _ _ _ _ rfl]
      show fn1 [.sh, .sh] (F_Endless__later g [sv (endD h r), sv (.int (k : Int)), none]) = _
      unfold F_Endless__later
      walk_at "eh"
      rfl
  · have hk : h.length < k := by omega
    have hm := Nat.mod_lt (k - h.length) h0
    have e := hg [] (r.drop ((k - h.length) % r.length) ++ r.take ((k - h.length) % r.length)) (by simp; omega) (by simp; omega) (by simp)
    have m1 := modD_i ((k : Int) - (h.length : Int)) (r.length : Int) (by omega)
    have em : ((k : Int) - (h.length : Int)) % (r.length : Int) = (((k - h.length) % r.length : Nat) : Int) := by
      rw [Int.natCast_emod]
      congr 1
      omega
    rw [em] at m1
    have s1 := slS_eq r (some (((k - h.length) % r.length : Nat) : Int)) none (by omega)
    have s2 := slS_eq r none (some (((k - h.length) % r.length : Nat) : Int)) (by omega)
    rw [cut_from] at s1
    rw [cut_to] at s2
    have a1 := addD_s (r.drop ((k - h.length) % r.length)) (r.take ((k - h.length) % r.length)) (by simp; omega)
    have rs := Rs.of_can (n := n) (h := []) (r := r.drop ((k - h.length) % r.length) ++ r.take ((k - h.length) % r.length)) (by simp; omega) Qm.Bin.nil (fun x hx => by
      rcases List.mem_append.mp hx with z | z
      · exact hs.bb x (List.mem_of_mem_drop z)
      · exact hs.bb x (List.mem_of_mem_take z)) (by simp) (by simp; omega)
    refine ⟨_, _, ⟨rs.can, fun i => ?_, rs.ba, rs.bb, rs.la, rs.lb⟩, ?_⟩
    · rw [rs.sg, sgn_turn r h0]
      show _ = s (i + k)
      rw [← hs.sg, sgn_ge (h := h) (r := r) (by omega)]
      congr 1
      omega
    · clear hg rs hs em
      rw [fnF_eq _ _ _ _ rfl]
      show fn1 [.sh, .sh] (F_Endless__later g [sv (endD h r), sv (.int (k : Int)), none]) = _
      unfold F_Endless__later
      walk_at "eh"
      rfl
theorem below_run {g : FN} (hg : ∀ (h r : Wd), 0 < r.length → r.length ≤ 5000 → h.length ≤ 100000 → g [.str h, .str r] = some (.ok true (endD (can h r).1 (can h r).2) [.non, .non])) {n : Nat} {s : Nat → Nat} {h r : Wd} (hs : Rs n s h r) (hn : n ≤ 5000) (x : Wd) (bx : Bin x) (lx : x.length ≤ 5000) : ∃ a b, Rs (n + x.length) (app x s) a b ∧ fnF [.sh, .sh] 0 (F_Endless__below g) [endD h r, .str x] = some (.ok true (endD a b) [.non, .non]) := by
  have h0 := hs.can.prim.1
  have lh := hs.la
  have lr := hs.lb
  have e := hg (x ++ h) r h0 (by omega) (by simp; omega)
  have a1 := addD_s x h (by omega)
  have rs := Rs.of_can (n := n + x.length) (h := x ++ h) h0 (fun y hy => by
    rcases List.mem_append.mp hy with z | z
    · exact bx y z
    · exact hs.ba y z) hs.bb (by simp; omega) (by omega)
  refine ⟨_, _, ⟨rs.can, fun i => ?_, rs.ba, rs.bb, rs.la, rs.lb⟩, ?_⟩
  · rw [rs.sg, sgn_head, show sgn h r = s from funext hs.sg]
  · clear hg rs hs
    rw [fnF_eq _ _ _ _ rfl]
    show fn1 [.sh, .sh] (F_Endless__below g [sv (endD h r), sv (.str x)]) = _
    unfold F_Endless__below
    walk_at "eh"
    rfl
theorem begins_run {g : FN} (hg : ∀ (h r : Wd), 0 < r.length → r.length ≤ 5000 → h.length ≤ 100000 → ∀ n : Nat, n ≤ 100000 → g [endD h r, .int (n : Int)] = some (.ok false (.str (Qm.pre (sgn h r) n)) [.non, .non])) {n : Nat} {s : Nat → Nat} {h r : Wd} (hs : Rs n s h r) (hn : n ≤ 5000) (x : Wd) (lx : x.length ≤ 5000) : fnF [.sh, .sh] 0 (F_Endless__begins g) [endD h r, .str x] = some (.ok false (.bl (decide (Qm.pre s x.length = x))) [.non, .non]) := by
  have e := hg h r hs.can.prim.1 (by have := hs.lb; omega) (by have := hs.la; omega) x.length (by omega)
  rw [show sgn h r = s from funext hs.sg] at e
  have l1 := lenD_s x (by omega)
  clear hg
  rw [fnF_eq _ _ _ _ rfl]
  show fn1 [.sh, .sh] (F_Endless__begins g [sv (endD h r), sv (.str x)]) = _
  unfold F_Endless__begins
  walk_at "eh"
  rfl
end Lw
namespace Lw
open PySem PySem.Spec L2 Qd Qm
local macro_rules | `(tactic| walk_at "ev") => `(tactic| simp only [eVar_eq, eVar_k1, eK_eq, oS_eq, oS_k1, oE_eq, oE_k1, fetch_d, fetch_s, fetch_k1, eOp2_eq, op2k1_eq, op2k2_eq, op2k3_eq, op2k4_eq, pr_some, aNil_eq, aC2_eq, aCons_eq, aC1_eq, fetchs_nil, fts2_eq, fetchs_cons, fts1_eq, eA_eq, eA1_eq, eA2_eq, allD_nil, allD_cons, eDisp_eq, eD1_eq, eD2_0, eD2_1, eD2_2, eD2_3, eD2_4, eD2_5, eD2_6, pNo_eq, pAt_eq, pAt1_eq, eSl_eq, sl1_eq, sl2_eq, sl3_eq, sl4_eq, eAnd_eq, and1_eq, eOr_eq, or1_eq, eNot_eq, not1_eq, eIf_eq, if1_eq, eNeg_eq, neg1_eq, eM_eq, m0_eq, m1_str, m1_lst, m2_eq, m3_eq, m4_eq, mu4_eq, mu3_ow, mu3_pn, mu2_eq, mu1_eq, mu0_eq, eMut_eq, sSeq_eq, seq1_nx, seq1_bk, seq1_ct, seq1_rt, sNil_eq, sBk_eq, sCt_eq, sRetN_eq, sE_eq, se1_eq, sRet_eq, sRetF_eq, sret1_eq, sRetOw_eq, sRetOw1_eq, sIf_eq, sif1_eq, sg2_eq, sG_eq, sg1_eq, okSet_eq, okk_none, okk_sh, okk_ow, gN_eq, sOw_eq, ow1_eq, sFz_eq, fz1_ow, fz1_sh, fz1_pn, fz1_no, stl3_eq, stl2_ow, stl2_pn, stl1_eq, sSetL_eq, sFor_eq, sfor1_eq, sWhile_eq, iL_eq, il1_eq, il2_eq, bOf_d, bOf_s, iR1_eq, ir1_eq, fn1_rt, fn1_nx, eCall_eq, eCallF_eq, cv1_eq, cv2_1, cv2_2, cv2_3, cv3_eq, cvE_eq, cvF_eq, eCallB_eq, cb0_eq, cb1_1, cb1_2, cb1_3, cb2_bl, cb2_int, cb2_str, eCallP_eq, eCallPF_eq, cp0_eq, cp1_eq, cp2_eq, cp3_ow0, cp3_ow1, cp3_ow2, cp3_pn0, cp3_pn1, cp3_pn2, cp4_eq, eLc_eq, lc2_eq, eDc_eq, dc2_eq, bnd_some, mp_some, gt0, gtS, st0, stS, if_true, if_false, if_pos, Bool.true_eq_false, Bool.false_eq_true, stl0_eq2, stk_eq, ix0, ix1, ix2, ix3, ix4, ixT0, ixT1, ixT2, addD_i, subD_i, ltD_i, ltD_s, leD_i, gtD_i, gtD_s, geD_i, powD_18, lenD_l, lenD_t, lenD_d, eqD_s, neD_s, eqD_i, neD_i, decide_eq_true_eq, ↓reduceIte, decide_true, decide_false, not_true_eq_false, not_false_eq_true, Bool.not_true, Bool.not_false, List.length_map, List.length_cons, List.length_nil, Int.reduceLT, Int.reduceLE, Int.reduceNeg, and_self, and_true, true_and, mulD_r, mulD_l, modD_i, fdivD_i, Int.reduceAdd, Nat.reduceAdd, ixN50, ixN51, ixN52, ixN53, ixN54, slL_eq, slL_scr, listD_l, cut_up, cut_last, cut_all, slS_eq, inD_ls, inD_keys, wipe0, wipe1, rest0, rest1, gd_some, gd_none, decide_not, Bool.not_eq_true', decide_eq_false_iff_not, Classical.not_not, gPop_eq, allB_eq, List.nil_append, pk4_eq, pk3_ow, pk3_pn, pk2_eq, pk1_s, pk1_i, pk0_eq, ePopK_eq, sk3_eq, sk2_s, sk2_i, sk1_eq, sk0_eq, sSetK_eq, listD_keys, neD_nil, dropD_keys, eq_self, isi_non_bool, isi_non_int, isi_non_str, isi_non_tuple, isi_non_list, isi_bl_bool, isi_bl_int, isi_bl_str, isi_bl_tuple, isi_bl_list, isi_int_bool, isi_int_int, isi_int_str, isi_int_tuple, isi_int_list, isi_str_bool, isi_str_int, isi_str_str, isi_str_tuple, isi_str_list, isi_tup_bool, isi_tup_int, isi_tup_str, isi_tup_tuple, isi_tup_list, isi_lst_bool, isi_lst_int, isi_lst_str, isi_lst_tuple, isi_lst_list, isN_non, isN_bl, isN_int, isN_str, isN_tup, isN_lst, eqD_b, neD_b, startsD_eq, anyB_map, allB_map, sumD_map, maxD1_map, notInD_ls, notInD_keys, gsNil_eq, gsCons_eq, gsk_eq, gT2_eq, gT3_eq, iZ_eq, iz0_eq, iz1_eq, iz2_eq, sPin_eq, pin0_ow, pin0_sh, unpin_eq, unp_pn, pin1_nx, pin1_rt, cut_to, cut_from1, eFld_eq, fd0_eq, fd1_eq, sFd_eq, sfd0_eq, sfd1_ow, sfd1_pn, sfd2_eq, eMeth_eq, eMethF_eq, me0_eq, me1_eq, me2_eq, me3_0, me3_1, me3_2, me3_3, eMethP_eq, eMethPF_eq, mp0_ow, mp0_pn, mp1_eq, eNew_eq, nw0_eq, nw1_0, nw1_1, nw1_2, nw2_eq, exEq_eq, xq0_eq, xq1_eq, xq2_eq, xq3_eq, iso_eq, iso1_t, iS_eq, is1_eq, is0_eq, iR2_eq, ir2a_eq, ir2c_eq, maxD2_i, inD_sign, lc1_go, lcc_eq, dc1_go, dcc_eq, now_nil, now_cons, now1_sh, now1_none, bsV_nil, bsV_cons, Bool.and_true, Bool.true_and, fld_b, fld_r, set_b0, set_r0, set_b1, set_r1, isC_end, hasM_settle0, hasM_settle, hasM_head, hasM_ring, hasM_first, hasM_signs, hasM_later, hasM_behind, hasM_below, hasM_under, hasM_begins, hasM_starts, hasM_before, nin_nil, nin_cons, Nat.reduceBNe, iK_eq, ik0_eq, keyD_keys, eGet2_eq, ge0_eq, ge1_s, ge2_eq, ge3_eq, eLenM_eq, lm0_eq, lm1_eq, new0_1, parC_t, par2_go, sPar_eq, par0_eq, iLT_eq, lt1_eq, lt2_l, lt2_t, fld_k, isC_sw, hasW_rows, hasW_of, hasW_leads, hasW_then, hasW_back, hasW_power, hasW_seen, hasW_within, hasW_fixed, hasW_parted, inD_tD, listD_tD, valD_tD, iEn_eq, en1_eq, en2_eq, dropD_tDT, set_k0T, set_k1T])
local macro_rules | `(tactic| walk_at "eh") => `(tactic| simp only [eVar_eq, eVar_k1, eK_eq, oS_eq, oS_k1, oE_eq, oE_k1, fetch_d, fetch_s, fetch_k1, eOp2_eq, op2k1_eq, op2k2_eq, op2k3_eq, op2k4_eq, pr_some, aNil_eq, aC2_eq, aCons_eq, aC1_eq, fetchs_nil, fts2_eq, fetchs_cons, fts1_eq, eA_eq, eA1_eq, eA2_eq, allD_nil, allD_cons, eDisp_eq, eD1_eq, eD2_0, eD2_1, eD2_2, eD2_3, eD2_4, eD2_5, eD2_6, pNo_eq, pAt_eq, pAt1_eq, eSl_eq, sl1_eq, sl2_eq, sl3_eq, sl4_eq, eAnd_eq, and1_eq, eOr_eq, or1_eq, eNot_eq, not1_eq, eIf_eq, if1_eq, eNeg_eq, neg1_eq, eM_eq, m0_eq, m1_str, m1_lst, m2_eq, m3_eq, m4_eq, mu4_eq, mu3_ow, mu3_pn, mu2_eq, mu1_eq, mu0_eq, eMut_eq, sSeq_eq, seq1_nx, seq1_bk, seq1_ct, seq1_rt, sNil_eq, sBk_eq, sCt_eq, sRetN_eq, sE_eq, se1_eq, sRet_eq, sRetF_eq, sret1_eq, sRetOw_eq, sRetOw1_eq, sIf_eq, sif1_eq, sg2_eq, sG_eq, sg1_eq, okSet_eq, okk_none, okk_sh, okk_ow, gN_eq, sOw_eq, ow1_eq, sFz_eq, fz1_ow, fz1_sh, fz1_pn, fz1_no, stl3_eq, stl2_ow, stl2_pn, stl1_eq, sSetL_eq, sFor_eq, sfor1_eq, sWhile_eq, iL_eq, il1_eq, il2_eq, bOf_d, bOf_s, iR1_eq, ir1_eq, fn1_rt, fn1_nx, eCall_eq, eCallF_eq, cv1_eq, cv2_1, cv2_2, cv2_3, cv3_eq, cvE_eq, cvF_eq, eCallB_eq, cb0_eq, cb1_1, cb1_2, cb1_3, cb2_bl, cb2_int, cb2_str, eCallP_eq, eCallPF_eq, cp0_eq, cp1_eq, cp2_eq, cp3_ow0, cp3_ow1, cp3_ow2, cp3_pn0, cp3_pn1, cp3_pn2, cp4_eq, eLc_eq, lc2_eq, eDc_eq, dc2_eq, bnd_some, mp_some, gt0, gtS, st0, stS, if_true, if_false, if_pos, Bool.true_eq_false, Bool.false_eq_true, stl0_eq2, stk_eq, ix0, ix1, ix2, ix3, ix4, ixT0, ixT1, ixT2, addD_i, subD_i, ltD_i, ltD_s, leD_i, gtD_i, gtD_s, geD_i, powD_18, lenD_l, lenD_t, lenD_d, eqD_s, neD_s, eqD_i, neD_i, decide_eq_true_eq, ↓reduceIte, decide_true, decide_false, not_true_eq_false, not_false_eq_true, Bool.not_true, Bool.not_false, List.length_map, List.length_cons, List.length_nil, Int.reduceLT, Int.reduceLE, Int.reduceNeg, and_self, and_true, true_and, mulD_r, mulD_l, modD_i, fdivD_i, Int.reduceAdd, Nat.reduceAdd, ixN50, ixN51, ixN52, ixN53, ixN54, slL_eq, slL_scr, listD_l, cut_up, cut_last, cut_all, slS_eq, inD_ls, inD_keys, wipe0, wipe1, rest0, rest1, gd_some, gd_none, decide_not, Bool.not_eq_true', decide_eq_false_iff_not, Classical.not_not, gPop_eq, allB_eq, List.nil_append, pk4_eq, pk3_ow, pk3_pn, pk2_eq, pk1_s, pk1_i, pk0_eq, ePopK_eq, sk3_eq, sk2_s, sk2_i, sk1_eq, sk0_eq, sSetK_eq, listD_keys, neD_nil, dropD_keys, eq_self, isi_non_bool, isi_non_int, isi_non_str, isi_non_tuple, isi_non_list, isi_bl_bool, isi_bl_int, isi_bl_str, isi_bl_tuple, isi_bl_list, isi_int_bool, isi_int_int, isi_int_str, isi_int_tuple, isi_int_list, isi_str_bool, isi_str_int, isi_str_str, isi_str_tuple, isi_str_list, isi_tup_bool, isi_tup_int, isi_tup_str, isi_tup_tuple, isi_tup_list, isi_lst_bool, isi_lst_int, isi_lst_str, isi_lst_tuple, isi_lst_list, isN_non, isN_bl, isN_int, isN_str, isN_tup, isN_lst, eqD_b, neD_b, startsD_eq, anyB_map, allB_map, sumD_map, maxD1_map, notInD_ls, notInD_keys, gsNil_eq, gsCons_eq, gsk_eq, gT2_eq, gT3_eq, iZ_eq, iz0_eq, iz1_eq, iz2_eq, sPin_eq, pin0_ow, pin0_sh, unpin_eq, unp_pn, pin1_nx, pin1_rt, cut_to, cut_from1, eFld_eq, fd0_eq, fd1_eq, sFd_eq, sfd0_eq, sfd1_ow, sfd1_pn, sfd2_eq, eMeth_eq, eMethF_eq, me0_eq, me1_eq, me2_eq, me3_0, me3_1, me3_2, me3_3, eMethP_eq, eMethPF_eq, mp0_ow, mp0_pn, mp1_eq, eNew_eq, nw0_eq, nw1_0, nw1_1, nw1_2, nw2_eq, exEq_eq, xq0_eq, xq1_eq, xq2_eq, xq3_eq, iso_eq, iso1_t, iS_eq, is1_eq, is0_eq, iR2_eq, ir2a_eq, ir2c_eq, maxD2_i, inD_sign, lc1_go, lcc_eq, dc1_go, dcc_eq, now_nil, now_cons, now1_sh, now1_none, bsV_nil, bsV_cons, Bool.and_true, Bool.true_and, fld_b, fld_r, set_b0, set_r0, set_b1, set_r1, isC_end, hasM_settle0, hasM_settle, hasM_head, hasM_ring, hasM_first, hasM_signs, hasM_later, hasM_behind, hasM_below, hasM_under, hasM_begins, hasM_starts, hasM_before, nin_nil, nin_cons, Nat.reduceBNe, iK_eq, ik0_eq, keyD_keys, eGet2_eq, ge0_eq, ge1_s, ge2_eq, ge3_eq, eLenM_eq, lm0_eq, lm1_eq, new0_1, parC_t, par2_go, sPar_eq, par0_eq, iLT_eq, lt1_eq, lt2_l, lt2_t, fld_k, isC_sw, hasW_rows, hasW_of, hasW_leads, hasW_then, hasW_back, hasW_power, hasW_seen, hasW_within, hasW_fixed, hasW_parted, inD_tD, listD_tD, valD_tD, iEn_eq, en1_eq, en2_eq, dropD_tDT, set_k0T, set_k1T, *])
theorem pre_dec (s : Nat → Nat) (x : Wd) : decide (Qm.pre s x.length = x) = true ↔ Pre x s := by
  rw [decide_eq_true_iff]
  exact eq_comm
/-- what a row goes to by a table -/
theorem image_run {gb gl gw : FN} (hb : ∀ {n : Nat} {s : Nat → Nat} {h r : Wd}, Rs n s h r → n ≤ 5000 → ∀ x : Wd, x.length ≤ 5000 → gb [endD h r, .str x] = some (.ok false (.bl (decide (Qm.pre s x.length = x))) [.non, .non]))
    (hl : ∀ {n : Nat} {s : Nat → Nat} {h r : Wd}, Rs n s h r → n ≤ 5000 → ∀ k : Nat, ∃ a b, Rs n (shf k s) a b ∧ gl [endD h r, .int (k : Int)] = some (.ok true (endD a b) [.non, .non]))
    (hw : ∀ {n : Nat} {s : Nat → Nat} {h r : Wd}, Rs n s h r → n ≤ 5000 → ∀ x : Wd, Bin x → x.length ≤ 5000 → ∃ a b, Rs (n + x.length) (app x s) a b ∧ gw [endD h r, .str x] = some (.ok true (endD a b) [.non, .non]))
    {m : Nat} {T : List Rw} (hT : Tw m T) (hm : m ≤ 2000) {n : Nat} {s : Nat → Nat} {h r : Wd} (hs : Rs n s h r) (hn : n ≤ 2000) : ∃ t a b, Mv T s t ∧ Rs (n + m) t a b ∧ fnF [.sh, .sh] 2 (F_image gb gl gw) [rowsD T, endD h r] = some (.ok false (endD a b) [.non, .non]) := by
  suffices hh : W (fnF [.sh, .sh] 2 (F_image gb gl gw) [rowsD T, endD h r]) fun z => ∃ t a b, Mv T s t ∧ Rs (n + m) t a b ∧ z = .ok false (endD a b) [.non, .non] by
    obtain ⟨z, e, t, a, b, h1, h2, rfl⟩ := hh
    exact ⟨t, a, b, h1, h2, e⟩
  rw [fnF_eq _ _ _ _ rfl]
  show W (fn1 [.sh, .sh] (F_image gb gl gw [sv (rowsD T), sv (endD h r), none, none])) _
  unfold F_image
  walk_at "ev"
  have kb := fun x hx => hb hs (by omega) x hx
  obtain ⟨w0, hw0, hp0⟩ := hT.h.cov s hs.bi
  obtain ⟨p0, hp1, e0⟩ := List.mem_map.mp hw0
  have hp0 : Pre p0.1 s := by
    have e0 : p0.1 = w0 := e0
    rw [e0]
    exact hp0
  refine W.fnK (W.forK (fun items e => ∃ (zs : List Rw) (x2 x3 : Option Sl), zs.map rowD = items ∧ e = [sv (rowsD T), sv (endD h r), x2, x3] ∧ Sh x2 ∧ Sh x3 ∧ (∀ z ∈ zs, z ∈ T) ∧ ∃ z ∈ zs, Pre z.1 s) ⟨T, none, none, rfl, rfl, Sh.no, Sh.no, fun _ z => z, p0, hp1, hp0⟩ ?_ ?_)
  · rintro e ⟨zs, x2, x3, hz, rfl, s2, s3, hm2, z, hz2, _⟩
    have : zs = [] := by simpa using hz
    subst this
    cases hz2
  · rintro d' ds e ⟨zs, x2, x3, hz, rfl, s2, s3, hm2, p, hp2, hp3⟩
    cases zs with
    | nil => cases hz
    | cons z zs =>
      cases hz
      have o2 := s2.okk
      have o3 := s3.okk
      have mz := hm2 z (by simp)
      have l1 := hT.h.hd.wl z.1 (List.mem_map.mpr ⟨z, mz, rfl⟩)
      have l2 := hT.o.hd.wl z.2 (List.mem_map.mpr ⟨z, mz, rfl⟩)
      have k1 := kb z.1 (by omega)
      refine ⟨rfl, [sv (rowsD T), sv (endD h r), sv (.str z.1), sv (.str z.2)], by clear hm2 kb; walk_at "eh", ?_⟩
      have ln := lenD_s z.1 (by omega)
      by_cases c : Pre z.1 s
      · rw [(pre_dec s z.1).mpr c] at k1
        obtain ⟨a, b, r1, e1⟩ := hl hs (by omega) z.1.length
        obtain ⟨a2, b2, r2, e2⟩ := hw r1 (by omega) z.2 (hT.o.hd.bin z.2 (List.mem_map.mpr ⟨z, mz, rfl⟩)) (by omega)
        clear kb hb hl hw hm2
        walk_at "eh"
        refine W.ret (Aft.rt ?_)
        walk_at "ev"
        exact W.ret (W.ret ⟨_, a2, b2, ⟨z, mz, c, rfl⟩, ⟨r2.can, r2.sg, r2.ba, r2.bb, by have := r2.la; omega, by have := r2.lb; omega⟩, rfl⟩)
      · have k2 : decide (Qm.pre s z.1.length = z.1) = false := Bool.eq_false_iff.mpr fun w => c ((pre_dec s z.1).mp w)
        rw [k2] at k1
        have hm3 : ∀ y ∈ zs, y ∈ T := fun y hy => hm2 y (by simp [hy])
        have ex : ∃ y ∈ zs, Pre y.1 s := by
          rcases List.mem_cons.mp hp2 with e | e
          · rw [e] at hp3
            exact absurd hp3 c
          · exact ⟨p, e, hp3⟩
        clear kb hb hl hw hm2 k2
        walk_at "eh"
        exact W.ret (Aft.nx ⟨zs, _, _, rfl, rfl, Sh.sh _, Sh.sh _, hm3, ex⟩)
theorem swap_of_run {g : FN} {T : List Rw} {d e : D} (hg : g [rowsD T, d] = some (.ok false e [.non, .non])) : fnF [.sh, .sh] 0 (F_Swap__of g) [swD T, d] = some (.ok false e [.non, .non]) := by
  rw [fnF_eq _ _ _ _ rfl]
  show fn1 [.sh, .sh] (F_Swap__of g [sv (swD T), sv d]) = _
  unfold F_Swap__of
  walk_at "eh"
  rfl
end Lw
namespace Lw
open PySem PySem.Spec L2 Qd Qm
local macro_rules | `(tactic| walk_at "ev") => `(tactic| simp only [eVar_eq, eVar_k1, eK_eq, oS_eq, oS_k1, oE_eq, oE_k1, fetch_d, fetch_s, fetch_k1, eOp2_eq, op2k1_eq, op2k2_eq, op2k3_eq, op2k4_eq, pr_some, aNil_eq, aC2_eq, aCons_eq, aC1_eq, fetchs_nil, fts2_eq, fetchs_cons, fts1_eq, eA_eq, eA1_eq, eA2_eq, allD_nil, allD_cons, eDisp_eq, eD1_eq, eD2_0, eD2_1, eD2_2, eD2_3, eD2_4, eD2_5, eD2_6, pNo_eq, pAt_eq, pAt1_eq, eSl_eq, sl1_eq, sl2_eq, sl3_eq, sl4_eq, eAnd_eq, and1_eq, eOr_eq, or1_eq, eNot_eq, not1_eq, eIf_eq, if1_eq, eNeg_eq, neg1_eq, eM_eq, m0_eq, m1_str, m1_lst, m2_eq, m3_eq, m4_eq, mu4_eq, mu3_ow, mu3_pn, mu2_eq, mu1_eq, mu0_eq, eMut_eq, sSeq_eq, seq1_nx, seq1_bk, seq1_ct, seq1_rt, sNil_eq, sBk_eq, sCt_eq, sRetN_eq, sE_eq, se1_eq, sRet_eq, sRetF_eq, sret1_eq, sRetOw_eq, sRetOw1_eq, sIf_eq, sif1_eq, sg2_eq, sG_eq, sg1_eq, okSet_eq, okk_none, okk_sh, okk_ow, gN_eq, sOw_eq, ow1_eq, sFz_eq, fz1_ow, fz1_sh, fz1_pn, fz1_no, stl3_eq, stl2_ow, stl2_pn, stl1_eq, sSetL_eq, sFor_eq, sfor1_eq, sWhile_eq, iL_eq, il1_eq, il2_eq, bOf_d, bOf_s, iR1_eq, ir1_eq, fn1_rt, fn1_nx, eCall_eq, eCallF_eq, cv1_eq, cv2_1, cv2_2, cv2_3, cv3_eq, cvE_eq, cvF_eq, eCallB_eq, cb0_eq, cb1_1, cb1_2, cb1_3, cb2_bl, cb2_int, cb2_str, eCallP_eq, eCallPF_eq, cp0_eq, cp1_eq, cp2_eq, cp3_ow0, cp3_ow1, cp3_ow2, cp3_pn0, cp3_pn1, cp3_pn2, cp4_eq, eLc_eq, lc2_eq, eDc_eq, dc2_eq, bnd_some, mp_some, gt0, gtS, st0, stS, if_true, if_false, if_pos, Bool.true_eq_false, Bool.false_eq_true, stl0_eq2, stk_eq, ix0, ix1, ix2, ix3, ix4, ixT0, ixT1, ixT2, addD_i, subD_i, ltD_i, ltD_s, leD_i, gtD_i, gtD_s, geD_i, powD_18, lenD_l, lenD_t, lenD_d, eqD_s, neD_s, eqD_i, neD_i, decide_eq_true_eq, ↓reduceIte, decide_true, decide_false, not_true_eq_false, not_false_eq_true, Bool.not_true, Bool.not_false, List.length_map, List.length_cons, List.length_nil, Int.reduceLT, Int.reduceLE, Int.reduceNeg, and_self, and_true, true_and, mulD_r, mulD_l, modD_i, fdivD_i, Int.reduceAdd, Nat.reduceAdd, ixN50, ixN51, ixN52, ixN53, ixN54, slL_eq, slL_scr, listD_l, cut_up, cut_last, cut_all, eqD_s, neD_s, slS_eq, inD_ls, inD_keys, wipe0, wipe1, rest0, rest1, gt0, gd_some, gd_none, decide_not, Bool.not_eq_true', decide_eq_false_iff_not, Classical.not_not, gPop_eq, allB_eq, List.nil_append, ↓reduceIte, pk4_eq, pk3_ow, pk3_pn, pk2_eq, pk1_s, pk1_i, pk0_eq, ePopK_eq, sk3_eq, sk2_s, sk2_i, sk1_eq, sk0_eq, sSetK_eq, listD_keys, neD_nil, dropD_keys, eq_self, isi_non_bool, isi_non_int, isi_non_str, isi_non_tuple, isi_non_list, isi_bl_bool, isi_bl_int, isi_bl_str, isi_bl_tuple, isi_bl_list, isi_int_bool, isi_int_int, isi_int_str, isi_int_tuple, isi_int_list, isi_str_bool, isi_str_int, isi_str_str, isi_str_tuple, isi_str_list, isi_tup_bool, isi_tup_int, isi_tup_str, isi_tup_tuple, isi_tup_list, isi_lst_bool, isi_lst_int, isi_lst_str, isi_lst_tuple, isi_lst_list, isN_non, isN_bl, isN_int, isN_str, isN_tup, isN_lst, eqD_b, neD_b, startsD_eq, anyB_map, allB_map, sumD_map, maxD1_map, notInD_ls, notInD_keys, gsNil_eq, gsCons_eq, gsk_eq, gT2_eq, gT3_eq, iZ_eq, iz0_eq, iz1_eq, iz2_eq, sPin_eq, pin0_ow, pin0_sh, unpin_eq, unp_pn, pin1_nx, pin1_rt, cut_to, cut_from1])
local macro_rules | `(tactic| walk_at "eh") => `(tactic| simp only [eVar_eq, eVar_k1, eK_eq, oS_eq, oS_k1, oE_eq, oE_k1, fetch_d, fetch_s, fetch_k1, eOp2_eq, op2k1_eq, op2k2_eq, op2k3_eq, op2k4_eq, pr_some, aNil_eq, aC2_eq, aCons_eq, aC1_eq, fetchs_nil, fts2_eq, fetchs_cons, fts1_eq, eA_eq, eA1_eq, eA2_eq, allD_nil, allD_cons, eDisp_eq, eD1_eq, eD2_0, eD2_1, eD2_2, eD2_3, eD2_4, eD2_5, eD2_6, pNo_eq, pAt_eq, pAt1_eq, eSl_eq, sl1_eq, sl2_eq, sl3_eq, sl4_eq, eAnd_eq, and1_eq, eOr_eq, or1_eq, eNot_eq, not1_eq, eIf_eq, if1_eq, eNeg_eq, neg1_eq, eM_eq, m0_eq, m1_str, m1_lst, m2_eq, m3_eq, m4_eq, mu4_eq, mu3_ow, mu3_pn, mu2_eq, mu1_eq, mu0_eq, eMut_eq, sSeq_eq, seq1_nx, seq1_bk, seq1_ct, seq1_rt, sNil_eq, sBk_eq, sCt_eq, sRetN_eq, sE_eq, se1_eq, sRet_eq, sRetF_eq, sret1_eq, sRetOw_eq, sRetOw1_eq, sIf_eq, sif1_eq, sg2_eq, sG_eq, sg1_eq, okSet_eq, okk_none, okk_sh, okk_ow, gN_eq, sOw_eq, ow1_eq, sFz_eq, fz1_ow, fz1_sh, fz1_pn, fz1_no, stl3_eq, stl2_ow, stl2_pn, stl1_eq, sSetL_eq, sFor_eq, sfor1_eq, sWhile_eq, iL_eq, il1_eq, il2_eq, bOf_d, bOf_s, iR1_eq, ir1_eq, fn1_rt, fn1_nx, eCall_eq, eCallF_eq, cv1_eq, cv2_1, cv2_2, cv2_3, cv3_eq, cvE_eq, cvF_eq, eCallB_eq, cb0_eq, cb1_1, cb1_2, cb1_3, cb2_bl, cb2_int, cb2_str, eCallP_eq, eCallPF_eq, cp0_eq, cp1_eq, cp2_eq, cp3_ow0, cp3_ow1, cp3_ow2, cp3_pn0, cp3_pn1, cp3_pn2, cp4_eq, eLc_eq, lc2_eq, eDc_eq, dc2_eq, bnd_some, mp_some, gt0, gtS, st0, stS, if_true, if_false, if_pos, Bool.true_eq_false, Bool.false_eq_true, stl0_eq2, stk_eq, ix0, ix1, ix2, ix3, ix4, ixT0, ixT1, ixT2, addD_i, subD_i, ltD_i, ltD_s, leD_i, gtD_i, gtD_s, geD_i, powD_18, lenD_l, lenD_t, lenD_d, eqD_s, neD_s, eqD_i, neD_i, decide_eq_true_eq, ↓reduceIte, decide_true, decide_false, not_true_eq_false, not_false_eq_true, Bool.not_true, Bool.not_false, List.length_map, List.length_cons, List.length_nil, Int.reduceLT, Int.reduceLE, Int.reduceNeg, and_self, and_true, true_and, mulD_r, mulD_l, modD_i, fdivD_i, Int.reduceAdd, Nat.reduceAdd, ixN50, ixN51, ixN52, ixN53, ixN54, slL_eq, slL_scr, listD_l, cut_up, cut_last, cut_all, eqD_s, neD_s, slS_eq, inD_ls, inD_keys, wipe0, wipe1, rest0, rest1, gt0, gd_some, gd_none, decide_not, Bool.not_eq_true', decide_eq_false_iff_not, Classical.not_not, gPop_eq, allB_eq, List.nil_append, ↓reduceIte, pk4_eq, pk3_ow, pk3_pn, pk2_eq, pk1_s, pk1_i, pk0_eq, ePopK_eq, sk3_eq, sk2_s, sk2_i, sk1_eq, sk0_eq, sSetK_eq, listD_keys, neD_nil, dropD_keys, eq_self, isi_non_bool, isi_non_int, isi_non_str, isi_non_tuple, isi_non_list, isi_bl_bool, isi_bl_int, isi_bl_str, isi_bl_tuple, isi_bl_list, isi_int_bool, isi_int_int, isi_int_str, isi_int_tuple, isi_int_list, isi_str_bool, isi_str_int, isi_str_str, isi_str_tuple, isi_str_list, isi_tup_bool, isi_tup_int, isi_tup_str, isi_tup_tuple, isi_tup_list, isi_lst_bool, isi_lst_int, isi_lst_str, isi_lst_tuple, isi_lst_list, isN_non, isN_bl, isN_int, isN_str, isN_tup, isN_lst, eqD_b, neD_b, startsD_eq, anyB_map, allB_map, sumD_map, maxD1_map, notInD_ls, notInD_keys, gsNil_eq, gsCons_eq, gsk_eq, gT2_eq, gT3_eq, iZ_eq, iz0_eq, iz1_eq, iz2_eq, sPin_eq, pin0_ow, pin0_sh, unpin_eq, unp_pn, pin1_nx, pin1_rt, cut_to, cut_from1, *])
structure Box where
  cells : List Int
  pos : Nat
  rest : Int
  seed : Int
  cnt : Int
def boxD (b : Box) : D := .lst [.lst (b.cells.map D.int), .int b.pos, .int b.rest, .int b.seed, .int b.cnt]
structure Box.Ok (b : Box) : Prop where
  pos : b.pos ≤ b.cells.length
  s0 : 0 ≤ b.seed
  s1 : b.seed < 2147483647
def draw1 (b : Box) : Box := if b.rest < 1 ∧ (b.pos : Int) < b.cells.length then
    (if b.cells.getD b.pos 0 ≥ 10 ^ 18 then { b with pos := b.pos + 1, rest := b.cells.getD b.pos 0 } else { b with pos := b.pos + 1, seed := (b.seed + b.cells.getD b.pos 0 % 2147483629 * 69621) % 2147483647 })
  else b
def base (b : Box) : Int := (b.seed + (b.cnt + 1) * 7919) % 2147483647
def seed2 (b : Box) : Int := (base b * base b % 2147483629 * (base b % 65521 + 3) + 40692 * base b + 1013) % 2147483647
def draw2 (b : Box) (m : Int) : Int × Box := if b.rest > 0 then (b.rest % m, { b with rest := b.rest / m }) else ((seed2 b / 61 + seed2 b % 8191 * 29) % m, { b with seed := seed2 b, cnt := b.cnt + 1 })
def draw (b : Box) (m : Int) : Int × Box := draw2 (draw1 b) m
theorem seed2_lo (b : Box) : 0 ≤ seed2 b := Int.emod_nonneg _ (by decide)
theorem seed2_hi (b : Box) : seed2 b < 2147483647 := Int.emod_lt_of_pos _ (by decide)
theorem base_lo (b : Box) : 0 ≤ base b := Int.emod_nonneg _ (by decide)
theorem base_hi (b : Box) : base b < 2147483647 := Int.emod_lt_of_pos _ (by decide)
/-- the second half of a draw, from any box -/
theorem draw_tail (b : Box) (m : Int) (h0 : 0 < m) (h1 : m < 1073741824) (x : Option Sl) : fn1 [.pn, .sh] ((sSeq (sIf (eOp2 gtD (oE (eOp2 ixD (oS 0) (oE (eK (.int 2))))) (oE (eK (.int 0)))) (sSeq (sG (eOp2 modD (oE (eOp2 ixD (oS 0) (oE (eK (.int 2))))) (oS 1)) (gN 4))
    (sSeq (sSetL 0 (eK (.int 2)) (eOp2 fdivD (oE (eOp2 ixD (oS 0) (oE (eK (.int 2))))) (oS 1)))
    (sRet (eVar 4)))) sNil)
    (sSeq (sSetL 0 (eK (.int 4)) (eOp2 addD (oE (eOp2 ixD (oS 0) (oE (eK (.int 4))))) (oE (eK (.int 1)))))
    (sSeq (sG (eOp2 modD (oE (eOp2 addD (oE (eOp2 ixD (oS 0) (oE (eK (.int 3))))) (oE (eOp2 mulD (oE (eOp2 ixD (oS 0) (oE (eK (.int 4))))) (oE (eK (.int 7919))))))) (oE (eK (.int 2147483647)))) (gN 2))
    (sSeq (sSetL 0 (eK (.int 3)) (eOp2 modD (oE (eOp2 addD (oE (eOp2 addD (oE (eOp2 mulD (oE (eOp2 modD (oE (eOp2 mulD (oS 2) (oS 2))) (oE (eK (.int 2147483629))))) (oE (eOp2 addD (oE (eOp2 modD (oS 2) (oE (eK (.int 65521))))) (oE (eK (.int 3))))))) (oE (eOp2 mulD (oE (eK (.int 40692))) (oS 2))))) (oE (eK (.int 1013))))) (oE (eK (.int 2147483647)))))
    (sRet (eOp2 modD (oE (eOp2 addD (oE (eOp2 fdivD (oE (eOp2 ixD (oS 0) (oE (eK (.int 3))))) (oE (eK (.int 61))))) (oE (eOp2 mulD (oE (eOp2 modD (oE (eOp2 ixD (oS 0) (oE (eK (.int 3))))) (oE (eK (.int 8191))))) (oE (eK (.int 29))))))) (oS 1))))))) [some (.pn, boxD b), some (.sh, .int m), none, x.map fun y => (.sh, y.2), none]) = some (.ok false (.int (draw2 b m).1) [boxD (draw2 b m).2, .non]) := by
  have e1 : base b = (b.seed + (b.cnt + 1) * 7919) % 2147483647 := rfl
  have e2 : seed2 b = (base b * base b % 2147483629 * (base b % 65521 + 3) + 40692 * base b + 1013) % 2147483647 := rfl
  have b1 := base_lo b
  have b2 := base_hi b
  have b3 := Int.emod_nonneg (base b) (show (65521:Int) ≠ 0 by decide)
  have b4 := Int.emod_lt_of_pos (base b) (show (0:Int) < 65521 by decide)
  by_cases c : 0 < b.rest
  · have e : draw2 b m = (b.rest % m, { b with rest := b.rest / m }) := if_pos c
    rw [e]
    unfold boxD
    clear e e1 e2
    walk_at "eh"
    rfl
  · have e : draw2 b m = ((seed2 b / 61 + seed2 b % 8191 * 29) % m, { b with seed := seed2 b, cnt := b.cnt + 1 }) := if_neg c
    rw [e]
    have q1 : mulD (.int (base b)) (.int (base b)) = some (.int (base b * base b)) := mulD_r _ _ ⟨by omega, by omega⟩
    have q2 : mulD (.int (base b * base b % 2147483629)) (.int (base b % 65521 + 3)) = some (.int (base b * base b % 2147483629 * (base b % 65521 + 3))) := mulD_r _ _ ⟨by omega, by omega⟩
    clear e b1 b2 b3 b4
    unfold boxD
    rw [e2]
    generalize base b = z at *
    subst e1
    walk_at "eh"
    rfl
theorem draw_run (b : Box) (m : Int) (h0 : 0 < m) (h1 : m < 1073741824) : fnF [.pn, .sh] 3 F__law_draw [boxD b, .int m] = some (.ok false (.int (draw b m).1) [boxD (draw b m).2, .non]) := by
  rw [fnF_eq _ _ _ _ rfl]
  show fn1 [.pn, .sh] (F__law_draw [some (.pn, boxD b), some (.sh, .int m), none, none, none]) = _
  have t := draw_tail (draw1 b) m h0 h1
  have tn := t none
  have ts := fun d => t (some (.sh, d))
  simp only [Option.map_some, Option.map_none] at tn ts
  clear t
  unfold F__law_draw draw
  generalize hT : sSeq (sIf (eOp2 gtD (oE (eOp2 ixD (oS 0) (oE (eK (.int 2))))) (oE (eK (.int 0)))) _ _) _ = T at *
  generalize hR : (Res.ok false (D.int (draw2 (draw1 b) m).1) [boxD (draw2 (draw1 b) m).2, .non]) = R at *
  clear hT hR
  by_cases c1 : b.rest < 1
  · by_cases c2 : (b.pos : Int) < b.cells.length
    · have hc : (b.cells.map D.int)[b.pos]? = some (.int (b.cells.getD b.pos 0)) := by
        have : b.pos < b.cells.length := by omega
        simp [List.getElem?_eq_getElem this, List.getD_eq_getElem?_getD]
      have hd := ixD_l hc
      by_cases c3 : 1000000000000000000 ≤ b.cells.getD b.pos 0
      · have e : draw1 b = { b with pos := b.pos + 1, rest := b.cells.getD b.pos 0 } := by
          unfold draw1
          rw [if_pos ⟨c1, c2⟩, if_pos (by exact c3)]
        rw [e] at ts
        unfold boxD at *
        clear e tn
        simp only [Int.natCast_add, Int.cast_ofNat_Int] at ts
        walk_at "eh"
      · have e : draw1 b = { b with pos := b.pos + 1, seed := (b.seed + b.cells.getD b.pos 0 % 2147483629 * 69621) % 2147483647 } := by
          unfold draw1
          rw [if_pos ⟨c1, c2⟩, if_neg (by exact c3)]
        rw [e] at ts
        unfold boxD at *
        clear e tn
        simp only [Int.natCast_add, Int.cast_ofNat_Int] at ts
        walk_at "eh"
    · have e : draw1 b = b := if_neg fun z => c2 z.2
      rw [e] at tn
      unfold boxD at *
      clear e ts
      walk_at "eh"
  · have e : draw1 b = b := if_neg fun z => c1 z.1
    rw [e] at tn
    unfold boxD at *
    clear e ts
    walk_at "eh"
end Lw
namespace Lw
open PySem PySem.Spec L2 Qd Qm
local macro_rules | `(tactic| walk_at "ev") => `(tactic| simp only [eVar_eq, eVar_k1, eK_eq, oS_eq, oS_k1, oE_eq, oE_k1, fetch_d, fetch_s, fetch_k1, eOp2_eq, op2k1_eq, op2k2_eq, op2k3_eq, op2k4_eq, pr_some, aNil_eq, aC2_eq, aCons_eq, aC1_eq, fetchs_nil, fts2_eq, fetchs_cons, fts1_eq, eA_eq, eA1_eq, eA2_eq, allD_nil, allD_cons, eDisp_eq, eD1_eq, eD2_0, eD2_1, eD2_2, eD2_3, eD2_4, eD2_5, eD2_6, pNo_eq, pAt_eq, pAt1_eq, eSl_eq, sl1_eq, sl2_eq, sl3_eq, sl4_eq, eAnd_eq, and1_eq, eOr_eq, or1_eq, eNot_eq, not1_eq, eIf_eq, if1_eq, eNeg_eq, neg1_eq, eM_eq, m0_eq, m1_str, m1_lst, m2_eq, m3_eq, m4_eq, mu4_eq, mu3_ow, mu3_pn, mu2_eq, mu1_eq, mu0_eq, eMut_eq, sSeq_eq, seq1_nx, seq1_bk, seq1_ct, seq1_rt, sNil_eq, sBk_eq, sCt_eq, sRetN_eq, sE_eq, se1_eq, sRet_eq, sRetF_eq, sret1_eq, sRetOw_eq, sRetOw1_eq, sIf_eq, sif1_eq, sg2_eq, sG_eq, sg1_eq, okSet_eq, okk_none, okk_sh, okk_ow, gN_eq, sOw_eq, ow1_eq, sFz_eq, fz1_ow, fz1_sh, fz1_pn, fz1_no, stl3_eq, stl2_ow, stl2_pn, stl1_eq, sSetL_eq, sFor_eq, sfor1_eq, sWhile_eq, iL_eq, il1_eq, il2_eq, bOf_d, bOf_s, iR1_eq, ir1_eq, fn1_rt, fn1_nx, eCall_eq, eCallF_eq, cv1_eq, cv2_1, cv2_2, cv2_3, cv3_eq, cvE_eq, cvF_eq, eCallB_eq, cb0_eq, cb1_1, cb1_2, cb1_3, cb2_bl, cb2_int, cb2_str, eCallP_eq, eCallPF_eq, cp0_eq, cp1_eq, cp2_eq, cp3_ow0, cp3_ow1, cp3_ow2, cp3_pn0, cp3_pn1, cp3_pn2, cp4_eq, eLc_eq, lc2_eq, eDc_eq, dc2_eq, bnd_some, mp_some, gt0, gtS, st0, stS, if_true, if_false, if_pos, Bool.true_eq_false, Bool.false_eq_true, stl0_eq2, stk_eq, ix0, ix1, ix2, ix3, ix4, ixT0, ixT1, ixT2, addD_i, subD_i, ltD_i, ltD_s, leD_i, gtD_i, gtD_s, geD_i, powD_18, lenD_l, lenD_t, lenD_d, eqD_s, neD_s, eqD_i, neD_i, decide_eq_true_eq, ↓reduceIte, decide_true, decide_false, not_true_eq_false, not_false_eq_true, Bool.not_true, Bool.not_false, List.length_map, List.length_cons, List.length_nil, Int.reduceLT, Int.reduceLE, Int.reduceNeg, and_self, and_true, true_and, mulD_r, mulD_l, modD_i, fdivD_i, Int.reduceAdd, Nat.reduceAdd, ixN50, ixN51, ixN52, ixN53, ixN54, slL_eq, slL_scr, listD_l, cut_up, cut_last, cut_all, eqD_s, neD_s, slS_eq, inD_ls, inD_keys, wipe0, wipe1, rest0, rest1, gt0, gd_some, gd_none, decide_not, Bool.not_eq_true', decide_eq_false_iff_not, Classical.not_not, gPop_eq, allB_eq, List.nil_append, ↓reduceIte, pk4_eq, pk3_ow, pk3_pn, pk2_eq, pk1_s, pk1_i, pk0_eq, ePopK_eq, sk3_eq, sk2_s, sk2_i, sk1_eq, sk0_eq, sSetK_eq, listD_keys, neD_nil, dropD_keys, eq_self, isi_non_bool, isi_non_int, isi_non_str, isi_non_tuple, isi_non_list, isi_bl_bool, isi_bl_int, isi_bl_str, isi_bl_tuple, isi_bl_list, isi_int_bool, isi_int_int, isi_int_str, isi_int_tuple, isi_int_list, isi_str_bool, isi_str_int, isi_str_str, isi_str_tuple, isi_str_list, isi_tup_bool, isi_tup_int, isi_tup_str, isi_tup_tuple, isi_tup_list, isi_lst_bool, isi_lst_int, isi_lst_str, isi_lst_tuple, isi_lst_list, isN_non, isN_bl, isN_int, isN_str, isN_tup, isN_lst, eqD_b, neD_b, startsD_eq, anyB_map, allB_map, sumD_map, maxD1_map, notInD_ls, notInD_keys, gsNil_eq, gsCons_eq, gsk_eq, gT2_eq, gT3_eq, iZ_eq, iz0_eq, iz1_eq, iz2_eq, sPin_eq, pin0_ow, pin0_sh, unpin_eq, unp_pn, pin1_nx, pin1_rt, cut_to, cut_from1])
local macro_rules | `(tactic| walk_at "eh") => `(tactic| simp only [eVar_eq, eVar_k1, eK_eq, oS_eq, oS_k1, oE_eq, oE_k1, fetch_d, fetch_s, fetch_k1, eOp2_eq, op2k1_eq, op2k2_eq, op2k3_eq, op2k4_eq, pr_some, aNil_eq, aC2_eq, aCons_eq, aC1_eq, fetchs_nil, fts2_eq, fetchs_cons, fts1_eq, eA_eq, eA1_eq, eA2_eq, allD_nil, allD_cons, eDisp_eq, eD1_eq, eD2_0, eD2_1, eD2_2, eD2_3, eD2_4, eD2_5, eD2_6, pNo_eq, pAt_eq, pAt1_eq, eSl_eq, sl1_eq, sl2_eq, sl3_eq, sl4_eq, eAnd_eq, and1_eq, eOr_eq, or1_eq, eNot_eq, not1_eq, eIf_eq, if1_eq, eNeg_eq, neg1_eq, eM_eq, m0_eq, m1_str, m1_lst, m2_eq, m3_eq, m4_eq, mu4_eq, mu3_ow, mu3_pn, mu2_eq, mu1_eq, mu0_eq, eMut_eq, sSeq_eq, seq1_nx, seq1_bk, seq1_ct, seq1_rt, sNil_eq, sBk_eq, sCt_eq, sRetN_eq, sE_eq, se1_eq, sRet_eq, sRetF_eq, sret1_eq, sRetOw_eq, sRetOw1_eq, sIf_eq, sif1_eq, sg2_eq, sG_eq, sg1_eq, okSet_eq, okk_none, okk_sh, okk_ow, gN_eq, sOw_eq, ow1_eq, sFz_eq, fz1_ow, fz1_sh, fz1_pn, fz1_no, stl3_eq, stl2_ow, stl2_pn, stl1_eq, sSetL_eq, sFor_eq, sfor1_eq, sWhile_eq, iL_eq, il1_eq, il2_eq, bOf_d, bOf_s, iR1_eq, ir1_eq, fn1_rt, fn1_nx, eCall_eq, eCallF_eq, cv1_eq, cv2_1, cv2_2, cv2_3, cv3_eq, cvE_eq, cvF_eq, eCallB_eq, cb0_eq, cb1_1, cb1_2, cb1_3, cb2_bl, cb2_int, cb2_str, eCallP_eq, eCallPF_eq, cp0_eq, cp1_eq, cp2_eq, cp3_ow0, cp3_ow1, cp3_ow2, cp3_pn0, cp3_pn1, cp3_pn2, cp4_eq, eLc_eq, lc2_eq, eDc_eq, dc2_eq, bnd_some, mp_some, gt0, gtS, st0, stS, if_true, if_false, if_pos, Bool.true_eq_false, Bool.false_eq_true, stl0_eq2, stk_eq, ix0, ix1, ix2, ix3, ix4, ixT0, ixT1, ixT2, addD_i, subD_i, ltD_i, ltD_s, leD_i, gtD_i, gtD_s, geD_i, powD_18, lenD_l, lenD_t, lenD_d, eqD_s, neD_s, eqD_i, neD_i, decide_eq_true_eq, ↓reduceIte, decide_true, decide_false, not_true_eq_false, not_false_eq_true, Bool.not_true, Bool.not_false, List.length_map, List.length_cons, List.length_nil, Int.reduceLT, Int.reduceLE, Int.reduceNeg, and_self, and_true, true_and, mulD_r, mulD_l, modD_i, fdivD_i, Int.reduceAdd, Nat.reduceAdd, ixN50, ixN51, ixN52, ixN53, ixN54, slL_eq, slL_scr, listD_l, cut_up, cut_last, cut_all, eqD_s, neD_s, slS_eq, inD_ls, inD_keys, wipe0, wipe1, rest0, rest1, gt0, gd_some, gd_none, decide_not, Bool.not_eq_true', decide_eq_false_iff_not, Classical.not_not, gPop_eq, allB_eq, List.nil_append, ↓reduceIte, pk4_eq, pk3_ow, pk3_pn, pk2_eq, pk1_s, pk1_i, pk0_eq, ePopK_eq, sk3_eq, sk2_s, sk2_i, sk1_eq, sk0_eq, sSetK_eq, listD_keys, neD_nil, dropD_keys, eq_self, isi_non_bool, isi_non_int, isi_non_str, isi_non_tuple, isi_non_list, isi_bl_bool, isi_bl_int, isi_bl_str, isi_bl_tuple, isi_bl_list, isi_int_bool, isi_int_int, isi_int_str, isi_int_tuple, isi_int_list, isi_str_bool, isi_str_int, isi_str_str, isi_str_tuple, isi_str_list, isi_tup_bool, isi_tup_int, isi_tup_str, isi_tup_tuple, isi_tup_list, isi_lst_bool, isi_lst_int, isi_lst_str, isi_lst_tuple, isi_lst_list, isN_non, isN_bl, isN_int, isN_str, isN_tup, isN_lst, eqD_b, neD_b, startsD_eq, anyB_map, allB_map, sumD_map, maxD1_map, notInD_ls, notInD_keys, gsNil_eq, gsCons_eq, gsk_eq, gT2_eq, gT3_eq, iZ_eq, iz0_eq, iz1_eq, iz2_eq, sPin_eq, pin0_ow, pin0_sh, unpin_eq, unp_pn, pin1_nx, pin1_rt, cut_to, cut_from1, *])
def Drw (g : FN) : Prop := ∀ (b : Box) (m : Nat), 0 < m → m < 1000000 → ∃ (n : Nat) (b2 : Box), n < m ∧ g [boxD b, .int (m : Int)] = some (.ok false (.int (n : Int)) [boxD b2, .non])
theorem drw : Drw (fnF [.pn, .sh] 3 F__law_draw) := fun b m h0 h1 => by
  have e := draw_run b m (by omega) (by omega)
  have key : ∀ x : Int, 0 ≤ x % (m : Int) ∧ x % (m : Int) < m := fun x => ⟨Int.emod_nonneg _ (by omega), Int.emod_lt_of_pos _ (by omega)⟩
  have r : 0 ≤ (draw b m).1 ∧ (draw b m).1 < m := by
    unfold draw draw2
    split
    · exact key _
    · exact key _
  refine ⟨(draw b m).1.toNat, (draw b m).2, by omega, ?_⟩
  rw [e]
  congr 3
  omega
end Lw
namespace Lw
open PySem PySem.Spec L2 Qd Qm
local macro_rules | `(tactic| walk_at "ev") => `(tactic| simp only [eVar_eq, eVar_k1, eK_eq, oS_eq, oS_k1, oE_eq, oE_k1, fetch_d, fetch_s, fetch_k1, eOp2_eq, op2k1_eq, op2k2_eq, op2k3_eq, op2k4_eq, pr_some, aNil_eq, aC2_eq, aCons_eq, aC1_eq, fetchs_nil, fts2_eq, fetchs_cons, fts1_eq, eA_eq, eA1_eq, eA2_eq, allD_nil, allD_cons, eDisp_eq, eD1_eq, eD2_0, eD2_1, eD2_2, eD2_3, eD2_4, eD2_5, eD2_6, pNo_eq, pAt_eq, pAt1_eq, eSl_eq, sl1_eq, sl2_eq, sl3_eq, sl4_eq, eAnd_eq, and1_eq, eOr_eq, or1_eq, eNot_eq, not1_eq, eIf_eq, if1_eq, eNeg_eq, neg1_eq, eM_eq, m0_eq, m1_str, m1_lst, m2_eq, m3_eq, m4_eq, mu4_eq, mu3_ow, mu3_pn, mu2_eq, mu1_eq, mu0_eq, eMut_eq, sSeq_eq, seq1_nx, seq1_bk, seq1_ct, seq1_rt, sNil_eq, sBk_eq, sCt_eq, sRetN_eq, sE_eq, se1_eq, sRet_eq, sRetF_eq, sret1_eq, sRetOw_eq, sRetOw1_eq, sIf_eq, sif1_eq, sg2_eq, sG_eq, sg1_eq, okSet_eq, okk_none, okk_sh, okk_ow, gN_eq, sOw_eq, ow1_eq, sFz_eq, fz1_ow, fz1_sh, fz1_pn, fz1_no, stl3_eq, stl2_ow, stl2_pn, stl1_eq, sSetL_eq, sFor_eq, sfor1_eq, sWhile_eq, iL_eq, il1_eq, il2_eq, bOf_d, bOf_s, iR1_eq, ir1_eq, fn1_rt, fn1_nx, eCall_eq, eCallF_eq, cv1_eq, cv2_1, cv2_2, cv2_3, cv3_eq, cvE_eq, cvF_eq, eCallB_eq, cb0_eq, cb1_1, cb1_2, cb1_3, cb2_bl, cb2_int, cb2_str, eCallP_eq, eCallPF_eq, cp0_eq, cp1_eq, cp2_eq, cp3_ow0, cp3_ow1, cp3_ow2, cp3_pn0, cp3_pn1, cp3_pn2, cp4_eq, eLc_eq, lc2_eq, eDc_eq, dc2_eq, bnd_some, mp_some, gt0, gtS, st0, stS, if_true, if_false, if_pos, Bool.true_eq_false, Bool.false_eq_true, stl0_eq2, stk_eq, ix0, ix1, ix2, ix3, ix4, ixT0, ixT1, ixT2, addD_i, subD_i, ltD_i, ltD_s, leD_i, gtD_i, gtD_s, geD_i, powD_18, lenD_l, lenD_t, lenD_d, eqD_s, neD_s, eqD_i, neD_i, decide_eq_true_eq, ↓reduceIte, decide_true, decide_false, not_true_eq_false, not_false_eq_true, Bool.not_true, Bool.not_false, List.length_map, List.length_cons, List.length_nil, Int.reduceLT, Int.reduceLE, Int.reduceNeg, and_self, and_true, true_and, mulD_r, mulD_l, modD_i, fdivD_i, Int.reduceAdd, Nat.reduceAdd, ixN50, ixN51, ixN52, ixN53, ixN54, slL_eq, slL_scr, listD_l, cut_up, cut_last, cut_all, slS_eq, inD_ls, inD_keys, wipe0, wipe1, rest0, rest1, gd_some, gd_none, decide_not, Bool.not_eq_true', decide_eq_false_iff_not, Classical.not_not, gPop_eq, allB_eq, List.nil_append, pk4_eq, pk3_ow, pk3_pn, pk2_eq, pk1_s, pk1_i, pk0_eq, ePopK_eq, sk3_eq, sk2_s, sk2_i, sk1_eq, sk0_eq, sSetK_eq, listD_keys, neD_nil, dropD_keys, eq_self, isi_non_bool, isi_non_int, isi_non_str, isi_non_tuple, isi_non_list, isi_bl_bool, isi_bl_int, isi_bl_str, isi_bl_tuple, isi_bl_list, isi_int_bool, isi_int_int, isi_int_str, isi_int_tuple, isi_int_list, isi_str_bool, isi_str_int, isi_str_str, isi_str_tuple, isi_str_list, isi_tup_bool, isi_tup_int, isi_tup_str, isi_tup_tuple, isi_tup_list, isi_lst_bool, isi_lst_int, isi_lst_str, isi_lst_tuple, isi_lst_list, isN_non, isN_bl, isN_int, isN_str, isN_tup, isN_lst, eqD_b, neD_b, startsD_eq, anyB_map, allB_map, sumD_map, maxD1_map, notInD_ls, notInD_keys, gsNil_eq, gsCons_eq, gsk_eq, gT2_eq, gT3_eq, iZ_eq, iz0_eq, iz1_eq, iz2_eq, sPin_eq, pin0_ow, pin0_sh, unpin_eq, unp_pn, pin1_nx, pin1_rt, cut_to, cut_from1, eFld_eq, fd0_eq, fd1_eq, sFd_eq, sfd0_eq, sfd1_ow, sfd1_pn, sfd2_eq, eMeth_eq, eMethF_eq, me0_eq, me1_eq, me2_eq, me3_0, me3_1, me3_2, me3_3, eMethP_eq, eMethPF_eq, mp0_ow, mp0_pn, mp1_eq, eNew_eq, nw0_eq, nw1_0, nw1_1, nw1_2, nw2_eq, exEq_eq, xq0_eq, xq1_eq, xq2_eq, xq3_eq, iso_eq, iso1_t, iS_eq, is1_eq, is0_eq, iR2_eq, ir2a_eq, ir2c_eq, maxD2_i, inD_sign, lc1_go, lcc_eq, dc1_go, dcc_eq, now_nil, now_cons, now1_sh, now1_none, bsV_nil, bsV_cons, Bool.and_true, Bool.true_and, fld_b, fld_r, set_b0, set_r0, set_b1, set_r1, isC_end, hasM_settle0, hasM_settle, hasM_head, hasM_ring, hasM_first, hasM_signs, hasM_later, hasM_behind, hasM_below, hasM_under, hasM_begins, hasM_starts, hasM_before, nin_nil, nin_cons, Nat.reduceBNe, iK_eq, ik0_eq, keyD_keys, eGet2_eq, ge0_eq, ge1_s, ge2_eq, ge3_eq, eLenM_eq, lm0_eq, lm1_eq, new0_1, parC_t, par2_go, sPar_eq, par0_eq, iLT_eq, lt1_eq, lt2_l, lt2_t, fld_k, isC_sw, hasW_rows, hasW_of, hasW_leads, hasW_then, hasW_back, hasW_power, hasW_seen, hasW_within, hasW_fixed, hasW_parted, inD_tD, listD_tD, valD_tD, iEn_eq, en1_eq, en2_eq, dropD_tDT, set_k0T, set_k1T])
local macro_rules | `(tactic| walk_at "eh") => `(tactic| simp only [eVar_eq, eVar_k1, eK_eq, oS_eq, oS_k1, oE_eq, oE_k1, fetch_d, fetch_s, fetch_k1, eOp2_eq, op2k1_eq, op2k2_eq, op2k3_eq, op2k4_eq, pr_some, aNil_eq, aC2_eq, aCons_eq, aC1_eq, fetchs_nil, fts2_eq, fetchs_cons, fts1_eq, eA_eq, eA1_eq, eA2_eq, allD_nil, allD_cons, eDisp_eq, eD1_eq, eD2_0, eD2_1, eD2_2, eD2_3, eD2_4, eD2_5, eD2_6, pNo_eq, pAt_eq, pAt1_eq, eSl_eq, sl1_eq, sl2_eq, sl3_eq, sl4_eq, eAnd_eq, and1_eq, eOr_eq, or1_eq, eNot_eq, not1_eq, eIf_eq, if1_eq, eNeg_eq, neg1_eq, eM_eq, m0_eq, m1_str, m1_lst, m2_eq, m3_eq, m4_eq, mu4_eq, mu3_ow, mu3_pn, mu2_eq, mu1_eq, mu0_eq, eMut_eq, sSeq_eq, seq1_nx, seq1_bk, seq1_ct, seq1_rt, sNil_eq, sBk_eq, sCt_eq, sRetN_eq, sE_eq, se1_eq, sRet_eq, sRetF_eq, sret1_eq, sRetOw_eq, sRetOw1_eq, sIf_eq, sif1_eq, sg2_eq, sG_eq, sg1_eq, okSet_eq, okk_none, okk_sh, okk_ow, gN_eq, sOw_eq, ow1_eq, sFz_eq, fz1_ow, fz1_sh, fz1_pn, fz1_no, stl3_eq, stl2_ow, stl2_pn, stl1_eq, sSetL_eq, sFor_eq, sfor1_eq, sWhile_eq, iL_eq, il1_eq, il2_eq, bOf_d, bOf_s, iR1_eq, ir1_eq, fn1_rt, fn1_nx, eCall_eq, eCallF_eq, cv1_eq, cv2_1, cv2_2, cv2_3, cv3_eq, cvE_eq, cvF_eq, eCallB_eq, cb0_eq, cb1_1, cb1_2, cb1_3, cb2_bl, cb2_int, cb2_str, eCallP_eq, eCallPF_eq, cp0_eq, cp1_eq, cp2_eq, cp3_ow0, cp3_ow1, cp3_ow2, cp3_pn0, cp3_pn1, cp3_pn2, cp4_eq, eLc_eq, lc2_eq, eDc_eq, dc2_eq, bnd_some, mp_some, gt0, gtS, st0, stS, if_true, if_false, if_pos, Bool.true_eq_false, Bool.false_eq_true, stl0_eq2, stk_eq, ix0, ix1, ix2, ix3, ix4, ixT0, ixT1, ixT2, addD_i, subD_i, ltD_i, ltD_s, leD_i, gtD_i, gtD_s, geD_i, powD_18, lenD_l, lenD_t, lenD_d, eqD_s, neD_s, eqD_i, neD_i, decide_eq_true_eq, ↓reduceIte, decide_true, decide_false, not_true_eq_false, not_false_eq_true, Bool.not_true, Bool.not_false, List.length_map, List.length_cons, List.length_nil, Int.reduceLT, Int.reduceLE, Int.reduceNeg, and_self, and_true, true_and, mulD_r, mulD_l, modD_i, fdivD_i, Int.reduceAdd, Nat.reduceAdd, ixN50, ixN51, ixN52, ixN53, ixN54, slL_eq, slL_scr, listD_l, cut_up, cut_last, cut_all, slS_eq, inD_ls, inD_keys, wipe0, wipe1, rest0, rest1, gd_some, gd_none, decide_not, Bool.not_eq_true', decide_eq_false_iff_not, Classical.not_not, gPop_eq, allB_eq, List.nil_append, pk4_eq, pk3_ow, pk3_pn, pk2_eq, pk1_s, pk1_i, pk0_eq, ePopK_eq, sk3_eq, sk2_s, sk2_i, sk1_eq, sk0_eq, sSetK_eq, listD_keys, neD_nil, dropD_keys, eq_self, isi_non_bool, isi_non_int, isi_non_str, isi_non_tuple, isi_non_list, isi_bl_bool, isi_bl_int, isi_bl_str, isi_bl_tuple, isi_bl_list, isi_int_bool, isi_int_int, isi_int_str, isi_int_tuple, isi_int_list, isi_str_bool, isi_str_int, isi_str_str, isi_str_tuple, isi_str_list, isi_tup_bool, isi_tup_int, isi_tup_str, isi_tup_tuple, isi_tup_list, isi_lst_bool, isi_lst_int, isi_lst_str, isi_lst_tuple, isi_lst_list, isN_non, isN_bl, isN_int, isN_str, isN_tup, isN_lst, eqD_b, neD_b, startsD_eq, anyB_map, allB_map, sumD_map, maxD1_map, notInD_ls, notInD_keys, gsNil_eq, gsCons_eq, gsk_eq, gT2_eq, gT3_eq, iZ_eq, iz0_eq, iz1_eq, iz2_eq, sPin_eq, pin0_ow, pin0_sh, unpin_eq, unp_pn, pin1_nx, pin1_rt, cut_to, cut_from1, eFld_eq, fd0_eq, fd1_eq, sFd_eq, sfd0_eq, sfd1_ow, sfd1_pn, sfd2_eq, eMeth_eq, eMethF_eq, me0_eq, me1_eq, me2_eq, me3_0, me3_1, me3_2, me3_3, eMethP_eq, eMethPF_eq, mp0_ow, mp0_pn, mp1_eq, eNew_eq, nw0_eq, nw1_0, nw1_1, nw1_2, nw2_eq, exEq_eq, xq0_eq, xq1_eq, xq2_eq, xq3_eq, iso_eq, iso1_t, iS_eq, is1_eq, is0_eq, iR2_eq, ir2a_eq, ir2c_eq, maxD2_i, inD_sign, lc1_go, lcc_eq, dc1_go, dcc_eq, now_nil, now_cons, now1_sh, now1_none, bsV_nil, bsV_cons, Bool.and_true, Bool.true_and, fld_b, fld_r, set_b0, set_r0, set_b1, set_r1, isC_end, hasM_settle0, hasM_settle, hasM_head, hasM_ring, hasM_first, hasM_signs, hasM_later, hasM_behind, hasM_below, hasM_under, hasM_begins, hasM_starts, hasM_before, nin_nil, nin_cons, Nat.reduceBNe, iK_eq, ik0_eq, keyD_keys, eGet2_eq, ge0_eq, ge1_s, ge2_eq, ge3_eq, eLenM_eq, lm0_eq, lm1_eq, new0_1, parC_t, par2_go, sPar_eq, par0_eq, iLT_eq, lt1_eq, lt2_l, lt2_t, fld_k, isC_sw, hasW_rows, hasW_of, hasW_leads, hasW_then, hasW_back, hasW_power, hasW_seen, hasW_within, hasW_fixed, hasW_parted, inD_tD, listD_tD, valD_tD, iEn_eq, en1_eq, en2_eq, dropD_tDT, set_k0T, set_k1T, *])
/-- x can be joined -/
theorem lfew_run {n : Nat} {T : List Rw} (h : Tw n T) (hn : n ≤ 1000) (hl : T.length < 64) : fnF [.sh] 5 F__law_few [rowsD T] = some (.ok true (rowsD (few T)) [.non]) := by
  apply W.eq
  rw [fnF_eq _ _ _ _ rfl]
  show W (fn1 [.sh] (F__law_few [sv (rowsD T), none, none, none, none, none])) _
  unfold F__law_few
  have c1 := dictD_rows T h.h.hd.nd
  walk_at "eh"
  clear c1
  refine W.fnK (W.whK (fun m e => ∃ (S : List Rw) (b : Bool) (x3 x4 x5 : Option Sl), e = [sv (rowsD T), ov (.dic (tD S)), sv (.bl b), x3, x4, x5] ∧ Sh x3 ∧ Sh x4 ∧ Sh x5 ∧ Tw n S ∧ Te T S ∧ S.length ≤ T.length ∧ m = 2 * S.length + b.toNat ∧ (b = false → RedT S)) (2 * T.length + 1) (by unfold FU; omega) ⟨T, true, none, none, none, rfl, Sh.no, Sh.no, Sh.no, h, h.te, Nat.le_refl _, rfl, fun z => by cases z⟩ ?_)
  rintro m e ⟨S, b, x3, x4, x5, rfl, s3, s4, s5, hS, te, sl, rfl, red⟩
  have nd := hS.h.hd.nd
  refine ⟨b, [sv (rowsD T), ov (.dic (tD S)), sv (.bl b), x3, x4, x5], by walk_at "ev", ?_⟩
  have sd := sortD_ls (hds S) (by simp; omega)
  cases b with
  | false =>
    rw [if_neg (by decide)]
    have red := red rfl
    have w3 := now1_of s3
    walk_at "eh"
    rw [lcL_map D.str (fun x => rowD (x, (S.lookup x).getD [])) rfl (sortS (hds S)) (by rw [sortS_len]; simp; omega) fun x hx => ⟨[sv (rowsD T), ov (.dic (tD S)), sv (.bl false), sv (.str x), x4, x5], by walk_at "ev", by walk_at "ev", ?_, by walk_at "ev"⟩]
    · rw [show (sortS (hds S)).map (fun x => rowD (x, (S.lookup x).getD [])) = (srt S).map rowD by unfold srt; rw [List.map_map]; rfl, few_eq te red]
      walk_at "ev"
      exact W.ret (W.ret rfl)
    · obtain ⟨y, hy, hy2⟩ := mem_lookup nd ((sortS_perm _).mem_iff.mp hx)
      have g := getD_tD nd hy
      rw [hy2]
      clear sd red
      walk_at "eh"
  | true =>
    rw [if_pos rfl]
    clear red
    walk_at "eh"
    refine W.forL (fun items e => ∃ (zs : List Wd) (x3 x4 x5 : Option Sl), zs.map D.str = items ∧ e = [sv (rowsD T), ov (.dic (tD S)), sv (.bl false), x3, x4, x5] ∧ Sh x3 ∧ Sh x4 ∧ Sh x5 ∧ (∀ x ∈ zs, x ∈ hds S) ∧ ∀ u v, (u ++ [48], v ++ [48]) ∈ S → (u ++ [49], v ++ [49]) ∈ S → u ++ [48] ∈ zs) ?_ ?_ _ _ ⟨sortS (hds S), x3, x4, x5, rfl, rfl, s3, s4, s5, fun x hx => (sortS_perm _).mem_iff.mp hx, fun u v h0 _ => (sortS_perm _).mem_iff.mpr (List.mem_map.mpr ⟨_, h0, rfl⟩)⟩
    · rintro e ⟨zs, x3, x4, x5, hz, rfl, s3, s4, s5, hm, hw⟩
      have : zs = [] := by simpa using hz
      subst this
      exact ⟨rfl, Aft.nx ⟨2 * S.length, by simp, S, false, x3, x4, x5, rfl, s3, s4, s5, hS, te, sl, rfl, fun _ u v z => by have := hw u v z.1 z.2; cases this⟩⟩
    · rintro d' ds e ⟨zs, x3, x4, x5, hz, rfl, s3, s4, s5, hm, hw⟩
      cases zs with
      | nil => cases hz
      | cons x zs =>
        cases hz
        have o3 := s3.okk
        have o4 := s4.okk
        have o5 := s5.okk
        have mx := hm x (by simp)
        have hm2 : ∀ y ∈ zs, y ∈ hds S := fun y hy => hm y (by simp [hy])
        have bx := hS.h.hd.bin x mx
        have lx := hS.h.hd.wl x mx
        refine ⟨rfl, [sv (rowsD T), ov (.dic (tD S)), sv (.bl false), sv (.str x), x4, x5], by clear hm hw hm2; walk_at "eh", ?_⟩
        clear hm sd
        -- what is told of the two
        obtain ⟨y0, k0⟩ : ∃ y0 : Wd, ((S.lookup (x.dropLast ++ [48])).map D.str).getD (.str [63]) = .str y0 ∧ y0.length ≤ 1000 ∧ (y0.drop (y0.length - 1) = [48] → (x.dropLast ++ [48], y0) ∈ S) ∧ ((x.dropLast ++ [48]) ∈ hds S → (x.dropLast ++ [48], y0) ∈ S) := by
          by_cases c : x.dropLast ++ [48] ∈ hds S
          · obtain ⟨y, hy, hy2⟩ := mem_lookup nd c
            refine ⟨y, by rw [hy2]; rfl, ?_, fun _ => hy, fun _ => hy⟩
            have := hS.o.hd.wl y (List.mem_map.mpr ⟨_, hy, rfl⟩)
            omega
          · exact ⟨[63], by rw [lookup_none c]; rfl, by simp, fun z => by simp at z, fun z => absurd z c⟩
        obtain ⟨y1, k1⟩ : ∃ y0 : Wd, ((S.lookup (x.dropLast ++ [49])).map D.str).getD (.str [63]) = .str y0 ∧ y0.length ≤ 1000 ∧ (y0.drop (y0.length - 1) = [49] → (x.dropLast ++ [49], y0) ∈ S) ∧ ((x.dropLast ++ [49]) ∈ hds S → (x.dropLast ++ [49], y0) ∈ S) := by
          by_cases c : x.dropLast ++ [49] ∈ hds S
          · obtain ⟨y, hy, hy2⟩ := mem_lookup nd c
            refine ⟨y, by rw [hy2]; rfl, ?_, fun _ => hy, fun _ => hy⟩
            have := hS.o.hd.wl y (List.mem_map.mpr ⟨_, hy, rfl⟩)
            omega
          · exact ⟨[63], by rw [lookup_none c]; rfl, by simp, fun z => by simp at z, fun z => absurd z c⟩
        obtain ⟨g0, ly0, f0, i0⟩ := k0
        obtain ⟨g1, ly1, f1, i1⟩ := k1
        have l4 := slS_eq x none (some (-1)) (by omega)
        rw [cut_up] at l4
        have ld : x.dropLast.length ≤ 1000 := by simp; omega
        have a0 := addD_s x.dropLast [48] (by simp; omega)
        have a1 := addD_s x.dropLast [49] (by simp; omega)
        have t0 := slS_eq y0 (some (-1)) none (by omega)
        have t1 := slS_eq y1 (some (-1)) none (by omega)
        rw [cut_last] at t0 t1
        have t2 := slS_eq y0 none (some (-1)) (by omega)
        have t3 := slS_eq y1 none (some (-1)) (by omega)
        rw [cut_up] at t2 t3
        by_cases c3 : x ≠ [] ∧ y0.dropLast = y1.dropLast ∧ y0.drop (y0.length - 1) = [48] ∧ y1.drop (y1.length - 1) = [49]
        · obtain ⟨d0, d3, d1, d2⟩ := c3
          have m0 := f0 d1
          have m1 := f1 d2
          have e0 := (last_iff y0 48).mp d1
          have e1 := (last_iff y1 49).mp d2
          rw [← d3] at e1 t3
          have n0 : (x.dropLast ++ [48], y0.dropLast ++ [48]) ∈ S := by rw [← e0]; exact m0
          have n1 : (x.dropLast ++ [49], y0.dropLast ++ [49]) ∈ S := by rw [← e1]; exact m1
          obtain ⟨hJ, teJ⟩ := hS.join n0 n1
          have lJ := joinR_len nd n0 n1
          have q0 := lookup_mem nd m0
          have k2 := dropT_lookup nd m1 (show x.dropLast ++ [49] ≠ x.dropLast ++ [48] by simp)
          have hnot : x.dropLast ∉ hds (dropT (x.dropLast ++ [49]) (dropT (x.dropLast ++ [48]) S)) := fun z => by
            obtain ⟨p, hp, e⟩ := List.mem_map.mp z
            have hp2 := (List.mem_filter.mp (List.mem_filter.mp hp).1).1
            exact hS.h.hd.not_up (List.mem_map.mpr ⟨_, m0, rfl⟩) (by rw [← e]; exact List.mem_map.mpr ⟨p, hp2, rfl⟩)
          have pj := putD_tD x.dropLast y0.dropLast _ hnot
          rw [joinR_eq] at pj
          have ln : (dropT (x.dropLast ++ [49]) (dropT (x.dropLast ++ [48]) S)).length < 1000000 := by
            have := congrArg List.length (joinR_eq S x.dropLast y0.dropLast)
            rw [List.length_append] at this
            simp at this
            omega
          have sk := fun v e => sk4_owT 1 v e (.s x.dropLast) (dropT (x.dropLast ++ [49]) (dropT (x.dropLast ++ [48]) S)) ln
          have g0' : ((S.lookup (x.dropLast ++ [48])).map D.str) = some (.str y0) := by rw [q0]; rfl
          clear e0 e1 n0 n1 hnot ln m0 m1 d3 f0 f1 i0 i1 hw hm2 q0 g0
          walk_at "eh"
          exact W.ret (Aft.bk (Aft.nx ⟨2 * (joinR S x.dropLast y0.dropLast).length + 1, by simp; omega, _, true, _, _, _, rfl, Sh.sh _, Sh.sh _, Sh.sh _, hJ, te.trans teJ, by omega, rfl, fun z => by cases z⟩))
        · have hw2 : ∀ u v, (u ++ [48], v ++ [48]) ∈ S → (u ++ [49], v ++ [49]) ∈ S → u ++ [48] ∈ zs := fun u v n0 n1 => by
            rcases List.mem_cons.mp (hw u v n0 n1) with e | e
            · exfalso
              have eu : x.dropLast = u := by rw [← e]; simp
              rw [eu] at i0 i1
              have z0 : y0 = v ++ [48] := congrArg Prod.snd (nd_inj nd (i0 (List.mem_map.mpr ⟨_, n0, rfl⟩)) n0 rfl)
              have z1 : y1 = v ++ [49] := congrArg Prod.snd (nd_inj nd (i1 (List.mem_map.mpr ⟨_, n1, rfl⟩)) n1 rfl)
              refine c3 ⟨by rw [← e]; simp, by rw [z0, z1]; simp, (last_iff _ _).mpr (by rw [z0]; simp), (last_iff _ _).mpr (by rw [z1]; simp)⟩
            · exact e
          have fin : W (some (Out.nx [sv (rowsD T), ov (.dic (tD S)), sv (.bl false), sv (.str x), sv (.str y0), sv (.str y1)])) (Aft (fun e => ∃ (zs_1 : List Wd) (x3 x4 x5 : Option Sl), zs_1.map D.str = zs.map D.str ∧ e = [sv (rowsD T), ov (.dic (tD S)), sv (.bl false), x3, x4, x5] ∧ Sh x3 ∧ Sh x4 ∧ Sh x5 ∧ (∀ x ∈ zs_1, x ∈ hds S) ∧ ∀ u v, (u ++ [48], v ++ [48]) ∈ S → (u ++ [49], v ++ [49]) ∈ S → u ++ [48] ∈ zs_1) (Aft (fun e2 => ∃ m, m < 2 * S.length + true.toNat ∧ ∃ (S_1 : List Rw) (b : Bool) (x3 x4 x5 : Option Sl), e2 = [sv (rowsD T), ov (.dic (tD S_1)), sv (.bl b), x3, x4, x5] ∧ Sh x3 ∧ Sh x4 ∧ Sh x5 ∧ Tw n S_1 ∧ Te T S_1 ∧ S_1.length ≤ T.length ∧ m = 2 * S_1.length + b.toNat ∧ (b = false → RedT S_1)) fun o => W (seq1 (sRetF (eLc (iL (oE (eA sortD (aCons (oE (eA listD (aCons (oS 1) aNil))) aNil)))) [3] (gN 3) (eK (.bl true)) (eDisp .tup (aCons (oE (eVar 3)) (aCons (oE (eOp2 getD' (oS 1) (oS 3))) aNil))))) o) fun a => W (fn1 [Kd.sh] (some a)) fun r => r = .ok true (rowsD (few T)) [.non])) := W.ret (Aft.nx ⟨zs, _, _, _, rfl, rfl, Sh.sh _, Sh.sh _, Sh.sh _, hm2, hw2⟩)
          clear hw hw2 hm2 f0 f1 i0 i1
          by_cases d0 : x = []
          · have d0' : decide (x = []) = true := decide_eq_true d0
            clear c3 d0
            walk_at "eh"
          · by_cases d3 : y0.dropLast = y1.dropLast
            · rw [← d3] at t3
              by_cases d1 : y0.drop (y0.length - 1) = [48]
              · have d2 : ¬ y1.drop (y1.length - 1) = [49] := fun z => c3 ⟨d0, d3, d1, z⟩
                clear c3 d3
                walk_at "eh"
              · clear c3 d3
                walk_at "eh"
            · clear c3
              walk_at "eh"
end Lw
namespace Lw
open PySem PySem.Spec L2 Qd Qm
local macro_rules | `(tactic| walk_at "ev") => `(tactic| simp only [eVar_eq, eVar_k1, eK_eq, oS_eq, oS_k1, oE_eq, oE_k1, fetch_d, fetch_s, fetch_k1, eOp2_eq, op2k1_eq, op2k2_eq, op2k3_eq, op2k4_eq, pr_some, aNil_eq, aC2_eq, aCons_eq, aC1_eq, fetchs_nil, fts2_eq, fetchs_cons, fts1_eq, eA_eq, eA1_eq, eA2_eq, allD_nil, allD_cons, eDisp_eq, eD1_eq, eD2_0, eD2_1, eD2_2, eD2_3, eD2_4, eD2_5, eD2_6, pNo_eq, pAt_eq, pAt1_eq, eSl_eq, sl1_eq, sl2_eq, sl3_eq, sl4_eq, eAnd_eq, and1_eq, eOr_eq, or1_eq, eNot_eq, not1_eq, eIf_eq, if1_eq, eNeg_eq, neg1_eq, eM_eq, m0_eq, m1_str, m1_lst, m2_eq, m3_eq, m4_eq, mu4_eq, mu3_ow, mu3_pn, mu2_eq, mu1_eq, mu0_eq, eMut_eq, sSeq_eq, seq1_nx, seq1_bk, seq1_ct, seq1_rt, sNil_eq, sBk_eq, sCt_eq, sRetN_eq, sE_eq, se1_eq, sRet_eq, sRetF_eq, sret1_eq, sRetOw_eq, sRetOw1_eq, sIf_eq, sif1_eq, sg2_eq, sG_eq, sg1_eq, okSet_eq, okk_none, okk_sh, okk_ow, gN_eq, sOw_eq, ow1_eq, sFz_eq, fz1_ow, fz1_sh, fz1_pn, fz1_no, stl3_eq, stl2_ow, stl2_pn, stl1_eq, sSetL_eq, sFor_eq, sfor1_eq, sWhile_eq, iL_eq, il1_eq, il2_eq, bOf_d, bOf_s, iR1_eq, ir1_eq, fn1_rt, fn1_nx, eCall_eq, eCallF_eq, cv1_eq, cv2_1, cv2_2, cv2_3, cv3_eq, cvE_eq, cvF_eq, eCallB_eq, cb0_eq, cb1_1, cb1_2, cb1_3, cb2_bl, cb2_int, cb2_str, eCallP_eq, eCallPF_eq, cp0_eq, cp1_eq, cp2_eq, cp3_ow0, cp3_ow1, cp3_ow2, cp3_pn0, cp3_pn1, cp3_pn2, cp4_eq, eLc_eq, lc2_eq, eDc_eq, dc2_eq, bnd_some, mp_some, gt0, gtS, st0, stS, if_true, if_false, if_pos, Bool.true_eq_false, Bool.false_eq_true, stl0_eq2, stk_eq, ix0, ix1, ix2, ix3, ix4, ixT0, ixT1, ixT2, addD_i, subD_i, ltD_i, ltD_s, leD_i, gtD_i, gtD_s, geD_i, powD_18, lenD_l, lenD_t, lenD_d, eqD_s, neD_s, eqD_i, neD_i, decide_eq_true_eq, ↓reduceIte, decide_true, decide_false, not_true_eq_false, not_false_eq_true, Bool.not_true, Bool.not_false, List.length_map, List.length_cons, List.length_nil, Int.reduceLT, Int.reduceLE, Int.reduceNeg, and_self, and_true, true_and, mulD_r, mulD_l, modD_i, fdivD_i, Int.reduceAdd, Nat.reduceAdd, ixN50, ixN51, ixN52, ixN53, ixN54, slL_eq, slL_scr, listD_l, cut_up, cut_last, cut_all, eqD_s, neD_s, slS_eq, inD_ls, inD_keys, wipe0, wipe1, rest0, rest1, gt0, gd_some, gd_none, decide_not, Bool.not_eq_true', decide_eq_false_iff_not, Classical.not_not, gPop_eq, allB_eq, List.nil_append, ↓reduceIte, pk4_eq, pk3_ow, pk3_pn, pk2_eq, pk1_s, pk1_i, pk0_eq, ePopK_eq, sk3_eq, sk2_s, sk2_i, sk1_eq, sk0_eq, sSetK_eq, listD_keys, neD_nil, dropD_keys, eq_self, isi_non_bool, isi_non_int, isi_non_str, isi_non_tuple, isi_non_list, isi_bl_bool, isi_bl_int, isi_bl_str, isi_bl_tuple, isi_bl_list, isi_int_bool, isi_int_int, isi_int_str, isi_int_tuple, isi_int_list, isi_str_bool, isi_str_int, isi_str_str, isi_str_tuple, isi_str_list, isi_tup_bool, isi_tup_int, isi_tup_str, isi_tup_tuple, isi_tup_list, isi_lst_bool, isi_lst_int, isi_lst_str, isi_lst_tuple, isi_lst_list, isN_non, isN_bl, isN_int, isN_str, isN_tup, isN_lst, eqD_b, neD_b, startsD_eq, anyB_map, allB_map, sumD_map, maxD1_map, notInD_ls, notInD_keys, gsNil_eq, gsCons_eq, gsk_eq, gT2_eq, gT3_eq, iZ_eq, iz0_eq, iz1_eq, iz2_eq, sPin_eq, pin0_ow, pin0_sh, unpin_eq, unp_pn, pin1_nx, pin1_rt, cut_to, cut_from1])
local macro_rules | `(tactic| walk_at "eh") => `(tactic| simp only [eVar_eq, eVar_k1, eK_eq, oS_eq, oS_k1, oE_eq, oE_k1, fetch_d, fetch_s, fetch_k1, eOp2_eq, op2k1_eq, op2k2_eq, op2k3_eq, op2k4_eq, pr_some, aNil_eq, aC2_eq, aCons_eq, aC1_eq, fetchs_nil, fts2_eq, fetchs_cons, fts1_eq, eA_eq, eA1_eq, eA2_eq, allD_nil, allD_cons, eDisp_eq, eD1_eq, eD2_0, eD2_1, eD2_2, eD2_3, eD2_4, eD2_5, eD2_6, pNo_eq, pAt_eq, pAt1_eq, eSl_eq, sl1_eq, sl2_eq, sl3_eq, sl4_eq, eAnd_eq, and1_eq, eOr_eq, or1_eq, eNot_eq, not1_eq, eIf_eq, if1_eq, eNeg_eq, neg1_eq, eM_eq, m0_eq, m1_str, m1_lst, m2_eq, m3_eq, m4_eq, mu4_eq, mu3_ow, mu3_pn, mu2_eq, mu1_eq, mu0_eq, eMut_eq, sSeq_eq, seq1_nx, seq1_bk, seq1_ct, seq1_rt, sNil_eq, sBk_eq, sCt_eq, sRetN_eq, sE_eq, se1_eq, sRet_eq, sRetF_eq, sret1_eq, sRetOw_eq, sRetOw1_eq, sIf_eq, sif1_eq, sg2_eq, sG_eq, sg1_eq, okSet_eq, okk_none, okk_sh, okk_ow, gN_eq, sOw_eq, ow1_eq, sFz_eq, fz1_ow, fz1_sh, fz1_pn, fz1_no, stl3_eq, stl2_ow, stl2_pn, stl1_eq, sSetL_eq, sFor_eq, sfor1_eq, sWhile_eq, iL_eq, il1_eq, il2_eq, bOf_d, bOf_s, iR1_eq, ir1_eq, fn1_rt, fn1_nx, eCall_eq, eCallF_eq, cv1_eq, cv2_1, cv2_2, cv2_3, cv3_eq, cvE_eq, cvF_eq, eCallB_eq, cb0_eq, cb1_1, cb1_2, cb1_3, cb2_bl, cb2_int, cb2_str, eCallP_eq, eCallPF_eq, cp0_eq, cp1_eq, cp2_eq, cp3_ow0, cp3_ow1, cp3_ow2, cp3_pn0, cp3_pn1, cp3_pn2, cp4_eq, eLc_eq, lc2_eq, eDc_eq, dc2_eq, bnd_some, mp_some, gt0, gtS, st0, stS, if_true, if_false, if_pos, Bool.true_eq_false, Bool.false_eq_true, stl0_eq2, stk_eq, ix0, ix1, ix2, ix3, ix4, ixT0, ixT1, ixT2, addD_i, subD_i, ltD_i, ltD_s, leD_i, gtD_i, gtD_s, geD_i, powD_18, lenD_l, lenD_t, lenD_d, eqD_s, neD_s, eqD_i, neD_i, decide_eq_true_eq, ↓reduceIte, decide_true, decide_false, not_true_eq_false, not_false_eq_true, Bool.not_true, Bool.not_false, List.length_map, List.length_cons, List.length_nil, Int.reduceLT, Int.reduceLE, Int.reduceNeg, and_self, and_true, true_and, mulD_r, mulD_l, modD_i, fdivD_i, Int.reduceAdd, Nat.reduceAdd, ixN50, ixN51, ixN52, ixN53, ixN54, slL_eq, slL_scr, listD_l, cut_up, cut_last, cut_all, eqD_s, neD_s, slS_eq, inD_ls, inD_keys, wipe0, wipe1, rest0, rest1, gt0, gd_some, gd_none, decide_not, Bool.not_eq_true', decide_eq_false_iff_not, Classical.not_not, gPop_eq, allB_eq, List.nil_append, ↓reduceIte, pk4_eq, pk3_ow, pk3_pn, pk2_eq, pk1_s, pk1_i, pk0_eq, ePopK_eq, sk3_eq, sk2_s, sk2_i, sk1_eq, sk0_eq, sSetK_eq, listD_keys, neD_nil, dropD_keys, eq_self, isi_non_bool, isi_non_int, isi_non_str, isi_non_tuple, isi_non_list, isi_bl_bool, isi_bl_int, isi_bl_str, isi_bl_tuple, isi_bl_list, isi_int_bool, isi_int_int, isi_int_str, isi_int_tuple, isi_int_list, isi_str_bool, isi_str_int, isi_str_str, isi_str_tuple, isi_str_list, isi_tup_bool, isi_tup_int, isi_tup_str, isi_tup_tuple, isi_tup_list, isi_lst_bool, isi_lst_int, isi_lst_str, isi_lst_tuple, isi_lst_list, isN_non, isN_bl, isN_int, isN_str, isN_tup, isN_lst, eqD_b, neD_b, startsD_eq, anyB_map, allB_map, sumD_map, maxD1_map, notInD_ls, notInD_keys, gsNil_eq, gsCons_eq, gsk_eq, gT2_eq, gT3_eq, iZ_eq, iz0_eq, iz1_eq, iz2_eq, sPin_eq, pin0_ow, pin0_sh, unpin_eq, unp_pn, pin1_nx, pin1_rt, cut_to, cut_from1, *])
theorem cut_step {xs : List Wd} {n k : Nat} (h : n < xs.length) (hd : Hd k xs) (cv : ∀ s, Bi s → Cov xs s) : Hd (k + 1) (xs.eraseIdx n ++ [xs[n] ++ [48], xs[n] ++ [49]]) ∧ (∀ s, Bi s → Cov (xs.eraseIdx n ++ [xs[n] ++ [48], xs[n] ++ [49]]) s) ∧ (xs.eraseIdx n ++ [xs[n] ++ [48], xs[n] ++ [49]]).length = xs.length + 1 := by
  have p := eraseIdx_perm xs n xs[n] (List.getElem?_eq_getElem h)
  have nd := p.nodup_iff.mpr hd.nd
  obtain ⟨n1, n2⟩ := List.nodup_cons.mp nd
  have hu : xs[n] ∈ xs := List.getElem_mem h
  have hm : ∀ x, x ∈ xs.eraseIdx n ↔ x ∈ xs ∧ x ≠ xs[n] := fun x => by
    rw [← p.mem_iff, List.mem_cons]
    constructor
    · exact fun hx => ⟨.inr hx, fun e => n1 (e ▸ hx)⟩
    · rintro ⟨h1 | h1, h2⟩
      · exact absurd h1 h2
      · exact h1
  have no : ∀ c, xs[n] ++ [c] ∉ xs := fun c hc => by
    have := hd.anti _ hu _ hc (List.prefix_append _ _)
    simp at this
  have hT : ∀ x, x ∈ xs.eraseIdx n ++ [xs[n] ++ [48], xs[n] ++ [49]] ↔ x = xs[n] ++ [48] ∨ x = xs[n] ++ [49] ∨ (x ∈ xs ∧ x ≠ xs[n]) := fun x => by
    rw [List.mem_append, hm]
    simp only [List.mem_cons, List.not_mem_nil, or_false]
    constructor
    · rintro (h | h | h)
      · exact .inr (.inr h)
      · exact .inl h
      · exact .inr (.inl h)
    · rintro (h | h | h)
      · exact .inr (.inl h)
      · exact .inr (.inr h)
      · exact .inl h
  have nT : (xs.eraseIdx n ++ [xs[n] ++ [48], xs[n] ++ [49]]).Nodup := by
    refine List.nodup_append.mpr ⟨n2, by simp, fun a ha b hb e => ?_⟩
    subst e
    simp only [List.mem_cons, List.not_mem_nil, or_false] at hb
    rcases hb with rfl | rfl
    · exact no _ ((hm _).mp ha).1
    · exact no _ ((hm _).mp ha).1
  have hl := p.length_eq
  exact ⟨hd.part hu nT hT, fun s hs => cov_part hu hT s hs (cv s hs), by simp at hl ⊢; omega⟩
theorem cut_run {g : FN} (hg : Drw g) (b : Box) (m : Nat) (h0 : 0 < m) (h1 : m ≤ 40) : W (fnF [.pn, .sh] 5 (F__law_cut g) [boxD b, .int (m : Int)]) fun r => ∃ xs b2, r = .ok true (.lst (xs.map D.str)) [boxD b2, .non] ∧ Hd m xs ∧ (∀ s, Bi s → Cov xs s) ∧ xs.length = m := by
  rw [fnF_eq _ _ _ _ rfl]
  show W (fn1 [.pn, .sh] (F__law_cut g [some (.pn, boxD b), some (.sh, .int m), none, none, none, none, none])) _
  unfold F__law_cut
  walk_at "ev"
  rw [if_pos (by omega)]
  walk_at "ev"
  refine W.fn (P := fun o => ∃ xs b2 x3 x4 x5 x6, o = .rt true (.lst ((sortS xs).map D.str)) [some (.pn, boxD b2), some (.sh, .int m), some (.ow, .lst (xs.map D.str)), x3, x4, x5, x6] ∧ Hd m xs ∧ (∀ s, Bi s → Cov xs s) ∧ xs.length = m) (W.bind (P := fun o => ∃ xs b2 x3 x4 x5 x6, o = .nx [some (.pn, boxD b2), some (.sh, .int m), some (.ow, .lst (xs.map D.str)), x3, x4, x5, x6] ∧ Hd m xs ∧ (∀ s, Bi s → Cov xs s) ∧ xs.length = m)
    (W.forL (fun items e => ∃ (xs : List Wd) (b2 : Box) (x3 x4 x5 x6 : Option Sl), e = [some (.pn, boxD b2), some (.sh, .int m), some (.ow, .lst (xs.map D.str)), x3, x4, x5, x6] ∧ Sh x3 ∧ Sh x4 ∧ Sh x5 ∧ Sh x6 ∧ Hd xs.length xs ∧ (∀ s, Bi s → Cov xs s) ∧ xs.length + items.length = m ∧ 0 < xs.length) ?_ ?_ _ _ ?_) ?_) ?_
  · rintro e ⟨xs, b2, x3, x4, x5, x6, rfl, s3, s4, s5, s6, hd, cv, hl, hp⟩
    have hl : xs.length = m := by simpa using hl
    exact ⟨rfl, xs, b2, x3, x4, x5, x6, rfl, hl ▸ hd, cv, hl⟩
  · rintro d ds e ⟨xs, b2, x3, x4, x5, x6, rfl, s3, s4, s5, s6, hd, cv, hl, hp⟩
    have hl : xs.length + (ds.length + 1) = m := hl
    refine ⟨rfl, [some (.pn, boxD b2), some (.sh, .int m), some (.ow, .lst (xs.map D.str)), some (.sh, d), x4, x5, x6], ?_, ?_⟩
    · have := s3.okk
      walk_at "eh"
    · obtain ⟨n, b3, hn, e1⟩ := hg b2 xs.length hp (by omega)
      have k4 := s4.okk
      have k5 := s5.okk
      have k6 := s6.okk
      have g1 := ixD_l (get_str hn)
      have l1 := lenD_s xs[n] (Nat.le_trans (hd.wl _ (List.getElem_mem hn)) (by omega))
      walk_at "eh"
      refine W.bind (P := fun o => ∃ (n : Nat) (y6 : Option Sl), o = .nx [some (.pn, boxD b3), some (.sh, .int m), some (.ow, .lst (xs.map D.str)), some (.sh, d), some (.sh, .int (n : Int)), x5, y6] ∧ Sh y6 ∧ n < xs.length) ?_ ?_
      · by_cases c : (9 : Int) < xs[n].length
        · rw [if_pos c]
          have nw : nonOw [some (Kd.pn, boxD b3), some (Kd.sh, D.int ↑m), some (Kd.ow, D.lst (List.map D.str xs)), some (Kd.sh, d), some (Kd.sh, D.int ↑n), x5, x6] [5] = true := by
            rcases s5 with rfl | ⟨d5, rfl⟩ <;> rfl
          rw [lc1_eq _ _ _ _ _ _ _ nw rfl]
          walk_at "ev"
          have hlen : ∀ x ∈ xs, lenD [.str x] = some (.int x.length) := fun x hx => lenD_s x (Nat.le_trans (hd.wl x hx) (by omega))
          refine W.bind (P := fun o => o = .nx [some (.pn, boxD b3), some (.sh, .int m), some (.ow, .lst (xs.map D.str)), some (.sh, d), some (.sh, .int (n : Int)), x5, some (.sh, .lst ((xs.map fun x => (x.length : Int)).map D.int))]) (W.bind (P := fun p => p = (.lst ((xs.map fun x => (x.length : Int)).map D.int), [some (.pn, boxD b3), some (.sh, .int m), some (.ow, .lst (xs.map D.str)), some (.sh, d), some (.sh, .int (n : Int)), x5, x6])) (W.lc2 (P := fun p => p = ((xs.map fun x => (x.length : Int)).map D.int, [some (.pn, boxD b3), some (.sh, .int m), some (.ow, .lst (xs.map D.str)), some (.sh, d), some (.sh, .int (n : Int)), none, x6])) (W.lcL (fun items e acc => e = [some (.pn, boxD b3), some (.sh, .int m), some (.ow, .lst (xs.map D.str)), some (.sh, d), some (.sh, .int (n : Int)), none, x6] ∧ ∃ ys zs : List Wd, xs = ys ++ zs ∧ items = zs.map D.str ∧ acc = (ys.map fun x => (x.length : Int)).map D.int) ?_ ?_ _ _ _ ⟨rfl, [], xs, rfl, rfl, rfl⟩) ?_) ?_) ?_
          · rintro e acc ⟨rfl, ys, zs, h1, h2, rfl⟩
            have : zs = [] := by simpa using h2.symm
            subst this
            refine ⟨by simp [chkB, beqD_refl], ?_⟩
            rw [h1]
            simp
          · rintro d2 ds2 e acc ⟨rfl, ys, zs, h1, h2, rfl⟩
            cases zs with
            | nil => cases h2
            | cons z zs =>
              cases h2
              have lz := hlen z (by rw [h1]; simp)
              refine ⟨by simp [chkB, beqD_refl], [some (.pn, boxD b3), some (.sh, .int m), some (.ow, .lst (xs.map D.str)), some (.sh, d), some (.sh, .int (n : Int)), some (.sh, .str z), x6], true, [some (.pn, boxD b3), some (.sh, .int m), some (.ow, .lst (xs.map D.str)), some (.sh, d), some (.sh, .int (n : Int)), some (.sh, .str z), x6], ?_, ?_, ?_⟩
              · walk_at "ev"
              · walk_at "ev"
              · rw [if_pos rfl]
                refine ⟨.int z.length, [some (.pn, boxD b3), some (.sh, .int m), some (.ow, .lst (xs.map D.str)), some (.sh, d), some (.sh, .int (n : Int)), some (.sh, .str z), x6], ?_, ?_, rfl, ys ++ [z], zs, by rw [h1]; simp, rfl, by simp⟩
                · walk_at "eh"
                · have := congrArg List.length h1
                  simp at this ⊢
                  omega
          · rintro ds2 e2 h
            cases h
            rfl
          · rintro p rfl
            walk_at "eh"
            exact W.ret rfl
          · rintro o rfl
            cases xs with
            | nil => cases hn
            | cons x xs =>
              obtain ⟨mi, hm1, hm2⟩ := minD1_ints (x.length : Int) (xs.map fun x => (x.length : Int))
              obtain ⟨j, hj1, hj2⟩ := indexD_ints _ mi hm2
              simp only [List.map_cons] at hm1 hj1 ⊢
              walk_at "eh"
              exact W.ret ⟨j, _, rfl, Sh.sh _, by simpa using hj2⟩
        · rw [if_neg c]
          exact W.ret ⟨n, x6, rfl, s6, hn⟩
      · rintro o ⟨n, y6, rfl, s6, hn⟩
        have g2 := gPopAt_eq (xs.map D.str) n _ (get_str hn) (by simp; omega)
        have lw := hd.wl _ (List.getElem_mem hn)
        have a1 := addD_s xs[n] [48] (by simp; omega)
        have a2 := addD_s xs[n] [49] (by simp; omega)
        have a3 := catD_eq ((xs.map D.str).eraseIdx n) [.str (xs[n] ++ [48]), .str (xs[n] ++ [49])] (by have := List.length_eraseIdx_le (xs.map D.str) n; simp at this ⊢; omega)
        walk_at "eh"
        obtain ⟨q1, q2, q3⟩ := cut_step hn hd cv
        exact W.ret ⟨xs.eraseIdx n ++ [xs[n] ++ [48], xs[n] ++ [49]], b3, _, _, _, y6, by rw [List.map_append, map_eraseIdx]; rfl, Sh.sh _, Sh.sh _, Sh.sh _, s6, by rw [q3]; exact q1, q2, by rw [q3]; omega, by rw [q3]; omega⟩
  · refine ⟨[[]], b, none, none, none, none, rfl, Sh.no, Sh.no, Sh.no, Sh.no, ⟨by simp, fun w hw => ?_, fun v hv w hw _ => ?_, fun w hw => ?_⟩, fun s _ => ⟨[], by simp, rfl⟩, ?_, by simp⟩
    · rw [List.mem_singleton.mp hw]
      exact Qm.Bin.nil
    · rw [List.mem_singleton.mp hw, List.mem_singleton.mp hv]
    · rw [List.mem_singleton.mp hw]
      simp
    · rw [rng_len]
      simp
      omega
  · rintro o ⟨xs, b2, x3, x4, x5, x6, rfl, hd, cv, hl⟩
    have := sortD_ls xs (by omega)
    walk_at "eh"
    exact W.ret ⟨xs, b2, x3, x4, x5, x6, rfl, hd, cv, hl⟩
  · rintro o ⟨xs, b2, x3, x4, x5, x6, rfl, hd, cv, hl⟩
    exact W.ret ⟨sortS xs, b2, rfl, hd.perm (sortS_perm xs), fun s hs => by
      obtain ⟨w, hw, hp⟩ := cv s hs
      exact ⟨w, (sortS_perm xs).mem_iff.mpr hw, hp⟩, by rw [sortS_len, hl]⟩
theorem mixed_run {g : FN} (hg : Drw g) (b : Box) (xs : List D) (h1 : xs.length < 1000) : W (fnF [.pn, .sh] 3 (F__law_mixed g) [boxD b, .lst xs]) fun r => ∃ ys b2, r = .ok true (.lst ys) [boxD b2, .non] ∧ ys.Perm xs := by
  rw [fnF_eq _ _ _ _ rfl]
  show W (fn1 [.pn, .sh] (F__law_mixed g [some (.pn, boxD b), some (.sh, .lst xs), none, none, none])) _
  unfold F__law_mixed
  walk_at "ev"
  rw [if_pos (by omega)]
  walk_at "ev"
  rw [Int.toNat_natCast]
  refine W.fn (P := fun o => ∃ ys b2 x2 x4, o = .rt true (.lst ys) [some (.pn, boxD b2), some (.sh, .lst xs), x2, none, x4] ∧ ys.Perm xs) (W.bind (P := fun o => ∃ ys b2 x2 x4, o = .nx [some (.pn, boxD b2), some (.sh, .lst xs), x2, some (.ow, .lst ys), x4] ∧ ys.Perm xs)
    (W.forL (fun items e => ∃ (ls ys : List D) (b2 : Box) (x4 : Option Sl), e = [some (.pn, boxD b2), some (.sh, .lst xs), some (.ow, .lst ls), some (.ow, .lst ys), x4] ∧ Sh x4 ∧ items.length = ls.length ∧ (ys ++ ls).Perm xs) ?_ ?_ _ _ ⟨xs, [], b, none, rfl, Sh.no, by rw [rng_len], List.Perm.refl _⟩) ?_) ?_
  · rintro e ⟨ls, ys, b2, x4, rfl, s4, hl, p⟩
    have : ls = [] := List.eq_nil_of_length_eq_zero hl.symm
    subst this
    exact ⟨rfl, ys, b2, _, x4, rfl, by simpa using p⟩
  · rintro d ds e ⟨ls, ys, b2, x4, rfl, s4, hl, p⟩
    have hl : ds.length + 1 = ls.length := hl
    refine ⟨rfl, [some (.pn, boxD b2), some (.sh, .lst xs), some (.ow, .lst ls), some (.ow, .lst ys), some (.sh, d)], ?_, ?_⟩
    · have := s4.okk
      walk_at "eh"
    · have hpl := p.length_eq
      rw [List.length_append] at hpl
      obtain ⟨n, b3, hn, e1⟩ := hg b2 ls.length (by omega) (by omega)
      have g2 := gPopAt_eq ls n _ (List.getElem?_eq_getElem hn) (by omega)
      have g3 := gApp_eq ys ls[n] (by omega)
      walk_at "eh"
      have p2 := eraseIdx_perm ls n _ (List.getElem?_eq_getElem hn)
      have hl2 := p2.length_eq
      rw [List.length_cons] at hl2
      exact W.ret ⟨_, _, _, _, rfl, Sh.sh _, by omega, by
        rw [List.append_assoc]
        exact (p2.append_left ys).trans p⟩
  · rintro o ⟨ys, b2, x2, x4, rfl, p⟩
    walk_at "ev"
    exact W.ret ⟨ys, b2, x2, x4, rfl, p⟩
  · rintro o ⟨ys, b2, x2, x4, rfl, p⟩
    exact W.ret ⟨ys, b2, rfl, p⟩
end Lw
namespace Lw
open PySem PySem.Spec L2 Qd Qm
local macro_rules | `(tactic| walk_at "ev") => `(tactic| simp only [eVar_eq, eVar_k1, eK_eq, oS_eq, oS_k1, oE_eq, oE_k1, fetch_d, fetch_s, fetch_k1, eOp2_eq, op2k1_eq, op2k2_eq, op2k3_eq, op2k4_eq, pr_some, aNil_eq, aC2_eq, aCons_eq, aC1_eq, fetchs_nil, fts2_eq, fetchs_cons, fts1_eq, eA_eq, eA1_eq, eA2_eq, allD_nil, allD_cons, eDisp_eq, eD1_eq, eD2_0, eD2_1, eD2_2, eD2_3, eD2_4, eD2_5, eD2_6, pNo_eq, pAt_eq, pAt1_eq, eSl_eq, sl1_eq, sl2_eq, sl3_eq, sl4_eq, eAnd_eq, and1_eq, eOr_eq, or1_eq, eNot_eq, not1_eq, eIf_eq, if1_eq, eNeg_eq, neg1_eq, eM_eq, m0_eq, m1_str, m1_lst, m2_eq, m3_eq, m4_eq, mu4_eq, mu3_ow, mu3_pn, mu2_eq, mu1_eq, mu0_eq, eMut_eq, sSeq_eq, seq1_nx, seq1_bk, seq1_ct, seq1_rt, sNil_eq, sBk_eq, sCt_eq, sRetN_eq, sE_eq, se1_eq, sRet_eq, sRetF_eq, sret1_eq, sRetOw_eq, sRetOw1_eq, sIf_eq, sif1_eq, sg2_eq, sG_eq, sg1_eq, okSet_eq, okk_none, okk_sh, okk_ow, gN_eq, sOw_eq, ow1_eq, sFz_eq, fz1_ow, fz1_sh, fz1_pn, fz1_no, stl3_eq, stl2_ow, stl2_pn, stl1_eq, sSetL_eq, sFor_eq, sfor1_eq, sWhile_eq, iL_eq, il1_eq, il2_eq, bOf_d, bOf_s, iR1_eq, ir1_eq, fn1_rt, fn1_nx, eCall_eq, eCallF_eq, cv1_eq, cv2_1, cv2_2, cv2_3, cv3_eq, cvE_eq, cvF_eq, eCallB_eq, cb0_eq, cb1_1, cb1_2, cb1_3, cb2_bl, cb2_int, cb2_str, eCallP_eq, eCallPF_eq, cp0_eq, cp1_eq, cp2_eq, cp3_ow0, cp3_ow1, cp3_ow2, cp3_pn0, cp3_pn1, cp3_pn2, cp4_eq, eLc_eq, lc2_eq, eDc_eq, dc2_eq, bnd_some, mp_some, gt0, gtS, st0, stS, if_true, if_false, if_pos, Bool.true_eq_false, Bool.false_eq_true, stl0_eq2, stk_eq, ix0, ix1, ix2, ix3, ix4, ixT0, ixT1, ixT2, addD_i, subD_i, ltD_i, ltD_s, leD_i, gtD_i, gtD_s, geD_i, powD_18, lenD_l, lenD_t, lenD_d, eqD_s, neD_s, eqD_i, neD_i, decide_eq_true_eq, ↓reduceIte, decide_true, decide_false, not_true_eq_false, not_false_eq_true, Bool.not_true, Bool.not_false, List.length_map, List.length_cons, List.length_nil, Int.reduceLT, Int.reduceLE, Int.reduceNeg, and_self, and_true, true_and, mulD_r, mulD_l, modD_i, fdivD_i, Int.reduceAdd, Nat.reduceAdd, ixN50, ixN51, ixN52, ixN53, ixN54, slL_eq, slL_scr, listD_l, cut_up, cut_last, cut_all, slS_eq, inD_ls, inD_keys, wipe0, wipe1, rest0, rest1, gd_some, gd_none, decide_not, Bool.not_eq_true', decide_eq_false_iff_not, Classical.not_not, gPop_eq, allB_eq, List.nil_append, pk4_eq, pk3_ow, pk3_pn, pk2_eq, pk1_s, pk1_i, pk0_eq, ePopK_eq, sk3_eq, sk2_s, sk2_i, sk1_eq, sk0_eq, sSetK_eq, listD_keys, neD_nil, dropD_keys, eq_self, isi_non_bool, isi_non_int, isi_non_str, isi_non_tuple, isi_non_list, isi_bl_bool, isi_bl_int, isi_bl_str, isi_bl_tuple, isi_bl_list, isi_int_bool, isi_int_int, isi_int_str, isi_int_tuple, isi_int_list, isi_str_bool, isi_str_int, isi_str_str, isi_str_tuple, isi_str_list, isi_tup_bool, isi_tup_int, isi_tup_str, isi_tup_tuple, isi_tup_list, isi_lst_bool, isi_lst_int, isi_lst_str, isi_lst_tuple, isi_lst_list, isN_non, isN_bl, isN_int, isN_str, isN_tup, isN_lst, eqD_b, neD_b, startsD_eq, anyB_map, allB_map, sumD_map, maxD1_map, notInD_ls, notInD_keys, gsNil_eq, gsCons_eq, gsk_eq, gT2_eq, gT3_eq, iZ_eq, iz0_eq, iz1_eq, iz2_eq, sPin_eq, pin0_ow, pin0_sh, unpin_eq, unp_pn, pin1_nx, pin1_rt, cut_to, cut_from1, eFld_eq, fd0_eq, fd1_eq, sFd_eq, sfd0_eq, sfd1_ow, sfd1_pn, sfd2_eq, eMeth_eq, eMethF_eq, me0_eq, me1_eq, me2_eq, me3_0, me3_1, me3_2, me3_3, eMethP_eq, eMethPF_eq, mp0_ow, mp0_pn, mp1_eq, eNew_eq, nw0_eq, nw1_0, nw1_1, nw1_2, nw2_eq, exEq_eq, xq0_eq, xq1_eq, xq2_eq, xq3_eq, iso_eq, iso1_t, iS_eq, is1_eq, is0_eq, iR2_eq, ir2a_eq, ir2c_eq, maxD2_i, inD_sign, lc1_go, lcc_eq, dc1_go, dcc_eq, now_nil, now_cons, now1_sh, now1_none, bsV_nil, bsV_cons, Bool.and_true, Bool.true_and, fld_b, fld_r, set_b0, set_r0, set_b1, set_r1, isC_end, hasM_settle0, hasM_settle, hasM_head, hasM_ring, hasM_first, hasM_signs, hasM_later, hasM_behind, hasM_below, hasM_under, hasM_begins, hasM_starts, hasM_before, nin_nil, nin_cons, Nat.reduceBNe, iK_eq, ik0_eq, keyD_keys, eGet2_eq, ge0_eq, ge1_s, ge2_eq, ge3_eq, eLenM_eq, lm0_eq, lm1_eq, new0_1, parC_t, par2_go, sPar_eq, par0_eq, iLT_eq, lt1_eq, lt2_l, lt2_t, fld_k, isC_sw, hasW_rows, hasW_of, hasW_leads, hasW_then, hasW_back, hasW_power, hasW_seen, hasW_within, hasW_fixed, hasW_parted, inD_tD, listD_tD, valD_tD, iEn_eq, en1_eq, en2_eq, dropD_tDT, set_k0T, set_k1T])
local macro_rules | `(tactic| walk_at "eh") => `(tactic| simp only [eVar_eq, eVar_k1, eK_eq, oS_eq, oS_k1, oE_eq, oE_k1, fetch_d, fetch_s, fetch_k1, eOp2_eq, op2k1_eq, op2k2_eq, op2k3_eq, op2k4_eq, pr_some, aNil_eq, aC2_eq, aCons_eq, aC1_eq, fetchs_nil, fts2_eq, fetchs_cons, fts1_eq, eA_eq, eA1_eq, eA2_eq, allD_nil, allD_cons, eDisp_eq, eD1_eq, eD2_0, eD2_1, eD2_2, eD2_3, eD2_4, eD2_5, eD2_6, pNo_eq, pAt_eq, pAt1_eq, eSl_eq, sl1_eq, sl2_eq, sl3_eq, sl4_eq, eAnd_eq, and1_eq, eOr_eq, or1_eq, eNot_eq, not1_eq, eIf_eq, if1_eq, eNeg_eq, neg1_eq, eM_eq, m0_eq, m1_str, m1_lst, m2_eq, m3_eq, m4_eq, mu4_eq, mu3_ow, mu3_pn, mu2_eq, mu1_eq, mu0_eq, eMut_eq, sSeq_eq, seq1_nx, seq1_bk, seq1_ct, seq1_rt, sNil_eq, sBk_eq, sCt_eq, sRetN_eq, sE_eq, se1_eq, sRet_eq, sRetF_eq, sret1_eq, sRetOw_eq, sRetOw1_eq, sIf_eq, sif1_eq, sg2_eq, sG_eq, sg1_eq, okSet_eq, okk_none, okk_sh, okk_ow, gN_eq, sOw_eq, ow1_eq, sFz_eq, fz1_ow, fz1_sh, fz1_pn, fz1_no, stl3_eq, stl2_ow, stl2_pn, stl1_eq, sSetL_eq, sFor_eq, sfor1_eq, sWhile_eq, iL_eq, il1_eq, il2_eq, bOf_d, bOf_s, iR1_eq, ir1_eq, fn1_rt, fn1_nx, eCall_eq, eCallF_eq, cv1_eq, cv2_1, cv2_2, cv2_3, cv3_eq, cvE_eq, cvF_eq, eCallB_eq, cb0_eq, cb1_1, cb1_2, cb1_3, cb2_bl, cb2_int, cb2_str, eCallP_eq, eCallPF_eq, cp0_eq, cp1_eq, cp2_eq, cp3_ow0, cp3_ow1, cp3_ow2, cp3_pn0, cp3_pn1, cp3_pn2, cp4_eq, eLc_eq, lc2_eq, eDc_eq, dc2_eq, bnd_some, mp_some, gt0, gtS, st0, stS, if_true, if_false, if_pos, Bool.true_eq_false, Bool.false_eq_true, stl0_eq2, stk_eq, ix0, ix1, ix2, ix3, ix4, ixT0, ixT1, ixT2, addD_i, subD_i, ltD_i, ltD_s, leD_i, gtD_i, gtD_s, geD_i, powD_18, lenD_l, lenD_t, lenD_d, eqD_s, neD_s, eqD_i, neD_i, decide_eq_true_eq, ↓reduceIte, decide_true, decide_false, not_true_eq_false, not_false_eq_true, Bool.not_true, Bool.not_false, List.length_map, List.length_cons, List.length_nil, Int.reduceLT, Int.reduceLE, Int.reduceNeg, and_self, and_true, true_and, mulD_r, mulD_l, modD_i, fdivD_i, Int.reduceAdd, Nat.reduceAdd, ixN50, ixN51, ixN52, ixN53, ixN54, slL_eq, slL_scr, listD_l, cut_up, cut_last, cut_all, slS_eq, inD_ls, inD_keys, wipe0, wipe1, rest0, rest1, gd_some, gd_none, decide_not, Bool.not_eq_true', decide_eq_false_iff_not, Classical.not_not, gPop_eq, allB_eq, List.nil_append, pk4_eq, pk3_ow, pk3_pn, pk2_eq, pk1_s, pk1_i, pk0_eq, ePopK_eq, sk3_eq, sk2_s, sk2_i, sk1_eq, sk0_eq, sSetK_eq, listD_keys, neD_nil, dropD_keys, eq_self, isi_non_bool, isi_non_int, isi_non_str, isi_non_tuple, isi_non_list, isi_bl_bool, isi_bl_int, isi_bl_str, isi_bl_tuple, isi_bl_list, isi_int_bool, isi_int_int, isi_int_str, isi_int_tuple, isi_int_list, isi_str_bool, isi_str_int, isi_str_str, isi_str_tuple, isi_str_list, isi_tup_bool, isi_tup_int, isi_tup_str, isi_tup_tuple, isi_tup_list, isi_lst_bool, isi_lst_int, isi_lst_str, isi_lst_tuple, isi_lst_list, isN_non, isN_bl, isN_int, isN_str, isN_tup, isN_lst, eqD_b, neD_b, startsD_eq, anyB_map, allB_map, sumD_map, maxD1_map, notInD_ls, notInD_keys, gsNil_eq, gsCons_eq, gsk_eq, gT2_eq, gT3_eq, iZ_eq, iz0_eq, iz1_eq, iz2_eq, sPin_eq, pin0_ow, pin0_sh, unpin_eq, unp_pn, pin1_nx, pin1_rt, cut_to, cut_from1, eFld_eq, fd0_eq, fd1_eq, sFd_eq, sfd0_eq, sfd1_ow, sfd1_pn, sfd2_eq, eMeth_eq, eMethF_eq, me0_eq, me1_eq, me2_eq, me3_0, me3_1, me3_2, me3_3, eMethP_eq, eMethPF_eq, mp0_ow, mp0_pn, mp1_eq, eNew_eq, nw0_eq, nw1_0, nw1_1, nw1_2, nw2_eq, exEq_eq, xq0_eq, xq1_eq, xq2_eq, xq3_eq, iso_eq, iso1_t, iS_eq, is1_eq, is0_eq, iR2_eq, ir2a_eq, ir2c_eq, maxD2_i, inD_sign, lc1_go, lcc_eq, dc1_go, dcc_eq, now_nil, now_cons, now1_sh, now1_none, bsV_nil, bsV_cons, Bool.and_true, Bool.true_and, fld_b, fld_r, set_b0, set_r0, set_b1, set_r1, isC_end, hasM_settle0, hasM_settle, hasM_head, hasM_ring, hasM_first, hasM_signs, hasM_later, hasM_behind, hasM_below, hasM_under, hasM_begins, hasM_starts, hasM_before, nin_nil, nin_cons, Nat.reduceBNe, iK_eq, ik0_eq, keyD_keys, eGet2_eq, ge0_eq, ge1_s, ge2_eq, ge3_eq, eLenM_eq, lm0_eq, lm1_eq, new0_1, parC_t, par2_go, sPar_eq, par0_eq, iLT_eq, lt1_eq, lt2_l, lt2_t, fld_k, isC_sw, hasW_rows, hasW_of, hasW_leads, hasW_then, hasW_back, hasW_power, hasW_seen, hasW_within, hasW_fixed, hasW_parted, inD_tD, listD_tD, valD_tD, iEn_eq, en1_eq, en2_eq, dropD_tDT, set_k0T, set_k1T, *])
theorem zip_hds {α β : Type} : ∀ {xs : List α} {ys : List β}, xs.length = ys.length → (xs.zip ys).map (·.1) = xs ∧ (xs.zip ys).map (·.2) = ys
  | [], [], _ => ⟨rfl, rfl⟩
  | x :: xs, y :: ys, h => by
    obtain ⟨a, b⟩ := zip_hds (xs := xs) (ys := ys) (by simpa using h)
    exact ⟨by simp [a], by simp [b]⟩
  | [], _ :: _, h => by simp at h
  | _ :: _, [], h => by simp at h
theorem rot_perm {α : Type} (xs : List α) (k : Nat) : (xs.drop k ++ xs.take k).Perm xs := by
  have : (xs.take k ++ xs.drop k).Perm xs := by rw [List.take_append_drop]
  exact List.perm_append_comm.trans this
theorem lrows_run {gd gc gm : FN} (hd : Drw gd) (hc : ∀ (b : Box) (m : Nat), 0 < m → m ≤ 40 → W (gc [boxD b, .int (m : Int)]) fun r => ∃ xs b2, r = .ok true (.lst (xs.map D.str)) [boxD b2, .non] ∧ Hd m xs ∧ (∀ s, Bi s → Cov xs s) ∧ xs.length = m)
    (hm : ∀ (b : Box) (xs : List D), xs.length < 1000 → W (gm [boxD b, .lst xs]) fun r => ∃ ys b2, r = .ok true (.lst ys) [boxD b2, .non] ∧ ys.Perm xs) (b : Box) (most : Nat) (h0 : 0 < most) (h1 : most ≤ 40) :
    ∃ (T : List Rw) (b2 : Box), Tw most T ∧ T.length ≤ most ∧ 0 < T.length ∧ fnF [.pn, .sh] 6 (F__law_rows gd gc gm) [boxD b, .int (most : Int)] = some (.ok true (rowsD T) [boxD b2, .non]) := by
  suffices hh : W (fnF [.pn, .sh] 6 (F__law_rows gd gc gm) [boxD b, .int (most : Int)]) fun r => ∃ (T : List Rw) (b2 : Box), Tw most T ∧ T.length ≤ most ∧ 0 < T.length ∧ r = .ok true (rowsD T) [boxD b2, .non] by
    obtain ⟨r, e, T, b2, x1, x2, x3, rfl⟩ := hh
    exact ⟨T, b2, x1, x2, x3, e⟩
  obtain ⟨k, b1, hk, e1⟩ := hd b most h0 (by omega)
  obtain ⟨r, e2, xs, b2, rfl, hx, cx, lx⟩ := hc b1 (1 + k) (by omega) (by omega)
  obtain ⟨w, b3, hw, e3⟩ := hd b2 4 (by omega) (by omega)
  rw [show (((1 + k : Nat)) : Int) = 1 + (k : Int) by omega] at e2
  rw [show ((4 : Nat) : Int) = 4 from rfl] at e3
  rw [fnF_eq _ _ _ _ rfl]
  show W (fn1 [.pn, .sh] (F__law_rows gd gc gm [pv (boxD b), sv (.int (most : Int)), none, none, none, none, none, none])) _
  unfold F__law_rows
  -- behind the choice
  have fin : ∀ (zs : List Wd) (b4 : Box) (x5 : Option Sl), zs.Perm xs → W (fn1 [.pn, .sh] (sRetF (eLc (iZ (oE (eCallPF 0 [.sh] gc (aCons (oE (eVar 2)) aNil))) (oE (eVar 3))) [6, 7] (gT 2 (gsCons (gN 6) (gsCons (gN 7) gsNil))) (eK (.bl true)) (eDisp .tup (aCons (oE (eVar 6)) (aCons (oE (eVar 7)) aNil)))) [pv (boxD b4), sv (.int (most : Int)), sv (.int (1 + (k : Int))), sv (.lst (zs.map D.str)), sv (.int (w : Int)), x5, none, none])) fun r => ∃ (T : List Rw) (b2 : Box), Tw most T ∧ T.length ≤ most ∧ 0 < T.length ∧ r = .ok true (rowsD T) [boxD b2, .non] := fun zs b4 x5 pz => by
    obtain ⟨r, e5, ys, b5, rfl, hy, cy, ly⟩ := hc b4 (1 + k) (by omega) (by omega)
    rw [show (((1 + k : Nat)) : Int) = 1 + (k : Int) by omega] at e5
    have zd := zipD_strs ys zs
    have hl : ys.length = zs.length := by rw [pz.length_eq, lx, ly]
    obtain ⟨q1, q2⟩ := zip_hds hl
    clear hd hc hm e1 e2 e3
    walk_at "eh"
    rw [lcL_map (fun p : Wd × Wd => D.tup [.str p.1, .str p.2]) (fun p => D.tup [.str p.1, .str p.2]) rfl (ys.zip zs) (by rw [List.length_zip]; omega) fun p hp => ⟨[pv (boxD b5), sv (.int (most : Int)), sv (.int (1 + (k : Int))), sv (.lst (zs.map D.str)), sv (.int (w : Int)), x5, sv (.str p.1), sv (.str p.2)], by walk_at "ev", by walk_at "ev", by walk_at "ev", by walk_at "ev"⟩]
    walk_at "ev"
    refine W.ret ⟨ys.zip zs, b5, ⟨?_, ?_⟩, by rw [List.length_zip]; omega, by rw [List.length_zip]; omega, rfl⟩
    · rw [show hds (ys.zip zs) = ys from q1]
      exact ⟨hy.of (by omega) hy.nd fun _ z => z, cy⟩
    · rw [show oth (ys.zip zs) = zs from q2]
      have hz := hx.perm pz
      exact ⟨hz.of (by omega) hz.nd fun _ z => z, fun s hs => (cx s hs).perm pz⟩
  generalize hR : sRetF _ = R at *
  clear hR
  by_cases c0 : (w : Int) = 0
  · obtain ⟨t, b4, ht, e4⟩ := hd b3 (1 + k) (by omega) (by omega)
    rw [show (((1 + k : Nat)) : Int) = 1 + (k : Int) by omega] at e4
    have f := fin (xs.drop t ++ xs.take t) b4 (sv (.int (t : Int))) (rot_perm xs t)
    have a1 := slL_eq (xs.map D.str) (some (t : Int)) none
    have a2 := slL_eq (xs.map D.str) none (some (t : Int))
    rw [cut_from, ← List.map_drop] at a1
    rw [cut_to, ← List.map_take] at a2
    have a3 := catD_eq ((xs.drop t).map D.str) ((xs.take t).map D.str) (by simp; omega)
    rw [← List.map_append] at a3
    have c0' : decide ((w : Int) = 0) = true := decide_eq_true c0
    clear fin hd hc hm c0
    walk_at "eh"
  · by_cases c1 : 1 < (w : Int)
    · obtain ⟨r, e4, zs, b4, rfl, p⟩ := hm b3 (xs.map D.str) (by simp; omega)
      obtain ⟨ws, rfl, p2⟩ := perm_map D.str p xs rfl
      have f := fin ws b4 none p2
      clear fin hd hc hm
      walk_at "eh"
    · have f := fin xs b3 none (List.Perm.refl _)
      clear fin hd hc hm
      walk_at "eh"
end Lw
namespace Lw
open PySem PySem.Spec L2 Qd Qm
local macro_rules | `(tactic| walk_at "ev") => `(tactic| simp only [eVar_eq, eVar_k1, eK_eq, oS_eq, oS_k1, oE_eq, oE_k1, fetch_d, fetch_s, fetch_k1, eOp2_eq, op2k1_eq, op2k2_eq, op2k3_eq, op2k4_eq, pr_some, aNil_eq, aC2_eq, aCons_eq, aC1_eq, fetchs_nil, fts2_eq, fetchs_cons, fts1_eq, eA_eq, eA1_eq, eA2_eq, allD_nil, allD_cons, eDisp_eq, eD1_eq, eD2_0, eD2_1, eD2_2, eD2_3, eD2_4, eD2_5, eD2_6, pNo_eq, pAt_eq, pAt1_eq, eSl_eq, sl1_eq, sl2_eq, sl3_eq, sl4_eq, eAnd_eq, and1_eq, eOr_eq, or1_eq, eNot_eq, not1_eq, eIf_eq, if1_eq, eNeg_eq, neg1_eq, eM_eq, m0_eq, m1_str, m1_lst, m2_eq, m3_eq, m4_eq, mu4_eq, mu3_ow, mu3_pn, mu2_eq, mu1_eq, mu0_eq, eMut_eq, sSeq_eq, seq1_nx, seq1_bk, seq1_ct, seq1_rt, sNil_eq, sBk_eq, sCt_eq, sRetN_eq, sE_eq, se1_eq, sRet_eq, sRetF_eq, sret1_eq, sRetOw_eq, sRetOw1_eq, sIf_eq, sif1_eq, sg2_eq, sG_eq, sg1_eq, okSet_eq, okk_none, okk_sh, okk_ow, gN_eq, sOw_eq, ow1_eq, sFz_eq, fz1_ow, fz1_sh, fz1_pn, fz1_no, stl3_eq, stl2_ow, stl2_pn, stl1_eq, sSetL_eq, sFor_eq, sfor1_eq, sWhile_eq, iL_eq, il1_eq, il2_eq, bOf_d, bOf_s, iR1_eq, ir1_eq, fn1_rt, fn1_nx, eCall_eq, eCallF_eq, cv1_eq, cv2_1, cv2_2, cv2_3, cv3_eq, cvE_eq, cvF_eq, eCallB_eq, cb0_eq, cb1_1, cb1_2, cb1_3, cb2_bl, cb2_int, cb2_str, eCallP_eq, eCallPF_eq, cp0_eq, cp1_eq, cp2_eq, cp3_ow0, cp3_ow1, cp3_ow2, cp3_pn0, cp3_pn1, cp3_pn2, cp4_eq, eLc_eq, lc2_eq, eDc_eq, dc2_eq, bnd_some, mp_some, gt0, gtS, st0, stS, if_true, if_false, if_pos, Bool.true_eq_false, Bool.false_eq_true, stl0_eq2, stk_eq, ix0, ix1, ix2, ix3, ix4, ixT0, ixT1, ixT2, addD_i, subD_i, ltD_i, ltD_s, leD_i, gtD_i, gtD_s, geD_i, powD_18, lenD_l, lenD_t, lenD_d, eqD_s, neD_s, eqD_i, neD_i, decide_eq_true_eq, ↓reduceIte, decide_true, decide_false, not_true_eq_false, not_false_eq_true, Bool.not_true, Bool.not_false, List.length_map, List.length_cons, List.length_nil, Int.reduceLT, Int.reduceLE, Int.reduceNeg, and_self, and_true, true_and, mulD_r, mulD_l, modD_i, fdivD_i, Int.reduceAdd, Nat.reduceAdd, ixN50, ixN51, ixN52, ixN53, ixN54, slL_eq, slL_scr, listD_l, cut_up, cut_last, cut_all, slS_eq, inD_ls, inD_keys, wipe0, wipe1, rest0, rest1, gd_some, gd_none, decide_not, Bool.not_eq_true', decide_eq_false_iff_not, Classical.not_not, gPop_eq, allB_eq, List.nil_append, pk4_eq, pk3_ow, pk3_pn, pk2_eq, pk1_s, pk1_i, pk0_eq, ePopK_eq, sk3_eq, sk2_s, sk2_i, sk1_eq, sk0_eq, sSetK_eq, listD_keys, neD_nil, dropD_keys, eq_self, isi_non_bool, isi_non_int, isi_non_str, isi_non_tuple, isi_non_list, isi_bl_bool, isi_bl_int, isi_bl_str, isi_bl_tuple, isi_bl_list, isi_int_bool, isi_int_int, isi_int_str, isi_int_tuple, isi_int_list, isi_str_bool, isi_str_int, isi_str_str, isi_str_tuple, isi_str_list, isi_tup_bool, isi_tup_int, isi_tup_str, isi_tup_tuple, isi_tup_list, isi_lst_bool, isi_lst_int, isi_lst_str, isi_lst_tuple, isi_lst_list, isN_non, isN_bl, isN_int, isN_str, isN_tup, isN_lst, eqD_b, neD_b, startsD_eq, anyB_map, allB_map, sumD_map, maxD1_map, notInD_ls, notInD_keys, gsNil_eq, gsCons_eq, gsk_eq, gT2_eq, gT3_eq, iZ_eq, iz0_eq, iz1_eq, iz2_eq, sPin_eq, pin0_ow, pin0_sh, unpin_eq, unp_pn, pin1_nx, pin1_rt, cut_to, cut_from1, eFld_eq, fd0_eq, fd1_eq, sFd_eq, sfd0_eq, sfd1_ow, sfd1_pn, sfd2_eq, eMeth_eq, eMethF_eq, me0_eq, me1_eq, me2_eq, me3_0, me3_1, me3_2, me3_3, eMethP_eq, eMethPF_eq, mp0_ow, mp0_pn, mp1_eq, eNew_eq, nw0_eq, nw1_0, nw1_1, nw1_2, nw2_eq, exEq_eq, xq0_eq, xq1_eq, xq2_eq, xq3_eq, iso_eq, iso1_t, iS_eq, is1_eq, is0_eq, iR2_eq, ir2a_eq, ir2c_eq, maxD2_i, inD_sign, lc1_go, lcc_eq, dc1_go, dcc_eq, now_nil, now_cons, now1_sh, now1_none, bsV_nil, bsV_cons, Bool.and_true, Bool.true_and, fld_b, fld_r, set_b0, set_r0, set_b1, set_r1, isC_end, hasM_settle0, hasM_settle, hasM_head, hasM_ring, hasM_first, hasM_signs, hasM_later, hasM_behind, hasM_below, hasM_under, hasM_begins, hasM_starts, hasM_before, nin_nil, nin_cons, Nat.reduceBNe, iK_eq, ik0_eq, keyD_keys, eGet2_eq, ge0_eq, ge1_s, ge2_eq, ge3_eq, eLenM_eq, lm0_eq, lm1_eq, new0_1, parC_t, par2_go, sPar_eq, par0_eq, iLT_eq, lt1_eq, lt2_l, lt2_t, fld_k, isC_sw, hasW_rows, hasW_of, hasW_leads, hasW_then, hasW_back, hasW_power, hasW_seen, hasW_within, hasW_fixed, hasW_parted, inD_tD, listD_tD, valD_tD, iEn_eq, en1_eq, en2_eq, dropD_tDT, set_k0T, set_k1T])
local macro_rules | `(tactic| walk_at "eh") => `(tactic| simp only [eVar_eq, eVar_k1, eK_eq, oS_eq, oS_k1, oE_eq, oE_k1, fetch_d, fetch_s, fetch_k1, eOp2_eq, op2k1_eq, op2k2_eq, op2k3_eq, op2k4_eq, pr_some, aNil_eq, aC2_eq, aCons_eq, aC1_eq, fetchs_nil, fts2_eq, fetchs_cons, fts1_eq, eA_eq, eA1_eq, eA2_eq, allD_nil, allD_cons, eDisp_eq, eD1_eq, eD2_0, eD2_1, eD2_2, eD2_3, eD2_4, eD2_5, eD2_6, pNo_eq, pAt_eq, pAt1_eq, eSl_eq, sl1_eq, sl2_eq, sl3_eq, sl4_eq, eAnd_eq, and1_eq, eOr_eq, or1_eq, eNot_eq, not1_eq, eIf_eq, if1_eq, eNeg_eq, neg1_eq, eM_eq, m0_eq, m1_str, m1_lst, m2_eq, m3_eq, m4_eq, mu4_eq, mu3_ow, mu3_pn, mu2_eq, mu1_eq, mu0_eq, eMut_eq, sSeq_eq, seq1_nx, seq1_bk, seq1_ct, seq1_rt, sNil_eq, sBk_eq, sCt_eq, sRetN_eq, sE_eq, se1_eq, sRet_eq, sRetF_eq, sret1_eq, sRetOw_eq, sRetOw1_eq, sIf_eq, sif1_eq, sg2_eq, sG_eq, sg1_eq, okSet_eq, okk_none, okk_sh, okk_ow, gN_eq, sOw_eq, ow1_eq, sFz_eq, fz1_ow, fz1_sh, fz1_pn, fz1_no, stl3_eq, stl2_ow, stl2_pn, stl1_eq, sSetL_eq, sFor_eq, sfor1_eq, sWhile_eq, iL_eq, il1_eq, il2_eq, bOf_d, bOf_s, iR1_eq, ir1_eq, fn1_rt, fn1_nx, eCall_eq, eCallF_eq, cv1_eq, cv2_1, cv2_2, cv2_3, cv3_eq, cvE_eq, cvF_eq, eCallB_eq, cb0_eq, cb1_1, cb1_2, cb1_3, cb2_bl, cb2_int, cb2_str, eCallP_eq, eCallPF_eq, cp0_eq, cp1_eq, cp2_eq, cp3_ow0, cp3_ow1, cp3_ow2, cp3_pn0, cp3_pn1, cp3_pn2, cp4_eq, eLc_eq, lc2_eq, eDc_eq, dc2_eq, bnd_some, mp_some, gt0, gtS, st0, stS, if_true, if_false, if_pos, Bool.true_eq_false, Bool.false_eq_true, stl0_eq2, stk_eq, ix0, ix1, ix2, ix3, ix4, ixT0, ixT1, ixT2, addD_i, subD_i, ltD_i, ltD_s, leD_i, gtD_i, gtD_s, geD_i, powD_18, lenD_l, lenD_t, lenD_d, eqD_s, neD_s, eqD_i, neD_i, decide_eq_true_eq, ↓reduceIte, decide_true, decide_false, not_true_eq_false, not_false_eq_true, Bool.not_true, Bool.not_false, List.length_map, List.length_cons, List.length_nil, Int.reduceLT, Int.reduceLE, Int.reduceNeg, and_self, and_true, true_and, mulD_r, mulD_l, modD_i, fdivD_i, Int.reduceAdd, Nat.reduceAdd, ixN50, ixN51, ixN52, ixN53, ixN54, slL_eq, slL_scr, listD_l, cut_up, cut_last, cut_all, slS_eq, inD_ls, inD_keys, wipe0, wipe1, rest0, rest1, gd_some, gd_none, decide_not, Bool.not_eq_true', decide_eq_false_iff_not, Classical.not_not, gPop_eq, allB_eq, List.nil_append, pk4_eq, pk3_ow, pk3_pn, pk2_eq, pk1_s, pk1_i, pk0_eq, ePopK_eq, sk3_eq, sk2_s, sk2_i, sk1_eq, sk0_eq, sSetK_eq, listD_keys, neD_nil, dropD_keys, eq_self, isi_non_bool, isi_non_int, isi_non_str, isi_non_tuple, isi_non_list, isi_bl_bool, isi_bl_int, isi_bl_str, isi_bl_tuple, isi_bl_list, isi_int_bool, isi_int_int, isi_int_str, isi_int_tuple, isi_int_list, isi_str_bool, isi_str_int, isi_str_str, isi_str_tuple, isi_str_list, isi_tup_bool, isi_tup_int, isi_tup_str, isi_tup_tuple, isi_tup_list, isi_lst_bool, isi_lst_int, isi_lst_str, isi_lst_tuple, isi_lst_list, isN_non, isN_bl, isN_int, isN_str, isN_tup, isN_lst, eqD_b, neD_b, startsD_eq, anyB_map, allB_map, sumD_map, maxD1_map, notInD_ls, notInD_keys, gsNil_eq, gsCons_eq, gsk_eq, gT2_eq, gT3_eq, iZ_eq, iz0_eq, iz1_eq, iz2_eq, sPin_eq, pin0_ow, pin0_sh, unpin_eq, unp_pn, pin1_nx, pin1_rt, cut_to, cut_from1, eFld_eq, fd0_eq, fd1_eq, sFd_eq, sfd0_eq, sfd1_ow, sfd1_pn, sfd2_eq, eMeth_eq, eMethF_eq, me0_eq, me1_eq, me2_eq, me3_0, me3_1, me3_2, me3_3, eMethP_eq, eMethPF_eq, mp0_ow, mp0_pn, mp1_eq, eNew_eq, nw0_eq, nw1_0, nw1_1, nw1_2, nw2_eq, exEq_eq, xq0_eq, xq1_eq, xq2_eq, xq3_eq, iso_eq, iso1_t, iS_eq, is1_eq, is0_eq, iR2_eq, ir2a_eq, ir2c_eq, maxD2_i, inD_sign, lc1_go, lcc_eq, dc1_go, dcc_eq, now_nil, now_cons, now1_sh, now1_none, bsV_nil, bsV_cons, Bool.and_true, Bool.true_and, fld_b, fld_r, set_b0, set_r0, set_b1, set_r1, isC_end, hasM_settle0, hasM_settle, hasM_head, hasM_ring, hasM_first, hasM_signs, hasM_later, hasM_behind, hasM_below, hasM_under, hasM_begins, hasM_starts, hasM_before, nin_nil, nin_cons, Nat.reduceBNe, iK_eq, ik0_eq, keyD_keys, eGet2_eq, ge0_eq, ge1_s, ge2_eq, ge3_eq, eLenM_eq, lm0_eq, lm1_eq, new0_1, parC_t, par2_go, sPar_eq, par0_eq, iLT_eq, lt1_eq, lt2_l, lt2_t, fld_k, isC_sw, hasW_rows, hasW_of, hasW_leads, hasW_then, hasW_back, hasW_power, hasW_seen, hasW_within, hasW_fixed, hasW_parted, inD_tD, listD_tD, valD_tD, iEn_eq, en1_eq, en2_eq, dropD_tDT, set_k0T, set_k1T, *])
def Sgn (g : FN) : Prop := ∀ (b : Box) (n : Nat), n ≤ 10000 → ∃ (x : Wd) (b2 : Box), Bin x ∧ x.length = n ∧ g [boxD b, .int (n : Int)] = some (.ok false (.str x) [boxD b2, .non])
theorem signs_run {g : FN} (hg : Drw g) : Sgn (fnF [.pn, .sh] 1 (F__law_signs g)) := fun b n hn => by
  suffices h : W (fnF [.pn, .sh] 1 (F__law_signs g) [boxD b, .int (n : Int)]) fun r => ∃ (x : Wd) (b2 : Box), Bin x ∧ x.length = n ∧ r = .ok false (.str x) [boxD b2, .non] by
    obtain ⟨r, e, x, b2, h1, h2, rfl⟩ := h
    exact ⟨x, b2, h1, h2, e⟩
  rw [fnF_eq _ _ _ _ rfl]
  show W (fn1 [.pn, .sh] (F__law_signs g [pv (boxD b), sv (.int (n : Int)), none])) _
  unfold F__law_signs
  walk_at "ev"
  have n1 : -1000000000 ≤ (n : Int) ∧ (n : Int) < 1000000000 := by omega
  walk_at "eh"
  rw [Int.toNat_natCast]
  generalize hL : Qd.lcL [] [2] _ _ _ _ _ _ = L
  have hW : W L fun p => ∃ (cs : List Nat) (b2 : Box), p = (cs.map fun c => D.str [c], [pv (boxD b2), sv (.int (n : Int)), none]) ∧ Bin cs ∧ cs.length = n := by
    rw [← hL]
    refine W.lcL (fun items e acc => ∃ (cs : List Nat) (b2 : Box), e = [pv (boxD b2), sv (.int (n : Int)), none] ∧ acc = (cs.map fun c => D.str [c]) ∧ Bin cs ∧ cs.length + items.length = n) ?_ ?_ _ _ _ ⟨[], b, rfl, rfl, Qm.Bin.nil, by rw [rng_len]; simp⟩
    · rintro e acc ⟨cs, b2, rfl, rfl, hc, hl⟩
      exact ⟨rfl, cs, b2, rfl, hc, by simpa using hl⟩
    · rintro d ds e acc ⟨cs, b2, rfl, rfl, hc, hl⟩
      have hl : cs.length + (ds.length + 1) = n := hl
      obtain ⟨m, b3, hm, e1⟩ := hg b2 2 (by omega) (by omega)
      obtain ⟨c, hc1, hc2⟩ := ixS_01 m hm
      refine ⟨rfl, [pv (boxD b2), sv (.int (n : Int)), sv d], true, [pv (boxD b2), sv (.int (n : Int)), sv d], by walk_at "ev", by walk_at "ev", ?_⟩
      rw [if_pos rfl]
      refine ⟨.str [c], [pv (boxD b3), sv (.int (n : Int)), sv d], ?_, by simp; omega, cs ++ [c], b3, by walk_at "ev", by simp, Qm.Bin.snoc hc hc1, by simp; omega⟩
      rw [show ((2 : Nat) : Int) = 2 from rfl] at e1
      clear n1 hl hL
      walk_at "eh"
  clear hL
  obtain ⟨p, rfl, cs, b2, rfl, hc, hl⟩ := hW
  have fl : (cs.map fun c => [c]).flatten = cs := by
    clear hc hl
    induction cs with
    | nil => rfl
    | cons c cs ih => simpa using ih
  have j := joinD_s (cs.map fun c => [c]) (by rw [fl]; omega)
  rw [fl, List.map_map] at j
  have j2 : joinD (.str []) [.lst (cs.map fun c => D.str [c])] = some (.str cs) := j
  clear j fl n1
  walk_at "eh"
  exact W.ret ⟨cs, b2, hc, hl, rfl⟩
end Lw
namespace Lw
open PySem PySem.Spec L2 Qd Qm
local macro_rules | `(tactic| walk_at "ev") => `(tactic| simp only [eVar_eq, eVar_k1, eK_eq, oS_eq, oS_k1, oE_eq, oE_k1, fetch_d, fetch_s, fetch_k1, eOp2_eq, op2k1_eq, op2k2_eq, op2k3_eq, op2k4_eq, pr_some, aNil_eq, aC2_eq, aCons_eq, aC1_eq, fetchs_nil, fts2_eq, fetchs_cons, fts1_eq, eA_eq, eA1_eq, eA2_eq, allD_nil, allD_cons, eDisp_eq, eD1_eq, eD2_0, eD2_1, eD2_2, eD2_3, eD2_4, eD2_5, eD2_6, pNo_eq, pAt_eq, pAt1_eq, eSl_eq, sl1_eq, sl2_eq, sl3_eq, sl4_eq, eAnd_eq, and1_eq, eOr_eq, or1_eq, eNot_eq, not1_eq, eIf_eq, if1_eq, eNeg_eq, neg1_eq, eM_eq, m0_eq, m1_str, m1_lst, m2_eq, m3_eq, m4_eq, mu4_eq, mu3_ow, mu3_pn, mu2_eq, mu1_eq, mu0_eq, eMut_eq, sSeq_eq, seq1_nx, seq1_bk, seq1_ct, seq1_rt, sNil_eq, sBk_eq, sCt_eq, sRetN_eq, sE_eq, se1_eq, sRet_eq, sRetF_eq, sret1_eq, sRetOw_eq, sRetOw1_eq, sIf_eq, sif1_eq, sg2_eq, sG_eq, sg1_eq, okSet_eq, okk_none, okk_sh, okk_ow, gN_eq, sOw_eq, ow1_eq, sFz_eq, fz1_ow, fz1_sh, fz1_pn, fz1_no, stl3_eq, stl2_ow, stl2_pn, stl1_eq, sSetL_eq, sFor_eq, sfor1_eq, sWhile_eq, iL_eq, il1_eq, il2_eq, bOf_d, bOf_s, iR1_eq, ir1_eq, fn1_rt, fn1_nx, eCall_eq, eCallF_eq, cv1_eq, cv2_1, cv2_2, cv2_3, cv3_eq, cvE_eq, cvF_eq, eCallB_eq, cb0_eq, cb1_1, cb1_2, cb1_3, cb2_bl, cb2_int, cb2_str, eCallP_eq, eCallPF_eq, cp0_eq, cp1_eq, cp2_eq, cp3_ow0, cp3_ow1, cp3_ow2, cp3_pn0, cp3_pn1, cp3_pn2, cp4_eq, eLc_eq, lc2_eq, eDc_eq, dc2_eq, bnd_some, mp_some, gt0, gtS, st0, stS, if_true, if_false, if_pos, Bool.true_eq_false, Bool.false_eq_true, stl0_eq2, stk_eq, ix0, ix1, ix2, ix3, ix4, ixT0, ixT1, ixT2, addD_i, subD_i, ltD_i, ltD_s, leD_i, gtD_i, gtD_s, geD_i, powD_18, lenD_l, lenD_t, lenD_d, eqD_s, neD_s, eqD_i, neD_i, decide_eq_true_eq, ↓reduceIte, decide_true, decide_false, not_true_eq_false, not_false_eq_true, Bool.not_true, Bool.not_false, List.length_map, List.length_cons, List.length_nil, Int.reduceLT, Int.reduceLE, Int.reduceNeg, and_self, and_true, true_and, mulD_r, mulD_l, modD_i, fdivD_i, Int.reduceAdd, Nat.reduceAdd, ixN50, ixN51, ixN52, ixN53, ixN54, slL_eq, slL_scr, listD_l, cut_up, cut_last, cut_all, slS_eq, inD_ls, inD_keys, wipe0, wipe1, rest0, rest1, gd_some, gd_none, decide_not, Bool.not_eq_true', decide_eq_false_iff_not, Classical.not_not, gPop_eq, allB_eq, List.nil_append, pk4_eq, pk3_ow, pk3_pn, pk2_eq, pk1_s, pk1_i, pk0_eq, ePopK_eq, sk3_eq, sk2_s, sk2_i, sk1_eq, sk0_eq, sSetK_eq, listD_keys, neD_nil, dropD_keys, eq_self, isi_non_bool, isi_non_int, isi_non_str, isi_non_tuple, isi_non_list, isi_bl_bool, isi_bl_int, isi_bl_str, isi_bl_tuple, isi_bl_list, isi_int_bool, isi_int_int, isi_int_str, isi_int_tuple, isi_int_list, isi_str_bool, isi_str_int, isi_str_str, isi_str_tuple, isi_str_list, isi_tup_bool, isi_tup_int, isi_tup_str, isi_tup_tuple, isi_tup_list, isi_lst_bool, isi_lst_int, isi_lst_str, isi_lst_tuple, isi_lst_list, isN_non, isN_bl, isN_int, isN_str, isN_tup, isN_lst, eqD_b, neD_b, startsD_eq, anyB_map, allB_map, sumD_map, maxD1_map, notInD_ls, notInD_keys, gsNil_eq, gsCons_eq, gsk_eq, gT2_eq, gT3_eq, iZ_eq, iz0_eq, iz1_eq, iz2_eq, sPin_eq, pin0_ow, pin0_sh, unpin_eq, unp_pn, pin1_nx, pin1_rt, cut_to, cut_from1, eFld_eq, fd0_eq, fd1_eq, sFd_eq, sfd0_eq, sfd1_ow, sfd1_pn, sfd2_eq, eMeth_eq, eMethF_eq, me0_eq, me1_eq, me2_eq, me3_0, me3_1, me3_2, me3_3, eMethP_eq, eMethPF_eq, mp0_ow, mp0_pn, mp1_eq, eNew_eq, nw0_eq, nw1_0, nw1_1, nw1_2, nw2_eq, exEq_eq, xq0_eq, xq1_eq, xq2_eq, xq3_eq, iso_eq, iso1_t, iS_eq, is1_eq, is0_eq, iR2_eq, ir2a_eq, ir2c_eq, maxD2_i, inD_sign, lc1_go, lcc_eq, dc1_go, dcc_eq, now_nil, now_cons, now1_sh, now1_none, bsV_nil, bsV_cons, Bool.and_true, Bool.true_and, fld_b, fld_r, set_b0, set_r0, set_b1, set_r1, isC_end, hasM_settle0, hasM_settle, hasM_head, hasM_ring, hasM_first, hasM_signs, hasM_later, hasM_behind, hasM_below, hasM_under, hasM_begins, hasM_starts, hasM_before, nin_nil, nin_cons, Nat.reduceBNe, iK_eq, ik0_eq, keyD_keys, eGet2_eq, ge0_eq, ge1_s, ge2_eq, ge3_eq, eLenM_eq, lm0_eq, lm1_eq, new0_1, parC_t, par2_go, sPar_eq, par0_eq, iLT_eq, lt1_eq, lt2_l, lt2_t, fld_k, isC_sw, hasW_rows, hasW_of, hasW_leads, hasW_then, hasW_back, hasW_power, hasW_seen, hasW_within, hasW_fixed, hasW_parted, inD_tD, listD_tD, valD_tD, iEn_eq, en1_eq, en2_eq, dropD_tDT, set_k0T, set_k1T])
local macro_rules | `(tactic| walk_at "eh") => `(tactic| simp only [eVar_eq, eVar_k1, eK_eq, oS_eq, oS_k1, oE_eq, oE_k1, fetch_d, fetch_s, fetch_k1, eOp2_eq, op2k1_eq, op2k2_eq, op2k3_eq, op2k4_eq, pr_some, aNil_eq, aC2_eq, aCons_eq, aC1_eq, fetchs_nil, fts2_eq, fetchs_cons, fts1_eq, eA_eq, eA1_eq, eA2_eq, allD_nil, allD_cons, eDisp_eq, eD1_eq, eD2_0, eD2_1, eD2_2, eD2_3, eD2_4, eD2_5, eD2_6, pNo_eq, pAt_eq, pAt1_eq, eSl_eq, sl1_eq, sl2_eq, sl3_eq, sl4_eq, eAnd_eq, and1_eq, eOr_eq, or1_eq, eNot_eq, not1_eq, eIf_eq, if1_eq, eNeg_eq, neg1_eq, eM_eq, m0_eq, m1_str, m1_lst, m2_eq, m3_eq, m4_eq, mu4_eq, mu3_ow, mu3_pn, mu2_eq, mu1_eq, mu0_eq, eMut_eq, sSeq_eq, seq1_nx, seq1_bk, seq1_ct, seq1_rt, sNil_eq, sBk_eq, sCt_eq, sRetN_eq, sE_eq, se1_eq, sRet_eq, sRetF_eq, sret1_eq, sRetOw_eq, sRetOw1_eq, sIf_eq, sif1_eq, sg2_eq, sG_eq, sg1_eq, okSet_eq, okk_none, okk_sh, okk_ow, gN_eq, sOw_eq, ow1_eq, sFz_eq, fz1_ow, fz1_sh, fz1_pn, fz1_no, stl3_eq, stl2_ow, stl2_pn, stl1_eq, sSetL_eq, sFor_eq, sfor1_eq, sWhile_eq, iL_eq, il1_eq, il2_eq, bOf_d, bOf_s, iR1_eq, ir1_eq, fn1_rt, fn1_nx, eCall_eq, eCallF_eq, cv1_eq, cv2_1, cv2_2, cv2_3, cv3_eq, cvE_eq, cvF_eq, eCallB_eq, cb0_eq, cb1_1, cb1_2, cb1_3, cb2_bl, cb2_int, cb2_str, eCallP_eq, eCallPF_eq, cp0_eq, cp1_eq, cp2_eq, cp3_ow0, cp3_ow1, cp3_ow2, cp3_pn0, cp3_pn1, cp3_pn2, cp4_eq, eLc_eq, lc2_eq, eDc_eq, dc2_eq, bnd_some, mp_some, gt0, gtS, st0, stS, if_true, if_false, if_pos, Bool.true_eq_false, Bool.false_eq_true, stl0_eq2, stk_eq, ix0, ix1, ix2, ix3, ix4, ixT0, ixT1, ixT2, addD_i, subD_i, ltD_i, ltD_s, leD_i, gtD_i, gtD_s, geD_i, powD_18, lenD_l, lenD_t, lenD_d, eqD_s, neD_s, eqD_i, neD_i, decide_eq_true_eq, ↓reduceIte, decide_true, decide_false, not_true_eq_false, not_false_eq_true, Bool.not_true, Bool.not_false, List.length_map, List.length_cons, List.length_nil, Int.reduceLT, Int.reduceLE, Int.reduceNeg, and_self, and_true, true_and, mulD_r, mulD_l, modD_i, fdivD_i, Int.reduceAdd, Nat.reduceAdd, ixN50, ixN51, ixN52, ixN53, ixN54, slL_eq, slL_scr, listD_l, cut_up, cut_last, cut_all, slS_eq, inD_ls, inD_keys, wipe0, wipe1, rest0, rest1, gd_some, gd_none, decide_not, Bool.not_eq_true', decide_eq_false_iff_not, Classical.not_not, gPop_eq, allB_eq, List.nil_append, pk4_eq, pk3_ow, pk3_pn, pk2_eq, pk1_s, pk1_i, pk0_eq, ePopK_eq, sk3_eq, sk2_s, sk2_i, sk1_eq, sk0_eq, sSetK_eq, listD_keys, neD_nil, dropD_keys, eq_self, isi_non_bool, isi_non_int, isi_non_str, isi_non_tuple, isi_non_list, isi_bl_bool, isi_bl_int, isi_bl_str, isi_bl_tuple, isi_bl_list, isi_int_bool, isi_int_int, isi_int_str, isi_int_tuple, isi_int_list, isi_str_bool, isi_str_int, isi_str_str, isi_str_tuple, isi_str_list, isi_tup_bool, isi_tup_int, isi_tup_str, isi_tup_tuple, isi_tup_list, isi_lst_bool, isi_lst_int, isi_lst_str, isi_lst_tuple, isi_lst_list, isN_non, isN_bl, isN_int, isN_str, isN_tup, isN_lst, eqD_b, neD_b, startsD_eq, anyB_map, allB_map, sumD_map, maxD1_map, notInD_ls, notInD_keys, gsNil_eq, gsCons_eq, gsk_eq, gT2_eq, gT3_eq, iZ_eq, iz0_eq, iz1_eq, iz2_eq, sPin_eq, pin0_ow, pin0_sh, unpin_eq, unp_pn, pin1_nx, pin1_rt, cut_to, cut_from1, eFld_eq, fd0_eq, fd1_eq, sFd_eq, sfd0_eq, sfd1_ow, sfd1_pn, sfd2_eq, eMeth_eq, eMethF_eq, me0_eq, me1_eq, me2_eq, me3_0, me3_1, me3_2, me3_3, eMethP_eq, eMethPF_eq, mp0_ow, mp0_pn, mp1_eq, eNew_eq, nw0_eq, nw1_0, nw1_1, nw1_2, nw2_eq, exEq_eq, xq0_eq, xq1_eq, xq2_eq, xq3_eq, iso_eq, iso1_t, iS_eq, is1_eq, is0_eq, iR2_eq, ir2a_eq, ir2c_eq, maxD2_i, inD_sign, lc1_go, lcc_eq, dc1_go, dcc_eq, now_nil, now_cons, now1_sh, now1_none, bsV_nil, bsV_cons, Bool.and_true, Bool.true_and, fld_b, fld_r, set_b0, set_r0, set_b1, set_r1, isC_end, hasM_settle0, hasM_settle, hasM_head, hasM_ring, hasM_first, hasM_signs, hasM_later, hasM_behind, hasM_below, hasM_under, hasM_begins, hasM_starts, hasM_before, nin_nil, nin_cons, Nat.reduceBNe, iK_eq, ik0_eq, keyD_keys, eGet2_eq, ge0_eq, ge1_s, ge2_eq, ge3_eq, eLenM_eq, lm0_eq, lm1_eq, new0_1, parC_t, par2_go, sPar_eq, par0_eq, iLT_eq, lt1_eq, lt2_l, lt2_t, fld_k, isC_sw, hasW_rows, hasW_of, hasW_leads, hasW_then, hasW_back, hasW_power, hasW_seen, hasW_within, hasW_fixed, hasW_parted, inD_tD, listD_tD, valD_tD, iEn_eq, en1_eq, en2_eq, dropD_tDT, set_k0T, set_k1T, *])
def tupD (h r : Wd) : D := .tup [.str h, .str r]
theorem ix_t0 (h r : Wd) : ixD (tupD h r) (.int 0) = some (.str h) := ixT0 _ _
theorem ix_t1 (h r : Wd) : ixD (tupD h r) (.int 1) = some (.str r) := ixT1 _ _ _
theorem plain_run (h r : Wd) (h0 : 0 < r.length) (hr : r.length ≤ 5000) (hh : h.length ≤ 100000) : fnF [.sh, .sh] 2 F__law_plain [.str h, .str r] = some (.ok false (tupD (can h r).1 (can h r).2) [.non, .non]) := by
  apply W.eq
  rw [fnF_eq _ _ _ _ rfl]
  show W (fn1 [.sh, .sh] (F__law_plain [sv (.str h), sv (.str r), none, none])) _
  unfold F__law_plain
  have h1 := lenD_s r (by omega)
  have n1 : -1000000000 ≤ (1 : Int) ∧ (1 : Int) < 1000000000 ∧ -1000000000 ≤ (r.length : Int) + 1 ∧ (r.length : Int) + 1 < 1000000000 := by omega
  have n2 := fun e => ir2d_eq 1 ((r.length : Int) + 1) e n1
  walk_at "eh"
  have e1 : rng 1 ((r.length : Int) + 1 - 1).toNat = (List.range' 1 r.length).map fun (i : Nat) => D.int (i : Int) := by
    rw [show ((r.length : Int) + 1 - 1).toNat = r.length by omega]
    exact rng_map 1 r.length
  rw [e1]
  rw [lcL_filter (fun (i : Nat) => D.int (i : Int)) (fun k => decide (rep r k)) (fun (i : Nat) => D.int (i : Int)) rfl (List.range' 1 r.length) [] (by simp; omega) fun k hk => ⟨[sv (.str h), sv (.str r), none, sv (.int (k : Int))], by walk_at "ev", ?_, fun _ => by walk_at "ev", by walk_at "ev"⟩]
  · obtain ⟨k, hk⟩ := exists_min r h0
    have hm : Min r k := hk
    have hf : ∃ l, (List.range' 1 r.length).filter (fun k => decide (rep r k)) = k :: l := by
      have hm2 : k ∈ (List.range' 1 r.length).filter (fun k => decide (rep r k)) := by
        rw [List.mem_filter, List.mem_range'_1]
        exact ⟨⟨hm.1, by have := hm.2.1; omega⟩, decide_eq_true hm.2.2.1⟩
      cases hq : (List.range' 1 r.length).filter (fun k => decide (rep r k)) with
      | nil =>
        rw [hq] at hm2
        simp at hm2
      | cons j l =>
        have hj : j ∈ (List.range' 1 r.length).filter (fun k => decide (rep r k)) := by rw [hq]; simp
        rw [List.mem_filter, List.mem_range'_1] at hj
        have hjr := of_decide_eq_true hj.2
        have pw : ((List.range' 1 r.length).filter (fun k => decide (rep r k))).Pairwise (· < ·) := (List.pairwise_lt_range' (s := 1) (n := r.length)).filter _
        rw [hq] at pw hm2
        have : j ≤ k := by
          rcases List.mem_cons.mp hm2 with z | z
          · omega
          · have := (List.pairwise_cons.mp pw).1 k z
            omega
        have : ¬ j < k := fun z => hm.2.2.2 j (by omega) z hjr
        exact ⟨l, by rw [show j = k by omega]⟩
    obtain ⟨l, hf⟩ := hf
    have sl : slS (.str r) none (some (k : Int)) = some (.str (short r)) := by rw [slS_eq _ _ _ (by omega), cut_to, short_eq hm]
    rw [hf, List.nil_append, List.map_cons]
    clear n1 n2 e1 hf
    walk_at "eh"
    have hs0 : 0 < (short r).length := by rw [short_eq hm, List.length_take]; have := hk.1; have := hk.2.1; omega
    have hs1 : (short r).length ≤ 5000 := by rw [short_eq hm, List.length_take]; omega
    refine W.fnK (W.whK (fun n e => ∃ a b : Wd, ∃ x2 x3, e = [sv (.str a), sv (.str b), x2, x3] ∧ n = a.length ∧ a.length ≤ 100000 ∧ 0 < b.length ∧ b.length ≤ 5000 ∧ roll a b = can h r) h.length (by unfold FU; omega) ⟨h, short r, _, _, rfl, rfl, hh, hs0, hs1, rfl⟩ ?_)
    rintro n e ⟨a, b, x2, x3, rfl, rfl, ha, hb0, hb1, hq⟩
    have fin : roll a b = (a, b) → W (seq1 (sRet (eDisp .tup (aCons (oE (eVar 0)) (aCons (oE (eVar 1)) aNil)))) (.nx [sv (.str a), sv (.str b), x2, x3])) fun a_1 => W (fn1 [.sh, .sh] (some a_1)) fun r_1 => r_1 = .ok false (tupD (can h r).1 (can h r).2) [.non, .non] := fun z => by
      rw [← hq, z]
      walk_at "ev"
      exact W.ret (W.ret rfl)
    by_cases c : a = []
    · subst c
      refine ⟨false, [sv (.str []), sv (.str b), x2, x3], by walk_at "ev", ?_⟩
      rw [if_neg (by decide)]
      exact fin (roll_nil b)
    · obtain ⟨u, x, rfl⟩ := snoc_of c
      obtain ⟨v, y, rfl⟩ := snoc_of (show b ≠ [] from fun z => by rw [z] at hb0; simp at hb0)
      have l1 := ixS_last u x (by simp at ha; omega)
      have l2 := ixS_last v y (by simp at hb1; omega)
      clear h1 sl
      by_cases q : x = y
      · subst q
        refine ⟨true, [sv (.str (u ++ [x])), sv (.str (v ++ [x])), x2, x3], by walk_at "eh", ?_⟩
        rw [if_pos rfl]
        have l3 := slS_eq (v ++ [x]) none (some (-1)) (by omega)
        have l4 := slS_eq (u ++ [x]) none (some (-1)) (by omega)
        rw [cut_up, List.dropLast_concat] at l3 l4
        have l5 := addD_s [x] v (by simp at hb1 ⊢; omega)
        clear fin c
        walk_at "eh"
        refine W.ret (Aft.nx ⟨u.length, by simp, u, [x] ++ v, x2, x3, rfl, rfl, by simp at ha; omega, by simp, by simp at hb1 ⊢; omega, ?_⟩)
        rw [← hq, roll_hit]
        rfl
      · have hx : ¬ [x] = [y] := fun z => q (by simpa using z)
        refine ⟨false, [sv (.str (u ++ [x])), sv (.str (v ++ [y])), x2, x3], by walk_at "eh", ?_⟩
        rw [if_neg (by decide)]
        exact fin (roll_no u _ x (by simpa using fun z => q z.symm))
  · rw [List.mem_range'_1] at hk
    have m2 := fdivD_i (r.length : Int) (k : Int) (by omega)
    have m3 : slS (.str r) none (some (k : Int)) = some (.str (r.take k)) := by rw [slS_eq _ _ _ (by omega), cut_to]
    have m4 := mulD_s (r.take k) (r.length / k) (by have := Nat.div_le_self r.length k; omega) (by
      rw [List.length_take, Nat.min_eq_left (by omega)]
      have := Nat.mul_div_le r.length k
      omega)
    rw [Int.natCast_ediv] at m4
    clear n1 n2 e1
    walk_at "eh"
    rfl
theorem lfirst_run (h r : Wd) (h0 : 0 < r.length) (hr : r.length ≤ 5000) (hh : h.length ≤ 100000) (n : Nat) (hn : n ≤ 100000) : fnF [.sh, .sh] 0 F__law_first [tupD h r, .int (n : Int)] = some (.ok false (.str (pre (sgn h r) n)) [.non, .non]) := by
  rw [fnF_eq _ _ _ _ rfl]
  show fn1 [.sh, .sh] (F__law_first [sv (tupD h r), sv (.int (n : Int))]) = _
  unfold F__law_first
  have t0 := ix_t0 h r
  have t1 := ix_t1 h r
  have a2 := lenD_s r (by omega)
  have a4 := fdivD_i (n : Int) (r.length : Int) (by omega)
  have dl := Nat.div_le_self n r.length
  have hd : r.length * (n / r.length) ≤ n := Nat.mul_div_le _ _
  have hm : n < r.length * (n / r.length) + r.length := by
    have := Nat.lt_mul_div_succ n h0
    rw [Nat.mul_add, Nat.mul_one] at this
    exact this
  have a5 := mulD_s r (n / r.length + 1) (by omega) (by rw [Nat.mul_add, Nat.mul_one]; omega)
  have e5 : ((n / r.length + 1 : Nat) : Int) = (n : Int) / (r.length : Int) + 1 := by
    rw [Int.natCast_add, Int.natCast_ediv]
    rfl
  rw [e5] at a5
  have a6 := addD_s h (List.replicate (n / r.length + 1) r).flatten (by rw [rep_len, Nat.add_mul, Nat.one_mul, Nat.mul_comm _ r.length]; omega)
  have a7 := slS_eq (h ++ (List.replicate (n / r.length + 1) r).flatten) none (some (n : Int)) (by rw [List.length_append, rep_len, Nat.add_mul, Nat.one_mul, Nat.mul_comm _ r.length]; omega)
  rw [cut_to, first_eq h r h0 _ n (by rw [Nat.add_mul, Nat.one_mul, Nat.mul_comm _ r.length]; omega)] at a7
  clear e5 dl hd hm hn hh hr
  walk_at "eh"
  rfl
end Lw
namespace Lw
open PySem PySem.Spec L2 Qd Qm
local macro_rules | `(tactic| walk_at "ev") => `(tactic| simp only [eVar_eq, eVar_k1, eK_eq, oS_eq, oS_k1, oE_eq, oE_k1, fetch_d, fetch_s, fetch_k1, eOp2_eq, op2k1_eq, op2k2_eq, op2k3_eq, op2k4_eq, pr_some, aNil_eq, aC2_eq, aCons_eq, aC1_eq, fetchs_nil, fts2_eq, fetchs_cons, fts1_eq, eA_eq, eA1_eq, eA2_eq, allD_nil, allD_cons, eDisp_eq, eD1_eq, eD2_0, eD2_1, eD2_2, eD2_3, eD2_4, eD2_5, eD2_6, pNo_eq, pAt_eq, pAt1_eq, eSl_eq, sl1_eq, sl2_eq, sl3_eq, sl4_eq, eAnd_eq, and1_eq, eOr_eq, or1_eq, eNot_eq, not1_eq, eIf_eq, if1_eq, eNeg_eq, neg1_eq, eM_eq, m0_eq, m1_str, m1_lst, m2_eq, m3_eq, m4_eq, mu4_eq, mu3_ow, mu3_pn, mu2_eq, mu1_eq, mu0_eq, eMut_eq, sSeq_eq, seq1_nx, seq1_bk, seq1_ct, seq1_rt, sNil_eq, sBk_eq, sCt_eq, sRetN_eq, sE_eq, se1_eq, sRet_eq, sRetF_eq, sret1_eq, sRetOw_eq, sRetOw1_eq, sIf_eq, sif1_eq, sg2_eq, sG_eq, sg1_eq, okSet_eq, okk_none, okk_sh, okk_ow, gN_eq, sOw_eq, ow1_eq, sFz_eq, fz1_ow, fz1_sh, fz1_pn, fz1_no, stl3_eq, stl2_ow, stl2_pn, stl1_eq, sSetL_eq, sFor_eq, sfor1_eq, sWhile_eq, iL_eq, il1_eq, il2_eq, bOf_d, bOf_s, iR1_eq, ir1_eq, fn1_rt, fn1_nx, eCall_eq, eCallF_eq, cv1_eq, cv2_1, cv2_2, cv2_3, cv3_eq, cvE_eq, cvF_eq, eCallB_eq, cb0_eq, cb1_1, cb1_2, cb1_3, cb2_bl, cb2_int, cb2_str, eCallP_eq, eCallPF_eq, cp0_eq, cp1_eq, cp2_eq, cp3_ow0, cp3_ow1, cp3_ow2, cp3_pn0, cp3_pn1, cp3_pn2, cp4_eq, eLc_eq, lc2_eq, eDc_eq, dc2_eq, bnd_some, mp_some, gt0, gtS, st0, stS, if_true, if_false, if_pos, Bool.true_eq_false, Bool.false_eq_true, stl0_eq2, stk_eq, ix0, ix1, ix2, ix3, ix4, ixT0, ixT1, ixT2, addD_i, subD_i, ltD_i, ltD_s, leD_i, gtD_i, gtD_s, geD_i, powD_18, lenD_l, lenD_t, lenD_d, eqD_s, neD_s, eqD_i, neD_i, decide_eq_true_eq, ↓reduceIte, decide_true, decide_false, not_true_eq_false, not_false_eq_true, Bool.not_true, Bool.not_false, List.length_map, List.length_cons, List.length_nil, Int.reduceLT, Int.reduceLE, Int.reduceNeg, and_self, and_true, true_and, mulD_r, mulD_l, modD_i, fdivD_i, Int.reduceAdd, Nat.reduceAdd, ixN50, ixN51, ixN52, ixN53, ixN54, slL_eq, slL_scr, listD_l, cut_up, cut_last, cut_all, slS_eq, inD_ls, inD_keys, wipe0, wipe1, rest0, rest1, gd_some, gd_none, decide_not, Bool.not_eq_true', decide_eq_false_iff_not, Classical.not_not, gPop_eq, allB_eq, List.nil_append, pk4_eq, pk3_ow, pk3_pn, pk2_eq, pk1_s, pk1_i, pk0_eq, ePopK_eq, sk3_eq, sk2_s, sk2_i, sk1_eq, sk0_eq, sSetK_eq, listD_keys, neD_nil, dropD_keys, eq_self, isi_non_bool, isi_non_int, isi_non_str, isi_non_tuple, isi_non_list, isi_bl_bool, isi_bl_int, isi_bl_str, isi_bl_tuple, isi_bl_list, isi_int_bool, isi_int_int, isi_int_str, isi_int_tuple, isi_int_list, isi_str_bool, isi_str_int, isi_str_str, isi_str_tuple, isi_str_list, isi_tup_bool, isi_tup_int, isi_tup_str, isi_tup_tuple, isi_tup_list, isi_lst_bool, isi_lst_int, isi_lst_str, isi_lst_tuple, isi_lst_list, isN_non, isN_bl, isN_int, isN_str, isN_tup, isN_lst, eqD_b, neD_b, startsD_eq, anyB_map, allB_map, sumD_map, maxD1_map, notInD_ls, notInD_keys, gsNil_eq, gsCons_eq, gsk_eq, gT2_eq, gT3_eq, iZ_eq, iz0_eq, iz1_eq, iz2_eq, sPin_eq, pin0_ow, pin0_sh, unpin_eq, unp_pn, pin1_nx, pin1_rt, cut_to, cut_from1, eFld_eq, fd0_eq, fd1_eq, sFd_eq, sfd0_eq, sfd1_ow, sfd1_pn, sfd2_eq, eMeth_eq, eMethF_eq, me0_eq, me1_eq, me2_eq, me3_0, me3_1, me3_2, me3_3, eMethP_eq, eMethPF_eq, mp0_ow, mp0_pn, mp1_eq, eNew_eq, nw0_eq, nw1_0, nw1_1, nw1_2, nw2_eq, exEq_eq, xq0_eq, xq1_eq, xq2_eq, xq3_eq, iso_eq, iso1_t, iS_eq, is1_eq, is0_eq, iR2_eq, ir2a_eq, ir2c_eq, maxD2_i, inD_sign, lc1_go, lcc_eq, dc1_go, dcc_eq, now_nil, now_cons, now1_sh, now1_none, bsV_nil, bsV_cons, Bool.and_true, Bool.true_and, fld_b, fld_r, set_b0, set_r0, set_b1, set_r1, isC_end, hasM_settle0, hasM_settle, hasM_head, hasM_ring, hasM_first, hasM_signs, hasM_later, hasM_behind, hasM_below, hasM_under, hasM_begins, hasM_starts, hasM_before, nin_nil, nin_cons, Nat.reduceBNe, iK_eq, ik0_eq, keyD_keys, eGet2_eq, ge0_eq, ge1_s, ge2_eq, ge3_eq, eLenM_eq, lm0_eq, lm1_eq, new0_1, parC_t, par2_go, sPar_eq, par0_eq, iLT_eq, lt1_eq, lt2_l, lt2_t, fld_k, isC_sw, hasW_rows, hasW_of, hasW_leads, hasW_then, hasW_back, hasW_power, hasW_seen, hasW_within, hasW_fixed, hasW_parted, inD_tD, listD_tD, valD_tD, iEn_eq, en1_eq, en2_eq, dropD_tDT, set_k0T, set_k1T])
local macro_rules | `(tactic| walk_at "eh") => `(tactic| simp only [eVar_eq, eVar_k1, eK_eq, oS_eq, oS_k1, oE_eq, oE_k1, fetch_d, fetch_s, fetch_k1, eOp2_eq, op2k1_eq, op2k2_eq, op2k3_eq, op2k4_eq, pr_some, aNil_eq, aC2_eq, aCons_eq, aC1_eq, fetchs_nil, fts2_eq, fetchs_cons, fts1_eq, eA_eq, eA1_eq, eA2_eq, allD_nil, allD_cons, eDisp_eq, eD1_eq, eD2_0, eD2_1, eD2_2, eD2_3, eD2_4, eD2_5, eD2_6, pNo_eq, pAt_eq, pAt1_eq, eSl_eq, sl1_eq, sl2_eq, sl3_eq, sl4_eq, eAnd_eq, and1_eq, eOr_eq, or1_eq, eNot_eq, not1_eq, eIf_eq, if1_eq, eNeg_eq, neg1_eq, eM_eq, m0_eq, m1_str, m1_lst, m2_eq, m3_eq, m4_eq, mu4_eq, mu3_ow, mu3_pn, mu2_eq, mu1_eq, mu0_eq, eMut_eq, sSeq_eq, seq1_nx, seq1_bk, seq1_ct, seq1_rt, sNil_eq, sBk_eq, sCt_eq, sRetN_eq, sE_eq, se1_eq, sRet_eq, sRetF_eq, sret1_eq, sRetOw_eq, sRetOw1_eq, sIf_eq, sif1_eq, sg2_eq, sG_eq, sg1_eq, okSet_eq, okk_none, okk_sh, okk_ow, gN_eq, sOw_eq, ow1_eq, sFz_eq, fz1_ow, fz1_sh, fz1_pn, fz1_no, stl3_eq, stl2_ow, stl2_pn, stl1_eq, sSetL_eq, sFor_eq, sfor1_eq, sWhile_eq, iL_eq, il1_eq, il2_eq, bOf_d, bOf_s, iR1_eq, ir1_eq, fn1_rt, fn1_nx, eCall_eq, eCallF_eq, cv1_eq, cv2_1, cv2_2, cv2_3, cv3_eq, cvE_eq, cvF_eq, eCallB_eq, cb0_eq, cb1_1, cb1_2, cb1_3, cb2_bl, cb2_int, cb2_str, eCallP_eq, eCallPF_eq, cp0_eq, cp1_eq, cp2_eq, cp3_ow0, cp3_ow1, cp3_ow2, cp3_pn0, cp3_pn1, cp3_pn2, cp4_eq, eLc_eq, lc2_eq, eDc_eq, dc2_eq, bnd_some, mp_some, gt0, gtS, st0, stS, if_true, if_false, if_pos, Bool.true_eq_false, Bool.false_eq_true, stl0_eq2, stk_eq, ix0, ix1, ix2, ix3, ix4, ixT0, ixT1, ixT2, addD_i, subD_i, ltD_i, ltD_s, leD_i, gtD_i, gtD_s, geD_i, powD_18, lenD_l, lenD_t, lenD_d, eqD_s, neD_s, eqD_i, neD_i, decide_eq_true_eq, ↓reduceIte, decide_true, decide_false, not_true_eq_false, not_false_eq_true, Bool.not_true, Bool.not_false, List.length_map, List.length_cons, List.length_nil, Int.reduceLT, Int.reduceLE, Int.reduceNeg, and_self, and_true, true_and, mulD_r, mulD_l, modD_i, fdivD_i, Int.reduceAdd, Nat.reduceAdd, ixN50, ixN51, ixN52, ixN53, ixN54, slL_eq, slL_scr, listD_l, cut_up, cut_last, cut_all, slS_eq, inD_ls, inD_keys, wipe0, wipe1, rest0, rest1, gd_some, gd_none, decide_not, Bool.not_eq_true', decide_eq_false_iff_not, Classical.not_not, gPop_eq, allB_eq, List.nil_append, pk4_eq, pk3_ow, pk3_pn, pk2_eq, pk1_s, pk1_i, pk0_eq, ePopK_eq, sk3_eq, sk2_s, sk2_i, sk1_eq, sk0_eq, sSetK_eq, listD_keys, neD_nil, dropD_keys, eq_self, isi_non_bool, isi_non_int, isi_non_str, isi_non_tuple, isi_non_list, isi_bl_bool, isi_bl_int, isi_bl_str, isi_bl_tuple, isi_bl_list, isi_int_bool, isi_int_int, isi_int_str, isi_int_tuple, isi_int_list, isi_str_bool, isi_str_int, isi_str_str, isi_str_tuple, isi_str_list, isi_tup_bool, isi_tup_int, isi_tup_str, isi_tup_tuple, isi_tup_list, isi_lst_bool, isi_lst_int, isi_lst_str, isi_lst_tuple, isi_lst_list, isN_non, isN_bl, isN_int, isN_str, isN_tup, isN_lst, eqD_b, neD_b, startsD_eq, anyB_map, allB_map, sumD_map, maxD1_map, notInD_ls, notInD_keys, gsNil_eq, gsCons_eq, gsk_eq, gT2_eq, gT3_eq, iZ_eq, iz0_eq, iz1_eq, iz2_eq, sPin_eq, pin0_ow, pin0_sh, unpin_eq, unp_pn, pin1_nx, pin1_rt, cut_to, cut_from1, eFld_eq, fd0_eq, fd1_eq, sFd_eq, sfd0_eq, sfd1_ow, sfd1_pn, sfd2_eq, eMeth_eq, eMethF_eq, me0_eq, me1_eq, me2_eq, me3_0, me3_1, me3_2, me3_3, eMethP_eq, eMethPF_eq, mp0_ow, mp0_pn, mp1_eq, eNew_eq, nw0_eq, nw1_0, nw1_1, nw1_2, nw2_eq, exEq_eq, xq0_eq, xq1_eq, xq2_eq, xq3_eq, iso_eq, iso1_t, iS_eq, is1_eq, is0_eq, iR2_eq, ir2a_eq, ir2c_eq, maxD2_i, inD_sign, lc1_go, lcc_eq, dc1_go, dcc_eq, now_nil, now_cons, now1_sh, now1_none, bsV_nil, bsV_cons, Bool.and_true, Bool.true_and, fld_b, fld_r, set_b0, set_r0, set_b1, set_r1, isC_end, hasM_settle0, hasM_settle, hasM_head, hasM_ring, hasM_first, hasM_signs, hasM_later, hasM_behind, hasM_below, hasM_under, hasM_begins, hasM_starts, hasM_before, nin_nil, nin_cons, Nat.reduceBNe, iK_eq, ik0_eq, keyD_keys, eGet2_eq, ge0_eq, ge1_s, ge2_eq, ge3_eq, eLenM_eq, lm0_eq, lm1_eq, new0_1, parC_t, par2_go, sPar_eq, par0_eq, iLT_eq, lt1_eq, lt2_l, lt2_t, fld_k, isC_sw, hasW_rows, hasW_of, hasW_leads, hasW_then, hasW_back, hasW_power, hasW_seen, hasW_within, hasW_fixed, hasW_parted, inD_tD, listD_tD, valD_tD, iEn_eq, en1_eq, en2_eq, dropD_tDT, set_k0T, set_k1T, *])
/-- a row drawn: its plain form -/
def Row (n : Nat) (p : Wd × Wd) : Prop := Can p.1 p.2 ∧ Bin p.1 ∧ Bin p.2 ∧ p.1.length ≤ n ∧ p.2.length ≤ n
theorem row_can {h r : Wd} {n : Nat} (bh : Bin h) (br : Bin r) (h0 : 0 < r.length) (lh : h.length ≤ n) (lr : r.length ≤ n) : Row n (can h r) := by
  obtain ⟨a, b, c, d⟩ := can_can h r h0
  obtain ⟨e, f⟩ := bin_can bh br h0
  exact ⟨a, e, f, by omega, by omega⟩
theorem pair_run {gd gs gp : FN} (hd : Drw gd) (hs : Sgn gs) (hp : ∀ (h r : Wd), 0 < r.length → r.length ≤ 5000 → h.length ≤ 100000 → gp [.str h, .str r] = some (.ok false (tupD (can h r).1 (can h r).2) [.non, .non])) (b : Box) (m : Nat) (h0 : 0 < m) (h1 : m ≤ 1000) : ∃ (p : Wd × Wd) (b2 : Box), Row m p ∧ fnF [.pn, .sh] 0 (F__law_pair gd gs gp) [boxD b, .int (m : Int)] = some (.ok false (tupD p.1 p.2) [boxD b2, .non]) := by
  obtain ⟨n1, b1, l1, e1⟩ := hd b m h0 (by omega)
  obtain ⟨x, b2, bx, lx, e2⟩ := hs b1 n1 (by omega)
  obtain ⟨n2, b3, l2, e3⟩ := hd b2 m h0 (by omega)
  obtain ⟨y, b4, by_, ly, e4⟩ := hs b3 (1 + n2) (by omega)
  have e5 := hp x y (by omega) (by omega) (by omega)
  refine ⟨can x y, b4, row_can bx by_ (by omega) (by omega) (by omega), ?_⟩
  rw [show (((1 + n2 : Nat)) : Int) = 1 + (n2 : Int) by omega] at e4
  clear hd hs hp h0 h1 l1 l2 lx ly
  rw [fnF_eq _ _ _ _ rfl]
  show fn1 [.pn, .sh] (F__law_pair gd gs gp [pv (boxD b), sv (.int (m : Int))]) = _
  unfold F__law_pair
  walk_at "eh"
  rfl
end Lw
namespace Lw
open PySem PySem.Spec L2 Qd Qm
local macro_rules | `(tactic| walk_at "ev") => `(tactic| simp only [eVar_eq, eVar_k1, eK_eq, oS_eq, oS_k1, oE_eq, oE_k1, fetch_d, fetch_s, fetch_k1, eOp2_eq, op2k1_eq, op2k2_eq, op2k3_eq, op2k4_eq, pr_some, aNil_eq, aC2_eq, aCons_eq, aC1_eq, fetchs_nil, fts2_eq, fetchs_cons, fts1_eq, eA_eq, eA1_eq, eA2_eq, allD_nil, allD_cons, eDisp_eq, eD1_eq, eD2_0, eD2_1, eD2_2, eD2_3, eD2_4, eD2_5, eD2_6, pNo_eq, pAt_eq, pAt1_eq, eSl_eq, sl1_eq, sl2_eq, sl3_eq, sl4_eq, eAnd_eq, and1_eq, eOr_eq, or1_eq, eNot_eq, not1_eq, eIf_eq, if1_eq, eNeg_eq, neg1_eq, eM_eq, m0_eq, m1_str, m1_lst, m2_eq, m3_eq, m4_eq, mu4_eq, mu3_ow, mu3_pn, mu2_eq, mu1_eq, mu0_eq, eMut_eq, sSeq_eq, seq1_nx, seq1_bk, seq1_ct, seq1_rt, sNil_eq, sBk_eq, sCt_eq, sRetN_eq, sE_eq, se1_eq, sRet_eq, sRetF_eq, sret1_eq, sRetOw_eq, sRetOw1_eq, sIf_eq, sif1_eq, sg2_eq, sG_eq, sg1_eq, okSet_eq, okk_none, okk_sh, okk_ow, gN_eq, sOw_eq, ow1_eq, sFz_eq, fz1_ow, fz1_sh, fz1_pn, fz1_no, stl3_eq, stl2_ow, stl2_pn, stl1_eq, sSetL_eq, sFor_eq, sfor1_eq, sWhile_eq, iL_eq, il1_eq, il2_eq, bOf_d, bOf_s, iR1_eq, ir1_eq, fn1_rt, fn1_nx, eCall_eq, eCallF_eq, cv1_eq, cv2_1, cv2_2, cv2_3, cv3_eq, cvE_eq, cvF_eq, eCallB_eq, cb0_eq, cb1_1, cb1_2, cb1_3, cb2_bl, cb2_int, cb2_str, eCallP_eq, eCallPF_eq, cp0_eq, cp1_eq, cp2_eq, cp3_ow0, cp3_ow1, cp3_ow2, cp3_pn0, cp3_pn1, cp3_pn2, cp4_eq, eLc_eq, lc2_eq, eDc_eq, dc2_eq, bnd_some, mp_some, gt0, gtS, st0, stS, if_true, if_false, if_pos, Bool.true_eq_false, Bool.false_eq_true, stl0_eq2, stk_eq, ix0, ix1, ix2, ix3, ix4, ixT0, ixT1, ixT2, addD_i, subD_i, ltD_i, ltD_s, leD_i, gtD_i, gtD_s, geD_i, powD_18, lenD_l, lenD_t, lenD_d, eqD_s, neD_s, eqD_i, neD_i, decide_eq_true_eq, ↓reduceIte, decide_true, decide_false, not_true_eq_false, not_false_eq_true, Bool.not_true, Bool.not_false, List.length_map, List.length_cons, List.length_nil, Int.reduceLT, Int.reduceLE, Int.reduceNeg, and_self, and_true, true_and, mulD_r, mulD_l, modD_i, fdivD_i, Int.reduceAdd, Nat.reduceAdd, ixN50, ixN51, ixN52, ixN53, ixN54, slL_eq, slL_scr, listD_l, cut_up, cut_last, cut_all, eqD_s, neD_s, slS_eq, inD_ls, inD_keys, wipe0, wipe1, rest0, rest1, gt0, gd_some, gd_none, decide_not, Bool.not_eq_true', decide_eq_false_iff_not, Classical.not_not, gPop_eq, allB_eq, List.nil_append, ↓reduceIte, pk4_eq, pk3_ow, pk3_pn, pk2_eq, pk1_s, pk1_i, pk0_eq, ePopK_eq, sk3_eq, sk2_s, sk2_i, sk1_eq, sk0_eq, sSetK_eq, listD_keys, neD_nil, dropD_keys, eq_self, isi_non_bool, isi_non_int, isi_non_str, isi_non_tuple, isi_non_list, isi_bl_bool, isi_bl_int, isi_bl_str, isi_bl_tuple, isi_bl_list, isi_int_bool, isi_int_int, isi_int_str, isi_int_tuple, isi_int_list, isi_str_bool, isi_str_int, isi_str_str, isi_str_tuple, isi_str_list, isi_tup_bool, isi_tup_int, isi_tup_str, isi_tup_tuple, isi_tup_list, isi_lst_bool, isi_lst_int, isi_lst_str, isi_lst_tuple, isi_lst_list, isN_non, isN_bl, isN_int, isN_str, isN_tup, isN_lst, eqD_b, neD_b, startsD_eq, anyB_map, allB_map, sumD_map, maxD1_map, notInD_ls, notInD_keys, gsNil_eq, gsCons_eq, gsk_eq, gT2_eq, gT3_eq, iZ_eq, iz0_eq, iz1_eq, iz2_eq, sPin_eq, pin0_ow, pin0_sh, unpin_eq, unp_pn, pin1_nx, pin1_rt, cut_to, cut_from1])
local macro_rules | `(tactic| walk_at "eh") => `(tactic| simp only [eVar_eq, eVar_k1, eK_eq, oS_eq, oS_k1, oE_eq, oE_k1, fetch_d, fetch_s, fetch_k1, eOp2_eq, op2k1_eq, op2k2_eq, op2k3_eq, op2k4_eq, pr_some, aNil_eq, aC2_eq, aCons_eq, aC1_eq, fetchs_nil, fts2_eq, fetchs_cons, fts1_eq, eA_eq, eA1_eq, eA2_eq, allD_nil, allD_cons, eDisp_eq, eD1_eq, eD2_0, eD2_1, eD2_2, eD2_3, eD2_4, eD2_5, eD2_6, pNo_eq, pAt_eq, pAt1_eq, eSl_eq, sl1_eq, sl2_eq, sl3_eq, sl4_eq, eAnd_eq, and1_eq, eOr_eq, or1_eq, eNot_eq, not1_eq, eIf_eq, if1_eq, eNeg_eq, neg1_eq, eM_eq, m0_eq, m1_str, m1_lst, m2_eq, m3_eq, m4_eq, mu4_eq, mu3_ow, mu3_pn, mu2_eq, mu1_eq, mu0_eq, eMut_eq, sSeq_eq, seq1_nx, seq1_bk, seq1_ct, seq1_rt, sNil_eq, sBk_eq, sCt_eq, sRetN_eq, sE_eq, se1_eq, sRet_eq, sRetF_eq, sret1_eq, sRetOw_eq, sRetOw1_eq, sIf_eq, sif1_eq, sg2_eq, sG_eq, sg1_eq, okSet_eq, okk_none, okk_sh, okk_ow, gN_eq, sOw_eq, ow1_eq, sFz_eq, fz1_ow, fz1_sh, fz1_pn, fz1_no, stl3_eq, stl2_ow, stl2_pn, stl1_eq, sSetL_eq, sFor_eq, sfor1_eq, sWhile_eq, iL_eq, il1_eq, il2_eq, bOf_d, bOf_s, iR1_eq, ir1_eq, fn1_rt, fn1_nx, eCall_eq, eCallF_eq, cv1_eq, cv2_1, cv2_2, cv2_3, cv3_eq, cvE_eq, cvF_eq, eCallB_eq, cb0_eq, cb1_1, cb1_2, cb1_3, cb2_bl, cb2_int, cb2_str, eCallP_eq, eCallPF_eq, cp0_eq, cp1_eq, cp2_eq, cp3_ow0, cp3_ow1, cp3_ow2, cp3_pn0, cp3_pn1, cp3_pn2, cp4_eq, eLc_eq, lc2_eq, eDc_eq, dc2_eq, bnd_some, mp_some, gt0, gtS, st0, stS, if_true, if_false, if_pos, Bool.true_eq_false, Bool.false_eq_true, stl0_eq2, stk_eq, ix0, ix1, ix2, ix3, ix4, ixT0, ixT1, ixT2, addD_i, subD_i, ltD_i, ltD_s, leD_i, gtD_i, gtD_s, geD_i, powD_18, lenD_l, lenD_t, lenD_d, eqD_s, neD_s, eqD_i, neD_i, decide_eq_true_eq, ↓reduceIte, decide_true, decide_false, not_true_eq_false, not_false_eq_true, Bool.not_true, Bool.not_false, List.length_map, List.length_cons, List.length_nil, Int.reduceLT, Int.reduceLE, Int.reduceNeg, and_self, and_true, true_and, mulD_r, mulD_l, modD_i, fdivD_i, Int.reduceAdd, Nat.reduceAdd, ixN50, ixN51, ixN52, ixN53, ixN54, slL_eq, slL_scr, listD_l, cut_up, cut_last, cut_all, eqD_s, neD_s, slS_eq, inD_ls, inD_keys, wipe0, wipe1, rest0, rest1, gt0, gd_some, gd_none, decide_not, Bool.not_eq_true', decide_eq_false_iff_not, Classical.not_not, gPop_eq, allB_eq, List.nil_append, ↓reduceIte, pk4_eq, pk3_ow, pk3_pn, pk2_eq, pk1_s, pk1_i, pk0_eq, ePopK_eq, sk3_eq, sk2_s, sk2_i, sk1_eq, sk0_eq, sSetK_eq, listD_keys, neD_nil, dropD_keys, eq_self, isi_non_bool, isi_non_int, isi_non_str, isi_non_tuple, isi_non_list, isi_bl_bool, isi_bl_int, isi_bl_str, isi_bl_tuple, isi_bl_list, isi_int_bool, isi_int_int, isi_int_str, isi_int_tuple, isi_int_list, isi_str_bool, isi_str_int, isi_str_str, isi_str_tuple, isi_str_list, isi_tup_bool, isi_tup_int, isi_tup_str, isi_tup_tuple, isi_tup_list, isi_lst_bool, isi_lst_int, isi_lst_str, isi_lst_tuple, isi_lst_list, isN_non, isN_bl, isN_int, isN_str, isN_tup, isN_lst, eqD_b, neD_b, startsD_eq, anyB_map, allB_map, sumD_map, maxD1_map, notInD_ls, notInD_keys, gsNil_eq, gsCons_eq, gsk_eq, gT2_eq, gT3_eq, iZ_eq, iz0_eq, iz1_eq, iz2_eq, sPin_eq, pin0_ow, pin0_sh, unpin_eq, unp_pn, pin1_nx, pin1_rt, cut_to, cut_from1, *])
theorem int_int (i : Int) : fnF [.sh] 0 F__law_int [.int i] = some (.ok false (.bl true) [.non]) := by
  rw [fnF_eq _ _ _ _ rfl]
  show fn1 [.sh] (F__law_int [some (.sh, .int i)]) = _
  unfold F__law_int
  walk_at "ev"
  rfl
abbrev gInt : FN := fnF [.sh] 0 F__law_int
abbrev GLike (g : FN) : FN := fnF [.sh, .sh] 1 (F__law_like gInt g)
theorem like_flat {g : FN} {d : D} (h : flat d = true) : GLike g [d, d] = some (.ok false (.bl true) [.non, .non]) := by
  unfold GLike
  rw [fnF_eq _ _ _ _ rfl]
  show fn1 [.sh, .sh] (F__law_like gInt g [some (.sh, d), some (.sh, d), none]) = _
  unfold F__law_like gInt
  cases d <;> first | (cases h; done) | skip
  · walk_at "ev"
    rfl
  · walk_at "ev"
    rfl
  · rename_i i
    have e := int_int i
    walk_at "eh"
    rfl
  · walk_at "ev"
    rfl
theorem like_refl : ∀ (k : Nat) (d : D), Pl k d → ∀ m, k < m → recN GLike m [d, d] = some (.ok false (.bl true) [.non, .non])
  | _, _, _, 0, hm => absurd hm (by omega)
  | 0, d, h, m + 1, _ => like_flat h
  | k + 1, d, h, m + 1, hm => by
    rcases h with h | ⟨ds, h, hl, ha⟩
    · exact like_flat h
    · have ih : ∀ (i : Nat) (hi : i < ds.length), recN GLike m [ds[i], ds[i]] = some (.ok false (.bl true) [.non, .non]) := fun i hi => like_refl k _ (ha _ (List.getElem_mem hi)) m (by omega)
      have hr : (((List.range ds.length).filter fun _ => true).map fun _ => D.bl true) = (List.replicate ds.length true).map D.bl := by
        rw [filter_true]
        apply List.ext_getElem
        · simp
        · intro i h1 h2
          simp
      have hal : (List.replicate ds.length true).all id = true := by simp
      have hll : -1000000000 ≤ (ds.length : Int) ∧ (ds.length : Int) < 1000000000 := by omega
      show GLike (recN GLike m) [d, d] = _
      generalize recN GLike m = g at *
      unfold GLike
      rw [fnF_eq _ _ _ _ rfl]
      show fn1 [.sh, .sh] (F__law_like gInt g [some (.sh, d), some (.sh, d), none]) = _
      unfold F__law_like
      have l1 := fun pt c f items => lc1_eq [2] pt c f items [] [some (.sh, d), some (.sh, d), none] rfl rfl
      rcases h with rfl | rfl
      · walk_at "eh"
        rw [Int.toNat_natCast, rng0_map, lcL_filter (fun (i : Nat) => D.int (i : Int)) (fun _ => true) (fun _ => D.bl true) rfl (List.range ds.length) [] (by simp; omega) fun i hi => ⟨[some (.sh, .lst ds), some (.sh, .lst ds), some (.sh, .int (i : Int))], by walk_at "ev", by walk_at "ev", fun _ => ?_, by walk_at "ev"⟩]
        · walk_at "eh"
          rfl
        · have hi := List.mem_range.mp hi
          have e1 := ixD_l (List.getElem?_eq_getElem hi)
          have e2 := ih i hi
          walk_at "eh"
      · walk_at "eh"
        rw [Int.toNat_natCast, rng0_map, lcL_filter (fun (i : Nat) => D.int (i : Int)) (fun _ => true) (fun _ => D.bl true) rfl (List.range ds.length) [] (by simp; omega) fun i hi => ⟨[some (.sh, .tup ds), some (.sh, .tup ds), some (.sh, .int (i : Int))], by walk_at "ev", by walk_at "ev", fun _ => ?_, by walk_at "ev"⟩]
        · walk_at "eh"
          rfl
        · have hi := List.mem_range.mp hi
          have e1 := ixD_t (List.getElem?_eq_getElem hi)
          have e2 := ih i hi
          walk_at "eh"
end Lw
namespace Lw
open PySem PySem.Spec L2 Qd Qm
local macro_rules | `(tactic| walk_at "ev") => `(tactic| simp only [eVar_eq, eVar_k1, eK_eq, oS_eq, oS_k1, oE_eq, oE_k1, fetch_d, fetch_s, fetch_k1, eOp2_eq, op2k1_eq, op2k2_eq, op2k3_eq, op2k4_eq, pr_some, aNil_eq, aC2_eq, aCons_eq, aC1_eq, fetchs_nil, fts2_eq, fetchs_cons, fts1_eq, eA_eq, eA1_eq, eA2_eq, allD_nil, allD_cons, eDisp_eq, eD1_eq, eD2_0, eD2_1, eD2_2, eD2_3, eD2_4, eD2_5, eD2_6, pNo_eq, pAt_eq, pAt1_eq, eSl_eq, sl1_eq, sl2_eq, sl3_eq, sl4_eq, eAnd_eq, and1_eq, eOr_eq, or1_eq, eNot_eq, not1_eq, eIf_eq, if1_eq, eNeg_eq, neg1_eq, eM_eq, m0_eq, m1_str, m1_lst, m2_eq, m3_eq, m4_eq, mu4_eq, mu3_ow, mu3_pn, mu2_eq, mu1_eq, mu0_eq, eMut_eq, sSeq_eq, seq1_nx, seq1_bk, seq1_ct, seq1_rt, sNil_eq, sBk_eq, sCt_eq, sRetN_eq, sE_eq, se1_eq, sRet_eq, sRetF_eq, sret1_eq, sRetOw_eq, sRetOw1_eq, sIf_eq, sif1_eq, sg2_eq, sG_eq, sg1_eq, okSet_eq, okk_none, okk_sh, okk_ow, gN_eq, sOw_eq, ow1_eq, sFz_eq, fz1_ow, fz1_sh, fz1_pn, fz1_no, stl3_eq, stl2_ow, stl2_pn, stl1_eq, sSetL_eq, sFor_eq, sfor1_eq, sWhile_eq, iL_eq, il1_eq, il2_eq, bOf_d, bOf_s, iR1_eq, ir1_eq, fn1_rt, fn1_nx, eCall_eq, eCallF_eq, cv1_eq, cv2_1, cv2_2, cv2_3, cv3_eq, cvE_eq, cvF_eq, eCallB_eq, cb0_eq, cb1_1, cb1_2, cb1_3, cb2_bl, cb2_int, cb2_str, eCallP_eq, eCallPF_eq, cp0_eq, cp1_eq, cp2_eq, cp3_ow0, cp3_ow1, cp3_ow2, cp3_pn0, cp3_pn1, cp3_pn2, cp4_eq, eLc_eq, lc2_eq, eDc_eq, dc2_eq, bnd_some, mp_some, gt0, gtS, st0, stS, if_true, if_false, if_pos, Bool.true_eq_false, Bool.false_eq_true, stl0_eq2, stk_eq, ix0, ix1, ix2, ix3, ix4, ixT0, ixT1, ixT2, addD_i, subD_i, ltD_i, ltD_s, leD_i, gtD_i, gtD_s, geD_i, powD_18, lenD_l, lenD_t, lenD_d, eqD_s, neD_s, eqD_i, neD_i, decide_eq_true_eq, ↓reduceIte, decide_true, decide_false, not_true_eq_false, not_false_eq_true, Bool.not_true, Bool.not_false, List.length_map, List.length_cons, List.length_nil, Int.reduceLT, Int.reduceLE, Int.reduceNeg, and_self, and_true, true_and, mulD_r, mulD_l, modD_i, fdivD_i, Int.reduceAdd, Nat.reduceAdd, ixN50, ixN51, ixN52, ixN53, ixN54, slL_eq, slL_scr, listD_l, cut_up, cut_last, cut_all, slS_eq, inD_ls, inD_keys, wipe0, wipe1, rest0, rest1, gd_some, gd_none, decide_not, Bool.not_eq_true', decide_eq_false_iff_not, Classical.not_not, gPop_eq, allB_eq, List.nil_append, pk4_eq, pk3_ow, pk3_pn, pk2_eq, pk1_s, pk1_i, pk0_eq, ePopK_eq, sk3_eq, sk2_s, sk2_i, sk1_eq, sk0_eq, sSetK_eq, listD_keys, neD_nil, dropD_keys, eq_self, isi_non_bool, isi_non_int, isi_non_str, isi_non_tuple, isi_non_list, isi_bl_bool, isi_bl_int, isi_bl_str, isi_bl_tuple, isi_bl_list, isi_int_bool, isi_int_int, isi_int_str, isi_int_tuple, isi_int_list, isi_str_bool, isi_str_int, isi_str_str, isi_str_tuple, isi_str_list, isi_tup_bool, isi_tup_int, isi_tup_str, isi_tup_tuple, isi_tup_list, isi_lst_bool, isi_lst_int, isi_lst_str, isi_lst_tuple, isi_lst_list, isN_non, isN_bl, isN_int, isN_str, isN_tup, isN_lst, eqD_b, neD_b, startsD_eq, anyB_map, allB_map, sumD_map, maxD1_map, notInD_ls, notInD_keys, gsNil_eq, gsCons_eq, gsk_eq, gT2_eq, gT3_eq, iZ_eq, iz0_eq, iz1_eq, iz2_eq, sPin_eq, pin0_ow, pin0_sh, unpin_eq, unp_pn, pin1_nx, pin1_rt, cut_to, cut_from1, eFld_eq, fd0_eq, fd1_eq, sFd_eq, sfd0_eq, sfd1_ow, sfd1_pn, sfd2_eq, eMeth_eq, eMethF_eq, me0_eq, me1_eq, me2_eq, me3_0, me3_1, me3_2, me3_3, eMethP_eq, eMethPF_eq, mp0_ow, mp0_pn, mp1_eq, eNew_eq, nw0_eq, nw1_0, nw1_1, nw1_2, nw2_eq, exEq_eq, xq0_eq, xq1_eq, xq2_eq, xq3_eq, iso_eq, iso1_t, iS_eq, is1_eq, is0_eq, iR2_eq, ir2a_eq, ir2c_eq, maxD2_i, inD_sign, lc1_go, lcc_eq, dc1_go, dcc_eq, now_nil, now_cons, now1_sh, now1_none, bsV_nil, bsV_cons, Bool.and_true, Bool.true_and, fld_b, fld_r, set_b0, set_r0, set_b1, set_r1, isC_end, hasM_settle0, hasM_settle, hasM_head, hasM_ring, hasM_first, hasM_signs, hasM_later, hasM_behind, hasM_below, hasM_under, hasM_begins, hasM_starts, hasM_before, nin_nil, nin_cons, Nat.reduceBNe, iK_eq, ik0_eq, keyD_keys, eGet2_eq, ge0_eq, ge1_s, ge2_eq, ge3_eq, eLenM_eq, lm0_eq, lm1_eq, new0_1, parC_t, par2_go, sPar_eq, par0_eq, iLT_eq, lt1_eq, lt2_l, lt2_t, fld_k, isC_sw, hasW_rows, hasW_of, hasW_leads, hasW_then, hasW_back, hasW_power, hasW_seen, hasW_within, hasW_fixed, hasW_parted, inD_tD, listD_tD, valD_tD, iEn_eq, en1_eq, en2_eq, dropD_tDT, set_k0T, set_k1T])
local macro_rules | `(tactic| walk_at "eh") => `(tactic| simp only [eVar_eq, eVar_k1, eK_eq, oS_eq, oS_k1, oE_eq, oE_k1, fetch_d, fetch_s, fetch_k1, eOp2_eq, op2k1_eq, op2k2_eq, op2k3_eq, op2k4_eq, pr_some, aNil_eq, aC2_eq, aCons_eq, aC1_eq, fetchs_nil, fts2_eq, fetchs_cons, fts1_eq, eA_eq, eA1_eq, eA2_eq, allD_nil, allD_cons, eDisp_eq, eD1_eq, eD2_0, eD2_1, eD2_2, eD2_3, eD2_4, eD2_5, eD2_6, pNo_eq, pAt_eq, pAt1_eq, eSl_eq, sl1_eq, sl2_eq, sl3_eq, sl4_eq, eAnd_eq, and1_eq, eOr_eq, or1_eq, eNot_eq, not1_eq, eIf_eq, if1_eq, eNeg_eq, neg1_eq, eM_eq, m0_eq, m1_str, m1_lst, m2_eq, m3_eq, m4_eq, mu4_eq, mu3_ow, mu3_pn, mu2_eq, mu1_eq, mu0_eq, eMut_eq, sSeq_eq, seq1_nx, seq1_bk, seq1_ct, seq1_rt, sNil_eq, sBk_eq, sCt_eq, sRetN_eq, sE_eq, se1_eq, sRet_eq, sRetF_eq, sret1_eq, sRetOw_eq, sRetOw1_eq, sIf_eq, sif1_eq, sg2_eq, sG_eq, sg1_eq, okSet_eq, okk_none, okk_sh, okk_ow, gN_eq, sOw_eq, ow1_eq, sFz_eq, fz1_ow, fz1_sh, fz1_pn, fz1_no, stl3_eq, stl2_ow, stl2_pn, stl1_eq, sSetL_eq, sFor_eq, sfor1_eq, sWhile_eq, iL_eq, il1_eq, il2_eq, bOf_d, bOf_s, iR1_eq, ir1_eq, fn1_rt, fn1_nx, eCall_eq, eCallF_eq, cv1_eq, cv2_1, cv2_2, cv2_3, cv3_eq, cvE_eq, cvF_eq, eCallB_eq, cb0_eq, cb1_1, cb1_2, cb1_3, cb2_bl, cb2_int, cb2_str, eCallP_eq, eCallPF_eq, cp0_eq, cp1_eq, cp2_eq, cp3_ow0, cp3_ow1, cp3_ow2, cp3_pn0, cp3_pn1, cp3_pn2, cp4_eq, eLc_eq, lc2_eq, eDc_eq, dc2_eq, bnd_some, mp_some, gt0, gtS, st0, stS, if_true, if_false, if_pos, Bool.true_eq_false, Bool.false_eq_true, stl0_eq2, stk_eq, ix0, ix1, ix2, ix3, ix4, ixT0, ixT1, ixT2, addD_i, subD_i, ltD_i, ltD_s, leD_i, gtD_i, gtD_s, geD_i, powD_18, lenD_l, lenD_t, lenD_d, eqD_s, neD_s, eqD_i, neD_i, decide_eq_true_eq, ↓reduceIte, decide_true, decide_false, not_true_eq_false, not_false_eq_true, Bool.not_true, Bool.not_false, List.length_map, List.length_cons, List.length_nil, Int.reduceLT, Int.reduceLE, Int.reduceNeg, and_self, and_true, true_and, mulD_r, mulD_l, modD_i, fdivD_i, Int.reduceAdd, Nat.reduceAdd, ixN50, ixN51, ixN52, ixN53, ixN54, slL_eq, slL_scr, listD_l, cut_up, cut_last, cut_all, slS_eq, inD_ls, inD_keys, wipe0, wipe1, rest0, rest1, gd_some, gd_none, decide_not, Bool.not_eq_true', decide_eq_false_iff_not, Classical.not_not, gPop_eq, allB_eq, List.nil_append, pk4_eq, pk3_ow, pk3_pn, pk2_eq, pk1_s, pk1_i, pk0_eq, ePopK_eq, sk3_eq, sk2_s, sk2_i, sk1_eq, sk0_eq, sSetK_eq, listD_keys, neD_nil, dropD_keys, eq_self, isi_non_bool, isi_non_int, isi_non_str, isi_non_tuple, isi_non_list, isi_bl_bool, isi_bl_int, isi_bl_str, isi_bl_tuple, isi_bl_list, isi_int_bool, isi_int_int, isi_int_str, isi_int_tuple, isi_int_list, isi_str_bool, isi_str_int, isi_str_str, isi_str_tuple, isi_str_list, isi_tup_bool, isi_tup_int, isi_tup_str, isi_tup_tuple, isi_tup_list, isi_lst_bool, isi_lst_int, isi_lst_str, isi_lst_tuple, isi_lst_list, isN_non, isN_bl, isN_int, isN_str, isN_tup, isN_lst, eqD_b, neD_b, startsD_eq, anyB_map, allB_map, sumD_map, maxD1_map, notInD_ls, notInD_keys, gsNil_eq, gsCons_eq, gsk_eq, gT2_eq, gT3_eq, iZ_eq, iz0_eq, iz1_eq, iz2_eq, sPin_eq, pin0_ow, pin0_sh, unpin_eq, unp_pn, pin1_nx, pin1_rt, cut_to, cut_from1, eFld_eq, fd0_eq, fd1_eq, sFd_eq, sfd0_eq, sfd1_ow, sfd1_pn, sfd2_eq, eMeth_eq, eMethF_eq, me0_eq, me1_eq, me2_eq, me3_0, me3_1, me3_2, me3_3, eMethP_eq, eMethPF_eq, mp0_ow, mp0_pn, mp1_eq, eNew_eq, nw0_eq, nw1_0, nw1_1, nw1_2, nw2_eq, exEq_eq, xq0_eq, xq1_eq, xq2_eq, xq3_eq, iso_eq, iso1_t, iS_eq, is1_eq, is0_eq, iR2_eq, ir2a_eq, ir2c_eq, maxD2_i, inD_sign, lc1_go, lcc_eq, dc1_go, dcc_eq, now_nil, now_cons, now1_sh, now1_none, bsV_nil, bsV_cons, Bool.and_true, Bool.true_and, fld_b, fld_r, set_b0, set_r0, set_b1, set_r1, isC_end, hasM_settle0, hasM_settle, hasM_head, hasM_ring, hasM_first, hasM_signs, hasM_later, hasM_behind, hasM_below, hasM_under, hasM_begins, hasM_starts, hasM_before, nin_nil, nin_cons, Nat.reduceBNe, iK_eq, ik0_eq, keyD_keys, eGet2_eq, ge0_eq, ge1_s, ge2_eq, ge3_eq, eLenM_eq, lm0_eq, lm1_eq, new0_1, parC_t, par2_go, sPar_eq, par0_eq, iLT_eq, lt1_eq, lt2_l, lt2_t, fld_k, isC_sw, hasW_rows, hasW_of, hasW_leads, hasW_then, hasW_back, hasW_power, hasW_seen, hasW_within, hasW_fixed, hasW_parted, inD_tD, listD_tD, valD_tD, iEn_eq, en1_eq, en2_eq, dropD_tDT, set_k0T, set_k1T, *])
theorem sgn_rep (r : Wd) (h0 : 0 < r.length) (m i : Nat) : sgn (List.replicate m r).flatten r i = sgn [] r i := by
  by_cases c : i < m * r.length
  · rw [sgn_lt (by rw [rep_len]; exact c), sgn_nil, List.getD_eq_getElem?_getD, rep_get r h0 m i c]
    rfl
  · rw [sgn_ge (by rw [rep_len]; omega), sgn_nil, sgn_nil, rep_len]
    congr 1
    have : i = (i - m * r.length) + r.length * m := by rw [Nat.mul_comm r.length m]; omega
    conv => rhs; rw [this]
    rw [Nat.add_mul_mod_self_left]
theorem sgn_more (h r : Wd) (h0 : 0 < r.length) (m : Nat) : sgn (h ++ (List.replicate m r).flatten) r = sgn h r := by
  funext i
  rw [sgn_head, show sgn (List.replicate m r).flatten r = sgn [] r from funext fun j => sgn_rep r h0 m j, ← sgn_app]
theorem goes_run {gf gp : FN} (hf : ∀ (h r : Wd), 0 < r.length → r.length ≤ 5000 → h.length ≤ 100000 → ∀ n : Nat, n ≤ 100000 → gf [tupD h r, .int (n : Int)] = some (.ok false (.str (Qm.pre (sgn h r) n)) [.non, .non]))
    (hp : ∀ (h r : Wd), 0 < r.length → r.length ≤ 5000 → h.length ≤ 100000 → gp [.str h, .str r] = some (.ok false (tupD (can h r).1 (can h r).2) [.non, .non]))
    {m : Nat} {T : List Rw} (hT : Tw m T) (hm : m ≤ 2000) {n : Nat} {s : Nat → Nat} {h r : Wd} (hs : Rs n s h r) (hn : n ≤ 2000) : ∃ t a b, Mv T s t ∧ Rs (n + n + m) t a b ∧ fnF [.sh, .sh] 3 (F__law_goes gf gp) [rowsD T, tupD h r] = some (.ok false (tupD a b) [.non, .non]) := by
  suffices hh : W (fnF [.sh, .sh] 3 (F__law_goes gf gp) [rowsD T, tupD h r]) fun z => ∃ t a b, Mv T s t ∧ Rs (n + n + m) t a b ∧ z = .ok false (tupD a b) [.non, .non] by
    obtain ⟨z, e, t, a, b, h1, h2, rfl⟩ := hh
    exact ⟨t, a, b, h1, h2, e⟩
  have h0 := hs.can.prim.1
  have lh := hs.la
  have lr := hs.lb
  have es : sgn h r = s := funext hs.sg
  rw [fnF_eq _ _ _ _ rfl]
  show W (fn1 [.sh, .sh] (F__law_goes gf gp [sv (rowsD T), sv (tupD h r), none, none, none])) _
  unfold F__law_goes
  walk_at "ev"
  obtain ⟨w0, hw0, hp0⟩ := hT.h.cov s hs.bi
  obtain ⟨p0, hp1, e0⟩ := List.mem_map.mp hw0
  have hp0 : Pre p0.1 s := by
    have e0 : p0.1 = w0 := e0
    rw [e0]
    exact hp0
  refine W.fnK (W.forK (fun items e => ∃ (zs : List Rw) (x2 x3 : Option Sl), zs.map rowD = items ∧ e = [sv (rowsD T), sv (tupD h r), x2, x3, none] ∧ Sh x2 ∧ Sh x3 ∧ (∀ z ∈ zs, z ∈ T) ∧ ∃ z ∈ zs, Pre z.1 s) ⟨T, none, none, rfl, rfl, Sh.no, Sh.no, fun _ z => z, p0, hp1, hp0⟩ ?_ ?_)
  · rintro e ⟨zs, x2, x3, hz, rfl, s2, s3, hm2, z, hz2, _⟩
    have : zs = [] := by simpa using hz
    subst this
    cases hz2
  · rintro d' ds e ⟨zs, x2, x3, hz, rfl, s2, s3, hm2, p, hp2, hp3⟩
    cases zs with
    | nil => cases hz
    | cons z zs =>
      cases hz
      have o2 := s2.okk
      have o3 := s3.okk
      have mz := hm2 z (by simp)
      have l1 := hT.h.hd.wl z.1 (List.mem_map.mpr ⟨z, mz, rfl⟩)
      have l2 := hT.o.hd.wl z.2 (List.mem_map.mpr ⟨z, mz, rfl⟩)
      have k1 := hf h r h0 (by omega) (by omega) z.1.length (by omega)
      rw [es] at k1
      refine ⟨rfl, [sv (rowsD T), sv (tupD h r), sv (.str z.1), sv (.str z.2), none], by clear hm2; walk_at "eh", ?_⟩
      have ln := lenD_s z.1 (by omega)
      by_cases c : Pre z.1 s
      · have c' : Qm.pre s z.1.length = z.1 := c.symm
        rw [c'] at k1
        have t0 := ix_t0 h r
        have t1 := ix_t1 h r
        have lr2 := lenD_s r (by omega)
        have fd := fdivD_i (z.1.length : Int) (r.length : Int) (by omega)
        have dl := Nat.div_le_self z.1.length r.length
        have hd : r.length * (z.1.length / r.length) ≤ z.1.length := Nat.mul_div_le _ _
        have hmm : z.1.length < r.length * (z.1.length / r.length) + r.length := by
          have := Nat.lt_mul_div_succ z.1.length h0
          rw [Nat.mul_add, Nat.mul_one] at this
          exact this
        have a5 := mulD_s r (z.1.length / r.length + 1) (by omega) (by rw [Nat.mul_add, Nat.mul_one]; omega)
        have e5 : ((z.1.length / r.length + 1 : Nat) : Int) = (z.1.length : Int) / (r.length : Int) + 1 := by
          rw [Int.natCast_add, Int.natCast_ediv]
          rfl
        rw [e5] at a5
        have rl : (List.replicate (z.1.length / r.length + 1) r).flatten.length ≤ z.1.length + r.length := by rw [rep_len, Nat.add_mul, Nat.one_mul, Nat.mul_comm _ r.length]; omega
        have rg : z.1.length ≤ (List.replicate (z.1.length / r.length + 1) r).flatten.length := by rw [rep_len, Nat.add_mul, Nat.one_mul, Nat.mul_comm _ r.length]; omega
        have a6 := addD_s h (List.replicate (z.1.length / r.length + 1) r).flatten (by omega)
        have sm := sgn_more h r h0 (z.1.length / r.length + 1)
        generalize (List.replicate (z.1.length / r.length + 1) r).flatten = q at *
        have a7 := slS_eq (h ++ q) (some (z.1.length : Int)) none (by simp; omega)
        rw [cut_from] at a7
        have a8 := addD_s z.2 ((h ++ q).drop z.1.length) (by simp; omega)
        have a9 := hp (z.2 ++ (h ++ q).drop z.1.length) r h0 (by omega) (by simp; omega)
        have bq : Bin ((h ++ q).drop z.1.length) := fun y hy => by
          have sg := sgn_drop (h ++ q) r z.1.length
          obtain ⟨i, hi, rfl⟩ := List.getElem_of_mem hy
          have e := sg i (by simp; omega)
          rw [sgn_lt hi, sm, es] at e
          rw [List.getD_eq_getElem?_getD, List.getElem?_eq_getElem hi, Option.getD_some] at e
          rw [e]
          exact hs.bi _
        have rs := Rs.of_can (n := n + n + m) (h := z.2 ++ (h ++ q).drop z.1.length) (r := r) h0 (fun y hy => by
          rcases List.mem_append.mp hy with w | w
          · exact hT.o.hd.bin z.2 (List.mem_map.mpr ⟨z, mz, rfl⟩) y w
          · exact bq y w) hs.bb (by simp; omega) (by omega)
        have fin : Rs (n + n + m) (app z.2 (shf z.1.length s)) (can (z.2 ++ (h ++ q).drop z.1.length) r).1 (can (z.2 ++ (h ++ q).drop z.1.length) r).2 := ⟨rs.can, fun i => by
          rw [rs.sg, sgn_head, show sgn ((h ++ q).drop z.1.length) r = shf z.1.length s from funext fun j => by rw [sgn_drop _ _ _ _ (by simp; omega), sm, es]], rs.ba, rs.bb, rs.la, rs.lb⟩
        clear hf hp hm2 e5 rl rg bq rs sm hd hmm dl es c'
        walk_at "eh"
        refine W.ret (Aft.rt ?_)
        walk_at "ev"
        exact W.ret (W.ret ⟨_, _, _, ⟨z, mz, c, rfl⟩, fin, rfl⟩)
      · have c' : ¬ Qm.pre s z.1.length = z.1 := fun w => c w.symm
        have hm3 : ∀ y ∈ zs, y ∈ T := fun y hy => hm2 y (by simp [hy])
        have ex : ∃ y ∈ zs, Pre y.1 s := by
          rcases List.mem_cons.mp hp2 with e | e
          · rw [e] at hp3
            exact absurd hp3 c
          · exact ⟨p, e, hp3⟩
        clear hf hp hm2 es
        walk_at "eh"
        exact W.ret (Aft.nx ⟨zs, _, _, rfl, rfl, Sh.sh _, Sh.sh _, hm3, ex⟩)
theorem pl2 (a b : Wd) : Pl 1 (.lst [.str a, .str b]) := .inr ⟨_, .inl rfl, by simp, fun x hx => by
  simp only [List.mem_cons, List.not_mem_nil, or_false] at hx
  rcases hx with rfl | rfl <;> rfl⟩
theorem is_row_run {gp gr gh gl : FN} (hp : ∀ (h r : Wd), 0 < r.length → r.length ≤ 5000 → h.length ≤ 100000 → gp [.str h, .str r] = some (.ok false (tupD (can h r).1 (can h r).2) [.non, .non]))
    (hr : ∀ h r, gr [endD h r] = some (.ok false (.str r) [.non])) (hh : ∀ h r, gh [endD h r] = some (.ok false (.str h) [.non])) (hl : ∀ a b : Wd, gl [.lst [.str a, .str b], .lst [.str a, .str b]] = some (.ok false (.bl true) [.non, .non])) {n : Nat} {s : Nat → Nat} {a b c d : Wd} (h1 : Rs n s a b) (h2 : 0 < d.length) (h3 : ∀ i, sgn c d i = s i) (l1 : c.length ≤ 100000) (l2 : d.length ≤ 5000) : fnF [.sh, .sh] 0 (F__law_is_row gp gr gh gl) [endD a b, tupD c d] = some (.ok false (.bl true) [.non, .non]) := by
  have e1 := hp c d h2 l2 l1
  rw [can_eq h2 h1.can fun i => by rw [h1.sg, h3]] at e1
  have e2 := hr a b
  have e3 := hh a b
  have e4 := hl a b
  have t0 := ix_t0 c d
  have t1 := ix_t1 c d
  have e5 : listD [tupD a b] = some (.lst [.str a, .str b]) := rfl
  clear hp hr hh hl
  rw [fnF_eq _ _ _ _ rfl]
  show fn1 [.sh, .sh] (F__law_is_row gp gr gh gl [sv (endD a b), sv (tupD c d)]) = _
  unfold F__law_is_row
  walk_at "eh"
  rfl
theorem pl_rows (T : List Rw) (h : T.length < 1000) : Pl 2 (rowsD T) := .inr ⟨_, .inl rfl, by simpa using h, fun x hx => by
  obtain ⟨p, _, rfl⟩ := List.mem_map.mp hx
  refine .inr ⟨_, .inr rfl, by simp, fun y hy => ?_⟩
  simp only [List.mem_cons, List.not_mem_nil, or_false] at hy
  rcases hy with rfl | rfl <;> rfl⟩
theorem pl_stand (T : List Rw) (h : T.length < 1000) (k : Int) : Pl 3 (.lst [rowsD T, .int k]) := .inr ⟨_, .inl rfl, by simp, fun x hx => by
  simp only [List.mem_cons, List.not_mem_nil, or_false] at hx
  rcases hx with rfl | rfl
  · exact pl_rows T h
  · exact .inl rfl⟩
theorem stands_run {gf gn gr gl : FN} (hf : ∀ {n : Nat} {T : List Rw}, Tw n T → n ≤ 1000 → T.length < 64 → gf [rowsD T] = some (.ok true (rowsD (few T)) [.non])) (hn : ∀ T : List Rw, gn [swD T] = some (.ok false (.int (T.length : Int)) [.non])) (hr : ∀ T : List Rw, gr [swD T] = some (.ok true (rowsD T) [.non]))
    (hl : ∀ (T : List Rw) (k : Int), T.length < 1000 → gl [.lst [rowsD T, .int k], .lst [rowsD T, .int k]] = some (.ok false (.bl true) [.non, .non])) {n : Nat} {S T : List Rw} (hT : Tw n T) (h1 : n ≤ 1000) (h2 : T.length < 64) (e : S = few T) : fnF [.sh, .sh] 1 (F__law_stands gf gn gr gl) [swD S, rowsD T] = some (.ok false (.bl true) [.non, .non]) := by
  subst e
  have fl := (few_all hT).2.2.2
  have e1 := hf hT h1 h2
  have e2 := hn (few T)
  have e3 := hr (few T)
  have e4 := hl (few T) ((few T).length : Int) (by omega)
  have e5 := fun e o => lm2_eq e (few T).length o (by omega)
  clear hf hn hr hl
  rw [fnF_eq _ _ _ _ rfl]
  show fn1 [.sh, .sh] (F__law_stands gf gn gr gl [sv (swD (few T)), sv (rowsD T), none]) = _
  unfold F__law_stands
  walk_at "eh"
  rfl
end Lw
namespace Lw
open PySem PySem.Spec L2 Qd Qm
local macro_rules | `(tactic| walk_at "ev") => `(tactic| simp only [eVar_eq, eVar_k1, eK_eq, oS_eq, oS_k1, oE_eq, oE_k1, fetch_d, fetch_s, fetch_k1, eOp2_eq, op2k1_eq, op2k2_eq, op2k3_eq, op2k4_eq, pr_some, aNil_eq, aC2_eq, aCons_eq, aC1_eq, fetchs_nil, fts2_eq, fetchs_cons, fts1_eq, eA_eq, eA1_eq, eA2_eq, allD_nil, allD_cons, eDisp_eq, eD1_eq, eD2_0, eD2_1, eD2_2, eD2_3, eD2_4, eD2_5, eD2_6, pNo_eq, pAt_eq, pAt1_eq, eSl_eq, sl1_eq, sl2_eq, sl3_eq, sl4_eq, eAnd_eq, and1_eq, eOr_eq, or1_eq, eNot_eq, not1_eq, eIf_eq, if1_eq, eNeg_eq, neg1_eq, eM_eq, m0_eq, m1_str, m1_lst, m2_eq, m3_eq, m4_eq, mu4_eq, mu3_ow, mu3_pn, mu2_eq, mu1_eq, mu0_eq, eMut_eq, sSeq_eq, seq1_nx, seq1_bk, seq1_ct, seq1_rt, sNil_eq, sBk_eq, sCt_eq, sRetN_eq, sE_eq, se1_eq, sRet_eq, sRetF_eq, sret1_eq, sRetOw_eq, sRetOw1_eq, sIf_eq, sif1_eq, sg2_eq, sG_eq, sg1_eq, okSet_eq, okk_none, okk_sh, okk_ow, gN_eq, sOw_eq, ow1_eq, sFz_eq, fz1_ow, fz1_sh, fz1_pn, fz1_no, stl3_eq, stl2_ow, stl2_pn, stl1_eq, sSetL_eq, sFor_eq, sfor1_eq, sWhile_eq, iL_eq, il1_eq, il2_eq, bOf_d, bOf_s, iR1_eq, ir1_eq, fn1_rt, fn1_nx, eCall_eq, eCallF_eq, cv1_eq, cv2_1, cv2_2, cv2_3, cv3_eq, cvE_eq, cvF_eq, eCallB_eq, cb0_eq, cb1_1, cb1_2, cb1_3, cb2_bl, cb2_int, cb2_str, eCallP_eq, eCallPF_eq, cp0_eq, cp1_eq, cp2_eq, cp3_ow0, cp3_ow1, cp3_ow2, cp3_pn0, cp3_pn1, cp3_pn2, cp4_eq, eLc_eq, lc2_eq, eDc_eq, dc2_eq, bnd_some, mp_some, gt0, gtS, st0, stS, if_true, if_false, if_pos, Bool.true_eq_false, Bool.false_eq_true, stl0_eq2, stk_eq, ix0, ix1, ix2, ix3, ix4, ixT0, ixT1, ixT2, addD_i, subD_i, ltD_i, ltD_s, leD_i, gtD_i, gtD_s, geD_i, powD_18, lenD_l, lenD_t, lenD_d, eqD_s, neD_s, eqD_i, neD_i, decide_eq_true_eq, ↓reduceIte, decide_true, decide_false, not_true_eq_false, not_false_eq_true, Bool.not_true, Bool.not_false, List.length_map, List.length_cons, List.length_nil, Int.reduceLT, Int.reduceLE, Int.reduceNeg, and_self, and_true, true_and, mulD_r, mulD_l, modD_i, fdivD_i, Int.reduceAdd, Nat.reduceAdd, ixN50, ixN51, ixN52, ixN53, ixN54, slL_eq, slL_scr, listD_l, cut_up, cut_last, cut_all, eqD_s, neD_s, slS_eq, inD_ls, inD_keys, wipe0, wipe1, rest0, rest1, gt0, gd_some, gd_none, decide_not, Bool.not_eq_true', decide_eq_false_iff_not, Classical.not_not, gPop_eq, allB_eq, List.nil_append, ↓reduceIte, pk4_eq, pk3_ow, pk3_pn, pk2_eq, pk1_s, pk1_i, pk0_eq, ePopK_eq, sk3_eq, sk2_s, sk2_i, sk1_eq, sk0_eq, sSetK_eq, listD_keys, neD_nil, dropD_keys, eq_self, isi_non_bool, isi_non_int, isi_non_str, isi_non_tuple, isi_non_list, isi_bl_bool, isi_bl_int, isi_bl_str, isi_bl_tuple, isi_bl_list, isi_int_bool, isi_int_int, isi_int_str, isi_int_tuple, isi_int_list, isi_str_bool, isi_str_int, isi_str_str, isi_str_tuple, isi_str_list, isi_tup_bool, isi_tup_int, isi_tup_str, isi_tup_tuple, isi_tup_list, isi_lst_bool, isi_lst_int, isi_lst_str, isi_lst_tuple, isi_lst_list, isN_non, isN_bl, isN_int, isN_str, isN_tup, isN_lst, eqD_b, neD_b, startsD_eq, anyB_map, allB_map, sumD_map, maxD1_map, notInD_ls, notInD_keys, gsNil_eq, gsCons_eq, gsk_eq, gT2_eq, gT3_eq, iZ_eq, iz0_eq, iz1_eq, iz2_eq, sPin_eq, pin0_ow, pin0_sh, unpin_eq, unp_pn, pin1_nx, pin1_rt, cut_to, cut_from1])
local macro_rules | `(tactic| walk_at "eh") => `(tactic| simp only [eVar_eq, eVar_k1, eK_eq, oS_eq, oS_k1, oE_eq, oE_k1, fetch_d, fetch_s, fetch_k1, eOp2_eq, op2k1_eq, op2k2_eq, op2k3_eq, op2k4_eq, pr_some, aNil_eq, aC2_eq, aCons_eq, aC1_eq, fetchs_nil, fts2_eq, fetchs_cons, fts1_eq, eA_eq, eA1_eq, eA2_eq, allD_nil, allD_cons, eDisp_eq, eD1_eq, eD2_0, eD2_1, eD2_2, eD2_3, eD2_4, eD2_5, eD2_6, pNo_eq, pAt_eq, pAt1_eq, eSl_eq, sl1_eq, sl2_eq, sl3_eq, sl4_eq, eAnd_eq, and1_eq, eOr_eq, or1_eq, eNot_eq, not1_eq, eIf_eq, if1_eq, eNeg_eq, neg1_eq, eM_eq, m0_eq, m1_str, m1_lst, m2_eq, m3_eq, m4_eq, mu4_eq, mu3_ow, mu3_pn, mu2_eq, mu1_eq, mu0_eq, eMut_eq, sSeq_eq, seq1_nx, seq1_bk, seq1_ct, seq1_rt, sNil_eq, sBk_eq, sCt_eq, sRetN_eq, sE_eq, se1_eq, sRet_eq, sRetF_eq, sret1_eq, sRetOw_eq, sRetOw1_eq, sIf_eq, sif1_eq, sg2_eq, sG_eq, sg1_eq, okSet_eq, okk_none, okk_sh, okk_ow, gN_eq, sOw_eq, ow1_eq, sFz_eq, fz1_ow, fz1_sh, fz1_pn, fz1_no, stl3_eq, stl2_ow, stl2_pn, stl1_eq, sSetL_eq, sFor_eq, sfor1_eq, sWhile_eq, iL_eq, il1_eq, il2_eq, bOf_d, bOf_s, iR1_eq, ir1_eq, fn1_rt, fn1_nx, eCall_eq, eCallF_eq, cv1_eq, cv2_1, cv2_2, cv2_3, cv3_eq, cvE_eq, cvF_eq, eCallB_eq, cb0_eq, cb1_1, cb1_2, cb1_3, cb2_bl, cb2_int, cb2_str, eCallP_eq, eCallPF_eq, cp0_eq, cp1_eq, cp2_eq, cp3_ow0, cp3_ow1, cp3_ow2, cp3_pn0, cp3_pn1, cp3_pn2, cp4_eq, eLc_eq, lc2_eq, eDc_eq, dc2_eq, bnd_some, mp_some, gt0, gtS, st0, stS, if_true, if_false, if_pos, Bool.true_eq_false, Bool.false_eq_true, stl0_eq2, stk_eq, ix0, ix1, ix2, ix3, ix4, ixT0, ixT1, ixT2, addD_i, subD_i, ltD_i, ltD_s, leD_i, gtD_i, gtD_s, geD_i, powD_18, lenD_l, lenD_t, lenD_d, eqD_s, neD_s, eqD_i, neD_i, decide_eq_true_eq, ↓reduceIte, decide_true, decide_false, not_true_eq_false, not_false_eq_true, Bool.not_true, Bool.not_false, List.length_map, List.length_cons, List.length_nil, Int.reduceLT, Int.reduceLE, Int.reduceNeg, and_self, and_true, true_and, mulD_r, mulD_l, modD_i, fdivD_i, Int.reduceAdd, Nat.reduceAdd, ixN50, ixN51, ixN52, ixN53, ixN54, slL_eq, slL_scr, listD_l, cut_up, cut_last, cut_all, eqD_s, neD_s, slS_eq, inD_ls, inD_keys, wipe0, wipe1, rest0, rest1, gt0, gd_some, gd_none, decide_not, Bool.not_eq_true', decide_eq_false_iff_not, Classical.not_not, gPop_eq, allB_eq, List.nil_append, ↓reduceIte, pk4_eq, pk3_ow, pk3_pn, pk2_eq, pk1_s, pk1_i, pk0_eq, ePopK_eq, sk3_eq, sk2_s, sk2_i, sk1_eq, sk0_eq, sSetK_eq, listD_keys, neD_nil, dropD_keys, eq_self, isi_non_bool, isi_non_int, isi_non_str, isi_non_tuple, isi_non_list, isi_bl_bool, isi_bl_int, isi_bl_str, isi_bl_tuple, isi_bl_list, isi_int_bool, isi_int_int, isi_int_str, isi_int_tuple, isi_int_list, isi_str_bool, isi_str_int, isi_str_str, isi_str_tuple, isi_str_list, isi_tup_bool, isi_tup_int, isi_tup_str, isi_tup_tuple, isi_tup_list, isi_lst_bool, isi_lst_int, isi_lst_str, isi_lst_tuple, isi_lst_list, isN_non, isN_bl, isN_int, isN_str, isN_tup, isN_lst, eqD_b, neD_b, startsD_eq, anyB_map, allB_map, sumD_map, maxD1_map, notInD_ls, notInD_keys, gsNil_eq, gsCons_eq, gsk_eq, gT2_eq, gT3_eq, iZ_eq, iz0_eq, iz1_eq, iz2_eq, sPin_eq, pin0_ow, pin0_sh, unpin_eq, unp_pn, pin1_nx, pin1_rt, cut_to, cut_from1, *])
theorem open_run (ns : List Int) : W (fnF [.sh] 2 F__law_open [.scr ns]) fun r => ∃ b, r = .ok true (boxD b) [.non] := by
  rw [fnF_eq _ _ _ _ rfl]
  show W (fn1 [.sh] (F__law_open [some (.sh, .scr ns), none, none])) _
  unfold F__law_open
  walk_at "ev"
  have e63 : cut ns none (some 63) = ns.take 63 := cut_to ns 63
  rw [e63]
  refine W.fn (P := fun o => ∃ seed x, o = .rt true (boxD ⟨ns.take 63, 0, 0, seed, 0⟩) [some (.sh, .scr ns), some (.sh, .int seed), x]) (W.bind (P := fun o => ∃ seed x, o = .nx [some (.sh, .scr ns), some (.sh, .int seed), x]) (W.forL (fun items e => ∃ (is : List Int) (seed : Int) (x : Option Sl), items = is.map D.int ∧ e = [some (.sh, .scr ns), some (.sh, .int seed), x] ∧ Sh x) ?_ ?_ _ _ ⟨_, _, none, rfl, rfl, Sh.no⟩) ?_) ?_
  · rintro e ⟨is, seed, x, h1, rfl, h2⟩
    exact ⟨rfl, seed, x, rfl⟩
  · rintro d ds e ⟨is, seed, x, h1, rfl, h2⟩
    cases is with
    | nil => cases h1
    | cons i is =>
      cases h1
      refine ⟨rfl, [some (.sh, .scr ns), some (.sh, .int seed), some (.sh, .int i)], ?_, ?_⟩
      · have := h2.okk
        walk_at "eh"
      · walk_at "ev"
        exact W.ret ⟨is, _, _, rfl, rfl, Sh.sh _⟩
  · rintro o ⟨seed, x, rfl⟩
    walk_at "eh"
    exact W.ret ⟨seed, x, rfl⟩
  · rintro o ⟨seed, x, rfl⟩
    exact W.ret ⟨_, rfl⟩
end Lw
namespace Lw
open PySem PySem.Spec L2 Qd Qm
local macro_rules | `(tactic| walk_at "ev") => `(tactic| simp only [eVar_eq, eVar_k1, eK_eq, oS_eq, oS_k1, oE_eq, oE_k1, fetch_d, fetch_s, fetch_k1, eOp2_eq, op2k1_eq, op2k2_eq, op2k3_eq, op2k4_eq, pr_some, aNil_eq, aC2_eq, aCons_eq, aC1_eq, fetchs_nil, fts2_eq, fetchs_cons, fts1_eq, eA_eq, eA1_eq, eA2_eq, allD_nil, allD_cons, eDisp_eq, eD1_eq, eD2_0, eD2_1, eD2_2, eD2_3, eD2_4, eD2_5, eD2_6, pNo_eq, pAt_eq, pAt1_eq, eSl_eq, sl1_eq, sl2_eq, sl3_eq, sl4_eq, eAnd_eq, and1_eq, eOr_eq, or1_eq, eNot_eq, not1_eq, eIf_eq, if1_eq, eNeg_eq, neg1_eq, eM_eq, m0_eq, m1_str, m1_lst, m2_eq, m3_eq, m4_eq, mu4_eq, mu3_ow, mu3_pn, mu2_eq, mu1_eq, mu0_eq, eMut_eq, sSeq_eq, seq1_nx, seq1_bk, seq1_ct, seq1_rt, sNil_eq, sBk_eq, sCt_eq, sRetN_eq, sE_eq, se1_eq, sRet_eq, sRetF_eq, sret1_eq, sRetOw_eq, sRetOw1_eq, sIf_eq, sif1_eq, sg2_eq, sG_eq, sg1_eq, okSet_eq, okk_none, okk_sh, okk_ow, gN_eq, sOw_eq, ow1_eq, sFz_eq, fz1_ow, fz1_sh, fz1_pn, fz1_no, stl3_eq, stl2_ow, stl2_pn, stl1_eq, sSetL_eq, sFor_eq, sfor1_eq, sWhile_eq, iL_eq, il1_eq, il2_eq, bOf_d, bOf_s, iR1_eq, ir1_eq, fn1_rt, fn1_nx, eCall_eq, eCallF_eq, cv1_eq, cv2_1, cv2_2, cv2_3, cv3_eq, cvE_eq, cvF_eq, eCallB_eq, cb0_eq, cb1_1, cb1_2, cb1_3, cb2_bl, cb2_int, cb2_str, eCallP_eq, eCallPF_eq, cp0_eq, cp1_eq, cp2_eq, cp3_ow0, cp3_ow1, cp3_ow2, cp3_pn0, cp3_pn1, cp3_pn2, cp4_eq, eLc_eq, lc2_eq, eDc_eq, dc2_eq, bnd_some, mp_some, gt0, gtS, st0, stS, if_true, if_false, if_pos, Bool.true_eq_false, Bool.false_eq_true, stl0_eq2, stk_eq, ix0, ix1, ix2, ix3, ix4, ixT0, ixT1, ixT2, addD_i, subD_i, ltD_i, ltD_s, leD_i, gtD_i, gtD_s, geD_i, powD_18, lenD_l, lenD_t, lenD_d, eqD_s, neD_s, eqD_i, neD_i, decide_eq_true_eq, ↓reduceIte, decide_true, decide_false, not_true_eq_false, not_false_eq_true, Bool.not_true, Bool.not_false, List.length_map, List.length_cons, List.length_nil, Int.reduceLT, Int.reduceLE, Int.reduceNeg, and_self, and_true, true_and, mulD_r, mulD_l, modD_i, fdivD_i, Int.reduceAdd, Nat.reduceAdd, ixN50, ixN51, ixN52, ixN53, ixN54, slL_eq, slL_scr, listD_l, cut_up, cut_last, cut_all, slS_eq, inD_ls, inD_keys, wipe0, wipe1, rest0, rest1, gd_some, gd_none, decide_not, Bool.not_eq_true', decide_eq_false_iff_not, Classical.not_not, gPop_eq, allB_eq, List.nil_append, pk4_eq, pk3_ow, pk3_pn, pk2_eq, pk1_s, pk1_i, pk0_eq, ePopK_eq, sk3_eq, sk2_s, sk2_i, sk1_eq, sk0_eq, sSetK_eq, listD_keys, neD_nil, dropD_keys, eq_self, isi_non_bool, isi_non_int, isi_non_str, isi_non_tuple, isi_non_list, isi_bl_bool, isi_bl_int, isi_bl_str, isi_bl_tuple, isi_bl_list, isi_int_bool, isi_int_int, isi_int_str, isi_int_tuple, isi_int_list, isi_str_bool, isi_str_int, isi_str_str, isi_str_tuple, isi_str_list, isi_tup_bool, isi_tup_int, isi_tup_str, isi_tup_tuple, isi_tup_list, isi_lst_bool, isi_lst_int, isi_lst_str, isi_lst_tuple, isi_lst_list, isN_non, isN_bl, isN_int, isN_str, isN_tup, isN_lst, eqD_b, neD_b, startsD_eq, anyB_map, allB_map, sumD_map, maxD1_map, notInD_ls, notInD_keys, gsNil_eq, gsCons_eq, gsk_eq, gT2_eq, gT3_eq, iZ_eq, iz0_eq, iz1_eq, iz2_eq, sPin_eq, pin0_ow, pin0_sh, unpin_eq, unp_pn, pin1_nx, pin1_rt, cut_to, cut_from1, eFld_eq, fd0_eq, fd1_eq, sFd_eq, sfd0_eq, sfd1_ow, sfd1_pn, sfd2_eq, eMeth_eq, eMethF_eq, me0_eq, me1_eq, me2_eq, me3_0, me3_1, me3_2, me3_3, eMethP_eq, eMethPF_eq, mp0_ow, mp0_pn, mp1_eq, eNew_eq, nw0_eq, nw1_0, nw1_1, nw1_2, nw2_eq, exEq_eq, xq0_eq, xq1_eq, xq2_eq, xq3_eq, iso_eq, iso1_t, iS_eq, is1_eq, is0_eq, iR2_eq, ir2a_eq, ir2c_eq, maxD2_i, inD_sign, lc1_go, lcc_eq, dc1_go, dcc_eq, now_nil, now_cons, now1_sh, now1_none, bsV_nil, bsV_cons, Bool.and_true, Bool.true_and, fld_b, fld_r, set_b0, set_r0, set_b1, set_r1, isC_end, hasM_settle0, hasM_settle, hasM_head, hasM_ring, hasM_first, hasM_signs, hasM_later, hasM_behind, hasM_below, hasM_under, hasM_begins, hasM_starts, hasM_before, nin_nil, nin_cons, Nat.reduceBNe, iK_eq, ik0_eq, keyD_keys, eGet2_eq, ge0_eq, ge1_s, ge2_eq, ge3_eq, eLenM_eq, lm0_eq, lm1_eq, new0_1, parC_t, par2_go, sPar_eq, par0_eq, iLT_eq, lt1_eq, lt2_l, lt2_t, fld_k, isC_sw, hasW_rows, hasW_of, hasW_leads, hasW_then, hasW_back, hasW_power, hasW_seen, hasW_within, hasW_fixed, hasW_parted, inD_tD, listD_tD, valD_tD, iEn_eq, en1_eq, en2_eq, dropD_tDT, set_k0T, set_k1T])
local macro_rules | `(tactic| walk_at "eh") => `(tactic| simp only [eVar_eq, eVar_k1, eK_eq, oS_eq, oS_k1, oE_eq, oE_k1, fetch_d, fetch_s, fetch_k1, eOp2_eq, op2k1_eq, op2k2_eq, op2k3_eq, op2k4_eq, pr_some, aNil_eq, aC2_eq, aCons_eq, aC1_eq, fetchs_nil, fts2_eq, fetchs_cons, fts1_eq, eA_eq, eA1_eq, eA2_eq, allD_nil, allD_cons, eDisp_eq, eD1_eq, eD2_0, eD2_1, eD2_2, eD2_3, eD2_4, eD2_5, eD2_6, pNo_eq, pAt_eq, pAt1_eq, eSl_eq, sl1_eq, sl2_eq, sl3_eq, sl4_eq, eAnd_eq, and1_eq, eOr_eq, or1_eq, eNot_eq, not1_eq, eIf_eq, if1_eq, eNeg_eq, neg1_eq, eM_eq, m0_eq, m1_str, m1_lst, m2_eq, m3_eq, m4_eq, mu4_eq, mu3_ow, mu3_pn, mu2_eq, mu1_eq, mu0_eq, eMut_eq, sSeq_eq, seq1_nx, seq1_bk, seq1_ct, seq1_rt, sNil_eq, sBk_eq, sCt_eq, sRetN_eq, sE_eq, se1_eq, sRet_eq, sRetF_eq, sret1_eq, sRetOw_eq, sRetOw1_eq, sIf_eq, sif1_eq, sg2_eq, sG_eq, sg1_eq, okSet_eq, okk_none, okk_sh, okk_ow, gN_eq, sOw_eq, ow1_eq, sFz_eq, fz1_ow, fz1_sh, fz1_pn, fz1_no, stl3_eq, stl2_ow, stl2_pn, stl1_eq, sSetL_eq, sFor_eq, sfor1_eq, sWhile_eq, iL_eq, il1_eq, il2_eq, bOf_d, bOf_s, iR1_eq, ir1_eq, fn1_rt, fn1_nx, eCall_eq, eCallF_eq, cv1_eq, cv2_1, cv2_2, cv2_3, cv3_eq, cvE_eq, cvF_eq, eCallB_eq, cb0_eq, cb1_1, cb1_2, cb1_3, cb2_bl, cb2_int, cb2_str, eCallP_eq, eCallPF_eq, cp0_eq, cp1_eq, cp2_eq, cp3_ow0, cp3_ow1, cp3_ow2, cp3_pn0, cp3_pn1, cp3_pn2, cp4_eq, eLc_eq, lc2_eq, eDc_eq, dc2_eq, bnd_some, mp_some, gt0, gtS, st0, stS, if_true, if_false, if_pos, Bool.true_eq_false, Bool.false_eq_true, stl0_eq2, stk_eq, ix0, ix1, ix2, ix3, ix4, ixT0, ixT1, ixT2, addD_i, subD_i, ltD_i, ltD_s, leD_i, gtD_i, gtD_s, geD_i, powD_18, lenD_l, lenD_t, lenD_d, eqD_s, neD_s, eqD_i, neD_i, decide_eq_true_eq, ↓reduceIte, decide_true, decide_false, not_true_eq_false, not_false_eq_true, Bool.not_true, Bool.not_false, List.length_map, List.length_cons, List.length_nil, Int.reduceLT, Int.reduceLE, Int.reduceNeg, and_self, and_true, true_and, mulD_r, mulD_l, modD_i, fdivD_i, Int.reduceAdd, Nat.reduceAdd, ixN50, ixN51, ixN52, ixN53, ixN54, slL_eq, slL_scr, listD_l, cut_up, cut_last, cut_all, slS_eq, inD_ls, inD_keys, wipe0, wipe1, rest0, rest1, gd_some, gd_none, decide_not, Bool.not_eq_true', decide_eq_false_iff_not, Classical.not_not, gPop_eq, allB_eq, List.nil_append, pk4_eq, pk3_ow, pk3_pn, pk2_eq, pk1_s, pk1_i, pk0_eq, ePopK_eq, sk3_eq, sk2_s, sk2_i, sk1_eq, sk0_eq, sSetK_eq, listD_keys, neD_nil, dropD_keys, eq_self, isi_non_bool, isi_non_int, isi_non_str, isi_non_tuple, isi_non_list, isi_bl_bool, isi_bl_int, isi_bl_str, isi_bl_tuple, isi_bl_list, isi_int_bool, isi_int_int, isi_int_str, isi_int_tuple, isi_int_list, isi_str_bool, isi_str_int, isi_str_str, isi_str_tuple, isi_str_list, isi_tup_bool, isi_tup_int, isi_tup_str, isi_tup_tuple, isi_tup_list, isi_lst_bool, isi_lst_int, isi_lst_str, isi_lst_tuple, isi_lst_list, isN_non, isN_bl, isN_int, isN_str, isN_tup, isN_lst, eqD_b, neD_b, startsD_eq, anyB_map, allB_map, sumD_map, maxD1_map, notInD_ls, notInD_keys, gsNil_eq, gsCons_eq, gsk_eq, gT2_eq, gT3_eq, iZ_eq, iz0_eq, iz1_eq, iz2_eq, sPin_eq, pin0_ow, pin0_sh, unpin_eq, unp_pn, pin1_nx, pin1_rt, cut_to, cut_from1, eFld_eq, fd0_eq, fd1_eq, sFd_eq, sfd0_eq, sfd1_ow, sfd1_pn, sfd2_eq, eMeth_eq, eMethF_eq, me0_eq, me1_eq, me2_eq, me3_0, me3_1, me3_2, me3_3, eMethP_eq, eMethPF_eq, mp0_ow, mp0_pn, mp1_eq, eNew_eq, nw0_eq, nw1_0, nw1_1, nw1_2, nw2_eq, exEq_eq, xq0_eq, xq1_eq, xq2_eq, xq3_eq, iso_eq, iso1_t, iS_eq, is1_eq, is0_eq, iR2_eq, ir2a_eq, ir2c_eq, maxD2_i, inD_sign, lc1_go, lcc_eq, dc1_go, dcc_eq, now_nil, now_cons, now1_sh, now1_none, bsV_nil, bsV_cons, Bool.and_true, Bool.true_and, fld_b, fld_r, set_b0, set_r0, set_b1, set_r1, isC_end, hasM_settle0, hasM_settle, hasM_head, hasM_ring, hasM_first, hasM_signs, hasM_later, hasM_behind, hasM_below, hasM_under, hasM_begins, hasM_starts, hasM_before, nin_nil, nin_cons, Nat.reduceBNe, iK_eq, ik0_eq, keyD_keys, eGet2_eq, ge0_eq, ge1_s, ge2_eq, ge3_eq, eLenM_eq, lm0_eq, lm1_eq, new0_1, parC_t, par2_go, sPar_eq, par0_eq, iLT_eq, lt1_eq, lt2_l, lt2_t, fld_k, isC_sw, hasW_rows, hasW_of, hasW_leads, hasW_then, hasW_back, hasW_power, hasW_seen, hasW_within, hasW_fixed, hasW_parted, inD_tD, listD_tD, valD_tD, iEn_eq, en1_eq, en2_eq, dropD_tDT, set_k0T, set_k1T, *])
theorem real_run {g : FN} (hg : ∀ (h r : Wd), 0 < r.length → r.length ≤ 60 → h.length ≤ 60 → Bin h → Bin r → g [.obj "Endless" [], .str h, .str r] = some (.ok false .non [endD (can h r).1 (can h r).2, .non, .non])) (h r : Wd) (h0 : 0 < r.length) (hr : r.length ≤ 60) (hh : h.length ≤ 60) (bh : Bin h) (br : Bin r) : fnF [.sh] 0 (F__law_real g) [tupD h r] = some (.ok true (endD (can h r).1 (can h r).2) [.non]) := by
  have a1 := hg h r h0 hr hh bh br
  have t0 := ix_t0 h r
  have t1 := ix_t1 h r
  clear hg
  rw [fnF_eq _ _ _ _ rfl]
  show fn1 [.sh] (F__law_real g [sv (tupD h r)]) = _
  unfold F__law_real
  walk_at "eh"
  rfl
end Lw
namespace Lw
open PySem PySem.Spec L2 Qd Qm
local macro_rules | `(tactic| walk_at "ev") => `(tactic| simp only [eVar_eq, eVar_k1, eK_eq, oS_eq, oS_k1, oE_eq, oE_k1, fetch_d, fetch_s, fetch_k1, eOp2_eq, op2k1_eq, op2k2_eq, op2k3_eq, op2k4_eq, pr_some, aNil_eq, aC2_eq, aCons_eq, aC1_eq, fetchs_nil, fts2_eq, fetchs_cons, fts1_eq, eA_eq, eA1_eq, eA2_eq, allD_nil, allD_cons, eDisp_eq, eD1_eq, eD2_0, eD2_1, eD2_2, eD2_3, eD2_4, eD2_5, eD2_6, pNo_eq, pAt_eq, pAt1_eq, eSl_eq, sl1_eq, sl2_eq, sl3_eq, sl4_eq, eAnd_eq, and1_eq, eOr_eq, or1_eq, eNot_eq, not1_eq, eIf_eq, if1_eq, eNeg_eq, neg1_eq, eM_eq, m0_eq, m1_str, m1_lst, m2_eq, m3_eq, m4_eq, mu4_eq, mu3_ow, mu3_pn, mu2_eq, mu1_eq, mu0_eq, eMut_eq, sSeq_eq, seq1_nx, seq1_bk, seq1_ct, seq1_rt, sNil_eq, sBk_eq, sCt_eq, sRetN_eq, sE_eq, se1_eq, sRet_eq, sRetF_eq, sret1_eq, sRetOw_eq, sRetOw1_eq, sIf_eq, sif1_eq, sg2_eq, sG_eq, sg1_eq, okSet_eq, okk_none, okk_sh, okk_ow, gN_eq, sOw_eq, ow1_eq, sFz_eq, fz1_ow, fz1_sh, fz1_pn, fz1_no, stl3_eq, stl2_ow, stl2_pn, stl1_eq, sSetL_eq, sFor_eq, sfor1_eq, sWhile_eq, iL_eq, il1_eq, il2_eq, bOf_d, bOf_s, iR1_eq, ir1_eq, fn1_rt, fn1_nx, eCall_eq, eCallF_eq, cv1_eq, cv2_1, cv2_2, cv2_3, cv3_eq, cvE_eq, cvF_eq, eCallB_eq, cb0_eq, cb1_1, cb1_2, cb1_3, cb2_bl, cb2_int, cb2_str, eCallP_eq, eCallPF_eq, cp0_eq, cp1_eq, cp2_eq, cp3_ow0, cp3_ow1, cp3_ow2, cp3_pn0, cp3_pn1, cp3_pn2, cp4_eq, eLc_eq, lc2_eq, eDc_eq, dc2_eq, bnd_some, mp_some, gt0, gtS, st0, stS, if_true, if_false, if_pos, Bool.true_eq_false, Bool.false_eq_true, stl0_eq2, stk_eq, ix0, ix1, ix2, ix3, ix4, ixT0, ixT1, ixT2, addD_i, subD_i, ltD_i, ltD_s, leD_i, gtD_i, gtD_s, geD_i, powD_18, lenD_l, lenD_t, lenD_d, eqD_s, neD_s, eqD_i, neD_i, decide_eq_true_eq, ↓reduceIte, decide_true, decide_false, not_true_eq_false, not_false_eq_true, Bool.not_true, Bool.not_false, List.length_map, List.length_cons, List.length_nil, Int.reduceLT, Int.reduceLE, Int.reduceNeg, and_self, and_true, true_and, mulD_r, mulD_l, modD_i, fdivD_i, Int.reduceAdd, Nat.reduceAdd, ixN50, ixN51, ixN52, ixN53, ixN54, slL_eq, slL_scr, listD_l, cut_up, cut_last, cut_all, slS_eq, inD_ls, inD_keys, wipe0, wipe1, rest0, rest1, gd_some, gd_none, decide_not, Bool.not_eq_true', decide_eq_false_iff_not, Classical.not_not, gPop_eq, allB_eq, List.nil_append, pk4_eq, pk3_ow, pk3_pn, pk2_eq, pk1_s, pk1_i, pk0_eq, ePopK_eq, sk3_eq, sk2_s, sk2_i, sk1_eq, sk0_eq, sSetK_eq, listD_keys, neD_nil, dropD_keys, eq_self, isi_non_bool, isi_non_int, isi_non_str, isi_non_tuple, isi_non_list, isi_bl_bool, isi_bl_int, isi_bl_str, isi_bl_tuple, isi_bl_list, isi_int_bool, isi_int_int, isi_int_str, isi_int_tuple, isi_int_list, isi_str_bool, isi_str_int, isi_str_str, isi_str_tuple, isi_str_list, isi_tup_bool, isi_tup_int, isi_tup_str, isi_tup_tuple, isi_tup_list, isi_lst_bool, isi_lst_int, isi_lst_str, isi_lst_tuple, isi_lst_list, isN_non, isN_bl, isN_int, isN_str, isN_tup, isN_lst, eqD_b, neD_b, startsD_eq, anyB_map, allB_map, sumD_map, maxD1_map, notInD_ls, notInD_keys, gsNil_eq, gsCons_eq, gsk_eq, gT2_eq, gT3_eq, iZ_eq, iz0_eq, iz1_eq, iz2_eq, sPin_eq, pin0_ow, pin0_sh, unpin_eq, unp_pn, pin1_nx, pin1_rt, cut_to, cut_from1, eFld_eq, fd0_eq, fd1_eq, sFd_eq, sfd0_eq, sfd1_ow, sfd1_pn, sfd2_eq, eMeth_eq, eMethF_eq, me0_eq, me1_eq, me2_eq, me3_0, me3_1, me3_2, me3_3, eMethP_eq, eMethPF_eq, mp0_ow, mp0_pn, mp1_eq, eNew_eq, nw0_eq, nw1_0, nw1_1, nw1_2, nw2_eq, exEq_eq, xq0_eq, xq1_eq, xq2_eq, xq3_eq, iso_eq, iso1_t, iS_eq, is1_eq, is0_eq, iR2_eq, ir2a_eq, ir2c_eq, maxD2_i, inD_sign, lc1_go, lcc_eq, dc1_go, dcc_eq, now_nil, now_cons, now1_sh, now1_none, bsV_nil, bsV_cons, Bool.and_true, Bool.true_and, fld_b, fld_r, set_b0, set_r0, set_b1, set_r1, isC_end, hasM_settle0, hasM_settle, hasM_head, hasM_ring, hasM_first, hasM_signs, hasM_later, hasM_behind, hasM_below, hasM_under, hasM_begins, hasM_starts, hasM_before, nin_nil, nin_cons, Nat.reduceBNe, iK_eq, ik0_eq, keyD_keys, eGet2_eq, ge0_eq, ge1_s, ge2_eq, ge3_eq, eLenM_eq, lm0_eq, lm1_eq, new0_1, parC_t, par2_go, sPar_eq, par0_eq, iLT_eq, lt1_eq, lt2_l, lt2_t, fld_k, isC_sw, hasW_rows, hasW_of, hasW_leads, hasW_then, hasW_back, hasW_power, hasW_seen, hasW_within, hasW_fixed, hasW_parted, inD_tD, listD_tD, valD_tD, iEn_eq, en1_eq, en2_eq, dropD_tDT, set_k0T, set_k1T])
local macro_rules | `(tactic| walk_at "eh") => `(tactic| simp only [eVar_eq, eVar_k1, eK_eq, oS_eq, oS_k1, oE_eq, oE_k1, fetch_d, fetch_s, fetch_k1, eOp2_eq, op2k1_eq, op2k2_eq, op2k3_eq, op2k4_eq, pr_some, aNil_eq, aC2_eq, aCons_eq, aC1_eq, fetchs_nil, fts2_eq, fetchs_cons, fts1_eq, eA_eq, eA1_eq, eA2_eq, allD_nil, allD_cons, eDisp_eq, eD1_eq, eD2_0, eD2_1, eD2_2, eD2_3, eD2_4, eD2_5, eD2_6, pNo_eq, pAt_eq, pAt1_eq, eSl_eq, sl1_eq, sl2_eq, sl3_eq, sl4_eq, eAnd_eq, and1_eq, eOr_eq, or1_eq, eNot_eq, not1_eq, eIf_eq, if1_eq, eNeg_eq, neg1_eq, eM_eq, m0_eq, m1_str, m1_lst, m2_eq, m3_eq, m4_eq, mu4_eq, mu3_ow, mu3_pn, mu2_eq, mu1_eq, mu0_eq, eMut_eq, sSeq_eq, seq1_nx, seq1_bk, seq1_ct, seq1_rt, sNil_eq, sBk_eq, sCt_eq, sRetN_eq, sE_eq, se1_eq, sRet_eq, sRetF_eq, sret1_eq, sRetOw_eq, sRetOw1_eq, sIf_eq, sif1_eq, sg2_eq, sG_eq, sg1_eq, okSet_eq, okk_none, okk_sh, okk_ow, gN_eq, sOw_eq, ow1_eq, sFz_eq, fz1_ow, fz1_sh, fz1_pn, fz1_no, stl3_eq, stl2_ow, stl2_pn, stl1_eq, sSetL_eq, sFor_eq, sfor1_eq, sWhile_eq, iL_eq, il1_eq, il2_eq, bOf_d, bOf_s, iR1_eq, ir1_eq, fn1_rt, fn1_nx, eCall_eq, eCallF_eq, cv1_eq, cv2_1, cv2_2, cv2_3, cv3_eq, cvE_eq, cvF_eq, eCallB_eq, cb0_eq, cb1_1, cb1_2, cb1_3, cb2_bl, cb2_int, cb2_str, eCallP_eq, eCallPF_eq, cp0_eq, cp1_eq, cp2_eq, cp3_ow0, cp3_ow1, cp3_ow2, cp3_pn0, cp3_pn1, cp3_pn2, cp4_eq, eLc_eq, lc2_eq, eDc_eq, dc2_eq, bnd_some, mp_some, gt0, gtS, st0, stS, if_true, if_false, if_pos, Bool.true_eq_false, Bool.false_eq_true, stl0_eq2, stk_eq, ix0, ix1, ix2, ix3, ix4, ixT0, ixT1, ixT2, addD_i, subD_i, ltD_i, ltD_s, leD_i, gtD_i, gtD_s, geD_i, powD_18, lenD_l, lenD_t, lenD_d, eqD_s, neD_s, eqD_i, neD_i, decide_eq_true_eq, ↓reduceIte, decide_true, decide_false, not_true_eq_false, not_false_eq_true, Bool.not_true, Bool.not_false, List.length_map, List.length_cons, List.length_nil, Int.reduceLT, Int.reduceLE, Int.reduceNeg, and_self, and_true, true_and, mulD_r, mulD_l, modD_i, fdivD_i, Int.reduceAdd, Nat.reduceAdd, ixN50, ixN51, ixN52, ixN53, ixN54, slL_eq, slL_scr, listD_l, cut_up, cut_last, cut_all, slS_eq, inD_ls, inD_keys, wipe0, wipe1, rest0, rest1, gd_some, gd_none, decide_not, Bool.not_eq_true', decide_eq_false_iff_not, Classical.not_not, gPop_eq, allB_eq, List.nil_append, pk4_eq, pk3_ow, pk3_pn, pk2_eq, pk1_s, pk1_i, pk0_eq, ePopK_eq, sk3_eq, sk2_s, sk2_i, sk1_eq, sk0_eq, sSetK_eq, listD_keys, neD_nil, dropD_keys, eq_self, isi_non_bool, isi_non_int, isi_non_str, isi_non_tuple, isi_non_list, isi_bl_bool, isi_bl_int, isi_bl_str, isi_bl_tuple, isi_bl_list, isi_int_bool, isi_int_int, isi_int_str, isi_int_tuple, isi_int_list, isi_str_bool, isi_str_int, isi_str_str, isi_str_tuple, isi_str_list, isi_tup_bool, isi_tup_int, isi_tup_str, isi_tup_tuple, isi_tup_list, isi_lst_bool, isi_lst_int, isi_lst_str, isi_lst_tuple, isi_lst_list, isN_non, isN_bl, isN_int, isN_str, isN_tup, isN_lst, eqD_b, neD_b, startsD_eq, anyB_map, allB_map, sumD_map, maxD1_map, notInD_ls, notInD_keys, gsNil_eq, gsCons_eq, gsk_eq, gT2_eq, gT3_eq, iZ_eq, iz0_eq, iz1_eq, iz2_eq, sPin_eq, pin0_ow, pin0_sh, unpin_eq, unp_pn, pin1_nx, pin1_rt, cut_to, cut_from1, eFld_eq, fd0_eq, fd1_eq, sFd_eq, sfd0_eq, sfd1_ow, sfd1_pn, sfd2_eq, eMeth_eq, eMethF_eq, me0_eq, me1_eq, me2_eq, me3_0, me3_1, me3_2, me3_3, eMethP_eq, eMethPF_eq, mp0_ow, mp0_pn, mp1_eq, eNew_eq, nw0_eq, nw1_0, nw1_1, nw1_2, nw2_eq, exEq_eq, xq0_eq, xq1_eq, xq2_eq, xq3_eq, iso_eq, iso1_t, iS_eq, is1_eq, is0_eq, iR2_eq, ir2a_eq, ir2c_eq, maxD2_i, inD_sign, lc1_go, lcc_eq, dc1_go, dcc_eq, now_nil, now_cons, now1_sh, now1_none, bsV_nil, bsV_cons, Bool.and_true, Bool.true_and, fld_b, fld_r, set_b0, set_r0, set_b1, set_r1, isC_end, hasM_settle0, hasM_settle, hasM_head, hasM_ring, hasM_first, hasM_signs, hasM_later, hasM_behind, hasM_below, hasM_under, hasM_begins, hasM_starts, hasM_before, nin_nil, nin_cons, Nat.reduceBNe, iK_eq, ik0_eq, keyD_keys, eGet2_eq, ge0_eq, ge1_s, ge2_eq, ge3_eq, eLenM_eq, lm0_eq, lm1_eq, new0_1, parC_t, par2_go, sPar_eq, par0_eq, iLT_eq, lt1_eq, lt2_l, lt2_t, fld_k, isC_sw, hasW_rows, hasW_of, hasW_leads, hasW_then, hasW_back, hasW_power, hasW_seen, hasW_within, hasW_fixed, hasW_parted, inD_tD, listD_tD, valD_tD, iEn_eq, en1_eq, en2_eq, dropD_tDT, set_k0T, set_k1T, *])
theorem r_open (ns : List Int) : ∃ b, G__law_open [.scr ns] = some (.ok true (boxD b) [.non]) := by
  obtain ⟨r, e, b, rfl⟩ := open_run ns
  exact ⟨b, e⟩
theorem r_draw : Drw G__law_draw := drw
theorem r_signs : Sgn G__law_signs := signs_run r_draw
theorem r_cut (b : Box) (m : Nat) (h0 : 0 < m) (h1 : m ≤ 40) : W (G__law_cut [boxD b, .int (m : Int)]) fun r => ∃ xs b2, r = .ok true (.lst (xs.map D.str)) [boxD b2, .non] ∧ Hd m xs ∧ (∀ s, Bi s → Cov xs s) ∧ xs.length = m := cut_run r_draw b m h0 h1
theorem r_mixed (b : Box) (xs : List D) (h : xs.length < 1000) : W (G__law_mixed [boxD b, .lst xs]) fun r => ∃ ys b2, r = .ok true (.lst ys) [boxD b2, .non] ∧ ys.Perm xs := mixed_run r_draw b xs h
theorem r_rows (b : Box) (most : Nat) (h0 : 0 < most) (h1 : most ≤ 40) : ∃ (T : List Rw) (b2 : Box), Tw most T ∧ T.length ≤ most ∧ 0 < T.length ∧ G__law_rows [boxD b, .int (most : Int)] = some (.ok true (rowsD T) [boxD b2, .non]) := lrows_run r_draw r_cut r_mixed b most h0 h1
theorem r_few {n : Nat} {T : List Rw} (h : Tw n T) (hn : n ≤ 1000) (hl : T.length < 64) : G__law_few [rowsD T] = some (.ok true (rowsD (few T)) [.non]) := lfew_run h hn hl
theorem r_plain (h r : Wd) (h0 : 0 < r.length) (hr : r.length ≤ 5000) (hh : h.length ≤ 100000) : G__law_plain [.str h, .str r] = some (.ok false (tupD (can h r).1 (can h r).2) [.non, .non]) := plain_run h r h0 hr hh
theorem r_lfirst (h r : Wd) (h0 : 0 < r.length) (hr : r.length ≤ 5000) (hh : h.length ≤ 100000) (n : Nat) (hn : n ≤ 100000) : G__law_first [tupD h r, .int (n : Int)] = some (.ok false (.str (Qm.pre (sgn h r) n)) [.non, .non]) := lfirst_run h r h0 hr hh n hn
theorem r_pair (b : Box) (m : Nat) (h0 : 0 < m) (h1 : m ≤ 1000) : ∃ (p : Wd × Wd) (b2 : Box), Row m p ∧ G__law_pair [boxD b, .int (m : Int)] = some (.ok false (tupD p.1 p.2) [boxD b2, .non]) := pair_run r_draw r_signs r_plain b m h0 h1
theorem r_need (x : Wd) (hx : x.length ≤ 60) (hb : Bin x) : G_need_head [.str x] = some (.ok false .non [.non]) := need_head_run (fun x hx => is_head_run is_signs_run x hx) x hx hb
theorem r_settle (o : D) (ho : Eo o) (h r : Wd) (h0 : 0 < r.length) (hr : r.length ≤ 5000) (hh : h.length ≤ 100000) : G_Endless__settle [o, .str h, .str r] = some (.ok false .non [endD (can h r).1 (can h r).2, .non, .non]) := settle_run shortest_run o ho h r h0 hr hh
theorem r_init (h r : Wd) (h0 : 0 < r.length) (hr : r.length ≤ 60) (hh : h.length ≤ 60) (bh : Bin h) (br : Bin r) : G_Endless____init__ [.obj "Endless" [], .str h, .str r] = some (.ok false .non [endD (can h r).1 (can h r).2, .non, .non]) := init_run r_need r_settle h r h0 hr hh bh br
theorem r_first (h r : Wd) (h0 : 0 < r.length) (hr : r.length ≤ 5000) (hh : h.length ≤ 100000) (n : Nat) (hn : n ≤ 100000) : G_Endless__first [endD h r, .int (n : Int)] = some (.ok false (.str (Qm.pre (sgn h r) n)) [.non, .non]) := first_run h r h0 hr hh n hn
theorem r_head (h r : Wd) : G_Endless__head [endD h r] = some (.ok false (.str h) [.non]) := head_run h r
theorem r_ring (h r : Wd) : G_Endless__ring [endD h r] = some (.ok false (.str r) [.non]) := ring_run h r
theorem r_row_of (h r : Wd) (h0 : 0 < r.length) (hr : r.length ≤ 5000) (hh : h.length ≤ 100000) : G_row_of [.str h, .str r] = some (.ok true (endD (can h r).1 (can h r).2) [.non, .non]) := row_of_run r_init r_settle h r h0 hr hh
theorem r_later {n : Nat} {s : Nat → Nat} {h r : Wd} (hs : Rs n s h r) (hn : n ≤ 5000) (k : Nat) : ∃ a b, Rs n (shf k s) a b ∧ G_Endless__later [endD h r, .int (k : Int)] = some (.ok true (endD a b) [.non, .non]) := later_run r_row_of hs hn k
theorem r_below {n : Nat} {s : Nat → Nat} {h r : Wd} (hs : Rs n s h r) (hn : n ≤ 5000) (x : Wd) (bx : Bin x) (lx : x.length ≤ 5000) : ∃ a b, Rs (n + x.length) (app x s) a b ∧ G_Endless__below [endD h r, .str x] = some (.ok true (endD a b) [.non, .non]) := below_run r_row_of hs hn x bx lx
theorem r_begins {n : Nat} {s : Nat → Nat} {h r : Wd} (hs : Rs n s h r) (hn : n ≤ 5000) (x : Wd) (lx : x.length ≤ 5000) : G_Endless__begins [endD h r, .str x] = some (.ok false (.bl (decide (Qm.pre s x.length = x))) [.non, .non]) := begins_run r_first hs hn x lx
theorem r_image {m : Nat} {T : List Rw} (hT : Tw m T) (hm : m ≤ 2000) {n : Nat} {s : Nat → Nat} {h r : Wd} (hs : Rs n s h r) (hn : n ≤ 2000) : ∃ t a b, Mv T s t ∧ Rs (n + m) t a b ∧ G_image [rowsD T, endD h r] = some (.ok false (endD a b) [.non, .non]) := image_run r_begins r_later r_below hT hm hs hn
theorem r_of {m : Nat} {T : List Rw} (hT : Tw m T) (hm : m ≤ 2000) {n : Nat} {s : Nat → Nat} {h r : Wd} (hs : Rs n s h r) (hn : n ≤ 2000) : ∃ t a b, Mv T s t ∧ Rs (n + m) t a b ∧ G_Swap__of [swD T, endD h r] = some (.ok false (endD a b) [.non, .non]) := by
  obtain ⟨t, a, b, h1, h2, h3⟩ := r_image hT hm hs hn
  exact ⟨t, a, b, h1, h2, swap_of_run h3⟩
theorem r_trouble {n : Nat} {S : List Wd} (h : Ct n S) (hn : n ≤ 1000) (hl : S.length ≤ 1000) : G_trouble [.lst (S.map D.str)] = some (.ok false .non [.non]) := trouble_run lacking_run h hn hl
theorem r_is_table {n : Nat} {T : List Rw} (h : Tw n T) (hn : n ≤ 1000) (hl : T.length ≤ 1000) (d : D) (hd : d = .lst (T.map rowD) ∨ d = .tup (T.map rowD)) : G_is_table [d] = some (.ok false (.bl true) [.non]) := is_table_run r_trouble h hn hl d hd
theorem r_fewest {n : Nat} {T : List Rw} (h : Tw n T) (hn : n ≤ 1000) (hl : T.length < 64) (d : D) (hd : d = .lst (T.map rowD) ∨ d = .tup (T.map rowD)) : G_fewest_rows [d] = some (.ok true (rowsD (few T)) [.non]) := fewest_run h hn hl d hd
theorem r_swap {n : Nat} {T : List Rw} (h : Tw n T) (h60 : n ≤ 60) (hl : T.length < 64) (d : D) (hd : d = .lst (T.map rowD) ∨ d = .tup (T.map rowD)) : G_Swap____init__ [.obj "Swap" [], d] = some (.ok false .non [swD (few T), .non]) := swap_init_run r_need r_is_table r_fewest h h60 hl d hd
/-- the table that leaves all -/
def one1 : List Rw := [([], [])]
theorem tw_one : Tw 0 one1 := by
  have c : Ct 0 [([] : Wd)] := ⟨⟨by simp, fun w hw => by rw [List.mem_singleton.mp hw]; exact Qm.Bin.nil, fun v hv w hw _ => by rw [List.mem_singleton.mp hv, List.mem_singleton.mp hw], fun w hw => by rw [List.mem_singleton.mp hw]; simp⟩, fun s _ => ⟨[], by simp, rfl⟩⟩
  exact ⟨c, c⟩
theorem few_one : few one1 = one1 := by
  have r : RedT one1 := fun u v z => by
    have := z.1
    simp [one1] at this
  rw [← few_eq tw_one.te r]
  rfl
theorem r_swap0 : G_Swap____init0__ [.obj "Swap" [], .tup [.tup [.str [], .str []]]] = some (.ok false .non [swD one1, .non]) := by
  have := r_swap tw_one (by omega) (by simp [one1]) (.tup (one1.map rowD)) (.inr rfl)
  rwa [few_one] at this
theorem mv_one (s : Nat → Nat) : Mv one1 s s := ⟨([], []), by simp [one1], rfl, by
  funext i
  rw [app_ge (by simp)]
  rfl⟩
theorem r_swrows (T : List Rw) : G_Swap__rows [swD T] = some (.ok true (rowsD T) [.non]) := swap_rows_run T
theorem r_swlen (T : List Rw) : G_Swap____len__ [swD T] = some (.ok false (.int (T.length : Int)) [.non]) := swap_len_run T
theorem r_like {k : Nat} {d : D} (h : Pl k d) (hk : k < 5) : G__law_like [d, d] = some (.ok false (.bl true) [.non, .non]) := like_refl k d h 5 hk
theorem r_is_row {n : Nat} {s : Nat → Nat} {a b c d : Wd} (h1 : Rs n s a b) (h2 : 0 < d.length) (h3 : ∀ i, sgn c d i = s i) (l1 : c.length ≤ 100000) (l2 : d.length ≤ 5000) : G__law_is_row [endD a b, tupD c d] = some (.ok false (.bl true) [.non, .non]) := is_row_run r_plain r_ring r_head (fun a b => r_like (pl2 a b) (by omega)) h1 h2 h3 l1 l2
theorem r_goes {m : Nat} {T : List Rw} (hT : Tw m T) (hm : m ≤ 2000) {n : Nat} {s : Nat → Nat} {h r : Wd} (hs : Rs n s h r) (hn : n ≤ 2000) : ∃ t a b, Mv T s t ∧ Rs (n + n + m) t a b ∧ G__law_goes [rowsD T, tupD h r] = some (.ok false (tupD a b) [.non, .non]) := goes_run r_lfirst r_plain hT hm hs hn
theorem r_stands {n : Nat} {S T : List Rw} (hT : Tw n T) (h1 : n ≤ 1000) (h2 : T.length < 64) (e : S = few T) : G__law_stands [swD S, rowsD T] = some (.ok false (.bl true) [.non, .non]) := stands_run r_few r_swlen r_swrows (fun T k h => r_like (pl_stand T h k) (by omega)) hT h1 h2 e
theorem r_real (h r : Wd) (h0 : 0 < r.length) (hr : r.length ≤ 60) (hh : h.length ≤ 60) (bh : Bin h) (br : Bin r) : G__law_real [tupD h r] = some (.ok true (endD (can h r).1 (can h r).2) [.non]) := real_run r_init h r h0 hr hh bh br
/-- there is one row that a row goes to -/
theorem mvu {n : Nat} {T : List Rw} (h : Tw n T) {s t u : Nat → Nat} (a : Mv T s t) (b : Mv T s u) : t = u := by
  obtain ⟨p, hp, h1, rfl⟩ := a
  obtain ⟨q, hq, h2, rfl⟩ := b
  rw [anti_one h.h.hd.nd h.h.hd.anti hp hq h1 h2]
end Lw
namespace Lw
open PySem PySem.Spec L2 Qd Qm
local macro_rules | `(tactic| walk_at "ev") => `(tactic| simp only [eVar_eq, eVar_k1, eK_eq, oS_eq, oS_k1, oE_eq, oE_k1, fetch_d, fetch_s, fetch_k1, eOp2_eq, op2k1_eq, op2k2_eq, op2k3_eq, op2k4_eq, pr_some, aNil_eq, aC2_eq, aCons_eq, aC1_eq, fetchs_nil, fts2_eq, fetchs_cons, fts1_eq, eA_eq, eA1_eq, eA2_eq, allD_nil, allD_cons, eDisp_eq, eD1_eq, eD2_0, eD2_1, eD2_2, eD2_3, eD2_4, eD2_5, eD2_6, pNo_eq, pAt_eq, pAt1_eq, eSl_eq, sl1_eq, sl2_eq, sl3_eq, sl4_eq, eAnd_eq, and1_eq, eOr_eq, or1_eq, eNot_eq, not1_eq, eIf_eq, if1_eq, eNeg_eq, neg1_eq, eM_eq, m0_eq, m1_str, m1_lst, m2_eq, m3_eq, m4_eq, mu4_eq, mu3_ow, mu3_pn, mu2_eq, mu1_eq, mu0_eq, eMut_eq, sSeq_eq, seq1_nx, seq1_bk, seq1_ct, seq1_rt, sNil_eq, sBk_eq, sCt_eq, sRetN_eq, sE_eq, se1_eq, sRet_eq, sRetF_eq, sret1_eq, sRetOw_eq, sRetOw1_eq, sIf_eq, sif1_eq, sg2_eq, sG_eq, sg1_eq, okSet_eq, okk_none, okk_sh, okk_ow, gN_eq, sOw_eq, ow1_eq, sFz_eq, fz1_ow, fz1_sh, fz1_pn, fz1_no, stl3_eq, stl2_ow, stl2_pn, stl1_eq, sSetL_eq, sFor_eq, sfor1_eq, sWhile_eq, iL_eq, il1_eq, il2_eq, bOf_d, bOf_s, iR1_eq, ir1_eq, fn1_rt, fn1_nx, eCall_eq, eCallF_eq, cv1_eq, cv2_1, cv2_2, cv2_3, cv3_eq, cvE_eq, cvF_eq, eCallB_eq, cb0_eq, cb1_1, cb1_2, cb1_3, cb2_bl, cb2_int, cb2_str, eCallP_eq, eCallPF_eq, cp0_eq, cp1_eq, cp2_eq, cp3_ow0, cp3_ow1, cp3_ow2, cp3_pn0, cp3_pn1, cp3_pn2, cp4_eq, eLc_eq, lc2_eq, eDc_eq, dc2_eq, bnd_some, mp_some, gt0, gtS, st0, stS, if_true, if_false, if_pos, Bool.true_eq_false, Bool.false_eq_true, stl0_eq2, stk_eq, ix0, ix1, ix2, ix3, ix4, ixT0, ixT1, ixT2, addD_i, subD_i, ltD_i, ltD_s, leD_i, gtD_i, gtD_s, geD_i, powD_18, lenD_l, lenD_t, lenD_d, eqD_s, neD_s, eqD_i, neD_i, decide_eq_true_eq, ↓reduceIte, decide_true, decide_false, not_true_eq_false, not_false_eq_true, Bool.not_true, Bool.not_false, List.length_map, List.length_cons, List.length_nil, Int.reduceLT, Int.reduceLE, Int.reduceNeg, and_self, and_true, true_and, mulD_r, mulD_l, modD_i, fdivD_i, Int.reduceAdd, Nat.reduceAdd, ixN50, ixN51, ixN52, ixN53, ixN54, slL_eq, slL_scr, listD_l, cut_up, cut_last, cut_all, slS_eq, inD_ls, inD_keys, wipe0, wipe1, rest0, rest1, gd_some, gd_none, decide_not, Bool.not_eq_true', decide_eq_false_iff_not, Classical.not_not, gPop_eq, allB_eq, List.nil_append, pk4_eq, pk3_ow, pk3_pn, pk2_eq, pk1_s, pk1_i, pk0_eq, ePopK_eq, sk3_eq, sk2_s, sk2_i, sk1_eq, sk0_eq, sSetK_eq, listD_keys, neD_nil, dropD_keys, eq_self, isi_non_bool, isi_non_int, isi_non_str, isi_non_tuple, isi_non_list, isi_bl_bool, isi_bl_int, isi_bl_str, isi_bl_tuple, isi_bl_list, isi_int_bool, isi_int_int, isi_int_str, isi_int_tuple, isi_int_list, isi_str_bool, isi_str_int, isi_str_str, isi_str_tuple, isi_str_list, isi_tup_bool, isi_tup_int, isi_tup_str, isi_tup_tuple, isi_tup_list, isi_lst_bool, isi_lst_int, isi_lst_str, isi_lst_tuple, isi_lst_list, isN_non, isN_bl, isN_int, isN_str, isN_tup, isN_lst, eqD_b, neD_b, startsD_eq, anyB_map, allB_map, sumD_map, maxD1_map, notInD_ls, notInD_keys, gsNil_eq, gsCons_eq, gsk_eq, gT2_eq, gT3_eq, iZ_eq, iz0_eq, iz1_eq, iz2_eq, sPin_eq, pin0_ow, pin0_sh, unpin_eq, unp_pn, pin1_nx, pin1_rt, cut_to, cut_from1, eFld_eq, fd0_eq, fd1_eq, sFd_eq, sfd0_eq, sfd1_ow, sfd1_pn, sfd2_eq, eMeth_eq, eMethF_eq, me0_eq, me1_eq, me2_eq, me3_0, me3_1, me3_2, me3_3, eMethP_eq, eMethPF_eq, mp0_ow, mp0_pn, mp1_eq, eNew_eq, nw0_eq, nw1_0, nw1_1, nw1_2, nw2_eq, exEq_eq, xq0_eq, xq1_eq, xq2_eq, xq3_eq, iso_eq, iso1_t, iS_eq, is1_eq, is0_eq, iR2_eq, ir2a_eq, ir2c_eq, maxD2_i, inD_sign, lc1_go, lcc_eq, dc1_go, dcc_eq, now_nil, now_cons, now1_sh, now1_none, bsV_nil, bsV_cons, Bool.and_true, Bool.true_and, fld_b, fld_r, set_b0, set_r0, set_b1, set_r1, isC_end, hasM_settle0, hasM_settle, hasM_head, hasM_ring, hasM_first, hasM_signs, hasM_later, hasM_behind, hasM_below, hasM_under, hasM_begins, hasM_starts, hasM_before, nin_nil, nin_cons, Nat.reduceBNe, iK_eq, ik0_eq, keyD_keys, eGet2_eq, ge0_eq, ge1_s, ge2_eq, ge3_eq, eLenM_eq, lm0_eq, lm1_eq, new0_1, parC_t, par2_go, sPar_eq, par0_eq, iLT_eq, lt1_eq, lt2_l, lt2_t, fld_k, isC_sw, hasW_rows, hasW_of, hasW_leads, hasW_then, hasW_back, hasW_power, hasW_seen, hasW_within, hasW_fixed, hasW_parted, inD_tD, listD_tD, valD_tD, iEn_eq, en1_eq, en2_eq, dropD_tDT, set_k0T, set_k1T])
local macro_rules | `(tactic| walk_at "eh") => `(tactic| simp only [eVar_eq, eVar_k1, eK_eq, oS_eq, oS_k1, oE_eq, oE_k1, fetch_d, fetch_s, fetch_k1, eOp2_eq, op2k1_eq, op2k2_eq, op2k3_eq, op2k4_eq, pr_some, aNil_eq, aC2_eq, aCons_eq, aC1_eq, fetchs_nil, fts2_eq, fetchs_cons, fts1_eq, eA_eq, eA1_eq, eA2_eq, allD_nil, allD_cons, eDisp_eq, eD1_eq, eD2_0, eD2_1, eD2_2, eD2_3, eD2_4, eD2_5, eD2_6, pNo_eq, pAt_eq, pAt1_eq, eSl_eq, sl1_eq, sl2_eq, sl3_eq, sl4_eq, eAnd_eq, and1_eq, eOr_eq, or1_eq, eNot_eq, not1_eq, eIf_eq, if1_eq, eNeg_eq, neg1_eq, eM_eq, m0_eq, m1_str, m1_lst, m2_eq, m3_eq, m4_eq, mu4_eq, mu3_ow, mu3_pn, mu2_eq, mu1_eq, mu0_eq, eMut_eq, sSeq_eq, seq1_nx, seq1_bk, seq1_ct, seq1_rt, sNil_eq, sBk_eq, sCt_eq, sRetN_eq, sE_eq, se1_eq, sRet_eq, sRetF_eq, sret1_eq, sRetOw_eq, sRetOw1_eq, sIf_eq, sif1_eq, sg2_eq, sG_eq, sg1_eq, okSet_eq, okk_none, okk_sh, okk_ow, gN_eq, sOw_eq, ow1_eq, sFz_eq, fz1_ow, fz1_sh, fz1_pn, fz1_no, stl3_eq, stl2_ow, stl2_pn, stl1_eq, sSetL_eq, sFor_eq, sfor1_eq, sWhile_eq, iL_eq, il1_eq, il2_eq, bOf_d, bOf_s, iR1_eq, ir1_eq, fn1_rt, fn1_nx, eCall_eq, eCallF_eq, cv1_eq, cv2_1, cv2_2, cv2_3, cv3_eq, cvE_eq, cvF_eq, eCallB_eq, cb0_eq, cb1_1, cb1_2, cb1_3, cb2_bl, cb2_int, cb2_str, eCallP_eq, eCallPF_eq, cp0_eq, cp1_eq, cp2_eq, cp3_ow0, cp3_ow1, cp3_ow2, cp3_pn0, cp3_pn1, cp3_pn2, cp4_eq, eLc_eq, lc2_eq, eDc_eq, dc2_eq, bnd_some, mp_some, gt0, gtS, st0, stS, if_true, if_false, if_pos, Bool.true_eq_false, Bool.false_eq_true, stl0_eq2, stk_eq, ix0, ix1, ix2, ix3, ix4, ixT0, ixT1, ixT2, addD_i, subD_i, ltD_i, ltD_s, leD_i, gtD_i, gtD_s, geD_i, powD_18, lenD_l, lenD_t, lenD_d, eqD_s, neD_s, eqD_i, neD_i, decide_eq_true_eq, ↓reduceIte, decide_true, decide_false, not_true_eq_false, not_false_eq_true, Bool.not_true, Bool.not_false, List.length_map, List.length_cons, List.length_nil, Int.reduceLT, Int.reduceLE, Int.reduceNeg, and_self, and_true, true_and, mulD_r, mulD_l, modD_i, fdivD_i, Int.reduceAdd, Nat.reduceAdd, ixN50, ixN51, ixN52, ixN53, ixN54, slL_eq, slL_scr, listD_l, cut_up, cut_last, cut_all, slS_eq, inD_ls, inD_keys, wipe0, wipe1, rest0, rest1, gd_some, gd_none, decide_not, Bool.not_eq_true', decide_eq_false_iff_not, Classical.not_not, gPop_eq, allB_eq, List.nil_append, pk4_eq, pk3_ow, pk3_pn, pk2_eq, pk1_s, pk1_i, pk0_eq, ePopK_eq, sk3_eq, sk2_s, sk2_i, sk1_eq, sk0_eq, sSetK_eq, listD_keys, neD_nil, dropD_keys, eq_self, isi_non_bool, isi_non_int, isi_non_str, isi_non_tuple, isi_non_list, isi_bl_bool, isi_bl_int, isi_bl_str, isi_bl_tuple, isi_bl_list, isi_int_bool, isi_int_int, isi_int_str, isi_int_tuple, isi_int_list, isi_str_bool, isi_str_int, isi_str_str, isi_str_tuple, isi_str_list, isi_tup_bool, isi_tup_int, isi_tup_str, isi_tup_tuple, isi_tup_list, isi_lst_bool, isi_lst_int, isi_lst_str, isi_lst_tuple, isi_lst_list, isN_non, isN_bl, isN_int, isN_str, isN_tup, isN_lst, eqD_b, neD_b, startsD_eq, anyB_map, allB_map, sumD_map, maxD1_map, notInD_ls, notInD_keys, gsNil_eq, gsCons_eq, gsk_eq, gT2_eq, gT3_eq, iZ_eq, iz0_eq, iz1_eq, iz2_eq, sPin_eq, pin0_ow, pin0_sh, unpin_eq, unp_pn, pin1_nx, pin1_rt, cut_to, cut_from1, eFld_eq, fd0_eq, fd1_eq, sFd_eq, sfd0_eq, sfd1_ow, sfd1_pn, sfd2_eq, eMeth_eq, eMethF_eq, me0_eq, me1_eq, me2_eq, me3_0, me3_1, me3_2, me3_3, eMethP_eq, eMethPF_eq, mp0_ow, mp0_pn, mp1_eq, eNew_eq, nw0_eq, nw1_0, nw1_1, nw1_2, nw2_eq, exEq_eq, xq0_eq, xq1_eq, xq2_eq, xq3_eq, iso_eq, iso1_t, iS_eq, is1_eq, is0_eq, iR2_eq, ir2a_eq, ir2c_eq, maxD2_i, inD_sign, lc1_go, lcc_eq, dc1_go, dcc_eq, now_nil, now_cons, now1_sh, now1_none, bsV_nil, bsV_cons, Bool.and_true, Bool.true_and, fld_b, fld_r, set_b0, set_r0, set_b1, set_r1, isC_end, hasM_settle0, hasM_settle, hasM_head, hasM_ring, hasM_first, hasM_signs, hasM_later, hasM_behind, hasM_below, hasM_under, hasM_begins, hasM_starts, hasM_before, nin_nil, nin_cons, Nat.reduceBNe, iK_eq, ik0_eq, keyD_keys, eGet2_eq, ge0_eq, ge1_s, ge2_eq, ge3_eq, eLenM_eq, lm0_eq, lm1_eq, new0_1, parC_t, par2_go, sPar_eq, par0_eq, iLT_eq, lt1_eq, lt2_l, lt2_t, fld_k, isC_sw, hasW_rows, hasW_of, hasW_leads, hasW_then, hasW_back, hasW_power, hasW_seen, hasW_within, hasW_fixed, hasW_parted, inD_tD, listD_tD, valD_tD, iEn_eq, en1_eq, en2_eq, dropD_tDT, set_k0T, set_k1T, *])
theorem row_rs {n : Nat} {p : Wd × Wd} (h : Row n p) : Rs n (sgn p.1 p.2) p.1 p.2 := ⟨h.1, fun _ => rfl, h.2.1, h.2.2.1, h.2.2.2.1, h.2.2.2.2⟩
theorem row_mono {n m : Nat} {p : Wd × Wd} (h : Row n p) (hm : n ≤ m) : Row m p := ⟨h.1, h.2.1, h.2.2.1, by have := h.2.2.2.1; omega, by have := h.2.2.2.2; omega⟩
/-- the table and the law lead to the same row -/
theorem k11_look {n : Nat} {T : List Rw} (hT : Tw n T) (hn : n ≤ 60) {p : Wd × Wd} (hp : Row 60 p) : ∃ a b c d : Wd, G_Swap__of [swD (few T), endD p.1 p.2] = some (.ok false (endD a b) [.non, .non]) ∧ G__law_goes [rowsD T, tupD p.1 p.2] = some (.ok false (tupD c d) [.non, .non]) ∧ G__law_is_row [endD a b, tupD c d] = some (.ok false (.bl true) [.non, .non]) ∧ G__law_is_row [endD p.1 p.2, tupD p.1 p.2] = some (.ok false (.bl true) [.non, .non]) ∧ G__law_real [tupD p.1 p.2] = some (.ok true (endD p.1 p.2) [.non]) := by
  obtain ⟨f1, f2, f3, f4⟩ := few_all hT
  have rs := row_rs hp
  obtain ⟨t, a, b, m1, r1, e1⟩ := r_of f1 (by omega) rs (by omega)
  obtain ⟨u, c, d, m2, r2, e2⟩ := r_goes hT (by omega) rs (by omega)
  have m3 := (f2.mv _ _ rs.bi).mp m1
  have etu := mvu hT m3 m2
  refine ⟨a, b, c, d, e1, e2, r_is_row r1 r2.can.prim.1 (fun i => by rw [r2.sg, etu]) (by have := r2.la; omega) (by have := r2.lb; omega), r_is_row rs hp.1.prim.1 (fun _ => rfl) (by have := hp.2.2.2.1; omega) (by have := hp.2.2.2.2; omega), ?_⟩
  have := r_real p.1 p.2 hp.1.prim.1 hp.2.2.2.2 hp.2.2.2.1 hp.2.1 hp.2.2.1
  rwa [can_self hp.1] at this
theorem law_run (ns : List Int) : ∃ outs, G_law [.scr ns] = some (.ok false (.bl true) outs) := by
  suffices h : W (G_law [.scr ns]) fun r => ∃ outs, r = .ok false (.bl true) outs by
    obtain ⟨r, h, outs, rfl⟩ := h
    exact ⟨outs, h⟩
  obtain ⟨b, eO⟩ := r_open ns
  have hg := r_draw
  -- the last question
  obtain ⟨i1, i2, k1, j1, j2, k2, k3⟩ : ∃ a b : Wd, G_Endless____init__ [.obj "Endless" [], .str [], .str [48, 49]] = some (.ok false .non [endD a b, .non, .non]) ∧ ∃ c d : Wd, G_Swap__of [swD one1, endD a b] = some (.ok false (endD c d) [.non, .non]) ∧ G__law_is_row [endD c d, .tup [.str [], .str [48, 49]]] = some (.ok false (.bl true) [.non, .non]) := by
    have e := r_init [] [48, 49] (by decide) (by decide) (by decide) (by simp [Bin]) (by simp [Bin])
    have rs := Rs.of_can (n := 2) (h := []) (r := [48, 49]) (by decide) (by simp [Bin]) (by simp [Bin]) (by decide) (by decide)
    obtain ⟨t, c, d, m1, r1, e1⟩ := r_of tw_one (by omega) rs (by omega)
    have et := mvu tw_one m1 (mv_one _)
    exact ⟨_, _, e, c, d, e1, r_is_row (c := []) (d := [48, 49]) r1 (by decide) (fun i => by rw [et]) (by decide) (by decide)⟩
  have i4 := r_swap0
  unfold G_law
  rw [fnF_eq _ _ _ _ rfl]
  show W (fn1 [.sh] (F_law G__law_open G__law_rows G_Swap____init__ G__law_pair G__law_draw G__law_plain G__law_real G__law_goes G_Swap__of G__law_is_row G__law_signs G__law_stands G_Endless____init__ G_Swap____init0__ [sv (.scr ns), none, none, none, none, none, none, none, none, none, none])) _
  unfold F_law
  walk_at "eh"
  refine W.fnK (W.forK (fun items e => ∃ b x2 x3 x4 x5 x6 x7 x8 x9 x10, e = [sv (.scr ns), ov (boxD b), x2, x3, x4, x5, x6, x7, x8, x9, x10] ∧ Sh x2 ∧ Sh x3 ∧ Sh x4 ∧ Sh x5 ∧ Sh x6 ∧ Sh x7 ∧ Sh x8 ∧ Sh x9 ∧ Sh x10) ⟨b, none, none, none, none, none, none, none, none, none, rfl, Sh.no, Sh.no, Sh.no, Sh.no, Sh.no, Sh.no, Sh.no, Sh.no, Sh.no⟩ ?_ ?_)
  · rintro e ⟨b, x2, x3, x4, x5, x6, x7, x8, x9, x10, rfl, _⟩
    refine ⟨rfl, ?_⟩
    walk_at "eh"
    exact W.ret (W.ret ⟨_, rfl⟩)
  · rintro d ds e ⟨b, x2, x3, x4, x5, x6, x7, x8, x9, x10, rfl, s2, s3, s4, s5, s6, s7, s8, s9, s10⟩
    have o2 := s2.okk
    have o3 := s3.okk
    have o4 := s4.okk
    refine ⟨rfl, [sv (.scr ns), ov (boxD b), sv d, x3, x4, x5, x6, x7, x8, x9, x10], by walk_at "eh", ?_⟩
    clear eO k1 k2 k3 i4
    obtain ⟨T, b1, hT, lT, pT, e1⟩ := r_rows b 10 (by omega) (by omega)
    rw [show ((10 : Nat) : Int) = 10 from rfl] at e1
    have e2 := r_swap hT (by omega) (by omega) (rowsD T) (.inl rfl)
    have e3 := r_stands hT (by omega) (by omega) rfl
    walk_at "eh"
    refine W.forK (fun items e => ∃ b y5 y7 y8 y9 y10, e = [sv (.scr ns), ov (boxD b), sv d, sv (rowsD T), sv (swD (few T)), y5, x6, y7, y8, y9, y10] ∧ Sh y5 ∧ Sh y7 ∧ Sh y8 ∧ Sh y9 ∧ Sh y10) ⟨b1, x5, x7, x8, x9, x10, rfl, s5, s7, s8, s9, s10⟩ ?_ ?_
    · rintro e ⟨b2, y5, y7, y8, y9, y10, rfl, t5, t7, t8, t9, t10⟩
      refine ⟨rfl, ?_⟩
      obtain ⟨u, b3, bu, lu, f1⟩ := r_signs b2 60 (by omega)
      obtain ⟨v, b4, bv, lv, f2⟩ := r_signs b3 60 (by omega)
      rw [show ((60 : Nat) : Int) = 60 from rfl] at f1 f2
      have f3 := r_plain u v (by omega) (by omega) (by omega)
      have rp : Row 60 (can u v) := row_can bu bv (by omega) (by omega) (by omega)
      obtain ⟨a1, a2, a3, a4, g1, g2, g3, g4, g5⟩ := k11_look hT (by omega) rp
      have o6 := s6.okk
      clear e1 e2 hg
      walk_at "eh"
      exact W.ret (Aft.nx ⟨b4, _, _, _, _, _, _, _, _, _, rfl, Sh.sh _, Sh.sh _, Sh.sh _, t5, Sh.sh _, t7, t8, t9, t10⟩)
    · rintro d' ds' e ⟨b2, y5, y7, y8, y9, y10, rfl, t5, t7, t8, t9, t10⟩
      have v5 := t5.okk
      have v7 := t7.okk
      have v8 := t8.okk
      have v9 := t9.okk
      refine ⟨rfl, [sv (.scr ns), ov (boxD b2), sv d, sv (rowsD T), sv (swD (few T)), sv d', x6, y7, y8, y9, y10], by walk_at "eh", ?_⟩
      obtain ⟨p, b3, rp, f1⟩ := r_pair b2 7 (by omega) (by omega)
      obtain ⟨i, b4, hi, f2⟩ := r_draw b3 T.length pT (by omega)
      obtain ⟨w, b5, hw, f3⟩ := r_draw b4 2 (by omega) (by omega)
      rw [show ((7 : Nat) : Int) = 7 from rfl] at f1
      rw [show ((2 : Nat) : Int) = 2 from rfl] at f3
      have mi : T[i] ∈ T := List.getElem_mem hi
      have u1 : ixD (.lst (T.map rowD)) (.int (i : Int)) = some (rowD T[i]) := ixD_l (by rw [List.getElem?_map, List.getElem?_eq_getElem hi]; rfl)
      generalize T[i] = z at *
      have bz := hT.h.hd.bin z.1 (List.mem_map.mpr ⟨z, mi, rfl⟩)
      have lz := hT.h.hd.wl z.1 (List.mem_map.mpr ⟨z, mi, rfl⟩)
      have lp1 := rp.2.2.2.1
      have lp2 := rp.2.2.2.2
      have t0 := ix_t0 p.1 p.2
      have t1 := ix_t1 p.1 p.2
      -- the turn with the row that is asked
      have key : ∀ (q : Wd × Wd) (y9 y10 : Option Sl), Row 60 q → Sh y9 → Sh y10 → W (seq1 (sSeq (sG (eCallF [.sh] G__law_real (aCons (oE (eVar 7)) aNil)) (gN 9))
          (sFor (iR1 (eK (.int 2))) (gN 10) (sIf (eOr (eNot (eCall [.sh, .sh] G__law_is_row (aCons (oE (eMeth "Swap" "of" [.sh, .sh] G_Swap__of (eVar 4) (aCons (oE (eVar 9)) aNil))) (aCons (oE (eCall [.sh, .sh] G__law_goes (aCons (oE (eVar 3)) (aCons (oE (eVar 7)) aNil)))) aNil)))) (eNot (eCall [.sh, .sh] G__law_is_row (aCons (oE (eVar 9)) (aCons (oE (eVar 7)) aNil))))) (sRet (eK (.bl false))) sNil)))
          (.nx [sv (.scr ns), ov (boxD b5), sv d, sv (rowsD T), sv (swD (few T)), sv d', x6, sv (tupD q.1 q.2), sv (.str z.1), y9, y10])) fun o => ∃ y9 y10, o = .nx [sv (.scr ns), ov (boxD b5), sv d, sv (rowsD T), sv (swD (few T)), sv d', x6, sv (tupD q.1 q.2), sv (.str z.1), y9, y10] ∧ Sh y9 ∧ Sh y10 := fun q y9 y10 rq t9 t10 => by
        obtain ⟨a1, a2, a3, a4, g1, g2, g3, g4, g5⟩ := k11_look hT (by omega) rq
        have v9 := t9.okk
        clear f1 f2 f3 e1 e2 e3 u1 t0 t1 hg
        walk_at "eh"
        refine W.forL (fun items e => ∃ y10, e = [sv (.scr ns), ov (boxD b5), sv d, sv (rowsD T), sv (swD (few T)), sv d', x6, sv (tupD q.1 q.2), sv (.str z.1), sv (endD q.1 q.2), y10] ∧ Sh y10) ?_ ?_ _ _ ⟨y10, rfl, t10⟩
        · rintro e ⟨y10, rfl, t10⟩
          exact ⟨rfl, _, _, rfl, Sh.sh _, t10⟩
        · rintro d2 ds2 e ⟨y10, rfl, t10⟩
          have v10 := t10.okk
          refine ⟨rfl, [sv (.scr ns), ov (boxD b5), sv d, sv (rowsD T), sv (swD (few T)), sv d', x6, sv (tupD q.1 q.2), sv (.str z.1), sv (endD q.1 q.2), sv d2], by walk_at "eh", ?_⟩
          clear g5
          walk_at "eh"
          exact W.ret (Aft.nx ⟨_, rfl, Sh.sh _⟩)
      by_cases c : (w : Int) = 0
      · have c' : decide ((w : Int) = 0) = true := decide_eq_true c
        have a1 := addD_s z.1 p.1 (by omega)
        have a2 := r_plain (z.1 ++ p.1) p.2 rp.1.prim.1 (by omega) (by simp; omega)
        have rq : Row 60 (can (z.1 ++ p.1) p.2) := row_can (fun y hy => by
          rcases List.mem_append.mp hy with w | w
          · exact bz y w
          · exact rp.2.1 y w) rp.2.2.1 rp.1.prim.1 (by simp; omega) (by omega)
        have kk := key _ _ _ rq t9 t10
        generalize hK : sSeq (sG (eCallF [.sh] G__law_real _) _) _ = K at kk
        clear key c hg e1 e2 e3
        walk_at "eh"
        refine W.mono kk fun o ho => ?_
        obtain ⟨z9, z10, rfl, q9, q10⟩ := ho
        exact Aft.nx ⟨b5, _, _, _, _, _, rfl, Sh.sh _, Sh.sh _, Sh.sh _, q9, q10⟩
      · have kk := key _ _ _ (row_mono rp (by omega)) t9 t10
        generalize hK : sSeq (sG (eCallF [.sh] G__law_real _) _) _ = K at kk
        clear key hg e1 e2 e3
        walk_at "eh"
        refine W.mono kk fun o ho => ?_
        obtain ⟨z9, z10, rfl, q9, q10⟩ := ho
        exact Aft.nx ⟨b5, _, _, _, _, _, rfl, Sh.sh _, Sh.sh _, Sh.sh _, q9, q10⟩
end Lw
namespace Lw
open PySem PySem.Spec PyProof.Rows L2 Qd
def dd_is_signs : He.DefD := ⟨("is_signs", none), "is_signs", "is_signs", defArgs st_is_signs, defBody st_is_signs, defScope st_is_signs, [], []⟩
def dd_is_head : He.DefD := ⟨("is_head", none), "is_head", "is_head", defArgs st_is_head, defBody st_is_head, defScope st_is_head, [], []⟩
def dd_need_head : He.DefD := ⟨("need_head", none), "need_head", "need_head", defArgs st_need_head, defBody st_need_head, defScope st_need_head, [], []⟩
def dd_lacking : He.DefD := ⟨("lacking", none), "lacking", "lacking", defArgs st_lacking, defBody st_lacking, defScope st_lacking, [], []⟩
def dd_trouble : He.DefD := ⟨("trouble", none), "trouble", "trouble", defArgs st_trouble, defBody st_trouble, defScope st_trouble, [], []⟩
def dd_shortest_ring : He.DefD := ⟨("shortest_ring", none), "shortest_ring", "shortest_ring", defArgs st_shortest_ring, defBody st_shortest_ring, defScope st_shortest_ring, [], []⟩
def dd_Endless__settle : He.DefD := ⟨("Endless", some "settle"), "settle", "Endless.settle", defArgs st_Endless__settle, defBody st_Endless__settle, defScope st_Endless__settle, [], []⟩
def dd_Endless____init__ : He.DefD := ⟨("Endless", some "__init__"), "__init__", "Endless.__init__", defArgs st_Endless____init__, defBody st_Endless____init__, defScope st_Endless____init__, [], []⟩
def dd_Endless__head : He.DefD := ⟨("Endless", some "head"), "head", "Endless.head", defArgs st_Endless__head, defBody st_Endless__head, defScope st_Endless__head, [], []⟩
def dd_Endless__ring : He.DefD := ⟨("Endless", some "ring"), "ring", "Endless.ring", defArgs st_Endless__ring, defBody st_Endless__ring, defScope st_Endless__ring, [], []⟩
def dd_Endless__first : He.DefD := ⟨("Endless", some "first"), "first", "Endless.first", defArgs st_Endless__first, defBody st_Endless__first, defScope st_Endless__first, [], []⟩
def dd_row_of : He.DefD := ⟨("row_of", none), "row_of", "row_of", defArgs st_row_of, defBody st_row_of, defScope st_row_of, [], []⟩
def dd_Endless__later : He.DefD := ⟨("Endless", some "later"), "later", "Endless.later", defArgs st_Endless__later, defBody st_Endless__later, defScope st_Endless__later, [], []⟩
def dd_Endless__below : He.DefD := ⟨("Endless", some "below"), "below", "Endless.below", defArgs st_Endless__below, defBody st_Endless__below, defScope st_Endless__below, [], []⟩
def dd_Endless__begins : He.DefD := ⟨("Endless", some "begins"), "begins", "Endless.begins", defArgs st_Endless__begins, defBody st_Endless__begins, defScope st_Endless__begins, [], []⟩
def dd_fewest_rows : He.DefD := ⟨("fewest_rows", none), "fewest_rows", "fewest_rows", defArgs st_fewest_rows, defBody st_fewest_rows, defScope st_fewest_rows, [], []⟩
def dd_is_table : He.DefD := ⟨("is_table", none), "is_table", "is_table", defArgs st_is_table, defBody st_is_table, defScope st_is_table, [], []⟩
def dd_image : He.DefD := ⟨("image", none), "image", "image", defArgs st_image, defBody st_image, defScope st_image, [], []⟩
def dd_Swap____init__ : He.DefD := ⟨("Swap", some "__init__"), "__init__", "Swap.__init__", defArgs st_Swap____init__, defBody st_Swap____init__, defScope st_Swap____init__, [.adr (He.dflAt ("Swap", some "__init__") 0)], []⟩
def dd_Swap__rows : He.DefD := ⟨("Swap", some "rows"), "rows", "Swap.rows", defArgs st_Swap__rows, defBody st_Swap__rows, defScope st_Swap__rows, [], []⟩
def dd_Swap__of : He.DefD := ⟨("Swap", some "of"), "of", "Swap.of", defArgs st_Swap__of, defBody st_Swap__of, defScope st_Swap__of, [], []⟩
def dd_Swap____len__ : He.DefD := ⟨("Swap", some "__len__"), "__len__", "Swap.__len__", defArgs st_Swap____len__, defBody st_Swap____len__, defScope st_Swap____len__, [], []⟩
def dd__law_open : He.DefD := ⟨("_law_open", none), "_law_open", "_law_open", defArgs st__law_open, defBody st__law_open, defScope st__law_open, [], []⟩
def dd__law_draw : He.DefD := ⟨("_law_draw", none), "_law_draw", "_law_draw", defArgs st__law_draw, defBody st__law_draw, defScope st__law_draw, [], []⟩
def dd__law_int : He.DefD := ⟨("_law_int", none), "_law_int", "_law_int", defArgs st__law_int, defBody st__law_int, defScope st__law_int, [], []⟩
def dd__law_like : He.DefD := ⟨("_law_like", none), "_law_like", "_law_like", defArgs st__law_like, defBody st__law_like, defScope st__law_like, [], []⟩
def dd__law_signs : He.DefD := ⟨("_law_signs", none), "_law_signs", "_law_signs", defArgs st__law_signs, defBody st__law_signs, defScope st__law_signs, [], []⟩
def dd__law_cut : He.DefD := ⟨("_law_cut", none), "_law_cut", "_law_cut", defArgs st__law_cut, defBody st__law_cut, defScope st__law_cut, [], []⟩
def dd__law_mixed : He.DefD := ⟨("_law_mixed", none), "_law_mixed", "_law_mixed", defArgs st__law_mixed, defBody st__law_mixed, defScope st__law_mixed, [], []⟩
def dd__law_rows : He.DefD := ⟨("_law_rows", none), "_law_rows", "_law_rows", defArgs st__law_rows, defBody st__law_rows, defScope st__law_rows, [], []⟩
def dd__law_few : He.DefD := ⟨("_law_few", none), "_law_few", "_law_few", defArgs st__law_few, defBody st__law_few, defScope st__law_few, [], []⟩
def dd__law_plain : He.DefD := ⟨("_law_plain", none), "_law_plain", "_law_plain", defArgs st__law_plain, defBody st__law_plain, defScope st__law_plain, [], []⟩
def dd__law_first : He.DefD := ⟨("_law_first", none), "_law_first", "_law_first", defArgs st__law_first, defBody st__law_first, defScope st__law_first, [], []⟩
def dd__law_real : He.DefD := ⟨("_law_real", none), "_law_real", "_law_real", defArgs st__law_real, defBody st__law_real, defScope st__law_real, [], []⟩
def dd__law_is_row : He.DefD := ⟨("_law_is_row", none), "_law_is_row", "_law_is_row", defArgs st__law_is_row, defBody st__law_is_row, defScope st__law_is_row, [], []⟩
def dd__law_goes : He.DefD := ⟨("_law_goes", none), "_law_goes", "_law_goes", defArgs st__law_goes, defBody st__law_goes, defScope st__law_goes, [], []⟩
def dd__law_pair : He.DefD := ⟨("_law_pair", none), "_law_pair", "_law_pair", defArgs st__law_pair, defBody st__law_pair, defScope st__law_pair, [], []⟩
def dd__law_stands : He.DefD := ⟨("_law_stands", none), "_law_stands", "_law_stands", defArgs st__law_stands, defBody st__law_stands, defScope st__law_stands, [], []⟩
def dd_law : He.DefD := ⟨("law", none), "law", "law", defArgs st_law, defBody st_law, defScope st_law, [], []⟩
def fnL : List He.DefD := [dd_is_signs, dd_is_head, dd_need_head, dd_lacking, dd_trouble, dd_shortest_ring, dd_Endless__settle, dd_Endless____init__, dd_Endless__head, dd_Endless__ring, dd_Endless__first, dd_row_of, dd_Endless__later, dd_Endless__below, dd_Endless__begins, dd_fewest_rows, dd_is_table, dd_image, dd_Swap____init__, dd_Swap__rows, dd_Swap__of, dd_Swap____len__, dd__law_open, dd__law_draw, dd__law_int, dd__law_like, dd__law_signs, dd__law_cut, dd__law_mixed, dd__law_rows, dd__law_few, dd__law_plain, dd__law_first, dd__law_real, dd__law_is_row, dd__law_goes, dd__law_pair, dd__law_stands, dd_law]
def faL : List He.Fa := [.glo "is_signs", .glo "is_head", .glo "need_head", .glo "lacking", .glo "trouble", .glo "shortest_ring", .meth "Endless" "settle", .mkr "Endless", .glo "Endless", .meth "Endless" "head", .meth "Endless" "ring", .meth "Endless" "first", .glo "row_of", .meth "Endless" "later", .meth "Endless" "below", .meth "Endless" "begins", .glo "fewest_rows", .glo "is_table", .glo "image", .mkr "Swap", .glo "Swap", .meth "Swap" "rows", .meth "Swap" "of", .meth "Swap" "__len__", .glo "_law_open", .glo "_law_draw", .glo "_law_int", .glo "_law_like", .glo "_law_signs", .glo "_law_cut", .glo "_law_mixed", .glo "_law_rows", .glo "_law_few", .glo "_law_plain", .glo "_law_first", .glo "_law_real", .glo "_law_is_row", .glo "_law_goes", .glo "_law_pair", .glo "_law_stands", .glo "law", .free "all", .free "len", .free "any", .free "enumerate", .free "sorted", .free "zip", .free "max", .free "min", .free "range", .free "list", .free "int", .free "isinstance", .free "bool", .free "str", .free "tuple", .free "dict", .str "SIGNS" (S [48, 49]), .int "LONGEST" 60, .int "MOST_ROWS" 64, .cls "Endless", .cls "Swap", .noat "Endless" "begun", .noat "Endless" "round", .noat "Swap" "kept"]
def xfL : List XFa := [insB "Endless", insB "Swap", fun K => rpB K (.tup [.tup [.str [], .str []]]) (.ref (He.dflAt ("Swap", some "__init__") 0 K))]
abbrev Rw : PySem.W.OpenRow := PySem.W.OpenLaw.row PySem.Challenge.rw_headswap_k11_what_rows_go_to
abbrev hk : PySem.W.Hook := hookX 6 xfL faL fnL
def ob (s : PySem.W.SharedT) : AlX := obsX 6 xfL faL fnL (HandSHeadRun.getT s)
theorem ob_eq (s : PySem.W.SharedT) : ob s = hk.obs s.abs := obsX_eq (HandSHeadRun.getT_eq s)
theorem runH (w : World) : HandSHeadRun.RunEq Rw (PySem.W.view Rw.prog [52]) hk ob 6000 ((["_wall", "SwapError", "BadHead", "BadRing", "BadNumber", "BadTable", "TooGreat", "is_signs", "is_head", "need_head", "lacking", "trouble", "shortest_ring", "need_count", "Endless", "row_of", "fewest_rows", "is_table", "led", "behind", "image", "head_text", "rows_text", "swap_of", "Swap", "_law_open", "_law_draw", "_law_int", "_law_like", "_law_signs"] : List PySem.Str) ++ (["_law_cut", "_law_mixed", "_law_rows", "_law_few", "_law_plain", "_law_first", "_law_real", "_law_is_row", "_law_goes", "_law_pair", "_law_stands", "LONGEST", "SIGNS", "SHOWN", "MOST_SIGNS", "MOST_ROWS"] : List PySem.Str)) w := by
  intro os
  kernel_rfl
theorem facts {P : Program} {w : World} {K : PySem.W.Frag} {h : Heap} {mg : Str → Option Value} {f : Addr} (X : K.In h) (G : h.Ns mainGlobals mg) (hfa : mg ("law" : Str) = some (.ref f)) (c : SaysX xfL faL fnL K) :
    ∃ fd : FuncData, (∀ (s : Shared) (v : Value), BindsTo s fd ⟨[v], []⟩ [("_law_script", v)]) ∧ ∀ base : Heap, K.In base → base.Ns mainGlobals mg → FnOk P w K mg base CX0 10 f fd ["_law_script"] (spD K [.sh] G_law) := by
  obtain ⟨fd_is_signs, F_D_is_signs⟩ := c.2.def_ 0 (d := dd_is_signs) rfl
  have a_is_signs := He.glo_ok X G (c.2.fact 0 (f := .glo "is_signs") rfl)
  obtain ⟨fd_is_head, F_D_is_head⟩ := c.2.def_ 1 (d := dd_is_head) rfl
  have a_is_head := He.glo_ok X G (c.2.fact 1 (f := .glo "is_head") rfl)
  obtain ⟨fd_need_head, F_D_need_head⟩ := c.2.def_ 2 (d := dd_need_head) rfl
  have a_need_head := He.glo_ok X G (c.2.fact 2 (f := .glo "need_head") rfl)
  obtain ⟨fd_lacking, F_D_lacking⟩ := c.2.def_ 3 (d := dd_lacking) rfl
  have a_lacking := He.glo_ok X G (c.2.fact 3 (f := .glo "lacking") rfl)
  obtain ⟨fd_trouble, F_D_trouble⟩ := c.2.def_ 4 (d := dd_trouble) rfl
  have a_trouble := He.glo_ok X G (c.2.fact 4 (f := .glo "trouble") rfl)
  obtain ⟨fd_shortest_ring, F_D_shortest_ring⟩ := c.2.def_ 5 (d := dd_shortest_ring) rfl
  have a_shortest_ring := He.glo_ok X G (c.2.fact 5 (f := .glo "shortest_ring") rfl)
  obtain ⟨fd_Endless__settle, F_D_Endless__settle⟩ := c.2.def_ 6 (d := dd_Endless__settle) rfl
  have M_Endless__settle := He.meth_ok (c.2.fact 6 (f := .meth "Endless" "settle") rfl)
  obtain ⟨fd_Endless____init__, F_D_Endless____init__⟩ := c.2.def_ 7 (d := dd_Endless____init__) rfl
  have M_Endless____init__ := He.mkr_ok (c.2.fact 7 (f := .mkr "Endless") rfl)
  have a_Endless____init__ := He.glo_ok X G (c.2.fact 8 (f := .glo "Endless") rfl)
  obtain ⟨fd_Endless__head, F_D_Endless__head⟩ := c.2.def_ 8 (d := dd_Endless__head) rfl
  have M_Endless__head := He.meth_ok (c.2.fact 9 (f := .meth "Endless" "head") rfl)
  obtain ⟨fd_Endless__ring, F_D_Endless__ring⟩ := c.2.def_ 9 (d := dd_Endless__ring) rfl
  have M_Endless__ring := He.meth_ok (c.2.fact 10 (f := .meth "Endless" "ring") rfl)
  obtain ⟨fd_Endless__first, F_D_Endless__first⟩ := c.2.def_ 10 (d := dd_Endless__first) rfl
  have M_Endless__first := He.meth_ok (c.2.fact 11 (f := .meth "Endless" "first") rfl)
  obtain ⟨fd_row_of, F_D_row_of⟩ := c.2.def_ 11 (d := dd_row_of) rfl
  have a_row_of := He.glo_ok X G (c.2.fact 12 (f := .glo "row_of") rfl)
  obtain ⟨fd_Endless__later, F_D_Endless__later⟩ := c.2.def_ 12 (d := dd_Endless__later) rfl
  have M_Endless__later := He.meth_ok (c.2.fact 13 (f := .meth "Endless" "later") rfl)
  obtain ⟨fd_Endless__below, F_D_Endless__below⟩ := c.2.def_ 13 (d := dd_Endless__below) rfl
  have M_Endless__below := He.meth_ok (c.2.fact 14 (f := .meth "Endless" "below") rfl)
  obtain ⟨fd_Endless__begins, F_D_Endless__begins⟩ := c.2.def_ 14 (d := dd_Endless__begins) rfl
  have M_Endless__begins := He.meth_ok (c.2.fact 15 (f := .meth "Endless" "begins") rfl)
  obtain ⟨fd_fewest_rows, F_D_fewest_rows⟩ := c.2.def_ 15 (d := dd_fewest_rows) rfl
  have a_fewest_rows := He.glo_ok X G (c.2.fact 16 (f := .glo "fewest_rows") rfl)
  obtain ⟨fd_is_table, F_D_is_table⟩ := c.2.def_ 16 (d := dd_is_table) rfl
  have a_is_table := He.glo_ok X G (c.2.fact 17 (f := .glo "is_table") rfl)
  obtain ⟨fd_image, F_D_image⟩ := c.2.def_ 17 (d := dd_image) rfl
  have a_image := He.glo_ok X G (c.2.fact 18 (f := .glo "image") rfl)
  obtain ⟨fd_Swap____init__, F_D_Swap____init__⟩ := c.2.def_ 18 (d := dd_Swap____init__) rfl
  have M_Swap____init__ := He.mkr_ok (c.2.fact 19 (f := .mkr "Swap") rfl)
  have a_Swap____init__ := He.glo_ok X G (c.2.fact 20 (f := .glo "Swap") rfl)
  obtain ⟨fd_Swap__rows, F_D_Swap__rows⟩ := c.2.def_ 19 (d := dd_Swap__rows) rfl
  have M_Swap__rows := He.meth_ok (c.2.fact 21 (f := .meth "Swap" "rows") rfl)
  obtain ⟨fd_Swap__of, F_D_Swap__of⟩ := c.2.def_ 20 (d := dd_Swap__of) rfl
  have M_Swap__of := He.meth_ok (c.2.fact 22 (f := .meth "Swap" "of") rfl)
  obtain ⟨fd_Swap____len__, F_D_Swap____len__⟩ := c.2.def_ 21 (d := dd_Swap____len__) rfl
  have M_Swap____len__ := He.meth_ok (c.2.fact 23 (f := .meth "Swap" "__len__") rfl)
  obtain ⟨fd__law_open, F_D__law_open⟩ := c.2.def_ 22 (d := dd__law_open) rfl
  have a__law_open := He.glo_ok X G (c.2.fact 24 (f := .glo "_law_open") rfl)
  obtain ⟨fd__law_draw, F_D__law_draw⟩ := c.2.def_ 23 (d := dd__law_draw) rfl
  have a__law_draw := He.glo_ok X G (c.2.fact 25 (f := .glo "_law_draw") rfl)
  obtain ⟨fd__law_int, F_D__law_int⟩ := c.2.def_ 24 (d := dd__law_int) rfl
  have a__law_int := He.glo_ok X G (c.2.fact 26 (f := .glo "_law_int") rfl)
  obtain ⟨fd__law_like, F_D__law_like⟩ := c.2.def_ 25 (d := dd__law_like) rfl
  have a__law_like := He.glo_ok X G (c.2.fact 27 (f := .glo "_law_like") rfl)
  obtain ⟨fd__law_signs, F_D__law_signs⟩ := c.2.def_ 26 (d := dd__law_signs) rfl
  have a__law_signs := He.glo_ok X G (c.2.fact 28 (f := .glo "_law_signs") rfl)
  obtain ⟨fd__law_cut, F_D__law_cut⟩ := c.2.def_ 27 (d := dd__law_cut) rfl
  have a__law_cut := He.glo_ok X G (c.2.fact 29 (f := .glo "_law_cut") rfl)
  obtain ⟨fd__law_mixed, F_D__law_mixed⟩ := c.2.def_ 28 (d := dd__law_mixed) rfl
  have a__law_mixed := He.glo_ok X G (c.2.fact 30 (f := .glo "_law_mixed") rfl)
  obtain ⟨fd__law_rows, F_D__law_rows⟩ := c.2.def_ 29 (d := dd__law_rows) rfl
  have a__law_rows := He.glo_ok X G (c.2.fact 31 (f := .glo "_law_rows") rfl)
  obtain ⟨fd__law_few, F_D__law_few⟩ := c.2.def_ 30 (d := dd__law_few) rfl
  have a__law_few := He.glo_ok X G (c.2.fact 32 (f := .glo "_law_few") rfl)
  obtain ⟨fd__law_plain, F_D__law_plain⟩ := c.2.def_ 31 (d := dd__law_plain) rfl
  have a__law_plain := He.glo_ok X G (c.2.fact 33 (f := .glo "_law_plain") rfl)
  obtain ⟨fd__law_first, F_D__law_first⟩ := c.2.def_ 32 (d := dd__law_first) rfl
  have a__law_first := He.glo_ok X G (c.2.fact 34 (f := .glo "_law_first") rfl)
  obtain ⟨fd__law_real, F_D__law_real⟩ := c.2.def_ 33 (d := dd__law_real) rfl
  have a__law_real := He.glo_ok X G (c.2.fact 35 (f := .glo "_law_real") rfl)
  obtain ⟨fd__law_is_row, F_D__law_is_row⟩ := c.2.def_ 34 (d := dd__law_is_row) rfl
  have a__law_is_row := He.glo_ok X G (c.2.fact 36 (f := .glo "_law_is_row") rfl)
  obtain ⟨fd__law_goes, F_D__law_goes⟩ := c.2.def_ 35 (d := dd__law_goes) rfl
  have a__law_goes := He.glo_ok X G (c.2.fact 37 (f := .glo "_law_goes") rfl)
  obtain ⟨fd__law_pair, F_D__law_pair⟩ := c.2.def_ 36 (d := dd__law_pair) rfl
  have a__law_pair := He.glo_ok X G (c.2.fact 38 (f := .glo "_law_pair") rfl)
  obtain ⟨fd__law_stands, F_D__law_stands⟩ := c.2.def_ 37 (d := dd__law_stands) rfl
  have a__law_stands := He.glo_ok X G (c.2.fact 39 (f := .glo "_law_stands") rfl)
  obtain ⟨fd_law, F_D_law⟩ := c.2.def_ 38 (d := dd_law) rfl
  have a_law := He.glo_ok X G (c.2.fact 40 (f := .glo "law") rfl)
  have e := hfa.symm.trans a_law
  cases e
  have gm : Gm K mg := ⟨He.free_ok X G (c.2.fact 41 (f := .free "all") rfl), He.free_ok X G (c.2.fact 42 (f := .free "len") rfl), He.free_ok X G (c.2.fact 43 (f := .free "any") rfl), He.free_ok X G (c.2.fact 44 (f := .free "enumerate") rfl), He.free_ok X G (c.2.fact 45 (f := .free "sorted") rfl), He.free_ok X G (c.2.fact 46 (f := .free "zip") rfl), He.free_ok X G (c.2.fact 47 (f := .free "max") rfl), He.free_ok X G (c.2.fact 48 (f := .free "min") rfl), He.free_ok X G (c.2.fact 49 (f := .free "range") rfl), He.free_ok X G (c.2.fact 50 (f := .free "list") rfl), He.free_ok X G (c.2.fact 51 (f := .free "int") rfl), He.free_ok X G (c.2.fact 52 (f := .free "isinstance") rfl), He.free_ok X G (c.2.fact 53 (f := .free "bool") rfl), He.free_ok X G (c.2.fact 54 (f := .free "str") rfl), He.free_ok X G (c.2.fact 55 (f := .free "tuple") rfl), He.free_ok X G (c.2.fact 56 (f := .free "dict") rfl), He.str_ok X G (c.2.fact 57 (f := .str "SIGNS" (S [48, 49])) rfl), He.int_ok X G (c.2.fact 58 (f := .int "LONGEST" 60) rfl), He.int_ok X G (c.2.fact 59 (f := .int "MOST_ROWS" 64) rfl), He.cls_ok (c.2.fact 60 (f := .cls "Endless") rfl), He.cls_ok (c.2.fact 61 (f := .cls "Swap") rfl), He.noat_ok (c.2.fact 62 (f := .noat "Endless" "begun") rfl), He.noat_ok (c.2.fact 63 (f := .noat "Endless" "round") rfl), He.noat_ok (c.2.fact 64 (f := .noat "Swap" "kept") rfl), He.glo_ok X G (c.2.fact 8 (f := .glo "Endless") rfl), He.glo_ok X G (c.2.fact 20 (f := .glo "Swap") rfl), insB_ok (He.cls_ok (c.2.fact 60 (f := .cls "Endless") rfl)) (c.x 0 (f := insB "Endless") rfl), insB_ok (He.cls_ok (c.2.fact 61 (f := .cls "Swap") rfl)) (c.x 1 (f := insB "Swap") rfl)⟩
  have b := FunD.bindsA (ps := ["_law_script"]) F_D_law fun _ _ _ _ _ _ us hl => match us, hl with | [_], _ => rfl
  refine ⟨fd_law, fun s v => b s [v] rfl, fun base _ _ => ?_⟩
  have c_is_signs : Kn P w K mg base 1 "is_signs" [.sh] G_is_signs := ok_is_signs (k := 0) gm F_D_is_signs a_is_signs 
  have c_is_head : Kn P w K mg base 2 "is_head" [.sh] G_is_head := ok_is_head (k := 1) gm F_D_is_head a_is_head (c_is_signs.mono (by decide))
  have c_need_head : Kn P w K mg base 3 "need_head" [.sh] G_need_head := ok_need_head (k := 2) gm F_D_need_head a_need_head (c_is_head.mono (by decide))
  have c_lacking : Kn P w K mg base 1 "lacking" [.sh] G_lacking := ok_lacking (k := 0) gm F_D_lacking a_lacking 
  have c_trouble : Kn P w K mg base 2 "trouble" [.sh] G_trouble := ok_trouble (k := 1) gm F_D_trouble a_trouble (c_lacking.mono (by decide))
  have c_shortest_ring : Kn P w K mg base 1 "shortest_ring" [.sh] G_shortest_ring := ok_shortest_ring (k := 0) gm F_D_shortest_ring a_shortest_ring 
  have c_Endless__settle : Km P w K mg base 2 "Endless" "settle" [.pn, .sh, .sh] G_Endless__settle := ok_Endless__settle (k := 1) gm F_D_Endless__settle M_Endless__settle (c_shortest_ring.mono (by decide))
  have c_Endless____init__ : Kc P w K mg base 4 "Endless" [.sh, .sh] G_Endless____init__ := ok_Endless____init__ (k := 3) gm F_D_Endless____init__ a_Endless____init__ M_Endless____init__ (c_need_head.mono (by decide)) (c_Endless__settle.mono (by decide))
  have c_Endless__head : Km P w K mg base 1 "Endless" "head" [.sh] G_Endless__head := ok_Endless__head (k := 0) gm F_D_Endless__head M_Endless__head 
  have c_Endless__ring : Km P w K mg base 1 "Endless" "ring" [.sh] G_Endless__ring := ok_Endless__ring (k := 0) gm F_D_Endless__ring M_Endless__ring 
  have c_Endless__first : Km P w K mg base 1 "Endless" "first" [.sh, .sh] G_Endless__first := ok_Endless__first (k := 0) gm F_D_Endless__first M_Endless__first 
  have c_row_of : Kn P w K mg base 6 "row_of" [.sh, .sh] G_row_of := ok_row_of (k := 4) gm F_D_row_of a_row_of (c_Endless____init__.mono (by decide)) (c_Endless__settle.mono (by decide))
  have c_Endless__later : Km P w K mg base 7 "Endless" "later" [.sh, .sh] G_Endless__later := ok_Endless__later (k := 6) gm F_D_Endless__later M_Endless__later (c_row_of.mono (by decide))
  have c_Endless__below : Km P w K mg base 7 "Endless" "below" [.sh, .sh] G_Endless__below := ok_Endless__below (k := 6) gm F_D_Endless__below M_Endless__below (c_row_of.mono (by decide))
  have c_Endless__begins : Km P w K mg base 2 "Endless" "begins" [.sh, .sh] G_Endless__begins := ok_Endless__begins (k := 1) gm F_D_Endless__begins M_Endless__begins (c_Endless__first.mono (by decide))
  have c_fewest_rows : Kn P w K mg base 1 "fewest_rows" [.sh] G_fewest_rows := ok_fewest_rows (k := 0) gm F_D_fewest_rows a_fewest_rows 
  have c_is_table : Kn P w K mg base 3 "is_table" [.sh] G_is_table := ok_is_table (k := 2) gm F_D_is_table a_is_table (c_trouble.mono (by decide))
  have c_image : Kn P w K mg base 8 "image" [.sh, .sh] G_image := ok_image (k := 7) gm F_D_image a_image (c_Endless__begins.mono (by decide)) (c_Endless__later.mono (by decide)) (c_Endless__below.mono (by decide))
  have c_Swap____init__ : Kc P w K mg base 4 "Swap" [.sh] G_Swap____init__ := ok_Swap____init__ (k := 3) gm F_D_Swap____init__ a_Swap____init__ M_Swap____init__ (c_need_head.mono (by decide)) (c_is_table.mono (by decide)) (c_fewest_rows.mono (by decide))
  have c_Swap____init0__ : Kc0 P w K mg base 4 "Swap" [.sh] [.tup [.tup [.str [], .str []]]] G_Swap____init0__ := ok_Swap____init0__ (k := 3) gm F_D_Swap____init__ a_Swap____init__ M_Swap____init__ (fun H => by simp only [Rps]; exact ⟨_, _, rfl, rpB_ok _ (c.x 2 (f := fun K => rpB K (.tup [.tup [.str [], .str []]]) (.ref (He.dflAt ("Swap", some "__init__") 0 K))) rfl) H, rfl⟩) (c_need_head.mono (by decide)) (c_is_table.mono (by decide)) (c_fewest_rows.mono (by decide))
  have c_Swap__rows : Km P w K mg base 1 "Swap" "rows" [.sh] G_Swap__rows := ok_Swap__rows (k := 0) gm F_D_Swap__rows M_Swap__rows 
  have c_Swap__of : Km P w K mg base 9 "Swap" "of" [.sh, .sh] G_Swap__of := ok_Swap__of (k := 8) gm F_D_Swap__of M_Swap__of (c_image.mono (by decide))
  have c_Swap____len__ : Km P w K mg base 1 "Swap" "__len__" [.sh] G_Swap____len__ := ok_Swap____len__ (k := 0) gm F_D_Swap____len__ M_Swap____len__ 
  have c__law_open : Kn P w K mg base 1 "_law_open" [.sh] G__law_open := ok__law_open (k := 0) gm F_D__law_open a__law_open 
  have c__law_draw : Kn P w K mg base 1 "_law_draw" [.pn, .sh] G__law_draw := ok__law_draw (k := 0) gm F_D__law_draw a__law_draw 
  have c__law_int : Kn P w K mg base 1 "_law_int" [.sh] G__law_int := ok__law_int (k := 0) gm F_D__law_int a__law_int 
  have c__law_like : Kn P w K mg base 6 "_law_like" [.sh, .sh] G__law_like := by
    refine Kn.recur (m := 1) (Kn.none a__law_like F_D__law_like.kp (F_D__law_like.bindsN (ps := ["_law_found", "_law_due"]) fun _ _ _ _ _ _ us hl => match us, hl with | [_, _], _ => rfl)) (fun k g hk C => ?_) 5
    exact ok__law_like gm F_D__law_like a__law_like (c__law_int.mono (by omega)) C
  have c__law_signs : Kn P w K mg base 2 "_law_signs" [.pn, .sh] G__law_signs := ok__law_signs (k := 1) gm F_D__law_signs a__law_signs (c__law_draw.mono (by decide))
  have c__law_cut : Kn P w K mg base 2 "_law_cut" [.pn, .sh] G__law_cut := ok__law_cut (k := 1) gm F_D__law_cut a__law_cut (c__law_draw.mono (by decide))
  have c__law_mixed : Kn P w K mg base 2 "_law_mixed" [.pn, .sh] G__law_mixed := ok__law_mixed (k := 1) gm F_D__law_mixed a__law_mixed (c__law_draw.mono (by decide))
  have c__law_rows : Kn P w K mg base 3 "_law_rows" [.pn, .sh] G__law_rows := ok__law_rows (k := 2) gm F_D__law_rows a__law_rows (c__law_draw.mono (by decide)) (c__law_cut.mono (by decide)) (c__law_mixed.mono (by decide))
  have c__law_few : Kn P w K mg base 1 "_law_few" [.sh] G__law_few := ok__law_few (k := 0) gm F_D__law_few a__law_few 
  have c__law_plain : Kn P w K mg base 1 "_law_plain" [.sh, .sh] G__law_plain := ok__law_plain (k := 0) gm F_D__law_plain a__law_plain 
  have c__law_first : Kn P w K mg base 1 "_law_first" [.sh, .sh] G__law_first := ok__law_first (k := 0) gm F_D__law_first a__law_first 
  have c__law_real : Kn P w K mg base 6 "_law_real" [.sh] G__law_real := ok__law_real (k := 4) gm F_D__law_real a__law_real (c_Endless____init__.mono (by decide))
  have c__law_is_row : Kn P w K mg base 7 "_law_is_row" [.sh, .sh] G__law_is_row := ok__law_is_row (k := 6) gm F_D__law_is_row a__law_is_row (c__law_plain.mono (by decide)) (c_Endless__ring.mono (by decide)) (c_Endless__head.mono (by decide)) (c__law_like.mono (by decide))
  have c__law_goes : Kn P w K mg base 2 "_law_goes" [.sh, .sh] G__law_goes := ok__law_goes (k := 1) gm F_D__law_goes a__law_goes (c__law_first.mono (by decide)) (c__law_plain.mono (by decide))
  have c__law_pair : Kn P w K mg base 3 "_law_pair" [.pn, .sh] G__law_pair := ok__law_pair (k := 2) gm F_D__law_pair a__law_pair (c__law_draw.mono (by decide)) (c__law_signs.mono (by decide)) (c__law_plain.mono (by decide))
  have c__law_stands : Kn P w K mg base 7 "_law_stands" [.sh, .sh] G__law_stands := ok__law_stands (k := 5) gm F_D__law_stands a__law_stands (c__law_few.mono (by decide)) (c_Swap____len__.mono (by decide)) (c_Swap__rows.mono (by decide)) (c__law_like.mono (by decide))
  exact ok_law (k := 8) gm F_D_law a_law (c__law_open.mono (by decide)) (c__law_rows.mono (by decide)) (c_Swap____init__.mono (by decide)) (c__law_pair.mono (by decide)) (c__law_draw.mono (by decide)) (c__law_plain.mono (by decide)) (c__law_real.mono (by decide)) (c__law_goes.mono (by decide)) (c_Swap__of.mono (by decide)) (c__law_is_row.mono (by decide)) (c__law_signs.mono (by decide)) (c__law_stands.mono (by decide)) (c_Endless____init__.mono (by decide)) (c_Swap____init0__.mono (by decide))
end Lw
open PySem PySem.W PySem.Calls PyProof.Rows Lw Qd
theorem PySem.Challenge.cw_headswap_k11_what_rows_go_to_holds : PySem.Challenge.rw_headswap_k11_what_rows_go_to.Holds := by
  w_on; o_law
  refine HandSHeadRun.head_any (r := OpenLaw.row PySem.Challenge.rw_headswap_k11_what_rows_go_to) (q := view (OpenLaw.row PySem.Challenge.rw_headswap_k11_what_rows_go_to).prog [52]) (H := Lw.hk) (ob := Lw.ob) (M := 6000) (loose := ((["_wall", "SwapError", "BadHead", "BadRing", "BadNumber", "BadTable", "TooGreat", "is_signs", "is_head", "need_head", "lacking", "trouble", "shortest_ring", "need_count", "Endless", "row_of", "fewest_rows", "is_table", "led", "behind", "image", "head_text", "rows_text", "swap_of", "Swap", "_law_open", "_law_draw", "_law_int", "_law_like", "_law_signs"] : List PySem.Str) ++ (["_law_cut", "_law_mixed", "_law_rows", "_law_few", "_law_plain", "_law_first", "_law_real", "_law_is_row", "_law_goes", "_law_pair", "_law_stands", "LONGEST", "SIGNS", "SHOWN", "MOST_SIGNS", "MOST_ROWS"] : List PySem.Str))) (d := HandSHeadRun.topDef (OpenLaw.row PySem.Challenge.rw_headswap_k11_what_rows_go_to).prog 52) (kwd := []) Lw.ob_eq
    (by kernel_rfl) (fun s => by kernel_rfl) Lw.runH (by kernel_rfl) (by kernel_rfl) (by kernel_rfl) (by rfl) (by first | assumption | decide +kernel) (by decide +kernel) ⟨rfl, rfl, rfl, rfl, rfl, by decide +kernel⟩ ?hw ?hc
  case hw => w_witness2
  case hc =>
    refine L2.walk_ofE (l := PySem.Challenge.rw_headswap_k11_what_rows_go_to) (n := 63) (k := 10) (x := "_law_script") (CX := L2.CX0) rfl (by decide) (by kernel_rfl) ⟨rfl, by decide, by decide⟩ ?F (fun _ _ _ _ z => z)
    intro w mg fa h Y G hmg0
    obtain ⟨K, KX, c⟩ := Y
    have hmg : mg ("law" : PySem.Str) = some (.ref fa) := by
      have e : (HandSHeadRun.topDef (OpenLaw.row PySem.Challenge.rw_headswap_k11_what_rows_go_to).prog 52).name = ("law" : PySem.Str) := by kernel_rfl
      rw [← e]
      exact hmg0
    obtain ⟨fd, hb, hF⟩ := Lw.facts (P := (PySem.Challenge.rw_headswap_k11_what_rows_go_to).prog) (w := w) KX G hmg c
    exact ⟨K, fd, Qd.spD K [.sh] Lw.G_law, KX, hb, fun H a ns hl _ hS => Qd.spD_script ns hS (Lw.law_run ns), hF⟩
