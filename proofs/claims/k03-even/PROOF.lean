import PyProof.Rows.All
import Wide.All
import OpenK.AllK
import Wide.FinOn
import KE.KStateDown
import HandS.Head0
import HandS.Head1
import HandS.Head2
import HandS.ForMost
import HandS.ForExc
import HandS.IsInst
import HandS.Conv
import HandS.Style
import HandS.Defaults
import HandS.MakeKw
import HandS.ClsMeth
import HandS.Wide
import HandS.HeadHook1
import HandS.HeadHook2
import HandS.HeadEnd
import KE.KTupSum
import PySem.Challenge.RW_evenbend_k03_whole_even
set_option Elab.async false
set_option linter.all false
set_option maxRecDepth 100000
set_option maxHeartbeats 4000000
namespace Eb
open PySem PySem.Spec PyProof.Rows L2 He

/-! Data: Python values as plain data, how a heap bears them, and what readings give of them. -/

/-- plain data; scr: the script; ins: an instance of the class at C, the names and the values of its fields -/
inductive D where
  | non | bl (b : Bool) | int (i : Int) | str (x : Str) | ref (a : Addr) | ty (n : String)
  | scr (ns : List Int)
  | lst (ds : List D) | tup (ds : List D)
  | ins (C : Addr) (ns : List Str) (ds : List D)

mutual
inductive Rep (K : PySem.W.Frag) (H : Hp) : D → V → Prop
  | non : Rep K H .non .non
  | bl (b : Bool) : Rep K H (.bl b) (.bl b)
  | int (i : Int) : Rep K H (.int i) (.int i)
  | str (x : Str) : Rep K H (.str x) (.str x)
  | ref (a : Addr) : Rep K H (.ref a) (.ref a)
  | ty (n : String) : Rep K H (.ty n) (.ty n)
  | scr {a : Addr} {ns : List Int} (h : SqL K H a (ns.map V.int)) : Rep K H (.scr ns) (.ref a)
  | lst {a : Addr} {ds : List D} {vs : List V} (h : H a = some (.lst vs)) (r : Reps K H ds vs) : Rep K H (.lst ds) (.ref a)
  | tup {a : Addr} {ds : List D} {vs : List V} (h : H a = some (.tup vs)) (r : Reps K H ds vs) : Rep K H (.tup ds) (.ref a)
  | ins {a C dx : Addr} {ns : List Str} {ds : List D} {vs : List V} (h : H a = some (.ins C dx (ns.zip vs))) (hl : ns.length = vs.length) (r : Reps K H ds vs) : Rep K H (.ins C ns ds) (.ref a)
inductive Reps (K : PySem.W.Frag) (H : Hp) : List D → List V → Prop
  | nil : Reps K H [] []
  | cons {d : D} {v : V} {ds : List D} {vs : List V} (h : Rep K H d v) (t : Reps K H ds vs) : Reps K H (d :: ds) (v :: vs)
end

section
variable {K : PySem.W.Frag} {H H' : Hp}
mutual
theorem Rep.mono (e : Same H H') : ∀ (d : D) (v : V), Rep K H d v → Rep K H' d v
  | .non, _, h => by cases h; exact .non
  | .bl b, _, h => by cases h; exact .bl b
  | .int i, _, h => by cases h; exact .int i
  | .str x, _, h => by cases h; exact .str x
  | .ref a, _, h => by cases h; exact .ref a
  | .ty n, _, h => by cases h; exact .ty n
  | .scr ns, _, h => by
    cases h with
    | scr h => exact .scr (e.seq h)
  | .lst ds, _, h => by
    cases h with
    | lst h r => exact .lst (e _ _ h) (Reps.mono e ds _ r)
  | .tup ds, _, h => by
    cases h with
    | tup h r => exact .tup (e _ _ h) (Reps.mono e ds _ r)
  | .ins C ns ds, _, h => by
    cases h with
    | ins h hl r => exact .ins (e _ _ h) hl (Reps.mono e ds _ r)
theorem Reps.mono (e : Same H H') : ∀ (ds : List D) (vs : List V), Reps K H ds vs → Reps K H' ds vs
  | [], _, h => by cases h; exact .nil
  | d :: ds, _, h => by
    cases h with
    | cons h t => exact .cons (Rep.mono e d _ h) (Reps.mono e ds _ t)
end
theorem Rep.up {d : D} {v : V} (h : Rep K H d v) (e : Same H H') : Rep K H' d v := Rep.mono e d v h
theorem Reps.up {ds : List D} {vs : List V} (h : Reps K H ds vs) (e : Same H H') : Reps K H' ds vs := Reps.mono e ds vs h
theorem Reps.len : ∀ {ds : List D} {vs : List V}, Reps K H ds vs → ds.length = vs.length
  | [], _, h => by cases h; rfl
  | d :: ds, _, h => by
    cases h with
    | cons h t => simp [Reps.len t]
theorem Reps.get : ∀ {ds : List D} {vs : List V} {i : Nat} {d : D}, Reps K H ds vs → ds[i]? = some d → ∃ v, vs[i]? = some v ∧ Rep K H d v
  | [], _, i, d, h, e => by simp at e
  | d' :: ds, _, 0, d, h, e => by
    cases h with
    | cons h t =>
      simp at e
      subst e
      exact ⟨_, rfl, h⟩
  | d' :: ds, _, i + 1, d, h, e => by
    cases h with
    | cons h t =>
      obtain ⟨v, h1, h2⟩ := Reps.get (i := i) (d := d) t (by simpa using e)
      exact ⟨v, by simpa using h1, h2⟩
theorem Reps.getV : ∀ {ds : List D} {vs : List V} {i : Nat} {v : V}, Reps K H ds vs → vs[i]? = some v → ∃ d, ds[i]? = some d ∧ Rep K H d v
  | [], _, i, v, h, e => by cases h; simp at e
  | d' :: ds, _, 0, v, h, e => by
    cases h with
    | cons h t =>
      simp at e
      subst e
      exact ⟨_, rfl, h⟩
  | d' :: ds, _, i + 1, v, h, e => by
    cases h with
    | cons h t =>
      obtain ⟨d, h1, h2⟩ := Reps.getV (i := i) (v := v) t (by simpa using e)
      exact ⟨d, by simpa using h1, h2⟩
theorem Reps.app : ∀ {ds es : List D} {vs ws : List V}, Reps K H ds vs → Reps K H es ws → Reps K H (ds ++ es) (vs ++ ws)
  | [], _, _, _, h, g => by cases h; exact g
  | d :: ds, _, _, _, h, g => by
    cases h with
    | cons h t => exact .cons h (Reps.app t g)
theorem Reps.set {x : D} {u : V} (r : Rep K H x u) : ∀ {ds : List D} {vs : List V} (i : Nat), Reps K H ds vs → Reps K H (ds.set i x) (vs.set i u)
  | [], _, _, h => by cases h; exact .nil
  | d :: ds, _, 0, h => by
    cases h with
    | cons h t => exact .cons r t
  | d :: ds, _, i + 1, h => by
    cases h with
    | cons h t => exact .cons h (Reps.set r i t)
theorem Reps.take : ∀ {ds : List D} {vs : List V} (i : Nat), Reps K H ds vs → Reps K H (ds.take i) (vs.take i)
  | [], _, _, h => by cases h; simp; exact .nil
  | d :: ds, _, 0, h => by cases h; exact .nil
  | d :: ds, _, i + 1, h => by
    cases h with
    | cons h t => exact .cons h (Reps.take i t)
theorem Reps.drop : ∀ {ds : List D} {vs : List V} (i : Nat), Reps K H ds vs → Reps K H (ds.drop i) (vs.drop i)
  | [], _, _, h => by cases h; simp; exact .nil
  | d :: ds, _, 0, h => h
  | d :: ds, _, i + 1, h => by
    cases h with
    | cons h t => exact Reps.drop i t
theorem Reps.rev {ds : List D} {vs : List V} (h : Reps K H ds vs) : Reps K H ds.reverse vs.reverse := by
  induction ds generalizing vs with
  | nil => cases h; exact .nil
  | cons d ds ih =>
    cases h with
    | cons h t =>
      rw [List.reverse_cons, List.reverse_cons]
      exact Reps.app (ih t) (.cons h .nil)
theorem Reps.ints : ∀ {ns : List Int} {vs : List V}, Reps K H (ns.map D.int) vs → vs = ns.map V.int
  | [], _, h => by cases h; rfl
  | n :: ns, _, h => by
    cases h with
    | cons h t =>
      cases h
      rw [Reps.ints t]
      rfl
theorem Reps.ofInts : ∀ (ns : List Int), Reps K H (ns.map D.int) (ns.map V.int)
  | [] => .nil
  | n :: ns => .cons (.int n) (Reps.ofInts ns)
theorem Reps.bls : ∀ {ns : List Bool} {vs : List V}, Reps K H (ns.map D.bl) vs → vs = ns.map V.bl
  | [], _, h => by cases h; rfl
  | n :: ns, _, h => by
    cases h with
    | cons h t =>
      cases h
      rw [Reps.bls t]
      rfl
theorem Reps.strs : ∀ {ns : List Str} {vs : List V}, Reps K H (ns.map D.str) vs → vs = ns.map V.str
  | [], _, h => by cases h; rfl
  | n :: ns, _, h => by
    cases h with
    | cons h t =>
      cases h
      rw [Reps.strs t]
      rfl
end

/-! ### how a base B within a heap H grows: new objects alone come to B; what H holds beside B stays beside -/
structure Ext (B H B2 H2 : Hp) : Prop where
  b : Same B B2
  h : Same H H2
  s : Same B2 H2
  f : ∀ a, H a ≠ none → B a = none → B2 a = none
theorem same_new {H : Hp} {p : Addr} {o : HO} (h : H p = none) : Same H (upd H p o) := fun b x e => by
  rw [upd_ne (ne_of_none e h)]
  exact e
theorem same_upd2 {B H : Hp} {p : Addr} {o : HO} (s : Same B H) : Same (upd B p o) (upd H p o) := fun b x e => by
  by_cases hb : b = p
  · subst hb
    rw [upd_same] at e ⊢
    exact e
  · rw [upd_ne hb] at e ⊢
    exact s b x e
theorem same_priv {B H : Hp} {p : Addr} {o : HO} (s : Same B H) (hb : B p = none) : Same B (upd H p o) := fun b x e => by
  rw [upd_ne (ne_of_none e hb)]
  exact s b x e
theorem Ext.refl {B H : Hp} (s : Same B H) : Ext B H B H := ⟨Same.refl _, Same.refl _, s, fun _ _ h => h⟩
theorem Ext.trans {B H B1 H1 B2 H2 : Hp} (x : Ext B H B1 H1) (y : Ext B1 H1 B2 H2) : Ext B H B2 H2 :=
  ⟨x.b.trans y.b, x.h.trans y.h, y.s, fun a ha hb => y.f a (by
    cases e : H a with
    | none => exact absurd e ha
    | some o => rw [x.h a o e]; exact fun z => nomatch z) (x.f a ha hb)⟩
theorem Ext.new {B H : Hp} {p : Addr} {o : HO} (s : Same B H) (hp : H p = none) : Ext B H (upd B p o) (upd H p o) :=
  ⟨same_new (s.free hp), same_new hp, same_upd2 s, fun a ha hb => by
    rw [upd_ne (fun e => ha (by rw [e]; exact hp))]
    exact hb⟩
/-- a new object beside the base -/
theorem Ext.priv {B H : Hp} {p : Addr} {o : HO} (s : Same B H) (hp : H p = none) : Ext B H B (upd H p o) :=
  ⟨Same.refl _, same_new hp, same_priv s (s.free hp), fun a _ hb => hb⟩
/-- what was put beside the base comes into it -/
theorem Ext.pub {B H B2 H2 : Hp} {p : Addr} {o : HO} (x : Ext B H B2 H2) (h0 : H p = none) (h2 : H2 p = some o) (hb : B2 p = none) : Ext B H (upd B2 p o) H2 :=
  ⟨fun a u e => by rw [upd_ne (ne_of_none e (x.b.free hb))]; exact x.b a u e, x.h, fun a u e => by
    by_cases ha : a = p
    · subst ha
      rw [upd_same] at e
      cases e
      exact h2
    · rw [upd_ne ha] at e
      exact x.s a u e, fun a ha hb' => by
    rw [upd_ne (fun e => ha (by rw [e]; exact h0))]
    exact x.f a ha hb'⟩
/-- an object beside the base, new since the anchor, is changed -/
theorem Ext.mut {B H B2 H2 : Hp} {p : Addr} {o : HO} (x : Ext B H B2 H2) (h0 : H p = none) (hb : B2 p = none) : Ext B H B2 (upd H2 p o) :=
  ⟨x.b, same_priv x.h h0, same_priv x.s hb, x.f⟩

/-! ### slots -/
inductive Slot where
  | no
  | p (d : D)
  /-- a list of the def's own -/
  | o (ds : List D)
  /-- an instance of the def's own -/
  | i (x dx C : Addr) (ns : List Str) (ds : List D)
  /-- a list that is lent: it stands beside the base and stays as it is -/
  | b (ds : List D)
abbrev Rho := List Slot
def isOwn : Option Slot → Prop
  | some (.o _) => True
  | some (.i _ _ _ _ _) => True
  | _ => False
structure RepS (K : PySem.W.Frag) (B0 H0 B H : Hp) (ρ : Rho) (σ : L2.St) : Prop where
  e : Ext B0 H0 B H
  len : ρ.length = σ.length
  pu : ∀ (i : Nat) (d : D), ρ[i]? = some (.p d) → ∃ v, σ[i]? = some (some v) ∧ Rep K B d v
  ow : ∀ (i : Nat) (ds : List D), ρ[i]? = some (.o ds) → ∃ a vs, σ[i]? = some (some (.ref a)) ∧ H0 a = none ∧ B a = none ∧ H a = some (.lst vs) ∧ Reps K B ds vs
  oi : ∀ (i : Nat) (a dx C : Addr) (ns : List Str) (ds : List D), ρ[i]? = some (.i a dx C ns ds) → ∃ vs, σ[i]? = some (some (.ref a)) ∧ H0 a = none ∧ B a = none ∧ H a = some (.ins C dx (ns.zip vs)) ∧ ns.length = vs.length ∧ Reps K B ds vs
  bo : ∀ (i : Nat) (ds : List D), ρ[i]? = some (.b ds) → ∃ a vs, σ[i]? = some (some (.ref a)) ∧ B a = none ∧ H0 a = some (.lst vs) ∧ Reps K B ds vs
  dj : ∀ (i j : Nat) (a : Addr), isOwn ρ[i]? → isOwn ρ[j]? → σ[i]? = some (some (.ref a)) → σ[j]? = some (some (.ref a)) → i = j
section
variable {K : PySem.W.Frag} {B0 H0 B H B2 H2 : Hp} {ρ : Rho} {σ : L2.St}
theorem RepS.s (r : RepS K B0 H0 B H ρ σ) : Same B H := r.e.s
theorem RepS.ext (r : RepS K B0 H0 B H ρ σ) (x : Ext B H B2 H2) : RepS K B0 H0 B2 H2 ρ σ where
  e := r.e.trans x
  len := r.len
  pu := fun i d h => let ⟨v, a, b⟩ := r.pu i d h; ⟨v, a, b.up x.b⟩
  ow := fun i ds h => by
    obtain ⟨a, vs, h1, h2, h3, h4, h5⟩ := r.ow i ds h
    exact ⟨a, vs, h1, h2, x.f a (by rw [h4]; exact fun z => nomatch z) h3, x.h _ _ h4, h5.up x.b⟩
  oi := fun i a dx C ns ds h => by
    obtain ⟨vs, h1, h2, h3, h4, h5, h6⟩ := r.oi i a dx C ns ds h
    exact ⟨vs, h1, h2, x.f a (by rw [h4]; exact fun z => nomatch z) h3, x.h _ _ h4, h5, h6.up x.b⟩
  bo := fun i ds h => by
    obtain ⟨a, vs, h1, h2, h3, h4⟩ := r.bo i ds h
    exact ⟨a, vs, h1, x.f a (by rw [r.e.h _ _ h3]; exact fun z => nomatch z) h2, h3, h4.up x.b⟩
  dj := r.dj
theorem getElem?_set_eq {α : Type} (l : List α) (i j : Nat) (x : α) : (l.set i x)[j]? = if i = j then (if i < l.length then some x else none) else l[j]? := by
  rw [List.getElem?_set]
/-- a slot takes a value of the base -/
theorem RepS.setP (r : RepS K B0 H0 B H ρ σ) (i : Nat) {d : D} {v : V} (h : Rep K B d v) : RepS K B0 H0 B H (ρ.set i (.p d)) (σ.set i (some v)) := by
  have own : ∀ (j : Nat), isOwn (ρ.set i (.p d))[j]? → i ≠ j ∧ isOwn ρ[j]? := fun j hj => by
    rw [getElem?_set_eq] at hj
    by_cases e : i = j
    · rw [if_pos e] at hj
      by_cases l : i < ρ.length
      · rw [if_pos l] at hj; exact hj.elim
      · rw [if_neg l] at hj; exact hj.elim
    · rw [if_neg e] at hj; exact ⟨e, hj⟩
  refine ⟨r.e, by simp [r.len], fun j d' h' => ?_, fun j ds h' => ?_, fun j b dx C ns ds h' => ?_, fun j ds h' => ?_, fun j k a hj hk h1 h2 => ?_⟩
  · rw [getElem?_set_eq] at h' ⊢
    by_cases e : i = j
    · rw [if_pos e] at h' ⊢
      by_cases l : i < ρ.length
      · rw [if_pos l] at h'
        have l2 : i < σ.length := by rw [← r.len]; exact l
        rw [if_pos l2]
        cases h'
        exact ⟨v, rfl, h⟩
      · rw [if_neg l] at h'; cases h'
    · rw [if_neg e] at h' ⊢
      exact r.pu j d' h'
  · obtain ⟨e, _⟩ := own j (by rw [h']; trivial)
    rw [getElem?_set_eq, if_neg e] at h' ⊢
    exact r.ow j ds h'
  · obtain ⟨e, _⟩ := own j (by rw [h']; trivial)
    rw [getElem?_set_eq, if_neg e] at h' ⊢
    exact r.oi j b dx C ns ds h'
  · rw [getElem?_set_eq] at h' ⊢
    by_cases e : i = j
    · rw [if_pos e] at h'
      by_cases l : i < ρ.length
      · rw [if_pos l] at h'; cases h'
      · rw [if_neg l] at h'; cases h'
    · rw [if_neg e] at h' ⊢
      exact r.bo j ds h'
  · obtain ⟨e1, o1⟩ := own j hj
    obtain ⟨e2, o2⟩ := own k hk
    rw [getElem?_set_eq, if_neg e1] at h1
    rw [getElem?_set_eq, if_neg e2] at h2
    exact r.dj j k a o1 o2 h1 h2
/-- a slot takes a new list of its own -/
theorem RepS.setO (r : RepS K B0 H0 B H ρ σ) (i : Nat) {ds : List D} {a : Addr} {vs : List V} (x : Ext B H B2 H2) (hn : H a = none) (hb : B2 a = none) (hh : H2 a = some (.lst vs)) (h : Reps K B2 ds vs) : RepS K B0 H0 B2 H2 (ρ.set i (.o ds)) (σ.set i (some (.ref a))) := by
  have r2 := r.ext x
  have na : ∀ (j : Nat), isOwn ρ[j]? → σ[j]? ≠ some (some (V.ref a)) := fun j hj q => by
    cases e : ρ[j]? with
    | none => rw [e] at hj; exact hj
    | some s =>
      cases s with
      | no => rw [e] at hj; exact hj
      | p d => rw [e] at hj; exact hj
      | o ds' =>
        obtain ⟨a', vs', h1, _, _, h4, _⟩ := r.ow j ds' e
        rw [h1] at q
        cases q
        rw [hn] at h4
        cases h4
      | i b dx C ns ds' =>
        obtain ⟨vs', h1, _, _, h4, _⟩ := r.oi j b dx C ns ds' e
        rw [h1] at q
        cases q
        rw [hn] at h4
        cases h4
      | b ds' => rw [e] at hj; exact hj
  refine ⟨r2.e, by simp [r.len], fun j d' h' => ?_, fun j ds' h' => ?_, fun j b dx C ns ds' h' => ?_, fun j ds' h' => ?_, fun j k a' hj hk h1 h2 => ?_⟩
  · rw [getElem?_set_eq] at h' ⊢
    by_cases e : i = j
    · rw [if_pos e] at h'
      by_cases l : i < ρ.length
      · rw [if_pos l] at h'; cases h'
      · rw [if_neg l] at h'; cases h'
    · rw [if_neg e] at h' ⊢
      exact r2.pu j d' h'
  · rw [getElem?_set_eq] at h' ⊢
    by_cases e : i = j
    · rw [if_pos e] at h' ⊢
      by_cases l : i < ρ.length
      · rw [if_pos l] at h'
        have l2 : i < σ.length := by rw [← r.len]; exact l
        rw [if_pos l2]
        cases h'
        exact ⟨a, vs, rfl, r.e.h.free hn, hb, hh, h⟩
      · rw [if_neg l] at h'; cases h'
    · rw [if_neg e] at h' ⊢
      exact r2.ow j ds' h'
  · rw [getElem?_set_eq] at h' ⊢
    by_cases e : i = j
    · rw [if_pos e] at h'
      by_cases l : i < ρ.length
      · rw [if_pos l] at h'; cases h'
      · rw [if_neg l] at h'; cases h'
    · rw [if_neg e] at h' ⊢
      exact r2.oi j b dx C ns ds' h'
  · rw [getElem?_set_eq] at h' ⊢
    by_cases e : i = j
    · rw [if_pos e] at h'
      by_cases l : i < ρ.length
      · rw [if_pos l] at h'; cases h'
      · rw [if_neg l] at h'; cases h'
    · rw [if_neg e] at h' ⊢
      exact r2.bo j ds' h'
  · rw [getElem?_set_eq] at hj hk h1 h2
    by_cases e1 : i = j
    · by_cases e2 : i = k
      · rw [← e1, ← e2]
      · rw [if_neg e2] at hk h2
        rw [if_pos e1] at h1
        by_cases l : i < σ.length
        · rw [if_pos l] at h1
          cases h1
          exact absurd h2 (na k hk)
        · rw [if_neg l] at h1; cases h1
    · rw [if_neg e1] at hj h1
      by_cases e2 : i = k
      · rw [if_pos e2] at h2
        by_cases l : i < σ.length
        · rw [if_pos l] at h2
          cases h2
          exact absurd h1 (na j hj)
        · rw [if_neg l] at h2; cases h2
      · rw [if_neg e2] at hk h2
        exact r.dj j k a' hj hk h1 h2
/-- slots are forgotten -/
def leS : Slot → Slot → Prop
  | .no, _ => True
  | a, b => a = b
def leR (ρ' ρ : Rho) : Prop := ρ'.length = ρ.length ∧ ∀ (i : Nat) (s : Slot), ρ'[i]? = some s → s = .no ∨ ρ[i]? = some s
theorem leR.refl (ρ : Rho) : leR ρ ρ := ⟨rfl, fun _ _ h => .inr h⟩
theorem leR.trans {a b c : Rho} (x : leR a b) (y : leR b c) : leR a c := ⟨x.1.trans y.1, fun i s h => by
  rcases x.2 i s h with h1 | h1
  · exact .inl h1
  · exact y.2 i s h1⟩
theorem RepS.weak {ρ' : Rho} (r : RepS K B0 H0 B H ρ σ) (l : leR ρ' ρ) : RepS K B0 H0 B H ρ' σ := by
  have own : ∀ (j : Nat), isOwn ρ'[j]? → isOwn ρ[j]? := fun j hj => by
    cases e : ρ'[j]? with
    | none => rw [e] at hj; exact hj.elim
    | some s =>
      rcases l.2 j s e with h | h
      · rw [e, h] at hj; exact hj.elim
      · rw [h]; rw [e] at hj; exact hj
  refine ⟨r.e, l.1.trans r.len, fun j d h => ?_, fun j ds h => ?_, fun j b dx C ns ds h => ?_, fun j ds h => ?_, fun j k a hj hk h1 h2 => r.dj j k a (own j hj) (own k hk) h1 h2⟩
  · rcases l.2 j _ h with h1 | h1
    · cases h1
    · exact r.pu j d h1
  · rcases l.2 j _ h with h1 | h1
    · cases h1
    · exact r.ow j ds h1
  · rcases l.2 j _ h with h1 | h1
    · cases h1
    · exact r.oi j b dx C ns ds h1
  · rcases l.2 j _ h with h1 | h1
    · cases h1
    · exact r.bo j ds h1
/-- an own list comes into the base -/
theorem RepS.pub {i : Nat} {ds : List D} (r : RepS K B0 H0 B H ρ σ) (hi : ρ[i]? = some (.o ds)) : ∃ B', RepS K B0 H0 B' H (ρ.set i (.p (.lst ds))) σ := by
  obtain ⟨a, vs, h1, h2, h3, h4, h5⟩ := r.ow i ds hi
  have li : i < ρ.length := (List.getElem?_eq_some_iff.mp hi).1
  have sb : Same B (upd B a (.lst vs)) := same_new h3
  have na : ∀ (j : Nat) (b : Addr), isOwn ρ[j]? → i ≠ j → σ[j]? = some (some (V.ref b)) → b ≠ a := fun j b hj ne q z => by
    subst z
    exact ne (r.dj i j b (by rw [hi]; trivial) hj h1 q)
  have own : ∀ (j : Nat), isOwn (ρ.set i (.p (.lst ds)))[j]? → i ≠ j ∧ isOwn ρ[j]? := fun j hj => by
    rw [getElem?_set_eq] at hj
    by_cases e : i = j
    · rw [if_pos e, if_pos li] at hj; exact hj.elim
    · rw [if_neg e] at hj; exact ⟨e, hj⟩
  refine ⟨upd B a (.lst vs), r.e.pub h2 h4 h3, by simp [r.len], fun j d h => ?_, fun j ds' h => ?_, fun j b dx C ns ds' h => ?_, fun j ds' h => ?_, fun j k b hj hk q1 q2 => ?_⟩
  · rw [getElem?_set_eq] at h
    by_cases e : i = j
    · subst e
      rw [if_pos rfl, if_pos li] at h
      cases h
      exact ⟨_, h1, .lst upd_same (h5.up sb)⟩
    · rw [if_neg e] at h
      obtain ⟨v, q1, q2⟩ := r.pu j d h
      exact ⟨v, q1, q2.up sb⟩
  · obtain ⟨e, o⟩ := own j (by rw [h]; trivial)
    rw [getElem?_set_eq, if_neg e] at h
    obtain ⟨b, ws, q1, q2, q3, q4, q5⟩ := r.ow j ds' h
    exact ⟨b, ws, q1, q2, by rw [upd_ne (na j b o e q1)]; exact q3, q4, q5.up sb⟩
  · obtain ⟨e, o⟩ := own j (by rw [h]; trivial)
    rw [getElem?_set_eq, if_neg e] at h
    obtain ⟨ws, q1, q2, q3, q4, q5, q6⟩ := r.oi j b dx C ns ds' h
    exact ⟨ws, q1, q2, by rw [upd_ne (na j b o e q1)]; exact q3, q4, q5, q6.up sb⟩
  · rw [getElem?_set_eq] at h
    by_cases e : i = j
    · rw [if_pos e, if_pos li] at h; cases h
    · rw [if_neg e] at h
      obtain ⟨b, ws, q1, q2, q3, q4⟩ := r.bo j ds' h
      exact ⟨b, ws, q1, by rw [upd_ne (ne_of_none q3 h2)]; exact q2, q3, q4.up sb⟩
  · exact r.dj j k b (own j hj).2 (own k hk).2 q1 q2
/-- an own object is changed -/
theorem RepS.mutO {i : Nat} {ds ds' : List D} {a : Addr} {ws : List V} (r : RepS K B0 H0 B H ρ σ) (hi : ρ[i]? = some (.o ds)) (ha : σ[i]? = some (some (.ref a))) (h : Reps K B ds' ws) : RepS K B0 H0 B (upd H a (.lst ws)) (ρ.set i (.o ds')) σ := by
  obtain ⟨a', vs, h1, h2, h3, h4, h5⟩ := r.ow i ds hi
  rw [ha] at h1
  cases h1
  have li : i < ρ.length := (List.getElem?_eq_some_iff.mp hi).1
  have na : ∀ (j : Nat) (b : Addr), isOwn ρ[j]? → i ≠ j → σ[j]? = some (some (V.ref b)) → b ≠ a := fun j b hj ne q z => by
    subst z
    exact ne (r.dj i j b (by rw [hi]; trivial) hj ha q)
  have own : ∀ (j : Nat), isOwn (ρ.set i (.o ds'))[j]? → isOwn ρ[j]? := fun j hj => by
    rw [getElem?_set_eq] at hj
    by_cases e : i = j
    · subst e; rw [hi]; trivial
    · rw [if_neg e] at hj; exact hj
  refine ⟨r.e.mut h2 h3, by simp [r.len], fun j d h' => ?_, fun j es h' => ?_, fun j b dx C ns es h' => ?_, fun j es h' => ?_, fun j k b hj hk q1 q2 => r.dj j k b (own j hj) (own k hk) q1 q2⟩
  · rw [getElem?_set_eq] at h'
    by_cases e : i = j
    · rw [if_pos e, if_pos li] at h'; cases h'
    · rw [if_neg e] at h'; exact r.pu j d h'
  · rw [getElem?_set_eq] at h'
    by_cases e : i = j
    · subst e
      rw [if_pos rfl, if_pos li] at h'
      cases h'
      exact ⟨a, ws, ha, h2, h3, upd_same, h⟩
    · rw [if_neg e] at h'
      obtain ⟨b, us, q1, q2, q3, q4, q5⟩ := r.ow j es h'
      exact ⟨b, us, q1, q2, q3, by rw [upd_ne (na j b (by rw [h']; trivial) e q1)]; exact q4, q5⟩
  · rw [getElem?_set_eq] at h'
    by_cases e : i = j
    · rw [if_pos e, if_pos li] at h'; cases h'
    · rw [if_neg e] at h'
      obtain ⟨us, q1, q2, q3, q4, q5, q6⟩ := r.oi j b dx C ns es h'
      exact ⟨us, q1, q2, q3, by rw [upd_ne (na j b (by rw [h']; trivial) e q1)]; exact q4, q5, q6⟩
  · rw [getElem?_set_eq] at h'
    by_cases e : i = j
    · rw [if_pos e, if_pos li] at h'; cases h'
    · rw [if_neg e] at h'
      exact r.bo j es h'
theorem RepS.mutI {i : Nat} {C dx a : Addr} {ns ns' : List Str} {ds ds' : List D} {ws : List V} (r : RepS K B0 H0 B H ρ σ) (hi : ρ[i]? = some (.i a dx C ns ds)) (hl : ns'.length = ws.length) (h : Reps K B ds' ws) : RepS K B0 H0 B (upd H a (.ins C dx (ns'.zip ws))) (ρ.set i (.i a dx C ns' ds')) σ := by
  obtain ⟨vs, ha, h2, h3, h4, _, h5⟩ := r.oi i a dx C ns ds hi
  have li : i < ρ.length := (List.getElem?_eq_some_iff.mp hi).1
  have na : ∀ (j : Nat) (b : Addr), isOwn ρ[j]? → i ≠ j → σ[j]? = some (some (V.ref b)) → b ≠ a := fun j b hj ne q z => by
    subst z
    exact ne (r.dj i j b (by rw [hi]; trivial) hj ha q)
  have own : ∀ (j : Nat), isOwn (ρ.set i (.i a dx C ns' ds'))[j]? → isOwn ρ[j]? := fun j hj => by
    rw [getElem?_set_eq] at hj
    by_cases e : i = j
    · subst e; rw [hi]; trivial
    · rw [if_neg e] at hj; exact hj
  refine ⟨r.e.mut h2 h3, by simp [r.len], fun j d h' => ?_, fun j es h' => ?_, fun j b dx' C' ns es h' => ?_, fun j es h' => ?_, fun j k b hj hk q1 q2 => r.dj j k b (own j hj) (own k hk) q1 q2⟩
  · rw [getElem?_set_eq] at h'
    by_cases e : i = j
    · rw [if_pos e, if_pos li] at h'; cases h'
    · rw [if_neg e] at h'; exact r.pu j d h'
  · rw [getElem?_set_eq] at h'
    by_cases e : i = j
    · rw [if_pos e, if_pos li] at h'; cases h'
    · rw [if_neg e] at h'
      obtain ⟨b, us, q1, q2, q3, q4, q5⟩ := r.ow j es h'
      exact ⟨b, us, q1, q2, q3, by rw [upd_ne (na j b (by rw [h']; trivial) e q1)]; exact q4, q5⟩
  · rw [getElem?_set_eq] at h'
    by_cases e : i = j
    · subst e
      rw [if_pos rfl, if_pos li] at h'
      cases h'
      exact ⟨ws, ha, h2, h3, upd_same, hl, h⟩
    · rw [if_neg e] at h'
      obtain ⟨us, q1, q2, q3, q4, q5, q6⟩ := r.oi j b dx' C' ns es h'
      exact ⟨us, q1, q2, q3, by rw [upd_ne (na j b (by rw [h']; trivial) e q1)]; exact q4, q5, q6⟩
  · rw [getElem?_set_eq] at h'
    by_cases e : i = j
    · rw [if_pos e, if_pos li] at h'; cases h'
    · rw [if_neg e] at h'
      exact r.bo j es h'
end

section
variable (K : PySem.W.Frag)
/-- the reading te gives d, in slots ρ -/
def EvD (te : TE) (ρ : Rho) (d : D) : Prop := ∀ B0 H0 B H σ, RepS K B0 H0 B H ρ σ → ∀ Q : VK, (∀ v B2 H2, Ext B H B2 H2 → Rep K B2 d v → Q v H2) → te σ H Q
/-- .. a new list of ds -/
def EvO (te : TE) (ρ : Rho) (ds : List D) : Prop := ∀ B0 H0 B H σ, RepS K B0 H0 B H ρ σ → ∀ Q : VK, (∀ a vs B2 H2, Ext B H B2 H2 → H a = none → B2 a = none → H2 a = some (.lst vs) → Reps K B2 ds vs → Q (.ref a) H2) → te σ H Q
def EvT (t : TT) (ρ : Rho) (b : Bool) : Prop := ∀ B0 H0 B H σ, RepS K B0 H0 B H ρ σ → ∀ Q : Bool → Hp → Prop, (∀ B2 H2, Ext B H B2 H2 → Q b H2) → t σ H Q
def EvA (ta : TA) (ρ : Rho) (ds : List D) : Prop := ∀ B0 H0 B H σ, RepS K B0 H0 B H ρ σ → ∀ Q : List V → Hp → Prop, (∀ vs B2 H2, Ext B H B2 H2 → Reps K B2 ds vs → Q vs H2) → ta σ H Q
def EvN (to : TO) (ρ : Rho) (o : Option Int) : Prop := ∀ B0 H0 B H σ, RepS K B0 H0 B H ρ σ → ∀ Q : Option Int → Hp → Prop, (∀ B2 H2, Ext B H B2 H2 → Q o H2) → to σ H Q
/-- by values -/
def Ok2 (r : R2) (x y z : D) : Prop := ∀ B H u v, Same B H → Rep K B x u → Rep K B y v → ∀ Q : VK, (∀ w B2 H2, Ext B H B2 H2 → Rep K B2 z w → Q w H2) → r u v H Q
def Ok2O (r : R2) (x y : D) (ds : List D) : Prop := ∀ B H u v, Same B H → Rep K B x u → Rep K B y v → ∀ Q : VK, (∀ a vs B2 H2, Ext B H B2 H2 → H a = none → B2 a = none → H2 a = some (.lst vs) → Reps K B2 ds vs → Q (.ref a) H2) → r u v H Q
def OkU (r : V → Hp → VK → Prop) (x z : D) : Prop := ∀ B H u, Same B H → Rep K B x u → ∀ Q : VK, (∀ w B2 H2, Ext B H B2 H2 → Rep K B2 z w → Q w H2) → r u H Q
def OkC (r : List V → Hp → VK → Prop) (xs : List D) (z : D) : Prop := ∀ B H us, Same B H → Reps K B xs us → ∀ Q : VK, (∀ w B2 H2, Ext B H B2 H2 → Rep K B2 z w → Q w H2) → r us H Q
def OkCO (r : List V → Hp → VK → Prop) (xs : List D) (ds : List D) : Prop := ∀ B H us, Same B H → Reps K B xs us → ∀ Q : VK, (∀ a vs B2 H2, Ext B H B2 H2 → H a = none → B2 a = none → H2 a = some (.lst vs) → Reps K B2 ds vs → Q (.ref a) H2) → r us H Q
/-- promises -/
def spD (R : List D → D → Prop) : Sp := fun vs H Q _ => ∃ B ds d, Same B H ∧ Reps K B ds vs ∧ R ds d ∧ ∀ v B2 H2, Ext B H B2 H2 → Rep K B2 d v → Q v H2
def spO (R : List D → List D → Prop) : Sp := fun vs H Q _ => ∃ B ds es, Same B H ∧ Reps K B ds vs ∧ R ds es ∧ ∀ a ws B2 H2, Ext B H B2 H2 → H a = none → B2 a = none → H2 a = some (.lst ws) → Reps K B2 es ws → Q (.ref a) H2
/-- __init__ of an instance of C at the first argument, its fields ns: ds; behind it ns': ds' -/
def spI (R : Addr → List Str → List D → List D → List Str → List D → Prop) : Sp := fun vs H Q _ => ∃ B H0 C x dx ns ds us es ns' ds' ws, vs = .ref x :: us ∧ Same B H0 ∧ Same H0 H ∧ H0 x = none ∧ H x = some (.ins C dx (ns.zip ws)) ∧ ns.length = ws.length ∧ Reps K B ds ws ∧ Reps K B es us ∧ R C ns ds es ns' ds' ∧
  ∀ B2 H2 zs, Ext B H0 B2 H2 → B2 x = none → H2 x = some (.ins C dx (ns'.zip zs)) → ns'.length = zs.length → Reps K B2 ds' zs → Q .non H2
end
section
variable {K : PySem.W.Frag} {ρ : Rho} {te ta tb tc : TE} {t u : TT} {d x y z : D}
theorem EvO.evd {ds : List D} (h : EvO K te ρ ds) : EvD K te ρ (.lst ds) := fun B0 H0 B H σ r Q q =>
  h B0 H0 B H σ r Q fun a vs B2 H2 e hn hb hh hr => q _ _ _ (e.pub hn hh hb) (.lst upd_same (hr.up (same_new hb)))
theorem evd_var {i : Nat} (h : ρ[i]? = some (.p d)) : EvD K (tVar i) ρ d := fun B0 H0 B H σ r Q q => by
  obtain ⟨v, h1, h2⟩ := r.pu i d h
  exact ⟨v, h1, q v B H (Ext.refl r.s) h2⟩
theorem evd_c {v : V} (h : ∀ B, Rep K B d v) : EvD K (tC v) ρ d := fun B0 H0 B H σ r Q q => q v B H (Ext.refl r.s) (h B)
theorem evd_int {i : Int} : EvD K (tC (.int i)) ρ (.int i) := evd_c fun _ => .int i
theorem evd_bl {b : Bool} : EvD K (tC (.bl b)) ρ (.bl b) := evd_c fun _ => .bl b
theorem evd_str {s : Str} : EvD K (tC (.str s)) ρ (.str s) := evd_c fun _ => .str s
theorem evd_non : EvD K (tC .non) ρ .non := evd_c fun _ => .non
theorem evd_ref {a : Addr} : EvD K (tC (.ref a)) ρ (.ref a) := evd_c fun _ => .ref a
theorem evd_ty {n : String} : EvD K (tC (.ty n)) ρ (.ty n) := evd_c fun _ => .ty n
theorem evd_op {r : R2} (ha : EvD K ta ρ x) (hb : EvD K tb ρ y) (hr : Ok2 K r x y z) : EvD K (tOp r ta tb) ρ z := fun B0 H0 B H σ rs Q q =>
  ha B0 H0 B H σ rs _ fun u B1 H1 e1 r1 => hb B0 H0 B1 H1 σ (rs.ext e1) _ fun v B2 H2 e2 r2 => hr B2 H2 u v e2.s (r1.up e2.b) r2 Q fun w B3 H3 e3 r3 => q w B3 H3 ((e1.trans e2).trans e3) r3
theorem evo_op {r : R2} {ds : List D} (ha : EvD K ta ρ x) (hb : EvD K tb ρ y) (hr : Ok2O K r x y ds) : EvO K (tOp r ta tb) ρ ds := fun B0 H0 B H σ rs Q q =>
  ha B0 H0 B H σ rs _ fun u B1 H1 e1 r1 => hb B0 H0 B1 H1 σ (rs.ext e1) _ fun v B2 H2 e2 r2 => hr B2 H2 u v e2.s (r1.up e2.b) r2 Q fun a vs B3 H3 e3 hn hb hh hs => q a vs B3 H3 ((e1.trans e2).trans e3) ((e1.trans e2).h.free hn) hb hh hs
theorem evd_un {r : V → Hp → VK → Prop} (ha : EvD K ta ρ x) (hr : OkU K r x z) : EvD K (tUn r ta) ρ z := fun B0 H0 B H σ rs Q q =>
  ha B0 H0 B H σ rs _ fun u B1 H1 e1 r1 => hr B1 H1 u e1.s r1 Q fun w B3 H3 e3 r3 => q w B3 H3 (e1.trans e3) r3
/-! ### by values -/
theorem ok_I0i {g : Int → Int → Int} {i j : Int} : Ok2 K (rI0 fun i j => .int (g i j)) (.int i) (.int j) (.int (g i j)) := fun B H u v s r1 r2 Q q => by
  cases r1; cases r2
  exact ⟨i, j, rfl, rfl, q _ B H (Ext.refl s) (.int _)⟩
theorem ok_I0b {g : Int → Int → Bool} {i j : Int} : Ok2 K (rI0 fun i j => .bl (g i j)) (.int i) (.int j) (.bl (g i j)) := fun B H u v s r1 r2 Q q => by
  cases r1; cases r2
  exact ⟨i, j, rfl, rfl, q _ B H (Ext.refl s) (.bl _)⟩
theorem ok_Ii {C : Int → Int → Prop} {g : Int → Int → Int} {i j : Int} (h : C i j) : Ok2 K (rI C fun i j => .int (g i j)) (.int i) (.int j) (.int (g i j)) := fun B H u v s r1 r2 Q q => by
  cases r1; cases r2
  exact ⟨i, j, rfl, rfl, h, q _ B H (Ext.refl s) (.int _)⟩
abbrev zAdd : R2 := rI0 fun i j => .int (i + j)
abbrev zSub : R2 := rI0 fun i j => .int (i - j)
abbrev zMul : R2 := rI CMul fun i j => .int (i * j)
abbrev zMulW : R2 := rI CMulW fun i j => .int (i * j)
abbrev zDiv : R2 := rI CDiv fun i j => .int (i / j)
abbrev zMod : R2 := rI (fun _ j => 0 < j) fun i j => .int (i % j)
abbrev zPow : R2 := rI CPow fun i j => .int (i ^ j.toNat)
abbrev zShr : R2 := rI (fun _ j => 0 ≤ j) fun i j => .int (i / 2 ^ j.toNat)
abbrev zAndB : R2 := rI0 fun i j => .int (Builtin.bitAnd i j)
abbrev zLt : R2 := rI0 fun i j => .bl (decide (i < j))
abbrev zLe : R2 := rI0 fun i j => .bl (decide (i ≤ j))
abbrev zGt : R2 := rI0 fun i j => .bl (decide (j < i))
abbrev zGe : R2 := rI0 fun i j => .bl (decide (j ≤ i))
abbrev zNeg : V → Hp → VK → Prop := rU fun i => .int (-i)
theorem ok_add {i j : Int} : Ok2 K zAdd (.int i) (.int j) (.int (i + j)) := ok_I0i (g := fun i j => i + j)
theorem ok_sub {i j : Int} : Ok2 K zSub (.int i) (.int j) (.int (i - j)) := ok_I0i (g := fun i j => i - j)
theorem ok_mul {i j : Int} (h : CMul i j) : Ok2 K zMul (.int i) (.int j) (.int (i * j)) := ok_Ii (g := fun i j => i * j) h
theorem ok_mulW {i j : Int} (h : CMulW i j) : Ok2 K zMulW (.int i) (.int j) (.int (i * j)) := ok_Ii (g := fun i j => i * j) h
theorem ok_div {i j : Int} (h : CDiv i j) : Ok2 K zDiv (.int i) (.int j) (.int (i / j)) := ok_Ii (g := fun i j => i / j) h
theorem ok_mod {i j : Int} (h : 0 < j) : Ok2 K zMod (.int i) (.int j) (.int (i % j)) := ok_Ii (C := fun _ j => 0 < j) (g := fun i j => i % j) h
theorem ok_pow {i j : Int} (h : CPow i j) : Ok2 K zPow (.int i) (.int j) (.int (i ^ j.toNat)) := ok_Ii (g := fun i j => i ^ j.toNat) h
theorem ok_shr {i j : Int} (h : 0 ≤ j) : Ok2 K zShr (.int i) (.int j) (.int (i / 2 ^ j.toNat)) := ok_Ii (C := fun _ j => 0 ≤ j) (g := fun i j => i / 2 ^ j.toNat) h
theorem ok_lt {i j : Int} : Ok2 K zLt (.int i) (.int j) (.bl (decide (i < j))) := ok_I0b (g := fun i j => decide (i < j))
theorem ok_le {i j : Int} : Ok2 K zLe (.int i) (.int j) (.bl (decide (i ≤ j))) := ok_I0b (g := fun i j => decide (i ≤ j))
theorem ok_gt {i j : Int} : Ok2 K zGt (.int i) (.int j) (.bl (decide (j < i))) := ok_I0b (g := fun i j => decide (j < i))
theorem ok_ge {i j : Int} : Ok2 K zGe (.int i) (.int j) (.bl (decide (j ≤ i))) := ok_I0b (g := fun i j => decide (j ≤ i))
theorem ok_neg {i : Int} : OkU K zNeg (.int i) (.int (-i)) := fun B H u s r Q q => by
  cases r
  exact ⟨i, rfl, q _ B H (Ext.refl s) (.int _)⟩
/-! == of data -/
mutual
def pd : D → Option PyData
  | .non => some .none
  | .bl b => some (.bool b)
  | .int i => some (.int i)
  | .str x => some (.str x)
  | .lst ds => (pds ds).map .list
  | .tup ds => (pds ds).map .tuple
  | .ref _ => none
  | .ty _ => none
  | .scr ns => some (.list (ns.map .int))
  | .ins _ _ _ => none
def pds : List D → Option (List PyData)
  | [] => some []
  | d :: ds => (pd d).bind fun e => (pds ds).map fun es => e :: es
end
theorem dpInts {H : Hp} : ∀ (ns : List Int), DpAll K H (ns.map V.int) (ns.map PyData.int)
  | [] => .nil
  | n :: ns => .cons (.int n) (dpInts ns)
mutual
theorem dp_of {H : Hp} : ∀ (d : D) (v : V) (e : PyData), Rep K H d v → pd d = some e → Dp K H v e
  | .non, _, e, h, q => by cases h; cases q; exact .non
  | .bl b, _, e, h, q => by cases h; cases q; exact .bl b
  | .int i, _, e, h, q => by cases h; cases q; exact .int i
  | .str x, _, e, h, q => by cases h; cases q; exact .str x
  | .ref a, _, e, h, q => by cases q
  | .ty a, _, e, h, q => by cases q
  | .scr ns, _, e, h, q => by
    cases h with
    | scr h =>
      have q2 : some (PyData.list (ns.map .int)) = some e := q
      cases q2
      exact .lst h (dpInts ns)
  | .lst ds, _, e, h, q => by
    cases h with
    | lst h r =>
      have q2 : (pds ds).map PyData.list = some e := q
      cases hp : pds ds with
      | none => rw [hp] at q2; cases q2
      | some es =>
        rw [hp] at q2
        cases q2
        exact .lst (SqL.of h) (dps_of ds _ es r hp)
  | .tup ds, _, e, h, q => by
    cases h with
    | tup h r =>
      have q2 : (pds ds).map PyData.tuple = some e := q
      cases hp : pds ds with
      | none => rw [hp] at q2; cases q2
      | some es =>
        rw [hp] at q2
        cases q2
        exact .tup (SqT.of h) (dps_of ds _ es r hp)
  | .ins C ns ds, _, e, h, q => by cases q
theorem dps_of {H : Hp} : ∀ (ds : List D) (vs : List V) (es : List PyData), Reps K H ds vs → pds ds = some es → DpAll K H vs es
  | [], _, es, h, q => by cases h; cases q; exact .nil
  | d :: ds, _, es, h, q => by
    cases h with
    | cons h t =>
      have q2 : ((pd d).bind fun e => (pds ds).map fun es => e :: es) = some es := q
      cases h1 : pd d with
      | none => rw [h1] at q2; cases q2
      | some e =>
        rw [h1] at q2
        cases h2 : pds ds with
        | none => rw [h2] at q2; cases q2
        | some es' =>
          rw [h2] at q2
          cases q2
          exact .cons (dp_of d _ e h h1) (dps_of ds _ es' t h2)
end
theorem Dp.up {H H' : Hp} (s : Same H H') {v : V} {e : PyData} {d : D} (h : Rep K H d v) (q : pd d = some e) : Dp K H' v e := dp_of d v e (h.up s) q
theorem ok_eqD {e f : PyData} (h1 : pd x = some e) (h2 : pd y = some f) (s1 : SeqAt.shaped e = true) (s2 : SeqAt.shaped f = true) : Ok2 K (rEqD K) x y (.bl (PyData.eqv e f)) := fun B H u v s r1 r2 Q q =>
  ⟨e, f, Dp.up s r1 h1, Dp.up s r2 h2, s1, s2, q _ B H (Ext.refl s) (.bl _)⟩
theorem ok_neD {e f : PyData} (h1 : pd x = some e) (h2 : pd y = some f) (s1 : SeqAt.shaped e = true) (s2 : SeqAt.shaped f = true) : Ok2 K (rNeD K) x y (.bl (!PyData.eqv e f)) := fun B H u v s r1 r2 Q q =>
  ⟨e, f, Dp.up s r1 h1, Dp.up s r2 h2, s1, s2, q _ B H (Ext.refl s) (.bl _)⟩
theorem ok_eqI {i j : Int} : Ok2 K (rEqD K) (.int i) (.int j) (.bl (i == j)) := ok_eqD (e := .int i) (f := .int j) rfl rfl rfl rfl
theorem ok_neI {i j : Int} : Ok2 K (rNeD K) (.int i) (.int j) (.bl (!(i == j))) := ok_neD (e := .int i) (f := .int j) rfl rfl rfl rfl
/-- ==, != of scalars, of data -/
abbrev zEq (K : PySem.W.Frag) : R2 := fun x y H Q => rEqD K x y H Q ∨ rEq x y H Q
abbrev zNe (K : PySem.W.Frag) : R2 := fun x y H Q => rNeD K x y H Q ∨ rNe x y H Q
theorem ok_eq0 {b : Bool} (h : Ok2 K (rEqD K) x y (.bl b)) : Ok2 K (zEq K) x y (.bl b) := fun B H u v s r1 r2 Q q => .inl (h B H u v s r1 r2 Q q)
theorem ok_ne0 {b : Bool} (h : Ok2 K (rNeD K) x y (.bl b)) : Ok2 K (zNe K) x y (.bl b) := fun B H u v s r1 r2 Q q => .inl (h B H u v s r1 r2 Q q)
theorem ok_eqS {i j : Str} : Ok2 K (zEq K) (.str i) (.str j) (.bl (i == j)) := fun B H u v s r1 r2 Q q => by
  cases r1; cases r2
  exact .inr ⟨rfl, by rw [dec_str]; exact q _ B H (Ext.refl s) (.bl _)⟩
theorem ok_neS {i j : Str} : Ok2 K (zNe K) (.str i) (.str j) (.bl (!(i == j))) := fun B H u v s r1 r2 Q q => by
  cases r1; cases r2
  exact .inr ⟨rfl, by rw [dec_str]; exact q _ B H (Ext.refl s) (.bl _)⟩
theorem ok_eqII {i j : Int} : Ok2 K (zEq K) (.int i) (.int j) (.bl (i == j)) := ok_eq0 ok_eqI
theorem ok_neII {i j : Int} : Ok2 K (zNe K) (.int i) (.int j) (.bl (!(i == j))) := ok_ne0 ok_neI
/-! is None -/
def isNon : D → Bool
  | .non => true
  | _ => false
abbrev zIsN : R2 := fun x y H Q => y = .non ∧ Q (.bl (decide (x = .non))) H
abbrev zNotN : R2 := fun x y H Q => y = .non ∧ Q (.bl (!decide (x = .non))) H
theorem isNon_rep {H : Hp} {v : V} (h : Rep K H x v) : decide (v = .non) = isNon x := by
  cases h <;> simp [isNon]
theorem ok_isN : Ok2 K zIsN x .non (.bl (isNon x)) := fun B H u v s r1 r2 Q q => by
  cases r2
  exact ⟨rfl, by rw [isNon_rep r1]; exact q _ B H (Ext.refl s) (.bl _)⟩
theorem ok_notN : Ok2 K zNotN x .non (.bl (!isNon x)) := fun B H u v s r1 r2 Q q => by
  cases r2
  exact ⟨rfl, by rw [isNon_rep r1]; exact q _ B H (Ext.refl s) (.bl _)⟩
/-! subscripts -/
theorem atI_len {α β : Type} {xs : List α} {ys : List β} (h : xs.length = ys.length) {i : Int} {x : α} (e : atI xs i = some x) : ∃ j, ixN ys.length i = some j ∧ xs[j]? = some x := by
  unfold atI at e
  rw [h] at e
  cases q : ixN ys.length i with
  | none => rw [q] at e; cases e
  | some j => rw [q] at e; exact ⟨j, rfl, e⟩
theorem Reps.atI {H : Hp} {ds : List D} {vs : List V} (r : Reps K H ds vs) {i : Int} {d : D} (e : L2.atI ds i = some d) : ∃ v, L2.atI vs i = some v ∧ Rep K H d v := by
  obtain ⟨j, h1, h2⟩ := atI_len r.len e
  obtain ⟨v, h3, h4⟩ := r.get h2
  refine ⟨v, ?_, h4⟩
  unfold L2.atI
  rw [h1]
  exact h3
theorem ok_ixL {ds : List D} {i : Int} (e : atI ds i = some d) : Ok2 K (rIxL K) (.lst ds) (.int i) d := fun B H u v s r1 r2 Q q => by
  cases r2
  cases r1 with
  | lst h r =>
    obtain ⟨w, h1, h2⟩ := r.atI e
    exact ⟨_, _, i, w, rfl, rfl, SqL.of (s _ _ h), h1, q w B H (Ext.refl s) h2⟩
theorem ok_ixT {ds : List D} {i : Int} (e : atI ds i = some d) : Ok2 K (rIxT K) (.tup ds) (.int i) d := fun B H u v s r1 r2 Q q => by
  cases r2
  cases r1 with
  | tup h r =>
    obtain ⟨w, h1, h2⟩ := r.atI e
    exact ⟨_, _, i, w, rfl, rfl, SqT.of (s _ _ h), h1, q w B H (Ext.refl s) h2⟩
theorem ok_ixS {ns : List Int} {i k : Int} (e : atI ns i = some k) : Ok2 K (rIxL K) (.scr ns) (.int i) (.int k) := fun B H u v s r1 r2 Q q => by
  cases r2
  cases r1 with
  | scr h =>
    refine ⟨_, _, i, .int k, rfl, rfl, s.seq h, ?_, q _ B H (Ext.refl s) (.int k)⟩
    obtain ⟨j, h1, h2⟩ := atI_len (ys := ns.map V.int) (by simp) e
    unfold atI
    rw [h1]
    show (ns.map V.int)[j]? = some (.int k)
    rw [List.getElem?_map, h2]
    rfl
/-- list or tuple, by the one rule ix_seq -/
theorem ok_ix1 {ds : List D} {i : Int} (e : atI ds i = some d) : Ok2 K (rIx K) (.lst ds) (.int i) d := fun B H u v s r1 r2 Q q => .inl (ok_ixL e B H u v s r1 r2 Q q)
theorem ok_ix2 {ds : List D} {i : Int} (e : atI ds i = some d) : Ok2 K (rIx K) (.tup ds) (.int i) d := fun B H u v s r1 r2 Q q => .inr (.inl (ok_ixT e B H u v s r1 r2 Q q))
theorem ok_ix3 {ns : List Int} {i k : Int} (e : atI ns i = some k) : Ok2 K (rIx K) (.scr ns) (.int i) (.int k) := fun B H u v s r1 r2 Q q => .inl (ok_ixS e B H u v s r1 r2 Q q)
theorem ok_ixC {z : Str} {i : Int} {c : Nat} (hl : z.length ≤ sizeLine) (e : atI z.cps.toList i = some c) : Ok2 K (rIx K) (.str z) (.int i) (.str ⟨#[c]⟩) := fun B H u v s r1 r2 Q q => by
  cases r1; cases r2
  exact .inr (.inr ⟨z, i, c, rfl, rfl, hl, e, q _ B H (Ext.refl s) (.str _)⟩)
/-- of an own list -/
theorem evd_ixO {i : Nat} {ds : List D} {k : Int} (h : ρ[i]? = some (.o ds)) (hb : EvD K tb ρ (.int k)) (e : atI ds k = some d) : EvD K (tOp (rIx K) (tVar i) tb) ρ d := fun B0 H0 B H σ rs Q q => by
  obtain ⟨a, vs, h1, h2, h3, h4, h5⟩ := rs.ow i ds h
  refine ⟨_, h1, ?_⟩
  refine hb B0 H0 B H σ rs _ fun v B2 H2 e2 r2 => ?_
  cases r2
  obtain ⟨w, g1, g2⟩ := h5.atI e
  exact .inl ⟨a, vs, k, w, rfl, rfl, SqL.of (e2.h _ _ h4), g1, q w B2 H2 e2 (g2.up e2.b)⟩
/-! lists -/
theorem ok_cat {ds es : List D} (hl : ds.length + es.length ≤ sizeLine) : Ok2O K rCat (.lst ds) (.lst es) (ds ++ es) := fun B H u v s r1 r2 Q q => by
  cases r1 with
  | lst h1 r1 =>
    cases r2 with
    | lst h2 r2 =>
      exact ⟨_, _, _, _, rfl, rfl, s _ _ h1, s _ _ h2, by rw [← r1.len, ← r2.len]; exact hl, fun p hp => q p _ B _ (Ext.priv s hp) hp (s.free hp) upd_same (r1.app r2)⟩
theorem Reps.flat {H : Hp} {ds : List D} {vs : List V} (r : Reps K H ds vs) : ∀ k : Nat, Reps K H (List.replicate k ds).flatten (List.replicate k vs).flatten
  | 0 => .nil
  | k + 1 => by
    rw [List.replicate_succ, List.replicate_succ, List.flatten_cons, List.flatten_cons]
    exact r.app (Reps.flat r k)
theorem ok_rep {ds : List D} {k : Int} (h1 : -(2 ^ 63) ≤ k) (h2 : k < 2 ^ 63) (hl : ds.length * k.toNat ≤ sizeLine) : Ok2O K rRep (.lst ds) (.int k) (List.replicate k.toNat ds).flatten := fun B H u v s r1 r2 Q q => by
  cases r2
  cases r1 with
  | lst h r =>
    exact ⟨_, k, _, rfl, rfl, s _ _ h, h1, h2, by rw [← r.len]; exact hl, fun p hp => q p _ B _ (Ext.priv s hp) hp (s.free hp) upd_same (r.flat _)⟩
/-- + and * of ints or lists -/
abbrev zPlus : R2 := fun x y H Q => zAdd x y H Q ∨ rCat x y H Q
abbrev zTimes : R2 := fun x y H Q => zMul x y H Q ∨ rRep x y H Q
theorem ok_plus {i j : Int} : Ok2 K zPlus (.int i) (.int j) (.int (i + j)) := fun B H u v s r1 r2 Q q => .inl (ok_add B H u v s r1 r2 Q q)
theorem ok_times {i j : Int} (h : CMul i j) : Ok2 K zTimes (.int i) (.int j) (.int (i * j)) := fun B H u v s r1 r2 Q q => .inl (ok_mul h B H u v s r1 r2 Q q)
theorem ok_plusL {ds es : List D} (hl : ds.length + es.length ≤ sizeLine) : Ok2O K zPlus (.lst ds) (.lst es) (ds ++ es) := fun B H u v s r1 r2 Q q => .inr (ok_cat hl B H u v s r1 r2 Q q)
theorem ok_timesL {ds : List D} {k : Int} (h1 : -(2 ^ 63) ≤ k) (h2 : k < 2 ^ 63) (hl : ds.length * k.toNat ≤ sizeLine) : Ok2O K zTimes (.lst ds) (.int k) (List.replicate k.toNat ds).flatten := fun B H u v s r1 r2 Q q => .inr (ok_rep h1 h2 hl B H u v s r1 r2 Q q)
/-! in, of scalars -/
def flatD : D → Option V
  | .non => some .non
  | .bl b => some (.bl b)
  | .int i => some (.int i)
  | .str x => some (.str x)
  | _ => none
theorem flatD_rep {H : Hp} {v w : V} (h : Rep K H x v) (e : flatD x = some w) : v = w := by
  cases h <;> first
    | (cases e; rfl)
    | cases e
def flatDs : List D → Option (List V)
  | [] => some []
  | d :: ds => (flatD d).bind fun v => (flatDs ds).map fun vs => v :: vs
theorem flatDs_rep {H : Hp} : ∀ {ds : List D} {vs ws : List V}, Reps K H ds vs → flatDs ds = some ws → vs = ws
  | [], _, _, h, e => by cases h; cases e; rfl
  | d :: ds, _, ws, h, e => by
    cases h with
    | cons h t =>
      have e2 : ((flatD d).bind fun v => (flatDs ds).map fun vs => v :: vs) = some ws := e
      cases h1 : flatD d with
      | none => rw [h1] at e2; cases e2
      | some v =>
        rw [h1] at e2
        cases h2 : flatDs ds with
        | none => rw [h2] at e2; cases e2
        | some us =>
          rw [h2] at e2
          cases e2
          rw [flatD_rep h h1, flatDs_rep t h2]
theorem ok_inT {neg : Bool} {ds : List D} {v : V} {vs : List V} (h1 : flatD x = some v) (h2 : flatDs ds = some vs) (h3 : flatV v = true) (h4 : vs.all flatV = true) : Ok2 K (rIn K neg) x (.tup ds) (.bl (if neg then !inV v vs else inV v vs)) := fun B H u w s r1 r2 Q q => by
  cases r2 with
  | tup h r =>
    obtain rfl := flatD_rep r1 h1
    obtain rfl := flatDs_rep r h2
    exact ⟨_, _, rfl, .inr (SqT.of (s _ _ h)), h3, h4, q _ B H (Ext.refl s) (.bl _)⟩
theorem ok_inL {neg : Bool} {ds : List D} {v : V} {vs : List V} (h1 : flatD x = some v) (h2 : flatDs ds = some vs) (h3 : flatV v = true) (h4 : vs.all flatV = true) : Ok2 K (rIn K neg) x (.lst ds) (.bl (if neg then !inV v vs else inV v vs)) := fun B H u w s r1 r2 Q q => by
  cases r2 with
  | lst h r =>
    obtain rfl := flatD_rep r1 h1
    obtain rfl := flatDs_rep r h2
    exact ⟨_, _, rfl, .inl (SqL.of (s _ _ h)), h3, h4, q _ B H (Ext.refl s) (.bl _)⟩
/-! ### tests, chains, ifs -/
theorem evt_test {b : Bool} (h : EvD K te ρ (.bl b)) : EvT K (tTest te) ρ b := fun B0 H0 B H σ rs Q q => h B0 H0 B H σ rs _ fun v B2 H2 e r => by
  cases r
  exact ⟨b, rfl, q B2 H2 e⟩
theorem evt_B {b : Bool} (h : EvD K te ρ (.bl b)) : EvT K (tB te) ρ b := fun B0 H0 B H σ rs Q q => h B0 H0 B H σ rs _ fun v B2 H2 e r => by
  cases r
  exact ⟨b, rfl, q B2 H2 e⟩
theorem evt_not {b : Bool} (h : EvT K t ρ b) : EvT K (tNot t) ρ (!b) := fun B0 H0 B H σ rs Q q => h B0 H0 B H σ rs _ fun B2 H2 e => q B2 H2 e
theorem evt_and {a b : Bool} (h1 : EvT K t ρ a) (h2 : a = true → EvT K u ρ b) : EvT K (tAnd t u) ρ (a && b) := fun B0 H0 B H σ rs Q q => h1 B0 H0 B H σ rs _ fun B1 H1 e1 => by
  cases a with
  | true => exact h2 rfl B0 H0 B1 H1 σ (rs.ext e1) Q fun B2 H2 e2 => q B2 H2 (e1.trans e2)
  | false => exact q B1 H1 e1
theorem evt_or {a b : Bool} (h1 : EvT K t ρ a) (h2 : a = false → EvT K u ρ b) : EvT K (tOr t u) ρ (a || b) := fun B0 H0 B H σ rs Q q => h1 B0 H0 B H σ rs _ fun B1 H1 e1 => by
  cases a with
  | false => exact h2 rfl B0 H0 B1 H1 σ (rs.ext e1) Q fun B2 H2 e2 => q B2 H2 (e1.trans e2)
  | true => exact q B1 H1 e1
theorem evt_is {a b : Bool} (h : EvT K t ρ a) (e : a = b) : EvT K t ρ b := e ▸ h
theorem evd_is {d' : D} (h : EvD K te ρ d) (e : d = d') : EvD K te ρ d' := e ▸ h
theorem evd_andV {a b : Bool} (h1 : EvD K ta ρ (.bl a)) (h2 : a = true → EvD K tb ρ (.bl b)) : EvD K (tAndV ta tb) ρ (.bl (a && b)) := fun B0 H0 B H σ rs Q q => h1 B0 H0 B H σ rs _ fun v B1 H1 e1 r => by
  cases r
  refine ⟨a, rfl, ?_⟩
  cases a with
  | true => exact h2 rfl B0 H0 B1 H1 σ (rs.ext e1) Q fun v B2 H2 e2 r => q v B2 H2 (e1.trans e2) r
  | false => exact q _ B1 H1 e1 (.bl _)
theorem evd_orV {a b : Bool} (h1 : EvD K ta ρ (.bl a)) (h2 : a = false → EvD K tb ρ (.bl b)) : EvD K (tOrV ta tb) ρ (.bl (a || b)) := fun B0 H0 B H σ rs Q q => h1 B0 H0 B H σ rs _ fun v B1 H1 e1 r => by
  cases r
  refine ⟨a, rfl, ?_⟩
  cases a with
  | false => exact h2 rfl B0 H0 B1 H1 σ (rs.ext e1) Q fun v B2 H2 e2 r => q v B2 H2 (e1.trans e2) r
  | true => exact q _ B1 H1 e1 (.bl _)
theorem evd_notV {a : Bool} (h1 : EvD K ta ρ (.bl a)) : EvD K (tNotV ta) ρ (.bl (!a)) := fun B0 H0 B H σ rs Q q => h1 B0 H0 B H σ rs _ fun v B1 H1 e1 r => by
  cases r
  exact ⟨a, rfl, q _ B1 H1 e1 (.bl _)⟩
theorem evd_if {b : Bool} (h : EvT K t ρ b) (h1 : b = true → EvD K ta ρ d) (h2 : b = false → EvD K tb ρ d) : EvD K (tIf t ta tb) ρ d := fun B0 H0 B H σ rs Q q => h B0 H0 B H σ rs _ fun B1 H1 e1 => by
  cases b with
  | true => exact h1 rfl B0 H0 B1 H1 σ (rs.ext e1) Q fun v B2 H2 e2 r => q v B2 H2 (e1.trans e2) r
  | false => exact h2 rfl B0 H0 B1 H1 σ (rs.ext e1) Q fun v B2 H2 e2 r => q v B2 H2 (e1.trans e2) r
theorem evd_chain {r r' : R2} {a b : Bool} (ha : EvD K ta ρ x) (hb : EvD K tb ρ y) (hr : Ok2 K r x y (.bl a)) (hc : a = true → EvD K tc ρ z) (hr' : a = true → Ok2 K r' y z (.bl b)) : EvD K (tChain r r' ta tb tc) ρ (.bl (a && b)) := fun B0 H0 B H σ rs Q q =>
  ha B0 H0 B H σ rs _ fun u B1 H1 e1 r1 => hb B0 H0 B1 H1 σ (rs.ext e1) _ fun v B2 H2 e2 r2 => hr B2 H2 u v e2.s (r1.up e2.b) r2 _ fun w B3 H3 e3 r3 => by
    cases r3
    refine ⟨a, rfl, ?_⟩
    cases a with
    | false => exact q _ B3 H3 ((e1.trans e2).trans e3) (.bl _)
    | true => exact hc rfl B0 H0 B3 H3 σ (((rs.ext e1).ext e2).ext e3) _ fun w' B4 H4 e4 r4 => hr' rfl B4 H4 v w' e4.s ((r2.up e3.b).up e4.b) r4 Q fun z' B5 H5 e5 r5 => q z' B5 H5 ((((e1.trans e2).trans e3).trans e4).trans e5) r5
/-! ### arguments, displays -/
theorem eva_nil : EvA K tNil ρ [] := fun B0 H0 B H σ rs Q q => q [] B H (Ext.refl rs.s) .nil
theorem eva_cons {tr : TA} {ds : List D} (h : EvD K te ρ d) (hr : EvA K tr ρ ds) : EvA K (tCons te tr) ρ (d :: ds) := fun B0 H0 B H σ rs Q q =>
  h B0 H0 B H σ rs _ fun v B1 H1 e1 r1 => hr B0 H0 B1 H1 σ (rs.ext e1) _ fun vs B2 H2 e2 r2 => q (v :: vs) B2 H2 (e1.trans e2) (.cons (r1.up e2.b) r2)
theorem evo_lst {ta : TA} {ds : List D} (h : EvA K ta ρ ds) (hl : ds.length ≤ sizeLine) : EvO K (tLst ta) ρ ds := fun B0 H0 B H σ rs Q q =>
  h B0 H0 B H σ rs _ fun vs B1 H1 e1 r1 => ⟨by rw [← r1.len]; exact hl, fun p hp => q p vs B1 _ (e1.trans (Ext.priv e1.s hp)) (e1.h.free hp) (e1.s.free hp) upd_same r1⟩
theorem evd_lst {ta : TA} {ds : List D} (h : EvA K ta ρ ds) (hl : ds.length ≤ sizeLine) : EvD K (tLst ta) ρ (.lst ds) := (evo_lst h hl).evd
theorem evd_tup {ta : TA} {ds : List D} (h : EvA K ta ρ ds) (hl : ds.length ≤ sizeLine) : EvD K (tTup ta) ρ (.tup ds) := fun B0 H0 B H σ rs Q q =>
  h B0 H0 B H σ rs _ fun vs B1 H1 e1 r1 => ⟨by rw [← r1.len]; exact hl, fun p hp => q _ _ _ (e1.trans (Ext.new e1.s hp)) (.tup upd_same (r1.up (same_new (e1.s.free hp))))⟩
/-! ### calls of built-ins -/
theorem evd_cb {r : List V → Hp → VK → Prop} {ta : TA} {ds : List D} (h : EvA K ta ρ ds) (hr : OkC K r ds d) : EvD K (tCB r ta) ρ d := fun B0 H0 B H σ rs Q q =>
  h B0 H0 B H σ rs _ fun vs B1 H1 e1 r1 => hr B1 H1 vs e1.s r1 Q fun w B2 H2 e2 r2 => q w B2 H2 (e1.trans e2) r2
theorem evo_cb {r : List V → Hp → VK → Prop} {ta : TA} {ds es : List D} (h : EvA K ta ρ ds) (hr : OkCO K r ds es) : EvO K (tCB r ta) ρ es := fun B0 H0 B H σ rs Q q =>
  h B0 H0 B H σ rs _ fun vs B1 H1 e1 r1 => hr B1 H1 vs e1.s r1 Q fun a ws B2 H2 e2 hn hb hh hs => q a ws B2 H2 (e1.trans e2) (e1.h.free hn) hb hh hs
abbrev zLen (K : PySem.W.Frag) : List V → Hp → VK → Prop := fun xs H Q => ∃ x n, xs = [x] ∧ LenV K x H n ∧ Q (.int n) H
abbrev zList (K : PySem.W.Frag) : List V → Hp → VK → Prop := fun xs H Q => ∃ p ys, xs = [.ref p] ∧ (SqL K H p ys ∨ SqT K H p ys) ∧ ∀ l, H l = none → Q (.ref l) (upd H l (.lst ys))
abbrev zTuple (K : PySem.W.Frag) : List V → Hp → VK → Prop := fun xs H Q => ∃ p ys, xs = [.ref p] ∧ ((SqL K H p ys ∧ ∀ l, H l = none → Q (.ref l) (upd H l (.tup ys))) ∨ (SqT K H p ys ∧ Q (.ref p) H))
abbrev zAbs : List V → Hp → VK → Prop := fun xs H Q => ∃ i, xs = [.int i] ∧ Q (.int (if i < 0 then -i else i)) H
abbrev zMax2 : List V → Hp → VK → Prop := fun xs H Q => ∃ i j, xs = [.int i, .int j] ∧ Q (.int (if j > i then j else i)) H
abbrev zMin2 : List V → Hp → VK → Prop := fun xs H Q => ∃ i j, xs = [.int i, .int j] ∧ Q (.int (if j < i then j else i)) H
theorem reps1 {H : Hp} {us : List V} (r : Reps K H [x] us) : ∃ u, us = [u] ∧ Rep K H x u := by
  cases r with
  | cons h t => cases t; exact ⟨_, rfl, h⟩
theorem reps2 {H : Hp} {us : List V} (r : Reps K H [x, y] us) : ∃ u v, us = [u, v] ∧ Rep K H x u ∧ Rep K H y v := by
  cases r with
  | cons h t =>
    cases t with
    | cons h2 t => cases t; exact ⟨_, _, rfl, h, h2⟩
theorem ok_lenL {ds : List D} : OkC K (zLen K) [.lst ds] (.int ds.length) := fun B H us s r0 Q q => by
  obtain ⟨u, rfl, r1⟩ := reps1 r0
  cases r1 with
  | lst h r => exact ⟨_, _, rfl, .inl ⟨_, SqL.of (s _ _ h), rfl⟩, by rw [← r.len]; exact q _ B H (Ext.refl s) (.int _)⟩
theorem ok_lenT {ds : List D} : OkC K (zLen K) [.tup ds] (.int ds.length) := fun B H us s r0 Q q => by
  obtain ⟨u, rfl, r1⟩ := reps1 r0
  cases r1 with
  | tup h r => exact ⟨_, _, rfl, .inr ⟨_, SqT.of (s _ _ h), rfl⟩, by rw [← r.len]; exact q _ B H (Ext.refl s) (.int _)⟩
theorem ok_lenC {ns : List Int} : OkC K (zLen K) [.scr ns] (.int ns.length) := fun B H us s r0 Q q => by
  obtain ⟨u, rfl, r1⟩ := reps1 r0
  cases r1 with
  | scr h => exact ⟨_, _, rfl, .inl ⟨_, s.seq h, rfl⟩, by rw [List.length_map]; exact q _ B H (Ext.refl s) (.int _)⟩
theorem ok_lenS {w : Str} (hl : w.length ≤ sizeLine) : OkC K (zLen K) [.str w] (.int w.length) := fun B H us s r0 Q q => by
  obtain ⟨u, rfl, r1⟩ := reps1 r0
  cases r1
  exact ⟨_, _, rfl, ⟨hl, rfl⟩, q _ B H (Ext.refl s) (.int _)⟩
theorem ok_listL {ds : List D} : OkCO K (zList K) [.lst ds] ds := fun B H us s r0 Q q => by
  obtain ⟨u, rfl, r1⟩ := reps1 r0
  cases r1 with
  | lst h r => exact ⟨_, _, rfl, .inl (SqL.of (s _ _ h)), fun p hp => q p _ B _ (Ext.priv s hp) hp (s.free hp) upd_same r⟩
theorem ok_listT {ds : List D} : OkCO K (zList K) [.tup ds] ds := fun B H us s r0 Q q => by
  obtain ⟨u, rfl, r1⟩ := reps1 r0
  cases r1 with
  | tup h r => exact ⟨_, _, rfl, .inr (SqT.of (s _ _ h)), fun p hp => q p _ B _ (Ext.priv s hp) hp (s.free hp) upd_same r⟩
theorem ok_tupleL {ds : List D} : OkC K (zTuple K) [.lst ds] (.tup ds) := fun B H us s r0 Q q => by
  obtain ⟨u, rfl, r1⟩ := reps1 r0
  cases r1 with
  | lst h r => exact ⟨_, _, rfl, .inl ⟨SqL.of (s _ _ h), fun p hp => q _ _ _ (Ext.new s hp) (.tup upd_same (r.up (same_new (s.free hp))))⟩⟩
theorem ok_tupleT {ds : List D} : OkC K (zTuple K) [.tup ds] (.tup ds) := fun B H us s r0 Q q => by
  obtain ⟨u, rfl, r1⟩ := reps1 r0
  cases r1 with
  | tup h r => exact ⟨_, _, rfl, .inr ⟨SqT.of (s _ _ h), q _ B H (Ext.refl s) (.tup h r)⟩⟩
theorem ok_abs {i : Int} : OkC K zAbs [.int i] (.int (if i < 0 then -i else i)) := fun B H us s r0 Q q => by
  obtain ⟨u, rfl, r1⟩ := reps1 r0
  cases r1
  exact ⟨i, rfl, q _ B H (Ext.refl s) (.int _)⟩
theorem ok_max2 {i j : Int} : OkC K zMax2 [.int i, .int j] (.int (if j > i then j else i)) := fun B H us s r Q q => by
  obtain ⟨u, v, rfl, r1, r2⟩ := reps2 r
  cases r1; cases r2
  exact ⟨i, j, rfl, q _ B H (Ext.refl s) (.int _)⟩
theorem ok_min2 {i j : Int} : OkC K zMin2 [.int i, .int j] (.int (if j < i then j else i)) := fun B H us s r Q q => by
  obtain ⟨u, v, rfl, r1, r2⟩ := reps2 r
  cases r1; cases r2
  exact ⟨i, j, rfl, q _ B H (Ext.refl s) (.int _)⟩
theorem ok_sum {ns : List Int} : OkC K (rSum K) [.lst (ns.map .int)] (.int ns.sum) := fun B H us s r0 Q q => by
  obtain ⟨u, rfl, r1⟩ := reps1 r0
  cases r1 with
  | lst h r => exact ⟨_, ns, rfl, SqL.of (by rw [← r.ints]; exact s _ _ h), q _ B H (Ext.refl s) (.int _)⟩
theorem ok_maxL {ns : List Int} {m : Int} (h0 : 0 < ns.length) (h1 : ∀ m', m' ∈ ns → (∀ y, y ∈ ns → y ≤ m') → m' = m) : OkC K (rMax K) [.lst (ns.map .int)] (.int m) := fun B H us s r0 Q q => by
  obtain ⟨u, rfl, r1⟩ := reps1 r0
  cases r1 with
  | lst h r => exact ⟨_, ns, rfl, SqL.of (by rw [← r.ints]; exact s _ _ h), h0, fun m' a b => by rw [h1 m' a b]; exact q _ B H (Ext.refl s) (.int _)⟩
theorem ok_minL {ns : List Int} {m : Int} (h0 : 0 < ns.length) (h1 : ∀ m', m' ∈ ns → (∀ y, y ∈ ns → m' ≤ y) → m' = m) : OkC K (rMin K) [.lst (ns.map .int)] (.int m) := fun B H us s r0 Q q => by
  obtain ⟨u, rfl, r1⟩ := reps1 r0
  cases r1 with
  | lst h r => exact ⟨_, ns, rfl, SqL.of (by rw [← r.ints]; exact s _ _ h), h0, fun m' a b => by rw [h1 m' a b]; exact q _ B H (Ext.refl s) (.int _)⟩
theorem ok_any {ns : List Bool} : OkC K (rAny K) [.lst (ns.map .bl)] (.bl (ns.any id)) := fun B H us s r0 Q q => by
  obtain ⟨u, rfl, r1⟩ := reps1 r0
  cases r1 with
  | lst h r => exact ⟨_, ns, rfl, SqL.of (by rw [← r.bls]; exact s _ _ h), q _ B H (Ext.refl s) (.bl _)⟩
theorem ok_all {ns : List Bool} : OkC K (rAll K) [.lst (ns.map .bl)] (.bl (ns.all id)) := fun B H us s r0 Q q => by
  obtain ⟨u, rfl, r1⟩ := reps1 r0
  cases r1 with
  | lst h r => exact ⟨_, ns, rfl, SqL.of (by rw [← r.bls]; exact s _ _ h), q _ B H (Ext.refl s) (.bl _)⟩
/-! isinstance -/
def InsTy (K : PySem.W.Frag) (C : Addr) : Prop := ∀ (H : Hp) (a dx : Addr) (fs : List (Str × V)), H a = some (.ins C dx fs) → TyOf K H (.ref a) (.ref C)
inductive TyD (K : PySem.W.Frag) : D → Value → Prop
  | non : TyD K .non (.type "NoneType")
  | bl (b : Bool) : TyD K (.bl b) (.type "bool")
  | int (i : Int) : TyD K (.int i) (.type "int")
  | str (x : Str) : TyD K (.str x) (.type "str")
  | lst (ds : List D) : TyD K (.lst ds) (.type "list")
  | tup (ds : List D) : TyD K (.tup ds) (.type "tuple")
  | ins {C : Addr} {ns : List Str} {ds : List D} (h : InsTy K C) : TyD K (.ins C ns ds) (.ref C)
theorem TyD.tyx {H : Hp} {v : V} {T : Value} (h : TyD K x T) (r : Rep K H x v) : TyX K H v T := by
  cases h with
  | non => cases r; exact .base .non
  | bl b => cases r; exact .base (.bl b)
  | int i => cases r; exact .base (.int i)
  | str y => cases r; exact .base (.str y)
  | lst ds =>
    cases r with
    | lst h r => exact .base (.lst h)
  | tup ds =>
    cases r with
    | tup h r => exact .base (.tup h)
  | ins g =>
    cases r with
    | ins h hl r => exact .base (g _ _ _ _ h)
inductive ClD : D → Value → Prop
  | ty (n : String) : ClD (.ty n) (.type n)
  | own (C : Addr) : ClD (.ref C) (.ref C)
theorem ok_isi {c : D} {T U : Value} {b : Bool} (h1 : TyD K x T) (h2 : ClD c U) (h3 : PySem.W.kitOne K T U = some b) : OkC K (rIsi K) [x, c] (.bl b) := fun B H us s r Q q => by
  obtain ⟨u, v, rfl, r1, r2⟩ := reps2 r
  have k : ClsV v U := by
    cases h2 with
    | ty n => cases r2; exact .ty n
    | own C => cases r2; exact .own C
  exact ⟨u, v, T, U, b, rfl, k, h1.tyx (r1.up s), h3, q _ B H (Ext.refl s) (.bl _)⟩
/-! slices, reversed, list(range) -/
theorem evn_none : EvN K tNoPart ρ none := fun B0 H0 B H σ rs Q q => q B H (Ext.refl rs.s)
theorem evn_some {i : Int} (h : EvD K te ρ (.int i)) : EvN K (tPart te) ρ (some i) := fun B0 H0 B H σ rs Q q => h B0 H0 B H σ rs _ fun v B2 H2 e r => by
  cases r
  exact ⟨i, rfl, q B2 H2 e⟩
def cutD (ds : List D) (lo hi : Option Int) : List D := (ds.drop (HT.sIx ds.length 0 lo)).take (HT.sIx ds.length ds.length hi - HT.sIx ds.length 0 lo)
theorem Reps.cut {H : Hp} {ds : List D} {vs : List V} (r : Reps K H ds vs) (lo hi : Option Int) : Reps K H (cutD ds lo hi) (cutV vs lo hi) := by
  unfold cutD cutV
  rw [r.len]
  exact (r.drop _).take _
theorem evo_sl {tl th : TO} {ds : List D} {lo hi : Option Int} (h : EvD K te ρ (.lst ds)) (h1 : EvN K tl ρ lo) (h2 : EvN K th ρ hi) : EvO K (tSl (rSlL K) te tl th) ρ (cutD ds lo hi) := fun B0 H0 B H σ rs Q q =>
  h B0 H0 B H σ rs _ fun v B1 H1 e1 r1 => h1 B0 H0 B1 H1 σ (rs.ext e1) _ fun B2 H2 e2 => h2 B0 H0 B2 H2 σ ((rs.ext e1).ext e2) _ fun B3 H3 e3 => by
    cases r1 with
    | lst hh r => exact ⟨_, _, rfl, SqL.of (e3.s _ _ (e3.b _ _ (e2.b _ _ hh))), fun p hp => q p _ B3 _ (((e1.trans e2).trans e3).trans (Ext.priv e3.s hp)) (((e1.trans e2).trans e3).h.free hp) (e3.s.free hp) upd_same (((r.up e2.b).up e3.b).cut lo hi)⟩
theorem evo_slO {tl th : TO} {i : Nat} {ds : List D} {lo hi : Option Int} (h : ρ[i]? = some (.o ds)) (h1 : EvN K tl ρ lo) (h2 : EvN K th ρ hi) : EvO K (tSl (rSlL K) (tVar i) tl th) ρ (cutD ds lo hi) := fun B0 H0 B H σ rs Q q => by
  obtain ⟨a, vs, g1, g2, g3, g4, g5⟩ := rs.ow i ds h
  refine ⟨_, g1, ?_⟩
  refine h1 B0 H0 B H σ rs _ fun B2 H2 e2 => h2 B0 H0 B2 H2 σ (rs.ext e2) _ fun B3 H3 e3 => ?_
  exact ⟨_, _, rfl, SqL.of (e3.h _ _ (e2.h _ _ g4)), fun p hp => q p _ B3 _ ((e2.trans e3).trans (Ext.priv e3.s hp)) ((e2.trans e3).h.free hp) (e3.s.free hp) upd_same (((g5.up e2.b).up e3.b).cut lo hi)⟩
theorem evo_rev {ds : List D} (h : EvD K te ρ (.lst ds)) : EvO K (tRevL K te) ρ ds.reverse := fun B0 H0 B H σ rs Q q =>
  h B0 H0 B H σ rs _ fun v B1 H1 e1 r1 => by
    cases r1 with
    | lst hh r => exact ⟨_, _, rfl, SqL.of (e1.s _ _ hh), fun p hp => q p _ B1 _ (e1.trans (Ext.priv e1.s hp)) (e1.h.free hp) (e1.s.free hp) upd_same r.rev⟩
def rgI (a b : Int) : List Int := (List.range (b - a).toNat).map fun i => a + (i : Nat)
theorem rgV_eq (a b : Int) : rgV a b = (rgI a b).map V.int := by
  unfold rgV rgI
  rw [List.map_map]
  rfl
theorem evo_rg2 {i j : Int} (ha : EvD K ta ρ (.int i)) (hb : EvD K tb ρ (.int j)) (ok : RgOk i j) : EvO K (tLstRg (tRg2 ta tb)) ρ ((rgI i j).map .int) := fun B0 H0 B H σ rs Q q =>
  ha B0 H0 B H σ rs _ fun v B1 H1 e1 r1 => hb B0 H0 B1 H1 σ (rs.ext e1) _ fun w B2 H2 e2 r2 => by
    cases r1; cases r2
    refine ⟨i, j, rfl, rfl, ok, fun p hp => q p _ B2 _ ((e1.trans e2).trans (Ext.priv e2.s hp)) ((e1.trans e2).h.free hp) (e2.s.free hp) upd_same ?_⟩
    rw [rgV_eq]
    exact Reps.ofInts _
/-! ### calls of defs -/
theorem evd_call {R : List D → D → Prop} {E : XK} {ta : TA} {ds : List D} {dvs : List V} {des : List D} (h : EvA K ta ρ ds) (hd : ∀ B, Reps K B des dvs) (hR : R (ds ++ des) d) : EvD K (tCall (spD K R) dvs E ta) ρ d := fun B0 H0 B H σ rs Q q =>
  h B0 H0 B H σ rs _ fun vs B1 H1 e1 r1 => ⟨B1, _, d, e1.s, r1.app (hd B1), hR, fun v B2 H2 e2 r2 => q v B2 H2 (e1.trans e2) r2⟩
theorem evd_call0 {R : List D → D → Prop} {E : XK} {ta : TA} {ds : List D} (h : EvA K ta ρ ds) (hR : R ds d) : EvD K (tCall (spD K R) [] E ta) ρ d := evd_call (des := []) h (fun _ => .nil) (by rw [List.append_nil]; exact hR)
theorem evo_call0 {R : List D → List D → Prop} {E : XK} {ta : TA} {ds es : List D} (h : EvA K ta ρ ds) (hR : R ds es) : EvO K (tCall (spO K R) [] E ta) ρ es := fun B0 H0 B H σ rs Q q =>
  h B0 H0 B H σ rs _ fun vs B1 H1 e1 r1 => ⟨B1, ds, es, e1.s, by rw [List.append_nil]; exact r1, hR, fun a ws B2 H2 e2 hn hb hh hs => q a ws B2 H2 (e1.trans e2) (e1.h.free hn) hb hh hs⟩
end

/-! ### rules: a method of an instance whose class is one of several; a function read off a class -/
structure MFam (P : Program) (w : World) (K : PySem.W.Frag) (mg : Str → Option Value) (base : Heap) (CX : CXT) (k : Nat) (m : Str) (ps : List Str) (Cs : Addr → Prop) (sp : Addr → Sp) : Prop where
  go : ∀ C, Cs C → ∃ f fd, Cls K C ∧ Meth K C m f ∧ FnOk P w K mg base CX k f fd ps (sp C) ∧ Binds K fd ps []
theorem MFam.mono {P : Program} {w : World} {K : PySem.W.Frag} {mg : Str → Option Value} {base : Heap} {CX : CXT} {j k : Nat} {m : Str} {ps : List Str} {Cs : Addr → Prop} {sp : Addr → Sp} (F : MFam P w K mg base CX j m ps Cs sp) (h : j ≤ k) : MFam P w K mg base CX k m ps Cs sp :=
  ⟨fun C hC => let ⟨f, fd, a, b, c, d⟩ := F.go C hC; ⟨f, fd, a, b, c.mono h, d⟩⟩
def tMethD (m : Str) (Cs : Addr → Prop) (sp : Addr → Sp) (E : XK) (ta : TE) (t : TA) : TE := fun σ H Q => ta σ H fun x H1 => ∃ a C dx fs, x = .ref a ∧ H1 a = some (.ins C dx fs) ∧ fs.lookup m = none ∧ Cs C ∧ t σ H1 fun vs H2 => sp C (x :: vs) H2 Q E
section
variable {X : Cx} {CX : CXT} {k : Nat} {f C : Addr} {fd : FuncData} {ps : List Str} {sp : Sp} {spC : Addr → Sp} {Cs : Addr → Prop} {dvs : List V} {ds : List Value} {E : XK} {x m : Str} {p pos apos : Pos} {e o : Expr} {es : List Expr} {ta : TE} {t : TA}
theorem pe_methD {pl : Sem Bool} (he : PE X o ta) (F : MFam X.prog X.w X.K X.mg X.base CX k m ps Cs spC) (hr : Room k X.A) (hx : Passes CX X E) (ha : PA X (e :: es) t)
    (hst : starEach (e :: es) X.env = (false, eval e X.env) :: starEach es X.env := by rfl) (hpl : (backTo pos (starEach es X.env)).any (·.1) = false := by rfl)
    (ht : eval (.Call (.Attribute o m apos) (e :: es) [] pos) X.env = (do
      let ov ← eval o X.env
      standAt apos.atName
      let (f, first) ← holding [ov] (getMethod ov m pl)
      callWith pos f first (backTo pos (starEach (e :: es) X.env)) (backToKw pos (keywordEach [] X.env))) := by rfl) :
    PE X (.Call (.Attribute o m apos) (e :: es) [] pos) (tMethD m Cs spC E ta t) := by
  refine ⟨fun pins s σ H Q I h => ?_⟩
  refine PySem.W.methodCall_KW (pl := pl) (thn (he.run pins s σ H _ I h) fun u s1 ⟨x, H1, I1, rx, a, C, dx, fs, ex, ea, l, hC, q⟩ => ?_) ht
  subst ex
  obtain rfl : u = Value.ref a := rx
  obtain ⟨f, fd, c, hm, G, hb⟩ := F.go C hC
  refine getmeth_ok I1 ea c hm l ?_
  refine PySem.W.callWith_K (first := [.ref a]) (h₀ := X.base) I.ok.mod.kin hm.kp (thn (ha.run pos pins s1 σ H1 _ I1 q) fun us s2 ⟨vs, H2, I2, r, q2⟩ => ⟨I2.kIn, ?_⟩) hst hpl
  exact run_fn (us := .ref a :: us) (vs := .ref a :: vs) G hr hb .nil hx I2 (.cons rfl r) (by rw [List.append_nil]; exact q2)
theorem pe_methD0 {pl : Sem Bool} (he : PE X o ta) (F : MFam X.prog X.w X.K X.mg X.base CX k m ps Cs spC) (hr : Room k X.A) (hx : Passes CX X E)
    (ht : eval (.Call (.Attribute o m apos) [] [] pos) X.env = (do
      let ov ← eval o X.env
      standAt apos.atName
      let (f, first) ← holding [ov] (getMethod ov m pl)
      callWith pos f first (backTo pos (starEach [] X.env)) (backToKw pos (keywordEach [] X.env))) := by rfl) :
    PE X (.Call (.Attribute o m apos) [] [] pos) (tMethD m Cs spC E ta tNil) := by
  refine ⟨fun pins s σ H Q I h => ?_⟩
  refine PySem.W.methodCall_KW (pl := pl) (thn (he.run pins s σ H _ I h) fun u s1 ⟨x, H1, I1, rx, a, C, dx, fs, ex, ea, l, hC, q⟩ => ?_) ht
  subst ex
  obtain rfl : u = Value.ref a := rx
  obtain ⟨f, fd, c, hm, G, hb⟩ := F.go C hC
  refine getmeth_ok I1 ea c hm l ?_
  exact PySem.W.callWith_K0 (first := [.ref a]) I1.kIn hm.kp (run_fn (us := [.ref a]) (vs := [.ref a]) G hr hb .nil hx I1 (.cons rfl .nil) q)
/-- C.f(e, ..), f a def of the class at C -/
theorem pe_clsfn {pl : Sem Bool} {mc : Value} (F : FnOk X.prog X.w X.K X.mg X.base CX k f fd ps sp) (hr : Room k X.A) (hg : Gl X x) (hm : X.mg x = some (.ref C)) (r : ClX.CRead X.K C mc) (kv : ClX.CVal X.K C mc m (.ref f) (.ref f)) (hk : PySem.W.keepIn X.K (.ref f) = true)
    (hb : Binds X.K fd ps ds) (hd : Vals dvs ds) (hx : Passes CX X E) (ha : PA X (e :: es) t) (hdb : (x == ("__debug__" : Str)) = false := by decide)
    (hst : starEach (e :: es) X.env = (false, eval e X.env) :: starEach es X.env := by rfl) (hpl : (backTo pos (starEach es X.env)).any (·.1) = false := by rfl)
    (ht : eval (.Call (.Attribute (.Name x p) m apos) (e :: es) [] pos) X.env = (do
      let ov ← eval (.Name x p) X.env
      standAt apos.atName
      let (f, first) ← holding [ov] (getMethod ov m pl)
      callWith pos f first (backTo pos (starEach (e :: es) X.env)) (backToKw pos (keywordEach [] X.env))) := by rfl) :
    PE X (.Call (.Attribute (.Name x p) m apos) (e :: es) [] pos) (tCall sp dvs E t) := by
  refine ⟨fun pins s σ H Q I h => ?_⟩
  refine PySem.W.methodCall_KW (pl := pl) (ld_glob I hg hm ?_ hdb) ht
  refine PySem.W.method_cls I.kIn r.ga (ClX.getcval_ok I r kv fun s1 I1 => ?_)
  refine PySem.W.callWith_K (first := []) (h₀ := X.base) I.ok.mod.kin hk (thn (ha.run pos pins s1 σ H _ I1 h) fun us s2 ⟨vs, H2, I2, r2, q2⟩ => ⟨I2.kIn, ?_⟩) hst hpl
  exact run_fn F hr hb hd hx I2 r2 q2
end

/-! ### instances -/
section
variable {K : PySem.W.Frag} {ρ : Rho} {te ta tb : TE} {t u : TT} {d x y z : D}
theorem zip_lookup {H : Hp} : ∀ {ns : List Str} {ds : List D} {vs : List V} {f : Str} {d : D}, Reps K H ds vs → (ns.zip ds).lookup f = some d → ∃ v, (ns.zip vs).lookup f = some v ∧ Rep K H d v
  | [], _, _, f, d, r, e => by simp at e
  | n :: ns, [], _, f, d, r, e => by simp at e
  | n :: ns, d' :: ds, _, f, d, r, e => by
    cases r with
    | cons h t =>
      rename_i v vs
      have e2 : (match f == n with | true => some d' | false => (ns.zip ds).lookup f) = some d := e
      show ∃ w, (match f == n with | true => some v | false => (ns.zip vs).lookup f) = some w ∧ Rep K H d w
      cases q : f == n with
      | true =>
        rw [q] at e2
        cases e2
        exact ⟨v, rfl, h⟩
      | false =>
        rw [q] at e2
        exact zip_lookup t e2
theorem zip_none {α : Type} : ∀ {ns : List Str} {vs : List α} {f : Str}, f ∉ ns → (ns.zip vs).lookup f = none
  | [], _, f, h => by simp
  | n :: ns, [], f, h => by simp
  | n :: ns, v :: vs, f, h => by
    have h1 : (f == n) = false := by
      apply beq_eq_false_iff_ne.mpr
      intro e
      exact h (by rw [e]; exact List.mem_cons_self)
    show (match f == n with | true => some v | false => (ns.zip vs).lookup f) = none
    rw [h1]
    exact zip_none (fun q => h (List.mem_cons_of_mem _ q))
theorem evd_fld {C : Addr} {ns : List Str} {ds : List D} {f : Str} (h : EvD K te ρ (.ins C ns ds)) (c : Cls K C) (n : NoAttr K C f) (e : (ns.zip ds).lookup f = some d) : EvD K (tFld K te f) ρ d := fun B0 H0 B H σ rs Q q =>
  h B0 H0 B H σ rs _ fun v B1 H1 e1 r1 => by
    cases r1 with
    | ins hh hl r =>
      obtain ⟨w, g1, g2⟩ := zip_lookup r e
      exact ⟨_, C, _, _, w, rfl, e1.s _ _ hh, c, n, g1, q w B1 H1 e1 g2⟩
theorem evd_fldI {i : Nat} {a dx C : Addr} {ns : List Str} {ds : List D} {f : Str} (h : ρ[i]? = some (.i a dx C ns ds)) (c : Cls K C) (n : NoAttr K C f) (e : (ns.zip ds).lookup f = some d) : EvD K (tFld K (tVar i) f) ρ d := fun B0 H0 B H σ rs Q q => by
  obtain ⟨vs, h1, h2, h3, h4, h5, h6⟩ := rs.oi i a dx C ns ds h
  obtain ⟨w, g1, g2⟩ := zip_lookup h6 e
  exact ⟨_, h1, a, C, dx, _, w, rfl, h4, c, n, g1, q w B H (Ext.refl rs.s) g2⟩
theorem evd_meth {m : Str} {Cs : Addr → Prop} {R : Addr → List D → D → Prop} {E : XK} {ta : TA} {C : Addr} {ns : List Str} {ds es : List D} (h : EvD K te ρ (.ins C ns ds)) (hm : m ∉ ns) (hC : Cs C) (ha : EvA K ta ρ es) (hR : R C (.ins C ns ds :: es) d) :
    EvD K (tMethD m Cs (fun C => spD K (R C)) E te ta) ρ d := fun B0 H0 B H σ rs Q q =>
  h B0 H0 B H σ rs _ fun v B1 H1 e1 r1 => by
    have r1' := r1
    cases r1 with
    | ins hh hl r =>
      refine ⟨_, C, _, _, rfl, e1.s _ _ hh, zip_none hm, hC, ?_⟩
      exact ha B0 H0 B1 H1 σ (rs.ext e1) _ fun vs B2 H2 e2 r2 => ⟨B2, _, d, e2.s, .cons (r1'.up e2.b) r2, hR, fun w B3 H3 e3 r3 => q w B3 H3 ((e1.trans e2).trans e3) r3⟩
theorem evo_meth {m : Str} {Cs : Addr → Prop} {R : Addr → List D → List D → Prop} {E : XK} {ta : TA} {C : Addr} {ns : List Str} {ds es os : List D} (h : EvD K te ρ (.ins C ns ds)) (hm : m ∉ ns) (hC : Cs C) (ha : EvA K ta ρ es) (hR : R C (.ins C ns ds :: es) os) :
    EvO K (tMethD m Cs (fun C => spO K (R C)) E te ta) ρ os := fun B0 H0 B H σ rs Q q =>
  h B0 H0 B H σ rs _ fun v B1 H1 e1 r1 => by
    have r1' := r1
    cases r1 with
    | ins hh hl r =>
      refine ⟨_, C, _, _, rfl, e1.s _ _ hh, zip_none hm, hC, ?_⟩
      exact ha B0 H0 B1 H1 σ (rs.ext e1) _ fun vs B2 H2 e2 r2 => ⟨B2, _, os, e2.s, .cons (r1'.up e2.b) r2, hR, fun a ws B3 H3 e3 hn hb hh hs => q a ws B3 H3 ((e1.trans e2).trans e3) ((e1.trans e2).h.free hn) hb hh hs⟩
end
/-- __init__ of a fresh instance of C: es its arguments; behind it the fields ns: ds -/
def spM (K : PySem.W.Frag) (R : Addr → List D → List Str → List D → Prop) : Sp := fun vs H Q _ => ∃ B H0 C x dx us es ns ds, vs = .ref x :: us ∧ Same B H0 ∧ Same H0 H ∧ H0 x = none ∧ H x = some (.ins C dx []) ∧ Reps K B es us ∧ R C es ns ds ∧
  ∀ B2 H2 zs, Ext B H0 B2 H2 → B2 x = none → H2 x = some (.ins C dx (ns.zip zs)) → ns.length = zs.length → Reps K B2 ds zs → Q .non H2
section
variable {K : PySem.W.Frag} {ρ : Rho}
theorem made_same {H1 : Hp} {x dx : Addr} {o u : HO} (hx : H1 x = none) (hd : H1 dx = none) : Same H1 (upd (upd H1 dx u) x o) := fun a z e => by
  rw [upd_ne (ne_of_none e hx), upd_ne (ne_of_none e hd)]
  exact e
theorem evd_make {R : Addr → List D → List Str → List D → Prop} {E : XK} {ta : TA} {C : Addr} {es ds des : List D} {dvs : List V} {ns : List Str} (h : EvA K ta ρ es) (hd : ∀ B, Reps K B des dvs) (hR : R C (es ++ des) ns ds) :
    EvD K (tMake C (spM K R) dvs E ta) ρ (.ins C ns ds) := fun B0 H0 B H σ rs Q q =>
  h B0 H0 B H σ rs _ fun vs B1 H1 e1 r1 x dx hx hdx hne => ⟨B1, H1, C, x, dx, _, es ++ des, ns, ds, rfl, e1.s, made_same hx hdx, hx, upd_same, r1.app (hd B1), hR, fun B2 H2 zs e2 hb hh hl r2 =>
    ⟨rfl, q _ _ _ ((e1.trans e2).pub (e1.h.free hx) hh hb) (.ins upd_same hl (r2.up (same_new hb)))⟩⟩
theorem evd_make0 {R : Addr → List D → List Str → List D → Prop} {E : XK} {ta : TA} {C : Addr} {es ds : List D} {ns : List Str} (h : EvA K ta ρ es) (hR : R C es ns ds) :
    EvD K (tMake C (spM K R) [] E ta) ρ (.ins C ns ds) := evd_make (des := []) h (fun _ => .nil) (by rw [List.append_nil]; exact hR)
/-- with keywords: gV puts the instance, the values and the keywords' values in the parameters' order -/
theorem evd_makeN {R : Addr → List D → List Str → List D → Prop} {E : XK} {ta tk : TA} {C : Addr} {es ks fs ds : List D} {ns : List Str} {n m : Nat} {gV : List V → List V → List V} (h : EvA K ta ρ es) (hk : EvA K tk ρ ks) (hn : es.length = n) (hm : ks.length = m)
    (hg : ∀ B vs zs x, Reps K B es vs → Reps K B ks zs → ∃ us, gV (.ref x :: vs) zs = .ref x :: us ∧ Reps K B fs us) (hR : R C fs ns ds) :
    EvD K (tMakeN C n m (spM K R) gV E ta tk) ρ (.ins C ns ds) := fun B0 H0 B H σ rs Q q =>
  h B0 H0 B H σ rs _ fun vs B1 H1 e1 r1 => hk B0 H0 B1 H1 σ (rs.ext e1) _ fun zs B2 H2 e2 r2 => ⟨by rw [← r1.len]; exact hn, by rw [← r2.len]; exact hm, fun x dx hx hdx hne => by
    obtain ⟨us, g1, g2⟩ := hg B2 vs zs x (r1.up e2.b) r2
    rw [g1]
    exact ⟨B2, H2, C, x, dx, _, fs, ns, ds, rfl, e2.s, made_same hx hdx, hx, upd_same, g2, hR, fun B3 H3 zs e3 hb hh hl r3 =>
      ⟨rfl, q _ _ _ (((e1.trans e2).trans e3).pub ((e1.trans e2).h.free hx) hh hb) (.ins upd_same hl (r3.up (same_new hb)))⟩⟩⟩
end

/-! ### statements -/
inductive Out where
  | nx (ρ : Rho) | bk (ρ : Rho) | ct (ρ : Rho) | rt (d : D) | rtO (ds : List D)
def OutOk (K : PySem.W.Frag) (B0 H0 : Hp) : Out → Ends → Prop
  | .nx ρ, E => ∀ B H σ, RepS K B0 H0 B H ρ σ → E.nx σ H
  | .bk ρ, E => ∀ B H σ, RepS K B0 H0 B H ρ σ → E.bk σ H
  | .ct ρ, E => ∀ B H σ, RepS K B0 H0 B H ρ σ → E.ct σ H
  | .rt d, E => ∀ v B H, Ext B0 H0 B H → Rep K B d v → E.rt v H
  | .rtO ds, E => ∀ a vs B H, Ext B0 H0 B H → H0 a = none → B a = none → H a = some (.lst vs) → Reps K B ds vs → E.rt (.ref a) H
def EvS (K : PySem.W.Frag) (ts : TS) (ρ : Rho) (o : Out) : Prop := ∀ B0 H0 B H σ, RepS K B0 H0 B H ρ σ → ∀ E : Ends, OutOk K B0 H0 o E → ts E σ H
def EvG (K : PySem.W.Frag) (g : TG) (d : D) (ρ ρ' : Rho) : Prop := ∀ B0 H0 B H σ v, RepS K B0 H0 B H ρ σ → Rep K B d v → ∀ Q : L2.St → Hp → Prop, (∀ σ2, RepS K B0 H0 B H ρ' σ2 → Q σ2 H) → g v σ H Q
def EvGs (K : PySem.W.Frag) (g : TGs) (ds : List D) (ρ ρ' : Rho) : Prop := ∀ B0 H0 B H σ vs, RepS K B0 H0 B H ρ σ → Reps K B ds vs → ∀ Q : L2.St → Hp → Prop, (∀ σ2, RepS K B0 H0 B H ρ' σ2 → Q σ2 H) → g vs σ H Q
/-- an iterator that gives ds, as long as the base stands -/
def Yields (K : PySem.W.Frag) (B1 Hf : Hp) (J : It) (ds : List D) : Prop := ∀ B H, Same B1 B → Same B H → Same Hf H → ∀ i : Nat,
  (∀ d, ds[i]? = some d → J.go i H ∧ ∀ x H', J.yld i H x H' → ∃ B', Ext B H B' H' ∧ Rep K B' d x) ∧ (ds.length ≤ i → J.stop i H)
def EvI (K : PySem.W.Frag) (wi : TI) (ρ : Rho) (ds : List D) : Prop := ∀ B0 H0 B H σ, RepS K B0 H0 B H ρ σ → ∀ R : It → Hp → Prop, (∀ J B2 H2, Ext B H B2 H2 → Yields K B2 H0 J ds → R J H2) → wi σ H R
section
variable {K : PySem.W.Frag} {ρ ρ' ρ1 ρ2 : Rho} {te ta tb : TE} {t : TT} {ts tu : TS} {d : D} {o : Out} {g : TG} {i : Nat}
theorem evg_name : EvG K (gName i) d ρ (ρ.set i (.p d)) := fun B0 H0 B H σ v rs r Q q => q _ (rs.setP i r)
theorem evgs_nil : EvGs K gNil [] ρ ρ := fun B0 H0 B H σ vs rs r Q q => by
  cases r
  exact ⟨rfl, q σ rs⟩
theorem evgs_cons {gs : TGs} {ds : List D} (h : EvG K g d ρ ρ1) (hs : EvGs K gs ds ρ1 ρ2) : EvGs K (gCons g gs) (d :: ds) ρ ρ2 := fun B0 H0 B H σ vs rs r Q q => by
  cases r with
  | cons hv ht => exact ⟨_, _, rfl, h B0 H0 B H σ _ rs hv _ fun σ1 rs1 => hs B0 H0 B H σ1 _ rs1 ht Q q⟩
theorem evg_tup {gs : TGs} {ds : List D} {n : Nat} (h : EvGs K gs ds ρ ρ') (hl : ds.length = n) : EvG K (gTup K n gs) (.tup ds) ρ ρ' := fun B0 H0 B H σ v rs r Q q => by
  cases r with
  | tup hh hr => exact ⟨_, _, rfl, SqT.of (rs.s _ _ hh), by rw [← hr.len]; exact hl, h B0 H0 B H σ _ rs hr Q q⟩
theorem evs_weak (h : EvS K ts ρ (.nx ρ1)) (l : leR ρ2 ρ1) : EvS K ts ρ (.nx ρ2) := fun B0 H0 B H σ rs E q => h B0 H0 B H σ rs E fun B2 H2 σ2 r2 => q B2 H2 σ2 (r2.weak l)
theorem evs_pre (h : EvS K ts ρ1 o) (l : leR ρ1 ρ) : EvS K ts ρ o := fun B0 H0 B H σ rs E q => h B0 H0 B H σ (rs.weak l) E q
theorem evs_pub {ds : List D} (hi : ρ[i]? = some (.o ds)) (h : EvS K ts (ρ.set i (.p (.lst ds))) o) : EvS K ts ρ o := fun B0 H0 B H σ rs E q => by
  obtain ⟨B', r'⟩ := rs.pub hi
  exact h B0 H0 B' H σ r' E q
theorem evs_seq (h1 : EvS K ts ρ (.nx ρ1)) (h2 : EvS K tu ρ1 o) : EvS K (tSeq ts tu) ρ o := fun B0 H0 B H σ rs E q =>
  h1 B0 H0 B H σ rs { E with nx := tu E } fun B1 H1 σ1 r1 => h2 B0 H0 B1 H1 σ1 r1 E q
/-- the first statement leaves -/
theorem evs_seqX (ho : ∀ r, o ≠ .nx r) (h1 : EvS K ts ρ o) : EvS K (tSeq ts tu) ρ o := fun B0 H0 B H σ rs E q =>
  h1 B0 H0 B H σ rs { E with nx := tu E } (by
    cases o with
    | nx r => exact absurd rfl (ho r)
    | bk r => exact q
    | ct r => exact q
    | rt d => exact q
    | rtO ds => exact q)
theorem evs_seqR (h1 : EvS K ts ρ (.rt d)) : EvS K (tSeq ts tu) ρ (.rt d) := evs_seqX (fun _ z => nomatch z) h1
theorem evs_seqO {ds : List D} (h1 : EvS K ts ρ (.rtO ds)) : EvS K (tSeq ts tu) ρ (.rtO ds) := evs_seqX (fun _ z => nomatch z) h1
theorem evs_next : EvS K tNext ρ (.nx ρ) := fun B0 H0 B H σ rs E q => q B H σ rs
theorem evs_break : EvS K tBreak ρ (.bk ρ) := fun B0 H0 B H σ rs E q => q B H σ rs
theorem evs_cont : EvS K tCont ρ (.ct ρ) := fun B0 H0 B H σ rs E q => q B H σ rs
theorem evs_asg (h : EvD K te ρ d) (hg : EvG K g d ρ ρ') : EvS K (tAsg te g) ρ (.nx ρ') := fun B0 H0 B H σ rs E q =>
  h B0 H0 B H σ rs _ fun v B1 H1 e1 r1 => hg B0 H0 B1 H1 σ v (rs.ext e1) r1 _ fun σ2 r2 => q B1 H1 σ2 r2
theorem evs_set (h : EvD K te ρ d) (e : ρ.set i (.p d) = ρ') : EvS K (tAsg te (gName i)) ρ (.nx ρ') := e ▸ evs_asg h evg_name
theorem evs_setO {ds : List D} (h : EvO K te ρ ds) (e : ρ.set i (.o ds) = ρ') : EvS K (tAsg te (gName i)) ρ (.nx ρ') := fun B0 H0 B H σ rs E q =>
  h B0 H0 B H σ rs _ fun a vs B1 H1 e1 hn hb hh hr => q B1 H1 _ (e ▸ rs.setO i e1 hn hb hh hr)
theorem evs_ret (h : EvD K te ρ d) : EvS K (tRet te) ρ (.rt d) := fun B0 H0 B H σ rs E q =>
  h B0 H0 B H σ rs _ fun v B1 H1 e1 r1 => q v B1 H1 (rs.e.trans e1) r1
theorem evs_retX {ds : List D} (h : EvO K te ρ ds) : EvS K (tRet te) ρ (.rtO ds) := fun B0 H0 B H σ rs E q =>
  h B0 H0 B H σ rs _ fun a vs B1 H1 e1 hn hb hh hr => q a vs B1 H1 (rs.e.trans e1) (rs.e.h.free hn) hb hh hr
theorem evs_retO {ds : List D} (h : ρ[i]? = some (.o ds)) : EvS K (tRet (tVar i)) ρ (.rtO ds) := fun B0 H0 B H σ rs E q => by
  obtain ⟨a, vs, h1, h2, h3, h4, h5⟩ := rs.ow i ds h
  exact ⟨_, h1, q a vs B H rs.e h2 h3 h4 h5⟩
theorem evs_retN : EvS K tRetN ρ (.rt .non) := fun B0 H0 B H σ rs E q => q _ B H rs.e .non
theorem evs_if {b : Bool} (h : EvT K t ρ b) (h1 : b = true → EvS K ts ρ o) (h2 : b = false → EvS K tu ρ o) : EvS K (tIfS t ts tu) ρ o := fun B0 H0 B H σ rs E q =>
  h B0 H0 B H σ rs _ fun B1 H1 e1 => by
    cases b with
    | true => exact h1 rfl B0 H0 B1 H1 σ (rs.ext e1) E q
    | false => exact h2 rfl B0 H0 B1 H1 σ (rs.ext e1) E q
theorem evs_drop (h : EvD K te ρ d) : EvS K (tDrop te) ρ (.nx ρ) := fun B0 H0 B H σ rs E q =>
  h B0 H0 B H σ rs _ fun v B1 H1 e1 r1 => q B1 H1 σ (rs.ext e1)
/-- xs.append(e), xs the def's own -/
theorem evs_app {ds : List D} (hi : ρ[i]? = some (.o ds)) (h : EvD K te ρ d) (hl : ds.length < sizeLine) (e : ρ.set i (.o (ds ++ [d])) = ρ') : EvS K (tDrop (tBM K "list" rAppend (tVar i) (tCons te tNil))) ρ (.nx ρ') := fun B0 H0 B H σ rs E q => by
  obtain ⟨a, vs, h1, h2, h3, h4, h5⟩ := rs.ow i ds hi
  refine ⟨_, h1, .inl ⟨rfl, _, SqL.of h4⟩, ?_⟩
  refine h B0 H0 B H σ rs _ fun v B1 H1 e1 r1 => ?_
  have rs1 := rs.ext e1
  refine ⟨a, vs, v, rfl, rfl, e1.h _ _ h4, by rw [← h5.len]; exact hl, ?_⟩
  exact q B1 _ σ (e ▸ rs1.mutO hi h1 ((h5.up e1.b).app (.cons r1 .nil)))
theorem evs_clear {ds : List D} (hi : ρ[i]? = some (.o ds)) (e : ρ.set i (.o []) = ρ') : EvS K (tDrop (tBM0 K "list" rClear (tVar i))) ρ (.nx ρ') := fun B0 H0 B H σ rs E q => by
  obtain ⟨a, vs, h1, h2, h3, h4, h5⟩ := rs.ow i ds hi
  exact ⟨_, h1, .inl ⟨rfl, _, SqL.of h4⟩, a, vs, rfl, rfl, h4, q B _ σ (e ▸ rs.mutO hi h1 .nil)⟩
theorem evs_reverse {ds : List D} (hi : ρ[i]? = some (.o ds)) (e : ρ.set i (.o ds.reverse) = ρ') : EvS K (tDrop (tBM0 K "list" rReverse (tVar i))) ρ (.nx ρ') := fun B0 H0 B H σ rs E q => by
  obtain ⟨a, vs, h1, h2, h3, h4, h5⟩ := rs.ow i ds hi
  exact ⟨_, h1, .inl ⟨rfl, _, SqL.of h4⟩, a, vs, rfl, rfl, h4, q B _ σ (e ▸ rs.mutO hi h1 h5.rev)⟩
/-- a new list is made, changed and dropped: e.append(x) -/
theorem evs_appX {ds : List D} {x : D} (h0 : EvO K ta ρ ds) (h : EvD K te ρ x) (hl : ds.length < sizeLine) : EvS K (tDrop (tBM K "list" rAppend ta (tCons te tNil))) ρ (.nx ρ) := fun B0 H0 B H σ rs E q =>
  h0 B0 H0 B H σ rs _ fun a vs B1 H1 e1 hn hb hh hr => ⟨.inl ⟨rfl, _, SqL.of hh⟩, h B0 H0 B1 H1 σ (rs.ext e1) _ fun v B2 H2 e2 r2 => ⟨a, vs, v, rfl, rfl, e2.h _ _ hh, by rw [← hr.len]; exact hl, by
    refine q B2 _ σ ?_
    have h2b : B2 a = none := e2.f a (by rw [hh]; exact fun z => nomatch z) hb
    exact rs.ext ((e1.trans e2).mut hn h2b)⟩⟩
/-- xs[k] = e -/
theorem evs_setIx {ds : List D} {k : Int} {j : Nat} (hi : ρ[i]? = some (.o ds)) (h : EvD K te ρ d) (hk : EvD K tb ρ (.int k)) (hj : ixN ds.length k = some j) (e : ρ.set i (.o (ds.set j d)) = ρ') : EvS K (tAsg te (gSub (tVar i) tb rSetL)) ρ (.nx ρ') := fun B0 H0 B H σ rs E q => by
  obtain ⟨a, vs, h1, h2, h3, h4, h5⟩ := rs.ow i ds hi
  refine h B0 H0 B H σ rs _ fun v B1 H1 e1 r1 => ⟨_, h1, ?_⟩
  refine hk B0 H0 B1 H1 σ (rs.ext e1) _ fun w B2 H2 e2 r2 => ?_
  cases r2
  have rs2 := (rs.ext e1).ext e2
  refine ⟨a, vs, k, j, rfl, rfl, e2.h _ _ (e1.h _ _ h4), by rw [← h5.len]; exact hj, ?_⟩
  exact q B2 _ σ (e ▸ rs2.mutO hi h1 (Reps.set (r1.up e2.b) j ((h5.up e1.b).up e2.b)))
/-! fields of an own instance -/
def putN (f : Str) (d : D) : List Str → List D → List Str × List D
  | n :: ns, x :: ds => if n = f then (n :: ns, d :: ds) else ((n :: (putN f d ns ds).1), (x :: (putN f d ns ds).2))
  | ns, ds => (ns ++ [f], ds ++ [d])
theorem putF_zip {H : Hp} {f : Str} {d : D} {v : V} (r : Rep K H d v) : ∀ {ns : List Str} {ds : List D} {vs : List V}, ns.length = vs.length → Reps K H ds vs → ∃ ws, putF f v (ns.zip vs) = (putN f d ns ds).1.zip ws ∧ (putN f d ns ds).1.length = ws.length ∧ Reps K H (putN f d ns ds).2 ws
  | [], ds, vs, hl, h => by
    have e : vs = [] := List.length_eq_zero_iff.mp hl.symm
    subst e
    cases h
    exact ⟨[v], rfl, rfl, .cons r .nil⟩
  | n :: ns, ds, [], hl, h => by simp at hl
  | n :: ns, [], u :: vs, hl, h => by cases h
  | n :: ns, x :: ds, u :: vs, hl, h => by
    cases h with
    | cons h t =>
      have ez : putF f v ((n :: ns).zip (u :: vs)) = if n = f then (n, v) :: (ns.zip vs) else (n, u) :: putF f v (ns.zip vs) := rfl
      rw [ez]
      unfold putN
      by_cases c : n = f
      · rw [if_pos c, if_pos c]
        exact ⟨v :: vs, rfl, hl, .cons r t⟩
      · rw [if_neg c, if_neg c]
        obtain ⟨ws, g1, g2, g3⟩ := putF_zip r (ns := ns) (by simpa using hl) t
        exact ⟨u :: ws, by rw [g1]; rfl, by simp [g2], .cons h g3⟩
theorem evs_fld {a dx C : Addr} {ns ns' : List Str} {ds ds' : List D} {f : Str} (hi : ρ[i]? = some (.i a dx C ns ds)) (h : EvD K te ρ d) (c : Cls K C) (n : NoAttr K C f) (hl : ns.length < 1000) (hp : putN f d ns ds = (ns', ds')) (e : ρ.set i (.i a dx C ns' ds') = ρ') :
    EvS K (sFld K (tVar i) te f) ρ (.nx ρ') := fun B0 H0 B H σ rs E q => by
  obtain ⟨vs, h1, h2, h3, h4, h5, h6⟩ := rs.oi i a dx C ns ds hi
  refine h B0 H0 B H σ rs _ fun v B1 H1 e1 r1 => ⟨_, h1, ?_⟩
  obtain ⟨ws, g1, g2, g3⟩ := putF_zip (f := f) r1 (ns := ns) h5 (h6.up e1.b)
  rw [hp] at g1 g2 g3
  refine ⟨a, C, dx, _, rfl, e1.h _ _ h4, c, n, by rw [List.length_zip, ← h5]; omega, ?_⟩
  rw [g1]
  exact q B1 _ σ (e ▸ (rs.ext e1).mutI hi g2 g3)
/-- D.__init__(self, ..) of the own instance, fresh -/
def del (H : Hp) (x : Addr) : Hp := fun a => if a = x then none else H a
theorem del_ne {H : Hp} {x a : Addr} (h : a ≠ x) : del H x a = H a := by unfold del; rw [if_neg h]
theorem RepS.afterInit {B0 H0 B1 H1 B2 H2 : Hp} {σ : L2.St} {a dx C : Addr} {ns : List Str} {ds : List D} {zs : List V} (rs1 : RepS K B0 H0 B1 H1 ρ σ) (hi : ρ[i]? = some (.i a dx C [] [])) (e2 : Ext B1 (del H1 a) B2 H2) (hb : B2 a = none) (hh : H2 a = some (.ins C dx (ns.zip zs))) (hl : ns.length = zs.length) (r2 : Reps K B2 ds zs) :
    RepS K B0 H0 B2 H2 (ρ.set i (.i a dx C ns ds)) σ := by
  obtain ⟨vs, h1, h2, b1, a1, h5, h6⟩ := rs1.oi i a dx C [] [] hi
  have li : i < ρ.length := (List.getElem?_eq_some_iff.mp hi).1
  have kp : ∀ b z, b ≠ a → H1 b = some z → H2 b = some z := fun b z hb q => e2.h b z (by rw [del_ne hb]; exact q)
  have own : ∀ (j : Nat), isOwn (ρ.set i (.i a dx C ns ds))[j]? → isOwn ρ[j]? := fun j hj => by
    rw [getElem?_set_eq] at hj
    by_cases c : i = j
    · subst c; rw [hi]; trivial
    · rw [if_neg c] at hj; exact hj
  have na : ∀ (j : Nat) (b : Addr), isOwn ρ[j]? → i ≠ j → σ[j]? = some (some (V.ref b)) → b ≠ a := fun j b hj ne q z => by
    subst z
    exact ne (rs1.dj i j b (by rw [hi]; trivial) hj h1 q)
  have free2 : ∀ b z, b ≠ a → H1 b = some z → B1 b = none → B2 b = none := fun b z hb q q2 => e2.f b (by rw [del_ne hb, q]; exact fun z => nomatch z) q2
  refine ⟨⟨rs1.e.b.trans e2.b, fun b z q => kp b z (ne_of_none q h2) (rs1.e.h _ _ q), e2.s, fun b hb hb0 => ?_⟩, by simp [rs1.len], fun j d' h' => ?_, fun j es' h' => ?_, fun j b dx' C' ns' es' h' => ?_, fun j es' h' => ?_, fun j k b hj hk q1 q2 => rs1.dj j k b (own j hj) (own k hk) q1 q2⟩
  · cases q : H0 b with
    | none => exact absurd q hb
    | some z => exact free2 b z (ne_of_none q h2) (rs1.e.h _ _ q) (rs1.e.f b hb hb0)
  · rw [getElem?_set_eq] at h'
    by_cases c : i = j
    · rw [if_pos c, if_pos li] at h'; cases h'
    · rw [if_neg c] at h'
      obtain ⟨v, q1, q2⟩ := rs1.pu j d' h'
      exact ⟨v, q1, q2.up e2.b⟩
  · rw [getElem?_set_eq] at h'
    by_cases c : i = j
    · rw [if_pos c, if_pos li] at h'; cases h'
    · rw [if_neg c] at h'
      obtain ⟨b, ws, q1, q2, q3, q4, q5⟩ := rs1.ow j es' h'
      have nb := na j b (by rw [h']; trivial) c q1
      exact ⟨b, ws, q1, q2, free2 b _ nb q4 q3, kp b _ nb q4, q5.up e2.b⟩
  · rw [getElem?_set_eq] at h'
    by_cases c : i = j
    · subst c
      rw [if_pos rfl, if_pos li] at h'
      cases h'
      exact ⟨zs, h1, h2, hb, hh, hl, r2⟩
    · rw [if_neg c] at h'
      obtain ⟨ws, q1, q2, q3, q4, q5, q6⟩ := rs1.oi j b dx' C' ns' es' h'
      have nb := na j b (by rw [h']; trivial) c q1
      exact ⟨ws, q1, q2, free2 b _ nb q4 q3, kp b _ nb q4, q5, q6.up e2.b⟩
  · rw [getElem?_set_eq] at h'
    by_cases c : i = j
    · rw [if_pos c, if_pos li] at h'; cases h'
    · rw [if_neg c] at h'
      obtain ⟨b, ws, q1, q2, q3, q4⟩ := rs1.bo j es' h'
      exact ⟨b, ws, q1, free2 b _ (ne_of_none q3 h2) (rs1.e.h _ _ q3) q2, q3, q4.up e2.b⟩
theorem del_sames {B1 H1 : Hp} {a dx C : Addr} {fs : List (Str × V)} (s : Same B1 H1) (b1 : B1 a = none) (a1 : H1 a = some (.ins C dx fs)) : Same B1 (del H1 a) ∧ Same (del H1 a) H1 ∧ del H1 a a = none :=
  ⟨fun b z q => by rw [del_ne (ne_of_none q b1)]; exact s _ _ q, fun b z q => by
    by_cases hb : b = a
    · subst hb; unfold del at q; rw [if_pos rfl] at q; cases q
    · rw [del_ne hb] at q; exact q, by unfold del; rw [if_pos rfl]⟩
theorem evs_init {R : Addr → List D → List Str → List D → Prop} {E' : XK} {ta : TA} {a dx C : Addr} {es ds des : List D} {dvs : List V} {ns : List Str} (hi : ρ[i]? = some (.i a dx C [] [])) (h : EvA K ta ρ es) (hd : ∀ B, Reps K B des dvs) (hR : R C (es ++ des) ns ds) (e : ρ.set i (.i a dx C ns ds) = ρ') :
    EvS K (tDrop (tCall (spM K R) dvs E' (tCons (tVar i) ta))) ρ (.nx ρ') := fun B0 H0 B H σ rs E q => by
  obtain ⟨vs, h1, _⟩ := rs.oi i a dx C [] [] hi
  refine ⟨_, h1, ?_⟩
  refine h B0 H0 B H σ rs _ fun us B1 H1 e1 r1 => ?_
  have rs1 := rs.ext e1
  obtain ⟨_, _, _, b1, a1, _⟩ := rs1.oi i a dx C [] [] hi
  obtain ⟨sB, sH, da⟩ := del_sames rs1.s b1 a1
  exact ⟨B1, del H1 a, C, a, dx, us ++ dvs, es ++ des, ns, ds, rfl, sB, sH, da, a1, r1.app (hd B1), hR, fun B2 H2 zs e2 hb hh hl r2 => q B2 H2 σ (e ▸ rs1.afterInit hi e2 hb hh hl r2)⟩
end
/-! ### lists that are lent -/
inductive Arg where
  | p (d : D) | b (ds : List D)
def RepA (K : PySem.W.Frag) (B H : Hp) : Arg → V → Prop
  | .p d, v => Rep K B d v
  | .b ds, v => ∃ a vs, v = .ref a ∧ B a = none ∧ H a = some (.lst vs) ∧ Reps K B ds vs
inductive RepAs (K : PySem.W.Frag) (B H : Hp) : List Arg → List V → Prop
  | nil : RepAs K B H [] []
  | cons {a : Arg} {v : V} {as : List Arg} {vs : List V} (h : RepA K B H a v) (t : RepAs K B H as vs) : RepAs K B H (a :: as) (v :: vs)
def slotOf : Arg → Slot
  | .p d => .p d
  | .b ds => .b ds
/-- an argument that is a list of ds -/
def IsL (a : Arg) (ds : List D) : Prop := a = .p (.lst ds) ∨ a = .b ds
/-- a slot that holds a list of ds -/
def ListAt (ρ : Rho) (i : Nat) (ds : List D) : Prop := ρ[i]? = some (.p (.lst ds)) ∨ ρ[i]? = some (.o ds) ∨ ρ[i]? = some (.b ds)
section
variable {K : PySem.W.Frag} {B H B2 H2 : Hp}
theorem RepA.ext {a : Arg} {v : V} (h : RepA K B H a v) (x : Ext B H B2 H2) : RepA K B2 H2 a v := by
  cases a with
  | p d => exact Rep.up h x.b
  | b ds =>
    obtain ⟨a, vs, rfl, h1, h2, h3⟩ := h
    exact ⟨a, vs, rfl, x.f a (by rw [h2]; exact fun z => nomatch z) h1, x.h _ _ h2, h3.up x.b⟩
theorem RepAs.ext {as : List Arg} {vs : List V} (h : RepAs K B H as vs) (x : Ext B H B2 H2) : RepAs K B2 H2 as vs := by
  induction h with
  | nil => exact .nil
  | cons h t ih => exact .cons (h.ext x) ih
theorem RepAs.len {as : List Arg} {vs : List V} (h : RepAs K B H as vs) : as.length = vs.length := by
  induction h with
  | nil => rfl
  | cons h t ih => simp [ih]
theorem RepAs.app {as bs : List Arg} {vs ws : List V} (h : RepAs K B H as vs) (g : RepAs K B H bs ws) : RepAs K B H (as ++ bs) (vs ++ ws) := by
  induction h with
  | nil => exact g
  | cons h t ih => exact .cons h ih
theorem RepAs.get {as : List Arg} {vs : List V} (h : RepAs K B H as vs) : ∀ {i : Nat} {a : Arg}, as[i]? = some a → ∃ v, vs[i]? = some v ∧ RepA K B H a v := by
  induction h with
  | nil => intro i a e; simp at e
  | cons h t ih =>
    intro i a e
    cases i with
    | zero => simp at e; subst e; exact ⟨_, rfl, h⟩
    | succ i => obtain ⟨v, h1, h2⟩ := ih (i := i) (a := a) (by simpa using e); exact ⟨v, by simpa using h1, h2⟩
end
section
variable (K : PySem.W.Frag)
def EvAb (ta : TA) (ρ : Rho) (as : List Arg) : Prop := ∀ B0 H0 B H σ, RepS K B0 H0 B H ρ σ → ∀ Q : List V → Hp → Prop, (∀ vs B2 H2, Ext B H B2 H2 → RepAs K B2 H2 as vs → Q vs H2) → ta σ H Q
def spDb (R : List Arg → D → Prop) : Sp := fun vs H Q _ => ∃ B as d, Same B H ∧ RepAs K B H as vs ∧ R as d ∧ ∀ v B2 H2, Ext B H B2 H2 → Rep K B2 d v → Q v H2
def spOb (R : List Arg → List D → Prop) : Sp := fun vs H Q _ => ∃ B as es, Same B H ∧ RepAs K B H as vs ∧ R as es ∧ ∀ a ws B2 H2, Ext B H B2 H2 → H a = none → B2 a = none → H2 a = some (.lst ws) → Reps K B2 es ws → Q (.ref a) H2
def spMb (R : Addr → List Arg → List Str → List D → Prop) : Sp := fun vs H Q _ => ∃ B H0 C x dx us as ns ds, vs = .ref x :: us ∧ Same B H0 ∧ Same H0 H ∧ H0 x = none ∧ H x = some (.ins C dx []) ∧ RepAs K B H0 as us ∧ R C as ns ds ∧
  ∀ B2 H2 zs, Ext B H0 B2 H2 → B2 x = none → H2 x = some (.ins C dx (ns.zip zs)) → ns.length = zs.length → Reps K B2 ds zs → Q .non H2
end
section
variable {K : PySem.W.Frag} {ρ ρ' : Rho} {te tb : TE} {tr ta : TA} {as : List Arg} {ds : List D} {d : D} {i : Nat}
theorem eab_nil : EvAb K tNil ρ [] := fun B0 H0 B H σ rs Q q => q [] B H (Ext.refl rs.s) .nil
theorem eab_p (h : EvD K te ρ d) (hr : EvAb K tr ρ as) : EvAb K (tCons te tr) ρ (.p d :: as) := fun B0 H0 B H σ rs Q q =>
  h B0 H0 B H σ rs _ fun v B1 H1 e1 r1 => hr B0 H0 B1 H1 σ (rs.ext e1) _ fun vs B2 H2 e2 r2 => q (v :: vs) B2 H2 (e1.trans e2) (.cons (r1.up e2.b) r2)
theorem eab_v (h : ρ[i]? = some (.o ds) ∨ ρ[i]? = some (.b ds)) (hr : EvAb K tr ρ as) : EvAb K (tCons (tVar i) tr) ρ (.b ds :: as) := fun B0 H0 B H σ rs Q q => by
  have key : ∃ a vs, σ[i]? = some (some (.ref a)) ∧ B a = none ∧ H a = some (.lst vs) ∧ Reps K B ds vs := by
    rcases h with h | h
    · obtain ⟨a, vs, h1, h2, h3, h4, h5⟩ := rs.ow i ds h
      exact ⟨a, vs, h1, h3, h4, h5⟩
    · obtain ⟨a, vs, h1, h2, h3, h4⟩ := rs.bo i ds h
      exact ⟨a, vs, h1, h2, rs.e.h _ _ h3, h4⟩
  obtain ⟨a, vs, h1, h2, h3, h4⟩ := key
  refine ⟨_, h1, ?_⟩
  refine hr B0 H0 B H σ rs _ fun us B2 H2 e2 r2 => q _ B2 H2 e2 (.cons ?_ r2)
  exact RepA.ext (K := K) (a := .b ds) ⟨a, vs, rfl, h2, h3, h4⟩ e2
theorem evd_callB {R : List Arg → D → Prop} {E : XK} (h : EvAb K ta ρ as) (hR : R as d) : EvD K (tCall (spDb K R) [] E ta) ρ d := fun B0 H0 B H σ rs Q q =>
  h B0 H0 B H σ rs _ fun vs B1 H1 e1 r1 => ⟨B1, as, d, e1.s, by rw [List.append_nil]; exact r1, hR, fun v B2 H2 e2 r2 => q v B2 H2 (e1.trans e2) r2⟩
theorem evo_callB {R : List Arg → List D → Prop} {E : XK} (h : EvAb K ta ρ as) (hR : R as ds) : EvO K (tCall (spOb K R) [] E ta) ρ ds := fun B0 H0 B H σ rs Q q =>
  h B0 H0 B H σ rs _ fun vs B1 H1 e1 r1 => ⟨B1, as, ds, e1.s, by rw [List.append_nil]; exact r1, hR, fun a ws B2 H2 e2 hn hb hh hs => q a ws B2 H2 (e1.trans e2) (e1.h.free hn) hb hh hs⟩
theorem evd_makeB {R : Addr → List Arg → List Str → List D → Prop} {E : XK} {C : Addr} {bs : List Arg} {dvs : List V} {ns : List Str} (h : EvAb K ta ρ as) (hd : ∀ B H, RepAs K B H bs dvs) (hR : R C (as ++ bs) ns ds) :
    EvD K (tMake C (spMb K R) dvs E ta) ρ (.ins C ns ds) := fun B0 H0 B H σ rs Q q =>
  h B0 H0 B H σ rs _ fun vs B1 H1 e1 r1 x dx hx hdx hne => ⟨B1, H1, C, x, dx, _, as ++ bs, ns, ds, rfl, e1.s, made_same hx hdx, hx, upd_same, r1.app (hd B1 H1), hR, fun B2 H2 zs e2 hb hh hl r2 =>
    ⟨rfl, q _ _ _ ((e1.trans e2).pub (e1.h.free hx) hh hb) (.ins upd_same hl (r2.up (same_new hb)))⟩⟩
theorem evd_makeB0 {R : Addr → List Arg → List Str → List D → Prop} {E : XK} {C : Addr} {ns : List Str} (h : EvAb K ta ρ as) (hR : R C as ns ds) :
    EvD K (tMake C (spMb K R) [] E ta) ρ (.ins C ns ds) := evd_makeB (bs := []) h (fun _ _ => .nil) (by rw [List.append_nil]; exact hR)
theorem evd_makeNB {R : Addr → List Arg → List Str → List D → Prop} {E : XK} {tk : TA} {C : Addr} {ks fs : List Arg} {ns : List Str} {n m : Nat} {gV : List V → List V → List V} (h : EvAb K ta ρ as) (hk : EvAb K tk ρ ks) (hn : as.length = n) (hm : ks.length = m)
    (hg : ∀ B H vs zs x, RepAs K B H as vs → RepAs K B H ks zs → ∃ us, gV (.ref x :: vs) zs = .ref x :: us ∧ RepAs K B H fs us) (hR : R C fs ns ds) :
    EvD K (tMakeN C n m (spMb K R) gV E ta tk) ρ (.ins C ns ds) := fun B0 H0 B H σ rs Q q =>
  h B0 H0 B H σ rs _ fun vs B1 H1 e1 r1 => hk B0 H0 B1 H1 σ (rs.ext e1) _ fun zs B2 H2 e2 r2 => ⟨by rw [← r1.len]; exact hn, by rw [← r2.len]; exact hm, fun x dx hx hdx hne => by
    obtain ⟨us, g1, g2⟩ := hg B2 H2 vs zs x (r1.ext e2) r2
    rw [g1]
    exact ⟨B2, H2, C, x, dx, _, fs, ns, ds, rfl, e2.s, made_same hx hdx, hx, upd_same, g2, hR, fun B3 H3 zs e3 hb hh hl r3 =>
      ⟨rfl, q _ _ _ (((e1.trans e2).trans e3).pub ((e1.trans e2).h.free hx) hh hb) (.ins upd_same hl (r3.up (same_new hb)))⟩⟩⟩
theorem RepAs.del {B H : Hp} {x : Addr} {dx C : Addr} {fs : List (Str × V)} {as : List Arg} {vs : List V} (h : RepAs K B H as vs) (hx : H x = some (.ins C dx fs)) : RepAs K B (del H x) as vs := by
  induction h with
  | nil => exact .nil
  | @cons a v as vs h t ih =>
    refine .cons ?_ ih
    cases a with
    | p d => exact h
    | b ds =>
      obtain ⟨b, ws, rfl, h1, h2, h3⟩ := h
      exact ⟨b, ws, rfl, h1, by rw [del_ne (fun e => by rw [e, hx] at h2; cases h2)]; exact h2, h3⟩
/-- D.__init__(self, ..) of the own instance, fresh; lists may be lent -/
theorem evs_initB {R : Addr → List Arg → List Str → List D → Prop} {E' : XK} {a dx C : Addr} {bs : List Arg} {dvs : List V} {ns : List Str} (hi : ρ[i]? = some (.i a dx C [] [])) (h : EvAb K ta ρ as) (hd : ∀ B H, RepAs K B H bs dvs) (hR : R C (as ++ bs) ns ds) (e : ρ.set i (.i a dx C ns ds) = ρ') :
    EvS K (tDrop (tCall (spMb K R) dvs E' (tCons (tVar i) ta))) ρ (.nx ρ') := fun B0 H0 B H σ rs E q => by
  obtain ⟨vs, h1, _⟩ := rs.oi i a dx C [] [] hi
  refine ⟨_, h1, ?_⟩
  refine h B0 H0 B H σ rs _ fun us B1 H1 e1 r1 => ?_
  have rs1 := rs.ext e1
  obtain ⟨_, _, _, b1, a1, _⟩ := rs1.oi i a dx C [] [] hi
  obtain ⟨sB, sH, da⟩ := del_sames rs1.s b1 a1
  exact ⟨B1, del H1 a, C, a, dx, us ++ dvs, as ++ bs, ns, ds, rfl, sB, sH, da, a1, (r1.app (hd B1 H1)).del a1, hR, fun B2 H2 zs e2 hb hh hl r2 => q B2 H2 σ (e ▸ rs1.afterInit hi e2 hb hh hl r2)⟩
/-! reading a list at a slot -/
theorem listAt {B0 H0 B H : Hp} {σ : L2.St} (rs : RepS K B0 H0 B H ρ σ) (h : ListAt ρ i ds) : ∃ a vs, σ[i]? = some (some (.ref a)) ∧ H a = some (.lst vs) ∧ Reps K B ds vs := by
  rcases h with h | h | h
  · obtain ⟨v, h1, h2⟩ := rs.pu i _ h
    cases h2 with
    | lst hh r => exact ⟨_, _, h1, rs.s _ _ hh, r⟩
  · obtain ⟨a, vs, h1, h2, h3, h4, h5⟩ := rs.ow i ds h
    exact ⟨a, vs, h1, h4, h5⟩
  · obtain ⟨a, vs, h1, h2, h3, h4⟩ := rs.bo i ds h
    exact ⟨a, vs, h1, rs.e.h _ _ h3, h4⟩
theorem evd_ixV {k : Int} (h : ListAt ρ i ds) (hb : EvD K tb ρ (.int k)) (e : atI ds k = some d) : EvD K (tOp (rIx K) (tVar i) tb) ρ d := fun B0 H0 B H σ rs Q q => by
  obtain ⟨a, vs, h1, h4, h5⟩ := listAt rs h
  refine ⟨_, h1, ?_⟩
  refine hb B0 H0 B H σ rs _ fun v B2 H2 e2 r2 => ?_
  cases r2
  obtain ⟨w, g1, g2⟩ := h5.atI e
  exact .inl ⟨a, vs, k, w, rfl, rfl, SqL.of (e2.h _ _ h4), g1, q w B2 H2 e2 (g2.up e2.b)⟩
theorem evd_lenV (h : ListAt ρ i ds) : EvD K (tCB (zLen K) (tCons (tVar i) tNil)) ρ (.int ds.length) := fun B0 H0 B H σ rs Q q => by
  obtain ⟨a, vs, h1, h4, h5⟩ := listAt rs h
  exact ⟨_, h1, _, _, rfl, .inl ⟨_, SqL.of h4, rfl⟩, by rw [← h5.len]; exact q _ B H (Ext.refl rs.s) (.int _)⟩
theorem evo_listV (h : ListAt ρ i ds) : EvO K (tCB (zList K) (tCons (tVar i) tNil)) ρ ds := fun B0 H0 B H σ rs Q q => by
  obtain ⟨a, vs, h1, h4, h5⟩ := listAt rs h
  exact ⟨_, h1, _, _, rfl, .inl (SqL.of h4), fun p hp => q p _ B _ (Ext.priv rs.s hp) hp (rs.s.free hp) upd_same h5⟩
theorem evd_isiV {n : String} {b : Bool} (h : ListAt ρ i ds) (hk : PySem.W.kitOne K (.type "list") (.type n) = some b) : EvD K (tCB (rIsi K) (tCons (tVar i) (tCons (tC (.ty n)) tNil))) ρ (.bl b) := fun B0 H0 B H σ rs Q q => by
  obtain ⟨a, vs, h1, h4, h5⟩ := listAt rs h
  exact ⟨_, h1, _, _, _, _, b, rfl, .ty n, .base (.lst h4), hk, q _ B H (Ext.refl rs.s) (.bl _)⟩
theorem evo_slV {tl th : TO} {lo hi : Option Int} (h : ListAt ρ i ds) (h1 : EvN K tl ρ lo) (h2 : EvN K th ρ hi) : EvO K (tSl (rSlL K) (tVar i) tl th) ρ (cutD ds lo hi) := fun B0 H0 B H σ rs Q q => by
  obtain ⟨a, vs, g1, g4, g5⟩ := listAt rs h
  refine ⟨_, g1, ?_⟩
  refine h1 B0 H0 B H σ rs _ fun B2 H2 e2 => h2 B0 H0 B2 H2 σ (rs.ext e2) _ fun B3 H3 e3 => ?_
  exact ⟨_, _, rfl, SqL.of (e3.h _ _ (e2.h _ _ g4)), fun p hp => q p _ B3 _ ((e2.trans e3).trans (Ext.priv e3.s hp)) ((e2.trans e3).h.free hp) (e3.s.free hp) upd_same (((g5.up e2.b).up e3.b).cut lo hi)⟩
end

/-! ### what is walked -/
section
variable {K : PySem.W.Frag} {ρ ρ' ρ1 ρ2 : Rho} {te tl : TE} {ta : TA} {t : TT} {ts tb : TS} {d : D} {o : Out} {g : TG} {i : Nat} {wi : TI}
theorem evi_list {ds : List D} (h : EvD K tl ρ (.lst ds)) : EvI K (iList K tl) ρ ds := fun B0 H0 B H σ rs R q =>
  h B0 H0 B H σ rs _ fun v B1 H1 e1 r1 => by
    cases r1 with
    | lst hh hr =>
      rename_i a vs
      refine ⟨a, rfl, ⟨_, SqL.of (e1.s _ _ hh)⟩, q _ B1 H1 e1 fun B2 H2 s1 s2 _ j => ⟨fun d hd => ?_, fun hl => ?_⟩⟩
      · obtain ⟨v, h1, h2⟩ := hr.get hd
        refine ⟨⟨vs, v, SqL.of (s2 _ _ (s1 _ _ hh)), h1⟩, fun x H' y => ?_⟩
        obtain ⟨e, y⟩ := y
        subst e
        have := y vs (SqL.of (s2 _ _ (s1 _ _ hh)))
        rw [h1] at this
        cases this
        exact ⟨B2, Ext.refl s2, h2.up s1⟩
      · exact ⟨vs, SqL.of (s2 _ _ (s1 _ _ hh)), by rw [← hr.len]; exact hl⟩
theorem evi_scr {ns : List Int} (h : EvD K tl ρ (.scr ns)) : EvI K (iList K tl) ρ (ns.map .int) := fun B0 H0 B H σ rs R q =>
  h B0 H0 B H σ rs _ fun v B1 H1 e1 r1 => by
    cases r1 with
    | scr hh =>
      rename_i a
      refine ⟨a, rfl, ⟨_, e1.s.seq hh⟩, q _ B1 H1 e1 fun B2 H2 s1 s2 _ j => ⟨fun d hd => ?_, fun hl => ?_⟩⟩
      · rw [List.getElem?_map] at hd
        cases e : ns[j]? with
        | none => rw [e] at hd; cases hd
        | some n =>
          rw [e] at hd
          cases hd
          have hq : SqL K H2 a (ns.map V.int) := s2.seq (s1.seq hh)
          have h1 : (ns.map V.int)[j]? = some (.int n) := by rw [List.getElem?_map, e]; rfl
          refine ⟨⟨_, _, hq, h1⟩, fun x H' y => ?_⟩
          obtain ⟨e, y⟩ := y
          subst e
          have := y _ hq
          rw [h1] at this
          cases this
          exact ⟨B2, Ext.refl s2, .int n⟩
      · exact ⟨_, s2.seq (s1.seq hh), by simpa using hl⟩
theorem evi_tup {ds : List D} (h : EvD K tl ρ (.tup ds)) : EvI K (iTup K tl) ρ ds := fun B0 H0 B H σ rs R q =>
  h B0 H0 B H σ rs _ fun v B1 H1 e1 r1 => by
    cases r1 with
    | tup hh hr =>
      rename_i a vs
      refine ⟨a, rfl, ⟨_, SqT.of (e1.s _ _ hh)⟩, q _ B1 H1 e1 fun B2 H2 s1 s2 _ j => ⟨fun d hd => ?_, fun hl => ?_⟩⟩
      · obtain ⟨v, h1, h2⟩ := hr.get hd
        refine ⟨⟨vs, v, SqT.of (s2 _ _ (s1 _ _ hh)), h1⟩, fun x H' y => ?_⟩
        obtain ⟨e, y⟩ := y
        subst e
        have := y vs (SqT.of (s2 _ _ (s1 _ _ hh)))
        rw [h1] at this
        cases this
        exact ⟨B2, Ext.refl s2, h2.up s1⟩
      · exact ⟨vs, SqT.of (s2 _ _ (s1 _ _ hh)), by rw [← hr.len]; exact hl⟩
theorem yields_rng {B1 Hf : Hp} (lo : Int) (n : Nat) : Yields K B1 Hf (Itr lo n) ((List.range n).map fun k => D.int (lo + (k : Nat))) := fun B H s1 s2 _ j => ⟨fun d hd => by
  rw [List.getElem?_map] at hd
  cases e : (List.range n)[j]? with
  | none => rw [e] at hd; cases hd
  | some k =>
    rw [e] at hd
    cases hd
    have hk : j < n ∧ k = j := by
      obtain ⟨h1, h2⟩ := List.getElem?_eq_some_iff.mp e
      rw [List.length_range] at h1
      rw [List.getElem_range] at h2
      exact ⟨h1, h2.symm⟩
    obtain ⟨h1, rfl⟩ := hk
    refine ⟨h1, fun x H' y => ?_⟩
    obtain ⟨e1, e2⟩ := y
    subst e1 e2
    exact ⟨B, Ext.refl s2, .int _⟩, fun hl => by
  rw [List.length_map, List.length_range] at hl
  exact hl⟩
def rgD (a b : Int) : List D := (rgI a b).map .int
theorem rgD_eq (a b : Int) : rgD a b = (List.range (b - a).toNat).map fun k => D.int (a + (k : Nat)) := by
  unfold rgD rgI
  rw [List.map_map]
  rfl
theorem evi_rng1 {n : Int} (h : EvA K ta ρ [.int n]) (h1 : -(2 ^ 62) ≤ n) (h2 : n < 2 ^ 62) : EvI K (iRng1 ta) ρ (rgD 0 n) := fun B0 H0 B H σ rs R q =>
  h B0 H0 B H σ rs _ fun vs B1 H1 e1 r1 => by
    obtain ⟨u, rfl, r⟩ := reps1 r1
    cases r
    refine ⟨n, rfl, h1, h2, q _ B1 H1 e1 ?_⟩
    rw [rgD_eq]
    have e : (n - 0).toNat = n.toNat := by rw [Int.sub_zero]
    rw [e]
    exact yields_rng 0 n.toNat
theorem evi_rng2 {m n : Int} (h : EvA K ta ρ [.int m, .int n]) (h1 : -(2 ^ 62) ≤ m ∧ m < 2 ^ 62 ∧ -(2 ^ 62) ≤ n ∧ n < 2 ^ 62) : EvI K (iRng2 ta) ρ (rgD m n) := fun B0 H0 B H σ rs R q =>
  h B0 H0 B H σ rs _ fun vs B1 H1 e1 r1 => by
    obtain ⟨u, v, rfl, r, r'⟩ := reps2 r1
    cases r; cases r'
    refine ⟨m, n, rfl, h1, q _ B1 H1 e1 ?_⟩
    rw [rgD_eq]
    exact yields_rng m _
/-- i, x in enumerate(..) -/
def enumD (ds : List D) : List D := (List.range ds.length).zipWith (fun (i : Nat) d => D.tup [.int i, d]) ds
theorem enumD_get {ds : List D} {j : Nat} {d : D} (h : (enumD ds)[j]? = some d) : ∃ e, ds[j]? = some e ∧ d = .tup [.int (j : Nat), e] := by
  unfold enumD at h
  rw [List.getElem?_zipWith] at h
  cases e : ds[j]? with
  | none =>
    rw [e] at h
    cases q : (List.range ds.length)[j]? with
    | none => rw [q] at h; cases h
    | some k => rw [q] at h; cases h
  | some x =>
    have hj : j < ds.length := (List.getElem?_eq_some_iff.mp e).1
    have hk : (List.range ds.length)[j]? = some j := by rw [List.getElem?_range hj]
    rw [e, hk] at h
    cases h
    exact ⟨x, rfl, rfl⟩
theorem enumD_len (ds : List D) : (enumD ds).length = ds.length := by
  unfold enumD
  rw [List.length_zipWith, List.length_range, Nat.min_self]
theorem evi_enum {ds : List D} (h : EvA K ta ρ [.lst ds]) : EvI K (iEnum K ta) ρ (enumD ds) := fun B0 H0 B H σ rs R q =>
  h B0 H0 B H σ rs _ fun vs B1 H1 e1 r1 => by
    obtain ⟨u, rfl, r⟩ := reps1 r1
    cases r with
    | lst hh hr =>
      rename_i a vs
      refine ⟨a, vs, rfl, SqL.of (e1.s _ _ hh), q _ B1 H1 e1 fun B2 H2 s1 s2 _ j => ⟨fun d hd => ?_, fun hl => ?_⟩⟩
      · obtain ⟨e, he, rfl⟩ := enumD_get hd
        obtain ⟨v, h1, h2⟩ := hr.get he
        refine ⟨⟨vs, v, SqL.of (s2 _ _ (s1 _ _ hh)), h1⟩, fun x H' y => ?_⟩
        obtain ⟨T, w, rfl, hT, rfl, hw⟩ := y
        have := hw vs (SqL.of (s2 _ _ (s1 _ _ hh)))
        rw [h1] at this
        cases this
        exact ⟨_, Ext.new s2 hT, .tup upd_same (.cons (.int _) (.cons ((h2.up s1).up (same_new (s2.free hT))) .nil))⟩
      · exact ⟨vs, SqL.of (s2 _ _ (s1 _ _ hh)), by rw [← hr.len]; rw [enumD_len] at hl; exact hl⟩
def zipD (ds es : List D) : List D := ds.zipWith (fun d e => D.tup [d, e]) es
theorem evi_zip {ds es : List D} (h : EvA K ta ρ [.lst ds, .lst es]) : EvI K (iZip K ta) ρ (zipD ds es) := fun B0 H0 B H σ rs R q =>
  h B0 H0 B H σ rs _ fun vs B1 H1 e1 r1 => by
    obtain ⟨u, v, rfl, r, r'⟩ := reps2 r1
    cases r with
    | lst hh hr =>
      cases r' with
      | lst hh' hr' =>
        rename_i a vs a' vs'
        refine ⟨a, a', vs, vs', rfl, SqL.of (e1.s _ _ hh), SqL.of (e1.s _ _ hh'), q _ B1 H1 e1 fun B2 H2 s1 s2 _ j => ⟨fun d hd => ?_, fun hl => ?_⟩⟩
        · unfold zipD at hd
          rw [List.getElem?_zipWith] at hd
          cases q1 : ds[j]? with
          | none => rw [q1] at hd; cases hd
          | some x =>
            cases q2 : es[j]? with
            | none => rw [q1, q2] at hd; cases hd
            | some y =>
              rw [q1, q2] at hd
              cases hd
              obtain ⟨w, h1, h2⟩ := hr.get q1
              obtain ⟨w', h1', h2'⟩ := hr'.get q2
              refine ⟨⟨vs, vs', w, w', SqL.of (s2 _ _ (s1 _ _ hh)), SqL.of (s2 _ _ (s1 _ _ hh')), h1, h1'⟩, fun x H' y => ?_⟩
              obtain ⟨T, z, z', rfl, hT, rfl, hz, hz'⟩ := y
              have e1 := hz vs (SqL.of (s2 _ _ (s1 _ _ hh)))
              have e2 := hz' vs' (SqL.of (s2 _ _ (s1 _ _ hh')))
              rw [h1] at e1
              rw [h1'] at e2
              cases e1; cases e2
              exact ⟨_, Ext.new s2 hT, .tup upd_same (.cons ((h2.up s1).up (same_new (s2.free hT))) (.cons ((h2'.up s1).up (same_new (s2.free hT))) .nil))⟩
        · refine ⟨vs, vs', SqL.of (s2 _ _ (s1 _ _ hh)), SqL.of (s2 _ _ (s1 _ _ hh')), ?_⟩
          unfold zipD at hl
          rw [List.length_zipWith, hr.len, hr'.len] at hl
          omega
/-- a list that is lent is walked -/
theorem evi_listB {ds : List D} (h : ρ[i]? = some (.b ds)) : EvI K (iList K (tVar i)) ρ ds := fun B0 H0 B H σ rs R q => by
  obtain ⟨a, vs, h1, h2, h3, hr⟩ := rs.bo i ds h
  refine ⟨_, h1, a, rfl, ⟨_, SqL.of (rs.e.h _ _ h3)⟩, q _ B H (Ext.refl rs.s) fun B2 H2 s1 s2 s3 j => ⟨fun d hd => ?_, fun hl => ?_⟩⟩
  · obtain ⟨v, g1, g2⟩ := hr.get hd
    refine ⟨⟨vs, v, SqL.of (s3 _ _ h3), g1⟩, fun x H' y => ?_⟩
    obtain ⟨e, y⟩ := y
    subst e
    have := y vs (SqL.of (s3 _ _ h3))
    rw [g1] at this
    cases this
    exact ⟨B2, Ext.refl s2, g2.up s1⟩
  · exact ⟨vs, SqL.of (s3 _ _ h3), by rw [← hr.len]; exact hl⟩
theorem evi_listA {ds : List D} (h : ρ[i]? = some (.p (.lst ds)) ∨ ρ[i]? = some (.b ds)) : EvI K (iList K (tVar i)) ρ ds := by
  rcases h with h | h
  · exact evi_list (evd_var h)
  · exact evi_listB h
/-! ### another anchor -/
def join (B H : Hp) : Hp := fun a => match B a with
  | some o => some o
  | none => H a
theorem join_b {B H : Hp} {a : Addr} {o : HO} (h : B a = some o) : join B H a = some o := by unfold join; rw [h]
theorem join_h {B H : Hp} {a : Addr} (h : B a = none) : join B H a = H a := by unfold join; rw [h]
section
variable {B0 H0 B1 H1 B H B2 H2 : Hp} {σ : L2.St}
theorem join_same (x1 : Ext B0 H0 B1 H1) : Same H0 (join B1 H0) := fun a o e => by
  cases q : B1 a with
  | none => rw [join_h q]; exact e
  | some u =>
    rw [join_b q]
    have h1 := x1.h _ _ e
    have h2 := x1.s _ _ q
    rw [h1] at h2
    exact h2.symm
theorem Ext.anchor (x1 : Ext B0 H0 B1 H1) (x : Ext B0 H0 B H) (s : Same B1 B) : Ext B1 (join B1 H0) B H :=
  ⟨s, fun a o e => by
    cases q : B1 a with
    | none => rw [join_h q] at e; exact x.h _ _ e
    | some u => rw [join_b q] at e; cases e; exact x.s _ _ (s _ _ q), x.s, fun a ha hb => by
    rw [join_h hb] at ha
    exact x.f a ha (x1.b.free hb)⟩
theorem Ext.unanchor (x1 : Ext B0 H0 B1 H1) (x : Ext B1 (join B1 H0) B2 H2) : Ext B0 H0 B2 H2 :=
  ⟨x1.b.trans x.b, (join_same x1).trans x.h, x.s, fun a ha hb => by
    have h1 : B1 a = none := x1.f a ha hb
    exact x.f a (by rw [join_h h1]; exact ha) h1⟩
theorem RepS.anchor (x1 : Ext B0 H0 B1 H1) (r : RepS K B0 H0 B H ρ σ) (s : Same B1 B) : RepS K B1 (join B1 H0) B H ρ σ :=
  ⟨x1.anchor r.e s, r.len, r.pu, fun i ds h => by
    obtain ⟨a, vs, h1, h2, h3, h4⟩ := r.ow i ds h
    exact ⟨a, vs, h1, by rw [join_h (s.free h3)]; exact h2, h3, h4⟩, fun i a dx C ns ds h => by
    obtain ⟨vs, h1, h2, h3, h4⟩ := r.oi i a dx C ns ds h
    exact ⟨vs, h1, by rw [join_h (s.free h3)]; exact h2, h3, h4⟩, fun i ds h => by
    obtain ⟨a, vs, h1, h2, h3, h4⟩ := r.bo i ds h
    exact ⟨a, vs, h1, h2, by rw [join_h (s.free h2)]; exact h3, h4⟩, r.dj⟩
theorem RepS.unanchor (x1 : Ext B0 H0 B1 H1) (r : RepS K B1 (join B1 H0) B2 H2 ρ σ) : RepS K B0 H0 B2 H2 ρ σ :=
  ⟨x1.unanchor r.e, r.len, r.pu, fun i ds h => by
    obtain ⟨a, vs, h1, h2, h3, h4⟩ := r.ow i ds h
    exact ⟨a, vs, h1, (join_same x1).free h2, h3, h4⟩, fun i a dx C ns ds h => by
    obtain ⟨vs, h1, h2, h3, h4⟩ := r.oi i a dx C ns ds h
    exact ⟨vs, h1, (join_same x1).free h2, h3, h4⟩, fun i ds h => by
    obtain ⟨a, vs, h1, h2, h3, h4⟩ := r.bo i ds h
    exact ⟨a, vs, h1, h2, by rw [← h3, join_h (r.e.b.free h2)], h4⟩, r.dj⟩
/-- from the further anchor the base is kept as well -/
theorem evs_from (x1 : Ext B0 H0 B1 H1) (h : EvS K ts ρ o) (rs : RepS K B0 H0 B H ρ σ) (s : Same B1 B) {E : Ends}
    (hn : ∀ r, o = .nx r → ∀ B2 H2 σ2, Same B1 B2 → RepS K B0 H0 B2 H2 r σ2 → E.nx σ2 H2) (hb : ∀ r, o = .bk r → ∀ B2 H2 σ2, Same B1 B2 → RepS K B0 H0 B2 H2 r σ2 → E.bk σ2 H2)
    (hc : ∀ r, o = .ct r → ∀ B2 H2 σ2, Same B1 B2 → RepS K B0 H0 B2 H2 r σ2 → E.ct σ2 H2) (hr : ∀ d, o = .rt d → OutOk K B0 H0 (.rt d) E) (ho : ∀ ds, o = .rtO ds → OutOk K B0 H0 (.rtO ds) E) : ts E σ H := by
  refine h B1 (join B1 H0) B H σ (rs.anchor x1 s) E ?_
  cases o with
  | nx r => exact fun B2 H2 σ2 r2 => hn r rfl B2 H2 σ2 r2.e.b (r2.unanchor x1)
  | bk r => exact fun B2 H2 σ2 r2 => hb r rfl B2 H2 σ2 r2.e.b (r2.unanchor x1)
  | ct r => exact fun B2 H2 σ2 r2 => hc r rfl B2 H2 σ2 r2.e.b (r2.unanchor x1)
  | rt d => exact fun v B2 H2 e r2 => hr d rfl v B2 H2 (x1.unanchor e) r2
  | rtO ds => exact fun a vs B2 H2 e h0 hb hh r2 => ho ds rfl a vs B2 H2 (x1.unanchor e) ((join_same x1).free h0) hb hh r2
end
/-! ### for -/
inductive ForR (K : PySem.W.Frag) (g : TG) (tb : TS) : Rho → List D → Out → Prop
  | nil {ρ : Rho} : ForR K g tb ρ [] (.nx ρ)
  | next {ρ ρ1 ρ2 : Rho} {d : D} {ds : List D} {o : Out} (hg : EvG K g d ρ ρ1) (hb : EvS K tb ρ1 (.nx ρ2)) (hn : ForR K g tb ρ2 ds o) : ForR K g tb ρ (d :: ds) o
  | cont {ρ ρ1 ρ2 : Rho} {d : D} {ds : List D} {o : Out} (hg : EvG K g d ρ ρ1) (hb : EvS K tb ρ1 (.ct ρ2)) (hn : ForR K g tb ρ2 ds o) : ForR K g tb ρ (d :: ds) o
  | brk {ρ ρ1 ρ2 : Rho} {d : D} {ds : List D} (hg : EvG K g d ρ ρ1) (hb : EvS K tb ρ1 (.bk ρ2)) : ForR K g tb ρ (d :: ds) (.nx ρ2)
  | ret {ρ ρ1 : Rho} {d : D} {ds : List D} {r : D} (hg : EvG K g d ρ ρ1) (hb : EvS K tb ρ1 (.rt r)) : ForR K g tb ρ (d :: ds) (.rt r)
  | retO {ρ ρ1 : Rho} {d : D} {ds : List D} {r : List D} (hg : EvG K g d ρ ρ1) (hb : EvS K tb ρ1 (.rtO r)) : ForR K g tb ρ (d :: ds) (.rtO r)
theorem evs_for {ds : List D} (h : EvI K wi ρ ds) (hf : ForR K g tb ρ ds o) : EvS K (tFor wi g tb) ρ o := fun B0 H0 B H σ rs E q =>
  h B0 H0 B H σ rs _ fun J B1 H1 e1 Y => by
    have x1 : Ext B0 H0 B1 H1 := rs.e.trans e1
    refine ⟨fun i m σ' H' => m = ds.length - i ∧ ∃ B' ρ', Same B1 B' ∧ RepS K B0 H0 B' H' ρ' σ' ∧ ForR K g tb ρ' (ds.drop i) o, ⟨ds.length, rfl, B1, ρ, Same.refl _, rs.ext e1, hf⟩, ?_⟩
    rintro i m σ' H' ⟨rfl, B', ρ', s1, rs', hf'⟩
    obtain ⟨y1, y2⟩ := Y B' H' s1 rs'.s rs'.e.h i
    cases e : ds[i]? with
    | none =>
      have hl : ds.length ≤ i := List.getElem?_eq_none_iff.mp e
      refine .inl ⟨y2 hl, ?_⟩
      rw [List.drop_eq_nil_of_le hl] at hf'
      cases hf'
      exact q B' H' σ' rs'
    | some d =>
      have hi : i < ds.length := (List.getElem?_eq_some_iff.mp e).1
      have ed : ds.drop i = d :: ds.drop (i + 1) := by
        rw [List.drop_eq_getElem_cons hi]
        rw [List.getElem?_eq_getElem hi] at e
        cases e
        rfl
      obtain ⟨go, yl⟩ := y1 d e
      rw [ed] at hf'
      refine .inr ⟨go, fun σ2 H2 => ∃ B2 ρ2, Same B1 B2 ∧ RepS K B0 H0 B2 H2 ρ2 σ2 ∧ ForR K g tb ρ2 (ds.drop (i + 1)) o, fun σ2 H2 ⟨B2, ρ2, a, b, c⟩ => ⟨ds.length - (i + 1), by omega, rfl, B2, ρ2, a, b, c⟩, fun x H2 hy => ?_⟩
      obtain ⟨B2, e2, r2⟩ := yl x H2 hy
      have rs2 := rs'.ext e2
      have s2 : Same B1 B2 := s1.trans e2.b
      cases hf' with
      | next hg hb hn =>
        refine hg B0 H0 B2 H2 σ' x rs2 r2 _ fun σ3 rs3 => ?_
        exact evs_from x1 hb rs3 s2 (fun r z B4 H4 σ4 a b => by cases z; exact ⟨B4, _, a, b, hn⟩) (fun r z => nomatch z) (fun r z => nomatch z) (fun r z => nomatch z) (fun r z => nomatch z)
      | cont hg hb hn =>
        refine hg B0 H0 B2 H2 σ' x rs2 r2 _ fun σ3 rs3 => ?_
        exact evs_from x1 hb rs3 s2 (fun r z => nomatch z) (fun r z => nomatch z) (fun r z B4 H4 σ4 a b => by cases z; exact ⟨B4, _, a, b, hn⟩) (fun r z => nomatch z) (fun r z => nomatch z)
      | brk hg hb =>
        refine hg B0 H0 B2 H2 σ' x rs2 r2 _ fun σ3 rs3 => ?_
        exact evs_from x1 hb rs3 s2 (fun r z => nomatch z) (fun r z B4 H4 σ4 a b => by cases z; exact q B4 H4 σ4 b) (fun r z => nomatch z) (fun r z => nomatch z) (fun r z => nomatch z)
      | ret hg hb =>
        refine hg B0 H0 B2 H2 σ' x rs2 r2 _ fun σ3 rs3 => ?_
        exact evs_from x1 hb rs3 s2 (fun r z => nomatch z) (fun r z => nomatch z) (fun r z => nomatch z) (fun r z => by cases z; exact q) (fun r z => nomatch z)
      | retO hg hb =>
        refine hg B0 H0 B2 H2 σ' x rs2 r2 _ fun σ3 rs3 => ?_
        exact evs_from x1 hb rs3 s2 (fun r z => nomatch z) (fun r z => nomatch z) (fun r z => nomatch z) (fun r z => nomatch z) (fun r z => by cases z; exact q)
/-! ### while -/
inductive WhR (K : PySem.W.Frag) (t : TT) (tb : TS) : Nat → Rho → Out → Prop
  | stop {n : Nat} {ρ : Rho} (ht : EvT K t ρ false) : WhR K t tb n ρ (.nx ρ)
  | next {n : Nat} {ρ ρ2 : Rho} {o : Out} (ht : EvT K t ρ true) (hb : EvS K tb ρ (.nx ρ2)) (hn : WhR K t tb n ρ2 o) : WhR K t tb (n + 1) ρ o
  | cont {n : Nat} {ρ ρ2 : Rho} {o : Out} (ht : EvT K t ρ true) (hb : EvS K tb ρ (.ct ρ2)) (hn : WhR K t tb n ρ2 o) : WhR K t tb (n + 1) ρ o
  | brk {n : Nat} {ρ ρ2 : Rho} (ht : EvT K t ρ true) (hb : EvS K tb ρ (.bk ρ2)) : WhR K t tb n ρ (.nx ρ2)
  | ret {n : Nat} {ρ : Rho} {r : D} (ht : EvT K t ρ true) (hb : EvS K tb ρ (.rt r)) : WhR K t tb n ρ (.rt r)
theorem evs_while {n : Nat} (hf : WhR K t tb n ρ o) : EvS K (tWhile t tb) ρ o := fun B0 H0 B H σ rs E q => by
  refine ⟨fun m σ' H' => ∃ B' ρ', RepS K B0 H0 B' H' ρ' σ' ∧ WhR K t tb m ρ' o, ⟨n, B, ρ, rs, hf⟩, ?_⟩
  rintro m σ' H' ⟨B', ρ', rs', hf'⟩
  cases hf' with
  | stop ht =>
    refine ht B0 H0 B' H' σ' rs' _ fun B2 H2 e2 => ?_
    rw [if_neg Bool.false_ne_true]
    exact q B2 H2 σ' (rs'.ext e2)
  | next ht hb hn =>
    refine ht B0 H0 B' H' σ' rs' _ fun B2 H2 e2 => ?_
    rw [if_pos rfl]
    exact ⟨fun σ3 H3 => ∃ B3 ρ3, RepS K B0 H0 B3 H3 ρ3 σ3 ∧ WhR K t tb _ ρ3 o, fun σ3 H3 ⟨B3, ρ3, a, b⟩ => ⟨_, Nat.lt_succ_self _, B3, ρ3, a, b⟩, hb B0 H0 B2 H2 σ' (rs'.ext e2) _ fun B3 H3 σ3 r3 => ⟨B3, _, r3, hn⟩⟩
  | cont ht hb hn =>
    refine ht B0 H0 B' H' σ' rs' _ fun B2 H2 e2 => ?_
    rw [if_pos rfl]
    exact ⟨fun σ3 H3 => ∃ B3 ρ3, RepS K B0 H0 B3 H3 ρ3 σ3 ∧ WhR K t tb _ ρ3 o, fun σ3 H3 ⟨B3, ρ3, a, b⟩ => ⟨_, Nat.lt_succ_self _, B3, ρ3, a, b⟩, hb B0 H0 B2 H2 σ' (rs'.ext e2) _ fun B3 H3 σ3 r3 => ⟨B3, _, r3, hn⟩⟩
  | brk ht hb =>
    refine ht B0 H0 B' H' σ' rs' _ fun B2 H2 e2 => ?_
    rw [if_pos rfl]
    exact ⟨fun _ _ => False, fun _ _ z => z.elim, hb B0 H0 B2 H2 σ' (rs'.ext e2) _ fun B3 H3 σ3 r3 => q B3 H3 σ3 r3⟩
  | ret ht hb =>
    refine ht B0 H0 B' H' σ' rs' _ fun B2 H2 e2 => ?_
    rw [if_pos rfl]
    exact ⟨fun _ _ => False, fun _ _ z => z.elim, hb B0 H0 B2 H2 σ' (rs'.ext e2) _ q⟩
/-! ### comprehensions -/
def wipeR (ρ : Rho) : List Nat → Rho
  | [] => ρ
  | v :: vs => (wipeR ρ vs).set v .no
theorem RepS.wipe {B0 H0 B H : Hp} {σ : L2.St} (r : RepS K B0 H0 B H ρ σ) : ∀ vs : List Nat, RepS K B0 H0 B H (wipeR ρ vs) (L2.wipe σ vs)
  | [] => r
  | v :: vs => by
    have ih := RepS.wipe r vs
    have h := ih
    unfold wipeR L2.wipe
    refine ⟨h.e, by simp [h.len], fun j d hd => ?_, fun j ds hd => ?_, fun j b dx C ns ds hd => ?_, fun j ds hd => ?_, fun j k a hj hk h1 h2 => ?_⟩
    · rw [getElem?_set_eq] at hd ⊢
      by_cases c : v = j
      · rw [if_pos c] at hd
        split at hd <;> cases hd
      · rw [if_neg c] at hd ⊢
        exact h.pu j d hd
    · rw [getElem?_set_eq] at hd ⊢
      by_cases c : v = j
      · rw [if_pos c] at hd
        split at hd <;> cases hd
      · rw [if_neg c] at hd ⊢
        exact h.ow j ds hd
    · rw [getElem?_set_eq] at hd ⊢
      by_cases c : v = j
      · rw [if_pos c] at hd
        split at hd <;> cases hd
      · rw [if_neg c] at hd ⊢
        exact h.oi j b dx C ns ds hd
    · rw [getElem?_set_eq] at hd ⊢
      by_cases c : v = j
      · rw [if_pos c] at hd
        split at hd <;> cases hd
      · rw [if_neg c] at hd ⊢
        exact h.bo j ds hd
    · rw [getElem?_set_eq] at hj hk h1 h2
      by_cases c1 : v = j
      · rw [if_pos c1] at hj
        split at hj <;> exact hj.elim
      · by_cases c2 : v = k
        · rw [if_pos c2] at hk
          split at hk <;> exact hk.elim
        · rw [if_neg c1] at hj h1
          rw [if_neg c2] at hk h2
          exact h.dj j k a hj hk h1 h2
inductive LcR (K : PySem.W.Frag) (g : TG) (tt : TT) (te : TE) (ρ : Rho) : List D → List D → Prop
  | nil : LcR K g tt te ρ [] []
  | yes {ρ1 : Rho} {d e : D} {ds es : List D} (hg : EvG K g d ρ ρ1) (ht : EvT K tt ρ1 true) (he : EvD K te ρ1 e) (hn : LcR K g tt te ρ ds es) : LcR K g tt te ρ (d :: ds) (e :: es)
  | no {ρ1 : Rho} {d : D} {ds es : List D} (hg : EvG K g d ρ ρ1) (ht : EvT K tt ρ1 false) (hn : LcR K g tt te ρ ds es) : LcR K g tt te ρ (d :: ds) es
/-- the targets' slots: what the target stores is wiped again -/
def Wipes (g : TG) (vs : List Nat) : Prop := ∀ (σ0 : L2.St) (v : V) (H : Hp) (Q : L2.St → Hp → Prop), g v (L2.wipe σ0 vs) H Q → g v (L2.wipe σ0 vs) H fun σ2 H2 => L2.wipe σ2 vs = L2.wipe σ0 vs ∧ Q σ2 H2
theorem LcR.len {tt : TT} {ρ : Rho} : ∀ {ds es : List D}, LcR K g tt te ρ ds es → es.length ≤ ds.length := by
  intro ds es h
  induction h with
  | nil => exact Nat.le_refl _
  | yes _ _ _ _ ih => simp; omega
  | no _ _ _ ih => simp; omega
theorem evo_lc {tt : TT} {vs : List Nat} {ds es : List D} (h : EvI K wi ρ ds) (hw : Wipes g vs) (hf : LcR K g tt te (wipeR ρ vs) ds es) (hz : ds.length ≤ sizeLine) : EvO K (tLc wi g tt te vs) ρ es := fun B0 H0 B H σ rs Q q =>
  h B0 H0 B H σ rs _ fun J B1 H1 e1 Y DD hD => by
    have rs1 := (rs.ext e1)
    have b1 : B1 DD = none := e1.s.free hD
    have step : ∀ (i : Nat) (es' acc : List D), es = acc ++ es' → acc.length ≤ i → i ≤ ds.length → LcR K g tt te (wipeR ρ vs) (ds.drop i) es' → True := fun _ _ _ _ _ _ _ => trivial
    refine ⟨fun i m H' => m = ds.length - i ∧ ∃ B' acc es' ws, es = acc ++ es' ∧ acc.length ≤ i ∧ Ext B1 (upd H1 DD (.lst [])) B' (upd H' DD (.lst [])) ∧ Same B' H' ∧ B' DD = none ∧ H' DD = some (.lst ws) ∧ Reps K B' acc ws ∧ LcR K g tt te (wipeR ρ vs) (ds.drop i) es',
      ⟨ds.length, rfl, B1, [], es, [], rfl, Nat.zero_le _, ?_, same_priv e1.s b1, b1, upd_same, .nil, hf⟩, ?_⟩
    · rw [upd_upd]
      exact Ext.refl (same_priv e1.s b1)
    rintro i m H' ⟨rfl, B', acc, es', ws, ee, ha, x', s', b', hd', r', hf'⟩
    have xp : Ext B1 H1 B' H' := by
      refine ⟨x'.b, fun a o e => ?_, s', fun a ha hb => x'.f a ?_ hb⟩
      · have na : a ≠ DD := ne_of_none e hD
        have := x'.h a o (by rw [upd_ne na]; exact e)
        rw [upd_ne na] at this
        exact this
      · cases e : H1 a with
        | none => exact absurd e ha
        | some o => rw [upd_ne (ne_of_none e hD), e]; exact fun z => nomatch z
    have rs' := (rs1.ext xp).wipe vs
    obtain ⟨y1, y2⟩ := Y B' H' xp.b s' (rs1.ext xp).e.h i
    cases e : ds[i]? with
    | none =>
      have hl : ds.length ≤ i := List.getElem?_eq_none_iff.mp e
      refine .inl ⟨y2 hl, ?_⟩
      rw [List.drop_eq_nil_of_le hl] at hf'
      cases hf'
      rw [List.append_nil] at ee
      subst ee
      exact q DD ws B' H' (e1.trans xp) (e1.h.free hD) b' hd' r'
    | some d =>
      have hi : i < ds.length := (List.getElem?_eq_some_iff.mp e).1
      have ed : ds.drop i = d :: ds.drop (i + 1) := by
        rw [List.drop_eq_getElem_cons hi]
        rw [List.getElem?_eq_getElem hi] at e
        cases e
        rfl
      obtain ⟨go, yl⟩ := y1 d e
      rw [ed] at hf'
      refine .inr ⟨go, fun H2 => ∃ B2 acc es' ws, es = acc ++ es' ∧ acc.length ≤ i + 1 ∧ Ext B1 (upd H1 DD (.lst [])) B2 (upd H2 DD (.lst [])) ∧ Same B2 H2 ∧ B2 DD = none ∧ H2 DD = some (.lst ws) ∧ Reps K B2 acc ws ∧ LcR K g tt te (wipeR ρ vs) (ds.drop (i + 1)) es',
        fun H2 ⟨B2, acc, es', ws, h1, h2, h3⟩ => ⟨ds.length - (i + 1), by omega, rfl, B2, acc, es', ws, h1, h2, h3⟩, fun x H2 hy => ?_⟩
      obtain ⟨B2, e2, r2⟩ := yl x H2 hy
      have rs2 := rs'.ext e2
      have hdn : H' DD ≠ none := by rw [hd']; exact fun z => nomatch z
      -- from here on the heap grows beside D
      have grow : ∀ {B3 H3 : Hp}, Ext B' H' B3 H3 → Ext B1 (upd H1 DD (.lst [])) B3 (upd H3 DD (.lst [])) ∧ Same B3 H3 ∧ B3 DD = none ∧ H3 DD = some (.lst ws) := fun {B3 H3} x3 => by
        have b3 : B3 DD = none := x3.f DD hdn b'
        refine ⟨⟨xp.b.trans x3.b, fun a o ea => ?_, same_priv x3.s b3, fun a h1 h2 => ?_⟩, x3.s, b3, x3.h _ _ hd'⟩
        · by_cases na : a = DD
          · subst na; rw [upd_same] at ea ⊢; exact ea
          · rw [upd_ne na] at ea ⊢; exact x3.h _ _ (xp.h _ _ ea)
        · by_cases na : a = DD
          · subst na; exact b3
          · rw [upd_ne na] at h1
            cases ea : H1 a with
            | none => exact absurd ea h1
            | some o => exact x3.f a (by rw [xp.h _ _ ea]; exact fun z => nomatch z) (xp.f a h1 h2)
      cases hf' with
      | yes hg ht he hn =>
        refine hw σ x H2 _ (hg B0 H0 B2 H2 _ x rs2 r2 _ fun σ3 rs3 => ?_)
        refine ht B0 H0 B2 H2 σ3 rs3 _ fun B3 H3 e3 => ?_
        rw [if_pos rfl]
        refine he B0 H0 B3 H3 σ3 (rs3.ext e3) _ fun v B4 H4 e4 r4 => ?_
        obtain ⟨g1, g2, g3, g4⟩ := grow ((e2.trans e3).trans e4)
        refine ⟨ws, g4, ?_, B4, acc ++ [_], _, ws ++ [v], by rw [List.append_assoc]; exact ee, by simp; omega, ?_, same_priv g2 g3, g3, upd_same, (r'.up ((e2.trans e3).trans e4).b).app (.cons r4 .nil), hn⟩
        · rw [← r'.len]
          exact Nat.lt_of_lt_of_le (Nat.lt_of_le_of_lt ha hi) hz
        · rw [upd_upd]
          exact g1
      | no hg ht hn =>
        refine hw σ x H2 _ (hg B0 H0 B2 H2 _ x rs2 r2 _ fun σ3 rs3 => ?_)
        refine ht B0 H0 B2 H2 σ3 rs3 _ fun B3 H3 e3 => ?_
        rw [if_neg Bool.false_ne_true]
        obtain ⟨g1, g2, g3, g4⟩ := grow (e2.trans e3)
        exact ⟨B3, acc, _, ws, ee, by omega, g1, g2, g3, g4, r'.up (e2.trans e3).b, hn⟩
theorem wipes_name {i : Nat} : Wipes (gName i) [i] := fun σ0 v H Q q => by
  refine ⟨?_, q⟩
  show ((σ0.set i none).set i (some v)).set i none = σ0.set i none
  rw [List.set_set, List.set_set]
end
/-! ### no test in a comprehension -/

theorem evt_yes {K : PySem.W.Frag} {ρ : Rho} : EvT K tYes ρ true := fun B0 H0 B H σ rs Q q => q B H (Ext.refl rs.s)

/-! ### defs by their readings -/
def startR (N : List Str) (ds : List D) : Rho := ds.map Slot.p ++ List.replicate (N.length - ds.length) .no
def startA (N : List Str) (as : List Arg) : Rho := as.map slotOf ++ List.replicate (N.length - as.length) .no
def startIA (N : List Str) (x dx C : Addr) (as : List Arg) : Rho := .i x dx C [] [] :: (as.map slotOf ++ List.replicate (N.length - (as.length + 1)) .no)
def startI (N : List Str) (x dx C : Addr) (ds : List D) : Rho := .i x dx C [] [] :: (ds.map Slot.p ++ List.replicate (N.length - (ds.length + 1)) .no)
section
variable {K : PySem.W.Frag} {B H : Hp}
theorem RepAs.of {ds : List D} {vs : List V} (r : Reps K B ds vs) : RepAs K B H (ds.map Arg.p) vs := by
  induction ds generalizing vs with
  | nil => cases r; exact .nil
  | cons d ds ih =>
    cases r with
    | cons h t => exact .cons h (ih t)
theorem startR_eq (N : List Str) (ds : List D) : startR N ds = startA N (ds.map Arg.p) := by
  unfold startR startA
  rw [List.map_map, List.length_map]
  rfl
theorem startI_eq (N : List Str) (x dx C : Addr) (ds : List D) : startI N x dx C ds = startIA N x dx C (ds.map Arg.p) := by
  unfold startI startIA
  rw [List.map_map, List.length_map]
  rfl
/-- the slots that the arguments fill -/
theorem slot_get {as : List Arg} {vs : List V} {n m : Nat} (r : RepAs K B H as vs) {i : Nat} {s : Slot} (h : (as.map slotOf ++ List.replicate n .no)[i]? = some s) (hs : s ≠ .no) : ∃ a v, s = slotOf a ∧ (vs.map some ++ List.replicate m none)[i]? = some (some v) ∧ RepA K B H a v := by
  by_cases l : i < as.length
  · rw [List.getElem?_append_left (by rw [List.length_map]; exact l), List.getElem?_map] at h
    rw [List.getElem?_append_left (by rw [List.length_map, ← r.len]; exact l), List.getElem?_map]
    cases e : as[i]? with
    | none => rw [e] at h; cases h
    | some x =>
      rw [e] at h
      cases h
      obtain ⟨v, h1, h2⟩ := r.get e
      exact ⟨x, v, rfl, by rw [h1]; rfl, h2⟩
  · rw [List.getElem?_append_right (by rw [List.length_map]; omega), List.getElem?_replicate] at h
    split at h
    · cases h; exact absurd rfl hs
    · cases h
theorem slot_p {a : Arg} {d : D} (h : Slot.p d = slotOf a) : a = .p d := by cases a <;> cases h; rfl
theorem slot_b {a : Arg} {ds : List D} (h : Slot.b ds = slotOf a) : a = .b ds := by cases a <;> cases h; rfl
theorem slot_o {a : Arg} {ds : List D} (h : Slot.o ds = slotOf a) : False := by cases a <;> cases h
theorem slot_i {a : Arg} {x dx C : Addr} {ns : List Str} {ds : List D} (h : Slot.i x dx C ns ds = slotOf a) : False := by cases a <;> cases h
theorem slot_own {as : List Arg} {vs : List V} {n : Nat} (r : RepAs K B H as vs) {i : Nat} (h : isOwn (as.map slotOf ++ List.replicate n .no)[i]?) : False := by
  cases e : (as.map slotOf ++ List.replicate n .no)[i]? with
  | none => rw [e] at h; exact h
  | some s =>
    rw [e] at h
    cases s with
    | no => exact h
    | p d => exact h
    | b ds => exact h
    | o ds =>
      obtain ⟨a, v, q, _⟩ := slot_get (m := 0) r e (fun z => nomatch z)
      exact slot_o q
    | i x dx C ns ds =>
      obtain ⟨a, v, q, _⟩ := slot_get (m := 0) r e (fun z => nomatch z)
      exact slot_i q
theorem RepS.startA {N : List Str} {as : List Arg} {vs : List V} (s : Same B H) (r : RepAs K B H as vs) : RepS K B H B H (startA N as) (L2.start N vs) := by
  unfold Eb.startA L2.start
  refine ⟨Ext.refl s, by simp [r.len], fun i d h => ?_, fun i es h => ?_, fun i a dx C ns es h => ?_, fun i es h => ?_, fun i j a h => (slot_own r h).elim⟩
  · obtain ⟨a, v, q, h1, h2⟩ := slot_get r h (fun z => nomatch z)
    rw [slot_p q] at h2
    exact ⟨v, h1, h2⟩
  · obtain ⟨a, v, q, h1, h2⟩ := slot_get (m := 0) r h (fun z => nomatch z)
    exact (slot_o q).elim
  · obtain ⟨a, v, q, h1, h2⟩ := slot_get (m := 0) r h (fun z => nomatch z)
    exact (slot_i q).elim
  · obtain ⟨a, v, q, h1, h2⟩ := slot_get r h (fun z => nomatch z)
    rw [slot_b q] at h2
    obtain ⟨b, ws, rfl, g1, g2, g3⟩ := h2
    exact ⟨b, ws, h1, g1, g2, g3⟩
theorem RepS.startIA {H0 : Hp} {N : List Str} {as : List Arg} {us : List V} {C x dx : Addr} (s : Same B H0) (s2 : Same H0 H) (hx : H0 x = none) (hh : H x = some (.ins C dx [])) (r : RepAs K B H0 as us) : RepS K B H0 B H (startIA N x dx C as) (L2.start N (.ref x :: us)) := by
  have e : L2.start N (.ref x :: us) = some (.ref x) :: (us.map some ++ List.replicate (N.length - (us.length + 1)) none) := rfl
  have hb : B x = none := s.free hx
  rw [e]
  unfold Eb.startIA
  refine ⟨⟨Same.refl _, s2, s.trans s2, fun _ _ h => h⟩, by simp [r.len], fun i d h => ?_, fun i es h => ?_, fun i a' dx' C' ns es h => ?_, fun i es h => ?_, fun i j a hi hj h1 h2 => ?_⟩
  · cases i with
    | zero => simp at h
    | succ i =>
      obtain ⟨a, v, q, h1, h2⟩ := slot_get (m := N.length - (us.length + 1)) r (show _ = some (Slot.p d) by simpa using h) (fun z => nomatch z)
      rw [slot_p q] at h2
      exact ⟨v, by simpa using h1, h2⟩
  · cases i with
    | zero => simp at h
    | succ i =>
      obtain ⟨a, v, q, h1, h2⟩ := slot_get (m := 0) r (show _ = some (Slot.o es) by simpa using h) (fun z => nomatch z)
      exact (slot_o q).elim
  · cases i with
    | zero =>
      simp at h
      obtain ⟨rfl, rfl, rfl, rfl, rfl⟩ := h
      exact ⟨[], rfl, hx, hb, hh, rfl, .nil⟩
    | succ i =>
      obtain ⟨a, v, q, h1, h2⟩ := slot_get (m := 0) r (show _ = some (Slot.i a' dx' C' ns es) by simpa using h) (fun z => nomatch z)
      exact (slot_i q).elim
  · cases i with
    | zero => simp at h
    | succ i =>
      obtain ⟨a, v, q, h1, h2⟩ := slot_get (m := N.length - (us.length + 1)) r (show _ = some (Slot.b es) by simpa using h) (fun z => nomatch z)
      rw [slot_b q] at h2
      obtain ⟨b, ws, rfl, g1, g2, g3⟩ := h2
      exact ⟨b, ws, by simpa using h1, g1, g2, g3⟩
  · cases i with
    | zero =>
      cases j with
      | zero => rfl
      | succ j => exact (slot_own r (i := j) (by simpa using hj)).elim
    | succ i => exact (slot_own r (i := i) (by simpa using hi)).elim
theorem RepS.start {N : List Str} {ds : List D} {vs : List V} (s : Same B H) (r : Reps K B ds vs) : RepS K B H B H (startR N ds) (L2.start N vs) := by
  rw [startR_eq]
  exact RepS.startA s (RepAs.of r)
theorem RepS.startI {H0 : Hp} {N : List Str} {ds : List D} {us : List V} {C x dx : Addr} (s : Same B H0) (s2 : Same H0 H) (hx : H0 x = none) (hh : H x = some (.ins C dx [])) (r : Reps K B ds us) : RepS K B H0 B H (startI N x dx C ds) (L2.start N (.ref x :: us)) := by
  rw [startI_eq]
  exact RepS.startIA s s2 hx hh (RepAs.of r)
end
section
variable {P : Program} {w : World} {K : PySem.W.Frag} {mg : Str → Option Value} {base : Heap} {x qual : Str} {params : Arguments} {body : List Stmt} {scope : Scope} {dvs : List V} {kws : List (Str × V)} {f : Addr} {fd : FuncData} {N ps : List Str} {k : Nat}
/-- what a body's derivation gives -/
def Body (P : Program) (w : World) (K : PySem.W.Frag) (mg : Str → Option Value) (base : Heap) (N : List Str) (qual : Str) (scope : Scope) (body : List Stmt) (k : Nat) (t : TS) : Prop :=
  ∀ (f : Addr) (cdv : Value) (A : Around) (outer : List Env) (s : Shared) (H : Hp) (E : XK), Room k (A.deeper (envOfC qual scope s.heap.objs.size f cdv)) → PSs (cxOf CX0 P w K mg base N qual scope f cdv A outer s H E).nox body t
theorem fnD {R : List D → D → Prop} {t : TS} (F : FunD K x qual params body scope dvs kws f fd) (S : FnScope N ps scope) (hR : ∀ ds d, R ds d → ds.length = ps.length) (hb : Body P w K mg base N qual scope body k t)
    (ht : ∀ ds d, R ds d → EvS K t (startR N ds) (.rt d) ∨ (d = .non ∧ ∃ ρ', EvS K t (startR N ds) (.nx ρ'))) : FnOk P w K mg base CX0 (k + 1) f fd ps (spD K R) := by
  refine F.ok S (fun vs H Q E h => ?_) (fun cdv A outer s H vs Q E hr h => ⟨t, (hb f cdv A outer s H E hr).nox, ?_⟩)
  · obtain ⟨B, ds, d, _, r, hR', _⟩ := h
    rw [← r.len]
    exact hR ds d hR'
  · obtain ⟨B, ds, d, hs, r, hR', q⟩ := h
    rcases ht ds d hR' with h | ⟨rfl, ρ', h⟩
    · exact h B H B H _ (RepS.start hs r) _ fun v B2 H2 e r2 => q v B2 H2 e r2
    · exact h B H B H _ (RepS.start hs r) _ fun B2 H2 σ2 r2 => q _ B2 H2 r2.e .non
theorem fnO {R : List D → List D → Prop} {t : TS} (F : FunD K x qual params body scope dvs kws f fd) (S : FnScope N ps scope) (hR : ∀ ds es, R ds es → ds.length = ps.length) (hb : Body P w K mg base N qual scope body k t)
    (ht : ∀ ds es, R ds es → EvS K t (startR N ds) (.rtO es)) : FnOk P w K mg base CX0 (k + 1) f fd ps (spO K R) := by
  refine F.ok S (fun vs H Q E h => ?_) (fun cdv A outer s H vs Q E hr h => ⟨t, (hb f cdv A outer s H E hr).nox, ?_⟩)
  · obtain ⟨B, ds, d, _, r, hR', _⟩ := h
    rw [← r.len]
    exact hR ds d hR'
  · obtain ⟨B, ds, d, hs, r, hR', q⟩ := h
    exact ht ds d hR' B H B H _ (RepS.start hs r) _ fun a vs B2 H2 e h0 hb hh r2 => q a vs B2 H2 e h0 hb hh r2
theorem fnM {R : Addr → List D → List Str → List D → Prop} {t : TS} (F : FunD K x qual params body scope dvs kws f fd) (S : FnScope N ps scope) (hR : ∀ C es ns ds, R C es ns ds → es.length + 1 = ps.length) (hb : Body P w K mg base N qual scope body k t)
    (ht : ∀ C es ns ds, R C es ns ds → ∀ x dx, ∃ ρ', EvS K t (startI N x dx C es) (.nx (.i x dx C ns ds :: ρ'))) : FnOk P w K mg base CX0 (k + 1) f fd ps (spM K R) := by
  refine F.ok S (fun vs H Q E h => ?_) (fun cdv A outer s H vs Q E hr h => ⟨t, (hb f cdv A outer s H E hr).nox, ?_⟩)
  · obtain ⟨B, H0, C, x, dx, us, es, ns, ds, rfl, _, _, _, _, r, hR', _⟩ := h
    rw [List.length_cons, ← r.len]
    exact hR C es ns ds hR'
  · obtain ⟨B, H0, C, x, dx, us, es, ns, ds, rfl, hs, hs2, hx, hh, r, hR', q⟩ := h
    obtain ⟨ρ', h⟩ := ht C es ns ds hR' x dx
    have rs := RepS.startI (N := N) hs hs2 hx hh r
    refine h B H0 B H _ rs _ fun B2 H2 σ2 r2 => ?_
    obtain ⟨vs, h1, h2, h3, h4, h5, h6⟩ := r2.oi 0 x dx C ns ds rfl
    exact q B2 H2 vs r2.e h3 h4 h5 h6
theorem fnDb {R : List Arg → D → Prop} {t : TS} (F : FunD K x qual params body scope dvs kws f fd) (S : FnScope N ps scope) (hR : ∀ ds d, R ds d → ds.length = ps.length) (hb : Body P w K mg base N qual scope body k t)
    (ht : ∀ ds d, R ds d → EvS K t (startA N ds) (.rt d)) : FnOk P w K mg base CX0 (k + 1) f fd ps (spDb K R) := by
  refine F.ok S (fun vs H Q E h => ?_) (fun cdv A outer s H vs Q E hr h => ⟨t, (hb f cdv A outer s H E hr).nox, ?_⟩)
  · obtain ⟨B, ds, d, _, r, hR', _⟩ := h
    rw [← r.len]
    exact hR ds d hR'
  · obtain ⟨B, ds, d, hs, r, hR', q⟩ := h
    exact ht ds d hR' B H B H _ (RepS.startA hs r) _ fun v B2 H2 e r2 => q v B2 H2 e r2
theorem fnOb {R : List Arg → List D → Prop} {t : TS} (F : FunD K x qual params body scope dvs kws f fd) (S : FnScope N ps scope) (hR : ∀ ds es, R ds es → ds.length = ps.length) (hb : Body P w K mg base N qual scope body k t)
    (ht : ∀ ds es, R ds es → EvS K t (startA N ds) (.rtO es)) : FnOk P w K mg base CX0 (k + 1) f fd ps (spOb K R) := by
  refine F.ok S (fun vs H Q E h => ?_) (fun cdv A outer s H vs Q E hr h => ⟨t, (hb f cdv A outer s H E hr).nox, ?_⟩)
  · obtain ⟨B, ds, d, _, r, hR', _⟩ := h
    rw [← r.len]
    exact hR ds d hR'
  · obtain ⟨B, ds, d, hs, r, hR', q⟩ := h
    exact ht ds d hR' B H B H _ (RepS.startA hs r) _ fun a vs B2 H2 e h0 hb hh r2 => q a vs B2 H2 e h0 hb hh r2
theorem fnMb {R : Addr → List Arg → List Str → List D → Prop} {t : TS} (F : FunD K x qual params body scope dvs kws f fd) (S : FnScope N ps scope) (hR : ∀ C es ns ds, R C es ns ds → es.length + 1 = ps.length) (hb : Body P w K mg base N qual scope body k t)
    (ht : ∀ C es ns ds, R C es ns ds → ∀ x dx, ∃ ρ', EvS K t (startIA N x dx C es) (.nx (.i x dx C ns ds :: ρ'))) : FnOk P w K mg base CX0 (k + 1) f fd ps (spMb K R) := by
  refine F.ok S (fun vs H Q E h => ?_) (fun cdv A outer s H vs Q E hr h => ⟨t, (hb f cdv A outer s H E hr).nox, ?_⟩)
  · obtain ⟨B, H0, C, x, dx, us, es, ns, ds, rfl, _, _, _, _, r, hR', _⟩ := h
    rw [List.length_cons, ← r.len]
    exact hR C es ns ds hR'
  · obtain ⟨B, H0, C, x, dx, us, es, ns, ds, rfl, hs, hs2, hx, hh, r, hR', q⟩ := h
    obtain ⟨ρ', h⟩ := ht C es ns ds hR' x dx
    refine h B H0 B H _ (RepS.startIA (N := N) hs hs2 hx hh r) _ fun B2 H2 σ2 r2 => ?_
    obtain ⟨vs, h1, h2, h3, h4, h5, h6⟩ := r2.oi 0 x dx C ns ds rfl
    exact q B2 H2 vs r2.e h3 h4 h5 h6
/-! ### what a caller has of a def, a class, a def of a class -/
structure Callee (P : Program) (w : World) (K : PySem.W.Frag) (mg : Str → Option Value) (base : Heap) (k : Nat) (x : Str) (dvs : List V) (ps : List Str) (sp : Sp) : Prop where
  go : ∃ f fd ds, FnOk P w K mg base CX0 k f fd ps sp ∧ mg x = some (.ref f) ∧ PySem.W.keepIn K (.ref f) = true ∧ Vals dvs ds ∧ Binds K fd ps ds
structure Maker (P : Program) (w : World) (K : PySem.W.Frag) (mg : Str → Option Value) (base : Heap) (k : Nat) (x : Str) (dvs : List V) (ps : List Str) (sp : Sp) : Prop where
  go : ∃ f fd ds, Mk K (ga K x) f ∧ FnOk P w K mg base CX0 k f fd ps sp ∧ mg x = some (.ref (ga K x)) ∧ Vals dvs ds ∧ Binds K fd ps ds
structure MakerN (P : Program) (w : World) (K : PySem.W.Frag) (mg : Str → Option Value) (base : Heap) (k : Nat) (x : Str) (n : Nat) (ks ps : List Str) (gV : List V → List V → List V) (sp : Sp) : Prop where
  go : ∃ f fd g, Mk K (ga K x) f ∧ FnOk P w K mg base CX0 k f fd ps sp ∧ mg x = some (.ref (ga K x)) ∧ KBn K fd ps (n + 1) ks g gV
structure ClsFn (P : Program) (w : World) (K : PySem.W.Frag) (mg : Str → Option Value) (base : Heap) (k : Nat) (x m : Str) (dvs : List V) (ps : List Str) (sp : Sp) : Prop where
  go : ∃ f fd ds mc, FnOk P w K mg base CX0 k f fd ps sp ∧ mg x = some (.ref (ga K x)) ∧ ClX.CRead K (ga K x) mc ∧ ClX.CVal K (ga K x) mc m (.ref f) (.ref f) ∧ PySem.W.keepIn K (.ref f) = true ∧ Vals dvs ds ∧ Binds K fd ps ds
end
section
variable {X : Cx} {k n : Nat} {x m : Str} {dvs : List V} {ps ks : List Str} {sp : Sp} {p pos apos : Pos} {e : Expr} {es : List Expr} {kws : List Keyword} {t tk : TA} {gV : List V → List V → List V}
theorem pe_cal (c : Callee X.prog X.w X.K X.mg X.base k x dvs ps sp) (hr : Room k X.A) (ha : PA X (e :: es) t) (hg : Gl X x := by rfl) (hdb : (x == ("__debug__" : Str)) = false := by decide) (he : starEach (e :: es) X.env = (false, eval e X.env) :: starEach es X.env := by rfl) (hpl : (backTo pos (starEach es X.env)).any (·.1) = false := by rfl) :
    PE X (.Call (.Name x p) (e :: es) [] pos) (tCall sp dvs E0 t) := by
  obtain ⟨f, fd, ds, F, hm, hk, hv, hb⟩ := c.go
  exact pe_call F hr hg hm hk hb hv pass0 ha hdb he hpl
theorem pe_cal0 (c : Callee X.prog X.w X.K X.mg X.base k x dvs ps sp) (hr : Room k X.A) (hg : Gl X x := by rfl) (hdb : (x == ("__debug__" : Str)) = false := by decide) : PE X (.Call (.Name x p) [] [] pos) (tCall sp dvs E0 tNil) := by
  obtain ⟨f, fd, ds, F, hm, hk, hv, hb⟩ := c.go
  exact pe_call0 F hr hg hm hk hb hv pass0 hdb
theorem pe_mk' (c : Maker X.prog X.w X.K X.mg X.base k x dvs ps sp) (hr : Room (k + 1) X.A) (ha : PA X (e :: es) t) (hg : Gl X x := by rfl) (hdb : (x == ("__debug__" : Str)) = false := by decide) (he : starEach (e :: es) X.env = (false, eval e X.env) :: starEach es X.env := by rfl) (hpl : (backTo pos (starEach es X.env)).any (·.1) = false := by rfl) :
    PE X (.Call (.Name x p) (e :: es) [] pos) (tMake (ga X.K x) sp dvs E0 t) := by
  obtain ⟨f, fd, ds, M, F, hm, hv, hb⟩ := c.go
  exact pe_make M F hr hg hm hb hv pass0 ha hdb he hpl
theorem pe_mkN (c : MakerN X.prog X.w X.K X.mg X.base k x n ks ps gV sp) (hr : Room (k + 1) X.A) (ha : PA X (e :: es) t) (hkw : PK X kws tk) (hall : (backToKw pos (keywordEach kws X.env)).all (·.1.isSome) = true := by rfl) (hks : (backToKw pos (keywordEach kws X.env)).filterMap (·.1) = ks := by rfl)
    (hg : Gl X x := by rfl) (hdb : (x == ("__debug__" : Str)) = false := by decide) (he : starEach (e :: es) X.env = (false, eval e X.env) :: starEach es X.env := by rfl)
    (hpl : ((backTo pos (starEach (e :: es) X.env)).any (·.1) || (backToKw pos (keywordEach kws X.env)).any (·.1.isNone)) = false := by rfl) :
    PE X (.Call (.Name x p) (e :: es) kws pos) (tMakeN (ga X.K x) n ks.length sp gV E0 t tk) := by
  obtain ⟨f, fd, g, M, F, hm, hb⟩ := c.go
  exact pe_makeN M F hr hg hm hb pass0 ha hkw hall hks hdb he hpl
theorem pe_cfn {pl : Sem Bool} (c : ClsFn X.prog X.w X.K X.mg X.base k x m dvs ps sp) (hr : Room k X.A) (ha : PA X (e :: es) t) (hg : Gl X x := by rfl) (hdb : (x == ("__debug__" : Str)) = false := by decide)
    (hst : starEach (e :: es) X.env = (false, eval e X.env) :: starEach es X.env := by rfl) (hpl : (backTo pos (starEach es X.env)).any (·.1) = false := by rfl)
    (ht : eval (.Call (.Attribute (.Name x p) m apos) (e :: es) [] pos) X.env = (do
      let ov ← eval (.Name x p) X.env
      standAt apos.atName
      let (f, first) ← holding [ov] (getMethod ov m pl)
      callWith pos f first (backTo pos (starEach (e :: es) X.env)) (backToKw pos (keywordEach [] X.env))) := by rfl) :
    PE X (.Call (.Attribute (.Name x p) m apos) (e :: es) [] pos) (tCall sp dvs E0 t) := by
  obtain ⟨f, fd, ds, mc, F, hm, r, kv, hk, hv, hb⟩ := c.go
  exact pe_clsfn (pl := pl) F hr hg hm r kv hk hb hv pass0 ha hdb hst hpl ht
/-- a number that stands at the top -/
theorem pe_const {i : Int} (h : ∃ t, X.mg x = some (.int i t)) (hg : Gl X x := by rfl) (hd : (x == ("__debug__" : Str)) = false := by decide) : PE X (.Name x p) (tC (.int i)) := by
  obtain ⟨t, h⟩ := h
  exact pe_glob hg h ⟨t, rfl⟩ hd
theorem pe_cls (h : X.mg x = some (.ref (ga X.K x))) (hg : Gl X x := by rfl) (hd : (x == ("__debug__" : Str)) = false := by decide) : PE X (.Name x p) (tC (.ref (ga X.K x))) := pe_glob hg h rfl hd
end

/-! ### parts as data -/
inductive Bs where
  | slope (w : Int) | aim (a w : Int) | square (a w : Int) | row (f : Int) (ws : List Int) | wall (lo hi : Int)
  | near (a w : Int) | gaps (f : Int) (ws : List Int) | ahead (g : Int)
inductive Wr where
  | times (n : Int) | moved (n : Int)
structure Pt where
  whr : List Int
  base : Bs
  wraps : List Wr
def iabs (i : Int) : Int := if i < 0 then -i else i
def rowAt (f : Int) (ws : List Int) (r : Int) : Option Int := if 0 ≤ r - f ∧ r - f < (ws.length : Int) then ws[(r - f).toNat]? else none
def Bs.worth : Bs → Int → Option Int
  | .slope w, r => some (w * r)
  | .aim a w, r => some (w * iabs (r - a))
  | .near a w, r => some (w * iabs (r - a))
  | .square a w, r => some (w * (r - a) * (r - a))
  | .row f ws, r => rowAt f ws r
  | .gaps f ws, r => rowAt f ws r
  | .wall lo hi, r => if lo ≤ r ∧ r ≤ hi then some 0 else none
  | .ahead g, r => if r ≤ g then some 0 else none
def wworth (b : Bs) : List Wr → Int → Option Int
  | [], r => b.worth r
  | .times n :: ws, r => (wworth b ws r).map (n * ·)
  | .moved n :: ws, r => wworth b ws (r - n)
def Pt.worth (p : Pt) (r : Int) : Option Int := wworth p.base p.wraps r
def Bs.lims : Bs → Option Int × Option Int
  | .row f ws => (some f, some (f + (ws.length : Int) - 1))
  | .gaps f ws => (some f, some (f + (ws.length : Int) - 1))
  | .wall lo hi => (some lo, some hi)
  | .ahead g => (none, some g)
  | _ => (none, none)
def wlims (b : Bs) : List Wr → Option Int × Option Int
  | [] => b.lims
  | .times _ :: ws => wlims b ws
  | .moved n :: ws => ((wlims b ws).1.map (· + n), (wlims b ws).2.map (· + n))
def Pt.lims (p : Pt) : Option Int × Option Int := wlims p.base p.wraps
def optD : Option Int → D
  | some i => .int i
  | none => .non
def intsD (ns : List Int) : D := .lst (ns.map .int)
/-! ### the objects -/
def Bs.cls : Bs → Str
  | .slope _ => "Slope" | .aim _ _ => "Aim" | .square _ _ => "Square" | .row _ _ => "Row" | .wall _ _ => "Wall" | .near _ _ => "Near" | .gaps _ _ => "Gaps" | .ahead _ => "Ahead"
def Bs.fns : Bs → List Str
  | .slope _ => ["where", "weight"]
  | .aim _ _ => ["where", "aim", "weight"]
  | .square _ _ => ["where", "aim", "weight"]
  | .near _ _ => ["where", "aim", "weight"]
  | .row _ _ => ["where", "first", "worths"]
  | .gaps _ _ => ["where", "first", "worths"]
  | .wall _ _ => ["where", "low", "high"]
  | .ahead _ => ["where", "gap"]
def Bs.fds : Bs → List D
  | .slope w => [.int w]
  | .aim a w => [.int a, .int w]
  | .square a w => [.int a, .int w]
  | .near a w => [.int a, .int w]
  | .row f ws => [.int f, intsD ws]
  | .gaps f ws => [.int f, intsD ws]
  | .wall lo hi => [.int lo, .int hi]
  | .ahead g => [.int g]
def bsD (K : PySem.W.Frag) (whr : List Int) (b : Bs) : D := .ins (ga K b.cls) b.fns (intsD whr :: b.fds)
def Wr.cls : Wr → Str
  | .times _ => "Times" | .moved _ => "Moved"
def Wr.num : Wr → Int
  | .times n => n | .moved n => n
def wrD (K : PySem.W.Frag) (whr : List Int) (b : Bs) : List Wr → D
  | [] => bsD K whr b
  | w :: ws => .ins (ga K w.cls) ["where", "deep", "part", "number"] [intsD whr, .int ((ws.length : Int) + 1), wrD K whr b ws, .int w.num]
def partD (K : PySem.W.Frag) (p : Pt) : D := wrD K p.whr p.base p.wraps
def Pt.cls (p : Pt) : Str := match p.wraps with
  | [] => p.base.cls
  | w :: _ => w.cls
def partNames : List Str := ["Slope", "Aim", "Square", "Row", "Wall", "Near", "Gaps", "Ahead", "Times", "Moved"]
def partFields : List Str := ["where", "weight", "aim", "first", "worths", "low", "high", "gap", "deep", "part", "number"]
/-- what a part's numbers keep to -/
def rising : List Int → Prop
  | a :: b :: c :: r => 2 * b ≤ a + c ∧ rising (b :: c :: r)
  | _ => True
def inR (lo hi x : Int) : Prop := lo ≤ x ∧ x ≤ hi
def Bs.ok : Bs → Prop
  | .slope w => inR (-1000) 1000 w
  | .aim a w => inR (-100) 100 a ∧ inR 0 1000 w
  | .square a w => inR (-100) 100 a ∧ inR 0 1000 w
  | .near a w => inR (-100) 100 a ∧ inR 0 1000 w
  | .row f ws => inR (-100) 100 f ∧ 1 ≤ ws.length ∧ ws.length ≤ 40 ∧ (∀ x ∈ ws, inR (-1000000) 1000000 x) ∧ rising ws
  | .gaps f ws => inR (-100) 100 f ∧ 1 ≤ ws.length ∧ ws.length ≤ 40 ∧ (∀ x ∈ ws, inR (-1000000) 1000000 x) ∧ rising ws
  | .wall lo hi => inR (-100) 100 lo ∧ inR lo 100 hi
  | .ahead g => inR (-100) 100 g
def Bs.two : Bs → Bool
  | .near _ _ => true | .gaps _ _ => true | .ahead _ => true | _ => false
def Wr.ok : Wr → Prop
  | .times n => inR 1 100 n
  | .moved n => inR (-100) 100 n
structure Pt.Ok (p : Pt) : Prop where
  base : p.base.ok
  wraps : ∀ w ∈ p.wraps, w.ok
  deep : p.wraps.length ≤ 8
  whr : ∀ x ∈ p.whr, inR 0 7 x
  one : p.base.two = false → ∃ a, p.whr = [a]
  two : p.base.two = true → ∃ a b, p.whr = [a, b] ∧ a ≠ b
/-! ### facts of the text -/
structure Fr (mg : Str → Option Value) : Prop where
  len_ : mg "len" = none
  abs_ : mg "abs" = none
  max_ : mg "max" = none
  min_ : mg "min" = none
  sum_ : mg "sum" = none
  all_ : mg "all" = none
  any_ : mg "any" = none
  isinstance_ : mg "isinstance" = none
  sorted_ : mg "sorted" = none
  range_ : mg "range" = none
  enumerate_ : mg "enumerate" = none
  zip_ : mg "zip" = none
  list_ : mg "list" = none
  tuple_ : mg "tuple" = none
  int_ : mg "int" = none
  bool_ : mg "bool" = none
  str_ : mg "str" = none
  set_ : mg "set" = none
  repr_ : mg "repr" = none
structure PF (K : PySem.W.Frag) : Prop where
  cls : ∀ x ∈ partNames, Cls K (ga K x)
  na : ∀ x ∈ partNames, ∀ f ∈ partFields, NoAttr K (ga K x) f
  ty : ∀ x ∈ partNames, InsTy K (ga K x)
  inj : ∀ x ∈ partNames, ∀ y ∈ partNames, ga K x = ga K y → x = y
  isP : ∀ x ∈ partNames, PySem.W.kitOne K (.ref (ga K x)) (.ref (ga K "Part")) = some true
  isW : ∀ x ∈ partNames, PySem.W.kitOne K (.ref (ga K x)) (.ref (ga K "Wrap")) = some (decide (x = "Times") || decide (x = "Moved"))
/-! ### what the defs do -/
def R_isnum : List D → D → Prop := fun ds d => ∃ (x : D) (lo hi : Int), ds = [x, .int lo, .int hi] ∧
  ((∃ i, x = .int i ∧ d = .bl (decide (lo ≤ i) && decide (i ≤ hi))) ∨ (d = .bl false ∧ (x = .non ∨ (∃ b, x = .bl b) ∨ (∃ s, x = .str s) ∨ (∃ es, x = .lst es) ∨ (∃ es, x = .tup es))))
def R_asked : List D → D → Prop := fun ds d => ∃ i lo hi : Int, ds = [.int i, .int lo, .int hi] ∧ inR lo hi i ∧ d = .int i
def GoodW (ws : List Int) : Prop := 1 ≤ ws.length ∧ ws.length ≤ 40 ∧ (∀ x ∈ ws, inR (-1000000) 1000000 x) ∧ rising ws
def R_worths : List Arg → List D → Prop := fun as es => ∃ (lw : Arg) (ws : List Int), as = [lw] ∧ IsL lw (ws.map .int) ∧ GoodW ws ∧ es = ws.map .int
def R_pair : List D → D → Prop := fun ds d => ∃ a b : Int, ds = [.int a, .int b] ∧ inR 0 7 a ∧ inR 0 7 b ∧ a ≠ b ∧ d = intsD [a, b]
def IsP (K : PySem.W.Frag) (C : Addr) : Prop := ∃ x ∈ partNames, C = ga K x
abbrev RM := Addr → List D → List Str → List D → Prop
abbrev RMb := Addr → List Arg → List Str → List D → Prop
def R_Part_init (K : PySem.W.Frag) : RM := fun C es ns ds => IsP K C ∧ ∃ ps : List Int, es = [intsD ps] ∧ (∀ p ∈ ps, inR 0 7 p) ∧ ps.length ≤ 8 ∧ ns = (["where"] : List Str) ∧ ds = [intsD ps]
def R_Slope_init (K : PySem.W.Frag) : RM := fun C es ns ds => IsP K C ∧ ∃ a w : Int, es = [.int a, .int w] ∧ inR 0 7 a ∧ inR (-1000) 1000 w ∧ ns = (["where", "weight"] : List Str) ∧ ds = [intsD [a], .int w]
def R_Aim_init (K : PySem.W.Frag) : RM := fun C es ns ds => IsP K C ∧ ∃ a m w : Int, es = [.int a, .int m, .int w] ∧ inR 0 7 a ∧ inR (-100) 100 m ∧ inR 0 1000 w ∧ ns = (["where", "aim", "weight"] : List Str) ∧ ds = [intsD [a], .int m, .int w]
def R_Row_init (K : PySem.W.Frag) : RMb := fun C es ns ds => IsP K C ∧ ∃ (a f : Int) (lw : Arg) (ws : List Int), es = [.p (.int a), .p (.int f), lw] ∧ IsL lw (ws.map .int) ∧ inR 0 7 a ∧ inR (-100) 100 f ∧ GoodW ws ∧ ns = (["where", "first", "worths"] : List Str) ∧ ds = [intsD [a], .int f, intsD ws]
def R_Wall_init (K : PySem.W.Frag) : RM := fun C es ns ds => IsP K C ∧ ∃ a lo hi : Int, es = [.int a, .int lo, .int hi] ∧ inR 0 7 a ∧ inR (-100) 100 lo ∧ inR lo 100 hi ∧ ns = (["where", "low", "high"] : List Str) ∧ ds = [intsD [a], .int lo, .int hi]
def R_Near_init (K : PySem.W.Frag) : RM := fun C es ns ds => IsP K C ∧ ∃ a b m w : Int, es = [.int a, .int b, .int m, .int w] ∧ inR 0 7 a ∧ inR 0 7 b ∧ a ≠ b ∧ inR (-100) 100 m ∧ inR 0 1000 w ∧ ns = (["where", "aim", "weight"] : List Str) ∧ ds = [intsD [a, b], .int m, .int w]
def R_Gaps_init (K : PySem.W.Frag) : RMb := fun C es ns ds => IsP K C ∧ ∃ (a b f : Int) (lw : Arg) (ws : List Int), es = [.p (.int a), .p (.int b), .p (.int f), lw] ∧ IsL lw (ws.map .int) ∧ inR 0 7 a ∧ inR 0 7 b ∧ a ≠ b ∧ inR (-100) 100 f ∧ GoodW ws ∧ ns = (["where", "first", "worths"] : List Str) ∧ ds = [intsD [a, b], .int f, intsD ws]
def R_Ahead_init (K : PySem.W.Frag) : RM := fun C es ns ds => IsP K C ∧ ∃ a b g : Int, es = [.int a, .int b, .int g] ∧ inR 0 7 a ∧ inR 0 7 b ∧ a ≠ b ∧ inR (-100) 100 g ∧ ns = (["where", "gap"] : List Str) ∧ ds = [intsD [a, b], .int g]
def wrapNs : List Str := ["where", "deep", "part", "number"]
def wrapDs (K : PySem.W.Frag) (p : Pt) (n : Int) : List D := [intsD p.whr, .int ((p.wraps.length : Int) + 1), partD K p, .int n]
def R_Wrap_init (K : PySem.W.Frag) : RM := fun C es ns ds => IsP K C ∧ ∃ (p : Pt) (n : Int), es = [partD K p, .int n] ∧ p.Ok ∧ p.wraps.length < 8 ∧ ns = wrapNs ∧ ds = wrapDs K p n
def R_Times_init (K : PySem.W.Frag) : RM := fun C es ns ds => IsP K C ∧ ∃ (p : Pt) (n : Int), es = [partD K p, .int n] ∧ p.Ok ∧ p.wraps.length < 8 ∧ inR 1 100 n ∧ ns = wrapNs ∧ ds = wrapDs K p n
def R_Moved_init (K : PySem.W.Frag) : RM := fun C es ns ds => IsP K C ∧ ∃ (p : Pt) (n : Int), es = [partD K p, .int n] ∧ p.Ok ∧ p.wraps.length < 8 ∧ inR (-100) 100 n ∧ ns = wrapNs ∧ ds = wrapDs K p n
def R_stands (K : PySem.W.Frag) (C : Addr) : List D → List D → Prop := fun ds es => ∃ p : Pt, ds = [partD K p] ∧ C = ga K p.cls ∧ p.Ok ∧ es = p.whr.map .int
/-- what is read lies within -/
def far : Int := 4611686018427387904
def farN (n : Nat) : Int := far + (8 - (n : Int)) * 100
def R_worth (K : PySem.W.Frag) (n : Nat) (C : Addr) : List D → D → Prop := fun ds d => ∃ (p : Pt) (r : Int), ds = [partD K p, .int r] ∧ C = ga K p.cls ∧ p.Ok ∧ p.wraps.length ≤ n ∧ inR (-(farN n)) (farN n) (r) ∧ d = optD (p.worth r)
def limsD (l : Option Int × Option Int) : D := .tup [optD l.1, optD l.2]
def R_limits (K : PySem.W.Frag) (n : Nat) (C : Addr) : List D → D → Prop := fun ds d => ∃ p : Pt, ds = [partD K p] ∧ C = ga K p.cls ∧ p.Ok ∧ p.wraps.length ≤ n ∧ d = limsD p.lims
def pointD (q : List Int) : D := intsD q

/-! ### the law's own helpers, as plain functions -/
def lawCell (ns : List Int) (k : Int) : Int := if k < (ns.length : Int) then ns.getD k.toNat 0 else if ns = [] then k * 48271 else (ns.getD (k % (ns.length : Int)).toNat 0 + k) * 48271 % 2147483647
def digs : Int → List Int → List Int
  | _, [] => []
  | c, b :: bs => c % b :: digs (c / b) bs
def lawSeed (c : Int) : Int := if c < 10 ^ 18 then (c % 2147483647 * 48271 + 12345) ^ 5 / 1013 else c
def lawNums (c : Int) (bs : List Int) : List Int := digs (lawSeed c) bs
def worthsGo (scale : Int) : Int → Int → List Int → List Int
  | _, _, [] => []
  | last, step, m :: r => (last + scale * step) :: worthsGo scale (last + scale * step) (step + m) r
def lawWorths (gs : List Int) (scale : Int) : List Int := scale * (gs.getD 0 0 - 9) :: worthsGo scale (scale * (gs.getD 0 0 - 9)) (gs.getD 1 0 - 6) (gs.drop 2)
def scaleOf (k : Int) : Int := if k % 4 = 3 then 5000 else 1
def cutG (dg : List Int) : List Int := (dg.drop 8).take (2 + (dg.getD 5 0).toNat)
def singleBs (dg : List Int) (bot : Int) : Bs :=
  if dg.getD 0 0 % 5 = 0 then .slope (2 * dg.getD 4 0 - 5)
  else if dg.getD 0 0 % 5 = 1 then .aim (bot - 2 + dg.getD 3 0) (dg.getD 4 0)
  else if dg.getD 0 0 % 5 = 2 then .square (bot - 2 + dg.getD 3 0) (dg.getD 4 0 % 3)
  else if dg.getD 0 0 % 5 = 3 then .row (bot - 2 + dg.getD 3 0 % 4) (lawWorths (cutG dg) (scaleOf (dg.getD 7 0)))
  else .wall (bot - 1 + dg.getD 3 0 % 4) (bot - 1 + dg.getD 3 0 % 4 + dg.getD 5 0)
def doubleBs (dg : List Int) : Bs :=
  if dg.getD 0 0 % 6 < 3 then .near (dg.getD 3 0 % 7 - 3) (dg.getD 4 0)
  else if dg.getD 0 0 % 6 < 5 then .gaps (dg.getD 3 0 % 5 - 4) (lawWorths (cutG dg) (scaleOf (dg.getD 7 0)))
  else .ahead (dg.getD 3 0 % 7 - 2)
def wrapsOf (dg : List Int) : List Wr :=
  ([[], [], [], [.times (1 + dg.getD 7 0 * dg.getD 7 0)], [.moved (dg.getD 7 0 - 2)], [.times 2, .moved (dg.getD 7 0 - 2)], [.moved (dg.getD 7 0 - 2), .moved 3], [.moved (-1), .times 3, .times 2]] : List (List Wr)).getD (dg.getD 6 0).toNat []
def boundsOf (many bot top : Int) : List Int := [30, many, (if many - 1 > 1 then many - 1 else 1), top - bot + 5, 6, 8, 8, 5, 19, 13, 4, 4, 4, 4, 4, 4, 4, 4, 4]
def halved (dg : List Int) : List Int := dg.set 0 (dg.getD 0 0 / 2)
def genPt (cell many bot top : Int) : Pt :=
  let dg := lawNums cell (boundsOf many bot top)
  if many > 1 ∧ dg.getD 0 0 % 2 = 0 then ⟨[dg.getD 1 0, (dg.getD 1 0 + 1 + dg.getD 2 0) % many], doubleBs (halved dg), wrapsOf (halved dg)⟩
  else ⟨[dg.getD 1 0], singleBs (halved dg) bot, wrapsOf (halved dg)⟩
def Bs.word : Bs → Str
  | .slope _ => "slope" | .aim _ _ => "aim" | .square _ _ => "square" | .row _ _ => "row" | .wall _ _ => "wall" | .near _ _ => "near" | .gaps _ _ => "gaps" | .ahead _ => "ahead"
def Bs.nums : Bs → List D
  | .slope w => [.int w]
  | .aim a w => [.int a, .int w]
  | .square a w => [.int a, .int w]
  | .near a w => [.int a, .int w]
  | .row f ws => [.int f, intsD ws]
  | .gaps f ws => [.int f, intsD ws]
  | .wall lo hi => [.int lo, .int hi]
  | .ahead g => [.int g]
def Wr.word : Wr → Str
  | .times _ => "times" | .moved _ => "moved"
def wrT (w : Wr) : D := .tup [.str w.word, .int w.num]
def bsT (b : Bs) : D := .tup [.str b.word, .lst b.nums]
def ptD (p : Pt) : D := .tup [.str p.base.word, intsD p.whr, .lst p.base.nums, .lst (p.wraps.map wrT)]
/-- as the law reckons a part's worth -/
def lawMany : List Wr → Int → Int
  | [], m => m
  | .times n :: ws, m => lawMany ws (m * n)
  | .moved _ :: ws, m => lawMany ws m
def lawReads : List Wr → Int → Int
  | [], r => r
  | .times _ :: ws, r => lawReads ws r
  | .moved n :: ws, r => lawReads ws (r - n)
def lawBase (b : Bs) (m r : Int) : Option Int := match b with
  | .slope w => some (m * w * r)
  | .aim a w => some (m * w * iabs (r - a))
  | .near a w => some (m * w * iabs (r - a))
  | .square a w => some (m * w * (r - a) * (r - a))
  | .row f ws => (rowAt f ws r).map (m * ·)
  | .gaps f ws => (rowAt f ws r).map (m * ·)
  | .wall lo hi => if lo ≤ r ∧ r ≤ hi then some 0 else none
  | .ahead g => if r ≤ g then some 0 else none
def lawAt (p : Pt) (r : Int) : Option Int := lawBase p.base (lawMany p.wraps 1) (lawReads p.wraps r)
/-! ### what the helpers do -/
def R_cell : List D → D → Prop := fun ds d => ∃ (ns : List Int) (k : Int), ds = [.scr ns, .int k] ∧ 0 ≤ k ∧ ns.length ≤ 63 ∧ d = .int (lawCell ns k)
def R_numbers : List D → List D → Prop := fun ds es => ∃ (c : Int) (bs : List Int), ds = [.int c, intsD bs] ∧ (∀ b ∈ bs, 0 < b ∧ b < 1073741824) ∧ bs.length ≤ 1000 ∧ es = (lawNums c bs).map .int
def R_lworths : List D → List D → Prop := fun ds es => ∃ (gs : List Int) (s : Int), ds = [intsD gs, .int s] ∧ 2 ≤ gs.length ∧ gs.length ≤ 1000 ∧ inR 0 5000 s ∧ es = (lawWorths gs s).map .int
def R_single : List D → D → Prop := fun ds d => ∃ (dg : List Int) (bot : Int), ds = [intsD dg, .int bot] ∧ dg.length = 19 ∧ inR 0 7 (dg.getD 5 0) ∧ d = bsT (singleBs dg bot)
def R_double : List D → D → Prop := fun ds d => ∃ dg : List Int, ds = [intsD dg] ∧ dg.length = 19 ∧ inR 0 7 (dg.getD 5 0) ∧ d = bsT (doubleBs dg)
def R_part : List D → D → Prop := fun ds d => ∃ cell many bot top : Int, ds = [.int cell, .int many, .int bot, .int top] ∧ inR 1 8 many ∧ inR (-50) 50 bot ∧ inR bot 50 top ∧ d = ptD (genPt cell many bot top)
def R_at : List D → D → Prop := fun ds d => ∃ (p : Pt) (r : Int), ds = [ptD p, .int r] ∧ p.Ok ∧ inR (-far) far r ∧ d = optD (lawAt p r)
def R_base (K : PySem.W.Frag) : List D → D → Prop := fun ds d => ∃ p : Pt, ds = [ptD p] ∧ p.Ok ∧ d = bsD K p.whr p.base
def R_made (K : PySem.W.Frag) : List D → D → Prop := fun ds d => ∃ p : Pt, ds = [ptD p] ∧ p.Ok ∧ d = partD K p
def R_ends : List D → D → Prop := fun ds d => ∃ p : Pt, ds = [ptD p] ∧ p.Ok ∧ (∀ a, p.lims.1 = some a → inR (-60) 60 a) ∧ (∀ a, p.lims.2 = some a → inR (-60) 60 a) ∧ d = limsD p.lims
def R_right (K : PySem.W.Frag) : List D → D → Prop := fun ds d => ∃ (p : Pt) (c : Int), ds = [ptD p, .int c] ∧ p.Ok ∧ (∀ a, p.lims.1 = some a → inR (-60) 60 a) ∧ (∀ a, p.lims.2 = some a → inR (-60) 60 a) ∧ d = .bl true
def R_classes : List D → D → Prop := fun ds d => ∃ c : Int, ds = [.int c] ∧ d = .bl true
def R_law : List D → D → Prop := fun ds d => ∃ ns : List Int, ds = [.scr ns] ∧ ns.length ≤ 63 ∧ d = .bl true

def gv_Square_2_weight : List V → List V → List V := fun vs zs => vs ++ zs
def gv_Near_2_weight : List V → List V → List V := fun vs zs => vs ++ (.int 0 :: zs)
def N_is_number : List Str := [("thing" : Str), ("least" : Str), ("most" : Str)]
def t_is_number (K : PySem.W.Frag) : TS := (tRet (tAndV (tCB (rIsi K) (tCons (tVar 0) (tCons (tC (.ty "int")) tNil))) (tAndV (tNotV (tCB (rIsi K) (tCons (tVar 0) (tCons (tC (.ty "bool")) tNil)))) (tChain zLe zLe (tVar 1) (tVar 0) (tVar 2)))))
def N_asked : List Str := [("thing" : Str), ("least" : Str), ("most" : Str)]
def t_asked (K : PySem.W.Frag) : TS := (tSeq (tIfS (tNot (tB (tCall (spD K R_isnum) [] E0 (tCons (tVar 0) (tCons (tVar 1) (tCons (tVar 2) tNil)))))) tNever tNext) (tRet (tVar 0)))
def N_asked_worths : List Str := [("worths" : Str), ("worth" : Str), ("at" : Str)]
def t_asked_worths (K : PySem.W.Frag) : TS := (tSeq (tIfS (tOr (tNot (tB (tCB (rIsi K) (tCons (tVar 0) (tCons (tC (.ty "list")) tNil))))) (tNot (tTest (tChain zLe zLe (tC (.int 1)) (tCB (zLen K) (tCons (tVar 0) tNil)) (tC (.int 40)))))) tNever tNext) (tSeq (tFor (iList K (tVar 0)) (gName 1) (tDrop (tCall (spD K R_asked) [] E0 (tCons (tVar 1) (tCons (tUn zNeg (tC (.int 1000000))) (tCons (tC (.int 1000000)) tNil)))))) (tSeq (tFor (iRng2 (tCons (tC (.int 1)) (tCons (tOp zSub (tCB (zLen K) (tCons (tVar 0) tNil)) (tC (.int 1))) tNil))) (gName 2) (tIfS (tTest (tOp zGt (tOp zTimes (tC (.int 2)) (tOp (rIx K) (tVar 0) (tVar 2))) (tOp zPlus (tOp (rIx K) (tVar 0) (tOp zSub (tVar 2) (tC (.int 1)))) (tOp (rIx K) (tVar 0) (tOp zPlus (tVar 2) (tC (.int 1))))))) tNever tNext)) (tRet (tCB (zList K) (tCons (tVar 0) tNil))))))
def N_asked_pair : List Str := [("one" : Str), ("other" : Str), ("pair" : Str)]
def t_asked_pair (K : PySem.W.Frag) : TS := (tSeq (tAsg (tLst (tCons (tCall (spD K R_asked) [] E0 (tCons (tVar 0) (tCons (tC (.int 0)) (tCons (tOp zSub (tC (.int 8)) (tC (.int 1))) tNil)))) (tCons (tCall (spD K R_asked) [] E0 (tCons (tVar 1) (tCons (tC (.int 0)) (tCons (tOp zSub (tC (.int 8)) (tC (.int 1))) tNil)))) tNil))) (gName 2)) (tSeq (tIfS (tTest (tOp (zEq K) (tVar 0) (tVar 1))) tNever tNext) (tRet (tVar 2))))
def N_Part_init : List Str := [("self" : Str), ("where" : Str), ("place" : Str)]
def t_Part_init (K : PySem.W.Frag) : TS := (sFld K (tVar 0) (tLc (iList K (tVar 1)) (gName 2) tYes (tCall (spD K R_asked) [] E0 (tCons (tVar 2) (tCons (tC (.int 0)) (tCons (tOp zSub (tC (.int 8)) (tC (.int 1))) tNil)))) [2]) "where")
def N_Part_stands : List Str := [("self" : Str)]
def t_Part_stands (K : PySem.W.Frag) : TS := (tRet (tCB (zList K) (tCons (tFld K (tVar 0) "where") tNil)))
def N_Part_worth_of : List Str := [("self" : Str), ("reads" : Str)]
def t_Part_worth_of (K : PySem.W.Frag) : TS := (tRet (tC (.int 0)))
def N_Part_limits : List Str := [("self" : Str)]
def t_Part_limits (K : PySem.W.Frag) : TS := (tRet (tTup (tCons (tC .non) (tCons (tC .non) tNil))))
def N_Slope_init : List Str := [("self" : Str), ("place" : Str), ("weight" : Str)]
def t_Slope_init (K : PySem.W.Frag) : TS := (tSeq (tDrop (tCall (spM K (R_Part_init K)) [] E0 (tCons (tVar 0) (tCons (tLst (tCons (tVar 1) tNil)) tNil)))) (sFld K (tVar 0) (tCall (spD K R_asked) [] E0 (tCons (tVar 2) (tCons (tUn zNeg (tC (.int 1000))) (tCons (tC (.int 1000)) tNil)))) "weight"))
def N_Slope_worth_of : List Str := [("self" : Str), ("reads" : Str)]
def t_Slope_worth_of (K : PySem.W.Frag) : TS := (tRet (tOp zTimes (tFld K (tVar 0) "weight") (tVar 1)))
def N_Aim_init : List Str := [("self" : Str), ("place" : Str), ("aim" : Str), ("weight" : Str)]
def t_Aim_init (K : PySem.W.Frag) : TS := (tSeq (tDrop (tCall (spM K (R_Part_init K)) [] E0 (tCons (tVar 0) (tCons (tLst (tCons (tVar 1) tNil)) tNil)))) (tSeq (sFld K (tVar 0) (tCall (spD K R_asked) [] E0 (tCons (tVar 2) (tCons (tUn zNeg (tC (.int 100))) (tCons (tC (.int 100)) tNil)))) "aim") (sFld K (tVar 0) (tCall (spD K R_asked) [] E0 (tCons (tVar 3) (tCons (tC (.int 0)) (tCons (tC (.int 1000)) tNil)))) "weight")))
def N_Aim_worth_of : List Str := [("self" : Str), ("reads" : Str)]
def t_Aim_worth_of (K : PySem.W.Frag) : TS := (tRet (tOp zTimes (tFld K (tVar 0) "weight") (tCB zAbs (tCons (tOp zSub (tVar 1) (tFld K (tVar 0) "aim")) tNil))))
def N_Square_worth_of : List Str := [("self" : Str), ("reads" : Str)]
def t_Square_worth_of (K : PySem.W.Frag) : TS := (tRet (tOp zTimes (tOp zTimes (tFld K (tVar 0) "weight") (tOp zSub (tVar 1) (tFld K (tVar 0) "aim"))) (tOp zSub (tVar 1) (tFld K (tVar 0) "aim"))))
def N_Row_init : List Str := [("self" : Str), ("place" : Str), ("first" : Str), ("worths" : Str)]
def t_Row_init (K : PySem.W.Frag) : TS := (tSeq (tDrop (tCall (spM K (R_Part_init K)) [] E0 (tCons (tVar 0) (tCons (tLst (tCons (tVar 1) tNil)) tNil)))) (tSeq (sFld K (tVar 0) (tCall (spD K R_asked) [] E0 (tCons (tVar 2) (tCons (tUn zNeg (tC (.int 100))) (tCons (tC (.int 100)) tNil)))) "first") (sFld K (tVar 0) (tCall (spOb K R_worths) [] E0 (tCons (tVar 3) tNil)) "worths")))
def N_Row_worth_of : List Str := [("self" : Str), ("reads" : Str)]
def t_Row_worth_of (K : PySem.W.Frag) : TS := (tSeq (tIfS (tNot (tTest (tChain zLe zLt (tC (.int 0)) (tOp zSub (tVar 1) (tFld K (tVar 0) "first")) (tCB (zLen K) (tCons (tFld K (tVar 0) "worths") tNil))))) (tRet (tC .non)) tNext) (tRet (tOp (rIx K) (tFld K (tVar 0) "worths") (tOp zSub (tVar 1) (tFld K (tVar 0) "first")))))
def N_Row_limits : List Str := [("self" : Str)]
def t_Row_limits (K : PySem.W.Frag) : TS := (tRet (tTup (tCons (tFld K (tVar 0) "first") (tCons (tOp zSub (tOp zPlus (tFld K (tVar 0) "first") (tCB (zLen K) (tCons (tFld K (tVar 0) "worths") tNil))) (tC (.int 1))) tNil))))
def N_Wall_init : List Str := [("self" : Str), ("place" : Str), ("low" : Str), ("high" : Str)]
def t_Wall_init (K : PySem.W.Frag) : TS := (tSeq (tDrop (tCall (spM K (R_Part_init K)) [] E0 (tCons (tVar 0) (tCons (tLst (tCons (tVar 1) tNil)) tNil)))) (tSeq (sFld K (tVar 0) (tCall (spD K R_asked) [] E0 (tCons (tVar 2) (tCons (tUn zNeg (tC (.int 100))) (tCons (tC (.int 100)) tNil)))) "low") (sFld K (tVar 0) (tCall (spD K R_asked) [] E0 (tCons (tVar 3) (tCons (tFld K (tVar 0) "low") (tCons (tC (.int 100)) tNil)))) "high")))
def N_Wall_worth_of : List Str := [("self" : Str), ("reads" : Str)]
def t_Wall_worth_of (K : PySem.W.Frag) : TS := (tRet (tIf (tTest (tChain zLe zLe (tFld K (tVar 0) "low") (tVar 1) (tFld K (tVar 0) "high"))) (tC (.int 0)) (tC .non)))
def N_Wall_limits : List Str := [("self" : Str)]
def t_Wall_limits (K : PySem.W.Frag) : TS := (tRet (tTup (tCons (tFld K (tVar 0) "low") (tCons (tFld K (tVar 0) "high") tNil))))
def N_Near_init : List Str := [("self" : Str), ("one" : Str), ("other" : Str), ("aim" : Str), ("weight" : Str), ("where" : Str)]
def t_Near_init (K : PySem.W.Frag) : TS := (tSeq (tAsg (tCall (spD K R_pair) [] E0 (tCons (tVar 1) (tCons (tVar 2) tNil))) (gName 5)) (tSeq (tDrop (tCall (spM K (R_Aim_init K)) [] E0 (tCons (tVar 0) (tCons (tVar 1) (tCons (tVar 3) (tCons (tVar 4) tNil)))))) (sFld K (tVar 0) (tVar 5) "where")))
def N_Gaps_init : List Str := [("self" : Str), ("one" : Str), ("other" : Str), ("first" : Str), ("worths" : Str), ("where" : Str)]
def t_Gaps_init (K : PySem.W.Frag) : TS := (tSeq (tAsg (tCall (spD K R_pair) [] E0 (tCons (tVar 1) (tCons (tVar 2) tNil))) (gName 5)) (tSeq (tDrop (tCall (spMb K (R_Row_init K)) [] E0 (tCons (tVar 0) (tCons (tVar 1) (tCons (tVar 3) (tCons (tVar 4) tNil)))))) (sFld K (tVar 0) (tVar 5) "where")))
def N_Ahead_init : List Str := [("self" : Str), ("one" : Str), ("other" : Str), ("gap" : Str)]
def t_Ahead_init (K : PySem.W.Frag) : TS := (tSeq (tDrop (tCall (spM K (R_Part_init K)) [] E0 (tCons (tVar 0) (tCons (tCall (spD K R_pair) [] E0 (tCons (tVar 1) (tCons (tVar 2) tNil))) tNil)))) (sFld K (tVar 0) (tCall (spD K R_asked) [] E0 (tCons (tVar 3) (tCons (tUn zNeg (tC (.int 100))) (tCons (tC (.int 100)) tNil)))) "gap"))
def N_Ahead_worth_of : List Str := [("self" : Str), ("reads" : Str)]
def t_Ahead_worth_of (K : PySem.W.Frag) : TS := (tRet (tIf (tTest (tOp zLe (tVar 1) (tFld K (tVar 0) "gap"))) (tC (.int 0)) (tC .non)))
def N_Ahead_limits : List Str := [("self" : Str)]
def t_Ahead_limits (K : PySem.W.Frag) : TS := (tRet (tTup (tCons (tC .non) (tCons (tFld K (tVar 0) "gap") tNil))))
def N_Wrap_init : List Str := [("self" : Str), ("part" : Str), ("number" : Str)]
def t_Wrap_init (K : PySem.W.Frag) : TS := (tSeq (tIfS (tNot (tB (tCB (rIsi K) (tCons (tVar 1) (tCons (tC (.ref (ga K "Part"))) tNil))))) tNever tNext) (tSeq (tDrop (tCall (spM K (R_Part_init K)) [] E0 (tCons (tVar 0) (tCons (tMethD "stands" (IsP K) (fun C => spO K (R_stands K C)) E0 (tVar 1) tNil) tNil)))) (tSeq (sFld K (tVar 0) (tIf (tB (tCB (rIsi K) (tCons (tVar 1) (tCons (tC (.ref (ga K "Wrap"))) tNil)))) (tOp zPlus (tFld K (tVar 1) "deep") (tC (.int 1))) (tC (.int 1))) "deep") (tSeq (tDrop (tCall (spD K R_asked) [] E0 (tCons (tFld K (tVar 0) "deep") (tCons (tC (.int 1)) (tCons (tC (.int 8)) tNil))))) (tSeq (sFld K (tVar 0) (tVar 1) "part") (sFld K (tVar 0) (tVar 2) "number"))))))
def N_Wrap_limits : List Str := [("self" : Str)]
def t_Wrap_limits (K : PySem.W.Frag) (n : Nat) : TS := (tRet (tMethD "limits" (IsP K) (fun C => spD K (R_limits K n C)) E0 (tFld K (tVar 0) "part") tNil))
def N_Times_init : List Str := [("self" : Str), ("part" : Str), ("many" : Str)]
def t_Times_init (K : PySem.W.Frag) : TS := (tSeq (tDrop (tCall (spM K (R_Wrap_init K)) [] E0 (tCons (tVar 0) (tCons (tVar 1) (tCons (tVar 2) tNil))))) (tDrop (tCall (spD K R_asked) [] E0 (tCons (tVar 2) (tCons (tC (.int 1)) (tCons (tC (.int 100)) tNil))))))
def N_Times_worth_of : List Str := [("self" : Str), ("reads" : Str), ("inner" : Str)]
def t_Times_worth_of (K : PySem.W.Frag) (n : Nat) : TS := (tSeq (tAsg (tMethD "worth_of" (IsP K) (fun C => spD K (R_worth K n C)) E0 (tFld K (tVar 0) "part") (tCons (tVar 1) tNil)) (gName 2)) (tRet (tIf (tTest (tOp zIsN (tVar 2) (tC .non))) (tC .non) (tOp zTimes (tFld K (tVar 0) "number") (tVar 2)))))
def N_Moved_init : List Str := [("self" : Str), ("part" : Str), ("by" : Str)]
def t_Moved_init (K : PySem.W.Frag) : TS := (tSeq (tDrop (tCall (spM K (R_Wrap_init K)) [] E0 (tCons (tVar 0) (tCons (tVar 1) (tCons (tVar 2) tNil))))) (tDrop (tCall (spD K R_asked) [] E0 (tCons (tVar 2) (tCons (tUn zNeg (tC (.int 100))) (tCons (tC (.int 100)) tNil))))))
def N_Moved_worth_of : List Str := [("self" : Str), ("reads" : Str)]
def t_Moved_worth_of (K : PySem.W.Frag) (n : Nat) : TS := (tRet (tMethD "worth_of" (IsP K) (fun C => spD K (R_worth K n C)) E0 (tFld K (tVar 0) "part") (tCons (tOp zSub (tVar 1) (tFld K (tVar 0) "number")) tNil)))
def N_Moved_limits : List Str := [("self" : Str), ("end" : Str)]
def t_Moved_limits (K : PySem.W.Frag) (n : Nat) : TS := (tRet (tCB (zTuple K) (tCons (tLc (iTup K (tMethD "limits" (IsP K) (fun C => spD K (R_limits K n C)) E0 (tFld K (tVar 0) "part") tNil)) (gName 1) tYes (tIf (tTest (tOp zIsN (tVar 1) (tC .non))) (tC .non) (tOp zPlus (tVar 1) (tFld K (tVar 0) "number"))) [1]) tNil)))
def N__law_cell_at : List Str := [("_law_script" : Str), ("_law_k" : Str)]
def t__law_cell_at (K : PySem.W.Frag) : TS := (tSeq (tIfS (tTest (tOp zLt (tVar 1) (tCB (zLen K) (tCons (tVar 0) tNil)))) (tRet (tOp (rIx K) (tVar 0) (tVar 1))) tNext) (tSeq (tIfS (tTest (tOp (zEq K) (tVar 0) (tLst tNil))) (tRet (tOp zTimes (tVar 1) (tC (.int 48271)))) tNext) (tRet (tOp zMod (tOp zTimes (tOp zPlus (tOp (rIx K) (tVar 0) (tOp zMod (tVar 1) (tCB (zLen K) (tCons (tVar 0) tNil)))) (tVar 1)) (tC (.int 48271))) (tC (.int 2147483647))))))
def N__law_numbers : List Str := [("_law_cell" : Str), ("_law_bounds" : Str), ("_law_left" : Str), ("_law_found" : Str), ("_law_bound" : Str)]
def t__law_numbers (K : PySem.W.Frag) : TS := (tSeq (tAsg (tVar 0) (gName 2)) (tSeq (tIfS (tTest (tOp zLt (tVar 0) (tOp zPow (tC (.int 10)) (tC (.int 18))))) (tAsg (tOp zDiv (tOp zPow (tOp zPlus (tOp zTimes (tOp zMod (tVar 0) (tC (.int 2147483647))) (tC (.int 48271))) (tC (.int 12345))) (tC (.int 5))) (tC (.int 1013))) (gName 2)) tNext) (tSeq (tAsg (tLst tNil) (gName 3)) (tSeq (tFor (iList K (tVar 1)) (gName 4) (tSeq (tDrop (tBM K "list" rAppend (tVar 3) (tCons (tOp zMod (tVar 2) (tVar 4)) tNil))) (tAsg (tOp zDiv (tVar 2) (tVar 4)) (gName 2)))) (tRet (tVar 3))))))
def N__law_worths : List Str := [("_law_digits" : Str), ("_law_scale" : Str), ("_law_worths_here" : Str), ("_law_step" : Str), ("_law_more" : Str)]
def t__law_worths (K : PySem.W.Frag) : TS := (tSeq (tAsg (tLst (tCons (tOp zTimes (tVar 1) (tOp zSub (tOp (rIx K) (tVar 0) (tC (.int 0))) (tC (.int 9)))) tNil)) (gName 2)) (tSeq (tAsg (tOp zSub (tOp (rIx K) (tVar 0) (tC (.int 1))) (tC (.int 6))) (gName 3)) (tSeq (tFor (iList K (tSl (rSlL K) (tVar 0) (tPart (tC (.int 2))) tNoPart)) (gName 4) (tSeq (tDrop (tBM K "list" rAppend (tVar 2) (tCons (tOp zPlus (tOp (rIx K) (tVar 2) (tUn zNeg (tC (.int 1)))) (tOp zTimes (tVar 1) (tVar 3))) tNil))) (tAsg (tOp zPlus (tVar 3) (tVar 4)) (gName 3)))) (tRet (tVar 2)))))
def N__law_single : List Str := [("_law_digits" : Str), ("_law_bottom" : Str), ("_law_kind" : Str), ("_law_aim" : Str), ("_law_scale" : Str), ("_law_shut" : Str)]
def t__law_single (K : PySem.W.Frag) : TS := (tSeq (tAsg (tOp zMod (tOp (rIx K) (tVar 0) (tC (.int 0))) (tC (.int 5))) (gName 2)) (tSeq (tAsg (tOp zPlus (tOp zSub (tVar 1) (tC (.int 2))) (tOp (rIx K) (tVar 0) (tC (.int 3)))) (gName 3)) (tSeq (tIfS (tTest (tOp (zEq K) (tVar 2) (tC (.int 0)))) (tRet (tTup (tCons (tC (.str "slope")) (tCons (tLst (tCons (tOp zSub (tOp zTimes (tC (.int 2)) (tOp (rIx K) (tVar 0) (tC (.int 4)))) (tC (.int 5))) tNil)) tNil)))) tNext) (tSeq (tIfS (tTest (tOp (zEq K) (tVar 2) (tC (.int 1)))) (tRet (tTup (tCons (tC (.str "aim")) (tCons (tLst (tCons (tVar 3) (tCons (tOp (rIx K) (tVar 0) (tC (.int 4))) tNil))) tNil)))) tNext) (tSeq (tIfS (tTest (tOp (zEq K) (tVar 2) (tC (.int 2)))) (tRet (tTup (tCons (tC (.str "square")) (tCons (tLst (tCons (tVar 3) (tCons (tOp zMod (tOp (rIx K) (tVar 0) (tC (.int 4))) (tC (.int 3))) tNil))) tNil)))) tNext) (tSeq (tIfS (tTest (tOp (zEq K) (tVar 2) (tC (.int 3)))) (tSeq (tAsg (tOp (rIx K) (tLst (tCons (tC (.int 1)) (tCons (tC (.int 1)) (tCons (tC (.int 1)) (tCons (tC (.int 5000)) tNil))))) (tOp zMod (tOp (rIx K) (tVar 0) (tC (.int 7))) (tC (.int 4)))) (gName 4)) (tRet (tTup (tCons (tC (.str "row")) (tCons (tLst (tCons (tOp zPlus (tOp zSub (tVar 1) (tC (.int 2))) (tOp zMod (tOp (rIx K) (tVar 0) (tC (.int 3))) (tC (.int 4)))) (tCons (tCall (spO K R_lworths) [] E0 (tCons (tSl (rSlL K) (tVar 0) (tPart (tC (.int 8))) (tPart (tOp zPlus (tC (.int 10)) (tOp (rIx K) (tVar 0) (tC (.int 5)))))) (tCons (tVar 4) tNil))) tNil))) tNil))))) tNext) (tSeq (tAsg (tOp zPlus (tOp zSub (tVar 1) (tC (.int 1))) (tOp zMod (tOp (rIx K) (tVar 0) (tC (.int 3))) (tC (.int 4)))) (gName 5)) (tRet (tTup (tCons (tC (.str "wall")) (tCons (tLst (tCons (tVar 5) (tCons (tOp zPlus (tVar 5) (tOp (rIx K) (tVar 0) (tC (.int 5)))) tNil))) tNil)))))))))))
def N__law_double : List Str := [("_law_digits" : Str), ("_law_kind" : Str), ("_law_scale" : Str)]
def t__law_double (K : PySem.W.Frag) : TS := (tSeq (tAsg (tOp zMod (tOp (rIx K) (tVar 0) (tC (.int 0))) (tC (.int 6))) (gName 1)) (tSeq (tIfS (tTest (tOp zLt (tVar 1) (tC (.int 3)))) (tRet (tTup (tCons (tC (.str "near")) (tCons (tLst (tCons (tOp zSub (tOp zMod (tOp (rIx K) (tVar 0) (tC (.int 3))) (tC (.int 7))) (tC (.int 3))) (tCons (tOp (rIx K) (tVar 0) (tC (.int 4))) tNil))) tNil)))) tNext) (tSeq (tIfS (tTest (tOp zLt (tVar 1) (tC (.int 5)))) (tSeq (tAsg (tOp (rIx K) (tLst (tCons (tC (.int 1)) (tCons (tC (.int 1)) (tCons (tC (.int 1)) (tCons (tC (.int 5000)) tNil))))) (tOp zMod (tOp (rIx K) (tVar 0) (tC (.int 7))) (tC (.int 4)))) (gName 2)) (tRet (tTup (tCons (tC (.str "gaps")) (tCons (tLst (tCons (tOp zSub (tOp zMod (tOp (rIx K) (tVar 0) (tC (.int 3))) (tC (.int 5))) (tC (.int 4))) (tCons (tCall (spO K R_lworths) [] E0 (tCons (tSl (rSlL K) (tVar 0) (tPart (tC (.int 8))) (tPart (tOp zPlus (tC (.int 10)) (tOp (rIx K) (tVar 0) (tC (.int 5)))))) (tCons (tVar 2) tNil))) tNil))) tNil))))) tNext) (tRet (tTup (tCons (tC (.str "ahead")) (tCons (tLst (tCons (tOp zSub (tOp zMod (tOp (rIx K) (tVar 0) (tC (.int 3))) (tC (.int 7))) (tC (.int 2))) tNil)) tNil)))))))
def N__law_part : List Str := [("_law_cell" : Str), ("_law_many" : Str), ("_law_bottom" : Str), ("_law_top" : Str), ("_law_bounds" : Str), ("_law_digits" : Str), ("_law_where" : Str), ("_law_word" : Str), ("_law_numbers_here" : Str), ("_law_by" : Str), ("_law_some" : Str)]
def t__law_part (K : PySem.W.Frag) : TS := (tSeq (tAsg (tOp zPlus (tOp zPlus (tLst (tCons (tC (.int 30)) (tCons (tVar 1) (tCons (tCB zMax2 (tCons (tC (.int 1)) (tCons (tOp zSub (tVar 1) (tC (.int 1))) tNil))) (tCons (tOp zPlus (tOp zSub (tVar 3) (tVar 2)) (tC (.int 5))) (tCons (tC (.int 6)) (tCons (tC (.int 8)) (tCons (tC (.int 8)) (tCons (tC (.int 5)) tNil))))))))) (tLst (tCons (tC (.int 19)) (tCons (tC (.int 13)) tNil)))) (tOp zTimes (tLst (tCons (tC (.int 4)) tNil)) (tC (.int 9)))) (gName 4)) (tSeq (tAsg (tCall (spO K R_numbers) [] E0 (tCons (tVar 0) (tCons (tVar 4) tNil))) (gName 5)) (tSeq (tAsg (tLst (tCons (tOp (rIx K) (tVar 5) (tC (.int 1))) tNil)) (gName 6)) (tSeq (tIfS (tAnd (tTest (tOp zGt (tVar 1) (tC (.int 1)))) (tTest (tOp (zEq K) (tOp zMod (tOp (rIx K) (tVar 5) (tC (.int 0))) (tC (.int 2))) (tC (.int 0))))) (tSeq (tDrop (tBM K "list" rAppend (tVar 6) (tCons (tOp zMod (tOp zPlus (tOp zPlus (tOp (rIx K) (tVar 5) (tC (.int 1))) (tC (.int 1))) (tOp (rIx K) (tVar 5) (tC (.int 2)))) (tVar 1)) tNil))) (tSeq (tAsg (tOp zDiv (tOp (rIx K) (tVar 5) (tC (.int 0))) (tC (.int 2))) (gSub (tVar 5) (tC (.int 0)) rSetL)) (tAsg (tCall (spD K R_double) [] E0 (tCons (tVar 5) tNil)) (gTup K 2 (gCons (gName 7) (gCons (gName 8) gNil)))))) (tSeq (tAsg (tOp zDiv (tOp (rIx K) (tVar 5) (tC (.int 0))) (tC (.int 2))) (gSub (tVar 5) (tC (.int 0)) rSetL)) (tAsg (tCall (spD K R_single) [] E0 (tCons (tVar 5) (tCons (tVar 2) tNil))) (gTup K 2 (gCons (gName 7) (gCons (gName 8) gNil)))))) (tSeq (tAsg (tOp zSub (tOp (rIx K) (tVar 5) (tC (.int 7))) (tC (.int 2))) (gName 9)) (tSeq (tAsg (tLst (tCons (tLst tNil) (tCons (tLst tNil) (tCons (tLst tNil) (tCons (tLst (tCons (tTup (tCons (tC (.str "times")) (tCons (tOp zPlus (tC (.int 1)) (tOp zTimes (tOp (rIx K) (tVar 5) (tC (.int 7))) (tOp (rIx K) (tVar 5) (tC (.int 7))))) tNil))) tNil)) (tCons (tLst (tCons (tTup (tCons (tC (.str "moved")) (tCons (tVar 9) tNil))) tNil)) (tCons (tLst (tCons (tTup (tCons (tC (.str "times")) (tCons (tC (.int 2)) tNil))) (tCons (tTup (tCons (tC (.str "moved")) (tCons (tVar 9) tNil))) tNil))) tNil))))))) (gName 10)) (tSeq (tAsg (tOp zPlus (tVar 10) (tLst (tCons (tLst (tCons (tTup (tCons (tC (.str "moved")) (tCons (tVar 9) tNil))) (tCons (tTup (tCons (tC (.str "moved")) (tCons (tC (.int 3)) tNil))) tNil))) (tCons (tLst (tCons (tTup (tCons (tC (.str "moved")) (tCons (tUn zNeg (tC (.int 1))) tNil))) (tCons (tTup (tCons (tC (.str "times")) (tCons (tC (.int 3)) tNil))) (tCons (tTup (tCons (tC (.str "times")) (tCons (tC (.int 2)) tNil))) tNil)))) tNil)))) (gName 10)) (tRet (tTup (tCons (tVar 7) (tCons (tVar 6) (tCons (tVar 8) (tCons (tOp (rIx K) (tVar 10) (tOp (rIx K) (tVar 5) (tC (.int 6)))) tNil)))))))))))))
def N__law_at : List Str := [("_law_part_here" : Str), ("_law_reads" : Str), ("_law_word" : Str), ("_law_where" : Str), ("_law_numbers_here" : Str), ("_law_wraps" : Str), ("_law_many" : Str), ("_law_wrap" : Str), ("_law_number" : Str), ("_law_far" : Str), ("_law_at_here" : Str)]
def t__law_at (K : PySem.W.Frag) : TS := (tSeq (tAsg (tVar 0) (gTup K 4 (gCons (gName 2) (gCons (gName 3) (gCons (gName 4) (gCons (gName 5) gNil)))))) (tSeq (tAsg (tC (.int 1)) (gName 6)) (tSeq (tFor (iList K (tVar 5)) (gTup K 2 (gCons (gName 7) (gCons (gName 8) gNil))) (tIfS (tTest (tOp (zEq K) (tVar 7) (tC (.str "times")))) (tAsg (tOp zTimes (tVar 6) (tVar 8)) (gName 6)) (tAsg (tOp zSub (tVar 1) (tVar 8)) (gName 1)))) (tSeq (tIfS (tTest (tOp (zEq K) (tVar 2) (tC (.str "slope")))) (tRet (tOp zTimes (tOp zTimes (tVar 6) (tOp (rIx K) (tVar 4) (tC (.int 0)))) (tVar 1))) tNext) (tSeq (tIfS (tTest (tOp (rIn K false) (tVar 2) (tTup (tCons (tC (.str "aim")) (tCons (tC (.str "near")) tNil))))) (tRet (tOp zTimes (tOp zTimes (tVar 6) (tOp (rIx K) (tVar 4) (tC (.int 1)))) (tCB zAbs (tCons (tOp zSub (tVar 1) (tOp (rIx K) (tVar 4) (tC (.int 0)))) tNil)))) tNext) (tSeq (tIfS (tTest (tOp (zEq K) (tVar 2) (tC (.str "square")))) (tSeq (tAsg (tOp zSub (tVar 1) (tOp (rIx K) (tVar 4) (tC (.int 0)))) (gName 9)) (tRet (tOp zTimes (tOp zTimes (tOp zTimes (tVar 6) (tOp (rIx K) (tVar 4) (tC (.int 1)))) (tVar 9)) (tVar 9)))) tNext) (tSeq (tIfS (tTest (tOp (rIn K false) (tVar 2) (tTup (tCons (tC (.str "row")) (tCons (tC (.str "gaps")) tNil))))) (tSeq (tAsg (tOp zSub (tVar 1) (tOp (rIx K) (tVar 4) (tC (.int 0)))) (gName 10)) (tRet (tIf (tTest (tChain zLe zLt (tC (.int 0)) (tVar 10) (tCB (zLen K) (tCons (tOp (rIx K) (tVar 4) (tC (.int 1))) tNil)))) (tOp zTimes (tVar 6) (tOp (rIx K) (tOp (rIx K) (tVar 4) (tC (.int 1))) (tVar 10))) (tC .non)))) tNext) (tSeq (tIfS (tTest (tOp (zEq K) (tVar 2) (tC (.str "wall")))) (tRet (tIf (tTest (tChain zLe zLe (tOp (rIx K) (tVar 4) (tC (.int 0))) (tVar 1) (tOp (rIx K) (tVar 4) (tC (.int 1))))) (tC (.int 0)) (tC .non))) tNext) (tRet (tIf (tTest (tOp zLe (tVar 1) (tOp (rIx K) (tVar 4) (tC (.int 0))))) (tC (.int 0)) (tC .non)))))))))))
def N__law_base : List Str := [("_law_part_here" : Str), ("_law_word" : Str), ("_law_where" : Str), ("_law_numbers_here" : Str), ("_law_wraps" : Str)]
def t__law_base (K : PySem.W.Frag) : TS := (tSeq (tAsg (tVar 0) (gTup K 4 (gCons (gName 1) (gCons (gName 2) (gCons (gName 3) (gCons (gName 4) gNil)))))) (tSeq (tIfS (tTest (tOp (zEq K) (tVar 1) (tC (.str "slope")))) (tRet (tMake (ga K "Slope") (spM K (R_Slope_init K)) [] E0 (tCons (tOp (rIx K) (tVar 2) (tC (.int 0))) (tCons (tOp (rIx K) (tVar 3) (tC (.int 0))) tNil)))) tNext) (tSeq (tIfS (tTest (tOp (zEq K) (tVar 1) (tC (.str "aim")))) (tRet (tMake (ga K "Aim") (spM K (R_Aim_init K)) [] E0 (tCons (tOp (rIx K) (tVar 2) (tC (.int 0))) (tCons (tOp (rIx K) (tVar 3) (tC (.int 0))) (tCons (tOp (rIx K) (tVar 3) (tC (.int 1))) tNil))))) tNext) (tSeq (tIfS (tTest (tOp (zEq K) (tVar 1) (tC (.str "square")))) (tRet (tMakeN (ga K "Square") 2 (List.length [("weight" : Str)]) (spM K (R_Aim_init K)) (gv_Square_2_weight) E0 (tCons (tOp (rIx K) (tVar 2) (tC (.int 0))) (tCons (tOp (rIx K) (tVar 3) (tC (.int 0))) tNil)) (tCons (tOp (rIx K) (tVar 3) (tC (.int 1))) tNil))) tNext) (tSeq (tIfS (tTest (tOp (zEq K) (tVar 1) (tC (.str "row")))) (tRet (tMake (ga K "Row") (spMb K (R_Row_init K)) [] E0 (tCons (tOp (rIx K) (tVar 2) (tC (.int 0))) (tCons (tOp (rIx K) (tVar 3) (tC (.int 0))) (tCons (tCB (zList K) (tCons (tOp (rIx K) (tVar 3) (tC (.int 1))) tNil)) tNil))))) tNext) (tSeq (tIfS (tTest (tOp (zEq K) (tVar 1) (tC (.str "wall")))) (tRet (tMake (ga K "Wall") (spM K (R_Wall_init K)) [] E0 (tCons (tOp (rIx K) (tVar 2) (tC (.int 0))) (tCons (tOp (rIx K) (tVar 3) (tC (.int 0))) (tCons (tOp (rIx K) (tVar 3) (tC (.int 1))) tNil))))) tNext) (tSeq (tIfS (tTest (tOp (zEq K) (tVar 1) (tC (.str "near")))) (tRet (tMake (ga K "Near") (spM K (R_Near_init K)) [] E0 (tCons (tOp (rIx K) (tVar 2) (tC (.int 0))) (tCons (tOp (rIx K) (tVar 2) (tC (.int 1))) (tCons (tOp (rIx K) (tVar 3) (tC (.int 0))) (tCons (tOp (rIx K) (tVar 3) (tC (.int 1))) tNil)))))) tNext) (tSeq (tIfS (tTest (tOp (zEq K) (tVar 1) (tC (.str "gaps")))) (tRet (tMake (ga K "Gaps") (spMb K (R_Gaps_init K)) [] E0 (tCons (tOp (rIx K) (tVar 2) (tC (.int 0))) (tCons (tOp (rIx K) (tVar 2) (tC (.int 1))) (tCons (tOp (rIx K) (tVar 3) (tC (.int 0))) (tCons (tCB (zList K) (tCons (tOp (rIx K) (tVar 3) (tC (.int 1))) tNil)) tNil)))))) tNext) (tRet (tMake (ga K "Ahead") (spM K (R_Ahead_init K)) [] E0 (tCons (tOp (rIx K) (tVar 2) (tC (.int 0))) (tCons (tOp (rIx K) (tVar 2) (tC (.int 1))) (tCons (tOp (rIx K) (tVar 3) (tC (.int 0))) tNil)))))))))))))
def N__law_made : List Str := [("_law_part_here" : Str), ("_law_found" : Str), ("_law_wrap" : Str), ("_law_number" : Str)]
def t__law_made (K : PySem.W.Frag) : TS := (tSeq (tAsg (tCall (spD K (R_base K)) [] E0 (tCons (tVar 0) tNil)) (gName 1)) (tSeq (tFor (iList K (tRevL K (tOp (rIx K) (tVar 0) (tC (.int 3))))) (gTup K 2 (gCons (gName 2) (gCons (gName 3) gNil))) (tAsg (tIf (tTest (tOp (zEq K) (tVar 2) (tC (.str "times")))) (tMake (ga K "Times") (spM K (R_Times_init K)) [] E0 (tCons (tVar 1) (tCons (tVar 3) tNil))) (tMake (ga K "Moved") (spM K (R_Moved_init K)) [] E0 (tCons (tVar 1) (tCons (tVar 3) tNil)))) (gName 1))) (tRet (tVar 1))))
def N__law_ends : List Str := [("_law_part_here" : Str), ("_law_some" : Str), ("_law_word" : Str), ("_law_under" : Str), ("_law_over" : Str), ("_law_reads" : Str)]
def t__law_ends (K : PySem.W.Frag) : TS := (tSeq (tAsg (tLc (iRng2 (tCons (tUn zNeg (tC (.int 60))) (tCons (tC (.int 61)) tNil))) (gName 5) (tTest (tOp zNotN (tCall (spD K R_at) [] E0 (tCons (tVar 0) (tCons (tVar 5) tNil))) (tC .non))) (tVar 5) [5]) (gName 1)) (tSeq (tAsg (tOp (rIx K) (tVar 0) (tC (.int 0))) (gName 2)) (tSeq (tAsg (tIf (tTest (tOp (rIn K false) (tVar 2) (tTup (tCons (tC (.str "row")) (tCons (tC (.str "gaps")) (tCons (tC (.str "wall")) tNil)))))) (tOp (rIx K) (tVar 1) (tC (.int 0))) (tC .non)) (gName 3)) (tSeq (tAsg (tIf (tTest (tOp (rIn K false) (tVar 2) (tTup (tCons (tC (.str "row")) (tCons (tC (.str "gaps")) (tCons (tC (.str "wall")) (tCons (tC (.str "ahead")) tNil))))))) (tOp (rIx K) (tVar 1) (tUn zNeg (tC (.int 1)))) (tC .non)) (gName 4)) (tRet (tTup (tCons (tVar 3) (tCons (tVar 4) tNil))))))))
def N__law_right : List Str := [("_law_part_here" : Str), ("_law_cell" : Str), ("_law_found" : Str), ("_law_reads" : Str), ("_law_due" : Str), ("_law_told" : Str)]
def t__law_right (K : PySem.W.Frag) : TS := (tSeq (tAsg (tCall (spD K (R_made K)) [] E0 (tCons (tVar 0) tNil)) (gName 2)) (tSeq (tIfS (tOr (tNot (tB (tCB (rIsi K) (tCons (tVar 2) (tCons (tC (.ref (ga K "Part"))) tNil))))) (tOr (tTest (tOp (zNe K) (tMethD "stands" (IsP K) (fun C => spO K (R_stands K C)) E0 (tVar 2) tNil) (tOp (rIx K) (tVar 0) (tC (.int 1))))) (tNot (tB (tCB (rIsi K) (tCons (tMethD "stands" (IsP K) (fun C => spO K (R_stands K C)) E0 (tVar 2) tNil) (tCons (tC (.ty "list")) tNil))))))) (tRet (tC (.bl false))) tNext) (tSeq (tFor (iList K (tOp zPlus (tLstRg (tRg2 (tUn zNeg (tC (.int 12))) (tC (.int 13)))) (tLst (tCons (tC (.int 30)) (tCons (tUn zNeg (tC (.int 30))) (tCons (tOp zPlus (tC (.int 1000)) (tOp zMod (tVar 1) (tC (.int 977)))) (tCons (tOp zSub (tUn zNeg (tOp zPow (tC (.int 10)) (tC (.int 9)))) (tOp zMod (tVar 1) (tOp zPow (tC (.int 10)) (tC (.int 6))))) tNil))))))) (gName 3) (tSeq (tAsg (tCall (spD K R_at) [] E0 (tCons (tVar 0) (tCons (tVar 3) tNil))) (gName 4)) (tSeq (tAsg (tMethD "worth_of" (IsP K) (fun C => spD K (R_worth K 8 C)) E0 (tVar 2) (tCons (tVar 3) tNil)) (gName 5)) (tIfS (tOr (tTest (tOp (zNe K) (tVar 5) (tVar 4))) (tOr (tB (tCB (rIsi K) (tCons (tVar 5) (tCons (tC (.ty "bool")) tNil)))) (tTest (tOp (zNe K) (tOp zIsN (tVar 5) (tC .non)) (tOp zIsN (tVar 4) (tC .non)))))) (tRet (tC (.bl false))) tNext)))) (tSeq (tAsg (tMethD "limits" (IsP K) (fun C => spD K (R_limits K 8 C)) E0 (tVar 2) tNil) (gName 5)) (tSeq (tIfS (tOr (tNot (tB (tCB (rIsi K) (tCons (tVar 5) (tCons (tC (.ty "tuple")) tNil))))) (tOr (tTest (tOp (zNe K) (tVar 5) (tCall (spD K R_ends) [] E0 (tCons (tVar 0) tNil)))) (tTest (tOp (zNe K) (tMethD "limits" (IsP K) (fun C => spD K (R_limits K 8 C)) E0 (tVar 2) tNil) (tVar 5))))) (tRet (tC (.bl false))) tNext) (tSeq (tDrop (tBM K "list" rAppend (tMethD "stands" (IsP K) (fun C => spO K (R_stands K C)) E0 (tVar 2) tNil) (tCons (tC (.int 0)) tNil))) (tRet (tAndV (tOp (zEq K) (tMethD "stands" (IsP K) (fun C => spO K (R_stands K C)) E0 (tVar 2) tNil) (tOp (rIx K) (tVar 0) (tC (.int 1)))) (tOp (zEq K) (tMethD "worth_of" (IsP K) (fun C => spD K (R_worth K 8 C)) E0 (tVar 2) (tCons (tC (.int 0)) tNil)) (tCall (spD K R_at) [] E0 (tCons (tVar 0) (tCons (tC (.int 0)) tNil))))))))))))
def N__law_classes : List Str := [("_law_cell" : Str), ("_law_worths_here" : Str), ("_law_row" : Str), ("_law_gaps" : Str), ("_law_near" : Str), ("_law_reads" : Str)]
def t__law_classes (K : PySem.W.Frag) : TS := (tSeq (tAsg (tLst (tCons (tC (.int 3)) (tCons (tC (.int 1)) (tCons (tOp zPlus (tC (.int 1)) (tOp zMod (tVar 0) (tC (.int 9)))) tNil)))) (gName 1)) (tSeq (tAsg (tMake (ga K "Row") (spMb K (R_Row_init K)) [] E0 (tCons (tC (.int 1)) (tCons (tUn zNeg (tC (.int 1))) (tCons (tVar 1) tNil)))) (gName 2)) (tSeq (tAsg (tMake (ga K "Gaps") (spMb K (R_Gaps_init K)) [] E0 (tCons (tC (.int 1)) (tCons (tC (.int 0)) (tCons (tUn zNeg (tC (.int 1))) (tCons (tVar 1) tNil))))) (gName 3)) (tSeq (tDrop (tBM0 K "list" rClear (tVar 1))) (tSeq (tAsg (tMake (ga K "Near") (spM K (R_Near_init K)) [.int 0, .int 1] E0 (tCons (tC (.int 0)) (tCons (tC (.int 1)) tNil))) (gName 4)) (tSeq (tIfS (tOr (tNot (tB (tCB (rIsi K) (tCons (tVar 4) (tCons (tC (.ref (ga K "Aim"))) tNil))))) (tOr (tNot (tB (tCB (rIsi K) (tCons (tVar 3) (tCons (tC (.ref (ga K "Row"))) tNil))))) (tNot (tB (tCB (rIsi K) (tCons (tMake (ga K "Ahead") (spM K (R_Ahead_init K)) [] E0 (tCons (tC (.int 0)) (tCons (tC (.int 1)) (tCons (tC (.int 2)) tNil)))) (tCons (tC (.ref (ga K "Part"))) tNil))))))) (tRet (tC (.bl false))) tNext) (tSeq (tIfS (tOr (tTest (tOp (zNe K) (tLc (iTup K (tTup (tCons (tUn zNeg (tC (.int 2))) (tCons (tC (.int 0)) (tCons (tC (.int 3)) tNil))))) (gName 5) tYes (tMethD "worth_of" (IsP K) (fun C => spD K (R_worth K 8 C)) E0 (tVar 4) (tCons (tVar 5) tNil)) [5]) (tLst (tCons (tC (.int 2)) (tCons (tC (.int 0)) (tCons (tC (.int 3)) tNil)))))) (tTest (tOp (zNe K) (tMethD "worth_of" (IsP K) (fun C => spD K (R_worth K 8 C)) E0 (tMakeN (ga K "Near") 2 (List.length [("weight" : Str)]) (spM K (R_Near_init K)) (gv_Near_2_weight) E0 (tCons (tC (.int 1)) (tCons (tC (.int 0)) tNil)) (tCons (tC (.int 4)) tNil)) (tCons (tUn zNeg (tC (.int 1))) tNil)) (tC (.int 4))))) (tRet (tC (.bl false))) tNext) (tSeq (tIfS (tOr (tTest (tOp (zNe K) (tMethD "worth_of" (IsP K) (fun C => spD K (R_worth K 8 C)) E0 (tMake (ga K "Aim") (spM K (R_Aim_init K)) [.int 1] E0 (tCons (tC (.int 2)) (tCons (tC (.int 5)) tNil))) (tCons (tOp zMod (tVar 0) (tC (.int 50))) tNil)) (tCB zAbs (tCons (tOp zSub (tOp zMod (tVar 0) (tC (.int 50))) (tC (.int 5))) tNil)))) (tTest (tOp (zNe K) (tMethD "worth_of" (IsP K) (fun C => spD K (R_worth K 8 C)) E0 (tMake (ga K "Square") (spM K (R_Aim_init K)) [.int 1] E0 (tCons (tC (.int 2)) (tCons (tC (.int 5)) tNil))) (tCons (tOp zMod (tVar 0) (tC (.int 50))) tNil)) (tOp zPow (tOp zSub (tOp zMod (tVar 0) (tC (.int 50))) (tC (.int 5))) (tC (.int 2)))))) (tRet (tC (.bl false))) tNext) (tRet (tOp (zEq K) (tLst (tCons (tMethD "worth_of" (IsP K) (fun C => spD K (R_worth K 8 C)) E0 (tVar 2) (tCons (tC (.int 1)) tNil)) (tCons (tMethD "worth_of" (IsP K) (fun C => spD K (R_worth K 8 C)) E0 (tVar 3) (tCons (tC (.int 1)) tNil)) (tCons (tMethD "worth_of" (IsP K) (fun C => spD K (R_worth K 8 C)) E0 (tVar 3) (tCons (tC (.int 2)) tNil)) tNil)))) (tLst (tCons (tOp zPlus (tC (.int 1)) (tOp zMod (tVar 0) (tC (.int 9)))) (tCons (tOp zPlus (tC (.int 1)) (tOp zMod (tVar 0) (tC (.int 9)))) (tCons (tC .non) tNil))))))))))))))
def N_law : List Str := [("_law_script" : Str), ("_law_k" : Str), ("_law_cell" : Str)]
def t_law (K : PySem.W.Frag) : TS := (tSeq (tFor (iRng1 (tCons (tOp zPlus (tC (.int 1)) (tOp zMod (tCall (spD K R_cell) [] E0 (tCons (tVar 0) (tCons (tC (.int 1)) tNil))) (tC (.int 8)))) tNil)) (gName 1) (tSeq (tAsg (tCall (spD K R_cell) [] E0 (tCons (tVar 0) (tCons (tOp zPlus (tC (.int 8)) (tVar 1)) tNil))) (gName 2)) (tIfS (tNot (tB (tCall (spD K (R_right K)) [] E0 (tCons (tCall (spD K R_part) [] E0 (tCons (tVar 2) (tCons (tC (.int 5)) (tCons (tUn zNeg (tC (.int 2))) (tCons (tC (.int 6)) tNil))))) (tCons (tVar 2) tNil))))) (tRet (tC (.bl false))) tNext))) (tRet (tCall (spD K R_classes) [] E0 (tCons (tCall (spD K R_cell) [] E0 (tCons (tVar 0) (tCons (tC (.int 2)) tNil))) tNil))))


local macro_rules | `(tactic| walk_at "sd") => `(tactic| first
  | done
  | rfl
  | assumption
  | decide
  | exact Nat.le_of_ble_eq_true rfl
  | (simp only [inR] at *; omega)
  | omega
  | skip)
local macro_rules | `(tactic| walk_at "mul") => `(tactic| first
  | exact Or.inl ⟨by decide, by decide⟩
  | exact Or.inr ⟨by decide, by decide⟩
  | exact Or.inl ⟨by omega, by omega⟩
  | exact Or.inr ⟨by omega, by omega⟩
  | (simp only [inR] at *; exact Or.inl ⟨by omega, by omega⟩)
  | (simp only [inR] at *; exact Or.inr ⟨by omega, by omega⟩)
  | skip)
local macro_rules | `(tactic| walk_at "ok") => `(tactic| first
  | with_reducible assumption
  | with_reducible exact ok_plus
  | with_reducible exact ok_sub
  | ((with_reducible apply ok_times); walk_at "mul")
  | with_reducible exact ok_lt
  | with_reducible exact ok_le
  | with_reducible exact ok_gt
  | with_reducible exact ok_ge
  | with_reducible exact ok_neg
  | ((with_reducible apply ok_mod); walk_at "sd")
  | ((with_reducible apply ok_div); first | exact ⟨by decide, by decide⟩ | exact ⟨by omega, by omega⟩ | skip)
  | ((with_reducible apply ok_pow); first | exact ⟨by decide, by decide, by decide⟩ | exact ⟨by omega, by omega, by omega⟩ | skip)
  | with_reducible exact ok_eqII
  | with_reducible exact ok_neII
  | with_reducible exact ok_eqS
  | with_reducible exact ok_neS
  | with_reducible exact ok_isN
  | with_reducible exact ok_notN
  | ((with_reducible apply ok_ix1); first | rfl | skip)
  | ((with_reducible apply ok_ix2); first | rfl | skip)
  | ((with_reducible apply ok_ix3); first | rfl | skip)
  | with_reducible exact ok_lenL
  | with_reducible exact ok_lenT
  | with_reducible exact ok_lenC
  | with_reducible exact ok_abs
  | with_reducible exact ok_max2
  | with_reducible exact ok_min2
  | with_reducible exact ok_tupleL
  | with_reducible exact ok_tupleT
  | with_reducible exact ok_sum
  | ((with_reducible apply ok_inT); all_goals first | rfl | skip))
local macro_rules | `(tactic| walk_at "okO") => `(tactic| first
  | ((with_reducible apply ok_plusL); walk_at "sd")
  | ((with_reducible apply ok_timesL); all_goals walk_at "sd")
  | with_reducible exact ok_listL
  | with_reducible exact ok_listT)
local macro_rules | `(tactic| walk_at "go") => `(tactic| first
  | walk_at "ev"
  | walk_at "ok"
  | walk_at "okO"
  | (intro _; walk_at "go"))
local macro_rules | `(tactic| walk_at "ev") => `(tactic| first
  | with_reducible exact evd_int
  | with_reducible exact evd_str
  | with_reducible exact evd_non
  | with_reducible exact evd_bl
  | with_reducible exact evd_ty
  | with_reducible exact evd_ref
  | ((with_reducible apply evd_var); rfl)
  | with_reducible exact eva_nil
  | ((with_reducible apply eva_cons); all_goals walk_at "ev")
  | ((with_reducible apply evd_un); all_goals walk_at "go")
  | ((with_reducible apply evd_op); all_goals walk_at "go")
  | ((with_reducible apply evd_ixO); all_goals first | rfl | walk_at "ev" | skip)
  | ((with_reducible apply evo_op); all_goals walk_at "go")
  | ((with_reducible apply EvO.evd; with_reducible apply evo_op); all_goals walk_at "go")
  | ((with_reducible apply evt_test); walk_at "ev")
  | ((with_reducible apply evt_B); walk_at "ev")
  | ((with_reducible apply evt_not); walk_at "ev")
  | ((with_reducible apply evd_chain); all_goals walk_at "go")
  | ((with_reducible apply evo_lst); all_goals first | walk_at "ev" | exact Nat.le_of_ble_eq_true rfl)
  | ((with_reducible apply evd_lst); all_goals first | walk_at "ev" | exact Nat.le_of_ble_eq_true rfl)
  | ((with_reducible apply evd_tup); all_goals first | walk_at "ev" | exact Nat.le_of_ble_eq_true rfl)
  | ((with_reducible apply evd_cb); all_goals walk_at "go")
  | ((with_reducible apply evo_cb); all_goals walk_at "go")
  | ((with_reducible apply EvO.evd; with_reducible apply evo_cb); all_goals walk_at "go")
  | with_reducible exact evn_none
  | ((with_reducible apply evn_some); walk_at "ev")
  | ((with_reducible apply evo_slO); all_goals first | rfl | walk_at "ev")
  | ((with_reducible apply evo_sl); all_goals walk_at "ev")
  | ((with_reducible apply EvO.evd; with_reducible apply evo_sl); all_goals walk_at "ev")
  | ((with_reducible apply evo_rev); walk_at "ev")
  | ((with_reducible apply evd_call0); all_goals first | walk_at "ev" | walk_at "rr" | skip)
  | ((with_reducible apply evo_call0); all_goals first | walk_at "ev" | walk_at "rr" | skip)
  | ((with_reducible apply EvO.evd; with_reducible apply evo_call0); all_goals first | walk_at "ev" | walk_at "rr" | skip)
  | with_reducible exact evt_yes
  | with_reducible assumption)

section
variable {K : PySem.W.Frag} {ds es : List D} {d : D}
theorem r_asked {i lo hi : Int} (h : inR lo hi i) : R_asked [.int i, .int lo, .int hi] (.int i) := ⟨i, lo, hi, rfl, h, rfl⟩
theorem r_isnum {i lo hi : Int} : R_isnum [.int i, .int lo, .int hi] (.bl (decide (lo ≤ i) && decide (i ≤ hi))) := ⟨.int i, lo, hi, rfl, .inl ⟨i, rfl, rfl⟩⟩
end
local macro_rules | `(tactic| walk_at "rr") => `(tactic| first
  | ((with_reducible apply r_asked); walk_at "sd")
  | with_reducible exact r_isnum)
section
variable {K : PySem.W.Frag} {ds es : List D} {d : D}
theorem kit_b {a b : String} {r : Bool} (h : kitB a b = some r) : PySem.W.kitOne K (.type a) (.type b) = some r := kit_ty h
theorem e_is_number (h : R_isnum ds d) : EvS K (t_is_number K) (startR N_is_number ds) (.rt d) := by
  obtain ⟨x, lo, hi, rfl, h⟩ := h
  show EvS K _ [.p x, .p (.int lo), .p (.int hi)] _
  unfold t_is_number
  rcases h with ⟨i, rfl, rfl⟩ | ⟨rfl, h⟩
  · have h1 : EvD K (tChain zLe zLe (tVar 1) (tVar 0) (tVar 2)) [.p (.int i), .p (.int lo), .p (.int hi)] (.bl (decide (lo ≤ i) && decide (i ≤ hi))) := by walk_at "ev"
    exact evs_ret (evd_is (evd_andV (a := true) (evd_cb (by walk_at "ev") (ok_isi (.int i) (.ty "int") (kit_b (by decide +kernel)))) (fun _ => evd_andV (a := true) (evd_is (evd_notV (evd_cb (by walk_at "ev") (ok_isi (.int i) (.ty "bool") (kit_b (r := false) (by decide +kernel))))) rfl) (fun _ => h1))) rfl)
  · rcases h with rfl | ⟨b, rfl⟩ | ⟨s, rfl⟩ | ⟨es, rfl⟩ | ⟨es, rfl⟩
    · exact evs_ret (evd_is (evd_andV (a := false) (b := false) (evd_cb (by walk_at "ev") (ok_isi .non (.ty "int") (kit_b (by decide +kernel)))) (fun z => nomatch z)) rfl)
    · exact evs_ret (evd_is (evd_andV (a := true) (b := false) (evd_cb (by walk_at "ev") (ok_isi (.bl b) (.ty "int") (kit_b (by decide +kernel)))) (fun _ => evd_is (evd_andV (a := false) (b := false) (evd_is (evd_notV (evd_cb (by walk_at "ev") (ok_isi (.bl b) (.ty "bool") (kit_b (r := true) (by decide +kernel))))) rfl) (fun z => nomatch z)) rfl)) rfl)
    · exact evs_ret (evd_is (evd_andV (a := false) (b := false) (evd_cb (by walk_at "ev") (ok_isi (.str s) (.ty "int") (kit_b (by decide +kernel)))) (fun z => nomatch z)) rfl)
    · exact evs_ret (evd_is (evd_andV (a := false) (b := false) (evd_cb (by walk_at "ev") (ok_isi (.lst es) (.ty "int") (kit_b (by decide +kernel)))) (fun z => nomatch z)) rfl)
    · exact evs_ret (evd_is (evd_andV (a := false) (b := false) (evd_cb (by walk_at "ev") (ok_isi (.tup es) (.ty "int") (kit_b (by decide +kernel)))) (fun z => nomatch z)) rfl)
theorem e_asked (h : R_asked ds d) : EvS K (t_asked K) (startR N_asked ds) (.rt d) := by
  obtain ⟨i, lo, hi, rfl, h, rfl⟩ := h
  show EvS K _ [.p (.int i), .p (.int lo), .p (.int hi)] _
  unfold t_asked
  refine evs_seq (evs_if (b := false) (evt_is (by walk_at "ev") ?_) (fun z => nomatch z) (fun _ => evs_next)) (evs_ret (by walk_at "ev"))
  obtain ⟨h1, h2⟩ := h
  rw [decide_eq_true h1, decide_eq_true h2]
  rfl
theorem forR_keep {g : TG} {tb : TS} {ρ : Rho} {j : Nat} (h : ∀ d ∈ ds, EvS K tb (ρ.set j (.p d)) (.nx ρ)) : ForR K (gName j) tb ρ ds (.nx ρ) := by
  induction ds with
  | nil => exact .nil
  | cons d ds ih => exact .next evg_name (h d List.mem_cons_self) (ih fun e he => h e (List.mem_cons_of_mem _ he))
theorem forR_ind {g : TG} {tb : TS} (ρs : Nat → Rho) (h : ∀ (i : Nat) (d : D), ds[i]? = some d → ∃ ρ1, EvG K g d (ρs i) ρ1 ∧ EvS K tb ρ1 (.nx (ρs (i + 1)))) : ForR K g tb (ρs 0) ds (.nx (ρs ds.length)) := by
  induction ds generalizing ρs with
  | nil => exact .nil
  | cons d ds ih =>
    obtain ⟨ρ1, h1, h2⟩ := h 0 d rfl
    exact .next h1 h2 (ih (fun i => ρs (i + 1)) fun i e he => h (i + 1) e he)
/-- slot j is forgotten -/
theorem leR_set {ρ : Rho} {j : Nat} {s : Slot} (h : ρ[j]? = some .no) : leR ρ (ρ.set j s) := ⟨by simp, fun i t ht => by
  rw [getElem?_set_eq]
  by_cases e : j = i
  · subst e
    rw [h] at ht
    cases ht
    exact .inl rfl
  · rw [if_neg e]
    exact .inr ht⟩
theorem evs_forget {ts : TS} {ρ ρ1 : Rho} {j : Nat} {s : Slot} (h : EvS K ts ρ1 (.nx (ρ.set j s))) (hj : ρ[j]? = some .no) : EvS K ts ρ1 (.nx ρ) := evs_weak h (leR_set hj)
theorem lcR_map {α : Type} {te : TE} {ρ : Rho} {j : Nat} {φ ψ : α → D} : ∀ {xs : List α}, (∀ x ∈ xs, EvD K te (ρ.set j (.p (φ x))) (ψ x)) → LcR K (gName j) tYes te ρ (xs.map φ) (xs.map ψ)
  | [], _ => .nil
  | x :: xs, h => .yes evg_name evt_yes (h x List.mem_cons_self) (lcR_map fun y hy => h y (List.mem_cons_of_mem _ hy))
theorem atI_ints {ws : List Int} {i : Int} (h0 : 0 ≤ i) (h1 : i < (ws.length : Int)) : atI (ws.map D.int) i = some (.int (ws.getD i.toNat 0)) := by
  have e : i = ((i.toNat : Nat) : Int) := by omega
  have hl : i.toNat < ws.length := by omega
  unfold atI ixN
  rw [List.length_map, if_pos h0, if_pos h1]
  show (ws.map D.int)[i.toNat]? = _
  rw [List.getElem?_map, List.getElem?_eq_getElem hl, List.getD_eq_getElem?_getD, List.getElem?_eq_getElem hl]
  rfl
theorem rising_at : ∀ {ws : List Int} {k : Nat}, rising ws → k + 2 < ws.length → 2 * ws.getD (k + 1) 0 ≤ ws.getD k 0 + ws.getD (k + 2) 0
  | [], _, _, h => by simp at h
  | [_], _, _, h => by simp at h
  | [_, _], _, _, h => by simp at h; omega
  | a :: b :: c :: r, 0, hr, _ => hr.1
  | a :: b :: c :: r, k + 1, hr, h => rising_at (ws := b :: c :: r) (k := k) hr.2 (by simpa using h)
theorem size_le {n : Nat} (h : n ≤ 100000) : n ≤ sizeLine := Nat.le_trans h (by decide)
theorem size_lt {n : Nat} (h : n < 100000) : n < sizeLine := Nat.lt_of_lt_of_le h (by decide)
theorem mem_rgD {a b : Int} (h : d ∈ rgD a b) : ∃ i : Int, d = .int i ∧ a ≤ i ∧ i < b := by
  rw [rgD_eq] at h
  obtain ⟨k, hk, rfl⟩ := List.mem_map.mp h
  rw [List.mem_range] at hk
  exact ⟨_, rfl, by omega, by omega⟩
theorem listAt_of {lw : Arg} (h : IsL lw es) {ρ : Rho} {i : Nat} (e : ρ[i]? = some (slotOf lw)) : ListAt ρ i es := by
  rcases h with rfl | rfl
  · exact .inl e
  · exact .inr (.inr e)
theorem evi_at {lw : Arg} (h : IsL lw es) {ρ : Rho} {i : Nat} (e : ρ[i]? = some (slotOf lw)) : EvI K (iList K (tVar i)) ρ es := by
  rcases h with rfl | rfl
  · exact evi_list (evd_var e)
  · exact evi_listB e
theorem eab_at {lw : Arg} (h : IsL lw es) {ρ : Rho} {i : Nat} {tr : TA} {as : List Arg} (e : ρ[i]? = some (slotOf lw)) (hr : EvAb K tr ρ as) : EvAb K (tCons (tVar i) tr) ρ (lw :: as) := by
  rcases h with rfl | rfl
  · exact eab_p (evd_var e) hr
  · exact eab_v (.inr e) hr
theorem e_asked_worths {as : List Arg} (h : R_worths as es) : EvS K (t_asked_worths K) (startA N_asked_worths as) (.rtO es) := by
  obtain ⟨lw, ws, rfl, hlw, ⟨h1, h2, h3, h4⟩, rfl⟩ := h
  show EvS K _ [slotOf lw, .no, .no] _
  unfold t_asked_worths
  have hl : ((ws.map D.int).length : Int) = (ws.length : Int) := by rw [List.length_map]
  have L : ∀ x y : Slot, ListAt [slotOf lw, x, y] 0 (ws.map D.int) := fun x y => listAt_of hlw rfl
  have len : ∀ x y : Slot, EvD K (tCB (zLen K) (tCons (tVar 0) tNil)) [slotOf lw, x, y] (.int ws.length) := fun x y => hl ▸ evd_lenV (L x y)
  refine evs_seq (ρ1 := [slotOf lw, .no, .no]) (evs_if (b := false) (evt_is (evt_or (a := false) (b := false) (evt_is (evt_not (b := true) (evt_B (evd_isiV (L _ _) (kit_b (by decide +kernel))))) rfl) (fun _ => evt_is (evt_not (evt_test (evd_chain (by walk_at "ev") (len _ _) (by walk_at "ok") (fun _ => by walk_at "ev") (fun _ => by walk_at "ok")))) ?_)) rfl) (fun z => nomatch z) (fun _ => evs_next)) ?_
  · rw [decide_eq_true (show (1 : Int) ≤ ws.length by omega), decide_eq_true (show (ws.length : Int) ≤ 40 by omega)]
    rfl
  refine evs_seq (ρ1 := [slotOf lw, .no, .no]) (evs_for (evi_at hlw rfl) (forR_keep (g := gName 1) fun d hd => ?_)) ?_
  · obtain ⟨x, hx, rfl⟩ := List.mem_map.mp hd
    refine evs_forget (j := 1) (s := .p (.int x)) (evs_drop (d := .int x) ?_) rfl
    show EvD K _ [slotOf lw, .p (.int x), .no] _
    exact evd_call0 (by walk_at "ev") (r_asked (h3 x hx))
  refine evs_seq (ρ1 := [slotOf lw, .no, .no]) (evs_for (evi_rng2 (m := 1) (n := (ws.length : Int) - 1) (eva_cons (by walk_at "ev") (eva_cons (evd_op (len _ _) (by walk_at "ev") ok_sub) eva_nil)) ⟨by decide, by decide, by omega, by omega⟩) (forR_keep (g := gName 2) fun d hd => ?_)) (evs_retX (evo_listV (L _ _)))
  obtain ⟨i, rfl, hi1, hi2⟩ := mem_rgD hd
  refine evs_forget (j := 2) (s := .p (.int i)) ?_ rfl
  show EvS K _ [slotOf lw, .no, .p (.int i)] (.nx [slotOf lw, .no, .p (.int i)])
  refine evs_if (b := false) (evt_test (evd_is (evd_op (evd_op (by walk_at "ev") (evd_ixV (L _ _) (by walk_at "ev") (atI_ints (by omega) (by omega))) (ok_times (Or.inl ⟨by decide, by decide⟩))) (evd_op (evd_ixV (L _ _) (by walk_at "ev") (atI_ints (by omega) (by omega))) (evd_ixV (L _ _) (by walk_at "ev") (atI_ints (by omega) (by omega))) ok_plus) ok_gt) ?_)) (fun z => nomatch z) (fun _ => evs_next)
  have q := rising_at (k := (i - 1).toNat) h4 (by omega)
  have e1 : (i - 1).toNat + 1 = i.toNat := by omega
  have e2 : (i - 1).toNat + 2 = (i + 1).toNat := by omega
  rw [e1, e2] at q
  rw [decide_eq_false (by omega)]
theorem e_asked_pair (h : R_pair ds d) : EvS K (t_asked_pair K) (startR N_asked_pair ds) (.rt d) := by
  obtain ⟨a, b, rfl, h1, h2, h3, rfl⟩ := h
  show EvS K _ [.p (.int a), .p (.int b), .no] _
  unfold t_asked_pair
  refine evs_seq (evs_set (d := .lst [.int a, .int b]) (by walk_at "ev") rfl) (evs_seq (evs_if (b := false) (evt_is (by walk_at "ev") (beq_eq_false_iff_ne.mpr h3)) (fun z => nomatch z) (fun _ => evs_next)) (evs_ret (by walk_at "ev")))
/-! ### fields -/
theorem putN1 {f : Str} {x : D} : putN f x [] [] = ([f], [x]) := rfl
theorem putN2 {a f : Str} {x y : D} (h : a ≠ f) : putN f y [a] [x] = ([a, f], [x, y]) := by
  unfold putN
  rw [if_neg h]
  rfl
theorem putN3 {a b f : Str} {x y z : D} (h : a ≠ f) (h2 : b ≠ f) : putN f z [a, b] [x, y] = ([a, b, f], [x, y, z]) := by
  unfold putN
  rw [if_neg h, putN2 h2]
theorem putN4 {a b c f : Str} {x y z u : D} (h : a ≠ f) (h2 : b ≠ f) (h3 : c ≠ f) : putN f u [a, b, c] [x, y, z] = ([a, b, c, f], [x, y, z, u]) := by
  unfold putN
  rw [if_neg h, putN3 h2 h3]
theorem putNs {f : Str} {x y : D} {ns : List Str} {ds : List D} : putN f y (f :: ns) (x :: ds) = (f :: ns, y :: ds) := by
  unfold putN
  rw [if_pos rfl]
theorem lk0 {f : Str} {ns : List Str} {x : D} {xs : List D} : ((f :: ns).zip (x :: xs)).lookup f = some x := by
  show (match f == f with | true => some x | false => _) = some x
  rw [beq_self_eq_true]
theorem lk1 {a f : Str} {ns : List Str} {x : D} {xs : List D} {r : Option D} (h : f ≠ a) (e : (ns.zip xs).lookup f = r) : ((a :: ns).zip (x :: xs)).lookup f = r := by
  show (match f == a with | true => some x | false => (ns.zip xs).lookup f) = r
  rw [beq_eq_false_iff_ne.mpr h]
  exact e
end
local macro_rules | `(tactic| walk_at "lk") => `(tactic| first
  | exact lk0
  | ((apply lk1); (first | decide +kernel | skip); walk_at "lk"))
section
variable {K : PySem.W.Frag} {ds es : List D} {d : D} {C x dx : Addr} {ns : List Str}
theorem PF.c (pf : PF K) (h : IsP K C) : Cls K C := by
  obtain ⟨y, hy, rfl⟩ := h
  exact pf.cls y hy
theorem PF.n (pf : PF K) (h : IsP K C) (f : Str) (hf : f ∈ partFields) : NoAttr K C f := by
  obtain ⟨y, hy, rfl⟩ := h
  exact pf.na y hy f hf
theorem e_Part_init (pf : PF K) (h : R_Part_init K C es ns ds) : ∃ ρ', EvS K (t_Part_init K) (startI N_Part_init x dx C es) (.nx (.i x dx C ns ds :: ρ')) := by
  obtain ⟨hC, ps, rfl, h1, h2, rfl, rfl⟩ := h
  refine ⟨[.p (intsD ps), .no], ?_⟩
  show EvS K _ [.i x dx C [] [], .p (.lst (ps.map .int)), .no] _
  unfold t_Part_init
  refine evs_fld (d := .lst (ps.map .int)) rfl (EvO.evd (evo_lc (evi_list (evd_var rfl)) wipes_name (lcR_map fun y hy => ?_) (size_le (by rw [List.length_map]; omega)))) (pf.c hC) (pf.n hC _ (by decide +kernel)) (by decide) putN1 rfl
  show EvD K _ [.i x dx C [] [], .p (.lst (ps.map .int)), .p (.int y)] (.int y)
  have q := h1 y hy
  walk_at "ev"
theorem r_part1 {a : Int} (hC : IsP K C) (h : inR 0 7 a) : R_Part_init K C [.lst [.int a]] ["where"] [intsD [a]] := ⟨hC, [a], rfl, fun p hp => by rw [List.mem_singleton.mp hp]; exact h, Nat.le_of_ble_eq_true rfl, rfl, rfl⟩
theorem e_Slope_init (pf : PF K) (h : R_Slope_init K C es ns ds) : ∃ ρ', EvS K (t_Slope_init K) (startI N_Slope_init x dx C es) (.nx (.i x dx C ns ds :: ρ')) := by
  obtain ⟨hC, a, w, rfl, h1, h2, rfl, rfl⟩ := h
  refine ⟨[.p (.int a), .p (.int w)], ?_⟩
  show EvS K _ [.i x dx C [] [], .p (.int a), .p (.int w)] _
  unfold t_Slope_init
  refine evs_seq (evs_init (des := []) rfl (es := [.lst [.int a]]) (by walk_at "ev") (fun _ => .nil) (r_part1 hC h1) rfl) (evs_fld (d := .int w) rfl (by walk_at "ev") (pf.c hC) (pf.n hC _ (by decide +kernel)) (by decide) (putN2 (by decide +kernel)) rfl)
theorem e_Aim_init (pf : PF K) (h : R_Aim_init K C es ns ds) : ∃ ρ', EvS K (t_Aim_init K) (startI N_Aim_init x dx C es) (.nx (.i x dx C ns ds :: ρ')) := by
  obtain ⟨hC, a, m, w, rfl, h1, h2, h3, rfl, rfl⟩ := h
  refine ⟨[.p (.int a), .p (.int m), .p (.int w)], ?_⟩
  show EvS K _ [.i x dx C [] [], .p (.int a), .p (.int m), .p (.int w)] _
  unfold t_Aim_init
  refine evs_seq (evs_init (des := []) rfl (es := [.lst [.int a]]) (by walk_at "ev") (fun _ => .nil) (r_part1 hC h1) rfl) (evs_seq (evs_fld (d := .int m) rfl (by walk_at "ev") (pf.c hC) (pf.n hC _ (by decide +kernel)) (by decide) (putN2 (by decide +kernel)) rfl) (evs_fld (d := .int w) rfl (by walk_at "ev") (pf.c hC) (pf.n hC _ (by decide +kernel)) (by decide) (putN3 (by decide +kernel) (by decide +kernel)) rfl))
theorem e_Row_init {as : List Arg} (pf : PF K) (h : R_Row_init K C as ns ds) : ∃ ρ', EvS K (t_Row_init K) (startIA N_Row_init x dx C as) (.nx (.i x dx C ns ds :: ρ')) := by
  obtain ⟨hC, a, f, lw, ws, rfl, hl, h1, h2, h3, rfl, rfl⟩ := h
  refine ⟨[.p (.int a), .p (.int f), slotOf lw], ?_⟩
  show EvS K _ [.i x dx C [] [], .p (.int a), .p (.int f), slotOf lw] _
  unfold t_Row_init
  refine evs_seq (evs_init (des := []) rfl (es := [.lst [.int a]]) (by walk_at "ev") (fun _ => .nil) (r_part1 hC h1) rfl) (evs_seq (evs_fld (d := .int f) rfl (by walk_at "ev") (pf.c hC) (pf.n hC _ (by decide +kernel)) (by decide) (putN2 (by decide +kernel)) rfl) (evs_fld (d := .lst (ws.map .int)) rfl (EvO.evd (evo_callB (eab_at hl rfl eab_nil) ⟨lw, ws, rfl, hl, h3, rfl⟩)) (pf.c hC) (pf.n hC _ (by decide +kernel)) (by decide) (putN3 (by decide +kernel) (by decide +kernel)) rfl))
theorem e_Wall_init (pf : PF K) (h : R_Wall_init K C es ns ds) : ∃ ρ', EvS K (t_Wall_init K) (startI N_Wall_init x dx C es) (.nx (.i x dx C ns ds :: ρ')) := by
  obtain ⟨hC, a, lo, hi, rfl, h1, h2, h3, rfl, rfl⟩ := h
  refine ⟨[.p (.int a), .p (.int lo), .p (.int hi)], ?_⟩
  show EvS K _ [.i x dx C [] [], .p (.int a), .p (.int lo), .p (.int hi)] _
  unfold t_Wall_init
  refine evs_seq (evs_init (des := []) rfl (es := [.lst [.int a]]) (by walk_at "ev") (fun _ => .nil) (r_part1 hC h1) rfl) (evs_seq (evs_fld (d := .int lo) rfl (by walk_at "ev") (pf.c hC) (pf.n hC _ (by decide +kernel)) (by decide) (putN2 (by decide +kernel)) rfl) (evs_fld (d := .int hi) rfl (evd_call0 (ds := [.int hi, .int lo, .int 100]) (eva_cons (by walk_at "ev") (eva_cons (evd_fldI rfl (pf.c hC) (pf.n hC _ (by decide +kernel)) (by walk_at "lk")) (by walk_at "ev"))) (r_asked h3)) (pf.c hC) (pf.n hC _ (by decide +kernel)) (by decide) (putN3 (by decide +kernel) (by decide +kernel)) rfl))
theorem e_Near_init (pf : PF K) (h : R_Near_init K C es ns ds) : ∃ ρ', EvS K (t_Near_init K) (startI N_Near_init x dx C es) (.nx (.i x dx C ns ds :: ρ')) := by
  obtain ⟨hC, a, b, m, w, rfl, h1, h2, h3, h4, h5, rfl, rfl⟩ := h
  refine ⟨[.p (.int a), .p (.int b), .p (.int m), .p (.int w), .p (intsD [a, b])], ?_⟩
  show EvS K _ [.i x dx C [] [], .p (.int a), .p (.int b), .p (.int m), .p (.int w), .no] _
  unfold t_Near_init
  refine evs_seq (evs_set (d := intsD [a, b]) (evd_call0 (by walk_at "ev") ⟨a, b, rfl, h1, h2, h3, rfl⟩) rfl) (evs_seq (evs_init (des := []) rfl (es := [.int a, .int m, .int w]) (by walk_at "ev") (fun _ => .nil) ⟨hC, a, m, w, rfl, h1, h4, h5, rfl, rfl⟩ rfl) (evs_fld (d := intsD [a, b]) rfl (by walk_at "ev") (pf.c hC) (pf.n hC _ (by decide +kernel)) (by decide) putNs rfl))
theorem e_Gaps_init {as : List Arg} (pf : PF K) (h : R_Gaps_init K C as ns ds) : ∃ ρ', EvS K (t_Gaps_init K) (startIA N_Gaps_init x dx C as) (.nx (.i x dx C ns ds :: ρ')) := by
  obtain ⟨hC, a, b, f, lw, ws, rfl, hl, h1, h2, h3, h4, h5, rfl, rfl⟩ := h
  refine ⟨[.p (.int a), .p (.int b), .p (.int f), slotOf lw, .p (intsD [a, b])], ?_⟩
  show EvS K _ [.i x dx C [] [], .p (.int a), .p (.int b), .p (.int f), slotOf lw, .no] _
  unfold t_Gaps_init
  refine evs_seq (evs_set (d := intsD [a, b]) (evd_call0 (by walk_at "ev") ⟨a, b, rfl, h1, h2, h3, rfl⟩) rfl) (evs_seq (evs_initB (bs := []) rfl (as := [.p (.int a), .p (.int f), lw]) (eab_p (by walk_at "ev") (eab_p (by walk_at "ev") (eab_at hl rfl eab_nil))) (fun _ _ => .nil) ⟨hC, a, f, lw, ws, rfl, hl, h1, h4, h5, rfl, rfl⟩ rfl) (evs_fld (d := intsD [a, b]) rfl (by walk_at "ev") (pf.c hC) (pf.n hC _ (by decide +kernel)) (by decide) putNs rfl))
theorem e_Ahead_init (pf : PF K) (h : R_Ahead_init K C es ns ds) : ∃ ρ', EvS K (t_Ahead_init K) (startI N_Ahead_init x dx C es) (.nx (.i x dx C ns ds :: ρ')) := by
  obtain ⟨hC, a, b, g, rfl, h1, h2, h3, h4, rfl, rfl⟩ := h
  refine ⟨[.p (.int a), .p (.int b), .p (.int g)], ?_⟩
  show EvS K _ [.i x dx C [] [], .p (.int a), .p (.int b), .p (.int g)] _
  unfold t_Ahead_init
  have hp : ∀ p ∈ [a, b], inR 0 7 p := fun p hp => by
    rcases List.mem_cons.mp hp with rfl | hp
    · exact h1
    · rw [List.mem_singleton.mp hp]; exact h2
  refine evs_seq (evs_init (des := []) rfl (es := [intsD [a, b]]) (eva_cons (evd_call0 (by walk_at "ev") ⟨a, b, rfl, h1, h2, h3, rfl⟩) eva_nil) (fun _ => .nil) ⟨hC, [a, b], rfl, hp, Nat.le_of_ble_eq_true rfl, rfl, rfl⟩ rfl) (evs_fld (d := .int g) rfl (by walk_at "ev") (pf.c hC) (pf.n hC _ (by decide +kernel)) (by decide) (putN2 (by decide +kernel)) rfl)
/-! ### parts: classes, fields -/
theorem Bs.cls_mem : ∀ b : Bs, b.cls ∈ partNames
  | .slope _ => (by decide +kernel : ("Slope" : Str) ∈ partNames)
  | .aim _ _ => (by decide +kernel : ("Aim" : Str) ∈ partNames)
  | .square _ _ => (by decide +kernel : ("Square" : Str) ∈ partNames)
  | .row _ _ => (by decide +kernel : ("Row" : Str) ∈ partNames)
  | .wall _ _ => (by decide +kernel : ("Wall" : Str) ∈ partNames)
  | .near _ _ => (by decide +kernel : ("Near" : Str) ∈ partNames)
  | .gaps _ _ => (by decide +kernel : ("Gaps" : Str) ∈ partNames)
  | .ahead _ => (by decide +kernel : ("Ahead" : Str) ∈ partNames)
theorem Wr.cls_mem : ∀ w : Wr, w.cls ∈ partNames
  | .times _ => (by decide +kernel : ("Times" : Str) ∈ partNames)
  | .moved _ => (by decide +kernel : ("Moved" : Str) ∈ partNames)
theorem Pt.cls_mem (p : Pt) : p.cls ∈ partNames := by
  obtain ⟨whr, b, ws⟩ := p
  cases ws with
  | nil => exact b.cls_mem
  | cons w ws => exact w.cls_mem
theorem isP_cls (p : Pt) : IsP K (ga K p.cls) := ⟨_, p.cls_mem, rfl⟩
/-- the fields of a part: its places first -/
def notF (ns : List Str) : Prop := ("stands" : Str) ∉ ns ∧ ("worth_of" : Str) ∉ ns ∧ ("limits" : Str) ∉ ns ∧ ("reads" : Str) ∉ ns
theorem notF_fns : ∀ b : Bs, notF b.fns
  | .slope _ => (by unfold notF; decide +kernel : notF (["where", "weight"]))
  | .aim _ _ => (by unfold notF; decide +kernel : notF (["where", "aim", "weight"]))
  | .square _ _ => (by unfold notF; decide +kernel : notF (["where", "aim", "weight"]))
  | .row _ _ => (by unfold notF; decide +kernel : notF (["where", "first", "worths"]))
  | .wall _ _ => (by unfold notF; decide +kernel : notF (["where", "low", "high"]))
  | .near _ _ => (by unfold notF; decide +kernel : notF (["where", "aim", "weight"]))
  | .gaps _ _ => (by unfold notF; decide +kernel : notF (["where", "first", "worths"]))
  | .ahead _ => (by unfold notF; decide +kernel : notF (["where", "gap"]))
theorem notF_wrap : notF ["where", "deep", "part", "number"] := by unfold notF; decide +kernel
def Pt.fns (p : Pt) : List Str := match p.wraps with
  | [] => p.base.fns
  | _ :: _ => ["where", "deep", "part", "number"]
theorem Pt.notF (p : Pt) : Eb.notF p.fns := by
  obtain ⟨whr, b, ws⟩ := p
  cases ws with
  | nil => exact notF_fns b
  | cons w ws => exact notF_wrap
theorem partD_eq (p : Pt) : ∃ ns ds, partD K p = .ins (ga K p.cls) p.fns (intsD p.whr :: ds) ∧ p.fns = (("where" : Str) :: ns) := by
  obtain ⟨whr, b, ws⟩ := p
  cases ws with
  | nil => cases b <;> exact ⟨_, _, rfl, rfl⟩
  | cons w ws => exact ⟨_, _, rfl, rfl⟩
theorem e_Part_stands (pf : PF K) (h : R_stands K C ds es) : EvS K (t_Part_stands K) (startR N_Part_stands ds) (.rtO es) := by
  obtain ⟨p, rfl, rfl, hp, rfl⟩ := h
  show EvS K _ [.p (partD K p)] _
  obtain ⟨ns, ds, e, e2⟩ := partD_eq (K := K) p
  rw [e, e2]
  unfold t_Part_stands
  exact evs_retX (evo_cb (eva_cons (evd_fld (d := intsD p.whr) (evd_var rfl) (pf.c (isP_cls p)) (pf.n (isP_cls p) _ (by decide +kernel)) lk0) eva_nil) ok_listL)
theorem r_stands {p : Pt} (hp : p.Ok) : R_stands K (ga K p.cls) [partD K p] (p.whr.map .int) := ⟨p, rfl, rfl, hp, rfl⟩
theorem whr_len {p : Pt} (hp : p.Ok) : p.whr.length ≤ 2 := by
  cases e : p.base.two with
  | false => obtain ⟨a, h⟩ := hp.one e; rw [h]; exact Nat.le_of_ble_eq_true rfl
  | true => obtain ⟨a, b, h, _⟩ := hp.two e; rw [h]; exact Nat.le_of_ble_eq_true rfl
/-- the field of a wrap -/
def isWr (x : Str) : Bool := decide (x = "Times") || decide (x = "Moved")
theorem isWr_bs : ∀ b : Bs, isWr b.cls = false
  | .slope _ => (by decide +kernel : isWr "Slope" = false)
  | .aim _ _ => (by decide +kernel : isWr "Aim" = false)
  | .square _ _ => (by decide +kernel : isWr "Square" = false)
  | .row _ _ => (by decide +kernel : isWr "Row" = false)
  | .wall _ _ => (by decide +kernel : isWr "Wall" = false)
  | .near _ _ => (by decide +kernel : isWr "Near" = false)
  | .gaps _ _ => (by decide +kernel : isWr "Gaps" = false)
  | .ahead _ => (by decide +kernel : isWr "Ahead" = false)
theorem isWr_wr : ∀ w : Wr, isWr w.cls = true
  | .times _ => (by decide +kernel : isWr "Times" = true)
  | .moved _ => (by decide +kernel : isWr "Moved" = true)
theorem wrap_isW {p : Pt} (pf : PF K) : PySem.W.kitOne K (.ref (ga K p.cls)) (.ref (ga K "Wrap")) = some (!p.wraps.isEmpty) := by
  rw [pf.isW _ p.cls_mem]
  show some (isWr p.cls) = _
  obtain ⟨whr, b, ws⟩ := p
  cases ws with
  | nil => exact congrArg some (isWr_bs b)
  | cons w ws => exact congrArg some (isWr_wr w)
theorem e_Wrap_init (pf : PF K) (h : R_Wrap_init K C es ns ds) : ∃ ρ', EvS K (t_Wrap_init K) (startI N_Wrap_init x dx C es) (.nx (.i x dx C ns ds :: ρ')) := by
  obtain ⟨hC, p, n, rfl, hp, hd, rfl, rfl⟩ := h
  refine ⟨[.p (partD K p), .p (.int n)], ?_⟩
  show EvS K _ [.i x dx C [] [], .p (partD K p), .p (.int n)] _
  unfold t_Wrap_init
  obtain ⟨fs, gs, e, e2⟩ := partD_eq (K := K) p
  have q1 := p.notF.1
  have ty : TyD K (partD K p) (.ref (ga K p.cls)) := by rw [e]; exact .ins (pf.ty _ p.cls_mem)
  have ev1 : ∀ ρ : Rho, ρ[1]? = some (.p (partD K p)) → EvD K (tVar 1) ρ (.ins (ga K p.cls) p.fns (intsD p.whr :: gs)) := fun ρ h => by rw [← e]; exact evd_var h
  refine evs_seq (ρ1 := [.i x dx C [] [], .p (partD K p), .p (.int n)]) (evs_if (b := false) (evt_is (evt_not (evt_B (evd_cb (eva_cons (evd_var rfl) (by walk_at "ev")) (ok_isi ty (.own _) (pf.isP _ p.cls_mem))))) rfl) (fun z => nomatch z) (fun _ => evs_next)) ?_
  refine evs_seq (evs_init (ns := ["where"]) (ds := [intsD p.whr]) (des := []) rfl (eva_cons (d := intsD p.whr) (EvO.evd (evo_meth (ev1 _ rfl) q1 (isP_cls p) eva_nil (by rw [← e]; exact r_stands hp))) eva_nil) (fun _ => .nil) ⟨hC, p.whr, rfl, hp.whr, by have := whr_len hp; omega, rfl, rfl⟩ rfl) ?_
  have evI : ∀ ρ : Rho, ρ[1]? = some (.p (partD K p)) → EvT K (tB (tCB (rIsi K) (tCons (tVar 1) (tCons (tC (V.ref (ga K (Str.ofString "Wrap")))) tNil)))) ρ (!p.wraps.isEmpty) := fun ρ h => evt_B (evd_cb (eva_cons (evd_var h) (by walk_at "ev")) (ok_isi ty (.own _) (wrap_isW pf)))
  refine evs_seq (evs_fld (d := .int ((p.wraps.length : Int) + 1)) rfl (evd_if (evI _ rfl) (fun hb => ?_) (fun hb => ?_)) (pf.c hC) (pf.n hC _ (by decide +kernel)) (by decide) (putN2 (by decide +kernel)) rfl) ?_
  · obtain ⟨whr, b, ws⟩ := p
    cases ws with
    | nil => cases hb
    | cons w ws =>
      have ed : partD K ⟨whr, b, w :: ws⟩ = .ins (ga K w.cls) ["where", "deep", "part", "number"] [intsD whr, .int ((ws.length : Int) + 1), wrD K whr b ws, .int w.num] := rfl
      refine evd_is (evd_op (evd_fld (d := .int ((ws.length : Int) + 1)) (by rw [← ed]; exact evd_var rfl) (pf.c ⟨w.cls, w.cls_mem, rfl⟩) (pf.n ⟨w.cls, w.cls_mem, rfl⟩ _ (by decide +kernel)) (by walk_at "lk")) (by walk_at "ev") ok_plus) ?_
      show D.int ((ws.length : Int) + 1 + 1) = .int (((w :: ws).length : Int) + 1)
      rw [List.length_cons]
      congr 1
  · obtain ⟨whr, b, ws⟩ := p
    cases ws with
    | nil => exact evd_int
    | cons w ws => cases hb
  refine evs_seq (evs_drop (d := .int ((p.wraps.length : Int) + 1)) (evd_call0 (ds := [.int ((p.wraps.length : Int) + 1), .int 1, .int 8]) (eva_cons (evd_fldI rfl (pf.c hC) (pf.n hC _ (by decide +kernel)) (by walk_at "lk")) (by walk_at "ev")) (r_asked ⟨by omega, by omega⟩))) ?_
  exact evs_seq (evs_fld (d := partD K p) rfl (evd_var rfl) (pf.c hC) (pf.n hC _ (by decide +kernel)) (by decide) (putN3 (by decide +kernel) (by decide +kernel)) rfl) (evs_fld (d := .int n) rfl (by walk_at "ev") (pf.c hC) (pf.n hC _ (by decide +kernel)) (by decide) (putN4 (by decide +kernel) (by decide +kernel) (by decide +kernel)) rfl)
theorem e_Times_init (pf : PF K) (h : R_Times_init K C es ns ds) : ∃ ρ', EvS K (t_Times_init K) (startI N_Times_init x dx C es) (.nx (.i x dx C ns ds :: ρ')) := by
  obtain ⟨hC, p, n, rfl, hp, hd, hn, rfl, rfl⟩ := h
  refine ⟨[.p (partD K p), .p (.int n)], ?_⟩
  show EvS K _ [.i x dx C [] [], .p (partD K p), .p (.int n)] _
  unfold t_Times_init
  exact evs_seq (evs_init (des := []) (es := [partD K p, .int n]) rfl (by walk_at "ev") (fun _ => .nil) ⟨hC, p, n, rfl, hp, hd, rfl, rfl⟩ rfl) (evs_drop (d := .int n) (by walk_at "ev"))
theorem e_Moved_init (pf : PF K) (h : R_Moved_init K C es ns ds) : ∃ ρ', EvS K (t_Moved_init K) (startI N_Moved_init x dx C es) (.nx (.i x dx C ns ds :: ρ')) := by
  obtain ⟨hC, p, n, rfl, hp, hd, hn, rfl, rfl⟩ := h
  refine ⟨[.p (partD K p), .p (.int n)], ?_⟩
  show EvS K _ [.i x dx C [] [], .p (partD K p), .p (.int n)] _
  unfold t_Moved_init
  exact evs_seq (evs_init (des := []) (es := [partD K p, .int n]) rfl (by walk_at "ev") (fun _ => .nil) ⟨hC, p, n, rfl, hp, hd, rfl, rfl⟩ rfl) (evs_drop (d := .int n) (by walk_at "ev"))
end

local macro_rules | `(tactic| walk_at "lk") => `(tactic| first
  | exact lk0
  | ((apply lk1); (first | decide +kernel | skip); walk_at "lk"))
local macro_rules | `(tactic| walk_at "rr") => `(tactic| first
  | ((with_reducible apply r_asked); walk_at "sd")
  | with_reducible exact r_isnum)
section
variable {K : PySem.W.Frag} {ds es : List D} {d : D} {C x dx : Addr} {ns : List Str}
theorem isP_of {x : Str} (h : x ∈ partNames) : IsP K (ga K x) := ⟨x, h, rfl⟩
theorem PF.f {x f : Str} {te : TE} {ρ : Rho} {d : D} {ns : List Str} {ds : List D} (pf : PF K) (hx : x ∈ partNames) (hf : f ∈ partFields) (h : EvD K te ρ (.ins (ga K x) ns ds)) (e : (ns.zip ds).lookup f = some d) : EvD K (tFld K te f) ρ d := evd_fld h (pf.cls x hx) (pf.na x hx f hf) e
theorem e_Slope_worth_of (pf : PF K) {whr : List Int} {w r : Int} (hw : inR (-1000) 1000 w) : EvS K (t_Slope_worth_of K) (startR N_Slope_worth_of [bsD K whr (.slope w), .int r]) (.rt (optD ((Bs.slope w).worth r))) := by
  show EvS K _ [.p (.ins (ga K "Slope") ["where", "weight"] [intsD whr, .int w]), .p (.int r)] (.rt (.int (w * r)))
  unfold t_Slope_worth_of
  exact evs_ret (evd_op (pf.f (by decide +kernel) (by decide +kernel) (evd_var rfl) (by walk_at "lk")) (evd_var rfl) (ok_times (by unfold inR at hw; exact Or.inl ⟨by omega, by omega⟩)))
theorem e_aimlike (pf : PF K) {x : Str} (hx : x ∈ partNames) {whr : List Int} {a w r : Int} (hw : inR 0 1000 w) : EvS K (t_Aim_worth_of K) [.p (.ins (ga K x) ["where", "aim", "weight"] [intsD whr, .int a, .int w]), .p (.int r)] (.rt (.int (w * iabs (r - a)))) := by
  unfold t_Aim_worth_of
  exact evs_ret (evd_op (pf.f hx (by decide +kernel) (evd_var rfl) (by walk_at "lk")) (evd_cb (eva_cons (evd_op (evd_var rfl) (pf.f hx (by decide +kernel) (evd_var rfl) (by walk_at "lk")) ok_sub) eva_nil) ok_abs) (ok_times (by unfold inR at hw; exact Or.inl ⟨by omega, by omega⟩)))
theorem e_Square_worth_of (pf : PF K) {whr : List Int} {a w r : Int} (hw : inR 0 1000 w) (hr : -(2 ^ 64) < r - a ∧ r - a < 2 ^ 64) : EvS K (t_Square_worth_of K) (startR N_Square_worth_of [bsD K whr (.square a w), .int r]) (.rt (optD ((Bs.square a w).worth r))) := by
  show EvS K _ [.p (.ins (ga K "Square") ["where", "aim", "weight"] [intsD whr, .int a, .int w]), .p (.int r)] (.rt (.int (w * (r - a) * (r - a))))
  unfold t_Square_worth_of
  have hx : ("Square" : Str) ∈ partNames := by decide +kernel
  have h1 : EvD K (tOp zSub (tVar 1) (tFld K (tVar 0) "aim")) [.p (.ins (ga K "Square") ["where", "aim", "weight"] [intsD whr, .int a, .int w]), .p (.int r)] (.int (r - a)) := evd_op (evd_var rfl) (pf.f hx (by decide +kernel) (evd_var rfl) (by walk_at "lk")) ok_sub
  exact evs_ret (evd_op (evd_op (pf.f hx (by decide +kernel) (evd_var rfl) (by walk_at "lk")) h1 (ok_times (by unfold inR at hw; exact Or.inl ⟨by omega, by omega⟩))) h1 (ok_times (Or.inr hr)))
theorem rowAt_some {f r : Int} {ws : List Int} (h : 0 ≤ r - f ∧ r - f < (ws.length : Int)) : rowAt f ws r = some (ws.getD (r - f).toNat 0) := by
  unfold rowAt
  rw [if_pos h]
  have hl : (r - f).toNat < ws.length := by omega
  rw [List.getD_eq_getElem?_getD, List.getElem?_eq_getElem hl]
  rfl
theorem rowAt_none {f r : Int} {ws : List Int} (h : ¬ (0 ≤ r - f ∧ r - f < (ws.length : Int))) : rowAt f ws r = none := by
  unfold rowAt
  rw [if_neg h]
theorem dec2 {p q : Prop} [Decidable p] [Decidable q] : (decide p && decide q) = decide (p ∧ q) := by
  by_cases h : p <;> by_cases h2 : q <;> simp [h, h2]
theorem e_rowlike (pf : PF K) {x : Str} (hx : x ∈ partNames) {whr ws : List Int} {f r : Int} : EvS K (t_Row_worth_of K) [.p (.ins (ga K x) ["where", "first", "worths"] [intsD whr, .int f, .lst (ws.map .int)]), .p (.int r)] (.rt (optD (rowAt f ws r))) := by
  unfold t_Row_worth_of
  have h1 : EvD K (tOp zSub (tVar 1) (tFld K (tVar 0) "first")) [.p (.ins (ga K x) ["where", "first", "worths"] [intsD whr, .int f, .lst (ws.map .int)]), .p (.int r)] (.int (r - f)) := evd_op (evd_var rfl) (pf.f hx (by decide +kernel) (evd_var rfl) (by walk_at "lk")) ok_sub
  have h2 : EvD K (tFld K (tVar 0) "worths") [.p (.ins (ga K x) ["where", "first", "worths"] [intsD whr, .int f, .lst (ws.map .int)]), .p (.int r)] (.lst (ws.map .int)) := pf.f hx (by decide +kernel) (evd_var rfl) (by walk_at "lk")
  by_cases c : 0 ≤ r - f ∧ r - f < (ws.length : Int)
  · rw [rowAt_some c]
    refine evs_seq (evs_if (b := false) (evt_is (evt_not (evt_test (evd_chain evd_int h1 ok_le (fun _ => evd_cb (eva_cons h2 eva_nil) ok_lenL) (fun _ => ok_lt)))) ?_) (fun z => nomatch z) (fun _ => evs_next)) (evs_ret (evd_op h2 h1 (ok_ix1 (atI_ints c.1 c.2))))
    rw [List.length_map, dec2, decide_eq_true c]
    rfl
  · rw [rowAt_none c]
    refine evs_seqR (evs_if (b := true) (evt_is (evt_not (evt_test (evd_chain evd_int h1 ok_le (fun _ => evd_cb (eva_cons h2 eva_nil) ok_lenL) (fun _ => ok_lt)))) ?_) (fun _ => evs_ret evd_non) (fun z => nomatch z))
    rw [List.length_map, dec2, decide_eq_false c]
    rfl
theorem e_Wall_worth_of (pf : PF K) {whr : List Int} {lo hi r : Int} : EvS K (t_Wall_worth_of K) (startR N_Wall_worth_of [bsD K whr (.wall lo hi), .int r]) (.rt (optD ((Bs.wall lo hi).worth r))) := by
  show EvS K _ [.p (.ins (ga K "Wall") ["where", "low", "high"] [intsD whr, .int lo, .int hi]), .p (.int r)] (.rt (optD (if lo ≤ r ∧ r ≤ hi then some 0 else none)))
  unfold t_Wall_worth_of
  have hx : ("Wall" : Str) ∈ partNames := by decide +kernel
  refine evs_ret (evd_if (evt_is (evt_test (evd_chain (pf.f hx (by decide +kernel) (evd_var rfl) (by walk_at "lk")) (evd_var rfl) ok_le (fun _ => pf.f hx (by decide +kernel) (evd_var rfl) (by walk_at "lk")) (fun _ => ok_le))) dec2) (fun h => ?_) (fun h => ?_))
  · rw [if_pos (of_decide_eq_true h)]; exact evd_int
  · rw [if_neg (of_decide_eq_false h)]; exact evd_non
theorem e_Ahead_worth_of (pf : PF K) {whr : List Int} {g r : Int} : EvS K (t_Ahead_worth_of K) (startR N_Ahead_worth_of [bsD K whr (.ahead g), .int r]) (.rt (optD ((Bs.ahead g).worth r))) := by
  show EvS K _ [.p (.ins (ga K "Ahead") ["where", "gap"] [intsD whr, .int g]), .p (.int r)] (.rt (optD (if r ≤ g then some 0 else none)))
  unfold t_Ahead_worth_of
  have hx : ("Ahead" : Str) ∈ partNames := by decide +kernel
  refine evs_ret (evd_if (evt_test (evd_op (evd_var rfl) (pf.f hx (by decide +kernel) (evd_var rfl) (by walk_at "lk")) ok_le)) (fun h => ?_) (fun h => ?_))
  · rw [if_pos (of_decide_eq_true h)]; exact evd_int
  · rw [if_neg (of_decide_eq_false h)]; exact evd_non
theorem tail_ok {whr : List Int} {b : Bs} {w : Wr} {ws : List Wr} (h : Pt.Ok ⟨whr, b, w :: ws⟩) : Pt.Ok ⟨whr, b, ws⟩ :=
  ⟨h.base, fun v hv => h.wraps v (List.mem_cons_of_mem _ hv), by have := h.deep; simp at this; show ws.length ≤ 8; omega, h.whr, h.one, h.two⟩
theorem e_Times_worth_of (pf : PF K) {n : Nat} {whr : List Int} {b : Bs} {ws : List Wr} {m r : Int} (h : Pt.Ok ⟨whr, b, .times m :: ws⟩) (hn : ws.length ≤ n) (hr : inR (-(farN n)) (farN n) r) :
    EvS K (t_Times_worth_of K n) (startR N_Times_worth_of [partD K ⟨whr, b, .times m :: ws⟩, .int r]) (.rt (optD (Pt.worth ⟨whr, b, .times m :: ws⟩ r))) := by
  show EvS K _ [.p (.ins (ga K "Times") ["where", "deep", "part", "number"] [intsD whr, .int ((ws.length : Int) + 1), partD K ⟨whr, b, ws⟩, .int m]), .p (.int r), .no] (.rt (optD ((Pt.worth ⟨whr, b, ws⟩ r).map (m * ·))))
  unfold t_Times_worth_of
  have hx : ("Times" : Str) ∈ partNames := by decide +kernel
  have hm : inR 1 100 m := h.wraps (.times m) List.mem_cons_self
  obtain ⟨fs, gs, e, e2⟩ := partD_eq (K := K) ⟨whr, b, ws⟩
  have h1 : EvD K (tFld K (tVar 0) "part") [.p (.ins (ga K "Times") ["where", "deep", "part", "number"] [intsD whr, .int ((ws.length : Int) + 1), partD K ⟨whr, b, ws⟩, .int m]), .p (.int r), .no] (.ins (ga K (Pt.cls ⟨whr, b, ws⟩)) (Pt.fns ⟨whr, b, ws⟩) (intsD whr :: gs)) := by
    rw [← show partD K ⟨whr, b, ws⟩ = _ from e]
    exact pf.f hx (by decide +kernel) (evd_var rfl) (by walk_at "lk")
  refine evs_seq (evs_set (d := optD (Pt.worth ⟨whr, b, ws⟩ r)) (evd_meth h1 (Pt.notF _).2.1 (isP_cls _) (by walk_at "ev") (by rw [← show partD K ⟨whr, b, ws⟩ = _ from e]; exact ⟨_, r, rfl, rfl, tail_ok h, hn, hr, rfl⟩)) rfl) ?_
  cases q : Pt.worth ⟨whr, b, ws⟩ r with
  | none => exact evs_ret (evd_if (b := true) (evt_is (evt_test (evd_op (evd_var rfl) evd_non ok_isN)) rfl) (fun _ => evd_non) (fun z => nomatch z))
  | some v =>
    refine evs_ret (evd_if (b := false) (evt_is (evt_test (evd_op (evd_var rfl) evd_non ok_isN)) rfl) (fun z => nomatch z) (fun _ => ?_))
    show EvD K _ [.p (.ins (ga K "Times") ["where", "deep", "part", "number"] [intsD whr, .int ((ws.length : Int) + 1), partD K ⟨whr, b, ws⟩, .int m]), .p (.int r), .p (.int v)] (.int (m * v))
    exact evd_op (pf.f hx (by decide +kernel) (evd_var rfl) (by walk_at "lk")) (evd_var rfl) (ok_times (by unfold inR at hm; exact Or.inl ⟨by omega, by omega⟩))
theorem e_Moved_worth_of (pf : PF K) {n : Nat} {whr : List Int} {b : Bs} {ws : List Wr} {m r : Int} (h : Pt.Ok ⟨whr, b, .moved m :: ws⟩) (hn : ws.length ≤ n) (hr : inR (-(farN n)) (farN n) (r - m)) :
    EvS K (t_Moved_worth_of K n) (startR N_Moved_worth_of [partD K ⟨whr, b, .moved m :: ws⟩, .int r]) (.rt (optD (Pt.worth ⟨whr, b, .moved m :: ws⟩ r))) := by
  show EvS K _ [.p (.ins (ga K "Moved") ["where", "deep", "part", "number"] [intsD whr, .int ((ws.length : Int) + 1), partD K ⟨whr, b, ws⟩, .int m]), .p (.int r)] (.rt (optD (Pt.worth ⟨whr, b, ws⟩ (r - m))))
  unfold t_Moved_worth_of
  have hx : ("Moved" : Str) ∈ partNames := by decide +kernel
  obtain ⟨fs, gs, e, e2⟩ := partD_eq (K := K) ⟨whr, b, ws⟩
  have h1 : EvD K (tFld K (tVar 0) "part") [.p (.ins (ga K "Moved") ["where", "deep", "part", "number"] [intsD whr, .int ((ws.length : Int) + 1), partD K ⟨whr, b, ws⟩, .int m]), .p (.int r)] (.ins (ga K (Pt.cls ⟨whr, b, ws⟩)) (Pt.fns ⟨whr, b, ws⟩) (intsD whr :: gs)) := by
    rw [← show partD K ⟨whr, b, ws⟩ = _ from e]
    exact pf.f hx (by decide +kernel) (evd_var rfl) (by walk_at "lk")
  exact evs_ret (evd_meth h1 (Pt.notF _).2.1 (isP_cls _) (eva_cons (evd_op (evd_var rfl) (pf.f hx (by decide +kernel) (evd_var rfl) (by walk_at "lk")) ok_sub) eva_nil) (by rw [← show partD K ⟨whr, b, ws⟩ = _ from e]; exact ⟨_, r - m, rfl, rfl, tail_ok h, hn, hr, rfl⟩))
/-! ### limits -/
theorem e_Part_limits : EvS K (t_Part_limits K) [.p d] (.rt (limsD (none, none))) := by
  unfold t_Part_limits
  exact evs_ret (by show EvD K _ _ (.tup [.non, .non]); walk_at "ev")
theorem e_rowlims (pf : PF K) {x : Str} (hx : x ∈ partNames) {whr ws : List Int} {f : Int} : EvS K (t_Row_limits K) [.p (.ins (ga K x) ["where", "first", "worths"] [intsD whr, .int f, .lst (ws.map .int)])] (.rt (limsD (some f, some (f + (ws.length : Int) - 1)))) := by
  unfold t_Row_limits
  have h1 : EvD K (tFld K (tVar 0) "first") [.p (.ins (ga K x) ["where", "first", "worths"] [intsD whr, .int f, .lst (ws.map .int)])] (.int f) := pf.f hx (by decide +kernel) (evd_var rfl) (by walk_at "lk")
  have h2 : EvD K (tFld K (tVar 0) "worths") [.p (.ins (ga K x) ["where", "first", "worths"] [intsD whr, .int f, .lst (ws.map .int)])] (.lst (ws.map .int)) := pf.f hx (by decide +kernel) (evd_var rfl) (by walk_at "lk")
  refine evs_ret (evd_is (evd_tup (eva_cons h1 (eva_cons (evd_op (evd_op h1 (evd_cb (eva_cons h2 eva_nil) ok_lenL) ok_plus) evd_int ok_sub) eva_nil)) (Nat.le_of_ble_eq_true rfl)) ?_)
  rw [List.length_map]
  rfl
theorem e_Wall_limits (pf : PF K) {whr : List Int} {lo hi : Int} : EvS K (t_Wall_limits K) (startR N_Wall_limits [bsD K whr (.wall lo hi)]) (.rt (limsD (some lo, some hi))) := by
  show EvS K _ [.p (.ins (ga K "Wall") ["where", "low", "high"] [intsD whr, .int lo, .int hi])] _
  unfold t_Wall_limits
  have hx : ("Wall" : Str) ∈ partNames := by decide +kernel
  exact evs_ret (evd_tup (eva_cons (pf.f hx (by decide +kernel) (evd_var rfl) (by walk_at "lk")) (eva_cons (pf.f hx (by decide +kernel) (evd_var rfl) (by walk_at "lk")) eva_nil)) (Nat.le_of_ble_eq_true rfl))
theorem e_Ahead_limits (pf : PF K) {whr : List Int} {g : Int} : EvS K (t_Ahead_limits K) (startR N_Ahead_limits [bsD K whr (.ahead g)]) (.rt (limsD (none, some g))) := by
  show EvS K _ [.p (.ins (ga K "Ahead") ["where", "gap"] [intsD whr, .int g])] _
  unfold t_Ahead_limits
  have hx : ("Ahead" : Str) ∈ partNames := by decide +kernel
  exact evs_ret (evd_tup (eva_cons evd_non (eva_cons (pf.f hx (by decide +kernel) (evd_var rfl) (by walk_at "lk")) eva_nil)) (Nat.le_of_ble_eq_true rfl))
theorem wrap_part (pf : PF K) {x : Str} (hx : x ∈ partNames) {whr : List Int} {b : Bs} {ws : List Wr} {m : Int} {ρ : Rho} (h : ρ[0]? = some (.p (.ins (ga K x) ["where", "deep", "part", "number"] [intsD whr, .int ((ws.length : Int) + 1), partD K ⟨whr, b, ws⟩, .int m]))) :
    EvD K (tFld K (tVar 0) "part") ρ (partD K ⟨whr, b, ws⟩) := pf.f hx (by decide +kernel) (evd_var h) (by walk_at "lk")
theorem call_limits (n : Nat) {p : Pt} {te : TE} {ρ : Rho} (h : EvD K te ρ (partD K p)) (hp : p.Ok) (hn : p.wraps.length ≤ n) : EvD K (tMethD "limits" (IsP K) (fun C => spD K (R_limits K n C)) E0 te tNil) ρ (limsD p.lims) := by
  obtain ⟨fs, gs, e, e2⟩ := partD_eq (K := K) p
  rw [e] at h
  exact evd_meth h (Pt.notF _).2.2.1 (isP_cls _) eva_nil (by rw [← e]; exact ⟨p, rfl, rfl, hp, hn, rfl⟩)
theorem call_worth (n : Nat) {p : Pt} {te ta : TE} {ρ : Rho} {r : Int} (h : EvD K te ρ (partD K p)) (ha : EvD K ta ρ (.int r)) (hp : p.Ok) (hn : p.wraps.length ≤ n) (hr : inR (-(farN n)) (farN n) r) : EvD K (tMethD "worth_of" (IsP K) (fun C => spD K (R_worth K n C)) E0 te (tCons ta tNil)) ρ (optD (p.worth r)) := by
  obtain ⟨fs, gs, e, e2⟩ := partD_eq (K := K) p
  rw [e] at h
  exact evd_meth h (Pt.notF _).2.1 (isP_cls _) (eva_cons ha eva_nil) (by rw [← e]; exact ⟨p, r, rfl, rfl, hp, hn, hr, rfl⟩)
theorem call_stands {p : Pt} {te : TE} {ρ : Rho} (h : EvD K te ρ (partD K p)) (hp : p.Ok) : EvO K (tMethD "stands" (IsP K) (fun C => spO K (R_stands K C)) E0 te tNil) ρ (p.whr.map .int) := by
  obtain ⟨fs, gs, e, e2⟩ := partD_eq (K := K) p
  rw [e] at h
  exact evo_meth h (Pt.notF _).1 (isP_cls _) eva_nil (by rw [← e]; exact r_stands hp)
theorem e_Wrap_limits (pf : PF K) {n : Nat} {whr : List Int} {b : Bs} {ws : List Wr} {m : Int} (h : Pt.Ok ⟨whr, b, .times m :: ws⟩) (hn : ws.length ≤ n) : EvS K (t_Wrap_limits K n) (startR N_Wrap_limits [partD K ⟨whr, b, .times m :: ws⟩]) (.rt (limsD (Pt.lims ⟨whr, b, .times m :: ws⟩))) := by
  show EvS K _ [.p (.ins (ga K "Times") ["where", "deep", "part", "number"] [intsD whr, .int ((ws.length : Int) + 1), partD K ⟨whr, b, ws⟩, .int m])] (.rt (limsD (Pt.lims ⟨whr, b, ws⟩)))
  unfold t_Wrap_limits
  exact evs_ret (call_limits n (wrap_part pf (by decide +kernel) rfl) (tail_ok h) hn)
def addD (m : Int) : Option Int → D
  | none => .non
  | some v => .int (v + m)
theorem e_Moved_limits (pf : PF K) {n : Nat} {whr : List Int} {b : Bs} {ws : List Wr} {m : Int} (h : Pt.Ok ⟨whr, b, .moved m :: ws⟩) (hn : ws.length ≤ n) : EvS K (t_Moved_limits K n) (startR N_Moved_limits [partD K ⟨whr, b, .moved m :: ws⟩]) (.rt (limsD (Pt.lims ⟨whr, b, .moved m :: ws⟩))) := by
  show EvS K _ [.p (.ins (ga K "Moved") ["where", "deep", "part", "number"] [intsD whr, .int ((ws.length : Int) + 1), partD K ⟨whr, b, ws⟩, .int m]), .no] (.rt (limsD ((Pt.lims ⟨whr, b, ws⟩).1.map (· + m), (Pt.lims ⟨whr, b, ws⟩).2.map (· + m))))
  unfold t_Moved_limits
  have hx : ("Moved" : Str) ∈ partNames := by decide +kernel
  have key : ∀ o : Option Int, EvD K (tIf (tTest (tOp zIsN (tVar 1) (tC V.non))) (tC V.non) (tOp zPlus (tVar 1) (tFld K (tVar 0) "number"))) [.p (.ins (ga K "Moved") ["where", "deep", "part", "number"] [intsD whr, .int ((ws.length : Int) + 1), partD K ⟨whr, b, ws⟩, .int m]), .p (optD o)] (optD (o.map (· + m))) := fun o => by
    cases o with
    | none => exact evd_if (b := true) (evt_is (evt_test (evd_op (evd_var rfl) evd_non ok_isN)) rfl) (fun _ => evd_non) (fun z => nomatch z)
    | some v => exact evd_if (b := false) (evt_is (evt_test (evd_op (evd_var rfl) evd_non ok_isN)) rfl) (fun z => nomatch z) (fun _ => evd_op (evd_var rfl) (pf.f hx (by decide +kernel) (evd_var rfl) (by walk_at "lk")) ok_plus)
  refine evs_ret (evd_cb (eva_cons (EvO.evd (evo_lc (evi_tup (call_limits n (wrap_part pf hx rfl) (tail_ok h) hn)) wipes_name (.yes evg_name evt_yes (key _) (.yes evg_name evt_yes (key _) .nil)) (Nat.le_of_ble_eq_true rfl))) eva_nil) ok_tupleL)
/-! ### for whole families -/
theorem nil_of {p : Pt} {b : Bs} (h : p.cls = b.cls) : p.wraps = [] ∧ p.base.cls = b.cls := by
  obtain ⟨whr, c, ws⟩ := p
  cases ws with
  | nil => exact ⟨rfl, h⟩
  | cons w ws =>
    have h1 := isWr_bs b
    have h2 := isWr_wr w
    have h3 : w.cls = b.cls := h
    rw [h3, h1] at h2
    cases h2
end

section
variable {K : PySem.W.Frag} {ds es : List D} {d : D} {o : Out} {t : TT} {ts tu : TS} {ρ : Rho} {b : Bool}
theorem evs_yes (h : EvT K t ρ b) (e : b = true) (h1 : EvS K ts ρ (.rt d)) : EvS K (tSeq (tIfS t ts tNext) tu) ρ (.rt d) := evs_seqR (evs_if h (fun _ => h1) (fun z => by rw [e] at z; cases z))
theorem evs_no (h : EvT K t ρ b) (e : b = false) (h2 : EvS K tu ρ o) : EvS K (tSeq (tIfS t ts tNext) tu) ρ o := evs_seq (evs_if h (fun z => by rw [e] at z; cases z) (fun _ => evs_next)) h2
theorem canLay_ints : ∀ ns : List Int, PyData.canLayAll0 (ns.map .int) = true
  | [] => rfl
  | n :: ns => by
    show (true && PyData.canLayAll0 (ns.map .int)) = true
    rw [canLay_ints ns]
    rfl
theorem depth_ints : ∀ ns : List Int, PyData.depthAll (ns.map .int) = 0
  | [] => rfl
  | n :: ns => by
    show max 0 (PyData.depthAll (ns.map .int)) = 0
    rw [depth_ints ns]
    rfl
theorem shaped_ints (ns : List Int) : SeqAt.shaped (.list (ns.map .int)) = true := by
  unfold SeqAt.shaped
  show (PyData.canLayAll0 (ns.map .int) && decide (PyData.depthAll (ns.map .int) + 1 ≤ 64)) = true
  rw [canLay_ints, depth_ints]
  rfl
theorem eqvAll_ints : ∀ xs ys : List Int, PyData.eqvAll (xs.map .int) (ys.map .int) = decide (xs = ys)
  | [], [] => rfl
  | [], _ :: _ => rfl
  | _ :: _, [] => rfl
  | x :: xs, y :: ys => by
    show ((x == y) && PyData.eqvAll (xs.map .int) (ys.map .int)) = _
    rw [eqvAll_ints xs ys]
    by_cases h : x = y
    · subst h
      by_cases h2 : xs = ys
      · subst h2; simp
      · rw [decide_eq_false h2, decide_eq_false (fun q => h2 (List.cons.inj q).2)]; simp
    · rw [beq_eq_false_iff_ne.mpr h, decide_eq_false (fun q => h (List.cons.inj q).1)]; rfl
theorem pds_ints : ∀ ns : List Int, pds (ns.map .int) = some (ns.map .int)
  | [] => rfl
  | n :: ns => by
    show ((pd (.int n)).bind fun e => (pds (ns.map .int)).map fun es => e :: es) = _
    rw [pds_ints ns]
    rfl
theorem pd_ints (ns : List Int) : pd (.lst (ns.map .int)) = some (.list (ns.map .int)) := by
  show (pds (ns.map .int)).map PyData.list = _
  rw [pds_ints]
  rfl
theorem eq_ints {xs ys : List Int} : Ok2 K (zEq K) (.lst (xs.map .int)) (.lst (ys.map .int)) (.bl (decide (xs = ys))) := by
  rw [← eqvAll_ints]
  exact ok_eq0 (ok_eqD (pd_ints xs) (pd_ints ys) (shaped_ints xs) (shaped_ints ys))
theorem ne_ints {xs ys : List Int} : Ok2 K (zNe K) (.lst (xs.map .int)) (.lst (ys.map .int)) (.bl (!decide (xs = ys))) := by
  rw [← eqvAll_ints]
  exact ok_ne0 (ok_neD (pd_ints xs) (pd_ints ys) (shaped_ints xs) (shaped_ints ys))
theorem eq_scr {xs ys : List Int} : Ok2 K (zEq K) (.scr xs) (.lst (ys.map .int)) (.bl (decide (xs = ys))) := by
  rw [← eqvAll_ints]
  exact ok_eq0 (ok_eqD rfl (pd_ints ys) (shaped_ints xs) (shaped_ints ys))
theorem atI_nat' {ns : List Int} {k : Int} (h0 : 0 ≤ k) (h1 : k < (ns.length : Int)) : atI ns k = some (ns.getD k.toNat 0) := by
  have hl : k.toNat < ns.length := by omega
  unfold atI ixN
  rw [if_pos h0, if_pos h1]
  show ns[k.toNat]? = _
  rw [List.getElem?_eq_getElem hl, List.getD_eq_getElem?_getD, List.getElem?_eq_getElem hl]
  rfl
theorem e_cell (h : R_cell ds d) : EvS K (t__law_cell_at K) (startR N__law_cell_at ds) (.rt d) := by
  obtain ⟨ns, k, rfl, hk, hl, rfl⟩ := h
  show EvS K _ [.p (.scr ns), .p (.int k)] _
  unfold t__law_cell_at lawCell
  by_cases c : k < (ns.length : Int)
  · rw [if_pos c]
    exact evs_yes (by walk_at "ev") (decide_eq_true c) (evs_ret (evd_op (evd_var rfl) (evd_var rfl) (ok_ix3 (atI_nat' hk c))))
  · rw [if_neg c]
    refine evs_no (by walk_at "ev") (decide_eq_false c) ?_
    by_cases c2 : ns = []
    · rw [if_pos c2]
      exact evs_yes (evt_test (evd_op (evd_var rfl) (evd_lst eva_nil (Nat.zero_le _)) (eq_scr (ys := [])))) (decide_eq_true c2) (evs_ret (by walk_at "ev"))
    · rw [if_neg c2]
      refine evs_no (evt_test (evd_op (evd_var rfl) (evd_lst eva_nil (Nat.zero_le _)) (eq_scr (ys := [])))) (decide_eq_false c2) ?_
      have hp : (0 : Int) < ns.length := by
        cases ns with
        | nil => exact absurd rfl c2
        | cons n ns => simp
      have h1 := Int.emod_nonneg k (show (ns.length : Int) ≠ 0 by omega)
      have h2 := Int.emod_lt_of_pos k hp
      have ix : Ok2 K (rIx K) (.scr ns) (.int (k % (ns.length : Int))) (.int (ns.getD (k % (ns.length : Int)).toNat 0)) := ok_ix3 (atI_nat' h1 h2)
      exact evs_ret (by walk_at "ev")
theorem digs_len : ∀ (c : Int) (bs : List Int), (digs c bs).length = bs.length
  | _, [] => rfl
  | c, b :: bs => by
    show (digs (c / b) bs).length + 1 = _
    rw [digs_len]
    rfl
theorem nums_loop {c0 B : D} : ∀ (bs : List Int) (c : Int) (acc : List D), (∀ b ∈ bs, 0 < b ∧ b < 1073741824) → acc.length + bs.length ≤ 1000 →
    ∃ c', ForR K (gName 4) (tSeq (tDrop (tBM K "list" rAppend (tVar 3) (tCons (tOp zMod (tVar 2) (tVar 4)) tNil))) (tAsg (tOp zDiv (tVar 2) (tVar 4)) (gName 2))) [.p c0, .p B, .p (.int c), .o acc, .no] (bs.map .int) (.nx [.p c0, .p B, .p (.int c'), .o (acc ++ (digs c bs).map .int), .no])
  | [], c, acc, _, _ => ⟨c, by
    show ForR K _ _ _ [] (.nx [.p c0, .p B, .p (.int c), .o (acc ++ []), .no])
    rw [List.append_nil]
    exact .nil⟩
  | b :: bs, c, acc, hb, hl => by
    have h1 := hb b List.mem_cons_self
    obtain ⟨c', ih⟩ := nums_loop bs (c / b) (acc ++ [.int (c % b)]) (fun x hx => hb x (List.mem_cons_of_mem _ hx)) (by simp at hl ⊢; omega)
    refine ⟨c', ?_⟩
    have e : acc ++ (digs c (b :: bs)).map .int = (acc ++ [D.int (c % b)]) ++ (digs (c / b) bs).map .int := by
      rw [List.append_assoc]
      rfl
    rw [e]
    refine .next evg_name (evs_forget (j := 4) (s := .p (.int b)) ?_ rfl) ih
    show EvS K _ [.p c0, .p B, .p (.int c), .o acc, .p (.int b)] (.nx [.p c0, .p B, .p (.int (c / b)), .o (acc ++ [.int (c % b)]), .p (.int b)])
    exact evs_seq (evs_app (d := .int (c % b)) rfl (evd_op (evd_var rfl) (evd_var rfl) (ok_mod h1.1)) (size_lt (by simp at hl; omega)) rfl) (evs_set (d := .int (c / b)) (evd_op (evd_var rfl) (evd_var rfl) (ok_div h1)) rfl)
theorem e_numbers (h : R_numbers ds es) : EvS K (t__law_numbers K) (startR N__law_numbers ds) (.rtO es) := by
  obtain ⟨c, bs, rfl, hb, hl, rfl⟩ := h
  show EvS K _ [.p (.int c), .p (.lst (bs.map .int)), .no, .no, .no] _
  unfold t__law_numbers lawNums
  refine evs_seq (ρ1 := [.p (.int c), .p (.lst (bs.map .int)), .p (.int c), .no, .no]) (evs_set (d := .int c) (evd_var rfl) rfl) ?_
  refine evs_seq (ρ1 := [.p (.int c), .p (.lst (bs.map .int)), .p (.int (lawSeed c)), .no, .no]) ?_ ?_
  · refine evs_if (b := decide (c < 10 ^ 18)) (evt_test (evd_op (evd_var rfl) (evd_op evd_int evd_int (ok_pow ⟨by decide, by decide, by decide⟩)) ok_lt)) (fun h => ?_) (fun h => ?_)
    · have h1 := Int.emod_nonneg c (show (2147483647 : Int) ≠ 0 by decide)
      have h2 := Int.emod_lt_of_pos c (show (0 : Int) < 2147483647 by decide)
      unfold lawSeed
      rw [if_pos (of_decide_eq_true h)]
      refine evs_set (d := .int ((c % 2147483647 * 48271 + 12345) ^ 5 / 1013)) ?_ rfl
      exact evd_op (evd_op (evd_op (evd_op (evd_op (evd_var rfl) evd_int (ok_mod (by decide))) evd_int (ok_times (Or.inr ⟨by decide, by decide⟩))) evd_int ok_plus) evd_int (ok_pow ⟨by decide, by decide, by omega⟩)) evd_int (ok_div ⟨by decide, by decide⟩)
    · unfold lawSeed
      rw [if_neg (of_decide_eq_false h)]
      exact evs_next
  refine evs_seq (ρ1 := [.p (.int c), .p (.lst (bs.map .int)), .p (.int (lawSeed c)), .o [], .no]) (evs_setO (ds := []) (evo_lst eva_nil (Nat.zero_le _)) rfl) ?_
  obtain ⟨c', hf⟩ := nums_loop (K := K) (c0 := .int c) (B := .lst (bs.map .int)) bs (lawSeed c) [] hb (by simpa using hl)
  exact evs_seq (evs_for (evi_list (evd_var rfl)) hf) (evs_retO rfl)
theorem atI_last' {ds : List D} {x : D} : atI (ds ++ [x]) (-1) = some x := atI_last _ _
theorem worths_loop {A : D} {s : Int} (hs : inR 0 5000 s) : ∀ (gs : List Int) (last step : Int) (acc : List D), acc.length + gs.length ≤ 2000 →
    ∃ s', ForR K (gName 4) (tSeq (tDrop (tBM K "list" rAppend (tVar 2) (tCons (tOp zPlus (tOp (rIx K) (tVar 2) (tUn zNeg (tC (.int 1)))) (tOp zTimes (tVar 1) (tVar 3))) tNil))) (tAsg (tOp zPlus (tVar 3) (tVar 4)) (gName 3))) [.p A, .p (.int s), .o (acc ++ [.int last]), .p (.int step), .no] (gs.map .int) (.nx [.p A, .p (.int s), .o ((acc ++ [.int last]) ++ (worthsGo s last step gs).map .int), .p (.int s'), .no])
  | [], last, step, acc, _ => ⟨step, by
    show ForR K _ _ _ [] (.nx [.p A, .p (.int s), .o ((acc ++ [.int last]) ++ []), .p (.int step), .no])
    rw [List.append_nil]
    exact .nil⟩
  | g :: gs, last, step, acc, hl => by
    obtain ⟨s', ih⟩ := worths_loop hs gs (last + s * step) (step + g) (acc ++ [.int last]) (by simp at hl ⊢; omega)
    refine ⟨s', ?_⟩
    have e : (acc ++ [D.int last]) ++ (worthsGo s last step (g :: gs)).map .int = ((acc ++ [D.int last]) ++ [D.int (last + s * step)]) ++ (worthsGo s (last + s * step) (step + g) gs).map .int := by
      rw [List.append_assoc (acc ++ [D.int last])]
      rfl
    rw [e]
    refine .next evg_name (evs_forget (j := 4) (s := .p (.int g)) ?_ rfl) ih
    show EvS K _ [.p A, .p (.int s), .o (acc ++ [.int last]), .p (.int step), .p (.int g)] (.nx [.p A, .p (.int s), .o ((acc ++ [.int last]) ++ [.int (last + s * step)]), .p (.int (step + g)), .p (.int g)])
    exact evs_seq (evs_app (d := .int (last + s * step)) rfl (evd_op (evd_ixO rfl (evd_un evd_int ok_neg) atI_last') (evd_op (evd_var rfl) (evd_var rfl) (ok_times (by unfold inR at hs; exact Or.inl ⟨by omega, by omega⟩))) ok_plus) (size_lt (by simp at hl ⊢; omega)) rfl) (evs_set (d := .int (step + g)) (by walk_at "ev") rfl)
theorem ix_int {ws : List Int} (n : Nat) (h : n < ws.length) : Ok2 K (rIx K) (.lst (ws.map .int)) (.int (n : Int)) (.int (ws.getD n 0)) := ok_ix1 (atI_ints (by omega) (by omega))
theorem cut_drop {gs : List Int} (n : Nat) (h : n ≤ gs.length) : cutD (gs.map .int) (some (n : Int)) none = (gs.drop n).map .int := by
  unfold cutD
  rw [HT.sIx_nat, HT.sIx_none, List.length_map, Nat.min_eq_left h, List.map_drop]
  rw [List.take_of_length_le (by simp)]
theorem e_lworths (h : R_lworths ds es) : EvS K (t__law_worths K) (startR N__law_worths ds) (.rtO es) := by
  obtain ⟨gs, s, rfl, h2, h3, hs, rfl⟩ := h
  show EvS K _ [.p (.lst (gs.map .int)), .p (.int s), .no, .no, .no] _
  unfold t__law_worths lawWorths
  have i0 : Ok2 K (rIx K) (.lst (gs.map .int)) (.int 0) (.int (gs.getD 0 0)) := ix_int 0 (by omega)
  have i1 : Ok2 K (rIx K) (.lst (gs.map .int)) (.int 1) (.int (gs.getD 1 0)) := ix_int 1 (by omega)
  refine evs_seq (evs_setO (ds := [.int (s * (gs.getD 0 0 - 9))]) (by walk_at "ev") rfl) ?_
  refine evs_seq (evs_set (d := .int (gs.getD 1 0 - 6)) (by walk_at "ev") rfl) ?_
  obtain ⟨s', hf⟩ := worths_loop (K := K) (A := .lst (gs.map .int)) hs (gs.drop 2) (s * (gs.getD 0 0 - 9)) (gs.getD 1 0 - 6) [] (by simp; omega)
  refine evs_seq (evs_for (ds := (gs.drop 2).map .int) (evi_list ?_) hf) (evs_retO rfl)
  rw [← cut_drop 2 h2]
  exact EvO.evd (evo_sl (evd_var rfl) (evn_some evd_int) evn_none)
theorem scale_ix (k : Int) : atI [D.int 1, .int 1, .int 1, .int 5000] (k % 4) = some (.int (scaleOf k)) := by
  have h1 := Int.emod_nonneg k (show (4 : Int) ≠ 0 by decide)
  have h2 := Int.emod_lt_of_pos k (show (0 : Int) < 4 by decide)
  unfold scaleOf
  rcases (by omega : k % 4 = 0 ∨ k % 4 = 1 ∨ k % 4 = 2 ∨ k % 4 = 3) with e | e | e | e <;> rw [e] <;> rfl
theorem scale_in (k : Int) : inR 0 5000 (scaleOf k) := by
  unfold scaleOf inR
  split <;> omega
theorem cut_mid {dg : List Int} (hl : dg.length = 19) (h5 : inR 0 7 (dg.getD 5 0)) : cutD (dg.map .int) (some 8) (some (10 + dg.getD 5 0)) = (cutG dg).map .int := by
  unfold inR at h5
  have e : (10 + dg.getD 5 0 : Int) = ((10 + (dg.getD 5 0).toNat : Nat) : Int) := by omega
  unfold cutD cutG
  rw [e, List.length_map, hl, show HT.sIx 19 0 (some (8 : Int)) = 8 from rfl, HT.sIx_nat, List.map_take, List.map_drop]
  congr 1
  omega
theorem cutG_len {dg : List Int} (hl : dg.length = 19) : (cutG dg).length = min (2 + (dg.getD 5 0).toNat) 11 := by
  unfold cutG
  rw [List.length_take, List.length_drop, hl]
theorem r_lw {dg : List Int} (hl : dg.length = 19) {k : Int} : R_lworths [.lst ((cutG dg).map .int), .int (scaleOf k)] ((lawWorths (cutG dg) (scaleOf k)).map .int) := ⟨cutG dg, scaleOf k, rfl, by rw [cutG_len hl]; omega, by rw [cutG_len hl]; omega, scale_in k, rfl⟩
theorem e_single (h : R_single ds d) : EvS K (t__law_single K) (startR N__law_single ds) (.rt d) := by
  obtain ⟨dg, bot, rfl, hl, h5, rfl⟩ := h
  show EvS K _ [.p (.lst (dg.map .int)), .p (.int bot), .no, .no, .no, .no] _
  unfold t__law_single
  have i0 : Ok2 K (rIx K) (.lst (dg.map .int)) (.int 0) (.int (dg.getD 0 0)) := ix_int 0 (by omega)
  have i3 : Ok2 K (rIx K) (.lst (dg.map .int)) (.int 3) (.int (dg.getD 3 0)) := ix_int 3 (by omega)
  have i4 : Ok2 K (rIx K) (.lst (dg.map .int)) (.int 4) (.int (dg.getD 4 0)) := ix_int 4 (by omega)
  have i5 : Ok2 K (rIx K) (.lst (dg.map .int)) (.int 5) (.int (dg.getD 5 0)) := ix_int 5 (by omega)
  have i7 : Ok2 K (rIx K) (.lst (dg.map .int)) (.int 7) (.int (dg.getD 7 0)) := ix_int 7 (by omega)
  refine evs_seq (evs_set (d := .int (dg.getD 0 0 % 5)) (by walk_at "ev") rfl) ?_
  refine evs_seq (evs_set (d := .int (bot - 2 + dg.getD 3 0)) (by walk_at "ev") rfl) ?_
  unfold singleBs
  by_cases c0 : dg.getD 0 0 % 5 = 0
  · rw [if_pos c0]
    exact evs_yes (by walk_at "ev") (beq_iff_eq.mpr c0) (evs_ret (by show EvD K _ _ (.tup [.str "slope", .lst [.int (2 * dg.getD 4 0 - 5)]]); walk_at "ev"))
  rw [if_neg c0]
  refine evs_no (by walk_at "ev") (beq_eq_false_iff_ne.mpr c0) ?_
  by_cases c1 : dg.getD 0 0 % 5 = 1
  · rw [if_pos c1]
    exact evs_yes (by walk_at "ev") (beq_iff_eq.mpr c1) (evs_ret (by show EvD K _ _ (.tup [.str "aim", .lst [.int (bot - 2 + dg.getD 3 0), .int (dg.getD 4 0)]]); walk_at "ev"))
  rw [if_neg c1]
  refine evs_no (by walk_at "ev") (beq_eq_false_iff_ne.mpr c1) ?_
  by_cases c2 : dg.getD 0 0 % 5 = 2
  · rw [if_pos c2]
    exact evs_yes (by walk_at "ev") (beq_iff_eq.mpr c2) (evs_ret (by show EvD K _ _ (.tup [.str "square", .lst [.int (bot - 2 + dg.getD 3 0), .int (dg.getD 4 0 % 3)]]); walk_at "ev"))
  rw [if_neg c2]
  refine evs_no (by walk_at "ev") (beq_eq_false_iff_ne.mpr c2) ?_
  by_cases c3 : dg.getD 0 0 % 5 = 3
  · rw [if_pos c3]
    refine evs_yes (by walk_at "ev") (beq_iff_eq.mpr c3) (evs_seq (evs_set (d := .int (scaleOf (dg.getD 7 0))) (evd_op (evd_lst (by walk_at "ev") (Nat.le_of_ble_eq_true rfl)) (evd_op (evd_op (evd_var rfl) evd_int i7) evd_int (ok_mod (by decide))) (ok_ix1 (scale_ix _))) rfl) (evs_ret ?_))
    show EvD K _ _ (.tup [.str "row", .lst [.int (bot - 2 + dg.getD 3 0 % 4), .lst ((lawWorths (cutG dg) (scaleOf (dg.getD 7 0))).map .int)]])
    refine evd_tup (eva_cons evd_str (eva_cons (evd_lst (eva_cons (by walk_at "ev") (eva_cons (EvO.evd (evo_call0 (eva_cons (EvO.evd ?_) (eva_cons (evd_var rfl) eva_nil)) (r_lw hl))) eva_nil)) (Nat.le_of_ble_eq_true rfl)) eva_nil)) (Nat.le_of_ble_eq_true rfl)
    rw [← cut_mid hl h5]
    exact evo_sl (evd_var rfl) (evn_some evd_int) (evn_some (by walk_at "ev"))
  rw [if_neg c3]
  refine evs_no (by walk_at "ev") (beq_eq_false_iff_ne.mpr c3) ?_
  refine evs_seq (evs_set (d := .int (bot - 1 + dg.getD 3 0 % 4)) (by walk_at "ev") rfl) (evs_ret ?_)
  show EvD K _ _ (.tup [.str "wall", .lst [.int (bot - 1 + dg.getD 3 0 % 4), .int (bot - 1 + dg.getD 3 0 % 4 + dg.getD 5 0)]])
  walk_at "ev"
theorem e_double (h : R_double ds d) : EvS K (t__law_double K) (startR N__law_double ds) (.rt d) := by
  obtain ⟨dg, rfl, hl, h5, rfl⟩ := h
  show EvS K _ [.p (.lst (dg.map .int)), .no, .no] _
  unfold t__law_double
  have i0 : Ok2 K (rIx K) (.lst (dg.map .int)) (.int 0) (.int (dg.getD 0 0)) := ix_int 0 (by omega)
  have i3 : Ok2 K (rIx K) (.lst (dg.map .int)) (.int 3) (.int (dg.getD 3 0)) := ix_int 3 (by omega)
  have i4 : Ok2 K (rIx K) (.lst (dg.map .int)) (.int 4) (.int (dg.getD 4 0)) := ix_int 4 (by omega)
  have i5 : Ok2 K (rIx K) (.lst (dg.map .int)) (.int 5) (.int (dg.getD 5 0)) := ix_int 5 (by omega)
  have i7 : Ok2 K (rIx K) (.lst (dg.map .int)) (.int 7) (.int (dg.getD 7 0)) := ix_int 7 (by omega)
  refine evs_seq (evs_set (d := .int (dg.getD 0 0 % 6)) (by walk_at "ev") rfl) ?_
  unfold doubleBs
  by_cases c0 : dg.getD 0 0 % 6 < 3
  · rw [if_pos c0]
    exact evs_yes (by walk_at "ev") (decide_eq_true c0) (evs_ret (by show EvD K _ _ (.tup [.str "near", .lst [.int (dg.getD 3 0 % 7 - 3), .int (dg.getD 4 0)]]); walk_at "ev"))
  rw [if_neg c0]
  refine evs_no (by walk_at "ev") (decide_eq_false c0) ?_
  by_cases c3 : dg.getD 0 0 % 6 < 5
  · rw [if_pos c3]
    refine evs_yes (by walk_at "ev") (decide_eq_true c3) (evs_seq (evs_set (d := .int (scaleOf (dg.getD 7 0))) (evd_op (evd_lst (by walk_at "ev") (Nat.le_of_ble_eq_true rfl)) (evd_op (evd_op (evd_var rfl) evd_int i7) evd_int (ok_mod (by decide))) (ok_ix1 (scale_ix _))) rfl) (evs_ret ?_))
    show EvD K _ _ (.tup [.str "gaps", .lst [.int (dg.getD 3 0 % 5 - 4), .lst ((lawWorths (cutG dg) (scaleOf (dg.getD 7 0))).map .int)]])
    refine evd_tup (eva_cons evd_str (eva_cons (evd_lst (eva_cons (by walk_at "ev") (eva_cons (EvO.evd (evo_call0 (eva_cons (EvO.evd ?_) (eva_cons (evd_var rfl) eva_nil)) (r_lw hl))) eva_nil)) (Nat.le_of_ble_eq_true rfl)) eva_nil)) (Nat.le_of_ble_eq_true rfl)
    rw [← cut_mid hl h5]
    exact evo_sl (evd_var rfl) (evn_some evd_int) (evn_some (by walk_at "ev"))
  rw [if_neg c3]
  refine evs_no (by walk_at "ev") (decide_eq_false c3) (evs_ret ?_)
  show EvD K _ _ (.tup [.str "ahead", .lst [.int (dg.getD 3 0 % 7 - 2)]])
  walk_at "ev"
end

local macro_rules | `(tactic| walk_at "lk") => `(tactic| first
  | exact lk0
  | ((apply lk1); (first | decide +kernel | skip); walk_at "lk"))
section
variable {K : PySem.W.Frag} {ds es : List D} {d : D} {o : Out} {t : TT} {ts tu : TS} {ρ : Rho} {b : Bool}
/-! ### _law_part -/
theorem digs_get : ∀ (bs : List Int) (c : Int) (i : Nat), (∀ b ∈ bs, 0 < b) → i < bs.length → 0 ≤ (digs c bs).getD i 0 ∧ (digs c bs).getD i 0 < bs.getD i 0
  | [], _, _, _, h => by simp at h
  | b :: bs, c, 0, hb, _ => by
    have h := hb b List.mem_cons_self
    exact ⟨Int.emod_nonneg c (by omega), Int.emod_lt_of_pos c h⟩
  | b :: bs, c, i + 1, hb, h => digs_get bs (c / b) i (fun x hx => hb x (List.mem_cons_of_mem _ hx)) (by simpa using h)
theorem bounds_ok {many bot top : Int} (h1 : inR 1 8 many) (h2 : inR (-50) 50 bot) (h3 : inR bot 50 top) : ∀ b ∈ boundsOf many bot top, 0 < b ∧ b < 1073741824 := by
  unfold inR at h1 h2 h3
  unfold boundsOf
  simp only [List.mem_cons, List.not_mem_nil, or_false, forall_eq_or_imp, forall_eq]
  split <;> omega
theorem halved_len (dg : List Int) : (halved dg).length = dg.length := by unfold halved; rw [List.length_set]
theorem halved_get (dg : List Int) {i : Nat} (h : i ≠ 0) : (halved dg).getD i 0 = dg.getD i 0 := by
  unfold halved
  rw [List.getD_eq_getElem?_getD, List.getElem?_set_ne (fun e => h e.symm), ← List.getD_eq_getElem?_getD]
theorem halved_get0 (dg : List Int) (h : 0 < dg.length) : (halved dg).getD 0 0 = dg.getD 0 0 / 2 := by
  unfold halved
  rw [List.getD_eq_getElem?_getD, List.getElem?_set_self h]
  rfl
theorem halved_map (dg : List Int) : (dg.map D.int).set 0 (.int (dg.getD 0 0 / 2)) = (halved dg).map .int := by
  unfold halved
  rw [List.map_set]
theorem atI_lit {dg : List Int} (n : Nat) (h : n < dg.length) : atI (dg.map D.int) (n : Int) = some (.int (dg.getD n 0)) := atI_ints (by omega) (by omega)
theorem wraps_ix {dg : List Int} (h0 : 0 ≤ dg.getD 6 0) (h1 : dg.getD 6 0 < 8) : atI ([.lst [], .lst [], .lst [], .lst [.tup [.str "times", .int (1 + dg.getD 7 0 * dg.getD 7 0)]], .lst [.tup [.str "moved", .int (dg.getD 7 0 - 2)]], .lst [.tup [.str "times", .int 2], .tup [.str "moved", .int (dg.getD 7 0 - 2)]],
    .lst [.tup [.str "moved", .int (dg.getD 7 0 - 2)], .tup [.str "moved", .int 3]], .lst [.tup [.str "moved", .int (-1)], .tup [.str "times", .int 3], .tup [.str "times", .int 2]]] : List D) (dg.getD 6 0) = some (.lst ((wrapsOf dg).map wrT)) := by
  unfold wrapsOf
  rcases (by omega : dg.getD 6 0 = 0 ∨ dg.getD 6 0 = 1 ∨ dg.getD 6 0 = 2 ∨ dg.getD 6 0 = 3 ∨ dg.getD 6 0 = 4 ∨ dg.getD 6 0 = 5 ∨ dg.getD 6 0 = 6 ∨ dg.getD 6 0 = 7) with e | e | e | e | e | e | e | e <;> rw [e] <;> rfl
theorem e_part (h : R_part ds d) : EvS K (t__law_part K) (startR N__law_part ds) (.rt d) := by
  obtain ⟨cell, many, bot, top, rfl, h1, h2, h3, rfl⟩ := h
  show EvS K _ [.p (.int cell), .p (.int many), .p (.int bot), .p (.int top), .no, .no, .no, .no, .no, .no, .no] _
  unfold t__law_part
  have hb := bounds_ok h1 h2 h3
  have hb0 : ∀ b ∈ boundsOf many bot top, 0 < b := fun b h => (hb b h).1
  generalize hdg : lawNums cell (boundsOf many bot top) = dg
  have hl : dg.length = 19 := by rw [← hdg]; exact digs_len _ _
  have g : ∀ i, i < 19 → 0 ≤ dg.getD i 0 ∧ dg.getD i 0 < (boundsOf many bot top).getD i 0 := fun i hi => by rw [← hdg]; exact digs_get _ _ i hb0 hi
  have g5 : 0 ≤ dg.getD 5 0 ∧ dg.getD 5 0 < 8 := g 5 (by decide)
  have g6 : 0 ≤ dg.getD 6 0 ∧ dg.getD 6 0 < 8 := g 6 (by decide)
  have g7 : 0 ≤ dg.getD 7 0 ∧ dg.getD 7 0 < 5 := g 7 (by decide)
  refine evs_seq (ρ1 := [.p (.int cell), .p (.int many), .p (.int bot), .p (.int top), .p (.lst ((boundsOf many bot top).map .int)), .no, .no, .no, .no, .no, .no]) (evs_set (d := .lst ((boundsOf many bot top).map .int)) (evd_is (d := .lst (([.int 30, .int many, .int (if many - 1 > 1 then many - 1 else 1), .int (top - bot + 5), .int 6, .int 8, .int 8, .int 5] ++ [.int 19, .int 13]) ++ (List.replicate (Int.toNat 9) [D.int 4]).flatten)) (by walk_at "ev") rfl) rfl) ?_
  refine evs_seq (ρ1 := [.p (.int cell), .p (.int many), .p (.int bot), .p (.int top), .p (.lst ((boundsOf many bot top).map .int)), .o (dg.map .int), .no, .no, .no, .no, .no]) (evs_setO (ds := dg.map .int) (evo_call0 (by walk_at "ev") ⟨cell, _, rfl, hb, Nat.le_of_ble_eq_true rfl, by rw [hdg]⟩) rfl) ?_
  have x0 : atI (dg.map D.int) 0 = some (.int (dg.getD 0 0)) := atI_lit 0 (by omega)
  have x1 : atI (dg.map D.int) 1 = some (.int (dg.getD 1 0)) := atI_lit 1 (by omega)
  have x2 : atI (dg.map D.int) 2 = some (.int (dg.getD 2 0)) := atI_lit 2 (by omega)
  refine evs_seq (ρ1 := [.p (.int cell), .p (.int many), .p (.int bot), .p (.int top), .p (.lst ((boundsOf many bot top).map .int)), .o (dg.map .int), .o [.int (dg.getD 1 0)], .no, .no, .no, .no]) (evs_setO (ds := [.int (dg.getD 1 0)]) (evo_lst (eva_cons (evd_ixO rfl evd_int x1) eva_nil) (Nat.le_of_ble_eq_true rfl)) rfl) ?_
  have hg : genPt cell many bot top = if many > 1 ∧ dg.getD 0 0 % 2 = 0 then ⟨[dg.getD 1 0, (dg.getD 1 0 + 1 + dg.getD 2 0) % many], doubleBs (halved dg), wrapsOf (halved dg)⟩ else ⟨[dg.getD 1 0], singleBs (halved dg) bot, wrapsOf (halved dg)⟩ := by
    unfold genPt
    rw [hdg]
  have hw : (genPt cell many bot top).wraps = wrapsOf (halved dg) := by rw [hg]; split <;> rfl
  have hh5 : inR 0 7 ((halved dg).getD 5 0) := by rw [halved_get dg (by decide)]; unfold inR; omega
  have hhl : (halved dg).length = 19 := by rw [halved_len]; exact hl
  refine evs_seq (ρ1 := [.p (.int cell), .p (.int many), .p (.int bot), .p (.int top), .p (.lst ((boundsOf many bot top).map .int)), .p (.lst ((halved dg).map .int)), .o ((genPt cell many bot top).whr.map .int), .p (.str (genPt cell many bot top).base.word), .p (.lst (genPt cell many bot top).base.nums), .no, .no]) ?_ ?_
  · have tst : EvT K (tAnd (tTest (tOp zGt (tVar 1) (tC (.int 1)))) (tTest (tOp (zEq K) (tOp zMod (tOp (rIx K) (tVar 5) (tC (.int 0))) (tC (.int 2))) (tC (.int 0))))) [.p (.int cell), .p (.int many), .p (.int bot), .p (.int top), .p (.lst ((boundsOf many bot top).map .int)), .o (dg.map .int), .o [.int (dg.getD 1 0)], .no, .no, .no, .no] (decide (1 < many) && (dg.getD 0 0 % 2 == 0)) :=
      evt_and (by walk_at "ev") (fun _ => evt_test (evd_op (evd_op (evd_ixO rfl evd_int x0) evd_int (ok_mod (by decide))) evd_int ok_eqII))
    unfold inR at h1
    by_cases c : many > 1 ∧ dg.getD 0 0 % 2 = 0
    · rw [hg, if_pos c]
      refine evs_if (b := true) (evt_is tst (by rw [decide_eq_true c.1, c.2]; rfl)) (fun _ => ?_) (fun z => nomatch z)
      refine evs_seq (evs_app (d := .int ((dg.getD 1 0 + 1 + dg.getD 2 0) % many)) rfl (evd_op (evd_op (evd_op (evd_ixO rfl evd_int x1) evd_int ok_plus) (evd_ixO rfl evd_int x2) ok_plus) (evd_var rfl) (ok_mod (by omega))) (Nat.le_of_ble_eq_true rfl) rfl) ?_
      refine evs_seq (evs_setIx (j := 0) (d := .int (dg.getD 0 0 / 2)) rfl (evd_op (evd_ixO rfl evd_int x0) evd_int (ok_div ⟨by decide, by decide⟩)) evd_int (by rw [List.length_map, hl]; rfl) (by rw [halved_map])) ?_
      exact evs_pub (i := 5) (ds := (halved dg).map .int) rfl (evs_asg (evd_call0 (eva_cons (evd_var rfl) eva_nil) ⟨halved dg, rfl, hhl, hh5, rfl⟩) (evg_tup (evgs_cons evg_name (evgs_cons evg_name evgs_nil)) rfl))
    · rw [hg, if_neg c]
      refine evs_if (b := false) (evt_is tst ?_) (fun z => nomatch z) (fun _ => ?_)
      · by_cases c1 : 1 < many
        · have c2 : ¬ dg.getD 0 0 % 2 = 0 := fun q => c ⟨c1, q⟩
          rw [beq_eq_false_iff_ne.mpr c2, Bool.and_false]
        · rw [decide_eq_false c1]; rfl
      refine evs_seq (evs_setIx (j := 0) (d := .int (dg.getD 0 0 / 2)) rfl (evd_op (evd_ixO rfl evd_int x0) evd_int (ok_div ⟨by decide, by decide⟩)) evd_int (by rw [List.length_map, hl]; rfl) (by rw [halved_map])) ?_
      exact evs_pub (i := 5) (ds := (halved dg).map .int) rfl (evs_asg (evd_call0 (eva_cons (evd_var rfl) (eva_cons (evd_var rfl) eva_nil)) ⟨halved dg, bot, rfl, hhl, hh5, rfl⟩) (evg_tup (evgs_cons evg_name (evgs_cons evg_name evgs_nil)) rfl))
  have i6 : Ok2 K (rIx K) (.lst ((halved dg).map .int)) (.int 6) (.int ((halved dg).getD 6 0)) := ix_int 6 (by omega)
  have i7 : Ok2 K (rIx K) (.lst ((halved dg).map .int)) (.int 7) (.int ((halved dg).getD 7 0)) := ix_int 7 (by omega)
  have k6 : 0 ≤ (halved dg).getD 6 0 ∧ (halved dg).getD 6 0 < 8 := by rw [halved_get dg (by decide)]; exact g6
  have k7 : 0 ≤ (halved dg).getD 7 0 ∧ (halved dg).getD 7 0 < 5 := by rw [halved_get dg (by decide)]; exact g7
  generalize hp : genPt cell many bot top = p at hw
  generalize halved dg = e at *
  refine evs_seq (ρ1 := [.p (.int cell), .p (.int many), .p (.int bot), .p (.int top), .p (.lst ((boundsOf many bot top).map .int)), .p (.lst (e.map .int)), .o (p.whr.map .int), .p (.str p.base.word), .p (.lst p.base.nums), .p (.int (e.getD 7 0 - 2)), .no]) (evs_set (d := .int (e.getD 7 0 - 2)) (by walk_at "ev") rfl) ?_
  refine evs_seq (evs_set (d := .lst [.lst [], .lst [], .lst [], .lst [.tup [.str "times", .int (1 + e.getD 7 0 * e.getD 7 0)]], .lst [.tup [.str "moved", .int (e.getD 7 0 - 2)]], .lst [.tup [.str "times", .int 2], .tup [.str "moved", .int (e.getD 7 0 - 2)]]]) (by walk_at "ev") rfl) ?_
  refine evs_seq (evs_set (d := .lst ([.lst [], .lst [], .lst [], .lst [.tup [.str "times", .int (1 + e.getD 7 0 * e.getD 7 0)]], .lst [.tup [.str "moved", .int (e.getD 7 0 - 2)]], .lst [.tup [.str "times", .int 2], .tup [.str "moved", .int (e.getD 7 0 - 2)]]] ++ [.lst [.tup [.str "moved", .int (e.getD 7 0 - 2)], .tup [.str "moved", .int 3]], .lst [.tup [.str "moved", .int (-1)], .tup [.str "times", .int 3], .tup [.str "times", .int 2]]])) (by walk_at "ev") rfl) ?_
  refine evs_pub (i := 6) (ds := p.whr.map .int) rfl (evs_ret ?_)
  show EvD K _ _ (.tup [.str p.base.word, .lst (p.whr.map .int), .lst p.base.nums, .lst (p.wraps.map wrT)])
  rw [hw]
  exact evd_tup (eva_cons (evd_var rfl) (eva_cons (evd_var rfl) (eva_cons (evd_var rfl) (eva_cons (evd_op (evd_var rfl) (evd_op (evd_var rfl) evd_int i6) (ok_ix1 (wraps_ix k6.1 k6.2))) eva_nil)))) (Nat.le_of_ble_eq_true rfl)
/-! ### _law_at -/
theorem at_loop {P A B C W : D} : ∀ (ws : List Wr) (r m : Int), (∀ w ∈ ws, w.ok) →
    ForR K (gTup K 2 (gCons (gName 7) (gCons (gName 8) gNil))) (tIfS (tTest (tOp (zEq K) (tVar 7) (tC (.str "times")))) (tAsg (tOp zTimes (tVar 6) (tVar 8)) (gName 6)) (tAsg (tOp zSub (tVar 1) (tVar 8)) (gName 1)))
      [.p P, .p (.int r), .p A, .p B, .p C, .p W, .p (.int m), .no, .no, .no, .no] (ws.map wrT) (.nx [.p P, .p (.int (lawReads ws r)), .p A, .p B, .p C, .p W, .p (.int (lawMany ws m)), .no, .no, .no, .no])
  | [], r, m, _ => .nil
  | .times n :: ws, r, m, h => by
    have hn : inR 1 100 n := h (.times n) List.mem_cons_self
    refine .next (ρ1 := [.p P, .p (.int r), .p A, .p B, .p C, .p W, .p (.int m), .p (.str "times"), .p (.int n), .no, .no]) (evg_tup (evgs_cons evg_name (evgs_cons evg_name evgs_nil)) rfl) ?_ (at_loop ws r (m * n) fun w hw => h w (List.mem_cons_of_mem _ hw))
    refine evs_forget (j := 7) (s := .p (.str "times")) (evs_forget (j := 8) (s := .p (.int n)) ?_ rfl) rfl
    exact evs_if (b := true) (evt_is (by walk_at "ev") (by decide +kernel)) (fun _ => evs_set (d := .int (m * n)) (evd_op (evd_var rfl) (evd_var rfl) (ok_times (by unfold inR at hn; exact Or.inr ⟨by omega, by omega⟩))) rfl) (fun z => nomatch z)
  | .moved n :: ws, r, m, h => by
    refine .next (ρ1 := [.p P, .p (.int r), .p A, .p B, .p C, .p W, .p (.int m), .p (.str "moved"), .p (.int n), .no, .no]) (evg_tup (evgs_cons evg_name (evgs_cons evg_name evgs_nil)) rfl) ?_ (at_loop ws (r - n) m fun w hw => h w (List.mem_cons_of_mem _ hw))
    refine evs_forget (j := 7) (s := .p (.str "moved")) (evs_forget (j := 8) (s := .p (.int n)) ?_ rfl) rfl
    exact evs_if (b := false) (evt_is (by walk_at "ev") (by decide +kernel)) (fun z => nomatch z) (fun _ => evs_set (d := .int (r - n)) (by walk_at "ev") rfl)
theorem lawReads_in : ∀ (ws : List Wr) (r : Int), (∀ w ∈ ws, w.ok) → r - 100 * (ws.length : Int) ≤ lawReads ws r ∧ lawReads ws r ≤ r + 100 * (ws.length : Int)
  | [], r, _ => by show r - 100 * 0 ≤ r ∧ r ≤ r + 100 * 0; omega
  | .times n :: ws, r, h => by
    have ih := lawReads_in ws r fun w hw => h w (List.mem_cons_of_mem _ hw)
    show _ ≤ lawReads ws r ∧ lawReads ws r ≤ _
    rw [List.length_cons]
    omega
  | .moved n :: ws, r, h => by
    have hn : inR (-100) 100 n := h (.moved n) List.mem_cons_self
    unfold inR at hn
    have ih := lawReads_in ws (r - n) fun w hw => h w (List.mem_cons_of_mem _ hw)
    show _ ≤ lawReads ws (r - n) ∧ lawReads ws (r - n) ≤ _
    rw [List.length_cons]
    omega
theorem iabs_in {i b : Int} (h : -b < i ∧ i < b) : -b < iabs i ∧ iabs i < b := by
  unfold iabs
  split <;> omega
theorem e_at (h : R_at ds d) : EvS K (t__law_at K) (startR N__law_at ds) (.rt d) := by
  obtain ⟨p, r, rfl, hp, hr, rfl⟩ := h
  show EvS K _ [.p (ptD p), .p (.int r), .no, .no, .no, .no, .no, .no, .no, .no, .no] _
  unfold t__law_at
  refine evs_seq (ρ1 := [.p (ptD p), .p (.int r), .p (.str p.base.word), .p (intsD p.whr), .p (.lst p.base.nums), .p (.lst (p.wraps.map wrT)), .no, .no, .no, .no, .no]) (evs_asg (evd_var rfl) (evg_tup (evgs_cons evg_name (evgs_cons evg_name (evgs_cons evg_name (evgs_cons evg_name evgs_nil)))) rfl)) ?_
  refine evs_seq (evs_set (d := .int 1) evd_int rfl) ?_
  refine evs_seq (evs_for (evi_list (evd_var rfl)) (at_loop p.wraps r 1 hp.wraps)) ?_
  have hb := lawReads_in p.wraps r hp.wraps
  have hd := hp.deep
  unfold lawAt
  unfold inR far at hr
  generalize lawReads p.wraps r = q at *
  generalize lawMany p.wraps 1 = m at *
  have hq : -(2 ^ 64) < q ∧ q < 2 ^ 64 := by omega
  obtain ⟨whr, bs, ws⟩ := p
  have hbs : bs.ok := hp.base
  have nt : ∀ {ρ : Rho} {w : Str} {ws : List Str} {ts tu : TS} {o : Out} {ta : TA}, ρ[2]? = some (.p (.str w)) → EvA K ta ρ (ws.map .str) → ws.length ≤ 10 → flatDs (ws.map .str) = some (ws.map .str) → (ws.map V.str).all flatV = true → inV (.str w) (ws.map .str) = false → EvS K tu ρ o → EvS K (tSeq (tIfS (tTest (tOp (rIn K false) (tVar 2) (tTup ta))) ts tNext) tu) ρ o := fun h1 h2 h3 h4 h5 h6 h7 =>
    evs_no (evt_test (evd_op (evd_var h1) (evd_tup h2 (size_le (by rw [List.length_map]; omega))) (ok_inT rfl h4 rfl h5))) (by show inV _ _ = false; exact h6) h7
  have yt : ∀ {ρ : Rho} {w : Str} {ws : List Str} {ts tu : TS} {d : D} {ta : TA}, ρ[2]? = some (.p (.str w)) → EvA K ta ρ (ws.map .str) → ws.length ≤ 10 → flatDs (ws.map .str) = some (ws.map .str) → (ws.map V.str).all flatV = true → inV (.str w) (ws.map .str) = true → EvS K ts ρ (.rt d) → EvS K (tSeq (tIfS (tTest (tOp (rIn K false) (tVar 2) (tTup ta))) ts tNext) tu) ρ (.rt d) := fun h1 h2 h3 h4 h5 h6 h7 =>
    evs_yes (evt_test (evd_op (evd_var h1) (evd_tup h2 (size_le (by rw [List.length_map]; omega))) (ok_inT rfl h4 rfl h5))) (by show inV _ _ = true; exact h6) h7
  have a1 : ∀ ρ, EvA K (tCons (tC (.str "aim")) (tCons (tC (.str "near")) tNil)) ρ ((["aim", "near"] : List Str).map D.str) := fun ρ => eva_cons evd_str (eva_cons evd_str eva_nil)
  have a2 : ∀ ρ, EvA K (tCons (tC (.str "row")) (tCons (tC (.str "gaps")) tNil)) ρ ((["row", "gaps"] : List Str).map D.str) := fun ρ => eva_cons evd_str (eva_cons evd_str eva_nil)
  cases bs with
  | slope w =>
    have hw : inR (-1000) 1000 w := hbs
    unfold inR at hw
    exact evs_yes (by walk_at "ev") (by kernel_rfl) (evs_ret (evd_op (evd_op (evd_var rfl) (evd_op (evd_var rfl) evd_int (ok_ix1 rfl)) (ok_times (Or.inr ⟨by omega, by omega⟩))) (evd_var rfl) (ok_times (Or.inr hq))))
  | aim a w =>
    have hw : inR (-100) 100 a ∧ inR 0 1000 w := hbs
    unfold inR at hw
    refine evs_no (by walk_at "ev") (by kernel_rfl) (yt rfl (a1 _) (by decide) rfl rfl (by kernel_rfl) (evs_ret ?_))
    exact evd_op (evd_op (evd_var rfl) (evd_op (evd_var rfl) evd_int (ok_ix1 rfl)) (ok_times (Or.inr ⟨by omega, by omega⟩))) (evd_cb (eva_cons (evd_op (evd_var rfl) (evd_op (evd_var rfl) evd_int (ok_ix1 rfl)) ok_sub) eva_nil) ok_abs) (ok_times (Or.inr (iabs_in ⟨by omega, by omega⟩)))
  | near a w =>
    have hw : inR (-100) 100 a ∧ inR 0 1000 w := hbs
    unfold inR at hw
    refine evs_no (by walk_at "ev") (by kernel_rfl) (yt rfl (a1 _) (by decide) rfl rfl (by kernel_rfl) (evs_ret ?_))
    exact evd_op (evd_op (evd_var rfl) (evd_op (evd_var rfl) evd_int (ok_ix1 rfl)) (ok_times (Or.inr ⟨by omega, by omega⟩))) (evd_cb (eva_cons (evd_op (evd_var rfl) (evd_op (evd_var rfl) evd_int (ok_ix1 rfl)) ok_sub) eva_nil) ok_abs) (ok_times (Or.inr (iabs_in ⟨by omega, by omega⟩)))
  | square a w =>
    have hw : inR (-100) 100 a ∧ inR 0 1000 w := hbs
    unfold inR at hw
    refine evs_no (by walk_at "ev") (by kernel_rfl) (nt rfl (a1 _) (by decide) rfl rfl (by kernel_rfl) (evs_yes (by walk_at "ev") (by kernel_rfl) ?_))
    refine evs_seq (evs_set (d := .int (q - a)) (evd_op (evd_var rfl) (evd_op (evd_var rfl) evd_int (ok_ix1 rfl)) ok_sub) rfl) (evs_ret ?_)
    exact evd_op (evd_op (evd_op (evd_var rfl) (evd_op (evd_var rfl) evd_int (ok_ix1 rfl)) (ok_times (Or.inr ⟨by omega, by omega⟩))) (evd_var rfl) (ok_times (Or.inr ⟨by omega, by omega⟩))) (evd_var rfl) (ok_times (Or.inr ⟨by omega, by omega⟩))
  | row f xs =>
    refine evs_no (by walk_at "ev") (by kernel_rfl) (nt rfl (a1 _) (by decide) rfl rfl (by kernel_rfl) (evs_no (by walk_at "ev") (by kernel_rfl) (yt rfl (a2 _) (by decide) rfl rfl (by kernel_rfl) ?_)))
    have hx : ∀ x ∈ xs, inR (-1000000) 1000000 x := hbs.2.2.2.1
    refine evs_seq (evs_set (d := .int (q - f)) (evd_op (evd_var rfl) (evd_op (evd_var rfl) evd_int (ok_ix1 rfl)) ok_sub) rfl) (evs_ret ?_)
    refine evd_if (evt_is (evt_test (evd_chain evd_int (evd_var rfl) ok_le (fun _ => evd_cb (eva_cons (evd_op (evd_var rfl) evd_int (ok_ix1 (d := .lst (xs.map .int)) rfl)) eva_nil) ok_lenL) (fun _ => ok_lt))) dec2) (fun h => ?_) (fun h => ?_)
    · have c := of_decide_eq_true h
      rw [List.length_map] at c
      show EvD K _ _ (optD ((rowAt f xs q).map (m * ·)))
      rw [rowAt_some c]
      have hv := hx _ (show xs.getD (q - f).toNat 0 ∈ xs by
        have hl : (q - f).toNat < xs.length := by omega
        rw [List.getD_eq_getElem?_getD, List.getElem?_eq_getElem hl]
        exact List.getElem_mem hl)
      unfold inR at hv
      exact evd_op (evd_var rfl) (evd_op (evd_op (evd_var rfl) evd_int (ok_ix1 (d := .lst (xs.map .int)) rfl)) (evd_var rfl) (ok_ix1 (atI_ints c.1 c.2))) (ok_times (Or.inr ⟨by omega, by omega⟩))
    · have c := of_decide_eq_false h
      rw [List.length_map] at c
      show EvD K _ _ (optD ((rowAt f xs q).map (m * ·)))
      rw [rowAt_none c]
      exact evd_non
  | gaps f xs =>
    refine evs_no (by walk_at "ev") (by kernel_rfl) (nt rfl (a1 _) (by decide) rfl rfl (by kernel_rfl) (evs_no (by walk_at "ev") (by kernel_rfl) (yt rfl (a2 _) (by decide) rfl rfl (by kernel_rfl) ?_)))
    have hx : ∀ x ∈ xs, inR (-1000000) 1000000 x := hbs.2.2.2.1
    refine evs_seq (evs_set (d := .int (q - f)) (evd_op (evd_var rfl) (evd_op (evd_var rfl) evd_int (ok_ix1 rfl)) ok_sub) rfl) (evs_ret ?_)
    refine evd_if (evt_is (evt_test (evd_chain evd_int (evd_var rfl) ok_le (fun _ => evd_cb (eva_cons (evd_op (evd_var rfl) evd_int (ok_ix1 (d := .lst (xs.map .int)) rfl)) eva_nil) ok_lenL) (fun _ => ok_lt))) dec2) (fun h => ?_) (fun h => ?_)
    · have c := of_decide_eq_true h
      rw [List.length_map] at c
      show EvD K _ _ (optD ((rowAt f xs q).map (m * ·)))
      rw [rowAt_some c]
      have hv := hx _ (show xs.getD (q - f).toNat 0 ∈ xs by
        have hl : (q - f).toNat < xs.length := by omega
        rw [List.getD_eq_getElem?_getD, List.getElem?_eq_getElem hl]
        exact List.getElem_mem hl)
      unfold inR at hv
      exact evd_op (evd_var rfl) (evd_op (evd_op (evd_var rfl) evd_int (ok_ix1 (d := .lst (xs.map .int)) rfl)) (evd_var rfl) (ok_ix1 (atI_ints c.1 c.2))) (ok_times (Or.inr ⟨by omega, by omega⟩))
    · have c := of_decide_eq_false h
      rw [List.length_map] at c
      show EvD K _ _ (optD ((rowAt f xs q).map (m * ·)))
      rw [rowAt_none c]
      exact evd_non
  | wall lo hi =>
    refine evs_no (by walk_at "ev") (by kernel_rfl) (nt rfl (a1 _) (by decide) rfl rfl (by kernel_rfl) (evs_no (by walk_at "ev") (by kernel_rfl) (nt rfl (a2 _) (by decide) rfl rfl (by kernel_rfl) (evs_yes (by walk_at "ev") (by kernel_rfl) (evs_ret ?_)))))
    show EvD K _ _ (optD (if lo ≤ q ∧ q ≤ hi then some 0 else none))
    refine evd_if (evt_is (evt_test (evd_chain (evd_op (evd_var rfl) evd_int (ok_ix1 rfl)) (evd_var rfl) ok_le (fun _ => evd_op (evd_var rfl) evd_int (ok_ix1 rfl)) (fun _ => ok_le))) dec2) (fun h => ?_) (fun h => ?_)
    · rw [if_pos (of_decide_eq_true h)]; exact evd_int
    · rw [if_neg (of_decide_eq_false h)]; exact evd_non
  | ahead g =>
    refine evs_no (by walk_at "ev") (by kernel_rfl) (nt rfl (a1 _) (by decide) rfl rfl (by kernel_rfl) (evs_no (by walk_at "ev") (by kernel_rfl) (nt rfl (a2 _) (by decide) rfl rfl (by kernel_rfl) (evs_no (by walk_at "ev") (by kernel_rfl) (evs_ret ?_)))))
    show EvD K _ _ (optD (if q ≤ g then some 0 else none))
    refine evd_if (evt_test (evd_op (evd_var rfl) (evd_op (evd_var rfl) evd_int (ok_ix1 rfl)) ok_le)) (fun h => ?_) (fun h => ?_)
    · rw [if_pos (of_decide_eq_true h)]; exact evd_int
    · rw [if_neg (of_decide_eq_false h)]; exact evd_non
end

section
variable {K : PySem.W.Frag} {ds es : List D} {d : D}
theorem r_at {p : Pt} {r : Int} (hp : p.Ok) (hr : inR (-far) far r) : R_at [ptD p, .int r] (optD (lawAt p r)) := ⟨p, r, rfl, hp, hr, rfl⟩
theorem mkn1 {xs ks : List D} : ∀ B vs zs x, Reps K B xs vs → Reps K B ks zs → ∃ us, gv_Square_2_weight (.ref x :: vs) zs = .ref x :: us ∧ Reps K B (xs ++ ks) us := fun B vs zs x r1 r2 => ⟨vs ++ zs, rfl, r1.app r2⟩
theorem mkn2 {xs ks : List D} : ∀ B vs zs x, Reps K B xs vs → Reps K B ks zs → ∃ us, gv_Near_2_weight (.ref x :: vs) zs = .ref x :: us ∧ Reps K B (xs ++ (.int 0 :: ks)) us := fun B vs zs x r1 r2 => ⟨vs ++ (.int 0 :: zs), rfl, r1.app (.cons (.int 0) r2)⟩
theorem atI_zero (a : D) (as : List D) : atI (a :: as) 0 = some a := by
  unfold atI ixN
  rw [if_pos (Int.le_refl 0), if_pos (by rw [List.length_cons]; omega)]
  rfl
theorem isp (x : Str) (h : partNames.contains x = true) : IsP K (ga K x) := ⟨x, List.contains_iff_mem.mp h, rfl⟩
theorem goodW {ws : List Int} (h : 1 ≤ ws.length ∧ ws.length ≤ 40 ∧ (∀ x ∈ ws, inR (-1000000) 1000000 x) ∧ rising ws) : GoodW ws := h
theorem e_base (h : R_base K ds d) : EvS K (t__law_base K) (startR N__law_base ds) (.rt d) := by
  obtain ⟨p, rfl, hp, rfl⟩ := h
  show EvS K _ [.p (ptD p), .no, .no, .no, .no] _
  unfold t__law_base
  refine evs_seq (ρ1 := [.p (ptD p), .p (.str p.base.word), .p (intsD p.whr), .p (.lst p.base.nums), .p (.lst (p.wraps.map wrT))]) (evs_asg (evd_var rfl) (evg_tup (evgs_cons evg_name (evgs_cons evg_name (evgs_cons evg_name (evgs_cons evg_name evgs_nil)))) rfl)) ?_
  have hw0 := hp.whr
  have h1 := hp.one
  have h2 := hp.two
  have hbs := hp.base
  obtain ⟨whr, bs, ws⟩ := p
  have x1 : ∀ {a : Int} {ts : List Slot} {s0 s1 : Slot}, EvD K (tOp (rIx K) (tVar 2) (tC (.int 0))) (s0 :: s1 :: .p (intsD [a]) :: ts) (.int a) := evd_op (evd_var rfl) evd_int (ok_ix1 rfl)
  have x2 : ∀ {a b : Int} {ts : List Slot} {s0 s1 : Slot}, EvD K (tOp (rIx K) (tVar 2) (tC (.int 0))) (s0 :: s1 :: .p (intsD [a, b]) :: ts) (.int a) := evd_op (evd_var rfl) evd_int (ok_ix1 rfl)
  have x3 : ∀ {a b : Int} {ts : List Slot} {s0 s1 : Slot}, EvD K (tOp (rIx K) (tVar 2) (tC (.int 1))) (s0 :: s1 :: .p (intsD [a, b]) :: ts) (.int b) := evd_op (evd_var rfl) evd_int (ok_ix1 rfl)
  have y1 : ∀ {a : D} {as : List D} {ts : List Slot} {s0 s1 s2 : Slot}, EvD K (tOp (rIx K) (tVar 3) (tC (.int 0))) (s0 :: s1 :: s2 :: .p (.lst (a :: as)) :: ts) a := fun {a as ts s0 s1 s2} => evd_op (evd_var rfl) evd_int (ok_ix1 (atI_zero _ _))
  have y2 : ∀ {a b : D} {ts : List Slot} {s0 s1 s2 : Slot}, EvD K (tOp (rIx K) (tVar 3) (tC (.int 1))) (s0 :: s1 :: s2 :: .p (.lst [a, b]) :: ts) b := evd_op (evd_var rfl) evd_int (ok_ix1 rfl)
  cases bs with
  | slope w =>
    obtain ⟨a, rfl⟩ := h1 rfl
    exact evs_yes (by walk_at "ev") (by kernel_rfl) (evs_ret (evd_make0 (es := [.int a, .int w]) (eva_cons x1 (eva_cons y1 eva_nil)) ⟨isp _ (by kernel_rfl), a, w, rfl, hw0 a List.mem_cons_self, hbs, rfl, rfl⟩))
  | aim m w =>
    obtain ⟨a, rfl⟩ := h1 rfl
    exact evs_no (by walk_at "ev") (by kernel_rfl) (evs_yes (by walk_at "ev") (by kernel_rfl) (evs_ret (evd_make0 (es := [.int a, .int m, .int w]) (eva_cons x1 (eva_cons y1 (eva_cons y2 eva_nil))) ⟨isp _ (by kernel_rfl), a, m, w, rfl, hw0 a List.mem_cons_self, hbs.1, hbs.2, rfl, rfl⟩)))
  | square m w =>
    obtain ⟨a, rfl⟩ := h1 rfl
    exact evs_no (by walk_at "ev") (by kernel_rfl) (evs_no (by walk_at "ev") (by kernel_rfl) (evs_yes (by walk_at "ev") (by kernel_rfl) (evs_ret (evd_makeN (es := [.int a, .int m]) (ks := [.int w]) (eva_cons x1 (eva_cons y1 eva_nil)) (eva_cons y2 eva_nil) rfl rfl mkn1 ⟨isp _ (by kernel_rfl), a, m, w, rfl, hw0 a List.mem_cons_self, hbs.1, hbs.2, rfl, rfl⟩))))
  | row f xs =>
    obtain ⟨a, rfl⟩ := h1 rfl
    exact evs_no (by walk_at "ev") (by kernel_rfl) (evs_no (by walk_at "ev") (by kernel_rfl) (evs_no (by walk_at "ev") (by kernel_rfl) (evs_yes (by walk_at "ev") (by kernel_rfl) (evs_ret (evd_makeB0 (as := [.p (.int a), .p (.int f), .p (.lst (xs.map .int))]) (eab_p x1 (eab_p y1 (eab_p (EvO.evd (evo_cb (eva_cons y2 eva_nil) ok_listL)) eab_nil))) ⟨isp _ (by kernel_rfl), a, f, .p (.lst (xs.map .int)), xs, rfl, .inl rfl, hw0 a List.mem_cons_self, hbs.1, hbs.2, rfl, rfl⟩)))))
  | wall lo hi =>
    obtain ⟨a, rfl⟩ := h1 rfl
    exact evs_no (by walk_at "ev") (by kernel_rfl) (evs_no (by walk_at "ev") (by kernel_rfl) (evs_no (by walk_at "ev") (by kernel_rfl) (evs_no (by walk_at "ev") (by kernel_rfl) (evs_yes (by walk_at "ev") (by kernel_rfl) (evs_ret (evd_make0 (es := [.int a, .int lo, .int hi]) (eva_cons x1 (eva_cons y1 (eva_cons y2 eva_nil))) ⟨isp _ (by kernel_rfl), a, lo, hi, rfl, hw0 a List.mem_cons_self, hbs.1, hbs.2, rfl, rfl⟩))))))
  | near m w =>
    obtain ⟨a, b, rfl, hne⟩ := h2 rfl
    exact evs_no (by walk_at "ev") (by kernel_rfl) (evs_no (by walk_at "ev") (by kernel_rfl) (evs_no (by walk_at "ev") (by kernel_rfl) (evs_no (by walk_at "ev") (by kernel_rfl) (evs_no (by walk_at "ev") (by kernel_rfl) (evs_yes (by walk_at "ev") (by kernel_rfl) (evs_ret (evd_make0 (es := [.int a, .int b, .int m, .int w]) (eva_cons x2 (eva_cons x3 (eva_cons y1 (eva_cons y2 eva_nil)))) ⟨isp _ (by kernel_rfl), a, b, m, w, rfl, hw0 a List.mem_cons_self, hw0 b (List.mem_cons_of_mem _ List.mem_cons_self), hne, hbs.1, hbs.2, rfl, rfl⟩)))))))
  | gaps f xs =>
    obtain ⟨a, b, rfl, hne⟩ := h2 rfl
    exact evs_no (by walk_at "ev") (by kernel_rfl) (evs_no (by walk_at "ev") (by kernel_rfl) (evs_no (by walk_at "ev") (by kernel_rfl) (evs_no (by walk_at "ev") (by kernel_rfl) (evs_no (by walk_at "ev") (by kernel_rfl) (evs_no (by walk_at "ev") (by kernel_rfl) (evs_yes (by walk_at "ev") (by kernel_rfl) (evs_ret (evd_makeB0 (as := [.p (.int a), .p (.int b), .p (.int f), .p (.lst (xs.map .int))]) (eab_p x2 (eab_p x3 (eab_p y1 (eab_p (EvO.evd (evo_cb (eva_cons y2 eva_nil) ok_listL)) eab_nil)))) ⟨isp _ (by kernel_rfl), a, b, f, .p (.lst (xs.map .int)), xs, rfl, .inl rfl, hw0 a List.mem_cons_self, hw0 b (List.mem_cons_of_mem _ List.mem_cons_self), hne, hbs.1, hbs.2, rfl, rfl⟩))))))))
  | ahead g =>
    obtain ⟨a, b, rfl, hne⟩ := h2 rfl
    exact evs_no (by walk_at "ev") (by kernel_rfl) (evs_no (by walk_at "ev") (by kernel_rfl) (evs_no (by walk_at "ev") (by kernel_rfl) (evs_no (by walk_at "ev") (by kernel_rfl) (evs_no (by walk_at "ev") (by kernel_rfl) (evs_no (by walk_at "ev") (by kernel_rfl) (evs_no (by walk_at "ev") (by kernel_rfl) (evs_ret (evd_make0 (es := [.int a, .int b, .int g]) (eva_cons x2 (eva_cons x3 (eva_cons y1 eva_nil))) ⟨isp _ (by kernel_rfl), a, b, g, rfl, hw0 a List.mem_cons_self, hw0 b (List.mem_cons_of_mem _ List.mem_cons_self), hne, hbs, rfl, rfl⟩))))))))
theorem made_loop {whr : List Int} {b : Bs} : ∀ (rest hv : List Wr), Pt.Ok ⟨whr, b, hv⟩ → (∀ w ∈ rest, w.ok) → hv.length + rest.length ≤ 8 → ∀ P : D,
    ForR K (gTup K 2 (gCons (gName 2) (gCons (gName 3) gNil))) (tAsg (tIf (tTest (tOp (zEq K) (tVar 2) (tC (.str "times")))) (tMake (ga K "Times") (spM K (R_Times_init K)) [] E0 (tCons (tVar 1) (tCons (tVar 3) tNil))) (tMake (ga K "Moved") (spM K (R_Moved_init K)) [] E0 (tCons (tVar 1) (tCons (tVar 3) tNil)))) (gName 1))
      [.p P, .p (wrD K whr b hv), .no, .no] (rest.map wrT) (.nx [.p P, .p (wrD K whr b (rest.reverse ++ hv)), .no, .no])
  | [], hv, _, _, _, P => .nil
  | w :: rest, hv, ho, hw, hl, P => by
    have hw0 : w.ok := hw w List.mem_cons_self
    have ih := made_loop rest (w :: hv) ⟨ho.base, fun u hu => by
      rcases List.mem_cons.mp hu with rfl | hu
      · exact hw0
      · exact ho.wraps u hu, by simp at hl ⊢; omega, ho.whr, ho.one, ho.two⟩ (fun u hu => hw u (List.mem_cons_of_mem _ hu)) (by simp at hl ⊢; omega) P
    rw [List.reverse_cons, List.append_assoc]
    have hl8 : hv.length < 8 := by simp at hl; omega
    cases w with
    | times n =>
      refine .next (ρ1 := [.p P, .p (wrD K whr b hv), .p (.str "times"), .p (.int n)]) (evg_tup (evgs_cons evg_name (evgs_cons evg_name evgs_nil)) rfl) ?_ ih
      refine evs_forget (j := 2) (s := .p (.str "times")) (evs_forget (j := 3) (s := .p (.int n)) ?_ rfl) rfl
      refine evs_set (d := wrD K whr b (.times n :: hv)) (evd_if (b := true) (evt_is (by walk_at "ev") (by kernel_rfl)) (fun _ => ?_) (fun z => nomatch z)) rfl
      exact evd_make0 (es := [wrD K whr b hv, .int n]) (by walk_at "ev") ⟨isp _ (by kernel_rfl), ⟨whr, b, hv⟩, n, rfl, ho, hl8, hw0, rfl, rfl⟩
    | moved n =>
      refine .next (ρ1 := [.p P, .p (wrD K whr b hv), .p (.str "moved"), .p (.int n)]) (evg_tup (evgs_cons evg_name (evgs_cons evg_name evgs_nil)) rfl) ?_ ih
      refine evs_forget (j := 2) (s := .p (.str "moved")) (evs_forget (j := 3) (s := .p (.int n)) ?_ rfl) rfl
      refine evs_set (d := wrD K whr b (.moved n :: hv)) (evd_if (b := false) (evt_is (by walk_at "ev") (by kernel_rfl)) (fun z => nomatch z) (fun _ => ?_)) rfl
      exact evd_make0 (es := [wrD K whr b hv, .int n]) (by walk_at "ev") ⟨isp _ (by kernel_rfl), ⟨whr, b, hv⟩, n, rfl, ho, hl8, hw0, rfl, rfl⟩
theorem e_made (h : R_made K ds d) : EvS K (t__law_made K) (startR N__law_made ds) (.rt d) := by
  obtain ⟨p, rfl, hp, rfl⟩ := h
  show EvS K _ [.p (ptD p), .no, .no, .no] _
  unfold t__law_made
  refine evs_seq (evs_set (d := bsD K p.whr p.base) (evd_call0 (by walk_at "ev") ⟨p, rfl, hp, rfl⟩) rfl) ?_
  have hb : Pt.Ok ⟨p.whr, p.base, []⟩ := ⟨hp.base, (fun w hw => nomatch hw), Nat.zero_le _, hp.whr, hp.one, hp.two⟩
  have lp := made_loop (K := K) p.wraps.reverse [] hb (fun w hw => hp.wraps w (List.mem_reverse.mp hw)) (by have := hp.deep; simp; omega) (ptD p)
  rw [List.reverse_reverse, List.append_nil, List.map_reverse] at lp
  refine evs_seq (evs_for (evi_list (EvO.evd (evo_rev (ds := p.wraps.map wrT) (evd_op (evd_var rfl) evd_int (ok_ix2 rfl))))) lp) (evs_ret (evd_var rfl))
end

/-! ### plain law of the parts -/
theorem omap_map {f g : Int → Int} (o : Option Int) : (o.map f).map g = o.map (fun x => g (f x)) := by cases o <;> rfl
theorem lawBase_eq (b : Bs) (m r : Int) : lawBase b m r = (b.worth r).map (m * ·) := by
  cases b with
  | slope w => show some (m * w * r) = some (m * (w * r)); rw [Int.mul_assoc]
  | aim a w => show some (m * w * iabs (r - a)) = some (m * (w * iabs (r - a))); rw [Int.mul_assoc]
  | near a w => show some (m * w * iabs (r - a)) = some (m * (w * iabs (r - a))); rw [Int.mul_assoc]
  | square a w => show some (m * w * (r - a) * (r - a)) = some (m * (w * (r - a) * (r - a))); rw [Int.mul_assoc, Int.mul_assoc, Int.mul_assoc]
  | row f ws => rfl
  | gaps f ws => rfl
  | wall lo hi =>
    show (if lo ≤ r ∧ r ≤ hi then some (0 : Int) else none) = (if lo ≤ r ∧ r ≤ hi then some (0 : Int) else none).map (m * ·)
    split
    · show some (0 : Int) = some (m * 0); rw [Int.mul_zero]
    · rfl
  | ahead g =>
    show (if r ≤ g then some (0 : Int) else none) = (if r ≤ g then some (0 : Int) else none).map (m * ·)
    split
    · show some (0 : Int) = some (m * 0); rw [Int.mul_zero]
    · rfl
theorem lawGo_eq (b : Bs) : ∀ (ws : List Wr) (m r : Int), lawBase b (lawMany ws m) (lawReads ws r) = (wworth b ws r).map (m * ·)
  | [], m, r => lawBase_eq b m r
  | .times n :: ws, m, r => by
    show lawBase b (lawMany ws (m * n)) (lawReads ws r) = ((wworth b ws r).map (n * ·)).map (m * ·)
    rw [lawGo_eq b ws, omap_map]
    congr 1
    funext x
    exact Int.mul_assoc _ _ _
  | .moved n :: ws, m, r => lawGo_eq b ws m (r - n)
theorem lawAt_eq (p : Pt) (r : Int) : lawAt p r = p.worth r := by
  unfold lawAt Pt.worth
  rw [lawGo_eq]
  cases wworth p.base p.wraps r with
  | none => rfl
  | some x => show some (1 * x) = some x; rw [Int.one_mul]
def inL (l : Option Int × Option Int) (r : Int) : Prop := (∀ a, l.1 = some a → a ≤ r) ∧ (∀ b, l.2 = some b → r ≤ b)
theorem base_some (b : Bs) (r : Int) : (b.worth r).isSome = true ↔ inL b.lims r := by
  have e0 : ∀ {x : Int}, (some x).isSome = true ↔ inL (none, none) r := ⟨fun _ => ⟨(fun _ h => nomatch h), (fun _ h => nomatch h)⟩, fun _ => rfl⟩
  have er : ∀ {f : Int} {ws : List Int}, (rowAt f ws r).isSome = true ↔ inL (some f, some (f + (ws.length : Int) - 1)) r := fun {f ws} => by
    by_cases h : 0 ≤ r - f ∧ r - f < (ws.length : Int)
    · rw [rowAt_some h]
      exact ⟨fun _ => ⟨fun a e => by cases e; omega, fun a e => by cases e; omega⟩, fun _ => rfl⟩
    · rw [rowAt_none h]
      exact ⟨(fun e => nomatch e), fun e => absurd (show 0 ≤ r - f ∧ r - f < (ws.length : Int) by have := e.1 f rfl; have := e.2 _ rfl; omega) h⟩
  cases b with
  | slope w => exact e0
  | aim a w => exact e0
  | near a w => exact e0
  | square a w => exact e0
  | row f ws => exact er
  | gaps f ws => exact er
  | wall lo hi =>
    show (if lo ≤ r ∧ r ≤ hi then some (0 : Int) else none).isSome = true ↔ inL (some lo, some hi) r
    split
    · rename_i h
      exact ⟨fun _ => ⟨fun a e => by cases e; exact h.1, fun a e => by cases e; exact h.2⟩, fun _ => rfl⟩
    · rename_i h
      exact ⟨(fun e => nomatch e), fun e => absurd ⟨e.1 lo rfl, e.2 hi rfl⟩ h⟩
  | ahead g =>
    show (if r ≤ g then some (0 : Int) else none).isSome = true ↔ inL (none, some g) r
    split
    · rename_i h
      exact ⟨fun _ => ⟨(fun a e => nomatch e), fun a e => by cases e; exact h⟩, fun _ => rfl⟩
    · rename_i h
      exact ⟨(fun e => nomatch e), fun e => absurd (e.2 g rfl) h⟩
theorem wworth_some (b : Bs) : ∀ (ws : List Wr) (r : Int), (wworth b ws r).isSome = true ↔ inL (wlims b ws) r
  | [], r => base_some b r
  | .times n :: ws, r => by
    show ((wworth b ws r).map (n * ·)).isSome = true ↔ inL (wlims b ws) r
    rw [Option.isSome_map, wworth_some b ws r]
  | .moved n :: ws, r => by
    show (wworth b ws (r - n)).isSome = true ↔ inL ((wlims b ws).1.map (· + n), (wlims b ws).2.map (· + n)) r
    rw [wworth_some b ws (r - n)]
    constructor
    · rintro ⟨h1, h2⟩
      refine ⟨fun a e => ?_, fun a e => ?_⟩
      · obtain ⟨x, hx, rfl⟩ := Option.map_eq_some_iff.mp e
        have := h1 x hx
        omega
      · obtain ⟨x, hx, rfl⟩ := Option.map_eq_some_iff.mp e
        have := h2 x hx
        omega
    · rintro ⟨h1, h2⟩
      refine ⟨fun a e => ?_, fun a e => ?_⟩
      · have := h1 (a + n) (by show (wlims b ws).1.map (· + n) = _; rw [e]; rfl)
        omega
      · have := h2 (a + n) (by show (wlims b ws).2.map (· + n) = _; rw [e]; rfl)
        omega
theorem lims_le (b : Bs) (hb : b.ok) : ∀ (ws : List Wr) (a c : Int), (wlims b ws).1 = some a → (wlims b ws).2 = some c → a ≤ c
  | [], a, c, h1, h2 => by
    cases b with
    | slope w => cases h1
    | aim a w => cases h1
    | near a w => cases h1
    | square a w => cases h1
    | row f ws =>
      cases h1
      cases h2
      have : 1 ≤ ws.length := hb.2.1
      omega
    | gaps f ws =>
      cases h1
      cases h2
      have : 1 ≤ ws.length := hb.2.1
      omega
    | wall lo hi =>
      cases h1
      cases h2
      exact hb.2.1
    | ahead g => cases h1
  | .times n :: ws, a, c, h1, h2 => lims_le b hb ws a c h1 h2
  | .moved n :: ws, a, c, h1, h2 => by
    obtain ⟨x, hx, rfl⟩ := Option.map_eq_some_iff.mp (show (wlims b ws).1.map (· + n) = some a from h1)
    obtain ⟨y, hy, rfl⟩ := Option.map_eq_some_iff.mp (show (wlims b ws).2.map (· + n) = some c from h2)
    have := lims_le b hb ws x y hx hy
    omega
theorem lims_kind (b : Bs) : ∀ ws : List Wr, (wlims b ws).1.isSome = b.lims.1.isSome ∧ (wlims b ws).2.isSome = b.lims.2.isSome
  | [] => ⟨rfl, rfl⟩
  | .times n :: ws => lims_kind b ws
  | .moved n :: ws => by
    show ((wlims b ws).1.map (· + n)).isSome = _ ∧ ((wlims b ws).2.map (· + n)).isSome = _
    rw [Option.isSome_map, Option.isSome_map]
    exact lims_kind b ws
/-! ### ranges -/
theorem rgI_split {a b c : Int} (h1 : a ≤ b) (h2 : b ≤ c) : rgI a c = rgI a b ++ rgI b c := by
  unfold rgI
  have e : (c - a).toNat = (b - a).toNat + (c - b).toNat := by omega
  rw [e, List.range_add, List.map_append, List.map_map]
  congr 1
  apply List.map_congr_left
  intro x hx
  show a + (((b - a).toNat + x : Nat) : Int) = b + (x : Int)
  omega
theorem mem_rgI {a b x : Int} (h : x ∈ rgI a b) : a ≤ x ∧ x < b := by
  obtain ⟨k, hk, rfl⟩ := List.mem_map.mp h
  rw [List.mem_range] at hk
  omega
theorem rgI_one (a : Int) : rgI a (a + 1) = [a] := by
  unfold rgI
  have e : (a + 1 - a).toNat = 1 := by omega
  rw [e]
  show [a + ((0 : Nat) : Int)] = [a]
  simp
theorem filter_first {φ : Int → Bool} {lo hi a : Int} (h1 : lo ≤ a) (h2 : a < hi) (ha : φ a = true) (hn : ∀ x, x < a → φ x = false) : ∃ rest, (rgI lo hi).filter φ = a :: rest := by
  rw [rgI_split h1 (Int.le_of_lt h2), rgI_split (a := a) (b := a + 1) (c := hi) (by omega) (by omega), rgI_one, List.filter_append]
  have e : (rgI lo a).filter φ = [] := List.filter_eq_nil_iff.mpr fun x hx => by rw [hn x (mem_rgI hx).2]; exact fun z => nomatch z
  rw [e]
  exact ⟨(rgI (a + 1) hi).filter φ, by simp [ha]⟩
theorem filter_last {φ : Int → Bool} {lo hi a : Int} (h1 : lo ≤ a) (h2 : a < hi) (ha : φ a = true) (hn : ∀ x, a < x → φ x = false) : ∃ rest, (rgI lo hi).filter φ = rest ++ [a] := by
  rw [rgI_split h1 (Int.le_of_lt h2), rgI_split (a := a) (b := a + 1) (c := hi) (by omega) (by omega), rgI_one, List.filter_append, List.filter_append]
  have e : (rgI (a + 1) hi).filter φ = [] := List.filter_eq_nil_iff.mpr fun x hx => by rw [hn x (by have := mem_rgI hx; omega)]; exact fun z => nomatch z
  rw [e]
  exact ⟨(rgI lo a).filter φ, by simp [ha]⟩
section
variable {K : PySem.W.Frag} {ds es : List D} {d : D}
theorem lcR_filter {tt : TT} {te : TE} {ρ : Rho} {j : Nat} {φ : Int → Bool} : ∀ {xs : List Int}, (∀ x ∈ xs, EvT K tt (ρ.set j (.p (.int x))) (φ x) ∧ EvD K te (ρ.set j (.p (.int x))) (.int x)) → LcR K (gName j) tt te ρ (xs.map .int) ((xs.filter φ).map .int)
  | [], _ => .nil
  | x :: xs, h => by
    have h0 := h x List.mem_cons_self
    have ih := lcR_filter fun y hy => h y (List.mem_cons_of_mem _ hy)
    cases e : φ x with
    | true =>
      rw [e] at h0
      rw [List.filter_cons_of_pos e]
      exact .yes evg_name h0.1 h0.2 ih
    | false =>
      rw [e] at h0
      rw [List.filter_cons_of_neg (by rw [e]; exact fun z => nomatch z)]
      exact .no evg_name h0.1 ih
theorem isNon_opt (o : Option Int) : (!isNon (optD o)) = o.isSome := by cases o <;> rfl
theorem e_ends (h : R_ends ds d) : EvS K (t__law_ends K) (startR N__law_ends ds) (.rt d) := by
  obtain ⟨p, rfl, hp, h1, h2, rfl⟩ := h
  show EvS K _ [.p (ptD p), .no, .no, .no, .no, .no] _
  unfold t__law_ends
  refine evs_seq (evs_setO (ds := ((rgI (-60) 61).filter fun r => (p.worth r).isSome).map .int) (evo_lc (evi_rng2 (m := -60) (n := 61) (by walk_at "ev") ⟨by decide, by decide, by decide, by decide⟩) wipes_name (lcR_filter fun x hx => ⟨?_, evd_var rfl⟩) (size_le (by decide))) rfl) ?_
  · have := mem_rgI hx
    refine evt_is (evt_test (evd_op (evd_call0 (by walk_at "ev") (r_at hp ⟨by unfold far; omega, by unfold far; omega⟩)) evd_non ok_notN)) ?_
    rw [isNon_opt, lawAt_eq]
  refine evs_seq (evs_set (d := .str p.base.word) (evd_op (evd_var rfl) evd_int (ok_ix2 rfl)) rfl) ?_
  have inn : ∀ {ρ : Rho} {w : Str} {ws : List Str} {ta : TA} {b : Bool}, ρ[2]? = some (.p (.str w)) → EvA K ta ρ (ws.map .str) → ws.length ≤ 10 → flatDs (ws.map .str) = some (ws.map .str) → (ws.map V.str).all flatV = true → inV (.str w) (ws.map .str) = b → EvT K (tTest (tOp (rIn K false) (tVar 2) (tTup ta))) ρ b := fun g1 g2 g3 g4 g5 g6 =>
    evt_is (evt_test (evd_op (evd_var g1) (evd_tup g2 (size_le (by rw [List.length_map]; omega))) (ok_inT rfl g4 rfl g5))) g6
  have k1 : inV (.str p.base.word) ((["row", "gaps", "wall"] : List Str).map .str) = p.lims.1.isSome := by
    unfold Pt.lims
    rw [(lims_kind p.base p.wraps).1]
    cases p.base <;> kernel_rfl
  have k2 : inV (.str p.base.word) ((["row", "gaps", "wall", "ahead"] : List Str).map .str) = p.lims.2.isSome := by
    unfold Pt.lims
    rw [(lims_kind p.base p.wraps).2]
    cases p.base <;> kernel_rfl
  have ok : ∀ r, (p.worth r).isSome = true ↔ inL p.lims r := fun r => wworth_some p.base p.wraps r
  have le := lims_le p.base hp.base p.wraps
  have notOk : ∀ r, ¬ inL p.lims r → (p.worth r).isSome = false := fun r hr => by
    cases e : (p.worth r).isSome with
    | false => rfl
    | true => exact absurd ((ok r).mp e) hr
  refine evs_seq (evs_set (d := optD p.lims.1) (evd_if (inn rfl (eva_cons evd_str (eva_cons evd_str (eva_cons evd_str eva_nil))) (by decide) rfl rfl k1) (fun hb => ?_) (fun hb => ?_)) rfl) ?_
  · obtain ⟨a, ha⟩ := Option.isSome_iff_exists.mp hb
    obtain ⟨q1, q2⟩ := h1 a ha
    obtain ⟨rest, hr⟩ := filter_first (φ := fun r => (p.worth r).isSome) (lo := -60) (hi := 61) q1 (by omega) ((ok a).mpr ⟨fun x hx => by rw [ha] at hx; cases hx; omega, fun c hc => le a c ha hc⟩) (fun x hx => notOk x fun z => by have := z.1 a ha; omega)
    rw [ha, hr]
    exact evd_ixO rfl evd_int (atI_zero _ _)
  · rw [Option.isSome_eq_false_iff, Option.isNone_iff_eq_none] at hb
    rw [hb]
    exact evd_non
  refine evs_seq (evs_set (d := optD p.lims.2) (evd_if (inn rfl (eva_cons evd_str (eva_cons evd_str (eva_cons evd_str (eva_cons evd_str eva_nil)))) (by decide) rfl rfl k2) (fun hb => ?_) (fun hb => ?_)) rfl) (evs_ret (evd_tup (eva_cons (evd_var rfl) (eva_cons (evd_var rfl) eva_nil)) (Nat.le_of_ble_eq_true rfl)))
  · obtain ⟨a, ha⟩ := Option.isSome_iff_exists.mp hb
    obtain ⟨q1, q2⟩ := h2 a ha
    obtain ⟨rest, hr⟩ := filter_last (φ := fun r => (p.worth r).isSome) (lo := -60) (hi := 61) q1 (by omega) ((ok a).mpr ⟨fun c hc => le c a hc ha, fun x hx => by rw [ha] at hx; cases hx; omega⟩) (fun x hx => notOk x fun z => by have := z.2 a ha; omega)
    rw [ha, hr, List.map_append]
    exact evd_ixO rfl (by walk_at "ev") atI_last'
  · rw [Option.isSome_eq_false_iff, Option.isNone_iff_eq_none] at hb
    rw [hb]
    exact evd_non
/-! ### == of what parts tell -/
theorem okb {r : R2} {x y : D} {a b : Bool} (h : Ok2 K r x y (.bl a)) (e : a = b) : Ok2 K r x y (.bl b) := e ▸ h
theorem ne_bl {a b : Bool} : Ok2 K (zNe K) (.bl a) (.bl b) (.bl (!(a == b))) := okb (ok_ne0 (ok_neD (e := .bool a) (f := .bool b) rfl rfl rfl rfl)) (by cases a <;> cases b <;> rfl)
theorem eq_opt {o : Option Int} : Ok2 K (zEq K) (optD o) (optD o) (.bl true) := by
  cases o with
  | none => exact okb (ok_eq0 (ok_eqD (e := .none) (f := .none) rfl rfl rfl rfl)) rfl
  | some i => exact okb ok_eqII (beq_self_eq_true i)
theorem ne_opt {o : Option Int} : Ok2 K (zNe K) (optD o) (optD o) (.bl false) := by
  cases o with
  | none => exact okb (ok_ne0 (ok_neD (e := .none) (f := .none) rfl rfl rfl rfl)) rfl
  | some i => exact okb ok_neII (by rw [beq_self_eq_true]; rfl)
theorem int_eqv (i : Int) : PyData.eqv (.int i) (.int i) = true := beq_self_eq_true i
theorem ne_lims {l : Option Int × Option Int} : Ok2 K (zNe K) (limsD l) (limsD l) (.bl false) := by
  obtain ⟨a, b⟩ := l
  have key : ∀ x y : PyData, PyData.eqv x x = true → PyData.eqv y y = true → (!PyData.eqv (.tuple [x, y]) (.tuple [x, y])) = false := fun x y h1 h2 => by
    show (!(PyData.eqv x x && (PyData.eqv y y && true))) = false
    rw [h1, h2]
    rfl
  cases a with
  | none =>
    cases b with
    | none => exact okb (ok_ne0 (ok_neD (e := .tuple [.none, .none]) (f := .tuple [.none, .none]) rfl rfl rfl rfl)) (key _ _ rfl rfl)
    | some j => exact okb (ok_ne0 (ok_neD (e := .tuple [.none, .int j]) (f := .tuple [.none, .int j]) rfl rfl rfl rfl)) (key _ _ rfl (int_eqv j))
  | some i =>
    cases b with
    | none => exact okb (ok_ne0 (ok_neD (e := .tuple [.int i, .none]) (f := .tuple [.int i, .none]) rfl rfl rfl rfl)) (key _ _ (int_eqv i) rfl)
    | some j => exact okb (ok_ne0 (ok_neD (e := .tuple [.int i, .int j]) (f := .tuple [.int i, .int j]) rfl rfl rfl rfl)) (key _ _ (int_eqv i) (int_eqv j))
end

section
variable {K : PySem.W.Frag} {ds es : List D} {d : D}
theorem ty_part (pf : PF K) (p : Pt) : TyD K (partD K p) (.ref (ga K p.cls)) := by
  obtain ⟨fs, gs, e, e2⟩ := partD_eq (K := K) p
  rw [e]
  exact .ins (pf.ty _ p.cls_mem)
theorem isi_bool {o : Option Int} : OkC K (rIsi K) [optD o, .ty "bool"] (.bl false) := by
  cases o with
  | none => exact ok_isi .non (.ty "bool") (kit_b (by decide +kernel))
  | some i => exact ok_isi (.int i) (.ty "bool") (kit_b (by decide +kernel))
theorem forR_all {g : TG} {tb : TS} {ρ : Rho} {j : Nat} {G : D → Prop} (hd : ∀ d ∈ ds, G d) (h : ∀ d, G d → EvS K tb (ρ.set j (.p d)) (.nx ρ)) : ForR K (gName j) tb ρ ds (.nx ρ) := forR_keep (g := g) fun d hd' => h d (hd d hd')
theorem rg_small {i j : Int} (h1 : inR (-1000) 1000 i) (h2 : inR (-1000) 1000 j) : RgOk i j := by
  unfold inR at *
  unfold RgOk
  refine ⟨?_, ?_, ?_, ?_, ?_⟩ <;> omega
theorem far_in {r : Int} (h : inR (-far) far r) : inR (-(farN 8)) (farN 8) r := by
  unfold inR farN at *
  omega
theorem e_right (pf : PF K) (h : R_right K ds d) : EvS K (t__law_right K) (startR N__law_right ds) (.rt d) := by
  obtain ⟨p, c, rfl, hp, h1, h2, rfl⟩ := h
  show EvS K _ [.p (ptD p), .p (.int c), .no, .no, .no, .no] _
  unfold t__law_right
  refine evs_seq (evs_set (d := partD K p) (evd_call0 (by walk_at "ev") ⟨p, rfl, hp, rfl⟩) rfl) ?_
  have st : ∀ {ρ : Rho}, ρ[2]? = some (.p (partD K p)) → EvO K (tMethD "stands" (IsP K) (fun C => spO K (R_stands K C)) E0 (tVar 2) tNil) ρ (p.whr.map .int) := fun h => call_stands (evd_var h) hp
  have w1 : ∀ {ρ : Rho}, ρ[0]? = some (.p (ptD p)) → EvD K (tOp (rIx K) (tVar 0) (tC (.int 1))) ρ (.lst (p.whr.map .int)) := fun h => evd_op (evd_var h) evd_int (ok_ix2 rfl)
  refine evs_no (b := false) (evt_is (evt_or (a := false) (b := false) (evt_is (evt_not (evt_B (evd_cb (eva_cons (evd_var rfl) (by walk_at "ev")) (ok_isi (ty_part pf p) (.own _) (pf.isP _ p.cls_mem))))) rfl) (fun _ => evt_is (evt_or (a := false) (b := false) (evt_is (evt_test (evd_op (EvO.evd (st rfl)) (w1 rfl) ne_ints)) (by rw [decide_eq_true rfl]; rfl)) (fun _ => evt_is (evt_not (evt_B (evd_cb (eva_cons (EvO.evd (st rfl)) (by walk_at "ev")) (ok_isi (.lst _) (.ty "list") (kit_b (b := "list") (r := true) (by decide +kernel)))))) rfl)) rfl)) rfl) rfl ?_
  refine evs_seq (ρ1 := [.p (ptD p), .p (.int c), .p (partD K p), .no, .no, .no]) (evs_for (evi_list (EvO.evd (evo_op (EvO.evd (evo_rg2 (i := -12) (j := 13) (by walk_at "ev") (by walk_at "ev") ?_)) (by walk_at "ev") (ok_plusL (size_le (Nat.le_of_ble_eq_true rfl)))))) (forR_all (g := gName 3) (G := fun d => ∃ r, d = .int r ∧ inR (-far) far r) ?_ ?_)) ?_
  · exact rg_small ⟨by decide, by decide⟩ ⟨by decide, by decide⟩
  · intro d hd
    rcases List.mem_append.mp hd with hd | hd
    · obtain ⟨x, hx, rfl⟩ := List.mem_map.mp hd
      have := mem_rgI hx
      exact ⟨x, rfl, by unfold inR far; omega⟩
    · have q1 : (0 : Int) ≤ c % 977 ∧ c % 977 < 977 := by omega
      have q2 : (0 : Int) ≤ c % 10 ^ (6 : Int).toNat ∧ c % 10 ^ (6 : Int).toNat < 1000000 := by
        show (0 : Int) ≤ c % 1000000 ∧ c % 1000000 < 1000000
        omega
      simp only [List.mem_cons, List.not_mem_nil, or_false] at hd
      rcases hd with rfl | rfl | rfl | rfl
      · exact ⟨_, rfl, by unfold inR far; omega⟩
      · exact ⟨_, rfl, by unfold inR far; omega⟩
      · exact ⟨_, rfl, by unfold inR far; omega⟩
      · refine ⟨_, rfl, ?_⟩
        show inR _ _ (-1000000000 - _)
        unfold inR far
        omega
  · rintro d ⟨r, rfl, hr⟩
    refine evs_forget (j := 3) (s := .p (.int r)) (evs_forget (j := 4) (s := .p (optD (p.worth r))) (evs_forget (j := 5) (s := .p (optD (p.worth r))) ?_ rfl) rfl) rfl
    refine evs_seq (evs_set (d := optD (p.worth r)) (evd_is (evd_call0 (by walk_at "ev") (r_at hp hr)) (by rw [lawAt_eq])) rfl) ?_
    refine evs_seq (evs_set (d := optD (p.worth r)) (call_worth 8 (evd_var rfl) (evd_var rfl) hp hp.deep (far_in hr)) rfl) ?_
    refine evs_if (b := false) (evt_is (evt_or (a := false) (b := false) (evt_test (evd_op (evd_var rfl) (evd_var rfl) ne_opt)) (fun _ => evt_is (evt_or (a := false) (b := false) (evt_B (evd_cb (eva_cons (evd_var rfl) (by walk_at "ev")) isi_bool)) (fun _ => evt_is (evt_test (evd_op (evd_op (evd_var rfl) evd_non ok_isN) (evd_op (evd_var rfl) evd_non ok_isN) ne_bl)) (by rw [beq_self_eq_true]; rfl))) rfl)) rfl) (fun z => nomatch z) (fun _ => evs_next)
  have lm : ∀ {ρ : Rho}, ρ[2]? = some (.p (partD K p)) → EvD K (tMethD "limits" (IsP K) (fun C => spD K (R_limits K 8 C)) E0 (tVar 2) tNil) ρ (limsD p.lims) := fun h => call_limits 8 (evd_var h) hp hp.deep
  refine evs_seq (evs_set (lm rfl) rfl) ?_
  refine evs_no (b := false) (evt_is (evt_or (a := false) (b := false) (evt_is (evt_not (evt_B (evd_cb (eva_cons (evd_var rfl) (by walk_at "ev")) (ok_isi (.tup _) (.ty "tuple") (kit_b (b := "tuple") (r := true) (by decide +kernel)))))) rfl) (fun _ => evt_is (evt_or (a := false) (b := false) (evt_test (evd_op (evd_var rfl) (evd_call0 (by walk_at "ev") ⟨p, rfl, hp, h1, h2, rfl⟩) ne_lims)) (fun _ => evt_test (evd_op (lm rfl) (evd_var rfl) ne_lims))) rfl)) rfl) rfl ?_
  refine evs_seq (evs_appX (st rfl) evd_int (size_lt (by have := whr_len hp; rw [List.length_map]; omega))) ?_
  refine evs_ret (evd_is (evd_andV (a := true) (b := true) (evd_is (evd_op (EvO.evd (st rfl)) (w1 rfl) eq_ints) (by rw [decide_eq_true rfl])) (fun _ => evd_op (call_worth 8 (evd_var rfl) evd_int hp hp.deep (far_in ⟨by decide, by decide⟩)) (evd_is (evd_call0 (by walk_at "ev") (r_at hp ⟨by decide, by decide⟩)) (by rw [lawAt_eq])) eq_opt)) rfl)
end

/-! ### the parts that the law draws keep to their bounds -/
theorem mul_b {s t S T : Int} (h0 : 0 ≤ s) (h1 : s ≤ S) (h2 : -T ≤ t) (h3 : t ≤ T) : -(S * T) ≤ s * t ∧ s * t ≤ S * T := by
  have hT : 0 ≤ T := by omega
  have a1 : s * t ≤ s * T := Int.mul_le_mul_of_nonneg_left h3 h0
  have a2 : s * (-T) ≤ s * t := Int.mul_le_mul_of_nonneg_left h2 h0
  have a3 : s * T ≤ S * T := Int.mul_le_mul_of_nonneg_right h1 hT
  rw [Int.mul_neg] at a2
  omega
theorem go_in {s : Int} (h0 : 0 ≤ s) (h1 : s ≤ 5000) (rest : List Int) : ∀ (last step : Int), (∀ m ∈ rest, 0 ≤ m ∧ m ≤ 3) → -(1000000 - 135000 * (rest.length : Int)) ≤ last → last ≤ 1000000 - 135000 * (rest.length : Int) → -27 ≤ step → step + 3 * (rest.length : Int) ≤ 27 + 3 → ∀ x ∈ worthsGo s last step rest, inR (-1000000) 1000000 x := by
  induction rest with
  | nil => intro _ _ _ _ _ _ _ x hx; exact nomatch hx
  | cons m r ih =>
    intro last step hm l1 l2 s1 s2 x hx
    rw [List.length_cons] at l1 l2 s2
    have hb := mul_b (s := s) (t := step) (S := 5000) (T := 27) h0 h1 s1 (by omega)
    have hm0 := hm m List.mem_cons_self
    rcases List.mem_cons.mp hx with rfl | hx
    · unfold inR
      omega
    · exact ih _ _ (fun y hy => hm y (List.mem_cons_of_mem _ hy)) (by omega) (by omega) (by omega) (by omega) x hx
theorem go_len {s : Int} : ∀ (rest : List Int) (last step : Int), (worthsGo s last step rest).length = rest.length
  | [], _, _ => rfl
  | m :: r, last, step => congrArg (· + 1) (go_len r _ _)
theorem go_rising {s : Int} (h0 : 0 ≤ s) : ∀ (rest : List Int) (last step : Int), (∀ m ∈ rest, 0 ≤ m ∧ m ≤ 3) → rising (last :: worthsGo s last step rest)
  | [], _, _, _ => trivial
  | [m], _, _, _ => trivial
  | m :: m' :: r, last, step, hm => by
    have ih := go_rising h0 (m' :: r) (last + s * step) (step + m) fun y hy => hm y (List.mem_cons_of_mem _ hy)
    refine ⟨?_, ih⟩
    have := Int.mul_nonneg h0 (hm m List.mem_cons_self).1
    show 2 * (last + s * step) ≤ last + (last + s * step + s * (step + m))
    rw [Int.mul_add s step m]
    omega
structure DgOk (dg : List Int) : Prop where
  len : dg.length = 19
  g4 : 0 ≤ dg.getD 4 0 ∧ dg.getD 4 0 < 6
  g5 : 0 ≤ dg.getD 5 0 ∧ dg.getD 5 0 < 8
  g6 : 0 ≤ dg.getD 6 0 ∧ dg.getD 6 0 < 8
  g7 : 0 ≤ dg.getD 7 0 ∧ dg.getD 7 0 < 5
  g8 : 0 ≤ dg.getD 8 0 ∧ dg.getD 8 0 < 19
  g9 : 0 ≤ dg.getD 9 0 ∧ dg.getD 9 0 < 13
  g10 : ∀ i, 10 ≤ i → i < 19 → 0 ≤ dg.getD i 0 ∧ dg.getD i 0 < 4
theorem getD_take_drop (dg : List Int) (a n i : Nat) (h : i < n) : ((dg.drop a).take n).getD i 0 = dg.getD (a + i) 0 := by
  rw [List.getD_eq_getElem?_getD, List.getElem?_take, if_pos h, List.getElem?_drop, List.getD_eq_getElem?_getD]
theorem cut_mem {dg : List Int} (h : DgOk dg) : ∀ m ∈ (cutG dg).drop 2, 0 ≤ m ∧ m ≤ 3 := fun m hm => by
  obtain ⟨j, hj⟩ := List.mem_iff_getElem?.mp hm
  have hl := cutG_len h.len
  have g5 := h.g5
  unfold cutG at hj
  rw [List.getElem?_drop, List.getElem?_take] at hj
  split at hj
  · rename_i hlt
    rw [List.getElem?_drop] at hj
    have hlt2 : 8 + (2 + j) < dg.length := (List.getElem?_eq_some_iff.mp hj).1
    have := h.g10 (8 + (2 + j)) (by omega) (by rw [← h.len]; exact hlt2)
    rw [List.getD_eq_getElem?_getD, hj] at this
    show 0 ≤ m ∧ m ≤ 3
    have q : 0 ≤ m ∧ m < 4 := this
    omega
  · cases hj
theorem good_worths {dg : List Int} (h : DgOk dg) (k : Int) : GoodW (lawWorths (cutG dg) (scaleOf k)) ∧ (lawWorths (cutG dg) (scaleOf k)).length ≤ 8 := by
  have hl := cutG_len h.len
  have g5 := h.g5
  have sc := scale_in k
  unfold inR at sc
  have e0 : (cutG dg).getD 0 0 = dg.getD 8 0 := getD_take_drop dg 8 _ 0 (by omega)
  have e1 : (cutG dg).getD 1 0 = dg.getD 9 0 := getD_take_drop dg 8 _ 1 (by omega)
  have g8 := h.g8
  have g9 := h.g9
  have hd : ((cutG dg).drop 2).length ≤ 7 := by rw [List.length_drop, hl]; omega
  have cm := cut_mem h
  have len : (lawWorths (cutG dg) (scaleOf k)).length = ((cutG dg).drop 2).length + 1 := by
    unfold lawWorths
    rw [List.length_cons, go_len]
  have hb := mul_b (s := scaleOf k) (t := (cutG dg).getD 0 0 - 9) (S := 5000) (T := 9) sc.1 sc.2 (by omega) (by omega)
  refine ⟨⟨by omega, by omega, fun x hx => ?_, ?_⟩, by omega⟩
  · unfold lawWorths at hx
    rcases List.mem_cons.mp hx with rfl | hx
    · unfold inR
      omega
    · exact go_in sc.1 sc.2 _ _ _ cm (by omega) (by omega) (by omega) (by omega) x hx
  · unfold lawWorths
    exact go_rising sc.1 _ _ _ cm
theorem dg_ok {cell many bot top : Int} (h1 : inR 1 8 many) (h2 : inR (-50) 50 bot) (h3 : inR bot 50 top) : DgOk (lawNums cell (boundsOf many bot top)) := by
  have hb := bounds_ok h1 h2 h3
  have hb0 : ∀ b ∈ boundsOf many bot top, 0 < b := fun b h => (hb b h).1
  have g : ∀ i, i < 19 → 0 ≤ (lawNums cell (boundsOf many bot top)).getD i 0 ∧ (lawNums cell (boundsOf many bot top)).getD i 0 < (boundsOf many bot top).getD i 0 := fun i hi => digs_get _ _ i hb0 hi
  refine ⟨digs_len _ _, g 4 (by decide), g 5 (by decide), g 6 (by decide), g 7 (by decide), g 8 (by decide), g 9 (by decide), fun i hi hi2 => ?_⟩
  have e : (boundsOf many bot top).getD i 0 = 4 := by
    have : i = 10 ∨ i = 11 ∨ i = 12 ∨ i = 13 ∨ i = 14 ∨ i = 15 ∨ i = 16 ∨ i = 17 ∨ i = 18 := by omega
    rcases this with rfl | rfl | rfl | rfl | rfl | rfl | rfl | rfl | rfl <;> rfl
  have := g i hi2
  rw [e] at this
  exact this
theorem halved_ok {dg : List Int} (h : DgOk dg) : DgOk (halved dg) := by
  refine ⟨(halved_len dg).trans h.len, ?_, ?_, ?_, ?_, ?_, ?_, fun i hi hi2 => ?_⟩
  · rw [halved_get dg (by decide)]; exact h.g4
  · rw [halved_get dg (by decide)]; exact h.g5
  · rw [halved_get dg (by decide)]; exact h.g6
  · rw [halved_get dg (by decide)]; exact h.g7
  · rw [halved_get dg (by decide)]; exact h.g8
  · rw [halved_get dg (by decide)]; exact h.g9
  · rw [halved_get dg (by omega)]; exact h.g10 i hi hi2
def Wr.small : Wr → Prop
  | .times n => inR 1 17 n
  | .moved n => inR (-3) 3 n
theorem wraps_small {dg : List Int} (h : DgOk dg) : (∀ w ∈ wrapsOf dg, w.small) ∧ (wrapsOf dg).length ≤ 3 := by
  have g6 := h.g6
  have g7 := h.g7
  have sq : 0 ≤ dg.getD 7 0 * dg.getD 7 0 ∧ dg.getD 7 0 * dg.getD 7 0 ≤ 16 := by
    have : dg.getD 7 0 = 0 ∨ dg.getD 7 0 = 1 ∨ dg.getD 7 0 = 2 ∨ dg.getD 7 0 = 3 ∨ dg.getD 7 0 = 4 := by omega
    rcases this with e | e | e | e | e <;> rw [e] <;> decide
  have s1 : Wr.small (.times (1 + dg.getD 7 0 * dg.getD 7 0)) := by show inR _ _ _; unfold inR; omega
  have s2 : Wr.small (.moved (dg.getD 7 0 - 2)) := by show inR _ _ _; unfold inR; omega
  have c1 : Wr.small (.times 2) := ⟨by decide, by decide⟩
  have c2 : Wr.small (.times 3) := ⟨by decide, by decide⟩
  have c3 : Wr.small (.moved 3) := ⟨by decide, by decide⟩
  have c4 : Wr.small (.moved (-1)) := ⟨by decide, by decide⟩
  unfold wrapsOf
  have : dg.getD 6 0 = 0 ∨ dg.getD 6 0 = 1 ∨ dg.getD 6 0 = 2 ∨ dg.getD 6 0 = 3 ∨ dg.getD 6 0 = 4 ∨ dg.getD 6 0 = 5 ∨ dg.getD 6 0 = 6 ∨ dg.getD 6 0 = 7 := by omega
  rcases this with e | e | e | e | e | e | e | e <;> rw [e]
  · exact ⟨(fun w hw => nomatch hw), Nat.le_of_ble_eq_true rfl⟩
  · exact ⟨(fun w hw => nomatch hw), Nat.le_of_ble_eq_true rfl⟩
  · exact ⟨(fun w hw => nomatch hw), Nat.le_of_ble_eq_true rfl⟩
  · refine ⟨fun w hw => ?_, Nat.le_of_ble_eq_true rfl⟩
    rw [List.mem_singleton.mp hw]
    exact s1
  · refine ⟨fun w hw => ?_, Nat.le_of_ble_eq_true rfl⟩
    rw [List.mem_singleton.mp hw]
    exact s2
  · refine ⟨fun w hw => ?_, Nat.le_of_ble_eq_true rfl⟩
    rcases List.mem_cons.mp hw with rfl | hw
    · exact c1
    · rw [List.mem_singleton.mp hw]; exact s2
  · refine ⟨fun w hw => ?_, Nat.le_of_ble_eq_true rfl⟩
    rcases List.mem_cons.mp hw with rfl | hw
    · exact s2
    · rw [List.mem_singleton.mp hw]; exact c3
  · refine ⟨fun w hw => ?_, Nat.le_of_ble_eq_true rfl⟩
    rcases List.mem_cons.mp hw with rfl | hw
    · exact c4
    · rcases List.mem_cons.mp hw with rfl | hw
      · exact c2
      · rw [List.mem_singleton.mp hw]; exact c1
theorem single_ok {dg : List Int} {bot top : Int} (h : DgOk dg) (h2 : inR (-50) 50 bot) (h3 : inR bot 50 top) (g3 : 0 ≤ dg.getD 3 0 ∧ dg.getD 3 0 < top - bot + 5) : (singleBs dg bot).ok ∧ (singleBs dg bot).two = false := by
  have g4 := h.g4
  have g5 := h.g5
  unfold inR at h2 h3
  unfold singleBs
  repeat' split
  · exact ⟨⟨by omega, by omega⟩, rfl⟩
  · exact ⟨⟨⟨by omega, by omega⟩, ⟨by omega, by omega⟩⟩, rfl⟩
  · exact ⟨⟨⟨by omega, by omega⟩, ⟨by omega, by omega⟩⟩, rfl⟩
  · exact ⟨⟨⟨by omega, by omega⟩, (good_worths h _).1⟩, rfl⟩
  · exact ⟨⟨⟨by omega, by omega⟩, ⟨by omega, by omega⟩⟩, rfl⟩
theorem double_ok {dg : List Int} (h : DgOk dg) : (doubleBs dg).ok ∧ (doubleBs dg).two = true := by
  have g4 := h.g4
  unfold doubleBs
  repeat' split
  · exact ⟨⟨⟨by omega, by omega⟩, ⟨by omega, by omega⟩⟩, rfl⟩
  · exact ⟨⟨⟨by omega, by omega⟩, (good_worths h _).1⟩, rfl⟩
  · exact ⟨⟨by omega, by omega⟩, rfl⟩
theorem small_ok {w : Wr} (h : w.small) : w.ok := by
  cases w with
  | times n => have h : inR 1 17 n := h; unfold inR at h; exact ⟨by omega, by omega⟩
  | moved n => have h : inR (-3) 3 n := h; unfold inR at h; exact ⟨by omega, by omega⟩
theorem mod_ne {a c m : Int} (h1 : 0 ≤ a) (h2 : a < m) (h3 : 0 ≤ c) (h4 : c < m - 1) : a ≠ (a + 1 + c) % m ∧ 0 ≤ (a + 1 + c) % m ∧ (a + 1 + c) % m < m := by
  by_cases h : a + 1 + c < m
  · rw [Int.emod_eq_of_lt (by omega) h]
    omega
  · have e : (a + 1 + c) % m = (a + 1 + c - m) % m := by
      rw [Int.sub_emod_right]
    rw [e, Int.emod_eq_of_lt (by omega) (by omega)]
    omega
theorem genPt_ok {cell many bot top : Int} (h1 : inR 1 8 many) (h2 : inR (-50) 50 bot) (h3 : inR bot 50 top) : (genPt cell many bot top).Ok := by
  have dk := dg_ok (cell := cell) h1 h2 h3
  have hb := bounds_ok h1 h2 h3
  have hb0 : ∀ b ∈ boundsOf many bot top, 0 < b := fun b h => (hb b h).1
  have g : ∀ i, i < 19 → 0 ≤ (lawNums cell (boundsOf many bot top)).getD i 0 ∧ (lawNums cell (boundsOf many bot top)).getD i 0 < (boundsOf many bot top).getD i 0 := fun i hi => digs_get _ _ i hb0 hi
  have g1 := g 1 (by decide)
  have g2 := g 2 (by decide)
  have g3 := g 3 (by decide)
  change _ ∧ _ < many at g1
  change _ ∧ _ < (if many - 1 > 1 then many - 1 else 1) at g2
  change _ ∧ _ < top - bot + 5 at g3
  unfold genPt
  generalize lawNums cell (boundsOf many bot top) = dg at *
  have hk := halved_ok dk
  have hw := wraps_small hk
  have hw1 : ∀ w ∈ wrapsOf (halved dg), w.ok := fun w h => small_ok (hw.1 w h)
  have hw2 : (wrapsOf (halved dg)).length ≤ 8 := by omega
  unfold inR at h1
  show Pt.Ok (if many > 1 ∧ dg.getD 0 0 % 2 = 0 then _ else _)
  split
  · rename_i hc
    have db := double_ok hk
    have mn := mod_ne (a := dg.getD 1 0) (c := dg.getD 2 0) (m := many) g1.1 g1.2 g2.1 (by split at g2 <;> omega)
    refine ⟨db.1, hw1, hw2, fun x hx => ?_, fun e => ?_, fun _ => ⟨_, _, rfl, mn.1⟩⟩
    · rcases List.mem_cons.mp hx with rfl | hx
      · unfold inR; omega
      · rw [List.mem_singleton.mp hx]; unfold inR; omega
    · have e2 : (doubleBs (halved dg)).two = false := e
      rw [db.2] at e2
      cases e2
  · have db := single_ok hk h2 h3 (by rw [halved_get dg (by decide)]; exact g3)
    refine ⟨db.1, hw1, hw2, fun x hx => ?_, fun _ => ⟨_, rfl⟩, fun e => ?_⟩
    · rw [List.mem_singleton.mp hx]; unfold inR; omega
    · have e2 : (singleBs (halved dg) bot).two = true := e
      rw [db.2] at e2
      cases e2
theorem wlims_in {b : Bs} {L : Int} (h1 : ∀ a, b.lims.1 = some a → inR (-L) L a) (h2 : ∀ a, b.lims.2 = some a → inR (-L) L a) : ∀ ws : List Wr, (∀ w ∈ ws, w.small) →
    (∀ a, (wlims b ws).1 = some a → inR (-(L + 3 * (ws.length : Int))) (L + 3 * (ws.length : Int)) a) ∧ (∀ a, (wlims b ws).2 = some a → inR (-(L + 3 * (ws.length : Int))) (L + 3 * (ws.length : Int)) a)
  | [], _ => ⟨fun a e => by have := h1 a e; unfold inR at *; simp; omega, fun a e => by have := h2 a e; unfold inR at *; simp; omega⟩
  | .times n :: ws, h => by
    have ih := wlims_in h1 h2 ws fun w hw => h w (List.mem_cons_of_mem _ hw)
    rw [List.length_cons]
    refine ⟨fun a e => ?_, fun a e => ?_⟩
    · have := ih.1 a e
      unfold inR at *
      omega
    · have := ih.2 a e
      unfold inR at *
      omega
  | .moved n :: ws, h => by
    have ih := wlims_in h1 h2 ws fun w hw => h w (List.mem_cons_of_mem _ hw)
    have hn : inR (-3) 3 n := h (.moved n) List.mem_cons_self
    rw [List.length_cons]
    refine ⟨fun a e => ?_, fun a e => ?_⟩
    · obtain ⟨x, hx, rfl⟩ := Option.map_eq_some_iff.mp (show (wlims b ws).1.map (· + n) = some a from e)
      have := ih.1 x hx
      unfold inR at *
      omega
    · obtain ⟨x, hx, rfl⟩ := Option.map_eq_some_iff.mp (show (wlims b ws).2.map (· + n) = some a from e)
      have := ih.2 x hx
      unfold inR at *
      omega
theorem genPt_lims (cell : Int) : (∀ a, (genPt cell 5 (-2) 6).lims.1 = some a → inR (-60) 60 a) ∧ (∀ a, (genPt cell 5 (-2) 6).lims.2 = some a → inR (-60) 60 a) := by
  have dk := dg_ok (cell := cell) (many := 5) (bot := -2) (top := 6) ⟨by decide, by decide⟩ ⟨by decide, by decide⟩ ⟨by decide, by decide⟩
  have key : ∀ (b : Bs) (ws : List Wr), (∀ w ∈ ws, w.small) → ws.length ≤ 3 → (∀ a, b.lims.1 = some a → inR (-20) 20 a) → (∀ a, b.lims.2 = some a → inR (-20) 20 a) → (∀ a, (wlims b ws).1 = some a → inR (-60) 60 a) ∧ (∀ a, (wlims b ws).2 = some a → inR (-60) 60 a) := fun b ws h1 h2 h3 h4 => by
    have h := wlims_in (L := 20) h3 h4 ws h1
    refine ⟨fun a e => ?_, fun a e => ?_⟩
    · have := h.1 a e
      unfold inR at *
      omega
    · have := h.2 a e
      unfold inR at *
      omega
  unfold genPt
  generalize lawNums cell (boundsOf 5 (-2) 6) = dg at *
  have hk := halved_ok dk
  have hw := wraps_small hk
  have gw := fun k => (good_worths hk k).2
  have gl := fun k => (good_worths hk k).1.1
  have g5 := hk.g5
  show (∀ a, (if (5 : Int) > 1 ∧ dg.getD 0 0 % 2 = 0 then (⟨[dg.getD 1 0, (dg.getD 1 0 + 1 + dg.getD 2 0) % 5], doubleBs (halved dg), wrapsOf (halved dg)⟩ : Pt) else ⟨[dg.getD 1 0], singleBs (halved dg) (-2), wrapsOf (halved dg)⟩).lims.1 = some a → _) ∧ (∀ a, (if (5 : Int) > 1 ∧ dg.getD 0 0 % 2 = 0 then (⟨[dg.getD 1 0, (dg.getD 1 0 + 1 + dg.getD 2 0) % 5], doubleBs (halved dg), wrapsOf (halved dg)⟩ : Pt) else ⟨[dg.getD 1 0], singleBs (halved dg) (-2), wrapsOf (halved dg)⟩).lims.2 = some a → _)
  have n1 : ∀ (a : Int), (none : Option Int) = some a → inR (-20) 20 a := fun a e => nomatch e
  split
  · refine key _ _ hw.1 hw.2 ?_ ?_
    · unfold doubleBs
      repeat' split
      · exact n1
      · intro a e; cases e; unfold inR; omega
      · exact n1
    · unfold doubleBs
      repeat' split
      · exact n1
      · intro a e
        have := gw ((halved dg).getD 7 0)
        have := gl ((halved dg).getD 7 0)
        cases e; unfold inR; omega
      · intro a e; cases e; unfold inR; omega
  · refine key _ _ hw.1 hw.2 ?_ ?_
    · unfold singleBs
      repeat' split
      · exact n1
      · exact n1
      · exact n1
      · intro a e; cases e; unfold inR; omega
      · intro a e; cases e; unfold inR; omega
    · unfold singleBs
      repeat' split
      · exact n1
      · exact n1
      · exact n1
      · intro a e
        have := gw ((halved dg).getD 7 0)
        have := gl ((halved dg).getD 7 0)
        cases e; unfold inR; omega
      · intro a e; cases e; unfold inR; omega

section
variable {K : PySem.W.Frag} {ds es : List D} {d : D}
theorem ok1 {a : Int} {b : Bs} (h : b.ok) (h2 : b.two = false) (ha : inR 0 7 a) : Pt.Ok ⟨[a], b, []⟩ :=
  ⟨h, (fun w hw => nomatch hw), Nat.zero_le _, (fun x hx => by rw [List.mem_singleton.mp hx]; exact ha), (fun _ => ⟨a, rfl⟩), fun e => by rw [show b.two = true from e] at h2; cases h2⟩
theorem ok2 {a c : Int} {b : Bs} (h : b.ok) (h2 : b.two = true) (ha : inR 0 7 a) (hc : inR 0 7 c) (hne : a ≠ c) : Pt.Ok ⟨[a, c], b, []⟩ :=
  ⟨h, (fun w hw => nomatch hw), Nat.zero_le _, (fun x hx => by
    rcases List.mem_cons.mp hx with rfl | hx
    · exact ha
    · rw [List.mem_singleton.mp hx]; exact hc), (fun e => by rw [show b.two = false from e] at h2; cases h2), fun _ => ⟨a, c, rfl, hne⟩⟩
theorem near_r {r : Int} (h : inR (-1000) 1000 r) : inR (-(farN 8)) (farN 8) r := by
  unfold inR farN far at *
  omega
theorem row2 {f v : Int} (h : f = -1) : rowAt f [3, 1, v] 1 = some v := by subst h; rfl
theorem row3 {v : Int} : rowAt (-1) [3, 1, v] 2 = none := rfl
theorem e_classes (pf : PF K) (hA : PySem.W.kitOne K (.ref (ga K "Near")) (.ref (ga K "Aim")) = some true) (hRw : PySem.W.kitOne K (.ref (ga K "Gaps")) (.ref (ga K "Row")) = some true) (h : R_classes ds d) : EvS K (t__law_classes K) (startR N__law_classes ds) (.rt d) := by
  obtain ⟨c, rfl, rfl⟩ := h
  show EvS K _ [.p (.int c), .no, .no, .no, .no, .no] _
  unfold t__law_classes
  have c9 : (0 : Int) ≤ c % 9 ∧ c % 9 < 9 := by omega
  have c50 : (0 : Int) ≤ c % 50 ∧ c % 50 < 50 := by omega
  have gw : GoodW [3, 1, 1 + c % 9] := by
    refine ⟨Nat.le_of_ble_eq_true rfl, Nat.le_of_ble_eq_true rfl, fun x hx => ?_, ⟨by omega, trivial⟩⟩
    simp only [List.mem_cons, List.not_mem_nil, or_false] at hx
    unfold inR
    omega
  have okR : Pt.Ok ⟨[1], .row (-1) [3, 1, 1 + c % 9], []⟩ := ok1 ⟨⟨by decide, by decide⟩, gw⟩ rfl ⟨by decide, by decide⟩
  have okG : Pt.Ok ⟨[1, 0], .gaps (-1) [3, 1, 1 + c % 9], []⟩ := ok2 ⟨⟨by decide, by decide⟩, gw⟩ rfl ⟨by decide, by decide⟩ ⟨by decide, by decide⟩ (by decide)
  have okN : Pt.Ok ⟨[0, 1], .near 0 1, []⟩ := ok2 ⟨⟨by decide, by decide⟩, ⟨by decide, by decide⟩⟩ rfl ⟨by decide, by decide⟩ ⟨by decide, by decide⟩ (by decide)
  have okN4 : Pt.Ok ⟨[1, 0], .near 0 4, []⟩ := ok2 ⟨⟨by decide, by decide⟩, ⟨by decide, by decide⟩⟩ rfl ⟨by decide, by decide⟩ ⟨by decide, by decide⟩ (by decide)
  have okA : Pt.Ok ⟨[2], .aim 5 1, []⟩ := ok1 ⟨⟨by decide, by decide⟩, ⟨by decide, by decide⟩⟩ rfl ⟨by decide, by decide⟩
  have okS : Pt.Ok ⟨[2], .square 5 1, []⟩ := ok1 ⟨⟨by decide, by decide⟩, ⟨by decide, by decide⟩⟩ rfl ⟨by decide, by decide⟩
  refine evs_seq (evs_setO (ds := [.int 3, .int 1, .int (1 + c % 9)]) (by walk_at "ev") rfl) ?_
  refine evs_seq (evs_set (d := partD K ⟨[1], .row (-1) [3, 1, 1 + c % 9], []⟩) (evd_makeB0 (as := [.p (.int 1), .p (.int (-1)), .b [.int 3, .int 1, .int (1 + c % 9)]]) (eab_p evd_int (eab_p (by walk_at "ev") (eab_v (.inl rfl) eab_nil))) ⟨isp _ (by kernel_rfl), 1, -1, _, [3, 1, 1 + c % 9], rfl, .inr rfl, ⟨by decide, by decide⟩, ⟨by decide, by decide⟩, gw, rfl, rfl⟩) rfl) ?_
  refine evs_seq (evs_set (d := partD K ⟨[1, 0], .gaps (-1) [3, 1, 1 + c % 9], []⟩) (evd_makeB0 (as := [.p (.int 1), .p (.int 0), .p (.int (-1)), .b [.int 3, .int 1, .int (1 + c % 9)]]) (eab_p evd_int (eab_p evd_int (eab_p (by walk_at "ev") (eab_v (.inl rfl) eab_nil)))) ⟨isp _ (by kernel_rfl), 1, 0, -1, _, [3, 1, 1 + c % 9], rfl, .inr rfl, ⟨by decide, by decide⟩, ⟨by decide, by decide⟩, by decide, ⟨by decide, by decide⟩, gw, rfl, rfl⟩) rfl) ?_
  refine evs_seq (evs_clear rfl rfl) ?_
  refine evs_seq (evs_set (d := partD K ⟨[0, 1], .near 0 1, []⟩) (evd_make (es := [.int 0, .int 1]) (des := [.int 0, .int 1]) (by walk_at "ev") (fun _ => .cons (.int 0) (.cons (.int 1) .nil)) ⟨isp _ (by kernel_rfl), 0, 1, 0, 1, rfl, ⟨by decide, by decide⟩, ⟨by decide, by decide⟩, by decide, ⟨by decide, by decide⟩, ⟨by decide, by decide⟩, rfl, rfl⟩) rfl) ?_
  refine evs_no (b := false) (evt_is (evt_or (a := false) (b := false) (evt_is (evt_not (evt_B (evd_cb (eva_cons (evd_var rfl) (by walk_at "ev")) (ok_isi (ty_part pf _) (.own _) hA)))) rfl) (fun _ => evt_is (evt_or (a := false) (b := false) (evt_is (evt_not (evt_B (evd_cb (eva_cons (evd_var rfl) (by walk_at "ev")) (ok_isi (ty_part pf _) (.own _) hRw)))) rfl) (fun _ => evt_is (evt_not (evt_B (evd_cb (eva_cons (d := partD K ⟨[0, 1], .ahead 2, []⟩) (evd_make0 (es := [.int 0, .int 1, .int 2]) (by walk_at "ev") ⟨isp _ (by kernel_rfl), 0, 1, 2, rfl, ⟨by decide, by decide⟩, ⟨by decide, by decide⟩, by decide, ⟨by decide, by decide⟩, rfl, rfl⟩) (by walk_at "ev")) (ok_isi (ty_part pf _) (.own _) (pf.isP _ (Pt.cls_mem _)))))) rfl)) rfl)) rfl) rfl ?_
  have wN : ∀ {ρ : Rho} {r : Int} {ta : TE}, ρ[4]? = some (.p (partD K ⟨[0, 1], .near 0 1, []⟩)) → inR (-1000) 1000 r → EvD K ta ρ (.int r) → EvD K (tMethD "worth_of" (IsP K) (fun C => spD K (R_worth K 8 C)) E0 (tVar 4) (tCons ta tNil)) ρ (.int (1 * iabs (r - 0))) := fun h1 h2 h3 => call_worth 8 (evd_var h1) h3 okN (Nat.zero_le _) (near_r h2)
  have lcN : EvO K (tLc (iTup K (tTup (tCons (tUn zNeg (tC (.int 2))) (tCons (tC (.int 0)) (tCons (tC (.int 3)) tNil))))) (gName 5) tYes (tMethD "worth_of" (IsP K) (fun C => spD K (R_worth K 8 C)) E0 (tVar 4) (tCons (tVar 5) tNil)) [5]) [.p (.int c), .o [], .p (partD K ⟨[1], .row (-1) [3, 1, 1 + c % 9], []⟩), .p (partD K ⟨[1, 0], .gaps (-1) [3, 1, 1 + c % 9], []⟩), .p (partD K ⟨[0, 1], .near 0 1, []⟩), .no] ([D.int 2, .int 0, .int 3]) :=
    evo_lc (evi_tup (ds := [.int (-2), .int 0, .int 3]) (by walk_at "ev")) wipes_name (.yes evg_name evt_yes (evd_is (wN rfl ⟨by decide, by decide⟩ (evd_var rfl)) (congrArg D.int (by decide))) (.yes evg_name evt_yes (evd_is (wN rfl ⟨by decide, by decide⟩ (evd_var rfl)) (congrArg D.int (by decide))) (.yes evg_name evt_yes (evd_is (wN rfl ⟨by decide, by decide⟩ (evd_var rfl)) (congrArg D.int (by decide))) .nil))) (Nat.le_of_ble_eq_true rfl)
  have neN : Ok2 K (zNe K) (.lst [.int 2, .int 0, .int 3]) (.lst [.int 2, .int 0, .int 3]) (.bl false) := okb (ne_ints (xs := [2, 0, 3]) (ys := [2, 0, 3])) (by decide)
  have mk4 : ∀ {ρ : Rho}, EvD K (tMakeN (ga K "Near") 2 (List.length [("weight" : Str)]) (spM K (R_Near_init K)) (gv_Near_2_weight) E0 (tCons (tC (.int 1)) (tCons (tC (.int 0)) tNil)) (tCons (tC (.int 4)) tNil)) ρ (partD K ⟨[1, 0], .near 0 4, []⟩) :=
    evd_makeN (es := [.int 1, .int 0]) (ks := [.int 4]) (by walk_at "ev") (by walk_at "ev") rfl rfl mkn2 ⟨isp _ (by kernel_rfl), 1, 0, 0, 4, rfl, ⟨by decide, by decide⟩, ⟨by decide, by decide⟩, by decide, ⟨by decide, by decide⟩, ⟨by decide, by decide⟩, rfl, rfl⟩
  have w4 : ∀ {ρ : Rho}, EvD K (tMethD "worth_of" (IsP K) (fun C => spD K (R_worth K 8 C)) E0 (tMakeN (ga K "Near") 2 (List.length [("weight" : Str)]) (spM K (R_Near_init K)) (gv_Near_2_weight) E0 (tCons (tC (.int 1)) (tCons (tC (.int 0)) tNil)) (tCons (tC (.int 4)) tNil)) (tCons (tUn zNeg (tC (.int 1))) tNil)) ρ (.int 4) :=
    evd_is (call_worth 8 mk4 (r := -1) (by walk_at "ev") okN4 (Nat.zero_le _) (near_r ⟨by decide, by decide⟩)) (congrArg D.int (by decide))
  refine evs_no (b := false) (evt_is (evt_or (a := false) (b := false) (evt_test (evd_op (EvO.evd lcN) (by walk_at "ev") neN)) (fun _ => evt_is (evt_test (evd_op w4 evd_int ok_neII)) (by decide))) rfl) rfl ?_
  have mkA : ∀ {ρ : Rho}, EvD K (tMake (ga K "Aim") (spM K (R_Aim_init K)) [.int 1] E0 (tCons (tC (.int 2)) (tCons (tC (.int 5)) tNil))) ρ (partD K ⟨[2], .aim 5 1, []⟩) :=
    evd_make (es := [.int 2, .int 5]) (des := [.int 1]) (by walk_at "ev") (fun _ => .cons (.int 1) .nil) ⟨isp _ (by kernel_rfl), 2, 5, 1, rfl, ⟨by decide, by decide⟩, ⟨by decide, by decide⟩, ⟨by decide, by decide⟩, rfl, rfl⟩
  have mkS : ∀ {ρ : Rho}, EvD K (tMake (ga K "Square") (spM K (R_Aim_init K)) [.int 1] E0 (tCons (tC (.int 2)) (tCons (tC (.int 5)) tNil))) ρ (partD K ⟨[2], .square 5 1, []⟩) :=
    evd_make (es := [.int 2, .int 5]) (des := [.int 1]) (by walk_at "ev") (fun _ => .cons (.int 1) .nil) ⟨isp _ (by kernel_rfl), 2, 5, 1, rfl, ⟨by decide, by decide⟩, ⟨by decide, by decide⟩, ⟨by decide, by decide⟩, rfl, rfl⟩
  have m50 : ∀ {ts : List Slot}, EvD K (tOp zMod (tVar 0) (tC (.int 50))) (.p (.int c) :: ts) (.int (c % 50)) := evd_op (evd_var rfl) evd_int (ok_mod (by decide))
  refine evs_no (b := false) (evt_is (evt_or (a := false) (b := false) (evt_is (evt_test (evd_op (x := .int (1 * iabs (c % 50 - 5))) (y := .int (iabs (c % 50 - 5))) (call_worth 8 mkA m50 okA (Nat.zero_le _) (near_r ⟨by omega, by omega⟩)) (evd_cb (eva_cons (evd_op m50 evd_int ok_sub) eva_nil) ok_abs) ok_neII)) ?_) (fun _ => evt_is (evt_test (evd_op (x := .int (1 * (c % 50 - 5) * (c % 50 - 5))) (y := .int ((c % 50 - 5) ^ Int.toNat 2)) (call_worth 8 mkS m50 okS (Nat.zero_le _) (near_r ⟨by omega, by omega⟩)) (evd_op (evd_op m50 evd_int ok_sub) evd_int (ok_pow ⟨by decide, by decide, by omega⟩)) ok_neII)) ?_)) rfl) rfl ?_
  · rw [Int.one_mul]
    show (!(iabs (c % 50 - 5) == iabs (c % 50 - 5))) = false
    rw [beq_self_eq_true]
    rfl
  · rw [Int.one_mul]
    show (!((c % 50 - 5) * (c % 50 - 5) == (c % 50 - 5) ^ 2)) = false
    rw [Int.pow_succ, Int.pow_succ, Int.pow_zero, Int.one_mul, beq_self_eq_true]
    rfl
  refine evs_ret (evd_is (evd_op (x := .lst [.int (1 + c % 9), .int (1 + c % 9), .non]) (y := .lst [.int (1 + c % 9), .int (1 + c % 9), .non]) (evd_lst (eva_cons (call_worth 8 (p := ⟨[1], .row (-1) [3, 1, 1 + c % 9], []⟩) (r := 1) (evd_var rfl) evd_int okR (Nat.zero_le _) (near_r ⟨by decide, by decide⟩)) (eva_cons (call_worth 8 (p := ⟨[1, 0], .gaps (-1) [3, 1, 1 + c % 9], []⟩) (r := 1) (evd_var rfl) evd_int okG (Nat.zero_le _) (near_r ⟨by decide, by decide⟩)) (eva_cons (call_worth 8 (p := ⟨[1, 0], .gaps (-1) [3, 1, 1 + c % 9], []⟩) (r := 2) (evd_var rfl) evd_int okG (Nat.zero_le _) (near_r ⟨by decide, by decide⟩)) eva_nil))) (Nat.le_of_ble_eq_true rfl)) (by walk_at "ev") (ok_eq0 (ok_eqD (e := .list [.int (1 + c % 9), .int (1 + c % 9), .none]) (f := .list [.int (1 + c % 9), .int (1 + c % 9), .none]) rfl rfl rfl rfl))) ?_)
  have e1 := int_eqv (1 + c % 9)
  show D.bl (PyData.eqv (.int (1 + c % 9)) (.int (1 + c % 9)) && (PyData.eqv (.int (1 + c % 9)) (.int (1 + c % 9)) && (true && true))) = .bl true
  rw [e1]
  rfl
theorem r_cell {ns : List Int} {k : Int} (h : 0 ≤ k) (hl : ns.length ≤ 63) : R_cell [.scr ns, .int k] (.int (lawCell ns k)) := ⟨ns, k, rfl, h, hl, rfl⟩
theorem e_law (h : R_law ds d) : EvS K (t_law K) (startR N_law ds) (.rt d) := by
  obtain ⟨ns, rfl, hl, rfl⟩ := h
  show EvS K _ [.p (.scr ns), .no, .no] _
  unfold t_law
  have q : (0 : Int) ≤ lawCell ns 1 % 8 ∧ lawCell ns 1 % 8 < 8 := by omega
  refine evs_seq (ρ1 := [.p (.scr ns), .no, .no]) (evs_for (evi_rng1 (n := 1 + lawCell ns 1 % 8) (eva_cons (evd_op evd_int (evd_op (evd_call0 (by walk_at "ev") (r_cell (by decide) hl)) evd_int (ok_mod (by decide))) ok_plus) eva_nil) (by omega) (by omega)) (forR_keep (g := gName 1) fun d hd => ?_)) ?_
  · obtain ⟨k, rfl, h1, h2⟩ := mem_rgD hd
    refine evs_forget (j := 1) (s := .p (.int k)) (evs_forget (j := 2) (s := .p (.int (lawCell ns (8 + k)))) ?_ rfl) rfl
    refine evs_seq (evs_set (d := .int (lawCell ns (8 + k))) (evd_call0 (by walk_at "ev") (r_cell (by omega) hl)) rfl) ?_
    generalize lawCell ns (8 + k) = c
    have gl := genPt_lims c
    refine evs_if (b := false) (evt_is (evt_not (evt_B (evd_call0 (ds := [ptD (genPt c 5 (-2) 6), .int c]) (eva_cons (evd_call0 (by walk_at "ev") ⟨c, 5, -2, 6, rfl, ⟨by decide, by decide⟩, ⟨by decide, by decide⟩, ⟨by decide, by decide⟩, rfl⟩) (by walk_at "ev")) ⟨_, c, rfl, genPt_ok ⟨by decide, by decide⟩ ⟨by decide, by decide⟩ ⟨by decide, by decide⟩, gl.1, gl.2, rfl⟩))) rfl) (fun z => nomatch z) (fun _ => evs_next)
  exact evs_ret (evd_call0 (eva_cons (evd_call0 (by walk_at "ev") (r_cell (by decide) hl)) eva_nil) ⟨_, rfl, rfl⟩)
end

/-! ### facts of the text behind the top: a Hook of our own -/
inductive Fc where
  | fa (f : He.Fa)
  | ty (x : Str)
  | isi (x y : Str) (b : Bool)
  | cfn (x m : Str)
  | same (x m y : Str)
  | inj (xs : List Str)
  | all (xs : List Str) (g : Str → Fc)
def eqOB (a b : Option Bool) : Bool := decide (a = b)
def tyB (K : PySem.W.Frag) (C : Addr) : Bool := eqO (PySem.W.findIn K (.ref C) "__class__") (some (some (.builtin "object.__class__"))) && (eqO (PySem.W.specialIn K (.builtin "object.__class__") "__get__") (some (some (.builtin "getset_descriptor.__get__"))) && (eqOB (PySem.W.takesIn K (.builtin "object.__class__")) (some true) && eqOB (PySem.W.mroIn K C (.type "object")) (some true)))
def cfnB (K : PySem.W.Frag) (C : Addr) (m : Str) : Bool := PySem.W.readsIn K C (.type "type") && (eqO (PySem.W.specialIn K (.ref C) "__getattribute__") (some (some (.builtin "type.__getattribute__"))) && (match PySem.W.findCls K (.ref C) (.type "type") m with
  | some (.val u) => decide (u = .ref (ma K C m))
  | _ => false))
def Fc.ok (K : PySem.W.Frag) : Fc → Bool
  | .fa f => f.ok K
  | .ty x => tyB K (ga K x)
  | .isi x y b => eqOB (PySem.W.kitOne K (.ref (ga K x)) (.ref (ga K y))) (some b)
  | .cfn x m => cfnB K (ga K x) m
  | .same x m y => decide (ma K (ga K x) m = ma K (ga K y) m)
  | .inj xs => xs.all fun x => xs.all fun y => !decide (ga K x = ga K y) || decide (x = y)
  | .all xs g => xs.all fun x => (g x).ok K
def obsE (fa : List Fc) (fn : List DefD) (K : PySem.W.Frag) : AlD := ((fa.all fun f => f.ok K) && fn.all fun d => d.ok K, fn.map fun d => fnW K d.at_)
def SaysE (fa : List Fc) (fn : List DefD) (K : PySem.W.Frag) : Prop := obsE fa fn K = valD fn
def obsEG (n : Nat) (fa : List Fc) (fn : List DefD) (g : Addr → Option Obj) : AlD := obsE fa fn (frG g (PySem.cStatics :: asD g n))
def hookE (n : Nat) (fa : List Fc) (fn : List DefD) : PySem.W.Hook where
  α := AlD
  obs := fun s => obsEG n fa fn s.heap.get?
  val := fun _ => valD fn
  says := fun _ h => ∃ K : PySem.W.Frag, K.In h ∧ SaysE fa fn K
  of := fun _ _ e => ⟨_, frG_in, e⟩
  keeps := fun _ _ _ ⟨K, hK, c⟩ k => ⟨K, PySem.W.Frag.In.keeps hK k, c⟩
theorem obsEG_eq {n : Nat} {fa : List Fc} {fn : List DefD} {g : Addr → Option Obj} {s : Shared} (h : ∀ a, g a = s.heap.get? a) : obsEG n fa fn g = (hookE n fa fn).obs s := by
  have e : g = s.heap.get? := funext h
  rw [e] <;> rfl
section
variable {fa : List Fc} {fn : List DefD} {K : PySem.W.Frag} {h : Heap} {mg : Str → Option Value}
theorem SaysE.fact (c : SaysE fa fn K) (i : Nat) {f : Fc} (h : fa[i]? = some f := by rfl) : f.ok K = true := by
  have c1 := (ba (show ((fa.all fun f => f.ok K) && fn.all fun d => d.ok K) = true from congrArg (fun z : AlD => z.1) c)).1
  exact List.all_eq_true.mp c1 f (List.mem_of_getElem? h)
theorem SaysE.def_ (c : SaysE fa fn K) (i : Nat) {d : DefD} (h : fn[i]? = some d := by rfl) : ∃ fd, FunD K d.name d.qual d.params d.body d.scope (d.dvs K) (d.kws K) (fAd K d.at_) fd := by
  have c2 := (ba (show ((fa.all fun f => f.ok K) && fn.all fun d => d.ok K) = true from congrArg (fun z : AlD => z.1) c)).2
  have e : fn.map (fun d => fnW K d.at_) = fn.map DefD.val := congrArg (fun z : AlD => z.2) c
  have e2 : (fn.map fun d => fnW K d.at_)[i]? = (fn.map DefD.val)[i]? := by rw [e]
  rw [List.getElem?_map, List.getElem?_map, h] at e2
  exact DefD.funD (Option.some.inj e2) (List.all_eq_true.mp c2 d (List.mem_of_getElem? h))
theorem fc_all {xs : List Str} {g : Str → Fc} (c : (Fc.all xs g).ok K = true) {x : Str} (hx : x ∈ xs) : (g x).ok K = true := List.all_eq_true.mp (show (xs.all fun x => (g x).ok K) = true from c) x hx
theorem fc_isi {x y : Str} {b : Bool} (c : (Fc.isi x y b).ok K = true) : PySem.W.kitOne K (.ref (ga K x)) (.ref (ga K y)) = some b := of_decide_eq_true (show decide _ = true from c)
theorem fc_ty {x : Str} (cl : Cls K (ga K x)) (c : (Fc.ty x).ok K = true) : InsTy K (ga K x) := by
  obtain ⟨c1, c⟩ := ba (show tyB K (ga K x) = true from c)
  obtain ⟨c2, c⟩ := ba c
  obtain ⟨c3, c4⟩ := ba c
  exact fun H a dx fs e => .ins e cl (eqO_ok c1) (eqO_ok c2) (of_decide_eq_true c3) (of_decide_eq_true c4)
theorem fc_cfn {x m : Str} (c : (Fc.cfn x m).ok K = true) : ClX.CRead K (ga K x) (.type "type") ∧ ClX.CVal K (ga K x) (.type "type") m (.ref (ma K (ga K x) m)) (.ref (ma K (ga K x) m)) := by
  obtain ⟨c1, c⟩ := ba (show cfnB K (ga K x) m = true from c)
  obtain ⟨c2, c3⟩ := ba c
  refine ⟨⟨c1, eqO_ok c2⟩, ?_, rfl⟩
  cases e : PySem.W.findCls K (.ref (ga K x)) (.type "type") m with
  | none => rw [e] at c3; cases c3
  | some z =>
    rw [e] at c3
    cases z with
    | val u => rw [of_decide_eq_true (show decide (u = .ref (ma K (ga K x) m)) = true from c3)]
    | get g a o t => cases c3
theorem fc_same {x m y : Str} (c : (Fc.same x m y).ok K = true) : ma K (ga K x) m = ma K (ga K y) m := of_decide_eq_true (show decide _ = true from c)
theorem fc_inj {xs : List Str} (c : (Fc.inj xs).ok K = true) : ∀ x ∈ xs, ∀ y ∈ xs, ga K x = ga K y → x = y := fun x hx y hy e => by
  have h1 := List.all_eq_true.mp (List.all_eq_true.mp (show (xs.all fun x => xs.all fun y => !decide (ga K x = ga K y) || decide (x = y)) = true from c) x hx) y hy
  rw [decide_eq_true e] at h1
  exact of_decide_eq_true h1
theorem fc_meth {x m y : Str} (c : (Fc.fa (.meth x m)).ok K = true) (s : (Fc.same x m y).ok K = true) : Meth K (ga K x) m (ma K (ga K y) m) := by
  rw [← fc_same s]
  exact meth_ok c
theorem fc_mkr {x y : Str} (c : (Fc.fa (.mkr x)).ok K = true) (s : (Fc.same x "__init__" y).ok K = true) : Mk K (ga K x) (ma K (ga K y) "__init__") := by
  rw [← fc_same s]
  exact mkr_ok c
end
/-- all values given: the defaults go unused -/
theorem binds_all {K : PySem.W.Frag} {x qual : Str} {params : Arguments} {body : List Stmt} {scope : Scope} {dvs : List V} {kws : List (Str × V)} {f : Addr} {fd : FuncData} {ps : List Str} (F : FunD K x qual params body scope dvs kws f fd) (hd : dvs ≠ [])
    (h : ∀ (T : Addr) (kV doc pm : Value) (an : Option Addr) (cdv ct : Value) (us its : List Value), us.length = ps.length → its.length = dvs.length →
      ∃ k, bindArgs (PySem.W.fnOf x qual params body scope (.ref T) kV doc pm an cdv ct) ⟨us, []⟩ = seqItems? (.ref T) >>= k ∧ k (some its.toArray) = pure (ps.zip (us ++ its.drop dvs.length))) : Binds K fd ps [] := by
  obtain ⟨ds, h1, h2⟩ := FunD.binds1 F ps.length dvs.length hd (by omega) h
  rw [List.drop_length] at h1
  cases h1
  exact h2
/-- a def with an empty promise -/
theorem fnNo {P : Program} {w : World} {K : PySem.W.Frag} {mg : Str → Option Value} {base : Heap} {x qual : Str} {params : Arguments} {body : List Stmt} {scope : Scope} {dvs : List V} {kws : List (Str × V)} {f : Addr} {fd : FuncData} {N ps : List Str} {k : Nat} {R : List D → D → Prop} (F : FunD K x qual params body scope dvs kws f fd) (S : FnScope N ps scope) (hR : ∀ ds d, ¬ R ds d) : FnOk P w K mg base CX0 (k + 1) f fd ps (spD K R) := by
  refine F.ok S (fun vs H Q E h => ?_) (fun cdv A outer s H vs Q E hr h => ?_)
  · obtain ⟨B, ds, d, _, r, hR', _⟩ := h
    exact absurd hR' (hR ds d)
  · obtain ⟨B, ds, d, _, r, hR', _⟩ := h
    exact absurd hR' (hR ds d)
/-! ### parts by their class -/
section
variable {K : PySem.W.Frag} {ds : List D} {d : D} {n : Nat}
theorem no_cls {a b : Str} (h : a = b) (e : decide (a = b) = false) : False := of_decide_eq_false e h
theorem pt_slope {p : Pt} (h : p.cls = "Slope") : ∃ whr w, p = ⟨whr, .slope w, []⟩ := by
  obtain ⟨whr, b, ws⟩ := p
  cases ws with
  | nil => cases b <;> first | exact ⟨_, _, rfl⟩ | exact (no_cls h (by kernel_rfl)).elim
  | cons w ws => cases w <;> exact (no_cls h (by kernel_rfl)).elim
theorem pt_aim {p : Pt} (h : p.cls = "Aim") : ∃ whr a w, p = ⟨whr, .aim a w, []⟩ := by
  obtain ⟨whr, b, ws⟩ := p
  cases ws with
  | nil => cases b <;> first | exact ⟨_, _, _, rfl⟩ | exact (no_cls h (by kernel_rfl)).elim
  | cons w ws => cases w <;> exact (no_cls h (by kernel_rfl)).elim
theorem pt_square {p : Pt} (h : p.cls = "Square") : ∃ whr a w, p = ⟨whr, .square a w, []⟩ := by
  obtain ⟨whr, b, ws⟩ := p
  cases ws with
  | nil => cases b <;> first | exact ⟨_, _, _, rfl⟩ | exact (no_cls h (by kernel_rfl)).elim
  | cons w ws => cases w <;> exact (no_cls h (by kernel_rfl)).elim
theorem pt_near {p : Pt} (h : p.cls = "Near") : ∃ whr a w, p = ⟨whr, .near a w, []⟩ := by
  obtain ⟨whr, b, ws⟩ := p
  cases ws with
  | nil => cases b <;> first | exact ⟨_, _, _, rfl⟩ | exact (no_cls h (by kernel_rfl)).elim
  | cons w ws => cases w <;> exact (no_cls h (by kernel_rfl)).elim
theorem pt_row {p : Pt} (h : p.cls = "Row") : ∃ whr f xs, p = ⟨whr, .row f xs, []⟩ := by
  obtain ⟨whr, b, ws⟩ := p
  cases ws with
  | nil => cases b <;> first | exact ⟨_, _, _, rfl⟩ | exact (no_cls h (by kernel_rfl)).elim
  | cons w ws => cases w <;> exact (no_cls h (by kernel_rfl)).elim
theorem pt_gaps {p : Pt} (h : p.cls = "Gaps") : ∃ whr f xs, p = ⟨whr, .gaps f xs, []⟩ := by
  obtain ⟨whr, b, ws⟩ := p
  cases ws with
  | nil => cases b <;> first | exact ⟨_, _, _, rfl⟩ | exact (no_cls h (by kernel_rfl)).elim
  | cons w ws => cases w <;> exact (no_cls h (by kernel_rfl)).elim
theorem pt_wall {p : Pt} (h : p.cls = "Wall") : ∃ whr lo hi, p = ⟨whr, .wall lo hi, []⟩ := by
  obtain ⟨whr, b, ws⟩ := p
  cases ws with
  | nil => cases b <;> first | exact ⟨_, _, _, rfl⟩ | exact (no_cls h (by kernel_rfl)).elim
  | cons w ws => cases w <;> exact (no_cls h (by kernel_rfl)).elim
theorem pt_ahead {p : Pt} (h : p.cls = "Ahead") : ∃ whr g, p = ⟨whr, .ahead g, []⟩ := by
  obtain ⟨whr, b, ws⟩ := p
  cases ws with
  | nil => cases b <;> first | exact ⟨_, _, rfl⟩ | exact (no_cls h (by kernel_rfl)).elim
  | cons w ws => cases w <;> exact (no_cls h (by kernel_rfl)).elim
theorem pt_times {p : Pt} (h : p.cls = "Times") : ∃ whr b m ws, p = ⟨whr, b, .times m :: ws⟩ := by
  obtain ⟨whr, b, ws⟩ := p
  cases ws with
  | nil => cases b <;> exact (no_cls h (by kernel_rfl)).elim
  | cons w ws => cases w <;> first | exact ⟨_, _, _, _, rfl⟩ | exact (no_cls h (by kernel_rfl)).elim
theorem pt_moved {p : Pt} (h : p.cls = "Moved") : ∃ whr b m ws, p = ⟨whr, b, .moved m :: ws⟩ := by
  obtain ⟨whr, b, ws⟩ := p
  cases ws with
  | nil => cases b <;> exact (no_cls h (by kernel_rfl)).elim
  | cons w ws => cases w <;> first | exact ⟨_, _, _, _, rfl⟩ | exact (no_cls h (by kernel_rfl)).elim
theorem PF.name (pf : PF K) {x : Str} (hx : x ∈ partNames) {p : Pt} (h : ga K x = ga K p.cls) : p.cls = x := (pf.inj x hx p.cls p.cls_mem h).symm
theorem far_le {n : Nat} {r : Int} (hn : n ≤ 8) (h : inR (-(farN n)) (farN n) r) : -(2 ^ 63) < r ∧ r < 2 ^ 63 := by
  unfold inR farN far at h
  omega
theorem w_Slope (pf : PF K) (h : R_worth K n (ga K "Slope") ds d) : EvS K (t_Slope_worth_of K) (startR N_Slope_worth_of ds) (.rt d) := by
  obtain ⟨p, r, rfl, hC, hp, hn, hr, rfl⟩ := h
  obtain ⟨whr, w, rfl⟩ := pt_slope (pf.name (by decide +kernel) hC)
  exact e_Slope_worth_of pf hp.base
theorem w_Aim (pf : PF K) (h : R_worth K n (ga K "Aim") ds d) : EvS K (t_Aim_worth_of K) (startR N_Aim_worth_of ds) (.rt d) := by
  obtain ⟨p, r, rfl, hC, hp, hn, hr, rfl⟩ := h
  obtain ⟨whr, a, w, rfl⟩ := pt_aim (pf.name (by decide +kernel) hC)
  exact e_aimlike pf (Bs.cls_mem _) hp.base.2
theorem w_Near (pf : PF K) (h : R_worth K n (ga K "Near") ds d) : EvS K (t_Aim_worth_of K) (startR N_Aim_worth_of ds) (.rt d) := by
  obtain ⟨p, r, rfl, hC, hp, hn, hr, rfl⟩ := h
  obtain ⟨whr, a, w, rfl⟩ := pt_near (pf.name (by decide +kernel) hC)
  exact e_aimlike pf (Bs.cls_mem _) hp.base.2
theorem w_Square (pf : PF K) (hn8 : n ≤ 8) (h : R_worth K n (ga K "Square") ds d) : EvS K (t_Square_worth_of K) (startR N_Square_worth_of ds) (.rt d) := by
  obtain ⟨p, r, rfl, hC, hp, hn, hr, rfl⟩ := h
  obtain ⟨whr, a, w, rfl⟩ := pt_square (pf.name (by decide +kernel) hC)
  have ha : inR (-100) 100 a := hp.base.1
  have hf := far_le hn8 hr
  unfold inR at ha
  exact e_Square_worth_of pf hp.base.2 ⟨by omega, by omega⟩
theorem w_Row (pf : PF K) (h : R_worth K n (ga K "Row") ds d) : EvS K (t_Row_worth_of K) (startR N_Row_worth_of ds) (.rt d) := by
  obtain ⟨p, r, rfl, hC, hp, hn, hr, rfl⟩ := h
  obtain ⟨whr, f, xs, rfl⟩ := pt_row (pf.name (by decide +kernel) hC)
  exact e_rowlike pf (Bs.cls_mem _)
theorem w_Gaps (pf : PF K) (h : R_worth K n (ga K "Gaps") ds d) : EvS K (t_Row_worth_of K) (startR N_Row_worth_of ds) (.rt d) := by
  obtain ⟨p, r, rfl, hC, hp, hn, hr, rfl⟩ := h
  obtain ⟨whr, f, xs, rfl⟩ := pt_gaps (pf.name (by decide +kernel) hC)
  exact e_rowlike pf (Bs.cls_mem _)
theorem w_Wall (pf : PF K) (h : R_worth K n (ga K "Wall") ds d) : EvS K (t_Wall_worth_of K) (startR N_Wall_worth_of ds) (.rt d) := by
  obtain ⟨p, r, rfl, hC, hp, hn, hr, rfl⟩ := h
  obtain ⟨whr, lo, hi, rfl⟩ := pt_wall (pf.name (by decide +kernel) hC)
  exact e_Wall_worth_of pf
theorem w_Ahead (pf : PF K) (h : R_worth K n (ga K "Ahead") ds d) : EvS K (t_Ahead_worth_of K) (startR N_Ahead_worth_of ds) (.rt d) := by
  obtain ⟨p, r, rfl, hC, hp, hn, hr, rfl⟩ := h
  obtain ⟨whr, g, rfl⟩ := pt_ahead (pf.name (by decide +kernel) hC)
  exact e_Ahead_worth_of pf
theorem w_Times0 (pf : PF K) : ¬ R_worth K 0 (ga K "Times") ds d := by
  rintro ⟨p, r, rfl, hC, hp, hn, hr, rfl⟩
  obtain ⟨whr, b, m, ws, rfl⟩ := pt_times (pf.name (by decide +kernel) hC)
  exact absurd hn (by simp)
theorem w_Moved0 (pf : PF K) : ¬ R_worth K 0 (ga K "Moved") ds d := by
  rintro ⟨p, r, rfl, hC, hp, hn, hr, rfl⟩
  obtain ⟨whr, b, m, ws, rfl⟩ := pt_moved (pf.name (by decide +kernel) hC)
  exact absurd hn (by simp)
theorem farN_succ {n : Nat} {r m : Int} (hm : inR (-100) 100 m) (h : inR (-(farN (n + 1))) (farN (n + 1)) r) : inR (-(farN n)) (farN n) (r - m) := by
  unfold inR farN at *
  omega
theorem w_Times (pf : PF K) (h : R_worth K (n + 1) (ga K "Times") ds d) : EvS K (t_Times_worth_of K n) (startR N_Times_worth_of ds) (.rt d) := by
  obtain ⟨p, r, rfl, hC, hp, hn, hr, rfl⟩ := h
  obtain ⟨whr, b, m, ws, rfl⟩ := pt_times (pf.name (by decide +kernel) hC)
  have := farN_succ (m := 0) ⟨by decide, by decide⟩ hr
  rw [Int.sub_zero] at this
  exact e_Times_worth_of pf hp (by simpa using hn) this
theorem w_Moved (pf : PF K) (h : R_worth K (n + 1) (ga K "Moved") ds d) : EvS K (t_Moved_worth_of K n) (startR N_Moved_worth_of ds) (.rt d) := by
  obtain ⟨p, r, rfl, hC, hp, hn, hr, rfl⟩ := h
  obtain ⟨whr, b, m, ws, rfl⟩ := pt_moved (pf.name (by decide +kernel) hC)
  exact e_Moved_worth_of pf hp (by simpa using hn) (farN_succ (hp.wraps (.moved m) List.mem_cons_self) hr)
/-! limits -/
theorem l_Plain (pf : PF K) {x : Str} (hx : x ∈ partNames) (hk : ∀ p : Pt, p.cls = x → p.lims = (none, none)) (h : R_limits K n (ga K x) ds d) : EvS K (t_Part_limits K) (startR N_Part_limits ds) (.rt d) := by
  obtain ⟨p, rfl, hC, hp, hn, rfl⟩ := h
  rw [hk p (pf.name hx hC)]
  exact e_Part_limits
theorem l_Slope (pf : PF K) (h : R_limits K n (ga K "Slope") ds d) : EvS K (t_Part_limits K) (startR N_Part_limits ds) (.rt d) := l_Plain pf (by decide +kernel) (fun p h => by obtain ⟨_, _, rfl⟩ := pt_slope h; rfl) h
theorem l_Aim (pf : PF K) (h : R_limits K n (ga K "Aim") ds d) : EvS K (t_Part_limits K) (startR N_Part_limits ds) (.rt d) := l_Plain pf (by decide +kernel) (fun p h => by obtain ⟨_, _, _, rfl⟩ := pt_aim h; rfl) h
theorem l_Square (pf : PF K) (h : R_limits K n (ga K "Square") ds d) : EvS K (t_Part_limits K) (startR N_Part_limits ds) (.rt d) := l_Plain pf (by decide +kernel) (fun p h => by obtain ⟨_, _, _, rfl⟩ := pt_square h; rfl) h
theorem l_Near (pf : PF K) (h : R_limits K n (ga K "Near") ds d) : EvS K (t_Part_limits K) (startR N_Part_limits ds) (.rt d) := l_Plain pf (by decide +kernel) (fun p h => by obtain ⟨_, _, _, rfl⟩ := pt_near h; rfl) h
theorem l_Row (pf : PF K) (h : R_limits K n (ga K "Row") ds d) : EvS K (t_Row_limits K) (startR N_Row_limits ds) (.rt d) := by
  obtain ⟨p, rfl, hC, hp, hn, rfl⟩ := h
  obtain ⟨whr, f, xs, rfl⟩ := pt_row (pf.name (by decide +kernel) hC)
  exact e_rowlims pf (Bs.cls_mem _)
theorem l_Gaps (pf : PF K) (h : R_limits K n (ga K "Gaps") ds d) : EvS K (t_Row_limits K) (startR N_Row_limits ds) (.rt d) := by
  obtain ⟨p, rfl, hC, hp, hn, rfl⟩ := h
  obtain ⟨whr, f, xs, rfl⟩ := pt_gaps (pf.name (by decide +kernel) hC)
  exact e_rowlims pf (Bs.cls_mem _)
theorem l_Wall (pf : PF K) (h : R_limits K n (ga K "Wall") ds d) : EvS K (t_Wall_limits K) (startR N_Wall_limits ds) (.rt d) := by
  obtain ⟨p, rfl, hC, hp, hn, rfl⟩ := h
  obtain ⟨whr, lo, hi, rfl⟩ := pt_wall (pf.name (by decide +kernel) hC)
  exact e_Wall_limits pf
theorem l_Ahead (pf : PF K) (h : R_limits K n (ga K "Ahead") ds d) : EvS K (t_Ahead_limits K) (startR N_Ahead_limits ds) (.rt d) := by
  obtain ⟨p, rfl, hC, hp, hn, rfl⟩ := h
  obtain ⟨whr, g, rfl⟩ := pt_ahead (pf.name (by decide +kernel) hC)
  exact e_Ahead_limits pf
theorem l_Times0 (pf : PF K) : ¬ R_limits K 0 (ga K "Times") ds d := by
  rintro ⟨p, rfl, hC, hp, hn, rfl⟩
  obtain ⟨whr, b, m, ws, rfl⟩ := pt_times (pf.name (by decide +kernel) hC)
  exact absurd hn (by simp)
theorem l_Moved0 (pf : PF K) : ¬ R_limits K 0 (ga K "Moved") ds d := by
  rintro ⟨p, rfl, hC, hp, hn, rfl⟩
  obtain ⟨whr, b, m, ws, rfl⟩ := pt_moved (pf.name (by decide +kernel) hC)
  exact absurd hn (by simp)
theorem l_Times (pf : PF K) (h : R_limits K (n + 1) (ga K "Times") ds d) : EvS K (t_Wrap_limits K n) (startR N_Wrap_limits ds) (.rt d) := by
  obtain ⟨p, rfl, hC, hp, hn, rfl⟩ := h
  obtain ⟨whr, b, m, ws, rfl⟩ := pt_times (pf.name (by decide +kernel) hC)
  exact e_Wrap_limits pf hp (by simpa using hn)
theorem l_Moved (pf : PF K) (h : R_limits K (n + 1) (ga K "Moved") ds d) : EvS K (t_Moved_limits K n) (startR N_Moved_limits ds) (.rt d) := by
  obtain ⟨p, rfl, hC, hp, hn, rfl⟩ := h
  obtain ⟨whr, b, m, ws, rfl⟩ := pt_moved (pf.name (by decide +kernel) hC)
  exact e_Moved_limits pf hp (by simpa using hn)
theorem part_cases {Q : Str → Prop} (h1 : Q "Slope") (h2 : Q "Aim") (h3 : Q "Square") (h4 : Q "Row") (h5 : Q "Wall") (h6 : Q "Near") (h7 : Q "Gaps") (h8 : Q "Ahead") (h9 : Q "Times") (h10 : Q "Moved") (x : Str) (hx : x ∈ partNames) : Q x := by
  unfold partNames at hx
  rcases List.mem_cons.mp hx with rfl | hx
  · exact h1
  rcases List.mem_cons.mp hx with rfl | hx
  · exact h2
  rcases List.mem_cons.mp hx with rfl | hx
  · exact h3
  rcases List.mem_cons.mp hx with rfl | hx
  · exact h4
  rcases List.mem_cons.mp hx with rfl | hx
  · exact h5
  rcases List.mem_cons.mp hx with rfl | hx
  · exact h6
  rcases List.mem_cons.mp hx with rfl | hx
  · exact h7
  rcases List.mem_cons.mp hx with rfl | hx
  · exact h8
  rcases List.mem_cons.mp hx with rfl | hx
  · exact h9
  rw [List.mem_singleton.mp hx]
  exact h10
theorem fam_of {P : Program} {w : World} {mg : Str → Option Value} {base : Heap} {k : Nat} {m : Str} {ps : List Str} {sp : Addr → Sp} (h : ∀ x ∈ partNames, ∃ f fd, Cls K (ga K x) ∧ Meth K (ga K x) m f ∧ FnOk P w K mg base CX0 k f fd ps (sp (ga K x)) ∧ Binds K fd ps []) : MFam P w K mg base CX0 k m ps (IsP K) sp :=
  ⟨fun C hC => by
    obtain ⟨x, hx, rfl⟩ := hC
    exact h x hx⟩
/-- the free names that `Fr` tells -/
def freeNames : List Str := ["len", "abs", "max", "min", "sum", "all", "any", "isinstance", "sorted", "range", "enumerate", "zip", "list", "tuple", "int", "bool", "str", "set", "repr"]
theorem fr_of {h : Heap} {mg : Str → Option Value} (X : K.In h) (G : h.Ns mainGlobals mg) (c : (Fc.all freeNames fun x => .fa (.free x)).ok K = true) : Fr mg := by
  have q : ∀ x ∈ freeNames, mg x = none := fun x hx => free_ok X G (fc_all c hx)
  exact ⟨q _ (by decide +kernel), q _ (by decide +kernel), q _ (by decide +kernel), q _ (by decide +kernel), q _ (by decide +kernel), q _ (by decide +kernel), q _ (by decide +kernel), q _ (by decide +kernel), q _ (by decide +kernel), q _ (by decide +kernel), q _ (by decide +kernel), q _ (by decide +kernel), q _ (by decide +kernel), q _ (by decide +kernel), q _ (by decide +kernel), q _ (by decide +kernel), q _ (by decide +kernel), q _ (by decide +kernel), q _ (by decide +kernel)⟩
def pfFacts : List Fc := [.all partNames fun x => .fa (.cls x), .all partNames fun x => .all partFields fun f => .fa (.noat x f), .all partNames fun x => .ty x, .inj partNames, .all partNames fun x => .isi x "Part" true, .all partNames fun x => .isi x "Wrap" (decide (x = "Times") || decide (x = "Moved"))]
theorem pf_of {fa : List Fc} {fn : List DefD} (c : SaysE (pfFacts ++ fa) fn K) : PF K := by
  have cl : ∀ x ∈ partNames, Cls K (ga K x) := fun x hx => cls_ok (fc_all (c.fact 0 (f := .all partNames fun x => .fa (.cls x)) rfl) hx)
  exact ⟨cl, fun x hx f hf => noat_ok (fc_all (fc_all (c.fact 1 (f := .all partNames fun x => .all partFields fun f => .fa (.noat x f)) rfl) hx) hf), fun x hx => fc_ty (cl x hx) (fc_all (c.fact 2 (f := .all partNames fun x => .ty x) rfl) hx), fc_inj (c.fact 3 (f := .inj partNames) rfl), fun x hx => fc_isi (fc_all (c.fact 4 (f := .all partNames fun x => .isi x "Part" true) rfl) hx), fun x hx => fc_isi (fc_all (c.fact 5 (f := .all partNames fun x => .isi x "Wrap" (decide (x = "Times") || decide (x = "Moved"))) rfl) hx)⟩
theorem law_in {H : Hp} {a : Addr} {ns : List Int} {E : XK} {R : List D → D → Prop} (hS : SqL K H a (ns.map V.int)) (hR : R [.scr ns] (.bl true)) : spD K R [.ref a] H (fun v _ => v = .bl true) E :=
  ⟨H, [.scr ns], .bl true, Same.refl _, .cons (.scr hS) .nil, hR, fun v B2 H2 _ r => by cases r; rfl⟩
theorem fd_uniq {x qual x' qual' : Str} {params params' : Arguments} {body body' : List Stmt} {scope scope' : Scope} {dvs dvs' : List V} {kws kws' : List (Str × V)} {f : Addr} {fd fd' : FuncData} (F : FunD K x qual params body scope dvs kws f fd) (F' : FunD K x' qual' params' body' scope' dvs' kws' f fd') : fd = fd' := by
  obtain ⟨oc, od, dV, kV, doc, pm, an, cdv, ct, osl, e1, lk, _⟩ := F.ex
  obtain ⟨oc', od', dV', kV', doc', pm', an', cdv', ct', osl', e1', lk', _⟩ := F'.ex
  have := lk.symm.trans lk'
  simp only [Option.some.injEq, Obj.mk.injEq, Data.func.injEq] at this
  exact this.2.2.1
theorem vals_app {vs zs : List V} {us ws : List Value} (h : Vals vs us) (g : Vals zs ws) : Vals (vs ++ zs) (us ++ ws) := by
  induction h with
  | nil => exact g
  | cons h t ih => exact .cons h ih
theorem vals_take (n : Nat) {vs : List V} {us : List Value} (h : Vals vs us) : Vals (vs.take n) (us.take n) := by
  induction h generalizing n with
  | nil => rw [List.take_nil, List.take_nil]; exact .nil
  | cons h t ih =>
    cases n with
    | zero => exact .nil
    | succ n => exact .cons h (ih n)
end

/-! ### halls as data -/
structure Hl where
  many : Int
  lo : Int
  hi : Int
  parts : List Pt
structure Hl.Ok (h : Hl) : Prop where
  m : inR 1 8 h.many
  l : inR (-50) 50 h.lo
  u : inR h.lo 50 h.hi
  n : h.parts.length ≤ 24
  p : ∀ p ∈ h.parts, p.Ok
  w : ∀ p ∈ h.parts, ∀ x ∈ p.whr, x < h.many
def hallNs : List Str := ["many", "low", "high", "held"]
def hallDs (K : PySem.W.Frag) (h : Hl) : List D := [.int h.many, .int h.lo, .int h.hi, .lst (h.parts.map (partD K))]
def hallD (K : PySem.W.Frag) (h : Hl) : D := .ins (ga K "Hall") hallNs (hallDs K h)
def IsH (K : PySem.W.Frag) (C : Addr) : Prop := C = ga K "Hall"
structure HF (K : PySem.W.Frag) : Prop where
  cls : Cls K (ga K "Hall")
  na : ∀ f ∈ hallNs, NoAttr K (ga K "Hall") f
def readsAt (p : Pt) (q : List Int) : Int := match p.whr with
  | [a] => q.getD a.toNat 0
  | [a, b] => q.getD a.toNat 0 - q.getD b.toNat 0
  | _ => 0
def sumW (f : Pt → Option Int) : List Pt → Int → Option Int
  | [], s => some s
  | p :: ps, s => match f p with
    | none => none
    | some w => sumW f ps (s + w)
def within (lo hi : Int) (q : List Int) : Bool := q.all fun x => decide (lo ≤ x) && decide (x ≤ hi)
def hworth (h : Hl) (q : List Int) : Option Int := if within h.lo h.hi q then sumW (fun p => p.worth (readsAt p q)) h.parts 0 else none
structure PtIn (h : Hl) (q : List Int) : Prop where
  len : (q.length : Int) = h.many
  num : ∀ x ∈ q, inR (-1000) 1000 x
def R_reads (K : PySem.W.Frag) (C : Addr) : List D → D → Prop := fun ds d => ∃ (p : Pt) (q : List Int), ds = [partD K p, intsD q] ∧ C = ga K p.cls ∧ p.Ok ∧ (∀ x ∈ p.whr, x < (q.length : Int)) ∧ d = .int (readsAt p q)
def R_Hall_init (K : PySem.W.Frag) : RMb := fun C es ns ds => C = ga K "Hall" ∧ ∃ (h : Hl) (lw : Arg), es = [.p (.int h.many), lw, .p (.int h.lo), .p (.int h.hi)] ∧ IsL lw (h.parts.map (partD K)) ∧ h.Ok ∧ ns = hallNs ∧ ds = hallDs K h
def R_hparts (K : PySem.W.Frag) : List D → List D → Prop := fun ds es => ∃ h : Hl, ds = [hallD K h] ∧ h.Ok ∧ es = h.parts.map (partD K)
def R_asked_point (K : PySem.W.Frag) : List D → List D → Prop := fun ds es => ∃ (h : Hl) (q : List Int), ds = [hallD K h, intsD q] ∧ h.Ok ∧ PtIn h q ∧ es = q.map .int
def R_worth_at (K : PySem.W.Frag) : List D → D → Prop := fun ds d => ∃ (h : Hl) (q : List Int), ds = [hallD K h, intsD q] ∧ h.Ok ∧ PtIn h q ∧ d = optD (hworth h q)
def R_hworth (K : PySem.W.Frag) : List D → D → Prop := R_worth_at K
/-! the law's plain hall -/
def plainD (h : Hl) : D := .lst [.int h.lo, .int h.hi, .lst (h.parts.map ptD)]
def R_lreads : List D → D → Prop := fun ds d => ∃ (p : Pt) (q : List Int), ds = [ptD p, intsD q] ∧ p.Ok ∧ (∀ x ∈ p.whr, x < (q.length : Int)) ∧ d = .int (readsAt p q)
def R_lworth : List D → D → Prop := fun ds d => ∃ (h : Hl) (q : List Int), ds = [plainD h, intsD q] ∧ h.Ok ∧ PtIn h q ∧ d = optD (hworth h q)
def drawn (ns : List Int) (most span : Int) : Hl where
  many := 1 + lawCell ns 0 % most
  lo := -(lawCell ns 0 / most % 4)
  hi := -(lawCell ns 0 / most % 4) + lawCell ns 0 / (4 * most) % span
  parts := (rgI 0 (lawCell ns 1 % 13)).map fun k => genPt (lawCell ns (8 + k)) (1 + lawCell ns 0 % most) (-(lawCell ns 0 / most % 4)) (-(lawCell ns 0 / most % 4) + lawCell ns 0 / (4 * most) % span)
def R_plain : List D → D → Prop := fun ds d => ∃ (ns : List Int) (most span : Int), ds = [.scr ns, .int most, .int span] ∧ ns.length ≤ 63 ∧ inR 1 8 most ∧ inR 1 40 span ∧ d = .tup [.int (drawn ns most span).many, plainD (drawn ns most span)]
def R_hall (K : PySem.W.Frag) : List D → D → Prop := fun ds d => ∃ h : Hl, ds = [.int h.many, plainD h] ∧ h.Ok ∧ d = hallD K h
def drawPt (c : Int) (h : Hl) : List Int := (lawNums c (List.replicate h.many.toNat (h.hi - h.lo + 1))).map (h.lo + ·)
def R_point : List D → List D → Prop := fun ds es => ∃ (c : Int) (h : Hl), ds = [.int c, .int h.many, plainD h] ∧ h.Ok ∧ es = (drawPt c h).map .int
def R_lasked (K : PySem.W.Frag) : List D → D → Prop := fun ds d => ∃ (h : Hl) (q : List Int), ds = [hallD K h, plainD h, intsD q] ∧ h.Ok ∧ PtIn h q ∧ d = .bl true
def R_same (K : PySem.W.Frag) : List Arg → D → Prop := fun as d => ∃ (lw : Arg) (ps : List Pt), as = [lw, .p (.lst (ps.map ptD))] ∧ IsL lw (ps.map (partD K)) ∧ (∀ p ∈ ps, p.Ok) ∧ d = .bl true
/-! zip of a lent list -/
section
variable {K : PySem.W.Frag} {ρ : Rho} {i : Nat} {tb : TE}
theorem evi_zipB {ds es : List D} (h : ρ[i]? = some (.b ds)) (hb : EvD K tb ρ (.lst es)) : EvI K (iZip K (tCons (tVar i) (tCons tb tNil))) ρ (zipD ds es) := fun B0 H0 B H σ rs R q => by
  obtain ⟨a, vs, h1, h2, h3, hr⟩ := rs.bo i ds h
  refine ⟨_, h1, ?_⟩
  refine hb B0 H0 B H σ rs _ fun u B1 H1 e1 r' => ?_
  have h3' : H1 a = some (.lst vs) := e1.h _ _ (rs.e.h _ _ h3)
  cases r' with
  | lst hh' hr' =>
    rename_i a' vs'
    refine ⟨a, a', vs, vs', rfl, SqL.of h3', SqL.of (e1.s _ _ hh'), q _ B1 H1 e1 fun B2 H2 s1 s2 s3 j => ⟨fun d hd => ?_, fun hl => ?_⟩⟩
    · unfold zipD at hd
      rw [List.getElem?_zipWith] at hd
      cases q1 : ds[j]? with
      | none => rw [q1] at hd; cases hd
      | some x =>
        cases q2 : es[j]? with
        | none => rw [q1, q2] at hd; cases hd
        | some y =>
          rw [q1, q2] at hd
          cases hd
          obtain ⟨w, g1, g2⟩ := hr.get q1
          obtain ⟨w', g1', g2'⟩ := hr'.get q2
          refine ⟨⟨vs, vs', w, w', SqL.of (s3 _ _ h3), SqL.of (s2 _ _ (s1 _ _ hh')), g1, g1'⟩, fun x H' y => ?_⟩
          obtain ⟨T, z, z', rfl, hT, rfl, hz, hz'⟩ := y
          have f1 := hz vs (SqL.of (s3 _ _ h3))
          have f2 := hz' vs' (SqL.of (s2 _ _ (s1 _ _ hh')))
          rw [g1] at f1
          rw [g1'] at f2
          cases f1; cases f2
          exact ⟨_, Ext.new s2 hT, .tup upd_same (.cons (((g2.up e1.b).up s1).up (same_new (s2.free hT))) (.cons ((g2'.up s1).up (same_new (s2.free hT))) .nil))⟩
    · refine ⟨vs, vs', SqL.of (s3 _ _ h3), SqL.of (s2 _ _ (s1 _ _ hh')), ?_⟩
      unfold zipD at hl
      rw [List.length_zipWith, hr.len, hr'.len] at hl
      omega
end
def gv_Hall_3_high : List V → List V → List V := fun vs zs => vs ++ zs

def N_Part_reads : List Str := [("self" : Str), ("point" : Str)]
def t_Part_reads (K : PySem.W.Frag) : TS := (tSeq (tIfS (tTest (tOp (zEq K) (tCB (zLen K) (tCons (tFld K (tVar 0) "where") tNil)) (tC (.int 1)))) (tRet (tOp (rIx K) (tVar 1) (tOp (rIx K) (tFld K (tVar 0) "where") (tC (.int 0))))) tNext) (tRet (tOp zSub (tOp (rIx K) (tVar 1) (tOp (rIx K) (tFld K (tVar 0) "where") (tC (.int 0)))) (tOp (rIx K) (tVar 1) (tOp (rIx K) (tFld K (tVar 0) "where") (tC (.int 1)))))))
def N_Hall_init : List Str := [("self" : Str), ("many" : Str), ("parts" : Str), ("low" : Str), ("high" : Str), ("part" : Str)]
def t_Hall_init (K : PySem.W.Frag) : TS := (tSeq (tIfS (tOr (tNot (tB (tCall (spD K R_isnum) [] E0 (tCons (tVar 1) (tCons (tC (.int 1)) (tCons (tC (.int 8)) tNil)))))) (tOr (tNot (tB (tCB (rIsi K) (tCons (tVar 2) (tCons (tC (.ty "list")) tNil))))) (tTest (tOp zGt (tCB (zLen K) (tCons (tVar 2) tNil)) (tC (.int 24)))))) tNever tNext) (tSeq (tIfS (tOr (tNot (tB (tCall (spD K R_isnum) [] E0 (tCons (tVar 3) (tCons (tUn zNeg (tC (.int 50))) (tCons (tC (.int 50)) tNil)))))) (tNot (tB (tCall (spD K R_isnum) [] E0 (tCons (tVar 4) (tCons (tVar 3) (tCons (tC (.int 50)) tNil))))))) tNever tNext) (tSeq (tFor (iList K (tVar 2)) (gName 5) (tIfS (tOr (tNot (tB (tCB (rIsi K) (tCons (tVar 5) (tCons (tC (.ref (ga K "Part"))) tNil))))) (tTest (tOp zGe (tCB (rMax K) (tCons (tMethD "stands" (IsP K) (fun C => spO K (R_stands K C)) E0 (tVar 5) tNil) tNil)) (tVar 1)))) tNever tNext)) (tSeq (sFld K (tVar 0) (tVar 1) "many") (tSeq (sFld K (tVar 0) (tVar 3) "low") (tSeq (sFld K (tVar 0) (tVar 4) "high") (sFld K (tVar 0) (tCB (zList K) (tCons (tVar 2) tNil)) "held")))))))
def N_Hall_parts : List Str := [("self" : Str)]
def t_Hall_parts (K : PySem.W.Frag) : TS := (tRet (tCB (zList K) (tCons (tFld K (tVar 0) "held") tNil)))
def N_Hall_worth : List Str := [("self" : Str), ("point" : Str)]
def t_Hall_worth (K : PySem.W.Frag) : TS := (tRet (tCall (spD K (R_worth_at K)) [] E0 (tCons (tVar 0) (tCons (tCall (spO K (R_asked_point K)) [] E0 (tCons (tVar 0) (tCons (tVar 1) tNil))) tNil))))
def N_asked_point : List Str := [("hall" : Str), ("point" : Str), ("number" : Str)]
def t_asked_point (K : PySem.W.Frag) : TS := (tSeq (tIfS (tOr (tNot (tB (tCB (rIsi K) (tCons (tVar 1) (tCons (tC (.ty "list")) tNil))))) (tTest (tOp (zNe K) (tCB (zLen K) (tCons (tVar 1) tNil)) (tFld K (tVar 0) "many")))) tNever tNext) (tSeq (tIfS (tNot (tB (tCB (rAll K) (tCons (tLc (iList K (tVar 1)) (gName 2) tYes (tCall (spD K R_isnum) [] E0 (tCons (tVar 2) (tCons (tUn zNeg (tC (.int 1000))) (tCons (tC (.int 1000)) tNil)))) [2]) tNil)))) tNever tNext) (tRet (tCB (zList K) (tCons (tVar 1) tNil)))))
def N_worth_at : List Str := [("hall" : Str), ("point" : Str), ("found" : Str), ("part" : Str), ("worth" : Str)]
def t_worth_at (K : PySem.W.Frag) : TS := (tSeq (tIfS (tOr (tTest (tOp zLt (tCB (rMin K) (tCons (tVar 1) tNil)) (tFld K (tVar 0) "low"))) (tTest (tOp zGt (tCB (rMax K) (tCons (tVar 1) tNil)) (tFld K (tVar 0) "high")))) (tRet (tC .non)) tNext) (tSeq (tAsg (tC (.int 0)) (gName 2)) (tSeq (tFor (iList K (tFld K (tVar 0) "held")) (gName 3) (tSeq (tAsg (tMethD "worth_of" (IsP K) (fun C => spD K (R_worth K 8 C)) E0 (tVar 3) (tCons (tMethD "reads" (IsP K) (fun C => spD K (R_reads K C)) E0 (tVar 3) (tCons (tVar 1) tNil)) tNil)) (gName 4)) (tSeq (tIfS (tTest (tOp zIsN (tVar 4) (tC .non))) (tRet (tC .non)) tNext) (tAsg (tOp zPlus (tVar 2) (tVar 4)) (gName 2))))) (tRet (tVar 2)))))
def N__law_reads : List Str := [("_law_part_here" : Str), ("_law_point_here" : Str), ("_law_where" : Str)]
def t__law_reads (K : PySem.W.Frag) : TS := (tSeq (tAsg (tOp (rIx K) (tVar 0) (tC (.int 1))) (gName 2)) (tRet (tIf (tTest (tOp (zEq K) (tCB (zLen K) (tCons (tVar 2) tNil)) (tC (.int 2)))) (tOp zSub (tOp (rIx K) (tVar 1) (tOp (rIx K) (tVar 2) (tC (.int 0)))) (tOp (rIx K) (tVar 1) (tOp (rIx K) (tVar 2) (tC (.int 1))))) (tOp (rIx K) (tVar 1) (tOp (rIx K) (tVar 2) (tC (.int 0)))))))
def N__law_worth : List Str := [("_law_plain_here" : Str), ("_law_point_here" : Str), ("_law_found" : Str), ("_law_part_here" : Str), ("_law_worth_here" : Str)]
def t__law_worth (K : PySem.W.Frag) : TS := (tSeq (tIfS (tOr (tTest (tOp zLt (tCB (rMin K) (tCons (tVar 1) tNil)) (tOp (rIx K) (tVar 0) (tC (.int 0))))) (tTest (tOp zGt (tCB (rMax K) (tCons (tVar 1) tNil)) (tOp (rIx K) (tVar 0) (tC (.int 1)))))) (tRet (tC .non)) tNext) (tSeq (tAsg (tC (.int 0)) (gName 2)) (tSeq (tFor (iList K (tOp (rIx K) (tVar 0) (tC (.int 2)))) (gName 3) (tSeq (tAsg (tCall (spD K R_at) [] E0 (tCons (tVar 3) (tCons (tCall (spD K R_lreads) [] E0 (tCons (tVar 3) (tCons (tVar 1) tNil))) tNil))) (gName 4)) (tSeq (tIfS (tTest (tOp zIsN (tVar 4) (tC .non))) (tRet (tC .non)) tNext) (tAsg (tOp zPlus (tVar 2) (tVar 4)) (gName 2))))) (tRet (tVar 2)))))
def N__law_plain : List Str := [("_law_script" : Str), ("_law_most" : Str), ("_law_span" : Str), ("_law_one" : Str), ("_law_many" : Str), ("_law_bottom" : Str), ("_law_top" : Str), ("_law_parts" : Str), ("_law_k" : Str)]
def t__law_plain (K : PySem.W.Frag) : TS := (tSeq (tAsg (tCall (spD K R_cell) [] E0 (tCons (tVar 0) (tCons (tC (.int 0)) tNil))) (gName 3)) (tSeq (tAsg (tOp zPlus (tC (.int 1)) (tOp zMod (tVar 3) (tVar 1))) (gName 4)) (tSeq (tAsg (tUn zNeg (tOp zMod (tOp zDiv (tVar 3) (tVar 1)) (tC (.int 4)))) (gName 5)) (tSeq (tAsg (tOp zPlus (tVar 5) (tOp zMod (tOp zDiv (tVar 3) (tOp zTimes (tC (.int 4)) (tVar 1))) (tVar 2))) (gName 6)) (tSeq (tAsg (tLst tNil) (gName 7)) (tSeq (tFor (iRng1 (tCons (tOp zMod (tCall (spD K R_cell) [] E0 (tCons (tVar 0) (tCons (tC (.int 1)) tNil))) (tC (.int 13))) tNil)) (gName 8) (tDrop (tBM K "list" rAppend (tVar 7) (tCons (tCall (spD K R_part) [] E0 (tCons (tCall (spD K R_cell) [] E0 (tCons (tVar 0) (tCons (tOp zPlus (tC (.int 8)) (tVar 8)) tNil))) (tCons (tVar 4) (tCons (tVar 5) (tCons (tVar 6) tNil))))) tNil)))) (tRet (tTup (tCons (tVar 4) (tCons (tLst (tCons (tVar 5) (tCons (tVar 6) (tCons (tVar 7) tNil)))) tNil))))))))))
def N__law_hall : List Str := [("_law_many" : Str), ("_law_plain_here" : Str), ("_law_part_here" : Str)]
def t__law_hall (K : PySem.W.Frag) : TS := (tRet (tMake (ga K "Hall") (spMb K (R_Hall_init K)) [] E0 (tCons (tVar 0) (tCons (tLc (iList K (tOp (rIx K) (tVar 1) (tC (.int 2)))) (gName 2) tYes (tCall (spD K (R_made K)) [] E0 (tCons (tVar 2) tNil)) [2]) (tCons (tOp (rIx K) (tVar 1) (tC (.int 0))) (tCons (tOp (rIx K) (tVar 1) (tC (.int 1))) tNil))))))
def N__law_point : List Str := [("_law_cell" : Str), ("_law_many" : Str), ("_law_plain_here" : Str), ("_law_number" : Str)]
def t__law_point (K : PySem.W.Frag) : TS := (tRet (tLc (iList K (tCall (spO K R_numbers) [] E0 (tCons (tVar 0) (tCons (tOp zTimes (tLst (tCons (tOp zPlus (tOp zSub (tOp (rIx K) (tVar 2) (tC (.int 1))) (tOp (rIx K) (tVar 2) (tC (.int 0)))) (tC (.int 1))) tNil)) (tVar 1)) tNil)))) (gName 3) tYes (tOp zPlus (tOp (rIx K) (tVar 2) (tC (.int 0))) (tVar 3)) [3]))
def N__law_asked : List Str := [("_law_hall_here" : Str), ("_law_plain_here" : Str), ("_law_point_here" : Str), ("_law_due" : Str), ("_law_handed" : Str), ("_law_turn" : Str), ("_law_told" : Str)]
def t__law_asked (K : PySem.W.Frag) : TS := (tSeq (tAsg (tCall (spD K R_lworth) [] E0 (tCons (tVar 1) (tCons (tVar 2) tNil))) (gName 3)) (tSeq (tAsg (tCB (zList K) (tCons (tVar 2) tNil)) (gName 4)) (tSeq (tFor (iRng1 (tCons (tC (.int 2)) tNil)) (gName 5) (tSeq (tAsg (tMethD "worth" (IsH K) (fun _ => (spD K (R_hworth K))) E0 (tVar 0) (tCons (tVar 4) tNil)) (gName 6)) (tIfS (tOr (tTest (tOp (zNe K) (tVar 6) (tVar 3))) (tOr (tB (tCB (rIsi K) (tCons (tVar 6) (tCons (tC (.ty "bool")) tNil)))) (tOr (tTest (tOp (zNe K) (tOp zIsN (tVar 6) (tC .non)) (tOp zIsN (tVar 3) (tC .non)))) (tTest (tOp (zNe K) (tVar 4) (tVar 2)))))) (tRet (tC (.bl false))) tNext))) (tRet (tC (.bl true))))))
def N__law_same : List Str := [("_law_told" : Str), ("_law_parts" : Str), ("_law_found" : Str), ("_law_part_here" : Str), ("_law_k" : Str)]
def t__law_same (K : PySem.W.Frag) : TS := (tSeq (tIfS (tOr (tNot (tB (tCB (rIsi K) (tCons (tVar 0) (tCons (tC (.ty "list")) tNil))))) (tTest (tOp (zNe K) (tCB (zLen K) (tCons (tVar 0) tNil)) (tCB (zLen K) (tCons (tVar 1) tNil))))) (tRet (tC (.bl false))) tNext) (tSeq (tFor (iZip K (tCons (tVar 0) (tCons (tVar 1) tNil))) (gTup K 2 (gCons (gName 2) (gCons (gName 3) gNil))) (tIfS (tOr (tTest (tOp (zNe K) (tMethD "stands" (IsP K) (fun C => spO K (R_stands K C)) E0 (tVar 2) tNil) (tOp (rIx K) (tVar 3) (tC (.int 1))))) (tB (tCB (rAny K) (tCons (tLc (iRng2 (tCons (tUn zNeg (tC (.int 6))) (tCons (tC (.int 12)) tNil))) (gName 4) tYes (tOp (zNe K) (tMethD "worth_of" (IsP K) (fun C => spD K (R_worth K 8 C)) E0 (tVar 2) (tCons (tVar 4) tNil)) (tCall (spD K R_at) [] E0 (tCons (tVar 3) (tCons (tVar 4) tNil)))) [4]) tNil)))) (tRet (tC (.bl false))) tNext)) (tRet (tC (.bl true)))))
def N_law2 : List Str := [("_law_script" : Str), ("_law_many" : Str), ("_law_plain_here" : Str), ("_law_handed" : Str), ("_law_hall_here" : Str), ("_law_turn" : Str), ("_law_told" : Str), ("_law_k" : Str), ("_law_cell" : Str), ("_law_point_here" : Str), ("_law_place" : Str), ("_law_other" : Str), ("_law_part_here" : Str)]
def t_law2 (K : PySem.W.Frag) : TS := (tSeq (tAsg (tCall (spD K R_plain) [] E0 (tCons (tVar 0) (tCons (tC (.int 5)) (tCons (tC (.int 10)) tNil)))) (gTup K 2 (gCons (gName 1) (gCons (gName 2) gNil)))) (tSeq (tAsg (tLc (iList K (tOp (rIx K) (tVar 2) (tC (.int 2)))) (gName 12) tYes (tCall (spD K (R_made K)) [] E0 (tCons (tVar 12) tNil)) [12]) (gName 3)) (tSeq (tAsg (tMakeN (ga K "Hall") 3 (List.length [("high" : Str)]) (spMb K (R_Hall_init K)) (gv_Hall_3_high) E0 (tCons (tVar 1) (tCons (tVar 3) (tCons (tOp (rIx K) (tVar 2) (tC (.int 0))) tNil))) (tCons (tOp (rIx K) (tVar 2) (tC (.int 1))) tNil)) (gName 4)) (tSeq (tIfS (tTest (tOp (zNe K) (tCB (zLen K) (tCons (tVar 3) tNil)) (tCB (zLen K) (tCons (tOp (rIx K) (tVar 2) (tC (.int 2))) tNil)))) (tRet (tC (.bl false))) tNext) (tSeq (tDrop (tBM0 K "list" rClear (tVar 3))) (tSeq (tFor (iRng1 (tCons (tC (.int 2)) tNil)) (gName 5) (tSeq (tAsg (tMethD "parts" (IsH K) (fun _ => (spO K (R_hparts K))) E0 (tVar 4) tNil) (gName 6)) (tSeq (tIfS (tNot (tB (tCall (spDb K (R_same K)) [] E0 (tCons (tVar 6) (tCons (tOp (rIx K) (tVar 2) (tC (.int 2))) tNil))))) (tRet (tC (.bl false))) tNext) (tSeq (tDrop (tBM0 K "list" rReverse (tVar 6))) (tDrop (tBM K "list" rAppend (tVar 6) (tCons (tMake (ga K "Slope") (spM K (R_Slope_init K)) [] E0 (tCons (tC (.int 0)) (tCons (tC (.int 1)) tNil))) tNil))))))) (tSeq (tFor (iRng1 (tCons (tOp zPlus (tC (.int 1)) (tOp zMod (tCall (spD K R_cell) [] E0 (tCons (tVar 0) (tCons (tC (.int 2)) tNil))) (tC (.int 12)))) tNil)) (gName 7) (tSeq (tAsg (tCall (spD K R_cell) [] E0 (tCons (tVar 0) (tCons (tOp zPlus (tC (.int 20)) (tVar 7)) tNil))) (gName 8)) (tSeq (tAsg (tCall (spO K R_point) [] E0 (tCons (tVar 8) (tCons (tVar 1) (tCons (tVar 2) tNil)))) (gName 9)) (tSeq (tIfS (tTest (tOp (zEq K) (tOp zMod (tVar 8) (tC (.int 5))) (tC (.int 1)))) (tSeq (tAsg (tOp zMod (tOp zDiv (tVar 8) (tC (.int 5))) (tVar 1)) (gName 10)) (tAsg (tOp zSub (tOp zPlus (tOp (rIx K) (tVar 9) (tVar 10)) (tOp zMod (tOp zDiv (tVar 8) (tC (.int 25))) (tC (.int 23)))) (tC (.int 11))) (gSub (tVar 9) (tVar 10) rSetL))) tNext) (tIfS (tNot (tB (tCall (spD K (R_lasked K)) [] E0 (tCons (tVar 4) (tCons (tVar 2) (tCons (tVar 9) tNil)))))) (tRet (tC (.bl false))) tNext))))) (tSeq (tAsg (tMake (ga K "Hall") (spMb K (R_Hall_init K)) [.int 0, .int 20] E0 (tCons (tC (.int 1)) (tCons (tLst tNil) tNil))) (gName 11)) (tRet (tAndV (tOp (zEq K) (tMethD "worth" (IsH K) (fun _ => (spD K (R_hworth K))) E0 (tVar 11) (tCons (tLst (tCons (tC (.int 0)) tNil)) tNil)) (tC (.int 0))) (tAndV (tOp (zEq K) (tMethD "worth" (IsH K) (fun _ => (spD K (R_hworth K))) E0 (tVar 11) (tCons (tLst (tCons (tC (.int 20)) tNil)) tNil)) (tC (.int 0))) (tAndV (tOp zIsN (tMethD "worth" (IsH K) (fun _ => (spD K (R_hworth K))) E0 (tVar 11) (tCons (tLst (tCons (tC (.int 21)) tNil)) tNil)) (tC .non)) (tOp (zEq K) (tMethD "parts" (IsH K) (fun _ => (spO K (R_hparts K))) E0 (tVar 11) tNil) (tLst tNil))))))))))))))


section
variable {K : PySem.W.Frag} {ds es : List D} {d : D} {ρ : Rho} {te tb : TE}
theorem HF.f {f : Str} {ns : List Str} {ds : List D} (hf : HF K) (hx : f ∈ hallNs) (h : EvD K te ρ (.ins (ga K "Hall") ns ds)) (e : (ns.zip ds).lookup f = some d) : EvD K (tFld K te f) ρ d := evd_fld h hf.cls (hf.na f hx) e
theorem h_many (hf : HF K) {h : Hl} (q : EvD K te ρ (hallD K h)) : EvD K (tFld K te "many") ρ (.int h.many) := hf.f (by decide +kernel) q lk0
theorem h_low (hf : HF K) {h : Hl} (q : EvD K te ρ (hallD K h)) : EvD K (tFld K te "low") ρ (.int h.lo) := hf.f (by decide +kernel) q (lk1 (by decide +kernel) lk0)
theorem h_high (hf : HF K) {h : Hl} (q : EvD K te ρ (hallD K h)) : EvD K (tFld K te "high") ρ (.int h.hi) := hf.f (by decide +kernel) q (lk1 (by decide +kernel) (lk1 (by decide +kernel) lk0))
theorem h_held (hf : HF K) {h : Hl} (q : EvD K te ρ (hallD K h)) : EvD K (tFld K te "held") ρ (.lst (h.parts.map (partD K))) := hf.f (by decide +kernel) q (lk1 (by decide +kernel) (lk1 (by decide +kernel) (lk1 (by decide +kernel) lk0)))
/-! least and greatest of a list -/
theorem has_min : ∀ (q : List Int), q ≠ [] → ∃ m ∈ q, ∀ y ∈ q, m ≤ y
  | [], h => absurd rfl h
  | [a], _ => ⟨a, List.mem_cons_self, fun y hy => by rw [List.mem_singleton.mp hy]; exact Int.le_refl _⟩
  | a :: b :: r, _ => by
    obtain ⟨m, hm, hl⟩ := has_min (b :: r) (List.cons_ne_nil _ _)
    by_cases h : a ≤ m
    · exact ⟨a, List.mem_cons_self, fun y hy => by
        rcases List.mem_cons.mp hy with rfl | hy
        · exact Int.le_refl _
        · exact Int.le_trans h (hl y hy)⟩
    · exact ⟨m, List.mem_cons_of_mem _ hm, fun y hy => by
        rcases List.mem_cons.mp hy with rfl | hy
        · omega
        · exact hl y hy⟩
theorem has_max : ∀ (q : List Int), q ≠ [] → ∃ m ∈ q, ∀ y ∈ q, y ≤ m
  | [], h => absurd rfl h
  | [a], _ => ⟨a, List.mem_cons_self, fun y hy => by rw [List.mem_singleton.mp hy]; exact Int.le_refl _⟩
  | a :: b :: r, _ => by
    obtain ⟨m, hm, hl⟩ := has_max (b :: r) (List.cons_ne_nil _ _)
    by_cases h : m ≤ a
    · exact ⟨a, List.mem_cons_self, fun y hy => by
        rcases List.mem_cons.mp hy with rfl | hy
        · exact Int.le_refl _
        · exact Int.le_trans (hl y hy) h⟩
    · exact ⟨m, List.mem_cons_of_mem _ hm, fun y hy => by
        rcases List.mem_cons.mp hy with rfl | hy
        · omega
        · exact hl y hy⟩
theorem pos_of {q : List Int} (h : q ≠ []) : 0 < q.length := by
  cases q with
  | nil => exact absurd rfl h
  | cons a r => simp
theorem evd_min {q : List Int} (hq : q ≠ []) (h : EvD K te ρ (.lst (q.map .int))) : ∃ m, m ∈ q ∧ (∀ y ∈ q, m ≤ y) ∧ EvD K (tCB (rMin K) (tCons te tNil)) ρ (.int m) := by
  obtain ⟨m, h1, h2⟩ := has_min q hq
  exact ⟨m, h1, h2, evd_cb (eva_cons h eva_nil) (ok_minL (pos_of hq) fun m' a b => Int.le_antisymm (b m h1) (h2 m' a))⟩
theorem evd_max {q : List Int} (hq : q ≠ []) (h : EvD K te ρ (.lst (q.map .int))) : ∃ m, m ∈ q ∧ (∀ y ∈ q, y ≤ m) ∧ EvD K (tCB (rMax K) (tCons te tNil)) ρ (.int m) := by
  obtain ⟨m, h1, h2⟩ := has_max q hq
  exact ⟨m, h1, h2, evd_cb (eva_cons h eva_nil) (ok_maxL (pos_of hq) fun m' a b => Int.le_antisymm (h2 m' a) (b m h1))⟩
/-- min(q) < lo or max(q) > hi -/
theorem evt_outside {q : List Int} {lo hi : Int} {tl th : TE} (hq : q ≠ []) (h : EvD K te ρ (.lst (q.map .int))) (hl : EvD K tl ρ (.int lo)) (hh : EvD K th ρ (.int hi)) :
    EvT K (tOr (tTest (tOp zLt (tCB (rMin K) (tCons te tNil)) tl)) (tTest (tOp zGt (tCB (rMax K) (tCons te tNil)) th))) ρ (!within lo hi q) := by
  obtain ⟨m, m1, m2, hm⟩ := evd_min hq h
  obtain ⟨M, M1, M2, hM⟩ := evd_max hq h
  refine evt_is (evt_or (evt_test (evd_op hm hl ok_lt)) (fun _ => evt_test (evd_op hM hh ok_gt))) ?_
  cases e : within lo hi q with
  | true =>
    have w := List.all_eq_true.mp e
    have w1 := w m m1
    have w2 := w M M1
    simp only [Bool.and_eq_true, decide_eq_true_eq] at w1 w2
    rw [decide_eq_false (by omega), decide_eq_false (by omega)]
    rfl
  | false =>
    by_cases c1 : m < lo
    · rw [decide_eq_true c1]; rfl
    · by_cases c2 : hi < M
      · rw [decide_eq_true c2, Bool.or_true]; rfl
      · exfalso
        have : within lo hi q = true := List.all_eq_true.mpr fun x hx => by
          have := m2 x hx
          have := M2 x hx
          simp only [Bool.and_eq_true, decide_eq_true_eq]
          omega
        rw [this] at e
        cases e
/-! ### reads -/
theorem get_pt {q : List Int} {a : Int} (h0 : 0 ≤ a) (h1 : a < (q.length : Int)) (h : EvD K te ρ (.lst (q.map .int))) (hb : EvD K tb ρ (.int a)) : EvD K (tOp (rIx K) te tb) ρ (.int (q.getD a.toNat 0)) := evd_op h hb (ok_ix1 (atI_ints h0 h1))
theorem whr_cases {p : Pt} (hp : p.Ok) : (∃ a, p.whr = [a] ∧ inR 0 7 a) ∨ (∃ a b, p.whr = [a, b] ∧ inR 0 7 a ∧ inR 0 7 b) := by
  have hw := hp.whr
  cases e : p.base.two with
  | false =>
    obtain ⟨a, ha⟩ := hp.one e
    rw [ha] at hw
    exact .inl ⟨a, ha, hw a List.mem_cons_self⟩
  | true =>
    obtain ⟨a, b, ha, _⟩ := hp.two e
    rw [ha] at hw
    exact .inr ⟨a, b, ha, hw a List.mem_cons_self, hw b (List.mem_cons_of_mem _ List.mem_cons_self)⟩
theorem e_Part_reads {C : Addr} (pf : PF K) (h : R_reads K C ds d) : EvS K (t_Part_reads K) (startR N_Part_reads ds) (.rt d) := by
  obtain ⟨p, q, rfl, rfl, hp, hw, rfl⟩ := h
  show EvS K _ [.p (partD K p), .p (.lst (q.map .int))] _
  obtain ⟨ns, gs, e, e2⟩ := partD_eq (K := K) p
  have fw : EvD K (tFld K (tVar 0) "where") [.p (partD K p), .p (.lst (q.map .int))] (.lst (p.whr.map .int)) := by
    rw [e, e2]
    exact evd_fld (d := intsD p.whr) (evd_var rfl) (pf.c (isP_cls p)) (pf.n (isP_cls p) _ (by decide +kernel)) lk0
  unfold t_Part_reads
  unfold readsAt
  rcases whr_cases hp with ⟨a, ha, h1⟩ | ⟨a, b, ha, h1, h2⟩
  · rw [ha] at fw hw ⊢
    have := hw a List.mem_cons_self
    refine evs_yes (evt_test (evd_op (evd_cb (eva_cons fw eva_nil) ok_lenL) evd_int ok_eqII)) rfl (evs_ret (get_pt h1.1 this (evd_var rfl) (evd_op fw evd_int (ok_ix1 rfl))))
  · rw [ha] at fw hw ⊢
    have q1 := hw a List.mem_cons_self
    have q2 := hw b (List.mem_cons_of_mem _ List.mem_cons_self)
    refine evs_no (evt_test (evd_op (evd_cb (eva_cons fw eva_nil) ok_lenL) evd_int ok_eqII)) rfl (evs_ret (evd_op (get_pt h1.1 q1 (evd_var rfl) (evd_op fw evd_int (ok_ix1 rfl))) (get_pt h2.1 q2 (evd_var rfl) (evd_op fw evd_int (ok_ix1 rfl))) ok_sub))
theorem e_lreads (h : R_lreads ds d) : EvS K (t__law_reads K) (startR N__law_reads ds) (.rt d) := by
  obtain ⟨p, q, rfl, hp, hw, rfl⟩ := h
  show EvS K _ [.p (ptD p), .p (.lst (q.map .int)), .no] _
  unfold t__law_reads
  refine evs_seq (evs_set (d := .lst (p.whr.map .int)) (evd_op (evd_var rfl) evd_int (ok_ix2 rfl)) rfl) ?_
  unfold readsAt
  rcases whr_cases hp with ⟨a, ha, h1⟩ | ⟨a, b, ha, h1, h2⟩
  · rw [ha] at hw ⊢
    have := hw a List.mem_cons_self
    exact evs_ret (evd_if (b := false) (evt_is (evt_test (evd_op (evd_cb (eva_cons (evd_var rfl) eva_nil) ok_lenL) evd_int ok_eqII)) rfl) (fun z => nomatch z) (fun _ => get_pt h1.1 this (evd_var rfl) (evd_op (evd_var rfl) evd_int (ok_ix1 rfl))))
  · rw [ha] at hw ⊢
    have q1 := hw a List.mem_cons_self
    have q2 := hw b (List.mem_cons_of_mem _ List.mem_cons_self)
    exact evs_ret (evd_if (b := true) (evt_is (evt_test (evd_op (evd_cb (eva_cons (evd_var rfl) eva_nil) ok_lenL) evd_int ok_eqII)) rfl) (fun _ => evd_op (get_pt h1.1 q1 (evd_var rfl) (evd_op (evd_var rfl) evd_int (ok_ix1 rfl))) (get_pt h2.1 q2 (evd_var rfl) (evd_op (evd_var rfl) evd_int (ok_ix1 rfl))) ok_sub) (fun z => nomatch z))
theorem reads_in {p : Pt} {q : List Int} (hp : p.Ok) (hq : ∀ x ∈ q, inR (-1000) 1000 x) : inR (-2000) 2000 (readsAt p q) := by
  have g : ∀ n : Nat, inR (-1000) 1000 (q.getD n 0) := fun n => by
    rw [List.getD_eq_getElem?_getD]
    cases e : q[n]? with
    | none => exact ⟨by decide, by decide⟩
    | some x => exact hq x (List.mem_of_getElem? e)
  unfold readsAt
  rcases whr_cases hp with ⟨a, ha, h1⟩ | ⟨a, b, ha, h1, h2⟩
  · rw [ha]
    have := g a.toNat
    show inR _ _ (q.getD a.toNat 0)
    unfold inR at *
    omega
  · rw [ha]
    have := g a.toNat
    have := g b.toNat
    show inR _ _ (q.getD a.toNat 0 - q.getD b.toNat 0)
    unfold inR at *
    omega
theorem call_reads {p : Pt} {q : List Int} {ta : TE} (h : EvD K te ρ (partD K p)) (ha : EvD K ta ρ (.lst (q.map .int))) (hp : p.Ok) (hw : ∀ x ∈ p.whr, x < (q.length : Int)) : EvD K (tMethD "reads" (IsP K) (fun C => spD K (R_reads K C)) E0 te (tCons ta tNil)) ρ (.int (readsAt p q)) := by
  obtain ⟨fs, gs, e, e2⟩ := partD_eq (K := K) p
  rw [e] at h
  exact evd_meth h (Pt.notF _).2.2.2 (isP_cls _) (eva_cons ha eva_nil) (by rw [← e]; exact ⟨p, q, rfl, rfl, hp, hw, rfl⟩)
/-! ### the hall -/
theorem e_Hall_parts (hf : HF K) (h : R_hparts K ds es) : EvS K (t_Hall_parts K) (startR N_Hall_parts ds) (.rtO es) := by
  obtain ⟨h, rfl, ho, rfl⟩ := h
  show EvS K _ [.p (hallD K h)] _
  unfold t_Hall_parts
  exact evs_retX (evo_cb (eva_cons (h_held hf (evd_var rfl)) eva_nil) ok_listL)
theorem e_Hall_worth (h : R_hworth K ds d) : EvS K (t_Hall_worth K) (startR N_Hall_worth ds) (.rt d) := by
  obtain ⟨h, q, rfl, ho, hq, rfl⟩ := h
  show EvS K _ [.p (hallD K h), .p (.lst (q.map .int))] _
  unfold t_Hall_worth
  exact evs_ret (evd_call0 (ds := [hallD K h, .lst (q.map .int)]) (eva_cons (evd_var rfl) (eva_cons (EvO.evd (evo_call0 (eva_cons (evd_var rfl) (eva_cons (evd_var rfl) eva_nil)) ⟨h, q, rfl, ho, hq, rfl⟩)) eva_nil)) ⟨h, q, rfl, ho, hq, rfl⟩)
theorem e_asked_point (hf : HF K) (h : R_asked_point K ds es) : EvS K (t_asked_point K) (startR N_asked_point ds) (.rtO es) := by
  obtain ⟨h, q, rfl, ho, hq, rfl⟩ := h
  show EvS K _ [.p (hallD K h), .p (.lst (q.map .int)), .no] _
  unfold t_asked_point
  refine evs_no (b := false) (evt_is (evt_or (a := false) (b := false) (evt_is (evt_not (b := true) (evt_B (evd_cb (by walk_at "ev") (ok_isi (.lst _) (.ty "list") (kit_b (by decide +kernel)))))) rfl) (fun _ => evt_is (evt_test (evd_op (evd_cb (eva_cons (evd_var rfl) eva_nil) ok_lenL) (h_many hf (evd_var rfl)) ok_neII)) ?_)) rfl) rfl ?_
  · rw [List.length_map, hq.len, beq_self_eq_true]
    rfl
  refine evs_no (b := false) (evt_is (evt_not (b := true) (evt_B (evd_is (evd_cb (eva_cons (EvO.evd (evo_lc (es := (q.map fun _ => true).map .bl) (evi_list (evd_var rfl)) wipes_name ?_ (size_le ?_))) eva_nil) ok_all) (congrArg D.bl ?_)))) rfl) rfl (evs_retX (by walk_at "ev"))
  · rw [List.map_map]
    refine lcR_map fun x hx => ?_
    have hx := hq.num x hx
    show EvD K _ [.p (hallD K h), .p (.lst (q.map .int)), .p (.int x)] (.bl true)
    refine evd_is (evd_call0 (by walk_at "ev") r_isnum) ?_
    rw [decide_eq_true hx.1, decide_eq_true hx.2]
    rfl
  · have := hq.len
    have := ho.m
    unfold inR at this
    rw [List.length_map]
    omega
  · rw [List.all_map]
    exact List.all_eq_true.mpr fun _ _ => rfl
theorem worth_loop {f : Pt → Option Int} {W : Pt → D} {tf : TE} (r1 : Rho) (ps : List Pt) :
    ∀ (s : Int) (hs : ∀ p ∈ ps, ∀ s : Int, EvD K tf (r1 ++ [.p (.int s), .p (W p), .no]) (optD (f p))) (hl : r1.length = 2),
    ForR K (gName 3) (tSeq (tAsg tf (gName 4)) (tSeq (tIfS (tTest (tOp zIsN (tVar 4) (tC .non))) (tRet (tC .non)) tNext) (tAsg (tOp zPlus (tVar 2) (tVar 4)) (gName 2)))) (r1 ++ [.p (.int s), .no, .no]) (ps.map W)
      (match sumW f ps s with
        | some z => .nx (r1 ++ [.p (.int z), .no, .no])
        | none => .rt .non) := by
  induction ps with
  | nil => intro s hs hl; exact .nil
  | cons p ps ih =>
    intro s hs hl
    obtain ⟨a, b, rfl⟩ : ∃ a b, r1 = [a, b] := by
      match r1, hl with
      | [a, b], _ => exact ⟨a, b, rfl⟩
    have h0 := hs p List.mem_cons_self s
    cases e : f p with
    | none =>
      rw [e] at h0
      have e2 : sumW f (p :: ps) s = none := by show (match f p with | none => none | some w => sumW f ps (s + w)) = none; rw [e]
      rw [e2]
      refine .ret (ρ1 := [a, b, .p (.int s), .p (W p), .no]) evg_name (evs_seq (evs_set (d := .non) h0 rfl) (evs_yes (evt_is (evt_test (evd_op (evd_var rfl) evd_non ok_isN)) rfl) rfl (evs_ret evd_non)))
    | some w =>
      rw [e] at h0
      have e2 : sumW f (p :: ps) s = sumW f ps (s + w) := by show (match f p with | none => none | some w => sumW f ps (s + w)) = _; rw [e]
      rw [e2]
      refine .next (ρ1 := [a, b, .p (.int s), .p (W p), .no]) (ρ2 := [a, b, .p (.int (s + w)), .no, .no]) evg_name ?_ (ih (s + w) (fun p' hp' => hs p' (List.mem_cons_of_mem _ hp')) hl)
      refine evs_forget (j := 3) (s := .p (W p)) (evs_forget (j := 4) (s := .p (.int w)) ?_ rfl) rfl
      exact evs_seq (evs_set (d := .int w) h0 rfl) (evs_no (b := false) (evt_is (evt_test (evd_op (evd_var rfl) evd_non ok_isN)) rfl) rfl (evs_set (d := .int (s + w)) (by walk_at "ev") rfl))
theorem for_end {wi : TI} {g : TG} {tb tu : TS} {ρ ρ2 : Rho} {ds : List D} {o : Option Int} (h : EvI K wi ρ ds) (hf : ForR K g tb ρ ds (match o with
        | some z => .nx (ρ2.set 2 (.p (.int z)))
        | none => .rt .non)) (hu : ∀ z, o = some z → EvS K tu (ρ2.set 2 (.p (.int z))) (.rt (.int z))) : EvS K (tSeq (tFor wi g tb) tu) ρ (.rt (optD o)) := by
  cases o with
  | none => exact evs_seqR (evs_for h hf)
  | some z => exact evs_seq (evs_for h hf) (hu z rfl)
theorem pt_ne {h : Hl} {q : List Int} (ho : h.Ok) (hq : PtIn h q) : q ≠ [] := fun e => by
  have h1 := hq.len
  have h2 := ho.m
  unfold inR at h2
  rw [e] at h1
  simp at h1
  omega
theorem whr_lt {h : Hl} {q : List Int} (ho : h.Ok) (hq : PtIn h q) {p : Pt} (hp : p ∈ h.parts) : ∀ x ∈ p.whr, x < (q.length : Int) := fun x hx => by
  rw [hq.len]
  exact ho.w p hp x hx
theorem e_worth_at (pf : PF K) (hf : HF K) (h : R_worth_at K ds d) : EvS K (t_worth_at K) (startR N_worth_at ds) (.rt d) := by
  obtain ⟨h, q, rfl, ho, hq, rfl⟩ := h
  show EvS K _ [.p (hallD K h), .p (.lst (q.map .int)), .no, .no, .no] _
  unfold t_worth_at hworth
  have ot := evt_outside (K := K) (ρ := [.p (hallD K h), .p (.lst (q.map .int)), .no, .no, .no]) (te := tVar 1) (tl := tFld K (tVar 0) "low") (th := tFld K (tVar 0) "high") (pt_ne ho hq) (evd_var rfl) (h_low hf (h := h) (evd_var rfl)) (h_high hf (h := h) (evd_var rfl))
  cases e : within h.lo h.hi q with
  | false =>
    rw [e] at ot
    exact evs_yes ot rfl (evs_ret evd_non)
  | true =>
    rw [e] at ot
    refine evs_no ot rfl (evs_seq (evs_set (d := .int 0) evd_int rfl) ?_)
    refine for_end (ρ2 := [.p (hallD K h), .p (.lst (q.map .int)), .no, .no, .no]) (evi_list (h_held hf (h := h) (evd_var rfl))) (worth_loop (K := K) (f := fun p => p.worth (readsAt p q)) (W := partD K) [.p (hallD K h), .p (.lst (q.map .int))] h.parts 0 (fun p hp s => ?_) rfl) (fun z _ => evs_ret (evd_var rfl))
    have hr := reads_in (q := q) (ho.p p hp) hq.num
    exact call_worth 8 (evd_var rfl) (call_reads (evd_var rfl) (evd_var rfl) (ho.p p hp) (whr_lt ho hq hp)) (ho.p p hp) (ho.p p hp).deep (far_in (by unfold inR far at *; omega))
theorem e_lworth (h : R_lworth ds d) : EvS K (t__law_worth K) (startR N__law_worth ds) (.rt d) := by
  obtain ⟨h, q, rfl, ho, hq, rfl⟩ := h
  show EvS K _ [.p (plainD h), .p (.lst (q.map .int)), .no, .no, .no] _
  unfold t__law_worth hworth
  have ot := evt_outside (K := K) (ρ := [.p (plainD h), .p (.lst (q.map .int)), .no, .no, .no]) (te := tVar 1) (tl := tOp (rIx K) (tVar 0) (tC (.int 0))) (th := tOp (rIx K) (tVar 0) (tC (.int 1))) (lo := h.lo) (hi := h.hi) (pt_ne ho hq) (evd_var rfl) (evd_op (evd_var rfl) evd_int (ok_ix1 (i := 0) rfl)) (evd_op (evd_var rfl) evd_int (ok_ix1 (i := 1) rfl))
  cases e : within h.lo h.hi q with
  | false =>
    rw [e] at ot
    exact evs_yes ot rfl (evs_ret evd_non)
  | true =>
    rw [e] at ot
    refine evs_no ot rfl (evs_seq (evs_set (d := .int 0) evd_int rfl) ?_)
    refine for_end (ρ2 := [.p (plainD h), .p (.lst (q.map .int)), .no, .no, .no]) (evi_list (evd_op (evd_var rfl) evd_int (ok_ix1 (i := 2) (d := .lst (h.parts.map ptD)) rfl))) (worth_loop (K := K) (f := fun p => p.worth (readsAt p q)) (W := ptD) [.p (plainD h), .p (.lst (q.map .int))] h.parts 0 (fun p hp s => ?_) rfl) (fun z _ => evs_ret (evd_var rfl))
    have hr := reads_in (q := q) (ho.p p hp) hq.num
    exact evd_is (evd_call0 (eva_cons (evd_var rfl) (eva_cons (evd_call0 (eva_cons (evd_var rfl) (eva_cons (evd_var rfl) eva_nil)) ⟨p, q, rfl, ho.p p hp, whr_lt ho hq hp, rfl⟩) eva_nil)) (r_at (ho.p p hp) (by unfold inR far at *; omega))) (by rw [lawAt_eq])
theorem e_Hall_init {as : List Arg} {C x dx : Addr} {ns : List Str} (pf : PF K) (hf : HF K) (h : R_Hall_init K C as ns ds) : ∃ ρ', EvS K (t_Hall_init K) (startIA N_Hall_init x dx C as) (.nx (.i x dx C ns ds :: ρ')) := by
  obtain ⟨rfl, h, lw, rfl, hl, ho, rfl, rfl⟩ := h
  refine ⟨[.p (.int h.many), slotOf lw, .p (.int h.lo), .p (.int h.hi), .no], ?_⟩
  show EvS K _ [.i x dx (ga K "Hall") [] [], .p (.int h.many), slotOf lw, .p (.int h.lo), .p (.int h.hi), .no] _
  unfold t_Hall_init
  have hm := ho.m
  have hlo := ho.l
  have hhi := ho.u
  have hn := ho.n
  have L : ∀ a b c d e : Slot, ListAt [a, b, slotOf lw, c, d, e] 2 (h.parts.map (partD K)) := fun a b c d e => listAt_of hl rfl
  refine evs_no (b := false) (evt_is (evt_or (a := false) (b := false) (evt_is (evt_not (b := true) (evt_B (evd_is (evd_call0 (by walk_at "ev") r_isnum) ?_))) rfl) (fun _ => evt_is (evt_or (a := false) (b := false) (evt_is (evt_not (b := true) (evt_B (evd_isiV (L _ _ _ _ _) (kit_b (by decide +kernel))))) rfl) (fun _ => evt_is (evt_test (evd_op (evd_lenV (L _ _ _ _ _)) evd_int ok_gt)) (decide_eq_false (by rw [List.length_map]; omega)))) rfl)) rfl) rfl ?_
  · rw [decide_eq_true hm.1, decide_eq_true hm.2]; rfl
  refine evs_no (b := false) (evt_is (evt_or (a := false) (b := false) (evt_is (evt_not (b := true) (evt_B (evd_is (evd_call0 (by walk_at "ev") r_isnum) ?_))) rfl) (fun _ => evt_is (evt_not (b := true) (evt_B (evd_is (evd_call0 (by walk_at "ev") r_isnum) ?_))) rfl)) rfl) rfl ?_
  · rw [decide_eq_true hlo.1, decide_eq_true hlo.2]; rfl
  · rw [decide_eq_true hhi.1, decide_eq_true hhi.2]; rfl
  refine evs_seq (ρ1 := [.i x dx (ga K "Hall") [] [], .p (.int h.many), slotOf lw, .p (.int h.lo), .p (.int h.hi), .no]) (evs_for (evi_at hl rfl) (forR_keep (g := gName 5) fun d hd => ?_)) ?_
  · obtain ⟨p, hp, rfl⟩ := List.mem_map.mp hd
    have po := ho.p p hp
    have hw := ho.w p hp
    refine evs_forget (j := 5) (s := .p (partD K p)) ?_ rfl
    show EvS K _ [.i x dx (ga K "Hall") [] [], .p (.int h.many), slotOf lw, .p (.int h.lo), .p (.int h.hi), .p (partD K p)] (.nx [.i x dx (ga K "Hall") [] [], .p (.int h.many), slotOf lw, .p (.int h.lo), .p (.int h.hi), .p (partD K p)])
    have hne : p.whr ≠ [] := by rcases whr_cases po with ⟨a, ha, _⟩ | ⟨a, b, ha, _⟩ <;> rw [ha] <;> exact List.cons_ne_nil _ _
    obtain ⟨m, m1, m2, hmx⟩ := evd_max (K := K) (ρ := [.i x dx (ga K "Hall") [] [], .p (.int h.many), slotOf lw, .p (.int h.lo), .p (.int h.hi), .p (partD K p)]) hne (EvO.evd (call_stands (te := tVar 5) (evd_var rfl) po))
    refine evs_if (b := false) (evt_is (evt_or (a := false) (b := false) (evt_is (evt_not (evt_B (evd_cb (eva_cons (evd_var rfl) (by walk_at "ev")) (ok_isi (ty_part pf p) (.own _) (pf.isP _ p.cls_mem))))) rfl) (fun _ => evt_is (evt_test (evd_op hmx (evd_var rfl) ok_ge)) (decide_eq_false (by have := hw m m1; omega)))) rfl) (fun z => nomatch z) (fun _ => evs_next)
  have na : ∀ f ∈ hallNs, NoAttr K (ga K "Hall") f := hf.na
  refine evs_seq (evs_fld (d := .int h.many) rfl (evd_var rfl) hf.cls (na _ (by decide +kernel)) (by decide) putN1 rfl) (evs_seq (evs_fld (d := .int h.lo) rfl (evd_var rfl) hf.cls (na _ (by decide +kernel)) (by decide) (putN2 (by decide +kernel)) rfl) (evs_seq (evs_fld (d := .int h.hi) rfl (evd_var rfl) hf.cls (na _ (by decide +kernel)) (by decide) (putN3 (by decide +kernel) (by decide +kernel)) rfl) ?_))
  exact evs_fld (d := .lst (h.parts.map (partD K))) rfl (EvO.evd (evo_listV (L _ _ _ _ _))) hf.cls (na _ (by decide +kernel)) (by decide) (putN4 (by decide +kernel) (by decide +kernel) (by decide +kernel)) rfl
/-! ### the law's hall -/
theorem genPt_whr {cell many bot top : Int} (h1 : inR 1 8 many) (h2 : inR (-50) 50 bot) (h3 : inR bot 50 top) : ∀ x ∈ (genPt cell many bot top).whr, x < many := by
  have hb := bounds_ok h1 h2 h3
  have hb0 : ∀ b ∈ boundsOf many bot top, 0 < b := fun b h => (hb b h).1
  have g1 := digs_get (boundsOf many bot top) (lawSeed cell) 1 hb0 (by show 1 < 19; decide)
  change _ ∧ (lawNums cell (boundsOf many bot top)).getD 1 0 < many at g1
  unfold inR at h1
  unfold genPt
  generalize lawNums cell (boundsOf many bot top) = dg at *
  show ∀ x ∈ (if many > 1 ∧ dg.getD 0 0 % 2 = 0 then (⟨[dg.getD 1 0, (dg.getD 1 0 + 1 + dg.getD 2 0) % many], doubleBs (halved dg), wrapsOf (halved dg)⟩ : Pt) else ⟨[dg.getD 1 0], singleBs (halved dg) bot, wrapsOf (halved dg)⟩).whr, x < many
  split
  · intro x hx
    rcases List.mem_cons.mp hx with rfl | hx
    · exact g1.2
    · rw [List.mem_singleton.mp hx]
      exact Int.emod_lt_of_pos _ (by omega)
  · intro x hx
    rw [List.mem_singleton.mp hx]
    exact g1.2
theorem drawn_ok {ns : List Int} {most span : Int} (hm : inR 1 8 most) (hs : inR 1 40 span) : (drawn ns most span).Ok := by
  unfold inR at hm hs
  have a1 : 0 ≤ lawCell ns 0 % most ∧ lawCell ns 0 % most < most := ⟨Int.emod_nonneg _ (by omega), Int.emod_lt_of_pos _ (by omega)⟩
  have a2 : 0 ≤ lawCell ns 0 / most % 4 ∧ lawCell ns 0 / most % 4 < 4 := ⟨Int.emod_nonneg _ (by omega), Int.emod_lt_of_pos _ (by omega)⟩
  have a3 : 0 ≤ lawCell ns 0 / (4 * most) % span ∧ lawCell ns 0 / (4 * most) % span < span := ⟨Int.emod_nonneg _ (by omega), Int.emod_lt_of_pos _ (by omega)⟩
  have a4 : 0 ≤ lawCell ns 1 % 13 ∧ lawCell ns 1 % 13 < 13 := by omega
  have gp : ∀ p ∈ (drawn ns most span).parts, ∃ c, p = genPt c (1 + lawCell ns 0 % most) (-(lawCell ns 0 / most % 4)) (-(lawCell ns 0 / most % 4) + lawCell ns 0 / (4 * most) % span) := fun p hp => by
    obtain ⟨k, _, rfl⟩ := List.mem_map.mp (show p ∈ (rgI 0 (lawCell ns 1 % 13)).map _ from hp)
    exact ⟨_, rfl⟩
  refine ⟨(show inR 1 8 (1 + lawCell ns 0 % most) from ⟨by omega, by omega⟩), (show inR (-50) 50 (-(lawCell ns 0 / most % 4)) from ⟨by omega, by omega⟩), (show inR (-(lawCell ns 0 / most % 4)) 50 (-(lawCell ns 0 / most % 4) + lawCell ns 0 / (4 * most) % span) from ⟨by omega, by omega⟩), ?_, fun p hp => ?_, fun p hp x hx => ?_⟩
  · show ((rgI 0 (lawCell ns 1 % 13)).map _).length ≤ 24
    rw [List.length_map]
    unfold rgI
    rw [List.length_map, List.length_range]
    omega
  · obtain ⟨c, rfl⟩ := gp p hp
    exact genPt_ok (by unfold inR; omega) (by unfold inR; omega) (by unfold inR; omega)
  · obtain ⟨c, rfl⟩ := gp p hp
    show x < 1 + lawCell ns 0 % most
    exact genPt_whr (by unfold inR; omega) (by unfold inR; omega) (by unfold inR; omega) x hx
theorem e_plain (h : R_plain ds d) : EvS K (t__law_plain K) (startR N__law_plain ds) (.rt d) := by
  obtain ⟨ns, most, span, rfl, hl, hm, hs, rfl⟩ := h
  have ok := drawn_ok (ns := ns) hm hs
  show EvS K _ [.p (.scr ns), .p (.int most), .p (.int span), .no, .no, .no, .no, .no, .no] _
  unfold t__law_plain
  unfold inR at hm hs
  have m1 := ok.m
  have m2 := ok.l
  have m3 := ok.u
  generalize hone : lawCell ns 0 = one
  have eM : (drawn ns most span).many = 1 + one % most := by unfold drawn; rw [hone]
  have eL : (drawn ns most span).lo = -(one / most % 4) := by unfold drawn; rw [hone]
  have eH : (drawn ns most span).hi = -(one / most % 4) + one / (4 * most) % span := by unfold drawn; rw [hone]
  have eP : (drawn ns most span).parts = (rgI 0 (lawCell ns 1 % 13)).map fun k => genPt (lawCell ns (8 + k)) (1 + one % most) (-(one / most % 4)) (-(one / most % 4) + one / (4 * most) % span) := by unfold drawn; rw [hone]
  unfold plainD
  rw [eM, eL, eH, eP]
  rw [eM] at m1
  rw [eL] at m2
  rw [eL, eH] at m3
  refine evs_seq (evs_set (d := .int one) (evd_is (evd_call0 (by walk_at "ev") (r_cell (by decide) hl)) (by rw [hone])) rfl) ?_
  refine evs_seq (evs_set (d := .int (1 + one % most)) (evd_op evd_int (evd_op (evd_var rfl) (evd_var rfl) (ok_mod (by omega))) ok_plus) rfl) ?_
  refine evs_seq (evs_set (d := .int (-(one / most % 4))) (evd_un (evd_op (evd_op (evd_var rfl) (evd_var rfl) (ok_div ⟨by omega, by omega⟩)) evd_int (ok_mod (by decide))) ok_neg) rfl) ?_
  refine evs_seq (evs_set (d := .int (-(one / most % 4) + one / (4 * most) % span)) (evd_op (evd_var rfl) (evd_op (evd_op (evd_var rfl) (evd_op evd_int (evd_var rfl) (ok_times (Or.inl ⟨by decide, by decide⟩))) (ok_div ⟨by omega, by omega⟩)) (evd_var rfl) (ok_mod (by omega))) ok_plus) rfl) ?_
  generalize 1 + one % most = many at *
  generalize -(one / most % 4) = bot at *
  generalize bot + one / (4 * most) % span = top at *
  have a4 : 0 ≤ lawCell ns 1 % 13 ∧ lawCell ns 1 % 13 < 13 := by omega
  refine evs_seq (evs_setO (ds := []) (by walk_at "ev") rfl) ?_
  have key : ∀ (ks : List Int) (acc : List D), (∀ k ∈ ks, 0 ≤ k) → acc.length + ks.length ≤ 100 → ForR K (gName 8) (tDrop (tBM K "list" rAppend (tVar 7) (tCons (tCall (spD K R_part) [] E0 (tCons (tCall (spD K R_cell) [] E0 (tCons (tVar 0) (tCons (tOp zPlus (tC (.int 8)) (tVar 8)) tNil))) (tCons (tVar 4) (tCons (tVar 5) (tCons (tVar 6) tNil))))) tNil)))
      [.p (.scr ns), .p (.int most), .p (.int span), .p (.int one), .p (.int many), .p (.int bot), .p (.int top), .o acc, .no] (ks.map .int) (.nx [.p (.scr ns), .p (.int most), .p (.int span), .p (.int one), .p (.int many), .p (.int bot), .p (.int top), .o (acc ++ ks.map fun k => ptD (genPt (lawCell ns (8 + k)) many bot top)), .no]) := fun ks => by
    induction ks with
    | nil => intro acc _ _; rw [show acc ++ ([] : List Int).map _ = acc from List.append_nil acc]; exact .nil
    | cons k ks ih =>
      intro acc hk hn
      have hk0 := hk k List.mem_cons_self
      have ih := ih (acc ++ [ptD (genPt (lawCell ns (8 + k)) many bot top)]) (fun x hx => hk x (List.mem_cons_of_mem _ hx)) (by simp at hn ⊢; omega)
      rw [List.append_assoc] at ih
      refine .next (ρ1 := [.p (.scr ns), .p (.int most), .p (.int span), .p (.int one), .p (.int many), .p (.int bot), .p (.int top), .o acc, .p (.int k)]) evg_name ?_ ih
      refine evs_forget (j := 8) (s := .p (.int k)) ?_ rfl
      exact evs_app rfl (evd_call0 (eva_cons (evd_call0 (by walk_at "ev") (r_cell (by omega) hl)) (by walk_at "ev")) ⟨_, many, bot, top, rfl, m1, m2, m3, rfl⟩) (size_lt (by simp at hn; omega)) rfl
  have lp := key (rgI 0 (lawCell ns 1 % 13)) [] (fun k hk => (mem_rgI hk).1) (by unfold rgI; simp; omega)
  refine evs_seq (evs_for (evi_rng1 (n := lawCell ns 1 % 13) (eva_cons (evd_op (evd_call0 (by walk_at "ev") (r_cell (by decide) hl)) evd_int (ok_mod (by decide))) eva_nil) (by omega) (by omega)) lp) ?_
  refine evs_pub (i := 7) rfl (evs_ret ?_)
  rw [List.map_map]
  exact evd_tup (eva_cons (evd_var rfl) (eva_cons (evd_lst (eva_cons (evd_var rfl) (eva_cons (evd_var rfl) (eva_cons (evd_var rfl) eva_nil))) (Nat.le_of_ble_eq_true rfl)) eva_nil)) (Nat.le_of_ble_eq_true rfl)
theorem h_mk {h : Hl} {lw : Arg} (ho : h.Ok) (hl : IsL lw (h.parts.map (partD K))) : R_Hall_init K (ga K "Hall") [.p (.int h.many), lw, .p (.int h.lo), .p (.int h.hi)] hallNs (hallDs K h) := ⟨rfl, h, lw, rfl, hl, ho, rfl, rfl⟩
theorem e_hall (h : R_hall K ds d) : EvS K (t__law_hall K) (startR N__law_hall ds) (.rt d) := by
  obtain ⟨h, rfl, ho, rfl⟩ := h
  show EvS K _ [.p (.int h.many), .p (plainD h), .no] _
  unfold t__law_hall
  have hn := ho.n
  exact evs_ret (evd_makeB0 (eab_p (evd_var rfl) (eab_p (EvO.evd (evo_lc (evi_list (evd_op (evd_var rfl) evd_int (ok_ix1 (i := 2) (d := .lst (h.parts.map ptD)) rfl))) wipes_name (lcR_map (ψ := partD K) fun p hp => evd_call0 (eva_cons (evd_var rfl) eva_nil) ⟨p, rfl, ho.p p hp, rfl⟩) (size_le (by rw [List.length_map]; omega)))) (eab_p (evd_op (evd_var rfl) evd_int (ok_ix1 (i := 0) rfl)) (eab_p (evd_op (evd_var rfl) evd_int (ok_ix1 (i := 1) rfl)) eab_nil)))) (h_mk ho (.inl rfl)))
theorem rep_ints (n : Nat) (x : Int) : (List.replicate n [D.int x]).flatten = (List.replicate n x).map .int := by
  induction n with
  | zero => rfl
  | succ n ih => rw [List.replicate_succ, List.replicate_succ, List.flatten_cons, ih]; rfl
theorem e_point (h : R_point ds es) : EvS K (t__law_point K) (startR N__law_point ds) (.rtO es) := by
  obtain ⟨c, h, rfl, ho, rfl⟩ := h
  show EvS K _ [.p (.int c), .p (.int h.many), .p (plainD h), .no] _
  unfold t__law_point
  have hm := ho.m
  have hu := ho.u
  have hl := ho.l
  unfold inR at hm hu hl
  unfold drawPt
  rw [List.map_map]
  refine evs_retX (evo_lc (evi_list (EvO.evd (evo_call0 (es := (lawNums c (List.replicate h.many.toNat (h.hi - h.lo + 1))).map .int) (ds := [.int c, .lst ((List.replicate h.many.toNat (h.hi - h.lo + 1)).map .int)]) (eva_cons (evd_var rfl) (eva_cons (evd_is (EvO.evd (evo_op (evd_lst (eva_cons (evd_op (evd_op (evd_op (evd_var rfl) evd_int (ok_ix1 (i := 1) rfl)) (evd_op (evd_var rfl) evd_int (ok_ix1 (i := 0) rfl)) ok_sub) evd_int ok_plus) eva_nil) (Nat.le_of_ble_eq_true rfl)) (evd_var rfl) (ok_timesL (by omega) (by omega) (size_le (by simp; omega))))) (by rw [rep_ints])) eva_nil)) ⟨c, _, rfl, fun b hb => ?_, by rw [List.length_replicate]; omega, rfl⟩))) wipes_name (lcR_map fun x hx => evd_op (evd_op (evd_var rfl) evd_int (ok_ix1 (i := 0) rfl)) (evd_var rfl) ok_plus) (size_le (by
    unfold lawNums
    rw [List.length_map, digs_len, List.length_replicate]
    omega)))
  rw [List.eq_of_mem_replicate hb]
  omega
theorem draw_len (c : Int) {h : Hl} (ho : h.Ok) : ((drawPt c h).length : Int) = h.many := by
  have hm := ho.m
  unfold inR at hm
  unfold drawPt lawNums
  rw [List.length_map, digs_len, List.length_replicate]
  omega
theorem digs_rep {b : Int} (hb : 0 < b) : ∀ (n : Nat) (c : Int), ∀ x ∈ digs c (List.replicate n b), 0 ≤ x ∧ x < b
  | 0, _, x, hx => nomatch hx
  | n + 1, c, x, hx => by
    rw [List.replicate_succ] at hx
    rcases List.mem_cons.mp (show x ∈ c % b :: digs (c / b) (List.replicate n b) from hx) with rfl | hx
    · exact ⟨Int.emod_nonneg _ (by omega), Int.emod_lt_of_pos _ hb⟩
    · exact digs_rep hb n (c / b) x hx
theorem draw_in (c : Int) {h : Hl} (ho : h.Ok) : ∀ x ∈ drawPt c h, h.lo ≤ x ∧ x ≤ h.hi := fun x hx => by
  have hu := ho.u
  unfold inR at hu
  obtain ⟨y, hy, rfl⟩ := List.mem_map.mp hx
  have := digs_rep (by omega) _ _ y hy
  omega
theorem draw_pt (c : Int) {h : Hl} (ho : h.Ok) : PtIn h (drawPt c h) := ⟨draw_len c ho, fun x hx => by
  have := draw_in c ho x hx
  have h1 := ho.l
  have h2 := ho.u
  unfold inR at *
  omega⟩
end

section
variable {K : PySem.W.Frag} {ds es : List D} {d : D} {ρ : Rho} {te ta : TE}
theorem call_hworth {h : Hl} {q : List Int} (hh : EvD K te ρ (hallD K h)) (ha : EvD K ta ρ (.lst (q.map .int))) (ho : h.Ok) (hq : PtIn h q) : EvD K (tMethD "worth" (IsH K) (fun _ => (spD K (R_hworth K))) E0 te (tCons ta tNil)) ρ (optD (hworth h q)) :=
  evd_meth (R := fun _ => R_hworth K) hh (by decide +kernel) rfl (eva_cons ha eva_nil) ⟨h, q, rfl, ho, hq, rfl⟩
theorem call_hparts {h : Hl} (hh : EvD K te ρ (hallD K h)) (ho : h.Ok) : EvO K (tMethD "parts" (IsH K) (fun _ => (spO K (R_hparts K))) E0 te tNil) ρ (h.parts.map (partD K)) :=
  evo_meth (R := fun _ => R_hparts K) hh (by decide +kernel) rfl eva_nil ⟨h, rfl, ho, rfl⟩
theorem forR_keep' {tb : TS} {ρ : Rho} {j : Nat} (h : ∀ d ∈ ds, EvS K tb (ρ.set j (.p d)) (.nx ρ)) : ForR K (gName j) tb ρ ds (.nx ρ) := forR_keep (g := gName j) h
theorem e_lasked (h : R_lasked K ds d) : EvS K (t__law_asked K) (startR N__law_asked ds) (.rt d) := by
  obtain ⟨h, q, rfl, ho, hq, rfl⟩ := h
  show EvS K _ [.p (hallD K h), .p (plainD h), .p (.lst (q.map .int)), .no, .no, .no, .no] _
  unfold t__law_asked
  refine evs_seq (evs_set (d := optD (hworth h q)) (evd_call0 (by walk_at "ev") ⟨h, q, rfl, ho, hq, rfl⟩) rfl) ?_
  refine evs_seq (evs_set (d := .lst (q.map .int)) (EvO.evd (evo_cb (eva_cons (evd_var rfl) eva_nil) ok_listL)) rfl) ?_
  refine evs_seq (ρ1 := [.p (hallD K h), .p (plainD h), .p (.lst (q.map .int)), .p (optD (hworth h q)), .p (.lst (q.map .int)), .no, .no]) (evs_for (evi_rng1 (n := 2) (by walk_at "ev") (by decide) (by decide)) (forR_keep' fun d hd => ?_)) (evs_ret evd_bl)
  refine evs_forget (j := 5) (s := .p d) (evs_forget (j := 6) (s := .p (optD (hworth h q))) ?_ rfl) rfl
  refine evs_seq (evs_set (d := optD (hworth h q)) (call_hworth (evd_var rfl) (evd_var rfl) ho hq) rfl) ?_
  refine evs_if (b := false) (evt_is (evt_or (a := false) (b := false) (evt_test (evd_op (evd_var rfl) (evd_var rfl) ne_opt)) (fun _ => evt_is (evt_or (a := false) (b := false) (evt_B (evd_cb (eva_cons (evd_var rfl) (by walk_at "ev")) isi_bool)) (fun _ => evt_is (evt_or (a := false) (b := false) (evt_is (evt_test (evd_op (evd_op (evd_var rfl) evd_non ok_isN) (evd_op (evd_var rfl) evd_non ok_isN) ne_bl)) (by rw [beq_self_eq_true]; rfl)) (fun _ => evt_is (evt_test (evd_op (evd_var rfl) (evd_var rfl) ne_ints)) (by rw [decide_eq_true rfl]; rfl))) rfl)) rfl)) rfl) (fun z => nomatch z) (fun _ => evs_next)
theorem zip_map (ps : List Pt) : zipD (ps.map (partD K)) (ps.map ptD) = ps.map fun p => .tup [partD K p, ptD p] := by
  induction ps with
  | nil => rfl
  | cons p ps ih => exact congrArg (D.tup [partD K p, ptD p] :: ·) ih
theorem any_false {α : Type} (xs : List α) : (xs.map fun _ => false).any id = false := by
  induction xs with
  | nil => rfl
  | cons x xs ih => exact ih
theorem e_same {as : List Arg} (pf : PF K) (h : R_same K as d) : EvS K (t__law_same K) (startA N__law_same as) (.rt d) := by
  obtain ⟨lw, ps, rfl, hl, ho, rfl⟩ := h
  show EvS K _ [slotOf lw, .p (.lst (ps.map ptD)), .no, .no, .no] _
  unfold t__law_same
  have L : ∀ a b c e : Slot, ListAt [slotOf lw, a, b, c, e] 0 (ps.map (partD K)) := fun a b c e => listAt_of hl rfl
  refine evs_no (b := false) (evt_is (evt_or (a := false) (b := false) (evt_is (evt_not (b := true) (evt_B (evd_isiV (L _ _ _ _) (kit_b (by decide +kernel))))) rfl) (fun _ => evt_is (evt_test (evd_op (evd_lenV (L _ _ _ _)) (evd_cb (eva_cons (evd_var rfl) eva_nil) ok_lenL) ok_neII)) (by rw [List.length_map, List.length_map, beq_self_eq_true]; rfl))) rfl) rfl ?_
  have it : EvI K (iZip K (tCons (tVar 0) (tCons (tVar 1) tNil))) [slotOf lw, .p (.lst (ps.map ptD)), .no, .no, .no] (ps.map fun p => .tup [partD K p, ptD p]) := by
    rw [← zip_map]
    rcases hl with rfl | rfl
    · exact evi_zip (eva_cons (evd_var rfl) (eva_cons (evd_var rfl) eva_nil))
    · exact evi_zipB rfl (evd_var rfl)
  refine evs_seq (ρ1 := [slotOf lw, .p (.lst (ps.map ptD)), .no, .no, .no]) (evs_for it ?_) (evs_ret evd_bl)
  have key : ∀ qs : List Pt, (∀ p ∈ qs, p.Ok) → ForR K (gTup K 2 (gCons (gName 2) (gCons (gName 3) gNil))) (tIfS (tOr (tTest (tOp (zNe K) (tMethD "stands" (IsP K) (fun C => spO K (R_stands K C)) E0 (tVar 2) tNil) (tOp (rIx K) (tVar 3) (tC (.int 1))))) (tB (tCB (rAny K) (tCons (tLc (iRng2 (tCons (tUn zNeg (tC (.int 6))) (tCons (tC (.int 12)) tNil))) (gName 4) tYes (tOp (zNe K) (tMethD "worth_of" (IsP K) (fun C => spD K (R_worth K 8 C)) E0 (tVar 2) (tCons (tVar 4) tNil)) (tCall (spD K R_at) [] E0 (tCons (tVar 3) (tCons (tVar 4) tNil)))) [4]) tNil)))) (tRet (tC (.bl false))) tNext)
      [slotOf lw, .p (.lst (ps.map ptD)), .no, .no, .no] (qs.map fun p => .tup [partD K p, ptD p]) (.nx [slotOf lw, .p (.lst (ps.map ptD)), .no, .no, .no]) := fun qs => by
    induction qs with
    | nil => intro _; exact .nil
    | cons p qs ih =>
      intro hq
      have hp := hq p List.mem_cons_self
      refine .next (ρ1 := [slotOf lw, .p (.lst (ps.map ptD)), .p (partD K p), .p (ptD p), .no]) (evg_tup (evgs_cons evg_name (evgs_cons evg_name evgs_nil)) rfl) ?_ (ih fun x hx => hq x (List.mem_cons_of_mem _ hx))
      refine evs_forget (j := 2) (s := .p (partD K p)) (evs_forget (j := 3) (s := .p (ptD p)) ?_ rfl) rfl
      refine evs_if (b := false) (evt_is (evt_or (a := false) (b := false) (evt_is (evt_test (evd_op (EvO.evd (call_stands (evd_var rfl) hp)) (evd_op (evd_var rfl) evd_int (ok_ix2 (i := 1) (d := .lst (p.whr.map .int)) rfl)) ne_ints)) (by rw [decide_eq_true rfl]; rfl)) (fun _ => evt_B (evd_is (evd_cb (eva_cons (EvO.evd (evo_lc (es := ((rgI (-6) 12).map fun _ => false).map .bl) (evi_rng2 (m := -6) (n := 12) (by walk_at "ev") ⟨by decide, by decide, by decide, by decide⟩) wipes_name ?_ (size_le (by decide)))) eva_nil) ok_any) (congrArg D.bl (any_false _))))) rfl) (fun z => nomatch z) (fun _ => evs_next)
      rw [List.map_map]
      refine lcR_map fun x hx => ?_
      have := mem_rgI hx
      have hr : inR (-far) far x := by unfold inR far; omega
      exact evd_op (call_worth 8 (evd_var rfl) (evd_var rfl) hp hp.deep (far_in hr)) (evd_is (evd_call0 (eva_cons (evd_var rfl) (eva_cons (evd_var rfl) eva_nil)) (r_at hp hr)) (by rw [lawAt_eq])) ne_opt
  exact key ps ho
/-! ### law k02 -/
theorem mknH {as ks : List Arg} : ∀ B H vs zs x, RepAs K B H as vs → RepAs K B H ks zs → ∃ us, gv_Hall_3_high (.ref x :: vs) zs = .ref x :: us ∧ RepAs K B H (as ++ ks) us := fun B H vs zs x r1 r2 => ⟨vs ++ zs, rfl, r1.app r2⟩
def moved2 (c : Int) (h : Hl) : List Int := if c % 5 = 1 then (drawPt c h).set (c / 5 % h.many).toNat ((drawPt c h).getD (c / 5 % h.many).toNat 0 + c / 25 % 23 - 11) else drawPt c h
theorem moved2_in (c : Int) {h : Hl} (ho : h.Ok) : PtIn h (moved2 c h) := by
  unfold moved2
  split
  · have d1 := draw_pt c ho
    refine ⟨by rw [List.length_set]; exact d1.len, fun x hx => ?_⟩
    rcases List.mem_or_eq_of_mem_set hx with hx | rfl
    · exact d1.num x hx
    · have g : ∀ n : Nat, inR (-100) 100 ((drawPt c h).getD n 0) := fun n => by
        rw [List.getD_eq_getElem?_getD]
        cases e : (drawPt c h)[n]? with
        | none => exact ⟨by decide, by decide⟩
        | some x =>
          have := draw_in c ho x (List.mem_of_getElem? e)
          have h1 := ho.l
          have h2 := ho.u
          show inR (-100) 100 x
          unfold inR at *
          omega
      have := g (c / 5 % h.many).toNat
      have q : 0 ≤ c / 25 % 23 ∧ c / 25 % 23 < 23 := by omega
      unfold inR at *
      omega
  · exact draw_pt c ho
theorem e_law2 (h : R_law ds d) : EvS K (t_law2 K) (startR N_law2 ds) (.rt d) := by
  obtain ⟨ns, rfl, hl, rfl⟩ := h
  show EvS K _ [.p (.scr ns), .no, .no, .no, .no, .no, .no, .no, .no, .no, .no, .no, .no] _
  unfold t_law2
  have ho : (drawn ns 5 10).Ok := drawn_ok ⟨by decide, by decide⟩ ⟨by decide, by decide⟩
  refine evs_seq (ρ1 := [.p (.scr ns), .p (.int (drawn ns 5 10).many), .p (plainD (drawn ns 5 10)), .no, .no, .no, .no, .no, .no, .no, .no, .no, .no]) (evs_asg (evd_call0 (by walk_at "ev") ⟨ns, 5, 10, rfl, hl, ⟨by decide, by decide⟩, ⟨by decide, by decide⟩, rfl⟩) (evg_tup (evgs_cons evg_name (evgs_cons evg_name evgs_nil)) rfl)) ?_
  generalize drawn ns 5 10 = h at *
  have hn := ho.n
  have pl2 : ∀ {ρ : Rho}, ρ[2]? = some (.p (plainD h)) → EvD K (tOp (rIx K) (tVar 2) (tC (.int 2))) ρ (.lst (h.parts.map ptD)) := fun h' => evd_op (evd_var h') evd_int (ok_ix1 (i := 2) rfl)
  have pl0 : ∀ {ρ : Rho}, ρ[2]? = some (.p (plainD h)) → EvD K (tOp (rIx K) (tVar 2) (tC (.int 0))) ρ (.int h.lo) := fun h' => evd_op (evd_var h') evd_int (ok_ix1 (i := 0) rfl)
  have pl1 : ∀ {ρ : Rho}, ρ[2]? = some (.p (plainD h)) → EvD K (tOp (rIx K) (tVar 2) (tC (.int 1))) ρ (.int h.hi) := fun h' => evd_op (evd_var h') evd_int (ok_ix1 (i := 1) rfl)
  refine evs_seq (evs_setO (ds := h.parts.map (partD K)) (evo_lc (evi_list (pl2 rfl)) wipes_name (lcR_map (ψ := partD K) fun p hp => evd_call0 (eva_cons (evd_var rfl) eva_nil) ⟨p, rfl, ho.p p hp, rfl⟩) (size_le (by rw [List.length_map]; omega))) rfl) ?_
  refine evs_seq (evs_set (d := hallD K h) (evd_makeNB (as := [.p (.int h.many), .b (h.parts.map (partD K)), .p (.int h.lo)]) (ks := [.p (.int h.hi)]) (eab_p (evd_var rfl) (eab_v (.inl rfl) (eab_p (pl0 rfl) eab_nil))) (eab_p (pl1 rfl) eab_nil) rfl rfl mknH (h_mk ho (.inr rfl))) rfl) ?_
  refine evs_no (evt_test (evd_op (evd_lenV (.inr (.inl rfl))) (evd_cb (eva_cons (pl2 rfl) eva_nil) ok_lenL) ok_neII)) (by rw [List.length_map, List.length_map, beq_self_eq_true]; rfl) ?_
  refine evs_seq (evs_clear rfl rfl) ?_
  refine evs_seq (ρ1 := [.p (.scr ns), .p (.int h.many), .p (plainD h), .o [], .p (hallD K h), .no, .no, .no, .no, .no, .no, .no, .no]) (evs_for (evi_rng1 (n := 2) (by walk_at "ev") (by decide) (by decide)) (forR_keep' fun d hd => ?_)) ?_
  · refine evs_forget (j := 5) (s := .p d) (evs_forget (j := 6) (s := .o ((h.parts.map (partD K)).reverse ++ [partD K ⟨[0], .slope 1, []⟩])) ?_ rfl) rfl
    refine evs_seq (evs_setO (ds := h.parts.map (partD K)) (call_hparts (evd_var rfl) ho) rfl) ?_
    refine evs_no (b := false) (evt_is (evt_not (b := true) (evt_B (evd_callB (eab_v (.inl rfl) (eab_p (pl2 rfl) eab_nil)) ⟨_, h.parts, rfl, .inr rfl, ho.p, rfl⟩))) rfl) rfl ?_
    refine evs_seq (evs_reverse rfl rfl) ?_
    exact evs_app rfl (evd_make0 (es := [.int 0, .int 1]) (by walk_at "ev") ⟨isp _ (by kernel_rfl), 0, 1, rfl, ⟨by decide, by decide⟩, ⟨by decide, by decide⟩, rfl, rfl⟩) (size_lt (by rw [List.length_reverse, List.length_map]; omega)) rfl
  have q12 : (0 : Int) ≤ lawCell ns 2 % 12 ∧ lawCell ns 2 % 12 < 12 := by omega
  refine evs_seq (ρ1 := [.p (.scr ns), .p (.int h.many), .p (plainD h), .o [], .p (hallD K h), .no, .no, .no, .no, .no, .no, .no, .no]) (evs_for (evi_rng1 (n := 1 + lawCell ns 2 % 12) (eva_cons (evd_op evd_int (evd_op (evd_call0 (by walk_at "ev") (r_cell (by decide) hl)) evd_int (ok_mod (by decide))) ok_plus) eva_nil) (by omega) (by omega)) (forR_keep' fun d hd => ?_)) ?_
  · obtain ⟨k, rfl, k1, k2⟩ := mem_rgD hd
    refine evs_forget (j := 7) (s := .p (.int k)) (evs_forget (j := 8) (s := .p (.int (lawCell ns (20 + k)))) (evs_forget (j := 9) (s := .p (.lst ((moved2 (lawCell ns (20 + k)) h).map .int))) ?_ rfl) rfl) rfl
    refine evs_seq (evs_set (d := .int (lawCell ns (20 + k))) (evd_call0 (by walk_at "ev") (r_cell (by omega) hl)) rfl) ?_
    generalize lawCell ns (20 + k) = c
    refine evs_seq (evs_setO (ds := (drawPt c h).map .int) (evo_call0 (by walk_at "ev") ⟨c, h, rfl, ho, rfl⟩) rfl) ?_
    have hm := ho.m
    unfold inR at hm
    have hp : 0 ≤ c / 5 % h.many ∧ c / 5 % h.many < h.many := ⟨Int.emod_nonneg _ (by omega), Int.emod_lt_of_pos _ (by omega)⟩
    have hdl := draw_len c ho
    refine evs_seq (ρ1 := [.p (.scr ns), .p (.int h.many), .p (plainD h), .o [], .p (hallD K h), .no, .no, .p (.int k), .p (.int c), .o ((moved2 c h).map .int), .no, .no, .no]) (evs_if (b := c % 5 == 1) (evt_test (evd_op (evd_op (evd_var rfl) evd_int (ok_mod (by decide))) evd_int ok_eqII)) (fun hb => ?_) (fun hb => ?_)) ?_
    · have hb := eq_of_beq hb
      have em : moved2 c h = (drawPt c h).set (c / 5 % h.many).toNat ((drawPt c h).getD (c / 5 % h.many).toNat 0 + c / 25 % 23 - 11) := by unfold moved2; rw [if_pos hb]
      rw [em, List.map_set]
      refine evs_forget (j := 10) (s := .p (.int (c / 5 % h.many))) ?_ rfl
      refine evs_seq (evs_set (d := .int (c / 5 % h.many)) (evd_op (evd_op (evd_var rfl) evd_int (ok_div ⟨by decide, by decide⟩)) (evd_var rfl) (ok_mod (by omega))) rfl) ?_
      exact evs_setIx (j := (c / 5 % h.many).toNat) rfl (evd_op (evd_op (evd_ixO rfl (evd_var rfl) (atI_ints hp.1 (by omega))) (evd_op (evd_op (evd_var rfl) evd_int (ok_div ⟨by decide, by decide⟩)) evd_int (ok_mod (by decide))) ok_plus) evd_int ok_sub) (evd_var rfl) (by
        unfold ixN
        rw [List.length_map, if_pos hp.1, if_pos (by omega)]) rfl
    · have hb : ¬ c % 5 = 1 := fun e => by rw [e] at hb; cases hb
      have em : moved2 c h = drawPt c h := by unfold moved2; rw [if_neg hb]
      rw [em]
      exact evs_next
    refine evs_pub (i := 9) rfl ?_
    refine evs_if (b := false) (evt_is (evt_not (b := true) (evt_B (evd_call0 (eva_cons (evd_var rfl) (eva_cons (evd_var rfl) (eva_cons (evd_var rfl) eva_nil))) ⟨h, moved2 c h, rfl, ho, moved2_in c ho, rfl⟩))) rfl) (fun z => nomatch z) (fun _ => evs_next)
  have oo : Hl.Ok ⟨1, 0, 20, []⟩ := ⟨⟨by decide, by decide⟩, ⟨by decide, by decide⟩, ⟨by decide, by decide⟩, Nat.zero_le _, (fun _ h => nomatch h), (fun _ h => nomatch h)⟩
  have pin : ∀ x : Int, inR 0 21 x → PtIn ⟨1, 0, 20, []⟩ [x] := fun x hx => ⟨rfl, fun y hy => by rw [List.mem_singleton.mp hy]; unfold inR at *; omega⟩
  refine evs_seq (evs_set (d := hallD K ⟨1, 0, 20, []⟩) (evd_makeB (as := [.p (.int 1), .p (.lst [])]) (bs := [.p (.int 0), .p (.int 20)]) (eab_p evd_int (eab_p (by walk_at "ev") eab_nil)) (fun B H => .cons (Rep.int 0) (.cons (Rep.int 20) .nil)) (h_mk (h := ⟨1, 0, 20, []⟩) oo (.inl rfl))) rfl) ?_
  have wv : ∀ {ρ : Rho} {x : Int}, ρ[11]? = some (.p (hallD K ⟨1, 0, 20, []⟩)) → inR 0 21 x → EvD K (tMethD "worth" (IsH K) (fun _ => (spD K (R_hworth K))) E0 (tVar 11) (tCons (tLst (tCons (tC (.int x)) tNil)) tNil)) ρ (optD (hworth ⟨1, 0, 20, []⟩ [x])) := fun h1 h2 => call_hworth (evd_var h1) (evd_lst (eva_cons evd_int eva_nil) (Nat.le_of_ble_eq_true rfl)) oo (pin _ h2)
  refine evs_ret (evd_is (evd_andV (a := true) (b := true) (evd_is (evd_op (x := .int 0) (wv rfl ⟨by decide, by decide⟩) evd_int ok_eqII) rfl) (fun _ => evd_is (evd_andV (a := true) (b := true) (evd_is (evd_op (x := .int 0) (wv rfl ⟨by decide, by decide⟩) evd_int ok_eqII) rfl) (fun _ => evd_is (evd_andV (a := true) (b := true) (evd_is (evd_op (x := .non) (wv rfl ⟨by decide, by decide⟩) evd_non ok_isN) rfl) (fun _ => evd_is (evd_op (EvO.evd (call_hparts (evd_var rfl) oo)) (evd_lst eva_nil (Nat.zero_le _)) (eq_ints (xs := []) (ys := []))) rfl)) rfl)) rfl)) rfl)
end

/-! ### sum, min, max of a tuple of ints -/
section
variable {prog : Program} {w : World} {A : Around} {E : Value → Shared → Prop} {s : Shared} {t : Addr} {xs : Array (Int × Tok)} {Q : Value → Shared → Prop}
theorem min_tup0 (hh : A.handled = none) (ht : s.heap.IsTuple t (intItems xs)) (hne : 0 < xs.size)
    (h : ∀ v h' tk, (intItems xs)[argBest (fun i j => decide (numAt xs i < numAt xs j)) (xs.size - 1)]? = some v → (∀ b o, s.heap.get? b = some o → h'.get? b = some o) → Q v { s with heap := h', toks := tk }) :
    wpAny (model prog w) A (call (.builtin "min") [.ref t]) Q E s := by
  obtain ⟨o, ho, hc, n, hd⟩ := id ht
  have hne' : t ≠ s.heap.objs.size := Nat.ne_of_lt (Heap.lt_size ho)
  refine call_min_walk (wpAny_pyIter_tuple ht ?_)
  refine ⟨_, _, _, _, _, _, _, rfl, Walks.tuple (A := A.in1) hh _ t hne' (intItems xs), ⟨⟨_, Heap.get?_push_size _ rfl, rfl, rfl⟩, ht.at fun o e => Heap.get?_push_of_some _ e⟩, fun b hb => ?_, by simpa [intItems] using hne, CmpOf.ints_lt (numAt xs) (fun _ _ => intItems_at), fun v h' tk hP hk => ?_⟩
  · rcases List.mem_cons.mp hb with rfl | hb
    · exact Heap.lt_size (Heap.get?_push_size _ rfl)
    · obtain rfl := List.mem_singleton.mp hb
      exact Heap.lt_size (Heap.get?_push_of_some _ ho)
  · exact h v h' tk (by simpa [intItems] using hP) fun b o e => hk b o (fun hb => absurd (Heap.lt_size e) ((List.mem_singleton.mp hb) ▸ Nat.lt_irrefl _)) (Heap.get?_push_of_some _ e)
theorem max_tup0 (hh : A.handled = none) (ht : s.heap.IsTuple t (intItems xs)) (hne : 0 < xs.size)
    (h : ∀ v h' tk, (intItems xs)[argBest (fun i j => decide (numAt xs i > numAt xs j)) (xs.size - 1)]? = some v → (∀ b o, s.heap.get? b = some o → h'.get? b = some o) → Q v { s with heap := h', toks := tk }) :
    wpAny (model prog w) A (call (.builtin "max") [.ref t]) Q E s := by
  obtain ⟨o, ho, hc, n, hd⟩ := id ht
  have hne' : t ≠ s.heap.objs.size := Nat.ne_of_lt (Heap.lt_size ho)
  refine call_max_walk (wpAny_pyIter_tuple ht ?_)
  refine ⟨_, _, _, _, _, _, _, rfl, Walks.tuple (A := A.in1) hh _ t hne' (intItems xs), ⟨⟨_, Heap.get?_push_size _ rfl, rfl, rfl⟩, ht.at fun o e => Heap.get?_push_of_some _ e⟩, fun b hb => ?_, by simpa [intItems] using hne, CmpOf.ints_gt (numAt xs) (fun _ _ => intItems_at), fun v h' tk hP hk => ?_⟩
  · rcases List.mem_cons.mp hb with rfl | hb
    · exact Heap.lt_size (Heap.get?_push_size _ rfl)
    · obtain rfl := List.mem_singleton.mp hb
      exact Heap.lt_size (Heap.get?_push_of_some _ ho)
  · exact h v h' tk (by simpa [intItems] using hP) fun b o e => hk b o (fun hb => absurd (Heap.lt_size e) ((List.mem_singleton.mp hb) ▸ Nat.lt_irrefl _)) (Heap.get?_push_of_some _ e)
end
section
variable {X : Cx}
def rSumT (K : PySem.W.Frag) : List V → Hp → VK → Prop := fun vs H Q => ∃ (a : Addr) (ns : List Int), vs = [V.ref a] ∧ SqT K H a (ns.map V.int) ∧ Q (.int ns.sum) H
def rMaxT (K : PySem.W.Frag) : List V → Hp → VK → Prop := fun vs H Q => ∃ (a : Addr) (ns : List Int), vs = [V.ref a] ∧ SqT K H a (ns.map V.int) ∧ 0 < ns.length ∧ ∀ m, m ∈ ns → (∀ y, y ∈ ns → y ≤ m) → Q (.int m) H
def rMinT (K : PySem.W.Frag) : List V → Hp → VK → Prop := fun vs H Q => ∃ (a : Addr) (ns : List Int), vs = [V.ref a] ∧ SqT K H a (ns.map V.int) ∧ 0 < ns.length ∧ ∀ m, m ∈ ns → (∀ y, y ∈ ns → m ≤ y) → Q (.int m) H
theorem cr_sumT (hc : X.calm = true) : CallR X (.builtin "sum") (rSumT X.K) := by
  intro pins s σ H vs us Q I r h
  obtain ⟨a, ns, rfl, hs, q⟩ := h
  obtain ⟨its, rv, ht, _⟩ := I.tuple hs
  rw [Vals.ref1 r]
  have hi := rv.ints
  obtain ⟨xs, e⟩ := hi.allInts.items
  have hn : numsOf (intItems xs).toList = ns := by rw [← e]; exact hi.numsOf
  rw [nums_intItems] at hn
  rw [e] at ht
  refine PySem.W.ktm_sumG (I.ok.hd hc) ht fun h' tk t' hk => ?_
  rw [preSum_eq, List.take_of_length_le (by simp), hn]
  exact ⟨.int _, H, I.kept hk, ⟨_, rfl⟩, q⟩
theorem cr_maxT (hc : X.calm = true) : CallR X (.builtin "max") (rMaxT X.K) := by
  intro pins s σ H vs us Q I r h
  obtain ⟨a, ns, rfl, hs, hne, q⟩ := h
  obtain ⟨its, rv, ht, _⟩ := I.tuple hs
  rw [Vals.ref1 r]
  have hi := rv.ints
  obtain ⟨xs, e⟩ := hi.allInts.items
  have hn : numsOf (intItems xs).toList = ns := by rw [← e]; exact hi.numsOf
  rw [nums_intItems] at hn
  subst hn
  rw [e] at ht
  have hsz : 0 < xs.size := by simpa using hne
  refine max_tup0 (I.ok.hd hc) ht hsz fun v h' tk hv hk => ?_
  obtain ⟨t, rfl⟩ := intItems_at hv
  obtain ⟨h1, h2⟩ := argBest_gt (numAt xs) (xs.size - 1)
  refine ⟨.int _, H, I.kept hk, ⟨_, rfl⟩, q _ ?_ fun a ha => ?_⟩
  · rw [numAt_eq]; exact PySem.getD_mem (by rw [List.length_map, Array.length_toList]; omega)
  · obtain ⟨j, hj, rfl⟩ := mem_getD ha
    rw [List.length_map, Array.length_toList] at hj
    rw [← numAt_eq]; exact h2 j (by omega)
theorem cr_minT (hc : X.calm = true) : CallR X (.builtin "min") (rMinT X.K) := by
  intro pins s σ H vs us Q I r h
  obtain ⟨a, ns, rfl, hs, hne, q⟩ := h
  obtain ⟨its, rv, ht, _⟩ := I.tuple hs
  rw [Vals.ref1 r]
  have hi := rv.ints
  obtain ⟨xs, e⟩ := hi.allInts.items
  have hn : numsOf (intItems xs).toList = ns := by rw [← e]; exact hi.numsOf
  rw [nums_intItems] at hn
  subst hn
  rw [e] at ht
  have hsz : 0 < xs.size := by simpa using hne
  refine min_tup0 (I.ok.hd hc) ht hsz fun v h' tk hv hk => ?_
  obtain ⟨t, rfl⟩ := intItems_at hv
  obtain ⟨h1, h2⟩ := argBest_lt (numAt xs) (xs.size - 1)
  refine ⟨.int _, H, I.kept hk, ⟨_, rfl⟩, q _ ?_ fun a ha => ?_⟩
  · rw [numAt_eq]; exact PySem.getD_mem (by rw [List.length_map, Array.length_toList]; omega)
  · obtain ⟨j, hj, rfl⟩ := mem_getD ha
    rw [List.length_map, Array.length_toList] at hj
    rw [← numAt_eq]; exact h2 j (by omega)
end
section
variable {K : PySem.W.Frag} {ρ ρ' : Rho} {te tb : TE} {i j : Nat} {x y : D}
theorem reps_ints {H : Hp} : ∀ {ns : List Int} {vs : List V}, Reps K H (ns.map .int) vs → vs = ns.map V.int
  | [], vs, r => by cases r; rfl
  | n :: ns, vs, r => by
    cases r with
    | cons h t =>
      cases h
      rw [reps_ints t]
      rfl
theorem ok_sumT {ns : List Int} : OkC K (rSumT K) [.tup (ns.map .int)] (.int ns.sum) := fun B H us s r0 Q q => by
  obtain ⟨u, rfl, r⟩ := reps1 r0
  cases r with
  | tup h r => exact ⟨_, ns, rfl, SqT.of (by rw [← reps_ints r]; exact s _ _ h), q _ B H (Ext.refl s) (.int _)⟩
theorem ok_maxT {ns : List Int} {m : Int} (h0 : 0 < ns.length) (h1 : ∀ m', m' ∈ ns → (∀ y, y ∈ ns → y ≤ m') → m' = m) : OkC K (rMaxT K) [.tup (ns.map .int)] (.int m) := fun B H us s r0 Q q => by
  obtain ⟨u, rfl, r⟩ := reps1 r0
  cases r with
  | tup h r => exact ⟨_, ns, rfl, SqT.of (by rw [← reps_ints r]; exact s _ _ h), h0, fun m' a b => by rw [h1 m' a b]; exact q _ B H (Ext.refl s) (.int _)⟩
theorem ok_minT {ns : List Int} {m : Int} (h0 : 0 < ns.length) (h1 : ∀ m', m' ∈ ns → (∀ y, y ∈ ns → m' ≤ y) → m' = m) : OkC K (rMinT K) [.tup (ns.map .int)] (.int m) := fun B H us s r0 Q q => by
  obtain ⟨u, rfl, r⟩ := reps1 r0
  cases r with
  | tup h r => exact ⟨_, ns, rfl, SqT.of (by rw [← reps_ints r]; exact s _ _ h), h0, fun m' a b => by rw [h1 m' a b]; exact q _ B H (Ext.refl s) (.int _)⟩
theorem evs_par (h1 : EvD K te ρ x) (h2 : EvD K tb ρ y) (e : (ρ.set i (.p x)).set j (.p y) = ρ') : EvS K (tPar i j (tCons te (tCons tb tNil))) ρ (.nx ρ') := fun B0 H0 B H σ rs E q =>
  h1 B0 H0 B H σ rs _ fun v B1 H1 e1 r1 => h2 B0 H0 B1 H1 σ (rs.ext e1) _ fun w B2 H2 e2 r2 => ⟨v, w, rfl, q B2 H2 _ (e ▸ (((rs.ext e1).ext e2).setP i (r1.up e2.b)).setP j r2)⟩
end

/-! ### what bends evenly -/
/-- between two open numbers all are open, and two between of the same sum are worth no more -/
def Bend (f : Int → Option Int) : Prop := ∀ x y u v a b, x ≤ u → u ≤ y → u + v = x + y → f x = some a → f y = some b → ∃ c d, f u = some c ∧ f v = some d ∧ c + d ≤ a + b
theorem Bend.sym {f : Int → Option Int} (h : Bend f) {x y u v a b : Int} (hu : (x ≤ u ∧ u ≤ y) ∨ (y ≤ u ∧ u ≤ x)) (e : u + v = x + y) (h1 : f x = some a) (h2 : f y = some b) : ∃ c d, f u = some c ∧ f v = some d ∧ c + d ≤ a + b := by
  rcases hu with hu | hu
  · exact h x y u v a b hu.1 hu.2 e h1 h2
  · obtain ⟨c, d, q1, q2, q3⟩ := h y x u v b a hu.1 hu.2 (by omega) h2 h1
    exact ⟨c, d, q1, q2, by omega⟩
theorem mul_le {w a b : Int} (hw : 0 ≤ w) (h : a ≤ b) : w * a ≤ w * b := Int.mul_le_mul_of_nonneg_left h hw
theorem bend_slope (w : Int) : Bend fun r => some (w * r) := fun x y u v a b _ _ e h1 h2 => by
  cases h1
  cases h2
  refine ⟨_, _, rfl, rfl, ?_⟩
  rw [← Int.mul_add, ← Int.mul_add, e]
  exact Int.le_refl _
theorem bend_aim {a w : Int} (hw : 0 ≤ w) : Bend fun r => some (w * iabs (r - a)) := fun x y u v p q h1 h2 e g1 g2 => by
  cases g1
  cases g2
  refine ⟨_, _, rfl, rfl, ?_⟩
  rw [← Int.mul_add, ← Int.mul_add]
  apply mul_le hw
  unfold iabs
  split <;> split <;> split <;> split <;> omega
theorem bend_square {a w : Int} (hw : 0 ≤ w) : Bend fun r => some (w * (r - a) * (r - a)) := fun x y u v p q h1 h2 e g1 g2 => by
  cases g1
  cases g2
  refine ⟨_, _, rfl, rfl, ?_⟩
  rw [Int.mul_assoc, Int.mul_assoc, Int.mul_assoc, Int.mul_assoc, ← Int.mul_add, ← Int.mul_add]
  apply mul_le hw
  obtain ⟨X, hX⟩ : ∃ X, X = x - a := ⟨_, rfl⟩
  obtain ⟨Y, hY⟩ : ∃ Y, Y = y - a := ⟨_, rfl⟩
  obtain ⟨D, hD⟩ : ∃ D, D = u - x := ⟨_, rfl⟩
  have eu : u - a = X + D := by omega
  have ev : v - a = Y - D := by omega
  have ed : 0 ≤ D * (Y - X - D) := Int.mul_nonneg (by omega) (by omega)
  rw [eu, ev, ← hX, ← hY]
  have e1 : (X + D) * (X + D) = X * X + (D * X + D * X) + D * D := by
    rw [Int.add_mul, Int.mul_add, Int.mul_add, Int.mul_comm X D]; omega
  have e2 : (Y - D) * (Y - D) = Y * Y - (D * Y + D * Y) + D * D := by
    rw [Int.sub_mul, Int.mul_sub, Int.mul_sub, Int.mul_comm Y D]; omega
  have e3 : D * (Y - X - D) = D * Y - D * X - D * D := by rw [Int.mul_sub, Int.mul_sub]
  rw [e3] at ed
  rw [e1, e2]
  omega
theorem bend_wall (lo hi : Int) : Bend fun r => if lo ≤ r ∧ r ≤ hi then some 0 else none := fun x y u v p q h1 h2 e g1 g2 => by
  have c1 : lo ≤ x ∧ x ≤ hi := by
    by_cases c : lo ≤ x ∧ x ≤ hi
    · exact c
    · simp only [if_neg c] at g1; cases g1
  have c2 : lo ≤ y ∧ y ≤ hi := by
    by_cases c : lo ≤ y ∧ y ≤ hi
    · exact c
    · simp only [if_neg c] at g2; cases g2
  simp only [if_pos c1] at g1
  simp only [if_pos c2] at g2
  cases g1
  cases g2
  exact ⟨0, 0, if_pos (by omega), if_pos (by omega), by omega⟩
theorem bend_ahead (g : Int) : Bend fun r => if r ≤ g then some 0 else none := fun x y u v p q h1 h2 e g1 g2 => by
  have c1 : x ≤ g := by
    by_cases c : x ≤ g
    · exact c
    · simp only [if_neg c] at g1; cases g1
  have c2 : y ≤ g := by
    by_cases c : y ≤ g
    · exact c
    · simp only [if_neg c] at g2; cases g2
  simp only [if_pos c1] at g1
  simp only [if_pos c2] at g2
  cases g1
  cases g2
  exact ⟨0, 0, if_pos (by omega), if_pos (by omega), by omega⟩
/-- a row that rises evenly -/
theorem rising_steps {ws : List Int} (h : rising ws) : ∀ (m k : Nat), k + m + 1 < ws.length → ws.getD (k + 1) 0 - ws.getD k 0 ≤ ws.getD (k + m + 1) 0 - ws.getD (k + m) 0
  | 0, k, _ => Int.le_refl _
  | m + 1, k, hl => by
    have ih := rising_steps h m k (by omega)
    have r := rising_at (k := k + m) h (by omega)
    have e1 : k + (m + 1) = k + m + 1 := by omega
    have e2 : k + m + 1 + 1 = k + m + 2 := by omega
    rw [e1, e2]
    omega
theorem rising_pair {ws : List Int} (h : rising ws) : ∀ (n i k : Nat), i + n + k < ws.length → ws.getD (i + n) 0 + ws.getD (i + k) 0 ≤ ws.getD i 0 + ws.getD (i + n + k) 0
  | 0, i, k, _ => Int.le_refl _
  | n + 1, i, k, hl => by
    -- from (i, i+n+1+k) step in by one on both sides, or k = 0
    cases k with
    | zero =>
      show ws.getD (i + (n + 1)) 0 + ws.getD i 0 ≤ ws.getD i 0 + ws.getD (i + (n + 1)) 0
      omega
    | succ k =>
      have ih := rising_pair h n (i + 1) k (by omega)
      have st := rising_steps h (n + k + 1) i (by omega)
      have a1 : i + 1 + n = i + (n + 1) := by omega
      have a2 : i + 1 + k = i + (k + 1) := by omega
      have a3 : i + 1 + n + k = i + (n + k + 1) := by omega
      have a4 : i + (n + k + 1) + 1 = i + (n + 1) + (k + 1) := by omega
      rw [a1, a2, show i + (n + 1) + k = i + (n + k + 1) by omega] at ih
      rw [a4] at st
      omega
theorem bend_row {f : Int} {ws : List Int} (h : rising ws) : Bend (rowAt f ws) := fun x y u v p q h1 h2 e g1 g2 => by
  have c1 : 0 ≤ x - f ∧ x - f < (ws.length : Int) := by
    by_cases c : 0 ≤ x - f ∧ x - f < (ws.length : Int)
    · exact c
    · rw [rowAt_none c] at g1; cases g1
  have c2 : 0 ≤ y - f ∧ y - f < (ws.length : Int) := by
    by_cases c : 0 ≤ y - f ∧ y - f < (ws.length : Int)
    · exact c
    · rw [rowAt_none c] at g2; cases g2
  rw [rowAt_some c1] at g1
  rw [rowAt_some c2] at g2
  cases g1
  cases g2
  refine ⟨_, _, rowAt_some (by omega), rowAt_some (by omega), ?_⟩
  have r := rising_pair h (u - x).toNat (x - f).toNat (v - x).toNat (by omega)
  rw [show (x - f).toNat + (u - x).toNat = (u - f).toNat by omega, show (x - f).toNat + (v - x).toNat = (v - f).toNat by omega, show (u - f).toNat + (v - x).toNat = (y - f).toNat by omega] at r
  exact r
theorem bend_base {b : Bs} (hb : b.ok) : Bend b.worth := by
  cases b with
  | slope w => exact bend_slope w
  | aim a w => exact bend_aim hb.2.1
  | near a w => exact bend_aim hb.2.1
  | square a w => exact bend_square hb.2.1
  | row f ws => exact bend_row hb.2.2.2.2
  | gaps f ws => exact bend_row hb.2.2.2.2
  | wall lo hi => exact bend_wall lo hi
  | ahead g => exact bend_ahead g
theorem bend_wraps {b : Bs} (hb : b.ok) : ∀ ws : List Wr, (∀ w ∈ ws, w.ok) → Bend (wworth b ws)
  | [], _ => bend_base hb
  | .times n :: ws, h => fun x y u v p q h1 h2 e g1 g2 => by
    have hn : inR 1 100 n := h (.times n) List.mem_cons_self
    obtain ⟨p', hp, rfl⟩ := Option.map_eq_some_iff.mp (show (wworth b ws x).map (n * ·) = some p from g1)
    obtain ⟨q', hq, rfl⟩ := Option.map_eq_some_iff.mp (show (wworth b ws y).map (n * ·) = some q from g2)
    obtain ⟨c, d, k1, k2, k3⟩ := bend_wraps hb ws (fun w hw => h w (List.mem_cons_of_mem _ hw)) x y u v p' q' h1 h2 e hp hq
    refine ⟨n * c, n * d, ?_, ?_, ?_⟩
    · show (wworth b ws u).map (n * ·) = _; rw [k1]; rfl
    · show (wworth b ws v).map (n * ·) = _; rw [k2]; rfl
    · rw [← Int.mul_add, ← Int.mul_add]
      exact mul_le (by unfold inR at hn; omega) k3
  | .moved n :: ws, h => fun x y u v p q h1 h2 e g1 g2 =>
    bend_wraps hb ws (fun w hw => h w (List.mem_cons_of_mem _ hw)) (x - n) (y - n) (u - n) (v - n) p q (by omega) (by omega) (by omega) g1 g2
theorem bend_pt {p : Pt} (hp : p.Ok) : Bend p.worth := bend_wraps hp.base p.wraps hp.wraps
/-! ### points -/
/-- l and u go between p and q, place by place, and any two places' readings too -/
structure Mid (p q l u : List Int) : Prop where
  llen : l.length = p.length
  ulen : u.length = p.length
  qlen : q.length = p.length
  sum : ∀ k, l.getD k 0 + u.getD k 0 = p.getD k 0 + q.getD k 0
  one : ∀ k, (p.getD k 0 ≤ l.getD k 0 ∧ l.getD k 0 ≤ q.getD k 0) ∨ (q.getD k 0 ≤ l.getD k 0 ∧ l.getD k 0 ≤ p.getD k 0)
  two : ∀ k j, (p.getD k 0 - p.getD j 0 ≤ l.getD k 0 - l.getD j 0 ∧ l.getD k 0 - l.getD j 0 ≤ q.getD k 0 - q.getD j 0) ∨ (q.getD k 0 - q.getD j 0 ≤ l.getD k 0 - l.getD j 0 ∧ l.getD k 0 - l.getD j 0 ≤ p.getD k 0 - p.getD j 0)
theorem mid_reads {p q l u : List Int} (m : Mid p q l u) {t : Pt} (ht : t.Ok) : readsAt t l + readsAt t u = readsAt t p + readsAt t q ∧ ((readsAt t p ≤ readsAt t l ∧ readsAt t l ≤ readsAt t q) ∨ (readsAt t q ≤ readsAt t l ∧ readsAt t l ≤ readsAt t p)) := by
  unfold readsAt
  rcases whr_cases ht with ⟨a, ha, _⟩ | ⟨a, b, ha, _⟩
  · rw [ha]
    exact ⟨m.sum a.toNat, m.one a.toNat⟩
  · rw [ha]
    have s1 := m.sum a.toNat
    have s2 := m.sum b.toNat
    refine ⟨?_, m.two a.toNat b.toNat⟩
    show l.getD a.toNat 0 - l.getD b.toNat 0 + (u.getD a.toNat 0 - u.getD b.toNat 0) = _
    show _ = p.getD a.toNat 0 - p.getD b.toNat 0 + (q.getD a.toNat 0 - q.getD b.toNat 0)
    omega
theorem sum_bend {F1 F2 F3 F4 : Pt → Option Int} : ∀ (ps : List Pt) (s1 s2 s3 s4 a b : Int), (∀ p ∈ ps, ∀ x y, F1 p = some x → F2 p = some y → ∃ z w, F3 p = some z ∧ F4 p = some w ∧ z + w ≤ x + y) → s3 + s4 ≤ s1 + s2 → sumW F1 ps s1 = some a → sumW F2 ps s2 = some b → ∃ c d, sumW F3 ps s3 = some c ∧ sumW F4 ps s4 = some d ∧ c + d ≤ a + b
  | [], s1, s2, s3, s4, a, b, _, hs, h1, h2 => by
    cases h1
    cases h2
    exact ⟨_, _, rfl, rfl, hs⟩
  | p :: ps, s1, s2, s3, s4, a, b, hF, hs, h1, h2 => by
    have g1 : (match F1 p with | none => none | some w => sumW F1 ps (s1 + w)) = some a := h1
    have g2 : (match F2 p with | none => none | some w => sumW F2 ps (s2 + w)) = some b := h2
    cases e1 : F1 p with
    | none => rw [e1] at g1; cases g1
    | some x =>
      cases e2 : F2 p with
      | none => rw [e2] at g2; cases g2
      | some y =>
        rw [e1] at g1
        rw [e2] at g2
        obtain ⟨z, w, k1, k2, k3⟩ := hF p List.mem_cons_self x y e1 e2
        obtain ⟨c, d, j1, j2, j3⟩ := sum_bend ps (s1 + x) (s2 + y) (s3 + z) (s4 + w) a b (fun t ht => hF t (List.mem_cons_of_mem _ ht)) (by omega) g1 g2
        refine ⟨c, d, ?_, ?_, j3⟩
        · show (match F3 p with | none => none | some w => sumW F3 ps (s3 + w)) = _; rw [k1]; exact j1
        · show (match F4 p with | none => none | some w => sumW F4 ps (s4 + w)) = _; rw [k2]; exact j2
theorem within_get {lo hi : Int} {q : List Int} (h : within lo hi q = true) (k : Nat) (hk : k < q.length) : lo ≤ q.getD k 0 ∧ q.getD k 0 ≤ hi := by
  have e : q.getD k 0 ∈ q := by
    rw [List.getD_eq_getElem?_getD, List.getElem?_eq_getElem hk]
    exact List.getElem_mem hk
  have := List.all_eq_true.mp h _ e
  simpa only [Bool.and_eq_true, decide_eq_true_eq] using this
theorem within_of {lo hi : Int} {q : List Int} (h : ∀ k, k < q.length → lo ≤ q.getD k 0 ∧ q.getD k 0 ≤ hi) : within lo hi q = true := List.all_eq_true.mpr fun x hx => by
  obtain ⟨k, hk, rfl⟩ := List.getElem_of_mem hx
  have := h k hk
  rw [List.getD_eq_getElem?_getD, List.getElem?_eq_getElem hk] at this
  have t2 : lo ≤ q[k] ∧ q[k] ≤ hi := this
  rw [decide_eq_true t2.1, decide_eq_true t2.2]
  rfl
theorem mid_worth {h : Hl} (ho : h.Ok) {p q l u : List Int} (m : Mid p q l u) {a b : Int} (h1 : hworth h p = some a) (h2 : hworth h q = some b) : ∃ c d, hworth h l = some c ∧ hworth h u = some d ∧ c + d ≤ a + b := by
  unfold hworth at *
  cases e1 : within h.lo h.hi p with
  | false => rw [e1] at h1; cases h1
  | true =>
    cases e2 : within h.lo h.hi q with
    | false => rw [e2] at h2; cases h2
    | true =>
      rw [e1] at h1
      rw [e2] at h2
      have wl : within h.lo h.hi l = true := within_of fun k hk => by
        have a1 := within_get e1 k (by rw [← m.llen]; exact hk)
        have a2 := within_get e2 k (by rw [m.qlen, ← m.llen]; exact hk)
        have := m.one k
        omega
      have wu : within h.lo h.hi u = true := within_of fun k hk => by
        have a1 := within_get e1 k (by rw [← m.ulen]; exact hk)
        have a2 := within_get e2 k (by rw [m.qlen, ← m.ulen]; exact hk)
        have := m.one k
        have := m.sum k
        omega
      rw [wl, wu]
      exact sum_bend h.parts 0 0 0 0 a b (fun t ht x y g1 g2 => by
        have r := mid_reads m (ho.p t ht)
        exact (bend_pt (ho.p t ht)).sym r.2 r.1 g1 g2) (Int.le_refl _) h1 h2
/-! the halves; met and joined -/
def zipI (g : Int → Int → Int) (p q : List Int) : List Int := p.zipWith g q
theorem zipI_get {g : Int → Int → Int} (h0 : g 0 0 = 0) {p q : List Int} (hl : q.length = p.length) (k : Nat) : (zipI g p q).getD k 0 = g (p.getD k 0) (q.getD k 0) := by
  unfold zipI
  rw [List.getD_eq_getElem?_getD, List.getD_eq_getElem?_getD, List.getD_eq_getElem?_getD, List.getElem?_zipWith]
  by_cases c : k < p.length
  · rw [List.getElem?_eq_getElem c, List.getElem?_eq_getElem (by omega)]
    rfl
  · rw [List.getElem?_eq_none (by omega), List.getElem?_eq_none (by omega)]
    exact h0.symm
theorem zipI_len {g : Int → Int → Int} {p q : List Int} (hl : q.length = p.length) : (zipI g p q).length = p.length := by
  unfold zipI
  rw [List.length_zipWith]
  omega
theorem mid_half {p q : List Int} (hl : q.length = p.length) : Mid p q (zipI (fun x y => (x + y) / 2) p q) (zipI (fun x y => (x + y + 1) / 2) p q) := by
  refine ⟨zipI_len hl, zipI_len hl, hl, fun k => ?_, fun k => ?_, fun k j => ?_⟩
  · rw [zipI_get rfl hl, zipI_get rfl hl]; omega
  · rw [zipI_get rfl hl]; omega
  · rw [zipI_get rfl hl, zipI_get rfl hl]; omega
def imin (x y : Int) : Int := if x ≤ y then x else y
def imax (x y : Int) : Int := if x ≤ y then y else x
theorem mid_meet {p q : List Int} (hl : q.length = p.length) : Mid p q (zipI imin p q) (zipI imax p q) := by
  refine ⟨zipI_len hl, zipI_len hl, hl, fun k => ?_, fun k => ?_, fun k j => ?_⟩
  · rw [zipI_get rfl hl, zipI_get rfl hl]; unfold imin imax; split <;> omega
  · rw [zipI_get rfl hl]; unfold imin; split <;> omega
  · rw [zipI_get rfl hl, zipI_get rfl hl]; unfold imin; split <;> split <;> omega

def R_two (K : PySem.W.Frag) : List D → D → Prop := fun ds d => ∃ (h : Hl) (p q : List Int), ds = [hallD K h, intsD p, intsD q] ∧ h.Ok ∧ PtIn h p ∧ PtIn h q ∧ d = .bl true
def N__law_two : List Str := [("_law_hall_here" : Str), ("_law_one" : Str), ("_law_other" : Str), ("_law_first" : Str), ("_law_second" : Str), ("_law_both" : Str), ("_law_pairs" : Str), ("_law_lower" : Str), ("_law_upper" : Str), ("_law_low" : Str), ("_law_high" : Str), ("_law_k" : Str), ("_law_pair" : Str)]
def t__law_two (K : PySem.W.Frag) : TS := (tSeq (tPar 3 4 (tCons (tMethD "worth" (IsH K) (fun _ => (spD K (R_hworth K))) E0 (tVar 0) (tCons (tVar 1) tNil)) (tCons (tMethD "worth" (IsH K) (fun _ => (spD K (R_hworth K))) E0 (tVar 0) (tCons (tVar 2) tNil)) tNil))) (tSeq (tIfS (tOr (tTest (tOp zIsN (tVar 3) (tC .non))) (tTest (tOp zIsN (tVar 4) (tC .non)))) (tRet (tC (.bl true))) tNext) (tSeq (tAsg (tLc (iRng1 (tCons (tCB (zLen K) (tCons (tVar 1) tNil)) tNil)) (gName 11) tYes (tTup (tCons (tOp (rIx K) (tVar 1) (tVar 11)) (tCons (tOp (rIx K) (tVar 2) (tVar 11)) tNil))) [11]) (gName 5)) (tSeq (tAsg (tLst (tCons (tTup (tCons (tLc (iList K (tVar 5)) (gName 12) tYes (tOp zDiv (tCB (rSumT K) (tCons (tVar 12) tNil)) (tC (.int 2))) [12]) (tCons (tLc (iList K (tVar 5)) (gName 12) tYes (tOp zDiv (tOp zPlus (tCB (rSumT K) (tCons (tVar 12) tNil)) (tC (.int 1))) (tC (.int 2))) [12]) tNil))) tNil)) (gName 6)) (tSeq (tDrop (tBM K "list" rAppend (tVar 6) (tCons (tTup (tCons (tLc (iList K (tVar 5)) (gName 12) tYes (tCB (rMinT K) (tCons (tVar 12) tNil)) [12]) (tCons (tLc (iList K (tVar 5)) (gName 12) tYes (tCB (rMaxT K) (tCons (tVar 12) tNil)) [12]) tNil))) tNil))) (tSeq (tFor (iList K (tVar 6)) (gTup K 2 (gCons (gName 7) (gCons (gName 8) gNil))) (tSeq (tPar 9 10 (tCons (tMethD "worth" (IsH K) (fun _ => (spD K (R_hworth K))) E0 (tVar 0) (tCons (tVar 7) tNil)) (tCons (tMethD "worth" (IsH K) (fun _ => (spD K (R_hworth K))) E0 (tVar 0) (tCons (tVar 8) tNil)) tNil))) (tIfS (tOr (tTest (tOp zIsN (tVar 9) (tC .non))) (tOr (tTest (tOp zIsN (tVar 10) (tC .non))) (tTest (tOp zGt (tOp zPlus (tVar 9) (tVar 10)) (tOp zPlus (tVar 3) (tVar 4)))))) (tRet (tC (.bl false))) tNext))) (tRet (tC (.bl true)))))))))
def N_law3 : List Str := [("_law_script" : Str), ("_law_many" : Str), ("_law_plain_here" : Str), ("_law_hall_here" : Str), ("_law_k" : Str), ("_law_one" : Str), ("_law_other" : Str)]
def t_law3 (K : PySem.W.Frag) : TS := (tSeq (tAsg (tCall (spD K R_plain) [] E0 (tCons (tVar 0) (tCons (tC (.int 5)) (tCons (tC (.int 10)) tNil)))) (gTup K 2 (gCons (gName 1) (gCons (gName 2) gNil)))) (tSeq (tAsg (tCall (spD K (R_hall K)) [] E0 (tCons (tVar 1) (tCons (tVar 2) tNil))) (gName 3)) (tSeq (tFor (iRng1 (tCons (tOp zPlus (tC (.int 1)) (tOp zMod (tCall (spD K R_cell) [] E0 (tCons (tVar 0) (tCons (tC (.int 2)) tNil))) (tC (.int 8)))) tNil)) (gName 4) (tSeq (tAsg (tCall (spO K R_point) [] E0 (tCons (tCall (spD K R_cell) [] E0 (tCons (tVar 0) (tCons (tOp zPlus (tC (.int 20)) (tOp zTimes (tC (.int 2)) (tVar 4))) tNil))) (tCons (tVar 1) (tCons (tVar 2) tNil)))) (gName 5)) (tSeq (tAsg (tCall (spO K R_point) [] E0 (tCons (tCall (spD K R_cell) [] E0 (tCons (tVar 0) (tCons (tOp zPlus (tC (.int 21)) (tOp zTimes (tC (.int 2)) (tVar 4))) tNil))) (tCons (tVar 1) (tCons (tVar 2) tNil)))) (gName 6)) (tIfS (tNot (tB (tCall (spD K (R_two K)) [] E0 (tCons (tVar 3) (tCons (tVar 5) (tCons (tVar 6) tNil)))))) (tRet (tC (.bl false))) tNext)))) (tRet (tC (.bl true))))))


section
variable {K : PySem.W.Frag} {ds es : List D} {d : D} {ρ : Rho} {te ta : TE}
theorem ptIn_mid {h : Hl} {p q l u : List Int} (m : Mid p q l u) (hp : PtIn h p) (hq : PtIn h q) : PtIn h l ∧ PtIn h u := by
  have gp : ∀ k, inR (-1000) 1000 (p.getD k 0) := fun k => by
    rw [List.getD_eq_getElem?_getD]
    cases e : p[k]? with
    | none => exact ⟨by decide, by decide⟩
    | some x => exact hp.num x (List.mem_of_getElem? e)
  have gq : ∀ k, inR (-1000) 1000 (q.getD k 0) := fun k => by
    rw [List.getD_eq_getElem?_getD]
    cases e : q[k]? with
    | none => exact ⟨by decide, by decide⟩
    | some x => exact hq.num x (List.mem_of_getElem? e)
  have get : ∀ {z : List Int} {x : Int}, x ∈ z → ∃ k, z.getD k 0 = x := fun {z x} hx => by
    obtain ⟨k, hk, rfl⟩ := List.getElem_of_mem hx
    exact ⟨k, by rw [List.getD_eq_getElem?_getD, List.getElem?_eq_getElem hk]; rfl⟩
  refine ⟨⟨by rw [m.llen]; exact hp.len, fun x hx => ?_⟩, ⟨by rw [m.ulen]; exact hp.len, fun x hx => ?_⟩⟩
  · obtain ⟨k, rfl⟩ := get hx
    have := gp k
    have := gq k
    have := m.one k
    unfold inR at *
    omega
  · obtain ⟨k, rfl⟩ := get hx
    have := gp k
    have := gq k
    have := m.one k
    have := m.sum k
    unfold inR at *
    omega
def pairI (p q : List Int) : List (Int × Int) := p.zip q
def pairD (xy : Int × Int) : D := .tup (([xy.1, xy.2] : List Int).map .int)
theorem pairs_range {p q : List Int} (hl : q.length = p.length) : ((rgI 0 (p.length : Int)).map fun k => pairD (p.getD k.toNat 0, q.getD k.toNat 0)) = (pairI p q).map pairD := by
  unfold pairI rgI
  rw [List.map_map]
  apply List.ext_getElem
  · simp [hl]
  · intro i h1 h2
    simp only [List.length_map, List.length_range] at h1
    have hi : i < p.length := by omega
    simp only [List.getElem_map, List.getElem_range, List.getElem_zip, Function.comp_apply]
    have e : (0 + (i : Int)).toNat = i := by omega
    rw [e, List.getD_eq_getElem?_getD, List.getElem?_eq_getElem hi, List.getD_eq_getElem?_getD, List.getElem?_eq_getElem (by omega)]
    rfl
theorem map_zipI {g : Int → Int → Int} : ∀ (p q : List Int), (pairI p q).map (fun xy => D.int (g xy.1 xy.2)) = (zipI g p q).map .int
  | [], _ => rfl
  | _ :: _, [] => rfl
  | x :: p, y :: q => congrArg (D.int (g x y) :: ·) (map_zipI p q)
theorem sum2 (x y : Int) : ([x, y] : List Int).sum = x + y := by simp
theorem ok_minP {x y : Int} : OkC K (rMinT K) [pairD (x, y)] (.int (imin x y)) := ok_minT (ns := [x, y]) (Nat.le_of_ble_eq_true rfl) fun m h1 h2 => by
  have a := h2 x List.mem_cons_self
  have b := h2 y (List.mem_cons_of_mem _ List.mem_cons_self)
  simp only [List.mem_cons, List.not_mem_nil, or_false] at h1
  unfold imin
  split <;> omega
theorem ok_maxP {x y : Int} : OkC K (rMaxT K) [pairD (x, y)] (.int (imax x y)) := ok_maxT (ns := [x, y]) (Nat.le_of_ble_eq_true rfl) fun m h1 h2 => by
  have a := h2 x List.mem_cons_self
  have b := h2 y (List.mem_cons_of_mem _ List.mem_cons_self)
  simp only [List.mem_cons, List.not_mem_nil, or_false] at h1
  unfold imax
  split <;> omega
theorem e_two (h : R_two K ds d) : EvS K (t__law_two K) (startR N__law_two ds) (.rt d) := by
  obtain ⟨h, p, q, rfl, ho, hp, hq, rfl⟩ := h
  show EvS K _ [.p (hallD K h), .p (.lst (p.map .int)), .p (.lst (q.map .int)), .no, .no, .no, .no, .no, .no, .no, .no, .no, .no] _
  unfold t__law_two
  refine evs_seq (evs_par (x := optD (hworth h p)) (y := optD (hworth h q)) (call_hworth (evd_var rfl) (evd_var rfl) ho hp) (call_hworth (evd_var rfl) (evd_var rfl) ho hq) rfl) ?_
  have isn : ∀ o : Option Int, isNon (optD o) = o.isNone := fun o => by cases o <;> rfl
  have ot : EvT K (tOr (tTest (tOp zIsN (tVar 3) (tC .non))) (tTest (tOp zIsN (tVar 4) (tC .non)))) [.p (hallD K h), .p (.lst (p.map .int)), .p (.lst (q.map .int)), .p (optD (hworth h p)), .p (optD (hworth h q)), .no, .no, .no, .no, .no, .no, .no, .no] ((hworth h p).isNone || (hworth h q).isNone) :=
    evt_is (evt_or (evt_test (evd_op (evd_var rfl) evd_non ok_isN)) (fun _ => evt_test (evd_op (evd_var rfl) evd_non ok_isN))) (by rw [isn, isn])
  cases e1 : hworth h p with
  | none =>
    rw [e1] at ot
    exact evs_yes ot rfl (evs_ret evd_bl)
  | some a =>
    cases e2 : hworth h q with
    | none =>
      rw [e1, e2] at ot
      exact evs_yes ot rfl (evs_ret evd_bl)
    | some b =>
      rw [e1, e2] at ot
      refine evs_no ot rfl ?_
      have hl : q.length = p.length := by have := hp.len; have := hq.len; omega
      have hpl : (p.length : Int) ≤ 8 := by have := hp.len; have := ho.m; unfold inR at this; omega
      have hlen : (pairI p q).length = p.length := by unfold pairI; rw [List.length_zip]; omega
      refine evs_seq (evs_set (d := .lst ((pairI p q).map pairD)) (EvO.evd (evo_lc (evi_rng1 (n := (p.length : Int)) (eva_cons (evd_is (evd_cb (eva_cons (evd_var rfl) eva_nil) ok_lenL) (by rw [List.length_map])) eva_nil) (by omega) (by omega)) wipes_name (by
        rw [← pairs_range hl]
        refine lcR_map fun k hk => ?_
        have hk := mem_rgI hk
        exact evd_tup (eva_cons (get_pt hk.1 hk.2 (evd_var rfl) (evd_var rfl)) (eva_cons (get_pt (q := q) hk.1 (by omega) (evd_var rfl) (evd_var rfl)) eva_nil)) (Nat.le_of_ble_eq_true rfl)) (size_le (by unfold rgD rgI; simp; omega)))) rfl) ?_
      have lc : ∀ {ρ : Rho} {te : TE} (g : Int → Int → Int), ρ[5]? = some (.p (.lst ((pairI p q).map pairD))) → (∀ xy, EvD K te ((wipeR ρ [12]).set 12 (.p (pairD xy))) (.int (g xy.1 xy.2))) → EvO K (tLc (iList K (tVar 5)) (gName 12) tYes te [12]) ρ ((zipI g p q).map .int) := fun {ρ te} g h1 h2 => by
        rw [← map_zipI]
        exact evo_lc (evi_list (evd_var h1)) wipes_name (lcR_map fun xy _ => h2 xy) (size_le (by rw [List.length_map, hlen]; omega))
      have sm : ∀ (xy : Int × Int), OkC K (rSumT K) [pairD xy] (.int (xy.1 + xy.2)) := fun xy => by
        have := ok_sumT (K := K) (ns := [xy.1, xy.2])
        rw [sum2] at this
        exact this
      have m1 := mid_half hl
      have m2 := mid_meet hl
      obtain ⟨lI, hlI⟩ : ∃ z, z = zipI (fun x y => (x + y) / 2) p q := ⟨_, rfl⟩
      obtain ⟨uI, huI⟩ : ∃ z, z = zipI (fun x y => (x + y + 1) / 2) p q := ⟨_, rfl⟩
      obtain ⟨lM, hlM⟩ : ∃ z, z = zipI imin p q := ⟨_, rfl⟩
      obtain ⟨uM, huM⟩ : ∃ z, z = zipI imax p q := ⟨_, rfl⟩
      refine evs_seq (evs_setO (ds := [.tup [.lst (lI.map .int), .lst (uI.map .int)]]) (evo_lst (eva_cons (evd_tup (eva_cons (EvO.evd (hlI ▸ lc _ rfl fun xy => evd_op (evd_cb (eva_cons (evd_var rfl) eva_nil) (sm xy)) evd_int (ok_div ⟨by decide, by decide⟩))) (eva_cons (EvO.evd (huI ▸ lc _ rfl fun xy => evd_op (evd_op (evd_cb (eva_cons (evd_var rfl) eva_nil) (sm xy)) evd_int ok_plus) evd_int (ok_div ⟨by decide, by decide⟩))) eva_nil)) (Nat.le_of_ble_eq_true rfl)) eva_nil) (Nat.le_of_ble_eq_true rfl)) rfl) ?_
      refine evs_seq (evs_app (d := .tup [.lst (lM.map .int), .lst (uM.map .int)]) rfl (evd_tup (eva_cons (EvO.evd (hlM ▸ lc _ rfl fun xy => evd_cb (eva_cons (evd_var rfl) eva_nil) ok_minP)) (eva_cons (EvO.evd (huM ▸ lc _ rfl fun xy => evd_cb (eva_cons (evd_var rfl) eva_nil) ok_maxP)) eva_nil)) (Nat.le_of_ble_eq_true rfl)) (size_lt (Nat.le_of_ble_eq_true rfl)) rfl) ?_
      rw [← hlI, ← huI] at m1
      rw [← hlM, ← huM] at m2
      refine evs_pub (i := 6) rfl ?_
      have step : ∀ {l u : List Int}, Mid p q l u → EvS K (tSeq (tPar 9 10 (tCons (tMethD "worth" (IsH K) (fun _ => (spD K (R_hworth K))) E0 (tVar 0) (tCons (tVar 7) tNil)) (tCons (tMethD "worth" (IsH K) (fun _ => (spD K (R_hworth K))) E0 (tVar 0) (tCons (tVar 8) tNil)) tNil))) (tIfS (tOr (tTest (tOp zIsN (tVar 9) (tC .non))) (tOr (tTest (tOp zIsN (tVar 10) (tC .non))) (tTest (tOp zGt (tOp zPlus (tVar 9) (tVar 10)) (tOp zPlus (tVar 3) (tVar 4)))))) (tRet (tC (.bl false))) tNext))
          [.p (hallD K h), .p (.lst (p.map .int)), .p (.lst (q.map .int)), .p (.int a), .p (.int b), .p (.lst ((pairI p q).map pairD)), .p (.lst [.tup [.lst (lI.map .int), .lst (uI.map .int)], .tup [.lst (lM.map .int), .lst (uM.map .int)]]), .p (.lst (l.map .int)), .p (.lst (u.map .int)), .no, .no, .no, .no]
          (.nx [.p (hallD K h), .p (.lst (p.map .int)), .p (.lst (q.map .int)), .p (.int a), .p (.int b), .p (.lst ((pairI p q).map pairD)), .p (.lst [.tup [.lst (lI.map .int), .lst (uI.map .int)], .tup [.lst (lM.map .int), .lst (uM.map .int)]]), .no, .no, .no, .no, .no, .no]) := fun {l u} m => by
        obtain ⟨c, e, k1, k2, k3⟩ := mid_worth ho m e1 e2
        obtain ⟨pl, pu⟩ := ptIn_mid m hp hq
        have w1 := call_hworth (K := K) (te := tVar 0) (ta := tVar 7) (h := h) (q := l) (ρ := [.p (hallD K h), .p (.lst (p.map .int)), .p (.lst (q.map .int)), .p (.int a), .p (.int b), .p (.lst ((pairI p q).map pairD)), .p (.lst [.tup [.lst (lI.map .int), .lst (uI.map .int)], .tup [.lst (lM.map .int), .lst (uM.map .int)]]), .p (.lst (l.map .int)), .p (.lst (u.map .int)), .no, .no, .no, .no]) (evd_var rfl) (evd_var rfl) ho pl
        have w2 := call_hworth (K := K) (te := tVar 0) (ta := tVar 8) (h := h) (q := u) (ρ := [.p (hallD K h), .p (.lst (p.map .int)), .p (.lst (q.map .int)), .p (.int a), .p (.int b), .p (.lst ((pairI p q).map pairD)), .p (.lst [.tup [.lst (lI.map .int), .lst (uI.map .int)], .tup [.lst (lM.map .int), .lst (uM.map .int)]]), .p (.lst (l.map .int)), .p (.lst (u.map .int)), .no, .no, .no, .no]) (evd_var rfl) (evd_var rfl) ho pu
        rw [k1] at w1
        rw [k2] at w2
        refine evs_forget (j := 7) (s := .p (.lst (l.map .int))) (evs_forget (j := 8) (s := .p (.lst (u.map .int))) (evs_forget (j := 9) (s := .p (.int c)) (evs_forget (j := 10) (s := .p (.int e)) ?_ rfl) rfl) rfl) rfl
        refine evs_seq (evs_par (x := .int c) (y := .int e) w1 w2 rfl) ?_
        refine evs_if (b := false) (evt_is (evt_or (a := false) (b := false) (evt_is (evt_test (evd_op (evd_var rfl) evd_non ok_isN)) rfl) (fun _ => evt_is (evt_or (a := false) (b := false) (evt_is (evt_test (evd_op (evd_var rfl) evd_non ok_isN)) rfl) (fun _ => evt_is (evt_test (evd_op (evd_op (evd_var rfl) (evd_var rfl) ok_plus) (evd_op (evd_var rfl) (evd_var rfl) ok_plus) ok_gt)) (decide_eq_false (by omega)))) rfl)) rfl) (fun z => nomatch z) (fun _ => evs_next)
      exact evs_seq (evs_for (evi_list (evd_var rfl)) (.next (evg_tup (evgs_cons evg_name (evgs_cons evg_name evgs_nil)) rfl) (step m1) (.next (evg_tup (evgs_cons evg_name (evgs_cons evg_name evgs_nil)) rfl) (step m2) .nil))) (evs_ret evd_bl)
theorem e_law3 (h : R_law ds d) : EvS K (t_law3 K) (startR N_law3 ds) (.rt d) := by
  obtain ⟨ns, rfl, hl, rfl⟩ := h
  show EvS K _ [.p (.scr ns), .no, .no, .no, .no, .no, .no] _
  unfold t_law3
  have ho : (drawn ns 5 10).Ok := drawn_ok ⟨by decide, by decide⟩ ⟨by decide, by decide⟩
  refine evs_seq (ρ1 := [.p (.scr ns), .p (.int (drawn ns 5 10).many), .p (plainD (drawn ns 5 10)), .no, .no, .no, .no]) (evs_asg (evd_call0 (by walk_at "ev") ⟨ns, 5, 10, rfl, hl, ⟨by decide, by decide⟩, ⟨by decide, by decide⟩, rfl⟩) (evg_tup (evgs_cons evg_name (evgs_cons evg_name evgs_nil)) rfl)) ?_
  generalize drawn ns 5 10 = h at *
  refine evs_seq (evs_set (d := hallD K h) (evd_call0 (by walk_at "ev") ⟨h, rfl, ho, rfl⟩) rfl) ?_
  have q8 : (0 : Int) ≤ lawCell ns 2 % 8 ∧ lawCell ns 2 % 8 < 8 := by omega
  refine evs_seq (ρ1 := [.p (.scr ns), .p (.int h.many), .p (plainD h), .p (hallD K h), .no, .no, .no]) (evs_for (evi_rng1 (n := 1 + lawCell ns 2 % 8) (eva_cons (evd_op evd_int (evd_op (evd_call0 (by walk_at "ev") (r_cell (by decide) hl)) evd_int (ok_mod (by decide))) ok_plus) eva_nil) (by omega) (by omega)) (forR_keep' fun d hd => ?_)) (evs_ret evd_bl)
  obtain ⟨k, rfl, k1, k2⟩ := mem_rgD hd
  refine evs_forget (j := 4) (s := .p (.int k)) (evs_forget (j := 5) (s := .p (.lst ((drawPt (lawCell ns (20 + 2 * k)) h).map .int))) (evs_forget (j := 6) (s := .p (.lst ((drawPt (lawCell ns (21 + 2 * k)) h).map .int))) ?_ rfl) rfl) rfl
  refine evs_seq (evs_set (d := .lst ((drawPt (lawCell ns (20 + 2 * k)) h).map .int)) (EvO.evd (evo_call0 (eva_cons (evd_call0 (eva_cons (evd_var rfl) (eva_cons (evd_op evd_int (evd_op evd_int (evd_var rfl) (ok_times (Or.inl ⟨by decide, by decide⟩))) ok_plus) eva_nil)) (r_cell (by omega) hl)) (by walk_at "ev")) ⟨_, h, rfl, ho, rfl⟩)) rfl) ?_
  refine evs_seq (evs_set (d := .lst ((drawPt (lawCell ns (21 + 2 * k)) h).map .int)) (EvO.evd (evo_call0 (eva_cons (evd_call0 (eva_cons (evd_var rfl) (eva_cons (evd_op evd_int (evd_op evd_int (evd_var rfl) (ok_times (Or.inl ⟨by decide, by decide⟩))) ok_plus) eva_nil)) (r_cell (by omega) hl)) (by walk_at "ev")) ⟨_, h, rfl, ho, rfl⟩)) rfl) ?_
  exact evs_if (b := false) (evt_is (evt_not (b := true) (evt_B (evd_call0 (eva_cons (evd_var rfl) (eva_cons (evd_var rfl) (eva_cons (evd_var rfl) eva_nil))) ⟨h, _, _, rfl, ho, draw_pt _ ho, draw_pt _ ho, rfl⟩))) rfl) (fun z => nomatch z) (fun _ => evs_next)
end

def top (i : Nat) : Stmt := PySem.Challenge.pw_evenbend_k03_whole_even.main.body.getD i (.Pass ⟨0, 0, 0, 0⟩)
def M_is_number : List Str := [("thing" : Str), ("least" : Str), ("most" : Str)]
abbrev s_is_number : Stmt := top 13
theorem sc_is_number : FnScope M_is_number ["thing", "least", "most"] (defScope s_is_number) := ⟨rfl, rfl, rfl, by decide +kernel, rfl, by decide +kernel, by decide +kernel⟩
theorem b_is_number {P : Program} {w : World} {K : PySem.W.Frag} {mg : Str → Option Value} {base : Heap} (fr : Fr mg)  : Body P w K mg base M_is_number "is_number" (defScope s_is_number) (defBody s_is_number) (0) (t_is_number K) := by
  intro f cdv A outer s H E hr
  exact (pss_one (ps_ret (pe_and (pe_callB call_isi (by rfl) fr.isinstance_ boot_isinstance (pa_cons (pv 0) (pa_cons (pe_bltn (v := .ty "int") (by rfl) fr.int_ boot_int rfl) pa_nil))) (pe_and (pe_not (pe_callB call_isi (by rfl) fr.isinstance_ boot_isinstance (pa_cons (pv 0) (pa_cons (pe_bltn (v := .ty "bool") (by rfl) fr.bool_ boot_bool rfl) pa_nil)))) (pe_one (pe_chain op_le op_le (pv 1) (pv 0) (pv 2)))))))
def M_asked : List Str := [("thing" : Str), ("least" : Str), ("most" : Str)]
abbrev s_asked : Stmt := top 14
theorem sc_asked : FnScope M_asked ["thing", "least", "most"] (defScope s_asked) := ⟨rfl, rfl, rfl, by decide +kernel, rfl, by decide +kernel, by decide +kernel⟩
theorem b_asked {P : Program} {w : World} {K : PySem.W.Frag} {mg : Str → Option Value} {base : Heap} (fr : Fr mg) (c_is_number : Callee P w K mg base 1 "is_number" [] ["thing", "least", "most"] (spD K R_isnum)) : Body P w K mg base M_asked "asked" (defScope s_asked) (defBody s_asked) (1) (t_asked K) := by
  intro f cdv A outer s H E hr
  exact (pss_cons (ps_if (pt_not (pt_val (pe_cal c_is_number (hr.mono (by decide)) (pa_cons (pv 0) (pa_cons (pv 1) (pa_cons (pv 2) pa_nil)))))) (pss_one ps_never) pss_nil) (pss_one (ps_ret (pv 0))))
def M_asked_worths : List Str := [("worths" : Str), ("worth" : Str), ("at" : Str)]
abbrev s_asked_worths : Stmt := top 19
theorem sc_asked_worths : FnScope M_asked_worths ["worths"] (defScope s_asked_worths) := ⟨rfl, rfl, rfl, by decide +kernel, rfl, by decide +kernel, by decide +kernel⟩
theorem b_asked_worths {P : Program} {w : World} {K : PySem.W.Frag} {mg : Str → Option Value} {base : Heap} (fr : Fr mg) (c_asked : Callee P w K mg base 2 "asked" [] ["thing", "least", "most"] (spD K R_asked)) (cn_MOST : ∃ t, mg "MOST" = some (.int 40 t)) (cn_WORTH : ∃ t, mg "WORTH" = some (.int 1000000 t)) : Body P w K mg base M_asked_worths "asked_worths" (defScope s_asked_worths) (defBody s_asked_worths) (2) (t_asked_worths K) := by
  intro f cdv A outer s H E hr
  exact (pss_cons (ps_if (PW.pt (pw_or (pt_not (pt_val (pe_callB call_isi (by rfl) fr.isinstance_ boot_isinstance (pa_cons (pv 0) (pa_cons (pe_bltn (v := .ty "list") (by rfl) fr.list_ boot_list rfl) pa_nil))))) (pw_or1 (pt_not (pt_chain op_le op_le pe_int (pe_callB call_len (by rfl) fr.len_ boot_len (pa_cons (pv 0) pa_nil)) (pe_const cn_MOST)))))) (pss_one ps_never) pss_nil) (pss_cons (ps_for PassesOwn.never rfl (pi_list (pv 0)) (pg_name (i := 1) sc_asked_worths.nd rfl (Or.inl rfl)) (pss_one (ps_expr (pe_cal c_asked (hr.mono (by decide)) (pa_cons (pv 1) (pa_cons (pe_un un_neg (pe_const cn_WORTH)) (pa_cons (pe_const cn_WORTH) pa_nil))))))) (pss_cons (ps_for PassesOwn.never rfl (pi_range2 rfl fr.range_ (pa_cons pe_int (pa_cons (pe_op op_sub (pe_callB call_len (by rfl) fr.len_ boot_len (pa_cons (pv 0) pa_nil)) pe_int) pa_nil))) (pg_name (i := 2) sc_asked_worths.nd rfl (Or.inl rfl)) (pss_one (ps_if (pt_cmpR op_gt (pe_op (OpR.or op_mul op_rep) pe_int (pe_ix ix_seq (pv 0) (pv 2) (fun _ _ => rfl))) (pe_op (OpR.or op_add op_cat) (pe_ix ix_seq (pv 0) (pe_op op_sub (pv 2) pe_int) (fun _ _ => rfl)) (pe_ix ix_seq (pv 0) (pe_op (OpR.or op_add op_cat) (pv 2) pe_int) (fun _ _ => rfl))) rfl) (pss_one ps_never) pss_nil))) (pss_one (ps_ret (pe_callTy call_list_of (by rfl) fr.list_ boot_list (pa_cons (pv 0) pa_nil)))))))
def M_asked_pair : List Str := [("one" : Str), ("other" : Str), ("pair" : Str)]
abbrev s_asked_pair : Stmt := top 30
theorem sc_asked_pair : FnScope M_asked_pair ["one", "other"] (defScope s_asked_pair) := ⟨rfl, rfl, rfl, by decide +kernel, rfl, by decide +kernel, by decide +kernel⟩
theorem b_asked_pair {P : Program} {w : World} {K : PySem.W.Frag} {mg : Str → Option Value} {base : Heap} (fr : Fr mg) (c_asked : Callee P w K mg base 2 "asked" [] ["thing", "least", "most"] (spD K R_asked)) (cn_PLACES : ∃ t, mg "PLACES" = some (.int 8 t)) : Body P w K mg base M_asked_pair "asked_pair" (defScope s_asked_pair) (defBody s_asked_pair) (2) (t_asked_pair K) := by
  intro f cdv A outer s H E hr
  exact (pss_cons (ps_set (i := 2) sc_asked_pair.nd rfl (Or.inl rfl) (pe_lst (pa_cons (pe_cal c_asked (hr.mono (by decide)) (pa_cons (pv 0) (pa_cons pe_int (pa_cons (pe_op op_sub (pe_const cn_PLACES) pe_int) pa_nil)))) (pa_cons (pe_cal c_asked (hr.mono (by decide)) (pa_cons (pv 1) (pa_cons pe_int (pa_cons (pe_op op_sub (pe_const cn_PLACES) pe_int) pa_nil)))) pa_nil)))) (pss_cons (ps_if (pt_cmpR (OpR.or (op_eqD hr.units) op_eq) (pv 0) (pv 1) rfl) (pss_one ps_never) pss_nil) (pss_one (ps_ret (pv 2)))))
def M_Part_init : List Str := [("self" : Str), ("where" : Str), ("place" : Str)]
abbrev s_Part_init : Stmt := inClass (top 15) 0
theorem sc_Part_init : FnScope M_Part_init ["self", "where"] (defScope s_Part_init) := ⟨rfl, rfl, rfl, by decide +kernel, rfl, by decide +kernel, by decide +kernel⟩
theorem b_Part_init {P : Program} {w : World} {K : PySem.W.Frag} {mg : Str → Option Value} {base : Heap} (fr : Fr mg) (c_asked : Callee P w K mg base 2 "asked" [] ["thing", "least", "most"] (spD K R_asked)) (cn_PLACES : ∃ t, mg "PLACES" = some (.int 8 t)) : Body P w K mg base M_Part_init "Part.__init__" (defScope s_Part_init) (defBody s_Part_init) (2) (t_Part_init K) := by
  intro f cdv A outer s H E hr
  exact (pss_one (ps_fld (pv 0) (pe_lc (own := [("place", 2)]) (g := (gName 2)) (tt := tYes) rfl sc_Part_init.nd (pi_list (pv 1)) (blkOk_by (own := [("place", 2)]) (N := M_Part_init) (sc := defScope s_Part_init) (by decide +kernel)) (fun _ _ _ _ _ => (pg_name (i := 2) sc_Part_init.nd rfl (Or.inl rfl))) (fun _ _ _ _ _ => pts_nil) (fun _ _ _ _ _ => (pe_cal c_asked (hr.mono (by decide)) (pa_cons (pv 2) (pa_cons pe_int (pa_cons (pe_op op_sub (pe_const cn_PLACES) pe_int) pa_nil)))))) rfl))
def M_Part_stands : List Str := [("self" : Str)]
abbrev s_Part_stands : Stmt := inClass (top 15) 1
theorem sc_Part_stands : FnScope M_Part_stands ["self"] (defScope s_Part_stands) := ⟨rfl, rfl, rfl, by decide +kernel, rfl, by decide +kernel, by decide +kernel⟩
theorem b_Part_stands {P : Program} {w : World} {K : PySem.W.Frag} {mg : Str → Option Value} {base : Heap} (fr : Fr mg)  : Body P w K mg base M_Part_stands "Part.stands" (defScope s_Part_stands) (defBody s_Part_stands) (0) (t_Part_stands K) := by
  intro f cdv A outer s H E hr
  exact (pss_one (ps_ret (pe_callTy call_list_of (by rfl) fr.list_ boot_list (pa_cons (pe_fld (pv 0) rfl) pa_nil))))
def M_Part_worth_of : List Str := [("self" : Str), ("reads" : Str)]
abbrev s_Part_worth_of : Stmt := inClass (top 15) 2
theorem sc_Part_worth_of : FnScope M_Part_worth_of ["self", "reads"] (defScope s_Part_worth_of) := ⟨rfl, rfl, rfl, by decide +kernel, rfl, by decide +kernel, by decide +kernel⟩
theorem b_Part_worth_of {P : Program} {w : World} {K : PySem.W.Frag} {mg : Str → Option Value} {base : Heap} (fr : Fr mg)  : Body P w K mg base M_Part_worth_of "Part.worth_of" (defScope s_Part_worth_of) (defBody s_Part_worth_of) (0) (t_Part_worth_of K) := by
  intro f cdv A outer s H E hr
  exact (pss_one (ps_ret pe_int))
def M_Slope_init : List Str := [("self" : Str), ("place" : Str), ("weight" : Str)]
abbrev s_Slope_init : Stmt := inClass (top 16) 0
theorem sc_Slope_init : FnScope M_Slope_init ["self", "place", "weight"] (defScope s_Slope_init) := ⟨rfl, rfl, rfl, by decide +kernel, rfl, by decide +kernel, by decide +kernel⟩
theorem b_Slope_init {P : Program} {w : World} {K : PySem.W.Frag} {mg : Str → Option Value} {base : Heap} (fr : Fr mg) (c_asked : Callee P w K mg base 2 "asked" [] ["thing", "least", "most"] (spD K R_asked)) (cf_Part___init__ : ClsFn P w K mg base 3 "Part" "__init__" [] ["self", "where"] (spM K (R_Part_init K))) (cn_WEIGHT : ∃ t, mg "WEIGHT" = some (.int 1000 t)) : Body P w K mg base M_Slope_init "Slope.__init__" (defScope s_Slope_init) (defBody s_Slope_init) (3) (t_Slope_init K) := by
  intro f cdv A outer s H E hr
  exact (pss_cons (ps_expr (pe_cfn cf_Part___init__ (hr.mono (by decide)) (pa_cons (pv 0) (pa_cons (pe_lst (pa_cons (pv 1) pa_nil)) pa_nil)))) (pss_one (ps_fld (pv 0) (pe_cal c_asked (hr.mono (by decide)) (pa_cons (pv 2) (pa_cons (pe_un un_neg (pe_const cn_WEIGHT)) (pa_cons (pe_const cn_WEIGHT) pa_nil)))) rfl)))
def M_Slope_worth_of : List Str := [("self" : Str), ("reads" : Str)]
abbrev s_Slope_worth_of : Stmt := inClass (top 16) 1
theorem sc_Slope_worth_of : FnScope M_Slope_worth_of ["self", "reads"] (defScope s_Slope_worth_of) := ⟨rfl, rfl, rfl, by decide +kernel, rfl, by decide +kernel, by decide +kernel⟩
theorem b_Slope_worth_of {P : Program} {w : World} {K : PySem.W.Frag} {mg : Str → Option Value} {base : Heap} (fr : Fr mg)  : Body P w K mg base M_Slope_worth_of "Slope.worth_of" (defScope s_Slope_worth_of) (defBody s_Slope_worth_of) (0) (t_Slope_worth_of K) := by
  intro f cdv A outer s H E hr
  exact (pss_one (ps_ret (pe_op (OpR.or op_mul op_rep) (pe_fld (pv 0) rfl) (pv 1))))
def M_Aim_init : List Str := [("self" : Str), ("place" : Str), ("aim" : Str), ("weight" : Str)]
abbrev s_Aim_init : Stmt := inClass (top 17) 0
theorem sc_Aim_init : FnScope M_Aim_init ["self", "place", "aim", "weight"] (defScope s_Aim_init) := ⟨rfl, rfl, rfl, by decide +kernel, rfl, by decide +kernel, by decide +kernel⟩
theorem b_Aim_init {P : Program} {w : World} {K : PySem.W.Frag} {mg : Str → Option Value} {base : Heap} (fr : Fr mg) (c_asked : Callee P w K mg base 2 "asked" [] ["thing", "least", "most"] (spD K R_asked)) (cf_Part___init__ : ClsFn P w K mg base 3 "Part" "__init__" [] ["self", "where"] (spM K (R_Part_init K))) (cn_FAR : ∃ t, mg "FAR" = some (.int 100 t)) (cn_WEIGHT : ∃ t, mg "WEIGHT" = some (.int 1000 t)) : Body P w K mg base M_Aim_init "Aim.__init__" (defScope s_Aim_init) (defBody s_Aim_init) (3) (t_Aim_init K) := by
  intro f cdv A outer s H E hr
  exact (pss_cons (ps_expr (pe_cfn cf_Part___init__ (hr.mono (by decide)) (pa_cons (pv 0) (pa_cons (pe_lst (pa_cons (pv 1) pa_nil)) pa_nil)))) (pss_cons (ps_fld (pv 0) (pe_cal c_asked (hr.mono (by decide)) (pa_cons (pv 2) (pa_cons (pe_un un_neg (pe_const cn_FAR)) (pa_cons (pe_const cn_FAR) pa_nil)))) rfl) (pss_one (ps_fld (pv 0) (pe_cal c_asked (hr.mono (by decide)) (pa_cons (pv 3) (pa_cons pe_int (pa_cons (pe_const cn_WEIGHT) pa_nil)))) rfl))))
def M_Aim_worth_of : List Str := [("self" : Str), ("reads" : Str)]
abbrev s_Aim_worth_of : Stmt := inClass (top 17) 1
theorem sc_Aim_worth_of : FnScope M_Aim_worth_of ["self", "reads"] (defScope s_Aim_worth_of) := ⟨rfl, rfl, rfl, by decide +kernel, rfl, by decide +kernel, by decide +kernel⟩
theorem b_Aim_worth_of {P : Program} {w : World} {K : PySem.W.Frag} {mg : Str → Option Value} {base : Heap} (fr : Fr mg)  : Body P w K mg base M_Aim_worth_of "Aim.worth_of" (defScope s_Aim_worth_of) (defBody s_Aim_worth_of) (0) (t_Aim_worth_of K) := by
  intro f cdv A outer s H E hr
  exact (pss_one (ps_ret (pe_op (OpR.or op_mul op_rep) (pe_fld (pv 0) rfl) (pe_callB call_abs (by rfl) fr.abs_ boot_abs (pa_cons (pe_op op_sub (pv 1) (pe_fld (pv 0) rfl)) pa_nil)))))
def M_Square_worth_of : List Str := [("self" : Str), ("reads" : Str)]
abbrev s_Square_worth_of : Stmt := inClass (top 18) 0
theorem sc_Square_worth_of : FnScope M_Square_worth_of ["self", "reads"] (defScope s_Square_worth_of) := ⟨rfl, rfl, rfl, by decide +kernel, rfl, by decide +kernel, by decide +kernel⟩
theorem b_Square_worth_of {P : Program} {w : World} {K : PySem.W.Frag} {mg : Str → Option Value} {base : Heap} (fr : Fr mg)  : Body P w K mg base M_Square_worth_of "Square.worth_of" (defScope s_Square_worth_of) (defBody s_Square_worth_of) (0) (t_Square_worth_of K) := by
  intro f cdv A outer s H E hr
  exact (pss_one (ps_ret (pe_op (OpR.or op_mul op_rep) (pe_op (OpR.or op_mul op_rep) (pe_fld (pv 0) rfl) (pe_op op_sub (pv 1) (pe_fld (pv 0) rfl))) (pe_op op_sub (pv 1) (pe_fld (pv 0) rfl)))))
def M_Row_init : List Str := [("self" : Str), ("place" : Str), ("first" : Str), ("worths" : Str)]
abbrev s_Row_init : Stmt := inClass (top 20) 0
theorem sc_Row_init : FnScope M_Row_init ["self", "place", "first", "worths"] (defScope s_Row_init) := ⟨rfl, rfl, rfl, by decide +kernel, rfl, by decide +kernel, by decide +kernel⟩
theorem b_Row_init {P : Program} {w : World} {K : PySem.W.Frag} {mg : Str → Option Value} {base : Heap} (fr : Fr mg) (c_asked : Callee P w K mg base 2 "asked" [] ["thing", "least", "most"] (spD K R_asked)) (c_asked_worths : Callee P w K mg base 3 "asked_worths" [] ["worths"] (spOb K R_worths)) (cf_Part___init__ : ClsFn P w K mg base 3 "Part" "__init__" [] ["self", "where"] (spM K (R_Part_init K))) (cn_FAR : ∃ t, mg "FAR" = some (.int 100 t)) : Body P w K mg base M_Row_init "Row.__init__" (defScope s_Row_init) (defBody s_Row_init) (3) (t_Row_init K) := by
  intro f cdv A outer s H E hr
  exact (pss_cons (ps_expr (pe_cfn cf_Part___init__ (hr.mono (by decide)) (pa_cons (pv 0) (pa_cons (pe_lst (pa_cons (pv 1) pa_nil)) pa_nil)))) (pss_cons (ps_fld (pv 0) (pe_cal c_asked (hr.mono (by decide)) (pa_cons (pv 2) (pa_cons (pe_un un_neg (pe_const cn_FAR)) (pa_cons (pe_const cn_FAR) pa_nil)))) rfl) (pss_one (ps_fld (pv 0) (pe_cal c_asked_worths (hr.mono (by decide)) (pa_cons (pv 3) pa_nil)) rfl))))
def M_Row_worth_of : List Str := [("self" : Str), ("reads" : Str)]
abbrev s_Row_worth_of : Stmt := inClass (top 20) 1
theorem sc_Row_worth_of : FnScope M_Row_worth_of ["self", "reads"] (defScope s_Row_worth_of) := ⟨rfl, rfl, rfl, by decide +kernel, rfl, by decide +kernel, by decide +kernel⟩
theorem b_Row_worth_of {P : Program} {w : World} {K : PySem.W.Frag} {mg : Str → Option Value} {base : Heap} (fr : Fr mg)  : Body P w K mg base M_Row_worth_of "Row.worth_of" (defScope s_Row_worth_of) (defBody s_Row_worth_of) (0) (t_Row_worth_of K) := by
  intro f cdv A outer s H E hr
  exact (pss_cons (ps_if (pt_not (pt_chain op_le op_lt pe_int (pe_op op_sub (pv 1) (pe_fld (pv 0) rfl)) (pe_callB call_len (by rfl) fr.len_ boot_len (pa_cons (pe_fld (pv 0) rfl) pa_nil)))) (pss_one (ps_ret pe_non)) pss_nil) (pss_one (ps_ret (pe_ix ix_seq (pe_fld (pv 0) rfl) (pe_op op_sub (pv 1) (pe_fld (pv 0) rfl)) (fun _ _ => rfl)))))
def M_Wall_init : List Str := [("self" : Str), ("place" : Str), ("low" : Str), ("high" : Str)]
abbrev s_Wall_init : Stmt := inClass (top 21) 0
theorem sc_Wall_init : FnScope M_Wall_init ["self", "place", "low", "high"] (defScope s_Wall_init) := ⟨rfl, rfl, rfl, by decide +kernel, rfl, by decide +kernel, by decide +kernel⟩
theorem b_Wall_init {P : Program} {w : World} {K : PySem.W.Frag} {mg : Str → Option Value} {base : Heap} (fr : Fr mg) (c_asked : Callee P w K mg base 2 "asked" [] ["thing", "least", "most"] (spD K R_asked)) (cf_Part___init__ : ClsFn P w K mg base 3 "Part" "__init__" [] ["self", "where"] (spM K (R_Part_init K))) (cn_FAR : ∃ t, mg "FAR" = some (.int 100 t)) : Body P w K mg base M_Wall_init "Wall.__init__" (defScope s_Wall_init) (defBody s_Wall_init) (3) (t_Wall_init K) := by
  intro f cdv A outer s H E hr
  exact (pss_cons (ps_expr (pe_cfn cf_Part___init__ (hr.mono (by decide)) (pa_cons (pv 0) (pa_cons (pe_lst (pa_cons (pv 1) pa_nil)) pa_nil)))) (pss_cons (ps_fld (pv 0) (pe_cal c_asked (hr.mono (by decide)) (pa_cons (pv 2) (pa_cons (pe_un un_neg (pe_const cn_FAR)) (pa_cons (pe_const cn_FAR) pa_nil)))) rfl) (pss_one (ps_fld (pv 0) (pe_cal c_asked (hr.mono (by decide)) (pa_cons (pv 3) (pa_cons (pe_fld (pv 0) rfl) (pa_cons (pe_const cn_FAR) pa_nil)))) rfl))))
def M_Wall_worth_of : List Str := [("self" : Str), ("reads" : Str)]
abbrev s_Wall_worth_of : Stmt := inClass (top 21) 1
theorem sc_Wall_worth_of : FnScope M_Wall_worth_of ["self", "reads"] (defScope s_Wall_worth_of) := ⟨rfl, rfl, rfl, by decide +kernel, rfl, by decide +kernel, by decide +kernel⟩
theorem b_Wall_worth_of {P : Program} {w : World} {K : PySem.W.Frag} {mg : Str → Option Value} {base : Heap} (fr : Fr mg)  : Body P w K mg base M_Wall_worth_of "Wall.worth_of" (defScope s_Wall_worth_of) (defBody s_Wall_worth_of) (0) (t_Wall_worth_of K) := by
  intro f cdv A outer s H E hr
  exact (pss_one (ps_ret (pe_ifExp (pt_chain op_le op_le (pe_fld (pv 0) rfl) (pv 1) (pe_fld (pv 0) rfl)) pe_int pe_non)))
def M_Near_init : List Str := [("self" : Str), ("one" : Str), ("other" : Str), ("aim" : Str), ("weight" : Str), ("where" : Str)]
abbrev s_Near_init : Stmt := inClass (top 31) 0
theorem sc_Near_init : FnScope M_Near_init ["self", "one", "other", "aim", "weight"] (defScope s_Near_init) := ⟨rfl, rfl, rfl, by decide +kernel, rfl, by decide +kernel, by decide +kernel⟩
theorem b_Near_init {P : Program} {w : World} {K : PySem.W.Frag} {mg : Str → Option Value} {base : Heap} (fr : Fr mg) (c_asked_pair : Callee P w K mg base 3 "asked_pair" [] ["one", "other"] (spD K R_pair)) (cf_Aim___init__ : ClsFn P w K mg base 4 "Aim" "__init__" [] ["self", "place", "aim", "weight"] (spM K (R_Aim_init K))) : Body P w K mg base M_Near_init "Near.__init__" (defScope s_Near_init) (defBody s_Near_init) (4) (t_Near_init K) := by
  intro f cdv A outer s H E hr
  exact (pss_cons (ps_set (i := 5) sc_Near_init.nd rfl (Or.inl rfl) (pe_cal c_asked_pair (hr.mono (by decide)) (pa_cons (pv 1) (pa_cons (pv 2) pa_nil)))) (pss_cons (ps_expr (pe_cfn cf_Aim___init__ (hr.mono (by decide)) (pa_cons (pv 0) (pa_cons (pv 1) (pa_cons (pv 3) (pa_cons (pv 4) pa_nil)))))) (pss_one (ps_fld (pv 0) (pv 5) rfl))))
def M_Gaps_init : List Str := [("self" : Str), ("one" : Str), ("other" : Str), ("first" : Str), ("worths" : Str), ("where" : Str)]
abbrev s_Gaps_init : Stmt := inClass (top 32) 0
theorem sc_Gaps_init : FnScope M_Gaps_init ["self", "one", "other", "first", "worths"] (defScope s_Gaps_init) := ⟨rfl, rfl, rfl, by decide +kernel, rfl, by decide +kernel, by decide +kernel⟩
theorem b_Gaps_init {P : Program} {w : World} {K : PySem.W.Frag} {mg : Str → Option Value} {base : Heap} (fr : Fr mg) (c_asked_pair : Callee P w K mg base 3 "asked_pair" [] ["one", "other"] (spD K R_pair)) (cf_Row___init__ : ClsFn P w K mg base 4 "Row" "__init__" [] ["self", "place", "first", "worths"] (spMb K (R_Row_init K))) : Body P w K mg base M_Gaps_init "Gaps.__init__" (defScope s_Gaps_init) (defBody s_Gaps_init) (4) (t_Gaps_init K) := by
  intro f cdv A outer s H E hr
  exact (pss_cons (ps_set (i := 5) sc_Gaps_init.nd rfl (Or.inl rfl) (pe_cal c_asked_pair (hr.mono (by decide)) (pa_cons (pv 1) (pa_cons (pv 2) pa_nil)))) (pss_cons (ps_expr (pe_cfn cf_Row___init__ (hr.mono (by decide)) (pa_cons (pv 0) (pa_cons (pv 1) (pa_cons (pv 3) (pa_cons (pv 4) pa_nil)))))) (pss_one (ps_fld (pv 0) (pv 5) rfl))))
def M_Ahead_init : List Str := [("self" : Str), ("one" : Str), ("other" : Str), ("gap" : Str)]
abbrev s_Ahead_init : Stmt := inClass (top 33) 0
theorem sc_Ahead_init : FnScope M_Ahead_init ["self", "one", "other", "gap"] (defScope s_Ahead_init) := ⟨rfl, rfl, rfl, by decide +kernel, rfl, by decide +kernel, by decide +kernel⟩
theorem b_Ahead_init {P : Program} {w : World} {K : PySem.W.Frag} {mg : Str → Option Value} {base : Heap} (fr : Fr mg) (c_asked : Callee P w K mg base 2 "asked" [] ["thing", "least", "most"] (spD K R_asked)) (c_asked_pair : Callee P w K mg base 3 "asked_pair" [] ["one", "other"] (spD K R_pair)) (cf_Part___init__ : ClsFn P w K mg base 3 "Part" "__init__" [] ["self", "where"] (spM K (R_Part_init K))) (cn_FAR : ∃ t, mg "FAR" = some (.int 100 t)) : Body P w K mg base M_Ahead_init "Ahead.__init__" (defScope s_Ahead_init) (defBody s_Ahead_init) (3) (t_Ahead_init K) := by
  intro f cdv A outer s H E hr
  exact (pss_cons (ps_expr (pe_cfn cf_Part___init__ (hr.mono (by decide)) (pa_cons (pv 0) (pa_cons (pe_cal c_asked_pair (hr.mono (by decide)) (pa_cons (pv 1) (pa_cons (pv 2) pa_nil))) pa_nil)))) (pss_one (ps_fld (pv 0) (pe_cal c_asked (hr.mono (by decide)) (pa_cons (pv 3) (pa_cons (pe_un un_neg (pe_const cn_FAR)) (pa_cons (pe_const cn_FAR) pa_nil)))) rfl)))
def M_Ahead_worth_of : List Str := [("self" : Str), ("reads" : Str)]
abbrev s_Ahead_worth_of : Stmt := inClass (top 33) 1
theorem sc_Ahead_worth_of : FnScope M_Ahead_worth_of ["self", "reads"] (defScope s_Ahead_worth_of) := ⟨rfl, rfl, rfl, by decide +kernel, rfl, by decide +kernel, by decide +kernel⟩
theorem b_Ahead_worth_of {P : Program} {w : World} {K : PySem.W.Frag} {mg : Str → Option Value} {base : Heap} (fr : Fr mg)  : Body P w K mg base M_Ahead_worth_of "Ahead.worth_of" (defScope s_Ahead_worth_of) (defBody s_Ahead_worth_of) (0) (t_Ahead_worth_of K) := by
  intro f cdv A outer s H E hr
  exact (pss_one (ps_ret (pe_ifExp (pt_cmpR op_le (pv 1) (pe_fld (pv 0) rfl) rfl) pe_int pe_non)))
def M_Wrap_init : List Str := [("self" : Str), ("part" : Str), ("number" : Str)]
abbrev s_Wrap_init : Stmt := inClass (top 37) 0
theorem sc_Wrap_init : FnScope M_Wrap_init ["self", "part", "number"] (defScope s_Wrap_init) := ⟨rfl, rfl, rfl, by decide +kernel, rfl, by decide +kernel, by decide +kernel⟩
theorem b_Wrap_init {P : Program} {w : World} {K : PySem.W.Frag} {mg : Str → Option Value} {base : Heap} (fr : Fr mg) (c_asked : Callee P w K mg base 2 "asked" [] ["thing", "least", "most"] (spD K R_asked)) (cf_Part___init__ : ClsFn P w K mg base 3 "Part" "__init__" [] ["self", "where"] (spM K (R_Part_init K))) (cn_DEEP : ∃ t, mg "DEEP" = some (.int 8 t)) (fam_stands : MFam P w K mg base CX0 1 "stands" ["self"] (IsP K) (fun C => spO K (R_stands K C))) (g_Part : mg "Part" = some (.ref (ga K "Part"))) (g_Wrap : mg "Wrap" = some (.ref (ga K "Wrap"))) : Body P w K mg base M_Wrap_init "Wrap.__init__" (defScope s_Wrap_init) (defBody s_Wrap_init) (3) (t_Wrap_init K) := by
  intro f cdv A outer s H E hr
  exact (pss_cons (ps_if (pt_not (pt_val (pe_callB call_isi (by rfl) fr.isinstance_ boot_isinstance (pa_cons (pv 1) (pa_cons (pe_cls g_Part) pa_nil))))) (pss_one ps_never) pss_nil) (pss_cons (ps_expr (pe_cfn cf_Part___init__ (hr.mono (by decide)) (pa_cons (pv 0) (pa_cons (pe_methD0 (pv 1) fam_stands (hr.mono (by decide)) pass0) pa_nil)))) (pss_cons (ps_fld (pv 0) (pe_ifExp (pt_val (pe_callB call_isi (by rfl) fr.isinstance_ boot_isinstance (pa_cons (pv 1) (pa_cons (pe_cls g_Wrap) pa_nil)))) (pe_op (OpR.or op_add op_cat) (pe_fld (pv 1) rfl) pe_int) pe_int) rfl) (pss_cons (ps_expr (pe_cal c_asked (hr.mono (by decide)) (pa_cons (pe_fld (pv 0) rfl) (pa_cons pe_int (pa_cons (pe_const cn_DEEP) pa_nil))))) (pss_cons (ps_fld (pv 0) (pv 1) rfl) (pss_one (ps_fld (pv 0) (pv 2) rfl)))))))
def M_Times_init : List Str := [("self" : Str), ("part" : Str), ("many" : Str)]
abbrev s_Times_init : Stmt := inClass (top 38) 0
theorem sc_Times_init : FnScope M_Times_init ["self", "part", "many"] (defScope s_Times_init) := ⟨rfl, rfl, rfl, by decide +kernel, rfl, by decide +kernel, by decide +kernel⟩
theorem b_Times_init {P : Program} {w : World} {K : PySem.W.Frag} {mg : Str → Option Value} {base : Heap} (fr : Fr mg) (c_asked : Callee P w K mg base 2 "asked" [] ["thing", "least", "most"] (spD K R_asked)) (cf_Wrap___init__ : ClsFn P w K mg base 4 "Wrap" "__init__" [] ["self", "part", "number"] (spM K (R_Wrap_init K))) (cn_TIMES : ∃ t, mg "TIMES" = some (.int 100 t)) : Body P w K mg base M_Times_init "Times.__init__" (defScope s_Times_init) (defBody s_Times_init) (4) (t_Times_init K) := by
  intro f cdv A outer s H E hr
  exact (pss_cons (ps_expr (pe_cfn cf_Wrap___init__ (hr.mono (by decide)) (pa_cons (pv 0) (pa_cons (pv 1) (pa_cons (pv 2) pa_nil))))) (pss_one (ps_expr (pe_cal c_asked (hr.mono (by decide)) (pa_cons (pv 2) (pa_cons pe_int (pa_cons (pe_const cn_TIMES) pa_nil)))))))
def M_Times_worth_of : List Str := [("self" : Str), ("reads" : Str), ("inner" : Str)]
abbrev s_Times_worth_of : Stmt := inClass (top 38) 1
theorem sc_Times_worth_of : FnScope M_Times_worth_of ["self", "reads"] (defScope s_Times_worth_of) := ⟨rfl, rfl, rfl, by decide +kernel, rfl, by decide +kernel, by decide +kernel⟩
theorem b_Times_worth_of {P : Program} {w : World} {K : PySem.W.Frag} {mg : Str → Option Value} {base : Heap} {n : Nat} (fr : Fr mg) (fam_worth_of : MFam P w K mg base CX0 (n + 1) "worth_of" ["self", "reads"] (IsP K) (fun C => spD K (R_worth K n C))) : Body P w K mg base M_Times_worth_of "Times.worth_of" (defScope s_Times_worth_of) (defBody s_Times_worth_of) (n + 1) (t_Times_worth_of K n) := by
  intro f cdv A outer s H E hr
  exact (pss_cons (ps_set (i := 2) sc_Times_worth_of.nd rfl (Or.inl rfl) (pe_methD (pe_fld (pv 0) rfl) fam_worth_of (hr.mono (by omega)) pass0 (pa_cons (pv 1) pa_nil))) (pss_one (ps_ret (pe_ifExp (pt_cmpR op_isN (pv 2) pe_non rfl) pe_non (pe_op (OpR.or op_mul op_rep) (pe_fld (pv 0) rfl) (pv 2))))))
def M_Moved_init : List Str := [("self" : Str), ("part" : Str), ("by" : Str)]
abbrev s_Moved_init : Stmt := inClass (top 39) 0
theorem sc_Moved_init : FnScope M_Moved_init ["self", "part", "by"] (defScope s_Moved_init) := ⟨rfl, rfl, rfl, by decide +kernel, rfl, by decide +kernel, by decide +kernel⟩
theorem b_Moved_init {P : Program} {w : World} {K : PySem.W.Frag} {mg : Str → Option Value} {base : Heap} (fr : Fr mg) (c_asked : Callee P w K mg base 2 "asked" [] ["thing", "least", "most"] (spD K R_asked)) (cf_Wrap___init__ : ClsFn P w K mg base 4 "Wrap" "__init__" [] ["self", "part", "number"] (spM K (R_Wrap_init K))) (cn_FAR : ∃ t, mg "FAR" = some (.int 100 t)) : Body P w K mg base M_Moved_init "Moved.__init__" (defScope s_Moved_init) (defBody s_Moved_init) (4) (t_Moved_init K) := by
  intro f cdv A outer s H E hr
  exact (pss_cons (ps_expr (pe_cfn cf_Wrap___init__ (hr.mono (by decide)) (pa_cons (pv 0) (pa_cons (pv 1) (pa_cons (pv 2) pa_nil))))) (pss_one (ps_expr (pe_cal c_asked (hr.mono (by decide)) (pa_cons (pv 2) (pa_cons (pe_un un_neg (pe_const cn_FAR)) (pa_cons (pe_const cn_FAR) pa_nil)))))))
def M_Moved_worth_of : List Str := [("self" : Str), ("reads" : Str)]
abbrev s_Moved_worth_of : Stmt := inClass (top 39) 1
theorem sc_Moved_worth_of : FnScope M_Moved_worth_of ["self", "reads"] (defScope s_Moved_worth_of) := ⟨rfl, rfl, rfl, by decide +kernel, rfl, by decide +kernel, by decide +kernel⟩
theorem b_Moved_worth_of {P : Program} {w : World} {K : PySem.W.Frag} {mg : Str → Option Value} {base : Heap} {n : Nat} (fr : Fr mg) (fam_worth_of : MFam P w K mg base CX0 (n + 1) "worth_of" ["self", "reads"] (IsP K) (fun C => spD K (R_worth K n C))) : Body P w K mg base M_Moved_worth_of "Moved.worth_of" (defScope s_Moved_worth_of) (defBody s_Moved_worth_of) (n + 1) (t_Moved_worth_of K n) := by
  intro f cdv A outer s H E hr
  exact (pss_one (ps_ret (pe_methD (pe_fld (pv 0) rfl) fam_worth_of (hr.mono (by omega)) pass0 (pa_cons (pe_op op_sub (pv 1) (pe_fld (pv 0) rfl)) pa_nil))))
def M_Part_reads : List Str := [("self" : Str), ("point" : Str)]
abbrev s_Part_reads : Stmt := inClass (top 15) 6
theorem sc_Part_reads : FnScope M_Part_reads ["self", "point"] (defScope s_Part_reads) := ⟨rfl, rfl, rfl, by decide +kernel, rfl, by decide +kernel, by decide +kernel⟩
theorem b_Part_reads {P : Program} {w : World} {K : PySem.W.Frag} {mg : Str → Option Value} {base : Heap} (fr : Fr mg)  : Body P w K mg base M_Part_reads "Part.reads" (defScope s_Part_reads) (defBody s_Part_reads) (0) (t_Part_reads K) := by
  intro f cdv A outer s H E hr
  exact (pss_cons (ps_if (pt_cmpR (OpR.or (op_eqD hr.units) op_eq) (pe_callB call_len (by rfl) fr.len_ boot_len (pa_cons (pe_fld (pv 0) rfl) pa_nil)) pe_int rfl) (pss_one (ps_ret (pe_ix ix_seq (pv 1) (pe_ix ix_seq (pe_fld (pv 0) rfl) pe_int (fun _ _ => rfl)) (fun _ _ => rfl)))) pss_nil) (pss_one (ps_ret (pe_op op_sub (pe_ix ix_seq (pv 1) (pe_ix ix_seq (pe_fld (pv 0) rfl) pe_int (fun _ _ => rfl)) (fun _ _ => rfl)) (pe_ix ix_seq (pv 1) (pe_ix ix_seq (pe_fld (pv 0) rfl) pe_int (fun _ _ => rfl)) (fun _ _ => rfl))))))
def M_Hall_init : List Str := [("self" : Str), ("many" : Str), ("parts" : Str), ("low" : Str), ("high" : Str), ("part" : Str)]
abbrev s_Hall_init : Stmt := inClass (top 26) 0
theorem sc_Hall_init : FnScope M_Hall_init ["self", "many", "parts", "low", "high"] (defScope s_Hall_init) := ⟨rfl, rfl, rfl, by decide +kernel, rfl, by decide +kernel, by decide +kernel⟩
theorem b_Hall_init {P : Program} {w : World} {K : PySem.W.Frag} {mg : Str → Option Value} {base : Heap} (fr : Fr mg) (c_is_number : Callee P w K mg base 1 "is_number" [] ["thing", "least", "most"] (spD K R_isnum)) (cn_BOUND : ∃ t, mg "BOUND" = some (.int 50 t)) (cn_PARTS : ∃ t, mg "PARTS" = some (.int 24 t)) (cn_PLACES : ∃ t, mg "PLACES" = some (.int 8 t)) (fam_stands : MFam P w K mg base CX0 1 "stands" ["self"] (IsP K) (fun C => spO K (R_stands K C))) (g_Part : mg "Part" = some (.ref (ga K "Part"))) : Body P w K mg base M_Hall_init "Hall.__init__" (defScope s_Hall_init) (defBody s_Hall_init) (1) (t_Hall_init K) := by
  intro f cdv A outer s H E hr
  exact (pss_cons (ps_if (PW.pt (pw_or (pt_not (pt_val (pe_cal c_is_number (hr.mono (by decide)) (pa_cons (pv 1) (pa_cons pe_int (pa_cons (pe_const cn_PLACES) pa_nil)))))) (pw_or (pt_not (pt_val (pe_callB call_isi (by rfl) fr.isinstance_ boot_isinstance (pa_cons (pv 2) (pa_cons (pe_bltn (v := .ty "list") (by rfl) fr.list_ boot_list rfl) pa_nil))))) (pw_or1 (pt_cmpR op_gt (pe_callB call_len (by rfl) fr.len_ boot_len (pa_cons (pv 2) pa_nil)) (pe_const cn_PARTS) rfl))))) (pss_one ps_never) pss_nil) (pss_cons (ps_if (PW.pt (pw_or (pt_not (pt_val (pe_cal c_is_number (hr.mono (by decide)) (pa_cons (pv 3) (pa_cons (pe_un un_neg (pe_const cn_BOUND)) (pa_cons (pe_const cn_BOUND) pa_nil)))))) (pw_or1 (pt_not (pt_val (pe_cal c_is_number (hr.mono (by decide)) (pa_cons (pv 4) (pa_cons (pv 3) (pa_cons (pe_const cn_BOUND) pa_nil))))))))) (pss_one ps_never) pss_nil) (pss_cons (ps_for PassesOwn.never rfl (pi_list (pv 2)) (pg_name (i := 5) sc_Hall_init.nd rfl (Or.inl rfl)) (pss_one (ps_if (PW.pt (pw_or (pt_not (pt_val (pe_callB call_isi (by rfl) fr.isinstance_ boot_isinstance (pa_cons (pv 5) (pa_cons (pe_cls g_Part) pa_nil))))) (pw_or1 (pt_cmpR op_ge (pe_callB (cr_max rfl) (by rfl) fr.max_ boot_max (pa_cons (pe_methD0 (pv 5) fam_stands (hr.mono (by decide)) pass0) pa_nil)) (pv 1) rfl)))) (pss_one ps_never) pss_nil))) (pss_cons (ps_fld (pv 0) (pv 1) rfl) (pss_cons (ps_fld (pv 0) (pv 3) rfl) (pss_cons (ps_fld (pv 0) (pv 4) rfl) (pss_one (ps_fld (pv 0) (pe_callTy call_list_of (by rfl) fr.list_ boot_list (pa_cons (pv 2) pa_nil)) rfl))))))))
def M_Hall_parts : List Str := [("self" : Str)]
abbrev s_Hall_parts : Stmt := inClass (top 26) 1
theorem sc_Hall_parts : FnScope M_Hall_parts ["self"] (defScope s_Hall_parts) := ⟨rfl, rfl, rfl, by decide +kernel, rfl, by decide +kernel, by decide +kernel⟩
theorem b_Hall_parts {P : Program} {w : World} {K : PySem.W.Frag} {mg : Str → Option Value} {base : Heap} (fr : Fr mg)  : Body P w K mg base M_Hall_parts "Hall.parts" (defScope s_Hall_parts) (defBody s_Hall_parts) (0) (t_Hall_parts K) := by
  intro f cdv A outer s H E hr
  exact (pss_one (ps_ret (pe_callTy call_list_of (by rfl) fr.list_ boot_list (pa_cons (pe_fld (pv 0) rfl) pa_nil))))
def M_Hall_worth : List Str := [("self" : Str), ("point" : Str)]
abbrev s_Hall_worth : Stmt := inClass (top 26) 2
theorem sc_Hall_worth : FnScope M_Hall_worth ["self", "point"] (defScope s_Hall_worth) := ⟨rfl, rfl, rfl, by decide +kernel, rfl, by decide +kernel, by decide +kernel⟩
theorem b_Hall_worth {P : Program} {w : World} {K : PySem.W.Frag} {mg : Str → Option Value} {base : Heap} (fr : Fr mg) (c_asked_point : Callee P w K mg base 2 "asked_point" [] ["hall", "point"] (spO K (R_asked_point K))) (c_worth_at : Callee P w K mg base 10 "worth_at" [] ["hall", "point"] (spD K (R_worth_at K))) : Body P w K mg base M_Hall_worth "Hall.worth" (defScope s_Hall_worth) (defBody s_Hall_worth) (10) (t_Hall_worth K) := by
  intro f cdv A outer s H E hr
  exact (pss_one (ps_ret (pe_cal c_worth_at (hr.mono (by decide)) (pa_cons (pv 0) (pa_cons (pe_cal c_asked_point (hr.mono (by decide)) (pa_cons (pv 0) (pa_cons (pv 1) pa_nil))) pa_nil)))))
def M_asked_point : List Str := [("hall" : Str), ("point" : Str), ("number" : Str)]
abbrev s_asked_point : Stmt := top 27
theorem sc_asked_point : FnScope M_asked_point ["hall", "point"] (defScope s_asked_point) := ⟨rfl, rfl, rfl, by decide +kernel, rfl, by decide +kernel, by decide +kernel⟩
theorem b_asked_point {P : Program} {w : World} {K : PySem.W.Frag} {mg : Str → Option Value} {base : Heap} (fr : Fr mg) (c_is_number : Callee P w K mg base 1 "is_number" [] ["thing", "least", "most"] (spD K R_isnum)) (cn_REACH : ∃ t, mg "REACH" = some (.int 1000 t)) : Body P w K mg base M_asked_point "asked_point" (defScope s_asked_point) (defBody s_asked_point) (1) (t_asked_point K) := by
  intro f cdv A outer s H E hr
  exact (pss_cons (ps_if (PW.pt (pw_or (pt_not (pt_val (pe_callB call_isi (by rfl) fr.isinstance_ boot_isinstance (pa_cons (pv 1) (pa_cons (pe_bltn (v := .ty "list") (by rfl) fr.list_ boot_list rfl) pa_nil))))) (pw_or1 (pt_cmpR (OpR.or (op_neD hr.units) op_ne) (pe_callB call_len (by rfl) fr.len_ boot_len (pa_cons (pv 1) pa_nil)) (pe_fld (pv 0) rfl) rfl)))) (pss_one ps_never) pss_nil) (pss_cons (ps_if (pt_not (pt_val (pe_callB (cr_all rfl) (by rfl) fr.all_ boot_all (pa_cons (pe_lc (own := [("number", 2)]) (g := (gName 2)) (tt := tYes) rfl sc_asked_point.nd (pi_list (pv 1)) (blkOk_by (own := [("number", 2)]) (N := M_asked_point) (sc := defScope s_asked_point) (by decide +kernel)) (fun _ _ _ _ _ => (pg_name (i := 2) sc_asked_point.nd rfl (Or.inl rfl))) (fun _ _ _ _ _ => pts_nil) (fun _ _ _ _ _ => (pe_cal c_is_number (hr.mono (by decide)) (pa_cons (pv 2) (pa_cons (pe_un un_neg (pe_const cn_REACH)) (pa_cons (pe_const cn_REACH) pa_nil)))))) pa_nil)))) (pss_one ps_never) pss_nil) (pss_one (ps_ret (pe_callTy call_list_of (by rfl) fr.list_ boot_list (pa_cons (pv 1) pa_nil))))))
def M_worth_at : List Str := [("hall" : Str), ("point" : Str), ("found" : Str), ("part" : Str), ("worth" : Str)]
abbrev s_worth_at : Stmt := top 28
theorem sc_worth_at : FnScope M_worth_at ["hall", "point"] (defScope s_worth_at) := ⟨rfl, rfl, rfl, by decide +kernel, rfl, by decide +kernel, by decide +kernel⟩
theorem b_worth_at {P : Program} {w : World} {K : PySem.W.Frag} {mg : Str → Option Value} {base : Heap} (fr : Fr mg) (fam_reads : MFam P w K mg base CX0 1 "reads" ["self", "point"] (IsP K) (fun C => spD K (R_reads K C))) (fam_worth_of : MFam P w K mg base CX0 9 "worth_of" ["self", "reads"] (IsP K) (fun C => spD K (R_worth K 8 C))) : Body P w K mg base M_worth_at "worth_at" (defScope s_worth_at) (defBody s_worth_at) (9) (t_worth_at K) := by
  intro f cdv A outer s H E hr
  exact (pss_cons (ps_if (PW.pt (pw_or (pt_cmpR op_lt (pe_callB (cr_min rfl) (by rfl) fr.min_ boot_min (pa_cons (pv 1) pa_nil)) (pe_fld (pv 0) rfl) rfl) (pw_or1 (pt_cmpR op_gt (pe_callB (cr_max rfl) (by rfl) fr.max_ boot_max (pa_cons (pv 1) pa_nil)) (pe_fld (pv 0) rfl) rfl)))) (pss_one (ps_ret pe_non)) pss_nil) (pss_cons (ps_set (i := 2) sc_worth_at.nd rfl (Or.inl rfl) pe_int) (pss_cons (ps_for PassesOwn.never rfl (pi_list (pe_fld (pv 0) rfl)) (pg_name (i := 3) sc_worth_at.nd rfl (Or.inl rfl)) (pss_cons (ps_set (i := 4) sc_worth_at.nd rfl (Or.inl rfl) (pe_methD (pv 3) fam_worth_of (hr.mono (by omega)) pass0 (pa_cons (pe_methD (pv 3) fam_reads (hr.mono (by decide)) pass0 (pa_cons (pv 1) pa_nil)) pa_nil))) (pss_cons (ps_if (pt_cmpR op_isN (pv 4) pe_non rfl) (pss_one (ps_ret pe_non)) pss_nil) (pss_one (ps_set (i := 2) sc_worth_at.nd rfl (Or.inl rfl) (pe_op (OpR.or op_add op_cat) (pv 2) (pv 4))))))) (pss_one (ps_ret (pv 2))))))
def M__law_cell_at : List Str := [("_law_script" : Str), ("_law_k" : Str)]
abbrev s__law_cell_at : Stmt := top 41
theorem sc__law_cell_at : FnScope M__law_cell_at ["_law_script", "_law_k"] (defScope s__law_cell_at) := ⟨rfl, rfl, rfl, by decide +kernel, rfl, by decide +kernel, by decide +kernel⟩
theorem b__law_cell_at {P : Program} {w : World} {K : PySem.W.Frag} {mg : Str → Option Value} {base : Heap} (fr : Fr mg)  : Body P w K mg base M__law_cell_at "_law_cell_at" (defScope s__law_cell_at) (defBody s__law_cell_at) (0) (t__law_cell_at K) := by
  intro f cdv A outer s H E hr
  exact (pss_cons (ps_if (pt_cmpR op_lt (pv 1) (pe_callB call_len (by rfl) fr.len_ boot_len (pa_cons (pv 0) pa_nil)) rfl) (pss_one (ps_ret (pe_ix ix_seq (pv 0) (pv 1) (fun _ _ => rfl)))) pss_nil) (pss_cons (ps_if (pt_cmpR (OpR.or (op_eqD hr.units) op_eq) (pv 0) (pe_lst pa_nil) rfl) (pss_one (ps_ret (pe_op (OpR.or op_mul op_rep) (pv 1) pe_int))) pss_nil) (pss_one (ps_ret (pe_op op_mod (pe_op (OpR.or op_mul op_rep) (pe_op (OpR.or op_add op_cat) (pe_ix ix_seq (pv 0) (pe_op op_mod (pv 1) (pe_callB call_len (by rfl) fr.len_ boot_len (pa_cons (pv 0) pa_nil))) (fun _ _ => rfl)) (pv 1)) pe_int) pe_int)))))
def M__law_numbers : List Str := [("_law_cell" : Str), ("_law_bounds" : Str), ("_law_left" : Str), ("_law_found" : Str), ("_law_bound" : Str)]
abbrev s__law_numbers : Stmt := top 42
theorem sc__law_numbers : FnScope M__law_numbers ["_law_cell", "_law_bounds"] (defScope s__law_numbers) := ⟨rfl, rfl, rfl, by decide +kernel, rfl, by decide +kernel, by decide +kernel⟩
theorem b__law_numbers {P : Program} {w : World} {K : PySem.W.Frag} {mg : Str → Option Value} {base : Heap} (fr : Fr mg)  : Body P w K mg base M__law_numbers "_law_numbers" (defScope s__law_numbers) (defBody s__law_numbers) (0) (t__law_numbers K) := by
  intro f cdv A outer s H E hr
  exact (pss_cons (ps_set (i := 2) sc__law_numbers.nd rfl (Or.inl rfl) (pv 0)) (pss_cons (ps_if (pt_cmpR op_lt (pv 0) (pe_op op_pow pe_int pe_int) rfl) (pss_one (ps_set (i := 2) sc__law_numbers.nd rfl (Or.inl rfl) (pe_op op_fdiv (pe_op op_pow (pe_op (OpR.or op_add op_cat) (pe_op (OpR.or op_mul op_rep) (pe_op op_mod (pv 0) pe_int) pe_int) pe_int) pe_int) pe_int))) pss_nil) (pss_cons (ps_set (i := 3) sc__law_numbers.nd rfl (Or.inl rfl) (pe_lst pa_nil)) (pss_cons (ps_for PassesOwn.never rfl (pi_list (pv 1)) (pg_name (i := 4) sc__law_numbers.nd rfl (Or.inl rfl)) (pss_cons (ps_expr (pe_bm PySem.F.plainAttrs_list PySem.F.slot_list_append PySem.F.type_list_append mt_append (pv 3) (pa_cons (pe_op op_mod (pv 2) (pv 4)) pa_nil))) (pss_one (ps_set (i := 2) sc__law_numbers.nd rfl (Or.inl rfl) (pe_op op_fdiv (pv 2) (pv 4)))))) (pss_one (ps_ret (pv 3)))))))
def M__law_worths : List Str := [("_law_digits" : Str), ("_law_scale" : Str), ("_law_worths_here" : Str), ("_law_step" : Str), ("_law_more" : Str)]
abbrev s__law_worths : Stmt := top 43
theorem sc__law_worths : FnScope M__law_worths ["_law_digits", "_law_scale"] (defScope s__law_worths) := ⟨rfl, rfl, rfl, by decide +kernel, rfl, by decide +kernel, by decide +kernel⟩
theorem b__law_worths {P : Program} {w : World} {K : PySem.W.Frag} {mg : Str → Option Value} {base : Heap} (fr : Fr mg)  : Body P w K mg base M__law_worths "_law_worths" (defScope s__law_worths) (defBody s__law_worths) (0) (t__law_worths K) := by
  intro f cdv A outer s H E hr
  exact (pss_cons (ps_set (i := 2) sc__law_worths.nd rfl (Or.inl rfl) (pe_lst (pa_cons (pe_op (OpR.or op_mul op_rep) (pv 1) (pe_op op_sub (pe_ix ix_seq (pv 0) pe_int (fun _ _ => rfl)) pe_int)) pa_nil))) (pss_cons (ps_set (i := 3) sc__law_worths.nd rfl (Or.inl rfl) (pe_op op_sub (pe_ix ix_seq (pv 0) pe_int (fun _ _ => rfl)) pe_int)) (pss_cons (ps_for PassesOwn.never rfl (pi_list (pe_slice sl_list (pv 0) (po_some pe_int) po_none)) (pg_name (i := 4) sc__law_worths.nd rfl (Or.inl rfl)) (pss_cons (ps_expr (pe_bm PySem.F.plainAttrs_list PySem.F.slot_list_append PySem.F.type_list_append mt_append (pv 2) (pa_cons (pe_op (OpR.or op_add op_cat) (pe_ix ix_seq (pv 2) (pe_un un_neg pe_int) (fun _ _ => rfl)) (pe_op (OpR.or op_mul op_rep) (pv 1) (pv 3))) pa_nil))) (pss_one (ps_set (i := 3) sc__law_worths.nd rfl (Or.inl rfl) (pe_op (OpR.or op_add op_cat) (pv 3) (pv 4)))))) (pss_one (ps_ret (pv 2))))))
def M__law_single : List Str := [("_law_digits" : Str), ("_law_bottom" : Str), ("_law_kind" : Str), ("_law_aim" : Str), ("_law_scale" : Str), ("_law_shut" : Str)]
abbrev s__law_single : Stmt := top 44
theorem sc__law_single : FnScope M__law_single ["_law_digits", "_law_bottom"] (defScope s__law_single) := ⟨rfl, rfl, rfl, by decide +kernel, rfl, by decide +kernel, by decide +kernel⟩
theorem b__law_single {P : Program} {w : World} {K : PySem.W.Frag} {mg : Str → Option Value} {base : Heap} (fr : Fr mg) (c__law_worths : Callee P w K mg base 1 "_law_worths" [] ["_law_digits", "_law_scale"] (spO K R_lworths)) : Body P w K mg base M__law_single "_law_single" (defScope s__law_single) (defBody s__law_single) (1) (t__law_single K) := by
  intro f cdv A outer s H E hr
  exact (pss_cons (ps_set (i := 2) sc__law_single.nd rfl (Or.inl rfl) (pe_op op_mod (pe_ix ix_seq (pv 0) pe_int (fun _ _ => rfl)) pe_int)) (pss_cons (ps_set (i := 3) sc__law_single.nd rfl (Or.inl rfl) (pe_op (OpR.or op_add op_cat) (pe_op op_sub (pv 1) pe_int) (pe_ix ix_seq (pv 0) pe_int (fun _ _ => rfl)))) (pss_cons (ps_if (pt_cmpR (OpR.or (op_eqD hr.units) op_eq) (pv 2) pe_int rfl) (pss_one (ps_ret (pe_tup (pa_cons pe_str (pa_cons (pe_lst (pa_cons (pe_op op_sub (pe_op (OpR.or op_mul op_rep) pe_int (pe_ix ix_seq (pv 0) pe_int (fun _ _ => rfl))) pe_int) pa_nil)) pa_nil))))) pss_nil) (pss_cons (ps_if (pt_cmpR (OpR.or (op_eqD hr.units) op_eq) (pv 2) pe_int rfl) (pss_one (ps_ret (pe_tup (pa_cons pe_str (pa_cons (pe_lst (pa_cons (pv 3) (pa_cons (pe_ix ix_seq (pv 0) pe_int (fun _ _ => rfl)) pa_nil))) pa_nil))))) pss_nil) (pss_cons (ps_if (pt_cmpR (OpR.or (op_eqD hr.units) op_eq) (pv 2) pe_int rfl) (pss_one (ps_ret (pe_tup (pa_cons pe_str (pa_cons (pe_lst (pa_cons (pv 3) (pa_cons (pe_op op_mod (pe_ix ix_seq (pv 0) pe_int (fun _ _ => rfl)) pe_int) pa_nil))) pa_nil))))) pss_nil) (pss_cons (ps_if (pt_cmpR (OpR.or (op_eqD hr.units) op_eq) (pv 2) pe_int rfl) (pss_cons (ps_set (i := 4) sc__law_single.nd rfl (Or.inl rfl) (pe_ix ix_seq (pe_lst (pa_cons pe_int (pa_cons pe_int (pa_cons pe_int (pa_cons pe_int pa_nil))))) (pe_op op_mod (pe_ix ix_seq (pv 0) pe_int (fun _ _ => rfl)) pe_int) (fun _ _ => rfl))) (pss_one (ps_ret (pe_tup (pa_cons pe_str (pa_cons (pe_lst (pa_cons (pe_op (OpR.or op_add op_cat) (pe_op op_sub (pv 1) pe_int) (pe_op op_mod (pe_ix ix_seq (pv 0) pe_int (fun _ _ => rfl)) pe_int)) (pa_cons (pe_cal c__law_worths (hr.mono (by decide)) (pa_cons (pe_slice sl_list (pv 0) (po_some pe_int) (po_some (pe_op (OpR.or op_add op_cat) pe_int (pe_ix ix_seq (pv 0) pe_int (fun _ _ => rfl))))) (pa_cons (pv 4) pa_nil))) pa_nil))) pa_nil)))))) pss_nil) (pss_cons (ps_set (i := 5) sc__law_single.nd rfl (Or.inl rfl) (pe_op (OpR.or op_add op_cat) (pe_op op_sub (pv 1) pe_int) (pe_op op_mod (pe_ix ix_seq (pv 0) pe_int (fun _ _ => rfl)) pe_int))) (pss_one (ps_ret (pe_tup (pa_cons pe_str (pa_cons (pe_lst (pa_cons (pv 5) (pa_cons (pe_op (OpR.or op_add op_cat) (pv 5) (pe_ix ix_seq (pv 0) pe_int (fun _ _ => rfl))) pa_nil))) pa_nil))))))))))))
def M__law_double : List Str := [("_law_digits" : Str), ("_law_kind" : Str), ("_law_scale" : Str)]
abbrev s__law_double : Stmt := top 45
theorem sc__law_double : FnScope M__law_double ["_law_digits"] (defScope s__law_double) := ⟨rfl, rfl, rfl, by decide +kernel, rfl, by decide +kernel, by decide +kernel⟩
theorem b__law_double {P : Program} {w : World} {K : PySem.W.Frag} {mg : Str → Option Value} {base : Heap} (fr : Fr mg) (c__law_worths : Callee P w K mg base 1 "_law_worths" [] ["_law_digits", "_law_scale"] (spO K R_lworths)) : Body P w K mg base M__law_double "_law_double" (defScope s__law_double) (defBody s__law_double) (1) (t__law_double K) := by
  intro f cdv A outer s H E hr
  exact (pss_cons (ps_set (i := 1) sc__law_double.nd rfl (Or.inl rfl) (pe_op op_mod (pe_ix ix_seq (pv 0) pe_int (fun _ _ => rfl)) pe_int)) (pss_cons (ps_if (pt_cmpR op_lt (pv 1) pe_int rfl) (pss_one (ps_ret (pe_tup (pa_cons pe_str (pa_cons (pe_lst (pa_cons (pe_op op_sub (pe_op op_mod (pe_ix ix_seq (pv 0) pe_int (fun _ _ => rfl)) pe_int) pe_int) (pa_cons (pe_ix ix_seq (pv 0) pe_int (fun _ _ => rfl)) pa_nil))) pa_nil))))) pss_nil) (pss_cons (ps_if (pt_cmpR op_lt (pv 1) pe_int rfl) (pss_cons (ps_set (i := 2) sc__law_double.nd rfl (Or.inl rfl) (pe_ix ix_seq (pe_lst (pa_cons pe_int (pa_cons pe_int (pa_cons pe_int (pa_cons pe_int pa_nil))))) (pe_op op_mod (pe_ix ix_seq (pv 0) pe_int (fun _ _ => rfl)) pe_int) (fun _ _ => rfl))) (pss_one (ps_ret (pe_tup (pa_cons pe_str (pa_cons (pe_lst (pa_cons (pe_op op_sub (pe_op op_mod (pe_ix ix_seq (pv 0) pe_int (fun _ _ => rfl)) pe_int) pe_int) (pa_cons (pe_cal c__law_worths (hr.mono (by decide)) (pa_cons (pe_slice sl_list (pv 0) (po_some pe_int) (po_some (pe_op (OpR.or op_add op_cat) pe_int (pe_ix ix_seq (pv 0) pe_int (fun _ _ => rfl))))) (pa_cons (pv 2) pa_nil))) pa_nil))) pa_nil)))))) pss_nil) (pss_one (ps_ret (pe_tup (pa_cons pe_str (pa_cons (pe_lst (pa_cons (pe_op op_sub (pe_op op_mod (pe_ix ix_seq (pv 0) pe_int (fun _ _ => rfl)) pe_int) pe_int) pa_nil)) pa_nil))))))))
def M__law_part : List Str := [("_law_cell" : Str), ("_law_many" : Str), ("_law_bottom" : Str), ("_law_top" : Str), ("_law_bounds" : Str), ("_law_digits" : Str), ("_law_where" : Str), ("_law_word" : Str), ("_law_numbers_here" : Str), ("_law_by" : Str), ("_law_some" : Str)]
abbrev s__law_part : Stmt := top 46
theorem sc__law_part : FnScope M__law_part ["_law_cell", "_law_many", "_law_bottom", "_law_top"] (defScope s__law_part) := ⟨rfl, rfl, rfl, by decide +kernel, rfl, by decide +kernel, by decide +kernel⟩
theorem b__law_part {P : Program} {w : World} {K : PySem.W.Frag} {mg : Str → Option Value} {base : Heap} (fr : Fr mg) (c__law_double : Callee P w K mg base 2 "_law_double" [] ["_law_digits"] (spD K R_double)) (c__law_numbers : Callee P w K mg base 1 "_law_numbers" [] ["_law_cell", "_law_bounds"] (spO K R_numbers)) (c__law_single : Callee P w K mg base 2 "_law_single" [] ["_law_digits", "_law_bottom"] (spD K R_single)) : Body P w K mg base M__law_part "_law_part" (defScope s__law_part) (defBody s__law_part) (2) (t__law_part K) := by
  intro f cdv A outer s H E hr
  exact (pss_cons (ps_set (i := 4) sc__law_part.nd rfl (Or.inl rfl) (pe_op (OpR.or op_add op_cat) (pe_op (OpR.or op_add op_cat) (pe_lst (pa_cons pe_int (pa_cons (pv 1) (pa_cons (pe_callB (call_max2 rfl) (by rfl) fr.max_ boot_max (pa_cons pe_int (pa_cons (pe_op op_sub (pv 1) pe_int) pa_nil))) (pa_cons (pe_op (OpR.or op_add op_cat) (pe_op op_sub (pv 3) (pv 2)) pe_int) (pa_cons pe_int (pa_cons pe_int (pa_cons pe_int (pa_cons pe_int pa_nil))))))))) (pe_lst (pa_cons pe_int (pa_cons pe_int pa_nil)))) (pe_op (OpR.or op_mul op_rep) (pe_lst (pa_cons pe_int pa_nil)) pe_int))) (pss_cons (ps_set (i := 5) sc__law_part.nd rfl (Or.inl rfl) (pe_cal c__law_numbers (hr.mono (by decide)) (pa_cons (pv 0) (pa_cons (pv 4) pa_nil)))) (pss_cons (ps_set (i := 6) sc__law_part.nd rfl (Or.inl rfl) (pe_lst (pa_cons (pe_ix ix_seq (pv 5) pe_int (fun _ _ => rfl)) pa_nil))) (pss_cons (ps_if (PW.pt (pw_and (pt_cmpR op_gt (pv 1) pe_int rfl) (pw_and1 (pt_cmpR (OpR.or (op_eqD hr.units) op_eq) (pe_op op_mod (pe_ix ix_seq (pv 5) pe_int (fun _ _ => rfl)) pe_int) pe_int rfl)))) (pss_cons (ps_expr (pe_bm PySem.F.plainAttrs_list PySem.F.slot_list_append PySem.F.type_list_append mt_append (pv 6) (pa_cons (pe_op op_mod (pe_op (OpR.or op_add op_cat) (pe_op (OpR.or op_add op_cat) (pe_ix ix_seq (pv 5) pe_int (fun _ _ => rfl)) pe_int) (pe_ix ix_seq (pv 5) pe_int (fun _ _ => rfl))) (pv 1)) pa_nil))) (pss_cons (ps_asg (pe_op op_fdiv (pe_ix ix_seq (pv 5) pe_int (fun _ _ => rfl)) pe_int) (pg_sub (pv 5) pe_int set_list)) (pss_one (ps_asg (pe_cal c__law_double (hr.mono (by decide)) (pa_cons (pv 5) pa_nil)) (pg_tup rfl (pgs_cons (pg_name (i := 7) sc__law_part.nd rfl (Or.inl rfl)) (pgs_cons (pg_name (i := 8) sc__law_part.nd rfl (Or.inl rfl)) pgs_nil))))))) (pss_cons (ps_asg (pe_op op_fdiv (pe_ix ix_seq (pv 5) pe_int (fun _ _ => rfl)) pe_int) (pg_sub (pv 5) pe_int set_list)) (pss_one (ps_asg (pe_cal c__law_single (hr.mono (by decide)) (pa_cons (pv 5) (pa_cons (pv 2) pa_nil))) (pg_tup rfl (pgs_cons (pg_name (i := 7) sc__law_part.nd rfl (Or.inl rfl)) (pgs_cons (pg_name (i := 8) sc__law_part.nd rfl (Or.inl rfl)) pgs_nil))))))) (pss_cons (ps_set (i := 9) sc__law_part.nd rfl (Or.inl rfl) (pe_op op_sub (pe_ix ix_seq (pv 5) pe_int (fun _ _ => rfl)) pe_int)) (pss_cons (ps_set (i := 10) sc__law_part.nd rfl (Or.inl rfl) (pe_lst (pa_cons (pe_lst pa_nil) (pa_cons (pe_lst pa_nil) (pa_cons (pe_lst pa_nil) (pa_cons (pe_lst (pa_cons (pe_tup (pa_cons pe_str (pa_cons (pe_op (OpR.or op_add op_cat) pe_int (pe_op (OpR.or op_mul op_rep) (pe_ix ix_seq (pv 5) pe_int (fun _ _ => rfl)) (pe_ix ix_seq (pv 5) pe_int (fun _ _ => rfl)))) pa_nil))) pa_nil)) (pa_cons (pe_lst (pa_cons (pe_tup (pa_cons pe_str (pa_cons (pv 9) pa_nil))) pa_nil)) (pa_cons (pe_lst (pa_cons (pe_tup (pa_cons pe_str (pa_cons pe_int pa_nil))) (pa_cons (pe_tup (pa_cons pe_str (pa_cons (pv 9) pa_nil))) pa_nil))) pa_nil)))))))) (pss_cons (ps_set (i := 10) sc__law_part.nd rfl (Or.inl rfl) (pe_op (OpR.or op_add op_cat) (pv 10) (pe_lst (pa_cons (pe_lst (pa_cons (pe_tup (pa_cons pe_str (pa_cons (pv 9) pa_nil))) (pa_cons (pe_tup (pa_cons pe_str (pa_cons pe_int pa_nil))) pa_nil))) (pa_cons (pe_lst (pa_cons (pe_tup (pa_cons pe_str (pa_cons (pe_un un_neg pe_int) pa_nil))) (pa_cons (pe_tup (pa_cons pe_str (pa_cons pe_int pa_nil))) (pa_cons (pe_tup (pa_cons pe_str (pa_cons pe_int pa_nil))) pa_nil)))) pa_nil))))) (pss_one (ps_ret (pe_tup (pa_cons (pv 7) (pa_cons (pv 6) (pa_cons (pv 8) (pa_cons (pe_ix ix_seq (pv 10) (pe_ix ix_seq (pv 5) pe_int (fun _ _ => rfl)) (fun _ _ => rfl)) pa_nil))))))))))))))
def M__law_at : List Str := [("_law_part_here" : Str), ("_law_reads_here" : Str), ("_law_word" : Str), ("_law_where" : Str), ("_law_numbers_here" : Str), ("_law_wraps" : Str), ("_law_many" : Str), ("_law_wrap" : Str), ("_law_number" : Str), ("_law_far" : Str), ("_law_at_here" : Str)]
abbrev s__law_at : Stmt := top 47
theorem sc__law_at : FnScope M__law_at ["_law_part_here", "_law_reads_here"] (defScope s__law_at) := ⟨rfl, rfl, rfl, by decide +kernel, rfl, by decide +kernel, by decide +kernel⟩
theorem b__law_at {P : Program} {w : World} {K : PySem.W.Frag} {mg : Str → Option Value} {base : Heap} (fr : Fr mg)  : Body P w K mg base M__law_at "_law_at" (defScope s__law_at) (defBody s__law_at) (0) (t__law_at K) := by
  intro f cdv A outer s H E hr
  exact (pss_cons (ps_asg (pv 0) (pg_tup rfl (pgs_cons (pg_name (i := 2) sc__law_at.nd rfl (Or.inl rfl)) (pgs_cons (pg_name (i := 3) sc__law_at.nd rfl (Or.inl rfl)) (pgs_cons (pg_name (i := 4) sc__law_at.nd rfl (Or.inl rfl)) (pgs_cons (pg_name (i := 5) sc__law_at.nd rfl (Or.inl rfl)) pgs_nil)))))) (pss_cons (ps_set (i := 6) sc__law_at.nd rfl (Or.inl rfl) pe_int) (pss_cons (ps_for PassesOwn.never rfl (pi_list (pv 5)) (pg_tup rfl (pgs_cons (pg_name (i := 7) sc__law_at.nd rfl (Or.inl rfl)) (pgs_cons (pg_name (i := 8) sc__law_at.nd rfl (Or.inl rfl)) pgs_nil))) (pss_one (ps_if (pt_cmpR (OpR.or (op_eqD hr.units) op_eq) (pv 7) pe_str rfl) (pss_one (ps_set (i := 6) sc__law_at.nd rfl (Or.inl rfl) (pe_op (OpR.or op_mul op_rep) (pv 6) (pv 8)))) (pss_one (ps_set (i := 1) sc__law_at.nd rfl (Or.inl rfl) (pe_op op_sub (pv 1) (pv 8))))))) (pss_cons (ps_if (pt_cmpR (OpR.or (op_eqD hr.units) op_eq) (pv 2) pe_str rfl) (pss_one (ps_ret (pe_op (OpR.or op_mul op_rep) (pe_op (OpR.or op_mul op_rep) (pv 6) (pe_ix ix_seq (pv 4) pe_int (fun _ _ => rfl))) (pv 1)))) pss_nil) (pss_cons (ps_if (pt_cmpR op_in_seq (pv 2) (pe_tup (pa_cons pe_str (pa_cons pe_str pa_nil))) rfl) (pss_one (ps_ret (pe_op (OpR.or op_mul op_rep) (pe_op (OpR.or op_mul op_rep) (pv 6) (pe_ix ix_seq (pv 4) pe_int (fun _ _ => rfl))) (pe_callB call_abs (by rfl) fr.abs_ boot_abs (pa_cons (pe_op op_sub (pv 1) (pe_ix ix_seq (pv 4) pe_int (fun _ _ => rfl))) pa_nil))))) pss_nil) (pss_cons (ps_if (pt_cmpR (OpR.or (op_eqD hr.units) op_eq) (pv 2) pe_str rfl) (pss_cons (ps_set (i := 9) sc__law_at.nd rfl (Or.inl rfl) (pe_op op_sub (pv 1) (pe_ix ix_seq (pv 4) pe_int (fun _ _ => rfl)))) (pss_one (ps_ret (pe_op (OpR.or op_mul op_rep) (pe_op (OpR.or op_mul op_rep) (pe_op (OpR.or op_mul op_rep) (pv 6) (pe_ix ix_seq (pv 4) pe_int (fun _ _ => rfl))) (pv 9)) (pv 9))))) pss_nil) (pss_cons (ps_if (pt_cmpR op_in_seq (pv 2) (pe_tup (pa_cons pe_str (pa_cons pe_str pa_nil))) rfl) (pss_cons (ps_set (i := 10) sc__law_at.nd rfl (Or.inl rfl) (pe_op op_sub (pv 1) (pe_ix ix_seq (pv 4) pe_int (fun _ _ => rfl)))) (pss_one (ps_ret (pe_ifExp (pt_chain op_le op_lt pe_int (pv 10) (pe_callB call_len (by rfl) fr.len_ boot_len (pa_cons (pe_ix ix_seq (pv 4) pe_int (fun _ _ => rfl)) pa_nil))) (pe_op (OpR.or op_mul op_rep) (pv 6) (pe_ix ix_seq (pe_ix ix_seq (pv 4) pe_int (fun _ _ => rfl)) (pv 10) (fun _ _ => rfl))) pe_non)))) pss_nil) (pss_cons (ps_if (pt_cmpR (OpR.or (op_eqD hr.units) op_eq) (pv 2) pe_str rfl) (pss_one (ps_ret (pe_ifExp (pt_chain op_le op_le (pe_ix ix_seq (pv 4) pe_int (fun _ _ => rfl)) (pv 1) (pe_ix ix_seq (pv 4) pe_int (fun _ _ => rfl))) pe_int pe_non))) pss_nil) (pss_one (ps_ret (pe_ifExp (pt_cmpR op_le (pv 1) (pe_ix ix_seq (pv 4) pe_int (fun _ _ => rfl)) rfl) pe_int pe_non)))))))))))
def M__law_base : List Str := [("_law_part_here" : Str), ("_law_word" : Str), ("_law_where" : Str), ("_law_numbers_here" : Str), ("_law_wraps" : Str)]
abbrev s__law_base : Stmt := top 50
theorem sc__law_base : FnScope M__law_base ["_law_part_here"] (defScope s__law_base) := ⟨rfl, rfl, rfl, by decide +kernel, rfl, by decide +kernel, by decide +kernel⟩
theorem b__law_base {P : Program} {w : World} {K : PySem.W.Frag} {mg : Str → Option Value} {base : Heap} (fr : Fr mg) (m_Ahead_3 : Maker P w K mg base 4 "Ahead" [] ["self", "one", "other", "gap"] (spM K (R_Ahead_init K))) (m_Aim_3 : Maker P w K mg base 4 "Aim" [] ["self", "place", "aim", "weight"] (spM K (R_Aim_init K))) (m_Gaps_4 : Maker P w K mg base 5 "Gaps" [] ["self", "one", "other", "first", "worths"] (spMb K (R_Gaps_init K))) (m_Near_4 : Maker P w K mg base 5 "Near" [] ["self", "one", "other", "aim", "weight"] (spM K (R_Near_init K))) (m_Row_3 : Maker P w K mg base 4 "Row" [] ["self", "place", "first", "worths"] (spMb K (R_Row_init K))) (m_Slope_2 : Maker P w K mg base 4 "Slope" [] ["self", "place", "weight"] (spM K (R_Slope_init K))) (m_Wall_3 : Maker P w K mg base 4 "Wall" [] ["self", "place", "low", "high"] (spM K (R_Wall_init K))) (mn_Square_2_weight : MakerN P w K mg base 4 "Square" 2 ["weight"] ["self", "place", "aim", "weight"] (gv_Square_2_weight) (spM K (R_Aim_init K))) : Body P w K mg base M__law_base "_law_base" (defScope s__law_base) (defBody s__law_base) (6) (t__law_base K) := by
  intro f cdv A outer s H E hr
  exact (pss_cons (ps_asg (pv 0) (pg_tup rfl (pgs_cons (pg_name (i := 1) sc__law_base.nd rfl (Or.inl rfl)) (pgs_cons (pg_name (i := 2) sc__law_base.nd rfl (Or.inl rfl)) (pgs_cons (pg_name (i := 3) sc__law_base.nd rfl (Or.inl rfl)) (pgs_cons (pg_name (i := 4) sc__law_base.nd rfl (Or.inl rfl)) pgs_nil)))))) (pss_cons (ps_if (pt_cmpR (OpR.or (op_eqD hr.units) op_eq) (pv 1) pe_str rfl) (pss_one (ps_ret (pe_mk' m_Slope_2 (hr.mono (by decide)) (pa_cons (pe_ix ix_seq (pv 2) pe_int (fun _ _ => rfl)) (pa_cons (pe_ix ix_seq (pv 3) pe_int (fun _ _ => rfl)) pa_nil))))) pss_nil) (pss_cons (ps_if (pt_cmpR (OpR.or (op_eqD hr.units) op_eq) (pv 1) pe_str rfl) (pss_one (ps_ret (pe_mk' m_Aim_3 (hr.mono (by decide)) (pa_cons (pe_ix ix_seq (pv 2) pe_int (fun _ _ => rfl)) (pa_cons (pe_ix ix_seq (pv 3) pe_int (fun _ _ => rfl)) (pa_cons (pe_ix ix_seq (pv 3) pe_int (fun _ _ => rfl)) pa_nil)))))) pss_nil) (pss_cons (ps_if (pt_cmpR (OpR.or (op_eqD hr.units) op_eq) (pv 1) pe_str rfl) (pss_one (ps_ret (pe_mkN mn_Square_2_weight (hr.mono (by decide)) (pa_cons (pe_ix ix_seq (pv 2) pe_int (fun _ _ => rfl)) (pa_cons (pe_ix ix_seq (pv 3) pe_int (fun _ _ => rfl)) pa_nil)) (pk_cons (pe_ix ix_seq (pv 3) pe_int (fun _ _ => rfl)) pk_nil)))) pss_nil) (pss_cons (ps_if (pt_cmpR (OpR.or (op_eqD hr.units) op_eq) (pv 1) pe_str rfl) (pss_one (ps_ret (pe_mk' m_Row_3 (hr.mono (by decide)) (pa_cons (pe_ix ix_seq (pv 2) pe_int (fun _ _ => rfl)) (pa_cons (pe_ix ix_seq (pv 3) pe_int (fun _ _ => rfl)) (pa_cons (pe_callTy call_list_of (by rfl) fr.list_ boot_list (pa_cons (pe_ix ix_seq (pv 3) pe_int (fun _ _ => rfl)) pa_nil)) pa_nil)))))) pss_nil) (pss_cons (ps_if (pt_cmpR (OpR.or (op_eqD hr.units) op_eq) (pv 1) pe_str rfl) (pss_one (ps_ret (pe_mk' m_Wall_3 (hr.mono (by decide)) (pa_cons (pe_ix ix_seq (pv 2) pe_int (fun _ _ => rfl)) (pa_cons (pe_ix ix_seq (pv 3) pe_int (fun _ _ => rfl)) (pa_cons (pe_ix ix_seq (pv 3) pe_int (fun _ _ => rfl)) pa_nil)))))) pss_nil) (pss_cons (ps_if (pt_cmpR (OpR.or (op_eqD hr.units) op_eq) (pv 1) pe_str rfl) (pss_one (ps_ret (pe_mk' m_Near_4 (hr.mono (by decide)) (pa_cons (pe_ix ix_seq (pv 2) pe_int (fun _ _ => rfl)) (pa_cons (pe_ix ix_seq (pv 2) pe_int (fun _ _ => rfl)) (pa_cons (pe_ix ix_seq (pv 3) pe_int (fun _ _ => rfl)) (pa_cons (pe_ix ix_seq (pv 3) pe_int (fun _ _ => rfl)) pa_nil))))))) pss_nil) (pss_cons (ps_if (pt_cmpR (OpR.or (op_eqD hr.units) op_eq) (pv 1) pe_str rfl) (pss_one (ps_ret (pe_mk' m_Gaps_4 (hr.mono (by decide)) (pa_cons (pe_ix ix_seq (pv 2) pe_int (fun _ _ => rfl)) (pa_cons (pe_ix ix_seq (pv 2) pe_int (fun _ _ => rfl)) (pa_cons (pe_ix ix_seq (pv 3) pe_int (fun _ _ => rfl)) (pa_cons (pe_callTy call_list_of (by rfl) fr.list_ boot_list (pa_cons (pe_ix ix_seq (pv 3) pe_int (fun _ _ => rfl)) pa_nil)) pa_nil))))))) pss_nil) (pss_one (ps_ret (pe_mk' m_Ahead_3 (hr.mono (by decide)) (pa_cons (pe_ix ix_seq (pv 2) pe_int (fun _ _ => rfl)) (pa_cons (pe_ix ix_seq (pv 2) pe_int (fun _ _ => rfl)) (pa_cons (pe_ix ix_seq (pv 3) pe_int (fun _ _ => rfl)) pa_nil))))))))))))))
def M__law_made : List Str := [("_law_part_here" : Str), ("_law_found" : Str), ("_law_wrap" : Str), ("_law_number" : Str)]
abbrev s__law_made : Stmt := top 51
theorem sc__law_made : FnScope M__law_made ["_law_part_here"] (defScope s__law_made) := ⟨rfl, rfl, rfl, by decide +kernel, rfl, by decide +kernel, by decide +kernel⟩
theorem b__law_made {P : Program} {w : World} {K : PySem.W.Frag} {mg : Str → Option Value} {base : Heap} (fr : Fr mg) (c__law_base : Callee P w K mg base 7 "_law_base" [] ["_law_part_here"] (spD K (R_base K))) (m_Moved_2 : Maker P w K mg base 5 "Moved" [] ["self", "part", "by"] (spM K (R_Moved_init K))) (m_Times_2 : Maker P w K mg base 5 "Times" [] ["self", "part", "many"] (spM K (R_Times_init K))) : Body P w K mg base M__law_made "_law_made" (defScope s__law_made) (defBody s__law_made) (7) (t__law_made K) := by
  intro f cdv A outer s H E hr
  exact (pss_cons (ps_set (i := 1) sc__law_made.nd rfl (Or.inl rfl) (pe_cal c__law_base (hr.mono (by decide)) (pa_cons (pv 0) pa_nil))) (pss_cons (ps_for PassesOwn.never rfl (pi_list (pe_revL (pe_ix ix_seq (pv 0) pe_int (fun _ _ => rfl)))) (pg_tup rfl (pgs_cons (pg_name (i := 2) sc__law_made.nd rfl (Or.inl rfl)) (pgs_cons (pg_name (i := 3) sc__law_made.nd rfl (Or.inl rfl)) pgs_nil))) (pss_one (ps_set (i := 1) sc__law_made.nd rfl (Or.inl rfl) (pe_ifExp (pt_cmpR (OpR.or (op_eqD hr.units) op_eq) (pv 2) pe_str rfl) (pe_mk' m_Times_2 (hr.mono (by decide)) (pa_cons (pv 1) (pa_cons (pv 3) pa_nil))) (pe_mk' m_Moved_2 (hr.mono (by decide)) (pa_cons (pv 1) (pa_cons (pv 3) pa_nil))))))) (pss_one (ps_ret (pv 1)))))
def M__law_plain : List Str := [("_law_script" : Str), ("_law_most" : Str), ("_law_span" : Str), ("_law_one" : Str), ("_law_many" : Str), ("_law_bottom" : Str), ("_law_top" : Str), ("_law_parts" : Str), ("_law_k" : Str)]
abbrev s__law_plain : Stmt := top 52
theorem sc__law_plain : FnScope M__law_plain ["_law_script", "_law_most", "_law_span"] (defScope s__law_plain) := ⟨rfl, rfl, rfl, by decide +kernel, rfl, by decide +kernel, by decide +kernel⟩
theorem b__law_plain {P : Program} {w : World} {K : PySem.W.Frag} {mg : Str → Option Value} {base : Heap} (fr : Fr mg) (c__law_cell_at : Callee P w K mg base 1 "_law_cell_at" [] ["_law_script", "_law_k"] (spD K R_cell)) (c__law_part : Callee P w K mg base 3 "_law_part" [] ["_law_cell", "_law_many", "_law_bottom", "_law_top"] (spD K R_part)) : Body P w K mg base M__law_plain "_law_plain" (defScope s__law_plain) (defBody s__law_plain) (3) (t__law_plain K) := by
  intro f cdv A outer s H E hr
  exact (pss_cons (ps_set (i := 3) sc__law_plain.nd rfl (Or.inl rfl) (pe_cal c__law_cell_at (hr.mono (by decide)) (pa_cons (pv 0) (pa_cons pe_int pa_nil)))) (pss_cons (ps_set (i := 4) sc__law_plain.nd rfl (Or.inl rfl) (pe_op (OpR.or op_add op_cat) pe_int (pe_op op_mod (pv 3) (pv 1)))) (pss_cons (ps_set (i := 5) sc__law_plain.nd rfl (Or.inl rfl) (pe_un un_neg (pe_op op_mod (pe_op op_fdiv (pv 3) (pv 1)) pe_int))) (pss_cons (ps_set (i := 6) sc__law_plain.nd rfl (Or.inl rfl) (pe_op (OpR.or op_add op_cat) (pv 5) (pe_op op_mod (pe_op op_fdiv (pv 3) (pe_op (OpR.or op_mul op_rep) pe_int (pv 1))) (pv 2)))) (pss_cons (ps_set (i := 7) sc__law_plain.nd rfl (Or.inl rfl) (pe_lst pa_nil)) (pss_cons (ps_for PassesOwn.never rfl (pi_range1 rfl fr.range_ (pa_cons (pe_op op_mod (pe_cal c__law_cell_at (hr.mono (by decide)) (pa_cons (pv 0) (pa_cons pe_int pa_nil))) pe_int) pa_nil)) (pg_name (i := 8) sc__law_plain.nd rfl (Or.inl rfl)) (pss_one (ps_expr (pe_bm PySem.F.plainAttrs_list PySem.F.slot_list_append PySem.F.type_list_append mt_append (pv 7) (pa_cons (pe_cal c__law_part (hr.mono (by decide)) (pa_cons (pe_cal c__law_cell_at (hr.mono (by decide)) (pa_cons (pv 0) (pa_cons (pe_op (OpR.or op_add op_cat) pe_int (pv 8)) pa_nil))) (pa_cons (pv 4) (pa_cons (pv 5) (pa_cons (pv 6) pa_nil))))) pa_nil))))) (pss_one (ps_ret (pe_tup (pa_cons (pv 4) (pa_cons (pe_lst (pa_cons (pv 5) (pa_cons (pv 6) (pa_cons (pv 7) pa_nil)))) pa_nil)))))))))))
def M__law_hall : List Str := [("_law_many" : Str), ("_law_plain_here" : Str), ("_law_part_here" : Str)]
abbrev s__law_hall : Stmt := top 53
theorem sc__law_hall : FnScope M__law_hall ["_law_many", "_law_plain_here"] (defScope s__law_hall) := ⟨rfl, rfl, rfl, by decide +kernel, rfl, by decide +kernel, by decide +kernel⟩
theorem b__law_hall {P : Program} {w : World} {K : PySem.W.Frag} {mg : Str → Option Value} {base : Heap} (fr : Fr mg) (c__law_made : Callee P w K mg base 8 "_law_made" [] ["_law_part_here"] (spD K (R_made K))) (m_Hall_4 : Maker P w K mg base 2 "Hall" [] ["self", "many", "parts", "low", "high"] (spMb K (R_Hall_init K))) : Body P w K mg base M__law_hall "_law_hall" (defScope s__law_hall) (defBody s__law_hall) (8) (t__law_hall K) := by
  intro f cdv A outer s H E hr
  exact (pss_one (ps_ret (pe_mk' m_Hall_4 (hr.mono (by decide)) (pa_cons (pv 0) (pa_cons (pe_lc (own := [("_law_part_here", 2)]) (g := (gName 2)) (tt := tYes) rfl sc__law_hall.nd (pi_list (pe_ix ix_seq (pv 1) pe_int (fun _ _ => rfl))) (blkOk_by (own := [("_law_part_here", 2)]) (N := M__law_hall) (sc := defScope s__law_hall) (by decide +kernel)) (fun _ _ _ _ _ => (pg_name (i := 2) sc__law_hall.nd rfl (Or.inl rfl))) (fun _ _ _ _ _ => pts_nil) (fun _ _ _ _ _ => (pe_cal c__law_made (hr.mono (by decide)) (pa_cons (pv 2) pa_nil)))) (pa_cons (pe_ix ix_seq (pv 1) pe_int (fun _ _ => rfl)) (pa_cons (pe_ix ix_seq (pv 1) pe_int (fun _ _ => rfl)) pa_nil)))))))
def M__law_point : List Str := [("_law_cell" : Str), ("_law_many" : Str), ("_law_plain_here" : Str), ("_law_number" : Str)]
abbrev s__law_point : Stmt := top 54
theorem sc__law_point : FnScope M__law_point ["_law_cell", "_law_many", "_law_plain_here"] (defScope s__law_point) := ⟨rfl, rfl, rfl, by decide +kernel, rfl, by decide +kernel, by decide +kernel⟩
theorem b__law_point {P : Program} {w : World} {K : PySem.W.Frag} {mg : Str → Option Value} {base : Heap} (fr : Fr mg) (c__law_numbers : Callee P w K mg base 1 "_law_numbers" [] ["_law_cell", "_law_bounds"] (spO K R_numbers)) : Body P w K mg base M__law_point "_law_point" (defScope s__law_point) (defBody s__law_point) (1) (t__law_point K) := by
  intro f cdv A outer s H E hr
  exact (pss_one (ps_ret (pe_lc (own := [("_law_number", 3)]) (g := (gName 3)) (tt := tYes) rfl sc__law_point.nd (pi_list (pe_cal c__law_numbers (hr.mono (by decide)) (pa_cons (pv 0) (pa_cons (pe_op (OpR.or op_mul op_rep) (pe_lst (pa_cons (pe_op (OpR.or op_add op_cat) (pe_op op_sub (pe_ix ix_seq (pv 2) pe_int (fun _ _ => rfl)) (pe_ix ix_seq (pv 2) pe_int (fun _ _ => rfl))) pe_int) pa_nil)) (pv 1)) pa_nil)))) (blkOk_by (own := [("_law_number", 3)]) (N := M__law_point) (sc := defScope s__law_point) (by decide +kernel)) (fun _ _ _ _ _ => (pg_name (i := 3) sc__law_point.nd rfl (Or.inl rfl))) (fun _ _ _ _ _ => pts_nil) (fun _ _ _ _ _ => (pe_op (OpR.or op_add op_cat) (pe_ix ix_seq (pv 2) pe_int (fun _ _ => rfl)) (pv 3))))))
def M__law_two : List Str := [("_law_hall_here" : Str), ("_law_one" : Str), ("_law_other" : Str), ("_law_first" : Str), ("_law_second" : Str), ("_law_both" : Str), ("_law_pairs" : Str), ("_law_lower" : Str), ("_law_upper" : Str), ("_law_low" : Str), ("_law_high" : Str), ("_law_k" : Str), ("_law_pair" : Str)]
abbrev s__law_two : Stmt := top 55
theorem sc__law_two : FnScope M__law_two ["_law_hall_here", "_law_one", "_law_other"] (defScope s__law_two) := ⟨rfl, rfl, rfl, by decide +kernel, rfl, by decide +kernel, by decide +kernel⟩
theorem b__law_two {P : Program} {w : World} {K : PySem.W.Frag} {mg : Str → Option Value} {base : Heap} (fr : Fr mg) (fam_worth : MFam P w K mg base CX0 11 "worth" ["self", "point"] (IsH K) (fun _ => (spD K (R_hworth K)))) : Body P w K mg base M__law_two "_law_two" (defScope s__law_two) (defBody s__law_two) (11) (t__law_two K) := by
  intro f cdv A outer s H E hr
  exact (pss_cons (ps_par (i := 3) (j := 4) rfl sc__law_two.nd rfl rfl (by decide) rfl rfl (pa_cons (pe_methD (pv 0) fam_worth (hr.mono (by decide)) pass0 (pa_cons (pv 1) pa_nil)) (pa_cons (pe_methD (pv 0) fam_worth (hr.mono (by decide)) pass0 (pa_cons (pv 2) pa_nil)) pa_nil)) (by rfl)) (pss_cons (ps_if (PW.pt (pw_or (pt_cmpR op_isN (pv 3) pe_non rfl) (pw_or1 (pt_cmpR op_isN (pv 4) pe_non rfl)))) (pss_one (ps_ret pe_bl)) pss_nil) (pss_cons (ps_setLc (i := 5) (own := [("_law_k", 11)]) (g := (gName 11)) (tt := tYes) rfl sc__law_two.nd rfl rfl (sw_true rfl rfl rfl (by decide +kernel)) (pi_range1 rfl fr.range_ (pa_cons (pe_callB call_len (by rfl) fr.len_ boot_len (pa_cons (pv 1) pa_nil)) pa_nil)) (blkOk_by (own := [("_law_k", 11)]) (N := M__law_two) (sc := defScope s__law_two) (by decide +kernel)) (fun _ _ _ _ _ => (pg_name (i := 11) sc__law_two.nd rfl (Or.inl rfl))) (fun _ _ _ _ _ => pts_nil) (fun _ _ _ _ _ => (pe_tup (pa_cons (pe_ix ix_seq (pv 1) (pv 11) (fun _ _ => rfl)) (pa_cons (pe_ix ix_seq (pv 2) (pv 11) (fun _ _ => rfl)) pa_nil))))) (pss_cons (ps_set (i := 6) sc__law_two.nd rfl (Or.inl rfl) (pe_lst (pa_cons (pe_tup (pa_cons (pe_lc (own := [("_law_pair", 12)]) (g := (gName 12)) (tt := tYes) rfl sc__law_two.nd (pi_list (pv 5)) (blkOk_by (own := [("_law_pair", 12)]) (N := M__law_two) (sc := defScope s__law_two) (by decide +kernel)) (fun _ _ _ _ _ => (pg_name (i := 12) sc__law_two.nd rfl (Or.inl rfl))) (fun _ _ _ _ _ => pts_nil) (fun _ _ _ _ _ => (pe_op op_fdiv (pe_callB (cr_sumT rfl) (by rfl) fr.sum_ boot_sum (pa_cons (pv 12) pa_nil)) pe_int))) (pa_cons (pe_lc (own := [("_law_pair", 12)]) (g := (gName 12)) (tt := tYes) rfl sc__law_two.nd (pi_list (pv 5)) (blkOk_by (own := [("_law_pair", 12)]) (N := M__law_two) (sc := defScope s__law_two) (by decide +kernel)) (fun _ _ _ _ _ => (pg_name (i := 12) sc__law_two.nd rfl (Or.inl rfl))) (fun _ _ _ _ _ => pts_nil) (fun _ _ _ _ _ => (pe_op op_fdiv (pe_op (OpR.or op_add op_cat) (pe_callB (cr_sumT rfl) (by rfl) fr.sum_ boot_sum (pa_cons (pv 12) pa_nil)) pe_int) pe_int))) pa_nil))) pa_nil))) (pss_cons (ps_expr (pe_bm PySem.F.plainAttrs_list PySem.F.slot_list_append PySem.F.type_list_append mt_append (pv 6) (pa_cons (pe_tup (pa_cons (pe_lc (own := [("_law_pair", 12)]) (g := (gName 12)) (tt := tYes) rfl sc__law_two.nd (pi_list (pv 5)) (blkOk_by (own := [("_law_pair", 12)]) (N := M__law_two) (sc := defScope s__law_two) (by decide +kernel)) (fun _ _ _ _ _ => (pg_name (i := 12) sc__law_two.nd rfl (Or.inl rfl))) (fun _ _ _ _ _ => pts_nil) (fun _ _ _ _ _ => (pe_callB (cr_minT rfl) (by rfl) fr.min_ boot_min (pa_cons (pv 12) pa_nil)))) (pa_cons (pe_lc (own := [("_law_pair", 12)]) (g := (gName 12)) (tt := tYes) rfl sc__law_two.nd (pi_list (pv 5)) (blkOk_by (own := [("_law_pair", 12)]) (N := M__law_two) (sc := defScope s__law_two) (by decide +kernel)) (fun _ _ _ _ _ => (pg_name (i := 12) sc__law_two.nd rfl (Or.inl rfl))) (fun _ _ _ _ _ => pts_nil) (fun _ _ _ _ _ => (pe_callB (cr_maxT rfl) (by rfl) fr.max_ boot_max (pa_cons (pv 12) pa_nil)))) pa_nil))) pa_nil))) (pss_cons (ps_for PassesOwn.never rfl (pi_list (pv 6)) (pg_tup rfl (pgs_cons (pg_name (i := 7) sc__law_two.nd rfl (Or.inl rfl)) (pgs_cons (pg_name (i := 8) sc__law_two.nd rfl (Or.inl rfl)) pgs_nil))) (pss_cons (ps_par (i := 9) (j := 10) rfl sc__law_two.nd rfl rfl (by decide) rfl rfl (pa_cons (pe_methD (pv 0) fam_worth (hr.mono (by decide)) pass0 (pa_cons (pv 7) pa_nil)) (pa_cons (pe_methD (pv 0) fam_worth (hr.mono (by decide)) pass0 (pa_cons (pv 8) pa_nil)) pa_nil)) (by rfl)) (pss_one (ps_if (PW.pt (pw_or (pt_cmpR op_isN (pv 9) pe_non rfl) (pw_or (pt_cmpR op_isN (pv 10) pe_non rfl) (pw_or1 (pt_cmpR op_gt (pe_op (OpR.or op_add op_cat) (pv 9) (pv 10)) (pe_op (OpR.or op_add op_cat) (pv 3) (pv 4)) rfl))))) (pss_one (ps_ret pe_bl)) pss_nil)))) (pss_one (ps_ret pe_bl))))))))
def M_law3 : List Str := [("_law_script" : Str), ("_law_many" : Str), ("_law_plain_here" : Str), ("_law_hall_here" : Str), ("_law_k" : Str), ("_law_one" : Str), ("_law_other" : Str)]
abbrev s_law3 : Stmt := top 56
theorem sc_law3 : FnScope M_law3 ["_law_script"] (defScope s_law3) := ⟨rfl, rfl, rfl, by decide +kernel, rfl, by decide +kernel, by decide +kernel⟩
theorem b_law3 {P : Program} {w : World} {K : PySem.W.Frag} {mg : Str → Option Value} {base : Heap} (fr : Fr mg) (c__law_cell_at : Callee P w K mg base 1 "_law_cell_at" [] ["_law_script", "_law_k"] (spD K R_cell)) (c__law_hall : Callee P w K mg base 9 "_law_hall" [] ["_law_many", "_law_plain_here"] (spD K (R_hall K))) (c__law_plain : Callee P w K mg base 4 "_law_plain" [] ["_law_script", "_law_most", "_law_span"] (spD K R_plain)) (c__law_point : Callee P w K mg base 2 "_law_point" [] ["_law_cell", "_law_many", "_law_plain_here"] (spO K R_point)) (c__law_two : Callee P w K mg base 12 "_law_two" [] ["_law_hall_here", "_law_one", "_law_other"] (spD K (R_two K))) : Body P w K mg base M_law3 "law" (defScope s_law3) (defBody s_law3) (12) (t_law3 K) := by
  intro f cdv A outer s H E hr
  exact (pss_cons (ps_asg (pe_cal c__law_plain (hr.mono (by decide)) (pa_cons (pv 0) (pa_cons pe_int (pa_cons pe_int pa_nil)))) (pg_tup rfl (pgs_cons (pg_name (i := 1) sc_law3.nd rfl (Or.inl rfl)) (pgs_cons (pg_name (i := 2) sc_law3.nd rfl (Or.inl rfl)) pgs_nil)))) (pss_cons (ps_set (i := 3) sc_law3.nd rfl (Or.inl rfl) (pe_cal c__law_hall (hr.mono (by decide)) (pa_cons (pv 1) (pa_cons (pv 2) pa_nil)))) (pss_cons (ps_for PassesOwn.never rfl (pi_range1 rfl fr.range_ (pa_cons (pe_op (OpR.or op_add op_cat) pe_int (pe_op op_mod (pe_cal c__law_cell_at (hr.mono (by decide)) (pa_cons (pv 0) (pa_cons pe_int pa_nil))) pe_int)) pa_nil)) (pg_name (i := 4) sc_law3.nd rfl (Or.inl rfl)) (pss_cons (ps_set (i := 5) sc_law3.nd rfl (Or.inl rfl) (pe_cal c__law_point (hr.mono (by decide)) (pa_cons (pe_cal c__law_cell_at (hr.mono (by decide)) (pa_cons (pv 0) (pa_cons (pe_op (OpR.or op_add op_cat) pe_int (pe_op (OpR.or op_mul op_rep) pe_int (pv 4))) pa_nil))) (pa_cons (pv 1) (pa_cons (pv 2) pa_nil))))) (pss_cons (ps_set (i := 6) sc_law3.nd rfl (Or.inl rfl) (pe_cal c__law_point (hr.mono (by decide)) (pa_cons (pe_cal c__law_cell_at (hr.mono (by decide)) (pa_cons (pv 0) (pa_cons (pe_op (OpR.or op_add op_cat) pe_int (pe_op (OpR.or op_mul op_rep) pe_int (pv 4))) pa_nil))) (pa_cons (pv 1) (pa_cons (pv 2) pa_nil))))) (pss_one (ps_if (pt_not (pt_val (pe_cal c__law_two (hr.mono (by decide)) (pa_cons (pv 3) (pa_cons (pv 5) (pa_cons (pv 6) pa_nil)))))) (pss_one (ps_ret pe_bl)) pss_nil))))) (pss_one (ps_ret pe_bl)))))


local macro_rules | `(tactic| walk_at "len2") => `(tactic| (intro ds d h; first
  | (obtain ⟨_, e, _⟩ := h; exact congrArg List.length e)
  | (obtain ⟨_, _, e, _⟩ := h; exact congrArg List.length e)
  | (obtain ⟨_, _, _, e, _⟩ := h; exact congrArg List.length e)
  | (obtain ⟨_, _, _, _, e, _⟩ := h; exact congrArg List.length e)
  | (obtain ⟨_, _, _, _, _, e, _⟩ := h; exact congrArg List.length e)
  | (obtain ⟨_, _, _, _, _, _, e, _⟩ := h; exact congrArg List.length e)))
local macro_rules | `(tactic| walk_at "len4") => `(tactic| (intro C es ns ds h; first
  | (obtain ⟨_, e, _⟩ := h; exact congrArg (fun l => List.length l + 1) e)
  | (obtain ⟨_, _, e, _⟩ := h; exact congrArg (fun l => List.length l + 1) e)
  | (obtain ⟨_, _, _, e, _⟩ := h; exact congrArg (fun l => List.length l + 1) e)
  | (obtain ⟨_, _, _, _, e, _⟩ := h; exact congrArg (fun l => List.length l + 1) e)
  | (obtain ⟨_, _, _, _, _, e, _⟩ := h; exact congrArg (fun l => List.length l + 1) e)
  | (obtain ⟨_, _, _, _, _, _, e, _⟩ := h; exact congrArg (fun l => List.length l + 1) e)
  | (obtain ⟨_, _, _, _, _, _, _, e, _⟩ := h; exact congrArg (fun l => List.length l + 1) e)
  | (obtain ⟨_, _, _, _, _, _, _, _, e, _⟩ := h; exact congrArg (fun l => List.length l + 1) e)))
def d_is_number : DefD := ⟨("is_number", none), "is_number", "is_number", defArgs s_is_number, defBody s_is_number, defScope s_is_number, [], []⟩
def d_asked : DefD := ⟨("asked", none), "asked", "asked", defArgs s_asked, defBody s_asked, defScope s_asked, [], []⟩
def d_asked_worths : DefD := ⟨("asked_worths", none), "asked_worths", "asked_worths", defArgs s_asked_worths, defBody s_asked_worths, defScope s_asked_worths, [], []⟩
def d_asked_pair : DefD := ⟨("asked_pair", none), "asked_pair", "asked_pair", defArgs s_asked_pair, defBody s_asked_pair, defScope s_asked_pair, [], []⟩
def d_Part_init : DefD := ⟨("Part", some "__init__"), "__init__", "Part.__init__", defArgs s_Part_init, defBody s_Part_init, defScope s_Part_init, [], []⟩
def d_Part_stands : DefD := ⟨("Part", some "stands"), "stands", "Part.stands", defArgs s_Part_stands, defBody s_Part_stands, defScope s_Part_stands, [], []⟩
def d_Slope_init : DefD := ⟨("Slope", some "__init__"), "__init__", "Slope.__init__", defArgs s_Slope_init, defBody s_Slope_init, defScope s_Slope_init, [], []⟩
def d_Slope_worth_of : DefD := ⟨("Slope", some "worth_of"), "worth_of", "Slope.worth_of", defArgs s_Slope_worth_of, defBody s_Slope_worth_of, defScope s_Slope_worth_of, [], []⟩
def d_Aim_init : DefD := ⟨("Aim", some "__init__"), "__init__", "Aim.__init__", defArgs s_Aim_init, defBody s_Aim_init, defScope s_Aim_init, [.int 1], []⟩
def d_Aim_worth_of : DefD := ⟨("Aim", some "worth_of"), "worth_of", "Aim.worth_of", defArgs s_Aim_worth_of, defBody s_Aim_worth_of, defScope s_Aim_worth_of, [], []⟩
def d_Square_worth_of : DefD := ⟨("Square", some "worth_of"), "worth_of", "Square.worth_of", defArgs s_Square_worth_of, defBody s_Square_worth_of, defScope s_Square_worth_of, [], []⟩
def d_Row_init : DefD := ⟨("Row", some "__init__"), "__init__", "Row.__init__", defArgs s_Row_init, defBody s_Row_init, defScope s_Row_init, [], []⟩
def d_Row_worth_of : DefD := ⟨("Row", some "worth_of"), "worth_of", "Row.worth_of", defArgs s_Row_worth_of, defBody s_Row_worth_of, defScope s_Row_worth_of, [], []⟩
def d_Wall_init : DefD := ⟨("Wall", some "__init__"), "__init__", "Wall.__init__", defArgs s_Wall_init, defBody s_Wall_init, defScope s_Wall_init, [], []⟩
def d_Wall_worth_of : DefD := ⟨("Wall", some "worth_of"), "worth_of", "Wall.worth_of", defArgs s_Wall_worth_of, defBody s_Wall_worth_of, defScope s_Wall_worth_of, [], []⟩
def d_Near_init : DefD := ⟨("Near", some "__init__"), "__init__", "Near.__init__", defArgs s_Near_init, defBody s_Near_init, defScope s_Near_init, [.int 0, .int 1], []⟩
def d_Gaps_init : DefD := ⟨("Gaps", some "__init__"), "__init__", "Gaps.__init__", defArgs s_Gaps_init, defBody s_Gaps_init, defScope s_Gaps_init, [], []⟩
def d_Ahead_init : DefD := ⟨("Ahead", some "__init__"), "__init__", "Ahead.__init__", defArgs s_Ahead_init, defBody s_Ahead_init, defScope s_Ahead_init, [], []⟩
def d_Ahead_worth_of : DefD := ⟨("Ahead", some "worth_of"), "worth_of", "Ahead.worth_of", defArgs s_Ahead_worth_of, defBody s_Ahead_worth_of, defScope s_Ahead_worth_of, [], []⟩
def d_Wrap_init : DefD := ⟨("Wrap", some "__init__"), "__init__", "Wrap.__init__", defArgs s_Wrap_init, defBody s_Wrap_init, defScope s_Wrap_init, [], []⟩
def d_Times_init : DefD := ⟨("Times", some "__init__"), "__init__", "Times.__init__", defArgs s_Times_init, defBody s_Times_init, defScope s_Times_init, [], []⟩
def d_Times_worth_of : DefD := ⟨("Times", some "worth_of"), "worth_of", "Times.worth_of", defArgs s_Times_worth_of, defBody s_Times_worth_of, defScope s_Times_worth_of, [], []⟩
def d_Moved_init : DefD := ⟨("Moved", some "__init__"), "__init__", "Moved.__init__", defArgs s_Moved_init, defBody s_Moved_init, defScope s_Moved_init, [], []⟩
def d_Moved_worth_of : DefD := ⟨("Moved", some "worth_of"), "worth_of", "Moved.worth_of", defArgs s_Moved_worth_of, defBody s_Moved_worth_of, defScope s_Moved_worth_of, [], []⟩
def d_Part_reads : DefD := ⟨("Part", some "reads"), "reads", "Part.reads", defArgs s_Part_reads, defBody s_Part_reads, defScope s_Part_reads, [], []⟩
def d_Hall_init : DefD := ⟨("Hall", some "__init__"), "__init__", "Hall.__init__", defArgs s_Hall_init, defBody s_Hall_init, defScope s_Hall_init, [.int 0, .int 20], []⟩
def d_Hall_worth : DefD := ⟨("Hall", some "worth"), "worth", "Hall.worth", defArgs s_Hall_worth, defBody s_Hall_worth, defScope s_Hall_worth, [], []⟩
def d_asked_point : DefD := ⟨("asked_point", none), "asked_point", "asked_point", defArgs s_asked_point, defBody s_asked_point, defScope s_asked_point, [], []⟩
def d_worth_at : DefD := ⟨("worth_at", none), "worth_at", "worth_at", defArgs s_worth_at, defBody s_worth_at, defScope s_worth_at, [], []⟩
def d__law_cell_at : DefD := ⟨("_law_cell_at", none), "_law_cell_at", "_law_cell_at", defArgs s__law_cell_at, defBody s__law_cell_at, defScope s__law_cell_at, [], []⟩
def d__law_numbers : DefD := ⟨("_law_numbers", none), "_law_numbers", "_law_numbers", defArgs s__law_numbers, defBody s__law_numbers, defScope s__law_numbers, [], []⟩
def d__law_worths : DefD := ⟨("_law_worths", none), "_law_worths", "_law_worths", defArgs s__law_worths, defBody s__law_worths, defScope s__law_worths, [], []⟩
def d__law_single : DefD := ⟨("_law_single", none), "_law_single", "_law_single", defArgs s__law_single, defBody s__law_single, defScope s__law_single, [], []⟩
def d__law_double : DefD := ⟨("_law_double", none), "_law_double", "_law_double", defArgs s__law_double, defBody s__law_double, defScope s__law_double, [], []⟩
def d__law_part : DefD := ⟨("_law_part", none), "_law_part", "_law_part", defArgs s__law_part, defBody s__law_part, defScope s__law_part, [], []⟩
def d__law_base : DefD := ⟨("_law_base", none), "_law_base", "_law_base", defArgs s__law_base, defBody s__law_base, defScope s__law_base, [], []⟩
def d__law_made : DefD := ⟨("_law_made", none), "_law_made", "_law_made", defArgs s__law_made, defBody s__law_made, defScope s__law_made, [], []⟩
def d__law_plain : DefD := ⟨("_law_plain", none), "_law_plain", "_law_plain", defArgs s__law_plain, defBody s__law_plain, defScope s__law_plain, [], []⟩
def d__law_hall : DefD := ⟨("_law_hall", none), "_law_hall", "_law_hall", defArgs s__law_hall, defBody s__law_hall, defScope s__law_hall, [], []⟩
def d__law_point : DefD := ⟨("_law_point", none), "_law_point", "_law_point", defArgs s__law_point, defBody s__law_point, defScope s__law_point, [], []⟩
def d__law_two : DefD := ⟨("_law_two", none), "_law_two", "_law_two", defArgs s__law_two, defBody s__law_two, defScope s__law_two, [], []⟩
def d_law3 : DefD := ⟨("law", none), "law", "law", defArgs s_law3, defBody s_law3, defScope s_law3, [], []⟩
def fn_row : List DefD := [d_is_number, d_asked, d_asked_worths, d_asked_pair, d_Part_init, d_Part_stands, d_Slope_init, d_Slope_worth_of, d_Aim_init, d_Aim_worth_of, d_Square_worth_of, d_Row_init, d_Row_worth_of, d_Wall_init, d_Wall_worth_of, d_Near_init, d_Gaps_init, d_Ahead_init, d_Ahead_worth_of, d_Wrap_init, d_Times_init, d_Times_worth_of, d_Moved_init, d_Moved_worth_of, d_Part_reads, d_Hall_init, d_Hall_worth, d_asked_point, d_worth_at, d__law_cell_at, d__law_numbers, d__law_worths, d__law_single, d__law_double, d__law_part, d__law_base, d__law_made, d__law_plain, d__law_hall, d__law_point, d__law_two, d_law3]
def fc_row : List Fc := pfFacts ++ [.fa (.cls "Hall"),
  .all hallNs fun f => .fa (.noat "Hall" f),
  .fa (.glo "_law_cell_at"),
  .fa (.glo "is_number"),
  .fa (.glo "asked"),
  .fa (.int "PLACES" 8),
  .fa (.glo "asked_pair"),
  .cfn "Part" "__init__",
  .fa (.glo "Part"),
  .fa (.int "FAR" 100),
  .fa (.mkr "Ahead"),
  .same "Ahead" "__init__" "Ahead",
  .fa (.glo "Ahead"),
  .fa (.int "WEIGHT" 1000),
  .fa (.mkr "Aim"),
  .same "Aim" "__init__" "Aim",
  .fa (.glo "Aim"),
  .fa (.int "MOST" 40),
  .fa (.int "WORTH" 1000000),
  .fa (.glo "asked_worths"),
  .cfn "Row" "__init__",
  .fa (.glo "Row"),
  .fa (.mkr "Gaps"),
  .same "Gaps" "__init__" "Gaps",
  .fa (.glo "Gaps"),
  .cfn "Aim" "__init__",
  .fa (.mkr "Near"),
  .same "Near" "__init__" "Near",
  .fa (.glo "Near"),
  .fa (.mkr "Row"),
  .same "Row" "__init__" "Row",
  .fa (.mkr "Slope"),
  .same "Slope" "__init__" "Slope",
  .fa (.glo "Slope"),
  .fa (.mkr "Wall"),
  .same "Wall" "__init__" "Wall",
  .fa (.glo "Wall"),
  .fa (.mkr "Square"),
  .same "Square" "__init__" "Aim",
  .fa (.glo "Square"),
  .fa (.glo "_law_base"),
  .fa (.meth "Slope" "stands"),
  .same "Slope" "stands" "Part",
  .fa (.meth "Aim" "stands"),
  .same "Aim" "stands" "Part",
  .fa (.meth "Square" "stands"),
  .same "Square" "stands" "Part",
  .fa (.meth "Row" "stands"),
  .same "Row" "stands" "Part",
  .fa (.meth "Wall" "stands"),
  .same "Wall" "stands" "Part",
  .fa (.meth "Near" "stands"),
  .same "Near" "stands" "Part",
  .fa (.meth "Gaps" "stands"),
  .same "Gaps" "stands" "Part",
  .fa (.meth "Ahead" "stands"),
  .same "Ahead" "stands" "Part",
  .fa (.meth "Times" "stands"),
  .same "Times" "stands" "Part",
  .fa (.meth "Moved" "stands"),
  .same "Moved" "stands" "Part",
  .fa (.int "DEEP" 8),
  .fa (.glo "Wrap"),
  .cfn "Wrap" "__init__",
  .fa (.mkr "Moved"),
  .same "Moved" "__init__" "Moved",
  .fa (.glo "Moved"),
  .fa (.int "TIMES" 100),
  .fa (.mkr "Times"),
  .same "Times" "__init__" "Times",
  .fa (.glo "Times"),
  .fa (.glo "_law_made"),
  .fa (.int "BOUND" 50),
  .fa (.int "PARTS" 24),
  .fa (.mkr "Hall"),
  .same "Hall" "__init__" "Hall",
  .fa (.glo "Hall"),
  .fa (.glo "_law_hall"),
  .fa (.glo "_law_worths"),
  .fa (.glo "_law_double"),
  .fa (.glo "_law_numbers"),
  .fa (.glo "_law_single"),
  .fa (.glo "_law_part"),
  .fa (.glo "_law_plain"),
  .fa (.glo "_law_point"),
  .fa (.int "REACH" 1000),
  .fa (.glo "asked_point"),
  .fa (.meth "Slope" "reads"),
  .same "Slope" "reads" "Part",
  .fa (.meth "Aim" "reads"),
  .same "Aim" "reads" "Part",
  .fa (.meth "Square" "reads"),
  .same "Square" "reads" "Part",
  .fa (.meth "Row" "reads"),
  .same "Row" "reads" "Part",
  .fa (.meth "Wall" "reads"),
  .same "Wall" "reads" "Part",
  .fa (.meth "Near" "reads"),
  .same "Near" "reads" "Part",
  .fa (.meth "Gaps" "reads"),
  .same "Gaps" "reads" "Part",
  .fa (.meth "Ahead" "reads"),
  .same "Ahead" "reads" "Part",
  .fa (.meth "Times" "reads"),
  .same "Times" "reads" "Part",
  .fa (.meth "Moved" "reads"),
  .same "Moved" "reads" "Part",
  .fa (.meth "Slope" "worth_of"),
  .same "Slope" "worth_of" "Slope",
  .fa (.meth "Aim" "worth_of"),
  .same "Aim" "worth_of" "Aim",
  .fa (.meth "Square" "worth_of"),
  .same "Square" "worth_of" "Square",
  .fa (.meth "Row" "worth_of"),
  .same "Row" "worth_of" "Row",
  .fa (.meth "Wall" "worth_of"),
  .same "Wall" "worth_of" "Wall",
  .fa (.meth "Near" "worth_of"),
  .same "Near" "worth_of" "Aim",
  .fa (.meth "Gaps" "worth_of"),
  .same "Gaps" "worth_of" "Row",
  .fa (.meth "Ahead" "worth_of"),
  .same "Ahead" "worth_of" "Ahead",
  .fa (.meth "Times" "worth_of"),
  .same "Times" "worth_of" "Times",
  .fa (.meth "Moved" "worth_of"),
  .same "Moved" "worth_of" "Moved",
  .fa (.glo "worth_at"),
  .fa (.meth "Hall" "worth"),
  .fa (.glo "_law_two"),
  .all freeNames fun x => .fa (.free x),
  .fa (.glo "law")]
theorem law_row {P : Program} {w : World} {K : PySem.W.Frag} {mg : Str → Option Value} {base h : Heap} (X : K.In h) (G : h.Ns mainGlobals mg) (c : SaysE fc_row fn_row K) :
    ∃ fd, FunD K "law" "law" (defArgs s_law3) (defBody s_law3) (defScope s_law3) [] [] (ga K "law") fd ∧ FnOk P w K mg base CX0 13 (ga K "law") fd ["_law_script"] (spD K R_law) ∧ mg "law" = some (.ref (ga K "law")) := by
  have pf : PF K := pf_of c
  have fr : Fr mg := fr_of X G (c.fact (136) (f := .all freeNames fun x => .fa (.free x)) rfl)
  have hf : HF K := ⟨cls_ok (c.fact (6) (f := .fa (.cls "Hall")) rfl), fun f hf => noat_ok (fc_all (c.fact (7) (f := .all hallNs fun f => .fa (.noat "Hall" f)) rfl) hf)⟩
  obtain ⟨fd__law_cell_at, F__law_cell_at⟩ := c.def_ 29 (d := d__law_cell_at) rfl
  have ok__law_cell_at : FnOk P w K mg base CX0 1 (fAd K ("_law_cell_at", none)) fd__law_cell_at ["_law_script", "_law_k"] (spD K R_cell) := fnD F__law_cell_at sc__law_cell_at (by walk_at "len2") (b__law_cell_at fr ) (fun ds d h => .inl (e_cell h))
  have c__law_cell_at : Callee P w K mg base 1 "_law_cell_at" [] ["_law_script", "_law_k"] (spD K R_cell) := ⟨_, _, [], ok__law_cell_at, (glo_ok X G (c.fact (8) (f := .fa (.glo "_law_cell_at")) rfl)), F__law_cell_at.kp, .nil, (FunD.bindsN F__law_cell_at fun _ _ _ _ _ _ us hl => match us, hl with | [_, _], _ => rfl)⟩
  obtain ⟨fd_is_number, F_is_number⟩ := c.def_ 0 (d := d_is_number) rfl
  have ok_is_number : FnOk P w K mg base CX0 1 (fAd K ("is_number", none)) fd_is_number ["thing", "least", "most"] (spD K R_isnum) := fnD F_is_number sc_is_number (by walk_at "len2") (b_is_number fr ) (fun ds d h => .inl (e_is_number h))
  have c_is_number : Callee P w K mg base 1 "is_number" [] ["thing", "least", "most"] (spD K R_isnum) := ⟨_, _, [], ok_is_number, (glo_ok X G (c.fact (9) (f := .fa (.glo "is_number")) rfl)), F_is_number.kp, .nil, (FunD.bindsN F_is_number fun _ _ _ _ _ _ us hl => match us, hl with | [_, _, _], _ => rfl)⟩
  obtain ⟨fd_asked, F_asked⟩ := c.def_ 1 (d := d_asked) rfl
  have ok_asked : FnOk P w K mg base CX0 2 (fAd K ("asked", none)) fd_asked ["thing", "least", "most"] (spD K R_asked) := fnD F_asked sc_asked (by walk_at "len2") (b_asked fr c_is_number) (fun ds d h => .inl (e_asked h))
  have c_asked : Callee P w K mg base 2 "asked" [] ["thing", "least", "most"] (spD K R_asked) := ⟨_, _, [], ok_asked, (glo_ok X G (c.fact (10) (f := .fa (.glo "asked")) rfl)), F_asked.kp, .nil, (FunD.bindsN F_asked fun _ _ _ _ _ _ us hl => match us, hl with | [_, _, _], _ => rfl)⟩
  obtain ⟨fd_asked_pair, F_asked_pair⟩ := c.def_ 3 (d := d_asked_pair) rfl
  have ok_asked_pair : FnOk P w K mg base CX0 3 (fAd K ("asked_pair", none)) fd_asked_pair ["one", "other"] (spD K R_pair) := fnD F_asked_pair sc_asked_pair (by walk_at "len2") (b_asked_pair fr c_asked (int_ok X G (c.fact (11) (f := .fa (.int "PLACES" 8)) rfl))) (fun ds d h => .inl (e_asked_pair h))
  have c_asked_pair : Callee P w K mg base 3 "asked_pair" [] ["one", "other"] (spD K R_pair) := ⟨_, _, [], ok_asked_pair, (glo_ok X G (c.fact (12) (f := .fa (.glo "asked_pair")) rfl)), F_asked_pair.kp, .nil, (FunD.bindsN F_asked_pair fun _ _ _ _ _ _ us hl => match us, hl with | [_, _], _ => rfl)⟩
  obtain ⟨fd_Part_init, F_Part_init⟩ := c.def_ 4 (d := d_Part_init) rfl
  have ok_Part_init : FnOk P w K mg base CX0 3 (fAd K ("Part", some "__init__")) fd_Part_init ["self", "where"] (spM K (R_Part_init K)) := fnM F_Part_init sc_Part_init (by walk_at "len4") (b_Part_init fr c_asked (int_ok X G (c.fact (11) (f := .fa (.int "PLACES" 8)) rfl))) (fun C es ns ds h x dx => e_Part_init pf h)
  have cf_Part___init__ : ClsFn P w K mg base 3 "Part" "__init__" [] ["self", "where"] (spM K (R_Part_init K)) := ⟨_, _, [], _, ok_Part_init, (glo_ok X G (c.fact (14) (f := .fa (.glo "Part")) rfl)), (fc_cfn (c.fact (13) (f := .cfn "Part" "__init__") rfl)).1, (fc_cfn (c.fact (13) (f := .cfn "Part" "__init__") rfl)).2, F_Part_init.kp, .nil, (FunD.bindsN F_Part_init fun _ _ _ _ _ _ us hl => match us, hl with | [_, _], _ => rfl)⟩
  obtain ⟨fd_Ahead_init, F_Ahead_init⟩ := c.def_ 17 (d := d_Ahead_init) rfl
  have ok_Ahead_init : FnOk P w K mg base CX0 4 (fAd K ("Ahead", some "__init__")) fd_Ahead_init ["self", "one", "other", "gap"] (spM K (R_Ahead_init K)) := fnM F_Ahead_init sc_Ahead_init (by walk_at "len4") (b_Ahead_init fr c_asked c_asked_pair cf_Part___init__ (int_ok X G (c.fact (15) (f := .fa (.int "FAR" 100)) rfl))) (fun C es ns ds h x dx => e_Ahead_init pf h)
  have m_Ahead_3 : Maker P w K mg base 4 "Ahead" [] ["self", "one", "other", "gap"] (spM K (R_Ahead_init K)) := ⟨_, _, [], fc_mkr (c.fact (16) (f := .fa (.mkr "Ahead")) rfl) (c.fact (17) (f := .same "Ahead" "__init__" "Ahead") rfl), ok_Ahead_init, (glo_ok X G (c.fact (18) (f := .fa (.glo "Ahead")) rfl)), .nil, (FunD.bindsN F_Ahead_init fun _ _ _ _ _ _ us hl => match us, hl with | [_, _, _, _], _ => rfl)⟩
  obtain ⟨fd_Aim_init, F_Aim_init⟩ := c.def_ 8 (d := d_Aim_init) rfl
  have ok_Aim_init : FnOk P w K mg base CX0 4 (fAd K ("Aim", some "__init__")) fd_Aim_init ["self", "place", "aim", "weight"] (spM K (R_Aim_init K)) := fnM F_Aim_init sc_Aim_init (by walk_at "len4") (b_Aim_init fr c_asked cf_Part___init__ (int_ok X G (c.fact (15) (f := .fa (.int "FAR" 100)) rfl)) (int_ok X G (c.fact (19) (f := .fa (.int "WEIGHT" 1000)) rfl))) (fun C es ns ds h x dx => e_Aim_init pf h)
  have m_Aim_3 : Maker P w K mg base 4 "Aim" [] ["self", "place", "aim", "weight"] (spM K (R_Aim_init K)) := ⟨_, _, [], fc_mkr (c.fact (20) (f := .fa (.mkr "Aim")) rfl) (c.fact (21) (f := .same "Aim" "__init__" "Aim") rfl), ok_Aim_init, (glo_ok X G (c.fact (22) (f := .fa (.glo "Aim")) rfl)), .nil, (binds_all F_Aim_init (List.cons_ne_nil _ _) fun _ _ _ _ _ _ _ us its hl hi => match us, hl, its, hi with | [_, _, _, _], _, [_], _ => ⟨_, rfl, rfl⟩)⟩
  obtain ⟨fd_asked_worths, F_asked_worths⟩ := c.def_ 2 (d := d_asked_worths) rfl
  have ok_asked_worths : FnOk P w K mg base CX0 3 (fAd K ("asked_worths", none)) fd_asked_worths ["worths"] (spOb K R_worths) := fnOb F_asked_worths sc_asked_worths (by walk_at "len2") (b_asked_worths fr c_asked (int_ok X G (c.fact (23) (f := .fa (.int "MOST" 40)) rfl)) (int_ok X G (c.fact (24) (f := .fa (.int "WORTH" 1000000)) rfl))) (fun ds es h => e_asked_worths h)
  have c_asked_worths : Callee P w K mg base 3 "asked_worths" [] ["worths"] (spOb K R_worths) := ⟨_, _, [], ok_asked_worths, (glo_ok X G (c.fact (25) (f := .fa (.glo "asked_worths")) rfl)), F_asked_worths.kp, .nil, (FunD.bindsN F_asked_worths fun _ _ _ _ _ _ us hl => match us, hl with | [_], _ => rfl)⟩
  obtain ⟨fd_Row_init, F_Row_init⟩ := c.def_ 11 (d := d_Row_init) rfl
  have ok_Row_init : FnOk P w K mg base CX0 4 (fAd K ("Row", some "__init__")) fd_Row_init ["self", "place", "first", "worths"] (spMb K (R_Row_init K)) := fnMb F_Row_init sc_Row_init (by walk_at "len4") (b_Row_init fr c_asked c_asked_worths cf_Part___init__ (int_ok X G (c.fact (15) (f := .fa (.int "FAR" 100)) rfl))) (fun C es ns ds h x dx => e_Row_init pf h)
  have cf_Row___init__ : ClsFn P w K mg base 4 "Row" "__init__" [] ["self", "place", "first", "worths"] (spMb K (R_Row_init K)) := ⟨_, _, [], _, ok_Row_init, (glo_ok X G (c.fact (27) (f := .fa (.glo "Row")) rfl)), (fc_cfn (c.fact (26) (f := .cfn "Row" "__init__") rfl)).1, (fc_cfn (c.fact (26) (f := .cfn "Row" "__init__") rfl)).2, F_Row_init.kp, .nil, (FunD.bindsN F_Row_init fun _ _ _ _ _ _ us hl => match us, hl with | [_, _, _, _], _ => rfl)⟩
  obtain ⟨fd_Gaps_init, F_Gaps_init⟩ := c.def_ 16 (d := d_Gaps_init) rfl
  have ok_Gaps_init : FnOk P w K mg base CX0 5 (fAd K ("Gaps", some "__init__")) fd_Gaps_init ["self", "one", "other", "first", "worths"] (spMb K (R_Gaps_init K)) := fnMb F_Gaps_init sc_Gaps_init (by walk_at "len4") (b_Gaps_init fr c_asked_pair cf_Row___init__) (fun C es ns ds h x dx => e_Gaps_init pf h)
  have m_Gaps_4 : Maker P w K mg base 5 "Gaps" [] ["self", "one", "other", "first", "worths"] (spMb K (R_Gaps_init K)) := ⟨_, _, [], fc_mkr (c.fact (28) (f := .fa (.mkr "Gaps")) rfl) (c.fact (29) (f := .same "Gaps" "__init__" "Gaps") rfl), ok_Gaps_init, (glo_ok X G (c.fact (30) (f := .fa (.glo "Gaps")) rfl)), .nil, (FunD.bindsN F_Gaps_init fun _ _ _ _ _ _ us hl => match us, hl with | [_, _, _, _, _], _ => rfl)⟩
  have cf_Aim___init__ : ClsFn P w K mg base 4 "Aim" "__init__" [] ["self", "place", "aim", "weight"] (spM K (R_Aim_init K)) := ⟨_, _, [], _, ok_Aim_init, (glo_ok X G (c.fact (22) (f := .fa (.glo "Aim")) rfl)), (fc_cfn (c.fact (31) (f := .cfn "Aim" "__init__") rfl)).1, (fc_cfn (c.fact (31) (f := .cfn "Aim" "__init__") rfl)).2, F_Aim_init.kp, .nil, (binds_all F_Aim_init (List.cons_ne_nil _ _) fun _ _ _ _ _ _ _ us its hl hi => match us, hl, its, hi with | [_, _, _, _], _, [_], _ => ⟨_, rfl, rfl⟩)⟩
  obtain ⟨fd_Near_init, F_Near_init⟩ := c.def_ 15 (d := d_Near_init) rfl
  have ok_Near_init : FnOk P w K mg base CX0 5 (fAd K ("Near", some "__init__")) fd_Near_init ["self", "one", "other", "aim", "weight"] (spM K (R_Near_init K)) := fnM F_Near_init sc_Near_init (by walk_at "len4") (b_Near_init fr c_asked_pair cf_Aim___init__) (fun C es ns ds h x dx => e_Near_init pf h)
  have m_Near_4 : Maker P w K mg base 5 "Near" [] ["self", "one", "other", "aim", "weight"] (spM K (R_Near_init K)) := ⟨_, _, [], fc_mkr (c.fact (32) (f := .fa (.mkr "Near")) rfl) (c.fact (33) (f := .same "Near" "__init__" "Near") rfl), ok_Near_init, (glo_ok X G (c.fact (34) (f := .fa (.glo "Near")) rfl)), .nil, (binds_all F_Near_init (List.cons_ne_nil _ _) fun _ _ _ _ _ _ _ us its hl hi => match us, hl, its, hi with | [_, _, _, _, _], _, [_, _], _ => ⟨_, rfl, rfl⟩)⟩
  have m_Row_3 : Maker P w K mg base 4 "Row" [] ["self", "place", "first", "worths"] (spMb K (R_Row_init K)) := ⟨_, _, [], fc_mkr (c.fact (35) (f := .fa (.mkr "Row")) rfl) (c.fact (36) (f := .same "Row" "__init__" "Row") rfl), ok_Row_init, (glo_ok X G (c.fact (27) (f := .fa (.glo "Row")) rfl)), .nil, (FunD.bindsN F_Row_init fun _ _ _ _ _ _ us hl => match us, hl with | [_, _, _, _], _ => rfl)⟩
  obtain ⟨fd_Slope_init, F_Slope_init⟩ := c.def_ 6 (d := d_Slope_init) rfl
  have ok_Slope_init : FnOk P w K mg base CX0 4 (fAd K ("Slope", some "__init__")) fd_Slope_init ["self", "place", "weight"] (spM K (R_Slope_init K)) := fnM F_Slope_init sc_Slope_init (by walk_at "len4") (b_Slope_init fr c_asked cf_Part___init__ (int_ok X G (c.fact (19) (f := .fa (.int "WEIGHT" 1000)) rfl))) (fun C es ns ds h x dx => e_Slope_init pf h)
  have m_Slope_2 : Maker P w K mg base 4 "Slope" [] ["self", "place", "weight"] (spM K (R_Slope_init K)) := ⟨_, _, [], fc_mkr (c.fact (37) (f := .fa (.mkr "Slope")) rfl) (c.fact (38) (f := .same "Slope" "__init__" "Slope") rfl), ok_Slope_init, (glo_ok X G (c.fact (39) (f := .fa (.glo "Slope")) rfl)), .nil, (FunD.bindsN F_Slope_init fun _ _ _ _ _ _ us hl => match us, hl with | [_, _, _], _ => rfl)⟩
  obtain ⟨fd_Wall_init, F_Wall_init⟩ := c.def_ 13 (d := d_Wall_init) rfl
  have ok_Wall_init : FnOk P w K mg base CX0 4 (fAd K ("Wall", some "__init__")) fd_Wall_init ["self", "place", "low", "high"] (spM K (R_Wall_init K)) := fnM F_Wall_init sc_Wall_init (by walk_at "len4") (b_Wall_init fr c_asked cf_Part___init__ (int_ok X G (c.fact (15) (f := .fa (.int "FAR" 100)) rfl))) (fun C es ns ds h x dx => e_Wall_init pf h)
  have m_Wall_3 : Maker P w K mg base 4 "Wall" [] ["self", "place", "low", "high"] (spM K (R_Wall_init K)) := ⟨_, _, [], fc_mkr (c.fact (40) (f := .fa (.mkr "Wall")) rfl) (c.fact (41) (f := .same "Wall" "__init__" "Wall") rfl), ok_Wall_init, (glo_ok X G (c.fact (42) (f := .fa (.glo "Wall")) rfl)), .nil, (FunD.bindsN F_Wall_init fun _ _ _ _ _ _ us hl => match us, hl with | [_, _, _, _], _ => rfl)⟩
  have mn_Square_2_weight : MakerN P w K mg base 4 "Square" 2 ["weight"] ["self", "place", "aim", "weight"] (gv_Square_2_weight) (spM K (R_Aim_init K)) := by
    obtain ⟨its, z⟩ := FunD.kbindsD (ps := ["self", "place", "aim", "weight"]) F_Aim_init 3 ["weight"] (fun us _ ws => us ++ ws) (List.cons_ne_nil _ _) (fun r1 _ r3 => vals_app r1 r3) fun _ _ _ _ _ _ _ us its ws hl hi hw => match us, hl, its, hi, ws, hw with | [_, _, _], _, [_], _, [_], _ => ⟨_, rfl, rfl⟩
    exact ⟨_, _, _, fc_mkr (c.fact (43) (f := .fa (.mkr "Square")) rfl) (c.fact (44) (f := .same "Square" "__init__" "Aim") rfl), ok_Aim_init, (glo_ok X G (c.fact (45) (f := .fa (.glo "Square")) rfl)), z⟩
  obtain ⟨fd__law_base, F__law_base⟩ := c.def_ 35 (d := d__law_base) rfl
  have ok__law_base : FnOk P w K mg base CX0 7 (fAd K ("_law_base", none)) fd__law_base ["_law_part_here"] (spD K (R_base K)) := fnD F__law_base sc__law_base (by walk_at "len2") (b__law_base fr m_Ahead_3 m_Aim_3 m_Gaps_4 m_Near_4 m_Row_3 m_Slope_2 m_Wall_3 mn_Square_2_weight) (fun ds d h => .inl (e_base h))
  have c__law_base : Callee P w K mg base 7 "_law_base" [] ["_law_part_here"] (spD K (R_base K)) := ⟨_, _, [], ok__law_base, (glo_ok X G (c.fact (46) (f := .fa (.glo "_law_base")) rfl)), F__law_base.kp, .nil, (FunD.bindsN F__law_base fun _ _ _ _ _ _ us hl => match us, hl with | [_], _ => rfl)⟩
  obtain ⟨fd_Part_stands, F_Part_stands⟩ := c.def_ 5 (d := d_Part_stands) rfl
  have fam_stands : MFam P w K mg base CX0 1 "stands" ["self"] (IsP K) (fun C => spO K (R_stands K C)) := fam_of (part_cases
    (⟨_, _, pf.cls _ (by decide +kernel), fc_meth (c.fact (47) (f := .fa (.meth "Slope" "stands")) rfl) (c.fact (48) (f := .same "Slope" "stands" "Part") rfl), fnO F_Part_stands sc_Part_stands (by walk_at "len2") (b_Part_stands fr) (fun ds es h => e_Part_stands pf h), (FunD.bindsN F_Part_stands fun _ _ _ _ _ _ us hl => match us, hl with | [_], _ => rfl)⟩)
    (⟨_, _, pf.cls _ (by decide +kernel), fc_meth (c.fact (49) (f := .fa (.meth "Aim" "stands")) rfl) (c.fact (50) (f := .same "Aim" "stands" "Part") rfl), fnO F_Part_stands sc_Part_stands (by walk_at "len2") (b_Part_stands fr) (fun ds es h => e_Part_stands pf h), (FunD.bindsN F_Part_stands fun _ _ _ _ _ _ us hl => match us, hl with | [_], _ => rfl)⟩)
    (⟨_, _, pf.cls _ (by decide +kernel), fc_meth (c.fact (51) (f := .fa (.meth "Square" "stands")) rfl) (c.fact (52) (f := .same "Square" "stands" "Part") rfl), fnO F_Part_stands sc_Part_stands (by walk_at "len2") (b_Part_stands fr) (fun ds es h => e_Part_stands pf h), (FunD.bindsN F_Part_stands fun _ _ _ _ _ _ us hl => match us, hl with | [_], _ => rfl)⟩)
    (⟨_, _, pf.cls _ (by decide +kernel), fc_meth (c.fact (53) (f := .fa (.meth "Row" "stands")) rfl) (c.fact (54) (f := .same "Row" "stands" "Part") rfl), fnO F_Part_stands sc_Part_stands (by walk_at "len2") (b_Part_stands fr) (fun ds es h => e_Part_stands pf h), (FunD.bindsN F_Part_stands fun _ _ _ _ _ _ us hl => match us, hl with | [_], _ => rfl)⟩)
    (⟨_, _, pf.cls _ (by decide +kernel), fc_meth (c.fact (55) (f := .fa (.meth "Wall" "stands")) rfl) (c.fact (56) (f := .same "Wall" "stands" "Part") rfl), fnO F_Part_stands sc_Part_stands (by walk_at "len2") (b_Part_stands fr) (fun ds es h => e_Part_stands pf h), (FunD.bindsN F_Part_stands fun _ _ _ _ _ _ us hl => match us, hl with | [_], _ => rfl)⟩)
    (⟨_, _, pf.cls _ (by decide +kernel), fc_meth (c.fact (57) (f := .fa (.meth "Near" "stands")) rfl) (c.fact (58) (f := .same "Near" "stands" "Part") rfl), fnO F_Part_stands sc_Part_stands (by walk_at "len2") (b_Part_stands fr) (fun ds es h => e_Part_stands pf h), (FunD.bindsN F_Part_stands fun _ _ _ _ _ _ us hl => match us, hl with | [_], _ => rfl)⟩)
    (⟨_, _, pf.cls _ (by decide +kernel), fc_meth (c.fact (59) (f := .fa (.meth "Gaps" "stands")) rfl) (c.fact (60) (f := .same "Gaps" "stands" "Part") rfl), fnO F_Part_stands sc_Part_stands (by walk_at "len2") (b_Part_stands fr) (fun ds es h => e_Part_stands pf h), (FunD.bindsN F_Part_stands fun _ _ _ _ _ _ us hl => match us, hl with | [_], _ => rfl)⟩)
    (⟨_, _, pf.cls _ (by decide +kernel), fc_meth (c.fact (61) (f := .fa (.meth "Ahead" "stands")) rfl) (c.fact (62) (f := .same "Ahead" "stands" "Part") rfl), fnO F_Part_stands sc_Part_stands (by walk_at "len2") (b_Part_stands fr) (fun ds es h => e_Part_stands pf h), (FunD.bindsN F_Part_stands fun _ _ _ _ _ _ us hl => match us, hl with | [_], _ => rfl)⟩)
    (⟨_, _, pf.cls _ (by decide +kernel), fc_meth (c.fact (63) (f := .fa (.meth "Times" "stands")) rfl) (c.fact (64) (f := .same "Times" "stands" "Part") rfl), fnO F_Part_stands sc_Part_stands (by walk_at "len2") (b_Part_stands fr) (fun ds es h => e_Part_stands pf h), (FunD.bindsN F_Part_stands fun _ _ _ _ _ _ us hl => match us, hl with | [_], _ => rfl)⟩)
    (⟨_, _, pf.cls _ (by decide +kernel), fc_meth (c.fact (65) (f := .fa (.meth "Moved" "stands")) rfl) (c.fact (66) (f := .same "Moved" "stands" "Part") rfl), fnO F_Part_stands sc_Part_stands (by walk_at "len2") (b_Part_stands fr) (fun ds es h => e_Part_stands pf h), (FunD.bindsN F_Part_stands fun _ _ _ _ _ _ us hl => match us, hl with | [_], _ => rfl)⟩))
  obtain ⟨fd_Wrap_init, F_Wrap_init⟩ := c.def_ 19 (d := d_Wrap_init) rfl
  have ok_Wrap_init : FnOk P w K mg base CX0 4 (fAd K ("Wrap", some "__init__")) fd_Wrap_init ["self", "part", "number"] (spM K (R_Wrap_init K)) := fnM F_Wrap_init sc_Wrap_init (by walk_at "len4") (b_Wrap_init fr c_asked cf_Part___init__ (int_ok X G (c.fact (67) (f := .fa (.int "DEEP" 8)) rfl)) fam_stands (glo_ok X G (c.fact (14) (f := .fa (.glo "Part")) rfl)) (glo_ok X G (c.fact (68) (f := .fa (.glo "Wrap")) rfl))) (fun C es ns ds h x dx => e_Wrap_init pf h)
  have cf_Wrap___init__ : ClsFn P w K mg base 4 "Wrap" "__init__" [] ["self", "part", "number"] (spM K (R_Wrap_init K)) := ⟨_, _, [], _, ok_Wrap_init, (glo_ok X G (c.fact (68) (f := .fa (.glo "Wrap")) rfl)), (fc_cfn (c.fact (69) (f := .cfn "Wrap" "__init__") rfl)).1, (fc_cfn (c.fact (69) (f := .cfn "Wrap" "__init__") rfl)).2, F_Wrap_init.kp, .nil, (FunD.bindsN F_Wrap_init fun _ _ _ _ _ _ us hl => match us, hl with | [_, _, _], _ => rfl)⟩
  obtain ⟨fd_Moved_init, F_Moved_init⟩ := c.def_ 22 (d := d_Moved_init) rfl
  have ok_Moved_init : FnOk P w K mg base CX0 5 (fAd K ("Moved", some "__init__")) fd_Moved_init ["self", "part", "by"] (spM K (R_Moved_init K)) := fnM F_Moved_init sc_Moved_init (by walk_at "len4") (b_Moved_init fr c_asked cf_Wrap___init__ (int_ok X G (c.fact (15) (f := .fa (.int "FAR" 100)) rfl))) (fun C es ns ds h x dx => e_Moved_init pf h)
  have m_Moved_2 : Maker P w K mg base 5 "Moved" [] ["self", "part", "by"] (spM K (R_Moved_init K)) := ⟨_, _, [], fc_mkr (c.fact (70) (f := .fa (.mkr "Moved")) rfl) (c.fact (71) (f := .same "Moved" "__init__" "Moved") rfl), ok_Moved_init, (glo_ok X G (c.fact (72) (f := .fa (.glo "Moved")) rfl)), .nil, (FunD.bindsN F_Moved_init fun _ _ _ _ _ _ us hl => match us, hl with | [_, _, _], _ => rfl)⟩
  obtain ⟨fd_Times_init, F_Times_init⟩ := c.def_ 20 (d := d_Times_init) rfl
  have ok_Times_init : FnOk P w K mg base CX0 5 (fAd K ("Times", some "__init__")) fd_Times_init ["self", "part", "many"] (spM K (R_Times_init K)) := fnM F_Times_init sc_Times_init (by walk_at "len4") (b_Times_init fr c_asked cf_Wrap___init__ (int_ok X G (c.fact (73) (f := .fa (.int "TIMES" 100)) rfl))) (fun C es ns ds h x dx => e_Times_init pf h)
  have m_Times_2 : Maker P w K mg base 5 "Times" [] ["self", "part", "many"] (spM K (R_Times_init K)) := ⟨_, _, [], fc_mkr (c.fact (74) (f := .fa (.mkr "Times")) rfl) (c.fact (75) (f := .same "Times" "__init__" "Times") rfl), ok_Times_init, (glo_ok X G (c.fact (76) (f := .fa (.glo "Times")) rfl)), .nil, (FunD.bindsN F_Times_init fun _ _ _ _ _ _ us hl => match us, hl with | [_, _, _], _ => rfl)⟩
  obtain ⟨fd__law_made, F__law_made⟩ := c.def_ 36 (d := d__law_made) rfl
  have ok__law_made : FnOk P w K mg base CX0 8 (fAd K ("_law_made", none)) fd__law_made ["_law_part_here"] (spD K (R_made K)) := fnD F__law_made sc__law_made (by walk_at "len2") (b__law_made fr c__law_base m_Moved_2 m_Times_2) (fun ds d h => .inl (e_made h))
  have c__law_made : Callee P w K mg base 8 "_law_made" [] ["_law_part_here"] (spD K (R_made K)) := ⟨_, _, [], ok__law_made, (glo_ok X G (c.fact (77) (f := .fa (.glo "_law_made")) rfl)), F__law_made.kp, .nil, (FunD.bindsN F__law_made fun _ _ _ _ _ _ us hl => match us, hl with | [_], _ => rfl)⟩
  obtain ⟨fd_Hall_init, F_Hall_init⟩ := c.def_ 25 (d := d_Hall_init) rfl
  have ok_Hall_init : FnOk P w K mg base CX0 2 (fAd K ("Hall", some "__init__")) fd_Hall_init ["self", "many", "parts", "low", "high"] (spMb K (R_Hall_init K)) := fnMb F_Hall_init sc_Hall_init (by walk_at "len4") (b_Hall_init fr c_is_number (int_ok X G (c.fact (78) (f := .fa (.int "BOUND" 50)) rfl)) (int_ok X G (c.fact (79) (f := .fa (.int "PARTS" 24)) rfl)) (int_ok X G (c.fact (11) (f := .fa (.int "PLACES" 8)) rfl)) fam_stands (glo_ok X G (c.fact (14) (f := .fa (.glo "Part")) rfl))) (fun C es ns ds h x dx => e_Hall_init pf hf h)
  have m_Hall_4 : Maker P w K mg base 2 "Hall" [] ["self", "many", "parts", "low", "high"] (spMb K (R_Hall_init K)) := ⟨_, _, [], fc_mkr (c.fact (80) (f := .fa (.mkr "Hall")) rfl) (c.fact (81) (f := .same "Hall" "__init__" "Hall") rfl), ok_Hall_init, (glo_ok X G (c.fact (82) (f := .fa (.glo "Hall")) rfl)), .nil, (binds_all F_Hall_init (List.cons_ne_nil _ _) fun _ _ _ _ _ _ _ us its hl hi => match us, hl, its, hi with | [_, _, _, _, _], _, [_, _], _ => ⟨_, rfl, rfl⟩)⟩
  obtain ⟨fd__law_hall, F__law_hall⟩ := c.def_ 38 (d := d__law_hall) rfl
  have ok__law_hall : FnOk P w K mg base CX0 9 (fAd K ("_law_hall", none)) fd__law_hall ["_law_many", "_law_plain_here"] (spD K (R_hall K)) := fnD F__law_hall sc__law_hall (by walk_at "len2") (b__law_hall fr c__law_made m_Hall_4) (fun ds d h => .inl (e_hall h))
  have c__law_hall : Callee P w K mg base 9 "_law_hall" [] ["_law_many", "_law_plain_here"] (spD K (R_hall K)) := ⟨_, _, [], ok__law_hall, (glo_ok X G (c.fact (83) (f := .fa (.glo "_law_hall")) rfl)), F__law_hall.kp, .nil, (FunD.bindsN F__law_hall fun _ _ _ _ _ _ us hl => match us, hl with | [_, _], _ => rfl)⟩
  obtain ⟨fd__law_worths, F__law_worths⟩ := c.def_ 31 (d := d__law_worths) rfl
  have ok__law_worths : FnOk P w K mg base CX0 1 (fAd K ("_law_worths", none)) fd__law_worths ["_law_digits", "_law_scale"] (spO K R_lworths) := fnO F__law_worths sc__law_worths (by walk_at "len2") (b__law_worths fr ) (fun ds es h => e_lworths h)
  have c__law_worths : Callee P w K mg base 1 "_law_worths" [] ["_law_digits", "_law_scale"] (spO K R_lworths) := ⟨_, _, [], ok__law_worths, (glo_ok X G (c.fact (84) (f := .fa (.glo "_law_worths")) rfl)), F__law_worths.kp, .nil, (FunD.bindsN F__law_worths fun _ _ _ _ _ _ us hl => match us, hl with | [_, _], _ => rfl)⟩
  obtain ⟨fd__law_double, F__law_double⟩ := c.def_ 33 (d := d__law_double) rfl
  have ok__law_double : FnOk P w K mg base CX0 2 (fAd K ("_law_double", none)) fd__law_double ["_law_digits"] (spD K R_double) := fnD F__law_double sc__law_double (by walk_at "len2") (b__law_double fr c__law_worths) (fun ds d h => .inl (e_double h))
  have c__law_double : Callee P w K mg base 2 "_law_double" [] ["_law_digits"] (spD K R_double) := ⟨_, _, [], ok__law_double, (glo_ok X G (c.fact (85) (f := .fa (.glo "_law_double")) rfl)), F__law_double.kp, .nil, (FunD.bindsN F__law_double fun _ _ _ _ _ _ us hl => match us, hl with | [_], _ => rfl)⟩
  obtain ⟨fd__law_numbers, F__law_numbers⟩ := c.def_ 30 (d := d__law_numbers) rfl
  have ok__law_numbers : FnOk P w K mg base CX0 1 (fAd K ("_law_numbers", none)) fd__law_numbers ["_law_cell", "_law_bounds"] (spO K R_numbers) := fnO F__law_numbers sc__law_numbers (by walk_at "len2") (b__law_numbers fr ) (fun ds es h => e_numbers h)
  have c__law_numbers : Callee P w K mg base 1 "_law_numbers" [] ["_law_cell", "_law_bounds"] (spO K R_numbers) := ⟨_, _, [], ok__law_numbers, (glo_ok X G (c.fact (86) (f := .fa (.glo "_law_numbers")) rfl)), F__law_numbers.kp, .nil, (FunD.bindsN F__law_numbers fun _ _ _ _ _ _ us hl => match us, hl with | [_, _], _ => rfl)⟩
  obtain ⟨fd__law_single, F__law_single⟩ := c.def_ 32 (d := d__law_single) rfl
  have ok__law_single : FnOk P w K mg base CX0 2 (fAd K ("_law_single", none)) fd__law_single ["_law_digits", "_law_bottom"] (spD K R_single) := fnD F__law_single sc__law_single (by walk_at "len2") (b__law_single fr c__law_worths) (fun ds d h => .inl (e_single h))
  have c__law_single : Callee P w K mg base 2 "_law_single" [] ["_law_digits", "_law_bottom"] (spD K R_single) := ⟨_, _, [], ok__law_single, (glo_ok X G (c.fact (87) (f := .fa (.glo "_law_single")) rfl)), F__law_single.kp, .nil, (FunD.bindsN F__law_single fun _ _ _ _ _ _ us hl => match us, hl with | [_, _], _ => rfl)⟩
  obtain ⟨fd__law_part, F__law_part⟩ := c.def_ 34 (d := d__law_part) rfl
  have ok__law_part : FnOk P w K mg base CX0 3 (fAd K ("_law_part", none)) fd__law_part ["_law_cell", "_law_many", "_law_bottom", "_law_top"] (spD K R_part) := fnD F__law_part sc__law_part (by walk_at "len2") (b__law_part fr c__law_double c__law_numbers c__law_single) (fun ds d h => .inl (e_part h))
  have c__law_part : Callee P w K mg base 3 "_law_part" [] ["_law_cell", "_law_many", "_law_bottom", "_law_top"] (spD K R_part) := ⟨_, _, [], ok__law_part, (glo_ok X G (c.fact (88) (f := .fa (.glo "_law_part")) rfl)), F__law_part.kp, .nil, (FunD.bindsN F__law_part fun _ _ _ _ _ _ us hl => match us, hl with | [_, _, _, _], _ => rfl)⟩
  obtain ⟨fd__law_plain, F__law_plain⟩ := c.def_ 37 (d := d__law_plain) rfl
  have ok__law_plain : FnOk P w K mg base CX0 4 (fAd K ("_law_plain", none)) fd__law_plain ["_law_script", "_law_most", "_law_span"] (spD K R_plain) := fnD F__law_plain sc__law_plain (by walk_at "len2") (b__law_plain fr c__law_cell_at c__law_part) (fun ds d h => .inl (e_plain h))
  have c__law_plain : Callee P w K mg base 4 "_law_plain" [] ["_law_script", "_law_most", "_law_span"] (spD K R_plain) := ⟨_, _, [], ok__law_plain, (glo_ok X G (c.fact (89) (f := .fa (.glo "_law_plain")) rfl)), F__law_plain.kp, .nil, (FunD.bindsN F__law_plain fun _ _ _ _ _ _ us hl => match us, hl with | [_, _, _], _ => rfl)⟩
  obtain ⟨fd__law_point, F__law_point⟩ := c.def_ 39 (d := d__law_point) rfl
  have ok__law_point : FnOk P w K mg base CX0 2 (fAd K ("_law_point", none)) fd__law_point ["_law_cell", "_law_many", "_law_plain_here"] (spO K R_point) := fnO F__law_point sc__law_point (by walk_at "len2") (b__law_point fr c__law_numbers) (fun ds es h => e_point h)
  have c__law_point : Callee P w K mg base 2 "_law_point" [] ["_law_cell", "_law_many", "_law_plain_here"] (spO K R_point) := ⟨_, _, [], ok__law_point, (glo_ok X G (c.fact (90) (f := .fa (.glo "_law_point")) rfl)), F__law_point.kp, .nil, (FunD.bindsN F__law_point fun _ _ _ _ _ _ us hl => match us, hl with | [_, _, _], _ => rfl)⟩
  obtain ⟨fd_asked_point, F_asked_point⟩ := c.def_ 27 (d := d_asked_point) rfl
  have ok_asked_point : FnOk P w K mg base CX0 2 (fAd K ("asked_point", none)) fd_asked_point ["hall", "point"] (spO K (R_asked_point K)) := fnO F_asked_point sc_asked_point (by walk_at "len2") (b_asked_point fr c_is_number (int_ok X G (c.fact (91) (f := .fa (.int "REACH" 1000)) rfl))) (fun ds es h => e_asked_point hf h)
  have c_asked_point : Callee P w K mg base 2 "asked_point" [] ["hall", "point"] (spO K (R_asked_point K)) := ⟨_, _, [], ok_asked_point, (glo_ok X G (c.fact (92) (f := .fa (.glo "asked_point")) rfl)), F_asked_point.kp, .nil, (FunD.bindsN F_asked_point fun _ _ _ _ _ _ us hl => match us, hl with | [_, _], _ => rfl)⟩
  obtain ⟨fd_Part_reads, F_Part_reads⟩ := c.def_ 24 (d := d_Part_reads) rfl
  have fam_reads : MFam P w K mg base CX0 1 "reads" ["self", "point"] (IsP K) (fun C => spD K (R_reads K C)) := fam_of (part_cases
    (⟨_, _, pf.cls _ (by decide +kernel), fc_meth (c.fact (93) (f := .fa (.meth "Slope" "reads")) rfl) (c.fact (94) (f := .same "Slope" "reads" "Part") rfl), fnD F_Part_reads sc_Part_reads (by walk_at "len2") (b_Part_reads fr) (fun ds es h => .inl (e_Part_reads pf h)), (FunD.bindsN F_Part_reads fun _ _ _ _ _ _ us hl => match us, hl with | [_, _], _ => rfl)⟩)
    (⟨_, _, pf.cls _ (by decide +kernel), fc_meth (c.fact (95) (f := .fa (.meth "Aim" "reads")) rfl) (c.fact (96) (f := .same "Aim" "reads" "Part") rfl), fnD F_Part_reads sc_Part_reads (by walk_at "len2") (b_Part_reads fr) (fun ds es h => .inl (e_Part_reads pf h)), (FunD.bindsN F_Part_reads fun _ _ _ _ _ _ us hl => match us, hl with | [_, _], _ => rfl)⟩)
    (⟨_, _, pf.cls _ (by decide +kernel), fc_meth (c.fact (97) (f := .fa (.meth "Square" "reads")) rfl) (c.fact (98) (f := .same "Square" "reads" "Part") rfl), fnD F_Part_reads sc_Part_reads (by walk_at "len2") (b_Part_reads fr) (fun ds es h => .inl (e_Part_reads pf h)), (FunD.bindsN F_Part_reads fun _ _ _ _ _ _ us hl => match us, hl with | [_, _], _ => rfl)⟩)
    (⟨_, _, pf.cls _ (by decide +kernel), fc_meth (c.fact (99) (f := .fa (.meth "Row" "reads")) rfl) (c.fact (100) (f := .same "Row" "reads" "Part") rfl), fnD F_Part_reads sc_Part_reads (by walk_at "len2") (b_Part_reads fr) (fun ds es h => .inl (e_Part_reads pf h)), (FunD.bindsN F_Part_reads fun _ _ _ _ _ _ us hl => match us, hl with | [_, _], _ => rfl)⟩)
    (⟨_, _, pf.cls _ (by decide +kernel), fc_meth (c.fact (101) (f := .fa (.meth "Wall" "reads")) rfl) (c.fact (102) (f := .same "Wall" "reads" "Part") rfl), fnD F_Part_reads sc_Part_reads (by walk_at "len2") (b_Part_reads fr) (fun ds es h => .inl (e_Part_reads pf h)), (FunD.bindsN F_Part_reads fun _ _ _ _ _ _ us hl => match us, hl with | [_, _], _ => rfl)⟩)
    (⟨_, _, pf.cls _ (by decide +kernel), fc_meth (c.fact (103) (f := .fa (.meth "Near" "reads")) rfl) (c.fact (104) (f := .same "Near" "reads" "Part") rfl), fnD F_Part_reads sc_Part_reads (by walk_at "len2") (b_Part_reads fr) (fun ds es h => .inl (e_Part_reads pf h)), (FunD.bindsN F_Part_reads fun _ _ _ _ _ _ us hl => match us, hl with | [_, _], _ => rfl)⟩)
    (⟨_, _, pf.cls _ (by decide +kernel), fc_meth (c.fact (105) (f := .fa (.meth "Gaps" "reads")) rfl) (c.fact (106) (f := .same "Gaps" "reads" "Part") rfl), fnD F_Part_reads sc_Part_reads (by walk_at "len2") (b_Part_reads fr) (fun ds es h => .inl (e_Part_reads pf h)), (FunD.bindsN F_Part_reads fun _ _ _ _ _ _ us hl => match us, hl with | [_, _], _ => rfl)⟩)
    (⟨_, _, pf.cls _ (by decide +kernel), fc_meth (c.fact (107) (f := .fa (.meth "Ahead" "reads")) rfl) (c.fact (108) (f := .same "Ahead" "reads" "Part") rfl), fnD F_Part_reads sc_Part_reads (by walk_at "len2") (b_Part_reads fr) (fun ds es h => .inl (e_Part_reads pf h)), (FunD.bindsN F_Part_reads fun _ _ _ _ _ _ us hl => match us, hl with | [_, _], _ => rfl)⟩)
    (⟨_, _, pf.cls _ (by decide +kernel), fc_meth (c.fact (109) (f := .fa (.meth "Times" "reads")) rfl) (c.fact (110) (f := .same "Times" "reads" "Part") rfl), fnD F_Part_reads sc_Part_reads (by walk_at "len2") (b_Part_reads fr) (fun ds es h => .inl (e_Part_reads pf h)), (FunD.bindsN F_Part_reads fun _ _ _ _ _ _ us hl => match us, hl with | [_, _], _ => rfl)⟩)
    (⟨_, _, pf.cls _ (by decide +kernel), fc_meth (c.fact (111) (f := .fa (.meth "Moved" "reads")) rfl) (c.fact (112) (f := .same "Moved" "reads" "Part") rfl), fnD F_Part_reads sc_Part_reads (by walk_at "len2") (b_Part_reads fr) (fun ds es h => .inl (e_Part_reads pf h)), (FunD.bindsN F_Part_reads fun _ _ _ _ _ _ us hl => match us, hl with | [_, _], _ => rfl)⟩))
  obtain ⟨fd_Slope_worth_of, F_Slope_worth_of⟩ := c.def_ 7 (d := d_Slope_worth_of) rfl
  obtain ⟨fd_Aim_worth_of, F_Aim_worth_of⟩ := c.def_ 9 (d := d_Aim_worth_of) rfl
  obtain ⟨fd_Square_worth_of, F_Square_worth_of⟩ := c.def_ 10 (d := d_Square_worth_of) rfl
  obtain ⟨fd_Row_worth_of, F_Row_worth_of⟩ := c.def_ 12 (d := d_Row_worth_of) rfl
  obtain ⟨fd_Wall_worth_of, F_Wall_worth_of⟩ := c.def_ 14 (d := d_Wall_worth_of) rfl
  obtain ⟨fd_Ahead_worth_of, F_Ahead_worth_of⟩ := c.def_ 18 (d := d_Ahead_worth_of) rfl
  obtain ⟨fd_Times_worth_of, F_Times_worth_of⟩ := c.def_ 21 (d := d_Times_worth_of) rfl
  obtain ⟨fd_Moved_worth_of, F_Moved_worth_of⟩ := c.def_ 23 (d := d_Moved_worth_of) rfl
  have fam_worth_of : ∀ n : Nat, n ≤ 8 → MFam P w K mg base CX0 (n + 1) "worth_of" ["self", "reads"] (IsP K) (fun C => spD K (R_worth K n C)) := by
    intro n
    induction n with
    | zero => exact fun hn => fam_of (part_cases
      (⟨_, _, pf.cls _ (by decide +kernel), fc_meth (c.fact (113) (f := .fa (.meth "Slope" "worth_of")) rfl) (c.fact (114) (f := .same "Slope" "worth_of" "Slope") rfl), (fnD F_Slope_worth_of sc_Slope_worth_of (by walk_at "len2") (b_Slope_worth_of fr) (fun ds d h => .inl (w_Slope pf h))).mono (by omega), (FunD.bindsN F_Slope_worth_of fun _ _ _ _ _ _ us hl => match us, hl with | [_, _], _ => rfl)⟩)
      (⟨_, _, pf.cls _ (by decide +kernel), fc_meth (c.fact (115) (f := .fa (.meth "Aim" "worth_of")) rfl) (c.fact (116) (f := .same "Aim" "worth_of" "Aim") rfl), (fnD F_Aim_worth_of sc_Aim_worth_of (by walk_at "len2") (b_Aim_worth_of fr) (fun ds d h => .inl (w_Aim pf h))).mono (by omega), (FunD.bindsN F_Aim_worth_of fun _ _ _ _ _ _ us hl => match us, hl with | [_, _], _ => rfl)⟩)
      (⟨_, _, pf.cls _ (by decide +kernel), fc_meth (c.fact (117) (f := .fa (.meth "Square" "worth_of")) rfl) (c.fact (118) (f := .same "Square" "worth_of" "Square") rfl), (fnD F_Square_worth_of sc_Square_worth_of (by walk_at "len2") (b_Square_worth_of fr) (fun ds d h => .inl (w_Square pf (by omega) h))).mono (by omega), (FunD.bindsN F_Square_worth_of fun _ _ _ _ _ _ us hl => match us, hl with | [_, _], _ => rfl)⟩)
      (⟨_, _, pf.cls _ (by decide +kernel), fc_meth (c.fact (119) (f := .fa (.meth "Row" "worth_of")) rfl) (c.fact (120) (f := .same "Row" "worth_of" "Row") rfl), (fnD F_Row_worth_of sc_Row_worth_of (by walk_at "len2") (b_Row_worth_of fr) (fun ds d h => .inl (w_Row pf h))).mono (by omega), (FunD.bindsN F_Row_worth_of fun _ _ _ _ _ _ us hl => match us, hl with | [_, _], _ => rfl)⟩)
      (⟨_, _, pf.cls _ (by decide +kernel), fc_meth (c.fact (121) (f := .fa (.meth "Wall" "worth_of")) rfl) (c.fact (122) (f := .same "Wall" "worth_of" "Wall") rfl), (fnD F_Wall_worth_of sc_Wall_worth_of (by walk_at "len2") (b_Wall_worth_of fr) (fun ds d h => .inl (w_Wall pf h))).mono (by omega), (FunD.bindsN F_Wall_worth_of fun _ _ _ _ _ _ us hl => match us, hl with | [_, _], _ => rfl)⟩)
      (⟨_, _, pf.cls _ (by decide +kernel), fc_meth (c.fact (123) (f := .fa (.meth "Near" "worth_of")) rfl) (c.fact (124) (f := .same "Near" "worth_of" "Aim") rfl), (fnD F_Aim_worth_of sc_Aim_worth_of (by walk_at "len2") (b_Aim_worth_of fr) (fun ds d h => .inl (w_Near pf h))).mono (by omega), (FunD.bindsN F_Aim_worth_of fun _ _ _ _ _ _ us hl => match us, hl with | [_, _], _ => rfl)⟩)
      (⟨_, _, pf.cls _ (by decide +kernel), fc_meth (c.fact (125) (f := .fa (.meth "Gaps" "worth_of")) rfl) (c.fact (126) (f := .same "Gaps" "worth_of" "Row") rfl), (fnD F_Row_worth_of sc_Row_worth_of (by walk_at "len2") (b_Row_worth_of fr) (fun ds d h => .inl (w_Gaps pf h))).mono (by omega), (FunD.bindsN F_Row_worth_of fun _ _ _ _ _ _ us hl => match us, hl with | [_, _], _ => rfl)⟩)
      (⟨_, _, pf.cls _ (by decide +kernel), fc_meth (c.fact (127) (f := .fa (.meth "Ahead" "worth_of")) rfl) (c.fact (128) (f := .same "Ahead" "worth_of" "Ahead") rfl), (fnD F_Ahead_worth_of sc_Ahead_worth_of (by walk_at "len2") (b_Ahead_worth_of fr) (fun ds d h => .inl (w_Ahead pf h))).mono (by omega), (FunD.bindsN F_Ahead_worth_of fun _ _ _ _ _ _ us hl => match us, hl with | [_, _], _ => rfl)⟩)
      (⟨_, _, pf.cls _ (by decide +kernel), fc_meth (c.fact (129) (f := .fa (.meth "Times" "worth_of")) rfl) (c.fact (130) (f := .same "Times" "worth_of" "Times") rfl), fnNo F_Times_worth_of sc_Times_worth_of (fun ds d => w_Times0 pf), (FunD.bindsN F_Times_worth_of fun _ _ _ _ _ _ us hl => match us, hl with | [_, _], _ => rfl)⟩)
      (⟨_, _, pf.cls _ (by decide +kernel), fc_meth (c.fact (131) (f := .fa (.meth "Moved" "worth_of")) rfl) (c.fact (132) (f := .same "Moved" "worth_of" "Moved") rfl), fnNo F_Moved_worth_of sc_Moved_worth_of (fun ds d => w_Moved0 pf), (FunD.bindsN F_Moved_worth_of fun _ _ _ _ _ _ us hl => match us, hl with | [_, _], _ => rfl)⟩))
    | succ n ih => exact fun hn => fam_of (part_cases
      (⟨_, _, pf.cls _ (by decide +kernel), fc_meth (c.fact (113) (f := .fa (.meth "Slope" "worth_of")) rfl) (c.fact (114) (f := .same "Slope" "worth_of" "Slope") rfl), (fnD F_Slope_worth_of sc_Slope_worth_of (by walk_at "len2") (b_Slope_worth_of fr) (fun ds d h => .inl (w_Slope pf h))).mono (by omega), (FunD.bindsN F_Slope_worth_of fun _ _ _ _ _ _ us hl => match us, hl with | [_, _], _ => rfl)⟩)
      (⟨_, _, pf.cls _ (by decide +kernel), fc_meth (c.fact (115) (f := .fa (.meth "Aim" "worth_of")) rfl) (c.fact (116) (f := .same "Aim" "worth_of" "Aim") rfl), (fnD F_Aim_worth_of sc_Aim_worth_of (by walk_at "len2") (b_Aim_worth_of fr) (fun ds d h => .inl (w_Aim pf h))).mono (by omega), (FunD.bindsN F_Aim_worth_of fun _ _ _ _ _ _ us hl => match us, hl with | [_, _], _ => rfl)⟩)
      (⟨_, _, pf.cls _ (by decide +kernel), fc_meth (c.fact (117) (f := .fa (.meth "Square" "worth_of")) rfl) (c.fact (118) (f := .same "Square" "worth_of" "Square") rfl), (fnD F_Square_worth_of sc_Square_worth_of (by walk_at "len2") (b_Square_worth_of fr) (fun ds d h => .inl (w_Square pf (by omega) h))).mono (by omega), (FunD.bindsN F_Square_worth_of fun _ _ _ _ _ _ us hl => match us, hl with | [_, _], _ => rfl)⟩)
      (⟨_, _, pf.cls _ (by decide +kernel), fc_meth (c.fact (119) (f := .fa (.meth "Row" "worth_of")) rfl) (c.fact (120) (f := .same "Row" "worth_of" "Row") rfl), (fnD F_Row_worth_of sc_Row_worth_of (by walk_at "len2") (b_Row_worth_of fr) (fun ds d h => .inl (w_Row pf h))).mono (by omega), (FunD.bindsN F_Row_worth_of fun _ _ _ _ _ _ us hl => match us, hl with | [_, _], _ => rfl)⟩)
      (⟨_, _, pf.cls _ (by decide +kernel), fc_meth (c.fact (121) (f := .fa (.meth "Wall" "worth_of")) rfl) (c.fact (122) (f := .same "Wall" "worth_of" "Wall") rfl), (fnD F_Wall_worth_of sc_Wall_worth_of (by walk_at "len2") (b_Wall_worth_of fr) (fun ds d h => .inl (w_Wall pf h))).mono (by omega), (FunD.bindsN F_Wall_worth_of fun _ _ _ _ _ _ us hl => match us, hl with | [_, _], _ => rfl)⟩)
      (⟨_, _, pf.cls _ (by decide +kernel), fc_meth (c.fact (123) (f := .fa (.meth "Near" "worth_of")) rfl) (c.fact (124) (f := .same "Near" "worth_of" "Aim") rfl), (fnD F_Aim_worth_of sc_Aim_worth_of (by walk_at "len2") (b_Aim_worth_of fr) (fun ds d h => .inl (w_Near pf h))).mono (by omega), (FunD.bindsN F_Aim_worth_of fun _ _ _ _ _ _ us hl => match us, hl with | [_, _], _ => rfl)⟩)
      (⟨_, _, pf.cls _ (by decide +kernel), fc_meth (c.fact (125) (f := .fa (.meth "Gaps" "worth_of")) rfl) (c.fact (126) (f := .same "Gaps" "worth_of" "Row") rfl), (fnD F_Row_worth_of sc_Row_worth_of (by walk_at "len2") (b_Row_worth_of fr) (fun ds d h => .inl (w_Gaps pf h))).mono (by omega), (FunD.bindsN F_Row_worth_of fun _ _ _ _ _ _ us hl => match us, hl with | [_, _], _ => rfl)⟩)
      (⟨_, _, pf.cls _ (by decide +kernel), fc_meth (c.fact (127) (f := .fa (.meth "Ahead" "worth_of")) rfl) (c.fact (128) (f := .same "Ahead" "worth_of" "Ahead") rfl), (fnD F_Ahead_worth_of sc_Ahead_worth_of (by walk_at "len2") (b_Ahead_worth_of fr) (fun ds d h => .inl (w_Ahead pf h))).mono (by omega), (FunD.bindsN F_Ahead_worth_of fun _ _ _ _ _ _ us hl => match us, hl with | [_, _], _ => rfl)⟩)
      (⟨_, _, pf.cls _ (by decide +kernel), fc_meth (c.fact (129) (f := .fa (.meth "Times" "worth_of")) rfl) (c.fact (130) (f := .same "Times" "worth_of" "Times") rfl), fnD F_Times_worth_of sc_Times_worth_of (by walk_at "len2") (b_Times_worth_of fr (ih (by omega))) (fun ds d h => .inl (w_Times pf h)), (FunD.bindsN F_Times_worth_of fun _ _ _ _ _ _ us hl => match us, hl with | [_, _], _ => rfl)⟩)
      (⟨_, _, pf.cls _ (by decide +kernel), fc_meth (c.fact (131) (f := .fa (.meth "Moved" "worth_of")) rfl) (c.fact (132) (f := .same "Moved" "worth_of" "Moved") rfl), fnD F_Moved_worth_of sc_Moved_worth_of (by walk_at "len2") (b_Moved_worth_of fr (ih (by omega))) (fun ds d h => .inl (w_Moved pf h)), (FunD.bindsN F_Moved_worth_of fun _ _ _ _ _ _ us hl => match us, hl with | [_, _], _ => rfl)⟩))
  obtain ⟨fd_worth_at, F_worth_at⟩ := c.def_ 28 (d := d_worth_at) rfl
  have ok_worth_at : FnOk P w K mg base CX0 10 (fAd K ("worth_at", none)) fd_worth_at ["hall", "point"] (spD K (R_worth_at K)) := fnD F_worth_at sc_worth_at (by walk_at "len2") (b_worth_at fr fam_reads (fam_worth_of 8 (Nat.le_refl _))) (fun ds d h => .inl (e_worth_at pf hf h))
  have c_worth_at : Callee P w K mg base 10 "worth_at" [] ["hall", "point"] (spD K (R_worth_at K)) := ⟨_, _, [], ok_worth_at, (glo_ok X G (c.fact (133) (f := .fa (.glo "worth_at")) rfl)), F_worth_at.kp, .nil, (FunD.bindsN F_worth_at fun _ _ _ _ _ _ us hl => match us, hl with | [_, _], _ => rfl)⟩
  obtain ⟨fd_Hall_worth, F_Hall_worth⟩ := c.def_ 26 (d := d_Hall_worth) rfl
  have ok_Hall_worth : FnOk P w K mg base CX0 11 (fAd K ("Hall", some "worth")) fd_Hall_worth ["self", "point"] (spD K (R_hworth K)) := fnD F_Hall_worth sc_Hall_worth (by walk_at "len2") (b_Hall_worth fr c_asked_point c_worth_at) (fun ds d h => .inl (e_Hall_worth h))
  have fam_worth : MFam P w K mg base CX0 11 "worth" ["self", "point"] (IsH K) (fun _ => (spD K (R_hworth K))) := ⟨fun C hC => by
    cases hC
    exact ⟨_, _, cls_ok (c.fact (6) (f := .fa (.cls "Hall")) rfl), meth_ok (c.fact (134) (f := .fa (.meth "Hall" "worth")) rfl), ok_Hall_worth, (FunD.bindsN F_Hall_worth fun _ _ _ _ _ _ us hl => match us, hl with | [_, _], _ => rfl)⟩⟩
  obtain ⟨fd__law_two, F__law_two⟩ := c.def_ 40 (d := d__law_two) rfl
  have ok__law_two : FnOk P w K mg base CX0 12 (fAd K ("_law_two", none)) fd__law_two ["_law_hall_here", "_law_one", "_law_other"] (spD K (R_two K)) := fnD F__law_two sc__law_two (by walk_at "len2") (b__law_two fr fam_worth) (fun ds d h => .inl (e_two h))
  have c__law_two : Callee P w K mg base 12 "_law_two" [] ["_law_hall_here", "_law_one", "_law_other"] (spD K (R_two K)) := ⟨_, _, [], ok__law_two, (glo_ok X G (c.fact (135) (f := .fa (.glo "_law_two")) rfl)), F__law_two.kp, .nil, (FunD.bindsN F__law_two fun _ _ _ _ _ _ us hl => match us, hl with | [_, _, _], _ => rfl)⟩
  obtain ⟨fd_law3, F_law3⟩ := c.def_ 41 (d := d_law3) rfl
  have ok_law3 : FnOk P w K mg base CX0 13 (fAd K ("law", none)) fd_law3 ["_law_script"] (spD K R_law) := fnD F_law3 sc_law3 (by walk_at "len2") (b_law3 fr c__law_cell_at c__law_hall c__law_plain c__law_point c__law_two) (fun ds d h => .inl (e_law3 h))
  exact ⟨fd_law3, F_law3, ok_law3, (glo_ok X G (c.fact (137) (f := .fa (.glo "law")) rfl))⟩
abbrev R_row : PySem.W.OpenRow := PySem.W.OpenLaw.row PySem.Challenge.rw_evenbend_k03_whole_even
abbrev hk_row : PySem.W.Hook := hookE 5 fc_row fn_row
def ob_row (s : PySem.W.SharedT) : AlD := obsEG 5 fc_row fn_row (HandSHeadRun.getT s)
theorem ob_row_eq (s : PySem.W.SharedT) : ob_row s = hk_row.obs s.abs := obsEG_eq (HandSHeadRun.getT_eq s)
def loose_row : List PySem.Str := ([("_wall" : PySem.Str), ("BendError" : PySem.Str), ("BadPart" : PySem.Str), ("NotEven" : PySem.Str), ("BadHall" : PySem.Str), ("BadPoint" : PySem.Str), ("PLACES" : PySem.Str), ("WEIGHT" : PySem.Str), ("FAR" : PySem.Str), ("MOST" : PySem.Str), ("WORTH" : PySem.Str), ("is_number" : PySem.Str), ("asked" : PySem.Str), ("Part" : PySem.Str), ("Slope" : PySem.Str), ("Aim" : PySem.Str), ("Square" : PySem.Str), ("asked_worths" : PySem.Str), ("Row" : PySem.Str), ("Wall" : PySem.Str), ("BOUND" : PySem.Str), ("PARTS" : PySem.Str), ("REACH" : PySem.Str), ("Hall" : PySem.Str), ("asked_point" : PySem.Str), ("worth_at" : PySem.Str), ("asked_pair" : PySem.Str), ("Near" : PySem.Str), ("Gaps" : PySem.Str), ("Ahead" : PySem.Str), ("TIMES" : PySem.Str), ("DEEP" : PySem.Str), ("Wrap" : PySem.Str), ("Times" : PySem.Str), ("Moved" : PySem.Str)] : List PySem.Str) ++ ([("_law_cell_at" : PySem.Str), ("_law_numbers" : PySem.Str), ("_law_worths" : PySem.Str), ("_law_single" : PySem.Str), ("_law_double" : PySem.Str), ("_law_part" : PySem.Str), ("_law_at" : PySem.Str), ("_law_reads" : PySem.Str), ("_law_worth" : PySem.Str), ("_law_base" : PySem.Str), ("_law_made" : PySem.Str), ("_law_plain" : PySem.Str), ("_law_hall" : PySem.Str), ("_law_point" : PySem.Str), ("_law_two" : PySem.Str)] : List PySem.Str)
set_option maxHeartbeats 0 in
theorem run_row (w : World) : HandSHeadRun.RunEq R_row (PySem.W.view R_row.prog [56]) hk_row ob_row 20000 loose_row w := by
  intro os
  kernel_rfl
end Eb
open PySem PySem.W PySem.Calls PyProof.Rows
set_option maxHeartbeats 0 in
theorem PySem.Challenge.cw_evenbend_k03_whole_even_holds : PySem.Challenge.rw_evenbend_k03_whole_even.Holds := by
  w_on; o_law
  refine HandSHeadRun.head_any (r := OpenLaw.row PySem.Challenge.rw_evenbend_k03_whole_even) (q := view (OpenLaw.row PySem.Challenge.rw_evenbend_k03_whole_even).prog [56]) (H := Eb.hk_row) (ob := Eb.ob_row) (M := 20000) (loose := Eb.loose_row) (d := HandSHeadRun.topDef (OpenLaw.row PySem.Challenge.rw_evenbend_k03_whole_even).prog 56) (kwd := []) Eb.ob_row_eq
    (by kernel_rfl) (fun s => by kernel_rfl) Eb.run_row (by kernel_rfl) (by kernel_rfl) (by kernel_rfl) (by rfl) (by first | assumption | decide +kernel) (by decide +kernel) ⟨rfl, rfl, rfl, rfl, rfl, by decide +kernel⟩ ?hw ?hc
  case hw => w_witness2
  case hc =>
    refine L2.walk_ofE (l := PySem.Challenge.rw_evenbend_k03_whole_even) (n := 63) (k := 13) (x := "_law_script") (CX := L2.CX0) rfl (by decide) (by kernel_rfl) ⟨rfl, by decide, by decide⟩ ?F (fun _ _ _ _ z => z)
    intro w mg fa h Y G hmg0
    obtain ⟨K, KX, c⟩ := Y
    have hmg : mg ("law" : PySem.Str) = some (.ref fa) := by
      have e : (HandSHeadRun.topDef (OpenLaw.row PySem.Challenge.rw_evenbend_k03_whole_even).prog 56).name = ("law" : PySem.Str) := by kernel_rfl
      rw [← e]
      exact hmg0
    obtain ⟨fd, F, _, hg⟩ := Eb.law_row (P := (PySem.Challenge.rw_evenbend_k03_whole_even).prog) (w := w) (base := h) KX G c
    cases hmg.symm.trans hg
    have b := L2.FunD.bindsA (ps := ["_law_script"]) F fun _ _ _ _ _ _ us hl => match us, hl with | [_], _ => rfl
    refine ⟨K, fd, Eb.spD K Eb.R_law, KX, fun s v => b s [v] rfl, fun H a ns hl _ hS => Eb.law_in hS ⟨ns, rfl, hl, rfl⟩, fun base _ _ => ?_⟩
    obtain ⟨fd2, F2, ok, _⟩ := Eb.law_row (P := (PySem.Challenge.rw_evenbend_k03_whole_even).prog) (w := w) (base := base) KX G c
    rw [Eb.fd_uniq F F2]
    exact ok

