import PyProof.Rows.All
import Wide.All
import OpenK.AllK
import Wide.FinOn
import HandS.ForMost
import HandS.ForExc
import HandS.EndBits
import HandS.WideBits
import HandS.Wide
import HandS.IsInst
import HandS.Conv
import HandS.Flow
import HandS.Rev
import HandS.SortInts
import HandS.Defaults
import HandS.Head0
import HandS.Head1
import HandS.Head2
import HandS.HeadEnd
import HandS.HeadHook1
import HandS.HeadHook2
import PySem.Builtin.Int.Common
import PySem.Challenge.RW_outpressed_k31_overtaking_number
set_option Elab.async false
set_option linter.all false
set_option maxRecDepth 100000
namespace DL
open PySem PySem.Spec PyProof.Rows L2

/-- a Python value; a dict: its keys and its values, in order; an instance: its class, the names of its attributes, their values -/
inductive D where
  | non | bl (b : Bool) | int (i : Int) | str (x : List Nat) | tup (xs : List D) | lst (xs : List D) | scr (xs : List Int)
  | dk (ks : List Key) (xs : List D) | dt (ks : List (List Key)) (xs : List D) | ins (C : Addr) (fs : List Str) (xs : List D)

mutual
def Rep (K : PySem.W.Frag) (G : Hp) : D → V → Prop
  | .non, v => v = .non
  | .bl b, v => v = .bl b
  | .int i, v => v = .int i
  | .str x, v => v = .str ⟨x.toArray⟩
  | .tup ds, v => ∃ a vs, v = .ref a ∧ SqT K G a vs ∧ Reps K G ds vs
  | .lst ds, v => ∃ a vs, v = .ref a ∧ G a = some (.lst vs) ∧ Reps K G ds vs
  | .scr xs, v => ∃ a, v = .ref a ∧ SqL K G a (xs.map V.int)
  | .dk ks ds, v => ∃ a vs, v = .ref a ∧ G a = some (.dK (ks.zip vs)) ∧ ks.length = ds.length ∧ Reps K G ds vs
  | .dt ks ds, v => ∃ a vs, v = .ref a ∧ G a = some (.dT (ks.zip vs)) ∧ ks.length = ds.length ∧ Reps K G ds vs
  | .ins C fs ds, v => ∃ a dx vs, v = .ref a ∧ G a = some (.ins C dx (fs.zip vs)) ∧ fs.length = ds.length ∧ Reps K G ds vs
def Reps (K : PySem.W.Frag) (G : Hp) : List D → List V → Prop
  | [], vs => vs = []
  | d :: ds, vs => ∃ v r, vs = v :: r ∧ Rep K G d v ∧ Reps K G ds r
end

section
variable {K : PySem.W.Frag} {G G' H H' : Hp}
theorem Same.sqt {a : Addr} {xs : List V} (e : Same G G') (h : SqT K G a xs) : SqT K G' a xs := by
  rcases h with (h | ⟨o, h⟩) | h
  · exact .inl (.inl (e _ _ h))
  · exact .inl (.inr ⟨o, e _ _ h⟩)
  · exact .inr h
mutual
theorem Rep.mono (e : Same G G') : ∀ (d : D) (v : V), Rep K G d v → Rep K G' d v
  | .non, _, h => h
  | .bl _, _, h => h
  | .int _, _, h => h
  | .str _, _, h => h
  | .tup ds, _, ⟨a, vs, e1, s, r⟩ => ⟨a, vs, e1, Same.sqt e s, Reps.mono e ds vs r⟩
  | .lst ds, _, ⟨a, vs, e1, s, r⟩ => ⟨a, vs, e1, e _ _ s, Reps.mono e ds vs r⟩
  | .scr _, _, ⟨a, e1, s⟩ => ⟨a, e1, e.seq s⟩
  | .dk _ ds, _, ⟨a, vs, e1, s, l, r⟩ => ⟨a, vs, e1, e _ _ s, l, Reps.mono e ds vs r⟩
  | .dt _ ds, _, ⟨a, vs, e1, s, l, r⟩ => ⟨a, vs, e1, e _ _ s, l, Reps.mono e ds vs r⟩
  | .ins _ _ ds, _, ⟨a, dx, vs, e1, s, l, r⟩ => ⟨a, dx, vs, e1, e _ _ s, l, Reps.mono e ds vs r⟩
theorem Reps.mono (e : Same G G') : ∀ (ds : List D) (vs : List V), Reps K G ds vs → Reps K G' ds vs
  | [], _, h => h
  | d :: ds, _, ⟨v, r, e1, a, b⟩ => ⟨v, r, e1, Rep.mono e d v a, Reps.mono e ds r b⟩
end
theorem Reps.len : ∀ {ds : List D} {vs : List V}, Reps K G ds vs → vs.length = ds.length
  | [], _, h => by cases h; rfl
  | _ :: ds, _, ⟨v, r, e1, _, b⟩ => by
    subst e1
    rw [List.length_cons, List.length_cons, Reps.len b]
theorem Reps.get : ∀ {ds : List D} {vs : List V} {i : Nat} {d : D}, Reps K G ds vs → ds[i]? = some d → ∃ v, vs[i]? = some v ∧ Rep K G d v
  | [], _, i, d, h, e => by simp at e
  | x :: ds, _, 0, d, ⟨v, r, e1, a, b⟩, e => by
    subst e1
    cases (show x = d by simpa using e)
    exact ⟨v, rfl, a⟩
  | x :: ds, _, i + 1, d, ⟨v, r, e1, a, b⟩, e => by
    subst e1
    obtain ⟨w, h1, h2⟩ := Reps.get b (show ds[i]? = some d by simpa using e)
    exact ⟨w, by simpa using h1, h2⟩
theorem Reps.get' : ∀ {ds : List D} {vs : List V} {i : Nat} {v : V}, Reps K G ds vs → vs[i]? = some v → ∃ d, ds[i]? = some d ∧ Rep K G d v := by
  intro ds vs i v h e
  have hl := h.len
  have : i < ds.length := by
    rw [← hl]
    exact (List.getElem?_eq_some_iff.mp e).1
  obtain ⟨w, h1, h2⟩ := h.get (List.getElem?_eq_getElem this)
  rw [e] at h1
  cases h1
  exact ⟨_, List.getElem?_eq_getElem this, h2⟩
theorem Reps.append : ∀ {ds es : List D} {vs ws : List V}, Reps K G ds vs → Reps K G es ws → Reps K G (ds ++ es) (vs ++ ws)
  | [], _, _, _, h, q => by cases h; exact q
  | d :: ds, es, _, ws, ⟨v, r, e1, a, b⟩, q => by
    subst e1
    exact ⟨v, r ++ ws, rfl, a, Reps.append b q⟩
theorem Reps.one {d : D} {v : V} (h : Rep K G d v) : Reps K G [d] [v] := ⟨v, [], rfl, h, rfl⟩
theorem Reps.drop : ∀ {ds : List D} {vs : List V} (n : Nat), Reps K G ds vs → Reps K G (ds.drop n) (vs.drop n)
  | _, _, 0, h => h
  | [], _, n + 1, h => by cases h; exact (rfl : _ = _)
  | d :: ds, _, n + 1, ⟨v, r, e1, a, b⟩ => by subst e1; exact Reps.drop n b
theorem Reps.take : ∀ {ds : List D} {vs : List V} (n : Nat), Reps K G ds vs → Reps K G (ds.take n) (vs.take n)
  | _, _, 0, h => (rfl : _ = _)
  | [], _, n + 1, h => by cases h; exact (rfl : _ = _)
  | d :: ds, _, n + 1, ⟨v, r, e1, a, b⟩ => by subst e1; exact ⟨v, r.take n, rfl, a, Reps.take n b⟩
theorem Reps.set : ∀ {ds : List D} {vs : List V} (n : Nat) {d : D} {v : V}, Reps K G ds vs → Rep K G d v → Reps K G (ds.set n d) (vs.set n v)
  | [], _, n, _, _, h, _ => by cases h; cases n <;> exact (rfl : _ = _)
  | d :: ds, _, 0, _, w, ⟨v, r, e1, a, b⟩, q => by subst e1; exact ⟨w, r, rfl, q, b⟩
  | d :: ds, _, n + 1, _, w, ⟨v, r, e1, a, b⟩, q => by subst e1; exact ⟨v, _, rfl, a, Reps.set n b q⟩
theorem Reps.reverse {ds : List D} {vs : List V} (h : Reps K G ds vs) : Reps K G ds.reverse vs.reverse := by
  induction ds generalizing vs with
  | nil => cases h; exact (rfl : _ = _)
  | cons d ds ih =>
    obtain ⟨v, r, e1, a, b⟩ := h
    subst e1
    rw [List.reverse_cons, List.reverse_cons]
    exact (ih b).append (Reps.one a)
theorem Reps.dropLast {ds : List D} {vs : List V} (h : Reps K G ds vs) : Reps K G ds.dropLast vs.dropLast := by
  rw [List.dropLast_eq_take, List.dropLast_eq_take, h.len]
  exact h.take _
theorem Reps.flat {ds : List D} {vs : List V} (h : Reps K G ds vs) : ∀ n : Nat, Reps K G (List.replicate n ds).flatten (List.replicate n vs).flatten
  | 0 => (rfl : _ = _)
  | n + 1 => by
    rw [List.replicate_succ, List.replicate_succ, List.flatten_cons, List.flatten_cons]
    exact h.append (Reps.flat h n)
theorem Reps.ints : ∀ (ns : List Int), Reps K G (ns.map D.int) (ns.map V.int)
  | [] => rfl
  | n :: ns => ⟨_, _, rfl, rfl, Reps.ints ns⟩
end

inductive Sl where
  | no | fz (d : D) | ow (d : D)
abbrev DEnv := List Sl
/-- what an object that can be owned holds -/
def Cont (K : PySem.W.Frag) (G : Hp) : D → HO → Prop
  | .lst ds, o => ∃ vs, o = .lst vs ∧ Reps K G ds vs
  | .dk ks ds, o => ∃ vs, o = .dK (ks.zip vs) ∧ ks.length = ds.length ∧ Reps K G ds vs
  | .dt ks ds, o => ∃ vs, o = .dT (ks.zip vs) ∧ ks.length = ds.length ∧ Reps K G ds vs
  | .ins C fs ds, o => ∃ dx vs, o = .ins C dx (fs.zip vs) ∧ fs.length = ds.length ∧ Reps K G ds vs
  | _, _ => False
theorem Cont.mono {K : PySem.W.Frag} {G G' : Hp} (e : Same G G') : ∀ {d : D} {o : HO}, Cont K G d o → Cont K G' d o
  | .lst _, _, ⟨vs, h, r⟩ => ⟨vs, h, r.mono e⟩
  | .dk _ _, _, ⟨vs, h, l, r⟩ => ⟨vs, h, l, r.mono e⟩
  | .dt _ _, _, ⟨vs, h, l, r⟩ => ⟨vs, h, l, r.mono e⟩
  | .ins _ _ _, _, ⟨dx, vs, h, l, r⟩ => ⟨dx, vs, h, l, r.mono e⟩
  | .non, _, h => h.elim
  | .bl _, _, h => h.elim
  | .int _, _, h => h.elim
  | .str _, _, h => h.elim
  | .tup _, _, h => h.elim
  | .scr _, _, h => h.elim
theorem Cont.rep {K : PySem.W.Frag} {G : Hp} {p : Addr} : ∀ {d : D} {o : HO}, Cont K G d o → G p = some o → Rep K G d (.ref p)
  | .lst _, _, ⟨vs, h, r⟩, e => ⟨p, vs, rfl, by rw [e, h], r⟩
  | .dk _ _, _, ⟨vs, h, l, r⟩, e => ⟨p, vs, rfl, by rw [e, h], l, r⟩
  | .dt _ _, _, ⟨vs, h, l, r⟩, e => ⟨p, vs, rfl, by rw [e, h], l, r⟩
  | .ins _ _ _, _, ⟨dx, vs, h, l, r⟩, e => ⟨p, dx, vs, rfl, by rw [e, h], l, r⟩
  | .non, _, h, _ => h.elim
  | .bl _, _, h, _ => h.elim
  | .int _, _, h, _ => h.elim
  | .str _, _, h, _ => h.elim
  | .tup _, _, h, _ => h.elim
  | .scr _, _, h, _ => h.elim
/-- an owned object -/
def OwnAt (K : PySem.W.Frag) (G H : Hp) (p : Addr) (d : D) : Prop := ∃ o, H p = some o ∧ Cont K G d o
/-- the value of a slot -/
def SlOk (K : PySem.W.Frag) (H0 G H : Hp) : Sl → Option V → Prop
  | .no, _ => True
  | .fz d, x => ∃ v, x = some v ∧ Rep K G d v
  | .ow d, x => ∃ p, x = some (.ref p) ∧ G p = none ∧ H0 p = none ∧ OwnAt K G H p d
def isOw : Sl → Bool
  | .ow _ => true
  | _ => false
structure ER (K : PySem.W.Frag) (G0 H0 : Hp) (env : DEnv) (σ : L2.St) (G H : Hp) : Prop where
  sub : Same G H
  old : Same H0 H
  gold : ∀ b, H0 b ≠ none → G b = G0 b
  len : env.length = σ.length
  sl : ∀ (i : Nat) (s : Sl) (x : Option V), env[i]? = some s → σ[i]? = some x → SlOk K H0 G H s x
  sep : ∀ (i j : Nat) (s t : Sl) (x : Option V), i ≠ j → env[i]? = some s → isOw s = true → env[j]? = some t → isOw t = true → σ[i]? = some x → σ[j]? ≠ some x

section
variable {K : PySem.W.Frag} {G0 H0 G G' H H' : Hp} {env : DEnv} {σ : L2.St}
theorem OwnAt.mono {p : Addr} {d : D} (e : Same G G') (k : H' p = H p) (h : OwnAt K G H p d) : OwnAt K G' H' p d := by
  obtain ⟨o, h, c⟩ := h
  exact ⟨o, k.trans h, c.mono e⟩
theorem OwnAt.some {p : Addr} {d : D} (h : OwnAt K G H p d) : H p ≠ none := by
  obtain ⟨o, h, c⟩ := h
  rw [h]
  exact fun z => by cases z
theorem SlOk.mono (e : Same G G') (k : ∀ p, G p = none → H0 p = none → H p ≠ none → H' p = H p ∧ G' p = none) : ∀ {s : Sl} {x : Option V}, SlOk K H0 G H s x → SlOk K H0 G' H' s x
  | .no, _, _ => trivial
  | .fz d, x, ⟨v, h, r⟩ => ⟨v, h, r.mono e⟩
  | .ow d, x, ⟨p, h, g, h0, r⟩ => by
    obtain ⟨k1, k2⟩ := k p g h0 r.some
    exact ⟨p, h, k2, h0, r.mono e k1⟩
/-- all that stood is kept; what is new may be frozen -/
theorem ER.ext (I : ER K G0 H0 env σ G H) (hH : Same H H') (hG : ∀ b, H b ≠ none → G' b = G b) (hs : Same G' H') : ER K G0 H0 env σ G' H' ∧ Same G G' := by
  have sG : Same G G' := fun b o q => by
    rw [hG b (by rw [I.sub b o q]; exact fun z => by cases z)]
    exact q
  refine ⟨⟨hs, I.old.trans hH, fun b q => ?_, I.len, fun i s x h1 h2 => (I.sl i s x h1 h2).mono sG fun p g h0 hp => ?_, I.sep⟩, sG⟩
  · rw [hG b ?_]
    · exact I.gold b q
    · cases z : H0 b with
      | none => exact absurd z q
      | some o => rw [I.old b o z]; exact fun z => by cases z
  · refine ⟨?_, (hG p hp).trans g⟩
    cases z : H p with
    | none => exact absurd z hp
    | some o => exact hH p o z
/-- a new frozen object -/
theorem ER.new (I : ER K G0 H0 env σ G H) {p : Addr} {o : HO} (hp : H p = none) : ER K G0 H0 env σ (upd G p o) (upd H p o) ∧ Same G (upd G p o) := by
  refine I.ext (fun b x q => ?_) (fun b q => ?_) fun b x q => ?_
  · rw [upd_ne (ne_of_none q hp)]; exact q
  · have : b ≠ p := fun z => q (by rw [z]; exact hp)
    rw [upd_ne this]
  · by_cases hb : b = p
    · subst hb; rw [upd_same] at q ⊢; exact q
    · rw [upd_ne hb] at q ⊢; exact I.sub _ _ q
theorem ER.newH (I : ER K G0 H0 env σ G H) {p : Addr} {o : HO} (hp : H p = none) : ER K G0 H0 env σ G (upd H p o) := by
  refine (I.ext (G' := G) (fun b x q => ?_) (fun b q => rfl) fun b x q => ?_).1
  · rw [upd_ne (ne_of_none q hp)]; exact q
  · rw [upd_ne (ne_of_none (I.sub _ _ q) hp)]; exact I.sub _ _ q
theorem ER.free (I : ER K G0 H0 env σ G H) {p : Addr} (hp : H p = none) : G p = none ∧ H0 p = none := by
  constructor
  · cases q : G p with
    | none => rfl
    | some o => rw [I.sub _ _ q] at hp; cases hp
  · cases q : H0 p with
    | none => rfl
    | some o => rw [I.old _ _ q] at hp; cases hp
/-- an owned value in the hand -/
def OwnV (K : PySem.W.Frag) (H0 : Hp) (env : DEnv) (σ : L2.St) (G H : Hp) (v : V) (d : D) : Prop :=
  ∃ p, v = .ref p ∧ G p = none ∧ H0 p = none ∧ OwnAt K G H p d ∧ ∀ (i : Nat) (s : Sl), env[i]? = some s → isOw s = true → σ[i]? ≠ some (some (.ref p))
theorem ER.noslot (I : ER K G0 H0 env σ G H) {p : Addr} (hp : H p = none) (i : Nat) (s : Sl) (h1 : env[i]? = some s) (h2 : isOw s = true) : σ[i]? ≠ some (some (.ref p)) := fun h3 => by
  have := I.sl i s _ h1 h3
  cases s with
  | no => cases h2
  | fz d => cases h2
  | ow d =>
    obtain ⟨q, e, _, _, own⟩ := this
    cases e
    exact own.some hp
theorem ER.freshOwn (I : ER K G0 H0 env σ G H) {p : Addr} (hp : H p = none) {d : D} {o : HO} (r : Cont K G d o) : OwnV K H0 env σ G (upd H p o) (.ref p) d :=
  ⟨p, rfl, (I.free hp).1, (I.free hp).2, ⟨o, upd_same, r⟩, I.noslot hp⟩
/-- it is frozen -/
theorem ER.freeze (I : ER K G0 H0 env σ G H) {v : V} {d : D} (o : OwnV K H0 env σ G H v d) : ∃ G', Same G G' ∧ ER K G0 H0 env σ G' H ∧ Rep K G' d v := by
  obtain ⟨p, rfl, g, h0, ⟨ob, hp, r⟩, sep⟩ := o
  have sG : Same G (upd G p ob) := fun b o q => by rw [upd_ne (ne_of_none q g)]; exact q
  refine ⟨upd G p ob, sG, ⟨fun b o q => ?_, I.old, fun b q => ?_, I.len, fun i s x h1 h2 => ?_, I.sep⟩, (r.mono sG).rep upd_same⟩
  · by_cases hb : b = p
    · subst hb; rw [upd_same] at q; cases q; exact hp
    · rw [upd_ne hb] at q; exact I.sub _ _ q
  · have : b ≠ p := fun z => q (by rw [z]; exact h0)
    rw [upd_ne this]; exact I.gold b q
  · have old := I.sl i s x h1 h2
    cases s with
    | no => trivial
    | fz d => obtain ⟨w, e, q⟩ := old; exact ⟨w, e, q.mono sG⟩
    | ow d =>
      obtain ⟨q, e, g', h0', own'⟩ := old
      have : q ≠ p := fun z => by
        subst z
        exact sep i _ h1 rfl (by rw [h2, e])
      exact ⟨q, e, by rw [upd_ne this]; exact g', h0', own'.mono sG rfl⟩
/-- a slot gets a frozen value -/
theorem ER.setF (I : ER K G0 H0 env σ G H) {v : V} {d : D} (r : Rep K G d v) (i : Nat) : ER K G0 H0 (env.set i (.fz d)) (σ.set i (some v)) G H := by
  refine ⟨I.sub, I.old, I.gold, by rw [List.length_set, List.length_set]; exact I.len, fun j s x h1 h2 => ?_, fun j k s t x hjk h1 h2 h3 h4 h5 => ?_⟩
  · by_cases hj : i = j
    · subst hj
      have l1 : i < env.length := by have := (List.getElem?_eq_some_iff.mp h1).1; rwa [List.length_set] at this
      have l2 : i < σ.length := by rw [← I.len]; exact l1
      rw [List.getElem?_set_self l1] at h1
      rw [List.getElem?_set_self l2] at h2
      cases h1; cases h2
      exact ⟨v, rfl, r⟩
    · rw [List.getElem?_set_ne hj] at h1 h2
      exact I.sl j s x h1 h2
  · have n1 : i ≠ j := fun z => by
      subst z
      have l1 : i < env.length := by have := (List.getElem?_eq_some_iff.mp h1).1; rwa [List.length_set] at this
      rw [List.getElem?_set_self l1] at h1
      cases h1; cases h2
    have n2 : i ≠ k := fun z => by
      subst z
      have l1 : i < env.length := by have := (List.getElem?_eq_some_iff.mp h3).1; rwa [List.length_set] at this
      rw [List.getElem?_set_self l1] at h3
      cases h3; cases h4
    rw [List.getElem?_set_ne n1] at h1 h5
    rw [List.getElem?_set_ne n2] at h3 ⊢
    exact I.sep j k s t x hjk h1 h2 h3 h4 h5
/-- a slot gets an owned value -/
theorem ER.setO (I : ER K G0 H0 env σ G H) {v : V} {d : D} (o : OwnV K H0 env σ G H v d) (i : Nat) : ER K G0 H0 (env.set i (.ow d)) (σ.set i (some v)) G H := by
  obtain ⟨p, rfl, g, h0, own, sep⟩ := o
  refine ⟨I.sub, I.old, I.gold, by rw [List.length_set, List.length_set]; exact I.len, fun j s x h1 h2 => ?_, fun j k s t x hjk h1 h2 h3 h4 h5 => ?_⟩
  · by_cases hj : i = j
    · subst hj
      have l1 : i < env.length := by have := (List.getElem?_eq_some_iff.mp h1).1; rwa [List.length_set] at this
      have l2 : i < σ.length := by rw [← I.len]; exact l1
      rw [List.getElem?_set_self l1] at h1
      rw [List.getElem?_set_self l2] at h2
      cases h1; cases h2
      exact ⟨p, rfl, g, h0, own⟩
    · rw [List.getElem?_set_ne hj] at h1 h2
      exact I.sl j s x h1 h2
  · by_cases hj : i = j
    · subst hj
      have l1 : i < env.length := by have := (List.getElem?_eq_some_iff.mp h1).1; rwa [List.length_set] at this
      have l2 : i < σ.length := by rw [← I.len]; exact l1
      rw [List.getElem?_set_self l2] at h5
      cases h5
      rw [List.getElem?_set_ne hjk] at h3 ⊢
      exact sep k t h3 h4
    · rw [List.getElem?_set_ne hj] at h1 h5
      by_cases hk : i = k
      · subst hk
        have l1 : i < env.length := by have := (List.getElem?_eq_some_iff.mp h3).1; rwa [List.length_set] at this
        have l2 : i < σ.length := by rw [← I.len]; exact l1
        rw [List.getElem?_set_self l2]
        intro z
        cases z
        exact sep j s h1 h2 h5
      · rw [List.getElem?_set_ne hk] at h3 ⊢
        exact I.sep j k s t x hjk h1 h2 h3 h4 h5
/-- what an owned slot holds is taken out -/
theorem ER.take (I : ER K G0 H0 env σ G H) {i : Nat} {d : D} (h : env[i]? = some (.ow d)) : ∃ v, σ[i]? = some (some v) ∧ OwnV K H0 (env.set i .no) σ G H v d ∧ ER K G0 H0 (env.set i .no) σ G H := by
  have l1 : i < env.length := (List.getElem?_eq_some_iff.mp h).1
  have l2 : i < σ.length := by rw [← I.len]; exact l1
  obtain ⟨p, e, g, h0, own⟩ := I.sl i _ _ h (List.getElem?_eq_getElem l2)
  have e' : σ[i]? = some (some (.ref p)) := by rw [List.getElem?_eq_getElem l2, e]
  refine ⟨.ref p, e', ⟨p, rfl, g, h0, own, fun j s h1 h2 h3 => ?_⟩, ⟨I.sub, I.old, I.gold, by rw [List.length_set]; exact I.len, fun j s x h1 h2 => ?_, fun j k s t x hjk h1 h2 h3 h4 h5 => ?_⟩⟩
  · by_cases hj : i = j
    · subst hj
      rw [List.getElem?_set_self l1] at h1
      cases h1; cases h2
    · rw [List.getElem?_set_ne hj] at h1
      exact I.sep j i s _ _ (Ne.symm hj) h1 h2 h rfl h3 e'
  · by_cases hj : i = j
    · subst hj
      rw [List.getElem?_set_self l1] at h1
      cases h1; trivial
    · rw [List.getElem?_set_ne hj] at h1
      exact I.sl j s x h1 h2
  · have n1 : i ≠ j := fun z => by
      subst z
      rw [List.getElem?_set_self l1] at h1
      cases h1; cases h2
    have n2 : i ≠ k := fun z => by
      subst z
      rw [List.getElem?_set_self l1] at h3
      cases h3; cases h4
    rw [List.getElem?_set_ne n1] at h1
    rw [List.getElem?_set_ne n2] at h3
    exact I.sep j k s t x hjk h1 h2 h3 h4 h5
/-- an owned object is changed -/
theorem ER.write (I : ER K G0 H0 env σ G H) {i : Nat} {d e : D} {o : HO} (h : env[i]? = some (.ow d)) (c : Cont K G e o) : ∃ p, σ[i]? = some (some (.ref p)) ∧ OwnAt K G H p d ∧ ER K G0 H0 (env.set i (.ow e)) σ G (upd H p o) := by
  have l1 : i < env.length := (List.getElem?_eq_some_iff.mp h).1
  have l2 : i < σ.length := by rw [← I.len]; exact l1
  obtain ⟨p, q, g, h0, own⟩ := I.sl i _ _ h (List.getElem?_eq_getElem l2)
  have q' : σ[i]? = some (some (.ref p)) := by rw [List.getElem?_eq_getElem l2, q]
  have hown : ∀ (j : Nat) (t : Sl), (env.set i (.ow e))[j]? = some t → isOw t = true → ∃ u, env[j]? = some u ∧ isOw u = true := fun j t h1 h2 => by
    by_cases hj : i = j
    · subst hj; exact ⟨_, h, rfl⟩
    · rw [List.getElem?_set_ne hj] at h1; exact ⟨t, h1, h2⟩
  refine ⟨p, q', own, ⟨fun b x z => ?_, fun b x z => ?_, I.gold, by rw [List.length_set]; exact I.len, fun j s x h1 h2 => ?_, fun j k s t x hjk h1 h2 h3 h4 h5 => ?_⟩⟩
  · rw [upd_ne (ne_of_none z g)]; exact I.sub _ _ z
  · rw [upd_ne (ne_of_none z h0)]; exact I.old _ _ z
  · by_cases hj : i = j
    · subst hj
      rw [List.getElem?_set_self l1] at h1
      rw [q'] at h2
      cases h1; cases h2
      exact ⟨p, rfl, g, h0, o, upd_same, c⟩
    · rw [List.getElem?_set_ne hj] at h1
      have old := I.sl j s x h1 h2
      cases s with
      | no => trivial
      | fz d => exact old
      | ow d =>
        obtain ⟨r, e1, g', h0', own'⟩ := old
        have : r ≠ p := fun z => by
          subst z
          exact I.sep i j _ _ _ hj h rfl h1 rfl q' (by rw [h2, e1])
        exact ⟨r, e1, g', h0', own'.mono (Same.refl G) (upd_ne this)⟩
  · obtain ⟨s', a1, a2⟩ := hown j s h1 h2
    obtain ⟨t', b1, b2⟩ := hown k t h3 h4
    exact I.sep j k s' t' x hjk a1 a2 b1 b2 h5
end
end DL

set_option Elab.async false
set_option linter.all false
set_option maxRecDepth 100000
namespace DL
open PySem PySem.Spec PyProof.Rows L2

/-- contexts that share the written part: a def's one, or a comprehension's blocks -/
structure Fam where
  ι : Type
  X : ι → Cx
  K : PySem.W.Frag
  hK : ∀ i, (X i).K = K
abbrev DQ := D → DEnv → Prop
abbrev DE := DEnv → DQ → Prop
abbrev DT := DEnv → (Bool → DEnv → Prop) → Prop
abbrev DA := DEnv → (List D → DEnv → Prop) → Prop

def SemE (K : PySem.W.Frag) (te : TE) (t : DE) : Prop := ∀ (G0 H0 : Hp) (env : DEnv) (σ : L2.St) (G H : Hp) (Q : DQ) (R : VK), ER K G0 H0 env σ G H → t env Q →
  (∀ v H' G' env' d, Same G G' → ER K G0 H0 env' σ G' H' → Rep K G' d v → Q d env' → R v H') → te σ H R
def SemO (K : PySem.W.Frag) (te : TE) (t : DE) : Prop := ∀ (G0 H0 : Hp) (env : DEnv) (σ : L2.St) (G H : Hp) (Q : DQ) (R : VK), ER K G0 H0 env σ G H → t env Q →
  (∀ v H' G' env' d, Same G G' → ER K G0 H0 env' σ G' H' → OwnV K H0 env' σ G' H' v d → Q d env' → R v H') → te σ H R
def SemT (K : PySem.W.Frag) (te : TT) (t : DT) : Prop := ∀ (G0 H0 : Hp) (env : DEnv) (σ : L2.St) (G H : Hp) (Q : Bool → DEnv → Prop) (R : Bool → Hp → Prop), ER K G0 H0 env σ G H → t env Q →
  (∀ b H' G' env', Same G G' → ER K G0 H0 env' σ G' H' → Q b env' → R b H') → te σ H R
def SemA (K : PySem.W.Frag) (te : TA) (t : DA) : Prop := ∀ (G0 H0 : Hp) (env : DEnv) (σ : L2.St) (G H : Hp) (Q : List D → DEnv → Prop) (R : List V → Hp → Prop), ER K G0 H0 env σ G H → t env Q →
  (∀ vs H' G' env' ds, Same G G' → ER K G0 H0 env' σ G' H' → Reps K G' ds vs → Q ds env' → R vs H') → te σ H R
def QE (F : Fam) (e : Expr) (t : DE) : Prop := ∃ te : TE, (∀ i, PE (F.X i) e te) ∧ SemE F.K te t
def QO (F : Fam) (e : Expr) (t : DE) : Prop := ∃ te : TE, (∀ i, PE (F.X i) e te) ∧ SemO F.K te t
def QT (F : Fam) (e : Expr) (t : DT) : Prop := ∃ te : TT, (∀ i, PT (F.X i) e te) ∧ SemT F.K te t
def QW (F : Fam) (e : Expr) (t : DT) : Prop := ∃ te : TT, (∀ i, PW (F.X i) e te) ∧ SemT F.K te t
def QA (F : Fam) (es : List Expr) (t : DA) : Prop := ∃ te : TA, (∀ i, PA (F.X i) es te) ∧ SemA F.K te t

section
variable {F : Fam} {e a b c o : Expr} {es : List Expr} {t ta tb tc : DE} {tt tu : DT} {tA : DA} {pos : Pos}
/-- what is owned may be frozen -/
theorem SemO.semE {K : PySem.W.Frag} {te : TE} (h : SemO K te t) : SemE K te t := fun G0 H0 env σ G H Q R I q r =>
  h G0 H0 env σ G H Q R I q fun v H' G' env' d s1 I1 ow q1 => by
    obtain ⟨G2, s2, I2, rp⟩ := I1.freeze ow
    exact r v H' G2 env' d (s1.trans s2) I2 rp q1
theorem QO.qe (h : QO F e t) : QE F e t := let ⟨te, p, s⟩ := h; ⟨te, p, s.semE⟩

def gs : DEnv → Nat → Sl
  | [], _ => .no
  | s :: _, 0 => s
  | _ :: r, i + 1 => gs r i
theorem gs_get : ∀ {env : DEnv} {i : Nat} {s : Sl}, gs env i = s → s ≠ .no → env[i]? = some s
  | [], _, _, h, n => absurd h.symm n
  | x :: _, 0, _, h, _ => by rw [← h]; rfl
  | x :: r, i + 1, s, h, n => by rw [List.getElem?_cons_succ]; exact gs_get (env := r) h n
def ss : DEnv → Nat → Sl → DEnv
  | [], _, _ => []
  | _ :: r, 0, s => s :: r
  | x :: r, i + 1, s => x :: ss r i s
theorem ss_set : ∀ (env : DEnv) (i : Nat) (s : Sl), ss env i s = env.set i s
  | [], i, s => by cases i <;> rfl
  | _ :: _, 0, _ => rfl
  | x :: r, i + 1, s => by rw [List.set_cons_succ, ← ss_set r i s]; rfl
def rdSl (env : DEnv) (i : Nat) (Q : DQ) : Sl → Prop
  | .fz d => Q d env
  | .ow d => Q d (ss env i (.fz d))
  | .no => False
def dVar (i : Nat) : DE := fun env Q => rdSl env i Q (gs env i)
theorem set_same {α : Type} : ∀ {l : List α} {i : Nat} {x : α}, l[i]? = some x → l.set i x = l
  | [], _, _, h => by simp at h
  | y :: r, 0, x, h => by simp at h; simp [h]
  | y :: r, i + 1, x, h => by rw [List.set_cons_succ, set_same (by simpa using h)]
/-- an owned slot is frozen -/
theorem ER.frz {K : PySem.W.Frag} {G0 H0 G H : Hp} {env : DEnv} {σ : L2.St} (I : ER K G0 H0 env σ G H) {i : Nat} {d : D} (h : env[i]? = some (.ow d)) :
    ∃ v G', σ[i]? = some (some v) ∧ Same G G' ∧ ER K G0 H0 (env.set i (.fz d)) σ G' H ∧ Rep K G' d v := by
  obtain ⟨v, e, ow, I1⟩ := I.take h
  obtain ⟨G', s1, I2, rp⟩ := I1.freeze ow
  have I3 := I2.setF rp i
  rw [List.set_set, set_same e] at I3
  exact ⟨v, G', e, s1, I3, rp⟩
theorem semVar {K : PySem.W.Frag} (i : Nat) : SemE K (tVar i) (dVar i) := fun G0 H0 env σ G H Q R I q r => by
  unfold dVar at q
  cases hg : gs env i with
  | no => rw [hg] at q; exact q.elim
  | fz d =>
    rw [hg] at q
    have h := gs_get hg (fun z => nomatch z)
    have l2 : i < σ.length := by rw [← I.len]; exact (List.getElem?_eq_some_iff.mp h).1
    obtain ⟨v, e, rp⟩ := I.sl i _ _ h (List.getElem?_eq_getElem l2)
    exact ⟨v, by rw [List.getElem?_eq_getElem l2, e], r v H G env d (Same.refl G) I rp q⟩
  | ow d =>
    rw [hg] at q
    have q' : Q d (ss env i (.fz d)) := q
    rw [ss_set] at q'
    obtain ⟨v, G', e, s1, I1, rp⟩ := I.frz (gs_get hg (fun z => nomatch z))
    exact ⟨v, e, r v H G' _ d s1 I1 rp q'⟩
theorem qv (i : Nat) {x : Str} (hN : ∀ j, (F.X j).N[i]? = some x := by exact fun _ => rfl) (hv : ∀ j, Vis (F.X j).env.scope x := by first | exact fun _ => Or.inl rfl | exact fun _ => Or.inr (Or.inl rfl) | exact fun _ => Or.inr (Or.inr rfl))
    (hd : (x == ("__debug__" : Str)) = false := by decide) (hcd : (x == ("__classdict__" : Str)) = false := by decide) : QE F (.Name x pos) (dVar i) :=
  ⟨tVar i, fun j => pe_var (hN j) (hv j) hd hcd, semVar i⟩
def tkSl (env : DEnv) (i : Nat) (Q : DQ) : Sl → Prop
  | .ow d => Q d (ss env i .no)
  | _ => False
/-- an owned name handed on as it is -/
def dTake (i : Nat) : DE := fun env Q => tkSl env i Q (gs env i)
theorem qvo (i : Nat) {x : Str} (hN : ∀ j, (F.X j).N[i]? = some x := by exact fun _ => rfl) (hv : ∀ j, Vis (F.X j).env.scope x := by first | exact fun _ => Or.inl rfl | exact fun _ => Or.inr (Or.inl rfl) | exact fun _ => Or.inr (Or.inr rfl))
    (hd : (x == ("__debug__" : Str)) = false := by decide) (hcd : (x == ("__classdict__" : Str)) = false := by decide) : QO F (.Name x pos) (dTake i) :=
  ⟨tVar i, fun j => pe_var (hN j) (hv j) hd hcd, fun G0 H0 env σ G H Q R I q r => by
    unfold dTake at q
    cases hg : gs env i with
    | no => rw [hg] at q; exact q.elim
    | fz d => rw [hg] at q; exact q.elim
    | ow d =>
      rw [hg] at q
      have q' : Q d (ss env i .no) := q
      rw [ss_set] at q'
      obtain ⟨v, e, ow, I1⟩ := I.take (gs_get hg (fun z => nomatch z))
      exact ⟨v, e, r v H G _ d (Same.refl G) I1 ow q'⟩⟩
def dC (d : D) : DE := fun env Q => Q d env
theorem semC {K : PySem.W.Frag} {v : V} {d : D} (h : ∀ G, Rep K G d v) : SemE K (tC v) (dC d) := fun G0 H0 env σ G H Q R I q r => r v H G env d (Same.refl G) I (h G) q
theorem q_int {i j} : QE F (.Constant (.int i) j pos) (dC (.int i)) := ⟨_, fun _ => pe_int, semC fun _ => rfl⟩
theorem q_bl {b j} : QE F (.Constant (.bool b) j pos) (dC (.bl b)) := ⟨_, fun _ => pe_bl, semC fun _ => rfl⟩
theorem q_non {j} : QE F (.Constant .none j pos) (dC .non) := ⟨_, fun _ => pe_non, semC fun _ => rfl⟩
theorem q_str {x j} (l : List Nat) (h : x = ⟨l.toArray⟩ := by rfl) : QE F (.Constant (.str x) j pos) (dC (.str l)) := ⟨_, fun _ => pe_str, semC fun _ => by rw [h]; rfl⟩

/-- what a two-place operator asks of two values -/
def OpC (K : PySem.W.Frag) (r : R2) (c : D → D → (D → Prop) → Prop) : Prop := ∀ (G0 H0 : Hp) (env : DEnv) (σ : L2.St) (G H : Hp) (x y : V) (d e : D) (Q : D → Prop) (R : VK), ER K G0 H0 env σ G H → Rep K G d x → Rep K G e y → c d e Q →
  (∀ v H' G' z, Same G G' → ER K G0 H0 env σ G' H' → Rep K G' z v → Q z → R v H') → r x y H R
def dOp (c : D → D → (D → Prop) → Prop) (ta tb : DE) : DE := fun env Q => ta env fun x env1 => tb env1 fun y env2 => c x y fun z => Q z env2
theorem sem2 {K : PySem.W.Frag} {r : R2} {c : D → D → (D → Prop) → Prop} (hc : OpC K r c) {sa sb : TE} (ha : SemE K sa ta) (hb : SemE K sb tb) : SemE K (tOp r sa sb) (dOp c ta tb) := fun G0 H0 env σ G H Q R I q k =>
  ha G0 H0 env σ G H _ _ I q fun x H1 G1 env1 d s1 I1 r1 q1 => hb G0 H0 env1 σ G1 H1 _ _ I1 q1 fun y H2 G2 env2 e s2 I2 r2 q2 =>
    hc G0 H0 env2 σ G2 H2 x y d e _ R I2 (r1.mono s2) r2 q2 fun v H' G' z s3 I3 r3 q3 => k v H' G' env2 z (s1.trans (s2.trans s3)) I3 r3 q3
theorem q_op {op : Operator} {r : R2} {c : D → D → (D → Prop) → Prop} (ho : ∀ i, OpR (F.X i) (binaryOp op) r) (hc : OpC F.K r c) (ha : QE F a ta) (hb : QE F b tb) : QE F (.BinOp a op b pos) (dOp c ta tb) := by
  obtain ⟨sa, pa, ha⟩ := ha
  obtain ⟨sb, pb, hb⟩ := hb
  exact ⟨tOp r sa sb, fun i => pe_op (ho i) (pa i) (pb i), sem2 hc ha hb⟩
def MulOk (i j : Int) : Prop := (-(2 ^ 64) < i ∧ i < 2 ^ 64) ∨ (-(2 ^ 64) < j ∧ j < 2 ^ 64) ∨ CMulW i j
theorem MulOk.ok {i j : Int} (h : MulOk i j) : IntMulOk i j := by
  rcases h with h | h | h
  · exact CMul.ok (.inl h)
  · exact CMul.ok (.inr h)
  · exact h.ok
theorem op_mulA {X : Cx} : OpR X (binaryOp .Mult) (rI MulOk fun i j => .int (i * j)) := opI fun _ _ _ _ _ _ _ hc q => mul_int q hc.ok
def cAdd (x y : D) (Q : D → Prop) : Prop := match x, y with
  | .int i, .int j => Q (.int (i + j))
  | .str i, .str j => i.length + j.length ≤ sizeLine ∧ Q (.str (i ++ j))
  | .lst i, .lst j => i.length + j.length ≤ sizeLine ∧ Q (.lst (i ++ j))
  | _, _ => False
def cSub (x y : D) (Q : D → Prop) : Prop := match x, y with
  | .int i, .int j => Q (.int (i - j))
  | _, _ => False
def cMul (x y : D) (Q : D → Prop) : Prop := match x, y with
  | .int i, .int j => MulOk i j ∧ Q (.int (i * j))
  | .lst xs, .int k => k < 2 ^ 62 ∧ xs.length * k.toNat ≤ sizeLine ∧ -(2 ^ 62) ≤ k ∧ Q (.lst (List.replicate k.toNat xs).flatten)
  | _, _ => False
def cDiv (x y : D) (Q : D → Prop) : Prop := match x, y with
  | .int i, .int j => 0 < j ∧ j.natAbs.log2 < 9000 ∧ Q (.int (i / j))
  | _, _ => False
def cMod (x y : D) (Q : D → Prop) : Prop := match x, y with
  | .int i, .int j => 0 < j ∧ Q (.int (i % j))
  | _, _ => False
def cPow (x y : D) (Q : D → Prop) : Prop := match x, y with
  | .int i, .int j => 0 ≤ j ∧ j ≤ 1000000 ∧ i.natAbs < 2 ^ 64 ∧ Q (.int (i ^ j.toNat))
  | _, _ => False
theorem rep_int {K : PySem.W.Frag} {G : Hp} {i : Int} {v : V} (h : Rep K G (.int i) v) : v = .int i := h
theorem rep_str {K : PySem.W.Frag} {G : Hp} {i : List Nat} {v : V} (h : Rep K G (.str i) v) : v = .str ⟨i.toArray⟩ := h
theorem str_len (l : List Nat) : (⟨l.toArray⟩ : Str).length = l.length := by
  show l.toArray.size = l.length
  simp
theorem str_app (l m : List Nat) : (⟨l.toArray⟩ : Str) ++ (⟨m.toArray⟩ : Str) = ⟨(l ++ m).toArray⟩ := by
  show (⟨l.toArray ++ m.toArray⟩ : Str) = _
  simp
theorem opc_add {K : PySem.W.Frag} : OpC K (fun x y H Q => rI0 (fun i j => .int (i + j)) x y H Q ∨ (∃ i j, x = .str i ∧ y = .str j ∧ i.length + j.length ≤ sizeLine ∧ Q (.str (i ++ j)) H) ∨ rCat x y H Q) cAdd := by
  intro G0 H0 env σ G H x y d e Q R I r1 r2 q k
  cases d with
  | int i =>
    cases e with
    | int j => exact .inl ⟨i, j, r1, r2, k (.int (i + j)) H G (.int (i + j)) (Same.refl G) I rfl q⟩
    | _ => exact (q : False).elim
  | str i =>
    cases e with
    | str j => exact .inr (.inl ⟨_, _, r1, r2, by rw [str_len, str_len]; exact q.1, by rw [str_app]; exact k _ H G (.str (i ++ j)) (Same.refl G) I rfl q.2⟩)
    | _ => exact (q : False).elim
  | lst i =>
    cases e with
    | lst j =>
      obtain ⟨p, vs, e1, h1, a1⟩ := r1
      obtain ⟨p2, ws, e2, h2, a2⟩ := r2
      refine .inr (.inr ⟨p, p2, vs, ws, e1, e2, I.sub _ _ h1, I.sub _ _ h2, by rw [a1.len, a2.len]; exact q.1, fun l hl => ?_⟩)
      obtain ⟨I2, s2⟩ := I.new (o := .lst (vs ++ ws)) hl
      exact k _ _ _ (.lst (i ++ j)) s2 I2 ⟨l, _, rfl, upd_same, (a1.append a2).mono s2⟩ q.2
    | _ => exact (q : False).elim
  | _ => exact (q : False).elim
theorem q_add (ha : QE F a ta) (hb : QE F b tb) : QE F (.BinOp a .Add b pos) (dOp cAdd ta tb) := q_op (fun _ => op_add.or (op_add_str.or op_cat)) opc_add ha hb
theorem opc_int {K : PySem.W.Frag} {C : Int → Int → Prop} {g : Int → Int → Int} {c : D → D → (D → Prop) → Prop} (h : ∀ i j Q, c (.int i) (.int j) Q → C i j ∧ Q (.int (g i j))) (hn : ∀ d e Q, c d e Q → ∃ i j, d = .int i ∧ e = .int j) : OpC K (rI C fun i j => .int (g i j)) c := by
  intro G0 H0 env σ G H x y d e Q R I r1 r2 q k
  obtain ⟨i, j, rfl, rfl⟩ := hn d e Q q
  obtain ⟨h1, h2⟩ := h i j Q q
  exact ⟨i, j, r1, r2, h1, k (.int (g i j)) H G (.int (g i j)) (Same.refl G) I rfl h2⟩
theorem q_sub (ha : QE F a ta) (hb : QE F b tb) : QE F (.BinOp a .Sub b pos) (dOp cSub ta tb) := q_op (fun _ => opI (C := fun _ _ => True) (fun _ _ _ _ _ _ _ _ q => sub_int q)) (opc_int (fun _ _ _ q => ⟨trivial, q⟩) fun d e Q q => by
  unfold cSub at q; split at q
  · exact ⟨_, _, rfl, rfl⟩
  · exact q.elim) ha hb
theorem q_div (ha : QE F a ta) (hb : QE F b tb) : QE F (.BinOp a .FloorDiv b pos) (dOp cDiv ta tb) := q_op (fun _ => op_fdivW) (opc_int (fun _ _ _ q => ⟨⟨q.1, q.2.1⟩, q.2.2⟩) fun d e Q q => by
  unfold cDiv at q; split at q
  · exact ⟨_, _, rfl, rfl⟩
  · exact q.elim) ha hb
theorem q_mod (ha : QE F a ta) (hb : QE F b tb) : QE F (.BinOp a .Mod b pos) (dOp cMod ta tb) := q_op (fun _ => op_mod) (opc_int (fun _ _ _ q => ⟨q.1, q.2⟩) fun d e Q q => by
  unfold cMod at q; split at q
  · exact ⟨_, _, rfl, rfl⟩
  · exact q.elim) ha hb
theorem q_pow (ha : QE F a ta) (hb : QE F b tb) : QE F (.BinOp a .Pow b pos) (dOp cPow ta tb) := q_op (fun _ => op_pow) (opc_int (fun _ _ _ q => ⟨⟨q.1, q.2.1, q.2.2.1⟩, q.2.2.2⟩) fun d e Q q => by
  unfold cPow at q; split at q
  · exact ⟨_, _, rfl, rfl⟩
  · exact q.elim) ha hb
theorem opc_mul {K : PySem.W.Frag} : OpC K (fun x y H Q => rI MulOk (fun i j => .int (i * j)) x y H Q ∨ rRep x y H Q) cMul := by
  intro G0 H0 env σ G H x y d e Q R I r1 r2 q k
  cases d with
  | int i =>
    cases e with
    | int j => exact .inl ⟨i, j, r1, r2, q.1, k (.int (i * j)) H G (.int (i * j)) (Same.refl G) I rfl q.2⟩
    | _ => exact (q : False).elim
  | lst i =>
    cases e with
    | int j =>
      obtain ⟨p, vs, e1, h1, a1⟩ := r1
      obtain ⟨q1, q2, q3, q4⟩ := q
      refine .inr ⟨p, j, vs, e1, r2, I.sub _ _ h1, by omega, by omega, by rw [a1.len]; exact q2, fun l hl => ?_⟩
      obtain ⟨I2, s2⟩ := I.new (o := .lst (List.replicate j.toNat vs).flatten) hl
      exact k _ _ _ (.lst (List.replicate j.toNat i).flatten) s2 I2 ⟨l, _, rfl, upd_same, (a1.flat _).mono s2⟩ q4
    | _ => exact (q : False).elim
  | _ => exact (q : False).elim
theorem q_mul (ha : QE F a ta) (hb : QE F b tb) : QE F (.BinOp a .Mult b pos) (dOp cMul ta tb) := q_op (fun _ => op_mulA.or op_rep) opc_mul ha hb
/-- -a -/
def cNeg (x : D) (Q : D → Prop) : Prop := match x with
  | .int i => Q (.int (-i))
  | _ => False
def dUn (c : D → (D → Prop) → Prop) (ta : DE) : DE := fun env Q => ta env fun x env1 => c x fun z => Q z env1
theorem q_neg (ha : QE F a ta) : QE F (.UnaryOp .USub a pos) (dUn cNeg ta) := by
  obtain ⟨sa, pa, ha⟩ := ha
  refine ⟨tUn _ sa, fun i => pe_un un_neg (pa i), fun G0 H0 env σ G H Q R I q k => ha G0 H0 env σ G H _ _ I q fun x H1 G1 env1 d s1 I1 r1 q1 => ?_⟩
  cases d with
  | int i => exact ⟨i, r1, k (.int (-i)) H1 G1 _ (.int (-i)) s1 I1 rfl q1⟩
  | _ => exact (q1 : False).elim

def CmpC (K : PySem.W.Frag) (r : R2) (c : D → D → (Bool → Prop) → Prop) : Prop := ∀ (G0 H0 : Hp) (env : DEnv) (σ : L2.St) (G H : Hp) (x y : V) (d e : D) (Q : Bool → Prop) (R : VK), ER K G0 H0 env σ G H → Rep K G d x → Rep K G e y → c d e Q →
  (∀ b, Q b → R (.bl b) H) → r x y H R
def dCmp (c : D → D → (Bool → Prop) → Prop) (ta tb : DE) : DE := fun env Q => ta env fun x env1 => tb env1 fun y env2 => c x y fun z => Q (.bl z) env2
def dCmpT (c : D → D → (Bool → Prop) → Prop) (ta tb : DE) : DT := fun env Q => ta env fun x env1 => tb env1 fun y env2 => c x y fun z => Q z env2
theorem q_cmp {op : CmpOp} {r : R2} {c : D → D → (Bool → Prop) → Prop} (ho : ∀ i, OpR (F.X i) (compareOp op) r) (hc : CmpC F.K r c) (ha : QE F a ta) (hb : QE F b tb) (hm : behindInMarks op b = false) : QE F (.Compare a [op] [b] pos) (dCmp c ta tb) := by
  obtain ⟨sa, pa, ha⟩ := ha
  obtain ⟨sb, pb, hb⟩ := hb
  refine ⟨tOp r sa sb, fun i => pe_cmpR (ho i) (pa i) (pb i) hm, fun G0 H0 env σ G H Q R I q k => ?_⟩
  exact ha G0 H0 env σ G H _ _ I q fun x H1 G1 env1 d s1 I1 r1 q1 => hb G0 H0 env1 σ G1 H1 _ _ I1 q1 fun y H2 G2 env2 e s2 I2 r2 q2 =>
    hc G0 H0 env2 σ G2 H2 x y d e _ R I2 (r1.mono s2) r2 q2 fun z q3 => k _ H2 G2 env2 (.bl z) (s1.trans s2) I2 rfl q3
theorem qt_cmp {op : CmpOp} {r : R2} {c : D → D → (Bool → Prop) → Prop} (ho : ∀ i, OpR (F.X i) (compareOp op) r) (hc : CmpC F.K r c) (ha : QE F a ta) (hb : QE F b tb) (hm : behindInMarks op b = false) : QT F (.Compare a [op] [b] pos) (dCmpT c ta tb) := by
  obtain ⟨sa, pa, ha⟩ := ha
  obtain ⟨sb, pb, hb⟩ := hb
  refine ⟨tTest (tOp r sa sb), fun i => pt_cmpR (ho i) (pa i) (pb i) hm, fun G0 H0 env σ G H Q R I q k => ?_⟩
  exact ha G0 H0 env σ G H _ _ I q fun x H1 G1 env1 d s1 I1 r1 q1 => hb G0 H0 env1 σ G1 H1 _ _ I1 q1 fun y H2 G2 env2 e s2 I2 r2 q2 =>
    hc G0 H0 env2 σ G2 H2 x y d e _ _ I2 (r1.mono s2) r2 q2 fun z q3 => ⟨z, rfl, k z H2 G2 env2 (s1.trans s2) I2 q3⟩
def cOrd (p : Int → Int → Bool) (x y : D) (Q : Bool → Prop) : Prop := match x, y with
  | .int i, .int j => Q (p i j)
  | _, _ => False
theorem cmpc_ord {K : PySem.W.Frag} {p : Int → Int → Bool} : CmpC K (rI0 fun i j => .bl (p i j)) (cOrd p) := by
  intro G0 H0 env σ G H x y d e Q R I r1 r2 q k
  unfold cOrd at q
  split at q
  · exact ⟨_, _, r1, r2, k _ q⟩
  · exact q.elim
abbrev cLt := cOrd fun i j => decide (i < j)
abbrev cLe := cOrd fun i j => decide (i ≤ j)
abbrev cGt := cOrd fun i j => decide (j < i)
abbrev cGe := cOrd fun i j => decide (j ≤ i)
theorem q_lt (ha : QE F a ta) (hb : QE F b tb) : QE F (.Compare a [.Lt] [b] pos) (dCmp cLt ta tb) := q_cmp (fun _ => op_lt) cmpc_ord ha hb (nomark _)
theorem q_le (ha : QE F a ta) (hb : QE F b tb) : QE F (.Compare a [.LtE] [b] pos) (dCmp cLe ta tb) := q_cmp (fun _ => op_le) cmpc_ord ha hb (nomark _)
theorem q_gt (ha : QE F a ta) (hb : QE F b tb) : QE F (.Compare a [.Gt] [b] pos) (dCmp cGt ta tb) := q_cmp (fun _ => op_gt) cmpc_ord ha hb (nomark _)
theorem q_ge (ha : QE F a ta) (hb : QE F b tb) : QE F (.Compare a [.GtE] [b] pos) (dCmp cGe ta tb) := q_cmp (fun _ => op_ge) cmpc_ord ha hb (nomark _)
theorem qt_lt (ha : QE F a ta) (hb : QE F b tb) : QT F (.Compare a [.Lt] [b] pos) (dCmpT cLt ta tb) := qt_cmp (fun _ => op_lt) cmpc_ord ha hb (nomark _)
theorem qt_le (ha : QE F a ta) (hb : QE F b tb) : QT F (.Compare a [.LtE] [b] pos) (dCmpT cLe ta tb) := qt_cmp (fun _ => op_le) cmpc_ord ha hb (nomark _)
theorem qt_gt (ha : QE F a ta) (hb : QE F b tb) : QT F (.Compare a [.Gt] [b] pos) (dCmpT cGt ta tb) := qt_cmp (fun _ => op_gt) cmpc_ord ha hb (nomark _)
theorem qt_ge (ha : QE F a ta) (hb : QE F b tb) : QT F (.Compare a [.GtE] [b] pos) (dCmpT cGe ta tb) := qt_cmp (fun _ => op_ge) cmpc_ord ha hb (nomark _)
mutual
def eqD : D → D → Bool
  | .non, .non => true
  | .bl a, .bl b => a == b
  | .bl a, .int j => (if a then 1 else 0) == j
  | .int i, .bl b => i == (if b then 1 else 0)
  | .int i, .int j => i == j
  | .str x, .str y => x == y
  | .tup xs, .tup ys => eqDs xs ys
  | .lst xs, .lst ys => eqDs xs ys
  | _, _ => false
def eqDs : List D → List D → Bool
  | [], [] => true
  | x :: xs, y :: ys => eqD x y && eqDs xs ys
  | _, _ => false
end
mutual
/-- what == of this layer tells: none, bools, ints, texts, tuples and lists of them -/
def toP : D → PyData
  | .non => .none
  | .bl b => .bool b
  | .int i => .int i
  | .str x => .str ⟨x.toArray⟩
  | .tup ds => .tuple (toPs ds)
  | .lst ds => .list (toPs ds)
  | _ => .none
def toPs : List D → List PyData
  | [] => []
  | d :: ds => toP d :: toPs ds
end
mutual
def shD : Nat → D → Bool
  | _, .non => true
  | _, .bl _ => true
  | _, .int _ => true
  | _, .str x => PyData.strOk ⟨x.toArray⟩
  | n + 1, .tup ds => shDs n ds
  | n + 1, .lst ds => shDs n ds
  | _, _ => false
def shDs : Nat → List D → Bool
  | _, [] => true
  | n, d :: ds => shD n d && shDs n ds
end
mutual
theorem shaped_toP : ∀ (n : Nat) (d : D), shD n d = true → (toP d).canLay0 = true ∧ (toP d).depth ≤ n
  | _, .non, _ => ⟨rfl, Nat.zero_le _⟩
  | _, .bl _, _ => ⟨rfl, Nat.zero_le _⟩
  | _, .int _, _ => ⟨rfl, Nat.zero_le _⟩
  | _, .str x, h => ⟨by simpa [toP, PyData.canLay0, shD] using h, Nat.zero_le _⟩
  | 0, .tup ds, h => by simp [shD] at h
  | 0, .lst ds, h => by simp [shD] at h
  | n + 1, .tup ds, h => by
    have := shaped_toPs n ds (by simpa [shD] using h)
    exact ⟨by simpa [toP, PyData.canLay0] using this.1, by simpa [toP, PyData.depth] using this.2⟩
  | n + 1, .lst ds, h => by
    have := shaped_toPs n ds (by simpa [shD] using h)
    exact ⟨by simpa [toP, PyData.canLay0] using this.1, by simpa [toP, PyData.depth] using this.2⟩
  | n, .scr _, h => by simp [shD] at h
  | n, .dk _ _, h => by simp [shD] at h
  | n, .dt _ _, h => by simp [shD] at h
  | n, .ins _ _ _, h => by simp [shD] at h
theorem shaped_toPs : ∀ (n : Nat) (ds : List D), shDs n ds = true → PyData.canLayAll0 (toPs ds) = true ∧ PyData.depthAll (toPs ds) ≤ n
  | _, [], _ => ⟨rfl, Nat.zero_le _⟩
  | n, d :: ds, h => by
    obtain ⟨h1, h2⟩ := Bool.and_eq_true_iff.mp (by simpa [shDs] using h : (shD n d && shDs n ds) = true)
    obtain ⟨a1, a2⟩ := shaped_toP n d h1
    obtain ⟨b1, b2⟩ := shaped_toPs n ds h2
    exact ⟨by simp [toPs, PyData.canLayAll0, a1, b1], by simp only [toPs, PyData.depthAll]; omega⟩
end
mutual
theorem dp_of {K : PySem.W.Frag} {G H : Hp} (e : Same G H) : ∀ (n : Nat) (d : D) (v : V), shD n d = true → Rep K G d v → Dp K H v (toP d)
  | _, .non, _, _, r => by cases (show _ = _ from r); exact .non
  | _, .bl b, _, _, r => by cases (show _ = _ from r); exact .bl b
  | _, .int i, _, _, r => by cases (show _ = _ from r); exact .int i
  | _, .str x, _, _, r => by cases (show _ = _ from r); exact .str _
  | 0, .tup ds, _, h, _ => by simp [shD] at h
  | 0, .lst ds, _, h, _ => by simp [shD] at h
  | n + 1, .tup ds, v, h, ⟨a, vs, e1, s, r⟩ => by
    subst e1
    exact .tup (Same.sqt e s) (dps_of e n ds vs (by simpa [shD] using h) r)
  | n + 1, .lst ds, v, h, ⟨a, vs, e1, s, r⟩ => by
    subst e1
    exact .lst (SqL.of (e _ _ s)) (dps_of e n ds vs (by simpa [shD] using h) r)
  | n, .scr _, _, h, _ => by simp [shD] at h
  | n, .dk _ _, _, h, _ => by simp [shD] at h
  | n, .dt _ _, _, h, _ => by simp [shD] at h
  | n, .ins _ _ _, _, h, _ => by simp [shD] at h
theorem dps_of {K : PySem.W.Frag} {G H : Hp} (e : Same G H) : ∀ (n : Nat) (ds : List D) (vs : List V), shDs n ds = true → Reps K G ds vs → DpAll K H vs (toPs ds)
  | _, [], vs, _, r => by cases (show _ = _ from r); exact .nil
  | n, d :: ds, vs, h, ⟨v, w, e1, r1, r2⟩ => by
    subst e1
    obtain ⟨h1, h2⟩ := Bool.and_eq_true_iff.mp (by simpa [shDs] using h : (shD n d && shDs n ds) = true)
    exact .cons (dp_of e n d v h1 r1) (dps_of e n ds w h2 r2)
end
theorem str_eq (x y : List Nat) : ((⟨x.toArray⟩ : Str) == ⟨y.toArray⟩) = (x == y) := by
  rw [Bool.eq_iff_iff, beq_iff_eq, beq_iff_eq]
  constructor
  · intro h
    have : x.toArray = y.toArray := by injection h
    simpa using congrArg Array.toList this
  · intro h
    rw [h]
mutual
theorem eqv_toP : ∀ (n : Nat) (d e : D), shD n d = true → shD n e = true → PyData.eqv (toP d) (toP e) = eqD d e
  | n, .non, e, _, h => by cases e <;> first | rfl | (cases n <;> simp [shD] at h)
  | n, .bl b, e, _, h => by cases e <;> first | rfl | (cases n <;> simp [shD] at h)
  | n, .int i, e, _, h => by cases e <;> first | rfl | (cases n <;> simp [shD] at h)
  | n, .str x, e, _, h => by cases e <;> first | rfl | (exact str_eq _ _) | (cases n <;> simp [shD] at h)
  | 0, .tup ds, _, h, _ => by simp [shD] at h
  | 0, .lst ds, _, h, _ => by simp [shD] at h
  | n + 1, .tup ds, e, h1, h => by
    cases e with
    | tup es =>
      have := eqvs_toPs n ds es (by simpa [shD] using h1) (by simpa [shD] using h)
      simpa [toP, PyData.eqv, eqD] using this
    | _ => first | rfl | simp [shD] at h
  | n + 1, .lst ds, e, h1, h => by
    cases e with
    | lst es =>
      have := eqvs_toPs n ds es (by simpa [shD] using h1) (by simpa [shD] using h)
      simpa [toP, PyData.eqv, eqD] using this
    | _ => first | rfl | simp [shD] at h
  | n, .scr _, _, h, _ => by simp [shD] at h
  | n, .dk _ _, _, h, _ => by simp [shD] at h
  | n, .dt _ _, _, h, _ => by simp [shD] at h
  | n, .ins _ _ _, _, h, _ => by simp [shD] at h
theorem eqvs_toPs : ∀ (n : Nat) (ds es : List D), shDs n ds = true → shDs n es = true → PyData.eqvAll (toPs ds) (toPs es) = eqDs ds es
  | _, [], [], _, _ => rfl
  | _, [], _ :: _, _, _ => rfl
  | _, _ :: _, [], _, _ => rfl
  | n, d :: ds, e :: es, h, h' => by
    obtain ⟨h1, h2⟩ := Bool.and_eq_true_iff.mp (by simpa [shDs] using h : (shD n d && shDs n ds) = true)
    obtain ⟨h3, h4⟩ := Bool.and_eq_true_iff.mp (by simpa [shDs] using h' : (shD n e && shDs n es) = true)
    have a := eqv_toP n d e h1 h3
    have b := eqvs_toPs n ds es h2 h4
    simp [toPs, PyData.eqvAll, eqDs, a, b]
end
/-- == : ints and texts at once, other data where it is shaped -/
def cEq (x y : D) (Q : Bool → Prop) : Prop := match x, y with
  | .int i, .int j => Q (decide (i = j))
  | .str i, .str j => Q (decide (i = j))
  | x, y => shD 60 x = true ∧ shD 60 y = true ∧ Q (eqD x y)
def cNe (x y : D) (Q : Bool → Prop) : Prop := cEq x y fun b => Q (!b)
theorem cmpc_eq {K : PySem.W.Frag} : CmpC K (fun x y H Q => rEq x y H Q ∨ rEqD K x y H Q) cEq := by
  intro G0 H0 env σ G H x y d e Q R I r1 r2 q k
  unfold cEq at q
  split at q
  · cases (show _ = _ from r1); cases (show _ = _ from r2)
    refine .inl ⟨rfl, ?_⟩
    have := k _ q
    rwa [show ∀ i j : Int, decide (V.int i = V.int j) = decide (i = j) from fun i j => by simp]
  · cases (show _ = _ from r1); cases (show _ = _ from r2)
    refine .inl ⟨rfl, ?_⟩
    have := k _ q
    rwa [dec_str, str_eq, Bool.beq_eq_decide_eq]
  · obtain ⟨h1, h2, q⟩ := q
    refine .inr ⟨toP d, toP e, dp_of I.sub 60 d x h1 r1, dp_of I.sub 60 e y h2 r2, ?_, ?_, ?_⟩
    · obtain ⟨a, b⟩ := shaped_toP 60 d h1
      exact Bool.and_eq_true_iff.mpr ⟨a, decide_eq_true (by omega)⟩
    · obtain ⟨a, b⟩ := shaped_toP 60 e h2
      exact Bool.and_eq_true_iff.mpr ⟨a, decide_eq_true (by omega)⟩
    · rw [eqv_toP 60 d e h1 h2]
      exact k _ q
theorem cmpc_ne {K : PySem.W.Frag} : CmpC K (fun x y H Q => rNe x y H Q ∨ rNeD K x y H Q) cNe := by
  intro G0 H0 env σ G H x y d e Q R I r1 r2 q k
  unfold cNe at q
  rcases cmpc_eq (K := K) G0 H0 env σ G H x y d e (fun b => Q (!b)) (fun v H' => ∃ b, v = .bl b ∧ R (.bl (!b)) H) I r1 r2 q (fun b hb => ⟨b, rfl, k _ hb⟩) with ⟨h1, b, e1, h2⟩ | ⟨p, q', h1, h2, h3, h4, b, e1, h5⟩
  · cases e1
    exact .inl ⟨h1, h2⟩
  · cases e1
    exact .inr ⟨p, q', h1, h2, h3, h4, h5⟩
theorem q_eq {k : Nat} (hr : ∀ i, Room k (F.X i).A) (ha : QE F a ta) (hb : QE F b tb) : QE F (.Compare a [.Eq] [b] pos) (dCmp cEq ta tb) := q_cmp (fun i => by have := op_eq.or (op_eqD (hr i).units); rw [F.hK] at this; exact this) cmpc_eq ha hb (nomark _)
theorem q_ne {k : Nat} (hr : ∀ i, Room k (F.X i).A) (ha : QE F a ta) (hb : QE F b tb) : QE F (.Compare a [.NotEq] [b] pos) (dCmp cNe ta tb) := q_cmp (fun i => by have := op_ne.or (op_neD (hr i).units); rw [F.hK] at this; exact this) cmpc_ne ha hb (nomark _)
theorem qt_eq {k : Nat} (hr : ∀ i, Room k (F.X i).A) (ha : QE F a ta) (hb : QE F b tb) : QT F (.Compare a [.Eq] [b] pos) (dCmpT cEq ta tb) := qt_cmp (fun i => by have := op_eq.or (op_eqD (hr i).units); rw [F.hK] at this; exact this) cmpc_eq ha hb (nomark _)
theorem qt_ne {k : Nat} (hr : ∀ i, Room k (F.X i).A) (ha : QE F a ta) (hb : QE F b tb) : QT F (.Compare a [.NotEq] [b] pos) (dCmpT cNe ta tb) := qt_cmp (fun i => by have := op_ne.or (op_neD (hr i).units); rw [F.hK] at this; exact this) cmpc_ne ha hb (nomark _)
end
end DL

set_option Elab.async false
set_option linter.all false
set_option maxRecDepth 100000
namespace DL
open PySem PySem.Spec PyProof.Rows L2

section
variable {F : Fam} {e a b c o : Expr} {es : List Expr} {t ta tb tc : DE} {tt tu tv : DT} {tA : DA} {pos : Pos}

/-- two ways -/
def br (b : Bool) (p q : Prop) : Prop := (b = true → p) ∧ (b = false → q)
theorem br_t {p q : Prop} (h : br true p q) : p := h.1 rfl
theorem br_f {p q : Prop} (h : br false p q) : q := h.2 rfl
def dTst (t : DE) : DT := fun env Q => t env fun x env1 => match x with
  | .bl b => Q b env1
  | _ => False
theorem qt_val (h : QE F e t) (he : ∀ i whole, isTrue e (F.X i).env whole = (do let v ← whole; standAt e.pos; holding [v] (truthy v)) := by intro _ _; rfl) : QT F e (dTst t) := by
  obtain ⟨te, p, s⟩ := h
  refine ⟨tB te, fun i => pt_val (p i) (he i), fun G0 H0 env σ G H Q R I q k => s G0 H0 env σ G H _ _ I q fun v H1 G1 env1 d s1 I1 r1 q1 => ?_⟩
  cases d with
  | bl b => exact ⟨b, r1, k b H1 G1 env1 s1 I1 q1⟩
  | _ => exact (q1 : False).elim
def dNot (t : DT) : DT := fun env Q => t env fun b env1 => Q (!b) env1
theorem qt_not (h : QT F a tt) : QT F (.UnaryOp .Not a pos) (dNot tt) := by
  obtain ⟨te, p, s⟩ := h
  exact ⟨tNot te, fun i => pt_not (p i), fun G0 H0 env σ G H Q R I q k => s G0 H0 env σ G H _ _ I q fun b H1 G1 env1 s1 I1 q1 => k (!b) H1 G1 env1 s1 I1 q1⟩
theorem QW.qt (h : QW F e tt) : QT F e tt := let ⟨te, p, s⟩ := h; ⟨te, fun i => (p i).pt, s⟩
def dAnd (t u : DT) : DT := fun env Q => t env fun b env1 => br b (u env1 Q) (Q false env1)
def dOr (t u : DT) : DT := fun env Q => t env fun b env1 => br b (Q true env1) (u env1 Q)
theorem qw_and1 (h : QT F a tt) : QW F (.BoolOp .And [a] pos) tt := let ⟨te, p, s⟩ := h; ⟨te, fun i => pw_and1 (p i), s⟩
theorem qw_or1 (h : QT F a tt) : QW F (.BoolOp .Or [a] pos) tt := let ⟨te, p, s⟩ := h; ⟨te, fun i => pw_or1 (p i), s⟩
theorem qw_and {rest : List Expr} (h : QT F a tt) (h2 : QW F (.BoolOp .And (b :: rest) pos) tu) : QW F (.BoolOp .And (a :: b :: rest) pos) (dAnd tt tu) := by
  obtain ⟨te, p, s⟩ := h
  obtain ⟨te2, p2, s2⟩ := h2
  refine ⟨tAnd te te2, fun i => pw_and (p i) (p2 i), fun G0 H0 env σ G H Q R I q k => s G0 H0 env σ G H _ _ I q fun b H1 G1 env1 e1 I1 q1 => ?_⟩
  cases b with
  | true => exact s2 G0 H0 env1 σ G1 H1 Q R I1 (br_t q1) fun b H2 G2 env2 e2 I2 q2 => k b H2 G2 env2 (e1.trans e2) I2 q2
  | false => exact k false H1 G1 env1 e1 I1 (br_f q1)
theorem qw_or {rest : List Expr} (h : QT F a tt) (h2 : QW F (.BoolOp .Or (b :: rest) pos) tu) : QW F (.BoolOp .Or (a :: b :: rest) pos) (dOr tt tu) := by
  obtain ⟨te, p, s⟩ := h
  obtain ⟨te2, p2, s2⟩ := h2
  refine ⟨tOr te te2, fun i => pw_or (p i) (p2 i), fun G0 H0 env σ G H Q R I q k => s G0 H0 env σ G H _ _ I q fun b H1 G1 env1 e1 I1 q1 => ?_⟩
  cases b with
  | false => exact s2 G0 H0 env1 σ G1 H1 Q R I1 (br_f q1) fun b H2 G2 env2 e2 I2 q2 => k b H2 G2 env2 (e1.trans e2) I2 q2
  | true => exact k true H1 G1 env1 e1 I1 (br_t q1)
/-- as values, all bools -/
def dBl (c : Bool → DEnv → Prop) (x : D) (env : DEnv) : Prop := match x with
  | .bl b => c b env
  | _ => False
def dAndV (ta tb : DE) : DE := fun env Q => ta env fun x env1 => dBl (fun b env1 => br b (tb env1 Q) (Q (.bl false) env1)) x env1
def dOrV (ta tb : DE) : DE := fun env Q => ta env fun x env1 => dBl (fun b env1 => br b (Q (.bl true) env1) (tb env1 Q)) x env1
def dNotV (ta : DE) : DE := fun env Q => ta env fun x env1 => dBl (fun b env1 => Q (.bl (!b)) env1) x env1
theorem q_one {op} (h : QE F a t) : QE F (.BoolOp op [a] pos) t := let ⟨te, p, s⟩ := h; ⟨te, fun i => pe_one (p i), s⟩
theorem q_and {rest : List Expr} (h : QE F a ta) (h2 : QE F (.BoolOp .And (b :: rest) pos) tb) : QE F (.BoolOp .And (a :: b :: rest) pos) (dAndV ta tb) := by
  obtain ⟨te, p, s⟩ := h
  obtain ⟨te2, p2, s2⟩ := h2
  refine ⟨tAndV te te2, fun i => pe_and (p i) (p2 i), fun G0 H0 env σ G H Q R I q k => s G0 H0 env σ G H _ _ I q fun v H1 G1 env1 d e1 I1 r1 q1 => ?_⟩
  cases d with
  | bl b =>
    refine ⟨b, r1, ?_⟩
    cases b with
    | true => exact s2 G0 H0 env1 σ G1 H1 Q R I1 (br_t q1) fun v H2 G2 env2 d e2 I2 r2 q2 => k v H2 G2 env2 d (e1.trans e2) I2 r2 q2
    | false => exact k (.bl false) H1 G1 env1 (.bl false) e1 I1 rfl (br_f q1)
  | _ => exact (q1 : False).elim
theorem q_or {rest : List Expr} (h : QE F a ta) (h2 : QE F (.BoolOp .Or (b :: rest) pos) tb) : QE F (.BoolOp .Or (a :: b :: rest) pos) (dOrV ta tb) := by
  obtain ⟨te, p, s⟩ := h
  obtain ⟨te2, p2, s2⟩ := h2
  refine ⟨tOrV te te2, fun i => pe_or (p i) (p2 i), fun G0 H0 env σ G H Q R I q k => s G0 H0 env σ G H _ _ I q fun v H1 G1 env1 d e1 I1 r1 q1 => ?_⟩
  cases d with
  | bl b =>
    refine ⟨b, r1, ?_⟩
    cases b with
    | false => exact s2 G0 H0 env1 σ G1 H1 Q R I1 (br_f q1) fun v H2 G2 env2 d e2 I2 r2 q2 => k v H2 G2 env2 d (e1.trans e2) I2 r2 q2
    | true => exact k (.bl true) H1 G1 env1 (.bl true) e1 I1 rfl (br_t q1)
  | _ => exact (q1 : False).elim
theorem q_not (h : QE F a ta) : QE F (.UnaryOp .Not a pos) (dNotV ta) := by
  obtain ⟨te, p, s⟩ := h
  refine ⟨tNotV te, fun i => pe_not (p i), fun G0 H0 env σ G H Q R I q k => s G0 H0 env σ G H _ _ I q fun v H1 G1 env1 d e1 I1 r1 q1 => ?_⟩
  cases d with
  | bl b => exact ⟨b, r1, k (.bl (!b)) H1 G1 env1 (.bl (!b)) e1 I1 rfl q1⟩
  | _ => exact (q1 : False).elim
def dIf (c : DT) (ta tb : DE) : DE := fun env Q => c env fun b env1 => br b (ta env1 Q) (tb env1 Q)
theorem q_ifE (hc : QT F c tt) (ha : QE F a ta) (hb : QE F b tb) : QE F (.IfExp c a b pos) (dIf tt ta tb) := by
  obtain ⟨sc, pc, hc⟩ := hc
  obtain ⟨sa, pa, ha⟩ := ha
  obtain ⟨sb, pb, hb⟩ := hb
  refine ⟨tIf sc sa sb, fun i => pe_ifExp (pc i) (pa i) (pb i), fun G0 H0 env σ G H Q R I q k => hc G0 H0 env σ G H _ _ I q fun z H1 G1 env1 e1 I1 q1 => ?_⟩
  cases z with
  | true => exact ha G0 H0 env1 σ G1 H1 Q R I1 (br_t q1) fun v H2 G2 env2 d e2 I2 r2 q2 => k v H2 G2 env2 d (e1.trans e2) I2 r2 q2
  | false => exact hb G0 H0 env1 σ G1 H1 Q R I1 (br_f q1) fun v H2 G2 env2 d e2 I2 r2 q2 => k v H2 G2 env2 d (e1.trans e2) I2 r2 q2
/-- a op b op c -/
def dChain (c c' : D → D → (Bool → Prop) → Prop) (ta tb tc : DE) : DT := fun env Q => ta env fun x env1 => tb env1 fun y env2 => c x y fun z => br z (tc env2 fun w env3 => c' y w fun u => Q u env3) (Q false env2)
theorem qt_chain {op op' : CmpOp} {r r' : R2} {k k' : D → D → (Bool → Prop) → Prop} (ho : ∀ i, OpR (F.X i) (compareOp op) r) (ho' : ∀ i, OpR (F.X i) (compareOp op') r') (hk : CmpC F.K r k) (hk' : CmpC F.K r' k') (ha : QE F a ta) (hb : QE F b tb) (hc : QE F c tc)
    (hm : lastMarks [op, op'] [b, c] = false := by with_unfolding_all rfl) : QT F (.Compare a [op, op'] [b, c] pos) (dChain k k' ta tb tc) := by
  obtain ⟨sa, pa, ha⟩ := ha
  obtain ⟨sb, pb, hb⟩ := hb
  obtain ⟨sc, pc, hc⟩ := hc
  refine ⟨tTest (tChain r r' sa sb sc), fun i => pt_chain (ho i) (ho' i) (pa i) (pb i) (pc i) hm, fun G0 H0 env σ G H Q R I q kk => ?_⟩
  exact ha G0 H0 env σ G H _ _ I q fun x H1 G1 env1 d s1 I1 r1 q1 => hb G0 H0 env1 σ G1 H1 _ _ I1 q1 fun y H2 G2 env2 e s2 I2 r2 q2 =>
    hk G0 H0 env2 σ G2 H2 x y d e _ _ I2 (r1.mono s2) r2 q2 fun z q3 => ⟨z, rfl, by
      cases z with
      | false => exact ⟨false, rfl, kk false H2 G2 env2 (s1.trans s2) I2 (br_f q3)⟩
      | true => exact hc G0 H0 env2 σ G2 H2 _ _ I2 (br_t q3) fun w H3 G3 env3 f s3 I3 r3 q4 => hk' G0 H0 env3 σ G3 H3 y w e f _ _ I3 (r2.mono s3) r3 q4 fun u q5 => ⟨u, rfl, kk u H3 G3 env3 (s1.trans (s2.trans s3)) I3 q5⟩⟩
def dChainV (c c' : D → D → (Bool → Prop) → Prop) (ta tb tc : DE) : DE := fun env Q => dChain c c' ta tb tc env fun b env1 => Q (.bl b) env1
theorem q_chain {op op' : CmpOp} {r r' : R2} {k k' : D → D → (Bool → Prop) → Prop} (ho : ∀ i, OpR (F.X i) (compareOp op) r) (ho' : ∀ i, OpR (F.X i) (compareOp op') r') (hk : CmpC F.K r k) (hk' : CmpC F.K r' k') (ha : QE F a ta) (hb : QE F b tb) (hc : QE F c tc)
    (hm : lastMarks [op, op'] [b, c] = false := by with_unfolding_all rfl) : QE F (.Compare a [op, op'] [b, c] pos) (dChainV k k' ta tb tc) := by
  obtain ⟨sa, pa, ha⟩ := ha
  obtain ⟨sb, pb, hb⟩ := hb
  obtain ⟨sc, pc, hc⟩ := hc
  refine ⟨tChain r r' sa sb sc, fun i => pe_chain (ho i) (ho' i) (pa i) (pb i) (pc i) hm, fun G0 H0 env σ G H Q R I q kk => ?_⟩
  exact ha G0 H0 env σ G H _ _ I q fun x H1 G1 env1 d s1 I1 r1 q1 => hb G0 H0 env1 σ G1 H1 _ _ I1 q1 fun y H2 G2 env2 e s2 I2 r2 q2 =>
    hk G0 H0 env2 σ G2 H2 x y d e _ _ I2 (r1.mono s2) r2 q2 fun z q3 => ⟨z, rfl, by
      cases z with
      | false => exact kk (.bl false) H2 G2 env2 (.bl false) (s1.trans s2) I2 rfl (br_f q3)
      | true => exact hc G0 H0 env2 σ G2 H2 _ _ I2 (br_t q3) fun w H3 G3 env3 f s3 I3 r3 q4 => hk' G0 H0 env3 σ G3 H3 y w e f _ _ I3 (r2.mono s3) r3 q4 fun u q5 => kk (.bl u) H3 G3 env3 (.bl u) (s1.trans (s2.trans s3)) I3 rfl q5⟩

def dNil : DA := fun env Q => Q [] env
def dCons (t : DE) (u : DA) : DA := fun env Q => t env fun x env1 => u env1 fun xs env2 => Q (x :: xs) env2
theorem qa_nil : QA F [] dNil := ⟨tNil, fun _ => pa_nil, fun G0 H0 env σ G H Q R I q k => k [] H G env [] (Same.refl G) I rfl q⟩
theorem qa_cons (h : QE F e t) (h2 : QA F es tA) (hs : ∀ i, starEach (e :: es) (F.X i).env = (false, eval e (F.X i).env) :: starEach es (F.X i).env := by intro _; rfl) : QA F (e :: es) (dCons t tA) := by
  obtain ⟨te, p, s⟩ := h
  obtain ⟨te2, p2, s2⟩ := h2
  exact ⟨tCons te te2, fun i => pa_cons (p i) (p2 i) (hs i), fun G0 H0 env σ G H Q R I q k => s G0 H0 env σ G H _ _ I q fun v H1 G1 env1 d e1 I1 r1 q1 =>
    s2 G0 H0 env1 σ G1 H1 _ _ I1 q1 fun vs H2 G2 env2 ds e2 I2 r2 q2 => k (v :: vs) H2 G2 env2 (d :: ds) (e1.trans e2) I2 ⟨v, vs, rfl, r1.mono e2, r2⟩ q2⟩
def dLst (t : DA) : DE := fun env Q => t env fun xs env1 => xs.length ≤ sizeLine ∧ Q (.lst xs) env1
def dTup (t : DA) : DE := fun env Q => t env fun xs env1 => xs.length ≤ sizeLine ∧ Q (.tup xs) env1
theorem qo_lst (h : QA F es tA) : QO F (.List es pos) (dLst tA) := by
  obtain ⟨te, p, s⟩ := h
  refine ⟨tLst te, fun i => pe_lst (p i), fun G0 H0 env σ G H Q R I q k => s G0 H0 env σ G H _ _ I q fun vs H1 G1 env1 ds e1 I1 r1 q1 => ⟨by rw [r1.len]; exact q1.1, fun l hl => ?_⟩⟩
  exact k _ _ G1 env1 (.lst ds) e1 (I1.newH hl) (I1.freshOwn hl ⟨vs, rfl, r1⟩) q1.2
theorem q_tup {x1} (h : QA F es tA) : QE F (.Tuple es x1 pos) (dTup tA) := by
  obtain ⟨te, p, s⟩ := h
  refine ⟨tTup te, fun i => pe_tup (p i), fun G0 H0 env σ G H Q R I q k => s G0 H0 env σ G H _ _ I q fun vs H1 G1 env1 ds e1 I1 r1 q1 => ⟨by rw [r1.len]; exact q1.1, fun l hl => ?_⟩⟩
  obtain ⟨I2, s2⟩ := I1.new (o := .tup vs) hl
  exact k _ _ _ env1 (.tup ds) (e1.trans s2) I2 ⟨l, vs, rfl, SqT.of upd_same, r1.mono s2⟩ q1.2

def cIx (x y : D) (Q : D → Prop) : Prop := match x, y with
  | .lst ds, .int i => ∃ d, atI ds i = some d ∧ Q d
  | .tup ds, .int i => ∃ d, atI ds i = some d ∧ Q d
  | .scr ns, .int i => ∃ d, atI ns i = some d ∧ Q (.int d)
  | .str s, .int i => s.length ≤ sizeLine ∧ ∃ c, atI s i = some c ∧ Q (.str [c])
  | _, _ => False
theorem reps_at {K : PySem.W.Frag} {G : Hp} {ds : List D} {vs : List V} {i : Int} {d : D} (r : Reps K G ds vs) (h : atI ds i = some d) : ∃ v, atI vs i = some v ∧ Rep K G d v := by
  unfold atI at h ⊢
  rw [r.len]
  cases q : ixN ds.length i with
  | none => rw [q] at h; cases h
  | some j =>
    rw [q] at h
    exact r.get h
theorem atI_map {α β : Type} {f : α → β} {l : List α} {i : Int} : atI (l.map f) i = (atI l i).map f := by
  unfold atI
  rw [List.length_map]
  cases ixN l.length i with
  | none => rfl
  | some j => exact List.getElem?_map
/-- a value that is looked at: frozen, or an owned object as it stands -/
def PRep (K : PySem.W.Frag) (G H : Hp) (d : D) (v : V) : Prop := Rep K G d v ∨ ∃ p, v = .ref p ∧ OwnAt K G H p d
theorem PRep.lst {K : PySem.W.Frag} {G H : Hp} (s : Same G H) {ds : List D} {v : V} (h : PRep K G H (.lst ds) v) : ∃ p vs, v = .ref p ∧ H p = some (.lst vs) ∧ Reps K G ds vs := by
  rcases h with ⟨p, vs, e, h, r⟩ | ⟨p, e, o, h, vs, e2, r⟩
  · exact ⟨p, vs, e, s _ _ h, r⟩
  · exact ⟨p, vs, e, by rw [h, e2], r⟩
theorem PRep.frozen {K : PySem.W.Frag} {G H : Hp} {d : D} {v : V} (h : PRep K G H d v) (n : ∀ o, ¬ Cont K G d o) : Rep K G d v := by
  rcases h with h | ⟨p, e, o, h, c⟩
  · exact h
  · exact (n o c).elim
theorem ix_sem {K : PySem.W.Frag} {G0 H0 : Hp} {env : DEnv} {σ : L2.St} {G H : Hp} {x y : V} {d e : D} {Q : D → Prop} {R : VK} (I : ER K G0 H0 env σ G H) (r1 : PRep K G H d x) (r2 : Rep K G e y) (q : cIx d e Q)
    (k : ∀ v z, Rep K G z v → Q z → R v H) : rIx K x y H R := by
  cases d with
  | lst ds =>
    cases e with
    | int i =>
      obtain ⟨z, q1, q2⟩ := q
      obtain ⟨p, vs, e1, h1, a1⟩ := r1.lst I.sub
      obtain ⟨v, b1, b2⟩ := reps_at a1 q1
      exact .inl ⟨p, vs, i, v, e1, r2, SqL.of h1, b1, k v z b2 q2⟩
    | _ => exact (q : False).elim
  | tup ds =>
    cases e with
    | int i =>
      obtain ⟨z, q1, q2⟩ := q
      obtain ⟨p, vs, e1, h1, a1⟩ := r1.frozen (fun _ z => z)
      obtain ⟨v, b1, b2⟩ := reps_at a1 q1
      exact .inr (.inl ⟨p, vs, i, v, e1, r2, Same.sqt I.sub h1, b1, k v z b2 q2⟩)
    | _ => exact (q : False).elim
  | scr ns =>
    cases e with
    | int i =>
      obtain ⟨z, q1, q2⟩ := q
      obtain ⟨p, e1, h1⟩ := r1.frozen (fun _ z => z)
      exact .inl ⟨p, _, i, .int z, e1, r2, I.sub.seq h1, by rw [atI_map, q1]; rfl, k (.int z) (.int z) rfl q2⟩
    | _ => exact (q : False).elim
  | str s =>
    cases e with
    | int i =>
      obtain ⟨q0, z, q1, q2⟩ := q
      exact .inr (.inr ⟨⟨s.toArray⟩, i, z, r1.frozen (fun _ z => z), r2, by rw [str_len]; exact q0, by simpa using q1, k (.str ⟨#[z]⟩) (.str [z]) rfl q2⟩)
    | _ => exact (q : False).elim
  | _ => exact (q : False).elim
theorem opc_ix {K : PySem.W.Frag} : OpC K (rIx K) cIx := fun G0 H0 env σ G H x y d e Q R I r1 r2 q k => ix_sem I (.inl r1) r2 q fun v z r h => k v H G z (Same.refl G) I r h
theorem q_ix (ha : QE F a ta) (hb : QE F b tb) (hs : PlainIx b := by exact fun _ _ => rfl) : QE F (.Subscript a b pos) (dOp cIx ta tb) := by
  obtain ⟨sa, pa, ha⟩ := ha
  obtain ⟨sb, pb, hb⟩ := hb
  exact ⟨tOp (rIx F.K) sa sb, fun i => pe_ix (by have := ix_seq (X := F.X i); rw [F.hK] at this; exact this) (pa i) (pb i) hs, sem2 opc_ix ha hb⟩
/-- what a slot holds, owned or frozen, looked at alone -/
def slD : Sl → (D → Prop) → Prop
  | .fz d, Q => Q d
  | .ow d, Q => Q d
  | .no, _ => False
/-- the object of a slot, looked at -/
theorem ER.peek {K : PySem.W.Frag} {G0 H0 G H : Hp} {env : DEnv} {σ : L2.St} (I : ER K G0 H0 env σ G H) {i : Nat} {Q : D → Prop} (h : slD (gs env i) Q) :
    ∃ v d, σ[i]? = some (some v) ∧ Q d ∧ PRep K G H d v := by
  cases hg : gs env i with
  | no => rw [hg] at h; exact h.elim
  | fz d =>
    rw [hg] at h
    have h1 := gs_get hg (fun z => nomatch z)
    have l2 : i < σ.length := by rw [← I.len]; exact (List.getElem?_eq_some_iff.mp h1).1
    obtain ⟨v, e, rp⟩ := I.sl i _ _ h1 (List.getElem?_eq_getElem l2)
    exact ⟨v, d, by rw [List.getElem?_eq_getElem l2, e], h, .inl rp⟩
  | ow d =>
    rw [hg] at h
    have h1 := gs_get hg (fun z => nomatch z)
    have l2 : i < σ.length := by rw [← I.len]; exact (List.getElem?_eq_some_iff.mp h1).1
    obtain ⟨p, e, g, h0, own⟩ := I.sl i _ _ h1 (List.getElem?_eq_getElem l2)
    exact ⟨.ref p, d, by rw [List.getElem?_eq_getElem l2, e], h, .inr ⟨p, rfl, own⟩⟩
def bound : Sl → Prop
  | .no => False
  | _ => True
/-- x[i] of a name: it is looked at alone -/
def dIxV (j : Nat) (tb : DE) : DE := fun env Q => bound (gs env j) ∧ tb env fun y env1 => slD (gs env1 j) fun x => cIx x y fun z => Q z env1
theorem q_ixv (j : Nat) {x : Str} {ipos : Pos} (hb : QE F b tb) (hN : ∀ i, (F.X i).N[j]? = some x := by exact fun _ => rfl) (hv : ∀ i, Vis (F.X i).env.scope x := by first | exact fun _ => Or.inl rfl | exact fun _ => Or.inr (Or.inl rfl) | exact fun _ => Or.inr (Or.inr rfl)) (hs : PlainIx b := by exact fun _ _ => rfl) (hd : (x == ("__debug__" : Str)) = false := by decide) (hcd : (x == ("__classdict__" : Str)) = false := by decide) :
    QE F (.Subscript (.Name x ipos) b pos) (dIxV j tb) := by
  obtain ⟨sb, pb, hb⟩ := hb
  refine ⟨tOp (rIx F.K) (tVar j) sb, fun i => pe_ix (by have := ix_seq (X := F.X i); rw [F.hK] at this; exact this) (pe_var (hN i) (hv i) hd hcd) (pb i) hs, fun G0 H0 env σ G H Q R I q k => ?_⟩
  obtain ⟨hn, q⟩ := q
  obtain ⟨v, d, e, _, _⟩ := I.peek (i := j) (Q := fun _ => True) (by
    cases z : gs env j with
    | no => rw [z] at hn; exact hn
    | fz d => trivial
    | ow d => trivial)
  refine ⟨v, e, hb G0 H0 env σ G H _ _ I q fun y H1 G1 env1 f s1 I1 r1 q1 => ?_⟩
  obtain ⟨v', d', e', q2, rp⟩ := I1.peek q1
  rw [e] at e'
  cases e'
  exact ix_sem I1 rp r1 q2 fun u z r h => k u H1 G1 env1 z s1 I1 r h

def SemP (K : PySem.W.Frag) (te : TE) (t : DE) : Prop := ∀ (G0 H0 : Hp) (env : DEnv) (σ : L2.St) (G H : Hp) (Q : DQ) (R : VK), ER K G0 H0 env σ G H → t env Q →
  (∀ v H' G' env' d, Same G G' → ER K G0 H0 env' σ G' H' → PRep K G' H' d v → Q d env' → R v H') → te σ H R
def QP (F : Fam) (e : Expr) (t : DE) : Prop := ∃ te : TE, (∀ i, PE (F.X i) e te) ∧ SemP F.K te t
theorem QE.qp (h : QE F e t) : QP F e t := let ⟨te, p, s⟩ := h; ⟨te, p, fun G0 H0 env σ G H Q R I q k => s G0 H0 env σ G H Q R I q fun v H' G' env' d s1 I1 r q1 => k v H' G' env' d s1 I1 (.inl r) q1⟩
def dPk (i : Nat) : DE := fun env Q => slD (gs env i) fun d => Q d env
theorem qpv (i : Nat) {x : Str} (hN : ∀ j, (F.X j).N[i]? = some x := by exact fun _ => rfl) (hv : ∀ j, Vis (F.X j).env.scope x := by first | exact fun _ => Or.inl rfl | exact fun _ => Or.inr (Or.inl rfl) | exact fun _ => Or.inr (Or.inr rfl))
    (hd : (x == ("__debug__" : Str)) = false := by decide) (hcd : (x == ("__classdict__" : Str)) = false := by decide) : QP F (.Name x pos) (dPk i) :=
  ⟨tVar i, fun j => pe_var (hN j) (hv j) hd hcd, fun G0 H0 env σ G H Q R I q r => by
    obtain ⟨v, d, e, q1, rp⟩ := I.peek q
    exact ⟨v, e, r v H G env d (Same.refl G) I rp q1⟩⟩

def CalP (K : PySem.W.Frag) (r : List V → Hp → VK → Prop) (c : D → (D → Prop) → Prop) : Prop := ∀ (G0 H0 : Hp) (env : DEnv) (σ : L2.St) (G H : Hp) (x : V) (d : D) (Q : D → Prop) (R : VK), ER K G0 H0 env σ G H → PRep K G H d x → c d Q →
  (∀ v H' G' z, Same G G' → ER K G0 H0 env σ G' H' → Rep K G' z v → Q z → R v H') → r [x] H R
def CalO (K : PySem.W.Frag) (r : List V → Hp → VK → Prop) (c : D → (D → Prop) → Prop) : Prop := ∀ (G0 H0 : Hp) (env : DEnv) (σ : L2.St) (G H : Hp) (x : V) (d : D) (Q : D → Prop) (R : VK), ER K G0 H0 env σ G H → PRep K G H d x → c d Q →
  (∀ v H' G' z, Same G G' → ER K G0 H0 env σ G' H' → OwnV K H0 env σ G' H' v z → Q z → R v H') → r [x] H R
def dCal (c : D → (D → Prop) → Prop) (t : DE) : DE := fun env Q => t env fun d env1 => c d fun z => Q z env1
section
variable {r : List V → Hp → VK → Prop} {c : D → (D → Prop) → Prop} {x : Str} {p : Pos} {id T : String}
theorem pa1 {X : Cx} {te : TE} (h : PE X e te) (hs : starEach (e :: []) X.env = (false, eval e X.env) :: starEach [] X.env) : PA X [e] (tCons te tNil) := pa_cons h pa_nil hs
theorem sem_cal {te : TE} {K : PySem.W.Frag} (hc : CalP K r c) (h : SemP K te t) : SemE K (tCB r (tCons te tNil)) (dCal c t) := fun G0 H0 env σ G H Q R I q k =>
  h G0 H0 env σ G H _ _ I q fun v H1 G1 env1 d s1 I1 r1 q1 => hc G0 H0 env1 σ G1 H1 v d _ _ I1 r1 q1 fun w H2 G2 z s2 I2 r2 q2 => k w H2 G2 env1 z (s1.trans s2) I2 r2 q2
theorem sem_calO {te : TE} {K : PySem.W.Frag} (hc : CalO K r c) (h : SemP K te t) : SemO K (tCB r (tCons te tNil)) (dCal c t) := fun G0 H0 env σ G H Q R I q k =>
  h G0 H0 env σ G H _ _ I q fun v H1 G1 env1 d s1 I1 r1 q1 => hc G0 H0 env1 σ G1 H1 v d _ _ I1 r1 q1 fun w H2 G2 z s2 I2 r2 q2 => k w H2 G2 env1 z (s1.trans s2) I2 r2 q2
theorem q_callB (hr : ∀ i, CallR (F.X i) (.builtin id) r) (hc : CalP F.K r c) (hg : ∀ i, Gl (F.X i) x) (hm : ∀ i, (F.X i).mg x = none) (hv : bootBuiltins x = some (.builtin id)) (h : QP F e t) (hn : x ≠ "__name__" := by decide) (hdb : (x == ("__debug__" : Str)) = false := by decide)
    (hs : ∀ i, starEach (e :: []) (F.X i).env = (false, eval e (F.X i).env) :: starEach [] (F.X i).env := by intro _; rfl) : QE F (.Call (.Name x p) [e] [] pos) (dCal c t) := by
  obtain ⟨te, pe, s⟩ := h
  exact ⟨_, fun i => pe_callB (hr i) (hg i) (hm i) hv (pa1 (pe i) (hs i)) hn hdb (he := hs i), sem_cal hc s⟩
theorem q_callT (hr : ∀ i, CallR (F.X i) (.type T) r) (hc : CalP F.K r c) (hg : ∀ i, Gl (F.X i) x) (hm : ∀ i, (F.X i).mg x = none) (hv : bootBuiltins x = some (.type T)) (h : QP F e t) (hn : x ≠ "__name__" := by decide) (hdb : (x == ("__debug__" : Str)) = false := by decide)
    (hs : ∀ i, starEach (e :: []) (F.X i).env = (false, eval e (F.X i).env) :: starEach [] (F.X i).env := by intro _; rfl) : QE F (.Call (.Name x p) [e] [] pos) (dCal c t) := by
  obtain ⟨te, pe, s⟩ := h
  exact ⟨_, fun i => pe_callTy (hr i) (hg i) (hm i) hv (pa1 (pe i) (hs i)) hn hdb (he := hs i), sem_cal hc s⟩
theorem qo_callB (hr : ∀ i, CallR (F.X i) (.builtin id) r) (hc : CalO F.K r c) (hg : ∀ i, Gl (F.X i) x) (hm : ∀ i, (F.X i).mg x = none) (hv : bootBuiltins x = some (.builtin id)) (h : QP F e t) (hn : x ≠ "__name__" := by decide) (hdb : (x == ("__debug__" : Str)) = false := by decide)
    (hs : ∀ i, starEach (e :: []) (F.X i).env = (false, eval e (F.X i).env) :: starEach [] (F.X i).env := by intro _; rfl) : QO F (.Call (.Name x p) [e] [] pos) (dCal c t) := by
  obtain ⟨te, pe, s⟩ := h
  exact ⟨_, fun i => pe_callB (hr i) (hg i) (hm i) hv (pa1 (pe i) (hs i)) hn hdb (he := hs i), sem_calO hc s⟩
theorem qo_callT (hr : ∀ i, CallR (F.X i) (.type T) r) (hc : CalO F.K r c) (hg : ∀ i, Gl (F.X i) x) (hm : ∀ i, (F.X i).mg x = none) (hv : bootBuiltins x = some (.type T)) (h : QP F e t) (hn : x ≠ "__name__" := by decide) (hdb : (x == ("__debug__" : Str)) = false := by decide)
    (hs : ∀ i, starEach (e :: []) (F.X i).env = (false, eval e (F.X i).env) :: starEach [] (F.X i).env := by intro _; rfl) : QO F (.Call (.Name x p) [e] [] pos) (dCal c t) := by
  obtain ⟨te, pe, s⟩ := h
  exact ⟨_, fun i => pe_callTy (hr i) (hg i) (hm i) hv (pa1 (pe i) (hs i)) hn hdb (he := hs i), sem_calO hc s⟩
end
def cLen (d : D) (Q : D → Prop) : Prop := match d with
  | .lst ds => Q (.int ds.length)
  | .tup ds => Q (.int ds.length)
  | .scr ds => Q (.int ds.length)
  | .str s => s.length ≤ sizeLine ∧ Q (.int s.length)
  | _ => False
theorem calp_len {K : PySem.W.Frag} : CalP K (fun xs H Q => ∃ x n, xs = [x] ∧ LenV K x H n ∧ Q (.int n) H) cLen := by
  intro G0 H0 env σ G H x d Q R I r q k
  cases d with
  | lst ds =>
    obtain ⟨p, vs, rfl, h1, a1⟩ := r.lst I.sub
    exact ⟨_, ds.length, rfl, .inl ⟨vs, SqL.of h1, a1.len.symm⟩, k _ H G (.int ds.length) (Same.refl G) I rfl q⟩
  | tup ds =>
    obtain ⟨p, vs, rfl, h1, a1⟩ := r.frozen (fun _ z => z)
    exact ⟨_, ds.length, rfl, .inr ⟨vs, Same.sqt I.sub h1, a1.len.symm⟩, k _ H G (.int ds.length) (Same.refl G) I rfl q⟩
  | scr ds =>
    obtain ⟨p, rfl, h1⟩ := r.frozen (fun _ z => z)
    exact ⟨_, ds.length, rfl, .inl ⟨_, I.sub.seq h1, by simp⟩, k _ H G (.int ds.length) (Same.refl G) I rfl q⟩
  | str s =>
    cases (show _ = _ from r.frozen (fun _ z => z))
    exact ⟨_, s.length, rfl, ⟨by rw [str_len]; exact q.1, (str_len s).symm⟩, k _ H G (.int s.length) (Same.refl G) I rfl q.2⟩
  | _ => exact (q : False).elim
theorem q_len {p : Pos} (hm : ∀ i, (F.X i).mg "len" = none) (h : QP F e t) (hg : ∀ i, Gl (F.X i) "len" := by exact fun _ => rfl) (hs : ∀ i, starEach (e :: []) (F.X i).env = (false, eval e (F.X i).env) :: starEach [] (F.X i).env := by intro _; rfl) : QE F (.Call (.Name "len" p) [e] [] pos) (dCal cLen t) :=
  q_callB (fun i => by have := call_len (X := F.X i); rw [F.hK] at this; exact this) calp_len hg hm boot_len h (hs := hs)
def cInt (d : D) (Q : D → Prop) : Prop := match d with
  | .int i => Q (.int i)
  | .bl b => Q (.int (if b then 1 else 0))
  | _ => False
theorem calp_int {K : PySem.W.Frag} : CalP K (fun xs H Q => (∃ i, xs = [.int i] ∧ Q (.int i) H) ∨ ∃ k, xs = [.bl k] ∧ Q (.int (if k then 1 else 0)) H) cInt := by
  intro G0 H0 env σ G H x d Q R I r q k
  cases d with
  | int i =>
    cases (show _ = _ from r.frozen (fun _ z => z))
    exact .inl ⟨i, rfl, k _ H G (.int i) (Same.refl G) I rfl q⟩
  | bl b =>
    cases (show _ = _ from r.frozen (fun _ z => z))
    exact .inr ⟨b, rfl, k _ H G (.int (if b then 1 else 0)) (Same.refl G) I rfl q⟩
  | _ => exact (q : False).elim
theorem q_intc {p : Pos} (hm : ∀ i, (F.X i).mg "int" = none) (h : QP F e t) (hg : ∀ i, Gl (F.X i) "int" := by exact fun _ => rfl) (hs : ∀ i, starEach (e :: []) (F.X i).env = (false, eval e (F.X i).env) :: starEach [] (F.X i).env := by intro _; rfl) : QE F (.Call (.Name "int" p) [e] [] pos) (dCal cInt t) :=
  q_callT (fun i => call_int1) calp_int hg hm (by decide +kernel) h (hs := hs)
def cListc (d : D) (Q : D → Prop) : Prop := match d with
  | .lst ds => Q (.lst ds)
  | .tup ds => Q (.lst ds)
  | .scr ns => Q (.lst (ns.map .int))
  | _ => False
theorem calo_list {K : PySem.W.Frag} : CalO K (fun xs H Q => ∃ p ys, xs = [.ref p] ∧ (SqL K H p ys ∨ SqT K H p ys) ∧ ∀ l, H l = none → Q (.ref l) (upd H l (.lst ys))) cListc := by
  intro G0 H0 env σ G H x d Q R I r q k
  have fin : ∀ {ds : List D} {vs : List V} {l : Addr}, Reps K G ds vs → Q (.lst ds) → H l = none → R (.ref l) (upd H l (.lst vs)) := fun {ds vs l} r q hl =>
    k _ _ G (.lst ds) (Same.refl G) (I.newH hl) (I.freshOwn hl ⟨vs, rfl, r⟩) q
  cases d with
  | lst ds =>
    obtain ⟨p, vs, rfl, h1, a1⟩ := r.lst I.sub
    exact ⟨p, vs, rfl, .inl (SqL.of h1), fun l hl => fin a1 q hl⟩
  | tup ds =>
    obtain ⟨p, vs, rfl, h1, a1⟩ := r.frozen (fun _ z => z)
    exact ⟨p, vs, rfl, .inr (Same.sqt I.sub h1), fun l hl => fin a1 q hl⟩
  | scr ns =>
    obtain ⟨p, rfl, h1⟩ := r.frozen (fun _ z => z)
    exact ⟨p, _, rfl, .inl (I.sub.seq h1), fun l hl => fin (Reps.ints ns) q hl⟩
  | _ => exact (q : False).elim
theorem qo_list {p : Pos} (hm : ∀ i, (F.X i).mg "list" = none) (h : QP F e t) (hg : ∀ i, Gl (F.X i) "list" := by exact fun _ => rfl) (hs : ∀ i, starEach (e :: []) (F.X i).env = (false, eval e (F.X i).env) :: starEach [] (F.X i).env := by intro _; rfl) : QO F (.Call (.Name "list" p) [e] [] pos) (dCal cListc t) :=
  qo_callT (fun i => by have := call_list_of (X := F.X i); rw [F.hK] at this; exact this) calo_list hg hm (by decide +kernel) h (hs := hs)
def cTupc (d : D) (Q : D → Prop) : Prop := match d with
  | .lst ds => Q (.tup ds)
  | .tup ds => Q (.tup ds)
  | .scr ns => Q (.tup (ns.map .int))
  | _ => False
theorem calp_tuple {K : PySem.W.Frag} : CalP K (fun xs H Q => ∃ p ys, xs = [.ref p] ∧ ((SqL K H p ys ∧ ∀ l, H l = none → Q (.ref l) (upd H l (.tup ys))) ∨ (SqT K H p ys ∧ Q (.ref p) H))) cTupc := by
  intro G0 H0 env σ G H x d Q R I r q k
  have fin : ∀ {ds : List D} {vs : List V} {l : Addr}, Reps K G ds vs → Q (.tup ds) → H l = none → R (.ref l) (upd H l (.tup vs)) := fun {ds vs l} r q hl => by
    obtain ⟨I2, s2⟩ := I.new (o := .tup vs) hl
    exact k _ _ _ (.tup ds) s2 I2 ⟨l, vs, rfl, SqT.of upd_same, r.mono s2⟩ q
  cases d with
  | lst ds =>
    obtain ⟨p, vs, rfl, h1, a1⟩ := r.lst I.sub
    exact ⟨p, vs, rfl, .inl ⟨SqL.of h1, fun l hl => fin a1 q hl⟩⟩
  | tup ds =>
    have r' := r.frozen (fun _ z => z)
    obtain ⟨p, vs, rfl, h1, a1⟩ := id r'
    exact ⟨p, vs, rfl, .inr ⟨Same.sqt I.sub h1, k _ H G (.tup ds) (Same.refl G) I r' q⟩⟩
  | scr ns =>
    obtain ⟨p, rfl, h1⟩ := r.frozen (fun _ z => z)
    exact ⟨p, _, rfl, .inl ⟨I.sub.seq h1, fun l hl => fin (Reps.ints ns) q hl⟩⟩
  | _ => exact (q : False).elim
theorem q_tuplec {p : Pos} (hm : ∀ i, (F.X i).mg "tuple" = none) (h : QP F e t) (hg : ∀ i, Gl (F.X i) "tuple" := by exact fun _ => rfl) (hs : ∀ i, starEach (e :: []) (F.X i).env = (false, eval e (F.X i).env) :: starEach [] (F.X i).env := by intro _; rfl) : QE F (.Call (.Name "tuple" p) [e] [] pos) (dCal cTupc t) :=
  q_callT (fun i => by have := call_tuple_of (X := F.X i); rw [F.hK] at this; exact this) calp_tuple hg hm (by decide +kernel) h (hs := hs)
/-- n.bit_length() -/
def cBits (d : D) (Q : D → Prop) : Prop := match d with
  | .int i => Q (.int (Builtin.Int.intBits i : Nat))
  | _ => False
theorem q_bits {apos : Pos} (h : QE F o t) (hbase : ∀ i, attributeBase o "bit_length" (F.X i).env (eval o (F.X i).env) = eval o (F.X i).env := by intro _; rfl) (hline : (apos.endLine == pos.line) = true := by rfl) : QE F (.Call (.Attribute o "bit_length" apos) [] [] pos) (dCal cBits t) := by
  obtain ⟨te, pe, s⟩ := h
  refine ⟨tBits te, fun i => pe_bits (pe i) (hbase i) hline, fun G0 H0 env σ G H Q R I q k => s G0 H0 env σ G H _ _ I q fun v H1 G1 env1 d s1 I1 r1 q1 => ?_⟩
  cases d with
  | int i => exact ⟨i, r1, k (.int (Builtin.Int.intBits i : Nat)) H1 G1 env1 (.int (Builtin.Int.intBits i : Nat)) s1 I1 rfl q1⟩
  | _ => exact (q1 : False).elim
end
end DL

set_option Elab.async false
set_option linter.all false
set_option maxRecDepth 100000
namespace DL
open PySem PySem.Spec PyProof.Rows L2

structure DEnds where
  nx : DEnv → Prop
  rt : D → Prop
  bk : DEnv → Prop := fun _ => False
  ct : DEnv → Prop := fun _ => False
abbrev DS := DEnds → DEnv → Prop
/-- a value handed back: owned and new, or frozen -/
def RetOk (own : Bool) (K : PySem.W.Frag) (H0 G H : Hp) (v : V) (d : D) : Prop :=
  if own = true then (∃ p, v = .ref p ∧ G p = none ∧ H0 p = none ∧ OwnAt K G H p d) else Rep K G d v
structure EO (K : PySem.W.Frag) (own : Bool) (G0 H0 Gs : Hp) (D : DEnds) (E : Ends) : Prop where
  nx : ∀ env σ G H, Same Gs G → ER K G0 H0 env σ G H → D.nx env → E.nx σ H
  rt : ∀ env σ G H v d, Same Gs G → ER K G0 H0 env σ G H → RetOk own K H0 G H v d → D.rt d → E.rt v H
  bk : ∀ env σ G H, Same Gs G → ER K G0 H0 env σ G H → D.bk env → E.bk σ H
  ct : ∀ env σ G H, Same Gs G → ER K G0 H0 env σ G H → D.ct env → E.ct σ H
theorem EO.mono {K : PySem.W.Frag} {own : Bool} {G0 H0 Gs Gt : Hp} {D : DEnds} {E : Ends} (e : EO K own G0 H0 Gs D E) (s : Same Gs Gt) : EO K own G0 H0 Gt D E :=
  ⟨fun env σ G H s1 I q => e.nx env σ G H (s.trans s1) I q, fun env σ G H v d s1 I r q => e.rt env σ G H v d (s.trans s1) I r q, fun env σ G H s1 I q => e.bk env σ G H (s.trans s1) I q, fun env σ G H s1 I q => e.ct env σ G H (s.trans s1) I q⟩
def SemS (K : PySem.W.Frag) (own : Bool) (ts : TS) (t : DS) : Prop := ∀ (G0 H0 : Hp) (env : DEnv) (σ : L2.St) (G H : Hp) (D : DEnds) (E : Ends), ER K G0 H0 env σ G H → t D env → EO K own G0 H0 G D E → ts E σ H
def QS (F : Fam) (own : Bool) (st : Stmt) (t : DS) : Prop := ∃ ts : TS, (∀ i, PS (F.X i) st ts) ∧ SemS F.K own ts t
def QSs (F : Fam) (own : Bool) (st : List Stmt) (t : DS) : Prop := ∃ ts : TS, (∀ i, PSs (F.X i) st ts) ∧ SemS F.K own ts t
/-- targets -/
abbrev DG := D → DEnv → (DEnv → Prop) → Prop
def SemG (K : PySem.W.Frag) (g : TG) (t : DG) : Prop := ∀ (G0 H0 : Hp) (env : DEnv) (σ : L2.St) (G H : Hp) (v : V) (d : D) (Q : DEnv → Prop) (R : L2.St → Hp → Prop), ER K G0 H0 env σ G H → Rep K G d v → t d env Q →
  (∀ env' σ' , ER K G0 H0 env' σ' G H → Q env' → R σ' H) → g v σ H R
def QG (F : Fam) (tg : Expr) (t : DG) : Prop := ∃ g : TG, (∀ i, PG (F.X i) tg g) ∧ SemG F.K g t
abbrev DGs := List D → DEnv → (DEnv → Prop) → Prop
def SemGs (K : PySem.W.Frag) (g : TGs) (t : DGs) : Prop := ∀ (G0 H0 : Hp) (env : DEnv) (σ : L2.St) (G H : Hp) (vs : List V) (ds : List D) (Q : DEnv → Prop) (R : L2.St → Hp → Prop), ER K G0 H0 env σ G H → Reps K G ds vs → t ds env Q →
  (∀ env' σ' , ER K G0 H0 env' σ' G H → Q env' → R σ' H) → g vs σ H R
def QGs (F : Fam) (tgs : List Expr) (t : DGs) : Prop := ∃ g : TGs, (∀ i, PGs (F.X i) tgs g) ∧ SemGs F.K g t

section
variable {F : Fam} {own : Bool} {e a b c o : Expr} {es : List Expr} {te ta tb : DE} {tt : DT} {tA : DA} {pos : Pos} {st : Stmt} {sts : List Stmt} {t u : DS}
def gNm (i : Nat) : DG := fun d env Q => Q (ss env i (.fz d))
theorem qg_name (i : Nat) {x : Str} (hN : ∀ j, (F.X j).N.Nodup) (hi : ∀ j, (F.X j).N[i]? = some x := by exact fun _ => rfl) (hx : ∀ j, Loc (F.X j).env.scope x := by first | exact fun _ => Or.inl rfl | exact fun _ => Or.inr rfl)
    (hf : ∀ j, (F.X j).fn x = true ∨ (F.X j).env.scope.names.lookup x = some .local := by first | exact fun _ => .inl rfl | exact fun _ => .inr rfl) : QG F (.Name x pos) (gNm i) :=
  ⟨gName i, fun j => pg_name (hN j) (hi j) (hx j) (hf j), fun G0 H0 env σ G H v d Q R I r q k => by
    have q' : Q (ss env i (.fz d)) := q
    rw [ss_set] at q'
    exact k _ _ (I.setF r i) q'⟩
def gsN : DGs := fun ds env Q => match ds with
  | [] => Q env
  | _ => False
def gsC (t : DG) (u : DGs) : DGs := fun ds env Q => match ds with
  | d :: r => t d env fun e => u r e Q
  | _ => False
theorem qgs_nil : QGs F [] gsN := ⟨gNil, fun _ => pgs_nil, fun G0 H0 env σ G H vs ds Q R I r q k => by
  cases ds with
  | nil => cases r; exact ⟨rfl, k _ _ I q⟩
  | cons _ _ => exact (q : False).elim⟩
theorem qgs_cons {t : DG} {u : DGs} (h : QG F e t) (h2 : QGs F es u) (hs : ∀ i, (assignEach (e :: es) (F.X i).env).map (·.2) = assign e (F.X i).env :: (assignEach es (F.X i).env).map (·.2) := by intro _; rfl) : QGs F (e :: es) (gsC t u) := by
  obtain ⟨g, p, s⟩ := h
  obtain ⟨g2, p2, s2⟩ := h2
  refine ⟨gCons g g2, fun i => pgs_cons (p i) (p2 i) (hs i), fun G0 H0 env σ G H vs ds Q R I r q k => ?_⟩
  cases ds with
  | nil => exact (q : False).elim
  | cons d ds =>
    obtain ⟨v, w, rfl, r1, r2⟩ := r
    exact ⟨v, w, rfl, s G0 H0 env σ G H v d _ _ I r1 q fun env' σ' I1 q1 => s2 G0 H0 env' σ' G H w ds Q R I1 r2 q1 k⟩
/-- a, b = a tuple -/
def gTp (n : Nat) (t : DGs) : DG := fun d env Q => match d with
  | .tup ds => ds.length = n ∧ t ds env Q
  | _ => False
theorem qg_tup {k : Nat} {t : DGs} {n : Nat} (hc : ∀ i, (F.X i).calm = true) (h : QGs F es t) (hn : ∀ i, (assignEach es (F.X i).env).length = n := by intro _; rfl) (hst : ∀ i, (assignEach es (F.X i).env).findIdx? (·.1) = none := by intro _; rfl) : QG F (.Tuple es k pos) (gTp n t) := by
  obtain ⟨g, p, s⟩ := h
  refine ⟨gTup F.K n g, fun i => by have := pg_tup (pos := pos) (k := k) (hc i) (p i) (hn i) (hst i); rw [F.hK] at this; exact this, fun G0 H0 env σ G H v d Q R I r q k => ?_⟩
  cases d with
  | tup ds =>
    obtain ⟨a, vs, e1, h1, r1⟩ := r
    exact ⟨a, vs, e1, Same.sqt I.sub h1, by rw [r1.len]; exact q.1, s G0 H0 env σ G H vs ds Q R I r1 q.2 k⟩
  | _ => exact (q : False).elim

def dNext : DS := fun D env => D.nx env
def dSeq (t u : DS) : DS := fun D env => t { D with nx := u D } env
theorem qss_nil : QSs F own [] dNext := ⟨tNext, fun _ => pss_nil, fun G0 H0 env σ G H D E I q k => k.nx env σ G H (Same.refl G) I q⟩
theorem qss_one (h : QS F own st t) : QSs F own [st] t := let ⟨ts, p, s⟩ := h; ⟨ts, fun i => pss_one (p i), s⟩
theorem qss_cons (h : QS F own st t) (h2 : QSs F own sts u) : QSs F own (st :: sts) (dSeq t u) := by
  obtain ⟨ts, p, s⟩ := h
  obtain ⟨ts2, p2, s2⟩ := h2
  refine ⟨tSeq ts ts2, fun i => pss_cons (p i) (p2 i), fun G0 H0 env σ G H D E I q k => s G0 H0 env σ G H _ _ I q ⟨fun env' σ' G' H' s1 I1 q1 => ?_, k.rt, k.bk, k.ct⟩⟩
  exact s2 G0 H0 env' σ' G' H' D E I1 q1 (k.mono s1)
def dBreak : DS := fun D env => D.bk env
def dCont : DS := fun D env => D.ct env
theorem qs_pass : QS F own (.Pass pos) dNext := ⟨tNext, fun _ => ps_pass, fun G0 H0 env σ G H D E I q k => k.nx env σ G H (Same.refl G) I q⟩
theorem qs_break : QS F own (.Break pos) dBreak := ⟨tBreak, fun _ => ps_break, fun G0 H0 env σ G H D E I q k => k.bk env σ G H (Same.refl G) I q⟩
theorem qs_cont : QS F own (.Continue pos) dCont := ⟨tCont, fun _ => ps_continue, fun G0 H0 env σ G H D E I q k => k.ct env σ G H (Same.refl G) I q⟩
def dRet (t : DE) : DS := fun D env => t env fun d _ => D.rt d
theorem qs_ret (h : QE F e te) : QS F false (.Return (some e) pos) (dRet te) := by
  obtain ⟨ts, p, s⟩ := h
  exact ⟨tRet ts, fun i => ps_ret (p i), fun G0 H0 env σ G H D E I q k => s G0 H0 env σ G H _ _ I q fun v H' G' env' d s1 I1 r q1 => k.rt env' σ G' H' v d s1 I1 r q1⟩
theorem qs_retO (h : QO F e te) : QS F true (.Return (some e) pos) (dRet te) := by
  obtain ⟨ts, p, s⟩ := h
  exact ⟨tRet ts, fun i => ps_ret (p i), fun G0 H0 env σ G H D E I q k => s G0 H0 env σ G H _ _ I q fun v H' G' env' d s1 I1 r q1 => k.rt env' σ G' H' v d s1 I1 (let ⟨p, e, g, h0, ow, _⟩ := r; ⟨p, e, g, h0, ow⟩) q1⟩
def dRetN : DS := fun D _ => D.rt .non
theorem qs_retN : QS F false (.Return none pos) dRetN := ⟨tRetN, fun _ => ps_retN, fun G0 H0 env σ G H D E I q k => k.rt env σ G H .non .non (Same.refl G) I rfl q⟩
def dIfS (c : DT) (t u : DS) : DS := fun D env => c env fun b env1 => br b (t D env1) (u D env1)
theorem qs_if {x y : List Stmt} (hc : QT F c tt) (h : QSs F own x t) (h2 : QSs F own y u) : QS F own (.If c x y pos) (dIfS tt t u) := by
  obtain ⟨sc, pc, hc⟩ := hc
  obtain ⟨ts, p, s⟩ := h
  obtain ⟨ts2, p2, s2⟩ := h2
  refine ⟨tIfS sc ts ts2, fun i => ps_if (pc i) (p i) (p2 i), fun G0 H0 env σ G H D E I q k => hc G0 H0 env σ G H _ _ I q fun b H' G' env' s1 I1 q1 => ?_⟩
  cases b with
  | true => exact s G0 H0 env' σ G' H' D E I1 (br_t q1) (k.mono s1)
  | false => exact s2 G0 H0 env' σ G' H' D E I1 (br_f q1) (k.mono s1)
def dDrop (t : DE) : DS := fun D env => t env fun _ env1 => D.nx env1
theorem qs_expr (h : QE F e te) (hs : ∀ i, swapsWith e none pos.line (F.X i).env = pure false := by intro _; rfl) : QS F own (.Expr e pos) (dDrop te) := by
  obtain ⟨ts, p, s⟩ := h
  exact ⟨tDrop ts, fun i => ps_expr (p i) (hs i), fun G0 H0 env σ G H D E I q k => s G0 H0 env σ G H _ _ I q fun v H' G' env' d s1 I1 r q1 => k.nx env' σ G' H' s1 I1 q1⟩

def dSet (i : Nat) (t : DE) : DS := fun D env => t env fun d env1 => D.nx (ss env1 i (.fz d))
def dSetO (i : Nat) (t : DE) : DS := fun D env => t env fun d env1 => D.nx (ss env1 i (.ow d))
theorem qs_set (i : Nat) {x : Str} {pos' : Pos} (hN : ∀ j, (F.X j).N.Nodup) (h : QE F e te) (hi : ∀ j, (F.X j).N[i]? = some x := by exact fun _ => rfl) (hx : ∀ j, Loc (F.X j).env.scope x := by first | exact fun _ => Or.inl rfl | exact fun _ => Or.inr rfl) (hs : ∀ j, swapsWith e (some (.Name x pos')) pos.line (F.X j).env = pure false := by intro _; rfl)
    (hf : ∀ j, (F.X j).fn x = true ∨ (F.X j).env.scope.names.lookup x = some .local := by first | exact fun _ => .inl rfl | exact fun _ => .inr rfl) : QS F own (.Assign [.Name x pos'] e pos) (dSet i te) := by
  obtain ⟨ts, p, s⟩ := h
  refine ⟨tAsg ts (gName i), fun j => ps_set (hN j) (hi j) (hx j) (p j) (hs j) (hf j), fun G0 H0 env σ G H D E I q k => s G0 H0 env σ G H _ _ I q fun v H' G' env' d s1 I1 r q1 => ?_⟩
  have q' : D.nx (ss env' i (.fz d)) := q1
  rw [ss_set] at q'
  exact k.nx _ _ G' H' s1 (I1.setF r i) q'
theorem qs_setO (i : Nat) {x : Str} {pos' : Pos} (hN : ∀ j, (F.X j).N.Nodup) (h : QO F e te) (hi : ∀ j, (F.X j).N[i]? = some x := by exact fun _ => rfl) (hx : ∀ j, Loc (F.X j).env.scope x := by first | exact fun _ => Or.inl rfl | exact fun _ => Or.inr rfl) (hs : ∀ j, swapsWith e (some (.Name x pos')) pos.line (F.X j).env = pure false := by intro _; rfl)
    (hf : ∀ j, (F.X j).fn x = true ∨ (F.X j).env.scope.names.lookup x = some .local := by first | exact fun _ => .inl rfl | exact fun _ => .inr rfl) : QS F own (.Assign [.Name x pos'] e pos) (dSetO i te) := by
  obtain ⟨ts, p, s⟩ := h
  refine ⟨tAsg ts (gName i), fun j => ps_set (hN j) (hi j) (hx j) (p j) (hs j) (hf j), fun G0 H0 env σ G H D E I q k => s G0 H0 env σ G H _ _ I q fun v H' G' env' d s1 I1 r q1 => ?_⟩
  have q' : D.nx (ss env' i (.ow d)) := q1
  rw [ss_set] at q'
  exact k.nx _ _ G' H' s1 (I1.setO r i) q'
def dAsg (t : DE) (g : DG) : DS := fun D env => t env fun d env1 => g d env1 D.nx
theorem qs_asg {tg : Expr} {g : DG} (h : QE F e te) (hg : QG F tg g) (hs : ∀ i, swapsWithSole [tg] e pos.line (F.X i).env = pure false := by intro _; rfl) (hw : ∀ i, swappedStores [tg] e (F.X i).env = pure none := by intro _; rfl)
    (h1 : ∀ i, (assignEach [tg] (F.X i).env).map (·.2) = [assign tg (F.X i).env] := by intro _; rfl) : QS F own (.Assign [tg] e pos) (dAsg te g) := by
  obtain ⟨ts, p, s⟩ := h
  obtain ⟨gg, pg, sg⟩ := hg
  exact ⟨tAsg ts gg, fun i => ps_asg (p i) (pg i) (hs i) (hw i) (h1 i), fun G0 H0 env σ G H D E I q k => s G0 H0 env σ G H _ _ I q fun v H' G' env' d s1 I1 r q1 =>
    sg G0 H0 env' σ G' H' v d _ _ I1 r q1 fun env2 σ2 I2 q2 => k.nx env2 σ2 G' H' s1 I2 q2⟩

def owD : Sl → (D → Prop) → Prop
  | .ow d, Q => Q d
  | _, _ => False
theorem owD_get {env : DEnv} {i : Nat} {Q : D → Prop} (h : owD (gs env i) Q) : ∃ d, env[i]? = some (.ow d) ∧ Q d := by
  cases hg : gs env i with
  | no => rw [hg] at h; exact h.elim
  | fz d => rw [hg] at h; exact h.elim
  | ow d => rw [hg] at h; exact ⟨d, gs_get hg (fun z => nomatch z), h⟩
def lsD : D → (List D → Prop) → Prop
  | .lst ds, Q => Q ds
  | _, _ => False
/-- x.append(e) -/
def dApp (j : Nat) (t : DE) : DE := fun env Q => owD (gs env j) fun d0 => lsD d0 fun _ => t env fun z env1 => owD (gs env1 j) fun d => lsD d fun ds => ds.length < sizeLine ∧ Q .non (ss env1 j (.ow (.lst (ds ++ [z]))))
/-- the object of an owned name -/
theorem ER.ownedAt {K : PySem.W.Frag} {G0 H0 G H : Hp} {env : DEnv} {σ : L2.St} (I : ER K G0 H0 env σ G H) {j : Nat} {d : D} (h : env[j]? = some (.ow d)) : ∃ p o, σ[j]? = some (some (.ref p)) ∧ G p = none ∧ H p = some o ∧ Cont K G d o := by
  have l2 : j < σ.length := by rw [← I.len]; exact (List.getElem?_eq_some_iff.mp h).1
  obtain ⟨p, e, g, h0, o, ho, c⟩ := I.sl j _ _ h (List.getElem?_eq_getElem l2)
  exact ⟨p, o, by rw [List.getElem?_eq_getElem l2, e], g, ho, c⟩
theorem lsD_get {d : D} {Q : List D → Prop} (h : lsD d Q) : ∃ ds, d = .lst ds ∧ Q ds := by
  cases d with
  | lst ds => exact ⟨ds, rfl, h⟩
  | _ => exact (h : False).elim
theorem q_append (j : Nat) {x : Str} {apos npos : Pos} (h : QE F e te) (hN : ∀ i, (F.X i).N[j]? = some x := by exact fun _ => rfl) (hv : ∀ i, Vis (F.X i).env.scope x := by first | exact fun _ => Or.inl rfl | exact fun _ => Or.inr (Or.inl rfl) | exact fun _ => Or.inr (Or.inr rfl)) (hd : (x == ("__debug__" : Str)) = false := by decide) (hcd : (x == ("__classdict__" : Str)) = false := by decide)
    (hs : ∀ i, starEach (e :: []) (F.X i).env = (false, eval e (F.X i).env) :: starEach [] (F.X i).env := by intro _; rfl)
    (hbase : ∀ i, attributeBase (.Name x npos) "append" (F.X i).env (eval (.Name x npos) (F.X i).env) = eval (.Name x npos) (F.X i).env := by intro _; rfl) (hline : (apos.endLine == pos.line) = true := by rfl) :
    QE F (.Call (.Attribute (.Name x npos) "append" apos) [e] [] pos) (dApp j te) := by
  obtain ⟨ts, p, s⟩ := h
  refine ⟨tBM F.K "list" rAppend (tVar j) (tCons ts tNil), fun i => by
    have := pe_bm (X := F.X i) (apos := apos) (cpos := pos) PySem.F.plainAttrs_list PySem.F.slot_list_append PySem.F.type_list_append mt_append (pe_var (pos := npos) (hN i) (hv i) hd hcd) (pa1 (p i) (hs i)) (hs := hs i) (hbase := hbase i) (hline := hline) (hfew := by rw [hs i]; rfl)
    rw [F.hK] at this; exact this, fun G0 H0 env σ G H Q R I q k => ?_⟩
  obtain ⟨d0, h0, q⟩ := owD_get q
  obtain ⟨ds0, rfl, q⟩ := lsD_get q
  obtain ⟨p0, o0, e0, g0, ho0, vs0, rfl, _⟩ := I.ownedAt h0
  refine ⟨.ref p0, e0, .inl ⟨rfl, _, SqL.of ho0⟩, s G0 H0 env σ G H _ _ I q fun v H1 G1 env1 z s1 I1 r1 q1 => ?_⟩
  obtain ⟨d1, h1, q1⟩ := owD_get q1
  obtain ⟨ds, rfl, hz, q1⟩ := lsD_get q1
  obtain ⟨p1, o1, e1, g1, ho1, vs, rfl, c1⟩ := I1.ownedAt h1
  rw [e0] at e1
  cases e1
  obtain ⟨p2, e2, own2, I2⟩ := I1.write h1 (e := .lst (ds ++ [z])) (o := .lst (vs ++ [v])) ⟨_, rfl, c1.append (Reps.one r1)⟩
  rw [e0] at e2
  cases e2
  rw [ss_set] at q1
  exact ⟨p0, vs, v, rfl, rfl, ho1, by rw [c1.len]; exact hz, k .non _ G1 _ .non s1 I2 rfl q1⟩
/-- x[i] = e, x an owned list's name -/
def dSetI (j : Nat) (te ti : DE) : DS := fun D env => te env fun z env1 => owD (gs env1 j) fun d0 => lsD d0 fun _ => ti env1 fun i env2 => owD (gs env2 j) fun d => lsD d fun ds => match i with
  | .int i => ∃ m, ixN ds.length i = some m ∧ D.nx (ss env2 j (.ow (.lst (ds.set m z))))
  | _ => False
theorem qs_setI (j : Nat) {x : Str} {spos npos : Pos} {i : Expr} {ti : DE} (h : QE F e te) (hi : QE F i ti) (hN : ∀ i, (F.X i).N[j]? = some x := by exact fun _ => rfl) (hv : ∀ i, Vis (F.X i).env.scope x := by first | exact fun _ => Or.inl rfl | exact fun _ => Or.inr (Or.inl rfl) | exact fun _ => Or.inr (Or.inr rfl)) (hd : (x == ("__debug__" : Str)) = false := by decide) (hcd : (x == ("__classdict__" : Str)) = false := by decide)
    (ha : ∀ (k : F.ι) v, assign (.Subscript (.Name x npos) i spos) (F.X k).env v = (do
      let ov ← holding [v] (eval (.Name x npos) (F.X k).env)
      let iv ← holding [v, ov] (eval i (F.X k).env)
      standAt spos
      holding [v, ov, iv] (setItem ov iv v)
      release [v, ov, iv] []) := by intro _ _; rfl)
    (hs : ∀ k, swapsWithSole [.Subscript (.Name x npos) i spos] e pos.line (F.X k).env = pure false := by intro _; rfl) (hw : ∀ k, swappedStores [.Subscript (.Name x npos) i spos] e (F.X k).env = pure none := by intro _; rfl)
    (h1 : ∀ k, (assignEach [.Subscript (.Name x npos) i spos] (F.X k).env).map (·.2) = [assign (.Subscript (.Name x npos) i spos) (F.X k).env] := by intro _; rfl) :
    QS F own (.Assign [.Subscript (.Name x npos) i spos] e pos) (dSetI j te ti) := by
  obtain ⟨ts, p, s⟩ := h
  obtain ⟨ti', p', s'⟩ := hi
  refine ⟨tAsg ts (gSub (tVar j) ti' rSetL), fun k => ps_asg (p k) (pg_sub (pe_var (hN k) (hv k) hd hcd) (p' k) set_list (ha k)) (hs k) (hw k) (h1 k), fun G0 H0 env σ G H D E I q k => s G0 H0 env σ G H _ _ I q fun v H1 G1 env1 z s1 I1 r1 q1 => ?_⟩
  obtain ⟨d0, h0, q1⟩ := owD_get q1
  obtain ⟨ds0, rfl, q1⟩ := lsD_get q1
  obtain ⟨p0, o0, e0, g0, ho0, vs0, rfl, _⟩ := I1.ownedAt h0
  refine ⟨.ref p0, e0, s' G0 H0 env1 σ G1 H1 _ _ I1 q1 fun y H2 G2 env2 iz s2 I2 r2 q2 => ?_⟩
  obtain ⟨d1, h1', q2⟩ := owD_get q2
  obtain ⟨ds, rfl, q2⟩ := lsD_get q2
  obtain ⟨p1, o1, e1, g1, ho1, vs, rfl, c1⟩ := I2.ownedAt h1'
  rw [e0] at e1
  cases e1
  cases iz with
  | int n =>
    obtain ⟨m, hm, q2⟩ := q2
    obtain ⟨p2, e2, own2, I3⟩ := I2.write h1' (e := .lst (ds.set m z)) (o := .lst (vs.set m v)) ⟨_, rfl, c1.set m (r1.mono s2)⟩
    rw [e0] at e2
    cases e2
    rw [ss_set] at q2
    exact ⟨p0, vs, n, m, rfl, r2, ho1, by rw [c1.len]; exact hm, k.nx _ _ _ _ (s1.trans s2) I3 q2⟩
  | _ => exact (q2 : False).elim

def dWhile (c : DT) (tb : DS) : DS := fun D env => ∃ I : Nat → DEnv → Prop, (∃ m, I m env) ∧ ∀ m e, I m e → c e fun b e1 => br b (tb { nx := fun e2 => ∃ m', m' < m ∧ I m' e2, rt := D.rt, ct := fun e2 => ∃ m', m' < m ∧ I m' e2, bk := D.nx } e1) (D.nx e1)
theorem qs_while {body : List Stmt} {tb : DS} (hp : ∀ i, PassesOwn (model (F.X i).prog (F.X i).w) (F.X i).A (F.X i).env (F.X i).xe) (hc : QT F c tt) (hb : QSs F own body tb) : QS F own (.While c body [] pos) (dWhile tt tb) := by
  obtain ⟨sc, pc, hc⟩ := hc
  obtain ⟨ts, p, s⟩ := hb
  refine ⟨tWhile sc ts, fun i => ps_while (hp i) (pc i) (p i), fun G0 H0 env σ G H D E I q k => ?_⟩
  obtain ⟨J, ⟨m0, j0⟩, turn⟩ := q
  refine ⟨fun m σ' H' => ∃ env' G', Same G G' ∧ ER F.K G0 H0 env' σ' G' H' ∧ J m env', ⟨m0, env, G, Same.refl G, I, j0⟩, ?_⟩
  rintro m σ' H' ⟨env', G', s1, I1, j1⟩
  refine hc G0 H0 env' σ' G' H' _ _ I1 (turn m env' j1) fun b H2 G2 env2 s2 I2 q2 => ?_
  cases b with
  | true =>
    rw [if_pos rfl]
    have q2 := br_t q2
    refine ⟨fun σ3 H3 => ∃ m', m' < m ∧ ∃ env3 G3, Same G G3 ∧ ER F.K G0 H0 env3 σ3 G3 H3 ∧ J m' env3, fun σ3 H3 h => h, ?_⟩
    refine s G0 H0 env2 σ' G2 H2 _ _ I2 q2 ⟨fun e3 σ3 G3 H3 s3 I3 ⟨m', hm, j3⟩ => ⟨m', hm, e3, G3, s1.trans (s2.trans s3), I3, j3⟩, fun e3 σ3 G3 H3 v d s3 I3 r3 q3 => k.rt e3 σ3 G3 H3 v d (s1.trans (s2.trans s3)) I3 r3 q3,
      fun e3 σ3 G3 H3 s3 I3 q3 => k.nx e3 σ3 G3 H3 (s1.trans (s2.trans s3)) I3 q3, fun e3 σ3 G3 H3 s3 I3 ⟨m', hm, j3⟩ => ⟨m', hm, e3, G3, s1.trans (s2.trans s3), I3, j3⟩⟩
  | false =>
    rw [if_neg Bool.false_ne_true]
    exact k.nx env2 σ' G2 H2 (s1.trans s2) I2 (br_f q2)

structure ItOk (K : PySem.W.Frag) (J : It) (G : Hp) (items : List D) : Prop where
  go : ∀ i G' H', Same G G' → Same G' H' → i < items.length → J.go i H'
  stop : ∀ i G' H', Same G G' → Same G' H' → items.length ≤ i → J.stop i H'
  yld : ∀ i G' H' d x H'', Same G G' → Same G' H' → items[i]? = some d → J.yld i H' x H'' → ∃ G'', Same H' H'' ∧ (∀ b, H' b ≠ none → G'' b = G' b) ∧ Same G'' H'' ∧ Rep K G'' d x
abbrev DI := DEnv → (List D → DEnv → Prop) → Prop
def SemI (K : PySem.W.Frag) (wi : TI) (t : DI) : Prop := ∀ (G0 H0 : Hp) (env : DEnv) (σ : L2.St) (G H : Hp) (Q : List D → DEnv → Prop) (R : It → Hp → Prop), ER K G0 H0 env σ G H → t env Q →
  (∀ J H' G' env' items, Same G G' → ER K G0 H0 env' σ G' H' → ItOk K J G' items → Q items env' → R J H') → wi σ H R
def QI (F : Fam) (tg iter : Expr) (t : DI) : Prop := ∃ wi : TI, (∀ i, PI (F.X i) tg iter wi) ∧ SemI F.K wi t
def dFor (ti : DI) (g : DG) (tb : DS) : DS := fun D env => ti env fun items env1 => ∃ I : Nat → DEnv → Prop, I 0 env1 ∧ (∀ k d e, items[k]? = some d → I k e → g d e fun e2 => tb { nx := I (k + 1), rt := D.rt, ct := I (k + 1), bk := D.nx } e2) ∧ ∀ e, I items.length e → D.nx e
theorem qs_for {iter tg : Expr} {body : List Stmt} {ti : DI} {g : DG} {tb : DS} (hp : ∀ i, PassesOwn (model (F.X i).prog (F.X i).w) (F.X i).A (F.X i).env (F.X i).xe) (hc : ∀ i, (F.X i).calm = true) (hi : QI F tg iter ti) (hg : QG F tg g) (hb : QSs F own body tb)
    (hs : ∀ i x, foldedSetIterable iter (F.X i).env x = pure x := by intro _ _; rfl) : QS F own (.For tg iter body [] pos) (dFor ti g tb) := by
  obtain ⟨wi, pw, sw⟩ := hi
  obtain ⟨gg, pg, sg⟩ := hg
  obtain ⟨ts, p, s⟩ := hb
  refine ⟨tFor wi gg ts, fun i => ps_for (hp i) (hc i) (pw i) (pg i) (p i) (hs i), fun G0 H0 env σ G H D E I q k => sw G0 H0 env σ G H _ _ I q fun J H1 G1 env1 items s1 I1 ok q1 => ?_⟩
  obtain ⟨W, w0, turn, fin⟩ := q1
  refine ⟨fun i m σ' H' => m = items.length - i ∧ i ≤ items.length ∧ ∃ env' G', Same G1 G' ∧ ER F.K G0 H0 env' σ' G' H' ∧ W i env', ⟨_, rfl, Nat.zero_le _, env1, G1, Same.refl G1, I1, w0⟩, ?_⟩
  rintro i m σ' H' ⟨rfl, hi, env', G', s2, I2, w2⟩
  by_cases hlt : i < items.length
  · refine .inr ⟨ok.go i G' H' s2 I2.sub hlt, fun σ3 H3 => ∃ env3 G3, Same G1 G3 ∧ ER F.K G0 H0 env3 σ3 G3 H3 ∧ W (i + 1) env3, fun σ3 H3 ⟨env3, G3, a, b, c⟩ => ⟨items.length - (i + 1), by omega, rfl, hlt, env3, G3, a, b, c⟩, fun x H3 y => ?_⟩
    obtain ⟨G3, a1, a2, a3, a4⟩ := ok.yld i G' H' items[i] x H3 s2 I2.sub (List.getElem?_eq_getElem hlt) y
    obtain ⟨I3, s3⟩ := I2.ext a1 a2 a3
    refine sg G0 H0 env' σ' G3 H3 x items[i] _ _ I3 a4 (turn i items[i] env' (List.getElem?_eq_getElem hlt) w2) fun env4 σ4 I4 q4 => ?_
    refine s G0 H0 env4 σ4 G3 H3 _ _ I4 q4 ⟨fun e5 σ5 G5 H5 s5 I5 q5 => ⟨e5, G5, s2.trans (s3.trans s5), I5, q5⟩, fun e5 σ5 G5 H5 v d s5 I5 r5 q5 => k.rt e5 σ5 G5 H5 v d (s1.trans (s2.trans (s3.trans s5))) I5 r5 q5,
      fun e5 σ5 G5 H5 s5 I5 q5 => k.nx e5 σ5 G5 H5 (s1.trans (s2.trans (s3.trans s5))) I5 q5, fun e5 σ5 G5 H5 s5 I5 q5 => ⟨e5, G5, s2.trans (s3.trans s5), I5, q5⟩⟩
  · have e : i = items.length := by omega
    subst e
    exact .inl ⟨ok.stop _ G' H' s2 I2.sub (Nat.le_refl _), k.nx env' σ' G' H' (s1.trans s2) I2 (fin env' w2)⟩
/-- over a list or a tuple (frozen) -/
def itemsD : D → (List D → Prop) → Prop
  | .lst ds, Q => Q ds
  | .scr ns, Q => Q (ns.map .int)
  | _, _ => False
def dItL (t : DE) : DI := fun env Q => t env fun d env1 => itemsD d fun ds => Q ds env1
theorem itl_ok {K : PySem.W.Frag} {a : Addr} {G : Hp} {ds : List D} {vs : List V} (h : SqL K G a vs) (r : Reps K G ds vs) : ItOk K (Itl K a) G ds where
  go := fun i G' H' s1 s2 hi => ⟨vs, vs[i]'(by rw [r.len]; exact hi), s2.seq (s1.seq h), List.getElem?_eq_getElem _⟩
  stop := fun i G' H' s1 s2 hi => ⟨vs, s2.seq (s1.seq h), by rw [r.len]; exact hi⟩
  yld := fun i G' H' d x H'' s1 s2 hd y => by
    obtain ⟨e, y⟩ := y
    subst e
    obtain ⟨v, h1, h2⟩ := r.get hd
    have := y vs (s2.seq (s1.seq h))
    rw [h1] at this
    cases this
    exact ⟨G', Same.refl _, fun _ _ => rfl, s2, h2.mono s1⟩
theorem itt_ok {K : PySem.W.Frag} {a : Addr} {G : Hp} {ds : List D} {vs : List V} (h : SqT K G a vs) (r : Reps K G ds vs) : ItOk K (Itt K a) G ds where
  go := fun i G' H' s1 s2 hi => ⟨vs, vs[i]'(by rw [r.len]; exact hi), Same.sqt s2 (Same.sqt s1 h), List.getElem?_eq_getElem _⟩
  stop := fun i G' H' s1 s2 hi => ⟨vs, Same.sqt s2 (Same.sqt s1 h), by rw [r.len]; exact hi⟩
  yld := fun i G' H' d x H'' s1 s2 hd y => by
    obtain ⟨e, y⟩ := y
    subst e
    obtain ⟨v, h1, h2⟩ := r.get hd
    have := y vs (Same.sqt s2 (Same.sqt s1 h))
    rw [h1] at this
    cases this
    exact ⟨G', Same.refl _, fun _ _ => rfl, s2, h2.mono s1⟩
theorem qi_list {tg iter : Expr} (h : QE F iter te) : QI F tg iter (dItL te) := by
  obtain ⟨ts, p, s⟩ := h
  refine ⟨iList F.K ts, fun i => by have := pi_list (tg := tg) (p i); rw [F.hK] at this; exact this, fun G0 H0 env σ G H Q R I q k => s G0 H0 env σ G H _ _ I q fun v H1 G1 env1 d s1 I1 r1 q1 => ?_⟩
  cases d with
  | lst ds =>
    obtain ⟨a, vs, e1, h1, r1⟩ := r1
    exact ⟨a, e1, ⟨vs, SqL.of (I1.sub _ _ h1)⟩, k _ H1 G1 env1 ds s1 I1 (itl_ok (SqL.of h1) r1) q1⟩
  | scr ns =>
    obtain ⟨a, e1, h1⟩ := r1
    exact ⟨a, e1, ⟨_, I1.sub.seq h1⟩, k _ H1 G1 env1 _ s1 I1 (itl_ok h1 (Reps.ints ns)) q1⟩
  | _ => exact (q1 : False).elim
def dItT (t : DE) : DI := fun env Q => t env fun d env1 => match d with
  | .tup ds => Q ds env1
  | _ => False
theorem qi_tup {tg iter : Expr} (h : QE F iter te) : QI F tg iter (dItT te) := by
  obtain ⟨ts, p, s⟩ := h
  refine ⟨iTup F.K ts, fun i => by have := pi_tup (tg := tg) (p i); rw [F.hK] at this; exact this, fun G0 H0 env σ G H Q R I q k => s G0 H0 env σ G H _ _ I q fun v H1 G1 env1 d s1 I1 r1 q1 => ?_⟩
  cases d with
  | tup ds =>
    obtain ⟨a, vs, e1, h1, r1⟩ := r1
    exact ⟨a, e1, ⟨vs, Same.sqt I1.sub h1⟩, k _ H1 G1 env1 ds s1 I1 (itt_ok h1 r1) q1⟩
  | _ => exact (q1 : False).elim
def rngD (lo : Int) (n : Nat) : List D := (List.range n).map fun (k : Nat) => D.int (lo + (k : Int))
theorem rngD_get {lo : Int} {n i : Nat} {d : D} (h : (rngD lo n)[i]? = some d) : i < n ∧ d = .int (lo + i) := by
  unfold rngD at h
  rw [List.getElem?_map] at h
  cases q : (List.range n)[i]? with
  | none => rw [q] at h; cases h
  | some j =>
    rw [q] at h
    have := List.getElem?_eq_some_iff.mp q
    obtain ⟨h1, h2⟩ := this
    rw [List.length_range] at h1
    rw [List.getElem_range] at h2
    subst h2
    exact ⟨h1, (Option.some.inj h).symm⟩
theorem rngD_len {lo : Int} {n : Nat} : (rngD lo n).length = n := by simp [rngD]
theorem itr_ok {K : PySem.W.Frag} {G : Hp} {lo : Int} {n : Nat} : ItOk K (Itr lo n) G (rngD lo n) where
  go := fun i G' H' s1 s2 hi => by rw [rngD_len] at hi; exact hi
  stop := fun i G' H' s1 s2 hi => by rw [rngD_len] at hi; exact hi
  yld := fun i G' H' d x H'' s1 s2 hd y => by
    obtain ⟨e, y⟩ := y
    subst e
    obtain ⟨h1, rfl⟩ := rngD_get hd
    exact ⟨G', Same.refl _, fun _ _ => rfl, s2, y⟩
def dRng1 (t : DE) : DI := fun env Q => t env fun d env1 => match d with
  | .int j => -(2 ^ 62) ≤ j ∧ j < 2 ^ 62 ∧ Q (rngD 0 j.toNat) env1
  | _ => False
theorem qi_range1 {tg : Expr} {p : Pos} (hm : ∀ i, (F.X i).mg "range" = none) (h : QE F a te) (hg : ∀ i, Gl (F.X i) "range" := by exact fun _ => rfl) (hs : ∀ i, starEach (a :: []) (F.X i).env = (false, eval a (F.X i).env) :: starEach [] (F.X i).env := by intro _; rfl) : QI F tg (.Call (.Name "range" p) [a] [] pos) (dRng1 te) := by
  obtain ⟨ts, p, s⟩ := h
  refine ⟨iRng1 (tCons ts tNil), fun i => pi_range1 (hg i) (hm i) (pa1 (p i) (hs i)) (hs i), fun G0 H0 env σ G H Q R I q k => s G0 H0 env σ G H _ _ I q fun v H1 G1 env1 d s1 I1 r1 q1 => ?_⟩
  cases d with
  | int j => exact ⟨j, by rw [rep_int r1], q1.1, q1.2.1, k _ H1 G1 env1 _ s1 I1 itr_ok q1.2.2⟩
  | _ => exact (q1 : False).elim
def dRng2 (t u : DE) : DI := fun env Q => t env fun d env1 => u env1 fun d2 env2 => match d, d2 with
  | .int i, .int j => (-(2 ^ 62) ≤ i ∧ i < 2 ^ 62 ∧ -(2 ^ 62) ≤ j ∧ j < 2 ^ 62) ∧ Q (rngD i (j - i).toNat) env2
  | _, _ => False
theorem qi_range2 {tg : Expr} {p : Pos} (hm : ∀ i, (F.X i).mg "range" = none) (h : QE F a ta) (h2 : QE F b tb) (hg : ∀ i, Gl (F.X i) "range" := by exact fun _ => rfl) (hs : ∀ i, starEach [a, b] (F.X i).env = [(false, eval a (F.X i).env), (false, eval b (F.X i).env)] := by intro _; rfl) (hs2 : ∀ i, starEach [b] (F.X i).env = [(false, eval b (F.X i).env)] := by intro _; rfl) : QI F tg (.Call (.Name "range" p) [a, b] [] pos) (dRng2 ta tb) := by
  obtain ⟨ts, p, s⟩ := h
  obtain ⟨ts2, p2, s2⟩ := h2
  refine ⟨iRng2 (tCons ts (tCons ts2 tNil)), fun i => pi_range2 (hg i) (hm i) (pa_cons (p i) (pa1 (p2 i) (hs2 i)) (by rw [hs i, hs2 i])) (hs i) (hs2 i), fun G0 H0 env σ G H Q R I q k => s G0 H0 env σ G H _ _ I q fun v H1 G1 env1 d s1 I1 r1 q1 => s2 G0 H0 env1 σ G1 H1 _ _ I1 q1 fun w H2 G2 env2 d2 s3 I2 r2 q2 => ?_⟩
  cases d with
  | int i =>
    cases d2 with
    | int j => exact ⟨i, j, by rw [rep_int r1, rep_int r2], q2.1, k _ H2 G2 env2 _ (s1.trans s3) I2 itr_ok q2.2⟩
    | _ => exact (q2 : False).elim
  | _ => exact (q2 : False).elim
end

abbrev DSp := List D → (D → Prop) → Prop
/-- a def's promise over values -/
def spD (K : PySem.W.Frag) (own : Bool) (S : DSp) : Sp := fun vs H Q _ => ∃ (G : Hp) (ds : List D) (QD : D → Prop), Same G H ∧ Reps K G ds vs ∧ S ds QD ∧
  ∀ v H' G' d, Same H H' → (∀ b, H b ≠ none → G' b = G b) → Same G' H' → RetOk own K H G' H' v d → QD d → Q v H'
def startD (n : Nat) (ds : List D) : DEnv := ds.map .fz ++ List.replicate (n - ds.length) .no
theorem er_start {K : PySem.W.Frag} {G H : Hp} {N : List Str} {ds : List D} {vs : List V} (s : Same G H) (r : Reps K G ds vs) : ER K G H (startD N.length ds) (L2.start N vs) G H := by
  have hl := r.len
  refine ⟨s, Same.refl H, fun _ _ => rfl, by unfold startD L2.start; simp [hl], fun i sl x h1 h2 => ?_, fun i j sl t x _ h1 h2 => ?_⟩
  · unfold startD at h1
    unfold L2.start at h2
    by_cases hi : i < ds.length
    · rw [List.getElem?_append_left (by simpa using hi), List.getElem?_map, List.getElem?_eq_getElem hi] at h1
      rw [List.getElem?_append_left (by simpa [hl] using hi), List.getElem?_map] at h2
      obtain ⟨v, e1, e2⟩ := r.get (List.getElem?_eq_getElem hi)
      rw [e1] at h2
      cases h1; cases h2
      exact ⟨v, rfl, e2⟩
    · rw [List.getElem?_append_right (by simpa using hi)] at h1
      have : sl = .no := by
        have := List.mem_of_getElem? h1
        exact (List.mem_replicate.mp this).2
      subst this
      trivial
  · unfold startD at h1
    have := List.mem_of_getElem? h1
    rcases List.mem_append.mp this with z | z
    · obtain ⟨d, _, e⟩ := List.mem_map.mp z
      subst e
      cases h2
    · have := (List.mem_replicate.mp z).2
      subst this
      cases h2
section
variable {P : Program} {w : World} {K : PySem.W.Frag} {mg : Str → Option Value} {base : Heap}
/-- the family of a def's body -/
abbrev famOf (P : Program) (w : World) (K : PySem.W.Frag) (mg : Str → Option Value) (base : Heap) (N : List Str) (qual : Str) (scope : Scope) (f : Addr) (cd : Value) (A : Around) (outer : List Env) (s : Shared) (H : Hp) (E : XK) : Fam :=
  ⟨Unit, fun _ => (cxOf CX0 P w K mg base N qual scope f cd A outer s H E).nox, K, fun _ => rfl⟩
theorem Fun.okD {x qual : Str} {st : Stmt} {f : Addr} {fd : FuncData} {N ps : List Str} {k : Nat} {own : Bool} {S : DSp} (F : Fun K x qual st f fd) (Sc : FnScope N ps (defScope st)) (len : ∀ ds Q, S ds Q → ds.length = ps.length)
    (hbody : ∀ (cdv : Value) (A : Around) (outer : List Env) (s : Shared) (H : Hp) (E : XK), Room k (A.deeper (envOfC qual (defScope st) s.heap.objs.size f cdv)) →
      ∃ t, QSs (famOf P w K mg base N qual (defScope st) f cdv A outer s H E) own (defBody st) t ∧ ∀ ds Q, S ds Q → t { nx := fun _ => own = false ∧ Q .non, rt := Q } (startD N.length ds)) :
    FnOk P w K mg base CX0 (k + 1) f fd ps (spD K own S) := by
  refine F.ok Sc (fun vs H Q E h => ?_) (fun cdv A outer s H vs Q E hr h => ?_)
  · obtain ⟨G, ds, QD, _, r, hS, _⟩ := h
    rw [r.len]
    exact len ds QD hS
  · obtain ⟨G, ds, QD, s1, r, hS, k⟩ := h
    obtain ⟨t, ⟨ts, p, sem⟩, rd⟩ := hbody cdv A outer s H E hr
    refine ⟨ts, p (), sem G H _ _ G H _ _ (er_start s1 r) (rd ds QD hS) ⟨fun env σ G' H' s2 I q => ?_, fun env σ G' H' v d s2 I r q => k v H' G' d I.old I.gold I.sub r q, fun _ _ _ _ _ _ q => q, fun _ _ _ _ _ _ q => q⟩⟩
    obtain ⟨rfl, q⟩ := q
    exact k .non H' G' .non I.old I.gold I.sub (rfl : Rep K G' .non .non) q
end
section
variable {F : Fam} {e : Expr} {es : List Expr} {tA : DA} {pos p : Pos} {k : Nat} {f : Addr} {fd : FuncData} {ps : List Str} {S : DSp} {x : Str}
def dCall (S : DSp) (t : DA) : DE := fun env Q => t env fun ds env1 => S ds fun z => Q z env1
theorem sem_call {K : PySem.W.Frag} {ta : TA} (h : SemA K ta tA) : SemE K (tCall (spD K false S) [] E0 ta) (dCall S tA) := fun G0 H0 env σ G H Q R I q kk =>
  h G0 H0 env σ G H _ _ I q fun vs H1 G1 env1 ds s1 I1 r1 q1 => ⟨G1, ds, _, I1.sub, by rw [List.append_nil]; exact r1, q1, fun v H' G' d a b c r q2 => by
    obtain ⟨I2, s2⟩ := I1.ext a b c
    exact kk v H' G' env1 d (s1.trans s2) I2 r q2⟩
theorem sem_callO {K : PySem.W.Frag} {ta : TA} (h : SemA K ta tA) : SemO K (tCall (spD K true S) [] E0 ta) (dCall S tA) := fun G0 H0 env σ G H Q R I q kk =>
  h G0 H0 env σ G H _ _ I q fun vs H1 G1 env1 ds s1 I1 r1 q1 => ⟨G1, ds, _, I1.sub, by rw [List.append_nil]; exact r1, q1, fun v H' G' d a b c r q2 => by
    obtain ⟨I2, s2⟩ := I1.ext a b c
    obtain ⟨p, rfl, g, h0, ow⟩ := r
    exact kk (.ref p) H' G' env1 d (s1.trans s2) I2 ⟨p, rfl, g, (I1.free h0).2, ow, I1.noslot h0⟩ q2⟩
/-- f(..) -/
theorem q_call (G : ∀ i, FnOk (F.X i).prog (F.X i).w (F.X i).K (F.X i).mg (F.X i).base CX0 k f fd ps (spD F.K false S)) (hr : ∀ i, Room k (F.X i).A) (hm : ∀ i, (F.X i).mg x = some (.ref f)) (hk : PySem.W.keepIn F.K (.ref f) = true) (hb : Binds F.K fd ps [])
    (ha : QA F (e :: es) tA) (hg : ∀ i, Gl (F.X i) x := by exact fun _ => rfl) (hdb : (x == ("__debug__" : Str)) = false := by decide) (he : ∀ i, starEach (e :: es) (F.X i).env = (false, eval e (F.X i).env) :: starEach es (F.X i).env := by intro _; rfl) (hpl : ∀ i, (backTo pos (starEach es (F.X i).env)).any (·.1) = false := by intro _; rfl) :
    QE F (.Call (.Name x p) (e :: es) [] pos) (dCall S tA) := by
  obtain ⟨ts, pa, s⟩ := ha
  exact ⟨_, fun i => pe_call (G i) (hr i) (hg i) (hm i) (by rw [F.hK]; exact hk) (by rw [F.hK]; exact hb) .nil pass0 (pa i) hdb (he i) (hpl i), sem_call s⟩
theorem qo_call (G : ∀ i, FnOk (F.X i).prog (F.X i).w (F.X i).K (F.X i).mg (F.X i).base CX0 k f fd ps (spD F.K true S)) (hr : ∀ i, Room k (F.X i).A) (hm : ∀ i, (F.X i).mg x = some (.ref f)) (hk : PySem.W.keepIn F.K (.ref f) = true) (hb : Binds F.K fd ps [])
    (ha : QA F (e :: es) tA) (hg : ∀ i, Gl (F.X i) x := by exact fun _ => rfl) (hdb : (x == ("__debug__" : Str)) = false := by decide) (he : ∀ i, starEach (e :: es) (F.X i).env = (false, eval e (F.X i).env) :: starEach es (F.X i).env := by intro _; rfl) (hpl : ∀ i, (backTo pos (starEach es (F.X i).env)).any (·.1) = false := by intro _; rfl) :
    QO F (.Call (.Name x p) (e :: es) [] pos) (dCall S tA) := by
  obtain ⟨ts, pa, s⟩ := ha
  exact ⟨_, fun i => pe_call (G i) (hr i) (hg i) (hm i) (by rw [F.hK]; exact hk) (by rw [F.hK]; exact hb) .nil pass0 (pa i) hdb (he i) (hpl i), sem_callO s⟩
end
end DL

set_option Elab.async false
set_option linter.all false
set_option maxRecDepth 100000
namespace DL
open PySem PySem.Spec PyProof.Rows L2
section
variable {P : Program} {w : World} {K : PySem.W.Frag} {mg : Str → Option Value} {base : Heap}
abbrev FnP (K : PySem.W.Frag) (x : Str) (st : Stmt) (f : Addr) (fd : FuncData) : Prop := FunD K x x (defArgs st) (defBody st) (defScope st) [] [] f fd
theorem FunD.okD {x qual : Str} {params : Arguments} {body : List Stmt} {scope : Scope} {dvs : List V} {kws : List (Str × V)} {f : Addr} {fd : FuncData} {N ps : List Str} {k : Nat} {own : Bool} {S : DSp} (F : FunD K x qual params body scope dvs kws f fd) (Sc : FnScope N ps scope) (len : ∀ ds Q, S ds Q → ds.length = ps.length) (t : DS)
    (hbody : ∀ (cdv : Value) (A : Around) (outer : List Env) (s : Shared) (H : Hp) (E : XK), Room k (A.deeper (envOfC qual scope s.heap.objs.size f cdv)) → QSs (famOf P w K mg base N qual scope f cdv A outer s H E) own body t)
    (rd : ∀ ds Q, S ds Q → t { nx := fun _ => own = false ∧ Q .non, rt := Q } (startD N.length ds)) :
    FnOk P w K mg base CX0 (k + 1) f fd ps (spD K own S) := by
  refine F.ok Sc (fun vs H Q E h => ?_) (fun cdv A outer s H vs Q E hr h => ?_)
  · obtain ⟨G, ds, QD, _, r, hS, _⟩ := h
    rw [r.len]
    exact len ds QD hS
  · obtain ⟨G, ds, QD, s1, r, hS, k⟩ := h
    obtain ⟨ts, p, sem⟩ := hbody cdv A outer s H E hr
    refine ⟨ts, (p ()).nox, sem G H _ _ G H _ _ (er_start s1 r) (rd ds QD hS) ⟨fun env σ G' H' s2 I q => ?_, fun env σ G' H' v d s2 I r q => k v H' G' d I.old I.gold I.sub r q, fun _ _ _ _ _ _ q => q, fun _ _ _ _ _ _ q => q⟩⟩
    obtain ⟨rfl, q⟩ := q
    exact k .non H' G' .non I.old I.gold I.sub (rfl : Rep K G' .non .non) q
end
def QK (F : Fam) (kws : List Keyword) (t : DA) : Prop := ∃ te : TA, (∀ i, PK (F.X i) kws te) ∧ SemA F.K te t
section
variable {F : Fam} {e : Expr} {es : List Expr} {kws : List Keyword} {te : DE} {tA tk : DA} {pos p kpos : Pos} {k n : Nat} {f : Addr} {fd : FuncData} {ps ks : List Str} {S : DSp} {x : Str} {nm : Option Str} {g : List Value → List Value → List Value} {gV : List V → List V → List V} {gD : List D → List D → List D}
theorem qk_nil : QK F [] dNil := ⟨tNil, fun _ => pk_nil, fun G0 H0 env σ G H Q R I q k => k [] H G env [] (Same.refl G) I rfl q⟩
theorem qk_cons (h : QE F e te) (h2 : QK F kws tk) : QK F (⟨nm, e, kpos⟩ :: kws) (dCons te tk) := by
  obtain ⟨t1, p, s⟩ := h
  obtain ⟨t2, p2, s2⟩ := h2
  exact ⟨tCons t1 t2, fun i => pk_cons (p i) (p2 i), fun G0 H0 env σ G H Q R I q k => s G0 H0 env σ G H _ _ I q fun v H1 G1 env1 d e1 I1 r1 q1 =>
    s2 G0 H0 env1 σ G1 H1 _ _ I1 q1 fun vs H2 G2 env2 ds e2 I2 r2 q2 => k (v :: vs) H2 G2 env2 (d :: ds) (e1.trans e2) I2 ⟨v, vs, rfl, r1.mono e2, r2⟩ q2⟩
/-- f(k = v, ..) -/
theorem pe_callN0 {X : Cx} {CX : CXT} {sp : Sp} {E : XK} {tk : TA} (F : FnOk X.prog X.w X.K X.mg X.base CX k f fd ps sp) (hr : Room k X.A) (hg : Gl X x) (hm : X.mg x = some (.ref f)) (hk : PySem.W.keepIn X.K (.ref f) = true) (hb : KBn X.K fd ps 0 ks g gV) (hx : Passes CX X E)
    (hkw : PK X kws tk) (hall : (backToKw pos (keywordEach kws X.env)).all (·.1.isSome) = true := by rfl) (hks : (backToKw pos (keywordEach kws X.env)).filterMap (·.1) = ks := by rfl)
    (hdb : (x == ("__debug__" : Str)) = false := by decide)
    (hpl : ((backTo pos (starEach [] X.env)).any (·.1) || (backToKw pos (keywordEach kws X.env)).any (·.1.isNone)) = false := by rfl) :
    PE X (.Call (.Name x p) [] kws pos) (tCallN 0 ks.length sp gV E tNil tk) := by
  refine ⟨fun pins s σ H Q I h => ?_⟩
  refine wpAny_Call_Name_kw (ld_glob I hg hm ?_ hdb)
  refine PySem.W.callWith_KW0 (h₀ := X.base) I.ok.mod.kin hk hall ?_ hpl
  refine thn (hkw.run pos pins s σ H _ I (show tk σ H _ from h)) fun ws s2 ⟨zs, H2, I2, rz, l1, l2, q2⟩ => ⟨I2.kIn, ?_⟩
  rw [hks]
  exact run_fnN F hr hb hx I2 .nil rz rfl l2 q2
/-- how the values of the arguments and of the keywords are put in the parameters' order -/
def RelG (gV : List V → List V → List V) (gD : List D → List D → List D) (n m : Nat) : Prop := ∀ (K : PySem.W.Frag) (G : Hp) (ds es : List D) (vs ws : List V), ds.length = n → es.length = m → Reps K G ds vs → Reps K G es ws → Reps K G (gD ds es) (gV vs ws)
def dCallK (n m : Nat) (gD : List D → List D → List D) (S : DSp) (t u : DA) : DE := fun env Q => t env fun ds env1 => u env1 fun es env2 => ds.length = n ∧ es.length = m ∧ S (gD ds es) fun z => Q z env2
theorem sem_callK {K : PySem.W.Frag} {ta tb : TA} {m : Nat} (hg : RelG gV gD n m) (h : SemA K ta tA) (h2 : SemA K tb tk) : SemE K (tCallN n m (spD K false S) gV E0 ta tb) (dCallK n m gD S tA tk) := fun G0 H0 env σ G H Q R I q kk =>
  h G0 H0 env σ G H _ _ I q fun vs H1 G1 env1 ds s1 I1 r1 q1 => h2 G0 H0 env1 σ G1 H1 _ _ I1 q1 fun ws H2 G2 env2 es s2 I2 r2 q2 =>
    ⟨by rw [r1.len]; exact q2.1, by rw [r2.len]; exact q2.2.1, G2, gD ds es, _, I2.sub, hg K G2 ds es vs ws q2.1 q2.2.1 (r1.mono s2) r2, q2.2.2, fun v H' G' d a b c r q3 => by
      obtain ⟨I3, s3⟩ := I2.ext a b c
      exact kk v H' G' env2 d (s1.trans (s2.trans s3)) I3 r q3⟩
theorem q_callK0 {m : Nat} (G : ∀ i, FnOk (F.X i).prog (F.X i).w (F.X i).K (F.X i).mg (F.X i).base CX0 k f fd ps (spD F.K false S)) (hr : ∀ i, Room k (F.X i).A) (hm : ∀ i, (F.X i).mg x = some (.ref f)) (hk : PySem.W.keepIn F.K (.ref f) = true) (hb : KBn F.K fd ps 0 ks g gV) (hgD : RelG gV gD 0 m) (hkl : ks.length = m)
    (hkw : QK F kws tk) (hg : ∀ i, Gl (F.X i) x := by exact fun _ => rfl) (hall : ∀ i, (backToKw pos (keywordEach kws (F.X i).env)).all (·.1.isSome) = true := by intro _; rfl) (hks : ∀ i, (backToKw pos (keywordEach kws (F.X i).env)).filterMap (·.1) = ks := by intro _; rfl)
    (hdb : (x == ("__debug__" : Str)) = false := by decide)
    (hpl : ∀ i, ((backTo pos (starEach [] (F.X i).env)).any (·.1) || (backToKw pos (keywordEach kws (F.X i).env)).any (·.1.isNone)) = false := by intro _; rfl) :
    QE F (.Call (.Name x p) [] kws pos) (dCallK 0 m gD S dNil tk) := by
  obtain ⟨tb, pb, sb⟩ := hkw
  subst hkl
  exact ⟨_, fun i => pe_callN0 (G i) (hr i) (hg i) (hm i) (by rw [F.hK]; exact hk) (by rw [F.hK]; exact hb) pass0 (pb i) (hall i) (hks i) hdb (hpl i),
    sem_callK hgD (fun G0 H0 env σ G H Q R I q k => k [] H G env [] (Same.refl G) I rfl q) sb⟩
theorem q_callK {m : Nat} (G : ∀ i, FnOk (F.X i).prog (F.X i).w (F.X i).K (F.X i).mg (F.X i).base CX0 k f fd ps (spD F.K false S)) (hr : ∀ i, Room k (F.X i).A) (hm : ∀ i, (F.X i).mg x = some (.ref f)) (hk : PySem.W.keepIn F.K (.ref f) = true) (hb : KBn F.K fd ps n ks g gV) (hgD : RelG gV gD n m) (hkl : ks.length = m)
    (ha : QA F (e :: es) tA) (hkw : QK F kws tk) (hg : ∀ i, Gl (F.X i) x := by exact fun _ => rfl) (hall : ∀ i, (backToKw pos (keywordEach kws (F.X i).env)).all (·.1.isSome) = true := by intro _; rfl) (hks : ∀ i, (backToKw pos (keywordEach kws (F.X i).env)).filterMap (·.1) = ks := by intro _; rfl)
    (hdb : (x == ("__debug__" : Str)) = false := by decide) (he : ∀ i, starEach (e :: es) (F.X i).env = (false, eval e (F.X i).env) :: starEach es (F.X i).env := by intro _; rfl)
    (hpl : ∀ i, ((backTo pos (starEach (e :: es) (F.X i).env)).any (·.1) || (backToKw pos (keywordEach kws (F.X i).env)).any (·.1.isNone)) = false := by intro _; rfl) :
    QE F (.Call (.Name x p) (e :: es) kws pos) (dCallK n m gD S tA tk) := by
  obtain ⟨ta, pa, sa⟩ := ha
  obtain ⟨tb, pb, sb⟩ := hkw
  subst hkl
  exact ⟨_, fun i => pe_callN (G i) (hr i) (hg i) (hm i) (by rw [F.hK]; exact hk) (by rw [F.hK]; exact hb) pass0 (pa i) (pb i) (hall i) (hks i) hdb (he i) (hpl i), sem_callK hgD sa sb⟩
/-- keywords of a def without defaults -/
theorem kb_of {K : PySem.W.Frag} {y qual : Str} {params : Arguments} {body : List Stmt} {scope : Scope} {f : Addr} {fd : FuncData} {ps ks : List Str} {n : Nat} (F : FunD K y qual params body scope [] [] f fd) (g : {α : Type} → List α → List α → List α)
    (hrel : ∀ {vs : List V} {us : List Value} {zs : List V} {ws : List Value}, Vals vs us → Vals zs ws → Vals (g vs zs) (g us ws))
    (h : ∀ (kV doc pm : Value) (an : Option Addr) (cdv ct : Value) (us ws : List Value), us.length = n → ws.length = ks.length → bindArgs (PySem.W.fnOf y qual params body scope .none kV doc pm an cdv ct) ⟨us, ks.zip ws⟩ = pure (ps.zip (g us ws))) : KBn K fd ps n ks (fun us ws => g us ws) (fun vs zs => g vs zs) := by
  obtain ⟨oc, od, dV, kV, doc, pm, an, cdv, ct, osl, rfl, lk, hcd, hD, hK⟩ := F.ex
  rcases hD with ⟨_, rfl⟩ | ⟨e, _⟩
  · exact ⟨fun s us ws _ h1 h2 => .of_eq (h kV doc pm an cdv ct us ws h1 h2), hrel⟩
  · exact absurd rfl e
end
def spLawD : DSp := fun ds Q => ∃ ns : List Int, ds = [.scr ns] ∧ ns.length ≤ 63 ∧ Q (.bl true)
theorem law_sp {K : PySem.W.Frag} {H : Hp} {a : Addr} {ns : List Int} (hl : ns.length ≤ 63) (hS : SqL K H a (ns.map V.int)) {E : XK} : spD K false spLawD [.ref a] H (fun v _ => v = .bl true) E :=
  ⟨H, [.scr ns], fun d => d = .bl true, Same.refl H, Reps.one ⟨a, rfl, hS⟩, ⟨ns, rfl, hl, rfl⟩, fun v H' G' d _ _ _ r q => by
    subst q
    exact (r : Rep K G' (.bl true) v)⟩
end DL

set_option Elab.async false
set_option linter.all false
set_option maxRecDepth 100000
namespace DL
open PySem PySem.Spec PyProof.Rows L2
section
variable {F : Fam} {own : Bool} {e a b c o : Expr} {es : List Expr} {te ta tb : DE} {tt : DT} {tA : DA} {pos : Pos}
def iSeq (K : PySem.W.Frag) (tl : TE) : TI := fun σ H R => tl σ H fun x H1 => (∃ a, x = .ref a ∧ (∃ xs, SqL K H1 a xs) ∧ R (Itl K a) H1) ∨ (∃ a, x = .ref a ∧ (∃ xs, SqT K H1 a xs) ∧ R (Itt K a) H1) ∨ ∃ z, x = .str z ∧ R (Its z) H1
theorem pi_seq {X : Cx} {tg l : Expr} {tl : TE} (hl : PE X l tl) : PI X tg l (iSeq X.K tl) := by
  refine ⟨fun pins s σ H R I h => ?_⟩
  refine thn (hl.run pins s σ H _ I h) fun v s1 ⟨x, H1, I1, r1, q1⟩ => ?_
  rcases q1 with ⟨a, e, ⟨xs, hq⟩, q⟩ | ⟨a, e, ⟨xs, hq⟩, q⟩ | ⟨x, ex, q⟩
  · subst e
    cases r1
    obtain ⟨its, rv, p, hz⟩ := I1.list hq
    refine wpAny_pyIter_list p.isList ?_
    refine ⟨s1.heap.objs.size, [s1.heap.objs.size], _, _, H1, rfl, I1.kept (t' := s1.toks) fun b o e => Heap.get?_push_of_some _ e, turn_list a _, ⟨_, Heap.get?_push_size _ rfl, rfl, rfl⟩, fun b hb => ?_, q⟩
    have e : b = s1.heap.objs.size := by simpa using hb
    subst e
    exact I1.fpOk (Nat.le_refl _) (I1.hok.fresh (Nat.le_refl _))
  · subst e
    cases r1
    obtain ⟨its, rv, p, hz⟩ := I1.tuple hq
    refine wpAny_pyIter_tuple (show s1.heap.IsTuple a its.toArray from p) ?_
    refine ⟨s1.heap.objs.size, [s1.heap.objs.size], _, _, H1, rfl, I1.kept (t' := s1.toks) fun b o e => Heap.get?_push_of_some _ e, turn_tuple a _, ⟨_, Heap.get?_push_size _ rfl, rfl, rfl⟩, fun b hb => ?_, q⟩
    have e : b = s1.heap.objs.size := by simpa using hb
    subst e
    exact I1.fpOk (Nat.le_refl _) (I1.hok.fresh (Nat.le_refl _))
  · subst ex
    obtain ⟨t, rfl⟩ := r1
    cases ha : x.cps.all (· < 128)
    · exact wpAny_pyIter_wide ha (pi_one (tk := s1.toks) I1 _ (turn_str _ x t "str_iterator" (.inr rfl)) ⟨_, Heap.get?_push_size _ rfl, rfl, rfl⟩ q)
    · exact wpAny_pyIter_ascii ha (pi_one (tk := s1.toks) I1 _ (turn_str _ x t "str_ascii_iterator" (.inl rfl)) ⟨_, Heap.get?_push_size _ rfl, rfl, rfl⟩ q)
theorem its_ok {K : PySem.W.Frag} {G : Hp} {l : List Nat} : ItOk K (Its ⟨l.toArray⟩) G (l.map fun c => .str [c]) where
  go := fun i G' H' s1 s2 hi => by rw [List.length_map] at hi; show i < l.toArray.size; simpa using hi
  stop := fun i G' H' s1 s2 hi => by rw [List.length_map] at hi; show l.toArray.size ≤ i; simpa using hi
  yld := fun i G' H' d x H'' s1 s2 hd y => by
    obtain ⟨e, c, h1, h2⟩ := y
    subst e
    rw [List.getElem?_map] at hd
    have h1' : l[i]? = some c := by simpa using h1
    rw [h1'] at hd
    cases hd
    exact ⟨G', Same.refl _, fun _ _ => rfl, s2, h2⟩
def itemsS : D → (List D → Prop) → Prop
  | .lst ds, Q => Q ds
  | .scr ns, Q => Q (ns.map .int)
  | .tup ds, Q => Q ds
  | .str s, Q => Q (s.map fun c => .str [c])
  | _, _ => False
def dItS (t : DE) : DI := fun env Q => t env fun d env1 => itemsS d fun ds => Q ds env1
theorem qi_seq {tg iter : Expr} (h : QE F iter te) : QI F tg iter (dItS te) := by
  obtain ⟨ts, p, s⟩ := h
  refine ⟨iSeq F.K ts, fun i => by have := pi_seq (tg := tg) (p i); rw [F.hK] at this; exact this, fun G0 H0 env σ G H Q R I q k => s G0 H0 env σ G H _ _ I q fun v H1 G1 env1 d s1 I1 r1 q1 => ?_⟩
  cases d with
  | lst ds =>
    obtain ⟨a, vs, e1, h1, r1⟩ := r1
    exact .inl ⟨a, e1, ⟨vs, SqL.of (I1.sub _ _ h1)⟩, k _ H1 G1 env1 ds s1 I1 (itl_ok (SqL.of h1) r1) q1⟩
  | scr ns =>
    obtain ⟨a, e1, h1⟩ := r1
    exact .inl ⟨a, e1, ⟨_, I1.sub.seq h1⟩, k _ H1 G1 env1 _ s1 I1 (itl_ok h1 (Reps.ints ns)) q1⟩
  | tup ds =>
    obtain ⟨a, vs, e1, h1, r1⟩ := r1
    exact .inr (.inl ⟨a, e1, ⟨vs, Same.sqt I1.sub h1⟩, k _ H1 G1 env1 ds s1 I1 (itt_ok h1 r1) q1⟩)
  | str z => exact .inr (.inr ⟨_, r1, k _ H1 G1 env1 _ s1 I1 its_ok q1⟩)
  | _ => exact (q1 : False).elim

inductive BT where
  | int | bool | str | list | tuple | dict
def BT.nm : BT → String
  | .int => "int" | .bool => "bool" | .str => "str" | .list => "list" | .tuple => "tuple" | .dict => "dict"
inductive Kd where
  | non | bool | int | str | tuple | list | dict
def Kd.nm : Kd → String
  | .non => "NoneType" | .bool => "bool" | .int => "int" | .str => "str" | .tuple => "tuple" | .list => "list" | .dict => "dict"
def isB2 : BT → Kd → Bool
  | .int, .int => true | .int, .bool => true | .bool, .bool => true | .str, .str => true | .list, .list => true | .tuple, .tuple => true | .dict, .dict => true
  | _, _ => false
theorem kit_kd (k : Kd) (T : BT) : kitB k.nm T.nm = some (isB2 T k) := by cases k <;> cases T <;> decide +kernel
def kdD : D → Kd
  | .non => .non | .bl _ => .bool | .int _ => .int | .str _ => .str | .tup _ => .tuple | .lst _ => .list | .scr _ => .list | .dk _ _ => .dict | .dt _ _ => .dict | .ins _ _ _ => .non
def isBT (T : BT) (d : D) : Bool := isB2 T (kdD d)
def plainD : D → Bool
  | .ins _ _ _ => false
  | .scr _ => false
  | _ => true
def cIsi (T : BT) (d : D) (Q : D → Prop) : Prop := plainD d = true ∧ Q (.bl (isBT T d))
theorem tyx_of {K : PySem.W.Frag} {G H : Hp} (s : Same G H) {d : D} {v : V} (r : Rep K G d v) (h : plainD d = true) : TyX K H v (.type (kdD d).nm) := by
  cases d with
  | non => cases (show _ = _ from r); exact .base .non
  | bl b => cases (show _ = _ from r); exact .base (.bl b)
  | int b => cases (show _ = _ from r); exact .base (.int b)
  | str b => cases (show _ = _ from r); exact .base (.str _)
  | tup ds =>
    obtain ⟨a, vs, rfl, h1, _⟩ := r
    rcases Same.sqt s h1 with (z | ⟨o, z⟩) | ⟨o, its, n, z, c, _⟩
    · exact .base (.tup z)
    · exact .fTuple z
    · exact .kTuple z c
  | lst ds =>
    obtain ⟨a, vs, rfl, h1, _⟩ := r
    exact .base (.lst (s _ _ h1))
  | dk ks ds =>
    obtain ⟨a, vs, rfl, h1, _⟩ := r
    exact .base (.dK (s _ _ h1))
  | dt ks ds =>
    obtain ⟨a, vs, rfl, h1, _⟩ := r
    exact .base (.dT (s _ _ h1))
  | scr _ => cases h
  | ins _ _ _ => cases h
theorem q_isi (T : BT) {x : Str} {p q : Pos} (hm : ∀ i, (F.X i).mg "isinstance" = none) (hmT : ∀ i, (F.X i).mg x = none) (hv : bootBuiltins x = some (.type T.nm)) (h : QE F e te) (hg : ∀ i, Gl (F.X i) "isinstance" := by exact fun _ => rfl) (hgT : ∀ i, Gl (F.X i) x := by exact fun _ => rfl) (hn : x ≠ "__name__" := by decide) (hd : (x == ("__debug__" : Str)) = false := by decide)
    (hs : ∀ i, starEach [e, .Name x q] (F.X i).env = (false, eval e (F.X i).env) :: starEach [.Name x q] (F.X i).env := by intro _; rfl) : QE F (.Call (.Name "isinstance" p) [e, .Name x q] [] pos) (dCal (cIsi T) te) := by
  obtain ⟨ts, pe, s⟩ := h
  refine ⟨tCB (rIsi F.K) (tCons ts (tCons (tC (.ty T.nm)) tNil)), fun i => ?_, fun G0 H0 env σ G H Q R I q k => s G0 H0 env σ G H _ _ I q fun v H1 G1 env1 d s1 I1 r1 q1 => ?_⟩
  · have := pe_callB (X := F.X i) (pos := pos) (p := p) call_isi (hg i) (hm i) (by decide +kernel) (pa_cons (pe i) (pa_cons (pe_bltn (v := .ty T.nm) (pos := q) (hgT i) (hmT i) hv rfl hn hd) pa_nil) (hs i)) (he := hs i)
    rw [F.hK] at this
    exact this
  · have ty := tyx_of I1.sub r1 q1.1
    exact ⟨v, .ty T.nm, _, .type T.nm, _, rfl, .ty _, ty, kit_ty (kit_kd _ T), k _ H1 G1 env1 (.bl (isBT T d)) s1 I1 rfl q1.2⟩

def dCal2 (c : D → D → (D → Prop) → Prop) (ta tb : DE) : DE := dOp c ta tb
def cMax (x y : D) (Q : D → Prop) : Prop := match x, y with
  | .int i, .int j => Q (.int (max i j))
  | _, _ => False
def cMin (x y : D) (Q : D → Prop) : Prop := match x, y with
  | .int i, .int j => Q (.int (min i j))
  | _, _ => False
theorem q_max2 {p : Pos} (hc : ∀ i, (F.X i).calm = true) (hm : ∀ i, (F.X i).mg "max" = none) (ha : QE F a ta) (hb : QE F b tb) (hg : ∀ i, Gl (F.X i) "max" := by exact fun _ => rfl) (hs : ∀ i, starEach [a, b] (F.X i).env = (false, eval a (F.X i).env) :: starEach [b] (F.X i).env := by intro _; rfl) (hs2 : ∀ i, starEach (b :: []) (F.X i).env = (false, eval b (F.X i).env) :: starEach [] (F.X i).env := by intro _; rfl)
    (hpl : ∀ i, (backTo pos (starEach [b] (F.X i).env)).any (·.1) = false := by intro _; rfl) : QE F (.Call (.Name "max" p) [a, b] [] pos) (dOp cMax ta tb) := by
  obtain ⟨sa, pa, ha⟩ := ha
  obtain ⟨sb, pb, hb⟩ := hb
  refine ⟨_, fun i => pe_callB (call_max2 (hc i)) (hg i) (hm i) (by decide +kernel) (pa_cons (pa i) (pa1 (pb i) (hs2 i)) (hs i)) (he := hs i) (hpl := hpl i), fun G0 H0 env σ G H Q R I q k => ?_⟩
  refine ha G0 H0 env σ G H _ _ I q fun x H1 G1 env1 d s1 I1 r1 q1 => hb G0 H0 env1 σ G1 H1 _ _ I1 q1 fun y H2 G2 env2 f s2 I2 r2 q2 => ?_
  cases d with
  | int i =>
    cases f with
    | int j =>
      refine ⟨i, j, by rw [rep_int r1, rep_int r2], k _ H2 G2 env2 (.int (max i j)) (s1.trans s2) I2 ?_ q2⟩
      show V.int _ = V.int _
      congr 1
      split <;> omega
    | _ => exact (q2 : False).elim
  | _ => exact (q2 : False).elim
theorem q_min2 {p : Pos} (hc : ∀ i, (F.X i).calm = true) (hm : ∀ i, (F.X i).mg "min" = none) (ha : QE F a ta) (hb : QE F b tb) (hg : ∀ i, Gl (F.X i) "min" := by exact fun _ => rfl) (hs : ∀ i, starEach [a, b] (F.X i).env = (false, eval a (F.X i).env) :: starEach [b] (F.X i).env := by intro _; rfl) (hs2 : ∀ i, starEach (b :: []) (F.X i).env = (false, eval b (F.X i).env) :: starEach [] (F.X i).env := by intro _; rfl)
    (hpl : ∀ i, (backTo pos (starEach [b] (F.X i).env)).any (·.1) = false := by intro _; rfl) : QE F (.Call (.Name "min" p) [a, b] [] pos) (dOp cMin ta tb) := by
  obtain ⟨sa, pa, ha⟩ := ha
  obtain ⟨sb, pb, hb⟩ := hb
  refine ⟨_, fun i => pe_callB (call_min2 (hc i)) (hg i) (hm i) (by decide +kernel) (pa_cons (pa i) (pa1 (pb i) (hs2 i)) (hs i)) (he := hs i) (hpl := hpl i), fun G0 H0 env σ G H Q R I q k => ?_⟩
  refine ha G0 H0 env σ G H _ _ I q fun x H1 G1 env1 d s1 I1 r1 q1 => hb G0 H0 env1 σ G1 H1 _ _ I1 q1 fun y H2 G2 env2 f s2 I2 r2 q2 => ?_
  cases d with
  | int i =>
    cases f with
    | int j =>
      refine ⟨i, j, by rw [rep_int r1, rep_int r2], k _ H2 G2 env2 (.int (min i j)) (s1.trans s2) I2 ?_ q2⟩
      show V.int _ = V.int _
      congr 1
      split <;> omega
    | _ => exact (q2 : False).elim
  | _ => exact (q2 : False).elim
end
end DL

namespace K31
open PySem PySem.Spec PyProof.Rows L2 DL
def g_overtaken_from_0_variety_standings_size {α : Type} : List α → List α → List α
  | [], [w0, w1, w2] => [w2, w0, w1]
  | _, _ => []
def t_width : DS :=
  (dRet (dCal cBits (dOp cSub (dVar 0) (dC (.int 1)))))
def r_pressed_length_1 (S_width : DSp) : DS :=
  (dRet (dVar 3))
def t_pressed_length (S_width : DSp) : DS :=
  (dSeq (dSet 2 (dOp cAdd (dVar 1) (dC (.int 1))))
  (dSeq (dSet 3 (dCall S_width (dCons (dVar 2) dNil)))
  (dSeq (dIfS (dCmpT cEq (dVar 0) (dC (.int 1))) (dRet (dOp cAdd (dVar 3) (dVar 2))) dNext)
  (dSeq (dSet 4 (dC (.int 1)))
  (dSeq (dSet 5 (dC (.int 0)))
  (dSeq (dWhile (dCmpT cLt (dVar 5) (dVar 2))
  (dSeq (dSet 3 (dOp cSub (dOp cAdd (dVar 3) (dVar 2)) (dVar 5)))
  (dSeq (dSet 4 (dOp cMul (dVar 4) (dC (.int 2))))
  (dSet 5 (dOp cDiv (dOp cSub (dVar 4) (dC (.int 2))) (dOp cSub (dVar 0) (dC (.int 1))))))))
  (r_pressed_length_1 S_width)))))))
def t_pays_for_itself (S_width : DSp) : DS :=
  (dSeq (dSet 4 (dOp cSub (dCal cBits (dOp cAdd (dVar 3) (dC (.int 2)))) (dC (.int 1))))
  (dRet (dCmp cGe (dOp cAdd (dC (.int 1)) (dOp cDiv (dVar 3) (dVar 1))) (dOp cMul (dVar 2) (dOp cAdd (dOp cAdd (dCall S_width (dCons (dVar 0) dNil)) (dC (.int 4))) (dVar 4))))))
def r_overtaken_from_1 (S_pressed_length : DSp) (S_pays_for_itself : DSp) : DS :=
  (dRet (dVar 3))
def t_overtaken_from (S_pressed_length : DSp) (S_pays_for_itself : DSp) : DS :=
  (dSeq (dSet 3 (dC (.int 0)))
  (dSeq (dSet 4 (dC (.int 0)))
  (dSeq (dSet 5 (dC (.int 0)))
  (dSeq (dSet 6 (dC (.bl false)))
  (dSeq (dWhile (dNot (dTst (dVar 6)))
  (dSeq (dSet 7 (dCall S_pressed_length (dCons (dVar 0) (dCons (dVar 4) dNil))))
  (dSeq (dSet 8 (dOp cAdd (dOp cAdd (dVar 5) (dC (.int 1))) (dOp cDiv (dVar 4) (dVar 1))))
  (dSeq (dIfS (dCmpT cLt (dVar 5) (dOp cMul (dVar 2) (dOp cAdd (dVar 7) (dC (.int 1))))) (dSet 3 (dOp cMin (dVar 8) (dOp cMul (dVar 2) (dOp cAdd (dVar 7) (dC (.int 1)))))) (dSet 6 (dCall S_pays_for_itself (dCons (dVar 0) (dCons (dVar 1) (dCons (dVar 2) (dCons (dVar 4) dNil)))))))
  (dSeq (dSet 4 (dOp cAdd (dVar 4) (dC (.int 1))))
  (dSet 5 (dVar 8)))))))
  (r_overtaken_from_1 S_pressed_length S_pays_for_itself))))))
def t__law_whole : DS :=
  (dRet (dAndV (dCal (cIsi .int) (dVar 0)) (dNotV (dCal (cIsi .bool) (dVar 0)))))
def r__law_cell_1 : DS :=
  (dRet (dOp cMod (dCal cInt (dOp cMul (dOp cMul (dOp cAdd (dVar 2) (dC (.int 7))) (dOp cAdd (dVar 1) (dC (.int 3)))) (dC (.int 69621)))) (dC (.int 2147483647))))
def t__law_cell : DS :=
  (dSeq (dIfS (dCmpT cLt (dVar 1) (dCal cLen (dVar 0))) (dRet (dOp cIx (dVar 0) (dVar 1))) dNext)
  (dSeq (dSet 2 (dC (.int 17)))
  (dSeq (dFor (dItS (dVar 0)) (gNm 3)
  (dSet 2 (dOp cMod (dCal cInt (dOp cAdd (dOp cMul (dVar 2) (dC (.int 31))) (dOp cMod (dCal cInt (dVar 3)) (dC (.int 1000003))))) (dC (.int 1000003)))))
  (r__law_cell_1))))
def r__law_digits_1 : DS :=
  (dRet (dTake 2))
def r__law_digits_2 : DS :=
  (dRet (dTake 2))
def t__law_digits : DS :=
  (dSeq (dSetO 2 (dLst dNil))
  (dSeq (dSet 3 (dCal cInt (dVar 0)))
  (dSeq (dIfS (dCmpT cGe (dVar 3) (dOp cPow (dC (.int 10)) (dC (.int 18)))) (dSeq (dSet 3 (dOp cSub (dVar 3) (dOp cPow (dC (.int 10)) (dC (.int 18)))))
  (dSeq (dFor (dItS (dVar 1)) (gNm 6)
  (dSeq (dDrop (dApp 2 (dOp cMod (dCal cInt (dVar 3)) (dVar 6))))
  (dSet 3 (dOp cDiv (dCal cInt (dVar 3)) (dVar 6)))))
  (r__law_digits_1))) dNext)
  (dSeq (dSet 4 (dOp cMod (dCal cInt (dVar 3)) (dC (.int 2147483629))))
  (dSeq (dFor (dRng1 (dCal cLen (dVar 1))) (gNm 5)
  (dSeq (dSet 4 (dOp cMod (dCal cInt (dOp cAdd (dOp cAdd (dOp cMul (dVar 4) (dC (.int 48271))) (dOp cMul (dC (.int 974711)) (dVar 5))) (dC (.int 12345)))) (dC (.int 2147483647))))
  (dSeq (dSet 7 (dOp cMod (dCal cInt (dOp cMul (dVar 4) (dOp cAdd (dOp cDiv (dVar 4) (dC (.int 65537))) (dC (.int 3))))) (dC (.int 2147483629))))
  (dDrop (dApp 2 (dOp cMod (dOp cDiv (dVar 7) (dC (.int 19))) (dOp cIx (dVar 1) (dVar 5))))))))
  (r__law_digits_2))))))
def r__law_width_1 : DS :=
  (dRet (dVar 1))
def t__law_width : DS :=
  (dSeq (dSet 1 (dC (.int 0)))
  (dSeq (dSet 2 (dC (.int 1)))
  (dSeq (dFor (dRng1 (dC (.int 400))) (gNm 3)
  (dSeq (dIfS (dCmpT cGe (dVar 2) (dVar 0)) dBreak dNext)
  (dSeq (dSet 2 (dOp cMul (dVar 2) (dC (.int 2))))
  (dSet 1 (dOp cAdd (dVar 1) (dC (.int 1)))))))
  (r__law_width_1))))
def r__law_giant_1 : DS :=
  (dRet (dVar 1))
def t__law_giant : DS :=
  (dSeq (dIfS (dCmpT cEq (dOp cIx (dVar 0) (dC (.int 0))) (dC (.int 31))) (dRet (dOp cPow (dC (.int 10)) (dC (.int 30)))) dNext)
  (dSeq (dSet 1 (dC (.int 0)))
  (dSeq (dFor (dRng1 (dOp cIx (dVar 0) (dC (.int 0)))) (gNm 2)
  (dSet 1 (dOp cAdd (dOp cMul (dVar 1) (dC (.int 10))) (dOp cIx (dVar 0) (dOp cAdd (dC (.int 1)) (dVar 2))))))
  (r__law_giant_1))))
def r__law_fill_1 : DS :=
  (dRet (dOp cAdd (dOp cMul (dVar 0) (dVar 2)) (dOp cDiv (dOp cSub (dVar 1) (dOp cDiv (dOp cMul (dOp cMul (dVar 0) (dVar 2)) (dOp cAdd (dVar 2) (dC (.int 1)))) (dC (.int 2)))) (dOp cAdd (dVar 2) (dC (.int 1))))))
def r__law_fill_2 : DS :=
  (dSeq (dFor (dRng1 (dC (.int 400))) (gNm 4)
  (dSeq (dIfS (dCmpT cLe (dOp cSub (dVar 3) (dVar 2)) (dC (.int 1))) dBreak dNext)
  (dSeq (dSet 5 (dOp cDiv (dOp cAdd (dVar 2) (dVar 3)) (dC (.int 2))))
  (dIfS (dCmpT cLe (dOp cDiv (dOp cMul (dOp cMul (dVar 0) (dVar 5)) (dOp cAdd (dVar 5) (dC (.int 1)))) (dC (.int 2))) (dVar 1)) (dSet 2 (dVar 5)) (dSet 3 (dVar 5))))))
  (r__law_fill_1))
def t__law_fill : DS :=
  (dSeq (dSet 2 (dC (.int 0)))
  (dSeq (dSet 3 (dC (.int 1)))
  (dSeq (dFor (dRng1 (dC (.int 400))) (gNm 4)
  (dSeq (dIfS (dCmpT cGt (dOp cDiv (dOp cMul (dOp cMul (dVar 0) (dVar 3)) (dOp cAdd (dVar 3) (dC (.int 1)))) (dC (.int 2))) (dVar 1)) dBreak dNext)
  (dSet 3 (dOp cMul (dVar 3) (dC (.int 2))))))
  (r__law_fill_2))))
def r__law_pressed_1 (S__law_width : DSp) : DS :=
  (dRet (dVar 2))
def t__law_pressed (S__law_width : DSp) : DS :=
  (dSeq (dSet 2 (dCall S__law_width (dCons (dOp cAdd (dVar 1) (dC (.int 1))) dNil)))
  (dSeq (dIfS (dCmpT cEq (dVar 0) (dC (.int 1))) (dRet (dOp cAdd (dOp cAdd (dVar 2) (dVar 1)) (dC (.int 1)))) dNext)
  (dSeq (dSet 3 (dC (.int 1)))
  (dSeq (dFor (dRng1 (dC (.int 400))) (gNm 4)
  (dSeq (dSet 5 (dC (.int 0)))
  (dSeq (dIfS (dCmpT cGe (dVar 3) (dOp cAdd (dVar 0) (dC (.int 1)))) (dSet 5 (dOp cAdd (dOp cDiv (dOp cSub (dOp cSub (dVar 3) (dVar 0)) (dC (.int 1))) (dOp cSub (dVar 0) (dC (.int 1)))) (dC (.int 1)))) dNext)
  (dSeq (dIfS (dCmpT cGt (dVar 5) (dVar 1)) dBreak dNext)
  (dSeq (dSet 2 (dOp cSub (dOp cAdd (dOp cAdd (dVar 2) (dVar 1)) (dC (.int 1))) (dVar 5)))
  (dSet 3 (dOp cMul (dVar 3) (dC (.int 2)))))))))
  (r__law_pressed_1 S__law_width)))))
def t__law_words_total : DS :=
  (dSeq (dSet 2 (dOp cDiv (dVar 1) (dVar 0)))
  (dRet (dOp cAdd (dOp cDiv (dOp cMul (dOp cMul (dVar 0) (dVar 2)) (dOp cAdd (dVar 2) (dC (.int 1)))) (dC (.int 2))) (dOp cMul (dOp cSub (dVar 1) (dOp cMul (dVar 0) (dVar 2))) (dOp cAdd (dVar 2) (dC (.int 1)))))))
def t__law_overtaken (S__law_pressed : DSp) (S__law_fill : DSp) : DS :=
  (dRet (dCmp cLt (dCall S__law_pressed (dCons (dVar 0) (dCons (dCall S__law_fill (dCons (dVar 1) (dCons (dVar 3) dNil))) dNil))) (dOp cDiv (dVar 3) (dVar 2))))
def r__law_least_length_1 (S__law_whole : DSp) (S__law_overtaken : DSp) (S__law_fill : DSp) (S__law_words_total : DSp) : DS :=
  (dRet (dC (.bl true)))
def r__law_least_length_2 (S__law_whole : DSp) (S__law_overtaken : DSp) (S__law_fill : DSp) (S__law_words_total : DSp) : DS :=
  (dSeq (dFor (dItS (dVar 2)) (gNm 8)
  (dSeq (dIfS (dNot (dTst (dCall S__law_overtaken (dCons (dVar 3) (dCons (dVar 4) (dCons (dVar 5) (dCons (dOp cAdd (dVar 1) (dVar 8)) dNil))))))) (dRet (dC (.bl false))) dNext)
  (dIfS (dAnd (dCmpT cGt (dVar 8) (dC (.int 0))) (dNot (dTst (dCall S__law_overtaken (dCons (dVar 3) (dCons (dVar 4) (dCons (dVar 5) (dCons (dOp cSub (dOp cAdd (dVar 1) (dVar 8)) (dC (.int 1))) dNil)))))))) (dRet (dC (.bl false))) dNext)))
  (r__law_least_length_1 S__law_whole S__law_overtaken S__law_fill S__law_words_total))
def t__law_least_length (S__law_whole : DSp) (S__law_overtaken : DSp) (S__law_fill : DSp) (S__law_words_total : DSp) : DS :=
  (dSeq (dSet 3 (dOp cAdd (dC (.int 1)) (dOp cIx (dVar 0) (dC (.int 0)))))
  (dSeq (dSet 4 (dOp cAdd (dC (.int 1)) (dOp cIx (dVar 0) (dC (.int 1)))))
  (dSeq (dSet 5 (dOp cAdd (dC (.int 1)) (dOp cIx (dVar 0) (dC (.int 2)))))
  (dSeq (dIfS (dOr (dNot (dTst (dCall S__law_whole (dCons (dVar 1) dNil)))) (dCmpT cLt (dVar 1) (dC (.int 1)))) (dRet (dC (.bl false))) dNext)
  (dSeq (dIfS (dOr (dNot (dTst (dCall S__law_overtaken (dCons (dVar 3) (dCons (dVar 4) (dCons (dVar 5) (dCons (dVar 1) dNil))))))) (dTst (dCall S__law_overtaken (dCons (dVar 3) (dCons (dVar 4) (dCons (dVar 5) (dCons (dOp cSub (dVar 1) (dC (.int 1))) dNil))))))) (dRet (dC (.bl false))) dNext)
  (dSeq (dSet 6 (dCall S__law_fill (dCons (dVar 4) (dCons (dVar 1) dNil))))
  (dSeq (dFor (dRng1 (dC (.int 300))) (gNm 7)
  (dSeq (dSet 9 (dCall S__law_words_total (dCons (dVar 4) (dCons (dOp cAdd (dOp cAdd (dVar 6) (dC (.int 1))) (dVar 7)) dNil))))
  (dIfS (dNot (dTst (dCall S__law_overtaken (dCons (dVar 3) (dCons (dVar 4) (dCons (dVar 5) (dCons (dVar 9) dNil))))))) (dRet (dC (.bl false))) dNext)))
  (r__law_least_length_2 S__law_whole S__law_overtaken S__law_fill S__law_words_total))))))))
def r_law_1 (S__law_digits : DSp) (S__law_cell : DSp) (S__law_giant : DSp) (S_overtaken_from : DSp) (S__law_least_length : DSp) : DS :=
  (dSeq (dSet 5 (dCall S_overtaken_from (dCons (dOp cAdd (dC (.int 1)) (dOp cIx (dVar 1) (dC (.int 0)))) (dCons (dOp cAdd (dC (.int 1)) (dOp cIx (dVar 1) (dC (.int 1)))) (dCons (dOp cAdd (dC (.int 1)) (dOp cIx (dVar 1) (dC (.int 2)))) dNil)))))
  (dSeq (dIfS (dNot (dTst (dCall S__law_least_length (dCons (dVar 1) (dCons (dVar 5) (dCons (dVar 3) dNil)))))) (dRet (dC (.bl false))) dNext)
  (dSeq (dIfS (dNot (dTst (dCall S__law_least_length (dCons (dVar 2) (dCons (dCall S_overtaken_from (dCons (dOp cAdd (dC (.int 1)) (dOp cIx (dVar 2) (dC (.int 0)))) (dCons (dOp cAdd (dC (.int 1)) (dOp cIx (dVar 2) (dC (.int 1)))) (dCons (dOp cAdd (dC (.int 1)) (dOp cIx (dVar 2) (dC (.int 2)))) dNil)))) (dCons (dVar 3) dNil)))))) (dRet (dC (.bl false))) dNext)
  (dRet (dCmp cEq (dCallK 0 3 g_overtaken_from_0_variety_standings_size S_overtaken_from dNil (dCons (dOp cAdd (dC (.int 1)) (dOp cIx (dVar 1) (dC (.int 1)))) (dCons (dOp cAdd (dC (.int 1)) (dOp cIx (dVar 1) (dC (.int 2)))) (dCons (dOp cAdd (dC (.int 1)) (dOp cIx (dVar 1) (dC (.int 0)))) dNil)))) (dVar 5))))))
def t_law (S__law_digits : DSp) (S__law_cell : DSp) (S__law_giant : DSp) (S_overtaken_from : DSp) (S__law_least_length : DSp) : DS :=
  (dSeq (dSet 1 (dCall S__law_digits (dCons (dCall S__law_cell (dCons (dVar 0) (dCons (dC (.int 0)) dNil))) (dCons (dLst (dCons (dC (.int 6)) (dCons (dC (.int 20)) (dCons (dC (.int 12)) dNil)))) dNil))))
  (dSeq (dSet 2 (dCall S__law_digits (dCons (dCall S__law_cell (dCons (dVar 0) (dCons (dC (.int 1)) dNil))) (dCons (dLst (dCons (dC (.int 6)) (dCons (dC (.int 6)) (dCons (dC (.int 5)) dNil)))) dNil))))
  (dSeq (dSetO 3 (dCall S__law_digits (dCons (dCall S__law_cell (dCons (dVar 0) (dCons (dC (.int 2)) dNil))) (dCons (dLst (dCons (dC (.int 401)) (dCons (dC (.int 401)) dNil))) dNil))))
  (dSeq (dFor (dRng1 (dC (.int 2))) (gNm 4)
  (dDrop (dApp 3 (dCall S__law_giant (dCons (dCall S__law_digits (dCons (dCall S__law_cell (dCons (dVar 0) (dCons (dOp cAdd (dC (.int 3)) (dVar 4)) dNil))) (dCons (dOp cAdd (dLst (dCons (dC (.int 32)) dNil)) (dOp cMul (dLst (dCons (dC (.int 10)) dNil)) (dC (.int 30)))) dNil))) dNil)))))
  (r_law_1 S__law_digits S__law_cell S__law_giant S_overtaken_from S__law_least_length)))))
end K31

set_option linter.all false
namespace K31
def bl (k : Nat) : Nat := PySem.Builtin.Int.intBits (k : Int)
theorem bl_le {k m : Nat} : bl k ≤ m ↔ k < 2 ^ m := by
  unfold bl PySem.Builtin.Int.intBits
  by_cases h : k = 0
  · subst h
    simp
    exact Nat.two_pow_pos m
  · have h1 : ((k : Int) == 0) = false := by
      rw [beq_eq_false_iff_ne]; omega
    rw [h1]
    simp only [Bool.false_eq_true, if_false, Int.natAbs_natCast]
    rw [Nat.succ_le_iff, Nat.log2_lt h]
/-- the least width of so many options -/
def W (n : Nat) : Nat := bl (n - 1)
theorem W_le {n m : Nat} (h : 1 ≤ n) : W n ≤ m ↔ n ≤ 2 ^ m := by
  unfold W
  rw [bl_le]
  omega
theorem W_self {n : Nat} (h : 1 ≤ n) : n ≤ 2 ^ W n := (W_le h).mp (Nat.le_refl _)
theorem W_mono {n m : Nat} (h : 1 ≤ n) (hm : n ≤ m) : W n ≤ W m := (W_le h).mpr (Nat.le_trans hm (W_self (Nat.le_trans h hm)))
theorem W_succ {n : Nat} (h : 1 ≤ n) : W (n + 1) ≤ W n + 1 := by
  rw [W_le (by omega), Nat.pow_succ]
  have := W_self h
  omega
/-- options of piece k -/
def opt (s k : Nat) : Nat := k * (s - 1) + 2
def Ws (s : Nat) : Nat → Nat
  | 0 => 0
  | n + 1 => Ws s n + W (opt s (n + 1))
def Sm (s w : Nat) : Nat → Nat
  | 0 => 0
  | n + 1 => Sm s w n + min w (W (opt s (n + 1)))
def nar (s w : Nat) : Nat := (2 ^ w - 2) / (s - 1)
def P (s c : Nat) : Nat := W (c + 1) + Ws s (c + 1)
theorem opt_pos (s k : Nat) : 1 ≤ opt s k := by unfold opt; omega
theorem nar_lt {s w k : Nat} (hs : 2 ≤ s) (hk : 1 ≤ k) : nar s w < k ↔ w < W (opt s k) := by
  unfold nar
  rw [Nat.div_lt_iff_lt_mul (by omega), ← Nat.not_le, ← Nat.not_le (b := w), not_congr]
  rw [W_le (opt_pos s k)]
  unfold opt
  have h0 : 0 < k * (s - 1) := Nat.mul_pos hk (by omega)
  omega
theorem Sm_succ {s w : Nat} (hs : 2 ≤ s) : ∀ n, Sm s (w + 1) n = Sm s w n + (n - min n (nar s w))
  | 0 => by simp [Sm]
  | n + 1 => by
    have ih := Sm_succ (w := w) hs n
    have k := nar_lt (s := s) (w := w) (k := n + 1) hs (by omega)
    unfold Sm
    rw [ih]
    by_cases h : nar s w < n + 1
    · have := k.mp h
      omega
    · have : ¬ w < W (opt s (n + 1)) := fun z => h (k.mpr z)
      omega
theorem Sm_zero {s : Nat} : ∀ n, Sm s 0 n = 0
  | 0 => rfl
  | n + 1 => by unfold Sm; rw [Sm_zero n]; omega
theorem Sm_eq {s w : Nat} (hs : 2 ≤ s) : ∀ n, n ≤ nar s w → Sm s w n = Ws s n
  | 0, _ => rfl
  | n + 1, h => by
    unfold Sm Ws
    rw [Sm_eq hs n (by omega)]
    have : ¬ w < W (opt s (n + 1)) := fun z => by
      have := (nar_lt hs (by omega)).mpr z
      omega
    omega
theorem nar_big {s w n : Nat} (hs : 2 ≤ s) (h : n * (s - 1) + 2 ≤ 2 ^ w) : n ≤ nar s w := by
  unfold nar
  rw [Nat.le_div_iff_mul_le (by omega)]
  omega
theorem Ws_one : ∀ n, Ws 1 n = n
  | 0 => rfl
  | n + 1 => by
    unfold Ws
    rw [Ws_one n]
    have : W (opt 1 (n + 1)) = 1 := by
      unfold opt
      rw [Nat.sub_self, Nat.mul_zero]
      rfl
    omega

def tri : Nat → Nat
  | 0 => 0
  | f + 1 => tri f + (f + 1)
theorem tri_succ (f : Nat) : tri (f + 1) = tri f + (f + 1) := rfl
theorem tri_two : ∀ f, 2 * tri f = f * (f + 1)
  | 0 => rfl
  | f + 1 => by
    rw [tri_succ]
    have := tri_two f
    have e : (f + 1) * (f + 1 + 1) = f * (f + 1) + 2 * (f + 1) := by
      rw [Nat.mul_comm (f + 1) (f + 1 + 1), ← Nat.add_mul]
    omega
/-- the least letters of c words, v of each length -/
def L (v : Nat) : Nat → Nat
  | 0 => 0
  | c + 1 => L v c + 1 + c / v
theorem L_form {v : Nat} (hv : 1 ≤ v) : ∀ f r, r ≤ v → L v (v * f + r) = v * tri f + r * (f + 1) := by
  intro f
  induction f with
  | zero =>
    intro r
    induction r with
    | zero => intro _; simp [L, tri]
    | succ r ih =>
      intro hr
      have e : v * 0 + (r + 1) = (v * 0 + r) + 1 := by omega
      rw [e]
      unfold L
      rw [ih (by omega)]
      have : (v * 0 + r) / v = 0 := by rw [Nat.mul_zero, Nat.zero_add]; exact Nat.div_eq_of_lt (by omega)
      rw [this]
      simp [tri]
  | succ f ihf =>
    intro r
    induction r with
    | zero =>
      intro _
      have := ihf v (Nat.le_refl _)
      have e : v * (f + 1) + 0 = v * f + v := by rw [Nat.mul_succ]; omega
      rw [e, this, tri_succ, Nat.mul_add, Nat.mul_add, Nat.mul_add]
      omega
    | succ r ih =>
      intro hr
      have e : v * (f + 1) + (r + 1) = (v * (f + 1) + r) + 1 := by omega
      rw [e]
      unfold L
      rw [ih (by omega)]
      have : (v * (f + 1) + r) / v = f + 1 := by
        rw [Nat.mul_add_div (by omega), Nat.div_eq_of_lt (by omega), Nat.add_zero]
      rw [this, Nat.succ_mul]
      omega
theorem L_lt {v c d : Nat} (h : c < d) : L v c < L v d := by
  induction d with
  | zero => omega
  | succ d ih =>
    have e : L v (d + 1) = L v d + 1 + d / v := rfl
    have z0 := Nat.zero_le (d / v)
    by_cases hc : c = d
    · subst hc; omega
    · have := ih (by omega)
      omega
theorem L_le {v c d : Nat} (h : c ≤ d) : L v c ≤ L v d := by
  rcases Nat.lt_or_eq_of_le h with h | h
  · exact Nat.le_of_lt (L_lt h)
  · rw [h]; exact Nat.le_refl _
theorem L_ge (v c : Nat) : c ≤ L v c := by
  induction c with
  | zero => exact Nat.zero_le _
  | succ c ih =>
    have e : L v (c + 1) = L v c + 1 + c / v := rfl
    have z0 := Nat.zero_le (c / v)
    omega
/-- c words, not one more, fit into n letters -/
def Fits (v n c : Nat) : Prop := L v c ≤ n ∧ n < L v (c + 1)
theorem Fits.uniq {v n c d : Nat} (h : Fits v n c) (k : Fits v n d) : c = d := by
  rcases Nat.lt_trichotomy c d with z | z | z
  · have := L_le (v := v) (show c + 1 ≤ d from z)
    have := h.2; have := k.1; omega
  · exact z
  · have := L_le (v := v) (show d + 1 ≤ c from z)
    have := k.2; have := h.1; omega
theorem Fits.of {v n f : Nat} (hv : 1 ≤ v) (h1 : v * tri f ≤ n) (h2 : n < v * tri (f + 1)) : Fits v n (v * f + (n - v * tri f) / (f + 1)) := by
  have e : v * tri (f + 1) = v * tri f + v * (f + 1) := by rw [tri_succ, Nat.mul_add]
  have hr : (n - v * tri f) / (f + 1) < v := by
    rw [Nat.div_lt_iff_lt_mul (by omega)]
    omega
  have hm := Nat.div_add_mod (n - v * tri f) (f + 1)
  have hm2 := Nat.mod_lt (n - v * tri f) (show 0 < f + 1 by omega)
  have e1 := L_form hv f ((n - v * tri f) / (f + 1)) (by omega)
  have e2 := L_form hv f ((n - v * tri f) / (f + 1) + 1) (by omega)
  rw [Nat.succ_mul] at e2
  rw [Nat.mul_comm] at hm
  exact ⟨by rw [e1]; omega, by rw [Nat.add_assoc, e2]; omega⟩
theorem fits_ex {v : Nat} (n : Nat) : ∃ c, Fits v n c := by
  have : ∀ m, n < L v m → ∃ c, Fits v n c := by
    intro m
    induction m with
    | zero => intro h; exact absurd h (Nat.not_lt_zero _)
    | succ m ih =>
      intro h
      by_cases hm : n < L v m
      · exact ih hm
      · exact ⟨m, by omega, h⟩
  exact this (n + 1) (Nat.lt_of_lt_of_le (Nat.lt_succ_self n) (L_ge v (n + 1)))
theorem Fits.mono {v n m c d : Nat} (h : Fits v n c) (k : Fits v m d) (hn : n ≤ m) : c ≤ d := by
  rcases Nat.lt_or_ge d c with z | z
  · have := L_le (v := v) (show d + 1 ≤ c from z)
    have := k.2; have := h.1; omega
  · exact z

def Ov (s v t n : Nat) : Prop := ∃ c, Fits v n c ∧ t * (P s c + 1) ≤ n
theorem ov_iff {s v t n c : Nat} (h : Fits v n c) : Ov s v t n ↔ t * (P s c + 1) ≤ n := by
  constructor
  · rintro ⟨d, h2, k⟩
    rw [h.uniq h2]; exact k
  · exact fun k => ⟨c, h, k⟩
structure Told (s v t A : Nat) : Prop where
  pos : 1 ≤ A
  from_ : ∀ n, A ≤ n → Ov s v t n
  not : ¬ Ov s v t (A - 1)
theorem Told.uniq {s v t A B : Nat} (h : Told s v t A) (k : Told s v t B) : A = B := by
  have h1 := h.pos
  have k1 := k.pos
  rcases Nat.lt_trichotomy A B with z | z | z
  · exact absurd (h.from_ (B - 1) (by omega)) k.not
  · exact z
  · exact absurd (k.from_ (A - 1) (by omega)) h.not
/-- the answer behind c segments -/
structure Ans (s v t c a : Nat) : Prop where
  le : a ≤ L v c
  ok : ∀ n, a ≤ n → n < L v c → Ov s v t n
  no : 0 < c → 1 ≤ a ∧ ¬ Ov s v t (a - 1)
theorem ans_zero {s v t : Nat} : Ans s v t 0 0 := ⟨Nat.zero_le _, fun n _ h => absurd h (Nat.not_lt_zero _), fun h => absurd h (Nat.lt_irrefl 0)⟩
theorem Ans.step {s v t c a : Nat} (h : Ans s v t c a) (hl : L v c < t * (P s c + 1)) : Ans s v t (c + 1) (min (L v (c + 1)) (t * (P s c + 1))) := by
  have hc : L v c < L v (c + 1) := L_lt (Nat.lt_succ_self c)
  refine ⟨Nat.min_le_left _ _, fun n h1 h2 => ?_, fun _ => ⟨by omega, fun z => ?_⟩⟩
  · have f : Fits v n c := ⟨by omega, h2⟩
    exact (ov_iff f).mpr (by omega)
  · have f : Fits v (min (L v (c + 1)) (t * (P s c + 1)) - 1) c := ⟨by omega, by omega⟩
    have := (ov_iff f).mp z
    omega
theorem Ans.keep {s v t c a : Nat} (h : Ans s v t c a) (hl : t * (P s c + 1) ≤ L v c) (h0 : 0 < c) : Ans s v t (c + 1) a := by
  have hc : L v c < L v (c + 1) := L_lt (Nat.lt_succ_self c)
  refine ⟨by have := h.le; omega, fun n h1 h2 => ?_, fun _ => h.no h0⟩
  by_cases hn : n < L v c
  · exact h.ok n h1 hn
  · exact (ov_iff (c := c) ⟨by omega, h2⟩).mpr (by omega)
def g (c : Nat) : Nat := bl (c + 2) - 1
theorem g_lt (c : Nat) : c + 2 < 2 ^ (g c + 1) := by
  have h : 1 ≤ bl (c + 2) := by
    rcases Nat.eq_zero_or_pos (bl (c + 2)) with z | z
    · have := bl_le.mp (Nat.le_of_eq z)
      simp at this
    · exact z
  have : c + 2 < 2 ^ bl (c + 2) := bl_le.mp (Nat.le_refl _)
  unfold g
  rwa [Nat.sub_add_cancel h]
theorem g_le (c : Nat) : 2 ^ g c ≤ c + 2 := by
  have h : 1 ≤ bl (c + 2) := by
    rcases Nat.eq_zero_or_pos (bl (c + 2)) with z | z
    · have := bl_le.mp (Nat.le_of_eq z)
      simp at this
    · exact z
  have : ¬ bl (c + 2) ≤ g c := by unfold g; omega
  rw [bl_le] at this
  omega
theorem g_mono {c d : Nat} (h : c ≤ d) : g c ≤ g d := by
  have h1 := g_le c
  have h2 := g_lt d
  have : 2 ^ g c < 2 ^ (g d + 1) := by omega
  have := (Nat.pow_lt_pow_iff_right (by decide : 1 < 2)).mp this
  omega
def Pays (s v t c : Nat) : Prop := t * (W s + 4 + g c) ≤ 1 + c / v
theorem pow_ge (j : Nat) : j ≤ 2 ^ j := Nat.le_of_lt Nat.lt_two_pow_self
theorem pays_all {s v t C c : Nat} (hv : 1 ≤ v) (ht : 1 ≤ t) (h : Pays s v t C) (hc : C ≤ c) : t * (W s + g c + 2) ≤ 1 + c / v := by
  have hg := g_mono hc
  obtain ⟨j, hj⟩ := Nat.exists_eq_add_of_le hg
  have hd : C / v ≤ c / v := Nat.div_le_div_right hc
  unfold Pays at h
  by_cases h3 : j ≤ 2
  · have : t * (W s + g c + 2) ≤ t * (W s + 4 + g C) := Nat.mul_le_mul_left t (by omega)
    omega
  · obtain ⟨i, rfl⟩ : ∃ i, j = i + 1 := ⟨j - 1, by omega⟩
    have h1 := g_le c
    have h2 := g_lt C
    rw [hj, show g C + (i + 1) = (g C + 1) + i by omega, Nat.pow_add] at h1
    have a1 : (C + 3) * 2 ^ i ≤ 2 ^ (g C + 1) * 2 ^ i := Nat.mul_le_mul_right _ h2
    have a2 : (C + 3) * 2 ^ i = C * 2 ^ i + 3 * 2 ^ i := Nat.add_mul _ _ _
    have a3 : i < 2 ^ i := Nat.lt_two_pow_self
    have a4 : C * 2 ^ i ≤ c := by omega
    have a5 : C / v * 2 ^ i ≤ c / v := by
      rw [Nat.le_div_iff_mul_le (by omega)]
      refine Nat.le_trans ?_ a4
      have := Nat.div_mul_le_self C v
      calc C / v * 2 ^ i * v = C / v * v * 2 ^ i := by rw [Nat.mul_right_comm]
        _ ≤ C * 2 ^ i := Nat.mul_le_mul_right _ this
    have e : t * (W s + g c + 2) = t * (W s + 4 + g C) + t * (i - 1) := by
      rw [← Nat.mul_add]
      congr 1
      omega
    have b1 : t * 4 ≤ t * (W s + 4 + g C) := Nat.mul_le_mul_left t (by omega)
    have b2 : 3 * t ≤ C / v := by omega
    have b3 : C / v * (i + 1) ≤ C / v * 2 ^ i := Nat.mul_le_mul_left _ a3
    have b4 : C / v * (i + 1) = C / v * i + C / v := Nat.mul_succ _ _
    have b5 : 3 * t * i ≤ C / v * i := Nat.mul_le_mul_right _ b2
    have b6 : t * (i - 1) ≤ t * i := Nat.mul_le_mul_left t (by omega)
    have b7 : 3 * t * i = 3 * (t * i) := Nat.mul_assoc _ _ _
    omega
theorem P_step {s c : Nat} (hs : 1 ≤ s) : P s (c + 1) ≤ P s c + (W s + g c + 2) := by
  unfold P
  rw [show Ws s (c + 1 + 1) = Ws s (c + 1) + W (opt s (c + 2)) from rfl]
  have h1 : W (c + 1 + 1) ≤ W (c + 1) + 1 := W_succ (by omega)
  have h2 : W (opt s (c + 2)) ≤ W s + g c + 1 := by
    rw [W_le (opt_pos _ _)]
    have a := W_self hs
    have b := g_lt c
    have e : opt s (c + 2) ≤ s * (c + 2) := by
      unfold opt
      obtain ⟨k, rfl⟩ : ∃ k, s = k + 1 := ⟨s - 1, by omega⟩
      rw [Nat.add_sub_cancel, Nat.mul_comm (c + 2) k, Nat.succ_mul]
      omega
    rw [Nat.add_assoc, Nat.pow_add]
    exact Nat.le_trans e (Nat.mul_le_mul a (Nat.le_of_lt b))
  omega
theorem dominates {s v t C : Nat} (hs : 1 ≤ s) (hv : 1 ≤ v) (ht : 1 ≤ t) (h : Pays s v t C) (hl : t * (P s C + 1) ≤ L v C) : ∀ k, t * (P s (C + k) + 1) ≤ L v (C + k)
  | 0 => hl
  | k + 1 => by
    have ih := dominates hs hv ht h hl k
    have p := P_step (c := C + k) hs
    have q := pays_all hv ht h (show C ≤ C + k by omega)
    have e : L v (C + (k + 1)) = L v (C + k) + 1 + (C + k) / v := rfl
    have m : t * (P s (C + k + 1) + 1) ≤ t * ((P s (C + k) + 1) + (W s + g (C + k) + 2)) := Nat.mul_le_mul_left t (by omega)
    rw [Nat.mul_add t (P s (C + k) + 1)] at m
    rw [show C + (k + 1) = C + k + 1 from rfl] at e ⊢
    omega
theorem told_of {s v t C a : Nat} (hs : 1 ≤ s) (hv : 1 ≤ v) (ht : 1 ≤ t) (h : Ans s v t (C + 1) a) (hp : Pays s v t C) (hl : t * (P s C + 1) ≤ L v C) : Told s v t a := by
  obtain ⟨h1, h2⟩ := h.no (by omega)
  refine ⟨h1, fun n hn => ?_, h2⟩
  by_cases hc : n < L v (C + 1)
  · exact h.ok n hn hc
  · obtain ⟨c, f⟩ := fits_ex (v := v) n
    have : C ≤ c := by
      rcases Nat.lt_or_ge c C with z | z
      · have := L_le (v := v) (show c + 1 ≤ C + 1 by omega)
        have := f.2; omega
      · exact z
    obtain ⟨k, rfl⟩ := Nat.exists_eq_add_of_le this
    have := dominates hs hv ht hp hl k
    exact (ov_iff f).mpr (Nat.le_trans this f.1)
/-- at 65536 pieces all is settled -/
theorem Ws_bound {s b : Nat} : ∀ n, (∀ k, 1 ≤ k → k ≤ n → W (opt s k) ≤ b) → Ws s n ≤ n * b
  | 0, _ => Nat.zero_le _
  | n + 1, h => by
    have := Ws_bound n fun k h1 h2 => h k h1 (by omega)
    have := h (n + 1) (by omega) (Nat.le_refl _)
    unfold Ws
    rw [Nat.succ_mul]
    omega
theorem L_big {v : Nat} (hv : 1 ≤ v) (h : v ≤ 20) : ∀ c, c * (c + 1) ≤ 40 * L v c
  | 0 => by simp
  | c + 1 => by
    have ih := L_big hv h c
    have e : L v (c + 1) = L v c + 1 + c / v := rfl
    have d : c / 20 ≤ c / v := Nat.div_le_div_left h hv
    have m := Nat.div_add_mod c 20
    have m2 := Nat.mod_lt c (show 0 < 20 by decide)
    have e2 : (c + 1) * (c + 1 + 1) = c * (c + 1) + 2 * (c + 1) := by
      rw [Nat.mul_comm (c + 1) (c + 1 + 1), ← Nat.add_mul]
    omega
theorem settled {s v t : Nat} (hs : 1 ≤ s) (hs6 : s ≤ 6) (hv : 1 ≤ v) (hv2 : v ≤ 20) (ht : t ≤ 12) : Pays s v t 65536 ∧ t * (P s 65536 + 1) ≤ L v 65536 := by
  have w3 : W s ≤ 3 := by rw [W_le hs]; omega
  constructor
  · unfold Pays
    have e : g 65536 = 16 := by decide +kernel
    rw [e]
    have d : 65536 / 20 ≤ 65536 / v := Nat.div_le_div_left hv2 hv
    have m : t * (W s + 4 + 16) ≤ 12 * 23 := Nat.mul_le_mul ht (by omega)
    omega
  · have b : Ws s 65537 ≤ 65537 * 19 := Ws_bound _ fun k h1 h2 => by
      rw [W_le (opt_pos _ _)]
      unfold opt
      have : k * (s - 1) ≤ 65537 * 5 := Nat.mul_le_mul h2 (by omega)
      omega
    have w : W 65537 = 17 := by decide +kernel
    have l := L_big hv hv2 65536
    unfold P
    show t * (W 65537 + Ws s 65537 + 1) ≤ L v 65536
    rw [w]
    have m : t * (17 + Ws s 65537 + 1) ≤ 12 * (17 + 65537 * 19 + 1) := Nat.mul_le_mul ht (by omega)
    omega
theorem L_top {v : Nat} : ∀ c, L v c ≤ c * c + c
  | 0 => by simp [L]
  | c + 1 => by
    have ih := L_top (v := v) c
    have e : L v (c + 1) = L v c + 1 + c / v := rfl
    have d : c / v ≤ c := Nat.div_le_self _ _
    have e2 : (c + 1) * (c + 1) = c * c + c + c + 1 := by
      rw [Nat.succ_mul, Nat.mul_succ]
      omega
    omega
end K31

set_option linter.all false
set_option maxRecDepth 100000
namespace K31
open PySem PySem.Spec PyProof.Rows L2 DL
theorem mul_r {i j : Int} (h : -(2 ^ 64) < j) (h2 : j < 2 ^ 64) : MulOk i j := .inr (.inl ⟨h, h2⟩)
theorem mul_l {i j : Int} (h : -(2 ^ 64) < i) (h2 : i < 2 ^ 64) : MulOk i j := .inl ⟨h, h2⟩
theorem log_ok {j : Int} (h0 : 0 ≤ j) (h : j < 2 ^ 64) : j.natAbs.log2 < 9000 := by
  by_cases z : j.natAbs = 0
  · rw [z]; decide
  · rw [Nat.log2_lt z]
    have : j.natAbs < 2 ^ 64 := by omega
    exact Nat.lt_of_lt_of_le this (Nat.pow_le_pow_right (by decide) (by decide))
def S_width : DSp := fun ds Q => ∃ (n : Nat) (i : Int), ds = [.int i] ∧ i = n ∧ 1 ≤ n ∧ ∀ r : Int, r = (W n : Nat) → Q (.int r)
def S_pressed_length : DSp := fun ds Q => ∃ (s c : Nat) (i j : Int), ds = [.int i, .int j] ∧ i = s ∧ j = c ∧ 1 ≤ s ∧ s ≤ 6 ∧ ∀ r : Int, r = (P s c : Nat) → Q (.int r)
def S_pays_for_itself : DSp := fun ds Q => ∃ (s v t c : Nat) (i j k l : Int), ds = [.int i, .int j, .int k, .int l] ∧ i = s ∧ j = v ∧ k = t ∧ l = c ∧ 1 ≤ s ∧ 1 ≤ v ∧ v ≤ 20 ∧ t ≤ 12 ∧ ∀ b : Bool, (b = true ↔ Pays s v t c) → Q (.bl b)
def S_overtaken_from : DSp := fun ds Q => ∃ (s v t : Nat) (i j k : Int), ds = [.int i, .int j, .int k] ∧ i = s ∧ j = v ∧ k = t ∧ 1 ≤ s ∧ s ≤ 6 ∧ 1 ≤ v ∧ v ≤ 20 ∧ 1 ≤ t ∧ t ≤ 12 ∧ ∀ (A : Nat) (r : Int), r = A → Told s v t A → A ≤ 2 ^ 40 → Q (.int r)
theorem len_width : ∀ ds Q, S_width ds Q → ds.length = (["options"] : List Str).length := by rintro _ _ ⟨_, _, rfl, _⟩; rfl
theorem len_pressed_length : ∀ ds Q, S_pressed_length ds Q → ds.length = (["size", "count"] : List Str).length := by rintro _ _ ⟨_, _, _, _, rfl, _⟩; rfl
theorem len_pays_for_itself : ∀ ds Q, S_pays_for_itself ds Q → ds.length = (["size", "variety", "standings", "count"] : List Str).length := by rintro _ _ ⟨_, _, _, _, _, _, _, _, rfl, _⟩; rfl
theorem len_overtaken_from : ∀ ds Q, S_overtaken_from ds Q → ds.length = (["size", "variety", "standings"] : List Str).length := by rintro _ _ ⟨_, _, _, _, _, _, rfl, _⟩; rfl
theorem rd_width (ds : List D) (Q : D → Prop) (h : S_width ds Q) : t_width { nx := fun _ => false = false ∧ Q .non, rt := Q } (startD 1 ds) := by
  obtain ⟨n, i, rfl, rfl, h1, q⟩ := h
  refine q (Builtin.Int.intBits ((n : Int) - 1) : Nat) ?_
  unfold W bl
  rw [Int.natCast_sub h1] <;> rfl
theorem rd_pressed_length (ds : List D) (Q : D → Prop) (h : S_pressed_length ds Q) : t_pressed_length S_width { nx := fun _ => false = false ∧ Q .non, rt := Q } (startD 6 ds) := by
  obtain ⟨s, c, i, j, rfl, rfl, rfl, hs, hs6, q⟩ := h
  refine ⟨c + 1, _, rfl, by omega, by omega, fun r hr => ⟨fun h => ?_, fun h => ?_⟩⟩
  · have hs1 : s = 1 := by have := of_decide_eq_true h; omega
    refine q (r + ((c : Int) + 1)) ?_
    subst hs1
    unfold P
    rw [Ws_one]
    omega
  · have hs2 : 2 ≤ s := by
      have := of_decide_eq_false h
      omega
    have big : ∀ w, (c + 1) * (s - 1) + 2 ≤ w → c + 1 ≤ nar s w := fun w hw => nar_big hs2 (Nat.le_trans hw (Nat.le_of_lt Nat.lt_two_pow_self))
    refine ⟨fun m env => ∃ (w : Nat) (tot pw na : Int), env = [.fz (.int s), .fz (.int c), .fz (.int ((c : Int) + 1)), .fz (.int tot), .fz (.int pw), .fz (.int na)] ∧ tot = (W (c + 1) + Sm s w (c + 1) : Nat) ∧ pw = (2 ^ w : Nat) ∧ na = (nar s w : Nat) ∧ w + m = (c + 1) * (s - 1) + 2,
      ⟨(c + 1) * (s - 1) + 2, 0, r, 1, 0, rfl, by rw [Sm_zero]; omega, by simp, by simp [nar], by omega⟩, ?_⟩
    rintro m _ ⟨w, tot, pw, na, rfl, h1, h2, h3, h4⟩
    refine ⟨fun h => ?_, fun h => ?_⟩
    · have hn := of_decide_eq_true h
      have hw : w < (c + 1) * (s - 1) + 2 := by
        rcases Nat.lt_or_ge w ((c + 1) * (s - 1) + 2) with z | z
        · exact z
        · have := big w z; omega
      refine ⟨mul_r (by decide) (by decide), by omega, log_ok (by omega) (by omega), m - 1, by omega, w + 1, _, _, _, rfl, ?_, ?_, ?_, by omega⟩
      · rw [Sm_succ hs2]; omega
      · rw [h2, Nat.pow_succ]; omega
      · unfold nar
        have h3 : 2 ≤ 2 ^ (w + 1) := by rw [Nat.pow_succ]; have := Nat.two_pow_pos w; omega
        rw [Int.natCast_ediv, Int.natCast_sub h3, Int.natCast_sub hs, h2, Nat.pow_succ]
        rfl
    · have hn := of_decide_eq_false h
      refine q tot ?_
      rw [h1, Sm_eq hs2 _ (by omega)]
      rfl
theorem rd_pays_for_itself (ds : List D) (Q : D → Prop) (h : S_pays_for_itself ds Q) : t_pays_for_itself S_width { nx := fun _ => false = false ∧ Q .non, rt := Q } (startD 5 ds) := by
  obtain ⟨s, v, t, c, i, j, k, l, rfl, rfl, rfl, rfl, rfl, hs, hv, hv2, ht, q⟩ := h
  refine ⟨by omega, log_ok (by omega) (by omega), s, _, rfl, rfl, hs, fun r hr => ⟨mul_l (by omega) (by omega), q _ ?_⟩⟩
  rw [decide_eq_true_iff]
  unfold Pays g
  have h1 : 1 ≤ bl (c + 2) := by
    rcases Nat.eq_zero_or_pos (bl (c + 2)) with z | z
    · have := bl_le.mp (Nat.le_of_eq z)
      simp at this
    · exact z
  have e : ((Builtin.Int.intBits ((c : Int) + 2) : Nat) : Int) - 1 = ((bl (c + 2) - 1 : Nat) : Int) := by
    rw [Int.natCast_sub h1]; rfl
  rw [e, hr, ← Int.natCast_ediv]
  constructor
  · intro z
    have : ((t * (W s + 4 + (bl (c + 2) - 1)) : Nat) : Int) ≤ ((1 + c / v : Nat) : Int) := by
      rw [Int.natCast_mul]
      exact z
    omega
  · intro z
    have : ((t * (W s + 4 + (bl (c + 2) - 1)) : Nat) : Int) ≤ ((1 + c / v : Nat) : Int) := by omega
    rw [Int.natCast_mul] at this
    exact this
theorem rd_overtaken_from (ds : List D) (Q : D → Prop) (h : S_overtaken_from ds Q) : t_overtaken_from S_pressed_length S_pays_for_itself { nx := fun _ => false = false ∧ Q .non, rt := Q } (startD 9 ds) := by
  obtain ⟨s, v, t, i, j, k, rfl, rfl, rfl, rfl, hs, hs6, hv, hv2, ht, ht2, q⟩ := h
  obtain ⟨hP, hL⟩ := settled hs hs6 hv hv2 ht2
  refine ⟨fun m env => ∃ (c a : Nat) (ai ci li : Int) (b : Bool) (x y : Sl), env = [.fz (.int s), .fz (.int v), .fz (.int t), .fz (.int ai), .fz (.int ci), .fz (.int li), .fz (.bl b), x, y] ∧ ai = a ∧ ci = c ∧ li = (L v c : Nat) ∧
      Ans s v t c a ∧ c ≤ 65537 ∧ (b = true → Told s v t a) ∧ (b = false → c ≤ 65536 ∧ m = 65537 - c),
    ⟨65537, 0, 0, 0, 0, 0, false, _, _, rfl, rfl, rfl, rfl, ans_zero, by omega, (fun z => by cases z), fun _ => ⟨by omega, rfl⟩⟩, ?_⟩
  rintro m _ ⟨c, a, ai, ci, li, b, x, y, rfl, rfl, rfl, rfl, hA, hc, hb, hm⟩
  refine ⟨fun h => ?_, fun h => ?_⟩
  · have hb0 : b = false := by cases b <;> first | rfl | cases h
    obtain ⟨hc2, rfl⟩ := hm hb0
    have hl1 : L v (c + 1) = L v c + 1 + c / v := rfl
    refine ⟨s, c, _, _, rfl, rfl, rfl, hs, hs6, fun r hr => ⟨by omega, log_ok (by omega) (by omega), mul_l (by omega) (by omega), ⟨fun h => ?_, fun h => ?_⟩⟩⟩
    · have hlt := of_decide_eq_true h
      have hlt' : L v c < t * (P s c + 1) := by
        have : ((t * (P s c + 1) : Nat) : Int) = (t : Int) * (r + 1) := by rw [Int.natCast_mul, hr]; rfl
        omega
      have hA' := hA.step hlt'
      have hne : c ≠ 65536 := fun z => by subst z; omega
      refine ⟨mul_l (by omega) (by omega), 65537 - (c + 1), by omega, c + 1, _, _, _, _, b, _, _, rfl, ?_, rfl, ?_, hA', by omega, fun z => ?_, fun _ => ⟨by omega, rfl⟩⟩
      · rw [hl1, show ((min (L v c + 1 + c / v) (t * (P s c + 1)) : Nat) : Int) = min ((L v c + 1 + c / v : Nat) : Int) ((t * (P s c + 1) : Nat) : Int) by omega, Int.natCast_mul, hr]
        rfl
      · rw [hl1]
        rfl
      · rw [hb0] at z; cases z
    · have hlt := of_decide_eq_false h
      have hlt' : t * (P s c + 1) ≤ L v c := by
        have : ((t * (P s c + 1) : Nat) : Int) = (t : Int) * (r + 1) := by rw [Int.natCast_mul, hr]; rfl
        omega
      have h0 : 0 < c := by
        rcases Nat.eq_zero_or_pos c with z | z
        · subst z
          have : t * 1 ≤ t * (P s 0 + 1) := Nat.mul_le_mul_left t (by omega)
          have e : L v 0 = 0 := rfl
          omega
        · exact z
      have hA' := hA.keep hlt' h0
      refine ⟨s, v, t, c, _, _, _, _, rfl, rfl, rfl, rfl, rfl, hs, hv, hv2, ht2, fun b2 hb2 => ?_⟩
      refine ⟨65537 - (c + 1), by omega, c + 1, a, _, _, _, b2, _, _, rfl, rfl, rfl, ?_, hA', by omega, fun z => told_of hs hv ht hA' (hb2.mp z) hlt', fun z => ⟨?_, rfl⟩⟩
      · rw [hl1]
        rfl
      · rcases Nat.lt_or_ge c 65536 with w | w
        · omega
        · have : c = 65536 := by omega
          subst this
          rw [hb2.mpr hP] at z
          cases z
  · have hb1 : b = true := by cases b <;> first | rfl | cases h
    refine q a _ rfl (hb hb1) ?_
    have h1 := hA.le
    have h2 := L_top (v := v) c
    have h3 : c * c ≤ 65537 * 65537 := Nat.mul_le_mul hc hc
    omega
end K31

set_option linter.all false
set_option maxRecDepth 100000
namespace K31
open PySem PySem.Spec PyProof.Rows L2 DL
def S__law_whole : DSp := fun ds Q => ∃ i : Int, ds = [.int i] ∧ Q (.bl true)
def S__law_cell : DSp := fun ds Q => ∃ (ns : List Int) (i : Int), ds = [.scr ns, .int i] ∧ 0 ≤ i ∧ i < 2 ^ 40 ∧ ∀ r : Int, Q (.int r)
def S__law_digits : DSp := fun ds Q => ∃ (cell : Int) (sizes : List Int), ds = [.int cell, .lst (sizes.map .int)] ∧ sizes.length ≤ 1000 ∧ (∀ z ∈ sizes, 1 ≤ z ∧ z < 2 ^ 64) ∧
  ∀ row : List Int, row.length = sizes.length → (∀ (k : Nat) (x z : Int), row[k]? = some x → sizes[k]? = some z → 0 ≤ x ∧ x < z) → Q (.lst (row.map .int))
def S__law_width : DSp := fun ds Q => ∃ (n : Nat) (i : Int), ds = [.int i] ∧ i = n ∧ 1 ≤ n ∧ n ≤ 2 ^ 400 ∧ ∀ r : Int, r = (W n : Nat) → Q (.int r)
def S__law_giant : DSp := fun ds Q => ∃ row : List Int, ds = [.lst (row.map .int)] ∧ row.length = 31 ∧ (∀ x, row[0]? = some x → 0 ≤ x ∧ x ≤ 31) ∧ (∀ (k : Nat) (x : Int), row[k + 1]? = some x → 0 ≤ x ∧ x ≤ 9) ∧ ∀ r : Int, 0 ≤ r → r ≤ 10 ^ 30 → Q (.int r)
def S__law_fill : DSp := fun ds Q => ∃ (v n : Nat) (i j : Int), ds = [.int i, .int j] ∧ i = v ∧ j = n ∧ 1 ≤ v ∧ v ≤ 20 ∧ n < 2 ^ 399 ∧ ∀ (c : Nat) (r : Int), r = c → Fits v n c → Q (.int r)
def S__law_pressed : DSp := fun ds Q => ∃ (s c : Nat) (i j : Int), ds = [.int i, .int j] ∧ i = s ∧ j = c ∧ 1 ≤ s ∧ s ≤ 6 ∧ c < 2 ^ 390 ∧ ∀ r : Int, r = (P s c : Nat) → Q (.int r)
def S__law_words_total : DSp := fun ds Q => ∃ (v c : Nat) (i j : Int), ds = [.int i, .int j] ∧ i = v ∧ j = c ∧ 1 ≤ v ∧ v ≤ 20 ∧ c < 2 ^ 390 ∧ ∀ r : Int, r = (L v c : Nat) → Q (.int r)
def S__law_overtaken : DSp := fun ds Q => ∃ (s v t n : Nat) (i j k l : Int), ds = [.int i, .int j, .int k, .int l] ∧ i = s ∧ j = v ∧ k = t ∧ l = n ∧ 1 ≤ s ∧ s ≤ 6 ∧ 1 ≤ v ∧ v ≤ 20 ∧ 1 ≤ t ∧ t ≤ 12 ∧ n < 2 ^ 389 ∧ ∀ b : Bool, (b = true ↔ Ov s v t n) → Q (.bl b)
def S__law_least_length : DSp := fun ds Q => ∃ (row beyond : List Int) (s v t A : Nat) (told : Int), ds = [.lst (row.map .int), .int told, .lst (beyond.map .int)] ∧ row = [(s : Int) - 1, (v : Int) - 1, (t : Int) - 1] ∧ told = A ∧ 1 ≤ s ∧ s ≤ 6 ∧ 1 ≤ v ∧ v ≤ 20 ∧ 1 ≤ t ∧ t ≤ 12 ∧
  Told s v t A ∧ A ≤ 2 ^ 40 ∧ (∀ x ∈ beyond, 0 ≤ x ∧ x ≤ 10 ^ 30) ∧ Q (.bl true)
def S_law : DSp := spLawD
theorem len__law_whole : ∀ ds Q, S__law_whole ds Q → ds.length = (["value"] : List Str).length := by rintro _ _ ⟨_, rfl, _⟩; rfl
theorem len__law_cell : ∀ ds Q, S__law_cell ds Q → ds.length = (["script", "k"] : List Str).length := by rintro _ _ ⟨_, _, rfl, _⟩; rfl
theorem len__law_digits : ∀ ds Q, S__law_digits ds Q → ds.length = (["cell", "sizes"] : List Str).length := by rintro _ _ ⟨_, _, rfl, _⟩; rfl
theorem len__law_width : ∀ ds Q, S__law_width ds Q → ds.length = (["options"] : List Str).length := by rintro _ _ ⟨_, _, rfl, _⟩; rfl
theorem len__law_giant : ∀ ds Q, S__law_giant ds Q → ds.length = (["row"] : List Str).length := by rintro _ _ ⟨_, rfl, _⟩; rfl
theorem len__law_fill : ∀ ds Q, S__law_fill ds Q → ds.length = (["kinds", "length"] : List Str).length := by rintro _ _ ⟨_, _, _, _, rfl, _⟩; rfl
theorem len__law_pressed : ∀ ds Q, S__law_pressed ds Q → ds.length = (["letters", "many"] : List Str).length := by rintro _ _ ⟨_, _, _, _, rfl, _⟩; rfl
theorem len__law_words_total : ∀ ds Q, S__law_words_total ds Q → ds.length = (["kinds", "many"] : List Str).length := by rintro _ _ ⟨_, _, _, _, rfl, _⟩; rfl
theorem len__law_overtaken : ∀ ds Q, S__law_overtaken ds Q → ds.length = (["letters", "kinds", "places", "length"] : List Str).length := by rintro _ _ ⟨_, _, _, _, _, _, _, _, rfl, _⟩; rfl
theorem len__law_least_length : ∀ ds Q, S__law_least_length ds Q → ds.length = (["row", "told", "beyond"] : List Str).length := by rintro _ _ ⟨_, _, _, _, _, _, _, rfl, _⟩; rfl
theorem len_law : ∀ ds Q, S_law ds Q → ds.length = (["script"] : List Str).length := by rintro _ _ ⟨_, rfl, _⟩; rfl

theorem rd__law_whole (ds : List D) (Q : D → Prop) (h : S__law_whole ds Q) : t__law_whole { nx := fun _ => false = false ∧ Q .non, rt := Q } (startD 1 ds) := by
  obtain ⟨i, rfl, q⟩ := h
  exact ⟨rfl, fun _ => ⟨rfl, q⟩, fun z => by cases z⟩
theorem at_ok {α : Type} {l : List α} {i : Int} {k : Nat} (h : i = k) (hk : k < l.length) : atI l i = some l[k] := by
  subst h
  exact atI_nat (List.getElem?_eq_getElem hk)
theorem rd__law_cell (ds : List D) (Q : D → Prop) (h : S__law_cell ds Q) : t__law_cell { nx := fun _ => false = false ∧ Q .non, rt := Q } (startD 4 ds) := by
  obtain ⟨ns, i, rfl, h0, h1, q⟩ := h
  refine ⟨fun h => ?_, fun _ => ?_⟩
  · have hl := of_decide_eq_true h
    exact ⟨_, at_ok (k := i.toNat) (by omega) (by omega), q _⟩
  · refine ⟨fun _ env => ∃ (sd : Int) (x : Sl), env = [.fz (.scr ns), .fz (.int i), .fz (.int sd), x] ∧ 0 ≤ sd ∧ sd < 1000003, ⟨17, _, rfl, by omega, by omega⟩, ?_, ?_⟩
    · rintro k d _ hd ⟨sd, x, rfl, h2, h3⟩
      obtain ⟨z, hz⟩ : ∃ z, d = .int z := by
        rw [List.getElem?_map] at hd
        cases q2 : ns[k]? with
        | none => rw [q2] at hd; cases hd
        | some z => rw [q2] at hd; exact ⟨z, (Option.some.inj hd).symm⟩
      subst hz
      refine ⟨mul_r (by decide) (by decide), by decide, by decide, _, _, rfl, ?_, ?_⟩
      · exact Int.emod_nonneg _ (by decide)
      · exact Int.emod_lt_of_pos _ (by decide)
    · rintro _ ⟨sd, x, rfl, h2, h3⟩
      exact ⟨mul_l (by omega) (by omega), mul_r (by decide) (by decide), by decide, q _⟩
theorem map_get {l : List Int} {k : Nat} {d : D} (h : (l.map D.int)[k]? = some d) : ∃ z, l[k]? = some z ∧ d = .int z := by
  rw [List.getElem?_map] at h
  cases q : l[k]? with
  | none => rw [q] at h; cases h
  | some z => rw [q] at h; exact ⟨z, rfl, (Option.some.inj h).symm⟩
theorem digits_step {row sizes : List Int} {k : Nat} {z y : Int} (hl : row.length = k) (hz : sizes[k]? = some z) (h0 : 0 ≤ y) (h1 : y < z) (h : ∀ (j : Nat) (x z : Int), row[j]? = some x → sizes[j]? = some z → 0 ≤ x ∧ x < z) :
    ∀ (j : Nat) (x z : Int), (row ++ [y])[j]? = some x → sizes[j]? = some z → 0 ≤ x ∧ x < z := fun j x w h2 h3 => by
  by_cases hj : j < row.length
  · rw [List.getElem?_append_left hj] at h2
    exact h j x w h2 h3
  · rw [List.getElem?_append_right (by omega)] at h2
    have : j - row.length = 0 := by
      rcases Nat.eq_zero_or_pos (j - row.length) with q | q
      · exact q
      · rw [List.getElem?_eq_none (by simp; omega)] at h2; cases h2
    rw [this] at h2
    have e : j = k := by omega
    rw [e, hz] at h3
    cases h3
    cases h2
    exact ⟨h0, h1⟩
theorem rd__law_digits (ds : List D) (Q : D → Prop) (h : S__law_digits ds Q) : t__law_digits { nx := fun _ => true = false ∧ Q .non, rt := Q } (startD 8 ds) := by
  obtain ⟨cell, sizes, rfl, hn, hs, q⟩ := h
  have hsl : sizeLine = 16777216 := sizeLine_eq
  have hln : (sizes.map D.int).length = sizes.length := List.length_map _
  refine ⟨Nat.zero_le _, by decide, by decide, by decide, ⟨fun _ => ?_, fun _ => ?_⟩⟩
  · refine ⟨by decide, by decide, by decide, ?_⟩
    refine ⟨fun k env => ∃ (row : List Int) (rest : Int) (x4 x5 x6 x7 : Sl), env = [.fz (.int cell), .fz (.lst (sizes.map .int)), .ow (.lst (row.map .int)), .fz (.int rest), x4, x5, x6, x7] ∧ row.length = k ∧ (∀ (j : Nat) (x z : Int), row[j]? = some x → sizes[j]? = some z → 0 ≤ x ∧ x < z),
      ⟨[], _, _, _, _, _, rfl, rfl, fun j x z h => by simp at h⟩, ?_, ?_⟩
    · rintro k d _ hd ⟨row, rest, x4, x5, x6, x7, rfl, hl, hr⟩
      obtain ⟨z, hz, rfl⟩ := map_get hd
      have hk : k < sizes.length := (List.getElem?_eq_some_iff.mp hz).1
      obtain ⟨h1, h2⟩ := hs z (List.mem_of_getElem? hz)
      refine ⟨by omega, by rw [List.length_map]; omega, by omega, log_ok (by omega) h2, row ++ [rest % z], _, _, _, _, _, by rw [List.map_append]; rfl, by rw [List.length_append, hl]; rfl, digits_step hl hz (Int.emod_nonneg _ (by omega)) (Int.emod_lt_of_pos _ (by omega)) hr⟩
    · rintro _ ⟨row, rest, x4, x5, x6, x7, rfl, hl, hr⟩
      exact q row (by omega) hr
  · refine ⟨by decide, by omega, by omega, ?_⟩
    refine ⟨fun k env => ∃ (row : List Int) (sd : Int) (x3 x5 x6 x7 : Sl), env = [.fz (.int cell), .fz (.lst (sizes.map .int)), .ow (.lst (row.map .int)), x3, .fz (.int sd), x5, x6, x7] ∧ row.length = k ∧ 0 ≤ sd ∧ sd < 2147483647 ∧ (∀ (j : Nat) (x z : Int), row[j]? = some x → sizes[j]? = some z → 0 ≤ x ∧ x < z),
      ⟨[], _, _, _, _, _, rfl, rfl, Int.emod_nonneg _ (by decide), Int.lt_trans (Int.emod_lt_of_pos _ (by decide)) (by decide), fun j x z h => by simp at h⟩, ?_, ?_⟩
    · rintro k d _ hd ⟨row, sd, x3, x5, x6, x7, rfl, hl, h0, h1, hr⟩
      obtain ⟨hk, rfl⟩ := rngD_get hd
      have hk' : k < sizes.length := by rw [← hln]; simpa using hk
      have hz := List.getElem?_eq_getElem hk'
      obtain ⟨h3, h4⟩ := hs _ (List.mem_of_getElem? hz)
      have hat : atI (sizes.map D.int) (0 + (k : Int)) = some (.int sizes[k]) := by
        rw [atI_map, at_ok (k := k) (by omega) hk']; rfl
      refine ⟨mul_r (by decide) (by decide), mul_l (by decide) (by decide), by decide, by decide, by decide, mul_l ?_ ?_, by decide, by decide, by decide, _, hat, by omega, by rw [List.length_map]; omega, row ++ [_], _, _, _, _, _, by rw [List.map_append]; rfl, by rw [List.length_append, hl]; rfl, Int.emod_nonneg _ (by decide), Int.emod_lt_of_pos _ (by decide), digits_step hl hz (Int.emod_nonneg _ (by omega)) (Int.emod_lt_of_pos _ (by omega)) hr⟩
      · have := Int.emod_nonneg (sd * 48271 + 974711 * (0 + (k : Int)) + 12345) (show (2147483647 : Int) ≠ 0 by decide)
        omega
      · have := Int.emod_lt_of_pos (sd * 48271 + 974711 * (0 + (k : Int)) + 12345) (show (0 : Int) < 2147483647 by decide)
        omega
    · rintro _ ⟨row, sd, x3, x5, x6, x7, rfl, hl, h0, h1, hr⟩
      refine q row ?_ hr
      rw [rngD_len] at hl
      simpa using hl
theorem rd__law_width (ds : List D) (Q : D → Prop) (h : S__law_width ds Q) : t__law_width { nx := fun _ => false = false ∧ Q .non, rt := Q } (startD 4 ds) := by
  obtain ⟨n, i, rfl, rfl, h1, h2, q⟩ := h
  have fin : ∀ k : Nat, W n ≤ k → (∀ j, j < k → 2 ^ j < n) → ∀ r : Int, r = k → Q (.int r) := fun k hk hj r hr => by
    refine q r ?_
    have : ¬ W n < k := fun z => by
      have := hj (W n) z
      have := W_self h1
      omega
    omega
  refine ⟨by decide, by decide, fun k env => ∃ (w t : Int) (x : Sl), env = [.fz (.int n), .fz (.int w), .fz (.int t), x] ∧ w = k ∧ t = (2 ^ k : Nat) ∧ ∀ j, j < k → 2 ^ j < n,
    ⟨_, _, _, rfl, rfl, rfl, fun j hj => absurd hj (Nat.not_lt_zero _)⟩, ?_, ?_⟩
  · rintro k d _ hd ⟨w, t, x, rfl, rfl, rfl, hj⟩
    obtain ⟨hk, rfl⟩ := rngD_get hd
    refine ⟨fun h => ?_, fun h => ?_⟩
    · have := of_decide_eq_true h
      exact fin k (by rw [W_le h1]; omega) hj _ rfl
    · have := of_decide_eq_false h
      refine ⟨mul_r (by decide) (by decide), _, _, _, rfl, rfl, by rw [Nat.pow_succ]; rfl, fun j hj2 => ?_⟩
      by_cases e : j = k
      · subst e; omega
      · exact hj j (by omega)
  · rintro _ ⟨w, t, x, rfl, rfl, rfl, hj⟩
    rw [rngD_len] at hj ⊢
    exact fin 400 (by rw [W_le h1]; exact h2) hj _ rfl
theorem rd__law_giant (ds : List D) (Q : D → Prop) (h : S__law_giant ds Q) : t__law_giant { nx := fun _ => false = false ∧ Q .non, rt := Q } (startD 3 ds) := by
  obtain ⟨row, rfl, hl, h0, hd9, q⟩ := h
  have e0 : row[0]? = some row[0] := List.getElem?_eq_getElem (by omega)
  obtain ⟨a0, a1⟩ := h0 _ e0
  have hat : atI (row.map D.int) 0 = some (.int row[0]) := by
    rw [atI_map, at_ok (i := 0) (k := 0) rfl (by omega)]; rfl
  refine ⟨_, hat, ⟨fun h => ⟨by decide, by decide, by decide, q _ (by decide) (by decide)⟩, fun h => ⟨_, hat, by omega, by omega, ?_⟩⟩⟩
  have h31 := of_decide_eq_false h
  refine ⟨fun k env => ∃ (nb : Int) (x : Sl), env = [.fz (.lst (row.map .int)), .fz (.int nb), x] ∧ 0 ≤ nb ∧ nb < (10 ^ k : Nat), ⟨_, _, rfl, by decide, by decide⟩, ?_, ?_⟩
  · rintro k d _ hd ⟨nb, x, rfl, h2, h3⟩
    obtain ⟨hk, rfl⟩ := rngD_get hd
    have hk1 : k + 1 < row.length := by omega
    obtain ⟨b0, b1⟩ := hd9 k _ (List.getElem?_eq_getElem hk1)
    refine ⟨mul_r (by decide) (by decide), .int row[k + 1], by rw [atI_map, at_ok (k := k + 1) (by omega) hk1]; rfl, _, _, rfl, by omega, ?_⟩
    rw [Nat.pow_succ]
    omega
  · rintro _ ⟨nb, x, rfl, h2, h3⟩
    refine q nb h2 ?_
    rw [rngD_len] at h3
    have : 10 ^ row[0].toNat ≤ 10 ^ 30 := Nat.pow_le_pow_right (by decide) (by omega)
    omega
end K31

set_option linter.all false
set_option maxRecDepth 100000
set_option exponentiation.threshold 10000
namespace K31
open PySem PySem.Spec PyProof.Rows L2 DL
theorem tri_cast (v h : Nat) : (v : Int) * (h : Int) * ((h : Int) + 1) / 2 = ((v * tri h : Nat) : Int) := by
  have e : v * h * (h + 1) = 2 * (v * tri h) := by
    rw [Nat.mul_assoc, ← tri_two, Nat.mul_left_comm]
  have e2 : (v : Int) * (h : Int) * ((h : Int) + 1) = ((v * h * (h + 1) : Nat) : Int) := by
    rw [Int.natCast_mul, Int.natCast_mul]; rfl
  rw [e2, e]
  omega
theorem tri_ge (h : Nat) : h ≤ tri h := by
  cases h with
  | zero => exact Nat.le_refl _
  | succ h => rw [tri_succ]; omega
theorem wide2 {v h : Nat} (hv : v ≤ 20) (hh : h ≤ 2 ^ 400) : MulOk ((v : Int) * (h : Int)) ((h : Int) + 1) := by
  have h1 : v * h ≤ 20 * 2 ^ 400 := Nat.mul_le_mul hv hh
  refine .inr (.inr (wide_mul (a := 405) (b := 401) ?_ ?_ (by decide) (by decide) (by decide)))
  · rw [show (v : Int) * (h : Int) = ((v * h : Nat) : Int) by rw [Int.natCast_mul], Int.natAbs_natCast]
    have : 20 * 2 ^ 400 < 2 ^ 405 := by decide
    omega
  · have : ((h : Int) + 1).natAbs = h + 1 := by omega
    rw [this]
    have : 2 ^ 400 + 1 < 2 ^ 401 := by decide
    omega
theorem fill_two {v n : Nat} {Q : D → Prop} (hv : 1 ≤ v) (hv2 : v ≤ 20) (hn : n < 2 ^ 399) (q : ∀ (c : Nat) (r : Int), r = c → Fits v n c → Q (.int r)) (lo : Nat) (low high : Int) (x4 x5 : Sl) (D : DEnds) (hD : D.rt = Q)
    (e : low = lo) (h0 : lo ≤ 2 ^ 400) (h1 : v * tri lo ≤ n) (h2 : n < v * tri (lo + 1)) : r__law_fill_1 D [.fz (.int v), .fz (.int n), .fz (.int low), .fz (.int high), x4, x5] := by
  subst e
  have t1 := tri_cast v lo
  refine ⟨mul_l (by omega) (by omega), mul_l (by omega) (by omega), wide2 hv2 h0, by decide, by decide, by omega, ?_, ?_⟩
  · by_cases z : ((lo : Int) + 1).natAbs = 0
    · omega
    · rw [Nat.log2_lt z]
      have : ((lo : Int) + 1).natAbs = lo + 1 := by omega
      rw [this]
      exact Nat.lt_of_le_of_lt (show lo + 1 ≤ 2 ^ 401 by have : 2 ^ 400 + 1 ≤ 2 ^ 401 := by decide
                                                         omega) (Nat.pow_lt_pow_right (by decide) (by decide))
  · rw [hD]
    refine q (v * lo + (n - v * tri lo) / (lo + 1)) _ ?_ (Fits.of hv h1 h2)
    rw [t1, Int.natCast_add, Int.natCast_mul, Int.natCast_ediv, Int.natCast_sub h1]
    rfl
theorem fill_one {v n : Nat} {Q : D → Prop} (hv : 1 ≤ v) (hv2 : v ≤ 20) (hn : n < 2 ^ 399) (q : ∀ (c : Nat) (r : Int), r = c → Fits v n c → Q (.int r)) (k : Nat) (hi : Int) (x4 x5 : Sl) (D : DEnds) (hD : D.rt = Q)
    (e : hi = (2 ^ k : Nat)) (hk : k ≤ 400) (h2 : n < v * tri (2 ^ k)) : r__law_fill_2 D [.fz (.int v), .fz (.int n), .fz (.int 0), .fz (.int hi), x4, x5] := by
  refine ⟨by decide, by decide, fun i env => ∃ (lo h : Nat) (l hi : Int) (x4 x5 : Sl), env = [.fz (.int v), .fz (.int n), .fz (.int l), .fz (.int hi), x4, x5] ∧ l = lo ∧ hi = h ∧ lo < h ∧ h ≤ 2 ^ 400 ∧ h - lo ≤ 2 ^ (400 - i) ∧ v * tri lo ≤ n ∧ n < v * tri h,
    ⟨0, 2 ^ k, _, _, _, _, rfl, rfl, e, Nat.two_pow_pos k, Nat.pow_le_pow_right (by decide) hk, Nat.pow_le_pow_right (by decide) hk, by simp [tri], h2⟩, ?_, ?_⟩
  · rintro i d _ hd ⟨lo, h, l, hi, x4, x5, rfl, rfl, rfl, a1, a2, a3, a4, a5⟩
    obtain ⟨hi', rfl⟩ := rngD_get hd
    have hi2 : i < 400 := hi'
    refine ⟨fun z => ?_, fun z => ?_⟩
    · have z := of_decide_eq_true z
      have : h = lo + 1 := by omega
      subst this
      exact fill_two hv hv2 hn q lo _ _ _ _ _ hD rfl (by omega) a4 a5
    · have z := of_decide_eq_false z
      have em : ((lo : Int) + (h : Int)) / 2 = (((lo + h) / 2 : Nat) : Int) := by omega
      have t1 := tri_cast v ((lo + h) / 2)
      have a3' : h - lo ≤ 2 * 2 ^ (400 - (i + 1)) := by
        have e : 400 - i = (400 - (i + 1)) + 1 := by omega
        rw [e, Nat.pow_succ] at a3
        omega
      refine ⟨by decide, by decide, mul_l (by omega) (by omega), by rw [em]; exact wide2 hv2 (by omega), by decide, by decide, ⟨fun z => ?_, fun z => ?_⟩⟩
      · have z := of_decide_eq_true z
        rw [em, t1] at z
        exact ⟨(lo + h) / 2, h, _, _, _, _, rfl, em, rfl, by omega, a2, by omega, by omega, a5⟩
      · have z := of_decide_eq_false z
        rw [em, t1] at z
        exact ⟨lo, (lo + h) / 2, _, _, _, _, rfl, rfl, em, by omega, by omega, by omega, a4, by omega⟩
  · rintro _ ⟨lo, h, l, hi, x4, x5, rfl, rfl, rfl, a1, a2, a3, a4, a5⟩
    rw [rngD_len] at a3
    have : h = lo + 1 := by
      have a3 : h - lo ≤ 2 ^ (400 - 400) := a3
      rw [Nat.sub_self, Nat.pow_zero] at a3
      omega
    subst this
    exact fill_two hv hv2 hn q lo _ _ _ _ _ hD rfl (by omega) a4 a5
theorem rd__law_fill (ds : List D) (Q : D → Prop) (h : S__law_fill ds Q) : t__law_fill { nx := fun _ => false = false ∧ Q .non, rt := Q } (startD 6 ds) := by
  obtain ⟨v, n, i, j, rfl, rfl, rfl, hv, hv2, hn, q⟩ := h
  refine ⟨by decide, by decide, fun k env => ∃ (hi : Int) (x4 x5 : Sl), env = [.fz (.int v), .fz (.int n), .fz (.int 0), .fz (.int hi), x4, x5] ∧ hi = (2 ^ k : Nat), ⟨_, _, _, rfl, rfl⟩, ?_, ?_⟩
  · rintro k d _ hd ⟨hi, x4, x5, rfl, rfl⟩
    obtain ⟨hk', rfl⟩ := rngD_get hd
    have hk : k < 400 := hk'
    have t1 := tri_cast v (2 ^ k)
    refine ⟨mul_l (by omega) (by omega), wide2 hv2 (Nat.pow_le_pow_right (by decide) (by omega)), by decide, by decide, ⟨fun z => ?_, fun z => ?_⟩⟩
    · have z := of_decide_eq_true z
      rw [t1] at z
      exact fill_one hv hv2 hn q k _ _ _ _ rfl rfl (by omega) (by omega)
    · exact ⟨mul_r (by decide) (by decide), _, _, _, rfl, by rw [Nat.pow_succ]; rfl⟩
  · rintro _ ⟨hi, x4, x5, rfl, rfl⟩
    refine fill_one hv hv2 hn q 400 _ _ _ _ rfl rfl (by omega) ?_
    have a := tri_ge (2 ^ 400)
    have b : 1 * tri (2 ^ 400) ≤ v * tri (2 ^ 400) := Nat.mul_le_mul_right _ hv
    have c : 2 ^ 399 < 2 ^ 400 := by decide
    omega
theorem first_eq {s w : Nat} (hs : 2 ≤ s) (hw : s + 1 ≤ 2 ^ w) : (((2 ^ w : Nat) : Int) - s - 1) / ((s : Int) - 1) + 1 = (nar s w : Nat) := by
  unfold nar
  have h2 : 2 ≤ 2 ^ w := by omega
  rw [Int.natCast_ediv, Int.natCast_sub h2, Int.natCast_sub (by omega : 1 ≤ s)]
  have e : (((2 ^ w : Nat) : Int) - s - 1) = (((2 ^ w : Nat) : Int) - (2 : Nat)) + (-1) * ((s : Int) - (1 : Nat)) := by omega
  have hne : (s : Int) - (1 : Nat) ≠ 0 := by omega
  rw [e, show ((s : Int) - 1) = (s : Int) - (1 : Nat) from rfl, Int.add_mul_ediv_right _ _ hne]
  omega
theorem nar_small {s w : Nat} (h : 2 ^ w < s + 1) : nar s w = 0 := by
  unfold nar
  rcases Nat.lt_or_ge s 2 with z | z
  · have : 2 ^ w - 2 = 0 := by omega
    rw [this, Nat.zero_div]
  · exact Nat.div_eq_of_lt (by omega)
theorem rd__law_pressed (ds : List D) (Q : D → Prop) (h : S__law_pressed ds Q) : t__law_pressed S__law_width { nx := fun _ => false = false ∧ Q .non, rt := Q } (startD 6 ds) := by
  obtain ⟨s, c, i, j, rfl, rfl, rfl, hs, hs6, hc, q⟩ := h
  have p400 : 2 ^ 390 + 1 ≤ 2 ^ 400 := by decide
  refine ⟨c + 1, _, rfl, by omega, by omega, by omega, fun r hr => ⟨fun h => ?_, fun h => ?_⟩⟩
  · have hs1 : s = 1 := by have := of_decide_eq_true h; omega
    refine q (r + (c : Int) + 1) ?_
    subst hs1
    unfold P
    rw [Ws_one]
    omega
  have hs2 : 2 ≤ s := by
    have := of_decide_eq_false h
    omega
  have fin : ∀ (w : Nat) (tot : Int), tot = (W (c + 1) + Sm s w (c + 1) : Nat) → c + 1 ≤ nar s w → Q (.int tot) := fun w tot h1 h2 => by
    refine q tot ?_
    rw [h1, Sm_eq hs2 _ h2]
    rfl
  refine ⟨by decide, by decide, fun w env => ∃ (tot pw : Int) (x4 x5 : Sl), env = [.fz (.int s), .fz (.int c), .fz (.int tot), .fz (.int pw), x4, x5] ∧ tot = (W (c + 1) + Sm s w (c + 1) : Nat) ∧ pw = (2 ^ w : Nat), ⟨_, _, _, _, rfl, by rw [Sm_zero]; omega, rfl⟩, ?_, ?_⟩
  · rintro w d _ hd ⟨tot, pw, x4, x5, rfl, h1, rfl⟩
    obtain ⟨hw', rfl⟩ := rngD_get hd
    have key : ∀ f : Int, f = (nar s w : Nat) → 
        br (decide ((c : Int) < f)) (Q (.int tot)) (MulOk ((2 ^ w : Nat) : Int) 2 ∧ ∃ (tot' pw : Int) (x4 x5 : Sl), [Sl.fz (D.int s), .fz (.int c), .fz (.int (tot + c + 1 - f)), .fz (.int (((2 ^ w : Nat) : Int) * 2)), .fz (.int (0 + (w : Int))), .fz (.int f)] = [.fz (.int s), .fz (.int c), .fz (.int tot'), .fz (.int pw), x4, x5] ∧ tot' = (W (c + 1) + Sm s (w + 1) (c + 1) : Nat) ∧ pw = (2 ^ (w + 1) : Nat)) := by
      intro f hf
      refine ⟨fun z => ?_, fun z => ?_⟩
      · have z := of_decide_eq_true z
        exact fin w tot h1 (by omega)
      · have z := of_decide_eq_false z
        refine ⟨mul_r (by decide) (by decide), _, _, _, _, rfl, ?_, ?_⟩
        · rw [Sm_succ hs2]; omega
        · rw [Nat.pow_succ]; rfl
    refine ⟨fun z => ?_, fun z => ?_⟩
    · have z := of_decide_eq_true z
      exact ⟨by omega, log_ok (by omega) (by omega), key _ (first_eq hs2 (by omega))⟩
    · have z := of_decide_eq_false z
      exact key 0 (by rw [nar_small (by omega)]; rfl)
  · rintro _ ⟨tot, pw, x4, x5, rfl, h1, rfl⟩
    rw [rngD_len] at h1
    refine fin 400 tot h1 (nar_big hs2 ?_)
    have a : (c + 1) * (s - 1) ≤ 2 ^ 390 * 5 := Nat.mul_le_mul (by omega) (by omega)
    have b : 2 ^ 390 * 5 + 2 ≤ 2 ^ 400 := by decide
    omega
theorem L_val {v : Nat} (hv : 1 ≤ v) (c : Nat) : L v c = v * tri (c / v) + (c - v * (c / v)) * (c / v + 1) := by
  have h := Nat.div_add_mod c v
  have m := Nat.mod_lt c (show 0 < v by omega)
  have e := L_form hv (c / v) (c % v) (by omega)
  rw [h] at e
  rw [e]
  congr 2
  omega
theorem rd__law_words_total (ds : List D) (Q : D → Prop) (h : S__law_words_total ds Q) : t__law_words_total { nx := fun _ => false = false ∧ Q .non, rt := Q } (startD 3 ds) := by
  obtain ⟨v, c, i, j, rfl, rfl, rfl, hv, hv2, hc, q⟩ := h
  have ed : (c : Int) / (v : Int) = ((c / v : Nat) : Int) := (Int.natCast_ediv _ _).symm
  have hle : v * (c / v) ≤ c := by rw [Nat.mul_comm]; exact Nat.div_mul_le_self c v
  have t1 := tri_cast v (c / v)
  have hq : c / v ≤ c := Nat.div_le_self _ _
  have p1 : 2 ^ 390 ≤ 2 ^ 400 := by decide
  refine ⟨by omega, log_ok (by omega) (by omega), ?_⟩
  show MulOk (v : Int) ((c : Int) / (v : Int)) ∧ MulOk ((v : Int) * ((c : Int) / (v : Int))) (((c : Int) / (v : Int)) + 1) ∧ 0 < (2 : Int) ∧ (2 : Int).natAbs.log2 < 9000 ∧ MulOk (v : Int) ((c : Int) / (v : Int)) ∧ MulOk ((c : Int) - (v : Int) * ((c : Int) / (v : Int))) ((c : Int) / (v : Int) + 1) ∧ Q (.int ((v : Int) * ((c : Int) / (v : Int)) * ((c : Int) / (v : Int) + 1) / 2 + ((c : Int) - (v : Int) * ((c : Int) / (v : Int))) * ((c : Int) / (v : Int) + 1)))
  rw [ed]
  have er : (c : Int) - (v : Int) * ((c / v : Nat) : Int) = ((c - v * (c / v) : Nat) : Int) := by
    rw [Int.natCast_sub hle, Int.natCast_mul]
  have hr : c - v * (c / v) < v := by
    have h := Nat.div_add_mod c v
    have m := Nat.mod_lt c (show 0 < v by omega)
    omega
  refine ⟨mul_l (by omega) (by omega), wide2 hv2 (by omega), by decide, by decide, mul_l (by omega) (by omega), ?_, q _ ?_⟩
  · rw [er]
    exact mul_l (by omega) (by omega)
  · rw [t1, er, L_val hv c, Int.natCast_add, Int.natCast_mul (c - v * (c / v))]
    rfl
theorem rd__law_overtaken (ds : List D) (Q : D → Prop) (h : S__law_overtaken ds Q) : t__law_overtaken S__law_pressed S__law_fill { nx := fun _ => false = false ∧ Q .non, rt := Q } (startD 4 ds) := by
  obtain ⟨s, v, t, n, i, j, k, l, rfl, rfl, rfl, rfl, rfl, hs, hs6, hv, hv2, ht, ht2, hn, q⟩ := h
  have p1 : 2 ^ 389 < 2 ^ 399 := by decide
  have p2 : 2 ^ 389 < 2 ^ 390 := by decide
  refine ⟨v, n, _, _, rfl, rfl, rfl, hv, hv2, by omega, fun c r hr hf => ?_⟩
  have hc : c ≤ n := Nat.le_trans (L_ge v c) hf.1
  refine ⟨s, c, _, _, rfl, rfl, hr, hs, hs6, by omega, fun r2 hr2 => ⟨by omega, log_ok (by omega) (by omega), q _ ?_⟩⟩
  rw [ov_iff hf, decide_eq_true_iff, hr2, ← Int.natCast_ediv, Int.ofNat_lt]
  rw [show P s c < n / t ↔ P s c + 1 ≤ n / t from Iff.rfl, Nat.le_div_iff_mul_le (by omega), Nat.mul_comm]
theorem rd__law_least_length (ds : List D) (Q : D → Prop) (h : S__law_least_length ds Q) : t__law_least_length S__law_whole S__law_overtaken S__law_fill S__law_words_total { nx := fun _ => false = false ∧ Q .non, rt := Q } (startD 10 ds) := by
  obtain ⟨row, beyond, s, v, t, A, told, rfl, rfl, rfl, hs, hs6, hv, hv2, ht, ht2, hT, hA, hb, q⟩ := h
  have big : 10 ^ 30 + 2 ^ 40 < 2 ^ 389 := by decide
  have hpos := hT.pos
  have e1 : (1 : Int) + ((s : Int) - 1) = s := by omega
  have e2 : (1 : Int) + ((v : Int) - 1) = v := by omega
  have e3 : (1 : Int) + ((t : Int) - 1) = t := by omega
  refine ⟨_, rfl, _, rfl, _, rfl, ?_⟩
  refine ⟨_, rfl, ⟨(fun z => by cases z), fun _ => ⟨fun z => ?_, fun _ => ?_⟩⟩⟩
  · have := of_decide_eq_true z
    omega
  refine ⟨s, v, t, A, _, _, _, _, rfl, e1, e2, e3, rfl, hs, hs6, hv, hv2, ht, ht2, by omega, fun b1 hb1 => ⟨fun z => ?_, fun _ => ?_⟩⟩
  · have : b1 = true := hb1.mpr (hT.from_ A (Nat.le_refl _))
    subst this
    cases z
  refine ⟨s, v, t, A - 1, _, _, _, _, rfl, e1, e2, e3, by omega, hs, hs6, hv, hv2, ht, ht2, by omega, fun b2 hb2 => ⟨fun z => absurd (hb2.mp z) hT.not, fun _ => ?_⟩⟩
  refine ⟨v, A, _, _, rfl, e2, rfl, hv, hv2, by omega, fun c r hr hf => ?_⟩
  have hc : c ≤ A := Nat.le_trans (L_ge v c) hf.1
  refine ⟨by decide, by decide, fun k env => ∃ x7 x9 : Sl, env = [.fz (.lst ([(s : Int) - 1, (v : Int) - 1, (t : Int) - 1].map .int)), .fz (.int A), .fz (.lst (beyond.map .int)), .fz (.int (1 + ((s : Int) - 1))), .fz (.int (1 + ((v : Int) - 1))), .fz (.int (1 + ((t : Int) - 1))), .fz (.int r), x7, .no, x9],
    ⟨_, _, rfl⟩, ?_, ?_⟩
  · rintro k d _ hd ⟨x7, x9, rfl⟩
    obtain ⟨hk', rfl⟩ := rngD_get hd
    have hk : k < 300 := hk'
    refine ⟨v, c + 1 + k, _, _, rfl, e2, by omega, hv, hv2, ?_, fun r2 hr2 => ?_⟩
    · have : 2 ^ 40 + 301 < 2 ^ 390 := by decide
      omega
    have hle : A ≤ L v (c + 1 + k) := by
      have := L_le (v := v) (show c + 1 ≤ c + 1 + k by omega)
      have := hf.2
      omega
    have htop := L_top (v := v) (c + 1 + k)
    have hsq : (c + 1 + k) * (c + 1 + k) ≤ 2 ^ 41 * 2 ^ 41 := Nat.mul_le_mul (by omega) (by omega)
    have hbig : 2 ^ 41 * 2 ^ 41 + 2 ^ 41 < 2 ^ 389 := by decide
    refine ⟨s, v, t, L v (c + 1 + k), _, _, _, _, rfl, e1, e2, e3, hr2, hs, hs6, hv, hv2, ht, ht2, by omega, fun b3 hb3 => ⟨fun z => ?_, fun _ => ⟨_, _, rfl⟩⟩⟩
    have : b3 = true := hb3.mpr (hT.from_ _ hle)
    subst this
    cases z
  rintro _ ⟨x7, x9, rfl⟩
  refine ⟨fun k env => ∃ x8 : Sl, env = [.fz (.lst ([(s : Int) - 1, (v : Int) - 1, (t : Int) - 1].map .int)), .fz (.int A), .fz (.lst (beyond.map .int)), .fz (.int (1 + ((s : Int) - 1))), .fz (.int (1 + ((v : Int) - 1))), .fz (.int (1 + ((t : Int) - 1))), .fz (.int r), x7, x8, x9],
    ⟨_, rfl⟩, ?_, ?_⟩
  · rintro k d _ hd ⟨x8, rfl⟩
    obtain ⟨x, hx, rfl⟩ := map_get hd
    obtain ⟨x0, x1⟩ := hb x (List.mem_of_getElem? hx)
    have x1' : x.toNat ≤ 10 ^ 30 := by omega
    refine ⟨s, v, t, A + x.toNat, _, _, _, _, rfl, e1, e2, e3, by omega, hs, hs6, hv, hv2, ht, ht2, by omega, fun b1 hb1 => ⟨fun z => ?_, fun _ => ?_⟩⟩
    · have : b1 = true := hb1.mpr (hT.from_ _ (by omega))
      subst this
      cases z
    · refine ⟨fun z => ?_, fun z => ⟨(fun z => by cases z), fun _ => ⟨_, rfl⟩⟩⟩
      have z := of_decide_eq_true z
      refine ⟨s, v, t, A + x.toNat - 1, _, _, _, _, rfl, e1, e2, e3, by omega, hs, hs6, hv, hv2, ht, ht2, by omega, fun b2 hb2 => ⟨fun z => ?_, fun _ => ⟨_, rfl⟩⟩⟩
      have : b2 = true := hb2.mpr (hT.from_ _ (by omega))
      subst this
      cases z
  · rintro _ ⟨x8, rfl⟩
    exact q
end K31

set_option linter.all false
set_option maxRecDepth 100000
namespace K31
open PySem PySem.Spec PyProof.Rows L2 DL
theorem three {row : List Int} {a b c : Int} (hl : row.length = 3) (h : ∀ (k : Nat) (x z : Int), row[k]? = some x → [a, b, c][k]? = some z → 0 ≤ x ∧ x < z) :
    ∃ s v t : Nat, row = [(s : Int) - 1, (v : Int) - 1, (t : Int) - 1] ∧ 1 ≤ s ∧ (s : Int) ≤ a ∧ 1 ≤ v ∧ (v : Int) ≤ b ∧ 1 ≤ t ∧ (t : Int) ≤ c := by
  match row, hl with
  | [x, y, z], _ =>
    obtain ⟨h1, h2⟩ := h 0 x a rfl rfl
    obtain ⟨h3, h4⟩ := h 1 y b rfl rfl
    obtain ⟨h5, h6⟩ := h 2 z c rfl rfl
    exact ⟨(x + 1).toNat, (y + 1).toNat, (z + 1).toNat, by rw [show ((x + 1).toNat : Int) - 1 = x by omega, show ((y + 1).toNat : Int) - 1 = y by omega, show ((z + 1).toNat : Int) - 1 = z by omega], by omega, by omega, by omega, by omega, by omega, by omega⟩
theorem rd_law (ds : List D) (Q : D → Prop) (h : S_law ds Q) : t_law S__law_digits S__law_cell S__law_giant S_overtaken_from S__law_least_length { nx := fun _ => false = false ∧ Q .non, rt := Q } (startD 6 ds) := by
  obtain ⟨ns, rfl, hl, q⟩ := h
  have hsl : sizeLine = 16777216 := sizeLine_eq
  refine ⟨ns, 0, rfl, by decide, by decide, fun r0 => ⟨by show 3 ≤ sizeLine; omega, r0, [6, 20, 12], rfl, by decide, by decide, fun one o1 o2 => ?_⟩⟩
  refine ⟨ns, 1, rfl, by decide, by decide, fun r1 => ⟨by show 3 ≤ sizeLine; omega, r1, [6, 6, 5], rfl, by decide, by decide, fun two w1 w2 => ?_⟩⟩
  refine ⟨ns, 2, rfl, by decide, by decide, fun r2 => ⟨by show 2 ≤ sizeLine; omega, r2, [401, 401], rfl, by decide, by decide, fun bey b1 b2 => ?_⟩⟩
  obtain ⟨s, v, t, rfl, hs, hs6, hv, hv2, ht, ht2⟩ := three o1 o2
  obtain ⟨s', v', t', rfl, hs', hs6', hv', hv2', ht', ht2'⟩ := three w1 w2
  have bb : ∀ x ∈ bey, 0 ≤ x ∧ x ≤ 10 ^ 30 := fun x hx => by
    obtain ⟨k, hk, rfl⟩ := List.getElem_of_mem hx
    have hk2 : k < 2 := by rw [b1] at hk; exact hk
    have e : ([401, 401] : List Int)[k]? = some 401 := by
      rcases Nat.lt_or_ge k 1 with z | z
      · have : k = 0 := by omega
        subst this; rfl
      · have : k = 1 := by omega
        subst this; rfl
    obtain ⟨h1, h2⟩ := b2 k _ _ (List.getElem?_eq_getElem hk) e
    have : (401 : Int) ≤ 10 ^ 30 := by decide
    exact ⟨h1, by omega⟩
  refine ⟨by decide, by decide, fun k env => ∃ (b : List Int) (x4 x5 : Sl), env = [.fz (.scr ns), .fz (.lst ([(s : Int) - 1, (v : Int) - 1, (t : Int) - 1].map .int)), .fz (.lst ([(s' : Int) - 1, (v' : Int) - 1, (t' : Int) - 1].map .int)), .ow (.lst (b.map .int)), x4, x5] ∧ b.length = 2 + k ∧ k ≤ 2 ∧ ∀ x ∈ b, 0 ≤ x ∧ x ≤ 10 ^ 30,
    ⟨bey, _, _, rfl, b1, by omega, bb⟩, ?_, ?_⟩
  · rintro k d _ hd ⟨b, x4, x5, rfl, hb1, hb2, hb3⟩
    obtain ⟨hk', rfl⟩ := rngD_get hd
    have hk : k < 2 := hk'
    refine ⟨ns, _, rfl, by omega, by omega, fun r3 => ?_⟩
    refine ⟨by show 1 ≤ sizeLine; omega, by show 1 ≤ sizeLine; omega, by decide, by show 1 * 30 ≤ sizeLine; omega, by decide, by show 1 + 30 ≤ sizeLine; omega, r3, 32 :: List.replicate 30 10, rfl, by decide, by decide, fun row l1 l2 => ?_⟩
    refine ⟨row, rfl, l1, fun x hx => ?_, fun j x hx => ?_, fun r4 h40 h41 => ?_⟩
    · obtain ⟨a, b⟩ := l2 0 x 32 hx rfl
      omega
    · have hj : j + 1 < row.length := (List.getElem?_eq_some_iff.mp hx).1
      rw [l1] at hj
      have e : (32 :: List.replicate 30 10 : List Int)[j + 1]? = some 10 := by
        rw [List.getElem?_cons_succ, List.getElem?_replicate]
        have hj2 : j + 1 < 31 := hj
        rw [if_pos (by omega)]
      obtain ⟨a, b⟩ := l2 (j + 1) x 10 hx e
      omega
    · refine ⟨by rw [List.length_map]; omega, b ++ [r4], _, _, by rw [List.map_append]; rfl, by rw [List.length_append, hb1]; rfl, by omega, fun x hx => ?_⟩
      rcases List.mem_append.mp hx with z | z
      · exact hb3 x z
      · have := List.mem_singleton.mp z
        subst this
        exact ⟨h40, h41⟩
  · rintro _ ⟨b, x4, x5, rfl, hb1, hb2, hb3⟩
    have e1 : (1 : Int) + ((s : Int) - 1) = s := by omega
    have e2 : (1 : Int) + ((v : Int) - 1) = v := by omega
    have e3 : (1 : Int) + ((t : Int) - 1) = t := by omega
    have e1' : (1 : Int) + ((s' : Int) - 1) = s' := by omega
    have e2' : (1 : Int) + ((v' : Int) - 1) = v' := by omega
    have e3' : (1 : Int) + ((t' : Int) - 1) = t' := by omega
    refine ⟨_, rfl, _, rfl, _, rfl, s, v, t, _, _, _, rfl, e1, e2, e3, by omega, by omega, by omega, by omega, by omega, by omega, fun A rA hA hT hA2 => ?_⟩
    refine ⟨_, b, s, v, t, A, _, rfl, rfl, hA, by omega, by omega, by omega, by omega, by omega, by omega, hT, hA2, hb3, ⟨(fun z => by cases z), fun _ => ?_⟩⟩
    refine ⟨_, rfl, _, rfl, _, rfl, s', v', t', _, _, _, rfl, e1', e2', e3', by omega, by omega, by omega, by omega, by omega, by omega, fun B rB hB hTB hB2 => ?_⟩
    refine ⟨_, b, s', v', t', B, _, rfl, rfl, hB, by omega, by omega, by omega, by omega, by omega, by omega, hTB, hB2, hb3, ⟨(fun z => by cases z), fun _ => ?_⟩⟩
    refine ⟨_, rfl, _, rfl, _, rfl, rfl, rfl, s, v, t, _, _, _, rfl, e1, e2, e3, by omega, by omega, by omega, by omega, by omega, by omega, fun A2 rA2 hA' hT' hA2' => ?_⟩
    have : rA2 = rA := by rw [hA, hA', hT.uniq hT']
    subst this
    have e : (decide (rA2 = rA2)) = true := decide_eq_true rfl
    show Q (.bl (decide (rA2 = rA2)))
    rw [e]
    exact q
end K31

set_option Elab.async false
set_option linter.all false
set_option maxRecDepth 100000
set_option maxHeartbeats 4000000
namespace K31
open PySem PySem.Spec PyProof.Rows L2 DL
def topS (i : Nat) : Stmt := PySem.Challenge.pw_outpressed_k31_overtaking_number.main.body.getD i (.Pass ⟨0, 0, 0, 0⟩)
abbrev s_width : Stmt := topS 1
abbrev nm_width : List Str := ["options"]
theorem sc_width : FnScope nm_width ["options"] (defScope s_width) := ⟨rfl, rfl, rfl, by decide +kernel, rfl, by decide +kernel, by decide +kernel⟩
abbrev s_pressed_length : Stmt := topS 3
abbrev nm_pressed_length : List Str := ["size", "count", "numbers", "total", "powers", "narrow"]
theorem sc_pressed_length : FnScope nm_pressed_length ["size", "count"] (defScope s_pressed_length) := ⟨rfl, rfl, rfl, by decide +kernel, rfl, by decide +kernel, by decide +kernel⟩
abbrev s_pays_for_itself : Stmt := topS 5
abbrev nm_pays_for_itself : List Str := ["size", "variety", "standings", "count", "log"]
theorem sc_pays_for_itself : FnScope nm_pays_for_itself ["size", "variety", "standings", "count"] (defScope s_pays_for_itself) := ⟨rfl, rfl, rfl, by decide +kernel, rfl, by decide +kernel, by decide +kernel⟩
abbrev s_overtaken_from : Stmt := topS 6
abbrev nm_overtaken_from : List Str := ["size", "variety", "standings", "answer", "count", "letters", "settled", "bits", "following"]
theorem sc_overtaken_from : FnScope nm_overtaken_from ["size", "variety", "standings"] (defScope s_overtaken_from) := ⟨rfl, rfl, rfl, by decide +kernel, rfl, by decide +kernel, by decide +kernel⟩
abbrev s__law_whole : Stmt := topS 8
abbrev nm__law_whole : List Str := ["value"]
theorem sc__law_whole : FnScope nm__law_whole ["value"] (defScope s__law_whole) := ⟨rfl, rfl, rfl, by decide +kernel, rfl, by decide +kernel, by decide +kernel⟩
abbrev s__law_cell : Stmt := topS 9
abbrev nm__law_cell : List Str := ["script", "k", "seed", "cell"]
theorem sc__law_cell : FnScope nm__law_cell ["script", "k"] (defScope s__law_cell) := ⟨rfl, rfl, rfl, by decide +kernel, rfl, by decide +kernel, by decide +kernel⟩
abbrev s__law_digits : Stmt := topS 10
abbrev nm__law_digits : List Str := ["cell", "sizes", "row", "rest", "seed", "k", "letters", "twice"]
theorem sc__law_digits : FnScope nm__law_digits ["cell", "sizes"] (defScope s__law_digits) := ⟨rfl, rfl, rfl, by decide +kernel, rfl, by decide +kernel, by decide +kernel⟩
abbrev s__law_width : Stmt := topS 11
abbrev nm__law_width : List Str := ["options", "wide", "top", "k"]
theorem sc__law_width : FnScope nm__law_width ["options"] (defScope s__law_width) := ⟨rfl, rfl, rfl, by decide +kernel, rfl, by decide +kernel, by decide +kernel⟩
abbrev s__law_giant : Stmt := topS 12
abbrev nm__law_giant : List Str := ["row", "number", "k"]
theorem sc__law_giant : FnScope nm__law_giant ["row"] (defScope s__law_giant) := ⟨rfl, rfl, rfl, by decide +kernel, rfl, by decide +kernel, by decide +kernel⟩
abbrev s__law_fill : Stmt := topS 13
abbrev nm__law_fill : List Str := ["kinds", "length", "low", "high", "k", "middle"]
theorem sc__law_fill : FnScope nm__law_fill ["kinds", "length"] (defScope s__law_fill) := ⟨rfl, rfl, rfl, by decide +kernel, rfl, by decide +kernel, by decide +kernel⟩
abbrev s__law_pressed : Stmt := topS 14
abbrev nm__law_pressed : List Str := ["letters", "many", "total", "power", "wide", "first"]
theorem sc__law_pressed : FnScope nm__law_pressed ["letters", "many"] (defScope s__law_pressed) := ⟨rfl, rfl, rfl, by decide +kernel, rfl, by decide +kernel, by decide +kernel⟩
abbrev s__law_words_total : Stmt := topS 15
abbrev nm__law_words_total : List Str := ["kinds", "many", "full"]
theorem sc__law_words_total : FnScope nm__law_words_total ["kinds", "many"] (defScope s__law_words_total) := ⟨rfl, rfl, rfl, by decide +kernel, rfl, by decide +kernel, by decide +kernel⟩
abbrev s__law_overtaken : Stmt := topS 16
abbrev nm__law_overtaken : List Str := ["letters", "kinds", "places", "length"]
theorem sc__law_overtaken : FnScope nm__law_overtaken ["letters", "kinds", "places", "length"] (defScope s__law_overtaken) := ⟨rfl, rfl, rfl, by decide +kernel, rfl, by decide +kernel, by decide +kernel⟩
abbrev s__law_least_length : Stmt := topS 17
abbrev nm__law_least_length : List Str := ["row", "told", "beyond", "letters", "kinds", "places", "many", "k", "more", "length"]
theorem sc__law_least_length : FnScope nm__law_least_length ["row", "told", "beyond"] (defScope s__law_least_length) := ⟨rfl, rfl, rfl, by decide +kernel, rfl, by decide +kernel, by decide +kernel⟩
abbrev s_law : Stmt := topS 18
abbrev nm_law : List Str := ["script", "one", "two", "beyond", "k", "told"]
theorem sc_law : FnScope nm_law ["script"] (defScope s_law) := ⟨rfl, rfl, rfl, by decide +kernel, rfl, by decide +kernel, by decide +kernel⟩
section
variable {P : Program} {w : World} {K : PySem.W.Frag} {mg : Str → Option Value} {base : Heap}
theorem rel_overtaken_from_0_variety_standings_size : RelG (fun vs zs => g_overtaken_from_0_variety_standings_size vs zs) (fun ds es => g_overtaken_from_0_variety_standings_size ds es) 0 3 := by
  intro K G ds es vs ws h1 h2 r1 r2
  match ds, es, h1, h2 with
  | [], [e0, e1, e2], _, _ =>
    cases (show vs = [] from r1)
    obtain ⟨y0, _, rfl, b0, y1, _, rfl, b1, y2, _, rfl, b2, rfl⟩ := r2
    exact ⟨_, _, rfl, b2, _, _, rfl, b0, _, _, rfl, b1, rfl⟩
theorem kbn_overtaken_from_0_variety_standings_size {f : Addr} {fd : FuncData} (F : FnP K "overtaken_from" s_overtaken_from f fd) : KBn K fd ["size", "variety", "standings"] 0 ["variety", "standings", "size"] (fun us ws => g_overtaken_from_0_variety_standings_size us ws) (fun vs zs => g_overtaken_from_0_variety_standings_size vs zs) :=
  kb_of F (fun us ws => g_overtaken_from_0_variety_standings_size us ws) (fun {vs us zs ws} r1 r2 => by
    cases r1 with | nil => (cases r2 with | nil => exact .nil | cons b0 r2 => (cases r2 with | nil => exact .nil | cons b1 r2 => (cases r2 with | nil => exact .nil | cons b2 r2 => (cases r2 with | nil => exact .cons b2 (.cons b0 (.cons b1 (.nil))) | cons _ _ => exact .nil)))) | cons _ _ => exact .nil) fun _ _ _ _ _ _ us ws h1 h2 => match us, ws, h1, h2 with | [], [_, _, _], _, _ => rfl
theorem ok_width {fa : Addr} {fd : FuncData} (Fn : FnP K "width" s_width fa fd)  {S : DSp} (len : ∀ ds Q, S ds Q → ds.length = (["options"] : List Str).length) (rd : ∀ ds Q, S ds Q → t_width { nx := fun _ => false = false ∧ Q .non, rt := Q } (startD 1 ds)) :
  FnOk P w K mg base CX0 1 fa fd ["options"] (spD K false S) := by
  refine FunD.okD Fn sc_width len _ (fun cdv A outer s H E hr => ?_) rd
  exact (qss_one (qs_ret (q_bits (q_sub (qv 0) q_int))))
theorem ok_pressed_length {fa : Addr} {fd : FuncData} (Fn : FnP K "pressed_length" s_pressed_length fa fd) {S_width : DSp} {a_width : Addr} {fd_width : FuncData} (G_width : FnOk P w K mg base CX0 1 a_width fd_width ["options"] (spD K false S_width)) (m_width : mg "width" = some (.ref a_width)) (k_width : PySem.W.keepIn K (.ref a_width) = true) (b_width : Binds K fd_width ["options"] []) {S : DSp} (len : ∀ ds Q, S ds Q → ds.length = (["size", "count"] : List Str).length) (rd : ∀ ds Q, S ds Q → t_pressed_length S_width { nx := fun _ => false = false ∧ Q .non, rt := Q } (startD 6 ds)) :
  FnOk P w K mg base CX0 2 fa fd ["size", "count"] (spD K false S) := by
  refine FunD.okD Fn sc_pressed_length len _ (fun cdv A outer s H E hr => ?_) rd
  exact (qss_cons (qs_set 2 (fun _ => sc_pressed_length.nd) (q_add (qv 1) q_int))
    (qss_cons (qs_set 3 (fun _ => sc_pressed_length.nd) (q_call (fun _ => G_width) (fun _ => hr.mono (by decide)) (fun _ => m_width) k_width b_width (qa_cons (qv 2) qa_nil)))
    (qss_cons (qs_if (qt_eq (fun _ => hr) (qv 0) q_int) (qss_one (qs_ret (q_add (qv 3) (qv 2)))) qss_nil)
    (qss_cons (qs_set 4 (fun _ => sc_pressed_length.nd) q_int)
    (qss_cons (qs_set 5 (fun _ => sc_pressed_length.nd) q_int)
    (qss_cons (qs_while (fun _ => PassesOwn.never) (qt_lt (qv 5) (qv 2)) (qss_cons (qs_set 3 (fun _ => sc_pressed_length.nd) (q_sub (q_add (qv 3) (qv 2)) (qv 5)))
    (qss_cons (qs_set 4 (fun _ => sc_pressed_length.nd) (q_mul (qv 4) q_int))
    (qss_one (qs_set 5 (fun _ => sc_pressed_length.nd) (q_div (q_sub (qv 4) q_int) (q_sub (qv 0) q_int)))))))
    (qss_one (qs_ret (qv 3)))))))))
theorem ok_pays_for_itself {fa : Addr} {fd : FuncData} (Fn : FnP K "pays_for_itself" s_pays_for_itself fa fd) {S_width : DSp} {a_width : Addr} {fd_width : FuncData} (G_width : FnOk P w K mg base CX0 1 a_width fd_width ["options"] (spD K false S_width)) (m_width : mg "width" = some (.ref a_width)) (k_width : PySem.W.keepIn K (.ref a_width) = true) (b_width : Binds K fd_width ["options"] []) {S : DSp} (len : ∀ ds Q, S ds Q → ds.length = (["size", "variety", "standings", "count"] : List Str).length) (rd : ∀ ds Q, S ds Q → t_pays_for_itself S_width { nx := fun _ => false = false ∧ Q .non, rt := Q } (startD 5 ds)) :
  FnOk P w K mg base CX0 2 fa fd ["size", "variety", "standings", "count"] (spD K false S) := by
  refine FunD.okD Fn sc_pays_for_itself len _ (fun cdv A outer s H E hr => ?_) rd
  exact (qss_cons (qs_set 4 (fun _ => sc_pays_for_itself.nd) (q_sub (q_bits (q_add (qv 3) q_int)) q_int))
    (qss_one (qs_ret (q_ge (q_add q_int (q_div (qv 3) (qv 1))) (q_mul (qv 2) (q_add (q_add (q_call (fun _ => G_width) (fun _ => hr.mono (by decide)) (fun _ => m_width) k_width b_width (qa_cons (qv 0) qa_nil)) q_int) (qv 4)))))))
theorem ok_overtaken_from {fa : Addr} {fd : FuncData} (Fn : FnP K "overtaken_from" s_overtaken_from fa fd) {S_pressed_length : DSp} {a_pressed_length : Addr} {fd_pressed_length : FuncData} (G_pressed_length : FnOk P w K mg base CX0 2 a_pressed_length fd_pressed_length ["size", "count"] (spD K false S_pressed_length)) (m_pressed_length : mg "pressed_length" = some (.ref a_pressed_length)) (k_pressed_length : PySem.W.keepIn K (.ref a_pressed_length) = true) (b_pressed_length : Binds K fd_pressed_length ["size", "count"] []) {S_pays_for_itself : DSp} {a_pays_for_itself : Addr} {fd_pays_for_itself : FuncData} (G_pays_for_itself : FnOk P w K mg base CX0 2 a_pays_for_itself fd_pays_for_itself ["size", "variety", "standings", "count"] (spD K false S_pays_for_itself)) (m_pays_for_itself : mg "pays_for_itself" = some (.ref a_pays_for_itself)) (k_pays_for_itself : PySem.W.keepIn K (.ref a_pays_for_itself) = true) (b_pays_for_itself : Binds K fd_pays_for_itself ["size", "variety", "standings", "count"] []) (m_min : mg "min" = none) {S : DSp} (len : ∀ ds Q, S ds Q → ds.length = (["size", "variety", "standings"] : List Str).length) (rd : ∀ ds Q, S ds Q → t_overtaken_from S_pressed_length S_pays_for_itself { nx := fun _ => false = false ∧ Q .non, rt := Q } (startD 9 ds)) :
  FnOk P w K mg base CX0 3 fa fd ["size", "variety", "standings"] (spD K false S) := by
  refine FunD.okD Fn sc_overtaken_from len _ (fun cdv A outer s H E hr => ?_) rd
  exact (qss_cons (qs_set 3 (fun _ => sc_overtaken_from.nd) q_int)
    (qss_cons (qs_set 4 (fun _ => sc_overtaken_from.nd) q_int)
    (qss_cons (qs_set 5 (fun _ => sc_overtaken_from.nd) q_int)
    (qss_cons (qs_set 6 (fun _ => sc_overtaken_from.nd) q_bl)
    (qss_cons (qs_while (fun _ => PassesOwn.never) (qt_not (qt_val (qv 6))) (qss_cons (qs_set 7 (fun _ => sc_overtaken_from.nd) (q_call (fun _ => G_pressed_length) (fun _ => hr.mono (by decide)) (fun _ => m_pressed_length) k_pressed_length b_pressed_length (qa_cons (qv 0) (qa_cons (qv 4) qa_nil))))
    (qss_cons (qs_set 8 (fun _ => sc_overtaken_from.nd) (q_add (q_add (qv 5) q_int) (q_div (qv 4) (qv 1))))
    (qss_cons (qs_if (qt_lt (qv 5) (q_mul (qv 2) (q_add (qv 7) q_int))) (qss_one (qs_set 3 (fun _ => sc_overtaken_from.nd) (q_min2 (fun _ => rfl) (fun _ => m_min) (qv 8) (q_mul (qv 2) (q_add (qv 7) q_int))))) (qss_one (qs_set 6 (fun _ => sc_overtaken_from.nd) (q_call (fun _ => G_pays_for_itself) (fun _ => hr.mono (by decide)) (fun _ => m_pays_for_itself) k_pays_for_itself b_pays_for_itself (qa_cons (qv 0) (qa_cons (qv 1) (qa_cons (qv 2) (qa_cons (qv 4) qa_nil))))))))
    (qss_cons (qs_set 4 (fun _ => sc_overtaken_from.nd) (q_add (qv 4) q_int))
    (qss_one (qs_set 5 (fun _ => sc_overtaken_from.nd) (qv 8))))))))
    (qss_one (qs_ret (qv 3))))))))
theorem ok__law_whole {fa : Addr} {fd : FuncData} (Fn : FnP K "_law_whole" s__law_whole fa fd) (m_isinstance : mg "isinstance" = none) (m_int : mg "int" = none) (m_bool : mg "bool" = none) {S : DSp} (len : ∀ ds Q, S ds Q → ds.length = (["value"] : List Str).length) (rd : ∀ ds Q, S ds Q → t__law_whole { nx := fun _ => false = false ∧ Q .non, rt := Q } (startD 1 ds)) :
  FnOk P w K mg base CX0 1 fa fd ["value"] (spD K false S) := by
  refine FunD.okD Fn sc__law_whole len _ (fun cdv A outer s H E hr => ?_) rd
  exact (qss_one (qs_ret (q_and (q_isi .int (fun _ => m_isinstance) (fun _ => m_int) (by decide +kernel) (qv 0)) (q_one (q_not (q_isi .bool (fun _ => m_isinstance) (fun _ => m_bool) (by decide +kernel) (qv 0)))))))
theorem ok__law_cell {fa : Addr} {fd : FuncData} (Fn : FnP K "_law_cell" s__law_cell fa fd) (m_len : mg "len" = none) (m_int : mg "int" = none) {S : DSp} (len : ∀ ds Q, S ds Q → ds.length = (["script", "k"] : List Str).length) (rd : ∀ ds Q, S ds Q → t__law_cell { nx := fun _ => false = false ∧ Q .non, rt := Q } (startD 4 ds)) :
  FnOk P w K mg base CX0 1 fa fd ["script", "k"] (spD K false S) := by
  refine FunD.okD Fn sc__law_cell len _ (fun cdv A outer s H E hr => ?_) rd
  exact (qss_cons (qs_if (qt_lt (qv 1) (q_len (fun _ => m_len) (QE.qp (qv 0)))) (qss_one (qs_ret (q_ix (qv 0) (qv 1)))) qss_nil)
    (qss_cons (qs_set 2 (fun _ => sc__law_cell.nd) q_int)
    (qss_cons (qs_for (fun _ => PassesOwn.never) (fun _ => rfl) (qi_seq (qv 0)) (qg_name 3 (fun _ => sc__law_cell.nd)) (qss_one (qs_set 2 (fun _ => sc__law_cell.nd) (q_mod (q_intc (fun _ => m_int) (QE.qp (q_add (q_mul (qv 2) q_int) (q_mod (q_intc (fun _ => m_int) (QE.qp (qv 3))) q_int)))) q_int))))
    (qss_one (qs_ret (q_mod (q_intc (fun _ => m_int) (QE.qp (q_mul (q_mul (q_add (qv 2) q_int) (q_add (qv 1) q_int)) q_int))) q_int))))))
theorem ok__law_digits {fa : Addr} {fd : FuncData} (Fn : FnP K "_law_digits" s__law_digits fa fd) (m_int : mg "int" = none) (m_len : mg "len" = none) (m_range : mg "range" = none) {S : DSp} (len : ∀ ds Q, S ds Q → ds.length = (["cell", "sizes"] : List Str).length) (rd : ∀ ds Q, S ds Q → t__law_digits { nx := fun _ => true = false ∧ Q .non, rt := Q } (startD 8 ds)) :
  FnOk P w K mg base CX0 1 fa fd ["cell", "sizes"] (spD K true S) := by
  refine FunD.okD Fn sc__law_digits len _ (fun cdv A outer s H E hr => ?_) rd
  exact (qss_cons (qs_setO 2 (fun _ => sc__law_digits.nd) (qo_lst qa_nil))
    (qss_cons (qs_set 3 (fun _ => sc__law_digits.nd) (q_intc (fun _ => m_int) (QE.qp (qv 0))))
    (qss_cons (qs_if (qt_ge (qv 3) (q_pow q_int q_int)) (qss_cons (qs_set 3 (fun _ => sc__law_digits.nd) (q_sub (qv 3) (q_pow q_int q_int)))
    (qss_cons (qs_for (fun _ => PassesOwn.never) (fun _ => rfl) (qi_seq (qv 1)) (qg_name 6 (fun _ => sc__law_digits.nd)) (qss_cons (qs_expr (q_append 2 (q_mod (q_intc (fun _ => m_int) (QE.qp (qv 3))) (qv 6))))
    (qss_one (qs_set 3 (fun _ => sc__law_digits.nd) (q_div (q_intc (fun _ => m_int) (QE.qp (qv 3))) (qv 6))))))
    (qss_one (qs_retO (qvo 2))))) qss_nil)
    (qss_cons (qs_set 4 (fun _ => sc__law_digits.nd) (q_mod (q_intc (fun _ => m_int) (QE.qp (qv 3))) q_int))
    (qss_cons (qs_for (fun _ => PassesOwn.never) (fun _ => rfl) (qi_range1 (fun _ => m_range) (q_len (fun _ => m_len) (QE.qp (qv 1)))) (qg_name 5 (fun _ => sc__law_digits.nd)) (qss_cons (qs_set 4 (fun _ => sc__law_digits.nd) (q_mod (q_intc (fun _ => m_int) (QE.qp (q_add (q_add (q_mul (qv 4) q_int) (q_mul q_int (qv 5))) q_int))) q_int))
    (qss_cons (qs_set 7 (fun _ => sc__law_digits.nd) (q_mod (q_intc (fun _ => m_int) (QE.qp (q_mul (qv 4) (q_add (q_div (qv 4) q_int) q_int)))) q_int))
    (qss_one (qs_expr (q_append 2 (q_mod (q_div (qv 7) q_int) (q_ix (qv 1) (qv 5)))))))))
    (qss_one (qs_retO (qvo 2))))))))
theorem ok__law_width {fa : Addr} {fd : FuncData} (Fn : FnP K "_law_width" s__law_width fa fd) (m_range : mg "range" = none) {S : DSp} (len : ∀ ds Q, S ds Q → ds.length = (["options"] : List Str).length) (rd : ∀ ds Q, S ds Q → t__law_width { nx := fun _ => false = false ∧ Q .non, rt := Q } (startD 4 ds)) :
  FnOk P w K mg base CX0 1 fa fd ["options"] (spD K false S) := by
  refine FunD.okD Fn sc__law_width len _ (fun cdv A outer s H E hr => ?_) rd
  exact (qss_cons (qs_set 1 (fun _ => sc__law_width.nd) q_int)
    (qss_cons (qs_set 2 (fun _ => sc__law_width.nd) q_int)
    (qss_cons (qs_for (fun _ => PassesOwn.never) (fun _ => rfl) (qi_range1 (fun _ => m_range) q_int) (qg_name 3 (fun _ => sc__law_width.nd)) (qss_cons (qs_if (qt_ge (qv 2) (qv 0)) (qss_one qs_break) qss_nil)
    (qss_cons (qs_set 2 (fun _ => sc__law_width.nd) (q_mul (qv 2) q_int))
    (qss_one (qs_set 1 (fun _ => sc__law_width.nd) (q_add (qv 1) q_int))))))
    (qss_one (qs_ret (qv 1))))))
theorem ok__law_giant {fa : Addr} {fd : FuncData} (Fn : FnP K "_law_giant" s__law_giant fa fd) (m_range : mg "range" = none) {S : DSp} (len : ∀ ds Q, S ds Q → ds.length = (["row"] : List Str).length) (rd : ∀ ds Q, S ds Q → t__law_giant { nx := fun _ => false = false ∧ Q .non, rt := Q } (startD 3 ds)) :
  FnOk P w K mg base CX0 1 fa fd ["row"] (spD K false S) := by
  refine FunD.okD Fn sc__law_giant len _ (fun cdv A outer s H E hr => ?_) rd
  exact (qss_cons (qs_if (qt_eq (fun _ => hr) (q_ix (qv 0) q_int) q_int) (qss_one (qs_ret (q_pow q_int q_int))) qss_nil)
    (qss_cons (qs_set 1 (fun _ => sc__law_giant.nd) q_int)
    (qss_cons (qs_for (fun _ => PassesOwn.never) (fun _ => rfl) (qi_range1 (fun _ => m_range) (q_ix (qv 0) q_int)) (qg_name 2 (fun _ => sc__law_giant.nd)) (qss_one (qs_set 1 (fun _ => sc__law_giant.nd) (q_add (q_mul (qv 1) q_int) (q_ix (qv 0) (q_add q_int (qv 2)))))))
    (qss_one (qs_ret (qv 1))))))
theorem ok__law_fill {fa : Addr} {fd : FuncData} (Fn : FnP K "_law_fill" s__law_fill fa fd) (m_range : mg "range" = none) {S : DSp} (len : ∀ ds Q, S ds Q → ds.length = (["kinds", "length"] : List Str).length) (rd : ∀ ds Q, S ds Q → t__law_fill { nx := fun _ => false = false ∧ Q .non, rt := Q } (startD 6 ds)) :
  FnOk P w K mg base CX0 1 fa fd ["kinds", "length"] (spD K false S) := by
  refine FunD.okD Fn sc__law_fill len _ (fun cdv A outer s H E hr => ?_) rd
  exact (qss_cons (qs_set 2 (fun _ => sc__law_fill.nd) q_int)
    (qss_cons (qs_set 3 (fun _ => sc__law_fill.nd) q_int)
    (qss_cons (qs_for (fun _ => PassesOwn.never) (fun _ => rfl) (qi_range1 (fun _ => m_range) q_int) (qg_name 4 (fun _ => sc__law_fill.nd)) (qss_cons (qs_if (qt_gt (q_div (q_mul (q_mul (qv 0) (qv 3)) (q_add (qv 3) q_int)) q_int) (qv 1)) (qss_one qs_break) qss_nil)
    (qss_one (qs_set 3 (fun _ => sc__law_fill.nd) (q_mul (qv 3) q_int)))))
    (qss_cons (qs_for (fun _ => PassesOwn.never) (fun _ => rfl) (qi_range1 (fun _ => m_range) q_int) (qg_name 4 (fun _ => sc__law_fill.nd)) (qss_cons (qs_if (qt_le (q_sub (qv 3) (qv 2)) q_int) (qss_one qs_break) qss_nil)
    (qss_cons (qs_set 5 (fun _ => sc__law_fill.nd) (q_div (q_add (qv 2) (qv 3)) q_int))
    (qss_one (qs_if (qt_le (q_div (q_mul (q_mul (qv 0) (qv 5)) (q_add (qv 5) q_int)) q_int) (qv 1)) (qss_one (qs_set 2 (fun _ => sc__law_fill.nd) (qv 5))) (qss_one (qs_set 3 (fun _ => sc__law_fill.nd) (qv 5))))))))
    (qss_one (qs_ret (q_add (q_mul (qv 0) (qv 2)) (q_div (q_sub (qv 1) (q_div (q_mul (q_mul (qv 0) (qv 2)) (q_add (qv 2) q_int)) q_int)) (q_add (qv 2) q_int)))))))))
theorem ok__law_pressed {fa : Addr} {fd : FuncData} (Fn : FnP K "_law_pressed" s__law_pressed fa fd) {S__law_width : DSp} {a__law_width : Addr} {fd__law_width : FuncData} (G__law_width : FnOk P w K mg base CX0 1 a__law_width fd__law_width ["options"] (spD K false S__law_width)) (m__law_width : mg "_law_width" = some (.ref a__law_width)) (k__law_width : PySem.W.keepIn K (.ref a__law_width) = true) (b__law_width : Binds K fd__law_width ["options"] []) (m_range : mg "range" = none) {S : DSp} (len : ∀ ds Q, S ds Q → ds.length = (["letters", "many"] : List Str).length) (rd : ∀ ds Q, S ds Q → t__law_pressed S__law_width { nx := fun _ => false = false ∧ Q .non, rt := Q } (startD 6 ds)) :
  FnOk P w K mg base CX0 2 fa fd ["letters", "many"] (spD K false S) := by
  refine FunD.okD Fn sc__law_pressed len _ (fun cdv A outer s H E hr => ?_) rd
  exact (qss_cons (qs_set 2 (fun _ => sc__law_pressed.nd) (q_call (fun _ => G__law_width) (fun _ => hr.mono (by decide)) (fun _ => m__law_width) k__law_width b__law_width (qa_cons (q_add (qv 1) q_int) qa_nil)))
    (qss_cons (qs_if (qt_eq (fun _ => hr) (qv 0) q_int) (qss_one (qs_ret (q_add (q_add (qv 2) (qv 1)) q_int))) qss_nil)
    (qss_cons (qs_set 3 (fun _ => sc__law_pressed.nd) q_int)
    (qss_cons (qs_for (fun _ => PassesOwn.never) (fun _ => rfl) (qi_range1 (fun _ => m_range) q_int) (qg_name 4 (fun _ => sc__law_pressed.nd)) (qss_cons (qs_set 5 (fun _ => sc__law_pressed.nd) q_int)
    (qss_cons (qs_if (qt_ge (qv 3) (q_add (qv 0) q_int)) (qss_one (qs_set 5 (fun _ => sc__law_pressed.nd) (q_add (q_div (q_sub (q_sub (qv 3) (qv 0)) q_int) (q_sub (qv 0) q_int)) q_int))) qss_nil)
    (qss_cons (qs_if (qt_gt (qv 5) (qv 1)) (qss_one qs_break) qss_nil)
    (qss_cons (qs_set 2 (fun _ => sc__law_pressed.nd) (q_sub (q_add (q_add (qv 2) (qv 1)) q_int) (qv 5)))
    (qss_one (qs_set 3 (fun _ => sc__law_pressed.nd) (q_mul (qv 3) q_int))))))))
    (qss_one (qs_ret (qv 2)))))))
theorem ok__law_words_total {fa : Addr} {fd : FuncData} (Fn : FnP K "_law_words_total" s__law_words_total fa fd)  {S : DSp} (len : ∀ ds Q, S ds Q → ds.length = (["kinds", "many"] : List Str).length) (rd : ∀ ds Q, S ds Q → t__law_words_total { nx := fun _ => false = false ∧ Q .non, rt := Q } (startD 3 ds)) :
  FnOk P w K mg base CX0 1 fa fd ["kinds", "many"] (spD K false S) := by
  refine FunD.okD Fn sc__law_words_total len _ (fun cdv A outer s H E hr => ?_) rd
  exact (qss_cons (qs_set 2 (fun _ => sc__law_words_total.nd) (q_div (qv 1) (qv 0)))
    (qss_one (qs_ret (q_add (q_div (q_mul (q_mul (qv 0) (qv 2)) (q_add (qv 2) q_int)) q_int) (q_mul (q_sub (qv 1) (q_mul (qv 0) (qv 2))) (q_add (qv 2) q_int))))))
theorem ok__law_overtaken {fa : Addr} {fd : FuncData} (Fn : FnP K "_law_overtaken" s__law_overtaken fa fd) {S__law_pressed : DSp} {a__law_pressed : Addr} {fd__law_pressed : FuncData} (G__law_pressed : FnOk P w K mg base CX0 2 a__law_pressed fd__law_pressed ["letters", "many"] (spD K false S__law_pressed)) (m__law_pressed : mg "_law_pressed" = some (.ref a__law_pressed)) (k__law_pressed : PySem.W.keepIn K (.ref a__law_pressed) = true) (b__law_pressed : Binds K fd__law_pressed ["letters", "many"] []) {S__law_fill : DSp} {a__law_fill : Addr} {fd__law_fill : FuncData} (G__law_fill : FnOk P w K mg base CX0 1 a__law_fill fd__law_fill ["kinds", "length"] (spD K false S__law_fill)) (m__law_fill : mg "_law_fill" = some (.ref a__law_fill)) (k__law_fill : PySem.W.keepIn K (.ref a__law_fill) = true) (b__law_fill : Binds K fd__law_fill ["kinds", "length"] []) {S : DSp} (len : ∀ ds Q, S ds Q → ds.length = (["letters", "kinds", "places", "length"] : List Str).length) (rd : ∀ ds Q, S ds Q → t__law_overtaken S__law_pressed S__law_fill { nx := fun _ => false = false ∧ Q .non, rt := Q } (startD 4 ds)) :
  FnOk P w K mg base CX0 3 fa fd ["letters", "kinds", "places", "length"] (spD K false S) := by
  refine FunD.okD Fn sc__law_overtaken len _ (fun cdv A outer s H E hr => ?_) rd
  exact (qss_one (qs_ret (q_lt (q_call (fun _ => G__law_pressed) (fun _ => hr.mono (by decide)) (fun _ => m__law_pressed) k__law_pressed b__law_pressed (qa_cons (qv 0) (qa_cons (q_call (fun _ => G__law_fill) (fun _ => hr.mono (by decide)) (fun _ => m__law_fill) k__law_fill b__law_fill (qa_cons (qv 1) (qa_cons (qv 3) qa_nil))) qa_nil))) (q_div (qv 3) (qv 2)))))
theorem ok__law_least_length {fa : Addr} {fd : FuncData} (Fn : FnP K "_law_least_length" s__law_least_length fa fd) {S__law_whole : DSp} {a__law_whole : Addr} {fd__law_whole : FuncData} (G__law_whole : FnOk P w K mg base CX0 1 a__law_whole fd__law_whole ["value"] (spD K false S__law_whole)) (m__law_whole : mg "_law_whole" = some (.ref a__law_whole)) (k__law_whole : PySem.W.keepIn K (.ref a__law_whole) = true) (b__law_whole : Binds K fd__law_whole ["value"] []) {S__law_overtaken : DSp} {a__law_overtaken : Addr} {fd__law_overtaken : FuncData} (G__law_overtaken : FnOk P w K mg base CX0 3 a__law_overtaken fd__law_overtaken ["letters", "kinds", "places", "length"] (spD K false S__law_overtaken)) (m__law_overtaken : mg "_law_overtaken" = some (.ref a__law_overtaken)) (k__law_overtaken : PySem.W.keepIn K (.ref a__law_overtaken) = true) (b__law_overtaken : Binds K fd__law_overtaken ["letters", "kinds", "places", "length"] []) {S__law_fill : DSp} {a__law_fill : Addr} {fd__law_fill : FuncData} (G__law_fill : FnOk P w K mg base CX0 1 a__law_fill fd__law_fill ["kinds", "length"] (spD K false S__law_fill)) (m__law_fill : mg "_law_fill" = some (.ref a__law_fill)) (k__law_fill : PySem.W.keepIn K (.ref a__law_fill) = true) (b__law_fill : Binds K fd__law_fill ["kinds", "length"] []) {S__law_words_total : DSp} {a__law_words_total : Addr} {fd__law_words_total : FuncData} (G__law_words_total : FnOk P w K mg base CX0 1 a__law_words_total fd__law_words_total ["kinds", "many"] (spD K false S__law_words_total)) (m__law_words_total : mg "_law_words_total" = some (.ref a__law_words_total)) (k__law_words_total : PySem.W.keepIn K (.ref a__law_words_total) = true) (b__law_words_total : Binds K fd__law_words_total ["kinds", "many"] []) (m_range : mg "range" = none) {S : DSp} (len : ∀ ds Q, S ds Q → ds.length = (["row", "told", "beyond"] : List Str).length) (rd : ∀ ds Q, S ds Q → t__law_least_length S__law_whole S__law_overtaken S__law_fill S__law_words_total { nx := fun _ => false = false ∧ Q .non, rt := Q } (startD 10 ds)) :
  FnOk P w K mg base CX0 4 fa fd ["row", "told", "beyond"] (spD K false S) := by
  refine FunD.okD Fn sc__law_least_length len _ (fun cdv A outer s H E hr => ?_) rd
  exact (qss_cons (qs_set 3 (fun _ => sc__law_least_length.nd) (q_add q_int (q_ix (qv 0) q_int)))
    (qss_cons (qs_set 4 (fun _ => sc__law_least_length.nd) (q_add q_int (q_ix (qv 0) q_int)))
    (qss_cons (qs_set 5 (fun _ => sc__law_least_length.nd) (q_add q_int (q_ix (qv 0) q_int)))
    (qss_cons (qs_if (QW.qt (qw_or (qt_not (qt_val (q_call (fun _ => G__law_whole) (fun _ => hr.mono (by decide)) (fun _ => m__law_whole) k__law_whole b__law_whole (qa_cons (qv 1) qa_nil)))) (qw_or1 (qt_lt (qv 1) q_int)))) (qss_one (qs_ret q_bl)) qss_nil)
    (qss_cons (qs_if (QW.qt (qw_or (qt_not (qt_val (q_call (fun _ => G__law_overtaken) (fun _ => hr.mono (by decide)) (fun _ => m__law_overtaken) k__law_overtaken b__law_overtaken (qa_cons (qv 3) (qa_cons (qv 4) (qa_cons (qv 5) (qa_cons (qv 1) qa_nil))))))) (qw_or1 (qt_val (q_call (fun _ => G__law_overtaken) (fun _ => hr.mono (by decide)) (fun _ => m__law_overtaken) k__law_overtaken b__law_overtaken (qa_cons (qv 3) (qa_cons (qv 4) (qa_cons (qv 5) (qa_cons (q_sub (qv 1) q_int) qa_nil))))))))) (qss_one (qs_ret q_bl)) qss_nil)
    (qss_cons (qs_set 6 (fun _ => sc__law_least_length.nd) (q_call (fun _ => G__law_fill) (fun _ => hr.mono (by decide)) (fun _ => m__law_fill) k__law_fill b__law_fill (qa_cons (qv 4) (qa_cons (qv 1) qa_nil))))
    (qss_cons (qs_for (fun _ => PassesOwn.never) (fun _ => rfl) (qi_range1 (fun _ => m_range) q_int) (qg_name 7 (fun _ => sc__law_least_length.nd)) (qss_cons (qs_set 9 (fun _ => sc__law_least_length.nd) (q_call (fun _ => G__law_words_total) (fun _ => hr.mono (by decide)) (fun _ => m__law_words_total) k__law_words_total b__law_words_total (qa_cons (qv 4) (qa_cons (q_add (q_add (qv 6) q_int) (qv 7)) qa_nil))))
    (qss_one (qs_if (qt_not (qt_val (q_call (fun _ => G__law_overtaken) (fun _ => hr.mono (by decide)) (fun _ => m__law_overtaken) k__law_overtaken b__law_overtaken (qa_cons (qv 3) (qa_cons (qv 4) (qa_cons (qv 5) (qa_cons (qv 9) qa_nil))))))) (qss_one (qs_ret q_bl)) qss_nil))))
    (qss_cons (qs_for (fun _ => PassesOwn.never) (fun _ => rfl) (qi_seq (qv 2)) (qg_name 8 (fun _ => sc__law_least_length.nd)) (qss_cons (qs_if (qt_not (qt_val (q_call (fun _ => G__law_overtaken) (fun _ => hr.mono (by decide)) (fun _ => m__law_overtaken) k__law_overtaken b__law_overtaken (qa_cons (qv 3) (qa_cons (qv 4) (qa_cons (qv 5) (qa_cons (q_add (qv 1) (qv 8)) qa_nil))))))) (qss_one (qs_ret q_bl)) qss_nil)
    (qss_one (qs_if (QW.qt (qw_and (qt_gt (qv 8) q_int) (qw_and1 (qt_not (qt_val (q_call (fun _ => G__law_overtaken) (fun _ => hr.mono (by decide)) (fun _ => m__law_overtaken) k__law_overtaken b__law_overtaken (qa_cons (qv 3) (qa_cons (qv 4) (qa_cons (qv 5) (qa_cons (q_sub (q_add (qv 1) (qv 8)) q_int) qa_nil)))))))))) (qss_one (qs_ret q_bl)) qss_nil))))
    (qss_one (qs_ret q_bl))))))))))
theorem ok_law {fa : Addr} {fd : FuncData} (Fn : FnP K "law" s_law fa fd) {S__law_digits : DSp} {a__law_digits : Addr} {fd__law_digits : FuncData} (G__law_digits : FnOk P w K mg base CX0 1 a__law_digits fd__law_digits ["cell", "sizes"] (spD K true S__law_digits)) (m__law_digits : mg "_law_digits" = some (.ref a__law_digits)) (k__law_digits : PySem.W.keepIn K (.ref a__law_digits) = true) (b__law_digits : Binds K fd__law_digits ["cell", "sizes"] []) {S__law_cell : DSp} {a__law_cell : Addr} {fd__law_cell : FuncData} (G__law_cell : FnOk P w K mg base CX0 1 a__law_cell fd__law_cell ["script", "k"] (spD K false S__law_cell)) (m__law_cell : mg "_law_cell" = some (.ref a__law_cell)) (k__law_cell : PySem.W.keepIn K (.ref a__law_cell) = true) (b__law_cell : Binds K fd__law_cell ["script", "k"] []) {S__law_giant : DSp} {a__law_giant : Addr} {fd__law_giant : FuncData} (G__law_giant : FnOk P w K mg base CX0 1 a__law_giant fd__law_giant ["row"] (spD K false S__law_giant)) (m__law_giant : mg "_law_giant" = some (.ref a__law_giant)) (k__law_giant : PySem.W.keepIn K (.ref a__law_giant) = true) (b__law_giant : Binds K fd__law_giant ["row"] []) {S_overtaken_from : DSp} {a_overtaken_from : Addr} {fd_overtaken_from : FuncData} (G_overtaken_from : FnOk P w K mg base CX0 3 a_overtaken_from fd_overtaken_from ["size", "variety", "standings"] (spD K false S_overtaken_from)) (m_overtaken_from : mg "overtaken_from" = some (.ref a_overtaken_from)) (k_overtaken_from : PySem.W.keepIn K (.ref a_overtaken_from) = true) (b_overtaken_from : Binds K fd_overtaken_from ["size", "variety", "standings"] []) {S__law_least_length : DSp} {a__law_least_length : Addr} {fd__law_least_length : FuncData} (G__law_least_length : FnOk P w K mg base CX0 4 a__law_least_length fd__law_least_length ["row", "told", "beyond"] (spD K false S__law_least_length)) (m__law_least_length : mg "_law_least_length" = some (.ref a__law_least_length)) (k__law_least_length : PySem.W.keepIn K (.ref a__law_least_length) = true) (b__law_least_length : Binds K fd__law_least_length ["row", "told", "beyond"] []) (kb_overtaken_from_0_variety_standings_size : KBn K fd_overtaken_from ["size", "variety", "standings"] 0 ["variety", "standings", "size"] (fun us ws => g_overtaken_from_0_variety_standings_size us ws) (fun vs zs => g_overtaken_from_0_variety_standings_size vs zs)) (m_range : mg "range" = none) {S : DSp} (len : ∀ ds Q, S ds Q → ds.length = (["script"] : List Str).length) (rd : ∀ ds Q, S ds Q → t_law S__law_digits S__law_cell S__law_giant S_overtaken_from S__law_least_length { nx := fun _ => false = false ∧ Q .non, rt := Q } (startD 6 ds)) :
  FnOk P w K mg base CX0 5 fa fd ["script"] (spD K false S) := by
  refine FunD.okD Fn sc_law len _ (fun cdv A outer s H E hr => ?_) rd
  exact (qss_cons (qs_set 1 (fun _ => sc_law.nd) (QO.qe (qo_call (fun _ => G__law_digits) (fun _ => hr.mono (by decide)) (fun _ => m__law_digits) k__law_digits b__law_digits (qa_cons (q_call (fun _ => G__law_cell) (fun _ => hr.mono (by decide)) (fun _ => m__law_cell) k__law_cell b__law_cell (qa_cons (qv 0) (qa_cons q_int qa_nil))) (qa_cons (QO.qe (qo_lst (qa_cons q_int (qa_cons q_int (qa_cons q_int qa_nil))))) qa_nil)))))
    (qss_cons (qs_set 2 (fun _ => sc_law.nd) (QO.qe (qo_call (fun _ => G__law_digits) (fun _ => hr.mono (by decide)) (fun _ => m__law_digits) k__law_digits b__law_digits (qa_cons (q_call (fun _ => G__law_cell) (fun _ => hr.mono (by decide)) (fun _ => m__law_cell) k__law_cell b__law_cell (qa_cons (qv 0) (qa_cons q_int qa_nil))) (qa_cons (QO.qe (qo_lst (qa_cons q_int (qa_cons q_int (qa_cons q_int qa_nil))))) qa_nil)))))
    (qss_cons (qs_setO 3 (fun _ => sc_law.nd) (qo_call (fun _ => G__law_digits) (fun _ => hr.mono (by decide)) (fun _ => m__law_digits) k__law_digits b__law_digits (qa_cons (q_call (fun _ => G__law_cell) (fun _ => hr.mono (by decide)) (fun _ => m__law_cell) k__law_cell b__law_cell (qa_cons (qv 0) (qa_cons q_int qa_nil))) (qa_cons (QO.qe (qo_lst (qa_cons q_int (qa_cons q_int qa_nil)))) qa_nil))))
    (qss_cons (qs_for (fun _ => PassesOwn.never) (fun _ => rfl) (qi_range1 (fun _ => m_range) q_int) (qg_name 4 (fun _ => sc_law.nd)) (qss_one (qs_expr (q_append 3 (q_call (fun _ => G__law_giant) (fun _ => hr.mono (by decide)) (fun _ => m__law_giant) k__law_giant b__law_giant (qa_cons (QO.qe (qo_call (fun _ => G__law_digits) (fun _ => hr.mono (by decide)) (fun _ => m__law_digits) k__law_digits b__law_digits (qa_cons (q_call (fun _ => G__law_cell) (fun _ => hr.mono (by decide)) (fun _ => m__law_cell) k__law_cell b__law_cell (qa_cons (qv 0) (qa_cons (q_add q_int (qv 4)) qa_nil))) (qa_cons (q_add (QO.qe (qo_lst (qa_cons q_int qa_nil))) (q_mul (QO.qe (qo_lst (qa_cons q_int qa_nil))) q_int)) qa_nil)))) qa_nil))))))
    (qss_cons (qs_set 5 (fun _ => sc_law.nd) (q_call (fun _ => G_overtaken_from) (fun _ => hr.mono (by decide)) (fun _ => m_overtaken_from) k_overtaken_from b_overtaken_from (qa_cons (q_add q_int (q_ix (qv 1) q_int)) (qa_cons (q_add q_int (q_ix (qv 1) q_int)) (qa_cons (q_add q_int (q_ix (qv 1) q_int)) qa_nil)))))
    (qss_cons (qs_if (qt_not (qt_val (q_call (fun _ => G__law_least_length) (fun _ => hr.mono (by decide)) (fun _ => m__law_least_length) k__law_least_length b__law_least_length (qa_cons (qv 1) (qa_cons (qv 5) (qa_cons (qv 3) qa_nil)))))) (qss_one (qs_ret q_bl)) qss_nil)
    (qss_cons (qs_if (qt_not (qt_val (q_call (fun _ => G__law_least_length) (fun _ => hr.mono (by decide)) (fun _ => m__law_least_length) k__law_least_length b__law_least_length (qa_cons (qv 2) (qa_cons (q_call (fun _ => G_overtaken_from) (fun _ => hr.mono (by decide)) (fun _ => m_overtaken_from) k_overtaken_from b_overtaken_from (qa_cons (q_add q_int (q_ix (qv 2) q_int)) (qa_cons (q_add q_int (q_ix (qv 2) q_int)) (qa_cons (q_add q_int (q_ix (qv 2) q_int)) qa_nil)))) (qa_cons (qv 3) qa_nil)))))) (qss_one (qs_ret q_bl)) qss_nil)
    (qss_one (qs_ret (q_eq (fun _ => hr) (q_callK0 (m := 3) (fun _ => G_overtaken_from) (fun _ => hr.mono (by decide)) (fun _ => m_overtaken_from) k_overtaken_from kb_overtaken_from_0_variety_standings_size rel_overtaken_from_0_variety_standings_size rfl (qk_cons (q_add q_int (q_ix (qv 1) q_int)) (qk_cons (q_add q_int (q_ix (qv 1) q_int)) (qk_cons (q_add q_int (q_ix (qv 1) q_int)) qk_nil)))) (qv 5)))))))))))
end
end K31

set_option Elab.async false
set_option linter.all false
set_option maxRecDepth 100000
set_option maxHeartbeats 0
namespace K31
open PySem PySem.Spec PyProof.Rows L2 DL
def d_width : He.DefD := ⟨("width", none), "width", "width", defArgs s_width, defBody s_width, defScope s_width, [], []⟩
def d_pressed_length : He.DefD := ⟨("pressed_length", none), "pressed_length", "pressed_length", defArgs s_pressed_length, defBody s_pressed_length, defScope s_pressed_length, [], []⟩
def d_pays_for_itself : He.DefD := ⟨("pays_for_itself", none), "pays_for_itself", "pays_for_itself", defArgs s_pays_for_itself, defBody s_pays_for_itself, defScope s_pays_for_itself, [], []⟩
def d_overtaken_from : He.DefD := ⟨("overtaken_from", none), "overtaken_from", "overtaken_from", defArgs s_overtaken_from, defBody s_overtaken_from, defScope s_overtaken_from, [], []⟩
def d__law_whole : He.DefD := ⟨("_law_whole", none), "_law_whole", "_law_whole", defArgs s__law_whole, defBody s__law_whole, defScope s__law_whole, [], []⟩
def d__law_cell : He.DefD := ⟨("_law_cell", none), "_law_cell", "_law_cell", defArgs s__law_cell, defBody s__law_cell, defScope s__law_cell, [], []⟩
def d__law_digits : He.DefD := ⟨("_law_digits", none), "_law_digits", "_law_digits", defArgs s__law_digits, defBody s__law_digits, defScope s__law_digits, [], []⟩
def d__law_width : He.DefD := ⟨("_law_width", none), "_law_width", "_law_width", defArgs s__law_width, defBody s__law_width, defScope s__law_width, [], []⟩
def d__law_giant : He.DefD := ⟨("_law_giant", none), "_law_giant", "_law_giant", defArgs s__law_giant, defBody s__law_giant, defScope s__law_giant, [], []⟩
def d__law_fill : He.DefD := ⟨("_law_fill", none), "_law_fill", "_law_fill", defArgs s__law_fill, defBody s__law_fill, defScope s__law_fill, [], []⟩
def d__law_pressed : He.DefD := ⟨("_law_pressed", none), "_law_pressed", "_law_pressed", defArgs s__law_pressed, defBody s__law_pressed, defScope s__law_pressed, [], []⟩
def d__law_words_total : He.DefD := ⟨("_law_words_total", none), "_law_words_total", "_law_words_total", defArgs s__law_words_total, defBody s__law_words_total, defScope s__law_words_total, [], []⟩
def d__law_overtaken : He.DefD := ⟨("_law_overtaken", none), "_law_overtaken", "_law_overtaken", defArgs s__law_overtaken, defBody s__law_overtaken, defScope s__law_overtaken, [], []⟩
def d__law_least_length : He.DefD := ⟨("_law_least_length", none), "_law_least_length", "_law_least_length", defArgs s__law_least_length, defBody s__law_least_length, defScope s__law_least_length, [], []⟩
def d_law : He.DefD := ⟨("law", none), "law", "law", defArgs s_law, defBody s_law, defScope s_law, [], []⟩
def fn : List He.DefD := [d_width, d_pressed_length, d_pays_for_itself, d_overtaken_from, d__law_whole, d__law_cell, d__law_digits, d__law_width, d__law_giant, d__law_fill, d__law_pressed, d__law_words_total, d__law_overtaken, d__law_least_length, d_law]
def fa : List He.Fa := [.glo "width", .glo "pressed_length", .glo "pays_for_itself", .glo "overtaken_from", .glo "_law_whole", .glo "_law_cell", .glo "_law_digits", .glo "_law_width", .glo "_law_giant", .glo "_law_fill", .glo "_law_pressed", .glo "_law_words_total", .glo "_law_overtaken", .glo "_law_least_length", .glo "law", .free "min", .free "isinstance", .free "int", .free "bool", .free "len", .free "range"]
abbrev R : PySem.W.OpenRow := PySem.W.OpenLaw.row PySem.Challenge.rw_outpressed_k31_overtaking_number
abbrev hk : PySem.W.Hook := He.hookD 4 fa fn
def ob (s : PySem.W.SharedT) : He.AlD := He.obsDG 4 fa fn (HandSHeadRun.getT s)
theorem ob_eq (s : PySem.W.SharedT) : ob s = hk.obs s.abs := He.obsDG_eq (HandSHeadRun.getT_eq s)
def loose : List PySem.Str := (["width", "pressed_length", "pays_for_itself", "overtaken_from", "_law_whole", "_law_cell", "_law_digits", "_law_width", "_law_giant", "_law_fill", "_law_pressed", "_law_words_total", "_law_overtaken", "_law_least_length"] : List PySem.Str)
theorem run (w : World) : HandSHeadRun.RunEq R (PySem.W.view R.prog [18]) hk ob 4000 loose w := by
  intro os
  kernel_rfl
theorem facts {P : Program} {w : World} {K : PySem.W.Frag} {h : Heap} {mg : Str → Option Value} {f : Addr} (X : K.In h) (G : h.Ns mainGlobals mg) (hfa : mg ("law" : Str) = some (.ref f)) (c : He.SaysD fa fn K) :
    ∃ fd : FuncData, (∀ (s : Shared) (v : Value), BindsTo s fd ⟨[v], []⟩ [("script", v)]) ∧ ∀ base : Heap, K.In base → base.Ns mainGlobals mg → FnOk P w K mg base CX0 5 f fd ["script"] (spD K false S_law) := by
  obtain ⟨fd_width, F_width⟩ := c.def_ 0 (d := d_width) rfl
  obtain ⟨fd_pressed_length, F_pressed_length⟩ := c.def_ 1 (d := d_pressed_length) rfl
  obtain ⟨fd_pays_for_itself, F_pays_for_itself⟩ := c.def_ 2 (d := d_pays_for_itself) rfl
  obtain ⟨fd_overtaken_from, F_overtaken_from⟩ := c.def_ 3 (d := d_overtaken_from) rfl
  obtain ⟨fd__law_whole, F__law_whole⟩ := c.def_ 4 (d := d__law_whole) rfl
  obtain ⟨fd__law_cell, F__law_cell⟩ := c.def_ 5 (d := d__law_cell) rfl
  obtain ⟨fd__law_digits, F__law_digits⟩ := c.def_ 6 (d := d__law_digits) rfl
  obtain ⟨fd__law_width, F__law_width⟩ := c.def_ 7 (d := d__law_width) rfl
  obtain ⟨fd__law_giant, F__law_giant⟩ := c.def_ 8 (d := d__law_giant) rfl
  obtain ⟨fd__law_fill, F__law_fill⟩ := c.def_ 9 (d := d__law_fill) rfl
  obtain ⟨fd__law_pressed, F__law_pressed⟩ := c.def_ 10 (d := d__law_pressed) rfl
  obtain ⟨fd__law_words_total, F__law_words_total⟩ := c.def_ 11 (d := d__law_words_total) rfl
  obtain ⟨fd__law_overtaken, F__law_overtaken⟩ := c.def_ 12 (d := d__law_overtaken) rfl
  obtain ⟨fd__law_least_length, F__law_least_length⟩ := c.def_ 13 (d := d__law_least_length) rfl
  obtain ⟨fd_law, F_law⟩ := c.def_ 14 (d := d_law) rfl
  have m_width : mg "width" = some (.ref (He.ga K "width")) := He.glo_ok X G (c.fact 0 (f := .glo "width") rfl)
  have m_pressed_length : mg "pressed_length" = some (.ref (He.ga K "pressed_length")) := He.glo_ok X G (c.fact 1 (f := .glo "pressed_length") rfl)
  have m_pays_for_itself : mg "pays_for_itself" = some (.ref (He.ga K "pays_for_itself")) := He.glo_ok X G (c.fact 2 (f := .glo "pays_for_itself") rfl)
  have m_overtaken_from : mg "overtaken_from" = some (.ref (He.ga K "overtaken_from")) := He.glo_ok X G (c.fact 3 (f := .glo "overtaken_from") rfl)
  have m__law_whole : mg "_law_whole" = some (.ref (He.ga K "_law_whole")) := He.glo_ok X G (c.fact 4 (f := .glo "_law_whole") rfl)
  have m__law_cell : mg "_law_cell" = some (.ref (He.ga K "_law_cell")) := He.glo_ok X G (c.fact 5 (f := .glo "_law_cell") rfl)
  have m__law_digits : mg "_law_digits" = some (.ref (He.ga K "_law_digits")) := He.glo_ok X G (c.fact 6 (f := .glo "_law_digits") rfl)
  have m__law_width : mg "_law_width" = some (.ref (He.ga K "_law_width")) := He.glo_ok X G (c.fact 7 (f := .glo "_law_width") rfl)
  have m__law_giant : mg "_law_giant" = some (.ref (He.ga K "_law_giant")) := He.glo_ok X G (c.fact 8 (f := .glo "_law_giant") rfl)
  have m__law_fill : mg "_law_fill" = some (.ref (He.ga K "_law_fill")) := He.glo_ok X G (c.fact 9 (f := .glo "_law_fill") rfl)
  have m__law_pressed : mg "_law_pressed" = some (.ref (He.ga K "_law_pressed")) := He.glo_ok X G (c.fact 10 (f := .glo "_law_pressed") rfl)
  have m__law_words_total : mg "_law_words_total" = some (.ref (He.ga K "_law_words_total")) := He.glo_ok X G (c.fact 11 (f := .glo "_law_words_total") rfl)
  have m__law_overtaken : mg "_law_overtaken" = some (.ref (He.ga K "_law_overtaken")) := He.glo_ok X G (c.fact 12 (f := .glo "_law_overtaken") rfl)
  have m__law_least_length : mg "_law_least_length" = some (.ref (He.ga K "_law_least_length")) := He.glo_ok X G (c.fact 13 (f := .glo "_law_least_length") rfl)
  have m_law : mg "law" = some (.ref (He.ga K "law")) := He.glo_ok X G (c.fact 14 (f := .glo "law") rfl)
  have m_min : mg "min" = none := He.free_ok X G (c.fact 15 (f := .free "min") rfl)
  have m_isinstance : mg "isinstance" = none := He.free_ok X G (c.fact 16 (f := .free "isinstance") rfl)
  have m_int : mg "int" = none := He.free_ok X G (c.fact 17 (f := .free "int") rfl)
  have m_bool : mg "bool" = none := He.free_ok X G (c.fact 18 (f := .free "bool") rfl)
  have m_len : mg "len" = none := He.free_ok X G (c.fact 19 (f := .free "len") rfl)
  have m_range : mg "range" = none := He.free_ok X G (c.fact 20 (f := .free "range") rfl)
  have e := hfa.symm.trans m_law
  cases e
  have b := FunD.bindsA (ps := ["script"]) F_law fun _ _ _ _ _ _ us hl => match us, hl with | [_], _ => rfl
  refine ⟨fd_law, fun s v => b s [v] rfl, fun base _ _ => ?_⟩
  have b__law_digits : Binds K fd__law_digits ["cell", "sizes"] [] := FunD.bindsN F__law_digits fun _ _ _ _ _ _ us hl => match us, hl with | [_, _], _ => rfl
  have G__law_digits := ok__law_digits (P := P) (w := w) (K := K) (mg := mg) (base := base) F__law_digits m_int m_len m_range (S := S__law_digits) len__law_digits rd__law_digits
  have b__law_cell : Binds K fd__law_cell ["script", "k"] [] := FunD.bindsN F__law_cell fun _ _ _ _ _ _ us hl => match us, hl with | [_, _], _ => rfl
  have G__law_cell := ok__law_cell (P := P) (w := w) (K := K) (mg := mg) (base := base) F__law_cell m_len m_int (S := S__law_cell) len__law_cell rd__law_cell
  have b__law_giant : Binds K fd__law_giant ["row"] [] := FunD.bindsN F__law_giant fun _ _ _ _ _ _ us hl => match us, hl with | [_], _ => rfl
  have G__law_giant := ok__law_giant (P := P) (w := w) (K := K) (mg := mg) (base := base) F__law_giant m_range (S := S__law_giant) len__law_giant rd__law_giant
  have b_width : Binds K fd_width ["options"] [] := FunD.bindsN F_width fun _ _ _ _ _ _ us hl => match us, hl with | [_], _ => rfl
  have G_width := ok_width (P := P) (w := w) (K := K) (mg := mg) (base := base) F_width  (S := S_width) len_width rd_width
  have b_pressed_length : Binds K fd_pressed_length ["size", "count"] [] := FunD.bindsN F_pressed_length fun _ _ _ _ _ _ us hl => match us, hl with | [_, _], _ => rfl
  have G_pressed_length := ok_pressed_length (P := P) (w := w) (K := K) (mg := mg) (base := base) F_pressed_length G_width m_width (FunD.kp F_width) b_width (S := S_pressed_length) len_pressed_length rd_pressed_length
  have b_pays_for_itself : Binds K fd_pays_for_itself ["size", "variety", "standings", "count"] [] := FunD.bindsN F_pays_for_itself fun _ _ _ _ _ _ us hl => match us, hl with | [_, _, _, _], _ => rfl
  have G_pays_for_itself := ok_pays_for_itself (P := P) (w := w) (K := K) (mg := mg) (base := base) F_pays_for_itself G_width m_width (FunD.kp F_width) b_width (S := S_pays_for_itself) len_pays_for_itself rd_pays_for_itself
  have b_overtaken_from : Binds K fd_overtaken_from ["size", "variety", "standings"] [] := FunD.bindsN F_overtaken_from fun _ _ _ _ _ _ us hl => match us, hl with | [_, _, _], _ => rfl
  have G_overtaken_from := ok_overtaken_from (P := P) (w := w) (K := K) (mg := mg) (base := base) F_overtaken_from G_pressed_length m_pressed_length (FunD.kp F_pressed_length) b_pressed_length G_pays_for_itself m_pays_for_itself (FunD.kp F_pays_for_itself) b_pays_for_itself m_min (S := S_overtaken_from) len_overtaken_from rd_overtaken_from
  have b__law_whole : Binds K fd__law_whole ["value"] [] := FunD.bindsN F__law_whole fun _ _ _ _ _ _ us hl => match us, hl with | [_], _ => rfl
  have G__law_whole := ok__law_whole (P := P) (w := w) (K := K) (mg := mg) (base := base) F__law_whole m_isinstance m_int m_bool (S := S__law_whole) len__law_whole rd__law_whole
  have b__law_width : Binds K fd__law_width ["options"] [] := FunD.bindsN F__law_width fun _ _ _ _ _ _ us hl => match us, hl with | [_], _ => rfl
  have G__law_width := ok__law_width (P := P) (w := w) (K := K) (mg := mg) (base := base) F__law_width m_range (S := S__law_width) len__law_width rd__law_width
  have b__law_pressed : Binds K fd__law_pressed ["letters", "many"] [] := FunD.bindsN F__law_pressed fun _ _ _ _ _ _ us hl => match us, hl with | [_, _], _ => rfl
  have G__law_pressed := ok__law_pressed (P := P) (w := w) (K := K) (mg := mg) (base := base) F__law_pressed G__law_width m__law_width (FunD.kp F__law_width) b__law_width m_range (S := S__law_pressed) len__law_pressed rd__law_pressed
  have b__law_fill : Binds K fd__law_fill ["kinds", "length"] [] := FunD.bindsN F__law_fill fun _ _ _ _ _ _ us hl => match us, hl with | [_, _], _ => rfl
  have G__law_fill := ok__law_fill (P := P) (w := w) (K := K) (mg := mg) (base := base) F__law_fill m_range (S := S__law_fill) len__law_fill rd__law_fill
  have b__law_overtaken : Binds K fd__law_overtaken ["letters", "kinds", "places", "length"] [] := FunD.bindsN F__law_overtaken fun _ _ _ _ _ _ us hl => match us, hl with | [_, _, _, _], _ => rfl
  have G__law_overtaken := ok__law_overtaken (P := P) (w := w) (K := K) (mg := mg) (base := base) F__law_overtaken G__law_pressed m__law_pressed (FunD.kp F__law_pressed) b__law_pressed G__law_fill m__law_fill (FunD.kp F__law_fill) b__law_fill (S := S__law_overtaken) len__law_overtaken rd__law_overtaken
  have b__law_words_total : Binds K fd__law_words_total ["kinds", "many"] [] := FunD.bindsN F__law_words_total fun _ _ _ _ _ _ us hl => match us, hl with | [_, _], _ => rfl
  have G__law_words_total := ok__law_words_total (P := P) (w := w) (K := K) (mg := mg) (base := base) F__law_words_total  (S := S__law_words_total) len__law_words_total rd__law_words_total
  have b__law_least_length : Binds K fd__law_least_length ["row", "told", "beyond"] [] := FunD.bindsN F__law_least_length fun _ _ _ _ _ _ us hl => match us, hl with | [_, _, _], _ => rfl
  have G__law_least_length := ok__law_least_length (P := P) (w := w) (K := K) (mg := mg) (base := base) F__law_least_length G__law_whole m__law_whole (FunD.kp F__law_whole) b__law_whole G__law_overtaken m__law_overtaken (FunD.kp F__law_overtaken) b__law_overtaken G__law_fill m__law_fill (FunD.kp F__law_fill) b__law_fill G__law_words_total m__law_words_total (FunD.kp F__law_words_total) b__law_words_total m_range (S := S__law_least_length) len__law_least_length rd__law_least_length
  have kb_overtaken_from_0_variety_standings_size := kbn_overtaken_from_0_variety_standings_size F_overtaken_from
  exact ok_law (P := P) (w := w) (K := K) (mg := mg) (base := base) F_law G__law_digits m__law_digits (FunD.kp F__law_digits) b__law_digits G__law_cell m__law_cell (FunD.kp F__law_cell) b__law_cell G__law_giant m__law_giant (FunD.kp F__law_giant) b__law_giant G_overtaken_from m_overtaken_from (FunD.kp F_overtaken_from) b_overtaken_from G__law_least_length m__law_least_length (FunD.kp F__law_least_length) b__law_least_length kb_overtaken_from_0_variety_standings_size m_range (S := S_law) len_law rd_law
end K31
open PySem PySem.W PySem.Calls PyProof.Rows
theorem PySem.Challenge.cw_outpressed_k31_overtaking_number_holds : PySem.Challenge.rw_outpressed_k31_overtaking_number.Holds := by
  w_on; o_law
  refine HandSHeadRun.head_any (r := OpenLaw.row PySem.Challenge.rw_outpressed_k31_overtaking_number) (q := view (OpenLaw.row PySem.Challenge.rw_outpressed_k31_overtaking_number).prog [18]) (H := K31.hk) (ob := K31.ob) (M := 4000) (loose := K31.loose) (d := HandSHeadRun.topDef (OpenLaw.row PySem.Challenge.rw_outpressed_k31_overtaking_number).prog 18) (kwd := []) K31.ob_eq
    (by kernel_rfl) (fun s => by kernel_rfl) K31.run (by kernel_rfl) (by kernel_rfl) (by kernel_rfl) (by rfl) (by first | assumption | decide +kernel) (by decide +kernel) ⟨rfl, rfl, rfl, rfl, rfl, by decide +kernel⟩ ?hw ?hc
  case hw => w_witness2
  case hc =>
    refine L2.walk_ofE (l := PySem.Challenge.rw_outpressed_k31_overtaking_number) (n := 63) (k := 5) (x := "script") (CX := L2.CX0) rfl (by decide) (by kernel_rfl) ⟨rfl, by decide, by decide⟩ ?F (fun _ _ _ _ z => z)
    intro w mg fa h Y G hmg0
    obtain ⟨K, KX, c⟩ := Y
    have hmg : mg ("law" : PySem.Str) = some (.ref fa) := by
      have e : (HandSHeadRun.topDef (OpenLaw.row PySem.Challenge.rw_outpressed_k31_overtaking_number).prog 18).name = ("law" : PySem.Str) := by kernel_rfl
      rw [← e]
      exact hmg0
    obtain ⟨fd, hb, hF⟩ := K31.facts (P := (PySem.Challenge.rw_outpressed_k31_overtaking_number).prog) (w := w) KX G hmg c
    exact ⟨K, fd, DL.spD K false DL.spLawD, KX, hb, fun H a ns hl _ hS => DL.law_sp hl hS, hF⟩

