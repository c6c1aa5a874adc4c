import PyProof.Rows.All
import Wide.All
import OpenK.AllK
import Wide.FinOn
import HandS.ForMost
import HandS.ForExc
import HandS.EndBits
import HandS.WideBits
import HandS.Wide
import HandS.IsInst
import HandS.Conv
import HandS.Flow
import HandS.Rev
import HandS.SortInts
import HandS.Defaults
import HandS.HeadEnd
import HandS.Head0
import HandS.Head1
import HandS.Head2
import HandS.HeadHook1
import HandS.HeadHook2
import HandS.RevTup
import HandS.Text
import PyProof.JoinWalk
import KE.GoesEnum
import KE.GoesZip
import KE.GoesMore
import HandS.Comp
import HandS.Deep
import HandS.TupAny
import PyProof.ReprRoads
import PyProof.ReprBulk
import PyProof.MaxThree
import PySem.Challenge.RW_outpressed_k21_floors_and_excesses
set_option Elab.async false
set_option linter.all false
set_option maxRecDepth 100000
namespace DL
open PySem PySem.Spec PyProof.Rows L2

/-- a Python value; a dict: its keys and its values, in order; an instance: its class, the names of its attributes, their values -/
inductive D where
  | non | bl (b : Bool) | int (i : Int) | str (x : List Nat) | tup (xs : List D) | lst (xs : List D) | scr (xs : List Int)
  | dk (ks : List Key) (xs : List D) | dt (ks : List (List Key)) (xs : List D) | ins (C : Addr) (fs : List Str) (xs : List D)

mutual
def Rep (K : PySem.W.Frag) (G : Hp) : D → V → Prop
  | .non, v => v = .non
  | .bl b, v => v = .bl b
  | .int i, v => v = .int i
  | .str x, v => v = .str ⟨x.toArray⟩
  | .tup ds, v => ∃ a vs, v = .ref a ∧ SqT K G a vs ∧ Reps K G ds vs
  | .lst ds, v => ∃ a vs, v = .ref a ∧ G a = some (.lst vs) ∧ Reps K G ds vs
  | .scr xs, v => ∃ a, v = .ref a ∧ SqL K G a (xs.map V.int)
  | .dk ks ds, v => ∃ a vs, v = .ref a ∧ G a = some (.dK (ks.zip vs)) ∧ ks.length = ds.length ∧ Reps K G ds vs
  | .dt ks ds, v => ∃ a vs, v = .ref a ∧ G a = some (.dT (ks.zip vs)) ∧ ks.length = ds.length ∧ Reps K G ds vs
  | .ins C fs ds, v => ∃ a dx vs, v = .ref a ∧ G a = some (.ins C dx (fs.zip vs)) ∧ fs.length = ds.length ∧ Reps K G ds vs
def Reps (K : PySem.W.Frag) (G : Hp) : List D → List V → Prop
  | [], vs => vs = []
  | d :: ds, vs => ∃ v r, vs = v :: r ∧ Rep K G d v ∧ Reps K G ds r
end

section
variable {K : PySem.W.Frag} {G G' H H' : Hp}
theorem Same.sqt {a : Addr} {xs : List V} (e : Same G G') (h : SqT K G a xs) : SqT K G' a xs := by
  rcases h with (h | ⟨o, h⟩) | h
  · exact .inl (.inl (e _ _ h))
  · exact .inl (.inr ⟨o, e _ _ h⟩)
  · exact .inr h
mutual
theorem Rep.mono (e : Same G G') : ∀ (d : D) (v : V), Rep K G d v → Rep K G' d v
  | .non, _, h => h
  | .bl _, _, h => h
  | .int _, _, h => h
  | .str _, _, h => h
  | .tup ds, _, ⟨a, vs, e1, s, r⟩ => ⟨a, vs, e1, Same.sqt e s, Reps.mono e ds vs r⟩
  | .lst ds, _, ⟨a, vs, e1, s, r⟩ => ⟨a, vs, e1, e _ _ s, Reps.mono e ds vs r⟩
  | .scr _, _, ⟨a, e1, s⟩ => ⟨a, e1, e.seq s⟩
  | .dk _ ds, _, ⟨a, vs, e1, s, l, r⟩ => ⟨a, vs, e1, e _ _ s, l, Reps.mono e ds vs r⟩
  | .dt _ ds, _, ⟨a, vs, e1, s, l, r⟩ => ⟨a, vs, e1, e _ _ s, l, Reps.mono e ds vs r⟩
  | .ins _ _ ds, _, ⟨a, dx, vs, e1, s, l, r⟩ => ⟨a, dx, vs, e1, e _ _ s, l, Reps.mono e ds vs r⟩
theorem Reps.mono (e : Same G G') : ∀ (ds : List D) (vs : List V), Reps K G ds vs → Reps K G' ds vs
  | [], _, h => h
  | d :: ds, _, ⟨v, r, e1, a, b⟩ => ⟨v, r, e1, Rep.mono e d v a, Reps.mono e ds r b⟩
end
theorem Reps.len : ∀ {ds : List D} {vs : List V}, Reps K G ds vs → vs.length = ds.length
  | [], _, h => by cases h; rfl
  | _ :: ds, _, ⟨v, r, e1, _, b⟩ => by
    subst e1
    rw [List.length_cons, List.length_cons, Reps.len b]
theorem Reps.get : ∀ {ds : List D} {vs : List V} {i : Nat} {d : D}, Reps K G ds vs → ds[i]? = some d → ∃ v, vs[i]? = some v ∧ Rep K G d v
  | [], _, i, d, h, e => by simp at e
  | x :: ds, _, 0, d, ⟨v, r, e1, a, b⟩, e => by
    subst e1
    cases (show x = d by simpa using e)
    exact ⟨v, rfl, a⟩
  | x :: ds, _, i + 1, d, ⟨v, r, e1, a, b⟩, e => by
    subst e1
    obtain ⟨w, h1, h2⟩ := Reps.get b (show ds[i]? = some d by simpa using e)
    exact ⟨w, by simpa using h1, h2⟩
theorem Reps.get' : ∀ {ds : List D} {vs : List V} {i : Nat} {v : V}, Reps K G ds vs → vs[i]? = some v → ∃ d, ds[i]? = some d ∧ Rep K G d v := by
  intro ds vs i v h e
  have hl := h.len
  have : i < ds.length := by
    rw [← hl]
    exact (List.getElem?_eq_some_iff.mp e).1
  obtain ⟨w, h1, h2⟩ := h.get (List.getElem?_eq_getElem this)
  rw [e] at h1
  cases h1
  exact ⟨_, List.getElem?_eq_getElem this, h2⟩
theorem Reps.append : ∀ {ds es : List D} {vs ws : List V}, Reps K G ds vs → Reps K G es ws → Reps K G (ds ++ es) (vs ++ ws)
  | [], _, _, _, h, q => by cases h; exact q
  | d :: ds, es, _, ws, ⟨v, r, e1, a, b⟩, q => by
    subst e1
    exact ⟨v, r ++ ws, rfl, a, Reps.append b q⟩
theorem Reps.one {d : D} {v : V} (h : Rep K G d v) : Reps K G [d] [v] := ⟨v, [], rfl, h, rfl⟩
theorem Reps.drop : ∀ {ds : List D} {vs : List V} (n : Nat), Reps K G ds vs → Reps K G (ds.drop n) (vs.drop n)
  | _, _, 0, h => h
  | [], _, n + 1, h => by cases h; exact (rfl : _ = _)
  | d :: ds, _, n + 1, ⟨v, r, e1, a, b⟩ => by subst e1; exact Reps.drop n b
theorem Reps.take : ∀ {ds : List D} {vs : List V} (n : Nat), Reps K G ds vs → Reps K G (ds.take n) (vs.take n)
  | _, _, 0, h => (rfl : _ = _)
  | [], _, n + 1, h => by cases h; exact (rfl : _ = _)
  | d :: ds, _, n + 1, ⟨v, r, e1, a, b⟩ => by subst e1; exact ⟨v, r.take n, rfl, a, Reps.take n b⟩
theorem Reps.set : ∀ {ds : List D} {vs : List V} (n : Nat) {d : D} {v : V}, Reps K G ds vs → Rep K G d v → Reps K G (ds.set n d) (vs.set n v)
  | [], _, n, _, _, h, _ => by cases h; cases n <;> exact (rfl : _ = _)
  | d :: ds, _, 0, _, w, ⟨v, r, e1, a, b⟩, q => by subst e1; exact ⟨w, r, rfl, q, b⟩
  | d :: ds, _, n + 1, _, w, ⟨v, r, e1, a, b⟩, q => by subst e1; exact ⟨v, _, rfl, a, Reps.set n b q⟩
theorem Reps.reverse {ds : List D} {vs : List V} (h : Reps K G ds vs) : Reps K G ds.reverse vs.reverse := by
  induction ds generalizing vs with
  | nil => cases h; exact (rfl : _ = _)
  | cons d ds ih =>
    obtain ⟨v, r, e1, a, b⟩ := h
    subst e1
    rw [List.reverse_cons, List.reverse_cons]
    exact (ih b).append (Reps.one a)
theorem Reps.dropLast {ds : List D} {vs : List V} (h : Reps K G ds vs) : Reps K G ds.dropLast vs.dropLast := by
  rw [List.dropLast_eq_take, List.dropLast_eq_take, h.len]
  exact h.take _
theorem Reps.flat {ds : List D} {vs : List V} (h : Reps K G ds vs) : ∀ n : Nat, Reps K G (List.replicate n ds).flatten (List.replicate n vs).flatten
  | 0 => (rfl : _ = _)
  | n + 1 => by
    rw [List.replicate_succ, List.replicate_succ, List.flatten_cons, List.flatten_cons]
    exact h.append (Reps.flat h n)
theorem Reps.ints : ∀ (ns : List Int), Reps K G (ns.map D.int) (ns.map V.int)
  | [] => rfl
  | n :: ns => ⟨_, _, rfl, rfl, Reps.ints ns⟩
end

inductive Sl where
  | no | fz (d : D) | ow (d : D)
abbrev DEnv := List Sl
/-- what an object that can be owned holds -/
def Cont (K : PySem.W.Frag) (G : Hp) : D → HO → Prop
  | .lst ds, o => ∃ vs, o = .lst vs ∧ Reps K G ds vs
  | .dk ks ds, o => ∃ vs, o = .dK (ks.zip vs) ∧ ks.length = ds.length ∧ Reps K G ds vs
  | .dt ks ds, o => ∃ vs, o = .dT (ks.zip vs) ∧ ks.length = ds.length ∧ Reps K G ds vs
  | .ins C fs ds, o => ∃ dx vs, o = .ins C dx (fs.zip vs) ∧ fs.length = ds.length ∧ Reps K G ds vs
  | _, _ => False
theorem Cont.mono {K : PySem.W.Frag} {G G' : Hp} (e : Same G G') : ∀ {d : D} {o : HO}, Cont K G d o → Cont K G' d o
  | .lst _, _, ⟨vs, h, r⟩ => ⟨vs, h, r.mono e⟩
  | .dk _ _, _, ⟨vs, h, l, r⟩ => ⟨vs, h, l, r.mono e⟩
  | .dt _ _, _, ⟨vs, h, l, r⟩ => ⟨vs, h, l, r.mono e⟩
  | .ins _ _ _, _, ⟨dx, vs, h, l, r⟩ => ⟨dx, vs, h, l, r.mono e⟩
  | .non, _, h => h.elim
  | .bl _, _, h => h.elim
  | .int _, _, h => h.elim
  | .str _, _, h => h.elim
  | .tup _, _, h => h.elim
  | .scr _, _, h => h.elim
theorem Cont.rep {K : PySem.W.Frag} {G : Hp} {p : Addr} : ∀ {d : D} {o : HO}, Cont K G d o → G p = some o → Rep K G d (.ref p)
  | .lst _, _, ⟨vs, h, r⟩, e => ⟨p, vs, rfl, by rw [e, h], r⟩
  | .dk _ _, _, ⟨vs, h, l, r⟩, e => ⟨p, vs, rfl, by rw [e, h], l, r⟩
  | .dt _ _, _, ⟨vs, h, l, r⟩, e => ⟨p, vs, rfl, by rw [e, h], l, r⟩
  | .ins _ _ _, _, ⟨dx, vs, h, l, r⟩, e => ⟨p, dx, vs, rfl, by rw [e, h], l, r⟩
  | .non, _, h, _ => h.elim
  | .bl _, _, h, _ => h.elim
  | .int _, _, h, _ => h.elim
  | .str _, _, h, _ => h.elim
  | .tup _, _, h, _ => h.elim
  | .scr _, _, h, _ => h.elim
/-- an owned object -/
def OwnAt (K : PySem.W.Frag) (G H : Hp) (p : Addr) (d : D) : Prop := ∃ o, H p = some o ∧ Cont K G d o
/-- the value of a slot -/
def SlOk (K : PySem.W.Frag) (H0 G H : Hp) : Sl → Option V → Prop
  | .no, _ => True
  | .fz d, x => ∃ v, x = some v ∧ Rep K G d v
  | .ow d, x => ∃ p, x = some (.ref p) ∧ G p = none ∧ H0 p = none ∧ OwnAt K G H p d
def isOw : Sl → Bool
  | .ow _ => true
  | _ => false
structure ER (K : PySem.W.Frag) (G0 H0 : Hp) (env : DEnv) (σ : L2.St) (G H : Hp) : Prop where
  sub : Same G H
  old : Same H0 H
  gold : ∀ b, H0 b ≠ none → G b = G0 b
  len : env.length = σ.length
  sl : ∀ (i : Nat) (s : Sl) (x : Option V), env[i]? = some s → σ[i]? = some x → SlOk K H0 G H s x
  sep : ∀ (i j : Nat) (s t : Sl) (x : Option V), i ≠ j → env[i]? = some s → isOw s = true → env[j]? = some t → isOw t = true → σ[i]? = some x → σ[j]? ≠ some x

section
variable {K : PySem.W.Frag} {G0 H0 G G' H H' : Hp} {env : DEnv} {σ : L2.St}
theorem OwnAt.mono {p : Addr} {d : D} (e : Same G G') (k : H' p = H p) (h : OwnAt K G H p d) : OwnAt K G' H' p d := by
  obtain ⟨o, h, c⟩ := h
  exact ⟨o, k.trans h, c.mono e⟩
theorem OwnAt.some {p : Addr} {d : D} (h : OwnAt K G H p d) : H p ≠ none := by
  obtain ⟨o, h, c⟩ := h
  rw [h]
  exact fun z => by cases z
theorem SlOk.mono (e : Same G G') (k : ∀ p, G p = none → H0 p = none → H p ≠ none → H' p = H p ∧ G' p = none) : ∀ {s : Sl} {x : Option V}, SlOk K H0 G H s x → SlOk K H0 G' H' s x
  | .no, _, _ => trivial
  | .fz d, x, ⟨v, h, r⟩ => ⟨v, h, r.mono e⟩
  | .ow d, x, ⟨p, h, g, h0, r⟩ => by
    obtain ⟨k1, k2⟩ := k p g h0 r.some
    exact ⟨p, h, k2, h0, r.mono e k1⟩
/-- all that stood is kept; what is new may be frozen -/
theorem ER.ext (I : ER K G0 H0 env σ G H) (hH : Same H H') (hG : ∀ b, H b ≠ none → G' b = G b) (hs : Same G' H') : ER K G0 H0 env σ G' H' ∧ Same G G' := by
  have sG : Same G G' := fun b o q => by
    rw [hG b (by rw [I.sub b o q]; exact fun z => by cases z)]
    exact q
  refine ⟨⟨hs, I.old.trans hH, fun b q => ?_, I.len, fun i s x h1 h2 => (I.sl i s x h1 h2).mono sG fun p g h0 hp => ?_, I.sep⟩, sG⟩
  · rw [hG b ?_]
    · exact I.gold b q
    · cases z : H0 b with
      | none => exact absurd z q
      | some o => rw [I.old b o z]; exact fun z => by cases z
  · refine ⟨?_, (hG p hp).trans g⟩
    cases z : H p with
    | none => exact absurd z hp
    | some o => exact hH p o z
/-- a new frozen object -/
theorem ER.new (I : ER K G0 H0 env σ G H) {p : Addr} {o : HO} (hp : H p = none) : ER K G0 H0 env σ (upd G p o) (upd H p o) ∧ Same G (upd G p o) := by
  refine I.ext (fun b x q => ?_) (fun b q => ?_) fun b x q => ?_
  · rw [upd_ne (ne_of_none q hp)]; exact q
  · have : b ≠ p := fun z => q (by rw [z]; exact hp)
    rw [upd_ne this]
  · by_cases hb : b = p
    · subst hb; rw [upd_same] at q ⊢; exact q
    · rw [upd_ne hb] at q ⊢; exact I.sub _ _ q
theorem ER.newH (I : ER K G0 H0 env σ G H) {p : Addr} {o : HO} (hp : H p = none) : ER K G0 H0 env σ G (upd H p o) := by
  refine (I.ext (G' := G) (fun b x q => ?_) (fun b q => rfl) fun b x q => ?_).1
  · rw [upd_ne (ne_of_none q hp)]; exact q
  · rw [upd_ne (ne_of_none (I.sub _ _ q) hp)]; exact I.sub _ _ q
theorem ER.free (I : ER K G0 H0 env σ G H) {p : Addr} (hp : H p = none) : G p = none ∧ H0 p = none := by
  constructor
  · cases q : G p with
    | none => rfl
    | some o => rw [I.sub _ _ q] at hp; cases hp
  · cases q : H0 p with
    | none => rfl
    | some o => rw [I.old _ _ q] at hp; cases hp
/-- an owned value in the hand -/
def OwnV (K : PySem.W.Frag) (H0 : Hp) (env : DEnv) (σ : L2.St) (G H : Hp) (v : V) (d : D) : Prop :=
  ∃ p, v = .ref p ∧ G p = none ∧ H0 p = none ∧ OwnAt K G H p d ∧ ∀ (i : Nat) (s : Sl), env[i]? = some s → isOw s = true → σ[i]? ≠ some (some (.ref p))
theorem ER.noslot (I : ER K G0 H0 env σ G H) {p : Addr} (hp : H p = none) (i : Nat) (s : Sl) (h1 : env[i]? = some s) (h2 : isOw s = true) : σ[i]? ≠ some (some (.ref p)) := fun h3 => by
  have := I.sl i s _ h1 h3
  cases s with
  | no => cases h2
  | fz d => cases h2
  | ow d =>
    obtain ⟨q, e, _, _, own⟩ := this
    cases e
    exact own.some hp
theorem ER.freshOwn (I : ER K G0 H0 env σ G H) {p : Addr} (hp : H p = none) {d : D} {o : HO} (r : Cont K G d o) : OwnV K H0 env σ G (upd H p o) (.ref p) d :=
  ⟨p, rfl, (I.free hp).1, (I.free hp).2, ⟨o, upd_same, r⟩, I.noslot hp⟩
/-- it is frozen -/
theorem ER.freeze (I : ER K G0 H0 env σ G H) {v : V} {d : D} (o : OwnV K H0 env σ G H v d) : ∃ G', Same G G' ∧ ER K G0 H0 env σ G' H ∧ Rep K G' d v := by
  obtain ⟨p, rfl, g, h0, ⟨ob, hp, r⟩, sep⟩ := o
  have sG : Same G (upd G p ob) := fun b o q => by rw [upd_ne (ne_of_none q g)]; exact q
  refine ⟨upd G p ob, sG, ⟨fun b o q => ?_, I.old, fun b q => ?_, I.len, fun i s x h1 h2 => ?_, I.sep⟩, (r.mono sG).rep upd_same⟩
  · by_cases hb : b = p
    · subst hb; rw [upd_same] at q; cases q; exact hp
    · rw [upd_ne hb] at q; exact I.sub _ _ q
  · have : b ≠ p := fun z => q (by rw [z]; exact h0)
    rw [upd_ne this]; exact I.gold b q
  · have old := I.sl i s x h1 h2
    cases s with
    | no => trivial
    | fz d => obtain ⟨w, e, q⟩ := old; exact ⟨w, e, q.mono sG⟩
    | ow d =>
      obtain ⟨q, e, g', h0', own'⟩ := old
      have : q ≠ p := fun z => by
        subst z
        exact sep i _ h1 rfl (by rw [h2, e])
      exact ⟨q, e, by rw [upd_ne this]; exact g', h0', own'.mono sG rfl⟩
/-- a slot gets a frozen value -/
theorem ER.setF (I : ER K G0 H0 env σ G H) {v : V} {d : D} (r : Rep K G d v) (i : Nat) : ER K G0 H0 (env.set i (.fz d)) (σ.set i (some v)) G H := by
  refine ⟨I.sub, I.old, I.gold, by rw [List.length_set, List.length_set]; exact I.len, fun j s x h1 h2 => ?_, fun j k s t x hjk h1 h2 h3 h4 h5 => ?_⟩
  · by_cases hj : i = j
    · subst hj
      have l1 : i < env.length := by have := (List.getElem?_eq_some_iff.mp h1).1; rwa [List.length_set] at this
      have l2 : i < σ.length := by rw [← I.len]; exact l1
      rw [List.getElem?_set_self l1] at h1
      rw [List.getElem?_set_self l2] at h2
      cases h1; cases h2
      exact ⟨v, rfl, r⟩
    · rw [List.getElem?_set_ne hj] at h1 h2
      exact I.sl j s x h1 h2
  · have n1 : i ≠ j := fun z => by
      subst z
      have l1 : i < env.length := by have := (List.getElem?_eq_some_iff.mp h1).1; rwa [List.length_set] at this
      rw [List.getElem?_set_self l1] at h1
      cases h1; cases h2
    have n2 : i ≠ k := fun z => by
      subst z
      have l1 : i < env.length := by have := (List.getElem?_eq_some_iff.mp h3).1; rwa [List.length_set] at this
      rw [List.getElem?_set_self l1] at h3
      cases h3; cases h4
    rw [List.getElem?_set_ne n1] at h1 h5
    rw [List.getElem?_set_ne n2] at h3 ⊢
    exact I.sep j k s t x hjk h1 h2 h3 h4 h5
/-- a slot gets an owned value -/
theorem ER.setO (I : ER K G0 H0 env σ G H) {v : V} {d : D} (o : OwnV K H0 env σ G H v d) (i : Nat) : ER K G0 H0 (env.set i (.ow d)) (σ.set i (some v)) G H := by
  obtain ⟨p, rfl, g, h0, own, sep⟩ := o
  refine ⟨I.sub, I.old, I.gold, by rw [List.length_set, List.length_set]; exact I.len, fun j s x h1 h2 => ?_, fun j k s t x hjk h1 h2 h3 h4 h5 => ?_⟩
  · by_cases hj : i = j
    · subst hj
      have l1 : i < env.length := by have := (List.getElem?_eq_some_iff.mp h1).1; rwa [List.length_set] at this
      have l2 : i < σ.length := by rw [← I.len]; exact l1
      rw [List.getElem?_set_self l1] at h1
      rw [List.getElem?_set_self l2] at h2
      cases h1; cases h2
      exact ⟨p, rfl, g, h0, own⟩
    · rw [List.getElem?_set_ne hj] at h1 h2
      exact I.sl j s x h1 h2
  · by_cases hj : i = j
    · subst hj
      have l1 : i < env.length := by have := (List.getElem?_eq_some_iff.mp h1).1; rwa [List.length_set] at this
      have l2 : i < σ.length := by rw [← I.len]; exact l1
      rw [List.getElem?_set_self l2] at h5
      cases h5
      rw [List.getElem?_set_ne hjk] at h3 ⊢
      exact sep k t h3 h4
    · rw [List.getElem?_set_ne hj] at h1 h5
      by_cases hk : i = k
      · subst hk
        have l1 : i < env.length := by have := (List.getElem?_eq_some_iff.mp h3).1; rwa [List.length_set] at this
        have l2 : i < σ.length := by rw [← I.len]; exact l1
        rw [List.getElem?_set_self l2]
        intro z
        cases z
        exact sep j s h1 h2 h5
      · rw [List.getElem?_set_ne hk] at h3 ⊢
        exact I.sep j k s t x hjk h1 h2 h3 h4 h5
/-- what an owned slot holds is taken out -/
theorem ER.take (I : ER K G0 H0 env σ G H) {i : Nat} {d : D} (h : env[i]? = some (.ow d)) : ∃ v, σ[i]? = some (some v) ∧ OwnV K H0 (env.set i .no) σ G H v d ∧ ER K G0 H0 (env.set i .no) σ G H := by
  have l1 : i < env.length := (List.getElem?_eq_some_iff.mp h).1
  have l2 : i < σ.length := by rw [← I.len]; exact l1
  obtain ⟨p, e, g, h0, own⟩ := I.sl i _ _ h (List.getElem?_eq_getElem l2)
  have e' : σ[i]? = some (some (.ref p)) := by rw [List.getElem?_eq_getElem l2, e]
  refine ⟨.ref p, e', ⟨p, rfl, g, h0, own, fun j s h1 h2 h3 => ?_⟩, ⟨I.sub, I.old, I.gold, by rw [List.length_set]; exact I.len, fun j s x h1 h2 => ?_, fun j k s t x hjk h1 h2 h3 h4 h5 => ?_⟩⟩
  · by_cases hj : i = j
    · subst hj
      rw [List.getElem?_set_self l1] at h1
      cases h1; cases h2
    · rw [List.getElem?_set_ne hj] at h1
      exact I.sep j i s _ _ (Ne.symm hj) h1 h2 h rfl h3 e'
  · by_cases hj : i = j
    · subst hj
      rw [List.getElem?_set_self l1] at h1
      cases h1; trivial
    · rw [List.getElem?_set_ne hj] at h1
      exact I.sl j s x h1 h2
  · have n1 : i ≠ j := fun z => by
      subst z
      rw [List.getElem?_set_self l1] at h1
      cases h1; cases h2
    have n2 : i ≠ k := fun z => by
      subst z
      rw [List.getElem?_set_self l1] at h3
      cases h3; cases h4
    rw [List.getElem?_set_ne n1] at h1
    rw [List.getElem?_set_ne n2] at h3
    exact I.sep j k s t x hjk h1 h2 h3 h4 h5
/-- an owned object is changed -/
theorem ER.write (I : ER K G0 H0 env σ G H) {i : Nat} {d e : D} {o : HO} (h : env[i]? = some (.ow d)) (c : Cont K G e o) : ∃ p, σ[i]? = some (some (.ref p)) ∧ OwnAt K G H p d ∧ ER K G0 H0 (env.set i (.ow e)) σ G (upd H p o) := by
  have l1 : i < env.length := (List.getElem?_eq_some_iff.mp h).1
  have l2 : i < σ.length := by rw [← I.len]; exact l1
  obtain ⟨p, q, g, h0, own⟩ := I.sl i _ _ h (List.getElem?_eq_getElem l2)
  have q' : σ[i]? = some (some (.ref p)) := by rw [List.getElem?_eq_getElem l2, q]
  have hown : ∀ (j : Nat) (t : Sl), (env.set i (.ow e))[j]? = some t → isOw t = true → ∃ u, env[j]? = some u ∧ isOw u = true := fun j t h1 h2 => by
    by_cases hj : i = j
    · subst hj; exact ⟨_, h, rfl⟩
    · rw [List.getElem?_set_ne hj] at h1; exact ⟨t, h1, h2⟩
  refine ⟨p, q', own, ⟨fun b x z => ?_, fun b x z => ?_, I.gold, by rw [List.length_set]; exact I.len, fun j s x h1 h2 => ?_, fun j k s t x hjk h1 h2 h3 h4 h5 => ?_⟩⟩
  · rw [upd_ne (ne_of_none z g)]; exact I.sub _ _ z
  · rw [upd_ne (ne_of_none z h0)]; exact I.old _ _ z
  · by_cases hj : i = j
    · subst hj
      rw [List.getElem?_set_self l1] at h1
      rw [q'] at h2
      cases h1; cases h2
      exact ⟨p, rfl, g, h0, o, upd_same, c⟩
    · rw [List.getElem?_set_ne hj] at h1
      have old := I.sl j s x h1 h2
      cases s with
      | no => trivial
      | fz d => exact old
      | ow d =>
        obtain ⟨r, e1, g', h0', own'⟩ := old
        have : r ≠ p := fun z => by
          subst z
          exact I.sep i j _ _ _ hj h rfl h1 rfl q' (by rw [h2, e1])
        exact ⟨r, e1, g', h0', own'.mono (Same.refl G) (upd_ne this)⟩
  · obtain ⟨s', a1, a2⟩ := hown j s h1 h2
    obtain ⟨t', b1, b2⟩ := hown k t h3 h4
    exact I.sep j k s' t' x hjk a1 a2 b1 b2 h5
end
end DL

set_option Elab.async false
set_option linter.all false
set_option maxRecDepth 100000
namespace DL
open PySem PySem.Spec PyProof.Rows L2

/-- contexts that share the written part: a def's one, or a comprehension's blocks -/
structure Fam where
  ι : Type
  X : ι → Cx
  K : PySem.W.Frag
  hK : ∀ i, (X i).K = K
abbrev DQ := D → DEnv → Prop
abbrev DE := DEnv → DQ → Prop
abbrev DT := DEnv → (Bool → DEnv → Prop) → Prop
abbrev DA := DEnv → (List D → DEnv → Prop) → Prop

def SemE (K : PySem.W.Frag) (te : TE) (t : DE) : Prop := ∀ (G0 H0 : Hp) (env : DEnv) (σ : L2.St) (G H : Hp) (Q : DQ) (R : VK), ER K G0 H0 env σ G H → t env Q →
  (∀ v H' G' env' d, Same G G' → ER K G0 H0 env' σ G' H' → Rep K G' d v → Q d env' → R v H') → te σ H R
def SemO (K : PySem.W.Frag) (te : TE) (t : DE) : Prop := ∀ (G0 H0 : Hp) (env : DEnv) (σ : L2.St) (G H : Hp) (Q : DQ) (R : VK), ER K G0 H0 env σ G H → t env Q →
  (∀ v H' G' env' d, Same G G' → ER K G0 H0 env' σ G' H' → OwnV K H0 env' σ G' H' v d → Q d env' → R v H') → te σ H R
def SemT (K : PySem.W.Frag) (te : TT) (t : DT) : Prop := ∀ (G0 H0 : Hp) (env : DEnv) (σ : L2.St) (G H : Hp) (Q : Bool → DEnv → Prop) (R : Bool → Hp → Prop), ER K G0 H0 env σ G H → t env Q →
  (∀ b H' G' env', Same G G' → ER K G0 H0 env' σ G' H' → Q b env' → R b H') → te σ H R
def SemA (K : PySem.W.Frag) (te : TA) (t : DA) : Prop := ∀ (G0 H0 : Hp) (env : DEnv) (σ : L2.St) (G H : Hp) (Q : List D → DEnv → Prop) (R : List V → Hp → Prop), ER K G0 H0 env σ G H → t env Q →
  (∀ vs H' G' env' ds, Same G G' → ER K G0 H0 env' σ G' H' → Reps K G' ds vs → Q ds env' → R vs H') → te σ H R
def QE (F : Fam) (e : Expr) (t : DE) : Prop := ∃ te : TE, (∀ i, PE (F.X i) e te) ∧ SemE F.K te t
def QO (F : Fam) (e : Expr) (t : DE) : Prop := ∃ te : TE, (∀ i, PE (F.X i) e te) ∧ SemO F.K te t
def QT (F : Fam) (e : Expr) (t : DT) : Prop := ∃ te : TT, (∀ i, PT (F.X i) e te) ∧ SemT F.K te t
def QW (F : Fam) (e : Expr) (t : DT) : Prop := ∃ te : TT, (∀ i, PW (F.X i) e te) ∧ SemT F.K te t
def QA (F : Fam) (es : List Expr) (t : DA) : Prop := ∃ te : TA, (∀ i, PA (F.X i) es te) ∧ SemA F.K te t

section
variable {F : Fam} {e a b c o : Expr} {es : List Expr} {t ta tb tc : DE} {tt tu : DT} {tA : DA} {pos : Pos}
/-- what is owned may be frozen -/
theorem SemO.semE {K : PySem.W.Frag} {te : TE} (h : SemO K te t) : SemE K te t := fun G0 H0 env σ G H Q R I q r =>
  h G0 H0 env σ G H Q R I q fun v H' G' env' d s1 I1 ow q1 => by
    obtain ⟨G2, s2, I2, rp⟩ := I1.freeze ow
    exact r v H' G2 env' d (s1.trans s2) I2 rp q1
theorem QO.qe (h : QO F e t) : QE F e t := let ⟨te, p, s⟩ := h; ⟨te, p, s.semE⟩

def gs : DEnv → Nat → Sl
  | [], _ => .no
  | s :: _, 0 => s
  | _ :: r, i + 1 => gs r i
theorem gs_get : ∀ {env : DEnv} {i : Nat} {s : Sl}, gs env i = s → s ≠ .no → env[i]? = some s
  | [], _, _, h, n => absurd h.symm n
  | x :: _, 0, _, h, _ => by rw [← h]; rfl
  | x :: r, i + 1, s, h, n => by rw [List.getElem?_cons_succ]; exact gs_get (env := r) h n
def ss : DEnv → Nat → Sl → DEnv
  | [], _, _ => []
  | _ :: r, 0, s => s :: r
  | x :: r, i + 1, s => x :: ss r i s
theorem ss_set : ∀ (env : DEnv) (i : Nat) (s : Sl), ss env i s = env.set i s
  | [], i, s => by cases i <;> rfl
  | _ :: _, 0, _ => rfl
  | x :: r, i + 1, s => by rw [List.set_cons_succ, ← ss_set r i s]; rfl
def rdSl (env : DEnv) (i : Nat) (Q : DQ) : Sl → Prop
  | .fz d => Q d env
  | .ow d => Q d (ss env i (.fz d))
  | .no => False
def dVar (i : Nat) : DE := fun env Q => rdSl env i Q (gs env i)
theorem set_same {α : Type} : ∀ {l : List α} {i : Nat} {x : α}, l[i]? = some x → l.set i x = l
  | [], _, _, h => by simp at h
  | y :: r, 0, x, h => by simp at h; simp [h]
  | y :: r, i + 1, x, h => by rw [List.set_cons_succ, set_same (by simpa using h)]
/-- an owned slot is frozen -/
theorem ER.frz {K : PySem.W.Frag} {G0 H0 G H : Hp} {env : DEnv} {σ : L2.St} (I : ER K G0 H0 env σ G H) {i : Nat} {d : D} (h : env[i]? = some (.ow d)) :
    ∃ v G', σ[i]? = some (some v) ∧ Same G G' ∧ ER K G0 H0 (env.set i (.fz d)) σ G' H ∧ Rep K G' d v := by
  obtain ⟨v, e, ow, I1⟩ := I.take h
  obtain ⟨G', s1, I2, rp⟩ := I1.freeze ow
  have I3 := I2.setF rp i
  rw [List.set_set, set_same e] at I3
  exact ⟨v, G', e, s1, I3, rp⟩
theorem semVar {K : PySem.W.Frag} (i : Nat) : SemE K (tVar i) (dVar i) := fun G0 H0 env σ G H Q R I q r => by
  unfold dVar at q
  cases hg : gs env i with
  | no => rw [hg] at q; exact q.elim
  | fz d =>
    rw [hg] at q
    have h := gs_get hg (fun z => nomatch z)
    have l2 : i < σ.length := by rw [← I.len]; exact (List.getElem?_eq_some_iff.mp h).1
    obtain ⟨v, e, rp⟩ := I.sl i _ _ h (List.getElem?_eq_getElem l2)
    exact ⟨v, by rw [List.getElem?_eq_getElem l2, e], r v H G env d (Same.refl G) I rp q⟩
  | ow d =>
    rw [hg] at q
    have q' : Q d (ss env i (.fz d)) := q
    rw [ss_set] at q'
    obtain ⟨v, G', e, s1, I1, rp⟩ := I.frz (gs_get hg (fun z => nomatch z))
    exact ⟨v, e, r v H G' _ d s1 I1 rp q'⟩
theorem qv (i : Nat) {x : Str} (hN : ∀ j, (F.X j).N[i]? = some x := by exact fun _ => rfl) (hv : ∀ j, Vis (F.X j).env.scope x := by first | exact fun _ => Or.inl rfl | exact fun _ => Or.inr (Or.inl rfl) | exact fun _ => Or.inr (Or.inr rfl))
    (hd : (x == ("__debug__" : Str)) = false := by decide) (hcd : (x == ("__classdict__" : Str)) = false := by decide) : QE F (.Name x pos) (dVar i) :=
  ⟨tVar i, fun j => pe_var (hN j) (hv j) hd hcd, semVar i⟩
def tkSl (env : DEnv) (i : Nat) (Q : DQ) : Sl → Prop
  | .ow d => Q d (ss env i .no)
  | _ => False
/-- an owned name handed on as it is -/
def dTake (i : Nat) : DE := fun env Q => tkSl env i Q (gs env i)
theorem qvo (i : Nat) {x : Str} (hN : ∀ j, (F.X j).N[i]? = some x := by exact fun _ => rfl) (hv : ∀ j, Vis (F.X j).env.scope x := by first | exact fun _ => Or.inl rfl | exact fun _ => Or.inr (Or.inl rfl) | exact fun _ => Or.inr (Or.inr rfl))
    (hd : (x == ("__debug__" : Str)) = false := by decide) (hcd : (x == ("__classdict__" : Str)) = false := by decide) : QO F (.Name x pos) (dTake i) :=
  ⟨tVar i, fun j => pe_var (hN j) (hv j) hd hcd, fun G0 H0 env σ G H Q R I q r => by
    unfold dTake at q
    cases hg : gs env i with
    | no => rw [hg] at q; exact q.elim
    | fz d => rw [hg] at q; exact q.elim
    | ow d =>
      rw [hg] at q
      have q' : Q d (ss env i .no) := q
      rw [ss_set] at q'
      obtain ⟨v, e, ow, I1⟩ := I.take (gs_get hg (fun z => nomatch z))
      exact ⟨v, e, r v H G _ d (Same.refl G) I1 ow q'⟩⟩
def dC (d : D) : DE := fun env Q => Q d env
theorem semC {K : PySem.W.Frag} {v : V} {d : D} (h : ∀ G, Rep K G d v) : SemE K (tC v) (dC d) := fun G0 H0 env σ G H Q R I q r => r v H G env d (Same.refl G) I (h G) q
theorem q_int {i j} : QE F (.Constant (.int i) j pos) (dC (.int i)) := ⟨_, fun _ => pe_int, semC fun _ => rfl⟩
theorem q_bl {b j} : QE F (.Constant (.bool b) j pos) (dC (.bl b)) := ⟨_, fun _ => pe_bl, semC fun _ => rfl⟩
theorem q_non {j} : QE F (.Constant .none j pos) (dC .non) := ⟨_, fun _ => pe_non, semC fun _ => rfl⟩
theorem q_str {x j} (l : List Nat) (h : x = ⟨l.toArray⟩ := by rfl) : QE F (.Constant (.str x) j pos) (dC (.str l)) := ⟨_, fun _ => pe_str, semC fun _ => by rw [h]; rfl⟩

/-- what a two-place operator asks of two values -/
def OpC (K : PySem.W.Frag) (r : R2) (c : D → D → (D → Prop) → Prop) : Prop := ∀ (G0 H0 : Hp) (env : DEnv) (σ : L2.St) (G H : Hp) (x y : V) (d e : D) (Q : D → Prop) (R : VK), ER K G0 H0 env σ G H → Rep K G d x → Rep K G e y → c d e Q →
  (∀ v H' G' z, Same G G' → ER K G0 H0 env σ G' H' → Rep K G' z v → Q z → R v H') → r x y H R
def dOp (c : D → D → (D → Prop) → Prop) (ta tb : DE) : DE := fun env Q => ta env fun x env1 => tb env1 fun y env2 => c x y fun z => Q z env2
theorem sem2 {K : PySem.W.Frag} {r : R2} {c : D → D → (D → Prop) → Prop} (hc : OpC K r c) {sa sb : TE} (ha : SemE K sa ta) (hb : SemE K sb tb) : SemE K (tOp r sa sb) (dOp c ta tb) := fun G0 H0 env σ G H Q R I q k =>
  ha G0 H0 env σ G H _ _ I q fun x H1 G1 env1 d s1 I1 r1 q1 => hb G0 H0 env1 σ G1 H1 _ _ I1 q1 fun y H2 G2 env2 e s2 I2 r2 q2 =>
    hc G0 H0 env2 σ G2 H2 x y d e _ R I2 (r1.mono s2) r2 q2 fun v H' G' z s3 I3 r3 q3 => k v H' G' env2 z (s1.trans (s2.trans s3)) I3 r3 q3
theorem q_op {op : Operator} {r : R2} {c : D → D → (D → Prop) → Prop} (ho : ∀ i, OpR (F.X i) (binaryOp op) r) (hc : OpC F.K r c) (ha : QE F a ta) (hb : QE F b tb) : QE F (.BinOp a op b pos) (dOp c ta tb) := by
  obtain ⟨sa, pa, ha⟩ := ha
  obtain ⟨sb, pb, hb⟩ := hb
  exact ⟨tOp r sa sb, fun i => pe_op (ho i) (pa i) (pb i), sem2 hc ha hb⟩
def MulOk (i j : Int) : Prop := (-(2 ^ 64) < i ∧ i < 2 ^ 64) ∨ (-(2 ^ 64) < j ∧ j < 2 ^ 64) ∨ CMulW i j
theorem MulOk.ok {i j : Int} (h : MulOk i j) : IntMulOk i j := by
  rcases h with h | h | h
  · exact CMul.ok (.inl h)
  · exact CMul.ok (.inr h)
  · exact h.ok
theorem op_mulA {X : Cx} : OpR X (binaryOp .Mult) (rI MulOk fun i j => .int (i * j)) := opI fun _ _ _ _ _ _ _ hc q => mul_int q hc.ok
def cAdd (x y : D) (Q : D → Prop) : Prop := match x, y with
  | .int i, .int j => Q (.int (i + j))
  | .str i, .str j => i.length + j.length ≤ sizeLine ∧ Q (.str (i ++ j))
  | .lst i, .lst j => i.length + j.length ≤ sizeLine ∧ Q (.lst (i ++ j))
  | _, _ => False
def cSub (x y : D) (Q : D → Prop) : Prop := match x, y with
  | .int i, .int j => Q (.int (i - j))
  | _, _ => False
def cMul (x y : D) (Q : D → Prop) : Prop := match x, y with
  | .int i, .int j => MulOk i j ∧ Q (.int (i * j))
  | .lst xs, .int k => k < 2 ^ 62 ∧ xs.length * k.toNat ≤ sizeLine ∧ -(2 ^ 62) ≤ k ∧ Q (.lst (List.replicate k.toNat xs).flatten)
  | _, _ => False
def cDiv (x y : D) (Q : D → Prop) : Prop := match x, y with
  | .int i, .int j => 0 < j ∧ j.natAbs.log2 < 9000 ∧ Q (.int (i / j))
  | _, _ => False
def cMod (x y : D) (Q : D → Prop) : Prop := match x, y with
  | .int i, .int j => 0 < j ∧ Q (.int (i % j))
  | _, _ => False
def cPow (x y : D) (Q : D → Prop) : Prop := match x, y with
  | .int i, .int j => 0 ≤ j ∧ j ≤ 1000000 ∧ i.natAbs < 2 ^ 64 ∧ Q (.int (i ^ j.toNat))
  | _, _ => False
theorem rep_int {K : PySem.W.Frag} {G : Hp} {i : Int} {v : V} (h : Rep K G (.int i) v) : v = .int i := h
theorem rep_str {K : PySem.W.Frag} {G : Hp} {i : List Nat} {v : V} (h : Rep K G (.str i) v) : v = .str ⟨i.toArray⟩ := h
theorem str_len (l : List Nat) : (⟨l.toArray⟩ : Str).length = l.length := by
  show l.toArray.size = l.length
  simp
theorem str_app (l m : List Nat) : (⟨l.toArray⟩ : Str) ++ (⟨m.toArray⟩ : Str) = ⟨(l ++ m).toArray⟩ := by
  show (⟨l.toArray ++ m.toArray⟩ : Str) = _
  simp
theorem opc_add {K : PySem.W.Frag} : OpC K (fun x y H Q => rI0 (fun i j => .int (i + j)) x y H Q ∨ (∃ i j, x = .str i ∧ y = .str j ∧ i.length + j.length ≤ sizeLine ∧ Q (.str (i ++ j)) H) ∨ rCat x y H Q) cAdd := by
  intro G0 H0 env σ G H x y d e Q R I r1 r2 q k
  cases d with
  | int i =>
    cases e with
    | int j => exact .inl ⟨i, j, r1, r2, k (.int (i + j)) H G (.int (i + j)) (Same.refl G) I rfl q⟩
    | _ => exact (q : False).elim
  | str i =>
    cases e with
    | str j => exact .inr (.inl ⟨_, _, r1, r2, by rw [str_len, str_len]; exact q.1, by rw [str_app]; exact k _ H G (.str (i ++ j)) (Same.refl G) I rfl q.2⟩)
    | _ => exact (q : False).elim
  | lst i =>
    cases e with
    | lst j =>
      obtain ⟨p, vs, e1, h1, a1⟩ := r1
      obtain ⟨p2, ws, e2, h2, a2⟩ := r2
      refine .inr (.inr ⟨p, p2, vs, ws, e1, e2, I.sub _ _ h1, I.sub _ _ h2, by rw [a1.len, a2.len]; exact q.1, fun l hl => ?_⟩)
      obtain ⟨I2, s2⟩ := I.new (o := .lst (vs ++ ws)) hl
      exact k _ _ _ (.lst (i ++ j)) s2 I2 ⟨l, _, rfl, upd_same, (a1.append a2).mono s2⟩ q.2
    | _ => exact (q : False).elim
  | _ => exact (q : False).elim
theorem q_add (ha : QE F a ta) (hb : QE F b tb) : QE F (.BinOp a .Add b pos) (dOp cAdd ta tb) := q_op (fun _ => op_add.or (op_add_str.or op_cat)) opc_add ha hb
theorem opc_int {K : PySem.W.Frag} {C : Int → Int → Prop} {g : Int → Int → Int} {c : D → D → (D → Prop) → Prop} (h : ∀ i j Q, c (.int i) (.int j) Q → C i j ∧ Q (.int (g i j))) (hn : ∀ d e Q, c d e Q → ∃ i j, d = .int i ∧ e = .int j) : OpC K (rI C fun i j => .int (g i j)) c := by
  intro G0 H0 env σ G H x y d e Q R I r1 r2 q k
  obtain ⟨i, j, rfl, rfl⟩ := hn d e Q q
  obtain ⟨h1, h2⟩ := h i j Q q
  exact ⟨i, j, r1, r2, h1, k (.int (g i j)) H G (.int (g i j)) (Same.refl G) I rfl h2⟩
theorem q_sub (ha : QE F a ta) (hb : QE F b tb) : QE F (.BinOp a .Sub b pos) (dOp cSub ta tb) := q_op (fun _ => opI (C := fun _ _ => True) (fun _ _ _ _ _ _ _ _ q => sub_int q)) (opc_int (fun _ _ _ q => ⟨trivial, q⟩) fun d e Q q => by
  unfold cSub at q; split at q
  · exact ⟨_, _, rfl, rfl⟩
  · exact q.elim) ha hb
theorem q_div (ha : QE F a ta) (hb : QE F b tb) : QE F (.BinOp a .FloorDiv b pos) (dOp cDiv ta tb) := q_op (fun _ => op_fdivW) (opc_int (fun _ _ _ q => ⟨⟨q.1, q.2.1⟩, q.2.2⟩) fun d e Q q => by
  unfold cDiv at q; split at q
  · exact ⟨_, _, rfl, rfl⟩
  · exact q.elim) ha hb
theorem q_mod (ha : QE F a ta) (hb : QE F b tb) : QE F (.BinOp a .Mod b pos) (dOp cMod ta tb) := q_op (fun _ => op_mod) (opc_int (fun _ _ _ q => ⟨q.1, q.2⟩) fun d e Q q => by
  unfold cMod at q; split at q
  · exact ⟨_, _, rfl, rfl⟩
  · exact q.elim) ha hb
theorem q_pow (ha : QE F a ta) (hb : QE F b tb) : QE F (.BinOp a .Pow b pos) (dOp cPow ta tb) := q_op (fun _ => op_pow) (opc_int (fun _ _ _ q => ⟨⟨q.1, q.2.1, q.2.2.1⟩, q.2.2.2⟩) fun d e Q q => by
  unfold cPow at q; split at q
  · exact ⟨_, _, rfl, rfl⟩
  · exact q.elim) ha hb
theorem opc_mul {K : PySem.W.Frag} : OpC K (fun x y H Q => rI MulOk (fun i j => .int (i * j)) x y H Q ∨ rRep x y H Q) cMul := by
  intro G0 H0 env σ G H x y d e Q R I r1 r2 q k
  cases d with
  | int i =>
    cases e with
    | int j => exact .inl ⟨i, j, r1, r2, q.1, k (.int (i * j)) H G (.int (i * j)) (Same.refl G) I rfl q.2⟩
    | _ => exact (q : False).elim
  | lst i =>
    cases e with
    | int j =>
      obtain ⟨p, vs, e1, h1, a1⟩ := r1
      obtain ⟨q1, q2, q3, q4⟩ := q
      refine .inr ⟨p, j, vs, e1, r2, I.sub _ _ h1, by omega, by omega, by rw [a1.len]; exact q2, fun l hl => ?_⟩
      obtain ⟨I2, s2⟩ := I.new (o := .lst (List.replicate j.toNat vs).flatten) hl
      exact k _ _ _ (.lst (List.replicate j.toNat i).flatten) s2 I2 ⟨l, _, rfl, upd_same, (a1.flat _).mono s2⟩ q4
    | _ => exact (q : False).elim
  | _ => exact (q : False).elim
theorem q_mul (ha : QE F a ta) (hb : QE F b tb) : QE F (.BinOp a .Mult b pos) (dOp cMul ta tb) := q_op (fun _ => op_mulA.or op_rep) opc_mul ha hb
/-- -a -/
def cNeg (x : D) (Q : D → Prop) : Prop := match x with
  | .int i => Q (.int (-i))
  | _ => False
def dUn (c : D → (D → Prop) → Prop) (ta : DE) : DE := fun env Q => ta env fun x env1 => c x fun z => Q z env1
theorem q_neg (ha : QE F a ta) : QE F (.UnaryOp .USub a pos) (dUn cNeg ta) := by
  obtain ⟨sa, pa, ha⟩ := ha
  refine ⟨tUn _ sa, fun i => pe_un un_neg (pa i), fun G0 H0 env σ G H Q R I q k => ha G0 H0 env σ G H _ _ I q fun x H1 G1 env1 d s1 I1 r1 q1 => ?_⟩
  cases d with
  | int i => exact ⟨i, r1, k (.int (-i)) H1 G1 _ (.int (-i)) s1 I1 rfl q1⟩
  | _ => exact (q1 : False).elim

def CmpC (K : PySem.W.Frag) (r : R2) (c : D → D → (Bool → Prop) → Prop) : Prop := ∀ (G0 H0 : Hp) (env : DEnv) (σ : L2.St) (G H : Hp) (x y : V) (d e : D) (Q : Bool → Prop) (R : VK), ER K G0 H0 env σ G H → Rep K G d x → Rep K G e y → c d e Q →
  (∀ b, Q b → R (.bl b) H) → r x y H R
def dCmp (c : D → D → (Bool → Prop) → Prop) (ta tb : DE) : DE := fun env Q => ta env fun x env1 => tb env1 fun y env2 => c x y fun z => Q (.bl z) env2
def dCmpT (c : D → D → (Bool → Prop) → Prop) (ta tb : DE) : DT := fun env Q => ta env fun x env1 => tb env1 fun y env2 => c x y fun z => Q z env2
theorem q_cmp {op : CmpOp} {r : R2} {c : D → D → (Bool → Prop) → Prop} (ho : ∀ i, OpR (F.X i) (compareOp op) r) (hc : CmpC F.K r c) (ha : QE F a ta) (hb : QE F b tb) (hm : behindInMarks op b = false) : QE F (.Compare a [op] [b] pos) (dCmp c ta tb) := by
  obtain ⟨sa, pa, ha⟩ := ha
  obtain ⟨sb, pb, hb⟩ := hb
  refine ⟨tOp r sa sb, fun i => pe_cmpR (ho i) (pa i) (pb i) hm, fun G0 H0 env σ G H Q R I q k => ?_⟩
  exact ha G0 H0 env σ G H _ _ I q fun x H1 G1 env1 d s1 I1 r1 q1 => hb G0 H0 env1 σ G1 H1 _ _ I1 q1 fun y H2 G2 env2 e s2 I2 r2 q2 =>
    hc G0 H0 env2 σ G2 H2 x y d e _ R I2 (r1.mono s2) r2 q2 fun z q3 => k _ H2 G2 env2 (.bl z) (s1.trans s2) I2 rfl q3
theorem qt_cmp {op : CmpOp} {r : R2} {c : D → D → (Bool → Prop) → Prop} (ho : ∀ i, OpR (F.X i) (compareOp op) r) (hc : CmpC F.K r c) (ha : QE F a ta) (hb : QE F b tb) (hm : behindInMarks op b = false) : QT F (.Compare a [op] [b] pos) (dCmpT c ta tb) := by
  obtain ⟨sa, pa, ha⟩ := ha
  obtain ⟨sb, pb, hb⟩ := hb
  refine ⟨tTest (tOp r sa sb), fun i => pt_cmpR (ho i) (pa i) (pb i) hm, fun G0 H0 env σ G H Q R I q k => ?_⟩
  exact ha G0 H0 env σ G H _ _ I q fun x H1 G1 env1 d s1 I1 r1 q1 => hb G0 H0 env1 σ G1 H1 _ _ I1 q1 fun y H2 G2 env2 e s2 I2 r2 q2 =>
    hc G0 H0 env2 σ G2 H2 x y d e _ _ I2 (r1.mono s2) r2 q2 fun z q3 => ⟨z, rfl, k z H2 G2 env2 (s1.trans s2) I2 q3⟩
def cOrd (p : Int → Int → Bool) (x y : D) (Q : Bool → Prop) : Prop := match x, y with
  | .int i, .int j => Q (p i j)
  | _, _ => False
theorem cmpc_ord {K : PySem.W.Frag} {p : Int → Int → Bool} : CmpC K (rI0 fun i j => .bl (p i j)) (cOrd p) := by
  intro G0 H0 env σ G H x y d e Q R I r1 r2 q k
  unfold cOrd at q
  split at q
  · exact ⟨_, _, r1, r2, k _ q⟩
  · exact q.elim
abbrev cLt := cOrd fun i j => decide (i < j)
abbrev cLe := cOrd fun i j => decide (i ≤ j)
abbrev cGt := cOrd fun i j => decide (j < i)
abbrev cGe := cOrd fun i j => decide (j ≤ i)
theorem q_lt (ha : QE F a ta) (hb : QE F b tb) : QE F (.Compare a [.Lt] [b] pos) (dCmp cLt ta tb) := q_cmp (fun _ => op_lt) cmpc_ord ha hb (nomark _)
theorem q_le (ha : QE F a ta) (hb : QE F b tb) : QE F (.Compare a [.LtE] [b] pos) (dCmp cLe ta tb) := q_cmp (fun _ => op_le) cmpc_ord ha hb (nomark _)
theorem q_gt (ha : QE F a ta) (hb : QE F b tb) : QE F (.Compare a [.Gt] [b] pos) (dCmp cGt ta tb) := q_cmp (fun _ => op_gt) cmpc_ord ha hb (nomark _)
theorem q_ge (ha : QE F a ta) (hb : QE F b tb) : QE F (.Compare a [.GtE] [b] pos) (dCmp cGe ta tb) := q_cmp (fun _ => op_ge) cmpc_ord ha hb (nomark _)
theorem qt_lt (ha : QE F a ta) (hb : QE F b tb) : QT F (.Compare a [.Lt] [b] pos) (dCmpT cLt ta tb) := qt_cmp (fun _ => op_lt) cmpc_ord ha hb (nomark _)
theorem qt_le (ha : QE F a ta) (hb : QE F b tb) : QT F (.Compare a [.LtE] [b] pos) (dCmpT cLe ta tb) := qt_cmp (fun _ => op_le) cmpc_ord ha hb (nomark _)
theorem qt_gt (ha : QE F a ta) (hb : QE F b tb) : QT F (.Compare a [.Gt] [b] pos) (dCmpT cGt ta tb) := qt_cmp (fun _ => op_gt) cmpc_ord ha hb (nomark _)
theorem qt_ge (ha : QE F a ta) (hb : QE F b tb) : QT F (.Compare a [.GtE] [b] pos) (dCmpT cGe ta tb) := qt_cmp (fun _ => op_ge) cmpc_ord ha hb (nomark _)
mutual
def eqD : D → D → Bool
  | .non, .non => true
  | .bl a, .bl b => a == b
  | .bl a, .int j => (if a then 1 else 0) == j
  | .int i, .bl b => i == (if b then 1 else 0)
  | .int i, .int j => i == j
  | .str x, .str y => x == y
  | .tup xs, .tup ys => eqDs xs ys
  | .lst xs, .lst ys => eqDs xs ys
  | _, _ => false
def eqDs : List D → List D → Bool
  | [], [] => true
  | x :: xs, y :: ys => eqD x y && eqDs xs ys
  | _, _ => false
end
mutual
/-- what == of this layer tells: none, bools, ints, texts, tuples and lists of them -/
def toP : D → PyData
  | .non => .none
  | .bl b => .bool b
  | .int i => .int i
  | .str x => .str ⟨x.toArray⟩
  | .tup ds => .tuple (toPs ds)
  | .lst ds => .list (toPs ds)
  | _ => .none
def toPs : List D → List PyData
  | [] => []
  | d :: ds => toP d :: toPs ds
end
mutual
def shD : Nat → D → Bool
  | _, .non => true
  | _, .bl _ => true
  | _, .int _ => true
  | _, .str x => PyData.strOk ⟨x.toArray⟩
  | n + 1, .tup ds => shDs n ds
  | n + 1, .lst ds => shDs n ds
  | _, _ => false
def shDs : Nat → List D → Bool
  | _, [] => true
  | n, d :: ds => shD n d && shDs n ds
end
mutual
theorem shaped_toP : ∀ (n : Nat) (d : D), shD n d = true → (toP d).canLay0 = true ∧ (toP d).depth ≤ n
  | _, .non, _ => ⟨rfl, Nat.zero_le _⟩
  | _, .bl _, _ => ⟨rfl, Nat.zero_le _⟩
  | _, .int _, _ => ⟨rfl, Nat.zero_le _⟩
  | _, .str x, h => ⟨by simpa [toP, PyData.canLay0, shD] using h, Nat.zero_le _⟩
  | 0, .tup ds, h => by simp [shD] at h
  | 0, .lst ds, h => by simp [shD] at h
  | n + 1, .tup ds, h => by
    have := shaped_toPs n ds (by simpa [shD] using h)
    exact ⟨by simpa [toP, PyData.canLay0] using this.1, by simpa [toP, PyData.depth] using this.2⟩
  | n + 1, .lst ds, h => by
    have := shaped_toPs n ds (by simpa [shD] using h)
    exact ⟨by simpa [toP, PyData.canLay0] using this.1, by simpa [toP, PyData.depth] using this.2⟩
  | n, .scr _, h => by simp [shD] at h
  | n, .dk _ _, h => by simp [shD] at h
  | n, .dt _ _, h => by simp [shD] at h
  | n, .ins _ _ _, h => by simp [shD] at h
theorem shaped_toPs : ∀ (n : Nat) (ds : List D), shDs n ds = true → PyData.canLayAll0 (toPs ds) = true ∧ PyData.depthAll (toPs ds) ≤ n
  | _, [], _ => ⟨rfl, Nat.zero_le _⟩
  | n, d :: ds, h => by
    obtain ⟨h1, h2⟩ := Bool.and_eq_true_iff.mp (by simpa [shDs] using h : (shD n d && shDs n ds) = true)
    obtain ⟨a1, a2⟩ := shaped_toP n d h1
    obtain ⟨b1, b2⟩ := shaped_toPs n ds h2
    exact ⟨by simp [toPs, PyData.canLayAll0, a1, b1], by simp only [toPs, PyData.depthAll]; omega⟩
end
mutual
theorem dp_of {K : PySem.W.Frag} {G H : Hp} (e : Same G H) : ∀ (n : Nat) (d : D) (v : V), shD n d = true → Rep K G d v → Dp K H v (toP d)
  | _, .non, _, _, r => by cases (show _ = _ from r); exact .non
  | _, .bl b, _, _, r => by cases (show _ = _ from r); exact .bl b
  | _, .int i, _, _, r => by cases (show _ = _ from r); exact .int i
  | _, .str x, _, _, r => by cases (show _ = _ from r); exact .str _
  | 0, .tup ds, _, h, _ => by simp [shD] at h
  | 0, .lst ds, _, h, _ => by simp [shD] at h
  | n + 1, .tup ds, v, h, ⟨a, vs, e1, s, r⟩ => by
    subst e1
    exact .tup (Same.sqt e s) (dps_of e n ds vs (by simpa [shD] using h) r)
  | n + 1, .lst ds, v, h, ⟨a, vs, e1, s, r⟩ => by
    subst e1
    exact .lst (SqL.of (e _ _ s)) (dps_of e n ds vs (by simpa [shD] using h) r)
  | n, .scr _, _, h, _ => by simp [shD] at h
  | n, .dk _ _, _, h, _ => by simp [shD] at h
  | n, .dt _ _, _, h, _ => by simp [shD] at h
  | n, .ins _ _ _, _, h, _ => by simp [shD] at h
theorem dps_of {K : PySem.W.Frag} {G H : Hp} (e : Same G H) : ∀ (n : Nat) (ds : List D) (vs : List V), shDs n ds = true → Reps K G ds vs → DpAll K H vs (toPs ds)
  | _, [], vs, _, r => by cases (show _ = _ from r); exact .nil
  | n, d :: ds, vs, h, ⟨v, w, e1, r1, r2⟩ => by
    subst e1
    obtain ⟨h1, h2⟩ := Bool.and_eq_true_iff.mp (by simpa [shDs] using h : (shD n d && shDs n ds) = true)
    exact .cons (dp_of e n d v h1 r1) (dps_of e n ds w h2 r2)
end
theorem str_eq (x y : List Nat) : ((⟨x.toArray⟩ : Str) == ⟨y.toArray⟩) = (x == y) := by
  rw [Bool.eq_iff_iff, beq_iff_eq, beq_iff_eq]
  constructor
  · intro h
    have : x.toArray = y.toArray := by injection h
    simpa using congrArg Array.toList this
  · intro h
    rw [h]
mutual
theorem eqv_toP : ∀ (n : Nat) (d e : D), shD n d = true → shD n e = true → PyData.eqv (toP d) (toP e) = eqD d e
  | n, .non, e, _, h => by cases e <;> first | rfl | (cases n <;> simp [shD] at h)
  | n, .bl b, e, _, h => by cases e <;> first | rfl | (cases n <;> simp [shD] at h)
  | n, .int i, e, _, h => by cases e <;> first | rfl | (cases n <;> simp [shD] at h)
  | n, .str x, e, _, h => by cases e <;> first | rfl | (exact str_eq _ _) | (cases n <;> simp [shD] at h)
  | 0, .tup ds, _, h, _ => by simp [shD] at h
  | 0, .lst ds, _, h, _ => by simp [shD] at h
  | n + 1, .tup ds, e, h1, h => by
    cases e with
    | tup es =>
      have := eqvs_toPs n ds es (by simpa [shD] using h1) (by simpa [shD] using h)
      simpa [toP, PyData.eqv, eqD] using this
    | _ => first | rfl | simp [shD] at h
  | n + 1, .lst ds, e, h1, h => by
    cases e with
    | lst es =>
      have := eqvs_toPs n ds es (by simpa [shD] using h1) (by simpa [shD] using h)
      simpa [toP, PyData.eqv, eqD] using this
    | _ => first | rfl | simp [shD] at h
  | n, .scr _, _, h, _ => by simp [shD] at h
  | n, .dk _ _, _, h, _ => by simp [shD] at h
  | n, .dt _ _, _, h, _ => by simp [shD] at h
  | n, .ins _ _ _, _, h, _ => by simp [shD] at h
theorem eqvs_toPs : ∀ (n : Nat) (ds es : List D), shDs n ds = true → shDs n es = true → PyData.eqvAll (toPs ds) (toPs es) = eqDs ds es
  | _, [], [], _, _ => rfl
  | _, [], _ :: _, _, _ => rfl
  | _, _ :: _, [], _, _ => rfl
  | n, d :: ds, e :: es, h, h' => by
    obtain ⟨h1, h2⟩ := Bool.and_eq_true_iff.mp (by simpa [shDs] using h : (shD n d && shDs n ds) = true)
    obtain ⟨h3, h4⟩ := Bool.and_eq_true_iff.mp (by simpa [shDs] using h' : (shD n e && shDs n es) = true)
    have a := eqv_toP n d e h1 h3
    have b := eqvs_toPs n ds es h2 h4
    simp [toPs, PyData.eqvAll, eqDs, a, b]
end
/-- == : ints and texts at once, other data where it is shaped -/
def cEq (x y : D) (Q : Bool → Prop) : Prop := match x, y with
  | .int i, .int j => Q (decide (i = j))
  | .str i, .str j => Q (decide (i = j))
  | x, y => shD 60 x = true ∧ shD 60 y = true ∧ Q (eqD x y)
def cNe (x y : D) (Q : Bool → Prop) : Prop := cEq x y fun b => Q (!b)
theorem cmpc_eq {K : PySem.W.Frag} : CmpC K (fun x y H Q => rEq x y H Q ∨ rEqD K x y H Q) cEq := by
  intro G0 H0 env σ G H x y d e Q R I r1 r2 q k
  unfold cEq at q
  split at q
  · cases (show _ = _ from r1); cases (show _ = _ from r2)
    refine .inl ⟨rfl, ?_⟩
    have := k _ q
    rwa [show ∀ i j : Int, decide (V.int i = V.int j) = decide (i = j) from fun i j => by simp]
  · cases (show _ = _ from r1); cases (show _ = _ from r2)
    refine .inl ⟨rfl, ?_⟩
    have := k _ q
    rwa [dec_str, str_eq, Bool.beq_eq_decide_eq]
  · obtain ⟨h1, h2, q⟩ := q
    refine .inr ⟨toP d, toP e, dp_of I.sub 60 d x h1 r1, dp_of I.sub 60 e y h2 r2, ?_, ?_, ?_⟩
    · obtain ⟨a, b⟩ := shaped_toP 60 d h1
      exact Bool.and_eq_true_iff.mpr ⟨a, decide_eq_true (by omega)⟩
    · obtain ⟨a, b⟩ := shaped_toP 60 e h2
      exact Bool.and_eq_true_iff.mpr ⟨a, decide_eq_true (by omega)⟩
    · rw [eqv_toP 60 d e h1 h2]
      exact k _ q
theorem cmpc_ne {K : PySem.W.Frag} : CmpC K (fun x y H Q => rNe x y H Q ∨ rNeD K x y H Q) cNe := by
  intro G0 H0 env σ G H x y d e Q R I r1 r2 q k
  unfold cNe at q
  rcases cmpc_eq (K := K) G0 H0 env σ G H x y d e (fun b => Q (!b)) (fun v H' => ∃ b, v = .bl b ∧ R (.bl (!b)) H) I r1 r2 q (fun b hb => ⟨b, rfl, k _ hb⟩) with ⟨h1, b, e1, h2⟩ | ⟨p, q', h1, h2, h3, h4, b, e1, h5⟩
  · cases e1
    exact .inl ⟨h1, h2⟩
  · cases e1
    exact .inr ⟨p, q', h1, h2, h3, h4, h5⟩
theorem q_eq {k : Nat} (hr : ∀ i, Room k (F.X i).A) (ha : QE F a ta) (hb : QE F b tb) : QE F (.Compare a [.Eq] [b] pos) (dCmp cEq ta tb) := q_cmp (fun i => by have := op_eq.or (op_eqD (hr i).units); rw [F.hK] at this; exact this) cmpc_eq ha hb (nomark _)
theorem q_ne {k : Nat} (hr : ∀ i, Room k (F.X i).A) (ha : QE F a ta) (hb : QE F b tb) : QE F (.Compare a [.NotEq] [b] pos) (dCmp cNe ta tb) := q_cmp (fun i => by have := op_ne.or (op_neD (hr i).units); rw [F.hK] at this; exact this) cmpc_ne ha hb (nomark _)
theorem qt_eq {k : Nat} (hr : ∀ i, Room k (F.X i).A) (ha : QE F a ta) (hb : QE F b tb) : QT F (.Compare a [.Eq] [b] pos) (dCmpT cEq ta tb) := qt_cmp (fun i => by have := op_eq.or (op_eqD (hr i).units); rw [F.hK] at this; exact this) cmpc_eq ha hb (nomark _)
theorem qt_ne {k : Nat} (hr : ∀ i, Room k (F.X i).A) (ha : QE F a ta) (hb : QE F b tb) : QT F (.Compare a [.NotEq] [b] pos) (dCmpT cNe ta tb) := qt_cmp (fun i => by have := op_ne.or (op_neD (hr i).units); rw [F.hK] at this; exact this) cmpc_ne ha hb (nomark _)
end
end DL

set_option Elab.async false
set_option linter.all false
set_option maxRecDepth 100000
namespace DL
open PySem PySem.Spec PyProof.Rows L2

section
variable {F : Fam} {e a b c o : Expr} {es : List Expr} {t ta tb tc : DE} {tt tu tv : DT} {tA : DA} {pos : Pos}

/-- two ways -/
def br (b : Bool) (p q : Prop) : Prop := (b = true → p) ∧ (b = false → q)
theorem br_t {p q : Prop} (h : br true p q) : p := h.1 rfl
theorem br_f {p q : Prop} (h : br false p q) : q := h.2 rfl
def dTst (t : DE) : DT := fun env Q => t env fun x env1 => match x with
  | .bl b => Q b env1
  | _ => False
theorem qt_val (h : QE F e t) (he : ∀ i whole, isTrue e (F.X i).env whole = (do let v ← whole; standAt e.pos; holding [v] (truthy v)) := by intro _ _; rfl) : QT F e (dTst t) := by
  obtain ⟨te, p, s⟩ := h
  refine ⟨tB te, fun i => pt_val (p i) (he i), fun G0 H0 env σ G H Q R I q k => s G0 H0 env σ G H _ _ I q fun v H1 G1 env1 d s1 I1 r1 q1 => ?_⟩
  cases d with
  | bl b => exact ⟨b, r1, k b H1 G1 env1 s1 I1 q1⟩
  | _ => exact (q1 : False).elim
def dNot (t : DT) : DT := fun env Q => t env fun b env1 => Q (!b) env1
theorem qt_not (h : QT F a tt) : QT F (.UnaryOp .Not a pos) (dNot tt) := by
  obtain ⟨te, p, s⟩ := h
  exact ⟨tNot te, fun i => pt_not (p i), fun G0 H0 env σ G H Q R I q k => s G0 H0 env σ G H _ _ I q fun b H1 G1 env1 s1 I1 q1 => k (!b) H1 G1 env1 s1 I1 q1⟩
theorem QW.qt (h : QW F e tt) : QT F e tt := let ⟨te, p, s⟩ := h; ⟨te, fun i => (p i).pt, s⟩
def dAnd (t u : DT) : DT := fun env Q => t env fun b env1 => br b (u env1 Q) (Q false env1)
def dOr (t u : DT) : DT := fun env Q => t env fun b env1 => br b (Q true env1) (u env1 Q)
theorem qw_and1 (h : QT F a tt) : QW F (.BoolOp .And [a] pos) tt := let ⟨te, p, s⟩ := h; ⟨te, fun i => pw_and1 (p i), s⟩
theorem qw_or1 (h : QT F a tt) : QW F (.BoolOp .Or [a] pos) tt := let ⟨te, p, s⟩ := h; ⟨te, fun i => pw_or1 (p i), s⟩
theorem qw_and {rest : List Expr} (h : QT F a tt) (h2 : QW F (.BoolOp .And (b :: rest) pos) tu) : QW F (.BoolOp .And (a :: b :: rest) pos) (dAnd tt tu) := by
  obtain ⟨te, p, s⟩ := h
  obtain ⟨te2, p2, s2⟩ := h2
  refine ⟨tAnd te te2, fun i => pw_and (p i) (p2 i), fun G0 H0 env σ G H Q R I q k => s G0 H0 env σ G H _ _ I q fun b H1 G1 env1 e1 I1 q1 => ?_⟩
  cases b with
  | true => exact s2 G0 H0 env1 σ G1 H1 Q R I1 (br_t q1) fun b H2 G2 env2 e2 I2 q2 => k b H2 G2 env2 (e1.trans e2) I2 q2
  | false => exact k false H1 G1 env1 e1 I1 (br_f q1)
theorem qw_or {rest : List Expr} (h : QT F a tt) (h2 : QW F (.BoolOp .Or (b :: rest) pos) tu) : QW F (.BoolOp .Or (a :: b :: rest) pos) (dOr tt tu) := by
  obtain ⟨te, p, s⟩ := h
  obtain ⟨te2, p2, s2⟩ := h2
  refine ⟨tOr te te2, fun i => pw_or (p i) (p2 i), fun G0 H0 env σ G H Q R I q k => s G0 H0 env σ G H _ _ I q fun b H1 G1 env1 e1 I1 q1 => ?_⟩
  cases b with
  | false => exact s2 G0 H0 env1 σ G1 H1 Q R I1 (br_f q1) fun b H2 G2 env2 e2 I2 q2 => k b H2 G2 env2 (e1.trans e2) I2 q2
  | true => exact k true H1 G1 env1 e1 I1 (br_t q1)
/-- as values, all bools -/
def dBl (c : Bool → DEnv → Prop) (x : D) (env : DEnv) : Prop := match x with
  | .bl b => c b env
  | _ => False
def dAndV (ta tb : DE) : DE := fun env Q => ta env fun x env1 => dBl (fun b env1 => br b (tb env1 Q) (Q (.bl false) env1)) x env1
def dOrV (ta tb : DE) : DE := fun env Q => ta env fun x env1 => dBl (fun b env1 => br b (Q (.bl true) env1) (tb env1 Q)) x env1
def dNotV (ta : DE) : DE := fun env Q => ta env fun x env1 => dBl (fun b env1 => Q (.bl (!b)) env1) x env1
theorem q_one {op} (h : QE F a t) : QE F (.BoolOp op [a] pos) t := let ⟨te, p, s⟩ := h; ⟨te, fun i => pe_one (p i), s⟩
theorem q_and {rest : List Expr} (h : QE F a ta) (h2 : QE F (.BoolOp .And (b :: rest) pos) tb) : QE F (.BoolOp .And (a :: b :: rest) pos) (dAndV ta tb) := by
  obtain ⟨te, p, s⟩ := h
  obtain ⟨te2, p2, s2⟩ := h2
  refine ⟨tAndV te te2, fun i => pe_and (p i) (p2 i), fun G0 H0 env σ G H Q R I q k => s G0 H0 env σ G H _ _ I q fun v H1 G1 env1 d e1 I1 r1 q1 => ?_⟩
  cases d with
  | bl b =>
    refine ⟨b, r1, ?_⟩
    cases b with
    | true => exact s2 G0 H0 env1 σ G1 H1 Q R I1 (br_t q1) fun v H2 G2 env2 d e2 I2 r2 q2 => k v H2 G2 env2 d (e1.trans e2) I2 r2 q2
    | false => exact k (.bl false) H1 G1 env1 (.bl false) e1 I1 rfl (br_f q1)
  | _ => exact (q1 : False).elim
theorem q_or {rest : List Expr} (h : QE F a ta) (h2 : QE F (.BoolOp .Or (b :: rest) pos) tb) : QE F (.BoolOp .Or (a :: b :: rest) pos) (dOrV ta tb) := by
  obtain ⟨te, p, s⟩ := h
  obtain ⟨te2, p2, s2⟩ := h2
  refine ⟨tOrV te te2, fun i => pe_or (p i) (p2 i), fun G0 H0 env σ G H Q R I q k => s G0 H0 env σ G H _ _ I q fun v H1 G1 env1 d e1 I1 r1 q1 => ?_⟩
  cases d with
  | bl b =>
    refine ⟨b, r1, ?_⟩
    cases b with
    | false => exact s2 G0 H0 env1 σ G1 H1 Q R I1 (br_f q1) fun v H2 G2 env2 d e2 I2 r2 q2 => k v H2 G2 env2 d (e1.trans e2) I2 r2 q2
    | true => exact k (.bl true) H1 G1 env1 (.bl true) e1 I1 rfl (br_t q1)
  | _ => exact (q1 : False).elim
theorem q_not (h : QE F a ta) : QE F (.UnaryOp .Not a pos) (dNotV ta) := by
  obtain ⟨te, p, s⟩ := h
  refine ⟨tNotV te, fun i => pe_not (p i), fun G0 H0 env σ G H Q R I q k => s G0 H0 env σ G H _ _ I q fun v H1 G1 env1 d e1 I1 r1 q1 => ?_⟩
  cases d with
  | bl b => exact ⟨b, r1, k (.bl (!b)) H1 G1 env1 (.bl (!b)) e1 I1 rfl q1⟩
  | _ => exact (q1 : False).elim
def dIf (c : DT) (ta tb : DE) : DE := fun env Q => c env fun b env1 => br b (ta env1 Q) (tb env1 Q)
theorem q_ifE (hc : QT F c tt) (ha : QE F a ta) (hb : QE F b tb) : QE F (.IfExp c a b pos) (dIf tt ta tb) := by
  obtain ⟨sc, pc, hc⟩ := hc
  obtain ⟨sa, pa, ha⟩ := ha
  obtain ⟨sb, pb, hb⟩ := hb
  refine ⟨tIf sc sa sb, fun i => pe_ifExp (pc i) (pa i) (pb i), fun G0 H0 env σ G H Q R I q k => hc G0 H0 env σ G H _ _ I q fun z H1 G1 env1 e1 I1 q1 => ?_⟩
  cases z with
  | true => exact ha G0 H0 env1 σ G1 H1 Q R I1 (br_t q1) fun v H2 G2 env2 d e2 I2 r2 q2 => k v H2 G2 env2 d (e1.trans e2) I2 r2 q2
  | false => exact hb G0 H0 env1 σ G1 H1 Q R I1 (br_f q1) fun v H2 G2 env2 d e2 I2 r2 q2 => k v H2 G2 env2 d (e1.trans e2) I2 r2 q2
/-- a op b op c -/
def dChain (c c' : D → D → (Bool → Prop) → Prop) (ta tb tc : DE) : DT := fun env Q => ta env fun x env1 => tb env1 fun y env2 => c x y fun z => br z (tc env2 fun w env3 => c' y w fun u => Q u env3) (Q false env2)
theorem qt_chain {op op' : CmpOp} {r r' : R2} {k k' : D → D → (Bool → Prop) → Prop} (ho : ∀ i, OpR (F.X i) (compareOp op) r) (ho' : ∀ i, OpR (F.X i) (compareOp op') r') (hk : CmpC F.K r k) (hk' : CmpC F.K r' k') (ha : QE F a ta) (hb : QE F b tb) (hc : QE F c tc)
    (hm : lastMarks [op, op'] [b, c] = false := by with_unfolding_all rfl) : QT F (.Compare a [op, op'] [b, c] pos) (dChain k k' ta tb tc) := by
  obtain ⟨sa, pa, ha⟩ := ha
  obtain ⟨sb, pb, hb⟩ := hb
  obtain ⟨sc, pc, hc⟩ := hc
  refine ⟨tTest (tChain r r' sa sb sc), fun i => pt_chain (ho i) (ho' i) (pa i) (pb i) (pc i) hm, fun G0 H0 env σ G H Q R I q kk => ?_⟩
  exact ha G0 H0 env σ G H _ _ I q fun x H1 G1 env1 d s1 I1 r1 q1 => hb G0 H0 env1 σ G1 H1 _ _ I1 q1 fun y H2 G2 env2 e s2 I2 r2 q2 =>
    hk G0 H0 env2 σ G2 H2 x y d e _ _ I2 (r1.mono s2) r2 q2 fun z q3 => ⟨z, rfl, by
      cases z with
      | false => exact ⟨false, rfl, kk false H2 G2 env2 (s1.trans s2) I2 (br_f q3)⟩
      | true => exact hc G0 H0 env2 σ G2 H2 _ _ I2 (br_t q3) fun w H3 G3 env3 f s3 I3 r3 q4 => hk' G0 H0 env3 σ G3 H3 y w e f _ _ I3 (r2.mono s3) r3 q4 fun u q5 => ⟨u, rfl, kk u H3 G3 env3 (s1.trans (s2.trans s3)) I3 q5⟩⟩
def dChainV (c c' : D → D → (Bool → Prop) → Prop) (ta tb tc : DE) : DE := fun env Q => dChain c c' ta tb tc env fun b env1 => Q (.bl b) env1
theorem q_chain {op op' : CmpOp} {r r' : R2} {k k' : D → D → (Bool → Prop) → Prop} (ho : ∀ i, OpR (F.X i) (compareOp op) r) (ho' : ∀ i, OpR (F.X i) (compareOp op') r') (hk : CmpC F.K r k) (hk' : CmpC F.K r' k') (ha : QE F a ta) (hb : QE F b tb) (hc : QE F c tc)
    (hm : lastMarks [op, op'] [b, c] = false := by with_unfolding_all rfl) : QE F (.Compare a [op, op'] [b, c] pos) (dChainV k k' ta tb tc) := by
  obtain ⟨sa, pa, ha⟩ := ha
  obtain ⟨sb, pb, hb⟩ := hb
  obtain ⟨sc, pc, hc⟩ := hc
  refine ⟨tChain r r' sa sb sc, fun i => pe_chain (ho i) (ho' i) (pa i) (pb i) (pc i) hm, fun G0 H0 env σ G H Q R I q kk => ?_⟩
  exact ha G0 H0 env σ G H _ _ I q fun x H1 G1 env1 d s1 I1 r1 q1 => hb G0 H0 env1 σ G1 H1 _ _ I1 q1 fun y H2 G2 env2 e s2 I2 r2 q2 =>
    hk G0 H0 env2 σ G2 H2 x y d e _ _ I2 (r1.mono s2) r2 q2 fun z q3 => ⟨z, rfl, by
      cases z with
      | false => exact kk (.bl false) H2 G2 env2 (.bl false) (s1.trans s2) I2 rfl (br_f q3)
      | true => exact hc G0 H0 env2 σ G2 H2 _ _ I2 (br_t q3) fun w H3 G3 env3 f s3 I3 r3 q4 => hk' G0 H0 env3 σ G3 H3 y w e f _ _ I3 (r2.mono s3) r3 q4 fun u q5 => kk (.bl u) H3 G3 env3 (.bl u) (s1.trans (s2.trans s3)) I3 rfl q5⟩

def dNil : DA := fun env Q => Q [] env
def dCons (t : DE) (u : DA) : DA := fun env Q => t env fun x env1 => u env1 fun xs env2 => Q (x :: xs) env2
theorem qa_nil : QA F [] dNil := ⟨tNil, fun _ => pa_nil, fun G0 H0 env σ G H Q R I q k => k [] H G env [] (Same.refl G) I rfl q⟩
theorem qa_cons (h : QE F e t) (h2 : QA F es tA) (hs : ∀ i, starEach (e :: es) (F.X i).env = (false, eval e (F.X i).env) :: starEach es (F.X i).env := by intro _; rfl) : QA F (e :: es) (dCons t tA) := by
  obtain ⟨te, p, s⟩ := h
  obtain ⟨te2, p2, s2⟩ := h2
  exact ⟨tCons te te2, fun i => pa_cons (p i) (p2 i) (hs i), fun G0 H0 env σ G H Q R I q k => s G0 H0 env σ G H _ _ I q fun v H1 G1 env1 d e1 I1 r1 q1 =>
    s2 G0 H0 env1 σ G1 H1 _ _ I1 q1 fun vs H2 G2 env2 ds e2 I2 r2 q2 => k (v :: vs) H2 G2 env2 (d :: ds) (e1.trans e2) I2 ⟨v, vs, rfl, r1.mono e2, r2⟩ q2⟩
def dLst (t : DA) : DE := fun env Q => t env fun xs env1 => xs.length ≤ sizeLine ∧ Q (.lst xs) env1
def dTup (t : DA) : DE := fun env Q => t env fun xs env1 => xs.length ≤ sizeLine ∧ Q (.tup xs) env1
theorem qo_lst (h : QA F es tA) : QO F (.List es pos) (dLst tA) := by
  obtain ⟨te, p, s⟩ := h
  refine ⟨tLst te, fun i => pe_lst (p i), fun G0 H0 env σ G H Q R I q k => s G0 H0 env σ G H _ _ I q fun vs H1 G1 env1 ds e1 I1 r1 q1 => ⟨by rw [r1.len]; exact q1.1, fun l hl => ?_⟩⟩
  exact k _ _ G1 env1 (.lst ds) e1 (I1.newH hl) (I1.freshOwn hl ⟨vs, rfl, r1⟩) q1.2
theorem q_tup {x1} (h : QA F es tA) : QE F (.Tuple es x1 pos) (dTup tA) := by
  obtain ⟨te, p, s⟩ := h
  refine ⟨tTup te, fun i => pe_tup (p i), fun G0 H0 env σ G H Q R I q k => s G0 H0 env σ G H _ _ I q fun vs H1 G1 env1 ds e1 I1 r1 q1 => ⟨by rw [r1.len]; exact q1.1, fun l hl => ?_⟩⟩
  obtain ⟨I2, s2⟩ := I1.new (o := .tup vs) hl
  exact k _ _ _ env1 (.tup ds) (e1.trans s2) I2 ⟨l, vs, rfl, SqT.of upd_same, r1.mono s2⟩ q1.2

def cIx (x y : D) (Q : D → Prop) : Prop := match x, y with
  | .lst ds, .int i => ∃ d, atI ds i = some d ∧ Q d
  | .tup ds, .int i => ∃ d, atI ds i = some d ∧ Q d
  | .scr ns, .int i => ∃ d, atI ns i = some d ∧ Q (.int d)
  | .str s, .int i => s.length ≤ sizeLine ∧ ∃ c, atI s i = some c ∧ Q (.str [c])
  | _, _ => False
theorem reps_at {K : PySem.W.Frag} {G : Hp} {ds : List D} {vs : List V} {i : Int} {d : D} (r : Reps K G ds vs) (h : atI ds i = some d) : ∃ v, atI vs i = some v ∧ Rep K G d v := by
  unfold atI at h ⊢
  rw [r.len]
  cases q : ixN ds.length i with
  | none => rw [q] at h; cases h
  | some j =>
    rw [q] at h
    exact r.get h
theorem atI_map {α β : Type} {f : α → β} {l : List α} {i : Int} : atI (l.map f) i = (atI l i).map f := by
  unfold atI
  rw [List.length_map]
  cases ixN l.length i with
  | none => rfl
  | some j => exact List.getElem?_map
/-- a value that is looked at: frozen, or an owned object as it stands -/
def PRep (K : PySem.W.Frag) (G H : Hp) (d : D) (v : V) : Prop := Rep K G d v ∨ ∃ p, v = .ref p ∧ OwnAt K G H p d
theorem PRep.lst {K : PySem.W.Frag} {G H : Hp} (s : Same G H) {ds : List D} {v : V} (h : PRep K G H (.lst ds) v) : ∃ p vs, v = .ref p ∧ H p = some (.lst vs) ∧ Reps K G ds vs := by
  rcases h with ⟨p, vs, e, h, r⟩ | ⟨p, e, o, h, vs, e2, r⟩
  · exact ⟨p, vs, e, s _ _ h, r⟩
  · exact ⟨p, vs, e, by rw [h, e2], r⟩
theorem PRep.frozen {K : PySem.W.Frag} {G H : Hp} {d : D} {v : V} (h : PRep K G H d v) (n : ∀ o, ¬ Cont K G d o) : Rep K G d v := by
  rcases h with h | ⟨p, e, o, h, c⟩
  · exact h
  · exact (n o c).elim
theorem ix_sem {K : PySem.W.Frag} {G0 H0 : Hp} {env : DEnv} {σ : L2.St} {G H : Hp} {x y : V} {d e : D} {Q : D → Prop} {R : VK} (I : ER K G0 H0 env σ G H) (r1 : PRep K G H d x) (r2 : Rep K G e y) (q : cIx d e Q)
    (k : ∀ v z, Rep K G z v → Q z → R v H) : rIx K x y H R := by
  cases d with
  | lst ds =>
    cases e with
    | int i =>
      obtain ⟨z, q1, q2⟩ := q
      obtain ⟨p, vs, e1, h1, a1⟩ := r1.lst I.sub
      obtain ⟨v, b1, b2⟩ := reps_at a1 q1
      exact .inl ⟨p, vs, i, v, e1, r2, SqL.of h1, b1, k v z b2 q2⟩
    | _ => exact (q : False).elim
  | tup ds =>
    cases e with
    | int i =>
      obtain ⟨z, q1, q2⟩ := q
      obtain ⟨p, vs, e1, h1, a1⟩ := r1.frozen (fun _ z => z)
      obtain ⟨v, b1, b2⟩ := reps_at a1 q1
      exact .inr (.inl ⟨p, vs, i, v, e1, r2, Same.sqt I.sub h1, b1, k v z b2 q2⟩)
    | _ => exact (q : False).elim
  | scr ns =>
    cases e with
    | int i =>
      obtain ⟨z, q1, q2⟩ := q
      obtain ⟨p, e1, h1⟩ := r1.frozen (fun _ z => z)
      exact .inl ⟨p, _, i, .int z, e1, r2, I.sub.seq h1, by rw [atI_map, q1]; rfl, k (.int z) (.int z) rfl q2⟩
    | _ => exact (q : False).elim
  | str s =>
    cases e with
    | int i =>
      obtain ⟨q0, z, q1, q2⟩ := q
      exact .inr (.inr ⟨⟨s.toArray⟩, i, z, r1.frozen (fun _ z => z), r2, by rw [str_len]; exact q0, by simpa using q1, k (.str ⟨#[z]⟩) (.str [z]) rfl q2⟩)
    | _ => exact (q : False).elim
  | _ => exact (q : False).elim
theorem opc_ix {K : PySem.W.Frag} : OpC K (rIx K) cIx := fun G0 H0 env σ G H x y d e Q R I r1 r2 q k => ix_sem I (.inl r1) r2 q fun v z r h => k v H G z (Same.refl G) I r h
theorem q_ix (ha : QE F a ta) (hb : QE F b tb) (hs : PlainIx b := by exact fun _ _ => rfl) : QE F (.Subscript a b pos) (dOp cIx ta tb) := by
  obtain ⟨sa, pa, ha⟩ := ha
  obtain ⟨sb, pb, hb⟩ := hb
  exact ⟨tOp (rIx F.K) sa sb, fun i => pe_ix (by have := ix_seq (X := F.X i); rw [F.hK] at this; exact this) (pa i) (pb i) hs, sem2 opc_ix ha hb⟩
/-- what a slot holds, owned or frozen, looked at alone -/
def slD : Sl → (D → Prop) → Prop
  | .fz d, Q => Q d
  | .ow d, Q => Q d
  | .no, _ => False
/-- the object of a slot, looked at -/
theorem ER.peek {K : PySem.W.Frag} {G0 H0 G H : Hp} {env : DEnv} {σ : L2.St} (I : ER K G0 H0 env σ G H) {i : Nat} {Q : D → Prop} (h : slD (gs env i) Q) :
    ∃ v d, σ[i]? = some (some v) ∧ Q d ∧ PRep K G H d v := by
  cases hg : gs env i with
  | no => rw [hg] at h; exact h.elim
  | fz d =>
    rw [hg] at h
    have h1 := gs_get hg (fun z => nomatch z)
    have l2 : i < σ.length := by rw [← I.len]; exact (List.getElem?_eq_some_iff.mp h1).1
    obtain ⟨v, e, rp⟩ := I.sl i _ _ h1 (List.getElem?_eq_getElem l2)
    exact ⟨v, d, by rw [List.getElem?_eq_getElem l2, e], h, .inl rp⟩
  | ow d =>
    rw [hg] at h
    have h1 := gs_get hg (fun z => nomatch z)
    have l2 : i < σ.length := by rw [← I.len]; exact (List.getElem?_eq_some_iff.mp h1).1
    obtain ⟨p, e, g, h0, own⟩ := I.sl i _ _ h1 (List.getElem?_eq_getElem l2)
    exact ⟨.ref p, d, by rw [List.getElem?_eq_getElem l2, e], h, .inr ⟨p, rfl, own⟩⟩
def bound : Sl → Prop
  | .no => False
  | _ => True
/-- x[i] of a name: it is looked at alone -/
def dIxV (j : Nat) (tb : DE) : DE := fun env Q => bound (gs env j) ∧ tb env fun y env1 => slD (gs env1 j) fun x => cIx x y fun z => Q z env1
theorem q_ixv (j : Nat) {x : Str} {ipos : Pos} (hb : QE F b tb) (hN : ∀ i, (F.X i).N[j]? = some x := by exact fun _ => rfl) (hv : ∀ i, Vis (F.X i).env.scope x := by first | exact fun _ => Or.inl rfl | exact fun _ => Or.inr (Or.inl rfl) | exact fun _ => Or.inr (Or.inr rfl)) (hs : PlainIx b := by exact fun _ _ => rfl) (hd : (x == ("__debug__" : Str)) = false := by decide) (hcd : (x == ("__classdict__" : Str)) = false := by decide) :
    QE F (.Subscript (.Name x ipos) b pos) (dIxV j tb) := by
  obtain ⟨sb, pb, hb⟩ := hb
  refine ⟨tOp (rIx F.K) (tVar j) sb, fun i => pe_ix (by have := ix_seq (X := F.X i); rw [F.hK] at this; exact this) (pe_var (hN i) (hv i) hd hcd) (pb i) hs, fun G0 H0 env σ G H Q R I q k => ?_⟩
  obtain ⟨hn, q⟩ := q
  obtain ⟨v, d, e, _, _⟩ := I.peek (i := j) (Q := fun _ => True) (by
    cases z : gs env j with
    | no => rw [z] at hn; exact hn
    | fz d => trivial
    | ow d => trivial)
  refine ⟨v, e, hb G0 H0 env σ G H _ _ I q fun y H1 G1 env1 f s1 I1 r1 q1 => ?_⟩
  obtain ⟨v', d', e', q2, rp⟩ := I1.peek q1
  rw [e] at e'
  cases e'
  exact ix_sem I1 rp r1 q2 fun u z r h => k u H1 G1 env1 z s1 I1 r h

def SemP (K : PySem.W.Frag) (te : TE) (t : DE) : Prop := ∀ (G0 H0 : Hp) (env : DEnv) (σ : L2.St) (G H : Hp) (Q : DQ) (R : VK), ER K G0 H0 env σ G H → t env Q →
  (∀ v H' G' env' d, Same G G' → ER K G0 H0 env' σ G' H' → PRep K G' H' d v → Q d env' → R v H') → te σ H R
def QP (F : Fam) (e : Expr) (t : DE) : Prop := ∃ te : TE, (∀ i, PE (F.X i) e te) ∧ SemP F.K te t
theorem QE.qp (h : QE F e t) : QP F e t := let ⟨te, p, s⟩ := h; ⟨te, p, fun G0 H0 env σ G H Q R I q k => s G0 H0 env σ G H Q R I q fun v H' G' env' d s1 I1 r q1 => k v H' G' env' d s1 I1 (.inl r) q1⟩
def dPk (i : Nat) : DE := fun env Q => slD (gs env i) fun d => Q d env
theorem qpv (i : Nat) {x : Str} (hN : ∀ j, (F.X j).N[i]? = some x := by exact fun _ => rfl) (hv : ∀ j, Vis (F.X j).env.scope x := by first | exact fun _ => Or.inl rfl | exact fun _ => Or.inr (Or.inl rfl) | exact fun _ => Or.inr (Or.inr rfl))
    (hd : (x == ("__debug__" : Str)) = false := by decide) (hcd : (x == ("__classdict__" : Str)) = false := by decide) : QP F (.Name x pos) (dPk i) :=
  ⟨tVar i, fun j => pe_var (hN j) (hv j) hd hcd, fun G0 H0 env σ G H Q R I q r => by
    obtain ⟨v, d, e, q1, rp⟩ := I.peek q
    exact ⟨v, e, r v H G env d (Same.refl G) I rp q1⟩⟩

def CalP (K : PySem.W.Frag) (r : List V → Hp → VK → Prop) (c : D → (D → Prop) → Prop) : Prop := ∀ (G0 H0 : Hp) (env : DEnv) (σ : L2.St) (G H : Hp) (x : V) (d : D) (Q : D → Prop) (R : VK), ER K G0 H0 env σ G H → PRep K G H d x → c d Q →
  (∀ v H' G' z, Same G G' → ER K G0 H0 env σ G' H' → Rep K G' z v → Q z → R v H') → r [x] H R
def CalO (K : PySem.W.Frag) (r : List V → Hp → VK → Prop) (c : D → (D → Prop) → Prop) : Prop := ∀ (G0 H0 : Hp) (env : DEnv) (σ : L2.St) (G H : Hp) (x : V) (d : D) (Q : D → Prop) (R : VK), ER K G0 H0 env σ G H → PRep K G H d x → c d Q →
  (∀ v H' G' z, Same G G' → ER K G0 H0 env σ G' H' → OwnV K H0 env σ G' H' v z → Q z → R v H') → r [x] H R
def dCal (c : D → (D → Prop) → Prop) (t : DE) : DE := fun env Q => t env fun d env1 => c d fun z => Q z env1
section
variable {r : List V → Hp → VK → Prop} {c : D → (D → Prop) → Prop} {x : Str} {p : Pos} {id T : String}
theorem pa1 {X : Cx} {te : TE} (h : PE X e te) (hs : starEach (e :: []) X.env = (false, eval e X.env) :: starEach [] X.env) : PA X [e] (tCons te tNil) := pa_cons h pa_nil hs
theorem sem_cal {te : TE} {K : PySem.W.Frag} (hc : CalP K r c) (h : SemP K te t) : SemE K (tCB r (tCons te tNil)) (dCal c t) := fun G0 H0 env σ G H Q R I q k =>
  h G0 H0 env σ G H _ _ I q fun v H1 G1 env1 d s1 I1 r1 q1 => hc G0 H0 env1 σ G1 H1 v d _ _ I1 r1 q1 fun w H2 G2 z s2 I2 r2 q2 => k w H2 G2 env1 z (s1.trans s2) I2 r2 q2
theorem sem_calO {te : TE} {K : PySem.W.Frag} (hc : CalO K r c) (h : SemP K te t) : SemO K (tCB r (tCons te tNil)) (dCal c t) := fun G0 H0 env σ G H Q R I q k =>
  h G0 H0 env σ G H _ _ I q fun v H1 G1 env1 d s1 I1 r1 q1 => hc G0 H0 env1 σ G1 H1 v d _ _ I1 r1 q1 fun w H2 G2 z s2 I2 r2 q2 => k w H2 G2 env1 z (s1.trans s2) I2 r2 q2
theorem q_callB (hr : ∀ i, CallR (F.X i) (.builtin id) r) (hc : CalP F.K r c) (hg : ∀ i, Gl (F.X i) x) (hm : ∀ i, (F.X i).mg x = none) (hv : bootBuiltins x = some (.builtin id)) (h : QP F e t) (hn : x ≠ "__name__" := by decide) (hdb : (x == ("__debug__" : Str)) = false := by decide)
    (hs : ∀ i, starEach (e :: []) (F.X i).env = (false, eval e (F.X i).env) :: starEach [] (F.X i).env := by intro _; rfl) : QE F (.Call (.Name x p) [e] [] pos) (dCal c t) := by
  obtain ⟨te, pe, s⟩ := h
  exact ⟨_, fun i => pe_callB (hr i) (hg i) (hm i) hv (pa1 (pe i) (hs i)) hn hdb (he := hs i), sem_cal hc s⟩
theorem q_callT (hr : ∀ i, CallR (F.X i) (.type T) r) (hc : CalP F.K r c) (hg : ∀ i, Gl (F.X i) x) (hm : ∀ i, (F.X i).mg x = none) (hv : bootBuiltins x = some (.type T)) (h : QP F e t) (hn : x ≠ "__name__" := by decide) (hdb : (x == ("__debug__" : Str)) = false := by decide)
    (hs : ∀ i, starEach (e :: []) (F.X i).env = (false, eval e (F.X i).env) :: starEach [] (F.X i).env := by intro _; rfl) : QE F (.Call (.Name x p) [e] [] pos) (dCal c t) := by
  obtain ⟨te, pe, s⟩ := h
  exact ⟨_, fun i => pe_callTy (hr i) (hg i) (hm i) hv (pa1 (pe i) (hs i)) hn hdb (he := hs i), sem_cal hc s⟩
theorem qo_callB (hr : ∀ i, CallR (F.X i) (.builtin id) r) (hc : CalO F.K r c) (hg : ∀ i, Gl (F.X i) x) (hm : ∀ i, (F.X i).mg x = none) (hv : bootBuiltins x = some (.builtin id)) (h : QP F e t) (hn : x ≠ "__name__" := by decide) (hdb : (x == ("__debug__" : Str)) = false := by decide)
    (hs : ∀ i, starEach (e :: []) (F.X i).env = (false, eval e (F.X i).env) :: starEach [] (F.X i).env := by intro _; rfl) : QO F (.Call (.Name x p) [e] [] pos) (dCal c t) := by
  obtain ⟨te, pe, s⟩ := h
  exact ⟨_, fun i => pe_callB (hr i) (hg i) (hm i) hv (pa1 (pe i) (hs i)) hn hdb (he := hs i), sem_calO hc s⟩
theorem qo_callT (hr : ∀ i, CallR (F.X i) (.type T) r) (hc : CalO F.K r c) (hg : ∀ i, Gl (F.X i) x) (hm : ∀ i, (F.X i).mg x = none) (hv : bootBuiltins x = some (.type T)) (h : QP F e t) (hn : x ≠ "__name__" := by decide) (hdb : (x == ("__debug__" : Str)) = false := by decide)
    (hs : ∀ i, starEach (e :: []) (F.X i).env = (false, eval e (F.X i).env) :: starEach [] (F.X i).env := by intro _; rfl) : QO F (.Call (.Name x p) [e] [] pos) (dCal c t) := by
  obtain ⟨te, pe, s⟩ := h
  exact ⟨_, fun i => pe_callTy (hr i) (hg i) (hm i) hv (pa1 (pe i) (hs i)) hn hdb (he := hs i), sem_calO hc s⟩
end
def cLen (d : D) (Q : D → Prop) : Prop := match d with
  | .lst ds => Q (.int ds.length)
  | .tup ds => Q (.int ds.length)
  | .scr ds => Q (.int ds.length)
  | .str s => s.length ≤ sizeLine ∧ Q (.int s.length)
  | _ => False
theorem calp_len {K : PySem.W.Frag} : CalP K (fun xs H Q => ∃ x n, xs = [x] ∧ LenV K x H n ∧ Q (.int n) H) cLen := by
  intro G0 H0 env σ G H x d Q R I r q k
  cases d with
  | lst ds =>
    obtain ⟨p, vs, rfl, h1, a1⟩ := r.lst I.sub
    exact ⟨_, ds.length, rfl, .inl ⟨vs, SqL.of h1, a1.len.symm⟩, k _ H G (.int ds.length) (Same.refl G) I rfl q⟩
  | tup ds =>
    obtain ⟨p, vs, rfl, h1, a1⟩ := r.frozen (fun _ z => z)
    exact ⟨_, ds.length, rfl, .inr ⟨vs, Same.sqt I.sub h1, a1.len.symm⟩, k _ H G (.int ds.length) (Same.refl G) I rfl q⟩
  | scr ds =>
    obtain ⟨p, rfl, h1⟩ := r.frozen (fun _ z => z)
    exact ⟨_, ds.length, rfl, .inl ⟨_, I.sub.seq h1, by simp⟩, k _ H G (.int ds.length) (Same.refl G) I rfl q⟩
  | str s =>
    cases (show _ = _ from r.frozen (fun _ z => z))
    exact ⟨_, s.length, rfl, ⟨by rw [str_len]; exact q.1, (str_len s).symm⟩, k _ H G (.int s.length) (Same.refl G) I rfl q.2⟩
  | _ => exact (q : False).elim
theorem q_len {p : Pos} (hm : ∀ i, (F.X i).mg "len" = none) (h : QP F e t) (hg : ∀ i, Gl (F.X i) "len" := by exact fun _ => rfl) (hs : ∀ i, starEach (e :: []) (F.X i).env = (false, eval e (F.X i).env) :: starEach [] (F.X i).env := by intro _; rfl) : QE F (.Call (.Name "len" p) [e] [] pos) (dCal cLen t) :=
  q_callB (fun i => by have := call_len (X := F.X i); rw [F.hK] at this; exact this) calp_len hg hm boot_len h (hs := hs)
def cInt (d : D) (Q : D → Prop) : Prop := match d with
  | .int i => Q (.int i)
  | .bl b => Q (.int (if b then 1 else 0))
  | _ => False
theorem calp_int {K : PySem.W.Frag} : CalP K (fun xs H Q => (∃ i, xs = [.int i] ∧ Q (.int i) H) ∨ ∃ k, xs = [.bl k] ∧ Q (.int (if k then 1 else 0)) H) cInt := by
  intro G0 H0 env σ G H x d Q R I r q k
  cases d with
  | int i =>
    cases (show _ = _ from r.frozen (fun _ z => z))
    exact .inl ⟨i, rfl, k _ H G (.int i) (Same.refl G) I rfl q⟩
  | bl b =>
    cases (show _ = _ from r.frozen (fun _ z => z))
    exact .inr ⟨b, rfl, k _ H G (.int (if b then 1 else 0)) (Same.refl G) I rfl q⟩
  | _ => exact (q : False).elim
theorem q_intc {p : Pos} (hm : ∀ i, (F.X i).mg "int" = none) (h : QP F e t) (hg : ∀ i, Gl (F.X i) "int" := by exact fun _ => rfl) (hs : ∀ i, starEach (e :: []) (F.X i).env = (false, eval e (F.X i).env) :: starEach [] (F.X i).env := by intro _; rfl) : QE F (.Call (.Name "int" p) [e] [] pos) (dCal cInt t) :=
  q_callT (fun i => call_int1) calp_int hg hm (by decide +kernel) h (hs := hs)
def cListc (d : D) (Q : D → Prop) : Prop := match d with
  | .lst ds => Q (.lst ds)
  | .tup ds => Q (.lst ds)
  | .scr ns => Q (.lst (ns.map .int))
  | _ => False
theorem calo_list {K : PySem.W.Frag} : CalO K (fun xs H Q => ∃ p ys, xs = [.ref p] ∧ (SqL K H p ys ∨ SqT K H p ys) ∧ ∀ l, H l = none → Q (.ref l) (upd H l (.lst ys))) cListc := by
  intro G0 H0 env σ G H x d Q R I r q k
  have fin : ∀ {ds : List D} {vs : List V} {l : Addr}, Reps K G ds vs → Q (.lst ds) → H l = none → R (.ref l) (upd H l (.lst vs)) := fun {ds vs l} r q hl =>
    k _ _ G (.lst ds) (Same.refl G) (I.newH hl) (I.freshOwn hl ⟨vs, rfl, r⟩) q
  cases d with
  | lst ds =>
    obtain ⟨p, vs, rfl, h1, a1⟩ := r.lst I.sub
    exact ⟨p, vs, rfl, .inl (SqL.of h1), fun l hl => fin a1 q hl⟩
  | tup ds =>
    obtain ⟨p, vs, rfl, h1, a1⟩ := r.frozen (fun _ z => z)
    exact ⟨p, vs, rfl, .inr (Same.sqt I.sub h1), fun l hl => fin a1 q hl⟩
  | scr ns =>
    obtain ⟨p, rfl, h1⟩ := r.frozen (fun _ z => z)
    exact ⟨p, _, rfl, .inl (I.sub.seq h1), fun l hl => fin (Reps.ints ns) q hl⟩
  | _ => exact (q : False).elim
theorem qo_list {p : Pos} (hm : ∀ i, (F.X i).mg "list" = none) (h : QP F e t) (hg : ∀ i, Gl (F.X i) "list" := by exact fun _ => rfl) (hs : ∀ i, starEach (e :: []) (F.X i).env = (false, eval e (F.X i).env) :: starEach [] (F.X i).env := by intro _; rfl) : QO F (.Call (.Name "list" p) [e] [] pos) (dCal cListc t) :=
  qo_callT (fun i => by have := call_list_of (X := F.X i); rw [F.hK] at this; exact this) calo_list hg hm (by decide +kernel) h (hs := hs)
def cTupc (d : D) (Q : D → Prop) : Prop := match d with
  | .lst ds => Q (.tup ds)
  | .tup ds => Q (.tup ds)
  | .scr ns => Q (.tup (ns.map .int))
  | _ => False
theorem calp_tuple {K : PySem.W.Frag} : CalP K (fun xs H Q => ∃ p ys, xs = [.ref p] ∧ ((SqL K H p ys ∧ ∀ l, H l = none → Q (.ref l) (upd H l (.tup ys))) ∨ (SqT K H p ys ∧ Q (.ref p) H))) cTupc := by
  intro G0 H0 env σ G H x d Q R I r q k
  have fin : ∀ {ds : List D} {vs : List V} {l : Addr}, Reps K G ds vs → Q (.tup ds) → H l = none → R (.ref l) (upd H l (.tup vs)) := fun {ds vs l} r q hl => by
    obtain ⟨I2, s2⟩ := I.new (o := .tup vs) hl
    exact k _ _ _ (.tup ds) s2 I2 ⟨l, vs, rfl, SqT.of upd_same, r.mono s2⟩ q
  cases d with
  | lst ds =>
    obtain ⟨p, vs, rfl, h1, a1⟩ := r.lst I.sub
    exact ⟨p, vs, rfl, .inl ⟨SqL.of h1, fun l hl => fin a1 q hl⟩⟩
  | tup ds =>
    have r' := r.frozen (fun _ z => z)
    obtain ⟨p, vs, rfl, h1, a1⟩ := id r'
    exact ⟨p, vs, rfl, .inr ⟨Same.sqt I.sub h1, k _ H G (.tup ds) (Same.refl G) I r' q⟩⟩
  | scr ns =>
    obtain ⟨p, rfl, h1⟩ := r.frozen (fun _ z => z)
    exact ⟨p, _, rfl, .inl ⟨I.sub.seq h1, fun l hl => fin (Reps.ints ns) q hl⟩⟩
  | _ => exact (q : False).elim
theorem q_tuplec {p : Pos} (hm : ∀ i, (F.X i).mg "tuple" = none) (h : QP F e t) (hg : ∀ i, Gl (F.X i) "tuple" := by exact fun _ => rfl) (hs : ∀ i, starEach (e :: []) (F.X i).env = (false, eval e (F.X i).env) :: starEach [] (F.X i).env := by intro _; rfl) : QE F (.Call (.Name "tuple" p) [e] [] pos) (dCal cTupc t) :=
  q_callT (fun i => by have := call_tuple_of (X := F.X i); rw [F.hK] at this; exact this) calp_tuple hg hm (by decide +kernel) h (hs := hs)
/-- n.bit_length() -/
def cBits (d : D) (Q : D → Prop) : Prop := match d with
  | .int i => Q (.int (Builtin.Int.intBits i : Nat))
  | _ => False
theorem q_bits {apos : Pos} (h : QE F o t) (hbase : ∀ i, attributeBase o "bit_length" (F.X i).env (eval o (F.X i).env) = eval o (F.X i).env := by intro _; rfl) (hline : (apos.endLine == pos.line) = true := by rfl) : QE F (.Call (.Attribute o "bit_length" apos) [] [] pos) (dCal cBits t) := by
  obtain ⟨te, pe, s⟩ := h
  refine ⟨tBits te, fun i => pe_bits (pe i) (hbase i) hline, fun G0 H0 env σ G H Q R I q k => s G0 H0 env σ G H _ _ I q fun v H1 G1 env1 d s1 I1 r1 q1 => ?_⟩
  cases d with
  | int i => exact ⟨i, r1, k (.int (Builtin.Int.intBits i : Nat)) H1 G1 env1 (.int (Builtin.Int.intBits i : Nat)) s1 I1 rfl q1⟩
  | _ => exact (q1 : False).elim
end
end DL

set_option Elab.async false
set_option linter.all false
set_option maxRecDepth 100000
namespace DL
open PySem PySem.Spec PyProof.Rows L2
structure RoomG (k : Nat) (A : Around) : Prop extends Room k A where
  g : A.guards = some []
theorem RoomG.mono {j k : Nat} {A : Around} (r : RoomG k A) (h : j ≤ k) : RoomG j A := ⟨r.toRoom.mono h, r.g⟩
theorem RoomG.deeper {k : Nat} {A : Around} (r : RoomG (k + 1) A) (env : Env) : RoomG k (A.deeper env) := ⟨r.toRoom.deeper env, r.g⟩
/-- a def's promise to such a place -/
structure FnG (P : Program) (w : World) (K : PySem.W.Frag) (mg : Str → Option Value) (base : Heap) (CX : CXT) (k : Nat) (f : Addr) (fd : FuncData) (ps : List Str) (sp : Sp) : Prop where
  len : ∀ vs H Q E, sp vs H Q E → vs.length = ps.length
  run : ∀ (A : Around) (outer : List Env) (s : Shared) (H : Hp) (args : Args) (us : List Value) (vs : List V) (Q : VK) (E : XK), RoomG k A → Env0 P w K mg base A outer s H → BindsTo s fd args (ps.zip us) → Vals vs us → sp vs H Q E →
    codeAny (model P w) A (.call (.ref f) args) (CR CX outer P w H s Q E) s
section
variable {P : Program} {w : World} {K : PySem.W.Frag} {mg : Str → Option Value} {base : Heap} {CX : CXT} {k : Nat} {f : Addr} {fd : FuncData} {ps : List Str} {sp : Sp}
theorem FunD.okG {x qual : Str} {params : Arguments} {body : List Stmt} {scope : Scope} {dvs : List V} {kws : List (Str × V)} {N : List Str} (F : FunD K x qual params body scope dvs kws f fd) (Sc : FnScope N ps scope) (len : ∀ vs H Q E, sp vs H Q E → vs.length = ps.length)
    (hbody : ∀ (cdv : Value) (A : Around) (outer : List Env) (s : Shared) (H : Hp) (vs : List V) (Q : VK) (E : XK), RoomG k (A.deeper (envOfC qual scope s.heap.objs.size f cdv)) → sp vs H Q E →
      ∃ t, PSs (cxOf CX P w K mg base N qual scope f cdv A outer s H E) body t ∧ t { nx := fun _ H' => Q .non H', rt := Q } (start N vs) H) : FnG P w K mg base CX (k + 1) f fd ps sp := by
  obtain ⟨oc, od, dV, kV, doc, pm, an, cdv, ct, osl, rfl, lk, hcd, _, _⟩ := F.ex
  refine ⟨len, fun A outer s H args us vs Q E hr e0 hb r hsp => ?_⟩
  have keeps : s.heap.NoLimit ∧ K.In s.heap := ⟨e0.mod.nolimit.keeps fun b o e => (e0.bs b o e).1, e0.mod.kin.keeps fun b o e => (e0.bs b o e).1⟩
  have hkind : ∀ y ∈ ps.zip us, scope.names.lookup y.1 = some .local ∨ (scope.names.lookup y.1 = some .cell ∧ ((cellsFrom (s.heap.objs.size + 1) scope.names []).lookup y.1).isSome = true) := by
    rintro ⟨n, v⟩ hy
    cases Sc.par n (List.of_mem_zip hy).1 with
    | inl q => exact .inl q
    | inr q => exact .inr ⟨q, PySem.W.cellsFrom_some _ _ _ (.inl q)⟩
  refine codeAny_call_function hr.toRoom.depth (keeps.2 _ _ lk) rfl Sc.co Sc.gen rfl (PySem.W.codeRec_of keeps.2 hcd) (hb _ _ _ _ (wpAny_newFunctionEnv_cells Sc.kind hkind fun env he s1 x => ?_))
  subst he
  obtain ⟨t, ht, hq⟩ := hbody cdv A outer s H vs Q E (hr.deeper _) hsp
  refine ⟨keeps.1.keeps x.toInCall.keep, codeAny_func (wpAny_mono (ht.run [] s1 (start N vs) H _ (inv_start Sc hr.hd e0 (len _ _ _ _ hsp) r x) hq) (fun fl s' hs => ?_) fun _ _ hs => hs)⟩
  cases fl with
  | ret u =>
    obtain ⟨v, σ', H', J, rv, q⟩ := hs
    exact ⟨v, H', J.os, J.bare, J.base, J.hok, rv, q⟩
  | next =>
    obtain ⟨σ', H', J, q⟩ := hs
    exact ⟨.non, H', J.os, J.bare, J.base, J.hok, (rfl : RelV V.non Value.none), q⟩
  | brk => exact hs.elim fun _ h => h.elim fun _ h => h.2.elim
  | cont => exact hs.elim fun _ h => h.elim fun _ h => h.2.elim
end
section
variable {X : Cx} {CX : CXT} {k n : Nat} {f : Addr} {fd : FuncData} {ps ks : List Str} {sp : Sp} {dvs : List V} {ds : List Value} {E : XK} {x : Str} {p pos : Pos} {e : Expr} {es : List Expr} {t tk : TA} {kws : List Keyword} {g : List Value → List Value → List Value} {gV : List V → List V → List V}
theorem FnG.call {pins : List (Addr × Obj)} {σ : L2.St} {H : Hp} {s : Shared} {Q : VK} {args : Args} {us : List Value} {vs : List V} (F : FnG X.prog X.w X.K X.mg X.base CX k f fd ps sp) (hr : RoomG k X.A) (hx : Passes CX X E) (I : Inv X pins σ H s) (hb : BindsTo s fd args (ps.zip us)) (r : Vals vs us) (h : sp vs H Q E) :
    codeAny (model X.prog X.w) X.A (.call (.ref f) args) (fun r s' => match r with | .ok (.ret u) => EP X pins σ Q u s' | .ok _ => False | .error e => X.xe e s') s :=
  codeAny_mono (F.run X.A X.stack s H args us vs Q E hr I.env0 hb r h) fun r s' hq => by
    cases r with
    | error e => exact hx pins σ H s e s' I hq
    | ok fl => cases fl <;> first | exact I.after hq | exact False.elim hq
theorem pe_callG (F : FnG X.prog X.w X.K X.mg X.base CX k f fd ps sp) (hr : RoomG k X.A) (hg : Gl X x) (hm : X.mg x = some (.ref f)) (hk : PySem.W.keepIn X.K (.ref f) = true) (hb : Binds X.K fd ps ds) (hd : Vals dvs ds) (hx : Passes CX X E)
    (ha : PA X (e :: es) t) (hdb : (x == ("__debug__" : Str)) = false := by decide) (he : starEach (e :: es) X.env = (false, eval e X.env) :: starEach es X.env := by rfl) (hpl : (backTo pos (starEach es X.env)).any (·.1) = false := by rfl) :
    PE X (.Call (.Name x p) (e :: es) [] pos) (tCall sp dvs E t) :=
  ⟨fun pins s σ H Q I h => wpAny_Call_Name_kw (ld_glob I hg hm (PySem.W.callWith_K (h₀ := X.base) I.ok.mod.kin hk (thn (ha.run pos pins s σ H _ I h) fun us s1 ⟨vs, H1, I1, r, q⟩ => ⟨I1.kIn, by
    have r2 : Vals (vs ++ dvs) (us ++ ds) := r.append hd
    show wpAny _ _ (call (.ref f) us) _ _ _
    refine wpAny_call (codeAny_mono (F.call hr hx I1 (hb s1 us I1.kIn (by rw [← r2.length]; exact F.len _ _ _ _ q)) r2 q) fun r s' hq => ?_)
    cases r with
    | error e => exact hq
    | ok fl => cases fl <;> first | exact hq | exact False.elim hq⟩) he hpl) hdb)⟩
theorem callNG {pins : List (Addr × Obj)} {σ : L2.St} {H : Hp} {s : Shared} {Q : VK} {us ws : List Value} {vs zs : List V} (F : FnG X.prog X.w X.K X.mg X.base CX k f fd ps sp) (hr : RoomG k X.A) (hb : KBn X.K fd ps n ks g gV) (hx : Passes CX X E)
    (I : Inv X pins σ H s) (r : Vals vs us) (rz : Vals zs ws) (l1 : vs.length = n) (l2 : zs.length = ks.length) (h : sp (gV vs zs) H Q E) : wpAny (model X.prog X.w) X.A (call (.ref f) us (ks.zip ws)) (EP X pins σ Q) X.xe s := by
  refine wpAny_call (codeAny_mono (F.call hr hx I (hb.to s us ws I.kIn (r.length.symm.trans l1) (rz.length.symm.trans l2)) (hb.rel r rz) h) fun r s' hq => ?_)
  cases r with
  | error e => exact hq
  | ok fl => cases fl <;> first | exact hq | exact False.elim hq
theorem pe_callNG (F : FnG X.prog X.w X.K X.mg X.base CX k f fd ps sp) (hr : RoomG k X.A) (hg : Gl X x) (hm : X.mg x = some (.ref f)) (hk : PySem.W.keepIn X.K (.ref f) = true) (hb : KBn X.K fd ps n ks g gV) (hx : Passes CX X E)
    (ha : PA X (e :: es) t) (hkw : PK X kws tk) (hall : (backToKw pos (keywordEach kws X.env)).all (·.1.isSome) = true := by rfl) (hks : (backToKw pos (keywordEach kws X.env)).filterMap (·.1) = ks := by rfl)
    (hdb : (x == ("__debug__" : Str)) = false := by decide) (he : starEach (e :: es) X.env = (false, eval e X.env) :: starEach es X.env := by rfl)
    (hpl : ((backTo pos (starEach (e :: es) X.env)).any (·.1) || (backToKw pos (keywordEach kws X.env)).any (·.1.isNone)) = false := by rfl) :
    PE X (.Call (.Name x p) (e :: es) kws pos) (tCallN n ks.length sp gV E t tk) :=
  ⟨fun pins s σ H Q I h => wpAny_Call_Name_kw (ld_glob I hg hm (PySem.W.callWith_KW (h₀ := X.base) I.ok.mod.kin hk hall (thn (ha.run pos pins s σ H _ I h) fun us s1 ⟨vs, H1, I1, r, q⟩ =>
    thn (hkw.run pos pins s1 σ H1 _ I1 q) fun ws s2 ⟨zs, H2, I2, rz, l1, l2, q2⟩ => ⟨I2.kIn, by rw [hks]; exact callNG F hr hb hx I2 r rz l1 l2 q2⟩) hpl he) hdb)⟩
theorem pe_callN0G (F : FnG X.prog X.w X.K X.mg X.base CX k f fd ps sp) (hr : RoomG k X.A) (hg : Gl X x) (hm : X.mg x = some (.ref f)) (hk : PySem.W.keepIn X.K (.ref f) = true) (hb : KBn X.K fd ps 0 ks g gV) (hx : Passes CX X E)
    (hkw : PK X kws tk) (hall : (backToKw pos (keywordEach kws X.env)).all (·.1.isSome) = true := by rfl) (hks : (backToKw pos (keywordEach kws X.env)).filterMap (·.1) = ks := by rfl)
    (hdb : (x == ("__debug__" : Str)) = false := by decide)
    (hpl : ((backTo pos (starEach [] X.env)).any (·.1) || (backToKw pos (keywordEach kws X.env)).any (·.1.isNone)) = false := by rfl) :
    PE X (.Call (.Name x p) [] kws pos) (tCallN 0 ks.length sp gV E tNil tk) := by
  refine ⟨fun pins s σ H Q I h => ?_⟩
  refine wpAny_Call_Name_kw (ld_glob I hg hm ?_ hdb)
  refine PySem.W.callWith_KW0 (h₀ := X.base) I.ok.mod.kin hk hall ?_ hpl
  refine thn (hkw.run pos pins s σ H _ I (show tk σ H _ from h)) fun ws s2 ⟨zs, H2, I2, rz, l1, l2, q2⟩ => ⟨I2.kIn, ?_⟩
  rw [hks]
  exact callNG F hr hb hx I2 .nil rz rfl l2 q2
end

theorem callerG {k : Nat} (h : Room k callerA) : RoomG k callerA := ⟨h, rfl⟩
theorem law_callG {P : Program} {w : World} {K : PySem.W.Frag} {mg mb : Str → Option Value} {k : Nat} {fa a : Addr} {fd : FuncData} {x : Str} {sp : Sp} {s : Shared} {vs : List Value} {ns : List Int}
    (KX : K.In s.heap) (hns : s.heap.Ns mainGlobals mg) (hb : s.heap.Ns builtinsNs mb) (hbb : ∀ x : Str, x ≠ "__name__" → mb x = bootBuiltins x) (hlim : s.heap.NoLimit) (hg : s.gens = #[])
    (ha : s.heap.get? a = some { cls := .type "list", data := .seq vs.toArray }) (hi : IntsAre vs ns) (hl : ns.length ≤ sizeLine) (hr : Room k callerA)
    (F : ∀ base : Heap, K.In base → base.Ns mainGlobals mg → FnG P w K mg base CX0 k fa fd [x] sp) (hbind : ∀ (s : Shared) (u : Value), BindsTo s fd ⟨[u], []⟩ [(x, u)])
    (hsp : ∀ H : Hp, SqL K H a (ns.map V.int) → sp [.ref a] H (fun v _ => v = .bl true) fun _ _ _ => False) :
    codeAny (model P w) callerA (.call (.ref fa) ⟨[.ref a], []⟩) (fun r s' => r = .ok (.ret (.bool true)) ∧ OldK s.heap s'.heap ∧ s'.os = s.os ∧ AllBare s'.gens) s := by
  -- the script is frozen, if it is none of the module's own objects
  obtain ⟨H, hH, hS⟩ : ∃ H : Hp, (∀ b u, H b = some u → b = a ∧ K.lookup a = none ∧ u = .frz { cls := .type "list", data := .seq vs.toArray } (.lst (ns.map V.int))) ∧ SqL K H a (ns.map V.int) := by
    cases hk : K.lookup a with
    | none =>
      refine ⟨upd (fun _ => none) a (.frz { cls := .type "list", data := .seq vs.toArray } (.lst (ns.map V.int))), fun b u q => ?_, .inl (.inr ⟨_, upd_same⟩)⟩
      by_cases e : b = a
      · subst e; rw [upd_same] at q; cases q; exact ⟨rfl, rfl, rfl⟩
      · rw [upd_ne e] at q; cases q
    | some o =>
      have e := KX a o hk
      rw [ha] at e
      cases e
      exact ⟨fun _ => none, fun b u q => (by cases q), .inr ⟨_, vs.toArray, _, hk, rfl, rfl, rfl, by rw [List.size_toArray, hi.length]; exact hl, by simpa using vals_ints hi⟩⟩
  have hid : ∀ {b : Addr} {o : Obj}, s.heap.get? b = some o → (∀ es ep, o.data = .dict es ep → (hidT s.heap H).get? b = some o) := fun {b o} e es ep d => hidT_get e (by
    cases q : H b with
    | none => rfl
    | some u =>
      obtain ⟨rfl, _, _⟩ := hH b u q
      rw [ha] at e
      cases e
      cases (show Data.seq vs.toArray _ = Data.dict es ep from d))
  have nsH : ∀ {b : Addr} {m : Str → Option Value}, s.heap.Ns b m → (hidT s.heap H).Ns b m := fun {b m} ⟨o, es, ep, e, d, r⟩ => ⟨o, es, ep, hid e es ep d, d, r⟩
  have kH : K.In (hidT s.heap H) := fun b o e => hidT_get (KX b o e) (by
    cases q : H b with
    | none => rfl
    | some u =>
      obtain ⟨rfl, z, _⟩ := hH b u q
      rw [z] at e
      cases e)
  have okH : HOk P w H s.heap := fun b u z => by
    obtain ⟨rfl, _, rfl⟩ := hH b u z
    exact ⟨ha, by rw [List.length_map]; exact hl, vs, _, vals_ints hi, ha⟩
  have e0 : Env0 P w K mg (hidT s.heap H) callerA [] s H :=
    ⟨rfl, ⟨kH, nsH hns, ⟨mb, nsH hb, hbb⟩, let ⟨mc, h1, h2⟩ := hlim; ⟨mc, nsH h1, h2⟩⟩, fun b o e => of_hidT e, Nat.le_of_eq (hidT_size _ _), trivial, fun b hb => absurd (show b ∈ ([] : List Addr) from hb) (by simp), okH, .of_eq hg⟩
  refine codeAny_mono ((F _ kH (nsH hns)).run callerA [] s H ⟨[.ref a], []⟩ [.ref a] [.ref a] _ _ (callerG hr) e0 (hbind s (.ref a)) (.cons rfl .nil) (hsp H hS)) fun r s' h => ?_
  cases r with
  | error e => exact False.elim h
  | ok fl =>
    cases fl with
    | ret u =>
      obtain ⟨v, H', os, bare, un, hok', r', q⟩ := h
      obtain rfl : v = .bl true := q
      obtain rfl : u = Value.bool true := r'
      refine ⟨rfl, OldK.of_keep fun b o e => ?_, os, bare⟩
      cases z : H b with
      | none => exact un.keep b o e z (fun m => absurd (show b ∈ ([] : List Addr) from m) (by simp)) (by simp)
      | some u =>
        obtain ⟨rfl, _, rfl⟩ := hH b u z
        have := (hok' b _ (un.frzs b _ _ z)).1
        rw [ha] at e
        cases e
        exact this
    | _ => exact False.elim h
theorem walk_ofG {l : PySem.W.OpenLaw} {n k : Nat} {q : Program} {loose : List Str} {XP : (Str → Option Value) → Heap → Prop} {YP : World → Heap → Prop} {d : DefRec} {x : Str}
    (hn : l.most = some n) (hn2 : n ≤ sizeLine) (hdf : d.params.defaults = []) (hr : Room k callerA)
    (F : ∀ (w : World) (mg : Str → Option Value) (fa : Addr) (h : Heap), YP w h → h.Ns mainGlobals mg → mg d.name = some (.ref fa) →
      ∃ (K : PySem.W.Frag) (fd : FuncData) (sp : Sp), K.In h ∧ (∀ (s : Shared) (u : Value), BindsTo s fd ⟨[u], []⟩ [(x, u)]) ∧
        (∀ (H : Hp) (a : Addr) (ns : List Int), ns.length ≤ n → (∀ z ∈ ns, Builtin.Int.intBits z ≤ 1048576) → SqL K H a (ns.map V.int) → sp [.ref a] H (fun v _ => v = .bl true) fun _ _ _ => False) ∧
        ∀ base : Heap, K.In base → base.Ns mainGlobals mg → FnG l.prog w K mg base CX0 k fa fd [x] sp) :
    PySem.W.WalkO q loose XP YP l.row.toRowW d [] (fun f vs => PySem.call f vs) := by
  refine Att.attach_callB hn hdf fun w s₀ s₁ mg mb fa o pm cd doc a vs ns G Y ho hd hcd hmg hobj hints hlen hbits hg => ?_
  obtain ⟨K, fd, sp, KX, hb, hsp, hF⟩ := F w mg fa _ Y G.T.g hmg
  exact law_callG KX G.T.g G.T.b G.T.builtins G.T.nolimit hg hobj hints (Nat.le_trans hlen hn2) hr hF hb fun H hS => hsp H a ns hlen hbits hS
end DL

set_option Elab.async false
set_option linter.all false
set_option maxRecDepth 100000
namespace DL
open PySem PySem.Spec PyProof.Rows L2

structure DEnds where
  nx : DEnv → Prop
  rt : D → Prop
  bk : DEnv → Prop := fun _ => False
  ct : DEnv → Prop := fun _ => False
abbrev DS := DEnds → DEnv → Prop
/-- a value handed back: owned and new, or frozen -/
def RetOk (own : Bool) (K : PySem.W.Frag) (H0 G H : Hp) (v : V) (d : D) : Prop :=
  if own = true then (∃ p, v = .ref p ∧ G p = none ∧ H0 p = none ∧ OwnAt K G H p d) else Rep K G d v
structure EO (K : PySem.W.Frag) (own : Bool) (G0 H0 Gs : Hp) (D : DEnds) (E : Ends) : Prop where
  nx : ∀ env σ G H, Same Gs G → ER K G0 H0 env σ G H → D.nx env → E.nx σ H
  rt : ∀ env σ G H v d, Same Gs G → ER K G0 H0 env σ G H → RetOk own K H0 G H v d → D.rt d → E.rt v H
  bk : ∀ env σ G H, Same Gs G → ER K G0 H0 env σ G H → D.bk env → E.bk σ H
  ct : ∀ env σ G H, Same Gs G → ER K G0 H0 env σ G H → D.ct env → E.ct σ H
theorem EO.mono {K : PySem.W.Frag} {own : Bool} {G0 H0 Gs Gt : Hp} {D : DEnds} {E : Ends} (e : EO K own G0 H0 Gs D E) (s : Same Gs Gt) : EO K own G0 H0 Gt D E :=
  ⟨fun env σ G H s1 I q => e.nx env σ G H (s.trans s1) I q, fun env σ G H v d s1 I r q => e.rt env σ G H v d (s.trans s1) I r q, fun env σ G H s1 I q => e.bk env σ G H (s.trans s1) I q, fun env σ G H s1 I q => e.ct env σ G H (s.trans s1) I q⟩
def SemS (K : PySem.W.Frag) (own : Bool) (ts : TS) (t : DS) : Prop := ∀ (G0 H0 : Hp) (env : DEnv) (σ : L2.St) (G H : Hp) (D : DEnds) (E : Ends), ER K G0 H0 env σ G H → t D env → EO K own G0 H0 G D E → ts E σ H
def QS (F : Fam) (own : Bool) (st : Stmt) (t : DS) : Prop := ∃ ts : TS, (∀ i, PS (F.X i) st ts) ∧ SemS F.K own ts t
def QSs (F : Fam) (own : Bool) (st : List Stmt) (t : DS) : Prop := ∃ ts : TS, (∀ i, PSs (F.X i) st ts) ∧ SemS F.K own ts t
/-- targets -/
abbrev DG := D → DEnv → (DEnv → Prop) → Prop
def SemG (K : PySem.W.Frag) (g : TG) (t : DG) : Prop := ∀ (G0 H0 : Hp) (env : DEnv) (σ : L2.St) (G H : Hp) (v : V) (d : D) (Q : DEnv → Prop) (R : L2.St → Hp → Prop), ER K G0 H0 env σ G H → Rep K G d v → t d env Q →
  (∀ env' σ' , ER K G0 H0 env' σ' G H → Q env' → R σ' H) → g v σ H R
def QG (F : Fam) (tg : Expr) (t : DG) : Prop := ∃ g : TG, (∀ i, PG (F.X i) tg g) ∧ SemG F.K g t
abbrev DGs := List D → DEnv → (DEnv → Prop) → Prop
def SemGs (K : PySem.W.Frag) (g : TGs) (t : DGs) : Prop := ∀ (G0 H0 : Hp) (env : DEnv) (σ : L2.St) (G H : Hp) (vs : List V) (ds : List D) (Q : DEnv → Prop) (R : L2.St → Hp → Prop), ER K G0 H0 env σ G H → Reps K G ds vs → t ds env Q →
  (∀ env' σ' , ER K G0 H0 env' σ' G H → Q env' → R σ' H) → g vs σ H R
def QGs (F : Fam) (tgs : List Expr) (t : DGs) : Prop := ∃ g : TGs, (∀ i, PGs (F.X i) tgs g) ∧ SemGs F.K g t

section
variable {F : Fam} {own : Bool} {e a b c o : Expr} {es : List Expr} {te ta tb : DE} {tt : DT} {tA : DA} {pos : Pos} {st : Stmt} {sts : List Stmt} {t u : DS}
def gNm (i : Nat) : DG := fun d env Q => Q (ss env i (.fz d))
theorem qg_name (i : Nat) {x : Str} (hN : ∀ j, (F.X j).N.Nodup) (hi : ∀ j, (F.X j).N[i]? = some x := by exact fun _ => rfl) (hx : ∀ j, Loc (F.X j).env.scope x := by first | exact fun _ => Or.inl rfl | exact fun _ => Or.inr rfl)
    (hf : ∀ j, (F.X j).fn x = true ∨ (F.X j).env.scope.names.lookup x = some .local := by first | exact fun _ => .inl rfl | exact fun _ => .inr rfl) : QG F (.Name x pos) (gNm i) :=
  ⟨gName i, fun j => pg_name (hN j) (hi j) (hx j) (hf j), fun G0 H0 env σ G H v d Q R I r q k => by
    have q' : Q (ss env i (.fz d)) := q
    rw [ss_set] at q'
    exact k _ _ (I.setF r i) q'⟩
def gsN : DGs := fun ds env Q => match ds with
  | [] => Q env
  | _ => False
def gsC (t : DG) (u : DGs) : DGs := fun ds env Q => match ds with
  | d :: r => t d env fun e => u r e Q
  | _ => False
theorem qgs_nil : QGs F [] gsN := ⟨gNil, fun _ => pgs_nil, fun G0 H0 env σ G H vs ds Q R I r q k => by
  cases ds with
  | nil => cases r; exact ⟨rfl, k _ _ I q⟩
  | cons _ _ => exact (q : False).elim⟩
theorem qgs_cons {t : DG} {u : DGs} (h : QG F e t) (h2 : QGs F es u) (hs : ∀ i, (assignEach (e :: es) (F.X i).env).map (·.2) = assign e (F.X i).env :: (assignEach es (F.X i).env).map (·.2) := by intro _; rfl) : QGs F (e :: es) (gsC t u) := by
  obtain ⟨g, p, s⟩ := h
  obtain ⟨g2, p2, s2⟩ := h2
  refine ⟨gCons g g2, fun i => pgs_cons (p i) (p2 i) (hs i), fun G0 H0 env σ G H vs ds Q R I r q k => ?_⟩
  cases ds with
  | nil => exact (q : False).elim
  | cons d ds =>
    obtain ⟨v, w, rfl, r1, r2⟩ := r
    exact ⟨v, w, rfl, s G0 H0 env σ G H v d _ _ I r1 q fun env' σ' I1 q1 => s2 G0 H0 env' σ' G H w ds Q R I1 r2 q1 k⟩
/-- a, b = a tuple -/
def gTp (n : Nat) (t : DGs) : DG := fun d env Q => match d with
  | .tup ds => ds.length = n ∧ t ds env Q
  | _ => False
theorem qg_tup {k : Nat} {t : DGs} {n : Nat} (hc : ∀ i, (F.X i).calm = true) (h : QGs F es t) (hn : ∀ i, (assignEach es (F.X i).env).length = n := by intro _; rfl) (hst : ∀ i, (assignEach es (F.X i).env).findIdx? (·.1) = none := by intro _; rfl) : QG F (.Tuple es k pos) (gTp n t) := by
  obtain ⟨g, p, s⟩ := h
  refine ⟨gTup F.K n g, fun i => by have := pg_tup (pos := pos) (k := k) (hc i) (p i) (hn i) (hst i); rw [F.hK] at this; exact this, fun G0 H0 env σ G H v d Q R I r q k => ?_⟩
  cases d with
  | tup ds =>
    obtain ⟨a, vs, e1, h1, r1⟩ := r
    exact ⟨a, vs, e1, Same.sqt I.sub h1, by rw [r1.len]; exact q.1, s G0 H0 env σ G H vs ds Q R I r1 q.2 k⟩
  | _ => exact (q : False).elim

def dNext : DS := fun D env => D.nx env
def dSeq (t u : DS) : DS := fun D env => t { D with nx := u D } env
theorem qss_nil : QSs F own [] dNext := ⟨tNext, fun _ => pss_nil, fun G0 H0 env σ G H D E I q k => k.nx env σ G H (Same.refl G) I q⟩
theorem qss_one (h : QS F own st t) : QSs F own [st] t := let ⟨ts, p, s⟩ := h; ⟨ts, fun i => pss_one (p i), s⟩
theorem qss_cons (h : QS F own st t) (h2 : QSs F own sts u) : QSs F own (st :: sts) (dSeq t u) := by
  obtain ⟨ts, p, s⟩ := h
  obtain ⟨ts2, p2, s2⟩ := h2
  refine ⟨tSeq ts ts2, fun i => pss_cons (p i) (p2 i), fun G0 H0 env σ G H D E I q k => s G0 H0 env σ G H _ _ I q ⟨fun env' σ' G' H' s1 I1 q1 => ?_, k.rt, k.bk, k.ct⟩⟩
  exact s2 G0 H0 env' σ' G' H' D E I1 q1 (k.mono s1)
def dBreak : DS := fun D env => D.bk env
def dCont : DS := fun D env => D.ct env
theorem qs_pass : QS F own (.Pass pos) dNext := ⟨tNext, fun _ => ps_pass, fun G0 H0 env σ G H D E I q k => k.nx env σ G H (Same.refl G) I q⟩
theorem qs_break : QS F own (.Break pos) dBreak := ⟨tBreak, fun _ => ps_break, fun G0 H0 env σ G H D E I q k => k.bk env σ G H (Same.refl G) I q⟩
theorem qs_cont : QS F own (.Continue pos) dCont := ⟨tCont, fun _ => ps_continue, fun G0 H0 env σ G H D E I q k => k.ct env σ G H (Same.refl G) I q⟩
def dRet (t : DE) : DS := fun D env => t env fun d _ => D.rt d
theorem qs_ret (h : QE F e te) : QS F false (.Return (some e) pos) (dRet te) := by
  obtain ⟨ts, p, s⟩ := h
  exact ⟨tRet ts, fun i => ps_ret (p i), fun G0 H0 env σ G H D E I q k => s G0 H0 env σ G H _ _ I q fun v H' G' env' d s1 I1 r q1 => k.rt env' σ G' H' v d s1 I1 r q1⟩
theorem qs_retO (h : QO F e te) : QS F true (.Return (some e) pos) (dRet te) := by
  obtain ⟨ts, p, s⟩ := h
  exact ⟨tRet ts, fun i => ps_ret (p i), fun G0 H0 env σ G H D E I q k => s G0 H0 env σ G H _ _ I q fun v H' G' env' d s1 I1 r q1 => k.rt env' σ G' H' v d s1 I1 (let ⟨p, e, g, h0, ow, _⟩ := r; ⟨p, e, g, h0, ow⟩) q1⟩
def dRetN : DS := fun D _ => D.rt .non
theorem qs_retN : QS F false (.Return none pos) dRetN := ⟨tRetN, fun _ => ps_retN, fun G0 H0 env σ G H D E I q k => k.rt env σ G H .non .non (Same.refl G) I rfl q⟩
def dIfS (c : DT) (t u : DS) : DS := fun D env => c env fun b env1 => br b (t D env1) (u D env1)
theorem qs_if {x y : List Stmt} (hc : QT F c tt) (h : QSs F own x t) (h2 : QSs F own y u) : QS F own (.If c x y pos) (dIfS tt t u) := by
  obtain ⟨sc, pc, hc⟩ := hc
  obtain ⟨ts, p, s⟩ := h
  obtain ⟨ts2, p2, s2⟩ := h2
  refine ⟨tIfS sc ts ts2, fun i => ps_if (pc i) (p i) (p2 i), fun G0 H0 env σ G H D E I q k => hc G0 H0 env σ G H _ _ I q fun b H' G' env' s1 I1 q1 => ?_⟩
  cases b with
  | true => exact s G0 H0 env' σ G' H' D E I1 (br_t q1) (k.mono s1)
  | false => exact s2 G0 H0 env' σ G' H' D E I1 (br_f q1) (k.mono s1)
def dDrop (t : DE) : DS := fun D env => t env fun _ env1 => D.nx env1
theorem qs_expr (h : QE F e te) (hs : ∀ i, swapsWith e none pos.line (F.X i).env = pure false := by intro _; rfl) : QS F own (.Expr e pos) (dDrop te) := by
  obtain ⟨ts, p, s⟩ := h
  exact ⟨tDrop ts, fun i => ps_expr (p i) (hs i), fun G0 H0 env σ G H D E I q k => s G0 H0 env σ G H _ _ I q fun v H' G' env' d s1 I1 r q1 => k.nx env' σ G' H' s1 I1 q1⟩

def dSet (i : Nat) (t : DE) : DS := fun D env => t env fun d env1 => D.nx (ss env1 i (.fz d))
def dSetO (i : Nat) (t : DE) : DS := fun D env => t env fun d env1 => D.nx (ss env1 i (.ow d))
theorem qs_set (i : Nat) {x : Str} {pos' : Pos} (hN : ∀ j, (F.X j).N.Nodup) (h : QE F e te) (hi : ∀ j, (F.X j).N[i]? = some x := by exact fun _ => rfl) (hx : ∀ j, Loc (F.X j).env.scope x := by first | exact fun _ => Or.inl rfl | exact fun _ => Or.inr rfl) (hs : ∀ j, swapsWith e (some (.Name x pos')) pos.line (F.X j).env = pure false := by intro _; rfl)
    (hf : ∀ j, (F.X j).fn x = true ∨ (F.X j).env.scope.names.lookup x = some .local := by first | exact fun _ => .inl rfl | exact fun _ => .inr rfl) : QS F own (.Assign [.Name x pos'] e pos) (dSet i te) := by
  obtain ⟨ts, p, s⟩ := h
  refine ⟨tAsg ts (gName i), fun j => ps_set (hN j) (hi j) (hx j) (p j) (hs j) (hf j), fun G0 H0 env σ G H D E I q k => s G0 H0 env σ G H _ _ I q fun v H' G' env' d s1 I1 r q1 => ?_⟩
  have q' : D.nx (ss env' i (.fz d)) := q1
  rw [ss_set] at q'
  exact k.nx _ _ G' H' s1 (I1.setF r i) q'
theorem qs_setO (i : Nat) {x : Str} {pos' : Pos} (hN : ∀ j, (F.X j).N.Nodup) (h : QO F e te) (hi : ∀ j, (F.X j).N[i]? = some x := by exact fun _ => rfl) (hx : ∀ j, Loc (F.X j).env.scope x := by first | exact fun _ => Or.inl rfl | exact fun _ => Or.inr rfl) (hs : ∀ j, swapsWith e (some (.Name x pos')) pos.line (F.X j).env = pure false := by intro _; rfl)
    (hf : ∀ j, (F.X j).fn x = true ∨ (F.X j).env.scope.names.lookup x = some .local := by first | exact fun _ => .inl rfl | exact fun _ => .inr rfl) : QS F own (.Assign [.Name x pos'] e pos) (dSetO i te) := by
  obtain ⟨ts, p, s⟩ := h
  refine ⟨tAsg ts (gName i), fun j => ps_set (hN j) (hi j) (hx j) (p j) (hs j) (hf j), fun G0 H0 env σ G H D E I q k => s G0 H0 env σ G H _ _ I q fun v H' G' env' d s1 I1 r q1 => ?_⟩
  have q' : D.nx (ss env' i (.ow d)) := q1
  rw [ss_set] at q'
  exact k.nx _ _ G' H' s1 (I1.setO r i) q'
def dAsg (t : DE) (g : DG) : DS := fun D env => t env fun d env1 => g d env1 D.nx
theorem qs_asg {tg : Expr} {g : DG} (h : QE F e te) (hg : QG F tg g) (hs : ∀ i, swapsWithSole [tg] e pos.line (F.X i).env = pure false := by intro _; rfl) (hw : ∀ i, swappedStores [tg] e (F.X i).env = pure none := by intro _; rfl)
    (h1 : ∀ i, (assignEach [tg] (F.X i).env).map (·.2) = [assign tg (F.X i).env] := by intro _; rfl) : QS F own (.Assign [tg] e pos) (dAsg te g) := by
  obtain ⟨ts, p, s⟩ := h
  obtain ⟨gg, pg, sg⟩ := hg
  exact ⟨tAsg ts gg, fun i => ps_asg (p i) (pg i) (hs i) (hw i) (h1 i), fun G0 H0 env σ G H D E I q k => s G0 H0 env σ G H _ _ I q fun v H' G' env' d s1 I1 r q1 =>
    sg G0 H0 env' σ G' H' v d _ _ I1 r q1 fun env2 σ2 I2 q2 => k.nx env2 σ2 G' H' s1 I2 q2⟩

def owD : Sl → (D → Prop) → Prop
  | .ow d, Q => Q d
  | _, _ => False
theorem owD_get {env : DEnv} {i : Nat} {Q : D → Prop} (h : owD (gs env i) Q) : ∃ d, env[i]? = some (.ow d) ∧ Q d := by
  cases hg : gs env i with
  | no => rw [hg] at h; exact h.elim
  | fz d => rw [hg] at h; exact h.elim
  | ow d => rw [hg] at h; exact ⟨d, gs_get hg (fun z => nomatch z), h⟩
def lsD : D → (List D → Prop) → Prop
  | .lst ds, Q => Q ds
  | _, _ => False
/-- x.append(e) -/
def dApp (j : Nat) (t : DE) : DE := fun env Q => owD (gs env j) fun d0 => lsD d0 fun _ => t env fun z env1 => owD (gs env1 j) fun d => lsD d fun ds => ds.length < sizeLine ∧ Q .non (ss env1 j (.ow (.lst (ds ++ [z]))))
/-- the object of an owned name -/
theorem ER.ownedAt {K : PySem.W.Frag} {G0 H0 G H : Hp} {env : DEnv} {σ : L2.St} (I : ER K G0 H0 env σ G H) {j : Nat} {d : D} (h : env[j]? = some (.ow d)) : ∃ p o, σ[j]? = some (some (.ref p)) ∧ G p = none ∧ H p = some o ∧ Cont K G d o := by
  have l2 : j < σ.length := by rw [← I.len]; exact (List.getElem?_eq_some_iff.mp h).1
  obtain ⟨p, e, g, h0, o, ho, c⟩ := I.sl j _ _ h (List.getElem?_eq_getElem l2)
  exact ⟨p, o, by rw [List.getElem?_eq_getElem l2, e], g, ho, c⟩
theorem lsD_get {d : D} {Q : List D → Prop} (h : lsD d Q) : ∃ ds, d = .lst ds ∧ Q ds := by
  cases d with
  | lst ds => exact ⟨ds, rfl, h⟩
  | _ => exact (h : False).elim
theorem q_append (j : Nat) {x : Str} {apos npos : Pos} (h : QE F e te) (hN : ∀ i, (F.X i).N[j]? = some x := by exact fun _ => rfl) (hv : ∀ i, Vis (F.X i).env.scope x := by first | exact fun _ => Or.inl rfl | exact fun _ => Or.inr (Or.inl rfl) | exact fun _ => Or.inr (Or.inr rfl)) (hd : (x == ("__debug__" : Str)) = false := by decide) (hcd : (x == ("__classdict__" : Str)) = false := by decide)
    (hs : ∀ i, starEach (e :: []) (F.X i).env = (false, eval e (F.X i).env) :: starEach [] (F.X i).env := by intro _; rfl)
    (hbase : ∀ i, attributeBase (.Name x npos) "append" (F.X i).env (eval (.Name x npos) (F.X i).env) = eval (.Name x npos) (F.X i).env := by intro _; rfl) (hline : (apos.endLine == pos.line) = true := by rfl) :
    QE F (.Call (.Attribute (.Name x npos) "append" apos) [e] [] pos) (dApp j te) := by
  obtain ⟨ts, p, s⟩ := h
  refine ⟨tBM F.K "list" rAppend (tVar j) (tCons ts tNil), fun i => by
    have := pe_bm (X := F.X i) (apos := apos) (cpos := pos) PySem.F.plainAttrs_list PySem.F.slot_list_append PySem.F.type_list_append mt_append (pe_var (pos := npos) (hN i) (hv i) hd hcd) (pa1 (p i) (hs i)) (hs := hs i) (hbase := hbase i) (hline := hline) (hfew := by rw [hs i]; rfl)
    rw [F.hK] at this; exact this, fun G0 H0 env σ G H Q R I q k => ?_⟩
  obtain ⟨d0, h0, q⟩ := owD_get q
  obtain ⟨ds0, rfl, q⟩ := lsD_get q
  obtain ⟨p0, o0, e0, g0, ho0, vs0, rfl, _⟩ := I.ownedAt h0
  refine ⟨.ref p0, e0, .inl ⟨rfl, _, SqL.of ho0⟩, s G0 H0 env σ G H _ _ I q fun v H1 G1 env1 z s1 I1 r1 q1 => ?_⟩
  obtain ⟨d1, h1, q1⟩ := owD_get q1
  obtain ⟨ds, rfl, hz, q1⟩ := lsD_get q1
  obtain ⟨p1, o1, e1, g1, ho1, vs, rfl, c1⟩ := I1.ownedAt h1
  rw [e0] at e1
  cases e1
  obtain ⟨p2, e2, own2, I2⟩ := I1.write h1 (e := .lst (ds ++ [z])) (o := .lst (vs ++ [v])) ⟨_, rfl, c1.append (Reps.one r1)⟩
  rw [e0] at e2
  cases e2
  rw [ss_set] at q1
  exact ⟨p0, vs, v, rfl, rfl, ho1, by rw [c1.len]; exact hz, k .non _ G1 _ .non s1 I2 rfl q1⟩
/-- x[i] = e, x an owned list's name -/
def dSetI (j : Nat) (te ti : DE) : DS := fun D env => te env fun z env1 => owD (gs env1 j) fun d0 => lsD d0 fun _ => ti env1 fun i env2 => owD (gs env2 j) fun d => lsD d fun ds => match i with
  | .int i => ∃ m, ixN ds.length i = some m ∧ D.nx (ss env2 j (.ow (.lst (ds.set m z))))
  | _ => False
theorem qs_setI (j : Nat) {x : Str} {spos npos : Pos} {i : Expr} {ti : DE} (h : QE F e te) (hi : QE F i ti) (hN : ∀ i, (F.X i).N[j]? = some x := by exact fun _ => rfl) (hv : ∀ i, Vis (F.X i).env.scope x := by first | exact fun _ => Or.inl rfl | exact fun _ => Or.inr (Or.inl rfl) | exact fun _ => Or.inr (Or.inr rfl)) (hd : (x == ("__debug__" : Str)) = false := by decide) (hcd : (x == ("__classdict__" : Str)) = false := by decide)
    (ha : ∀ (k : F.ι) v, assign (.Subscript (.Name x npos) i spos) (F.X k).env v = (do
      let ov ← holding [v] (eval (.Name x npos) (F.X k).env)
      let iv ← holding [v, ov] (eval i (F.X k).env)
      standAt spos
      holding [v, ov, iv] (setItem ov iv v)
      release [v, ov, iv] []) := by intro _ _; rfl)
    (hs : ∀ k, swapsWithSole [.Subscript (.Name x npos) i spos] e pos.line (F.X k).env = pure false := by intro _; rfl) (hw : ∀ k, swappedStores [.Subscript (.Name x npos) i spos] e (F.X k).env = pure none := by intro _; rfl)
    (h1 : ∀ k, (assignEach [.Subscript (.Name x npos) i spos] (F.X k).env).map (·.2) = [assign (.Subscript (.Name x npos) i spos) (F.X k).env] := by intro _; rfl) :
    QS F own (.Assign [.Subscript (.Name x npos) i spos] e pos) (dSetI j te ti) := by
  obtain ⟨ts, p, s⟩ := h
  obtain ⟨ti', p', s'⟩ := hi
  refine ⟨tAsg ts (gSub (tVar j) ti' rSetL), fun k => ps_asg (p k) (pg_sub (pe_var (hN k) (hv k) hd hcd) (p' k) set_list (ha k)) (hs k) (hw k) (h1 k), fun G0 H0 env σ G H D E I q k => s G0 H0 env σ G H _ _ I q fun v H1 G1 env1 z s1 I1 r1 q1 => ?_⟩
  obtain ⟨d0, h0, q1⟩ := owD_get q1
  obtain ⟨ds0, rfl, q1⟩ := lsD_get q1
  obtain ⟨p0, o0, e0, g0, ho0, vs0, rfl, _⟩ := I1.ownedAt h0
  refine ⟨.ref p0, e0, s' G0 H0 env1 σ G1 H1 _ _ I1 q1 fun y H2 G2 env2 iz s2 I2 r2 q2 => ?_⟩
  obtain ⟨d1, h1', q2⟩ := owD_get q2
  obtain ⟨ds, rfl, q2⟩ := lsD_get q2
  obtain ⟨p1, o1, e1, g1, ho1, vs, rfl, c1⟩ := I2.ownedAt h1'
  rw [e0] at e1
  cases e1
  cases iz with
  | int n =>
    obtain ⟨m, hm, q2⟩ := q2
    obtain ⟨p2, e2, own2, I3⟩ := I2.write h1' (e := .lst (ds.set m z)) (o := .lst (vs.set m v)) ⟨_, rfl, c1.set m (r1.mono s2)⟩
    rw [e0] at e2
    cases e2
    rw [ss_set] at q2
    exact ⟨p0, vs, n, m, rfl, r2, ho1, by rw [c1.len]; exact hm, k.nx _ _ _ _ (s1.trans s2) I3 q2⟩
  | _ => exact (q2 : False).elim

def dWhile (c : DT) (tb : DS) : DS := fun D env => ∃ I : Nat → DEnv → Prop, (∃ m, I m env) ∧ ∀ m e, I m e → c e fun b e1 => br b (tb { nx := fun e2 => ∃ m', m' < m ∧ I m' e2, rt := D.rt, ct := fun e2 => ∃ m', m' < m ∧ I m' e2, bk := D.nx } e1) (D.nx e1)
theorem qs_while {body : List Stmt} {tb : DS} (hp : ∀ i, PassesOwn (model (F.X i).prog (F.X i).w) (F.X i).A (F.X i).env (F.X i).xe) (hc : QT F c tt) (hb : QSs F own body tb) : QS F own (.While c body [] pos) (dWhile tt tb) := by
  obtain ⟨sc, pc, hc⟩ := hc
  obtain ⟨ts, p, s⟩ := hb
  refine ⟨tWhile sc ts, fun i => ps_while (hp i) (pc i) (p i), fun G0 H0 env σ G H D E I q k => ?_⟩
  obtain ⟨J, ⟨m0, j0⟩, turn⟩ := q
  refine ⟨fun m σ' H' => ∃ env' G', Same G G' ∧ ER F.K G0 H0 env' σ' G' H' ∧ J m env', ⟨m0, env, G, Same.refl G, I, j0⟩, ?_⟩
  rintro m σ' H' ⟨env', G', s1, I1, j1⟩
  refine hc G0 H0 env' σ' G' H' _ _ I1 (turn m env' j1) fun b H2 G2 env2 s2 I2 q2 => ?_
  cases b with
  | true =>
    rw [if_pos rfl]
    have q2 := br_t q2
    refine ⟨fun σ3 H3 => ∃ m', m' < m ∧ ∃ env3 G3, Same G G3 ∧ ER F.K G0 H0 env3 σ3 G3 H3 ∧ J m' env3, fun σ3 H3 h => h, ?_⟩
    refine s G0 H0 env2 σ' G2 H2 _ _ I2 q2 ⟨fun e3 σ3 G3 H3 s3 I3 ⟨m', hm, j3⟩ => ⟨m', hm, e3, G3, s1.trans (s2.trans s3), I3, j3⟩, fun e3 σ3 G3 H3 v d s3 I3 r3 q3 => k.rt e3 σ3 G3 H3 v d (s1.trans (s2.trans s3)) I3 r3 q3,
      fun e3 σ3 G3 H3 s3 I3 q3 => k.nx e3 σ3 G3 H3 (s1.trans (s2.trans s3)) I3 q3, fun e3 σ3 G3 H3 s3 I3 ⟨m', hm, j3⟩ => ⟨m', hm, e3, G3, s1.trans (s2.trans s3), I3, j3⟩⟩
  | false =>
    rw [if_neg Bool.false_ne_true]
    exact k.nx env2 σ' G2 H2 (s1.trans s2) I2 (br_f q2)

structure ItOk (K : PySem.W.Frag) (J : It) (G : Hp) (items : List D) : Prop where
  go : ∀ i G' H', Same G G' → Same G' H' → i < items.length → J.go i H'
  stop : ∀ G' H', Same G G' → Same G' H' → J.stop items.length H'
  yld : ∀ i G' H' d x H'', Same G G' → Same G' H' → items[i]? = some d → J.yld i H' x H'' → ∃ G'', Same H' H'' ∧ (∀ b, H' b ≠ none → G'' b = G' b) ∧ Same G'' H'' ∧ Rep K G'' d x
abbrev DI := DEnv → (List D → DEnv → Prop) → Prop
def SemI (K : PySem.W.Frag) (wi : TI) (t : DI) : Prop := ∀ (G0 H0 : Hp) (env : DEnv) (σ : L2.St) (G H : Hp) (Q : List D → DEnv → Prop) (R : It → Hp → Prop), ER K G0 H0 env σ G H → t env Q →
  (∀ J H' G' env' items, Same G G' → ER K G0 H0 env' σ G' H' → ItOk K J G' items → Q items env' → R J H') → wi σ H R
def QI (F : Fam) (tg iter : Expr) (t : DI) : Prop := ∃ wi : TI, (∀ i, PI (F.X i) tg iter wi) ∧ SemI F.K wi t
def dFor (ti : DI) (g : DG) (tb : DS) : DS := fun D env => ti env fun items env1 => ∃ I : Nat → DEnv → Prop, I 0 env1 ∧ (∀ k d e, items[k]? = some d → I k e → g d e fun e2 => tb { nx := I (k + 1), rt := D.rt, ct := I (k + 1), bk := D.nx } e2) ∧ ∀ e, I items.length e → D.nx e
theorem qs_for {iter tg : Expr} {body : List Stmt} {ti : DI} {g : DG} {tb : DS} (hp : ∀ i, PassesOwn (model (F.X i).prog (F.X i).w) (F.X i).A (F.X i).env (F.X i).xe) (hc : ∀ i, (F.X i).calm = true) (hi : QI F tg iter ti) (hg : QG F tg g) (hb : QSs F own body tb)
    (hs : ∀ i x, foldedSetIterable iter (F.X i).env x = pure x := by intro _ _; rfl) : QS F own (.For tg iter body [] pos) (dFor ti g tb) := by
  obtain ⟨wi, pw, sw⟩ := hi
  obtain ⟨gg, pg, sg⟩ := hg
  obtain ⟨ts, p, s⟩ := hb
  refine ⟨tFor wi gg ts, fun i => ps_for (hp i) (hc i) (pw i) (pg i) (p i) (hs i), fun G0 H0 env σ G H D E I q k => sw G0 H0 env σ G H _ _ I q fun J H1 G1 env1 items s1 I1 ok q1 => ?_⟩
  obtain ⟨W, w0, turn, fin⟩ := q1
  refine ⟨fun i m σ' H' => m = items.length - i ∧ i ≤ items.length ∧ ∃ env' G', Same G1 G' ∧ ER F.K G0 H0 env' σ' G' H' ∧ W i env', ⟨_, rfl, Nat.zero_le _, env1, G1, Same.refl G1, I1, w0⟩, ?_⟩
  rintro i m σ' H' ⟨rfl, hi, env', G', s2, I2, w2⟩
  by_cases hlt : i < items.length
  · refine .inr ⟨ok.go i G' H' s2 I2.sub hlt, fun σ3 H3 => ∃ env3 G3, Same G1 G3 ∧ ER F.K G0 H0 env3 σ3 G3 H3 ∧ W (i + 1) env3, fun σ3 H3 ⟨env3, G3, a, b, c⟩ => ⟨items.length - (i + 1), by omega, rfl, hlt, env3, G3, a, b, c⟩, fun x H3 y => ?_⟩
    obtain ⟨G3, a1, a2, a3, a4⟩ := ok.yld i G' H' items[i] x H3 s2 I2.sub (List.getElem?_eq_getElem hlt) y
    obtain ⟨I3, s3⟩ := I2.ext a1 a2 a3
    refine sg G0 H0 env' σ' G3 H3 x items[i] _ _ I3 a4 (turn i items[i] env' (List.getElem?_eq_getElem hlt) w2) fun env4 σ4 I4 q4 => ?_
    refine s G0 H0 env4 σ4 G3 H3 _ _ I4 q4 ⟨fun e5 σ5 G5 H5 s5 I5 q5 => ⟨e5, G5, s2.trans (s3.trans s5), I5, q5⟩, fun e5 σ5 G5 H5 v d s5 I5 r5 q5 => k.rt e5 σ5 G5 H5 v d (s1.trans (s2.trans (s3.trans s5))) I5 r5 q5,
      fun e5 σ5 G5 H5 s5 I5 q5 => k.nx e5 σ5 G5 H5 (s1.trans (s2.trans (s3.trans s5))) I5 q5, fun e5 σ5 G5 H5 s5 I5 q5 => ⟨e5, G5, s2.trans (s3.trans s5), I5, q5⟩⟩
  · have e : i = items.length := by omega
    subst e
    exact .inl ⟨ok.stop G' H' s2 I2.sub, k.nx env' σ' G' H' (s1.trans s2) I2 (fin env' w2)⟩
/-- over a list or a tuple (frozen) -/
def itemsD : D → (List D → Prop) → Prop
  | .lst ds, Q => Q ds
  | .scr ns, Q => Q (ns.map .int)
  | _, _ => False
def dItL (t : DE) : DI := fun env Q => t env fun d env1 => itemsD d fun ds => Q ds env1
theorem itl_ok {K : PySem.W.Frag} {a : Addr} {G : Hp} {ds : List D} {vs : List V} (h : SqL K G a vs) (r : Reps K G ds vs) : ItOk K (Itl K a) G ds where
  go := fun i G' H' s1 s2 hi => ⟨vs, vs[i]'(by rw [r.len]; exact hi), s2.seq (s1.seq h), List.getElem?_eq_getElem _⟩
  stop := fun G' H' s1 s2 => ⟨vs, s2.seq (s1.seq h), by rw [r.len]; exact Nat.le_refl _⟩
  yld := fun i G' H' d x H'' s1 s2 hd y => by
    obtain ⟨e, y⟩ := y
    subst e
    obtain ⟨v, h1, h2⟩ := r.get hd
    have := y vs (s2.seq (s1.seq h))
    rw [h1] at this
    cases this
    exact ⟨G', Same.refl _, fun _ _ => rfl, s2, h2.mono s1⟩
theorem itt_ok {K : PySem.W.Frag} {a : Addr} {G : Hp} {ds : List D} {vs : List V} (h : SqT K G a vs) (r : Reps K G ds vs) : ItOk K (Itt K a) G ds where
  go := fun i G' H' s1 s2 hi => ⟨vs, vs[i]'(by rw [r.len]; exact hi), Same.sqt s2 (Same.sqt s1 h), List.getElem?_eq_getElem _⟩
  stop := fun G' H' s1 s2 => ⟨vs, Same.sqt s2 (Same.sqt s1 h), by rw [r.len]; exact Nat.le_refl _⟩
  yld := fun i G' H' d x H'' s1 s2 hd y => by
    obtain ⟨e, y⟩ := y
    subst e
    obtain ⟨v, h1, h2⟩ := r.get hd
    have := y vs (Same.sqt s2 (Same.sqt s1 h))
    rw [h1] at this
    cases this
    exact ⟨G', Same.refl _, fun _ _ => rfl, s2, h2.mono s1⟩
theorem qi_list {tg iter : Expr} (h : QE F iter te) : QI F tg iter (dItL te) := by
  obtain ⟨ts, p, s⟩ := h
  refine ⟨iList F.K ts, fun i => by have := pi_list (tg := tg) (p i); rw [F.hK] at this; exact this, fun G0 H0 env σ G H Q R I q k => s G0 H0 env σ G H _ _ I q fun v H1 G1 env1 d s1 I1 r1 q1 => ?_⟩
  cases d with
  | lst ds =>
    obtain ⟨a, vs, e1, h1, r1⟩ := r1
    exact ⟨a, e1, ⟨vs, SqL.of (I1.sub _ _ h1)⟩, k _ H1 G1 env1 ds s1 I1 (itl_ok (SqL.of h1) r1) q1⟩
  | scr ns =>
    obtain ⟨a, e1, h1⟩ := r1
    exact ⟨a, e1, ⟨_, I1.sub.seq h1⟩, k _ H1 G1 env1 _ s1 I1 (itl_ok h1 (Reps.ints ns)) q1⟩
  | _ => exact (q1 : False).elim
def dItT (t : DE) : DI := fun env Q => t env fun d env1 => match d with
  | .tup ds => Q ds env1
  | _ => False
theorem qi_tup {tg iter : Expr} (h : QE F iter te) : QI F tg iter (dItT te) := by
  obtain ⟨ts, p, s⟩ := h
  refine ⟨iTup F.K ts, fun i => by have := pi_tup (tg := tg) (p i); rw [F.hK] at this; exact this, fun G0 H0 env σ G H Q R I q k => s G0 H0 env σ G H _ _ I q fun v H1 G1 env1 d s1 I1 r1 q1 => ?_⟩
  cases d with
  | tup ds =>
    obtain ⟨a, vs, e1, h1, r1⟩ := r1
    exact ⟨a, e1, ⟨vs, Same.sqt I1.sub h1⟩, k _ H1 G1 env1 ds s1 I1 (itt_ok h1 r1) q1⟩
  | _ => exact (q1 : False).elim
def rngD (lo : Int) (n : Nat) : List D := (List.range n).map fun (k : Nat) => D.int (lo + (k : Int))
theorem rngD_get {lo : Int} {n i : Nat} {d : D} (h : (rngD lo n)[i]? = some d) : i < n ∧ d = .int (lo + i) := by
  unfold rngD at h
  rw [List.getElem?_map] at h
  cases q : (List.range n)[i]? with
  | none => rw [q] at h; cases h
  | some j =>
    rw [q] at h
    have := List.getElem?_eq_some_iff.mp q
    obtain ⟨h1, h2⟩ := this
    rw [List.length_range] at h1
    rw [List.getElem_range] at h2
    subst h2
    exact ⟨h1, (Option.some.inj h).symm⟩
theorem rngD_len {lo : Int} {n : Nat} : (rngD lo n).length = n := by simp [rngD]
theorem itr_ok {K : PySem.W.Frag} {G : Hp} {lo : Int} {n : Nat} : ItOk K (Itr lo n) G (rngD lo n) where
  go := fun i G' H' s1 s2 hi => by rw [rngD_len] at hi; exact hi
  stop := fun G' H' s1 s2 => by rw [rngD_len]; exact Nat.le_refl _
  yld := fun i G' H' d x H'' s1 s2 hd y => by
    obtain ⟨e, y⟩ := y
    subst e
    obtain ⟨h1, rfl⟩ := rngD_get hd
    exact ⟨G', Same.refl _, fun _ _ => rfl, s2, y⟩
def dRng1 (t : DE) : DI := fun env Q => t env fun d env1 => match d with
  | .int j => -(2 ^ 62) ≤ j ∧ j < 2 ^ 62 ∧ Q (rngD 0 j.toNat) env1
  | _ => False
theorem qi_range1 {tg : Expr} {p : Pos} (hm : ∀ i, (F.X i).mg "range" = none) (h : QE F a te) (hg : ∀ i, Gl (F.X i) "range" := by exact fun _ => rfl) (hs : ∀ i, starEach (a :: []) (F.X i).env = (false, eval a (F.X i).env) :: starEach [] (F.X i).env := by intro _; rfl) : QI F tg (.Call (.Name "range" p) [a] [] pos) (dRng1 te) := by
  obtain ⟨ts, p, s⟩ := h
  refine ⟨iRng1 (tCons ts tNil), fun i => pi_range1 (hg i) (hm i) (pa1 (p i) (hs i)) (hs i), fun G0 H0 env σ G H Q R I q k => s G0 H0 env σ G H _ _ I q fun v H1 G1 env1 d s1 I1 r1 q1 => ?_⟩
  cases d with
  | int j => exact ⟨j, by rw [rep_int r1], q1.1, q1.2.1, k _ H1 G1 env1 _ s1 I1 itr_ok q1.2.2⟩
  | _ => exact (q1 : False).elim
def dRng2 (t u : DE) : DI := fun env Q => t env fun d env1 => u env1 fun d2 env2 => match d, d2 with
  | .int i, .int j => (-(2 ^ 62) ≤ i ∧ i < 2 ^ 62 ∧ -(2 ^ 62) ≤ j ∧ j < 2 ^ 62) ∧ Q (rngD i (j - i).toNat) env2
  | _, _ => False
theorem qi_range2 {tg : Expr} {p : Pos} (hm : ∀ i, (F.X i).mg "range" = none) (h : QE F a ta) (h2 : QE F b tb) (hg : ∀ i, Gl (F.X i) "range" := by exact fun _ => rfl) (hs : ∀ i, starEach [a, b] (F.X i).env = [(false, eval a (F.X i).env), (false, eval b (F.X i).env)] := by intro _; rfl) (hs2 : ∀ i, starEach [b] (F.X i).env = [(false, eval b (F.X i).env)] := by intro _; rfl) : QI F tg (.Call (.Name "range" p) [a, b] [] pos) (dRng2 ta tb) := by
  obtain ⟨ts, p, s⟩ := h
  obtain ⟨ts2, p2, s2⟩ := h2
  refine ⟨iRng2 (tCons ts (tCons ts2 tNil)), fun i => pi_range2 (hg i) (hm i) (pa_cons (p i) (pa1 (p2 i) (hs2 i)) (by rw [hs i, hs2 i])) (hs i) (hs2 i), fun G0 H0 env σ G H Q R I q k => s G0 H0 env σ G H _ _ I q fun v H1 G1 env1 d s1 I1 r1 q1 => s2 G0 H0 env1 σ G1 H1 _ _ I1 q1 fun w H2 G2 env2 d2 s3 I2 r2 q2 => ?_⟩
  cases d with
  | int i =>
    cases d2 with
    | int j => exact ⟨i, j, by rw [rep_int r1, rep_int r2], q2.1, k _ H2 G2 env2 _ (s1.trans s3) I2 itr_ok q2.2⟩
    | _ => exact (q2 : False).elim
  | _ => exact (q2 : False).elim
end

abbrev DSp := List D → (D → Prop) → Prop
/-- a def's promise over values -/
def spD (K : PySem.W.Frag) (own : Bool) (S : DSp) : Sp := fun vs H Q _ => ∃ (G : Hp) (ds : List D) (QD : D → Prop), Same G H ∧ Reps K G ds vs ∧ S ds QD ∧
  ∀ v H' G' d, Same H H' → (∀ b, H b ≠ none → G' b = G b) → Same G' H' → RetOk own K H G' H' v d → QD d → Q v H'
def startD (n : Nat) (ds : List D) : DEnv := ds.map .fz ++ List.replicate (n - ds.length) .no
theorem er_start {K : PySem.W.Frag} {G H : Hp} {N : List Str} {ds : List D} {vs : List V} (s : Same G H) (r : Reps K G ds vs) : ER K G H (startD N.length ds) (L2.start N vs) G H := by
  have hl := r.len
  refine ⟨s, Same.refl H, fun _ _ => rfl, by unfold startD L2.start; simp [hl], fun i sl x h1 h2 => ?_, fun i j sl t x _ h1 h2 => ?_⟩
  · unfold startD at h1
    unfold L2.start at h2
    by_cases hi : i < ds.length
    · rw [List.getElem?_append_left (by simpa using hi), List.getElem?_map, List.getElem?_eq_getElem hi] at h1
      rw [List.getElem?_append_left (by simpa [hl] using hi), List.getElem?_map] at h2
      obtain ⟨v, e1, e2⟩ := r.get (List.getElem?_eq_getElem hi)
      rw [e1] at h2
      cases h1; cases h2
      exact ⟨v, rfl, e2⟩
    · rw [List.getElem?_append_right (by simpa using hi)] at h1
      have : sl = .no := by
        have := List.mem_of_getElem? h1
        exact (List.mem_replicate.mp this).2
      subst this
      trivial
  · unfold startD at h1
    have := List.mem_of_getElem? h1
    rcases List.mem_append.mp this with z | z
    · obtain ⟨d, _, e⟩ := List.mem_map.mp z
      subst e
      cases h2
    · have := (List.mem_replicate.mp z).2
      subst this
      cases h2
section
variable {P : Program} {w : World} {K : PySem.W.Frag} {mg : Str → Option Value} {base : Heap}
/-- the family of a def's body -/
abbrev famOf (P : Program) (w : World) (K : PySem.W.Frag) (mg : Str → Option Value) (base : Heap) (N : List Str) (qual : Str) (scope : Scope) (f : Addr) (cd : Value) (A : Around) (outer : List Env) (s : Shared) (H : Hp) (E : XK) : Fam :=
  ⟨Unit, fun _ => (cxOf CX0 P w K mg base N qual scope f cd A outer s H E).nox, K, fun _ => rfl⟩
end
section
variable {F : Fam} {e : Expr} {es : List Expr} {tA : DA} {pos p : Pos} {k : Nat} {f : Addr} {fd : FuncData} {ps : List Str} {S : DSp} {x : Str}
def dCall (S : DSp) (t : DA) : DE := fun env Q => t env fun ds env1 => S ds fun z => Q z env1
theorem sem_call {K : PySem.W.Frag} {ta : TA} (h : SemA K ta tA) : SemE K (tCall (spD K false S) [] E0 ta) (dCall S tA) := fun G0 H0 env σ G H Q R I q kk =>
  h G0 H0 env σ G H _ _ I q fun vs H1 G1 env1 ds s1 I1 r1 q1 => ⟨G1, ds, _, I1.sub, by rw [List.append_nil]; exact r1, q1, fun v H' G' d a b c r q2 => by
    obtain ⟨I2, s2⟩ := I1.ext a b c
    exact kk v H' G' env1 d (s1.trans s2) I2 r q2⟩
theorem sem_callO {K : PySem.W.Frag} {ta : TA} (h : SemA K ta tA) : SemO K (tCall (spD K true S) [] E0 ta) (dCall S tA) := fun G0 H0 env σ G H Q R I q kk =>
  h G0 H0 env σ G H _ _ I q fun vs H1 G1 env1 ds s1 I1 r1 q1 => ⟨G1, ds, _, I1.sub, by rw [List.append_nil]; exact r1, q1, fun v H' G' d a b c r q2 => by
    obtain ⟨I2, s2⟩ := I1.ext a b c
    obtain ⟨p, rfl, g, h0, ow⟩ := r
    exact kk (.ref p) H' G' env1 d (s1.trans s2) I2 ⟨p, rfl, g, (I1.free h0).2, ow, I1.noslot h0⟩ q2⟩
/-- f(..) -/
theorem q_call (G : ∀ i, FnG (F.X i).prog (F.X i).w (F.X i).K (F.X i).mg (F.X i).base CX0 k f fd ps (spD F.K false S)) (hr : ∀ i, RoomG k (F.X i).A) (hm : ∀ i, (F.X i).mg x = some (.ref f)) (hk : PySem.W.keepIn F.K (.ref f) = true) (hb : Binds F.K fd ps [])
    (ha : QA F (e :: es) tA) (hg : ∀ i, Gl (F.X i) x := by exact fun _ => rfl) (hdb : (x == ("__debug__" : Str)) = false := by decide) (he : ∀ i, starEach (e :: es) (F.X i).env = (false, eval e (F.X i).env) :: starEach es (F.X i).env := by intro _; rfl) (hpl : ∀ i, (backTo pos (starEach es (F.X i).env)).any (·.1) = false := by intro _; rfl) :
    QE F (.Call (.Name x p) (e :: es) [] pos) (dCall S tA) := by
  obtain ⟨ts, pa, s⟩ := ha
  exact ⟨_, fun i => pe_callG (G i) (hr i) (hg i) (hm i) (by rw [F.hK]; exact hk) (by rw [F.hK]; exact hb) .nil pass0 (pa i) hdb (he i) (hpl i), sem_call s⟩
theorem qo_call (G : ∀ i, FnG (F.X i).prog (F.X i).w (F.X i).K (F.X i).mg (F.X i).base CX0 k f fd ps (spD F.K true S)) (hr : ∀ i, RoomG k (F.X i).A) (hm : ∀ i, (F.X i).mg x = some (.ref f)) (hk : PySem.W.keepIn F.K (.ref f) = true) (hb : Binds F.K fd ps [])
    (ha : QA F (e :: es) tA) (hg : ∀ i, Gl (F.X i) x := by exact fun _ => rfl) (hdb : (x == ("__debug__" : Str)) = false := by decide) (he : ∀ i, starEach (e :: es) (F.X i).env = (false, eval e (F.X i).env) :: starEach es (F.X i).env := by intro _; rfl) (hpl : ∀ i, (backTo pos (starEach es (F.X i).env)).any (·.1) = false := by intro _; rfl) :
    QO F (.Call (.Name x p) (e :: es) [] pos) (dCall S tA) := by
  obtain ⟨ts, pa, s⟩ := ha
  exact ⟨_, fun i => pe_callG (G i) (hr i) (hg i) (hm i) (by rw [F.hK]; exact hk) (by rw [F.hK]; exact hb) .nil pass0 (pa i) hdb (he i) (hpl i), sem_callO s⟩
end
end DL

set_option Elab.async false
set_option linter.all false
set_option maxRecDepth 100000
namespace DL
open PySem PySem.Spec PyProof.Rows L2
section
variable {P : Program} {w : World} {K : PySem.W.Frag} {mg : Str → Option Value} {base : Heap}
abbrev FnP (K : PySem.W.Frag) (x : Str) (st : Stmt) (f : Addr) (fd : FuncData) : Prop := FunD K x x (defArgs st) (defBody st) (defScope st) [] [] f fd
theorem FunD.okD {x qual : Str} {params : Arguments} {body : List Stmt} {scope : Scope} {dvs : List V} {kws : List (Str × V)} {f : Addr} {fd : FuncData} {N ps : List Str} {k : Nat} {own : Bool} {S : DSp} (F : FunD K x qual params body scope dvs kws f fd) (Sc : FnScope N ps scope) (len : ∀ ds Q, S ds Q → ds.length = ps.length) (t : DS)
    (hbody : ∀ (cdv : Value) (A : Around) (outer : List Env) (s : Shared) (H : Hp) (E : XK), RoomG k (A.deeper (envOfC qual scope s.heap.objs.size f cdv)) → QSs (famOf P w K mg base N qual scope f cdv A outer s H E) own body t)
    (rd : ∀ ds Q, S ds Q → t { nx := fun _ => own = false ∧ Q .non, rt := Q } (startD N.length ds)) :
    FnG P w K mg base CX0 (k + 1) f fd ps (spD K own S) := by
  refine FunD.okG F Sc (fun vs H Q E h => ?_) (fun cdv A outer s H vs Q E hr h => ?_)
  · obtain ⟨G, ds, QD, _, r, hS, _⟩ := h
    rw [r.len]
    exact len ds QD hS
  · obtain ⟨G, ds, QD, s1, r, hS, k⟩ := h
    obtain ⟨ts, p, sem⟩ := hbody cdv A outer s H E hr
    refine ⟨ts, (p ()).nox, sem G H _ _ G H _ _ (er_start s1 r) (rd ds QD hS) ⟨fun env σ G' H' s2 I q => ?_, fun env σ G' H' v d s2 I r q => k v H' G' d I.old I.gold I.sub r q, fun _ _ _ _ _ _ q => q, fun _ _ _ _ _ _ q => q⟩⟩
    obtain ⟨rfl, q⟩ := q
    exact k .non H' G' .non I.old I.gold I.sub (rfl : Rep K G' .non .non) q
end
def QK (F : Fam) (kws : List Keyword) (t : DA) : Prop := ∃ te : TA, (∀ i, PK (F.X i) kws te) ∧ SemA F.K te t
section
variable {F : Fam} {e : Expr} {es : List Expr} {kws : List Keyword} {te : DE} {tA tk : DA} {pos p kpos : Pos} {k n : Nat} {f : Addr} {fd : FuncData} {ps ks : List Str} {S : DSp} {x : Str} {nm : Option Str} {g : List Value → List Value → List Value} {gV : List V → List V → List V} {gD : List D → List D → List D}
theorem qk_nil : QK F [] dNil := ⟨tNil, fun _ => pk_nil, fun G0 H0 env σ G H Q R I q k => k [] H G env [] (Same.refl G) I rfl q⟩
theorem qk_cons (h : QE F e te) (h2 : QK F kws tk) : QK F (⟨nm, e, kpos⟩ :: kws) (dCons te tk) := by
  obtain ⟨t1, p, s⟩ := h
  obtain ⟨t2, p2, s2⟩ := h2
  exact ⟨tCons t1 t2, fun i => pk_cons (p i) (p2 i), fun G0 H0 env σ G H Q R I q k => s G0 H0 env σ G H _ _ I q fun v H1 G1 env1 d e1 I1 r1 q1 =>
    s2 G0 H0 env1 σ G1 H1 _ _ I1 q1 fun vs H2 G2 env2 ds e2 I2 r2 q2 => k (v :: vs) H2 G2 env2 (d :: ds) (e1.trans e2) I2 ⟨v, vs, rfl, r1.mono e2, r2⟩ q2⟩
/-- how the values of the arguments and of the keywords are put in the parameters' order -/
def RelG (gV : List V → List V → List V) (gD : List D → List D → List D) (n m : Nat) : Prop := ∀ (K : PySem.W.Frag) (G : Hp) (ds es : List D) (vs ws : List V), ds.length = n → es.length = m → Reps K G ds vs → Reps K G es ws → Reps K G (gD ds es) (gV vs ws)
def dCallK (n m : Nat) (gD : List D → List D → List D) (S : DSp) (t u : DA) : DE := fun env Q => t env fun ds env1 => u env1 fun es env2 => ds.length = n ∧ es.length = m ∧ S (gD ds es) fun z => Q z env2
theorem sem_callK {K : PySem.W.Frag} {ta tb : TA} {m : Nat} (hg : RelG gV gD n m) (h : SemA K ta tA) (h2 : SemA K tb tk) : SemE K (tCallN n m (spD K false S) gV E0 ta tb) (dCallK n m gD S tA tk) := fun G0 H0 env σ G H Q R I q kk =>
  h G0 H0 env σ G H _ _ I q fun vs H1 G1 env1 ds s1 I1 r1 q1 => h2 G0 H0 env1 σ G1 H1 _ _ I1 q1 fun ws H2 G2 env2 es s2 I2 r2 q2 =>
    ⟨by rw [r1.len]; exact q2.1, by rw [r2.len]; exact q2.2.1, G2, gD ds es, _, I2.sub, hg K G2 ds es vs ws q2.1 q2.2.1 (r1.mono s2) r2, q2.2.2, fun v H' G' d a b c r q3 => by
      obtain ⟨I3, s3⟩ := I2.ext a b c
      exact kk v H' G' env2 d (s1.trans (s2.trans s3)) I3 r q3⟩
theorem q_callK0 {m : Nat} (G : ∀ i, FnG (F.X i).prog (F.X i).w (F.X i).K (F.X i).mg (F.X i).base CX0 k f fd ps (spD F.K false S)) (hr : ∀ i, RoomG k (F.X i).A) (hm : ∀ i, (F.X i).mg x = some (.ref f)) (hk : PySem.W.keepIn F.K (.ref f) = true) (hb : KBn F.K fd ps 0 ks g gV) (hgD : RelG gV gD 0 m) (hkl : ks.length = m)
    (hkw : QK F kws tk) (hg : ∀ i, Gl (F.X i) x := by exact fun _ => rfl) (hall : ∀ i, (backToKw pos (keywordEach kws (F.X i).env)).all (·.1.isSome) = true := by intro _; rfl) (hks : ∀ i, (backToKw pos (keywordEach kws (F.X i).env)).filterMap (·.1) = ks := by intro _; rfl)
    (hdb : (x == ("__debug__" : Str)) = false := by decide)
    (hpl : ∀ i, ((backTo pos (starEach [] (F.X i).env)).any (·.1) || (backToKw pos (keywordEach kws (F.X i).env)).any (·.1.isNone)) = false := by intro _; rfl) :
    QE F (.Call (.Name x p) [] kws pos) (dCallK 0 m gD S dNil tk) := by
  obtain ⟨tb, pb, sb⟩ := hkw
  subst hkl
  exact ⟨_, fun i => pe_callN0G (G i) (hr i) (hg i) (hm i) (by rw [F.hK]; exact hk) (by rw [F.hK]; exact hb) pass0 (pb i) (hall i) (hks i) hdb (hpl i),
    sem_callK hgD (fun G0 H0 env σ G H Q R I q k => k [] H G env [] (Same.refl G) I rfl q) sb⟩
theorem q_callK {m : Nat} (G : ∀ i, FnG (F.X i).prog (F.X i).w (F.X i).K (F.X i).mg (F.X i).base CX0 k f fd ps (spD F.K false S)) (hr : ∀ i, RoomG k (F.X i).A) (hm : ∀ i, (F.X i).mg x = some (.ref f)) (hk : PySem.W.keepIn F.K (.ref f) = true) (hb : KBn F.K fd ps n ks g gV) (hgD : RelG gV gD n m) (hkl : ks.length = m)
    (ha : QA F (e :: es) tA) (hkw : QK F kws tk) (hg : ∀ i, Gl (F.X i) x := by exact fun _ => rfl) (hall : ∀ i, (backToKw pos (keywordEach kws (F.X i).env)).all (·.1.isSome) = true := by intro _; rfl) (hks : ∀ i, (backToKw pos (keywordEach kws (F.X i).env)).filterMap (·.1) = ks := by intro _; rfl)
    (hdb : (x == ("__debug__" : Str)) = false := by decide) (he : ∀ i, starEach (e :: es) (F.X i).env = (false, eval e (F.X i).env) :: starEach es (F.X i).env := by intro _; rfl)
    (hpl : ∀ i, ((backTo pos (starEach (e :: es) (F.X i).env)).any (·.1) || (backToKw pos (keywordEach kws (F.X i).env)).any (·.1.isNone)) = false := by intro _; rfl) :
    QE F (.Call (.Name x p) (e :: es) kws pos) (dCallK n m gD S tA tk) := by
  obtain ⟨ta, pa, sa⟩ := ha
  obtain ⟨tb, pb, sb⟩ := hkw
  subst hkl
  exact ⟨_, fun i => pe_callNG (G i) (hr i) (hg i) (hm i) (by rw [F.hK]; exact hk) (by rw [F.hK]; exact hb) pass0 (pa i) (pb i) (hall i) (hks i) hdb (he i) (hpl i), sem_callK hgD sa sb⟩
/-- keywords of a def without defaults -/
theorem kb_of {K : PySem.W.Frag} {y qual : Str} {params : Arguments} {body : List Stmt} {scope : Scope} {f : Addr} {fd : FuncData} {ps ks : List Str} {n : Nat} (F : FunD K y qual params body scope [] [] f fd) (g : {α : Type} → List α → List α → List α)
    (hrel : ∀ {vs : List V} {us : List Value} {zs : List V} {ws : List Value}, Vals vs us → Vals zs ws → Vals (g vs zs) (g us ws))
    (h : ∀ (kV doc pm : Value) (an : Option Addr) (cdv ct : Value) (us ws : List Value), us.length = n → ws.length = ks.length → bindArgs (PySem.W.fnOf y qual params body scope .none kV doc pm an cdv ct) ⟨us, ks.zip ws⟩ = pure (ps.zip (g us ws))) : KBn K fd ps n ks (fun us ws => g us ws) (fun vs zs => g vs zs) := by
  obtain ⟨oc, od, dV, kV, doc, pm, an, cdv, ct, osl, rfl, lk, hcd, hD, hK⟩ := F.ex
  rcases hD with ⟨_, rfl⟩ | ⟨e, _⟩
  · exact ⟨fun s us ws _ h1 h2 => .of_eq (h kV doc pm an cdv ct us ws h1 h2), hrel⟩
  · exact absurd rfl e
end
def spLawD : DSp := fun ds Q => ∃ ns : List Int, ds = [.scr ns] ∧ ns.length ≤ 63 ∧ Q (.bl true) ∧ ∀ z ∈ ns, Builtin.Int.intBits z ≤ 1048576
theorem law_sp {K : PySem.W.Frag} {H : Hp} {a : Addr} {ns : List Int} (hl : ns.length ≤ 63) (hb : ∀ z ∈ ns, Builtin.Int.intBits z ≤ 1048576) (hS : SqL K H a (ns.map V.int)) {E : XK} : spD K false spLawD [.ref a] H (fun v _ => v = .bl true) E :=
  ⟨H, [.scr ns], fun d => d = .bl true, Same.refl H, Reps.one ⟨a, rfl, hS⟩, ⟨ns, rfl, hl, rfl, hb⟩, fun v H' G' d _ _ _ r q => by
    subst q
    exact (r : Rep K G' (.bl true) v)⟩
end DL

set_option Elab.async false
set_option linter.all false
set_option maxRecDepth 100000
namespace DL
open PySem PySem.Spec PyProof.Rows L2
section
variable {F : Fam} {own : Bool} {e a b c o : Expr} {es : List Expr} {te ta tb : DE} {tt : DT} {tA : DA} {pos : Pos}
def iSeq (K : PySem.W.Frag) (tl : TE) : TI := fun σ H R => tl σ H fun x H1 => (∃ a, x = .ref a ∧ (∃ xs, SqL K H1 a xs) ∧ R (Itl K a) H1) ∨ (∃ a, x = .ref a ∧ (∃ xs, SqT K H1 a xs) ∧ R (Itt K a) H1) ∨ ∃ z, x = .str z ∧ R (Its z) H1
theorem pi_seq {X : Cx} {tg l : Expr} {tl : TE} (hl : PE X l tl) : PI X tg l (iSeq X.K tl) := by
  refine ⟨fun pins s σ H R I h => ?_⟩
  refine thn (hl.run pins s σ H _ I h) fun v s1 ⟨x, H1, I1, r1, q1⟩ => ?_
  rcases q1 with ⟨a, e, ⟨xs, hq⟩, q⟩ | ⟨a, e, ⟨xs, hq⟩, q⟩ | ⟨x, ex, q⟩
  · subst e
    cases r1
    obtain ⟨its, rv, p, hz⟩ := I1.list hq
    refine wpAny_pyIter_list p.isList ?_
    refine ⟨s1.heap.objs.size, [s1.heap.objs.size], _, _, H1, rfl, I1.kept (t' := s1.toks) fun b o e => Heap.get?_push_of_some _ e, turn_list a _, ⟨_, Heap.get?_push_size _ rfl, rfl, rfl⟩, fun b hb => ?_, q⟩
    have e : b = s1.heap.objs.size := by simpa using hb
    subst e
    exact I1.fpOk (Nat.le_refl _) (I1.hok.fresh (Nat.le_refl _))
  · subst e
    cases r1
    obtain ⟨its, rv, p, hz⟩ := I1.tuple hq
    refine wpAny_pyIter_tuple (show s1.heap.IsTuple a its.toArray from p) ?_
    refine ⟨s1.heap.objs.size, [s1.heap.objs.size], _, _, H1, rfl, I1.kept (t' := s1.toks) fun b o e => Heap.get?_push_of_some _ e, turn_tuple a _, ⟨_, Heap.get?_push_size _ rfl, rfl, rfl⟩, fun b hb => ?_, q⟩
    have e : b = s1.heap.objs.size := by simpa using hb
    subst e
    exact I1.fpOk (Nat.le_refl _) (I1.hok.fresh (Nat.le_refl _))
  · subst ex
    obtain ⟨t, rfl⟩ := r1
    cases ha : x.cps.all (· < 128)
    · exact wpAny_pyIter_wide ha (pi_one (tk := s1.toks) I1 _ (turn_str _ x t "str_iterator" (.inr rfl)) ⟨_, Heap.get?_push_size _ rfl, rfl, rfl⟩ q)
    · exact wpAny_pyIter_ascii ha (pi_one (tk := s1.toks) I1 _ (turn_str _ x t "str_ascii_iterator" (.inl rfl)) ⟨_, Heap.get?_push_size _ rfl, rfl, rfl⟩ q)
theorem its_ok {K : PySem.W.Frag} {G : Hp} {l : List Nat} : ItOk K (Its ⟨l.toArray⟩) G (l.map fun c => .str [c]) where
  go := fun i G' H' s1 s2 hi => by rw [List.length_map] at hi; show i < l.toArray.size; simpa using hi
  stop := fun G' H' s1 s2 => by rw [List.length_map]; show l.toArray.size ≤ l.length; simp
  yld := fun i G' H' d x H'' s1 s2 hd y => by
    obtain ⟨e, c, h1, h2⟩ := y
    subst e
    rw [List.getElem?_map] at hd
    have h1' : l[i]? = some c := by simpa using h1
    rw [h1'] at hd
    cases hd
    exact ⟨G', Same.refl _, fun _ _ => rfl, s2, h2⟩
def itemsS : D → (List D → Prop) → Prop
  | .lst ds, Q => Q ds
  | .scr ns, Q => Q (ns.map .int)
  | .tup ds, Q => Q ds
  | .str s, Q => Q (s.map fun c => .str [c])
  | _, _ => False
def dItS (t : DE) : DI := fun env Q => t env fun d env1 => itemsS d fun ds => Q ds env1
theorem qi_seq {tg iter : Expr} (h : QE F iter te) : QI F tg iter (dItS te) := by
  obtain ⟨ts, p, s⟩ := h
  refine ⟨iSeq F.K ts, fun i => by have := pi_seq (tg := tg) (p i); rw [F.hK] at this; exact this, fun G0 H0 env σ G H Q R I q k => s G0 H0 env σ G H _ _ I q fun v H1 G1 env1 d s1 I1 r1 q1 => ?_⟩
  cases d with
  | lst ds =>
    obtain ⟨a, vs, e1, h1, r1⟩ := r1
    exact .inl ⟨a, e1, ⟨vs, SqL.of (I1.sub _ _ h1)⟩, k _ H1 G1 env1 ds s1 I1 (itl_ok (SqL.of h1) r1) q1⟩
  | scr ns =>
    obtain ⟨a, e1, h1⟩ := r1
    exact .inl ⟨a, e1, ⟨_, I1.sub.seq h1⟩, k _ H1 G1 env1 _ s1 I1 (itl_ok h1 (Reps.ints ns)) q1⟩
  | tup ds =>
    obtain ⟨a, vs, e1, h1, r1⟩ := r1
    exact .inr (.inl ⟨a, e1, ⟨vs, Same.sqt I1.sub h1⟩, k _ H1 G1 env1 ds s1 I1 (itt_ok h1 r1) q1⟩)
  | str z => exact .inr (.inr ⟨_, r1, k _ H1 G1 env1 _ s1 I1 its_ok q1⟩)
  | _ => exact (q1 : False).elim

inductive BT where
  | int | bool | str | list | tuple | dict
def BT.nm : BT → String
  | .int => "int" | .bool => "bool" | .str => "str" | .list => "list" | .tuple => "tuple" | .dict => "dict"
inductive Kd where
  | non | bool | int | str | tuple | list | dict
def Kd.nm : Kd → String
  | .non => "NoneType" | .bool => "bool" | .int => "int" | .str => "str" | .tuple => "tuple" | .list => "list" | .dict => "dict"
def isB2 : BT → Kd → Bool
  | .int, .int => true | .int, .bool => true | .bool, .bool => true | .str, .str => true | .list, .list => true | .tuple, .tuple => true | .dict, .dict => true
  | _, _ => false
theorem kit_kd (k : Kd) (T : BT) : kitB k.nm T.nm = some (isB2 T k) := by cases k <;> cases T <;> decide +kernel
def kdD : D → Kd
  | .non => .non | .bl _ => .bool | .int _ => .int | .str _ => .str | .tup _ => .tuple | .lst _ => .list | .scr _ => .list | .dk _ _ => .dict | .dt _ _ => .dict | .ins _ _ _ => .non
def isBT (T : BT) (d : D) : Bool := isB2 T (kdD d)
def plainD : D → Bool
  | .ins _ _ _ => false
  | .scr _ => false
  | _ => true
def cIsi (T : BT) (d : D) (Q : D → Prop) : Prop := plainD d = true ∧ Q (.bl (isBT T d))
theorem tyx_of {K : PySem.W.Frag} {G H : Hp} (s : Same G H) {d : D} {v : V} (r : Rep K G d v) (h : plainD d = true) : TyX K H v (.type (kdD d).nm) := by
  cases d with
  | non => cases (show _ = _ from r); exact .base .non
  | bl b => cases (show _ = _ from r); exact .base (.bl b)
  | int b => cases (show _ = _ from r); exact .base (.int b)
  | str b => cases (show _ = _ from r); exact .base (.str _)
  | tup ds =>
    obtain ⟨a, vs, rfl, h1, _⟩ := r
    rcases Same.sqt s h1 with (z | ⟨o, z⟩) | ⟨o, its, n, z, c, _⟩
    · exact .base (.tup z)
    · exact .fTuple z
    · exact .kTuple z c
  | lst ds =>
    obtain ⟨a, vs, rfl, h1, _⟩ := r
    exact .base (.lst (s _ _ h1))
  | dk ks ds =>
    obtain ⟨a, vs, rfl, h1, _⟩ := r
    exact .base (.dK (s _ _ h1))
  | dt ks ds =>
    obtain ⟨a, vs, rfl, h1, _⟩ := r
    exact .base (.dT (s _ _ h1))
  | scr _ => cases h
  | ins _ _ _ => cases h
theorem q_isi (T : BT) {x : Str} {p q : Pos} (hm : ∀ i, (F.X i).mg "isinstance" = none) (hmT : ∀ i, (F.X i).mg x = none) (hv : bootBuiltins x = some (.type T.nm)) (h : QE F e te) (hg : ∀ i, Gl (F.X i) "isinstance" := by exact fun _ => rfl) (hgT : ∀ i, Gl (F.X i) x := by exact fun _ => rfl) (hn : x ≠ "__name__" := by decide) (hd : (x == ("__debug__" : Str)) = false := by decide)
    (hs : ∀ i, starEach [e, .Name x q] (F.X i).env = (false, eval e (F.X i).env) :: starEach [.Name x q] (F.X i).env := by intro _; rfl) : QE F (.Call (.Name "isinstance" p) [e, .Name x q] [] pos) (dCal (cIsi T) te) := by
  obtain ⟨ts, pe, s⟩ := h
  refine ⟨tCB (rIsi F.K) (tCons ts (tCons (tC (.ty T.nm)) tNil)), fun i => ?_, fun G0 H0 env σ G H Q R I q k => s G0 H0 env σ G H _ _ I q fun v H1 G1 env1 d s1 I1 r1 q1 => ?_⟩
  · have := pe_callB (X := F.X i) (pos := pos) (p := p) call_isi (hg i) (hm i) (by decide +kernel) (pa_cons (pe i) (pa_cons (pe_bltn (v := .ty T.nm) (pos := q) (hgT i) (hmT i) hv rfl hn hd) pa_nil) (hs i)) (he := hs i)
    rw [F.hK] at this
    exact this
  · have ty := tyx_of I1.sub r1 q1.1
    exact ⟨v, .ty T.nm, _, .type T.nm, _, rfl, .ty _, ty, kit_ty (kit_kd _ T), k _ H1 G1 env1 (.bl (isBT T d)) s1 I1 rfl q1.2⟩

def dCal2 (c : D → D → (D → Prop) → Prop) (ta tb : DE) : DE := dOp c ta tb
def cMax (x y : D) (Q : D → Prop) : Prop := match x, y with
  | .int i, .int j => Q (.int (max i j))
  | _, _ => False
def cMin (x y : D) (Q : D → Prop) : Prop := match x, y with
  | .int i, .int j => Q (.int (min i j))
  | _, _ => False
theorem q_max2 {p : Pos} (hc : ∀ i, (F.X i).calm = true) (hm : ∀ i, (F.X i).mg "max" = none) (ha : QE F a ta) (hb : QE F b tb) (hg : ∀ i, Gl (F.X i) "max" := by exact fun _ => rfl) (hs : ∀ i, starEach [a, b] (F.X i).env = (false, eval a (F.X i).env) :: starEach [b] (F.X i).env := by intro _; rfl) (hs2 : ∀ i, starEach (b :: []) (F.X i).env = (false, eval b (F.X i).env) :: starEach [] (F.X i).env := by intro _; rfl)
    (hpl : ∀ i, (backTo pos (starEach [b] (F.X i).env)).any (·.1) = false := by intro _; rfl) : QE F (.Call (.Name "max" p) [a, b] [] pos) (dOp cMax ta tb) := by
  obtain ⟨sa, pa, ha⟩ := ha
  obtain ⟨sb, pb, hb⟩ := hb
  refine ⟨_, fun i => pe_callB (call_max2 (hc i)) (hg i) (hm i) (by decide +kernel) (pa_cons (pa i) (pa1 (pb i) (hs2 i)) (hs i)) (he := hs i) (hpl := hpl i), fun G0 H0 env σ G H Q R I q k => ?_⟩
  refine ha G0 H0 env σ G H _ _ I q fun x H1 G1 env1 d s1 I1 r1 q1 => hb G0 H0 env1 σ G1 H1 _ _ I1 q1 fun y H2 G2 env2 f s2 I2 r2 q2 => ?_
  cases d with
  | int i =>
    cases f with
    | int j =>
      refine ⟨i, j, by rw [rep_int r1, rep_int r2], k _ H2 G2 env2 (.int (max i j)) (s1.trans s2) I2 ?_ q2⟩
      show V.int _ = V.int _
      congr 1
      split <;> omega
    | _ => exact (q2 : False).elim
  | _ => exact (q2 : False).elim
theorem q_min2 {p : Pos} (hc : ∀ i, (F.X i).calm = true) (hm : ∀ i, (F.X i).mg "min" = none) (ha : QE F a ta) (hb : QE F b tb) (hg : ∀ i, Gl (F.X i) "min" := by exact fun _ => rfl) (hs : ∀ i, starEach [a, b] (F.X i).env = (false, eval a (F.X i).env) :: starEach [b] (F.X i).env := by intro _; rfl) (hs2 : ∀ i, starEach (b :: []) (F.X i).env = (false, eval b (F.X i).env) :: starEach [] (F.X i).env := by intro _; rfl)
    (hpl : ∀ i, (backTo pos (starEach [b] (F.X i).env)).any (·.1) = false := by intro _; rfl) : QE F (.Call (.Name "min" p) [a, b] [] pos) (dOp cMin ta tb) := by
  obtain ⟨sa, pa, ha⟩ := ha
  obtain ⟨sb, pb, hb⟩ := hb
  refine ⟨_, fun i => pe_callB (call_min2 (hc i)) (hg i) (hm i) (by decide +kernel) (pa_cons (pa i) (pa1 (pb i) (hs2 i)) (hs i)) (he := hs i) (hpl := hpl i), fun G0 H0 env σ G H Q R I q k => ?_⟩
  refine ha G0 H0 env σ G H _ _ I q fun x H1 G1 env1 d s1 I1 r1 q1 => hb G0 H0 env1 σ G1 H1 _ _ I1 q1 fun y H2 G2 env2 f s2 I2 r2 q2 => ?_
  cases d with
  | int i =>
    cases f with
    | int j =>
      refine ⟨i, j, by rw [rep_int r1, rep_int r2], k _ H2 G2 env2 (.int (min i j)) (s1.trans s2) I2 ?_ q2⟩
      show V.int _ = V.int _
      congr 1
      split <;> omega
    | _ => exact (q2 : False).elim
  | _ => exact (q2 : False).elim
end
end DL

set_option Elab.async false
set_option linter.all false
set_option maxRecDepth 100000
namespace DL
open PySem PySem.Spec PyProof.Rows L2
theorem strs_of_map {G : Hp} {K : PySem.W.Frag} : ∀ {ls : List (List Nat)} {vs : List V}, Reps K G (ls.map .str) vs → vs = (ls.map fun l => (⟨l.toArray⟩ : Str)).map V.str
  | [], vs, h => h
  | l :: ls, vs, ⟨v, r, e1, a, b⟩ => by
    subst e1
    rw [strs_of_map b, rep_str a]
    rfl
theorem join_rev {prog : Program} {w : World} {A : Around} {E : Value → Shared → Prop} {s : Shared} {x : Str} {t : Tok} {it l : Addr} {items : Array Value} {ys : List Str} {Q : Value → Shared → Prop} (hh : A.handled = none) (hit : s.heap.IsRevIter it l ((items.size : Int) - 1)) (hl : s.heap.IsList l items) (hne : l ≠ it) (hn : items.size ≤ sizeLine)
    (hi : StrsAre items.toList.reverse ys) (hok : (ys.map (·.length)).sum + ys.length * x.length ≤ 16777216) (hq : ∀ h' t' k, (∀ b o, b ≠ it → s.heap.get? b = some o → h'.get? b = some o) → Q (.str (Txt.join x ys) t') { s with heap := h', toks := k }) :
    wpAny (model prog w) A (call (.builtin "str.join") [.str x t, .ref it]) Q E s := by
  refine wpAny_call (codeAny_call_builtin PySem.F.slot_str_join.plain PySem.F.entry_str_join (PySem.F.slot_str_join.check _ _ _ _ _ _ _ _ (typeIs_str _ _ _) (PySem.F.args_str_join_2 _ _) ?_))
  rw [join_tree_other]
  refine wpAny_bind (wpAny_typeOf hit.typeIs ?_)
  show wpAny _ A.in1 ((pyIter (.ref it)).tryCatch _ >>= fun it => collect it >>= fun items => joinTail x items) _ _ s
  refine wpAny_bind (wpAny_tryCatch (wpAny_pyIter_revIter hit ?_))
  refine wpAny_bind (RT.collect_rev (A := A.in1) hh hit hl hne hn fun h' tk acc hk hacc => ?_)
  have e : acc.toList = items.toList.reverse := by
    obtain ⟨h1, h2⟩ := hacc
    refine List.ext_getElem? fun i => ?_
    rw [Array.getElem?_toList]
    by_cases hi : i < items.size
    · have hi' : i < acc.size := by omega
      have := h2 i acc[i] (Array.getElem?_eq_getElem hi')
      rw [Array.getElem?_eq_getElem hi', ← this, List.getElem?_reverse (by simpa using hi)]
      simp
    · rw [Array.getElem?_eq_none (by omega), List.getElem?_eq_none (by simp; omega)]
  rw [e]
  obtain ⟨l2, hl2, ht⟩ := strsAre_values hi
  subst ht
  rw [hl2]
  have hok' := joinOk_of hok
  unfold JoinOk at hok'
  rw [Bool.not_eq_true'] at hok'
  have g : Gives (joinTail x (strValues l2)) (joinMade x l2) := by
    have g0 := gives_joinTail x l2 hok'
    cases l2 with
    | nil => exact g0
    | cons p r => cases r with
      | nil => exact g0
      | cons q r' => exact g0
  exact g prog w A (wants Q E) _ (post_join l2 ⟨joinFit_length hok', fun t' k => hq h' t' k hk⟩)
def tJoinRev (K : PySem.W.Frag) (to : TE) (ta : TA) : TE := fun σ H Q => to σ H fun x H1 => (∃ a, x = .str a) ∧ ta σ H1 fun vs H2 => ∃ (a : Str) (q : Addr) (ys : List Str),
  x = .str a ∧ vs = [.ref q] ∧ SqL K H2 q (ys.map V.str) ∧ (ys.map (·.length)).sum + ys.length * a.length ≤ 16777216 ∧ Q (.str (Txt.join a ys.reverse)) H2
theorem sum_rev (ys : List Str) : (ys.reverse.map (·.length)).sum = (ys.map (·.length)).sum := by
  rw [List.map_reverse, List.sum_reverse]
theorem pe_joinRev {X : Cx} {o e : Expr} {to : TE} {ta : TA} {apos pos p pos2 : Pos} (hc : X.calm = true) (ho : PE X o to) (hg : Gl X "reversed") (hm : X.mg "reversed" = none) (ha : PA X [e] ta)
    (hs1 : starEach [.Call (.Name "reversed" p) [e] [] pos2] X.env = [(false, eval (.Call (.Name "reversed" p) [e] [] pos2) X.env)] := by rfl) (hs : starEach [e] X.env = [(false, eval e X.env)] := by rfl)
    (hbase : attributeBase o "join" X.env (eval o X.env) = eval o X.env := by rfl) (hline : (apos.endLine == pos.line) = true := by rfl) :
    PE X (.Call (.Attribute o "join" apos) [.Call (.Name "reversed" p) [e] [] pos2] [] pos) (tJoinRev X.K to ta) := by
  refine ⟨fun pins s σ H Q I h => ?_⟩
  refine PySem.Call_method1 hbase hs1 hline (thn (ho.run pins s σ H _ I h) fun v s1 ⟨x, H1, I1, r1, q1⟩ => ?_)
  obtain ⟨⟨a, rfl⟩, q1⟩ := q1
  obtain ⟨t, rfl⟩ := _root_.id r1
  refine ⟨"str", _, PySem.F.plainAttrs_str, PySem.F.slot_str_join, PySem.F.type_str_join, typeIs_str _ _ _, (fun _ e => nomatch e), Calls.callWith_builtin rfl (Calls.evalArgs_plain (Calls.spliced_cons ?_))⟩
  refine Call_ (ld_blt I1 hg hm PyProof.Rows.boot_reversed (PyProof.Rows.callWith_type1 (thn (ha.run pos2 pins s1 σ H1 _ I1 q1) fun us s2 ⟨vs, H2, I2, r2, q2⟩ => ?_) hs rfl))
  obtain ⟨a', q, ys, ea, rfl, hq, hz, q3⟩ := q2
  cases ea
  cases r2 with
  | cons r rr =>
    cases rr
    cases r
    obtain ⟨its, rv, pl, hsz⟩ := I2.list hq
    have hlen : its.length = ys.length := by have := rv.length; simp at this; omega
    have hlt : q < s2.heap.objs.size := by obtain ⟨o, n, ho, _⟩ := pl; exact Heap.lt_size ho
    refine call_reversed_list pl.isList (Calls.spliced_nil ?_)
    refine join_rev (I2.ok.hd hc) ⟨_, Heap.get?_push_size _ rfl, rfl, rfl⟩ (pl.isList.push _) (Nat.ne_of_lt hlt) (by simp only [List.size_toArray]; rw [← rv.length]; exact hsz) (ys := ys.reverse) ?_ (by rw [sum_rev, List.length_reverse]; exact hz) fun h' t' k hk => ?_
    · rw [List.toList_toArray]
      have : Vals ((ys.reverse).map V.str) its.reverse := by rw [List.map_reverse]; exact Vals.reverse rv
      exact strs_of_vals this
    · exact ⟨.str _, H2, I2.kept (t' := k) fun b o e => hk b o (Nat.ne_of_lt (Heap.lt_size e)) (Heap.get?_push_of_some _ e), ⟨t', rfl⟩, q3⟩
/-- joined -/
def joinL (sep : List Nat) : List (List Nat) → List Nat
  | [] => []
  | [x] => x
  | x :: y :: r => x ++ sep ++ joinL sep (y :: r)
theorem joinL_nil : ∀ ls : List (List Nat), joinL [] ls = ls.flatten
  | [] => rfl
  | [x] => by simp [joinL]
  | x :: y :: r => by
    have := joinL_nil (y :: r)
    simp only [joinL, List.append_nil, this, List.flatten_cons]
theorem joinL_cons (sep x : List Nat) : ∀ ls : List (List Nat), joinL sep (x :: ls) = x ++ (ls.map fun l => sep ++ l).flatten
  | [] => by simp [joinL]
  | y :: r => by
    have := joinL_cons sep y r
    simp only [joinL, this, List.map_cons, List.flatten_cons, List.append_assoc]
theorem foldl_app (sep : List Nat) : ∀ (ls : List (List Nat)) (acc : Array Nat), ((ls.map fun l => (⟨l.toArray⟩ : Str)).foldl (fun acc p => acc ++ (⟨sep.toArray⟩ : Str).cps ++ p.cps) acc) = acc ++ ((ls.map fun l => sep ++ l).flatten).toArray
  | [], acc => by simp
  | l :: ls, acc => by
    rw [List.map_cons, List.foldl_cons, foldl_app sep ls, List.map_cons, List.flatten_cons]
    apply Array.ext'
    simp
theorem join_codes (sep : List Nat) : ∀ ls : List (List Nat), Txt.join (⟨sep.toArray⟩ : Str) (ls.map fun l => (⟨l.toArray⟩ : Str)) = ⟨(joinL sep ls).toArray⟩
  | [] => rfl
  | x :: ls => by
    rw [joinL_cons]
    show (⟨((List.drop 1 (List.map _ (x :: ls))).foldl _ _)⟩ : Str) = _
    have e : List.drop 1 (List.map (fun l => (⟨l.toArray⟩ : Str)) (x :: ls)) = ls.map fun l => (⟨l.toArray⟩ : Str) := rfl
    rw [e, foldl_app sep ls]
    congr 1
    show x.toArray ++ _ = _
    apply Array.ext'
    simp
theorem sum_codes (ls : List (List Nat)) : (((ls.map fun l => (⟨l.toArray⟩ : Str))).map (·.length)).sum = (ls.map List.length).sum := by
  rw [List.map_map]
  exact congrArg List.sum (List.map_congr_left fun l _ => str_len l)
section
variable {F : Fam} {o e : Expr} {to te : DE} {pos : Pos}
/-- sep.join(xs), sep.join(reversed(xs)) -/
def joinOk (rev : Bool) (s d : D) (Q : D → Prop) : Prop := match s, d with
  | .str s, .lst ds => ∃ ls : List (List Nat), ds = ls.map .str ∧ (ls.map List.length).sum + ls.length * s.length ≤ 16777216 ∧ Q (.str (joinL s (if rev then ls.reverse else ls)))
  | .str s, .tup ds => rev = false ∧ ∃ ls : List (List Nat), ds = ls.map .str ∧ (ls.map List.length).sum + ls.length * s.length ≤ 16777216 ∧ Q (.str (joinL s ls))
  | _, _ => False
def isStrD (s : D) (P : Prop) : Prop := match s with
  | .str _ => P
  | _ => False
def dJoin (rev : Bool) (to te : DE) : DE := fun env Q => to env fun s env1 => isStrD s (te env1 fun d env2 => joinOk rev s d fun z => Q z env2)
def rJn (K : PySem.W.Frag) : V → List V → Hp → VK → Prop := fun x xs H Q => ∃ a p, ∃ ys : List Str, x = .str a ∧ xs = [.ref p] ∧ (SqL K H p (ys.map V.str) ∨ SqT K H p (ys.map V.str)) ∧ (ys.map (·.length)).sum + ys.length * a.length ≤ 16777216 ∧ Q (.str (Txt.join a ys)) H
theorem q_join {apos : Pos} (ho : QE F o to) (he : QP F e te) (hs : ∀ i, starEach [e] (F.X i).env = [(false, eval e (F.X i).env)] := by intro _; rfl) (hbase : ∀ i, attributeBase o "join" (F.X i).env (eval o (F.X i).env) = eval o (F.X i).env := by intro _; rfl) (hline : (apos.endLine == pos.line) = true := by rfl) :
    QE F (.Call (.Attribute o "join" apos) [e] [] pos) (dJoin false to te) := by
  obtain ⟨so, po, ho⟩ := ho
  obtain ⟨se, pe, he⟩ := he
  refine ⟨tM1 (rJn F.K) so se, fun i => by have := pe_join (po i) (pe i) (hs i) (hbase i) hline; rw [F.hK] at this; exact this, fun G0 H0 env σ G H Q R I q k => ho G0 H0 env σ G H _ _ I q fun x H1 G1 env1 d s1 I1 r1 q1 => ?_⟩
  cases d with
  | str s =>
    refine ⟨⟨_, rep_str r1⟩, he G0 H0 env1 σ G1 H1 _ _ I1 q1 fun y H2 G2 env2 d2 s2 I2 r2 q2 => ?_⟩
    cases d2 with
    | lst ds =>
      obtain ⟨ls, rfl, hz, q⟩ := q2
      obtain ⟨p, vs, rfl, h1, a1⟩ := r2.lst I2.sub
      rw [strs_of_map a1] at h1
      refine ⟨_, p, _, rep_str r1, rfl, .inl (SqL.of h1), by rw [sum_codes, List.length_map, str_len]; exact hz, ?_⟩
      rw [join_codes]
      exact k _ H2 G2 env2 (.str (joinL s ls)) (s1.trans s2) I2 rfl q
    | tup ds =>
      obtain ⟨_, ls, rfl, hz, q⟩ := q2
      obtain ⟨p, vs, rfl, h1, a1⟩ := r2.frozen (fun _ z => z)
      rw [strs_of_map a1] at h1
      refine ⟨_, p, _, rep_str r1, rfl, .inr (Same.sqt I2.sub h1), by rw [sum_codes, List.length_map, str_len]; exact hz, ?_⟩
      rw [join_codes]
      exact k _ H2 G2 env2 (.str (joinL s ls)) (s1.trans s2) I2 rfl q
    | _ => exact (q2 : False).elim
  | _ => exact (q1 : False).elim
theorem q_joinrev {apos p pos2 : Pos} (hc : ∀ i, (F.X i).calm = true) (hm : ∀ i, (F.X i).mg "reversed" = none) (ho : QE F o to) (he : QP F e te) (hg : ∀ i, Gl (F.X i) "reversed" := by exact fun _ => rfl) (hs1 : ∀ i, starEach [.Call (.Name "reversed" p) [e] [] pos2] (F.X i).env = [(false, eval (.Call (.Name "reversed" p) [e] [] pos2) (F.X i).env)] := by intro _; rfl) (hs : ∀ i, starEach [e] (F.X i).env = [(false, eval e (F.X i).env)] := by intro _; rfl)
    (hbase : ∀ i, attributeBase o "join" (F.X i).env (eval o (F.X i).env) = eval o (F.X i).env := by intro _; rfl) (hline : (apos.endLine == pos.line) = true := by rfl) :
    QE F (.Call (.Attribute o "join" apos) [.Call (.Name "reversed" p) [e] [] pos2] [] pos) (dJoin true to te) := by
  obtain ⟨so, po, ho⟩ := ho
  obtain ⟨se, pe, he⟩ := he
  refine ⟨tJoinRev F.K so (tCons se tNil), fun i => by have := pe_joinRev (hc i) (po i) (hg i) (hm i) (pa1 (pe i) (hs i)) (hs1 i) (hs i) (hbase i) hline; rw [F.hK] at this; exact this, fun G0 H0 env σ G H Q R I q k => ho G0 H0 env σ G H _ _ I q fun x H1 G1 env1 d s1 I1 r1 q1 => ?_⟩
  cases d with
  | str s =>
    refine ⟨⟨_, rep_str r1⟩, he G0 H0 env1 σ G1 H1 _ _ I1 q1 fun y H2 G2 env2 d2 s2 I2 r2 q2 => ?_⟩
    cases d2 with
    | lst ds =>
      obtain ⟨ls, rfl, hz, q⟩ := q2
      obtain ⟨p, vs, rfl, h1, a1⟩ := r2.lst I2.sub
      rw [strs_of_map a1] at h1
      refine ⟨_, p, _, rep_str r1, rfl, SqL.of h1, by rw [sum_codes, List.length_map, str_len]; exact hz, ?_⟩
      rw [← List.map_reverse, join_codes]
      exact k _ H2 G2 env2 (.str (joinL s ls.reverse)) (s1.trans s2) I2 rfl q
    | tup ds => exact (Bool.noConfusion (q2.1 : true = false))
    | _ => exact (q2 : False).elim
  | _ => exact (q1 : False).elim
end
end DL

set_option Elab.async false
set_option linter.all false
set_option maxRecDepth 100000
namespace DL
open PySem PySem.Spec PyProof.Rows L2
inductive SK where
  | l (a : Addr) | t (a : Addr) | s (x : Str) (tk : Tok)
def SK.st (h : Heap) (it : Addr) (i : Nat) : SK → Prop
  | .l a => h.IsListIter it a i
  | .t a => h.IsTupleIter it a i
  | .s x tk => h.IsStrIter it (strIterType x) x tk i
def SK.ok (K : PySem.W.Frag) (H : Hp) (vs : List V) : SK → Prop
  | .l a => SqL K H a vs
  | .t a => SqT K H a vs
  | .s x _ => vs = x.cps.toList.map fun c => V.str ⟨#[c]⟩
def SK.src : SK → Option Addr
  | .l a => some a
  | .t a => some a
  | .s _ _ => none
theorem SK.ok.same {K : PySem.W.Frag} {H H' : Hp} {vs : List V} (e : Same H H') : ∀ {k : SK}, k.ok K H vs → k.ok K H' vs
  | .l _, h => e.seq h
  | .t _, h => Same.sqt e h
  | .s _ _, h => h
theorem SK.st_obj {h : Heap} {it : Addr} {i : Nat} : ∀ {k : SK}, k.st h it i → ∃ o, h.get? it = some o ∧ ∀ v, o.data ≠ .cell v
  | .l _, ⟨o, e, _, d⟩ => ⟨o, e, fun v q => by rw [d] at q; cases q⟩
  | .t _, ⟨o, e, _, d⟩ => ⟨o, e, fun v q => by rw [d] at q; cases q⟩
  | .s _ _, ⟨o, e, _, d⟩ => ⟨o, e, fun v q => by rw [d] at q; cases q⟩
theorem SK.st_at {h h' : Heap} {it : Addr} {i : Nat} (e : ∀ o, h.get? it = some o → h'.get? it = some o) : ∀ {k : SK}, k.st h it i → k.st h' it i
  | .l _, st => Heap.IsListIter.at st e
  | .t _, ⟨o, q, r⟩ => ⟨o, e o q, r⟩
  | .s _ _, ⟨o, q, r⟩ => ⟨o, e o q, r⟩
section
variable {X : Cx} {pins : List (Addr × Obj)} {σ : L2.St} {H : Hp} {s : Shared}
theorem src_ne {k : SK} {vs : List V} (I : L2.Inv X pins σ H s) (ok : k.ok X.K H vs) {b : Addr} (f : FpOk X pins H b) : k.src ≠ some b := by
  have old : ∀ {a : Addr} {o : Obj}, X.K.lookup a = some o → a ≠ b := fun {a o} e z => by
    subst z
    have h1 := I.ok.mod.kin a o e
    rcases f.2.2.2.1 with q | q
    · exact I.ok.noex a o h1 q
    · exact absurd (Nat.lt_of_lt_of_le (Heap.lt_size h1) (Nat.le_trans I.ok.bsz q)) (Nat.lt_irrefl _)
  intro e
  cases k with
  | l a =>
    cases e
    rcases ok with (h | ⟨o, h⟩) | ⟨o, its, n, h, _⟩
    · rw [f.1] at h; cases h
    · rw [f.1] at h; cases h
    · exact old h rfl
  | t a =>
    cases e
    rcases ok with (h | ⟨o, h⟩) | ⟨o, its, n, h, _⟩
    · rw [f.1] at h; cases h
    · rw [f.1] at h; cases h
    · exact old h rfl
  | s x tk => cases e
theorem SK.draws {A : Around} {k : SK} {vs : List V} {it : Addr} {i : Nat} (I : L2.Inv X pins σ H s) (hh : A.handled = none) (ok : k.ok X.K H vs) (f : FpOk X pins H it) (st : k.st s.heap it i) :
    ∃ (fp : List Addr) (n : Nat) (Pv : Nat → Value → Prop) (St : Nat → Heap → Prop), Draws X.prog X.w A it fp n Pv St ∧ n = vs.length ∧ it ∈ fp ∧ (∀ b ∈ fp, b = it ∨ k.src = some b) ∧ St i s.heap ∧
      (∀ j h', St j h' → k.st h' it j) ∧ ∀ j x, Pv j x → ∃ v, vs[j]? = some v ∧ RelV v x := by
  cases k with
  | l a =>
    obtain ⟨its, rv, p, hz⟩ := I.list ok
    have hne : a ≠ it := fun z => src_ne I ok f (by rw [z]; rfl)
    refine ⟨_, _, _, _, Draws.list hh it a hne its.toArray, by simp [rv.length], by simp, fun b hb => ?_, ⟨st, p.isList⟩, fun j h' x => x.1, fun j x hx => ?_⟩
    · rcases List.mem_cons.mp hb with z | z
      · exact .inl z
      · exact .inr (by rw [List.mem_singleton.mp z]; rfl)
    · have hx : its.toArray[j]? = some x := hx
      have hx' : its[j]? = some x := by simpa using hx
      have hj : j < vs.length := by rw [rv.length]; exact (List.getElem?_eq_some_iff.mp hx').1
      obtain ⟨u, h1, h2⟩ := rv.get (List.getElem?_eq_getElem hj)
      rw [hx'] at h1
      cases h1
      exact ⟨_, List.getElem?_eq_getElem hj, h2⟩
  | t a =>
    obtain ⟨its, rv, p, hz⟩ := I.tuple ok
    have hne : a ≠ it := fun z => src_ne I ok f (by rw [z]; rfl)
    refine ⟨_, _, _, _, Draws.tuple hh it a hne its.toArray, by simp [rv.length], by simp, fun b hb => ?_, ⟨st, p⟩, fun j h' x => x.1, fun j x hx => ?_⟩
    · rcases List.mem_cons.mp hb with z | z
      · exact .inl z
      · exact .inr (by rw [List.mem_singleton.mp z]; rfl)
    · have hx : its.toArray[j]? = some x := hx
      have hx' : its[j]? = some x := by simpa using hx
      have hj : j < vs.length := by rw [rv.length]; exact (List.getElem?_eq_some_iff.mp hx').1
      obtain ⟨u, h1, h2⟩ := rv.get (List.getElem?_eq_getElem hj)
      rw [hx'] at h1
      cases h1
      exact ⟨_, List.getElem?_eq_getElem hj, h2⟩
  | s x tk =>
    have ok : vs = x.cps.toList.map fun c => V.str ⟨#[c]⟩ := ok
    refine ⟨_, _, _, _, Draws.text hh it x tk, by rw [ok]; simp, by simp, fun b hb => .inl (List.mem_singleton.mp hb), st, fun j h' x => x, fun j u hu => ?_⟩
    obtain ⟨c, t, h1, rfl⟩ := hu
    exact ⟨.str ⟨#[c]⟩, by rw [ok, List.getElem?_map, Array.getElem?_toList, h1]; rfl, ⟨t, rfl⟩⟩
end
def ItE (K : PySem.W.Frag) (k : SK) (vs : List V) : It :=
  ⟨fun i H => i < vs.length ∧ k.ok K H vs, fun i H v H' => ∃ T x, v = .ref T ∧ H T = none ∧ H' = upd H T (.tup [.int (i : Nat), x]) ∧ vs[i]? = some x, fun i H => vs.length = i ∧ k.ok K H vs⟩
theorem turn_enumS {P : Program} {w : World} {K : PySem.W.Frag} {elts : List Expr} {kk : Nat} {tpos : Pos} (k : SK) (vs : List V) (e it : Addr) :
    Turn P w K (.Tuple elts kk tpos) (ItE K k vs) [e, it] e (fun i h => (∃ old, IsEnum h e it ((i : Nat) : Int) old) ∧ k.st h it i ∧ e ≠ it) where
  mem := by simp
  obj := fun i h st b hb => by
    obtain ⟨⟨old, he⟩, hk, _⟩ := st
    have e' : b = e ∨ b = it := by simpa using hb
    rcases e' with z | z
    · rw [z]; exact ⟨_, he, fun v q => nomatch q⟩
    · rw [z]; exact SK.st_obj (k := k) hk
  keep := fun i h h' st kp => let ⟨⟨old, he⟩, hi, hne⟩ := st; ⟨⟨old, kp e (by simp) _ he⟩, SK.st_at (k := k) (fun o q => kp it (by simp) o q) hi, hne⟩
  item := by
    intro X hP hw hK hc i pins s σ H E I hf st hg
    subst hP hw hK
    obtain ⟨⟨old, he⟩, hit, hne⟩ := st
    obtain ⟨hi, ok⟩ := hg
    obtain ⟨fp, n, Pv, St, D, hn, hm, hfp, hst, hback, hval⟩ := SK.draws (A := X.A.in1) I (I.ok.hd hc) ok (hf it (by simp)) hit
    have hel : e < s.heap.objs.size := Heap.lt_size he
    have hil : it < s.heap.objs.size := by obtain ⟨_, q⟩ := D.live _ _ hst; exact Heap.lt_size q
    have hef : e ∉ fp := fun z => by
      rcases hfp e z with q | q
      · exact hne q
      · exact src_ne I ok (hf e (by simp)) q
    refine wpAny_pyNext_enum_itemD D he hst (by omega) hne hef fun u h' tk hP ho hst' hT hsz hk => ?_
    refine ⟨_, rfl, wpAny_letOwnedTupleGo_enum (s := { s with heap := h', toks := tk + 1 }) ho fun h'' he' sb => ?_⟩
    obtain ⟨x, hx, rx⟩ := hval i u hP
    have hT2 : h''.get? s.heap.objs.size = some { cls := .type "tuple", data := .seq #[.int i tk, u] } := (sb.2 _ (Nat.ne_of_gt hel)).trans hT
    have new : ObjOk X.prog X.w (upd H s.heap.objs.size (.tup [.int (i : Nat), x])) h'' s.heap.objs.size (.tup [.int (i : Nat), x]) :=
      ⟨by show 2 ≤ sizeLine; decide, [.int i tk, u], .cons ⟨_, rfl⟩ (.cons rx .nil), ⟨_, hT2, rfl, _, rfl⟩⟩
    have I1 : L2.Inv X pins σ (upd H s.heap.objs.size (.tup [.int (i : Nat), x])) { s with heap := h'', toks := tk + 1 } :=
      I.turnedNew (ch := [e, it]) (fun b ob hb q => (sb.2 b (fun z => hb (by simp [z]))).trans (hk b ob (fun z => hb (by simp [z])) (fun z => hb (by simp [z])) q)) hf (Nat.le_refl _) new
    refine ⟨.ref s.heap.objs.size, _, I1, rfl, ⟨_, x, rfl, I.hok.fresh (Nat.le_refl _), rfl, hx⟩, ⟨⟨u, ?_⟩, SK.st_at (k := k) (fun o q => (sb.2 it (Ne.symm hne)).trans q) (hback _ _ hst'), hne⟩, fun b hb => ?_⟩
    · have e1 : ((i + 1 : Nat) : Int) = (i : Int) + 1 := by omega
      rw [e1]; exact he'
    · have hb' : b < s.heap.objs.size := by
        have e' : b = e ∨ b = it := by simpa using hb
        rcases e' with z | z
        · rw [z]; exact hel
        · rw [z]; exact hil
      rw [upd_ne (Nat.ne_of_lt hb')]
      exact (hf b hb).1
  done := by
    intro X hP hw hK hc i pins s σ H E I hf st hg
    subst hP hw hK
    obtain ⟨⟨old, he⟩, hit, hne⟩ := st
    obtain ⟨hi, ok⟩ := hg
    obtain ⟨f0, f1, f2, f3, f4, f5⟩ := hf it (by simp)
    obtain ⟨fp, n, Pv, St, D, hn, hm, hfp, hst, hback, hval⟩ := SK.draws (A := X.A.in1) I (I.ok.hd hc) ok (hf it (by simp)) hit
    have hin : i = n := by omega
    subst hin
    exact wpAny_pyNext_enum_endD D he hst fun h' eb => ⟨rfl, I.turned (t' := s.toks) (fun b o hb q => eb b o hb q) f0 f1 f3 f4 f5⟩
  self := fun A i s Q E st h => let ⟨⟨_, he⟩, _⟩ := st; wpAny_pyIter_enum he h
set_option maxHeartbeats 1000000 in
theorem meets_enumerate_new1 {v : Value} {o : Obj} {H : Heap → Prop} (B : Begins v o H) :
    Meets (Builtin.«enumerate.__new__» ⟨[.type "enumerate", v], []⟩) (fun _ R s => H s.heap ∧
      R (.ok (.ret (.ref (s.heap.push o).objs.size))) { s with heap := (s.heap.push o).push { cls := .type "enumerate", data := .fields #[.none, .bool false, .ref s.heap.objs.size, rawInt 0, .none, .none] } }) :=
  .of_wp fun prog w A R s h => by
    obtain ⟨hp, g, d, tk, os⟩ := s; obtain ⟨h1, h⟩ := h
    have hsub := sub_enumerate
    have q1 : ∀ {A' : Around} {E : Value → Shared → Prop} {Q : Value → Shared → Prop}, Q (.ref hp.objs.size) ⟨hp.push o, g, d, tk, os⟩ → wpAny (model prog w) A' (pyIter v) Q E ⟨hp, g, d, tk, os⟩ :=
      fun q => B.iter prog w _ _ ⟨hp, g, d, tk, os⟩ _ h1 q
    wp_walk using q1
    refine wpAny_stack_any fun st => wpAny_pure ?_
    split
    · rename_i c _ _ _ _ _
      cases (c == Value.type "enumerate")
      · wp_walk using q1
        exact ⟨_, rfl, h⟩
      · wp_walk using q1
        exact ⟨_, rfl, h⟩
    · wp_walk using q1
      exact ⟨_, rfl, h⟩
theorem enum1_begins {prog : Program} {w : World} {A : Around} {E : Value → Shared → Prop} {s : Shared} {v : Value} {o : Obj} {H : Heap → Prop} {Q : Value → Shared → Prop} (B : Begins v o H) (h1 : H s.heap)
    (h : ∀ h', IsEnum h' (s.heap.objs.size + 1) s.heap.objs.size 0 .none → h'.get? s.heap.objs.size = some o → h'.objs.size = s.heap.objs.size + 2 →
      (∀ b o, s.heap.get? b = some o → h'.get? b = some o) → Q (.ref (s.heap.objs.size + 1)) { s with heap := h' }) :
    wpAny (model prog w) A (call (.type "enumerate") [v]) Q E s := by
  refine callType_new PySem.F.called_enumerate (by decide) (PySem.F.typeCall_enumerate_1 _) (PySem.F.newCall_enumerate_1 _) (fun obj => PySem.F.args_object_init_2 obj _) PySem.F.entry_enumerate_new
    (meets_enumerate_new1 B) ⟨h1, ?_⟩
  have hz : (s.heap.push o).objs.size = s.heap.objs.size + 1 := Heap.size_push ..
  show _ ∧ _
  rw [hz]
  have he : IsEnum ((s.heap.push o).push { cls := .type "enumerate", data := .fields #[.none, .bool false, .ref s.heap.objs.size, rawInt 0, .none, .none] }) (s.heap.objs.size + 1) s.heap.objs.size 0 .none := by
    have := Heap.get?_push_size (s.heap.push o) (o := { cls := .type "enumerate", data := .fields #[.none, .bool false, .ref s.heap.objs.size, rawInt 0, .none, .none] }) rfl
    rw [hz] at this; exact this
  refine ⟨⟨_, he, rfl⟩, h _ he (Heap.get?_push_of_some _ (Heap.get?_push_size _ B.free)) (by rw [Heap.size_push, hz]) fun b o x => Heap.get?_push_of_some _ (Heap.get?_push_of_some _ x)⟩
def SK.val (u : Value) : SK → Prop
  | .l a => u = .ref a
  | .t a => u = .ref a
  | .s x tk => u = .str x tk
/-- the source's kind, by the value -/
theorem sk_begins {X : Cx} {pins : List (Addr × Obj)} {σ : L2.St} {H : Hp} {s : Shared} {k : SK} {vs : List V} (I : L2.Inv X pins σ H s) (ok : k.ok X.K H vs) (u : Value) (hu : k.val u) :
    ∃ (o : Obj) (G : Heap → Prop), Begins u o G ∧ G s.heap ∧ ∀ h' it, h'.get? it = some o → k.st h' it 0 := by
  cases k with
  | l a =>
    obtain ⟨its, rv, p, hz⟩ := I.list ok
    cases (show u = _ from hu)
    exact ⟨_, _, begins_list a its.toArray, p.isList, fun h' it e => ⟨_, e, rfl, rfl⟩⟩
  | t a =>
    obtain ⟨its, rv, p, hz⟩ := I.tuple ok
    cases (show u = _ from hu)
    exact ⟨_, _, begins_tuple a its.toArray, p, fun h' it e => ⟨_, e, rfl, rfl⟩⟩
  | s x tk =>
    cases (show u = _ from hu)
    exact ⟨_, _, begins_text x tk, trivial, fun h' it e => ⟨_, e, rfl, rfl⟩⟩
/-- a value is a source of these items -/
def SrcR (K : PySem.W.Frag) (H : Hp) (vs : List V) (v : V) (Pk : SK → Prop) : Prop := (∃ a, v = .ref a ∧ SqL K H a vs ∧ Pk (.l a)) ∨ (∃ a, v = .ref a ∧ SqT K H a vs ∧ Pk (.t a)) ∨ ∃ x : Str, v = .str x ∧ (vs = x.cps.toList.map fun c => V.str ⟨#[c]⟩) ∧ ∀ tk, Pk (.s x tk)
theorem SrcR.kind {K : PySem.W.Frag} {H : Hp} {vs : List V} {v : V} {u : Value} {Pk : SK → Prop} (h : SrcR K H vs v Pk) (r : L2.RelV v u) : ∃ k : SK, k.ok K H vs ∧ k.val u ∧ Pk k := by
  rcases h with ⟨a, rfl, h, q⟩ | ⟨a, rfl, h, q⟩ | ⟨x, rfl, h, q⟩
  · cases r; exact ⟨.l a, h, rfl, q⟩
  · cases r; exact ⟨.t a, h, rfl, q⟩
  · obtain ⟨t, rfl⟩ := r; exact ⟨.s x t, h, rfl, q t⟩
def iEnumS (K : PySem.W.Frag) (ta : TA) : TI := fun σ H R => ta σ H fun xs H1 => ∃ v vs, xs = [v] ∧ SrcR K H1 vs v fun k => R (ItE K k vs) H1
theorem pi_enumS {X : Cx} {e : Expr} {ta : TA} {p pos tpos : Pos} {elts : List Expr} {kk : Nat} (hg : Gl X "enumerate") (hm : X.mg "enumerate" = none) (ha : PA X [e] ta) (hs : starEach [e] X.env = [(false, eval e X.env)] := by rfl) :
    PI X (.Tuple elts kk tpos) (.Call (.Name "enumerate" p) [e] [] pos) (iEnumS X.K ta) := by
  refine ⟨fun pins s σ H R I h => ?_⟩
  refine Call_ (ld_blt I hg hm boot_enumerate (PyProof.Rows.callWith_type1 (thn (ha.run pos pins s σ H _ I h) fun us s1 ⟨xs, H1, I1, r1, q1⟩ => ?_) hs rfl))
  obtain ⟨v, vs, ex, hq⟩ := q1
  subst ex
  cases r1 with
  | cons r rr =>
    cases rr
    obtain ⟨k, ok, hu, q⟩ := hq.kind r
    obtain ⟨o, G, B, g, st0⟩ := sk_begins I1 ok _ hu
    refine enum1_begins B g fun h' he hit hsz hk => wpAny_pyIter_enum he ?_
    have I2 : L2.Inv X pins σ H1 { s1 with heap := h' } := I1.kept (t' := s1.toks) hk
    refine ⟨s1.heap.objs.size + 1, [s1.heap.objs.size + 1, s1.heap.objs.size], _, _, H1, rfl, I2, turn_enumS k vs (s1.heap.objs.size + 1) s1.heap.objs.size, ⟨⟨.none, he⟩, st0 _ _ hit, Nat.succ_ne_self _⟩, fun b hb => ?_, q⟩
    have e' : b = s1.heap.objs.size + 1 ∨ b = s1.heap.objs.size := by simpa using hb
    have hle : s1.heap.objs.size ≤ b := by
      rcases e' with z | z
      · rw [z]; exact Nat.le_add_right _ _
      · rw [z]; exact Nat.le_refl _
    exact I1.fpOk hle (I1.hok.fresh hle)
def ItZ (K : PySem.W.Frag) (k1 k2 : SK) (vs ws : List V) : It :=
  ⟨fun i H => i < vs.length ∧ i < ws.length ∧ k1.ok K H vs ∧ k2.ok K H ws, fun i H v H' => ∃ T x y, v = .ref T ∧ H T = none ∧ H' = upd H T (.tup [x, y]) ∧ vs[i]? = some x ∧ ws[i]? = some y,
    fun i H => i = min vs.length ws.length ∧ k1.ok K H vs ∧ k2.ok K H ws⟩
theorem turn_zipS {P : Program} {w : World} {K : PySem.W.Frag} {elts : List Expr} {kk : Nat} {tpos : Pos} (k1 k2 : SK) (vs ws : List V) (z TI TO i1 i2 : Addr) (ne : TI ≠ z ∧ TO ≠ z ∧ TI ≠ TO ∧ TI ≠ i1 ∧ TI ≠ i2 ∧ z ≠ i1 ∧ z ≠ i2 ∧ TO ≠ i1 ∧ TO ≠ i2 ∧ i1 ≠ i2) :
    Turn P w K (.Tuple elts kk tpos) (ItZ K k1 k2 vs ws) [z, TI, TO, i1, i2] z (fun i h => IsZip h z TI TO .none ∧ IsTupOf2 h TI (.ref i1) (.ref i2) ∧ (∃ x y, IsTupOf2 h TO x y) ∧ k1.st h i1 i ∧ k2.st h i2 i) where
  mem := by simp
  obj := fun i h st c hc => by
    obtain ⟨hz, hTI, ⟨x, y, hTO⟩, h1, h2⟩ := st
    have e' : c = z ∨ c = TI ∨ c = TO ∨ c = i1 ∨ c = i2 := by simpa using hc
    rcases e' with q | q | q | q | q
    · rw [q]; exact ⟨_, hz, fun v q => nomatch q⟩
    · rw [q]; exact ⟨_, hTI, fun v q => nomatch q⟩
    · rw [q]; exact ⟨_, hTO, fun v q => nomatch q⟩
    · rw [q]; exact SK.st_obj (k := k1) h1
    · rw [q]; exact SK.st_obj (k := k2) h2
  keep := fun i h h' st kp => by
    obtain ⟨hz, hTI, ⟨x, y, hTO⟩, h1, h2⟩ := st
    exact ⟨kp z (by simp) _ hz, kp TI (by simp) _ hTI, ⟨x, y, kp TO (by simp) _ hTO⟩, SK.st_at (k := k1) (fun o q => kp i1 (by simp) o q) h1, SK.st_at (k := k2) (fun o q => kp i2 (by simp) o q) h2⟩
  item := by
    intro X hP hw hK hc i pins s σ H E I hf st hg
    subst hP hw hK
    obtain ⟨hz, hTI, ⟨x0, y0, hTO⟩, h1, h2⟩ := st
    obtain ⟨a1, a2, ok1, ok2⟩ := hg
    obtain ⟨n1, n2, n3, n4, n5, n6, n7, n8, n9, n10⟩ := ne
    obtain ⟨fp1, m1, Pv1, St1, D1, e1, mm1, hfp1, hst1, hback1, hval1⟩ := SK.draws (A := X.A.in1) I (I.ok.hd hc) ok1 (hf i1 (by simp)) h1
    obtain ⟨fp2, m2, Pv2, St2, D2, e2, mm2, hfp2, hst2, hback2, hval2⟩ := SK.draws (A := X.A.in1) I (I.ok.hd hc) ok2 (hf i2 (by simp)) h2
    have out1 : ∀ b, b ∈ [z, TI, TO, i1, i2] → b ≠ i1 → b ∉ fp1 := fun b hb hn hm => by
      rcases hfp1 b hm with q | q
      · exact hn q
      · exact src_ne I ok1 (hf b hb) q
    have out2 : ∀ b, b ∈ [z, TI, TO, i1, i2] → b ≠ i2 → b ∉ fp2 := fun b hb hn hm => by
      rcases hfp2 b hm with q | q
      · exact hn q
      · exact src_ne I ok2 (hf b hb) q
    have S : ZipSep2 z TI TO i1 i2 fp1 fp2 := ⟨n1, n2, n3, n4, mm1, out1 z (by simp) n6, out1 TO (by simp) n8, n5, mm2, out2 z (by simp) n7, out2 TO (by simp) n9, out2 i1 (by simp) n10, out1 i2 (by simp) (Ne.symm n10)⟩
    have hzl : z < s.heap.objs.size := Heap.lt_size hz
    refine wpAny_pyNext_zipD2_item S D1 D2 hz hTI hTO hst1 hst2 (by omega) (by omega) fun u u2 h' tk p1 p2 z' TO' st1' st2' hT hsz hk => ?_
    refine ⟨_, rfl, wpAny_letOwnedTupleGo_zip (s := { s with heap := h', toks := tk }) z' fun h'' z'' sb => ?_⟩
    obtain ⟨x, hx, rx⟩ := hval1 i u p1
    obtain ⟨y, hy, ry⟩ := hval2 i u2 p2
    have hT2 : h''.get? s.heap.objs.size = some { cls := .type "tuple", data := .seq #[u, u2] } := (sb.2 _ (Nat.ne_of_gt hzl)).trans hT
    have new : ObjOk X.prog X.w (upd H s.heap.objs.size (.tup [x, y])) h'' s.heap.objs.size (.tup [x, y]) :=
      ⟨by show 2 ≤ sizeLine; decide, [u, u2], .cons rx (.cons ry .nil), ⟨_, hT2, rfl, _, rfl⟩⟩
    have I1 : L2.Inv X pins σ (upd H s.heap.objs.size (.tup [x, y])) { s with heap := h'', toks := tk } :=
      I.turnedNew (t' := tk) (ch := [z, TI, TO, i1, i2]) (fun c o hb q => (sb.2 c (fun q' => hb (by simp [q']))).trans (hk c o (fun q' => hb (by simp [q'])) (fun q' => hb (by simp [q'])) (fun q' => hb (by simp [q'])) (fun q' => hb (by simp [q'])) q)) hf (Nat.le_refl _) new
    refine ⟨.ref s.heap.objs.size, _, I1, rfl, ⟨_, x, y, rfl, I.hok.fresh (Nat.le_refl _), rfl, hx, hy⟩, ⟨z'', ?_, ⟨u, u2, ?_⟩, ?_, ?_⟩, fun c hcm => ?_⟩
    · exact (sb.2 _ n1).trans (hk _ _ n1 n3 n4 n5 hTI)
    · exact (sb.2 _ n2).trans TO'
    · exact SK.st_at (k := k1) (fun o q => (sb.2 _ (Ne.symm n6)).trans q) (hback1 _ _ st1')
    · exact SK.st_at (k := k2) (fun o q => (sb.2 _ (Ne.symm n7)).trans q) (hback2 _ _ st2')
    · have hlt : c < s.heap.objs.size := by
        have e' : c = z ∨ c = TI ∨ c = TO ∨ c = i1 ∨ c = i2 := by simpa using hcm
        rcases e' with q | q | q | q | q
        · rw [q]; exact hzl
        · rw [q]; exact Heap.lt_size hTI
        · rw [q]; exact Heap.lt_size hTO
        · rw [q]; obtain ⟨_, e1⟩ := D1.live _ _ hst1; exact Heap.lt_size e1
        · rw [q]; obtain ⟨_, e2⟩ := D2.live _ _ hst2; exact Heap.lt_size e2
      rw [upd_ne (Nat.ne_of_lt hlt)]
      exact (hf c hcm).1
  done := by
    intro X hP hw hK hc i pins s σ H E I hf st hg
    subst hP hw hK
    obtain ⟨hz, hTI, ⟨x0, y0, hTO⟩, h1, h2⟩ := st
    obtain ⟨a1, ok1, ok2⟩ := hg
    obtain ⟨n1, n2, n3, n4, n5, n6, n7, n8, n9, n10⟩ := ne
    obtain ⟨fp1, m1, Pv1, St1, D1, e1, mm1, hfp1, hst1, hback1, hval1⟩ := SK.draws (A := X.A.in1) I (I.ok.hd hc) ok1 (hf i1 (by simp)) h1
    obtain ⟨fp2, m2, Pv2, St2, D2, e2, mm2, hfp2, hst2, hback2, hval2⟩ := SK.draws (A := X.A.in1) I (I.ok.hd hc) ok2 (hf i2 (by simp)) h2
    have out1 : ∀ b, b ∈ [z, TI, TO, i1, i2] → b ≠ i1 → b ∉ fp1 := fun b hb hn hm => by
      rcases hfp1 b hm with q | q
      · exact hn q
      · exact src_ne I ok1 (hf b hb) q
    have out2 : ∀ b, b ∈ [z, TI, TO, i1, i2] → b ≠ i2 → b ∉ fp2 := fun b hb hn hm => by
      rcases hfp2 b hm with q | q
      · exact hn q
      · exact src_ne I ok2 (hf b hb) q
    have S : ZipSep2 z TI TO i1 i2 fp1 fp2 := ⟨n1, n2, n3, n4, mm1, out1 z (by simp) n6, out1 TO (by simp) n8, n5, mm2, out2 z (by simp) n7, out2 TO (by simp) n9, out2 i1 (by simp) n10, out1 i2 (by simp) (Ne.symm n10)⟩
    exact wpAny_pyNext_zipD2_end S D1 D2 hz hTI hTO hst1 hst2 (by omega) (by omega) (by omega) fun h' tk hk => ⟨rfl, I.turnedL (t' := tk) (ch := [z, TI, TO, i1, i2]) (fun c o hb q =>
      hk c o (fun q' => hb (by simp [q'])) (fun q' => hb (by simp [q'])) (fun q' => hb (by simp [q'])) (fun q' => hb (by simp [q'])) q) hf⟩
  self := fun A i s Q E st h => wpAny_pyIter_zip st.1 h
def iZipS (K : PySem.W.Frag) (ta : TA) : TI := fun σ H R => ta σ H fun xs H1 => ∃ v w vs ws, xs = [v, w] ∧ SrcR K H1 vs v fun k1 => SrcR K H1 ws w fun k2 => R (ItZ K k1 k2 vs ws) H1
theorem nn (N : Nat) : N + 2 ≠ N + 4 ∧ N + 3 ≠ N + 4 ∧ N + 2 ≠ N + 3 ∧ N + 2 ≠ N ∧ N + 2 ≠ N + 1 ∧ N + 4 ≠ N ∧ N + 4 ≠ N + 1 ∧ N + 3 ≠ N ∧ N + 3 ≠ N + 1 ∧ N ≠ N + 1 := by omega
theorem pi_zipS {X : Cx} {e e2 : Expr} {ta : TA} {p pos tpos : Pos} {elts : List Expr} {kk : Nat} (hg : Gl X "zip") (hm : X.mg "zip" = none) (ha : PA X [e, e2] ta)
    (hs : starEach [e, e2] X.env = (false, eval e X.env) :: starEach [e2] X.env := by rfl) (hpl : (backTo pos (starEach [e2] X.env)).any (·.1) = false := by rfl) :
    PI X (.Tuple elts kk tpos) (.Call (.Name "zip" p) [e, e2] [] pos) (iZipS X.K ta) := by
  refine ⟨fun pins s σ H R I h => ?_⟩
  refine Call_ (ld_blt I hg hm PyProof.Rows.boot_zip (PyProof.Rows.callWith_type1 (thn (ha.run pos pins s σ H _ I h) fun us s1 ⟨xs, H1, I1, r1, q1⟩ => ?_) hs hpl))
  obtain ⟨v, w, vs, ws, ex, hq1⟩ := q1
  subst ex
  cases r1 with
  | cons r rr =>
    cases rr with
    | cons r' rr =>
      cases rr
      obtain ⟨k1, ok1, hu1, hq2⟩ := hq1.kind r
      obtain ⟨k2, ok2, hu2, q⟩ := hq2.kind r'
      obtain ⟨o1, G1, B1, g1, st1⟩ := sk_begins I1 ok1 _ hu1
      obtain ⟨o2, G2, B2, g2, st2⟩ := sk_begins I1 ok2 _ hu2
      refine zip_begins2 B1 B2 g1 g2 fun h' hz hTI hTO e1 e2 hsz hk => wpAny_pyIter_zip hz ?_
      have I2 : L2.Inv X pins σ H1 { s1 with heap := h' } := I1.kept (t' := s1.toks) hk
      refine ⟨s1.heap.objs.size + 4, [s1.heap.objs.size + 4, s1.heap.objs.size + 2, s1.heap.objs.size + 3, s1.heap.objs.size, s1.heap.objs.size + 1], _, _, H1, rfl, I2, turn_zipS k1 k2 vs ws _ _ _ _ _ (nn s1.heap.objs.size), ⟨hz, hTI, ⟨_, _, hTO⟩, st1 _ _ e1, st2 _ _ e2⟩, fun c hcm => ?_, q⟩
      have e' : c = s1.heap.objs.size + 4 ∨ c = s1.heap.objs.size + 2 ∨ c = s1.heap.objs.size + 3 ∨ c = s1.heap.objs.size ∨ c = s1.heap.objs.size + 1 := by simpa using hcm
      have hle : s1.heap.objs.size ≤ c := by
        rcases e' with z | z | z | z | z
        · rw [z]; exact Nat.le_add_right _ _
        · rw [z]; exact Nat.le_add_right _ _
        · rw [z]; exact Nat.le_add_right _ _
        · rw [z]; exact Nat.le_refl _
        · rw [z]; exact Nat.le_add_right _ _
      exact I1.fpOk hle (I1.hok.fresh hle)

theorem src_of {K : PySem.W.Frag} {G H : Hp} (s : Same G H) {d : D} {v : V} {ds : List D} {Pk : SK → Prop} (r : Rep K G d v) (h : ∀ Q : List D → Prop, itemsS d Q → Q ds) (hh : itemsS d fun _ => True)
    (q : ∀ (k : SK) (vs : List V), k.ok K G vs → Reps K G ds vs → Pk k) : ∃ vs, Reps K G ds vs ∧ SrcR K H vs v fun k => k.ok K G vs ∧ Pk k := by
  cases d with
  | lst es =>
    have e : es = ds := h (fun x => es = x) rfl
    subst e
    obtain ⟨a, vs, rfl, h1, r1⟩ := r
    exact ⟨vs, r1, .inl ⟨a, rfl, SqL.of (s _ _ h1), SqL.of h1, q (.l a) vs (SqL.of h1) r1⟩⟩
  | scr ns =>
    have e : ns.map D.int = ds := h (fun x => ns.map D.int = x) rfl
    subst e
    obtain ⟨a, rfl, h1⟩ := r
    exact ⟨_, Reps.ints ns, .inl ⟨a, rfl, s.seq h1, h1, q (.l a) _ h1 (Reps.ints ns)⟩⟩
  | tup es =>
    have e : es = ds := h (fun x => es = x) rfl
    subst e
    obtain ⟨a, vs, rfl, h1, r1⟩ := r
    exact ⟨vs, r1, .inr (.inl ⟨a, rfl, Same.sqt s h1, h1, q (.t a) vs h1 r1⟩)⟩
  | str x =>
    have e : (x.map fun c => D.str [c]) = ds := h (fun y => (x.map fun c => D.str [c]) = y) rfl
    subst e
    have r2 : Reps K G (x.map fun c => D.str [c]) ((⟨x.toArray⟩ : Str).cps.toList.map fun c => V.str ⟨#[c]⟩) := by
      show Reps K G (x.map fun c => D.str [c]) (x.toArray.toList.map fun c => V.str ⟨#[c]⟩)
      rw [List.toList_toArray]
      clear r hh h q
      induction x with
      | nil => exact (rfl : _ = _)
      | cons c x ih => exact ⟨_, _, rfl, rfl, ih⟩
    exact ⟨_, r2, .inr (.inr ⟨_, r, rfl, fun tk => ⟨rfl, q (.s _ tk) _ rfl r2⟩⟩)⟩
  | _ => exact (hh : False).elim
theorem itemsS_get {d : D} {Q : List D → Prop} (h : itemsS d Q) : ∃ ds, Q ds ∧ (∀ Q : List D → Prop, itemsS d Q → Q ds) ∧ itemsS d fun _ => True := by
  cases d with
  | lst es => exact ⟨es, h, fun _ z => z, trivial⟩
  | scr ns => exact ⟨_, h, fun _ z => z, trivial⟩
  | tup es => exact ⟨es, h, fun _ z => z, trivial⟩
  | str x => exact ⟨_, h, fun _ z => z, trivial⟩
  | _ => exact (h : False).elim
/-- the pairs that enumerate gives -/
def enD (ds : List D) : List D := (List.range ds.length).zipWith (fun (i : Nat) d => .tup [.int i, d]) ds
theorem enD_len {ds : List D} : (enD ds).length = ds.length := by simp [enD]
theorem enD_get {ds : List D} {i : Nat} {d : D} (h : (enD ds)[i]? = some d) : ∃ x, ds[i]? = some x ∧ d = .tup [.int i, x] := by
  have hi : i < ds.length := by rw [← enD_len]; exact (List.getElem?_eq_some_iff.mp h).1
  refine ⟨ds[i], List.getElem?_eq_getElem hi, ?_⟩
  unfold enD at h
  rw [List.getElem?_zipWith, List.getElem?_range hi, List.getElem?_eq_getElem hi] at h
  exact (Option.some.inj h).symm
theorem new_pair {K : PySem.W.Frag} {G' H' : Hp} {T : Addr} {x y : V} {d e : D} (s2 : Same G' H') (hT : H' T = none) (r1 : Rep K G' d x) (r2 : Rep K G' e y) :
    ∃ G'', Same H' (upd H' T (.tup [x, y])) ∧ (∀ b, H' b ≠ none → G'' b = G' b) ∧ Same G'' (upd H' T (.tup [x, y])) ∧ Rep K G'' (.tup [d, e]) (.ref T) := by
  have hG : G' T = none := s2.free hT
  have sG : Same G' (upd G' T (.tup [x, y])) := fun b o q => by rw [upd_ne (ne_of_none q hG)]; exact q
  refine ⟨upd G' T (.tup [x, y]), fun b o q => ?_, fun b q => ?_, fun b o q => ?_, ⟨T, [x, y], rfl, SqT.of upd_same, ⟨x, _, rfl, r1.mono sG, ⟨y, _, rfl, r2.mono sG, rfl⟩⟩⟩⟩
  · rw [upd_ne (ne_of_none q hT)]; exact q
  · have : b ≠ T := fun z => q (by rw [z]; exact hT)
    rw [upd_ne this]
  · by_cases hb : b = T
    · subst hb; rw [upd_same] at q ⊢; exact q
    · rw [upd_ne hb] at q ⊢; exact s2 _ _ q
theorem ite_ok {K : PySem.W.Frag} {G : Hp} {ds : List D} {vs : List V} {k : SK} (h : k.ok K G vs) (r : Reps K G ds vs) : ItOk K (ItE K k vs) G (enD ds) where
  go := fun i G' H' s1 s2 hi => ⟨by rw [r.len]; rw [enD_len] at hi; exact hi, (SK.ok.same s1 h).same s2⟩
  stop := fun G' H' s1 s2 => ⟨by rw [r.len, enD_len], (SK.ok.same s1 h).same s2⟩
  yld := fun i G' H' d x H'' s1 s2 hd y => by
    obtain ⟨T, z, rfl, hT, rfl, hz⟩ := y
    obtain ⟨e, he, rfl⟩ := enD_get hd
    obtain ⟨v, h1, h2⟩ := r.get he
    rw [hz] at h1
    cases h1
    exact new_pair (K := K) (d := .int (i : Nat)) (x := .int (i : Nat)) s2 hT rfl (h2.mono s1)
def ziD (ds es : List D) : List D := ds.zipWith (fun d e => .tup [d, e]) es
theorem ziD_len {ds es : List D} : (ziD ds es).length = min ds.length es.length := by simp [ziD]
theorem ziD_get {ds es : List D} {i : Nat} {d : D} (h : (ziD ds es)[i]? = some d) : ∃ x y, ds[i]? = some x ∧ es[i]? = some y ∧ d = .tup [x, y] := by
  unfold ziD at h
  rw [List.getElem?_zipWith] at h
  cases h1 : ds[i]? with
  | none => rw [h1] at h; cases h
  | some x =>
    cases h2 : es[i]? with
    | none => rw [h1, h2] at h; cases h
    | some y => rw [h1, h2] at h; exact ⟨x, y, rfl, rfl, (Option.some.inj h).symm⟩
theorem itz_ok {K : PySem.W.Frag} {G : Hp} {ds es : List D} {vs ws : List V} {k1 k2 : SK} (h : k1.ok K G vs) (h' : k2.ok K G ws) (r : Reps K G ds vs) (r' : Reps K G es ws) : ItOk K (ItZ K k1 k2 vs ws) G (ziD ds es) where
  go := fun i G' H' s1 s2 hi => by
    rw [ziD_len] at hi
    exact ⟨by rw [r.len]; omega, by rw [r'.len]; omega, (SK.ok.same s1 h).same s2, (SK.ok.same s1 h').same s2⟩
  stop := fun G' H' s1 s2 => ⟨by rw [r.len, r'.len, ziD_len], (SK.ok.same s1 h).same s2, (SK.ok.same s1 h').same s2⟩
  yld := fun i G' H' d x H'' s1 s2 hd y => by
    obtain ⟨T, z, z2, rfl, hT, rfl, hz, hz2⟩ := y
    obtain ⟨e, e', he, he', rfl⟩ := ziD_get hd
    obtain ⟨v, h1, h2⟩ := r.get he
    obtain ⟨v', h1', h2'⟩ := r'.get he'
    rw [hz] at h1
    rw [hz2] at h1'
    cases h1
    cases h1'
    exact new_pair s2 hT (h2.mono s1) (h2'.mono s1)
section
variable {F : Fam} {a b : Expr} {te ta tb : DE} {pos : Pos}
def dEnum (t : DE) : DI := fun env Q => t env fun d env1 => itemsS d fun ds => Q (enD ds) env1
theorem qi_enum {elts : List Expr} {kk : Nat} {tpos p : Pos} (hm : ∀ i, (F.X i).mg "enumerate" = none) (h : QE F a te) (hg : ∀ i, Gl (F.X i) "enumerate" := by exact fun _ => rfl) (hs : ∀ i, starEach (a :: []) (F.X i).env = (false, eval a (F.X i).env) :: starEach [] (F.X i).env := by intro _; rfl) :
    QI F (.Tuple elts kk tpos) (.Call (.Name "enumerate" p) [a] [] pos) (dEnum te) := by
  obtain ⟨ts, pp, s⟩ := h
  refine ⟨iEnumS F.K (tCons ts tNil), fun i => by have := pi_enumS (p := p) (pos := pos) (tpos := tpos) (elts := elts) (kk := kk) (hg i) (hm i) (pa1 (pp i) (hs i)) (hs i); rw [F.hK] at this; exact this, fun G0 H0 env σ G H Q R I q k => s G0 H0 env σ G H _ _ I q fun v H1 G1 env1 d s1 I1 r1 q1 => ?_⟩
  obtain ⟨ds, q2, h1, h2⟩ := itemsS_get q1
  obtain ⟨vs, r2, src⟩ := src_of (Pk := fun _ => True) I1.sub r1 h1 h2 (fun _ _ _ _ => trivial)
  refine ⟨v, vs, rfl, ?_⟩
  rcases src with ⟨a, e1, h3, h4, _⟩ | ⟨a, e1, h3, h4, _⟩ | ⟨x, e1, h3, h4⟩
  · exact .inl ⟨a, e1, h3, k _ H1 G1 env1 _ s1 I1 (ite_ok h4 r2) q2⟩
  · exact .inr (.inl ⟨a, e1, h3, k _ H1 G1 env1 _ s1 I1 (ite_ok h4 r2) q2⟩)
  · exact .inr (.inr ⟨x, e1, h3, fun tk => k _ H1 G1 env1 _ s1 I1 (ite_ok (h4 tk).1 r2) q2⟩)
def dZip (t u : DE) : DI := fun env Q => t env fun d env1 => u env1 fun e env2 => itemsS d fun ds => itemsS e fun es => Q (ziD ds es) env2
theorem qi_zip {elts : List Expr} {kk : Nat} {tpos p : Pos} (hm : ∀ i, (F.X i).mg "zip" = none) (h : QE F a ta) (h2 : QE F b tb) (hg : ∀ i, Gl (F.X i) "zip" := by exact fun _ => rfl) (hs : ∀ i, starEach [a, b] (F.X i).env = (false, eval a (F.X i).env) :: starEach [b] (F.X i).env := by intro _; rfl)
    (hs2 : ∀ i, starEach (b :: []) (F.X i).env = (false, eval b (F.X i).env) :: starEach [] (F.X i).env := by intro _; rfl) (hpl : ∀ i, (backTo pos (starEach [b] (F.X i).env)).any (·.1) = false := by intro _; rfl) :
    QI F (.Tuple elts kk tpos) (.Call (.Name "zip" p) [a, b] [] pos) (dZip ta tb) := by
  obtain ⟨ts, pp, s⟩ := h
  obtain ⟨ts2, pp2, s2⟩ := h2
  refine ⟨iZipS F.K (tCons ts (tCons ts2 tNil)), fun i => by have := pi_zipS (p := p) (pos := pos) (tpos := tpos) (elts := elts) (kk := kk) (hg i) (hm i) (pa_cons (pp i) (pa1 (pp2 i) (hs2 i)) (hs i)) (hs i) (hpl i); rw [F.hK] at this; exact this,
    fun G0 H0 env σ G H Q R I q k => s G0 H0 env σ G H _ _ I q fun v H1 G1 env1 d s1 I1 r1 q1 => s2 G0 H0 env1 σ G1 H1 _ _ I1 q1 fun w H2 G2 env2 e s3 I2 r2 q2 => ?_⟩
  obtain ⟨ds, q3, h1, h1'⟩ := itemsS_get q2
  obtain ⟨es, q4, h2, h2'⟩ := itemsS_get q3
  obtain ⟨vs, rr1, src1⟩ := src_of (Pk := fun _ => True) I2.sub (r1.mono s3) h1 h1' (fun _ _ _ _ => trivial)
  obtain ⟨ws, rr2, src2⟩ := src_of (Pk := fun _ => True) I2.sub r2 h2 h2' (fun _ _ _ _ => trivial)
  have fin : ∀ k1 k2 : SK, k1.ok F.K G2 vs → k2.ok F.K G2 ws → R (ItZ F.K k1 k2 vs ws) H2 := fun k1 k2 o1 o2 => k _ H2 G2 env2 _ (s1.trans s3) I2 (itz_ok o1 o2 rr1 rr2) q4
  refine ⟨v, w, vs, ws, rfl, ?_⟩
  have inner : ∀ k1 : SK, k1.ok F.K G2 vs → SrcR F.K H2 ws w fun k2 => R (ItZ F.K k1 k2 vs ws) H2 := fun k1 o1 => by
    rcases src2 with ⟨a, e1, h3, h4, _⟩ | ⟨a, e1, h3, h4, _⟩ | ⟨x, e1, h3, h4⟩
    · exact .inl ⟨a, e1, h3, fin k1 _ o1 h4⟩
    · exact .inr (.inl ⟨a, e1, h3, fin k1 _ o1 h4⟩)
    · exact .inr (.inr ⟨x, e1, h3, fun tk => fin k1 _ o1 (h4 tk).1⟩)
  rcases src1 with ⟨a, e1, h3, h4, _⟩ | ⟨a, e1, h3, h4, _⟩ | ⟨x, e1, h3, h4⟩
  · exact .inl ⟨a, e1, h3, inner _ h4⟩
  · exact .inr (.inl ⟨a, e1, h3, inner _ h4⟩)
  · exact .inr (.inr ⟨x, e1, h3, fun tk => inner _ (h4 tk).1⟩)
end
end DL

set_option Elab.async false
set_option linter.all false
set_option maxRecDepth 100000
namespace DL
open PySem PySem.Spec PyProof.Rows L2
section
variable {K : PySem.W.Frag} {G0 H0 G G' H H' : Hp} {env env' : DEnv} {σ σ' : L2.St}
theorem ER.chg (I : ER K G0 H0 env σ G H) (hl : env'.length = σ'.length) (h : ∀ (i : Nat) (s : Sl), env'[i]? = some s → s = .no ∨ (env[i]? = some s ∧ σ'[i]? = σ[i]?)) : ER K G0 H0 env' σ' G H := by
  refine ⟨I.sub, I.old, I.gold, hl, fun i s x h1 h2 => ?_, fun i j s t x hij h1 h2 h3 h4 h5 => ?_⟩
  · rcases h i s h1 with rfl | ⟨a, b⟩
    · trivial
    · exact I.sl i s x a (by rw [← b]; exact h2)
  · rcases h i s h1 with rfl | ⟨a, b⟩
    · cases h2
    · rcases h j t h3 with rfl | ⟨c, d⟩
      · cases h4
      · rw [d]
        exact I.sep i j s t x hij a h2 c h4 (by rw [← b]; exact h5)
theorem OwnV.chg {v : V} {d : D} (o : OwnV K H0 env σ G H v d) (h : ∀ (i : Nat) (s : Sl), env'[i]? = some s → s = .no ∨ (env[i]? = some s ∧ σ'[i]? = σ[i]?)) : OwnV K H0 env' σ' G H v d := by
  obtain ⟨p, e, g, h0, own, sep⟩ := o
  refine ⟨p, e, g, h0, own, fun i s h1 h2 => ?_⟩
  rcases h i s h1 with rfl | ⟨a, b⟩
  · cases h2
  · rw [b]; exact sep i s a h2
/-- the own slots forgotten -/
def noS (e : DEnv) : List Nat → DEnv
  | [] => e
  | v :: vs => ss (noS e vs) v .no
theorem noS_len (e : DEnv) : ∀ vs : List Nat, (noS e vs).length = e.length
  | [] => rfl
  | v :: vs => by unfold noS; rw [ss_set, List.length_set, noS_len e vs]
theorem noS_in {e : DEnv} {i : Nat} {s : Sl} : ∀ {vs : List Nat}, i ∈ vs → (noS e vs)[i]? = some s → s = .no
  | v :: vs, hi, h => by
    unfold noS at h
    rw [ss_set] at h
    by_cases hv : v = i
    · subst hv
      have l : v < (noS e vs).length := by have := (List.getElem?_eq_some_iff.mp h).1; rwa [List.length_set] at this
      rw [List.getElem?_set_self l] at h
      exact (Option.some.inj h).symm
    · rw [List.getElem?_set_ne hv] at h
      rcases List.mem_cons.mp hi with rfl | hi
      · exact absurd rfl hv
      · exact noS_in hi h
theorem noS_out {e : DEnv} {i : Nat} : ∀ {vs : List Nat}, i ∉ vs → (noS e vs)[i]? = e[i]?
  | [], _ => rfl
  | v :: vs, hi => by
    unfold noS
    rw [ss_set, List.getElem?_set_ne (fun e => hi (by rw [e]; exact List.mem_cons_self)), noS_out (fun h => hi (List.mem_cons_of_mem _ h))]
theorem ER.wipe {vs : List Nat} (I : ER K G0 H0 env σ G H) : ER K G0 H0 (noS env vs) (L2.wipe σ vs) G H := I.chg (by rw [noS_len, wipe_length, I.len]) fun i s h => by
  by_cases hi : i ∈ vs
  · exact .inl (noS_in hi h)
  · rw [noS_out hi] at h; exact .inr ⟨h, wipe_out hi⟩
theorem OwnV.wipe {vs : List Nat} {v : V} {d : D} (o : OwnV K H0 env σ G H v d) : OwnV K H0 (noS env vs) (L2.wipe σ vs) G H v d := o.chg fun i s h => by
  by_cases hi : i ∈ vs
  · exact .inl (noS_in hi h)
  · rw [noS_out hi] at h; exact .inr ⟨h, wipe_out hi⟩
theorem ER.unwipe {vs : List Nat} (I : ER K G0 H0 (noS env vs) (L2.wipe σ vs) G H) : ER K G0 H0 (noS env vs) σ G H := I.chg (by have := I.len; rwa [wipe_length] at this) fun i s h => by
  by_cases hi : i ∈ vs
  · exact .inl (noS_in hi h)
  · exact .inr ⟨h, (wipe_out hi).symm⟩
theorem OwnV.unwipe {vs : List Nat} {v : V} {d : D} (o : OwnV K H0 (noS env vs) (L2.wipe σ vs) G H v d) : OwnV K H0 (noS env vs) σ G H v d := o.chg fun i s h => by
  by_cases hi : i ∈ vs
  · exact .inl (noS_in hi h)
  · exact .inr ⟨h, (wipe_out hi).symm⟩
/-- frozen slots given back -/
def rs1 (e : DEnv) (v : Nat) : Sl → DEnv
  | .fz d => ss e v (.fz d)
  | _ => e
def resS (e1 e : DEnv) : List Nat → DEnv
  | [] => e
  | v :: vs => rs1 (resS e1 e vs) v (gs e1 v)
theorem resS_get {e1 e : DEnv} {i : Nat} {s : Sl} : ∀ {vs : List Nat}, (resS e1 e vs)[i]? = some s → e[i]? = some s ∨ ∃ d, s = .fz d ∧ e1[i]? = some s
  | [], h => .inl h
  | v :: vs, h => by
    unfold resS at h
    cases hg : gs e1 v with
    | no => rw [hg] at h; exact resS_get (vs := vs) h
    | ow d => rw [hg] at h; exact resS_get (vs := vs) h
    | fz d =>
      rw [hg] at h
      have h : (ss (resS e1 e vs) v (.fz d))[i]? = some s := h
      rw [ss_set] at h
      by_cases hv : v = i
      · subst hv
        have l : v < (resS e1 e vs).length := by have := (List.getElem?_eq_some_iff.mp h).1; rwa [List.length_set] at this
        rw [List.getElem?_set_self l] at h
        cases h
        exact .inr ⟨d, rfl, gs_get hg (fun z => nomatch z)⟩
      · rw [List.getElem?_set_ne hv] at h
        exact resS_get (vs := vs) h
theorem resS_len {e1 e : DEnv} : ∀ vs : List Nat, (resS e1 e vs).length = e.length
  | [] => rfl
  | v :: vs => by
    unfold resS
    cases hg : gs e1 v with
    | no => exact resS_len vs
    | ow d => exact resS_len vs
    | fz d => show (ss _ v _).length = _; rw [ss_set, List.length_set]; exact resS_len vs
theorem ER.res {e1 : DEnv} {vs : List Nat} {G1 H1 : Hp} (I : ER K G0 H0 env σ G H) (I1 : ER K G0 H0 e1 σ G1 H1) (s : Same G1 G) : ER K G0 H0 (resS e1 env vs) σ G H := by
  refine ⟨I.sub, I.old, I.gold, by rw [resS_len]; exact I.len, fun i t x h1 h2 => ?_, fun i j t u x hij h1 h2 h3 h4 h5 => ?_⟩
  · rcases resS_get h1 with z | ⟨d, rfl, z⟩
    · exact I.sl i t x z h2
    · obtain ⟨v, e, r⟩ := I1.sl i _ x z h2
      exact ⟨v, e, r.mono s⟩
  · rcases resS_get h1 with z | ⟨d, rfl, z⟩
    · rcases resS_get h3 with z' | ⟨d, rfl, z'⟩
      · exact I.sep i j t u x hij z h2 z' h4 h5
      · cases h4
    · cases h2
theorem OwnV.res {e1 : DEnv} {vs : List Nat} {v : V} {d : D} (o : OwnV K H0 env σ G H v d) : OwnV K H0 (resS e1 env vs) σ G H v d := by
  obtain ⟨p, e, g, h0, own, sep⟩ := o
  refine ⟨p, e, g, h0, own, fun i s h1 h2 => ?_⟩
  rcases resS_get h1 with z | ⟨d, rfl, z⟩
  · exact sep i s z h2
  · cases h2
/-- a value in the hand, kept safe over an evaluation -/
def minusA (G : Hp) (p : Addr) : Hp := fun b => if b = p then none else G b
theorem ER.base {p : Addr} {d : D} {o : HO} (I : ER K G0 H0 env σ G H) (w : OwnV K H0 env σ G H (.ref p) d) (ho : H p = some o) : ER K (minusA G0 p) (upd H0 p o) env σ G H := by
  obtain ⟨q, e, g, h0, own, sep⟩ := w
  cases e
  refine ⟨I.sub, fun b x q => ?_, fun b q => ?_, I.len, fun i s x h1 h2 => ?_, I.sep⟩
  · by_cases hb : b = p
    · subst hb; rw [upd_same] at q; cases q; exact ho
    · rw [upd_ne hb] at q; exact I.old _ _ q
  · by_cases hb : b = p
    · subst hb; rw [g]; simp [minusA]
    · rw [upd_ne hb] at q; rw [I.gold b q]; simp [minusA, hb]
  · have old := I.sl i s x h1 h2
    cases s with
    | no => trivial
    | fz d => exact old
    | ow d =>
      obtain ⟨r, e1, g', h0', own'⟩ := old
      have : r ≠ p := fun z => by
        subst z
        exact sep i _ h1 rfl (by rw [h2, e1])
      exact ⟨r, e1, g', by rw [upd_ne this]; exact h0', own'⟩
theorem ER.unbase {p : Addr} {d : D} {o : HO} (I : ER K (minusA G0 p) (upd H0 p o) env σ G H) (h0 : H0 p = none) (c : Cont K G d o) : ER K G0 H0 env σ G H ∧ OwnV K H0 env σ G H (.ref p) d := by
  have hne : ∀ {b}, H0 b ≠ none → b ≠ p := fun q z => q (by rw [z]; exact h0)
  have h0' : ∀ {b}, upd H0 p o b = none → b ≠ p := fun q z => by rw [z, upd_same] at q; cases q
  refine ⟨⟨I.sub, fun b x q => ?_, fun b q => ?_, I.len, fun i s x h1 h2 => ?_, I.sep⟩, p, rfl, ?_, h0, ⟨o, I.old _ _ upd_same, c⟩, fun i s h1 h2 h3 => ?_⟩
  · refine I.old b x ?_
    rw [upd_ne (ne_of_none q h0)]; exact q
  · rw [I.gold b (by rw [upd_ne (hne q)]; exact q)]
    simp [minusA, hne q]
  · have old := I.sl i s x h1 h2
    cases s with
    | no => trivial
    | fz d => exact old
    | ow d =>
      obtain ⟨r, e1, g', h1', own'⟩ := old
      exact ⟨r, e1, g', by rw [upd_ne (h0' h1')] at h1'; exact h1', own'⟩
  · rw [I.gold p (by rw [upd_same]; exact fun z => nomatch z)]
    simp [minusA]
  · have old := I.sl i s _ h1 h3
    cases s with
    | no => cases h2
    | fz d => cases h2
    | ow d =>
      obtain ⟨r, e1, g', h1', own'⟩ := old
      cases e1
      exact h0' h1' rfl
theorem ER.writeV {p : Addr} {d e : D} {o : HO} (I : ER K G0 H0 env σ G H) (w : OwnV K H0 env σ G H (.ref p) d) (c : Cont K G e o) : ER K G0 H0 env σ G (upd H p o) ∧ OwnV K H0 env σ G (upd H p o) (.ref p) e := by
  obtain ⟨q, e1, g, h0, own, sep⟩ := w
  cases e1
  refine ⟨⟨fun b x z => ?_, fun b x z => ?_, I.gold, I.len, fun i s x h1 h2 => ?_, I.sep⟩, p, rfl, g, h0, ⟨o, upd_same, c⟩, sep⟩
  · rw [upd_ne (ne_of_none z g)]; exact I.sub _ _ z
  · rw [upd_ne (ne_of_none z h0)]; exact I.old _ _ z
  · have old := I.sl i s x h1 h2
    cases s with
    | no => trivial
    | fz d => exact old
    | ow d =>
      obtain ⟨r, e1, g', h0', own'⟩ := old
      have : r ≠ p := fun z => by
        subst z
        exact sep i _ h1 rfl (by rw [h2, e1])
      exact ⟨r, e1, g', h0', own'.mono (Same.refl G) (upd_ne this)⟩
end

def SemGc (K : PySem.W.Frag) (vs : List Nat) (g : TG) (t : DG) : Prop := ∀ (G0 H0 : Hp) (env : DEnv) (σ : L2.St) (G H : Hp) (v : V) (d : D) (Q : DEnv → Prop) (R : L2.St → Hp → Prop), ER K G0 H0 env σ G H → Rep K G d v → t d env Q →
  (∀ env' σ', wipe σ' vs = wipe σ vs → ER K G0 H0 env' σ' G H → Q env' → R σ' H) → g v σ H R
def QGc (F : Fam) (vs : List Nat) (tg : Expr) (t : DG) : Prop := ∃ g : TG, (∀ i, PG (F.X i) tg g) ∧ SemGc F.K vs g t
def SemGcs (K : PySem.W.Frag) (us : List Nat) (g : TGs) (t : DGs) : Prop := ∀ (G0 H0 : Hp) (env : DEnv) (σ : L2.St) (G H : Hp) (vs : List V) (ds : List D) (Q : DEnv → Prop) (R : L2.St → Hp → Prop), ER K G0 H0 env σ G H → Reps K G ds vs → t ds env Q →
  (∀ env' σ', wipe σ' us = wipe σ us → ER K G0 H0 env' σ' G H → Q env' → R σ' H) → g vs σ H R
def QGcs (F : Fam) (us : List Nat) (tgs : List Expr) (t : DGs) : Prop := ∃ g : TGs, (∀ i, PGs (F.X i) tgs g) ∧ SemGcs F.K us g t
theorem wipe_ext {σ σ' : L2.St} (hl : σ'.length = σ.length) : ∀ {vs : List Nat}, (∀ i, i ∉ vs → σ'[i]? = σ[i]?) → wipe σ' vs = wipe σ vs := by
  intro vs h
  refine List.ext_getElem? fun i => ?_
  by_cases hi : i ∈ vs
  · have key : ∀ (τ : L2.St) (us : List Nat), i ∈ us → (wipe τ us)[i]? = if i < τ.length then some none else none := by
      intro τ us
      induction us with
      | nil => intro h; cases h
      | cons v us ih =>
        intro h
        unfold wipe
        by_cases hv : v = i
        · subst hv
          rw [List.getElem?_set]
          simp only [if_true, wipe_length]
        · rw [List.getElem?_set_ne hv]
          rcases List.mem_cons.mp h with rfl | h
          · exact absurd rfl hv
          · exact ih h
    rw [key σ' vs hi, key σ vs hi, hl]
  · rw [wipe_out hi, wipe_out hi, h i hi]
theorem wipe_idem {σ : L2.St} {vs : List Nat} : wipe (wipe σ vs) vs = wipe σ vs := wipe_ext (wipe_length σ vs) fun i hi => wipe_out hi
section
variable {F : Fam} {own : Bool} {e a b c o : Expr} {es : List Expr} {te ta tb : DE} {tt : DT} {pos : Pos} {us : List Nat}
theorem qgc_name (i : Nat) {x : Str} (hN : ∀ j, (F.X j).N.Nodup) (hu : i ∈ us := by decide) (hi : ∀ j, (F.X j).N[i]? = some x := by exact fun _ => rfl) (hx : ∀ j, Loc (F.X j).env.scope x := by first | exact fun _ => Or.inl rfl | exact fun _ => Or.inr rfl)
    (hf : ∀ j, (F.X j).fn x = true ∨ (F.X j).env.scope.names.lookup x = some .local := by first | exact fun _ => .inl rfl | exact fun _ => .inr rfl) : QGc F us (.Name x pos) (gNm i) :=
  ⟨gName i, fun j => pg_name (hN j) (hi j) (hx j) (hf j), fun G0 H0 env σ G H v d Q R I r q k => by
    have q' : Q (ss env i (.fz d)) := q
    rw [ss_set] at q'
    exact k _ _ (wipe_ext (by rw [List.length_set]) fun j hj => List.getElem?_set_ne fun z => hj (by rw [← z]; exact hu)) (I.setF r i) q'⟩
theorem qgcs_nil : QGcs F us [] gsN := ⟨gNil, fun _ => pgs_nil, fun G0 H0 env σ G H vs ds Q R I r q k => by
  cases ds with
  | nil => cases r; exact ⟨rfl, k _ _ rfl I q⟩
  | cons _ _ => exact (q : False).elim⟩
theorem qgcs_cons {t : DG} {u : DGs} (h : QGc F us e t) (h2 : QGcs F us es u) (hs : ∀ i, (assignEach (e :: es) (F.X i).env).map (·.2) = assign e (F.X i).env :: (assignEach es (F.X i).env).map (·.2) := by intro _; rfl) : QGcs F us (e :: es) (gsC t u) := by
  obtain ⟨g, p, s⟩ := h
  obtain ⟨g2, p2, s2⟩ := h2
  refine ⟨gCons g g2, fun i => pgs_cons (p i) (p2 i) (hs i), fun G0 H0 env σ G H vs ds Q R I r q k => ?_⟩
  cases ds with
  | nil => exact (q : False).elim
  | cons d ds =>
    obtain ⟨v, w, rfl, r1, r2⟩ := r
    exact ⟨v, w, rfl, s G0 H0 env σ G H v d _ _ I r1 q fun env' σ' w1 I1 q1 => s2 G0 H0 env' σ' G H w ds Q R I1 r2 q1 fun env2 σ2 w2 => k env2 σ2 (w2.trans w1)⟩
theorem qgc_tup {k : Nat} {t : DGs} {n : Nat} (hc : ∀ i, (F.X i).calm = true) (h : QGcs F us es t) (hn : ∀ i, (assignEach es (F.X i).env).length = n := by intro _; rfl) (hst : ∀ i, (assignEach es (F.X i).env).findIdx? (·.1) = none := by intro _; rfl) : QGc F us (.Tuple es k pos) (gTp n t) := by
  obtain ⟨g, p, s⟩ := h
  refine ⟨gTup F.K n g, fun i => by have := pg_tup (pos := pos) (k := k) (hc i) (p i) (hn i) (hst i); rw [F.hK] at this; exact this, fun G0 H0 env σ G H v d Q R I r q k => ?_⟩
  cases d with
  | tup ds =>
    obtain ⟨a, vs, e1, h1, r1⟩ := r
    exact ⟨a, vs, e1, Same.sqt I.sub h1, by rw [r1.len]; exact q.1, s G0 H0 env σ G H vs ds Q R I r1 q.2 k⟩
  | _ => exact (q : False).elim
/-- the tests of a comprehension -/
def QTs (F : Fam) (ifs : List Expr) (t : DT) : Prop := ∃ te : TT, (∀ i, PTs (F.X i) ifs te) ∧ SemT F.K te t
def dTru : DT := fun env Q => Q true env
theorem qts_nil : QTs F [] dTru := ⟨tYes, fun _ => pts_nil, fun G0 H0 env σ G H Q R I q k => k true H G env (Same.refl G) I q⟩
theorem qts_one (h : QT F e tt) : QTs F [e] tt := let ⟨te, p, s⟩ := h; ⟨te, fun i => pts_one (p i), s⟩

/-- the family of a comprehension's blocks -/
structure BIx (ι : Type) where
  i : ι
  s : Shared
  H : Hp
  C : Addr
  cl : List (Str × Addr)
  fp : List Addr
abbrev Fam.blk (F : Fam) (scope : Scope) : Fam := ⟨BIx F.ι, fun j => (F.X j.i).blk j.s j.H scope (compEnvC scope j.cl j.C (F.X j.i).env) j.fp, F.K, fun j => F.hK j.i⟩
def dLc (ti : DI) (g : DG) (tt : DT) (te : DE) (vs : List Nat) : DE := fun env Q => ti env fun items env1 => ∃ I : Nat → List D → DEnv → Prop, I 0 [] (noS env1 vs) ∧
  (∀ k d acc e, items[k]? = some d → I k acc e → g d e fun e2 => tt e2 fun b e3 => br b (te e3 fun z e4 => acc.length < sizeLine ∧ I (k + 1) (acc ++ [z]) (noS e4 vs)) (I (k + 1) acc (noS e3 vs))) ∧
  ∀ acc e, I items.length acc e → Q (.lst acc) (resS env1 e vs)
theorem sem_lc {K : PySem.W.Frag} {wi : TI} {gg : TG} {t3 : TT} {t4 : TE} {ti : DI} {g : DG} {vs : List Nat} (hi : SemI K wi ti) (hg : SemGc K vs gg g) (ht : SemT K t3 tt) (he : SemE K t4 te) : SemO K (tLc wi gg t3 t4 vs) (dLc ti g tt te vs) := by
  intro G0 H0 env σ G H Q R I q k
  refine hi G0 H0 env σ G H _ _ I q fun J H1 G1 env1 items s1 I1 ok q1 => ?_
  obtain ⟨W, w0, turn, fin⟩ := q1
  intro D hD
  have start : ER K G0 H0 (noS env1 vs) (wipe σ vs) G1 (upd H1 D (.lst [])) ∧ OwnV K H0 (noS env1 vs) (wipe σ vs) G1 (upd H1 D (.lst [])) (.ref D) (.lst []) :=
    ⟨(I1.newH hD).wipe, (I1.freshOwn hD (d := .lst []) (o := .lst []) ⟨[], rfl, rfl⟩).wipe⟩
  refine ⟨fun i m H' => m = items.length - i ∧ i ≤ items.length ∧ ∃ acc e G', Same G1 G' ∧ ER K G0 H0 (noS e vs) (wipe σ vs) G' H' ∧ OwnV K H0 (noS e vs) (wipe σ vs) G' H' (.ref D) (.lst acc) ∧ W i acc (noS e vs),
    ⟨_, rfl, Nat.zero_le _, [], env1, G1, Same.refl G1, start.1, start.2, w0⟩, ?_⟩
  rintro i m H' ⟨rfl, hi, acc, e, G', s2, I2, ow, w2⟩
  by_cases hlt : i < items.length
  · refine .inr ⟨ok.go i G' H' s2 I2.sub hlt, fun H3 => ∃ acc e G3, Same G1 G3 ∧ ER K G0 H0 (noS e vs) (wipe σ vs) G3 H3 ∧ OwnV K H0 (noS e vs) (wipe σ vs) G3 H3 (.ref D) (.lst acc) ∧ W (i + 1) acc (noS e vs),
      fun H3 h => ⟨items.length - (i + 1), by omega, rfl, hlt, h⟩, fun x H3 y => ?_⟩
    have ow' := ow
    obtain ⟨p, e1, gp, h0p, ⟨o, hp, avs, rfl, ra⟩, sep⟩ := ow
    cases e1
    obtain ⟨G3, a1, a2, a3, a4⟩ := ok.yld i G' H' items[i] x H3 s2 I2.sub (List.getElem?_eq_getElem hlt) y
    obtain ⟨I3, s3⟩ := (I2.base ow' hp).ext a1 a2 a3
    refine hg _ _ (noS e vs) (wipe σ vs) G3 H3 x items[i] _ _ I3 a4 (turn i items[i] acc (noS e vs) (List.getElem?_eq_getElem hlt) w2) fun env4 σ4 hw I4 q4 => ?_
    rw [wipe_idem] at hw
    refine ⟨hw, ?_⟩
    have fin4 : ∀ {env5 : DEnv} {G5 H5 : Hp}, Same G3 G5 → ER K (minusA G0 D) (upd H0 D (.lst avs)) env5 σ4 G5 H5 → ER K G0 H0 (noS env5 vs) (wipe σ vs) G5 H5 ∧ OwnV K H0 (noS env5 vs) (wipe σ vs) G5 H5 (.ref D) (.lst acc) := fun {env5 G5 H5} s5 I5 => by
      obtain ⟨b1, b2⟩ := I5.unbase h0p (d := .lst acc) ⟨avs, rfl, (ra.mono s3).mono s5⟩
      rw [← hw]
      exact ⟨b1.wipe, b2.wipe⟩
    refine ht _ _ env4 σ4 G3 H3 _ _ I4 q4 fun b H5 G5 env5 s5 I5 q5 => ?_
    cases b with
    | false =>
      rw [if_neg Bool.false_ne_true]
      obtain ⟨b1, b2⟩ := fin4 s5 I5
      exact ⟨acc, env5, G5, s2.trans (s3.trans s5), b1, b2, br_f q5⟩
    | true =>
      rw [if_pos rfl]
      refine he _ _ env5 σ4 G5 H5 _ _ I5 (br_t q5) fun z H6 G6 env6 d6 s6 I6 r6 q6 => ?_
      obtain ⟨hz, q6⟩ := q6
      obtain ⟨b1, b2⟩ := fin4 (s5.trans s6) I6
      have rr : Reps K G6 (acc ++ [d6]) (avs ++ [z]) := (((ra.mono s3).mono s5).mono s6).append (Reps.one r6)
      obtain ⟨c1, c2⟩ := b1.writeV b2 (e := .lst (acc ++ [d6])) ⟨_, rfl, rr⟩
      exact ⟨avs, I6.old _ _ upd_same, by rw [ra.len]; exact hz, acc ++ [d6], env6, G6, s2.trans (s3.trans (s5.trans s6)), c1, c2, q6⟩
  · have e1 : i = items.length := by omega
    subst e1
    exact .inl ⟨ok.stop G' H' s2 I2.sub, k _ H' G' _ (.lst acc) (s1.trans s2) (I2.unwipe.res I1 s2) ow.unwipe.res (fin acc (noS e vs) w2)⟩
end
end DL

set_option Elab.async false
set_option linter.all false
set_option maxRecDepth 100000
namespace DL
open PySem PySem.Spec PyProof.Rows L2
section
variable {F : Fam} {own : Bool} {e a b c o : Expr} {es : List Expr} {t te ta tb : DE} {tt : DT} {tA : DA} {pos : Pos} {K : PySem.W.Frag}
def cOrdS (p : List Nat → List Nat → Bool) (x y : D) (Q : Bool → Prop) : Prop := match x, y with
  | .str i, .str j => Q (p i j)
  | _, _ => False
abbrev cLtS := cOrdS fun i j => decide (i < j)
abbrev cGtS := cOrdS fun i j => decide (j < i)
abbrev cLeS := cOrdS fun i j => !decide (j < i)
abbrev cGeS := cOrdS fun i j => !decide (i < j)
theorem cps_list (l : List Nat) : (⟨l.toArray⟩ : Str).cps.toList = l := by simp
theorem cmpc_ordS {p : List Nat → List Nat → Bool} : CmpC K (fun x y H Q => ∃ i j, x = .str i ∧ y = .str j ∧ Q (.bl (p i.cps.toList j.cps.toList)) H) (cOrdS p) := by
  intro G0 H0 env σ G H x y d e Q R I r1 r2 q k
  unfold cOrdS at q
  split at q
  · exact ⟨_, _, rep_str r1, rep_str r2, k _ q⟩
  · exact q.elim
theorem q_ltS (ha : QE F a ta) (hb : QE F b tb) : QE F (.Compare a [.Lt] [b] pos) (dCmp cLtS ta tb) := q_cmp (fun _ => op_lt_str) (cmpc_ordS (p := fun i j => decide (i < j))) ha hb (nomark _)
theorem q_leS (ha : QE F a ta) (hb : QE F b tb) : QE F (.Compare a [.LtE] [b] pos) (dCmp cLeS ta tb) := q_cmp (fun _ => op_le_str) (cmpc_ordS (p := fun i j => !decide (j < i))) ha hb (nomark _)
theorem q_gtS (ha : QE F a ta) (hb : QE F b tb) : QE F (.Compare a [.Gt] [b] pos) (dCmp cGtS ta tb) := q_cmp (fun _ => op_gt_str) (cmpc_ordS (p := fun i j => decide (j < i))) ha hb (nomark _)
theorem q_geS (ha : QE F a ta) (hb : QE F b tb) : QE F (.Compare a [.GtE] [b] pos) (dCmp cGeS ta tb) := q_cmp (fun _ => op_ge_str) (cmpc_ordS (p := fun i j => !decide (i < j))) ha hb (nomark _)
theorem qt_ltS (ha : QE F a ta) (hb : QE F b tb) : QT F (.Compare a [.Lt] [b] pos) (dCmpT cLtS ta tb) := qt_cmp (fun _ => op_lt_str) (cmpc_ordS (p := fun i j => decide (i < j))) ha hb (nomark _)
theorem qt_leS (ha : QE F a ta) (hb : QE F b tb) : QT F (.Compare a [.LtE] [b] pos) (dCmpT cLeS ta tb) := qt_cmp (fun _ => op_le_str) (cmpc_ordS (p := fun i j => !decide (j < i))) ha hb (nomark _)
theorem qt_gtS (ha : QE F a ta) (hb : QE F b tb) : QT F (.Compare a [.Gt] [b] pos) (dCmpT cGtS ta tb) := qt_cmp (fun _ => op_gt_str) (cmpc_ordS (p := fun i j => decide (j < i))) ha hb (nomark _)
theorem qt_geS (ha : QE F a ta) (hb : QE F b tb) : QT F (.Compare a [.GtE] [b] pos) (dCmpT cGeS ta tb) := qt_cmp (fun _ => op_ge_str) (cmpc_ordS (p := fun i j => !decide (i < j))) ha hb (nomark _)

def flatD : D → Bool
  | .non => true
  | .bl _ => true
  | .int _ => true
  | .str _ => true
  | _ => false
theorem flatV_of {G : Hp} {d : D} {v : V} (h : flatD d = true) (r : Rep K G d v) : flatV v = true := by
  cases d <;> first | (cases (show _ = _ from r); rfl) | cases h
theorem flatVs_of {G : Hp} : ∀ {ds : List D} {vs : List V}, ds.all flatD = true → Reps K G ds vs → vs.all flatV = true
  | [], vs, _, r => by cases r; rfl
  | d :: ds, vs, h, ⟨v, w, e, r1, r2⟩ => by
    subst e
    rw [List.all_cons, Bool.and_eq_true] at h ⊢
    exact ⟨flatV_of h.1 r1, flatVs_of h.2 r2⟩
theorem eqV_of {G : Hp} {d e : D} {v w : V} (h : flatD d = true) (h' : flatD e = true) (r : Rep K G d v) (r' : Rep K G e w) : eqV v w = eqD d e := by
  cases d with
  | non => cases (show _ = _ from r); cases e <;> first | (cases (show _ = _ from r'); rfl) | cases h'
  | bl b => cases (show _ = _ from r); cases e <;> first | (cases (show _ = _ from r'); rfl) | cases h'
  | int b => cases (show _ = _ from r); cases e <;> first | (cases (show _ = _ from r'); rfl) | cases h'
  | str b => cases (show _ = _ from r); cases e <;> first | (cases (show _ = _ from r'); first | rfl | exact str_eq _ _) | cases h'
  | _ => cases h
theorem inV_of {G : Hp} {d : D} {v : V} (h : flatD d = true) (r : Rep K G d v) : ∀ {ds : List D} {vs : List V}, ds.all flatD = true → Reps K G ds vs → inV v vs = ds.any fun z => eqD z d
  | [], vs, _, r => by cases r; rfl
  | e :: ds, vs, h', ⟨w, ws, e1, r1, r2⟩ => by
    subst e1
    rw [List.all_cons, Bool.and_eq_true] at h'
    have := inV_of h r h'.2 r2
    unfold inV at this ⊢
    rw [List.any_cons, List.any_cons, this, eqV_of h'.1 h r1 r]
/-- the items can be compared: flat ones, or data of the depth 60 -/
def inOk (x : D) (ds : List D) : Prop := (flatD x = true ∧ ds.all flatD = true) ∨ (shD 60 x = true ∧ shD 60 (.lst ds) = true)
def cIn (x y : D) (Q : Bool → Prop) : Prop := match y with
  | .lst ds => inOk x ds ∧ Q (ds.any fun z => eqD z x)
  | .tup ds => flatD x = true ∧ ds.all flatD = true ∧ Q (ds.any fun z => eqD z x)
  | .str s => ∃ c, x = .str [c] ∧ Q (decide (c ∈ s))
  | _ => False
def cNotin (x y : D) (Q : Bool → Prop) : Prop := cIn x y fun b => Q (!b)
def CmpP (K : PySem.W.Frag) (r : R2) (c : D → D → (Bool → Prop) → Prop) : Prop := ∀ (G0 H0 : Hp) (env : DEnv) (σ : L2.St) (G H : Hp) (x y : V) (d e : D) (Q : Bool → Prop) (R : VK), ER K G0 H0 env σ G H → Rep K G d x → PRep K G H e y → c d e Q →
  (∀ b, Q b → R (.bl b) H) → r x y H R
theorem reps_any {n : Nat} {d : D} (hd : shD n d = true) : ∀ {ds : List D}, shDs n ds = true → ((toPs ds).any fun z => PyData.eqv z (toP d)) = ds.any fun z => eqD z d
  | [], _ => rfl
  | e :: ds, h => by
    obtain ⟨h1, h2⟩ := Bool.and_eq_true_iff.mp (by simpa [shDs] using h : (shD n e && shDs n ds) = true)
    show (List.any (toP e :: toPs ds) _) = _
    rw [List.any_cons, List.any_cons, reps_any hd h2, eqv_toP n e d h1 hd]
theorem shD_mono : ∀ {n : Nat} {d : D}, shD n d = true → shD (n + 1) d = true := by
  have key : ∀ n, (∀ d, shD n d = true → shD (n + 1) d = true) := by
    intro n
    induction n with
    | zero => intro d h; cases d <;> simp_all [shD]
    | succ n ih =>
      have l : ∀ ds, shDs n ds = true → shDs (n + 1) ds = true := by
        intro ds
        induction ds with
        | nil => intro _; rfl
        | cons d ds ih2 =>
          intro h
          obtain ⟨h1, h2⟩ := Bool.and_eq_true_iff.mp (by simpa [shDs] using h : (shD n d && shDs n ds) = true)
          simp [shDs, ih d h1, ih2 h2]
      intro d h
      cases d with
      | tup ds => exact l ds h
      | lst ds => exact l ds h
      | _ => first | exact h | cases h
  exact fun {n d} => key n d
theorem own_dp {G H : Hp} (s : Same G H) {ds : List D} {v : V} (h : PRep K G H (.lst ds) v) (hs : shD 60 (.lst ds) = true) : Dp K H v (.list (toPs ds)) := by
  obtain ⟨p, vs, rfl, h1, r1⟩ := h.lst s
  have : Rep K (upd G p (.lst vs)) (.lst ds) (.ref p) := ⟨p, vs, rfl, upd_same, r1.mono (fun b o q => by
    by_cases hb : b = p
    · subst hb; rw [upd_same]; rw [s _ _ q] at h1; exact h1.symm
    · rw [upd_ne hb]; exact q)⟩
  exact dp_of (G := upd G p (.lst vs)) (fun b o q => by
    by_cases hb : b = p
    · subst hb; rw [upd_same] at q; cases q; exact h1
    · rw [upd_ne hb] at q; exact s _ _ q) 60 (.lst ds) (.ref p) hs this
theorem shaped60 {d : D} (h : shD 60 d = true) : SeqAt.shaped (toP d) = true := by
  obtain ⟨a, b⟩ := shaped_toP 60 d h
  exact Bool.and_eq_true_iff.mpr ⟨a, decide_eq_true (by omega)⟩
theorem cmpp_in : CmpP K (fun x y H Q => (rIn K false x y H Q ∨ rInD K x y H Q) ∨ (∃ (c : Nat) (z : Str), x = .str ⟨#[c]⟩ ∧ y = .str z ∧ Q (.bl (decide (c ∈ z.cps.toList))) H)) cIn := by
  intro G0 H0 env σ G H x y d e Q R I r1 r2 q k
  cases e with
  | lst ds =>
    obtain ⟨h, q⟩ := q
    rcases h with ⟨f1, f2⟩ | ⟨f1, f2⟩
    · obtain ⟨p, vs, rfl, h1, a1⟩ := r2.lst I.sub
      exact .inl (.inl ⟨p, vs, rfl, .inl (SqL.of h1), flatV_of f1 r1, flatVs_of f2 a1, by rw [inV_of f1 r1 f2 a1]; exact k _ q⟩)
    · refine .inl (.inr ⟨toP d, toPs ds, dp_of I.sub 60 d x f1 r1, own_dp I.sub r2 f2, shaped60 f1, shaped60 f2, ?_⟩)
      rw [reps_any (n := 60) f1 (by
        have l : ∀ es, shDs 59 es = true → shDs 60 es = true := by
          intro es
          induction es with
          | nil => intro _; rfl
          | cons z es ih =>
            intro h
            obtain ⟨h1, h2⟩ := Bool.and_eq_true_iff.mp (by simpa [shDs] using h : (shD 59 z && shDs 59 es) = true)
            have := shD_mono h1
            simp only [shDs, this, ih h2, Bool.and_self]
        exact l ds f2)]
      exact k _ q
  | tup ds =>
    obtain ⟨f1, f2, q⟩ := q
    obtain ⟨p, vs, rfl, h1, a1⟩ := r2.frozen (fun _ z => z)
    exact .inl (.inl ⟨p, vs, rfl, .inr (Same.sqt I.sub h1), flatV_of f1 r1, flatVs_of f2 a1, by rw [inV_of f1 r1 f2 a1]; exact k _ q⟩)
  | str s =>
    obtain ⟨c, rfl, q⟩ := q
    refine .inr ⟨c, _, rep_str r1, rep_str (r2.frozen (fun _ z => z)), ?_⟩
    rw [cps_list]
    exact k _ q
  | _ => exact (q : False).elim
theorem cmpp_notin : CmpP K (fun x y H Q => (rIn K true x y H Q ∨ rNotInD K x y H Q) ∨ (∃ (c : Nat) (z : Str), x = .str ⟨#[c]⟩ ∧ y = .str z ∧ Q (.bl (!decide (c ∈ z.cps.toList))) H)) cNotin := by
  intro G0 H0 env σ G H x y d e Q R I r1 r2 q k
  cases e with
  | str s =>
    obtain ⟨c, rfl, q⟩ := q
    refine .inr ⟨c, _, rep_str r1, rep_str (r2.frozen (fun _ z => z)), ?_⟩
    rw [cps_list]
    exact k _ q
  | lst ds =>
    obtain ⟨h, q⟩ := q
    rcases h with ⟨f1, f2⟩ | ⟨f1, f2⟩
    · obtain ⟨p, vs, rfl, h1, a1⟩ := r2.lst I.sub
      exact .inl (.inl ⟨p, vs, rfl, .inl (SqL.of h1), flatV_of f1 r1, flatVs_of f2 a1, by rw [inV_of f1 r1 f2 a1]; exact k _ q⟩)
    · refine .inl (.inr ⟨toP d, toPs ds, dp_of I.sub 60 d x f1 r1, own_dp I.sub r2 f2, shaped60 f1, shaped60 f2, ?_⟩)
      rw [reps_any (n := 60) f1 (by
        have l : ∀ es, shDs 59 es = true → shDs 60 es = true := by
          intro es
          induction es with
          | nil => intro _; rfl
          | cons z es ih =>
            intro h
            obtain ⟨h1, h2⟩ := Bool.and_eq_true_iff.mp (by simpa [shDs] using h : (shD 59 z && shDs 59 es) = true)
            have := shD_mono h1
            simp only [shDs, this, ih h2, Bool.and_self]
        exact l ds f2)]
      exact k _ q
  | tup ds =>
    obtain ⟨f1, f2, q⟩ := q
    obtain ⟨p, vs, rfl, h1, a1⟩ := r2.frozen (fun _ z => z)
    exact .inl (.inl ⟨p, vs, rfl, .inr (Same.sqt I.sub h1), flatV_of f1 r1, flatVs_of f2 a1, by rw [inV_of f1 r1 f2 a1]; exact k _ q⟩)
  | _ => exact (q : False).elim
theorem q_cmpP {op : CmpOp} {r : R2} {c : D → D → (Bool → Prop) → Prop} (ho : ∀ i, OpR (F.X i) (compareOp op) r) (hc : CmpP F.K r c) (ha : QE F a ta) (hb : QP F b tb) (hm : behindInMarks op b = false) : QE F (.Compare a [op] [b] pos) (dCmp c ta tb) := by
  obtain ⟨sa, pa, ha⟩ := ha
  obtain ⟨sb, pb, hb⟩ := hb
  refine ⟨tOp r sa sb, fun i => pe_cmpR (ho i) (pa i) (pb i) hm, fun G0 H0 env σ G H Q R I q k => ?_⟩
  exact ha G0 H0 env σ G H _ _ I q fun x H1 G1 env1 d s1 I1 r1 q1 => hb G0 H0 env1 σ G1 H1 _ _ I1 q1 fun y H2 G2 env2 e s2 I2 r2 q2 =>
    hc G0 H0 env2 σ G2 H2 x y d e _ R I2 (r1.mono s2) r2 q2 fun z q3 => k _ H2 G2 env2 (.bl z) (s1.trans s2) I2 rfl q3
theorem qt_cmpP {op : CmpOp} {r : R2} {c : D → D → (Bool → Prop) → Prop} (ho : ∀ i, OpR (F.X i) (compareOp op) r) (hc : CmpP F.K r c) (ha : QE F a ta) (hb : QP F b tb) (hm : behindInMarks op b = false) : QT F (.Compare a [op] [b] pos) (dCmpT c ta tb) := by
  obtain ⟨sa, pa, ha⟩ := ha
  obtain ⟨sb, pb, hb⟩ := hb
  refine ⟨tTest (tOp r sa sb), fun i => pt_cmpR (ho i) (pa i) (pb i) hm, fun G0 H0 env σ G H Q R I q k => ?_⟩
  exact ha G0 H0 env σ G H _ _ I q fun x H1 G1 env1 d s1 I1 r1 q1 => hb G0 H0 env1 σ G1 H1 _ _ I1 q1 fun y H2 G2 env2 e s2 I2 r2 q2 =>
    hc G0 H0 env2 σ G2 H2 x y d e _ _ I2 (r1.mono s2) r2 q2 fun z q3 => ⟨z, rfl, k z H2 G2 env2 (s1.trans s2) I2 q3⟩
theorem Room.u65 {k : Nat} {A : Around} (r : Room k A) : A.units + 65 < cLine := by have := r.un; omega
section
variable {k : Nat} (hr : ∀ i, Room k (F.X i).A) (ha : QE F a ta) (hb : QP F b tb)
include hr ha hb
theorem q_in (hm : behindInMarks .In b = false := by rfl) : QE F (.Compare a [.In] [b] pos) (dCmp cIn ta tb) := q_cmpP (fun i => by have := (op_in_seq.or (op_inD (Room.u65 (hr i)))).or (op_in_sign (X := F.X i)); rw [F.hK] at this; exact this) cmpp_in ha hb hm
theorem q_notin (hm : behindInMarks .NotIn b = false := by rfl) : QE F (.Compare a [.NotIn] [b] pos) (dCmp cNotin ta tb) := q_cmpP (fun i => by have := (op_notIn_seq.or (op_notInD (Room.u65 (hr i)))).or (op_notIn_sign (X := F.X i)); rw [F.hK] at this; exact this) cmpp_notin ha hb hm
theorem qt_in (hm : behindInMarks .In b = false := by rfl) : QT F (.Compare a [.In] [b] pos) (dCmpT cIn ta tb) := qt_cmpP (fun i => by have := (op_in_seq.or (op_inD (Room.u65 (hr i)))).or (op_in_sign (X := F.X i)); rw [F.hK] at this; exact this) cmpp_in ha hb hm
theorem qt_notin (hm : behindInMarks .NotIn b = false := by rfl) : QT F (.Compare a [.NotIn] [b] pos) (dCmpT cNotin ta tb) := qt_cmpP (fun i => by have := (op_notIn_seq.or (op_notInD (Room.u65 (hr i)))).or (op_notIn_sign (X := F.X i)); rw [F.hK] at this; exact this) cmpp_notin ha hb hm
end
def cIsn (x : D) (Q : D → Prop) : Prop := match x with
  | .non => Q (.bl true)
  | _ => Q (.bl false)
def sIxD (n d : Nat) : Option Int → Nat
  | none => d
  | some v => if v < 0 then (v + (n : Int)).toNat else min v.toNat n
def cutD {α : Type} (xs : List α) (lo hi : Option Int) : List α := (xs.drop (HT.sIx xs.length 0 lo)).take (HT.sIx xs.length xs.length hi - HT.sIx xs.length 0 lo)
abbrev DP := DEnv → (Option Int → DEnv → Prop) → Prop
def SemPt (K : PySem.W.Frag) (te : TO) (t : DP) : Prop := ∀ (G0 H0 : Hp) (env : DEnv) (σ : L2.St) (G H : Hp) (Q : Option Int → DEnv → Prop) (R : Option Int → Hp → Prop), ER K G0 H0 env σ G H → t env Q →
  (∀ x H' G' env', Same G G' → ER K G0 H0 env' σ G' H' → Q x env' → R x H') → te σ H R
def QPt (F : Fam) (e : Option Expr) (t : DP) : Prop := ∃ te : TO, (∀ i, PO (F.X i) e te) ∧ SemPt F.K te t
def dNoP : DP := fun env Q => Q none env
def dPart (t : DE) : DP := fun env Q => t env fun d env1 => match d with
  | .int i => Q (some i) env1
  | _ => False
theorem qp_none : QPt F none dNoP := ⟨tNoPart, fun _ => po_none, fun G0 H0 env σ G H Q R I q k => k none H G env (Same.refl G) I q⟩
theorem qp_some (h : QE F a ta) : QPt F (some a) (dPart ta) := by
  obtain ⟨sa, pa, ha⟩ := h
  refine ⟨tPart sa, fun i => po_some (pa i), fun G0 H0 env σ G H Q R I q k => ha G0 H0 env σ G H _ _ I q fun x H1 G1 env1 d s1 I1 r1 q1 => ?_⟩
  cases d with
  | int i => exact ⟨i, r1, k (some i) H1 G1 env1 s1 I1 q1⟩
  | _ => exact (q1 : False).elim
def cSl (x : D) (lo hi : Option Int) (Q : D → Prop) : Prop := match x with
  | .lst ds => Q (.lst (cutD ds lo hi))
  | .tup ds => Q (.tup (cutD ds lo hi))
  | .scr ns => Q (.lst (cutD (ns.map .int) lo hi))
  | .str s => s.length ≤ sizeLine ∧ Q (.str (cutD s lo hi))
  | _ => False
def rSlAll (K : PySem.W.Frag) : V → Option Int → Option Int → Hp → VK → Prop := fun x lo hi H Q => (rSlL K x lo hi H Q ∨ rSlA K x lo hi H Q) ∨ rSlS x lo hi H Q
theorem sl_all {X : Cx} : SlR X (rSlAll X.K) := (sl_list.or sl_tupA).or sl_str
theorem Reps.cut {G : Hp} {ds : List D} {vs : List V} (r : Reps K G ds vs) (lo hi : Option Int) : Reps K G (cutD ds lo hi) (cutV vs lo hi) := by
  unfold cutD cutV
  rw [r.len]
  exact (r.drop _).take _
theorem sl_sem {G0 H0 : Hp} {env : DEnv} {σ : L2.St} {G H : Hp} {x : V} {d : D} {lo hi : Option Int} {Q : D → Prop} {R : VK} (I : ER K G0 H0 env σ G H) (r : PRep K G H d x) (q : cSl d lo hi Q)
    (k : ∀ v H' G' z, Same G G' → ER K G0 H0 env σ G' H' → Rep K G' z v → Q z → R v H') : rSlAll K x lo hi H R := by
  cases d with
  | lst ds =>
    obtain ⟨p, vs, rfl, h1, a1⟩ := r.lst I.sub
    refine .inl (.inl ⟨p, vs, rfl, SqL.of h1, fun l hl => ?_⟩)
    obtain ⟨I2, s2⟩ := I.new (o := .lst (cutV vs lo hi)) hl
    exact k _ _ _ (.lst (cutD ds lo hi)) s2 I2 ⟨l, _, rfl, upd_same, (a1.cut lo hi).mono s2⟩ q
  | scr ns =>
    obtain ⟨p, rfl, h1⟩ := r.frozen (fun _ z => z)
    refine .inl (.inl ⟨p, _, rfl, I.sub.seq h1, fun l hl => ?_⟩)
    obtain ⟨I2, s2⟩ := I.new (o := .lst (cutV (ns.map V.int) lo hi)) hl
    exact k _ _ _ (.lst (cutD (ns.map .int) lo hi)) s2 I2 ⟨l, _, rfl, upd_same, ((Reps.ints ns).cut lo hi).mono s2⟩ q
  | tup ds =>
    obtain ⟨p, vs, rfl, h1, a1⟩ := r.frozen (fun _ z => z)
    refine .inl (.inr ⟨p, vs, rfl, Same.sqt I.sub h1, fun ⟨w1, w2⟩ => ?_, fun _ l hl => ?_⟩)
    · have e : cutD ds lo hi = ds := by
        unfold cutD
        rw [← a1.len, w1, w2, List.drop_zero, Nat.sub_zero, a1.len, List.take_length]
      have q : Q (.tup (cutD ds lo hi)) := q
      rw [e] at q
      exact k (.ref p) H G (.tup ds) (Same.refl G) I ⟨p, vs, rfl, h1, a1⟩ q
    · obtain ⟨I2, s2⟩ := I.new (o := .tup (cutV vs lo hi)) hl
      exact k _ _ _ (.tup (cutD ds lo hi)) s2 I2 ⟨l, _, rfl, SqT.of upd_same, (a1.cut lo hi).mono s2⟩ q
  | str s =>
    obtain ⟨h, q⟩ := q
    refine .inr ⟨_, rep_str (r.frozen (fun _ z => z)), by rw [str_len]; exact h, k _ H G (.str (cutD s lo hi)) (Same.refl G) I ?_ q⟩
    show V.str (cutS _ lo hi) = _
    unfold cutS cutD
    rw [cps_list, str_len]
  | _ => exact (q : False).elim
def dSlice (t : DE) (lo hi : DP) : DE := fun env Q => t env fun d env1 => lo env1 fun l env2 => hi env2 fun h env3 => cSl d l h fun z => Q z env3
theorem q_slice {p2 : Pos} {lo hi : Option Expr} {tl th : DP} (h : QE F e te) (hl : QPt F lo tl) (hh : QPt F hi th) : QE F (.Subscript e (.Slice lo hi none p2) pos) (dSlice te tl th) := by
  obtain ⟨sa, pa, ha⟩ := h
  obtain ⟨sl, pl, hl⟩ := hl
  obtain ⟨sh, ph, hh⟩ := hh
  refine ⟨_, fun i => pe_slice (by have := sl_all (X := F.X i); rw [F.hK] at this; exact this) (pa i) (pl i) (ph i), fun G0 H0 env σ G H Q R I q k => ?_⟩
  exact ha G0 H0 env σ G H _ _ I q fun x H1 G1 env1 d s1 I1 r1 q1 => hl G0 H0 env1 σ G1 H1 _ _ I1 q1 fun l H2 G2 env2 s2 I2 q2 => hh G0 H0 env2 σ G2 H2 _ _ I2 q2 fun u H3 G3 env3 s3 I3 q3 =>
    sl_sem I3 (.inl ((r1.mono s2).mono s3)) q3 fun v H4 G4 z s4 I4 r4 q4 => k v H4 G4 env3 z (s1.trans (s2.trans (s3.trans s4))) I4 r4 q4
/-- a name's slice, the name stays owned -/
def dSlV (j : Nat) (lo hi : DP) : DE := fun env Q => bound (gs env j) ∧ lo env fun l env2 => hi env2 fun h env3 => slD (gs env3 j) fun d => cSl d l h fun z => Q z env3
theorem q_slv (j : Nat) {x : Str} {ipos p2 : Pos} {lo hi : Option Expr} {tl th : DP} (hl : QPt F lo tl) (hh : QPt F hi th) (hN : ∀ i, (F.X i).N[j]? = some x := by exact fun _ => rfl) (hv : ∀ i, Vis (F.X i).env.scope x := by first | exact fun _ => Or.inl rfl | exact fun _ => Or.inr (Or.inl rfl) | exact fun _ => Or.inr (Or.inr rfl)) (hd : (x == ("__debug__" : Str)) = false := by decide) (hcd : (x == ("__classdict__" : Str)) = false := by decide) :
    QE F (.Subscript (.Name x ipos) (.Slice lo hi none p2) pos) (dSlV j tl th) := by
  obtain ⟨sl, pl, hl⟩ := hl
  obtain ⟨sh, ph, hh⟩ := hh
  refine ⟨_, fun i => pe_slice (by have := sl_all (X := F.X i); rw [F.hK] at this; exact this) (pe_var (hN i) (hv i) hd hcd) (pl i) (ph i), fun G0 H0 env σ G H Q R I q k => ?_⟩
  obtain ⟨hn, q⟩ := q
  obtain ⟨v, d, e, _, _⟩ := I.peek (i := j) (Q := fun _ => True) (by
    cases z : gs env j with
    | no => rw [z] at hn; exact hn
    | fz d => trivial
    | ow d => trivial)
  refine ⟨v, e, hl G0 H0 env σ G H _ _ I q fun l H2 G2 env2 s2 I2 q2 => hh G0 H0 env2 σ G2 H2 _ _ I2 q2 fun u H3 G3 env3 s3 I3 q3 => ?_⟩
  obtain ⟨v', d', e', q4, rp⟩ := I3.peek q3
  rw [e] at e'
  cases e'
  exact sl_sem I3 rp q4 fun v H4 G4 z s4 I4 r4 q4 => k v H4 G4 env3 z (s2.trans (s3.trans s4)) I4 r4 q4

def cSum (d : D) (Q : D → Prop) : Prop := match d with
  | .lst ds => ∃ ns : List Int, ds = ns.map .int ∧ Q (.int ns.sum)
  | .scr ns => Q (.int ns.sum)
  | _ => False
theorem reps_ints {G : Hp} : ∀ {ns : List Int} {vs : List V}, Reps K G (ns.map D.int) vs → vs = ns.map V.int
  | [], _, h => h
  | n :: ns, _, ⟨v, r, e, a, b⟩ => by
    subst e
    rw [rep_int a, reps_ints b]
    rfl
theorem calp_sum : CalP K (rSum K) cSum := by
  intro G0 H0 env σ G H x d Q R I r q k
  cases d with
  | lst ds =>
    obtain ⟨ns, rfl, q⟩ := q
    obtain ⟨p, vs, rfl, h1, a1⟩ := r.lst I.sub
    rw [reps_ints a1] at h1
    exact ⟨p, ns, rfl, SqL.of h1, k _ H G (.int ns.sum) (Same.refl G) I rfl q⟩
  | scr ns =>
    obtain ⟨p, rfl, h1⟩ := r.frozen (fun _ z => z)
    exact ⟨p, ns, rfl, I.sub.seq h1, k _ H G (.int ns.sum) (Same.refl G) I rfl q⟩
  | _ => exact (q : False).elim
theorem q_sum {p : Pos} (hc : ∀ i, (F.X i).calm = true) (hm : ∀ i, (F.X i).mg "sum" = none) (h : QP F e t) (hg : ∀ i, Gl (F.X i) "sum" := by exact fun _ => rfl) (hs : ∀ i, starEach (e :: []) (F.X i).env = (false, eval e (F.X i).env) :: starEach [] (F.X i).env := by intro _; rfl) : QE F (.Call (.Name "sum" p) [e] [] pos) (dCal cSum t) :=
  q_callB (fun i => by have := cr_sum (X := F.X i) (hc i); rw [F.hK] at this; exact this) calp_sum hg hm (by decide +kernel) h (hs := hs)
def cSorted (d : D) (Q : D → Prop) : Prop := match d with
  | .lst ds => ∃ ns : List Int, ds = ns.map .int ∧ ∀ ns' : List Int, ns'.Perm ns → ns'.Pairwise (· ≤ ·) → Q (.lst (ns'.map .int))
  | .scr ns => ∀ ns' : List Int, ns'.Perm ns → ns'.Pairwise (· ≤ ·) → Q (.lst (ns'.map .int))
  | _ => False
theorem calo_sorted : CalO K (rSortedI K) cSorted := by
  intro G0 H0 env σ G H x d Q R I r q k
  have fin : ∀ {ns : List Int} {l : Addr}, Q (.lst (ns.map .int)) → H l = none → R (.ref l) (upd H l (.lst (ns.map V.int))) := fun {ns l} q hl =>
    k _ _ G (.lst (ns.map .int)) (Same.refl G) (I.newH hl) (I.freshOwn hl ⟨_, rfl, Reps.ints ns⟩) q
  cases d with
  | lst ds =>
    obtain ⟨ns, rfl, q⟩ := q
    obtain ⟨p, vs, rfl, h1, a1⟩ := r.lst I.sub
    rw [reps_ints a1] at h1
    exact ⟨p, ns, rfl, SqL.of h1, fun ns' l h2 h3 hl => fin (q ns' h2 h3) hl⟩
  | scr ns =>
    obtain ⟨p, rfl, h1⟩ := r.frozen (fun _ z => z)
    exact ⟨p, ns, rfl, I.sub.seq h1, fun ns' l h2 h3 hl => fin (q ns' h2 h3) hl⟩
  | _ => exact (q : False).elim
theorem qo_sorted {p : Pos} (hm : ∀ i, (F.X i).mg "sorted" = none) (h : QP F e t) (hg : ∀ i, Gl (F.X i) "sorted" := by exact fun _ => rfl) (hs : ∀ i, starEach (e :: []) (F.X i).env = (false, eval e (F.X i).env) :: starEach [] (F.X i).env := by intro _; rfl) : QO F (.Call (.Name "sorted" p) [e] [] pos) (dCal cSorted t) :=
  qo_callB (fun i => by have := cr_sortedI (X := F.X i); rw [F.hK] at this; exact this) calo_sorted hg hm (by decide +kernel) h (hs := hs)
theorem reps_rng {G : Hp} (a b : Int) : Reps K G (rngD a (b - a).toNat) (rgV a b) := by
  unfold rngD rgV
  generalize (b - a).toNat = n
  have key : ∀ l : List Nat, Reps K G (l.map fun (k : Nat) => D.int (a + (k : Int))) (l.map fun i => V.int (a + (i : Nat))) := by
    intro l
    induction l with
    | nil => exact (rfl : _ = _)
    | cons x l ih => exact ⟨_, _, rfl, rfl, ih⟩
  exact key _
def dLRg1 (t : DE) : DE := fun env Q => t env fun d env1 => match d with
  | .int n => -(2 ^ 62) ≤ n ∧ n ≤ 2 ^ 24 ∧ Q (.lst (rngD 0 n.toNat)) env1
  | _ => False
theorem qo_listRg1 {p p2 pos2 : Pos} (hc : ∀ i, (F.X i).calm = true) (hm : ∀ i, (F.X i).mg "list" = none) (hm2 : ∀ i, (F.X i).mg "range" = none) (h : QE F a ta) (hg : ∀ i, Gl (F.X i) "list" := by exact fun _ => rfl) (hg2 : ∀ i, Gl (F.X i) "range" := by exact fun _ => rfl)
    (hs : ∀ i, starEach [a] (F.X i).env = (false, eval a (F.X i).env) :: starEach [] (F.X i).env := by intro _; rfl) (hs2 : ∀ i, starEach [.Call (.Name "range" p2) [a] [] pos2] (F.X i).env = (false, eval (.Call (.Name "range" p2) [a] [] pos2) (F.X i).env) :: starEach [] (F.X i).env := by intro _; rfl) :
    QO F (.Call (.Name "list" p) [.Call (.Name "range" p2) [a] [] pos2] [] pos) (dLRg1 ta) := by
  obtain ⟨sa, pa, ha⟩ := h
  refine ⟨tLstRg (tRg1 sa), fun i => pe_listRg (hc i) (hg i) (hm i) (prg_1 (hg2 i) (hm2 i) (pa i) (hs i)) (hs2 i), fun G0 H0 env σ G H Q R I q k => ha G0 H0 env σ G H _ _ I q fun x H1 G1 env1 d s1 I1 r1 q1 => ?_⟩
  cases d with
  | int n =>
    obtain ⟨h1, h2, q⟩ := q1
    refine ⟨n, r1, ⟨by omega, by omega, h1, by omega, by omega⟩, fun l hl => ?_⟩
    exact k _ _ G1 env1 (.lst (rngD 0 n.toNat)) s1 (I1.newH hl) (I1.freshOwn hl ⟨_, rfl, by have := reps_rng (K := F.K) (G := G1) 0 n; rwa [Int.sub_zero] at this⟩) q
  | _ => exact (q1 : False).elim
def cRgL (x y : D) (Q : D → Prop) : Prop := match x, y with
  | .int a, .int b => RgOk a b ∧ Q (.lst (rngD a (b - a).toNat))
  | _, _ => False
def dLRg2 (t u : DE) : DE := dOp cRgL t u
theorem qo_listRg2 {p p2 pos2 : Pos} (hc : ∀ i, (F.X i).calm = true) (hm : ∀ i, (F.X i).mg "list" = none) (hm2 : ∀ i, (F.X i).mg "range" = none) (h : QE F a ta) (h2 : QE F b tb) (hg : ∀ i, Gl (F.X i) "list" := by exact fun _ => rfl) (hg2 : ∀ i, Gl (F.X i) "range" := by exact fun _ => rfl)
    (hs : ∀ i, starEach [a, b] (F.X i).env = (false, eval a (F.X i).env) :: starEach [b] (F.X i).env := by intro _; rfl) (hsb : ∀ i, starEach [b] (F.X i).env = (false, eval b (F.X i).env) :: starEach [] (F.X i).env := by intro _; rfl) (hpl : ∀ i, (backTo pos2 (starEach [b] (F.X i).env)).any (·.1) = false := by intro _; rfl)
    (hs2 : ∀ i, starEach [.Call (.Name "range" p2) [a, b] [] pos2] (F.X i).env = (false, eval (.Call (.Name "range" p2) [a, b] [] pos2) (F.X i).env) :: starEach [] (F.X i).env := by intro _; rfl) :
    QO F (.Call (.Name "list" p) [.Call (.Name "range" p2) [a, b] [] pos2] [] pos) (dLRg2 ta tb) := by
  obtain ⟨sa, pa, ha⟩ := h
  obtain ⟨sb, pb, hb⟩ := h2
  refine ⟨tLstRg (tRg2 sa sb), fun i => pe_listRg (hc i) (hg i) (hm i) (prg_2 (hg2 i) (hm2 i) (pa i) (pb i) (hs i) (hsb i) (hpl i)) (hs2 i), fun G0 H0 env σ G H Q R I q k => ha G0 H0 env σ G H _ _ I q fun x H1 G1 env1 d s1 I1 r1 q1 => hb G0 H0 env1 σ G1 H1 _ _ I1 q1 fun y H2 G2 env2 e s2 I2 r2 q2 => ?_⟩
  cases d with
  | int n =>
    cases e with
    | int m =>
      obtain ⟨h1, q⟩ := (q2 : RgOk n m ∧ _)
      exact ⟨n, m, r1, r2, h1, fun l hl => k _ _ G2 env2 (.lst (rngD n (m - n).toNat)) (s1.trans s2) (I2.newH hl) (I2.freshOwn hl ⟨_, rfl, reps_rng n m⟩) q⟩
    | _ => exact (q2 : False).elim
  | _ => exact (q2 : False).elim

def cOAdd (x y : D) (Q : D → Prop) : Prop := match x, y with
  | .lst i, .lst j => i.length + j.length ≤ sizeLine ∧ Q (.lst (i ++ j))
  | _, _ => False
def cOMul (x y : D) (Q : D → Prop) : Prop := match x, y with
  | .lst xs, .int k => k < 2 ^ 62 ∧ xs.length * k.toNat ≤ sizeLine ∧ -(2 ^ 62) ≤ k ∧ Q (.lst (List.replicate k.toNat xs).flatten)
  | _, _ => False
theorem qo_add (ha : QE F a ta) (hb : QE F b tb) : QO F (.BinOp a .Add b pos) (dOp cOAdd ta tb) := by
  obtain ⟨sa, pa, ha⟩ := ha
  obtain ⟨sb, pb, hb⟩ := hb
  refine ⟨tOp rCat sa sb, fun i => pe_op op_cat (pa i) (pb i), fun G0 H0 env σ G H Q R I q k => ha G0 H0 env σ G H _ _ I q fun x H1 G1 env1 d s1 I1 r1 q1 => hb G0 H0 env1 σ G1 H1 _ _ I1 q1 fun y H2 G2 env2 e s2 I2 r2 q2 => ?_⟩
  cases d with
  | lst i =>
    cases e with
    | lst j =>
      obtain ⟨p, vs, e1, h1, a1⟩ := r1.mono s2
      obtain ⟨p2, ws, e2, h2, a2⟩ := r2
      exact ⟨p, p2, vs, ws, e1, e2, I2.sub _ _ h1, I2.sub _ _ h2, by rw [a1.len, a2.len]; exact q2.1, fun l hl => k _ _ G2 env2 (.lst (i ++ j)) (s1.trans s2) (I2.newH hl) (I2.freshOwn hl ⟨_, rfl, a1.append a2⟩) q2.2⟩
    | _ => exact (q2 : False).elim
  | _ => exact (q2 : False).elim
theorem qo_mul (ha : QE F a ta) (hb : QE F b tb) : QO F (.BinOp a .Mult b pos) (dOp cOMul ta tb) := by
  obtain ⟨sa, pa, ha⟩ := ha
  obtain ⟨sb, pb, hb⟩ := hb
  refine ⟨tOp rRep sa sb, fun i => pe_op op_rep (pa i) (pb i), fun G0 H0 env σ G H Q R I q k => ha G0 H0 env σ G H _ _ I q fun x H1 G1 env1 d s1 I1 r1 q1 => hb G0 H0 env1 σ G1 H1 _ _ I1 q1 fun y H2 G2 env2 e s2 I2 r2 q2 => ?_⟩
  cases d with
  | lst i =>
    cases e with
    | int j =>
      obtain ⟨p, vs, e1, h1, a1⟩ := r1.mono s2
      obtain ⟨q1, q2, q3, q4⟩ := q2
      exact ⟨p, j, vs, e1, r2, I2.sub _ _ h1, by omega, by omega, by rw [a1.len]; exact q2, fun l hl => k _ _ G2 env2 (.lst (List.replicate j.toNat i).flatten) (s1.trans s2) (I2.newH hl) (I2.freshOwn hl ⟨_, rfl, a1.flat _⟩) q4⟩
    | _ => exact (q2 : False).elim
  | _ => exact (q2 : False).elim
theorem qs_setLcO (i : Nat) {y : Str} {py : Pos} {elt tg iter : Expr} {ifs : List Expr} {scope : Scope} {ow : List (Str × Nat)} {spos : Pos} {ti : DI} {g : DG} (hc : ∀ j, (F.X j).calm = true) (hN : ∀ j, (F.X j).N.Nodup) (hi : QI F tg iter ti) (ok : ∀ j, BlkOk (F.X j).N (F.X j).env.scope scope ow)
    (hg : QGc (F.blk scope) (ow.map (·.2)) tg g) (ht : QTs (F.blk scope) ifs tt) (he : QE (F.blk scope) elt te) (hy : ∀ j, (F.X j).N[i]? = some y := by exact fun _ => rfl) (hyl : ∀ j, (F.X j).env.scope.names.lookup y = some .local := by exact fun _ => rfl) (hkind : ∀ j, (F.X j).env.scope.kind = .function := by exact fun _ => rfl)
    (hl : (py.line == pos.line) = true := by rfl) (ha : (scope.names.any fun (n, k) => n == y && (k == .local || k == .cell)) = false := by decide +kernel) (hs : ∀ j x, foldedSetIterable iter (F.X j).env x = pure x := by intro _ _; rfl) :
    QS F own (.Assign [.Name y py] (.ListComp elt [⟨tg, iter, ifs, 0⟩] scope pos) spos) (dSetO i (dLc ti g tt te (ow.map (·.2)))) := by
  obtain ⟨wi, pw, sw⟩ := hi
  obtain ⟨gg, pg, sg⟩ := hg
  obtain ⟨t3, p3, s3⟩ := ht
  obtain ⟨t4, p4, s4⟩ := he
  refine ⟨tAsg (tLc wi gg t3 t4 (ow.map (·.2))) (gName i), fun j => ps_setLc (own := ow) (hc j) (hN j) (hy j) (hyl j) (sw_true (hkind j) (hyl j) hl ha) (pw j) (ok j) (fun s H C cl fp => pg ⟨j, s, H, C, cl, fp⟩) (fun s H C cl fp => p3 ⟨j, s, H, C, cl, fp⟩) (fun s H C cl fp => p4 ⟨j, s, H, C, cl, fp⟩) (hs j),
    fun G0 H0 env σ G H D E I q k => ?_⟩
  have sem := sem_lc (vs := ow.map (·.2)) sw sg s3 s4
  refine sem G0 H0 env σ G H _ _ I q fun v H' G' env' d s1 I1 r q1 => ?_
  have q' : D.nx (ss env' i (.ow d)) := q1
  rw [ss_set] at q'
  exact k.nx _ _ G' H' s1 (I1.setO r i) q'
theorem qs_setLc (i : Nat) {y : Str} {py : Pos} {elt tg iter : Expr} {ifs : List Expr} {scope : Scope} {ow : List (Str × Nat)} {spos : Pos} {ti : DI} {g : DG} (hc : ∀ j, (F.X j).calm = true) (hN : ∀ j, (F.X j).N.Nodup) (hi : QI F tg iter ti) (ok : ∀ j, BlkOk (F.X j).N (F.X j).env.scope scope ow)
    (hg : QGc (F.blk scope) (ow.map (·.2)) tg g) (ht : QTs (F.blk scope) ifs tt) (he : QE (F.blk scope) elt te) (hy : ∀ j, (F.X j).N[i]? = some y := by exact fun _ => rfl) (hyl : ∀ j, (F.X j).env.scope.names.lookup y = some .local := by exact fun _ => rfl) (hkind : ∀ j, (F.X j).env.scope.kind = .function := by exact fun _ => rfl)
    (hl : (py.line == pos.line) = true := by rfl) (ha : (scope.names.any fun (n, k) => n == y && (k == .local || k == .cell)) = false := by decide +kernel) (hs : ∀ j x, foldedSetIterable iter (F.X j).env x = pure x := by intro _ _; rfl) :
    QS F own (.Assign [.Name y py] (.ListComp elt [⟨tg, iter, ifs, 0⟩] scope pos) spos) (dSet i (dLc ti g tt te (ow.map (·.2)))) := by
  obtain ⟨wi, pw, sw⟩ := hi
  obtain ⟨gg, pg, sg⟩ := hg
  obtain ⟨t3, p3, s3⟩ := ht
  obtain ⟨t4, p4, s4⟩ := he
  refine ⟨tAsg (tLc wi gg t3 t4 (ow.map (·.2))) (gName i), fun j => ps_setLc (own := ow) (hc j) (hN j) (hy j) (hyl j) (sw_true (hkind j) (hyl j) hl ha) (pw j) (ok j) (fun s H C cl fp => pg ⟨j, s, H, C, cl, fp⟩) (fun s H C cl fp => p3 ⟨j, s, H, C, cl, fp⟩) (fun s H C cl fp => p4 ⟨j, s, H, C, cl, fp⟩) (hs j),
    fun G0 H0 env σ G H D E I q k => ?_⟩
  have sem := (sem_lc (vs := ow.map (·.2)) sw sg s3 s4).semE
  refine sem G0 H0 env σ G H _ _ I q fun v H' G' env' d s1 I1 r q1 => ?_
  have q' : D.nx (ss env' i (.fz d)) := q1
  rw [ss_set] at q'
  exact k.nx _ _ G' H' s1 (I1.setF r i) q'
theorem qo_lc {elt tg iter : Expr} {ifs : List Expr} {scope : Scope} {ow : List (Str × Nat)} {ti : DI} {g : DG} (hc : ∀ j, (F.X j).calm = true) (hN : ∀ j, (F.X j).N.Nodup) (hi : QI F tg iter ti) (ok : ∀ j, BlkOk (F.X j).N (F.X j).env.scope scope ow)
    (hg : QGc (F.blk scope) (ow.map (·.2)) tg g) (ht : QTs (F.blk scope) ifs tt) (he : QE (F.blk scope) elt te) (hs : ∀ j x, foldedSetIterable iter (F.X j).env x = pure x := by intro _ _; rfl) :
    QO F (.ListComp elt [⟨tg, iter, ifs, 0⟩] scope pos) (dLc ti g tt te (ow.map (·.2))) := by
  obtain ⟨wi, pw, sw⟩ := hi
  obtain ⟨gg, pg, sg⟩ := hg
  obtain ⟨t3, p3, s3⟩ := ht
  obtain ⟨t4, p4, s4⟩ := he
  exact ⟨tLc wi gg t3 t4 (ow.map (·.2)), fun j => pe_lc (hc j) (hN j) (pw j) (ok j) (fun s H C cl fp => pg ⟨j, s, H, C, cl, fp⟩) (fun s H C cl fp => p3 ⟨j, s, H, C, cl, fp⟩) (fun s H C cl fp => p4 ⟨j, s, H, C, cl, fp⟩) (hs j), sem_lc sw sg s3 s4⟩
end
end DL

set_option linter.all false
set_option maxRecDepth 100000
namespace DL
open PySem PySem.Spec PyProof.Rows L2
def bl (k : Nat) : Nat := PySem.Builtin.Int.intBits (k : Int)
theorem bl_le {k m : Nat} : bl k ≤ m ↔ k < 2 ^ m := by
  unfold bl PySem.Builtin.Int.intBits
  by_cases h : k = 0
  · subst h
    simp
    exact Nat.two_pow_pos m
  · have h1 : ((k : Int) == 0) = false := by
      rw [beq_eq_false_iff_ne]; omega
    rw [h1]
    simp only [Bool.false_eq_true, if_false, Int.natAbs_natCast]
    rw [Nat.succ_le_iff, Nat.log2_lt h]
/-- the least width of so many options -/
def W (n : Nat) : Nat := bl (n - 1)
theorem W_le {n m : Nat} (h : 1 ≤ n) : W n ≤ m ↔ n ≤ 2 ^ m := by
  unfold W
  rw [bl_le]
  omega
theorem W_self {n : Nat} (h : 1 ≤ n) : n ≤ 2 ^ W n := (W_le h).mp (Nat.le_refl _)
theorem W_mono {n m : Nat} (h : 1 ≤ n) (hm : n ≤ m) : W n ≤ W m := (W_le h).mpr (Nat.le_trans hm (W_self (Nat.le_trans h hm)))
theorem W_succ {n : Nat} (h : 1 ≤ n) : W (n + 1) ≤ W n + 1 := by
  rw [W_le (by omega), Nat.pow_succ]
  have := W_self h
  omega
theorem mul_r {i j : Int} (h : -(2 ^ 64) < j) (h2 : j < 2 ^ 64) : MulOk i j := .inr (.inl ⟨h, h2⟩)
theorem mul_l {i j : Int} (h : -(2 ^ 64) < i) (h2 : i < 2 ^ 64) : MulOk i j := .inl ⟨h, h2⟩
theorem log_ok {j : Int} (h0 : 0 ≤ j) (h : j < 2 ^ 64) : j.natAbs.log2 < 9000 := by
  by_cases z : j.natAbs = 0
  · rw [z]; decide
  · rw [Nat.log2_lt z]
    have : j.natAbs < 2 ^ 64 := by omega
    exact Nat.lt_of_lt_of_le this (Nat.pow_le_pow_right (by decide) (by decide))
theorem at_ok {α : Type} {l : List α} {i : Int} {k : Nat} (h : i = k) (hk : k < l.length) : atI l i = some l[k] := by
  subst h
  exact atI_nat (List.getElem?_eq_getElem hk)
theorem map_get {α : Type} {f : α → D} {l : List α} {k : Nat} {d : D} (h : (l.map f)[k]? = some d) : ∃ z, l[k]? = some z ∧ d = f z := by
  rw [List.getElem?_map] at h
  cases q : l[k]? with
  | none => rw [q] at h; cases h
  | some z => rw [q] at h; exact ⟨z, rfl, (Option.some.inj h).symm⟩
theorem at_map {α : Type} {f : α → D} {l : List α} {i : Int} {k : Nat} (h : i = k) (hk : k < l.length) : atI (l.map f) i = some (f l[k]) := by
  rw [atI_map, at_ok h hk]; rfl
end DL

set_option Elab.async false
set_option linter.all false
set_option maxRecDepth 100000
namespace DL
open PySem PySem.Spec PyProof.Rows L2
section
variable {F : Fam} {own : Bool} {e a b c o : Expr} {es : List Expr} {t te ta tb : DE} {tt : DT} {tA : DA} {pos : Pos} {K : PySem.W.Frag}
def CalA (K : PySem.W.Frag) (r : List V → Hp → VK → Prop) (c : List D → (D → Prop) → Prop) : Prop := ∀ (G0 H0 : Hp) (env : DEnv) (σ : L2.St) (G H : Hp) (xs : List V) (ds : List D) (Q : D → Prop) (R : VK), ER K G0 H0 env σ G H → Reps K G ds xs → c ds Q →
  (∀ v H' G' z, Same G G' → ER K G0 H0 env σ G' H' → Rep K G' z v → Q z → R v H') → r xs H R
def dCalA (c : List D → (D → Prop) → Prop) (t : DA) : DE := fun env Q => t env fun ds env1 => c ds fun z => Q z env1
theorem q_callA {r : List V → Hp → VK → Prop} {c : List D → (D → Prop) → Prop} {x : Str} {p : Pos} {id : String} (hr : ∀ i, CallR (F.X i) (.builtin id) r) (hc : CalA F.K r c) (hg : ∀ i, Gl (F.X i) x) (hm : ∀ i, (F.X i).mg x = none) (hv : bootBuiltins x = some (.builtin id)) (h : QA F (e :: es) tA) (hn : x ≠ "__name__" := by decide) (hdb : (x == ("__debug__" : Str)) = false := by decide)
    (hs : ∀ i, starEach (e :: es) (F.X i).env = (false, eval e (F.X i).env) :: starEach es (F.X i).env := by intro _; rfl) (hpl : ∀ i, (backTo pos (starEach es (F.X i).env)).any (·.1) = false := by intro _; rfl) : QE F (.Call (.Name x p) (e :: es) [] pos) (dCalA c tA) := by
  obtain ⟨te, pe, s⟩ := h
  exact ⟨tCB r te, fun i => pe_callB (hr i) (hg i) (hm i) hv (pe i) hn hdb (he := hs i) (hpl := hpl i), fun G0 H0 env σ G H Q R I q k => s G0 H0 env σ G H _ _ I q fun vs H1 G1 env1 ds s1 I1 r1 q1 => hc G0 H0 env1 σ G1 H1 vs ds _ _ I1 r1 q1 fun w H2 G2 z s2 I2 r2 q2 => k w H2 G2 env1 z (s1.trans s2) I2 r2 q2⟩
theorem call_min3I {X : Cx} (hc : X.calm = true) : CallR X (.builtin "min") (fun xs H Q => ∃ i j k, xs = [.int i, .int j, .int k] ∧ Q (.int (min i (min j k))) H) := by
  intro pins s σ H xs us Q I r h
  obtain ⟨i, j, k, rfl, q⟩ := h
  cases r with
  | cons r1 r => cases r with
    | cons r2 r => cases r with
      | cons r3 r =>
        cases r
        obtain ⟨t1, rfl⟩ := r1
        obtain ⟨t2, rfl⟩ := r2
        obtain ⟨t3, rfl⟩ := r3
        refine min_three_ints (I.ok.hd hc) fun h' tk kk => ⟨_, H, I.kept kk, ?_, q⟩
        by_cases h1 : j < i
        · rw [if_pos h1]
          by_cases h2 : k < j
          · rw [if_pos h2, show min i (min j k) = k by omega]; exact ⟨_, rfl⟩
          · rw [if_neg h2, show min i (min j k) = j by omega]; exact ⟨_, rfl⟩
        · rw [if_neg h1]
          by_cases h2 : k < i
          · rw [if_pos h2, show min i (min j k) = k by omega]; exact ⟨_, rfl⟩
          · rw [if_neg h2, show min i (min j k) = i by omega]; exact ⟨_, rfl⟩
def cMin3 (ds : List D) (Q : D → Prop) : Prop := match ds with
  | [.int i, .int j, .int k] => Q (.int (min i (min j k)))
  | _ => False
theorem q_min3 {p : Pos} (hc : ∀ i, (F.X i).calm = true) (hm : ∀ i, (F.X i).mg "min" = none) (h : QA F (e :: es) tA) (hg : ∀ i, Gl (F.X i) "min" := by exact fun _ => rfl)
    (hs : ∀ i, starEach (e :: es) (F.X i).env = (false, eval e (F.X i).env) :: starEach es (F.X i).env := by intro _; rfl) (hpl : ∀ i, (backTo pos (starEach es (F.X i).env)).any (·.1) = false := by intro _; rfl) : QE F (.Call (.Name "min" p) (e :: es) [] pos) (dCalA cMin3 tA) :=
  q_callA (fun i => call_min3I (hc i)) (fun G0 H0 env σ G H xs ds Q R I r q k => by
    unfold cMin3 at q
    split at q
    · obtain ⟨x1, _, rfl, r1, x2, _, rfl, r2, x3, _, rfl, r3, r4⟩ := r
      cases r4
      exact ⟨_, _, _, by rw [rep_int r1, rep_int r2, rep_int r3], k _ H G (.int _) (Same.refl G) I rfl q⟩
    · exact q.elim) hg hm (by decide +kernel) h (hs := hs) (hpl := hpl)
def cMinL (d : D) (Q : D → Prop) : Prop := match d with
  | .lst ds => ∃ ns : List Int, ds = ns.map .int ∧ 0 < ns.length ∧ ∀ m, m ∈ ns → (∀ y, y ∈ ns → m ≤ y) → Q (.int m)
  | _ => False
def cMaxL (d : D) (Q : D → Prop) : Prop := match d with
  | .lst ds => ∃ ns : List Int, ds = ns.map .int ∧ 0 < ns.length ∧ ∀ m, m ∈ ns → (∀ y, y ∈ ns → y ≤ m) → Q (.int m)
  | _ => False
theorem q_minL {p : Pos} (hc : ∀ i, (F.X i).calm = true) (hm : ∀ i, (F.X i).mg "min" = none) (h : QP F e t) (hg : ∀ i, Gl (F.X i) "min" := by exact fun _ => rfl) (hs : ∀ i, starEach (e :: []) (F.X i).env = (false, eval e (F.X i).env) :: starEach [] (F.X i).env := by intro _; rfl) : QE F (.Call (.Name "min" p) [e] [] pos) (dCal cMinL t) :=
  q_callB (fun i => by have := cr_min (X := F.X i) (hc i); rw [F.hK] at this; exact this) (fun G0 H0 env σ G H x d Q R I r q k => by
    cases d with
    | lst ds =>
      obtain ⟨ns, rfl, hl, q⟩ := q
      obtain ⟨p, vs, rfl, h1, a1⟩ := r.lst I.sub
      rw [reps_ints a1] at h1
      exact ⟨p, ns, rfl, SqL.of h1, hl, fun m h2 h3 => k _ H G (.int m) (Same.refl G) I rfl (q m h2 h3)⟩
    | _ => exact (q : False).elim) hg hm (by decide +kernel) h (hs := hs)
theorem q_maxL {p : Pos} (hc : ∀ i, (F.X i).calm = true) (hm : ∀ i, (F.X i).mg "max" = none) (h : QP F e t) (hg : ∀ i, Gl (F.X i) "max" := by exact fun _ => rfl) (hs : ∀ i, starEach (e :: []) (F.X i).env = (false, eval e (F.X i).env) :: starEach [] (F.X i).env := by intro _; rfl) : QE F (.Call (.Name "max" p) [e] [] pos) (dCal cMaxL t) :=
  q_callB (fun i => by have := cr_max (X := F.X i) (hc i); rw [F.hK] at this; exact this) (fun G0 H0 env σ G H x d Q R I r q k => by
    cases d with
    | lst ds =>
      obtain ⟨ns, rfl, hl, q⟩ := q
      obtain ⟨p, vs, rfl, h1, a1⟩ := r.lst I.sub
      rw [reps_ints a1] at h1
      exact ⟨p, ns, rfl, SqL.of h1, hl, fun m h2 h3 => k _ H G (.int m) (Same.refl G) I rfl (q m h2 h3)⟩
    | _ => exact (q : False).elim) hg hm (by decide +kernel) h (hs := hs)

mutual
def smD : D → Bool
  | .int i => decide (i.natAbs.log2 < 599)
  | .str x => x.all fun c => decide (c < 16 ^ 8)
  | .tup ds => smDs ds
  | .lst ds => smDs ds
  | _ => true
def smDs : List D → Bool
  | [] => true
  | d :: ds => smD d && smDs ds
end
mutual
def bulkD : D → Nat
  | .str x => x.length
  | .tup ds => bulkDs ds
  | .lst ds => bulkDs ds
  | _ => 0
def bulkDs : List D → Nat
  | [] => 0
  | d :: ds => bulkD d + 1 + bulkDs ds
end
/-- the text -/
def shw (d : D) : List Nat := (toP d).shown.cps.toList
mutual
theorem bulk_of : ∀ d : D, (toP d).bulk = bulkD d
  | .non => rfl
  | .bl _ => rfl
  | .int _ => rfl
  | .str x => by show x.toArray.size = x.length; simp
  | .tup ds => bulks_of ds
  | .lst ds => bulks_of ds
  | .scr _ => rfl
  | .dk _ _ => rfl
  | .dt _ _ => rfl
  | .ins _ _ _ => rfl
theorem bulks_of : ∀ ds : List D, PyData.bulkAll (toPs ds) = bulkDs ds
  | [] => rfl
  | d :: ds => by
    show (toP d).bulk + 1 + PyData.bulkAll (toPs ds) = bulkD d + 1 + bulkDs ds
    rw [bulk_of d, bulks_of ds]
end
mutual
theorem short_of : ∀ d : D, smD d = true → (toP d).leavesShort 600 = true ∧ (toP d).showable = true
  | .non, _ => ⟨rfl, rfl⟩
  | .bl _, _ => ⟨rfl, rfl⟩
  | .int i, h => by
    have h := of_decide_eq_true (show decide (i.natAbs.log2 < 599) = true from h)
    have := int_text_length_le (k := 599) (by decide) h
    refine ⟨decide_eq_true ?_, decide_eq_true (by omega)⟩
    show (Str.ofString (toString i)).length ≤ 600
    rw [PySem.ofString_length]
    omega
  | .str x, h => by
    refine ⟨?_, rfl⟩
    show (x.toArray.toList.all _) = true
    simpa [smD] using h
  | .tup ds, h => shorts_of ds h
  | .lst ds, h => shorts_of ds h
  | .scr _, _ => ⟨rfl, rfl⟩
  | .dk _ _, _ => ⟨rfl, rfl⟩
  | .dt _ _, _ => ⟨rfl, rfl⟩
  | .ins _ _ _, _ => ⟨rfl, rfl⟩
theorem shorts_of : ∀ ds : List D, smDs ds = true → PyData.leavesShortAll 600 (toPs ds) = true ∧ PyData.showableAll (toPs ds) = true
  | [], _ => ⟨rfl, rfl⟩
  | d :: ds, h => by
    obtain ⟨h1, h2⟩ := Bool.and_eq_true_iff.mp (show (smD d && smDs ds) = true from h)
    obtain ⟨a1, a2⟩ := short_of d h1
    obtain ⟨b1, b2⟩ := shorts_of ds h2
    exact ⟨Bool.and_eq_true_iff.mpr ⟨a1, b1⟩, Bool.and_eq_true_iff.mpr ⟨a2, b2⟩⟩
end
def isSeqD : D → Bool
  | .lst _ => true
  | .tup _ => true
  | _ => false
def cRepr (d : D) (Q : D → Prop) : Prop := isSeqD d = true ∧ shD 60 d = true ∧ smD d = true ∧ bulkD d ≤ 27000 ∧ ∀ s, s = shw d → Q (.str s)
theorem call_reprG {X : Cx} {k : Nat} (hr : RoomG k X.A) : CallR X (.builtin "repr") (fun xs H Q => ∃ a d, xs = [.ref a] ∧ Dp X.K H (.ref a) d ∧ d.showable = true ∧ d.hasDict = false ∧ d.depth ≤ 60 ∧ d.shown.length ≤ sizeLine ∧ Q (.str d.shown) H) := by
  intro pins s σ H xs us Q I r h
  obtain ⟨a, d, rfl, hd, h1, h2, h3, h4, q⟩ := h
  rw [Vals.ref1 r]
  obtain ⟨as, rd⟩ := Dp.reads I d (.ref a) (.ref a) hd rfl
  have hu := hr.toRoom.un
  exact repr_of_reads' rd h1 (PyData.noDict_hsm h2) hr.g (by omega) (fun b o e => e) (fun h' u tk hk => ⟨.str _, H, I.kept hk, ⟨u, rfl⟩, q⟩) h4
theorem calp_repr : CalP K (fun xs H Q => ∃ a d, xs = [.ref a] ∧ Dp K H (.ref a) d ∧ d.showable = true ∧ d.hasDict = false ∧ d.depth ≤ 60 ∧ d.shown.length ≤ sizeLine ∧ Q (.str d.shown) H) cRepr := by
  intro G0 H0 env σ G H x d Q R I r q k
  obtain ⟨h0, h1, h2, h3, q⟩ := q
  obtain ⟨a1, a2⟩ := short_of d h2
  obtain ⟨b1, b2⟩ := shaped_toP 60 d h1
  have hsz : (toP d).shown.length ≤ sizeLine := by
    have := PyData.shown_le_bulk 600 (by decide) (toP d) a1
    rw [bulk_of] at this
    rw [sizeLine_eq]
    omega
  have fin : R (.str (toP d).shown) H := k _ H G (.str (shw d)) (Same.refl G) I (show V.str _ = V.str _ by congr 1) (q _ rfl)
  cases d with
  | lst ds =>
    obtain ⟨p, vs, rfl, _⟩ := r.lst I.sub
    exact ⟨p, _, rfl, own_dp I.sub r h1, a2, PyData.hasDict_of_canLay _ b1, b2, hsz, fin⟩
  | tup ds =>
    have r' := r.frozen (fun _ z => z)
    obtain ⟨p, vs, rfl, _⟩ := _root_.id r'
    exact ⟨p, _, rfl, dp_of I.sub 60 _ _ h1 r', a2, PyData.hasDict_of_canLay _ b1, b2, hsz, fin⟩
  | _ => cases h0
theorem q_repr {p : Pos} {k : Nat} (hr : ∀ i, RoomG k (F.X i).A) (hm : ∀ i, (F.X i).mg "repr" = none) (h : QP F e t) (hg : ∀ i, Gl (F.X i) "repr" := by exact fun _ => rfl) (hs : ∀ i, starEach (e :: []) (F.X i).env = (false, eval e (F.X i).env) :: starEach [] (F.X i).env := by intro _; rfl) : QE F (.Call (.Name "repr" p) [e] [] pos) (dCal cRepr t) :=
  q_callB (fun i => by have := call_reprG (X := F.X i) (hr i); rw [F.hK] at this; exact this) calp_repr hg hm (by decide +kernel) h (hs := hs)
end
end DL

set_option linter.all false
set_option maxRecDepth 100000
namespace DL
open PySem PySem.Spec PyProof.Rows L2
def nats (l : List Nat) : List D := l.map fun (n : Nat) => .int (n : Int)
theorem nats_len (l : List Nat) : (nats l).length = l.length := List.length_map _
theorem nats_at {l : List Nat} {i : Int} {k : Nat} (h : i = k) (hk : k < l.length) : atI (nats l) i = some (.int l[k]) := at_map h hk
theorem nats_sum (l : List Nat) : nats l = (l.map fun (n : Nat) => (n : Int)).map .int ∧ (l.map fun (n : Nat) => (n : Int)).sum = (l.sum : Nat) := by
  refine ⟨by unfold nats; rw [List.map_map]; rfl, ?_⟩
  induction l with
  | nil => rfl
  | cons x l ih => rw [List.map_cons, List.sum_cons, ih, List.sum_cons]; omega
theorem nats_app (l m : List Nat) : nats (l ++ m) = nats l ++ nats m := List.map_append
theorem nats_of (l : List Int) (h : ∀ x ∈ l, 0 ≤ x) : l.map D.int = nats (l.map Int.toNat) := by
  unfold nats
  rw [List.map_map]
  refine List.map_congr_left fun x hx => ?_
  have := h x hx
  simp [Int.toNat_of_nonneg this]
theorem flat_one {α : Type} (x : α) : ∀ n : Nat, (List.replicate n [x]).flatten = List.replicate n x
  | 0 => rfl
  | n + 1 => by rw [List.replicate_succ, List.flatten_cons, flat_one x n]; rfl
theorem ixN_ok {n : Nat} {i : Int} (h0 : 0 ≤ i) (h1 : i.toNat < n) : ixN n i = some i.toNat := by
  unfold ixN
  rw [if_pos h0, if_pos (by omega)]
theorem cut_map {α β : Type} (f : α → β) (l : List α) (lo hi : Option Int) : cutD (l.map f) lo hi = (cutD l lo hi).map f := by
  unfold DL.cutD
  rw [List.length_map, List.map_take, List.map_drop]
theorem cut_len {α : Type} (l : List α) (lo hi : Option Int) : (cutD l lo hi).length ≤ l.length := by
  unfold DL.cutD
  rw [List.length_take, List.length_drop]
  omega
theorem row_at {row sizes : List Int} (hb : ∀ (k : Nat) (x z : Int), row[k]? = some x → sizes[k]? = some z → 0 ≤ x ∧ x < z) (k : Nat) {z : Int} (hk : k < row.length) (hz : sizes[k]? = some z) :
    ∃ x, (∀ i : Int, i = k → atI (row.map D.int) i = some (.int x)) ∧ 0 ≤ x ∧ x < z :=
  ⟨row[k], fun i hi => at_map hi hk, hb k _ z (List.getElem?_eq_getElem hk) hz⟩
theorem flat_ints : ∀ l : List Int, (l.map D.int).all flatD = true
  | [] => rfl
  | _ :: l => by rw [List.map_cons, List.all_cons, flat_ints l]; rfl
theorem any_int (x : Int) : ∀ l : List Int, ((l.map D.int).any fun z => eqD z (.int x)) = decide (x ∈ l)
  | [] => rfl
  | y :: l => by
    rw [List.map_cons, List.any_cons, any_int x l]
    have : eqD (.int y) (.int x) = decide (y = x) := by show (y == x) = _; rw [Bool.beq_eq_decide_eq]
    rw [this]
    by_cases h : y = x
    · simp [h]
    · simp [h, Ne.symm h]
theorem rng_ints (n : Nat) : rngD 0 n = (((List.range n).map fun (k : Nat) => (0 : Int) + (k : Nat))).map D.int := by
  unfold rngD
  rw [List.map_map]
  rfl
theorem shD_ints : ∀ (l : List Int) (n : Nat), shDs n (l.map .int) = true
  | [], _ => rfl
  | x :: l, n => by
    simp only [List.map_cons, shDs, shD_ints l n, Bool.and_true]
    cases n <;> rfl
theorem eqD_ints : ∀ l : List Int, eqDs (l.map .int) (l.map .int) = true
  | [] => rfl
  | x :: l => by simp [List.map_cons, eqDs, eqD, eqD_ints l]
end DL

set_option linter.all false
namespace K21
open PySem PySem.Spec PyProof.Rows L2 DL
def g_shared_total_0_share_count {α : Type} : List α → List α → List α
  | [], [w0, w1] => [w1, w0]
  | _, _ => []
def g_floor_bits_0_count_standings {α : Type} : List α → List α → List α
  | [], [w0, w1] => [w1, w0]
  | _, _ => []
def g_excess_0_count_standings_size {α : Type} : List α → List α → List α
  | [], [w0, w1, w2] => [w2, w1, w0]
  | _, _ => []
def g_told_excess_0_standings_size_count {α : Type} : List α → List α → List α
  | [], [w0, w1, w2] => [w1, w0, w2]
  | _, _ => []
def r_level_total_1 : DS :=
  (dRet (dVar 3))
def t_level_total : DS :=
  (dSeq (dSet 3 (dC (.int 0)))
  (dSeq (dSet 4 (dVar 0))
  (dSeq (dSet 5 (dVar 1))
  (dSeq (dSet 6 (dVar 2))
  (dSeq (dWhile (dCmpT cGt (dVar 4) (dC (.int 0)))
  (dSeq (dSet 7 (dOp cMin (dVar 4) (dVar 5)))
  (dSeq (dSet 3 (dOp cAdd (dVar 3) (dOp cMul (dVar 7) (dVar 6))))
  (dSeq (dSet 4 (dOp cSub (dVar 4) (dVar 7)))
  (dSeq (dSet 5 (dOp cMul (dVar 5) (dC (.int 2))))
  (dSet 6 (dOp cAdd (dVar 6) (dC (.int 1)))))))))
  (r_level_total_1))))))
def t_shared_total (S_level_total : DSp) : DS :=
  (dRet (dCall S_level_total (dCons (dVar 0) (dCons (dVar 1) (dCons (dC (.int 0)) dNil)))))
def t_floor_bits (S_level_total : DSp) : DS :=
  (dSeq (dSet 2 (dOp cDiv (dOp cMul (dVar 0) (dOp cSub (dVar 0) (dC (.int 1)))) (dC (.int 2))))
  (dRet (dCall S_level_total (dCons (dOp cMax (dC (.int 0)) (dOp cSub (dVar 1) (dVar 2))) (dCons (dOp cMul (dOp cMul (dC (.int 2)) (dVar 0)) (dVar 0)) (dCons (dC (.int 1)) dNil))))))
def t_width : DS :=
  (dRet (dCal cBits (dOp cSub (dVar 0) (dC (.int 1)))))
def r_pressed_length_1 (S_width : DSp) : DS :=
  (dRet (dVar 3))
def t_pressed_length (S_width : DSp) : DS :=
  (dSeq (dSet 2 (dOp cAdd (dVar 1) (dC (.int 1))))
  (dSeq (dSet 3 (dCall S_width (dCons (dVar 2) dNil)))
  (dSeq (dIfS (dCmpT cEq (dVar 0) (dC (.int 1))) (dRet (dOp cAdd (dVar 3) (dVar 2))) dNext)
  (dSeq (dSet 4 (dC (.int 1)))
  (dSeq (dSet 5 (dC (.int 0)))
  (dSeq (dWhile (dCmpT cLt (dVar 5) (dVar 2))
  (dSeq (dSet 3 (dOp cSub (dOp cAdd (dVar 3) (dVar 2)) (dVar 5)))
  (dSeq (dSet 4 (dOp cMul (dVar 4) (dC (.int 2))))
  (dSet 5 (dOp cDiv (dOp cSub (dVar 4) (dC (.int 2))) (dOp cSub (dVar 0) (dC (.int 1))))))))
  (r_pressed_length_1 S_width)))))))
def t_excess (S_pressed_length : DSp) (S_floor_bits : DSp) : DS :=
  (dRet (dOp cSub (dCall S_pressed_length (dCons (dVar 0) (dCons (dVar 2) dNil))) (dCall S_floor_bits (dCons (dVar 1) (dCons (dVar 2) dNil)))))
def t_told_excess (S_width : DSp) : DS :=
  (dSeq (dSet 3 (dCall S_width (dCons (dVar 0) dNil)))
  (dSeq (dSet 4 (dCall S_width (dCons (dVar 1) dNil)))
  (dSeq (dSet 5 (dOp cSub (dCal cBits (dOp cAdd (dVar 2) (dC (.int 1)))) (dC (.int 1))))
  (dRet (dOp cAdd (dOp cAdd (dOp cAdd (dOp cMul (dVar 2) (dOp cAdd (dOp cAdd (dVar 3) (dC (.int 1))) (dOp cMul (dC (.int 2)) (dVar 4)))) (dVar 3)) (dC (.int 2))) (dOp cMul (dC (.int 2)) (dVar 5)))))))
def t__law_whole : DS :=
  (dRet (dAndV (dCal (cIsi .int) (dVar 0)) (dNotV (dCal (cIsi .bool) (dVar 0)))))
def r__law_cell_1 : DS :=
  (dRet (dOp cMod (dCal cInt (dOp cMul (dOp cMul (dOp cAdd (dVar 2) (dC (.int 7))) (dOp cAdd (dVar 1) (dC (.int 3)))) (dC (.int 69621)))) (dC (.int 2147483647))))
def t__law_cell : DS :=
  (dSeq (dIfS (dCmpT cLt (dVar 1) (dCal cLen (dVar 0))) (dRet (dOp cIx (dVar 0) (dVar 1))) dNext)
  (dSeq (dSet 2 (dC (.int 17)))
  (dSeq (dFor (dItS (dVar 0)) (gNm 3)
  (dSet 2 (dOp cMod (dCal cInt (dOp cAdd (dOp cMul (dVar 2) (dC (.int 31))) (dOp cMod (dCal cInt (dVar 3)) (dC (.int 1000003))))) (dC (.int 1000003)))))
  (r__law_cell_1))))
def r__law_width_1 : DS :=
  (dRet (dVar 1))
def t__law_width : DS :=
  (dSeq (dSet 1 (dC (.int 0)))
  (dSeq (dSet 2 (dC (.int 1)))
  (dSeq (dFor (dRng1 (dC (.int 400))) (gNm 3)
  (dSeq (dIfS (dCmpT cGe (dVar 2) (dVar 0)) dBreak dNext)
  (dSeq (dSet 2 (dOp cMul (dVar 2) (dC (.int 2))))
  (dSet 1 (dOp cAdd (dVar 1) (dC (.int 1)))))))
  (r__law_width_1))))
def t__law_log (S__law_width : DSp) : DS :=
  (dRet (dOp cSub (dCall S__law_width (dCons (dOp cAdd (dVar 0) (dC (.int 1))) dNil)) (dC (.int 1))))
def r__law_digits_1 : DS :=
  (dRet (dVar 2))
def r__law_digits_2 : DS :=
  (dRet (dVar 2))
def t__law_digits : DS :=
  (dSeq (dSetO 2 (dLst dNil))
  (dSeq (dSet 3 (dCal cInt (dVar 0)))
  (dSeq (dIfS (dCmpT cGe (dVar 3) (dOp cPow (dC (.int 10)) (dC (.int 18)))) (dSeq (dSet 3 (dOp cSub (dVar 3) (dOp cPow (dC (.int 10)) (dC (.int 18)))))
  (dSeq (dFor (dItS (dVar 1)) (gNm 6)
  (dSeq (dDrop (dApp 2 (dOp cMod (dCal cInt (dVar 3)) (dVar 6))))
  (dSet 3 (dOp cDiv (dCal cInt (dVar 3)) (dVar 6)))))
  (r__law_digits_1))) dNext)
  (dSeq (dSet 4 (dOp cMod (dCal cInt (dVar 3)) (dC (.int 2147483629))))
  (dSeq (dFor (dRng1 (dCal cLen (dVar 1))) (gNm 5)
  (dSeq (dSet 4 (dOp cMod (dCal cInt (dOp cAdd (dOp cAdd (dOp cMul (dVar 4) (dC (.int 48271))) (dOp cMul (dC (.int 974711)) (dVar 5))) (dC (.int 12345)))) (dC (.int 2147483647))))
  (dSeq (dSet 7 (dOp cMod (dCal cInt (dOp cMul (dVar 4) (dOp cAdd (dOp cDiv (dVar 4) (dC (.int 65537))) (dC (.int 3))))) (dC (.int 2147483629))))
  (dDrop (dApp 2 (dOp cMod (dOp cDiv (dVar 7) (dC (.int 19))) (dOp cIx (dVar 1) (dVar 5))))))))
  (r__law_digits_2))))))
def r__law_bit_words_1 : DS :=
  (dRet (dSlV 1 dNoP (dPart (dVar 0))))
def t__law_bit_words : DS :=
  (dSeq (dSetO 1 (dLst (dCons (dC (.str [])) dNil)))
  (dSeq (dFor (dRng1 (dVar 0)) (gNm 2)
  (dSeq (dIfS (dCmpT cGe (dCal cLen (dPk 1)) (dVar 0)) dBreak dNext)
  (dSeq (dDrop (dApp 1 (dOp cAdd (dIxV 1 (dVar 2)) (dC (.str [48])))))
  (dDrop (dApp 1 (dOp cAdd (dIxV 1 (dVar 2)) (dC (.str [49]))))))))
  (r__law_bit_words_1)))
def r__law_rooms_1 : DS :=
  (dRet (dVar 3))
def t__law_rooms : DS :=
  (dSeq (dSetO 3 (dLst (dCons (dVar 1) dNil)))
  (dSeq (dSet 4 (dVar 1))
  (dSeq (dIfS (dCmpT cEq (dVar 0) (dC (.int 1))) (dSeq (dSetO 3 (dLst (dCons (dOp cDiv (dOp cMul (dVar 1) (dOp cSub (dVar 1) (dC (.int 1)))) (dC (.int 2))) dNil)))
  (dSet 4 (dOp cMul (dVar 1) (dVar 1)))) dNext)
  (dSeq (dFor (dRng2 (dC (.int 1)) (dVar 2)) (gNm 5)
  (dSeq (dSet 4 (dOp cMul (dVar 4) (dC (.int 2))))
  (dDrop (dApp 3 (dVar 4)))))
  (r__law_rooms_1)))))
def r__law_filled_1 : DS :=
  (dRet (dVar 2))
def t__law_filled : DS :=
  (dSeq (dSet 2 (dC (.int 0)))
  (dSeq (dSet 3 (dVar 1))
  (dSeq (dFor (dRng1 (dCal cLen (dVar 0))) (gNm 4)
  (dSeq (dSet 5 (dOp cMin (dVar 3) (dOp cIx (dVar 0) (dVar 4))))
  (dSeq (dSet 2 (dOp cAdd (dVar 2) (dOp cMul (dVar 4) (dVar 5))))
  (dSet 3 (dOp cSub (dVar 3) (dVar 5))))))
  (r__law_filled_1))))
def r__law_uses_1 : DS :=
  (dRet (dVar 3))
def r__law_uses_2 : DS :=
  (dRet (dVar 3))
def t__law_uses : DS :=
  (dSeq (dIfS (dCmpT cEq (dOp cIx (dVar 1) (dC (.int 0))) (dC (.int 0))) (dSeq (dSetO 3 (dLst dNil))
  (dSeq (dFor (dRng1 (dCal cLen (dVar 0))) (gNm 5)
  (dSeq (dSet 9 (dOp cMod (dCal cInt (dOp cIx (dVar 1) (dOp cAdd (dC (.int 31)) (dOp cMod (dVar 5) (dC (.int 20)))))) (dOp cAdd (dOp cIx (dVar 0) (dVar 5)) (dC (.int 1)))))
  (dSeq (dSet 10 (dLst (dCons (dC (.int 0)) (dCons (dOp cIx (dVar 0) (dVar 5)) (dCons (dOp cMax (dC (.int 0)) (dOp cSub (dOp cIx (dVar 0) (dVar 5)) (dC (.int 1)))) (dCons (dOp cMin (dC (.int 1)) (dOp cIx (dVar 0) (dVar 5))) (dCons (dVar 9) (dCons (dOp cSub (dOp cIx (dVar 0) (dVar 5)) (dVar 9)) dNil))))))))
  (dDrop (dApp 3 (dOp cIx (dVar 10) (dOp cIx (dVar 1) (dOp cAdd (dC (.int 11)) (dOp cMod (dVar 5) (dC (.int 20)))))))))))
  (r__law_uses_1))) dNext)
  (dSeq (dSet 2 (dOp cMod (dCal cInt (dOp cIx (dVar 1) (dC (.int 1)))) (dCal cLen (dVar 0))))
  (dSeq (dSetO 3 (dLc (dRng1 (dCal cLen (dVar 0))) (gNm 5) dTru (dOp cMul (dOp cIx (dVar 0) (dVar 5)) (dCal cInt (dCmp cLt (dVar 5) (dVar 2)))) [5]))
  (dSeq (dSetI 3 (dOp cMod (dCal cInt (dOp cIx (dVar 1) (dC (.int 2)))) (dOp cAdd (dOp cIx (dVar 0) (dVar 2)) (dC (.int 1)))) (dVar 2))
  (dSeq (dFor (dRng1 (dC (.int 2))) (gNm 4)
  (dSeq (dSet 6 (dSlice (dVar 1) (dPart (dOp cAdd (dC (.int 3)) (dOp cMul (dC (.int 4)) (dVar 4)))) (dPart (dOp cAdd (dC (.int 7)) (dOp cMul (dC (.int 4)) (dVar 4))))))
  (dSeq (dSet 7 (dOp cMod (dCal cInt (dOp cIx (dVar 6) (dC (.int 0)))) (dCal cLen (dVar 0))))
  (dSeq (dSet 8 (dOp cMod (dCal cInt (dOp cIx (dVar 6) (dC (.int 1)))) (dCal cLen (dVar 0))))
  (dIfS (dAnd (dCmpT cNe (dVar 7) (dVar 8)) (dCmpT cGt (dOp cIx (dVar 6) (dC (.int 3))) (dC (.int 0)))) (dSeq (dSet 11 (dCalA cMin3 (dCons (dIxV 3 (dVar 7)) (dCons (dOp cSub (dOp cIx (dVar 0) (dVar 8)) (dIxV 3 (dVar 8))) (dCons (dOp cAdd (dC (.int 1)) (dOp cIx (dVar 6) (dC (.int 2)))) dNil)))))
  (dSeq (dSetI 3 (dOp cSub (dIxV 3 (dVar 7)) (dVar 11)) (dVar 7))
  (dSetI 3 (dOp cAdd (dIxV 3 (dVar 8)) (dVar 11)) (dVar 8)))) dNext)))))
  (r__law_uses_2))))))
def r__law_tight_1 : DS :=
  (dRet (dC (.bl true)))
def t__law_tight : DS :=
  (dSeq (dSet 2 (dC (.bl false)))
  (dSeq (dFor (dRng1 (dCal cLen (dVar 0))) (gNm 3)
  (dSeq (dIfS (dAnd (dTst (dVar 2)) (dCmpT cGt (dOp cIx (dVar 1) (dVar 3)) (dC (.int 0)))) (dRet (dC (.bl false))) dNext)
  (dIfS (dCmpT cLt (dOp cIx (dVar 1) (dVar 3)) (dOp cIx (dVar 0) (dVar 3))) (dSet 2 (dC (.bl true))) dNext)))
  (r__law_tight_1)))
def t__law_told (S_shared_total : DSp) (S_floor_bits : DSp) (S__law_whole : DSp) : DS :=
  (dSeq (dIfS (dCmpT cEq (dVar 0) (dC (.int 0))) (dSeq (dSet 3 (dCall S_shared_total (dCons (dVar 2) (dCons (dVar 1) dNil))))
  (dSet 4 (dCallK 0 2 g_shared_total_0_share_count S_shared_total dNil (dCons (dVar 1) (dCons (dVar 2) dNil))))) (dSeq (dSet 3 (dCall S_floor_bits (dCons (dVar 1) (dCons (dVar 2) dNil))))
  (dSet 4 (dCallK 0 2 g_floor_bits_0_count_standings S_floor_bits dNil (dCons (dVar 2) (dCons (dVar 1) dNil))))))
  (dSeq (dIfS (dOr (dNot (dTst (dCall S__law_whole (dCons (dVar 3) dNil)))) (dOr (dNot (dTst (dCall S__law_whole (dCons (dVar 4) dNil)))) (dCmpT cNe (dVar 3) (dVar 4)))) (dRet (dUn cNeg (dC (.int 1)))) dNext)
  (dRet (dVar 3))))
def t__law_is_due (S__law_told : DSp) (S__law_filled : DSp) (S__law_rooms : DSp) : DS :=
  (dRet (dCmp cEq (dCall S__law_told (dCons (dVar 0) (dCons (dVar 1) (dCons (dVar 2) dNil)))) (dCall S__law_filled (dCons (dCall S__law_rooms (dCons (dVar 0) (dCons (dVar 1) (dCons (dC (.int 180)) dNil)))) (dCons (dVar 2) dNil)))))
def t__law_choice_holds (S__law_told : DSp) : DS :=
  (dSeq (dSet 5 (dCall S__law_told (dCons (dVar 0) (dCons (dVar 1) (dCons (dCal cSum (dVar 3)) dNil)))))
  (dSeq (dSet 6 (dCal cSum (dLc (dRng1 (dCal cLen (dVar 3))) (gNm 7) dTru (dOp cMul (dOp cIx (dVar 2) (dVar 7)) (dOp cIx (dVar 3) (dVar 7))) [7])))
  (dRet (dAndV (dChainV cLe cLe (dC (.int 0)) (dVar 5) (dVar 6)) (dCmp cEq (dCmp cEq (dVar 5) (dVar 6)) (dVar 4))))))
def r__law_small_choice_1 (S__law_bit_words : DSp) (S__law_uses : DSp) (S__law_told : DSp) (S__law_choice_holds : DSp) : DS :=
  (dSeq (dIfS (dCmpT cNe (dCall S__law_told (dCons (dVar 0) (dCons (dVar 1) (dCons (dCal cSum (dVar 5)) dNil)))) (dCal cSum (dSlice (dVar 6) dNoP (dPart (dCal cSum (dVar 5)))))) (dRet (dC (.bl false))) dNext)
  (dSeq (dSet 8 (dCal cMinL (dOp cAdd (dLc (dRng1 (dC (.int 31))) (gNm 7) (dCmpT cLt (dOp cIx (dVar 5) (dVar 7)) (dOp cIx (dVar 4) (dVar 7))) (dOp cIx (dVar 3) (dVar 7)) [7]) (dLst (dCons (dC (.int 5)) dNil)))))
  (dSeq (dSet 9 (dCal cMaxL (dOp cAdd (dLc (dRng1 (dC (.int 31))) (gNm 7) (dCmpT cGt (dOp cIx (dVar 5) (dVar 7)) (dC (.int 0))) (dOp cIx (dVar 3) (dVar 7)) [7]) (dLst (dCons (dC (.int 0)) dNil)))))
  (dRet (dCall S__law_choice_holds (dCons (dVar 0) (dCons (dVar 1) (dCons (dVar 3) (dCons (dVar 5) (dCons (dCmp cLe (dVar 9) (dVar 8)) dNil))))))))))
def t__law_small_choice (S__law_bit_words : DSp) (S__law_uses : DSp) (S__law_told : DSp) (S__law_choice_holds : DSp) : DS :=
  (dSeq (dSet 3 (dLc (dItS (dCall S__law_bit_words (dCons (dC (.int 31)) dNil))) (gNm 10) dTru (dCal cLen (dVar 10)) [10]))
  (dSeq (dSet 4 (dOp cMul (dLst (dCons (dVar 1) dNil)) (dC (.int 31))))
  (dSeq (dIfS (dCmpT cEq (dVar 0) (dC (.int 1))) (dSet 4 (dOp cAdd (dLst (dCons (dOp cDiv (dOp cMul (dVar 1) (dOp cSub (dVar 1) (dC (.int 1)))) (dC (.int 2))) dNil)) (dOp cMul (dLst (dCons (dOp cMul (dVar 1) (dVar 1)) dNil)) (dC (.int 30))))) dNext)
  (dSeq (dSet 5 (dCall S__law_uses (dCons (dVar 4) (dCons (dVar 2) dNil))))
  (dSeq (dSet 6 (dLst dNil))
  (dSeq (dFor (dRng1 (dC (.int 31))) (gNm 7)
  (dSet 6 (dOp cAdd (dVar 6) (dOp cMul (dLst (dCons (dOp cIx (dVar 3) (dVar 7)) dNil)) (dOp cIx (dVar 4) (dVar 7))))))
  (r__law_small_choice_1 S__law_bit_words S__law_uses S__law_told S__law_choice_holds)))))))
def r__law_asked_1 (S__law_rooms : DSp) : DS :=
  (dRet (dOp cMod (dCal cInt (dVar 3)) (dOp cAdd (dOp cIx (dLst (dCons (dOp cPow (dC (.int 10)) (dC (.int 50))) (dCons (dOp cPow (dC (.int 10)) (dC (.int 30))) dNil))) (dVar 0)) (dC (.int 1)))))
def t__law_asked (S__law_rooms : DSp) : DS :=
  (dSeq (dIfS (dCmpT cLt (dOp cIx (dVar 2) (dC (.int 0))) (dC (.int 2))) (dRet (dOp cMod (dCal cInt (dOp cIx (dVar 2) (dC (.int 4)))) (dC (.int 300)))) dNext)
  (dSeq (dIfS (dCmpT cLt (dOp cIx (dVar 2) (dC (.int 0))) (dC (.int 5))) (dRet (dOp cMax (dC (.int 0)) (dOp cSub (dOp cAdd (dCal cSum (dCall S__law_rooms (dCons (dVar 0) (dCons (dVar 1) (dCons (dOp cAdd (dC (.int 1)) (dOp cMod (dCal cInt (dOp cIx (dVar 2) (dC (.int 1)))) (dOp cIx (dLst (dCons (dC (.int 139)) (dCons (dC (.int 76)) dNil))) (dVar 0)))) dNil))))) (dOp cIx (dVar 2) (dC (.int 2)))) (dC (.int 2))))) dNext)
  (dSeq (dSet 3 (dC (.int 0)))
  (dSeq (dFor (dRng1 (dOp cAdd (dC (.int 1)) (dOp cIx (dVar 2) (dC (.int 3))))) (gNm 4)
  (dSet 3 (dOp cAdd (dOp cMul (dVar 3) (dC (.int 100000000))) (dOp cIx (dVar 2) (dOp cAdd (dC (.int 4)) (dVar 4))))))
  (r__law_asked_1 S__law_rooms)))))
def r__law_totals_hold_1 (S__law_asked : DSp) (S__law_told : DSp) (S__law_is_due : DSp) (S__law_small_choice : DSp) (S__law_rooms : DSp) (S__law_uses : DSp) (S__law_choice_holds : DSp) (S__law_tight : DSp) : DS :=
  (dSeq (dIfS (dAnd (dCmpT cLt (dVar 1) (dOp cIx (dLst (dCons (dOp cPow (dC (.int 10)) (dC (.int 8))) (dCons (dC (.int 3600)) dNil))) (dVar 0))) (dNot (dTst (dCall S__law_is_due (dCons (dVar 0) (dCons (dOp cAdd (dVar 1) (dC (.int 1))) (dCons (dVar 5) dNil))))))) (dRet (dC (.bl false))) dNext)
  (dSeq (dIfS (dNot (dTst (dCall S__law_small_choice (dCons (dVar 0) (dCons (dOp cAdd (dC (.int 1)) (dOp cMod (dCal cInt (dOp cIx (dVar 3) (dC (.int 0)))) (dOp cIx (dLst (dCons (dC (.int 9)) (dCons (dC (.int 5)) dNil))) (dVar 0)))) (dCons (dSlice (dVar 3) (dPart (dC (.int 1))) dNoP) dNil)))))) (dRet (dC (.bl false))) dNext)
  (dSeq (dSet 8 (dCall S__law_rooms (dCons (dVar 0) (dCons (dVar 1) (dCons (dOp cAdd (dC (.int 1)) (dOp cMod (dCal cInt (dOp cIx (dVar 4) (dC (.int 0)))) (dOp cIx (dLst (dCons (dC (.int 131)) (dCons (dC (.int 76)) dNil))) (dVar 0)))) dNil)))))
  (dSeq (dSet 9 (dCall S__law_uses (dCons (dVar 8) (dCons (dSlice (dVar 4) (dPart (dC (.int 1))) dNoP) dNil))))
  (dSeq (dIfS (dNot (dTst (dCall S__law_choice_holds (dCons (dVar 0) (dCons (dVar 1) (dCons (dLRg1 (dCal cLen (dVar 8))) (dCons (dVar 9) (dCons (dCall S__law_tight (dCons (dVar 8) (dCons (dVar 9) dNil))) dNil)))))))) (dRet (dC (.bl false))) dNext)
  (dRet (dCmp cEq (dCall S__law_told (dCons (dVar 0) (dCons (dVar 1) (dCons (dVar 5) dNil)))) (dVar 6))))))))
def t__law_totals_hold (S__law_asked : DSp) (S__law_told : DSp) (S__law_is_due : DSp) (S__law_small_choice : DSp) (S__law_rooms : DSp) (S__law_uses : DSp) (S__law_choice_holds : DSp) (S__law_tight : DSp) : DS :=
  (dSeq (dSet 5 (dCall S__law_asked (dCons (dVar 0) (dCons (dVar 1) (dCons (dVar 2) dNil)))))
  (dSeq (dSet 6 (dCall S__law_told (dCons (dVar 0) (dCons (dVar 1) (dCons (dVar 5) dNil)))))
  (dSeq (dFor (dItS (dLst (dCons (dOp cSub (dVar 5) (dC (.int 1))) (dCons (dVar 5) (dCons (dOp cAdd (dVar 5) (dC (.int 1))) dNil))))) (gNm 7)
  (dIfS (dAnd (dChain cLe cLe (dC (.int 0)) (dVar 7) (dOp cIx (dLst (dCons (dOp cPow (dC (.int 10)) (dC (.int 50))) (dCons (dOp cPow (dC (.int 10)) (dC (.int 30))) dNil))) (dVar 0))) (dNot (dTst (dCall S__law_is_due (dCons (dVar 0) (dCons (dVar 1) (dCons (dVar 7) dNil))))))) (dRet (dC (.bl false))) dNext))
  (r__law_totals_hold_1 S__law_asked S__law_told S__law_is_due S__law_small_choice S__law_rooms S__law_uses S__law_choice_holds S__law_tight))))
def t__law_bound (S__law_width : DSp) (S__law_log : DSp) : DS :=
  (dSeq (dSet 3 (dCall S__law_width (dCons (dVar 0) dNil)))
  (dSeq (dSet 4 (dCall S__law_width (dCons (dVar 1) dNil)))
  (dRet (dOp cAdd (dOp cAdd (dOp cAdd (dOp cMul (dVar 2) (dOp cAdd (dOp cAdd (dVar 3) (dC (.int 1))) (dOp cMul (dC (.int 2)) (dVar 4)))) (dVar 3)) (dC (.int 2))) (dOp cMul (dC (.int 2)) (dCall S__law_log (dCons (dOp cAdd (dVar 2) (dC (.int 1))) dNil)))))))
def r__law_long_block_1 (S__law_width : DSp) : DS :=
  (dRet (dVar 2))
def t__law_long_block (S__law_width : DSp) : DS :=
  (dSeq (dSet 2 (dCall S__law_width (dCons (dOp cAdd (dVar 1) (dC (.int 1))) dNil)))
  (dSeq (dSet 3 (dC (.int 1)))
  (dSeq (dFor (dRng1 (dC (.int 400))) (gNm 4)
  (dSeq (dSet 5 (dC (.int 0)))
  (dSeq (dIfS (dCmpT cGt (dVar 0) (dC (.int 1))) (dSet 5 (dOp cDiv (dOp cMax (dC (.int 0)) (dOp cSub (dVar 3) (dC (.int 2)))) (dOp cSub (dVar 0) (dC (.int 1))))) (dIfS (dCmpT cGt (dVar 3) (dC (.int 1))) (dSet 5 (dOp cAdd (dVar 1) (dC (.int 1)))) dNext))
  (dSeq (dIfS (dCmpT cGt (dVar 5) (dVar 1)) dBreak dNext)
  (dSeq (dSet 2 (dOp cSub (dOp cAdd (dOp cAdd (dVar 2) (dVar 1)) (dC (.int 1))) (dVar 5)))
  (dSet 3 (dOp cMul (dVar 3) (dC (.int 2)))))))))
  (r__law_long_block_1 S__law_width))))
def t__law_excess_holds (S_excess : DSp) (S_told_excess : DSp) (S__law_whole : DSp) (S__law_long_block : DSp) (S__law_filled : DSp) (S__law_rooms : DSp) (S__law_bound : DSp) : DS :=
  (dSeq (dSet 3 (dCall S_excess (dCons (dVar 0) (dCons (dVar 1) (dCons (dVar 2) dNil)))))
  (dSeq (dSet 4 (dCall S_told_excess (dCons (dVar 0) (dCons (dVar 1) (dCons (dVar 2) dNil)))))
  (dSeq (dIfS (dOr (dNot (dTst (dCall S__law_whole (dCons (dVar 3) dNil)))) (dCmpT cNe (dVar 3) (dOp cSub (dCall S__law_long_block (dCons (dVar 0) (dCons (dVar 2) dNil))) (dCall S__law_filled (dCons (dCall S__law_rooms (dCons (dC (.int 1)) (dCons (dVar 1) (dCons (dC (.int 180)) dNil)))) (dCons (dVar 2) dNil)))))) (dRet (dC (.bl false))) dNext)
  (dSeq (dIfS (dCmpT cNe (dCallK 0 3 g_excess_0_count_standings_size S_excess dNil (dCons (dVar 2) (dCons (dVar 1) (dCons (dVar 0) dNil)))) (dVar 3)) (dRet (dC (.bl false))) dNext)
  (dSeq (dIfS (dCmpT cNe (dCallK 0 3 g_told_excess_0_standings_size_count S_told_excess dNil (dCons (dVar 1) (dCons (dVar 0) (dCons (dVar 2) dNil)))) (dVar 4)) (dRet (dC (.bl false))) dNext)
  (dRet (dAndV (dCall S__law_whole (dCons (dVar 4) dNil)) (dAndV (dCmp cEq (dVar 4) (dCall S__law_bound (dCons (dVar 0) (dCons (dVar 1) (dCons (dVar 2) dNil))))) (dCmp cLe (dVar 3) (dVar 4))))))))))
def r__law_big_1 : DS :=
  (dRet (dOp cMod (dCal cInt (dVar 2)) (dOp cAdd (dOp cPow (dC (.int 10)) (dC (.int 30))) (dC (.int 1)))))
def t__law_big : DS :=
  (dSeq (dSet 2 (dC (.int 0)))
  (dSeq (dFor (dItS (dSlice (dVar 0) dNoP (dPart (dVar 1)))) (gNm 3)
  (dSet 2 (dOp cAdd (dOp cMul (dVar 2) (dC (.int 100000000))) (dVar 3))))
  (r__law_big_1)))
def r__law_pieces_1 (S__law_big : DSp) : DS :=
  (dRet (dOp cMax (dC (.int 0)) (dOp cSub (dOp cAdd (dVar 1) (dOp cIx (dVar 0) (dC (.int 2)))) (dC (.int 2)))))
def t__law_pieces (S__law_big : DSp) : DS :=
  (dSeq (dIfS (dCmpT cLt (dOp cIx (dVar 0) (dC (.int 0))) (dC (.int 3))) (dRet (dOp cMod (dCal cInt (dOp cIx (dVar 0) (dC (.int 4)))) (dC (.int 201)))) dNext)
  (dSeq (dIfS (dCmpT cLt (dOp cIx (dVar 0) (dC (.int 0))) (dC (.int 5))) (dSeq (dSet 1 (dC (.int 1)))
  (dSeq (dFor (dRng1 (dOp cIx (dVar 0) (dC (.int 1)))) (gNm 2)
  (dSet 1 (dOp cMul (dVar 1) (dC (.int 2)))))
  (r__law_pieces_1 S__law_big))) dNext)
  (dRet (dCall S__law_big (dCons (dSlice (dVar 0) (dPart (dC (.int 4))) (dPart (dC (.int 8)))) (dCons (dOp cAdd (dC (.int 1)) (dOp cIx (dVar 0) (dC (.int 3)))) dNil))))))
def t__law_growth_holds (S__law_pieces : DSp) (S__law_big : DSp) (S_told_excess : DSp) (S_excess : DSp) (S__law_excess_holds : DSp) : DS :=
  (dSeq (dSet 3 (dCall S__law_pieces (dCons (dSlice (dVar 2) (dPart (dC (.int 1))) (dPart (dC (.int 9)))) dNil)))
  (dSeq (dSet 4 (dOp cAdd (dVar 3) (dC (.int 1))))
  (dSeq (dIfS (dCmpT cEq (dOp cIx (dVar 2) (dC (.int 0))) (dC (.int 1))) (dSet 4 (dOp cMin (dOp cPow (dC (.int 10)) (dC (.int 30))) (dOp cAdd (dOp cAdd (dVar 3) (dC (.int 1))) (dCall S__law_big (dCons (dSlice (dVar 2) (dPart (dC (.int 9))) (dPart (dC (.int 13)))) (dCons (dOp cAdd (dC (.int 1)) (dOp cIx (dVar 2) (dC (.int 4)))) dNil)))))) dNext)
  (dSeq (dSet 5 (dCal cRepr (dLst (dCons (dCall S_excess (dCons (dVar 0) (dCons (dVar 1) (dCons (dVar 3) dNil)))) (dCons (dCall S_told_excess (dCons (dVar 0) (dCons (dVar 1) (dCons (dVar 3) dNil)))) dNil)))))
  (dSeq (dIfS (dNot (dTst (dCall S__law_excess_holds (dCons (dVar 0) (dCons (dVar 1) (dCons (dVar 3) dNil)))))) (dRet (dC (.bl false))) dNext)
  (dSeq (dIfS (dChain cLt cLe (dVar 3) (dVar 4) (dOp cPow (dC (.int 10)) (dC (.int 30)))) (dSeq (dIfS (dNot (dTst (dCall S__law_excess_holds (dCons (dVar 0) (dCons (dVar 1) (dCons (dVar 4) dNil)))))) (dRet (dC (.bl false))) dNext)
  (dIfS (dAnd (dCmpT cGt (dVar 0) (dC (.int 1))) (dCmpT cLe (dCall S_excess (dCons (dVar 0) (dCons (dVar 1) (dCons (dVar 4) dNil)))) (dCall S_excess (dCons (dVar 0) (dCons (dVar 1) (dCons (dVar 3) dNil)))))) (dRet (dC (.bl false))) dNext)) dNext)
  (dRet (dCmp cEq (dCal cRepr (dLst (dCons (dCall S_excess (dCons (dVar 0) (dCons (dVar 1) (dCons (dVar 3) dNil)))) (dCons (dCall S_told_excess (dCons (dVar 0) (dCons (dVar 1) (dCons (dVar 3) dNil)))) dNil)))) (dVar 5)))))))))
def t_law (S__law_digits : DSp) (S__law_cell : DSp) (S__law_totals_hold : DSp) (S__law_growth_holds : DSp) : DS :=
  (dSeq (dSet 1 (dOp cAdd (dLst (dCons (dC (.int 8)) (dCons (dC (.int 140)) (dCons (dC (.int 5)) (dCons (dC (.int 7)) dNil))))) (dOp cMul (dLst (dCons (dC (.int 100000000)) dNil)) (dC (.int 7)))))
  (dSeq (dSet 2 (dOp cAdd (dOp cAdd (dOp cAdd (dOp cAdd (dLst (dCons (dC (.int 140)) dNil)) (dLst (dCons (dC (.int 2)) (dCons (dC (.int 140)) (dCons (dC (.int 1000000000)) dNil))))) (dOp cMul (dLst (dCons (dC (.int 140)) (dCons (dC (.int 140)) (dCons (dC (.int 1000000000)) (dCons (dC (.int 3)) dNil))))) (dC (.int 2)))) (dOp cMul (dLst (dCons (dC (.int 6)) dNil)) (dC (.int 20)))) (dOp cMul (dLst (dCons (dC (.int 1000000000)) dNil)) (dC (.int 20)))))
  (dSeq (dSet 3 (dCall S__law_digits (dCons (dCall S__law_cell (dCons (dVar 0) (dCons (dC (.int 0)) dNil))) (dCons (dOp cAdd (dLst (dCons (dC (.int 8)) (dCons (dC (.int 100000000)) dNil))) (dVar 1)) dNil))))
  (dSeq (dSet 4 (dOp cAdd (dC (.int 1)) (dOp cIx (dVar 3) (dC (.int 1)))))
  (dSeq (dIfS (dCmpT cLt (dOp cIx (dVar 3) (dC (.int 0))) (dC (.int 4))) (dSet 4 (dOp cAdd (dC (.int 1)) (dOp cMod (dCal cInt (dOp cIx (dVar 3) (dC (.int 1)))) (dC (.int 12))))) dNext)
  (dSeq (dSet 5 (dCall S__law_digits (dCons (dCall S__law_cell (dCons (dVar 0) (dCons (dC (.int 1)) dNil))) (dCons (dVar 2) dNil))))
  (dSeq (dIfS (dNot (dTst (dCall S__law_totals_hold (dCons (dC (.int 0)) (dCons (dVar 4) (dCons (dSlice (dVar 3) (dPart (dC (.int 2))) dNoP) (dCons (dVar 5) (dCons (dCall S__law_digits (dCons (dCall S__law_cell (dCons (dVar 0) (dCons (dC (.int 2)) dNil))) (dCons (dVar 2) dNil))) dNil)))))))) (dRet (dC (.bl false))) dNext)
  (dSeq (dSet 3 (dCall S__law_digits (dCons (dCall S__law_cell (dCons (dVar 0) (dCons (dC (.int 3)) dNil))) (dCons (dOp cAdd (dLst (dCons (dC (.int 6)) (dCons (dC (.int 3600)) dNil))) (dVar 1)) dNil))))
  (dSeq (dSet 6 (dOp cAdd (dC (.int 1)) (dOp cIx (dVar 3) (dC (.int 1)))))
  (dSeq (dIfS (dCmpT cLt (dOp cIx (dVar 3) (dC (.int 0))) (dC (.int 4))) (dSet 6 (dOp cAdd (dC (.int 1)) (dOp cMod (dCal cInt (dOp cIx (dVar 3) (dC (.int 1)))) (dOp cIx (dLst (dCons (dC (.int 1)) (dCons (dC (.int 7)) (dCons (dC (.int 7)) (dCons (dC (.int 7)) dNil))))) (dOp cIx (dVar 3) (dC (.int 0))))))) dNext)
  (dSeq (dSet 5 (dCall S__law_digits (dCons (dCall S__law_cell (dCons (dVar 0) (dCons (dC (.int 4)) dNil))) (dCons (dVar 2) dNil))))
  (dSeq (dIfS (dNot (dTst (dCall S__law_totals_hold (dCons (dC (.int 1)) (dCons (dVar 6) (dCons (dSlice (dVar 3) (dPart (dC (.int 2))) dNoP) (dCons (dVar 5) (dCons (dCall S__law_digits (dCons (dCall S__law_cell (dCons (dVar 0) (dCons (dC (.int 5)) dNil))) (dCons (dVar 2) dNil))) dNil)))))))) (dRet (dC (.bl false))) dNext)
  (dSeq (dSet 3 (dCall S__law_digits (dCons (dCall S__law_cell (dCons (dVar 0) (dCons (dC (.int 6)) dNil))) (dCons (dOp cAdd (dLst (dCons (dC (.int 6)) (dCons (dC (.int 2)) (dCons (dC (.int 8)) (dCons (dC (.int 100)) (dCons (dC (.int 4)) (dCons (dC (.int 4)) dNil))))))) (dOp cMul (dLst (dCons (dC (.int 100000000)) dNil)) (dC (.int 8)))) dNil))))
  (dRet (dCall S__law_growth_holds (dCons (dOp cAdd (dC (.int 1)) (dOp cIx (dVar 3) (dC (.int 0)))) (dCons (dVar 6) (dCons (dSlice (dVar 3) (dPart (dC (.int 1))) dNoP) dNil))))))))))))))))))
end K21

set_option linter.all false
namespace K02
open DL
def bitsN : Nat → Nat → List Nat
  | 0, _ => []
  | w + 1, n => (48 + n / 2 ^ w % 2) :: bitsN w n
def le (n : Nat) : Nat → List (List Nat)
  | 0 => []
  | k + 1 => le n k ++ [[48 + n / 2 ^ k % 2]]
theorem le_len (n : Nat) : ∀ k, (le n k).length = k
  | 0 => rfl
  | k + 1 => by simp [le, le_len n k]
theorem le_sum (n : Nat) : ∀ k, ((le n k).map List.length).sum = k
  | 0 => rfl
  | k + 1 => by simp [le, le_sum n k]
theorem le_rev (n : Nat) : ∀ k, (le n k).reverse.flatten = bitsN k n
  | 0 => rfl
  | k + 1 => by simp [le, bitsN, le_rev n k]
theorem bitsN_len (n : Nat) : ∀ w, (bitsN w n).length = w
  | 0 => rfl
  | w + 1 => by simp [bitsN, bitsN_len n w]
theorem bitsN_get (n : Nat) : ∀ {w k : Nat} {c : Nat}, (bitsN w n)[k]? = some c → k < w ∧ c = 48 + n / 2 ^ (w - (k + 1)) % 2
  | 0, k, c, h => by simp [bitsN] at h
  | w + 1, 0, c, h => by
    simp [bitsN] at h
    exact ⟨by omega, by rw [← h, show w + 1 - (0 + 1) = w by omega]⟩
  | w + 1, k + 1, c, h => by
    obtain ⟨h1, h2⟩ := bitsN_get n (show (bitsN w n)[k]? = some c by simpa [bitsN] using h)
    exact ⟨by omega, by rw [h2, show w + 1 - (k + 1 + 1) = w - (k + 1) by omega]⟩
theorem half (n j : Nat) : n / 2 ^ (j + 1) * 2 + n / 2 ^ j % 2 = n / 2 ^ j := by
  have : n / 2 ^ (j + 1) = n / 2 ^ j / 2 := by rw [Nat.pow_succ, Nat.div_div_eq_div_mul]
  omega
theorem bits_lt : ∀ (w a b : Nat), a % 2 ^ w < b % 2 ^ w → bitsN w a < bitsN w b
  | 0, a, b, h => by simp [Nat.mod_one] at h
  | w + 1, a, b, h => by
    have ea : a % 2 ^ (w + 1) = a % 2 ^ w + 2 ^ w * (a / 2 ^ w % 2) := by rw [Nat.pow_succ, Nat.mod_mul]
    have eb : b % 2 ^ (w + 1) = b % 2 ^ w + 2 ^ w * (b / 2 ^ w % 2) := by rw [Nat.pow_succ, Nat.mod_mul]
    have pa : a % 2 ^ w < 2 ^ w := Nat.mod_lt _ (Nat.two_pow_pos w)
    have pb : b % 2 ^ w < 2 ^ w := Nat.mod_lt _ (Nat.two_pow_pos w)
    show ((48 + a / 2 ^ w % 2) :: bitsN w a) < ((48 + b / 2 ^ w % 2) :: bitsN w b)
    rw [List.cons_lt_cons_iff]
    have ta : a / 2 ^ w % 2 < 2 := Nat.mod_lt _ (by decide)
    have tb : b / 2 ^ w % 2 < 2 := Nat.mod_lt _ (by decide)
    generalize a / 2 ^ w % 2 = x at *
    generalize b / 2 ^ w % 2 = y at *
    by_cases hx : x < y
    · exact .inl (by omega)
    · by_cases he : x = y
      · subst he
        exact .inr ⟨rfl, bits_lt w a b (by omega)⟩
      · have h1 : x = 1 := by omega
        have h2 : y = 0 := by omega
        subst h1 h2
        omega
def fl : Nat → Nat → List Nat → Nat
  | _, _, [] => 0
  | k, left, c :: cs => min c (left / k) + fl (k + 1) (left - min c (left / k) * k) cs
/-- the least letters of m words -/
def wt : Nat → Nat → List Nat → Nat
  | _, _, [] => 0
  | k, m, c :: cs => min m c * k + wt (k + 1) (m - min m c) cs
theorem wt_zero : ∀ (k : Nat) (cs : List Nat), wt k 0 cs = 0
  | _, [] => rfl
  | k, c :: cs => by simp [wt, wt_zero (k + 1) cs]
theorem fl_small : ∀ (k left : Nat) (cs : List Nat), left < k → fl k left cs = 0
  | _, _, [], _ => rfl
  | k, left, c :: cs, h => by
    have e : left / k = 0 := Nat.div_eq_of_lt h
    simp only [fl, e, Nat.min_zero, Nat.zero_mul, Nat.sub_zero, Nat.zero_add]
    exact fl_small (k + 1) left cs (by omega)
theorem fl_most : ∀ (k left : Nat) (cs : List Nat), 1 ≤ k → fl k left cs ≤ cs.sum ∧ wt k (fl k left cs) cs ≤ left ∧ (fl k left cs = cs.sum ∨ left < wt k (fl k left cs + 1) cs)
  | k, left, [], _ => ⟨Nat.le_refl _, Nat.zero_le _, .inl rfl⟩
  | k, left, c :: cs, hk => by
    rw [List.sum_cons]
    by_cases hc : c ≤ left / k
    · have e : min c (left / k) = c := by omega
      have hle : c * k ≤ left := by
        have := Nat.mul_le_mul_right k hc
        have := Nat.div_mul_le_self left k
        omega
      obtain ⟨h1, h2, h3⟩ := fl_most (k + 1) (left - c * k) cs (by omega)
      have ef : fl k left (c :: cs) = c + fl (k + 1) (left - c * k) cs := by simp only [fl, e]
      have ew : ∀ m, wt k (c + m) (c :: cs) = c * k + wt (k + 1) m cs := fun m => by
        have : min (c + m) c = c := by omega
        simp only [wt, this, Nat.add_sub_cancel_left]
      refine ⟨by omega, by rw [ef, ew]; omega, ?_⟩
      rcases h3 with h3 | h3
      · exact .inl (by omega)
      · refine .inr ?_
        rw [ef, Nat.add_assoc, ew]
        omega
    · have e : min c (left / k) = left / k := by omega
      have hm : left - left / k * k = left % k := by
        have := Nat.div_add_mod left k
        rw [Nat.mul_comm] at this
        omega
      have hlt : left % k < k := Nat.mod_lt _ hk
      have ef : fl k left (c :: cs) = left / k := by
        simp only [fl, e, hm]
        rw [fl_small (k + 1) (left % k) cs (by omega)]
        rfl
      have ew : ∀ m, m ≤ c → wt k m (c :: cs) = m * k := fun m hm => by
        have : min m c = m := by omega
        simp only [wt, this, Nat.sub_self, wt_zero, Nat.add_zero]
      refine ⟨by omega, ?_, .inr ?_⟩
      · rw [ef, ew _ (by omega)]
        exact Nat.div_mul_le_self left k
      · rw [ef, ew _ (by omega), Nat.add_mul, Nat.one_mul]
        have := Nat.div_add_mod left k
        rw [Nat.mul_comm] at this
        omega
theorem wt_app : ∀ (k m : Nat) (cs : List Nat) (c : Nat), wt k m (cs ++ [c]) = wt k m cs + min (m - cs.sum) c * (k + cs.length)
  | k, m, [], c => by simp [wt]
  | k, m, p :: cs, c => by
    have := wt_app (k + 1) (m - min m p) cs c
    rw [List.cons_append]
    simp only [wt, this, List.sum_cons, List.length_cons]
    have e : m - min m p - cs.sum = m - (p + cs.sum) := by omega
    rw [e, show k + 1 + cs.length = k + (cs.length + 1) by omega]
    omega
theorem wt_step : ∀ (k : Nat) (cs : List Nat) (a m : Nat), a ≤ m → wt k m cs ≤ wt k a cs + (min m cs.sum - min a cs.sum) * (k + cs.length)
  | k, [], a, m, _ => by simp [wt]
  | k, p :: cs, a, m, h => by
    have ih := wt_step (k + 1) cs (a - min a p) (m - min m p) (by omega)
    simp only [wt, List.sum_cons, List.length_cons]
    have e : min m (p + cs.sum) - min a (p + cs.sum) = (min m p - min a p) + (min (m - min m p) cs.sum - min (a - min a p) cs.sum) := by omega
    rw [e, Nat.add_mul]
    rw [show k + 1 + cs.length = k + (cs.length + 1) by omega] at ih
    have h1 : min m p * k = min a p * k + (min m p - min a p) * k := by rw [← Nat.add_mul]; congr 1; omega
    have h2 : (min m p - min a p) * k ≤ (min m p - min a p) * (k + (cs.length + 1)) := Nat.mul_le_mul_left _ (by omega)
    omega
theorem wt_mono : ∀ (k : Nat) (cs : List Nat) (a m : Nat), a ≤ m → wt k a cs ≤ wt k m cs
  | k, [], a, m, _ => Nat.le_refl _
  | k, p :: cs, a, m, h => by
    simp only [wt]
    by_cases hp : a ≤ p
    · have e : a - min a p = 0 := by omega
      rw [e, wt_zero]
      have : min a p * k ≤ min m p * k := Nat.mul_le_mul_right k (by omega)
      omega
    · have ih := wt_mono (k + 1) cs (a - min a p) (m - min m p) (by omega)
      have e : min m p = min a p := by omega
      rw [e] at ih ⊢
      omega
theorem fl_max {k left a : Nat} {cs : List Nat} (hk : 1 ≤ k) (h : a ≤ cs.sum) (h2 : wt k a cs ≤ left) : a ≤ fl k left cs := by
  obtain ⟨h3, h4, h5⟩ := fl_most k left cs hk
  rcases Nat.lt_or_ge (fl k left cs) a with q | q
  · rcases h5 with h5 | h5
    · omega
    · have := wt_mono k cs (fl k left cs + 1) a q
      omega
  · exact q
/-- one kind of words more: no number of them does better -/
theorem fl_app_ge {space c many : Nat} {cs : List Nat} (h : many ≤ c) (hs : many * (cs.length + 1) ≤ space) : fl 1 (space - many * (cs.length + 1)) cs + many ≤ fl 1 space (cs ++ [c]) := by
  obtain ⟨h1, h2, _⟩ := fl_most 1 (space - many * (cs.length + 1)) cs (by decide)
  generalize fl 1 (space - many * (cs.length + 1)) cs = a at *
  refine fl_max (by decide) (by rw [List.sum_append]; simp; omega) ?_
  rw [wt_app]
  have h3 := wt_step 1 cs a (a + many) (by omega)
  have e : min a cs.sum = a := by omega
  rw [e] at h3
  have e2 : many = (min (a + many) cs.sum - a) + (a + many - cs.sum) := by omega
  have e3 : min (a + many - cs.sum) c = a + many - cs.sum := by omega
  rw [e3]
  have e4 : many * (1 + cs.length) = (min (a + many) cs.sum - a) * (1 + cs.length) + (a + many - cs.sum) * (1 + cs.length) := by rw [← Nat.add_mul, ← e2]
  rw [Nat.add_comm cs.length 1] at h2 hs
  omega
theorem fl_app_le (space c : Nat) (cs : List Nat) : ∃ many, many ≤ c ∧ many * (cs.length + 1) ≤ space ∧ fl 1 space (cs ++ [c]) ≤ fl 1 (space - many * (cs.length + 1)) cs + many := by
  obtain ⟨h1, h2, _⟩ := fl_most 1 space (cs ++ [c]) (by decide)
  generalize fl 1 space (cs ++ [c]) = f at *
  rw [wt_app, Nat.add_comm 1 cs.length] at h2
  rw [List.sum_append] at h1
  simp only [List.sum_cons, List.sum_nil, Nat.add_zero] at h1
  have e : min (f - cs.sum) c = f - cs.sum := by omega
  rw [e] at h2
  refine ⟨f - cs.sum, by omega, by omega, ?_⟩
  have h3 := wt_mono 1 cs (min f cs.sum) f (by omega)
  have := fl_max (k := 1) (left := space - (f - cs.sum) * (cs.length + 1)) (a := min f cs.sum) (cs := cs) (by decide) (by omega) (by omega)
  omega
end K02

set_option linter.all false
namespace K21
open DL
open K02 (wt wt_zero wt_app wt_mono)
/-- options of piece k -/
def opt (s k : Nat) : Nat := k * (s - 1) + 2
def Ws (s : Nat) : Nat → Nat
  | 0 => 0
  | n + 1 => Ws s n + W (opt s (n + 1))
def Sm (s w : Nat) : Nat → Nat
  | 0 => 0
  | n + 1 => Sm s w n + min w (W (opt s (n + 1)))
def nar (s w : Nat) : Nat := (2 ^ w - 2) / (s - 1)
def P (s c : Nat) : Nat := W (c + 1) + Ws s (c + 1)
theorem opt_pos (s k : Nat) : 1 ≤ opt s k := by unfold opt; omega
theorem nar_lt {s w k : Nat} (hs : 2 ≤ s) (hk : 1 ≤ k) : nar s w < k ↔ w < W (opt s k) := by
  unfold nar
  rw [Nat.div_lt_iff_lt_mul (by omega), ← Nat.not_le, ← Nat.not_le (b := w), not_congr]
  rw [W_le (opt_pos s k)]
  unfold opt
  have h0 : 0 < k * (s - 1) := Nat.mul_pos hk (by omega)
  omega
theorem Sm_succ {s w : Nat} (hs : 2 ≤ s) : ∀ n, Sm s (w + 1) n = Sm s w n + (n - min n (nar s w))
  | 0 => by simp [Sm]
  | n + 1 => by
    have ih := Sm_succ (w := w) hs n
    have k := nar_lt (s := s) (w := w) (k := n + 1) hs (by omega)
    unfold Sm
    rw [ih]
    by_cases h : nar s w < n + 1
    · have := k.mp h
      omega
    · have : ¬ w < W (opt s (n + 1)) := fun z => h (k.mpr z)
      omega
theorem Sm_zero {s : Nat} : ∀ n, Sm s 0 n = 0
  | 0 => rfl
  | n + 1 => by unfold Sm; rw [Sm_zero n]; omega
theorem Sm_eq {s w : Nat} (hs : 2 ≤ s) : ∀ n, n ≤ nar s w → Sm s w n = Ws s n
  | 0, _ => rfl
  | n + 1, h => by
    unfold Sm Ws
    rw [Sm_eq hs n (by omega)]
    have : ¬ w < W (opt s (n + 1)) := fun z => by
      have := (nar_lt hs (by omega)).mpr z
      omega
    omega
theorem nar_big {s w n : Nat} (hs : 2 ≤ s) (h : n * (s - 1) + 2 ≤ 2 ^ w) : n ≤ nar s w := by
  unfold nar
  rw [Nat.le_div_iff_mul_le (by omega)]
  omega
theorem Ws_one : ∀ n, Ws 1 n = n
  | 0 => rfl
  | n + 1 => by
    unfold Ws
    rw [Ws_one n]
    have : W (opt 1 (n + 1)) = 1 := by
      unfold opt
      rw [Nat.sub_self, Nat.mul_zero]
      rfl
    omega

def G : List Nat → List Nat → Nat → Nat
  | l :: ls, r :: rs, N => l * min N r + G ls rs (N - min N r)
  | _, _, _ => 0
def dot : List Nat → List Nat → Nat
  | l :: ls, u :: us => l * u + dot ls us
  | _, _ => 0
/-- what is missing to the bound at the level t -/
def gap (t : Int) : List Nat → List Nat → Int
  | l :: ls, r :: rs => (if (l : Int) < t then (t - l) * r else 0) + gap t ls rs
  | _, _ => 0
theorem G_ge (t : Int) : ∀ (ls rs : List Nat) (N : Nat), ls.length = rs.length → N ≤ rs.sum → t * N - gap t ls rs ≤ G ls rs N
  | [], [], N, _, h => by simp at h; subst h; simp [G, gap]
  | [], _ :: _, _, h, _ => by simp at h
  | _ :: _, [], _, h, _ => by simp at h
  | l :: ls, r :: rs, N, hl, h => by
    rw [List.sum_cons] at h
    have ih := G_ge t ls rs (N - min N r) (by simpa using hl) (by omega)
    simp only [G, gap]
    have e : (N : Int) = (min N r : Nat) + (N - min N r : Nat) := by omega
    rw [e, Int.mul_add]
    have key : t * (min N r : Nat) ≤ (l : Int) * (min N r : Nat) + (if (l : Int) < t then (t - l) * r else 0) := by
      have hm : ((min N r : Nat) : Int) ≤ r := by omega
      have hm0 : (0 : Int) ≤ (min N r : Nat) := by omega
      generalize ((min N r : Nat) : Int) = a at *
      by_cases hlt : (l : Int) < t
      · rw [if_pos hlt]
        have := Int.mul_le_mul_of_nonneg_left hm (show (0 : Int) ≤ t - l by omega)
        rw [Int.sub_mul] at this
        rw [Int.sub_mul] at *
        omega
      · rw [if_neg hlt]
        have := Int.mul_le_mul_of_nonneg_right (show t ≤ l by omega) hm0
        omega
    rw [Int.natCast_add, Int.natCast_mul]
    omega
theorem gap_zero {t : Int} : ∀ (ls rs : List Nat), (∀ l ∈ ls, t ≤ (l : Int)) → gap t ls rs = 0
  | [], _, _ => rfl
  | _ :: _, [], _ => rfl
  | l :: ls, r :: rs, h => by
    simp only [gap]
    rw [if_neg (by have := h l List.mem_cons_self; omega), gap_zero ls rs fun x hx => h x (List.mem_cons_of_mem _ hx)]
    rfl
theorem G_eq : ∀ (ls rs : List Nat) (N : Nat), ls.length = rs.length → N ≤ rs.sum → 0 < N → ls.Pairwise (· ≤ ·) → ∃ t ∈ ls, (G ls rs N : Int) = t * N - gap t ls rs
  | [], [], N, _, h, h0, _ => by simp at h; omega
  | [], _ :: _, _, h, _, _, _ => by simp at h
  | _ :: _, [], _, h, _, _, _ => by simp at h
  | l :: ls, r :: rs, N, hl, h, h0, hs => by
    rw [List.sum_cons] at h
    rw [List.pairwise_cons] at hs
    by_cases hN : N ≤ r
    · refine ⟨l, List.mem_cons_self, ?_⟩
      have e : min N r = N := by omega
      have hg := gap_zero (t := l) (l :: ls) (r :: rs) fun x hx => by
        rcases List.mem_cons.mp hx with rfl | hx
        · exact Int.le_refl _
        · have := hs.1 x hx; omega
      rw [hg]
      simp only [G, e, Nat.sub_self]
      have z : ∀ (ls rs : List Nat), G ls rs 0 = 0 := by
        intro ls
        induction ls with
        | nil => intro rs; cases rs <;> rfl
        | cons a ls ih => intro rs; cases rs <;> simp [G, ih]
      rw [z]
      simp
    · obtain ⟨t, ht, e1⟩ := G_eq ls rs (N - r) (by simpa using hl) (by omega) (by omega) hs.2
      refine ⟨t, List.mem_cons_of_mem _ ht, ?_⟩
      have e : min N r = r := by omega
      simp only [G, gap, e]
      rw [Int.natCast_add, e1, Int.natCast_mul]
      have hlt := hs.1 t ht
      have e3 : ((N - r : Nat) : Int) = N - r := by omega
      rw [e3, Int.mul_sub]
      by_cases hc : (l : Int) < t
      · rw [if_pos hc, Int.sub_mul]
        omega
      · rw [if_neg hc]
        have : (l : Int) = t := by omega
        rw [this]
        omega
/-- the uses' sum over the bound -/
theorem dot_eq (t : Int) : ∀ (ls rs us : List Nat), ls.length = rs.length → rs.length = us.length → ∃ ds : List Int, ds.length = us.length ∧ (dot ls us : Int) = t * us.sum - gap t ls rs + ds.sum ∧
    ∀ (k : Nat) (d : Int) (l r u : Nat), ds[k]? = some d → ls[k]? = some l → rs[k]? = some r → us[k]? = some u → d = if (l : Int) < t then (t - l) * (r - u) else (l - t) * u
  | [], [], [], _, _ => ⟨[], rfl, by simp [dot, gap], fun k d l r u h => by simp at h⟩
  | [], _ :: _, _, h, _ => by simp at h
  | _ :: _, [], _, h, _ => by simp at h
  | _, [], _ :: _, _, h => by simp at h
  | _, _ :: _, [], _, h => by simp at h
  | l :: ls, r :: rs, u :: us, h1, h2 => by
    obtain ⟨ds, a1, a2, a3⟩ := dot_eq t ls rs us (by simpa using h1) (by simpa using h2)
    refine ⟨(if (l : Int) < t then (t - l) * (r - u) else (l - t) * u) :: ds, by simp [a1], ?_, fun k d l' r' u' b1 b2 b3 b4 => ?_⟩
    · simp only [dot, gap, List.sum_cons]
      rw [Int.natCast_add, Int.natCast_add, Int.natCast_mul, a2, Int.mul_add]
      by_cases hc : (l : Int) < t
      · rw [if_pos hc, if_pos hc, Int.mul_sub, Int.sub_mul, Int.sub_mul]
        omega
      · rw [if_neg hc, if_neg hc, Int.sub_mul]
        omega
    · cases k with
      | zero =>
        simp at b1 b2 b3 b4
        subst b1 b2 b3 b4
        rfl
      | succ k => exact a3 k d l' r' u' (by simpa using b1) (by simpa using b2) (by simpa using b3) (by simpa using b4)
theorem sum_nonneg : ∀ {ds : List Int}, (∀ d ∈ ds, 0 ≤ d) → 0 ≤ ds.sum ∧ (ds.sum = 0 ↔ ∀ d ∈ ds, d = 0)
  | [], _ => ⟨by simp, by simp⟩
  | d :: ds, h => by
    obtain ⟨h1, h2⟩ := sum_nonneg fun x hx => h x (List.mem_cons_of_mem _ hx)
    have h0 := h d List.mem_cons_self
    rw [List.sum_cons]
    refine ⟨by omega, fun e => ?_, fun e => ?_⟩
    · intro x hx
      rcases List.mem_cons.mp hx with rfl | hx
      · omega
      · exact h2.mp (by omega) x hx
    · rw [e d List.mem_cons_self, h2.mpr fun x hx => e x (List.mem_cons_of_mem _ hx)]
      rfl
theorem mem_le_sum {x : Nat} : ∀ {l : List Nat}, x ∈ l → x ≤ l.sum
  | y :: l, h => by
    rw [List.sum_cons]
    rcases List.mem_cons.mp h with rfl | h
    · omega
    · have := mem_le_sum h; omega
/-- no use behind a free place -/
def Tight (ls rs us : List Nat) : Prop := ∀ (j k : Nat) (l r u l' u' : Nat), ls[j]? = some l → rs[j]? = some r → us[j]? = some u → u < r → ls[k]? = some l' → us[k]? = some u' → 0 < u' → l' ≤ l
theorem sum_le {rs us : List Nat} : rs.length = us.length → (∀ (k r u : Nat), rs[k]? = some r → us[k]? = some u → u ≤ r) → us.sum ≤ rs.sum := by
  induction rs generalizing us with
  | nil => intro h _; cases us with
    | nil => exact Nat.le_refl _
    | cons _ _ => simp at h
  | cons r rs ih => intro h hu; cases us with
    | nil => simp at h
    | cons u us =>
      rw [List.sum_cons, List.sum_cons]
      have h1 := hu 0 r u rfl rfl
      have h2 := ih (us := us) (by simpa using h) fun k r u a b => hu (k + 1) r u (by simpa using a) (by simpa using b)
      omega
theorem choice {ls rs us : List Nat} (h1 : ls.length = rs.length) (h2 : rs.length = us.length) (hs : ls.Pairwise (· ≤ ·)) (hu : ∀ (k r u : Nat), rs[k]? = some r → us[k]? = some u → u ≤ r) :
    G ls rs us.sum ≤ dot ls us ∧ (G ls rs us.sum = dot ls us ↔ Tight ls rs us) := by
  have hsum := sum_le h2 hu
  have bound : ∀ t : Int, ∃ ds : List Int, ds.length = us.length ∧ (dot ls us : Int) = t * us.sum - gap t ls rs + ds.sum ∧ (∀ d ∈ ds, 0 ≤ d) ∧
      (∀ (k : Nat) (d : Int) (l r u : Nat), ds[k]? = some d → ls[k]? = some l → rs[k]? = some r → us[k]? = some u → d = if (l : Int) < t then (t - l) * (r - u) else (l - t) * u) := fun t => by
    obtain ⟨ds, a1, a2, a3⟩ := dot_eq t ls rs us h1 h2
    refine ⟨ds, a1, a2, fun d hd => ?_, a3⟩
    obtain ⟨k, hk⟩ := List.mem_iff_getElem?.mp hd
    have hk2 := (List.getElem?_eq_some_iff.mp hk).1
    have e1 := List.getElem?_eq_getElem (l := ls) (i := k) (by omega)
    have e2 := List.getElem?_eq_getElem (l := rs) (i := k) (by omega)
    have e3 := List.getElem?_eq_getElem (l := us) (i := k) (by omega)
    have := a3 k d _ _ _ hk e1 e2 e3
    have hle := hu k _ _ e2 e3
    rw [this]
    split
    · exact Int.mul_nonneg (by omega) (by omega)
    · exact Int.mul_nonneg (by omega) (by omega)
  by_cases h0 : us.sum = 0
  · have hz : ∀ u ∈ us, u = 0 := by
      clear hu hsum bound h2
      induction us with
      | nil => intro u hu; cases hu
      | cons x us ih =>
        rw [List.sum_cons] at h0
        intro u hu
        rcases List.mem_cons.mp hu with rfl | hu
        · omega
        · exact ih (by omega) u hu
    have d0 : ∀ ls us : List Nat, (∀ u ∈ us, u = 0) → dot ls us = 0 := by
      intro ls
      induction ls with
      | nil => intro us _; cases us <;> rfl
      | cons l ls ih => intro us h; cases us with
        | nil => rfl
        | cons u us => simp [dot, ih us fun x hx => h x (List.mem_cons_of_mem _ hx), h u List.mem_cons_self]
    have z : ∀ (ls rs : List Nat), G ls rs 0 = 0 := by
      intro ls
      induction ls with
      | nil => intro rs; cases rs <;> rfl
      | cons a ls ih => intro rs; cases rs <;> simp [G, ih]
    rw [h0, z, d0 ls us hz]
    refine ⟨Nat.le_refl _, fun _ j k l r u l' u' a b c d e f g => ?_, fun _ => rfl⟩
    have := hz u' (List.mem_of_getElem? f)
    omega
  · obtain ⟨t, ht, e⟩ := G_eq ls rs us.sum h1 hsum (by omega) hs
    obtain ⟨ds, b1, b2, b3, b4⟩ := bound t
    obtain ⟨c1, c2⟩ := sum_nonneg b3
    refine ⟨by omega, fun he j k l r u l' u' a b c d e2 f g => ?_, fun hT => ?_⟩
    · have hd : ds.sum = 0 := by omega
      have hall := c2.mp hd
      have hj : j < us.length := (List.getElem?_eq_some_iff.mp c).1
      have hk : k < us.length := (List.getElem?_eq_some_iff.mp f).1
      have dj := List.getElem?_eq_getElem (l := ds) (i := j) (by omega)
      have dk := List.getElem?_eq_getElem (l := ds) (i := k) (by omega)
      have zj := hall _ (List.mem_of_getElem? dj)
      have zk := hall _ (List.mem_of_getElem? dk)
      have rk := List.getElem?_eq_getElem (l := rs) (i := k) (by omega)
      have fj := b4 j _ _ _ _ dj a b c
      have fk := b4 k _ _ _ _ dk e2 rk f
      rw [zj] at fj
      rw [zk] at fk
      by_cases p : (l : Int) < t
      · rw [if_pos p] at fj
        rcases Int.mul_eq_zero.mp fj.symm with q | q <;> omega
      · by_cases p2 : (l' : Int) ≤ t
        · omega
        · rw [if_neg (by omega)] at fk
          rcases Int.mul_eq_zero.mp fk.symm with q | q <;> omega
    · -- the greatest level in use
      obtain ⟨m, hm, hmax⟩ : ∃ m : Nat, (∃ k u : Nat, ls[k]? = some m ∧ us[k]? = some u ∧ 0 < u) ∧ ∀ (k l u : Nat), ls[k]? = some l → us[k]? = some u → 0 < u → l ≤ m := by
        have hex : ∃ k u : Nat, us[k]? = some u ∧ 0 < u := by
          have : ∃ u ∈ us, u ≠ 0 := by
            apply Classical.byContradiction
            intro hno
            apply h0
            clear hu hsum bound h2 b1 b4 e hT
            induction us with
            | nil => rfl
            | cons x us ih =>
              rw [List.sum_cons]
              have hx : x = 0 := Classical.byContradiction fun z => hno ⟨x, List.mem_cons_self, z⟩
              rw [hx, Nat.zero_add]
              exact Classical.byContradiction fun z => z (by
                have key : ∀ l : List Nat, (¬ ∃ u ∈ l, u ≠ 0) → l.sum = 0 := by
                  intro l
                  induction l with
                  | nil => intro _; rfl
                  | cons y l ih2 =>
                    intro hn
                    rw [List.sum_cons, ih2 fun ⟨u, a, b⟩ => hn ⟨u, List.mem_cons_of_mem _ a, b⟩]
                    have hy : y = 0 := Classical.byContradiction fun z => hn ⟨y, List.mem_cons_self, z⟩
                    omega
                exact key us fun ⟨u, a, b⟩ => hno ⟨u, List.mem_cons_of_mem _ a, b⟩)
          obtain ⟨u, hu1, hu2⟩ := this
          obtain ⟨k, hk⟩ := List.mem_iff_getElem?.mp hu1
          exact ⟨k, u, hk, by omega⟩
        have hb : ∃ B : Nat, ∀ (k l : Nat), ls[k]? = some l → l ≤ B := ⟨ls.sum, fun k l hk => mem_le_sum (List.mem_of_getElem? hk)⟩
        obtain ⟨B, hB⟩ := hb
        have key : ∀ n : Nat, (∃ m : Nat, B ≤ m + n ∧ ∃ k u : Nat, ls[k]? = some m ∧ us[k]? = some u ∧ 0 < u) → ∃ m : Nat, (∃ k u : Nat, ls[k]? = some m ∧ us[k]? = some u ∧ 0 < u) ∧ ∀ (k l u : Nat), ls[k]? = some l → us[k]? = some u → 0 < u → l ≤ m := by
          intro n
          induction n with
          | zero =>
            rintro ⟨m, hm, k, u, a, b, c⟩
            exact ⟨m, ⟨k, u, a, b, c⟩, fun k' l u' a' _ _ => Nat.le_trans (hB k' l a') hm⟩
          | succ n ih =>
            rintro ⟨m, hm, k, u, a, b, c⟩
            by_cases hx : ∃ (k' l u' : Nat), ls[k']? = some l ∧ us[k']? = some u' ∧ 0 < u' ∧ m < l
            · obtain ⟨k', l, u', a', b', c', d'⟩ := hx
              exact ih ⟨l, by omega, k', u', a', b', c'⟩
            · exact ⟨m, ⟨k, u, a, b, c⟩, fun k' l u' a' b' c' => Nat.not_lt.mp fun z => hx ⟨k', l, u', a', b', c', z⟩⟩
        obtain ⟨k, u, hk, hu0⟩ := hex
        have hk2 := (List.getElem?_eq_some_iff.mp hk).1
        have e1 := List.getElem?_eq_getElem (l := ls) (i := k) (by omega)
        exact key B ⟨ls[k], by omega, k, u, e1, hk, hu0⟩
      obtain ⟨k0, u0, a0, a1, a2⟩ := hm
      obtain ⟨es, b1', b2', b3', b4'⟩ := bound (m : Int)
      obtain ⟨c1', c2'⟩ := sum_nonneg b3'
      have hes : es.sum = 0 := c2'.mpr fun d hd => by
        obtain ⟨k, hk⟩ := List.mem_iff_getElem?.mp hd
        have hk2 := (List.getElem?_eq_some_iff.mp hk).1
        have e1 := List.getElem?_eq_getElem (l := ls) (i := k) (by omega)
        have e2 := List.getElem?_eq_getElem (l := rs) (i := k) (by omega)
        have e3 := List.getElem?_eq_getElem (l := us) (i := k) (by omega)
        have hle := hu k _ _ e2 e3
        rw [b4' k d _ _ _ hk e1 e2 e3]
        split
        · rename_i hlt
          have : ¬ us[k] < rs[k] := fun z => by
            have := hT k k0 _ _ _ _ _ e1 e2 e3 z a0 a1 a2
            omega
          have : (rs[k] : Int) - us[k] = 0 := by omega
          rw [this, Int.mul_zero]
        · rename_i hge
          by_cases z : 0 < us[k]
          · have := hmax k _ _ e1 e3 z
            have : (ls[k] : Int) - m = 0 := by omega
            rw [this, Int.zero_mul]
          · have : (us[k] : Int) = 0 := by omega
            rw [this, Int.mul_zero]
      have := G_ge (m : Int) ls rs us.sum h1 hsum
      omega
def geo (h : Nat) : Nat → List Nat
  | 0 => []
  | n + 1 => h :: geo (h * 2) n
theorem geo_len : ∀ (n h : Nat), (geo h n).length = n
  | 0, _ => rfl
  | n + 1, h => by simp [geo, geo_len n]
theorem geo_get : ∀ (n h k : Nat), k < n → (geo h n)[k]? = some (h * 2 ^ k)
  | n + 1, h, 0, _ => by simp [geo]
  | n + 1, h, k + 1, hk => by
    have := geo_get n (h * 2) k (by omega)
    simp only [geo, List.getElem?_cons_succ, this]
    rw [Nat.pow_succ, Nat.mul_assoc, Nat.mul_comm 2]
theorem geo_app : ∀ (n m h : Nat), geo h (n + m) = geo h n ++ geo (h * 2 ^ n) m
  | 0, m, h => by simp [geo]
  | n + 1, m, h => by
    rw [show n + 1 + m = (n + m) + 1 by omega]
    simp only [geo, List.cons_append, geo_app n m (h * 2)]
    rw [Nat.pow_succ, Nat.mul_assoc, Nat.mul_comm 2]
theorem geo_sum : ∀ (n h : Nat), (geo h n).sum = h * (2 ^ n - 1)
  | 0, h => by simp [geo]
  | n + 1, h => by
    have := geo_sum n (h * 2)
    have p := Nat.two_pow_pos n
    simp only [geo, List.sum_cons, this]
    rw [Nat.pow_succ, show 2 ^ n * 2 - 1 = 1 + 2 * (2 ^ n - 1) by omega, Nat.mul_add, Nat.mul_one, Nat.mul_assoc]
theorem wt_cut : ∀ (k m : Nat) (a b : List Nat), m ≤ a.sum → wt k m (a ++ b) = wt k m a
  | k, m, [], b, h => by
    have : m = 0 := by simpa using h
    subst this
    rw [List.nil_append, wt_zero, wt_zero]
  | k, m, x :: a, b, h => by
    rw [List.sum_cons] at h
    have := wt_cut (k + 1) (m - min m x) a b (by omega)
    exact congrArg (min m x * k + ·) this
/-- the least total: which 0 shared, which 1 of a table with s standings -/
def rooms (which s : Nat) (n : Nat) : List Nat := if which = 1 then s * (s - 1) / 2 :: geo (2 * s * s) (n - 1) else geo s n
def T (which s m : Nat) : Nat := wt 0 m (rooms which s 200)
theorem rooms_len {which s n : Nat} (h : 1 ≤ n) : (rooms which s n).length = n := by
  unfold rooms
  split
  · simp [geo_len]; omega
  · exact geo_len _ _
theorem rooms_app {which s n : Nat} (h : 1 ≤ n) (m : Nat) : ∃ r, rooms which s (n + m) = rooms which s n ++ r := by
  unfold rooms
  split
  · exact ⟨geo (2 * s * s * 2 ^ (n - 1)) m, by rw [show n + m - 1 = (n - 1) + m by omega, geo_app]; rfl⟩
  · exact ⟨_, geo_app _ _ _⟩
theorem T_cut {which s m n : Nat} (h1 : 1 ≤ n) (h2 : n ≤ 200) (h : m ≤ (rooms which s n).sum) : wt 0 m (rooms which s n) = T which s m := by
  obtain ⟨r, hr⟩ := rooms_app (which := which) (s := s) h1 (200 - n)
  unfold T
  rw [show n + (200 - n) = 200 by omega] at hr
  rw [hr, wt_cut _ _ _ _ h]
theorem rooms_sum {which s n : Nat} (hs : 1 ≤ s) (h : 1 ≤ n) : 2 ^ (n - 1) - 1 ≤ (rooms which s n).sum := by
  unfold rooms
  have hp : 2 ^ (n - 1) ≤ 2 ^ n := Nat.pow_le_pow_right (by decide) (by omega)
  split
  · rw [List.sum_cons, geo_sum]
    have : 1 * (2 ^ (n - 1) - 1) ≤ 2 * s * s * (2 ^ (n - 1) - 1) := Nat.mul_le_mul_right _ (Nat.mul_pos (by omega) hs)
    omega
  · rw [geo_sum]
    have : 1 * (2 ^ n - 1) ≤ s * (2 ^ n - 1) := Nat.mul_le_mul_right _ hs
    omega
/-- a total by levels, as a greedy sum -/
theorem wt_G : ∀ (k N : Nat) (rs : List Nat), wt k N rs = G (List.range' k rs.length) rs N
  | _, _, [] => rfl
  | k, N, r :: rs => by
    simp only [wt, List.length_cons, List.range'_succ, G]
    rw [wt_G (k + 1) (N - min N r) rs, Nat.mul_comm]
theorem G_merge (l a b : Nat) (ls rs : List Nat) (N : Nat) : G (l :: l :: ls) (a :: b :: rs) N = G (l :: ls) ((a + b) :: rs) N := by
  simp only [G]
  have e1 : N - min N a - min (N - min N a) b = N - min N (a + b) := by omega
  have e2 : min N (a + b) = min N a + min (N - min N a) b := by omega
  rw [e1, e2, Nat.mul_add, Nat.add_assoc]
/-- all lengths, each as often as there is room -/
def plain : List Nat → List Nat → List Nat
  | l :: ls, r :: rs => List.replicate r l ++ plain ls rs
  | _, _ => []
theorem plain_sum : ∀ (ls rs : List Nat) (N : Nat), ((plain ls rs).take N).sum = G ls rs N
  | [], rs, N => by cases rs <;> simp [plain, G]
  | _ :: _, [], N => by simp [plain, G]
  | l :: ls, r :: rs, N => by
    simp only [plain, G, List.take_append, List.sum_append, List.take_replicate, List.length_replicate, List.sum_replicate_nat]
    rw [plain_sum ls rs, Nat.mul_comm l, show N - min N r = N - r by omega]
def lv : Nat → Nat → List Nat → Nat
  | k, m, r :: rs => if m < r then k else lv (k + 1) (m - r) rs
  | _, _, [] => 0
theorem wt_succ : ∀ (k m : Nat) (rs : List Nat), m < rs.sum → wt k (m + 1) rs = wt k m rs + lv k m rs
  | _, m, [], h => by simp at h
  | k, m, r :: rs, h => by
    rw [List.sum_cons] at h
    simp only [wt, lv]
    by_cases hm : m < r
    · rw [if_pos hm, show min (m + 1) r = m + 1 by omega, show min m r = m by omega, Nat.sub_self, Nat.sub_self, wt_zero, Nat.add_mul]
      omega
    · rw [if_neg hm, show min (m + 1) r = r by omega, show min m r = r by omega, show m + 1 - r = (m - r) + 1 by omega, wt_succ (k + 1) (m - r) rs (by omega)]
      omega
theorem lv_geo : ∀ (n k m h : Nat), m < h * (2 ^ n - 1) → ∃ i, lv k m (geo h n) = k + i ∧ h * (2 ^ i - 1) ≤ m ∧ m < h * (2 ^ (i + 1) - 1)
  | 0, k, m, h, hm => by simp at hm
  | n + 1, k, m, h, hm => by
    simp only [geo, lv]
    by_cases hl : m < h
    · exact ⟨0, by rw [if_pos hl]; rfl, by simp, by simpa using hl⟩
    · rw [if_neg hl]
      have p := Nat.two_pow_pos n
      have e : h * (2 ^ (n + 1) - 1) = h + h * 2 * (2 ^ n - 1) := by
        rw [Nat.pow_succ, show 2 ^ n * 2 - 1 = 1 + 2 * (2 ^ n - 1) by omega, Nat.mul_add, Nat.mul_one, Nat.mul_assoc]
      obtain ⟨i, h1, h2, h3⟩ := lv_geo n (k + 1) (m - h) (h * 2) (by omega)
      refine ⟨i + 1, by rw [h1]; omega, ?_, ?_⟩
      · have q := Nat.two_pow_pos i
        have e2 : h * (2 ^ (i + 1) - 1) = h + h * 2 * (2 ^ i - 1) := by
          rw [Nat.pow_succ, show 2 ^ i * 2 - 1 = 1 + 2 * (2 ^ i - 1) by omega, Nat.mul_add, Nat.mul_one, Nat.mul_assoc]
        omega
      · have q := Nat.two_pow_pos (i + 1)
        have e2 : h * (2 ^ (i + 1 + 1) - 1) = h + h * 2 * (2 ^ (i + 1) - 1) := by
          rw [Nat.pow_succ 2 (i + 1), show 2 ^ (i + 1) * 2 - 1 = 1 + 2 * (2 ^ (i + 1) - 1) by omega, Nat.mul_add, Nat.mul_one, Nat.mul_assoc]
        omega
/-- the word behind m words has l bits -/
theorem next_word {s m : Nat} (hs : 1 ≤ s) (hm : m < 2 ^ 190) : ∃ l, T 1 s (m + 1) = T 1 s m + l ∧ 2 ^ l ≤ m + 2 ∧ m + 2 ≤ 2 * s * s * 2 ^ l := by
  have hsum := rooms_sum (which := 1) (s := s) (n := 200) hs (by decide)
  have h199 : 2 ^ 190 ≤ 2 ^ (200 - 1) - 1 := by decide
  have e := wt_succ 0 m (rooms 1 s 200) (by omega)
  refine ⟨_, e, ?_⟩
  have ss : s * 1 ≤ s * s := Nat.mul_le_mul_left s hs
  have e4 : 2 * s * s = s * s + s * s := by rw [Nat.mul_assoc, Nat.two_mul]
  have half : s * (s - 1) / 2 + 1 ≤ 2 * s * s := by
    have : s * (s - 1) ≤ s * s := Nat.mul_le_mul_left s (by omega)
    omega
  show 2 ^ lv 0 m (s * (s - 1) / 2 :: geo (2 * s * s) 199) ≤ _ ∧ _ ≤ _ * 2 ^ lv 0 m (s * (s - 1) / 2 :: geo (2 * s * s) 199)
  simp only [lv]
  by_cases hl : m < s * (s - 1) / 2
  · rw [if_pos hl]
    omega
  · rw [if_neg hl]
    have hb : m - s * (s - 1) / 2 < 2 * s * s * (2 ^ 199 - 1) := by
      have : 1 * (2 ^ 199 - 1) ≤ 2 * s * s * (2 ^ 199 - 1) := Nat.mul_le_mul_right _ (by omega)
      have : 2 ^ 190 ≤ 2 ^ 199 - 1 := by decide
      omega
    obtain ⟨i, h1, h2, h3⟩ := lv_geo 199 (0 + 1) (m - s * (s - 1) / 2) (2 * s * s) hb
    rw [h1, show 0 + 1 + i = i + 1 by omega]
    have p := Nat.two_pow_pos i
    have e2 : 2 * s * s * (2 ^ (i + 1) - 1) = 2 * s * s * 2 ^ (i + 1) - 2 * s * s := by rw [Nat.mul_sub, Nat.mul_one]
    have e3 : 2 * (2 ^ i - 1) ≤ 2 * s * s * (2 ^ i - 1) := Nat.mul_le_mul_right _ (by omega)
    have e5 : 2 ^ (i + 1) = 2 ^ i * 2 := Nat.pow_succ ..
    have e6 : 2 * s * s * 1 ≤ 2 * s * s * 2 ^ (i + 1) := Nat.mul_le_mul_left _ (Nat.two_pow_pos _)
    exact ⟨by omega, by omega⟩
/-- the excess grows -/
theorem excess_lt {s S c : Nat} (h2 : 2 ≤ s) (hS : 1 ≤ S) (hc : c < 2 ^ 190) : P s c + T 1 S (c + 1) < P s (c + 1) + T 1 S c := by
  obtain ⟨l, e, h3, _⟩ := next_word hS hc
  have hw : l < W (opt s (c + 2)) := by
    have := W_self (opt_pos s (c + 2))
    have h4 : (c + 2) * 1 ≤ (c + 2) * (s - 1) := Nat.mul_le_mul_left _ (by omega)
    have h5 : 2 ^ l < 2 ^ W (opt s (c + 2)) := by unfold opt at *; omega
    exact (Nat.pow_lt_pow_iff_right (by decide)).mp h5
  have hm := W_mono (n := c + 1) (m := c + 2) (by omega) (by omega)
  have ew : Ws s (c + 2) = Ws s (c + 1) + W (opt s (c + 2)) := rfl
  unfold P
  rw [show c + 1 + 1 = c + 2 by omega, e, ew]
  omega
theorem excess_mono {s S c : Nat} (h2 : 2 ≤ s) (hS : 1 ≤ S) : ∀ d, c < d → d ≤ 2 ^ 190 → P s c + T 1 S d < P s d + T 1 S c
  | 0, h, _ => by omega
  | d + 1, h, hd => by
    have h1 := excess_lt (c := d) h2 hS (by omega)
    rcases Nat.lt_or_ge c d with q | q
    · have := excess_mono h2 hS d q (by omega)
      omega
    · have : c = d := by omega
      subst this
      exact h1
theorem Ws_told {s S : Nat} (hs : 1 ≤ s) (hS : 1 ≤ S) : ∀ c, c ≤ 2 ^ 190 → Ws s (c + 1) ≤ T 1 S c + c * (W s + 1 + 2 * W S) + W s + 1
  | 0, _ => by
    have : W (opt s 1) ≤ W s + 1 := by
      have e : opt s 1 = s + 1 := by unfold opt; omega
      rw [e]
      exact W_succ hs
    show 0 + W (opt s (0 + 1)) ≤ _
    rw [show 0 + 1 = 1 by omega]
    omega
  | c + 1, hc => by
    have ih := Ws_told hs hS c (by omega)
    obtain ⟨l, e, _, h4⟩ := next_word (s := S) (m := c) hS (by omega)
    have ew : Ws s (c + 1 + 1) = Ws s (c + 1) + W (opt s (c + 1 + 1)) := rfl
    have hw : W (opt s (c + 1 + 1)) ≤ l + (W s + 1 + 2 * W S) := by
      rw [W_le (opt_pos _ _)]
      have a1 := W_self hs
      have a2 := W_self hS
      have b1 : opt s (c + 1 + 1) ≤ s * (c + 2) := by
        unfold opt
        have : (c + 1 + 1) * (s - 1) = (c + 2) * s - (c + 2) := by rw [Nat.mul_sub, Nat.mul_one]
        have h6 : (c + 2) * 1 ≤ (c + 2) * s := Nat.mul_le_mul_left _ hs
        rw [this, Nat.mul_comm s]
        omega
      have b2 : s * (c + 2) ≤ 2 ^ W s * (2 * 2 ^ W S * 2 ^ W S * 2 ^ l) := by
        refine Nat.mul_le_mul a1 (Nat.le_trans h4 (Nat.mul_le_mul_right _ ?_))
        exact Nat.mul_le_mul (Nat.mul_le_mul_left 2 a2) a2
      refine Nat.le_trans b1 (Nat.le_trans b2 (Nat.le_of_eq ?_))
      rw [show l + (W s + 1 + 2 * W S) = W s + (1 + W S + W S + l) by omega, Nat.pow_add 2 (W s), Nat.pow_add 2 (1 + W S + W S), Nat.pow_add 2 (1 + W S), Nat.pow_add 2 1, Nat.pow_one]
    rw [ew, e, show (c + 1) * (W s + 1 + 2 * W S) = c * (W s + 1 + 2 * W S) + (W s + 1 + 2 * W S) by rw [Nat.add_mul, Nat.one_mul]]
    omega
theorem excess_told {s S c : Nat} (hs : 1 ≤ s) (hS : 1 ≤ S) (hc : c ≤ 2 ^ 190) : P s c ≤ T 1 S c + (c * (W s + 1 + 2 * W S) + W s + 2 + 2 * (bl (c + 1) - 1)) := by
  have h1 := Ws_told hs hS c hc
  have h2 : W (c + 1) ≤ bl (c + 1) := by
    show bl (c + 1 - 1) ≤ _
    rw [Nat.add_sub_cancel, bl_le]
    have := bl_le.mp (Nat.le_refl (bl (c + 1)))
    omega
  have h3 : 1 ≤ bl (c + 1) := by
    rcases Nat.eq_zero_or_pos (bl (c + 1)) with z | z
    · have := bl_le.mp (Nat.le_of_eq z)
      simp at this
    · exact z
  unfold P
  omega
end K21

set_option linter.all false
set_option maxRecDepth 100000
namespace K21
open PySem PySem.Spec PyProof.Rows L2 DL
open K02 (wt wt_zero)
def S_level_total : DSp := fun ds Q => ∃ (c h l : Nat) (i j k : Int), ds = [.int i, .int j, .int k] ∧ i = c ∧ j = h ∧ k = l ∧ c < 2 ^ 195 ∧ 1 ≤ h ∧ l ≤ 1 ∧ ∀ r : Int, r = (wt l c (geo h 200) : Nat) → Q (.int r)
def S_shared_total : DSp := fun ds Q => ∃ (n s : Nat) (i j : Int), ds = [.int i, .int j] ∧ i = n ∧ j = s ∧ n ≤ 2 ^ 190 ∧ 1 ≤ s ∧ ∀ r : Int, r = (T 0 s n : Nat) → Q (.int r)
def S_floor_bits : DSp := fun ds Q => ∃ (s n : Nat) (i j : Int), ds = [.int i, .int j] ∧ i = s ∧ j = n ∧ n ≤ 2 ^ 190 ∧ 1 ≤ s ∧ s < 2 ^ 60 ∧ ∀ r : Int, r = (T 1 s n : Nat) → Q (.int r)
def S_width : DSp := fun ds Q => ∃ (n : Nat) (i : Int), ds = [.int i] ∧ i = n ∧ 1 ≤ n ∧ ∀ r : Int, r = (W n : Nat) → Q (.int r)
def S_pressed_length : DSp := fun ds Q => ∃ (s c : Nat) (i j : Int), ds = [.int i, .int j] ∧ i = s ∧ j = c ∧ 1 ≤ s ∧ s ≤ 6 ∧ ∀ r : Int, r = (P s c : Nat) → Q (.int r)
def S_excess : DSp := fun ds Q => ∃ (s S c : Nat) (i j k : Int), ds = [.int i, .int j, .int k] ∧ i = s ∧ j = S ∧ k = c ∧ 1 ≤ s ∧ s ≤ 6 ∧ 1 ≤ S ∧ S < 2 ^ 60 ∧ c ≤ 2 ^ 190 ∧ ∀ r : Int, r = (P s c : Nat) - (T 1 S c : Nat) → Q (.int r)
def told (s S c : Nat) : Nat := c * (W s + 1 + 2 * W S) + W s + 2 + 2 * (bl (c + 1) - 1)
def S_told_excess : DSp := fun ds Q => ∃ (s S c : Nat) (i j k : Int), ds = [.int i, .int j, .int k] ∧ i = s ∧ j = S ∧ k = c ∧ 1 ≤ s ∧ s ≤ 6 ∧ 1 ≤ S ∧ S < 2 ^ 60 ∧ ∀ r : Int, r = (told s S c : Nat) → Q (.int r)
theorem len_level_total : ∀ ds Q, S_level_total ds Q → ds.length = (["count", "room", "shortest"] : List Str).length := by rintro _ _ ⟨_, _, _, _, _, _, rfl, _⟩; rfl
theorem len_shared_total : ∀ ds Q, S_shared_total ds Q → ds.length = (["count", "share"] : List Str).length := by rintro _ _ ⟨_, _, _, _, rfl, _⟩; rfl
theorem len_floor_bits : ∀ ds Q, S_floor_bits ds Q → ds.length = (["standings", "count"] : List Str).length := by rintro _ _ ⟨_, _, _, _, rfl, _⟩; rfl
theorem len_width : ∀ ds Q, S_width ds Q → ds.length = (["options"] : List Str).length := by rintro _ _ ⟨_, _, rfl, _⟩; rfl
theorem len_pressed_length : ∀ ds Q, S_pressed_length ds Q → ds.length = (["size", "count"] : List Str).length := by rintro _ _ ⟨_, _, _, _, rfl, _⟩; rfl
theorem len_excess : ∀ ds Q, S_excess ds Q → ds.length = (["size", "standings", "count"] : List Str).length := by rintro _ _ ⟨_, _, _, _, _, _, rfl, _⟩; rfl
theorem len_told_excess : ∀ ds Q, S_told_excess ds Q → ds.length = (["size", "standings", "count"] : List Str).length := by rintro _ _ ⟨_, _, _, _, _, _, rfl, _⟩; rfl
theorem rd_level_total (ds : List D) (Q : D → Prop) (h : S_level_total ds Q) : t_level_total { nx := fun _ => false = false ∧ Q .non, rt := Q } (startD 8 ds) := by
  obtain ⟨c, h, l, i, j, k, rfl, rfl, rfl, rfl, hc, hh, hl, q⟩ := h
  have hs0 : c ≤ (geo h 200).sum := by
    rw [geo_sum]
    have : 1 * (2 ^ 200 - 1) ≤ h * (2 ^ 200 - 1) := Nat.mul_le_mul_right _ hh
    have : 2 ^ 195 ≤ 2 ^ 200 - 1 := by decide
    omega
  have h10 : 0 + wt (l + 0) c (geo (h * 2 ^ 0) (200 - 0)) = wt l c (geo h 200) := by rw [Nat.zero_add, Nat.add_zero, Nat.pow_zero, Nat.mul_one]
  have h20 : c ≤ (geo (h * 2 ^ 0) (200 - 0)).sum := by rw [Nat.pow_zero, Nat.mul_one]; exact hs0
  generalize wt l c (geo h 200) = R at q h10
  refine ⟨fun m env => ∃ (k tot left : Nat) (a b e f : Int) (x : Sl), env = [.fz (.int c), .fz (.int h), .fz (.int l), .fz (.int a), .fz (.int b), .fz (.int e), .fz (.int f), x] ∧ a = tot ∧ b = left ∧ e = (h * 2 ^ k : Nat) ∧ f = (l + k : Nat) ∧
      tot + wt (l + k) left (geo (h * 2 ^ k) (200 - k)) = R ∧ left ≤ (geo (h * 2 ^ k) (200 - k)).sum ∧ k ≤ 200 ∧ m = 200 - k,
    ⟨200, 0, 0, c, _, _, _, _, _, rfl, rfl, rfl, by rw [Nat.pow_zero, Nat.mul_one], rfl, h10, h20, by omega, by omega⟩, ?_⟩
  rintro m _ ⟨k, tot, left, a, b, e, f, x, rfl, rfl, rfl, rfl, rfl, h1, h2, h3, rfl⟩
  refine ⟨fun hb => ?_, fun hb => ?_⟩
  · have hb := of_decide_eq_true hb
    have hk : k < 200 := by
      rcases Nat.lt_or_ge k 200 with z | z
      · exact z
      · have : 200 - k = 0 := by omega
        rw [this] at h2
        simp [geo] at h2
        omega
    obtain ⟨n, hn⟩ : ∃ n, 200 - k = n + 1 := ⟨200 - k - 1, by omega⟩
    rw [hn] at h1 h2
    simp only [geo, wt, List.sum_cons] at h1 h2
    have e2 : h * 2 ^ k * 2 = h * 2 ^ (k + 1) := by rw [Nat.pow_succ, Nat.mul_assoc]
    rw [e2] at h1 h2
    refine ⟨mul_r (by omega) (by omega), mul_r (by decide) (by decide), n, by omega, k + 1, tot + min left (h * 2 ^ k) * (l + k), left - min left (h * 2 ^ k), _, _, _, _, _, rfl, ?_, ?_, ?_, by omega, ?_, ?_, by omega, by omega⟩
    · have : ((min left (h * 2 ^ k) : Nat) : Int) = min (left : Int) ((h * 2 ^ k : Nat) : Int) := by omega
      show (tot : Int) + min (left : Int) ((h * 2 ^ k : Nat) : Int) * ((l + k : Nat) : Int) = ((tot + min left (h * 2 ^ k) * (l + k) : Nat) : Int)
      rw [← this, ← Int.natCast_mul, ← Int.natCast_add]
    · show (left : Int) - min (left : Int) ((h * 2 ^ k : Nat) : Int) = _
      omega
    · show ((h * 2 ^ k : Nat) : Int) * 2 = _
      rw [← e2]
      omega
    · rw [show 200 - (k + 1) = n by omega, show l + (k + 1) = l + k + 1 by omega]
      omega
    · rw [show 200 - (k + 1) = n by omega]
      omega
  · have hb := of_decide_eq_false hb
    have : left = 0 := by omega
    subst this
    rw [wt_zero] at h1
    exact q _ (by omega)
theorem rd_shared_total (ds : List D) (Q : D → Prop) (h : S_shared_total ds Q) : t_shared_total S_level_total { nx := fun _ => false = false ∧ Q .non, rt := Q } (startD 2 ds) := by
  obtain ⟨n, s, i, j, rfl, rfl, rfl, hn, hs, q⟩ := h
  exact ⟨n, s, 0, _, _, _, rfl, rfl, rfl, rfl, Nat.lt_of_le_of_lt hn (by decide), hs, by omega, fun r hr => q r hr⟩
theorem rd_floor_bits (ds : List D) (Q : D → Prop) (h : S_floor_bits ds Q) : t_floor_bits S_level_total { nx := fun _ => false = false ∧ Q .non, rt := Q } (startD 3 ds) := by
  obtain ⟨s, n, i, j, rfl, rfl, rfl, hn, hs, hs2, q⟩ := h
  have e1 : (s : Int) * ((s : Int) - 1) / 2 = (s * (s - 1) / 2 : Nat) := by
    rw [Int.natCast_ediv, Int.natCast_mul, Int.natCast_sub hs]; rfl
  refine ⟨mul_l (by omega) (by omega), by decide, log_ok (by decide) (by decide), mul_l (by decide) (by decide), mul_r (by omega) (by omega), n - s * (s - 1) / 2, 2 * s * s, 1, _, _, _, rfl, ?_, by rw [Int.natCast_mul, Int.natCast_mul]; rfl, rfl, ?_, Nat.mul_pos (by omega) hs, by omega, fun r hr => q r ?_⟩
  · rw [e1]; omega
  · have : 2 ^ 190 < 2 ^ 195 := by decide
    omega
  · rw [hr]
    show _ = ((min n (s * (s - 1) / 2) * 0 + wt (0 + 1) (n - min n (s * (s - 1) / 2)) (geo (2 * s * s) 199) : Nat) : Int)
    have e2 : n - s * (s - 1) / 2 = n - min n (s * (s - 1) / 2) := by omega
    have hcut : wt 1 (n - s * (s - 1) / 2) (geo (2 * s * s) 200) = wt 1 (n - s * (s - 1) / 2) (geo (2 * s * s) 199) := by
      rw [show 200 = 199 + 1 by omega, geo_app, wt_cut]
      rw [geo_sum]
      have : 1 * (2 ^ 199 - 1) ≤ 2 * s * s * (2 ^ 199 - 1) := Nat.mul_le_mul_right _ (Nat.mul_pos (by omega) hs)
      have : 2 ^ 190 ≤ 2 ^ 199 - 1 := by decide
      omega
    rw [hcut, e2, Nat.mul_zero, Nat.zero_add]
theorem rd_width (ds : List D) (Q : D → Prop) (h : S_width ds Q) : t_width { nx := fun _ => false = false ∧ Q .non, rt := Q } (startD 1 ds) := by
  obtain ⟨n, i, rfl, rfl, h1, q⟩ := h
  refine q (Builtin.Int.intBits ((n : Int) - 1) : Nat) ?_
  unfold W bl
  rw [Int.natCast_sub h1] <;> rfl
theorem rd_pressed_length (ds : List D) (Q : D → Prop) (h : S_pressed_length ds Q) : t_pressed_length S_width { nx := fun _ => false = false ∧ Q .non, rt := Q } (startD 6 ds) := by
  obtain ⟨s, c, i, j, rfl, rfl, rfl, hs, hs6, q⟩ := h
  refine ⟨c + 1, _, rfl, by omega, by omega, fun r hr => ⟨fun h => ?_, fun h => ?_⟩⟩
  · have hs1 : s = 1 := by have := of_decide_eq_true h; omega
    refine q (r + ((c : Int) + 1)) ?_
    subst hs1
    unfold P
    rw [Ws_one]
    omega
  · have hs2 : 2 ≤ s := by
      have := of_decide_eq_false h
      omega
    have big : ∀ w, (c + 1) * (s - 1) + 2 ≤ w → c + 1 ≤ nar s w := fun w hw => nar_big hs2 (Nat.le_trans hw (Nat.le_of_lt Nat.lt_two_pow_self))
    refine ⟨fun m env => ∃ (w : Nat) (tot pw na : Int), env = [.fz (.int s), .fz (.int c), .fz (.int ((c : Int) + 1)), .fz (.int tot), .fz (.int pw), .fz (.int na)] ∧ tot = (W (c + 1) + Sm s w (c + 1) : Nat) ∧ pw = (2 ^ w : Nat) ∧ na = (nar s w : Nat) ∧ w + m = (c + 1) * (s - 1) + 2,
      ⟨(c + 1) * (s - 1) + 2, 0, r, 1, 0, rfl, by rw [Sm_zero]; omega, by simp, by simp [nar], by omega⟩, ?_⟩
    rintro m _ ⟨w, tot, pw, na, rfl, h1, h2, h3, h4⟩
    refine ⟨fun h => ?_, fun h => ?_⟩
    · have hn := of_decide_eq_true h
      have hw : w < (c + 1) * (s - 1) + 2 := by
        rcases Nat.lt_or_ge w ((c + 1) * (s - 1) + 2) with z | z
        · exact z
        · have := big w z; omega
      refine ⟨mul_r (by decide) (by decide), by omega, log_ok (by omega) (by omega), m - 1, by omega, w + 1, _, _, _, rfl, ?_, ?_, ?_, by omega⟩
      · rw [Sm_succ hs2]; omega
      · rw [h2, Nat.pow_succ]; omega
      · unfold nar
        have h3 : 2 ≤ 2 ^ (w + 1) := by rw [Nat.pow_succ]; have := Nat.two_pow_pos w; omega
        rw [Int.natCast_ediv, Int.natCast_sub h3, Int.natCast_sub hs, h2, Nat.pow_succ]
        rfl
    · have hn := of_decide_eq_false h
      refine q tot ?_
      rw [h1, Sm_eq hs2 _ (by omega)]
      rfl
theorem rd_excess (ds : List D) (Q : D → Prop) (h : S_excess ds Q) : t_excess S_pressed_length S_floor_bits { nx := fun _ => false = false ∧ Q .non, rt := Q } (startD 3 ds) := by
  obtain ⟨s, S, c, i, j, k, rfl, rfl, rfl, rfl, hs, hs6, hS, hS2, hc, q⟩ := h
  exact ⟨s, c, _, _, rfl, rfl, rfl, hs, hs6, fun r hr => ⟨S, c, _, _, rfl, rfl, rfl, hc, hS, hS2, fun r2 hr2 => q _ (by rw [hr, hr2])⟩⟩
theorem rd_told_excess (ds : List D) (Q : D → Prop) (h : S_told_excess ds Q) : t_told_excess S_width { nx := fun _ => false = false ∧ Q .non, rt := Q } (startD 6 ds) := by
  obtain ⟨s, S, c, i, j, k, rfl, rfl, rfl, rfl, hs, hs6, hS, hS2, q⟩ := h
  have w1 : W s ≤ 60 := (W_le hs).mpr (Nat.le_trans hs6 (by decide))
  have w2 : W S ≤ 60 := (W_le hS).mpr (by omega)
  refine ⟨s, _, rfl, rfl, hs, fun r hr => ⟨S, _, rfl, rfl, hS, fun r2 hr2 => ⟨mul_l (by decide) (by decide), mul_r (by omega) (by omega), mul_l (by decide) (by decide), q _ ?_⟩⟩⟩
  have h3 : 1 ≤ bl (c + 1) := by
    rcases Nat.eq_zero_or_pos (bl (c + 1)) with z | z
    · have := bl_le.mp (Nat.le_of_eq z)
      simp at this
    · exact z
  have e : ((Builtin.Int.intBits ((c : Int) + 1) : Nat) : Int) = (bl (c + 1) : Nat) := rfl
  unfold told
  rw [hr, hr2, e, Int.natCast_add, Int.natCast_add, Int.natCast_add, Int.natCast_mul, show ((W s + 1 + 2 * W S : Nat) : Int) = (W s : Int) + 1 + 2 * (W S : Int) by omega]
  omega
end K21

set_option linter.all false
set_option maxRecDepth 100000
namespace K21
open PySem PySem.Spec PyProof.Rows L2 DL
open K02 (wt wt_zero)
def S__law_whole : DSp := fun ds Q => ∃ i : Int, ds = [.int i] ∧ Q (.bl true)
def S__law_cell : DSp := fun ds Q => ∃ (ns : List Int) (i : Int), ds = [.scr ns, .int i] ∧ 0 ≤ i ∧ i < 2 ^ 40 ∧ ∀ r : Int, Q (.int r)
def S__law_digits : DSp := fun ds Q => ∃ (cell : Int) (sizes : List Int), ds = [.int cell, .lst (sizes.map .int)] ∧ sizes.length ≤ 1000 ∧ (∀ z ∈ sizes, 1 ≤ z ∧ z < 2 ^ 64) ∧
  ∀ row : List Int, row.length = sizes.length → (∀ (k : Nat) (x z : Int), row[k]? = some x → sizes[k]? = some z → 0 ≤ x ∧ x < z) → Q (.lst (row.map .int))
theorem len__law_whole : ∀ ds Q, S__law_whole ds Q → ds.length = (["value"] : List Str).length := by rintro _ _ ⟨_, rfl, _⟩; rfl
theorem len__law_cell : ∀ ds Q, S__law_cell ds Q → ds.length = (["script", "k"] : List Str).length := by rintro _ _ ⟨_, _, rfl, _⟩; rfl
theorem len__law_digits : ∀ ds Q, S__law_digits ds Q → ds.length = (["cell", "tops"] : List Str).length := by rintro _ _ ⟨_, _, rfl, _⟩; rfl
theorem rd__law_whole (ds : List D) (Q : D → Prop) (h : S__law_whole ds Q) : t__law_whole { nx := fun _ => false = false ∧ Q .non, rt := Q } (startD 1 ds) := by
  obtain ⟨i, rfl, q⟩ := h
  exact ⟨rfl, fun _ => ⟨rfl, q⟩, fun z => by cases z⟩
theorem rd__law_cell (ds : List D) (Q : D → Prop) (h : S__law_cell ds Q) : t__law_cell { nx := fun _ => false = false ∧ Q .non, rt := Q } (startD 4 ds) := by
  obtain ⟨ns, i, rfl, h0, h1, q⟩ := h
  refine ⟨fun h => ?_, fun _ => ?_⟩
  · have hl := of_decide_eq_true h
    exact ⟨_, at_ok (k := i.toNat) (by omega) (by omega), q _⟩
  · refine ⟨fun _ env => ∃ (sd : Int) (x : Sl), env = [.fz (.scr ns), .fz (.int i), .fz (.int sd), x] ∧ 0 ≤ sd ∧ sd < 1000003, ⟨17, _, rfl, by omega, by omega⟩, ?_, ?_⟩
    · rintro k d _ hd ⟨sd, x, rfl, h2, h3⟩
      obtain ⟨z, hz⟩ : ∃ z, d = .int z := by
        rw [List.getElem?_map] at hd
        cases q2 : ns[k]? with
        | none => rw [q2] at hd; cases hd
        | some z => rw [q2] at hd; exact ⟨z, (Option.some.inj hd).symm⟩
      subst hz
      refine ⟨mul_r (by decide) (by decide), by decide, by decide, _, _, rfl, ?_, ?_⟩
      · exact Int.emod_nonneg _ (by decide)
      · exact Int.emod_lt_of_pos _ (by decide)
    · rintro _ ⟨sd, x, rfl, h2, h3⟩
      exact ⟨mul_l (by omega) (by omega), mul_r (by decide) (by decide), by decide, q _⟩
theorem digits_step {row sizes : List Int} {k : Nat} {z y : Int} (hl : row.length = k) (hz : sizes[k]? = some z) (h0 : 0 ≤ y) (h1 : y < z) (h : ∀ (j : Nat) (x z : Int), row[j]? = some x → sizes[j]? = some z → 0 ≤ x ∧ x < z) :
    ∀ (j : Nat) (x z : Int), (row ++ [y])[j]? = some x → sizes[j]? = some z → 0 ≤ x ∧ x < z := fun j x w h2 h3 => by
  by_cases hj : j < row.length
  · rw [List.getElem?_append_left hj] at h2
    exact h j x w h2 h3
  · rw [List.getElem?_append_right (by omega)] at h2
    have : j - row.length = 0 := by
      rcases Nat.eq_zero_or_pos (j - row.length) with q | q
      · exact q
      · rw [List.getElem?_eq_none (by simp; omega)] at h2; cases h2
    rw [this] at h2
    have e : j = k := by omega
    rw [e, hz] at h3
    cases h3
    cases h2
    exact ⟨h0, h1⟩
theorem rd__law_digits (ds : List D) (Q : D → Prop) (h : S__law_digits ds Q) : t__law_digits { nx := fun _ => false = false ∧ Q .non, rt := Q } (startD 8 ds) := by
  obtain ⟨cell, sizes, rfl, hn, hs, q⟩ := h
  have hsl : sizeLine = 16777216 := sizeLine_eq
  have hln : (sizes.map D.int).length = sizes.length := List.length_map _
  refine ⟨Nat.zero_le _, by decide, by decide, by decide, ⟨fun _ => ?_, fun _ => ?_⟩⟩
  · refine ⟨by decide, by decide, by decide, ?_⟩
    refine ⟨fun k env => ∃ (row : List Int) (rest : Int) (x4 x5 x6 x7 : Sl), env = [.fz (.int cell), .fz (.lst (sizes.map .int)), .ow (.lst (row.map .int)), .fz (.int rest), x4, x5, x6, x7] ∧ row.length = k ∧ (∀ (j : Nat) (x z : Int), row[j]? = some x → sizes[j]? = some z → 0 ≤ x ∧ x < z),
      ⟨[], _, _, _, _, _, rfl, rfl, fun j x z h => by simp at h⟩, ?_, ?_⟩
    · rintro k d _ hd ⟨row, rest, x4, x5, x6, x7, rfl, hl, hr⟩
      obtain ⟨z, hz, rfl⟩ := map_get hd
      have hk : k < sizes.length := (List.getElem?_eq_some_iff.mp hz).1
      obtain ⟨h1, h2⟩ := hs z (List.mem_of_getElem? hz)
      refine ⟨by omega, by rw [List.length_map]; omega, by omega, log_ok (by omega) h2, row ++ [rest % z], _, _, _, _, _, by rw [List.map_append]; rfl, by rw [List.length_append, hl]; rfl, digits_step hl hz (Int.emod_nonneg _ (by omega)) (Int.emod_lt_of_pos _ (by omega)) hr⟩
    · rintro _ ⟨row, rest, x4, x5, x6, x7, rfl, hl, hr⟩
      exact q row (by omega) hr
  · refine ⟨by decide, by omega, by omega, ?_⟩
    refine ⟨fun k env => ∃ (row : List Int) (sd : Int) (x3 x5 x6 x7 : Sl), env = [.fz (.int cell), .fz (.lst (sizes.map .int)), .ow (.lst (row.map .int)), x3, .fz (.int sd), x5, x6, x7] ∧ row.length = k ∧ 0 ≤ sd ∧ sd < 2147483647 ∧ (∀ (j : Nat) (x z : Int), row[j]? = some x → sizes[j]? = some z → 0 ≤ x ∧ x < z),
      ⟨[], _, _, _, _, _, rfl, rfl, Int.emod_nonneg _ (by decide), Int.lt_trans (Int.emod_lt_of_pos _ (by decide)) (by decide), fun j x z h => by simp at h⟩, ?_, ?_⟩
    · rintro k d _ hd ⟨row, sd, x3, x5, x6, x7, rfl, hl, h0, h1, hr⟩
      obtain ⟨hk, rfl⟩ := rngD_get hd
      have hk' : k < sizes.length := by rw [← hln]; simpa using hk
      have hz := List.getElem?_eq_getElem hk'
      obtain ⟨h3, h4⟩ := hs _ (List.mem_of_getElem? hz)
      have hat : atI (sizes.map D.int) (0 + (k : Int)) = some (.int sizes[k]) := by
        rw [atI_map, at_ok (k := k) (by omega) hk']; rfl
      refine ⟨mul_r (by decide) (by decide), mul_l (by decide) (by decide), by decide, by decide, by decide, mul_l ?_ ?_, by decide, by decide, by decide, _, hat, by omega, by rw [List.length_map]; omega, row ++ [_], _, _, _, _, _, by rw [List.map_append]; rfl, by rw [List.length_append, hl]; rfl, Int.emod_nonneg _ (by decide), Int.emod_lt_of_pos _ (by decide), digits_step hl hz (Int.emod_nonneg _ (by omega)) (Int.emod_lt_of_pos _ (by omega)) hr⟩
      · have := Int.emod_nonneg (sd * 48271 + 974711 * (0 + (k : Int)) + 12345) (show (2147483647 : Int) ≠ 0 by decide)
        omega
      · have := Int.emod_lt_of_pos (sd * 48271 + 974711 * (0 + (k : Int)) + 12345) (show (0 : Int) < 2147483647 by decide)
        omega
    · rintro _ ⟨row, sd, x3, x5, x6, x7, rfl, hl, h0, h1, hr⟩
      refine q row ?_ hr
      rw [rngD_len] at hl
      simpa using hl
def S__law_width : DSp := fun ds Q => ∃ (n : Nat) (i : Int), ds = [.int i] ∧ i = n ∧ 1 ≤ n ∧ n ≤ 2 ^ 400 ∧ ∀ r : Int, r = (W n : Nat) → Q (.int r)
def S__law_log : DSp := fun ds Q => ∃ (n : Nat) (i : Int), ds = [.int i] ∧ i = n ∧ n < 2 ^ 400 ∧ ∀ r : Int, r = (bl n : Nat) - 1 → Q (.int r)
def S__law_rooms : DSp := fun ds Q => ∃ (w s n : Nat) (i j k : Int), ds = [.int i, .int j, .int k] ∧ i = w ∧ j = s ∧ k = n ∧ w ≤ 1 ∧ 1 ≤ s ∧ s < 2 ^ 60 ∧ 1 ≤ n ∧ n ≤ 200 ∧ Q (.lst (nats (rooms w s n)))
def S__law_filled : DSp := fun ds Q => ∃ (rs : List Nat) (m : Nat) (j : Int), ds = [.lst (nats rs), .int j] ∧ j = m ∧ rs.length ≤ 1000 ∧ ∀ r : Int, r = (wt 0 m rs : Nat) → Q (.int r)
def S__law_tight : DSp := fun ds Q => ∃ (rs us : List Nat), ds = [.lst (nats rs), .lst (nats us)] ∧ rs.length = us.length ∧ rs.length ≤ 1000 ∧ ∀ b : Bool, (b = true ↔ Tight (List.range rs.length) rs us) → Q (.bl b)
def S__law_told : DSp := fun ds Q => ∃ (w s m : Nat) (i j k : Int), ds = [.int i, .int j, .int k] ∧ i = w ∧ j = s ∧ k = m ∧ w ≤ 1 ∧ 1 ≤ s ∧ s < 2 ^ 60 ∧ m ≤ 2 ^ 190 ∧ ∀ r : Int, r = (T w s m : Nat) → Q (.int r)
def S__law_is_due : DSp := fun ds Q => ∃ (w s m : Nat) (i j k : Int), ds = [.int i, .int j, .int k] ∧ i = w ∧ j = s ∧ k = m ∧ w ≤ 1 ∧ 1 ≤ s ∧ s < 2 ^ 60 ∧ m ≤ 2 ^ 170 ∧ Q (.bl true)
def S__law_choice_holds : DSp := fun ds Q => ∃ (w s : Nat) (ls rs us : List Nat) (i j : Int) (b : Bool), ds = [.int i, .int j, .lst (nats ls), .lst (nats us), .bl b] ∧ i = w ∧ j = s ∧ w ≤ 1 ∧ 1 ≤ s ∧ s < 2 ^ 60 ∧ ls.length = rs.length ∧ rs.length = us.length ∧ us.length ≤ 1000 ∧ (∀ l ∈ ls, l < 1000) ∧ us.sum ≤ 2 ^ 190 ∧
  ls.Pairwise (· ≤ ·) ∧ (∀ (k r u : Nat), rs[k]? = some r → us[k]? = some u → u ≤ r) ∧ G ls rs us.sum = T w s us.sum ∧ (b = true ↔ Tight ls rs us) ∧ Q (.bl true)
theorem len__law_width : ∀ ds Q, S__law_width ds Q → ds.length = (["options"] : List Str).length := by rintro _ _ ⟨_, _, rfl, _⟩; rfl
theorem len__law_log : ∀ ds Q, S__law_log ds Q → ds.length = (["n"] : List Str).length := by rintro _ _ ⟨_, _, rfl, _⟩; rfl
theorem len__law_rooms : ∀ ds Q, S__law_rooms ds Q → ds.length = (["which", "often", "lengths"] : List Str).length := by rintro _ _ ⟨_, _, _, _, _, _, rfl, _⟩; rfl
theorem len__law_filled : ∀ ds Q, S__law_filled ds Q → ds.length = (["rooms", "many"] : List Str).length := by rintro _ _ ⟨_, _, _, rfl, _⟩; rfl
theorem len__law_tight : ∀ ds Q, S__law_tight ds Q → ds.length = (["rooms", "uses"] : List Str).length := by rintro _ _ ⟨_, _, rfl, _⟩; rfl
theorem len__law_told : ∀ ds Q, S__law_told ds Q → ds.length = (["which", "often", "many"] : List Str).length := by rintro _ _ ⟨_, _, _, _, _, _, rfl, _⟩; rfl
theorem len__law_is_due : ∀ ds Q, S__law_is_due ds Q → ds.length = (["which", "often", "many"] : List Str).length := by rintro _ _ ⟨_, _, _, _, _, _, rfl, _⟩; rfl
theorem len__law_choice_holds : ∀ ds Q, S__law_choice_holds ds Q → ds.length = (["which", "often", "lengths", "uses", "tight"] : List Str).length := by rintro _ _ ⟨_, _, _, _, _, _, _, _, rfl, _⟩; rfl
theorem rd__law_width (ds : List D) (Q : D → Prop) (h : S__law_width ds Q) : t__law_width { nx := fun _ => false = false ∧ Q .non, rt := Q } (startD 4 ds) := by
  obtain ⟨n, i, rfl, rfl, h1, h2, q⟩ := h
  have fin : ∀ k : Nat, W n ≤ k → (∀ j, j < k → 2 ^ j < n) → ∀ r : Int, r = k → Q (.int r) := fun k hk hj r hr => by
    refine q r ?_
    have : ¬ W n < k := fun z => by
      have := hj (W n) z
      have := W_self h1
      omega
    omega
  refine ⟨by decide, by decide, fun k env => ∃ (w t : Int) (x : Sl), env = [.fz (.int n), .fz (.int w), .fz (.int t), x] ∧ w = k ∧ t = (2 ^ k : Nat) ∧ ∀ j, j < k → 2 ^ j < n,
    ⟨_, _, _, rfl, rfl, rfl, fun j hj => absurd hj (Nat.not_lt_zero _)⟩, ?_, ?_⟩
  · rintro k d _ hd ⟨w, t, x, rfl, rfl, rfl, hj⟩
    obtain ⟨hk, rfl⟩ := rngD_get hd
    refine ⟨fun h => ?_, fun h => ?_⟩
    · have := of_decide_eq_true h
      exact fin k (by rw [W_le h1]; omega) hj _ rfl
    · have := of_decide_eq_false h
      refine ⟨mul_r (by decide) (by decide), _, _, _, rfl, rfl, by rw [Nat.pow_succ]; rfl, fun j hj2 => ?_⟩
      by_cases e : j = k
      · subst e; omega
      · exact hj j (by omega)
  · rintro _ ⟨w, t, x, rfl, rfl, rfl, hj⟩
    rw [rngD_len] at hj ⊢
    exact fin 400 (by rw [W_le h1]; exact h2) hj _ rfl
theorem bl_pos {n : Nat} (h : 1 ≤ n) : 1 ≤ bl n := by
  rcases Nat.eq_zero_or_pos (bl n) with z | z
  · have := bl_le.mp (Nat.le_of_eq z)
    simp at this
    omega
  · exact z
theorem rd__law_log (ds : List D) (Q : D → Prop) (h : S__law_log ds Q) : t__law_log S__law_width { nx := fun _ => false = false ∧ Q .non, rt := Q } (startD 1 ds) := by
  obtain ⟨n, i, rfl, rfl, hn, q⟩ := h
  exact ⟨n + 1, _, rfl, rfl, by omega, by omega, fun r hr => q _ (by rw [hr]; rfl)⟩
theorem rd__law_rooms (ds : List D) (Q : D → Prop) (h : S__law_rooms ds Q) : t__law_rooms { nx := fun _ => false = false ∧ Q .non, rt := Q } (startD 6 ds) := by
  obtain ⟨w, s, n, i, j, k, rfl, rfl, rfl, rfl, hw, hs, hs2, hn, hn2, q⟩ := h
  have hsl : sizeLine = 16777216 := sizeLine_eq
  have main : ∀ (h : Nat) (l0 : List D) (h0 : Int), l0 = nats (rooms w s 1) → h0 = h → (∀ k, rooms w s (k + 1 + 1) = rooms w s (k + 1) ++ [h * 2 ^ k * 2]) → dFor (dRng2 (dC (.int 1)) (dVar 2)) (gNm 5) (dSeq (dSet 4 (dOp cMul (dVar 4) (dC (.int 2)))) (dDrop (dApp 3 (dVar 4))))
      { nx := r__law_rooms_1 { nx := fun _ => false = false ∧ Q .non, rt := Q }, rt := Q } [.fz (.int w), .fz (.int s), .fz (.int n), .ow (.lst l0), .fz (.int h0), .no] := by
    rintro h _ _ rfl rfl hk
    refine ⟨⟨by decide, by decide, by omega, by omega⟩, fun k env => ∃ (hi : Int) (x : Sl), env = [.fz (.int w), .fz (.int s), .fz (.int n), .ow (.lst (nats (rooms w s (k + 1)))), .fz (.int hi), x] ∧ hi = (h * 2 ^ k : Nat), ⟨_, _, rfl, by rw [Nat.pow_zero, Nat.mul_one]⟩, ?_, ?_⟩
    · rintro k d _ hd ⟨hi, x, rfl, rfl⟩
      obtain ⟨hk2, rfl⟩ := rngD_get hd
      have e2 : ((h * 2 ^ k : Nat) : Int) * 2 = (h * 2 ^ k * 2 : Nat) := by omega
      refine ⟨mul_r (by decide) (by decide), by rw [nats_len, rooms_len (by omega)]; omega, ((h * 2 ^ k * 2 : Nat) : Int), .fz (.int (1 + (k : Nat))), ?_, by rw [Nat.pow_succ, Nat.mul_assoc]⟩
      rw [hk k, nats_app]
      show ss (ss (ss _ 5 _) 4 (.fz (.int (((h * 2 ^ k : Nat) : Int) * 2)))) 3 (.ow (.lst (nats (rooms w s (k + 1)) ++ [.int (((h * 2 ^ k : Nat) : Int) * 2)]))) = _
      rw [e2]
      rfl
    · rintro _ ⟨hi, x, rfl, rfl⟩
      rw [rngD_len, show Int.toNat ((n : Int) - 1) + 1 = n by omega]
      exact q
  refine ⟨by simp [hsl], fun hb => ?_, fun hb => ?_⟩
  · have hb := of_decide_eq_true hb
    have hw1 : w = 1 := by omega
    subst hw1
    refine ⟨mul_l (by omega) (by omega), by decide, log_ok (by decide) (by decide), by simp [hsl], mul_l (by omega) (by omega), ?_⟩
    have e1 : (s : Int) * ((s : Int) - 1) / 2 = (s * (s - 1) / 2 : Nat) := by
      rw [Int.natCast_ediv, Int.natCast_mul, Int.natCast_sub hs]; rfl
    have e2 : (s : Int) * (s : Int) = (s * s : Nat) := by rw [Int.natCast_mul]
    exact main (s * s) _ _ (by show [D.int ((s : Int) * ((s : Int) - 1) / 2)] = [D.int (s * (s - 1) / 2 : Nat)]; rw [e1]) e2 fun k => by
      show s * (s - 1) / 2 :: geo (2 * s * s) (k + 1) = s * (s - 1) / 2 :: geo (2 * s * s) k ++ [s * s * 2 ^ k * 2]
      rw [geo_app, List.cons_append]
      congr 2
      show [2 * s * s * 2 ^ k] = _
      congr 1
      rw [Nat.mul_assoc 2 s s, Nat.mul_comm 2, Nat.mul_assoc, Nat.mul_comm 2, ← Nat.mul_assoc]
  · have hb := of_decide_eq_false hb
    have hw1 : w = 0 := by omega
    subst hw1
    exact main s _ _ rfl rfl fun k => by
      show geo s (k + 1 + 1) = geo s (k + 1) ++ [s * 2 ^ k * 2]
      rw [geo_app (k + 1) 1 s]
      congr 1
      show [s * 2 ^ (k + 1)] = _
      rw [Nat.pow_succ, Nat.mul_assoc]
theorem wt_dropD {k m : Nat} {cs : List Nat} {c : Nat} (h : cs[k]? = some c) (j : Nat) : wt j m (cs.drop k) = min m c * j + wt (j + 1) (m - min m c) (cs.drop (k + 1)) := by
  obtain ⟨hk, e⟩ := List.getElem?_eq_some_iff.mp h
  rw [List.drop_eq_getElem_cons hk, e]
  rfl
theorem rd__law_filled (ds : List D) (Q : D → Prop) (h : S__law_filled ds Q) : t__law_filled { nx := fun _ => false = false ∧ Q .non, rt := Q } (startD 6 ds) := by
  obtain ⟨rs, m, j, rfl, rfl, hl, q⟩ := h
  have hl' := nats_len rs
  refine ⟨by omega, by omega, fun k env => ∃ (t l : Nat) (ti li : Int) (x y : Sl), env = [.fz (.lst (nats rs)), .fz (.int m), .fz (.int ti), .fz (.int li), x, y] ∧ ti = t ∧ li = l ∧ t + wt k l (rs.drop k) = wt 0 m rs,
    ⟨0, m, _, _, _, _, rfl, rfl, rfl, by simp⟩, ?_, ?_⟩
  · rintro k d _ hd ⟨t, l, ti, li, x, y, rfl, rfl, rfl, ht⟩
    obtain ⟨hk, rfl⟩ := rngD_get hd
    have hk' : k < rs.length := by omega
    rw [wt_dropD (List.getElem?_eq_getElem hk')] at ht
    refine ⟨.int rs[k], nats_at (by omega) hk', mul_l (by omega) (by omega), t + min l rs[k] * k, l - min l rs[k], _, _, _, _, rfl, ?_, ?_, by omega⟩
    · show (t : Int) + ((0 : Int) + (k : Nat)) * min (l : Int) (rs[k] : Nat) = _
      rw [Int.natCast_add, Int.natCast_mul, show ((0 : Int) + (k : Nat)) = ((k : Nat) : Int) by omega, show min (l : Int) (rs[k] : Nat) = (min l rs[k] : Nat) by omega, Int.mul_comm]
    · show (l : Int) - min (l : Int) (rs[k] : Nat) = _
      omega
  · rintro _ ⟨t, l, ti, li, x, y, rfl, rfl, rfl, ht⟩
    refine q t ?_
    rw [rngD_len] at ht
    rw [show (Int.toNat ((nats rs).length : Nat)) = rs.length by omega, List.drop_length] at ht
    rw [← ht]
    rfl
theorem rd__law_told (ds : List D) (Q : D → Prop) (h : S__law_told ds Q) : t__law_told S_shared_total S_floor_bits S__law_whole { nx := fun _ => false = false ∧ Q .non, rt := Q } (startD 5 ds) := by
  obtain ⟨w, s, m, i, j, k, rfl, rfl, rfl, rfl, hw, hs, hs2, hm, q⟩ := h
  have fin : ∀ r r2 : Int, r = (T w s m : Nat) → r2 = (T w s m : Nat) → (!decide (r = r2)) = true → False := fun r r2 h1 h2 h3 => by rw [h1, h2] at h3; simp at h3
  refine ⟨fun hb => ?_, fun hb => ?_⟩
  · have hb := of_decide_eq_true hb
    have hw1 : w = 0 := by omega
    subst hw1
    exact ⟨m, s, _, _, rfl, rfl, rfl, hm, hs, fun r hr => ⟨rfl, rfl, m, s, _, _, rfl, rfl, rfl, hm, hs, fun r2 hr2 => ⟨r, rfl, fun z => (nomatch z), fun _ => ⟨r2, rfl, fun z => (nomatch z), fun _ => ⟨fun z => (fin r r2 hr hr2 z).elim, fun _ => q r hr⟩⟩⟩⟩⟩
  · have hb := of_decide_eq_false hb
    have hw1 : w = 1 := by omega
    subst hw1
    exact ⟨s, m, _, _, rfl, rfl, rfl, hm, hs, hs2, fun r hr => ⟨rfl, rfl, s, m, _, _, rfl, rfl, rfl, hm, hs, hs2, fun r2 hr2 => ⟨r, rfl, fun z => (nomatch z), fun _ => ⟨r2, rfl, fun z => (nomatch z), fun _ => ⟨fun z => (fin r r2 hr hr2 z).elim, fun _ => q r hr⟩⟩⟩⟩⟩
theorem rd__law_is_due (ds : List D) (Q : D → Prop) (h : S__law_is_due ds Q) : t__law_is_due S__law_told S__law_filled S__law_rooms { nx := fun _ => false = false ∧ Q .non, rt := Q } (startD 3 ds) := by
  obtain ⟨w, s, m, i, j, k, rfl, rfl, rfl, rfl, hw, hs, hs2, hm, q⟩ := h
  have p1 : 2 ^ 170 ≤ 2 ^ 190 := by decide
  refine ⟨w, s, m, _, _, _, rfl, rfl, rfl, rfl, hw, hs, hs2, by omega, fun r hr => ⟨w, s, 180, _, _, _, rfl, rfl, rfl, rfl, hw, hs, hs2, by decide, by decide, rooms w s 180, m, _, rfl, rfl, by rw [rooms_len (by decide)]; decide, fun r2 hr2 => ?_⟩⟩
  rw [T_cut (by decide) (by decide)] at hr2
  · show Q (.bl (decide (r = r2)))
    rw [hr, hr2]
    simpa using q
  · have := rooms_sum (which := w) (s := s) (n := 180) hs (by decide)
    have : 2 ^ 170 ≤ 2 ^ (180 - 1) - 1 := by decide
    omega
end K21

set_option linter.all false
set_option maxRecDepth 100000
namespace K21
open PySem PySem.Spec PyProof.Rows L2 DL
open K02 (wt wt_zero)
def tInv (rs us : List Nat) (k : Nat) (env : DEnv) : Prop := ∃ (g : Bool) (x : Sl), env = [.fz (.lst (nats rs)), .fz (.lst (nats us)), .fz (.bl g), x] ∧ (g = true ↔ ∃ j r u : Nat, j < k ∧ rs[j]? = some r ∧ us[j]? = some u ∧ u < r) ∧
  ∀ (j i r u v : Nat), i < k → rs[j]? = some r → us[j]? = some u → u < r → us[i]? = some v → 0 < v → i ≤ j
theorem rd__law_tight (ds : List D) (Q : D → Prop) (h : S__law_tight ds Q) : t__law_tight { nx := fun _ => false = false ∧ Q .non, rt := Q } (startD 4 ds) := by
  obtain ⟨rs, us, rfl, he, hl, q⟩ := h
  have l1 := nats_len rs
  have l2 := nats_len us
  refine ⟨by omega, by omega, tInv rs us, ⟨false, _, rfl, ⟨fun z => (nomatch z), fun ⟨_, _, _, z, _⟩ => absurd z (Nat.not_lt_zero _)⟩, fun j i r u v z => absurd z (Nat.not_lt_zero _)⟩, ?_, ?_⟩
  · rintro k d _ hd ⟨g, x, rfl, hg, ht⟩
    obtain ⟨hk, rfl⟩ := rngD_get hd
    have hk1 : k < rs.length := by omega
    have hk2 : k < us.length := by omega
    have er := List.getElem?_eq_getElem hk1
    have eu := List.getElem?_eq_getElem hk2
    have ar : atI (nats rs) (0 + (k : Int)) = some (.int rs[k]) := nats_at (by omega) hk1
    have au : atI (nats us) (0 + (k : Int)) = some (.int us[k]) := nats_at (by omega) hk2
    have bad : g = true → 0 < us[k] → Q (.bl false) := fun hgt hu => by
      refine q false ⟨fun z => (nomatch z), fun hT => ?_⟩
      obtain ⟨j, r, u, hj, a, b, c⟩ := hg.mp hgt
      have := hT j k j r u k us[k] (by rw [List.getElem?_range (by have := (List.getElem?_eq_some_iff.mp a).1; omega)]) a b c (by rw [List.getElem?_range hk1]) eu hu
      omega
    have nxt : (g = true → us[k] = 0) → ∀ DE : DEnds, DE.nx = tInv rs us (k + 1) → dIfS (dCmpT cLt (dOp cIx (dVar 1) (dVar 3)) (dOp cIx (dVar 0) (dVar 3))) (dSet 2 (dC (.bl true))) dNext DE [.fz (.lst (nats rs)), .fz (.lst (nats us)), .fz (.bl g), .fz (.int (0 + (k : Nat)))] := by
      intro hz DE hDE
      have fin : ∀ env, tInv rs us (k + 1) env → DE.nx env := fun env h => by rw [hDE]; exact h
      have tight : ∀ (j i r u v : Nat), i < k + 1 → rs[j]? = some r → us[j]? = some u → u < r → us[i]? = some v → 0 < v → i ≤ j := fun j i r u v hi a b c d e => by
        by_cases hik : i = k
        · subst hik
          rw [eu] at d
          cases d
          rcases Nat.lt_or_ge j i with z | z
          · have := hz (hg.mpr ⟨j, r, u, z, a, b, c⟩)
            omega
          · exact z
        · exact ht j i r u v (by omega) a b c d e
      refine ⟨.int us[k], au, .int rs[k], ar, fun hb => fin _ ?_, fun hb => fin _ ?_⟩
      · exact ⟨true, _, rfl, ⟨fun _ => ⟨k, rs[k], us[k], by omega, er, eu, by have := of_decide_eq_true hb; omega⟩, fun _ => rfl⟩, tight⟩
      refine ⟨g, _, rfl, ⟨fun z => ?_, fun ⟨j, r, u, z, a, b, c⟩ => ?_⟩, tight⟩
      · obtain ⟨j, r, u, z, a, b, c⟩ := hg.mp z
        exact ⟨j, r, u, by omega, a, b, c⟩
      · by_cases hjk : j = k
        · subst hjk
          rw [er] at a
          rw [eu] at b
          cases a
          cases b
          have := of_decide_eq_false hb
          omega
        · exact hg.mpr ⟨j, r, u, by omega, a, b, c⟩
    refine ⟨fun hgt => ⟨.int us[k], au, fun hb => ?_, fun hb => ?_⟩, fun hgf => ?_⟩
    · exact bad hgt (by have := of_decide_eq_true hb; omega)
    · exact nxt (fun _ => by have := of_decide_eq_false hb; omega) _ rfl
    · exact ⟨fun z => (nomatch z), fun _ => nxt (fun z => by rw [hgf] at z; cases z) _ rfl⟩
  · rintro _ ⟨g, x, rfl, hg, ht⟩
    rw [rngD_len, l1, show Int.toNat (rs.length : Nat) = rs.length by omega] at ht
    refine q true ⟨fun _ j k l r u l' u' a b c d e f g2 => ?_, fun _ => rfl⟩
    have hj := (List.getElem?_eq_some_iff.mp b).1
    have hk := (List.getElem?_eq_some_iff.mp f).1
    rw [List.getElem?_range hj] at a
    rw [List.getElem?_range (by omega)] at e
    cases a
    cases e
    exact ht j k r u u' (by omega) b c d f g2
theorem dot_zip : ∀ ls us : List Nat, (List.zipWith (· * ·) ls us).sum = dot ls us
  | [], us => by cases us <;> rfl
  | _ :: _, [] => rfl
  | l :: ls, u :: us => by simp [dot, dot_zip ls us]
theorem rd__law_choice_holds (ds : List D) (Q : D → Prop) (h : S__law_choice_holds ds Q) : t__law_choice_holds S__law_told { nx := fun _ => false = false ∧ Q .non, rt := Q } (startD 8 ds) := by
  obtain ⟨w, s, ls, rs, us, i, j, b, rfl, rfl, rfl, hw, hs, hs2, h1, h2, h3, h4, h5, h6, h7, h8, h9, q⟩ := h
  obtain ⟨e1, e2⟩ := nats_sum us
  have hsl : sizeLine = 16777216 := sizeLine_eq
  obtain ⟨c1, c2⟩ := choice h1 h2 h6 h7
  rw [h8] at c1 c2
  have hz : (List.zipWith (· * ·) ls us).length = us.length := by rw [List.length_zipWith]; omega
  refine ⟨_, e1, w, s, us.sum, _, _, _, rfl, rfl, rfl, e2, hw, hs, hs2, h5, fun r hr => ⟨by rw [nats_len]; omega, by rw [nats_len]; omega, ?_⟩⟩
  refine ⟨fun k acc e => (∃ x, e = [.fz (.int w), .fz (.int s), .fz (.lst (nats ls)), .fz (.lst (nats us)), .fz (.bl b), .fz (.int r), .no, x]) ∧ acc = nats ((List.zipWith (· * ·) ls us).take k) ∧ k ≤ us.length, ⟨⟨_, rfl⟩, rfl, Nat.zero_le _⟩, ?_, ?_⟩
  · rintro k d acc _ hd ⟨⟨x, rfl⟩, rfl, hk0⟩
    obtain ⟨hk, rfl⟩ := rngD_get hd
    have hk2 : k < us.length := by rw [nats_len] at hk; omega
    have hk1 : k < ls.length := by omega
    have hlt := h4 _ (List.getElem_mem hk1)
    have ez : (List.zipWith (· * ·) ls us)[k]? = some (ls[k] * us[k]) := by simp [List.getElem?_zipWith, List.getElem?_eq_getElem hk1, List.getElem?_eq_getElem hk2]
    refine ⟨fun _ => ⟨.int ls[k], nats_at (by omega) hk1, .int us[k], nats_at (by omega) hk2, mul_l (by omega) (by omega), by rw [nats_len, List.length_take]; omega, ⟨_, rfl⟩, ?_, by omega⟩, fun z => nomatch z⟩
    rw [List.take_succ, ez, nats_app]
    rfl
  · rintro acc _ ⟨⟨x, rfl⟩, rfl, hk0⟩
    rw [rngD_len, nats_len, show Int.toNat (us.length : Nat) = us.length by omega, ← hz, List.take_length]
    obtain ⟨f1, f2⟩ := nats_sum (List.zipWith (· * ·) ls us)
    rw [dot_zip] at f2
    refine ⟨_, f1, ?_⟩
    rw [f2]
    have g1 : decide ((0 : Int) ≤ r) = true := decide_eq_true (by omega)
    have g2 : decide (r ≤ (dot ls us : Nat)) = true := decide_eq_true (by omega)
    have g3 : (decide (r = (dot ls us : Nat)) == b) = true := by
      rw [beq_iff_eq, Bool.eq_iff_iff, decide_eq_true_iff, h9, ← c2, hr]
      omega
    refine ⟨fun _ => ⟨fun _ => ⟨rfl, rfl, ?_⟩, fun z => ?_⟩, fun z => ?_⟩
    · show Q (.bl (decide (r = (dot ls us : Nat)) == b))
      rw [g3]
      exact q
    · have z : decide (r ≤ (dot ls us : Nat)) = false := z
      rw [g2] at z; cases z
    · have z : decide ((0 : Int) ≤ r) = false := z
      rw [g1] at z; cases z
def LL : List Nat := [0, 1, 1, 2, 2, 2, 2] ++ List.replicate 8 3 ++ List.replicate 16 4
def S__law_bit_words : DSp := fun ds Q => ds = [.int 31] ∧ ∀ ws : List (List Nat), ws.map List.length = LL → Q (.lst (ws.map .str))
theorem len__law_bit_words : ∀ ds Q, S__law_bit_words ds Q → ds.length = (["most"] : List Str).length := by rintro _ _ ⟨rfl, _⟩; rfl
theorem rd__law_bit_words (ds : List D) (Q : D → Prop) (h : S__law_bit_words ds Q) : t__law_bit_words { nx := fun _ => false = false ∧ Q .non, rt := Q } (startD 3 ds) := by
  obtain ⟨rfl, q⟩ := h
  have hsl : sizeLine = 16777216 := sizeLine_eq
  have LLs : ∀ k, k < 15 → LL.take (1 + 2 * (k + 1)) = LL.take (1 + 2 * k) ++ [LL.getD k 0 + 1, LL.getD k 0 + 1] := by decide
  refine ⟨by simp [hsl], by decide, by decide, fun k env => ∃ (ws : List (List Nat)) (x : Sl), env = [.fz (.int 31), .ow (.lst (ws.map .str)), x] ∧ ws.map List.length = LL.take (1 + 2 * k) ∧ ws.length = 1 + 2 * k ∧ k ≤ 15, ⟨[[]], _, rfl, rfl, rfl, by decide⟩, ?_, ?_⟩
  · rintro k d _ hd ⟨ws, x, rfl, hm, hl, hk15⟩
    obtain ⟨hk, rfl⟩ := rngD_get hd
    refine ⟨fun hb => ?_, fun hb => ?_⟩
    · have hb := of_decide_eq_true hb
      rw [List.length_map] at hb
      have hk : k = 15 := by omega
      subst hk
      have hl : ws.length = 31 := hl
      have ec : DL.cutD (ws.map D.str) none (some 31) = ws.map .str := by
        unfold DL.cutD
        rw [List.length_map, hl]
        show ((ws.map D.str).drop 0).take 31 = _
        rw [List.drop_zero, List.take_of_length_le (by rw [List.length_map, hl]; decide)]
      refine ⟨trivial, ?_⟩
      show Q (.lst (DL.cutD (ws.map D.str) none (some 31)))
      rw [ec]
      exact q ws hm
    · have hb := of_decide_eq_false hb
      rw [List.length_map] at hb
      have hk14 : k < 15 := by omega
      have hkw : k < ws.length := by omega
      have hlen : ws[k].length = LL.getD k 0 := by
        have e : (ws.map List.length)[k]? = some ws[k].length := by rw [List.getElem?_map, List.getElem?_eq_getElem hkw]; rfl
        rw [hm] at e
        rw [List.getElem?_take_of_lt (by omega)] at e
        rw [List.getD_eq_getElem?_getD, e]
        rfl
      have hsmall : ws[k].length ≤ 4 := by
        rw [hlen]
        have : ∀ k, k < 15 → LL.getD k 0 ≤ 4 := by decide
        exact this k hk14
      have a1 : atI (ws.map D.str) (0 + (k : Int)) = some (.str ws[k]) := at_map (by omega) hkw
      have a2 : atI (ws.map D.str ++ [.str (ws[k] ++ [48])]) (0 + (k : Int)) = some (.str ws[k]) := by
        rw [at_ok (k := k) (by omega) (by rw [List.length_append, List.length_map]; omega), List.getElem_append_left (by rw [List.length_map]; exact hkw), List.getElem_map]
      refine ⟨trivial, .str ws[k], a1, by rw [hsl]; simp; omega, by rw [List.length_map, hsl]; omega, trivial, .str ws[k], a2, by rw [hsl]; simp; omega, by rw [List.length_append, List.length_map, hsl]; simp; omega, ws ++ [ws[k] ++ [48], ws[k] ++ [49]], .fz (.int (0 + (k : Nat))), ?_, ?_, ?_, by omega⟩
      · simp
        rfl
      · rw [LLs k hk14, List.map_append, hm]
        simp [hlen]
      · rw [List.length_append, hl]
        rfl
  · rintro _ ⟨ws, x, rfl, hm, hl, hk15⟩
    exact absurd hk15 (by decide)
end K21

set_option linter.all false
set_option maxRecDepth 100000
namespace K21
open PySem PySem.Spec PyProof.Rows L2 DL
open K02 (wt wt_zero)
def UT : List Int := [2, 140, 1000000000] ++ [140, 140, 1000000000, 3] ++ [140, 140, 1000000000, 3] ++ List.replicate 20 6 ++ List.replicate 20 1000000000
def RowOk (sizes row : List Int) : Prop := row.length = sizes.length ∧ ∀ (k : Nat) (x z : Int), row[k]? = some x → sizes[k]? = some z → 0 ≤ x ∧ x < z
def Fit (rs us : List Nat) : Prop := us.length = rs.length ∧ ∀ (k r u : Nat), rs[k]? = some r → us[k]? = some u → u ≤ r
def S__law_uses : DSp := fun ds Q => ∃ (rs : List Nat) (row : List Int), ds = [.lst (nats rs), .lst (row.map .int)] ∧ 1 ≤ rs.length ∧ rs.length ≤ 1000 ∧ RowOk UT row ∧ ∀ us : List Nat, Fit rs us → Q (.lst (nats us))
theorem len__law_uses : ∀ ds Q, S__law_uses ds Q → ds.length = (["rooms", "row"] : List Str).length := by rintro _ _ ⟨_, _, rfl, _⟩; rfl
theorem fit_set {rs us : List Nat} (h : Fit rs us) {j v : Nat} (hv : ∀ r, rs[j]? = some r → v ≤ r) : Fit rs (us.set j v) := by
  refine ⟨by rw [List.length_set]; exact h.1, fun k r u a b => ?_⟩
  by_cases e : j = k
  · subst e
    have hl : j < us.length := by have := (List.getElem?_eq_some_iff.mp a).1; rw [h.1]; exact this
    rw [List.getElem?_set_self hl] at b
    cases b
    exact hv r a
  · rw [List.getElem?_set_ne e] at b
    exact h.2 k r u a b
theorem nats_set (us : List Nat) (j v : Nat) : (nats us).set j (.int v) = nats (us.set j v) := by
  unfold nats
  rw [List.map_set]
theorem UT_get11 (k : Nat) : UT[11 + k % 20]? = some 6 := by
  have : ∀ j, j < 20 → UT[11 + j]? = some 6 := by decide
  exact this _ (by omega)
theorem UT_get31 (k : Nat) : UT[31 + k % 20]? = some 1000000000 := by
  have : ∀ j, j < 20 → UT[31 + j]? = some 1000000000 := by decide
  exact this _ (by omega)
theorem sIx_pos {n d : Nat} {v : Int} (h : 0 ≤ v) : HT.sIx n d (some v) = min v.toNat n := by
  show (if v < 0 then (v + (n : Int)).toNat else min v.toNat n) = _
  rw [if_neg (by omega)]
theorem rd__law_uses (ds : List D) (Q : D → Prop) (h : S__law_uses ds Q) : t__law_uses { nx := fun _ => false = false ∧ Q .non, rt := Q } (startD 12 ds) := by
  obtain ⟨rs, row, rfl, hr1, hr2, ⟨hl, hb⟩, q⟩ := h
  have hsl : sizeLine = 16777216 := sizeLine_eq
  have hl : row.length = 51 := hl
  have hn := nats_len rs
  obtain ⟨x0, h0, a0, b0⟩ := row_at hb 0 (by omega) rfl
  obtain ⟨x1, h1, a1, b1⟩ := row_at hb 1 (by omega) rfl
  obtain ⟨x2, h2, a2, b2⟩ := row_at hb 2 (by omega) rfl
  refine ⟨_, h0 _ rfl, fun _ => ?_, fun _ => ?_⟩
  · refine ⟨Nat.zero_le _, by omega, by omega, fun k env => ∃ (us : List Nat) (x5 x9 x10 : Sl), env = [.fz (.lst (nats rs)), .fz (.lst (row.map .int)), .no, .ow (.lst (nats us)), .no, x5, .no, .no, .no, x9, x10, .no] ∧ us.length = k ∧ ∀ (k r u : Nat), rs[k]? = some r → us[k]? = some u → u ≤ r,
      ⟨[], _, _, _, rfl, rfl, fun k r u a b => by simp at b⟩, ?_, ?_⟩
    · rintro k d _ hd ⟨us, x5, x9, x10, rfl, hul, hu⟩
      obtain ⟨hk, rfl⟩ := rngD_get hd
      have hk' : k < rs.length := by omega
      have ar : atI (nats rs) (0 + (k : Int)) = some (.int rs[k]) := nats_at (by omega) hk'
      obtain ⟨y, hy, y0, y1⟩ := row_at hb (31 + k % 20) (by omega) (UT_get31 k)
      obtain ⟨z, hz, z0, z1⟩ := row_at hb (11 + k % 20) (by omega) (UT_get11 k)
      have f0 := Int.emod_nonneg y (show ((rs[k] : Nat) : Int) + 1 ≠ 0 by omega)
      have f1 := Int.emod_lt_of_pos y (show (0 : Int) < ((rs[k] : Nat) : Int) + 1 by omega)
      refine ⟨by decide, _, hy _ (by omega), .int rs[k], ar, by omega, .int rs[k], ar, .int rs[k], ar, .int rs[k], ar, .int rs[k], ar, by simp [hsl], by decide, _, hz _ (by omega), ?_⟩
      generalize y % (((rs[k] : Nat) : Int) + 1) = f at *
      obtain ⟨v, hv, hv1⟩ : ∃ v : Nat, atI [D.int 0, .int (rs[k] : Nat), .int (max 0 (((rs[k] : Nat) : Int) - 1)), .int (min 1 ((rs[k] : Nat) : Int)), .int f, .int (((rs[k] : Nat) : Int) - f)] z = some (.int v) ∧ v ≤ rs[k] := by
        have hz6 : z = 0 ∨ z = 1 ∨ z = 2 ∨ z = 3 ∨ z = 4 ∨ z = 5 := by omega
        rcases hz6 with rfl | rfl | rfl | rfl | rfl | rfl
        · exact ⟨0, rfl, by omega⟩
        · exact ⟨rs[k], rfl, by omega⟩
        · exact ⟨(max 0 (((rs[k] : Nat) : Int) - 1)).toNat, by show some _ = some _; congr 2; omega, by omega⟩
        · exact ⟨(min 1 ((rs[k] : Nat) : Int)).toNat, by show some _ = some _; congr 2; omega, by omega⟩
        · exact ⟨f.toNat, by show some _ = some _; congr 2; omega, by omega⟩
        · exact ⟨(((rs[k] : Nat) : Int) - f).toNat, by show some _ = some _; congr 2; omega, by omega⟩
      refine ⟨.int v, hv, by rw [nats_len]; omega, us ++ [v], _, _, _, by rw [nats_app]; rfl, by simp [hul], fun k' r u a b => ?_⟩
      by_cases e : k' < us.length
      · rw [List.getElem?_append_left e] at b
        exact hu k' r u a b
      · rw [List.getElem?_append_right (by omega)] at b
        have e2 : k' - us.length = 0 := by
          have := (List.getElem?_eq_some_iff.mp b).1
          simp at this
          omega
        rw [e2] at b
        have e3 : k' = k := by omega
        subst e3
        rw [List.getElem?_eq_getElem hk'] at a
        cases a
        cases b
        exact hv1
    · rintro _ ⟨us, x5, x9, x10, rfl, hul, hu⟩
      rw [rngD_len] at hul
      exact q us ⟨by omega, hu⟩
  · have m0 := Int.emod_nonneg x1 (show ((nats rs).length : Int) ≠ 0 by omega)
    have m1 := Int.emod_lt_of_pos x1 (show (0 : Int) < ((nats rs).length : Int) by omega)
    refine ⟨_, h1 _ rfl, by omega, by omega, by omega, ?_⟩
    generalize x1 % ((nats rs).length : Int) = last at *
    refine ⟨fun k acc e => (∃ x5, e = [.fz (.lst (nats rs)), .fz (.lst (row.map .int)), .fz (.int last), .no, .no, x5, .no, .no, .no, .no, .no, .no]) ∧ ∃ us : List Nat, acc = nats us ∧ us.length = k ∧ ∀ (k r u : Nat), rs[k]? = some r → us[k]? = some u → u ≤ r,
      ⟨⟨_, rfl⟩, [], rfl, rfl, fun k r u a b => by simp at b⟩, ?_, ?_⟩
    · rintro k d acc _ hd ⟨⟨x5, rfl⟩, us, rfl, hul, hu⟩
      obtain ⟨hk, rfl⟩ := rngD_get hd
      have hk' : k < rs.length := by omega
      have ar : atI (nats rs) (0 + (k : Int)) = some (.int rs[k]) := nats_at (by omega) hk'
      have app : ∀ v : Nat, v ≤ rs[k] → ∃ us' : List Nat, nats us ++ [D.int v] = nats us' ∧ us'.length = k + 1 ∧ ∀ (k r u : Nat), rs[k]? = some r → us'[k]? = some u → u ≤ r := fun v hv => by
        refine ⟨us ++ [v], by rw [nats_app]; rfl, by simp [hul], fun k' r u a b => ?_⟩
        by_cases e : k' < us.length
        · rw [List.getElem?_append_left e] at b
          exact hu k' r u a b
        · rw [List.getElem?_append_right (by omega)] at b
          have e2 : k' - us.length = 0 := by
            have := (List.getElem?_eq_some_iff.mp b).1
            simp at this
            omega
          rw [e2] at b
          have e3 : k' = k := by omega
          subst e3
          rw [List.getElem?_eq_getElem hk'] at a
          cases a
          cases b
          exact hv
      refine ⟨fun _ => ⟨.int rs[k], ar, mul_r ?_ ?_, by rw [nats_len]; omega, ⟨_, rfl⟩, ?_⟩, fun z => nomatch z⟩
      · split <;> decide
      · split <;> decide
      · by_cases hc : decide ((0 : Int) + (k : Nat) < last) = true
        · obtain ⟨us', e1, e2, e3⟩ := app rs[k] (Nat.le_refl _)
          refine ⟨us', ?_, e2, e3⟩
          show nats us ++ [D.int ((rs[k] : Nat) * (if decide ((0 : Int) + (k : Nat) < last) = true then 1 else 0))] = _
          rw [if_pos hc, Int.mul_one, e1]
        · obtain ⟨us', e1, e2, e3⟩ := app 0 (Nat.zero_le _)
          refine ⟨us', ?_, e2, e3⟩
          show nats us ++ [D.int ((rs[k] : Nat) * (if decide ((0 : Int) + (k : Nat) < last) = true then 1 else 0))] = _
          rw [if_neg hc, Int.mul_zero, ← e1]
          rfl
    · rintro acc _ ⟨⟨x5, rfl⟩, us, rfl, hul, hu⟩
      rw [rngD_len] at hul
      have hul : us.length = rs.length := by omega
      have hlast : last.toNat < rs.length := by omega
      have al : atI (nats rs) last = some (.int rs[last.toNat]) := nats_at (by omega) hlast
      have g0 := Int.emod_nonneg x2 (show ((rs[last.toNat] : Nat) : Int) + 1 ≠ 0 by omega)
      have g1 := Int.emod_lt_of_pos x2 (show (0 : Int) < ((rs[last.toNat] : Nat) : Int) + 1 by omega)
      refine ⟨_, h2 _ rfl, .int rs[last.toNat], al, by omega, last.toNat, ixN_ok m0 (by rw [nats_len]; omega), ?_⟩
      generalize x2 % (((rs[last.toNat] : Nat) : Int) + 1) = w at *
      have ew : (nats us).set last.toNat (.int w) = nats (us.set last.toNat w.toNat) := by
        rw [← nats_set, Int.toNat_of_nonneg g0]
      have fit0 : Fit rs (us.set last.toNat w.toNat) := fit_set ⟨hul, hu⟩ fun r hr => by
        rw [List.getElem?_eq_getElem hlast] at hr
        cases hr
        omega
      refine ⟨by decide, by decide, fun t env => ∃ (us : List Nat) (x4 x5 x6 x7 x8 x11 : Sl), env = [.fz (.lst (nats rs)), .fz (.lst (row.map .int)), .fz (.int last), .ow (.lst (nats us)), x4, x5, x6, x7, x8, .no, .no, x11] ∧ Fit rs us,
        ⟨us.set last.toNat w.toNat, _, _, _, _, _, _, by rw [← ew]; rfl, fit0⟩, ?_, ?_⟩
      · rintro t d _ hd ⟨us, x4, x5, x6, x7, x8, x11, rfl, hF⟩
        obtain ⟨ht, rfl⟩ := rngD_get hd
        have ht2 : t < 2 := ht
        have hcut : DL.cutD (row.map D.int) (some (3 + 4 * (0 + (t : Int)))) (some (7 + 4 * (0 + (t : Int)))) = (DL.cutD row (some (3 + 4 * (0 + (t : Int)))) (some (7 + 4 * (0 + (t : Int))))).map .int := cut_map _ _ _ _
        have c1 : HT.sIx row.length 0 (some (3 + 4 * (0 + (t : Int)))) = 3 + 4 * t := by
          rw [sIx_pos (by omega)]
          omega
        have c2 : HT.sIx row.length row.length (some (7 + 4 * (0 + (t : Int)))) = 7 + 4 * t := by
          rw [sIx_pos (by omega)]
          omega
        have part : ∃ p0 p1 p2 p3 : Int, DL.cutD row (some (3 + 4 * (0 + (t : Int)))) (some (7 + 4 * (0 + (t : Int)))) = [p0, p1, p2, p3] ∧ 0 ≤ p2 := by
          have hget : ∀ j, j < 4 → 3 + 4 * t + j < row.length := fun j hj => by omega
          refine ⟨row[3 + 4 * t + 0]'(hget 0 (by decide)), row[3 + 4 * t + 1]'(hget 1 (by decide)), row[3 + 4 * t + 2]'(hget 2 (by decide)), row[3 + 4 * t + 3]'(hget 3 (by decide)), ?_, ?_⟩
          · unfold DL.cutD
            rw [c1, c2, show 7 + 4 * t - (3 + 4 * t) = 4 by omega]
            refine List.ext_getElem (by simp; omega) fun k k1 k2 => ?_
            have k4 : k < 4 := k2
            rw [List.getElem_take, List.getElem_drop]
            match k, k4 with
            | 0, _ => rfl
            | 1, _ => rfl
            | 2, _ => rfl
            | 3, _ => rfl
          · have e5 : UT[3 + 4 * t + 2]? = some 1000000000 := by
              have : ∀ t, t < 2 → UT[3 + 4 * t + 2]? = some 1000000000 := by decide
              exact this t ht2
            exact (hb _ _ _ (List.getElem?_eq_getElem (hget 2 (by decide))) e5).1
        obtain ⟨p0, p1, p2, p3, ep, hp2⟩ := part
        have hn0 : (0 : Int) < ((nats rs).length : Int) := by omega
        have q0 := Int.emod_nonneg p0 (show ((nats rs).length : Int) ≠ 0 by omega)
        have q1 := Int.emod_lt_of_pos p0 hn0
        have q2 := Int.emod_nonneg p1 (show ((nats rs).length : Int) ≠ 0 by omega)
        have q3 := Int.emod_lt_of_pos p1 hn0
        have at0 : ∀ {j : Int} {p : Int}, atI [p0, p1, p2, p3] j = some p → atI (DL.cutD (row.map D.int) (some (3 + 4 * (0 + (t : Int)))) (some (7 + 4 * (0 + (t : Int))))) j = some (.int p) := fun {j p} h => by
          rw [hcut, ep, atI_map, h]; rfl
        refine ⟨mul_l (by decide) (by decide), mul_l (by decide) (by decide), .int p0, at0 rfl, hn0, .int p1, at0 rfl, hn0, ?_⟩
        generalize p0 % ((nats rs).length : Int) = one at *
        generalize p1 % ((nats rs).length : Int) = two at *
        have hone : one.toNat < rs.length := by omega
        have htwo : two.toNat < rs.length := by omega
        have keep : ∃ (us' : List Nat) (y4 y5 y6 y7 y8 y11 : Sl), [Sl.fz (.lst (nats rs)), .fz (.lst (row.map .int)), .fz (.int last), .ow (.lst (nats us)), .fz (.int (0 + (t : Nat))), x5, .fz (.lst (DL.cutD (row.map D.int) (some (3 + 4 * (0 + (t : Int)))) (some (7 + 4 * (0 + (t : Int)))))), .fz (.int one), .fz (.int two), .no, .no, x11] = [.fz (.lst (nats rs)), .fz (.lst (row.map .int)), .fz (.int last), .ow (.lst (nats us')), y4, y5, y6, y7, y8, .no, .no, y11] ∧ Fit rs us' := ⟨us, _, _, _, _, _, _, rfl, hF⟩
        refine ⟨fun hne => ⟨.int p3, at0 rfl, fun _ => ?_, fun _ => keep⟩, fun _ => ⟨fun z => (nomatch z), fun _ => keep⟩⟩
        have hne : one ≠ two := by simpa using hne
        have u1 : one.toNat < us.length := by rw [hF.1]; exact hone
        have u2 : two.toNat < us.length := by rw [hF.1]; exact htwo
        have au1 : atI (nats us) one = some (.int us[one.toNat]) := nats_at (by omega) u1
        have au2 : atI (nats us) two = some (.int us[two.toNat]) := nats_at (by omega) u2
        have ar2 : atI (nats rs) two = some (.int rs[two.toNat]) := nats_at (by omega) htwo
        have le1 := hF.2 _ _ _ (List.getElem?_eq_getElem hone) (List.getElem?_eq_getElem u1)
        have le2 := hF.2 _ _ _ (List.getElem?_eq_getElem htwo) (List.getElem?_eq_getElem u2)
        obtain ⟨mv, hmv⟩ : ∃ mv : Nat, min ((us[one.toNat] : Nat) : Int) (min (((rs[two.toNat] : Nat) : Int) - (us[two.toNat] : Nat)) (1 + p2)) = mv := ⟨(min ((us[one.toNat] : Nat) : Int) (min (((rs[two.toNat] : Nat) : Int) - (us[two.toNat] : Nat)) (1 + p2))).toNat, by omega⟩
        have e1 : (nats us).set one.toNat (.int (((us[one.toNat] : Nat) : Int) - min ((us[one.toNat] : Nat) : Int) (min (((rs[two.toNat] : Nat) : Int) - (us[two.toNat] : Nat)) (1 + p2)))) = nats (us.set one.toNat (us[one.toNat] - mv)) := by
          rw [hmv, ← nats_set]
          congr 2
          omega
        have fit1 : Fit rs (us.set one.toNat (us[one.toNat] - mv)) := fit_set hF fun r hr => by
          rw [List.getElem?_eq_getElem hone] at hr
          cases hr
          omega
        have hnn : one.toNat ≠ two.toNat := by omega
        have au2' : atI (nats (us.set one.toNat (us[one.toNat] - mv))) two = some (.int us[two.toNat]) := by
          rw [nats_at (k := two.toNat) (by omega) (by rw [List.length_set]; exact u2), List.getElem_set_ne hnn]
        have fit2 : Fit rs ((us.set one.toNat (us[one.toNat] - mv)).set two.toNat (us[two.toNat] + mv)) := fit_set fit1 fun r hr => by
          rw [List.getElem?_eq_getElem htwo] at hr
          cases hr
          omega
        refine ⟨trivial, _, au1, .int rs[two.toNat], ar2, trivial, _, au2, .int p2, at0 rfl, trivial, _, au1, one.toNat, ixN_ok q0 (by rw [nats_len]; exact u1), ?_⟩
        rw [e1]
        refine ⟨trivial, _, au2', two.toNat, ixN_ok q2 (by rw [nats_len, List.length_set]; exact u2), (us.set one.toNat (us[one.toNat] - mv)).set two.toNat (us[two.toNat] + mv), .fz (.int (0 + (t : Nat))), x5, .fz (.lst (DL.cutD (row.map D.int) (some (3 + 4 * (0 + (t : Int)))) (some (7 + 4 * (0 + (t : Int)))))), .fz (.int one), .fz (.int two), .fz (.int (min ((us[one.toNat] : Nat) : Int) (min (((rs[two.toNat] : Nat) : Int) - (us[two.toNat] : Nat)) (1 + p2)))), ?_, fit2⟩
        rw [← nats_set (us.set one.toNat (us[one.toNat] - mv)), Int.natCast_add, ← hmv]
        rfl
      · rintro _ ⟨us, x4, x5, x6, x7, x8, x11, rfl, hF⟩
        exact q us hF
end K21

set_option linter.all false
set_option maxRecDepth 100000
namespace K21
open PySem PySem.Spec PyProof.Rows L2 DL
open K02 (wt wt_zero)
theorem G_tail {l r : Nat} {ls rs ls' rs' : List Nat} (h : ∀ N, G ls rs N = G ls' rs' N) (N : Nat) : G (l :: ls) (r :: rs) N = G (l :: ls') (r :: rs') N := by
  simp only [G, h]
theorem G_LL (a b N : Nat) : G LL (a :: List.replicate 30 b) N = G [0, 1, 2, 3, 4] [a, b * 2, b * 4, b * 8, b * 16] N := by
  show G [0, 1, 1, 2, 2, 2, 2, 3, 3, 3, 3, 3, 3, 3, 3, 4, 4, 4, 4, 4, 4, 4, 4, 4, 4, 4, 4, 4, 4, 4, 4] [a, b, b, b, b, b, b, b, b, b, b, b, b, b, b, b, b, b, b, b, b, b, b, b, b, b, b, b, b, b, b] N = _
  refine G_tail (fun N => ?_) N
  rw [G_merge, show b + b = b * 2 by omega]
  refine G_tail (fun N => ?_) N
  rw [G_merge, G_merge, G_merge, show b + b + b + b = b * 4 by omega]
  refine G_tail (fun N => ?_) N
  rw [G_merge, G_merge, G_merge, G_merge, G_merge, G_merge, G_merge, show b + b + b + b + b + b + b + b = b * 8 by omega]
  refine G_tail (fun N => ?_) N
  rw [G_merge, G_merge, G_merge, G_merge, G_merge, G_merge, G_merge, G_merge, G_merge, G_merge, G_merge, G_merge, G_merge, G_merge, G_merge, show b + b + b + b + b + b + b + b + b + b + b + b + b + b + b + b = b * 16 by omega]
def R31 (w few : Nat) : List Nat := if w = 1 then few * (few - 1) / 2 :: List.replicate 30 (few * few) else List.replicate 31 few
theorem R31_len (w few : Nat) : (R31 w few).length = 31 := by unfold R31; split <;> simp
theorem R31_le {w few : Nat} (h : few ≤ 9) : ∀ x ∈ R31 w few, x ≤ 81 := fun x hx => by
  have hq : few * few ≤ 9 * 9 := Nat.mul_le_mul h h
  have hq2 : few * (few - 1) ≤ 9 * 9 := Nat.mul_le_mul h (by omega)
  unfold R31 at hx
  split at hx
  · rcases List.mem_cons.mp hx with rfl | hx
    · omega
    · rw [(List.mem_replicate.mp hx).2]; omega
  · rw [(List.mem_replicate.mp hx).2]; omega
theorem R31_T {w few N : Nat} (hw : w ≤ 1) (hN : N ≤ (R31 w few).sum) : G LL (R31 w few) N = T w few N := by
  have e : (R31 w few).sum = (rooms w few 5).sum ∧ G LL (R31 w few) N = G (List.range' 0 (rooms w few 5).length) (rooms w few 5) N := by
    unfold R31 rooms
    split
    · have e2 : geo (2 * few * few) 4 = [few * few * 2, few * few * 4, few * few * 8, few * few * 16] := by
        simp only [geo]
        have : 2 * few * few = few * few * 2 := by rw [Nat.mul_assoc, Nat.mul_comm]
        rw [this]
        simp only [Nat.mul_assoc]
      rw [show 5 - 1 = 4 by omega, e2, G_LL]
      refine ⟨?_, rfl⟩
      simp only [List.sum_cons, List.sum_replicate_nat, List.sum_nil]
      omega
    · have e2 : geo few 5 = [few, few * 2, few * 4, few * 8, few * 16] := by
        simp only [geo, Nat.mul_assoc]
      rw [e2, show List.replicate 31 few = few :: List.replicate 30 few from rfl, G_LL]
      refine ⟨?_, rfl⟩
      simp only [List.sum_cons, List.sum_replicate_nat, List.sum_nil]
      omega
  rw [e.2, ← wt_G, T_cut (by decide) (by decide) (by omega)]
theorem plain_app : ∀ (ls rs : List Nat) (l r : Nat), ls.length = rs.length → plain (ls ++ [l]) (rs ++ [r]) = plain ls rs ++ List.replicate r l
  | [], [], l, r, _ => by simp [plain]
  | [], _ :: _, _, _, h => by simp at h
  | _ :: _, [], _, _, h => by simp at h
  | a :: ls, b :: rs, l, r, h => by
    simp only [List.cons_append, plain, plain_app ls rs l r (by simpa using h), List.append_assoc]
theorem cut_take {α : Type} (l : List α) (n : Nat) : DL.cutD l none (some (n : Int)) = l.take n := by
  unfold DL.cutD
  rw [sIx_pos (by omega)]
  show ((l.drop 0).take (min (n : Int).toNat l.length - 0)) = _
  rw [List.drop_zero, Nat.sub_zero, Int.toNat_natCast]
  by_cases h : n ≤ l.length
  · rw [Nat.min_eq_left h]
  · rw [Nat.min_eq_right (by omega), List.take_length, List.take_of_length_le (by omega)]
theorem nats_take (l : List Nat) (n : Nat) : (nats l).take n = nats (l.take n) := (List.map_take ..).symm
theorem nats_rep (n x : Nat) : List.replicate n (D.int (x : Int)) = nats (List.replicate n x) := by unfold nats; rw [List.map_replicate]
theorem LL_len : LL.length = 31 := rfl
theorem LL_le : ∀ l ∈ LL, l ≤ 4 := by decide
theorem LL_sorted : LL.Pairwise (· ≤ ·) := by decide
def S__law_small_choice : DSp := fun ds Q => ∃ (w few : Nat) (row : List Int) (i j : Int), ds = [.int i, .int j, .lst (row.map .int)] ∧ i = w ∧ j = few ∧ w ≤ 1 ∧ 1 ≤ few ∧ few ≤ 9 ∧ RowOk UT row ∧ Q (.bl true)
theorem len__law_small_choice : ∀ ds Q, S__law_small_choice ds Q → ds.length = (["which", "few", "row"] : List Str).length := by rintro _ _ ⟨_, _, _, _, _, rfl, _⟩; rfl
def DD (Q : D → Prop) : DEnds := { nx := fun _ => false = false ∧ Q .non, rt := Q }
theorem small_1 {Q : D → Prop} (q : Q (.bl true)) {w few : Nat} (hw : w ≤ 1) (hf1 : 1 ≤ few) (hf : few ≤ 9) {us : List Nat} (hF : Fit (R31 w few) us) {c7 : Int} {x2 x8 x9 x10 : Sl} :
    r__law_small_choice_1 S__law_bit_words S__law_uses S__law_told S__law_choice_holds (DD Q) [.fz (.int w), .fz (.int few), x2, .fz (.lst (nats LL)), .fz (.lst (nats (R31 w few))), .fz (.lst (nats us)), .fz (.lst (nats (plain LL (R31 w few)))), .fz (.int c7), x8, x9, x10] := by
  have hsl : sizeLine = 16777216 := sizeLine_eq
  obtain ⟨e1, e2⟩ := nats_sum us
  obtain ⟨hF1, hF2⟩ := hF
  have hRl := R31_len w few
  have hul : us.length = 31 := by omega
  have hsum := sum_le hF1.symm hF2
  have hRs : (R31 w few).sum ≤ 81 * 31 := by
    have key : ∀ l : List Nat, (∀ x ∈ l, x ≤ 81) → l.sum ≤ 81 * l.length := by
      intro l
      induction l with
      | nil => intro _; exact Nat.zero_le _
      | cons y l ih =>
        intro h
        have := h y List.mem_cons_self
        have := ih fun x hx => h x (List.mem_cons_of_mem _ hx)
        rw [List.sum_cons, List.length_cons]
        omega
    have := key _ (R31_le (w := w) hf)
    rw [hRl] at this
    exact this
  have big : 81 * 31 ≤ 2 ^ 190 := by decide
  refine ⟨_, e1, w, few, us.sum, _, _, _, rfl, rfl, rfl, e2, hw, hf1, by omega, by omega, fun r hr => ⟨_, e1, ?_⟩⟩
  rw [e2]
  have ec : DL.cutD (nats (plain LL (R31 w few))) none (some ((us.sum : Nat) : Int)) = nats ((plain LL (R31 w few)).take us.sum) := by rw [cut_take, nats_take]
  obtain ⟨f1, f2⟩ := nats_sum ((plain LL (R31 w few)).take us.sum)
  refine ⟨_, by rw [ec]; exact f1, ?_⟩
  rw [f2, plain_sum, R31_T hw hsum, hr]
  refine ⟨fun z => by simp at z, fun _ => ?_⟩
  -- gap
  refine ⟨by decide, by decide, fun k acc e => (∃ x, e = [.fz (.int w), .fz (.int few), x2, .fz (.lst (nats LL)), .fz (.lst (nats (R31 w few))), .fz (.lst (nats us)), .fz (.lst (nats (plain LL (R31 w few)))), x, x8, x9, x10]) ∧
      ∃ l : List Nat, acc = nats l ∧ l.length ≤ k ∧ ∀ x, x ∈ l ↔ ∃ j u r, j < k ∧ LL[j]? = some x ∧ us[j]? = some u ∧ (R31 w few)[j]? = some r ∧ u < r, ⟨⟨_, rfl⟩, [], rfl, Nat.le_refl _, fun x => ⟨fun h => (by cases h), fun ⟨_, _, _, h, _⟩ => absurd h (Nat.not_lt_zero _)⟩⟩, ?_, ?_⟩
  · rintro k d acc _ hd ⟨⟨x, rfl⟩, l, rfl, hl, hm⟩
    obtain ⟨hk, rfl⟩ := rngD_get hd
    have hk31 : k < 31 := hk
    have k1 : k < us.length := by omega
    have k2 : k < (R31 w few).length := by omega
    have k3 : k < LL.length := by rw [LL_len]; omega
    refine ⟨.int us[k], nats_at (by omega) k1, .int (R31 w few)[k], nats_at (by omega) k2, fun hb => ⟨.int LL[k], nats_at (by omega) k3, by rw [nats_len]; omega, ⟨_, rfl⟩, l ++ [LL[k]], by rw [nats_app]; rfl, by simp; omega, fun x => ?_⟩, fun hb => ⟨⟨_, rfl⟩, l, rfl, by omega, fun x => ?_⟩⟩
    · have hb := of_decide_eq_true hb
      rw [List.mem_append, hm, List.mem_singleton]
      constructor
      · rintro (⟨j, u, r, a, b, c, d, e⟩ | rfl)
        · exact ⟨j, u, r, by omega, b, c, d, e⟩
        · exact ⟨k, _, _, by omega, List.getElem?_eq_getElem k3, List.getElem?_eq_getElem k1, List.getElem?_eq_getElem k2, by omega⟩
      · rintro ⟨j, u, r, a, b, c, d, e⟩
        by_cases hj : j = k
        · subst hj
          rw [List.getElem?_eq_getElem k3] at b
          exact .inr (Option.some.inj b).symm
        · exact .inl ⟨j, u, r, by omega, b, c, d, e⟩
    · have hb := of_decide_eq_false hb
      rw [hm]
      constructor
      · rintro ⟨j, u, r, a, b, c, d, e⟩
        exact ⟨j, u, r, by omega, b, c, d, e⟩
      · rintro ⟨j, u, r, a, b, c, d, e⟩
        by_cases hj : j = k
        · subst hj
          rw [List.getElem?_eq_getElem k1] at c
          rw [List.getElem?_eq_getElem k2] at d
          cases c
          cases d
          omega
        · exact ⟨j, u, r, by omega, b, c, d, e⟩
  rintro acc _ ⟨⟨x, rfl⟩, l, rfl, hl, hm⟩
  have hl31 : l.length ≤ 31 := hl
  obtain ⟨p1, _⟩ := nats_sum (l ++ [5])
  rw [nats_app] at p1
  refine ⟨by simp [hsl], by rw [nats_len, hsl]; simp; omega, _, p1, by simp, fun m hm1 hm2 => ?_⟩
  obtain ⟨mn, hmn, rfl⟩ := List.mem_map.mp hm1
  have hmin : ∀ y ∈ l ++ [5], mn ≤ y := fun y hy => by
    have := hm2 y (List.mem_map_of_mem hy)
    omega
  -- longest
  refine ⟨by decide, by decide, fun k acc e => (∃ x, e = [.fz (.int w), .fz (.int few), x2, .fz (.lst (nats LL)), .fz (.lst (nats (R31 w few))), .fz (.lst (nats us)), .fz (.lst (nats (plain LL (R31 w few)))), x, .fz (.int mn), x9, x10]) ∧
      ∃ l : List Nat, acc = nats l ∧ l.length ≤ k ∧ ∀ x, x ∈ l ↔ ∃ j u, j < k ∧ LL[j]? = some x ∧ us[j]? = some u ∧ 0 < u, ⟨⟨_, rfl⟩, [], rfl, Nat.le_refl _, fun x => ⟨fun h => (by cases h), fun ⟨_, _, h, _⟩ => absurd h (Nat.not_lt_zero _)⟩⟩, ?_, ?_⟩
  · rintro k d acc _ hd ⟨⟨x, rfl⟩, l, rfl, hl, hm⟩
    obtain ⟨hk, rfl⟩ := rngD_get hd
    have hk31 : k < 31 := hk
    have k1 : k < us.length := by omega
    have k3 : k < LL.length := by rw [LL_len]; omega
    refine ⟨.int us[k], nats_at (by omega) k1, fun hb => ⟨.int LL[k], nats_at (by omega) k3, by rw [nats_len]; omega, ⟨_, rfl⟩, l ++ [LL[k]], by rw [nats_app]; rfl, by simp; omega, fun x => ?_⟩, fun hb => ⟨⟨_, rfl⟩, l, rfl, by omega, fun x => ?_⟩⟩
    · have hb := of_decide_eq_true hb
      rw [List.mem_append, hm, List.mem_singleton]
      constructor
      · rintro (⟨j, u, a, b, c, e⟩ | rfl)
        · exact ⟨j, u, by omega, b, c, e⟩
        · exact ⟨k, _, by omega, List.getElem?_eq_getElem k3, List.getElem?_eq_getElem k1, by omega⟩
      · rintro ⟨j, u, a, b, c, e⟩
        by_cases hj : j = k
        · subst hj
          rw [List.getElem?_eq_getElem k3] at b
          exact .inr (Option.some.inj b).symm
        · exact .inl ⟨j, u, by omega, b, c, e⟩
    · have hb := of_decide_eq_false hb
      rw [hm]
      constructor
      · rintro ⟨j, u, a, b, c, e⟩
        exact ⟨j, u, by omega, b, c, e⟩
      · rintro ⟨j, u, a, b, c, e⟩
        by_cases hj : j = k
        · subst hj
          rw [List.getElem?_eq_getElem k1] at c
          cases c
          omega
        · exact ⟨j, u, by omega, b, c, e⟩
  rintro acc _ ⟨⟨x', rfl⟩, l2, rfl, hl2, hm3⟩
  have hl231 : l2.length ≤ 31 := hl2
  obtain ⟨p2, _⟩ := nats_sum (l2 ++ [0])
  rw [nats_app] at p2
  refine ⟨by simp [hsl], by rw [nats_len, hsl]; simp; omega, _, p2, by simp, fun M hM1 hM2 => ?_⟩
  obtain ⟨mx, hmx, rfl⟩ := List.mem_map.mp hM1
  have hmax : ∀ y ∈ l2 ++ [0], y ≤ mx := fun y hy => by
    have := hM2 y (List.mem_map_of_mem hy)
    omega
  refine ⟨w, few, LL, R31 w few, us, _, _, _, rfl, rfl, rfl, hw, hf1, by omega, by rw [LL_len, hRl], hF1.symm, by omega, fun l hl => by have := LL_le l hl; omega, by omega, LL_sorted, hF2, R31_T hw hsum, ?_, q⟩
  have hr31 : (rngD 0 (Int.toNat 31)).length = 31 := by rw [rngD_len]; rfl
  rw [hr31] at hm hm3
  constructor
  · intro hb
    have hb : (mx : Int) ≤ mn := of_decide_eq_true hb
    intro j k l r u l' u' a b c d e f g
    have h1 := hmax l' (List.mem_append_left _ ((hm3 l').mpr ⟨k, u', by have := (List.getElem?_eq_some_iff.mp f).1; omega, e, f, g⟩))
    have h2 := hmin l (List.mem_append_left _ ((hm l).mpr ⟨j, u, r, by have := (List.getElem?_eq_some_iff.mp c).1; omega, a, c, b, d⟩))
    omega
  · intro hT
    refine decide_eq_true ?_
    rcases List.mem_append.mp hmx with h | h
    · obtain ⟨k, u', k1, k2, k3, k4⟩ := (hm3 mx).mp h
      rcases List.mem_append.mp hmn with h' | h'
      · obtain ⟨j, u, r, j1, j2, j3, j4, j5⟩ := (hm mn).mp h'
        have := hT j k _ _ _ _ _ j2 j4 j3 j5 k2 k3 k4
        omega
      · have := List.mem_singleton.mp h'
        have := LL_le mx (List.mem_of_getElem? k2)
        omega
    · have := List.mem_singleton.mp h
      omega
theorem rd__law_small_choice (ds : List D) (Q : D → Prop) (h : S__law_small_choice ds Q) : t__law_small_choice S__law_bit_words S__law_uses S__law_told S__law_choice_holds { nx := fun _ => false = false ∧ Q .non, rt := Q } (startD 11 ds) := by
  obtain ⟨w, few, row, i, j, rfl, rfl, rfl, hw, hf1, hf, hrow, q⟩ := h
  have hsl : sizeLine = 16777216 := sizeLine_eq
  have hRl := R31_len w few
  refine ⟨rfl, fun ws hws => ?_⟩
  have hwl : ws.length = 31 := by have := congrArg List.length hws; simpa [LL_len] using this
  refine ⟨fun k acc e => (∃ x, e = [.fz (.int w), .fz (.int few), .fz (.lst (row.map .int)), .no, .no, .no, .no, .no, .no, .no, x]) ∧ acc = nats (LL.take k) ∧ k ≤ 31, ⟨⟨_, rfl⟩, rfl, Nat.zero_le _⟩, ?_, ?_⟩
  · rintro k d acc _ hd ⟨⟨x, rfl⟩, rfl, hk31⟩
    obtain ⟨z, hz, rfl⟩ := map_get hd
    have hk := (List.getElem?_eq_some_iff.mp hz).1
    have e : LL[k]? = some z.length := by rw [← hws, List.getElem?_map, hz]; rfl
    have := LL_le _ (List.mem_of_getElem? e)
    refine ⟨fun _ => ⟨by omega, by rw [nats_len, List.length_take]; omega, ⟨_, rfl⟩, ?_, by omega⟩, fun z => nomatch z⟩
    rw [List.take_succ, e, nats_app]
    rfl
  rintro acc _ ⟨⟨x, rfl⟩, rfl, _⟩
  rw [List.length_map, hwl, show LL.take 31 = LL from rfl]
  have main : ∀ l4 : List D, l4 = nats (R31 w few) → dSeq (dSet 5 (dCall S__law_uses (dCons (dVar 4) (dCons (dVar 2) dNil)))) (dSeq (dSet 6 (dLst dNil)) (dSeq (dFor (dRng1 (dC (.int 31))) (gNm 7)
      (dSet 6 (dOp cAdd (dVar 6) (dOp cMul (dLst (dCons (dOp cIx (dVar 3) (dVar 7)) dNil)) (dOp cIx (dVar 4) (dVar 7)))))) (r__law_small_choice_1 S__law_bit_words S__law_uses S__law_told S__law_choice_holds))) (DD Q)
      [.fz (.int w), .fz (.int few), .fz (.lst (row.map .int)), .fz (.lst (nats LL)), .fz (.lst l4), .no, .no, .no, .no, .no, x] := by
    rintro _ rfl
    refine ⟨R31 w few, row, rfl, by omega, by omega, hrow, fun us hF => ⟨Nat.zero_le _, by decide, by decide, ?_⟩⟩
    refine ⟨fun k env => ∃ x7, env = [.fz (.int w), .fz (.int few), .fz (.lst (row.map .int)), .fz (.lst (nats LL)), .fz (.lst (nats (R31 w few))), .fz (.lst (nats us)), .fz (.lst (nats (plain (LL.take k) ((R31 w few).take k)))), x7, .no, .no, x] ∧ (plain (LL.take k) ((R31 w few).take k)).length ≤ 81 * k ∧ (k = 0 ∨ ∃ c : Int, x7 = .fz (.int c)), ⟨_, rfl, Nat.zero_le _, .inl rfl⟩, ?_, ?_⟩
    · rintro k d _ hd ⟨x7, rfl, hlen, _⟩
      obtain ⟨hk, rfl⟩ := rngD_get hd
      have hk31 : k < 31 := hk
      have k2 : k < (R31 w few).length := by omega
      have k3 : k < LL.length := by rw [LL_len]; omega
      have hle := R31_le (w := w) hf _ (List.getElem_mem k2)
      have e : plain (LL.take (k + 1)) ((R31 w few).take (k + 1)) = plain (LL.take k) ((R31 w few).take k) ++ List.replicate (R31 w few)[k] LL[k] := by
        rw [List.take_succ, List.take_succ, List.getElem?_eq_getElem k3, List.getElem?_eq_getElem k2]
        exact plain_app _ _ _ _ (by rw [List.length_take, List.length_take]; omega)
      have e2 : (List.replicate (Int.toNat ((R31 w few)[k] : Nat)) [D.int (LL[k] : Nat)]).flatten = nats (List.replicate (R31 w few)[k] LL[k]) := by
        rw [flat_one, Int.toNat_natCast, nats_rep]
      refine ⟨.int LL[k], nats_at (by omega) k3, by simp [hsl], .int (R31 w few)[k], nats_at (by omega) k2, by omega, by rw [hsl]; simp; omega, by omega, ?_⟩
      rw [e2]
      refine ⟨by rw [nats_len, nats_len, List.length_replicate]; omega, .fz (.int (0 + (k : Nat))), ?_, ?_, .inr ⟨_, rfl⟩⟩
      · rw [e, nats_app]
        rfl
      · rw [e, List.length_append, List.length_replicate]
        omega
    · rintro _ ⟨x7, rfl, hlen, h7 | ⟨c, rfl⟩⟩
      · rw [rngD_len] at h7; exact absurd h7 (by decide)
      rw [rngD_len, show Int.toNat 31 = 31 from rfl, show LL.take 31 = LL from rfl, List.take_of_length_le (by omega)]
      exact small_1 q hw hf1 hf hF
  have m31 : (List.replicate (Int.toNat 31) [D.int (few : Nat)]).flatten = nats (List.replicate 31 few) := by
    rw [flat_one, show Int.toNat 31 = 31 from rfl, nats_rep]
  have e1 : (few : Int) * ((few : Int) - 1) / 2 = (few * (few - 1) / 2 : Nat) := by
    rw [Int.natCast_ediv, Int.natCast_mul, Int.natCast_sub hf1]; rfl
  refine ⟨by simp [hsl], by decide, by simp [hsl], by decide, fun hb => ?_, fun hb => ?_⟩
  · have hb := of_decide_eq_true hb
    have hw1 : w = 1 := by omega
    subst hw1
    have m30 : (List.replicate (Int.toNat 30) [D.int ((few : Int) * (few : Int))]).flatten = nats (List.replicate 30 (few * few)) := by
      rw [flat_one, show Int.toNat 30 = 30 from rfl, show ((few : Int) * (few : Int)) = ((few * few : Nat) : Int) by rw [Int.natCast_mul], nats_rep]
    refine ⟨mul_l (by omega) (by omega), by decide, log_ok (by decide) (by decide), by simp [hsl], mul_l (by omega) (by omega), by simp [hsl], by decide, by simp [hsl], by decide, ?_, ?_⟩
    · rw [m30, hsl, nats_len]; simp
    · refine main _ ?_
      rw [m30, e1]
      rfl
  · have hb := of_decide_eq_false hb
    have hw1 : w = 0 := by omega
    subst hw1
    refine main _ ?_
    rw [m31]
    rfl
end K21

set_option linter.all false
set_option maxRecDepth 100000
namespace K21
open PySem PySem.Spec PyProof.Rows L2 DL
open K02 (wt wt_zero)
def AT : List Int := [8, 140, 5, 7] ++ List.replicate 7 100000000
def S__law_asked : DSp := fun ds Q => ∃ (w s : Nat) (row : List Int) (i j : Int), ds = [.int i, .int j, .lst (row.map .int)] ∧ i = w ∧ j = s ∧ w ≤ 1 ∧ 1 ≤ s ∧ s < 2 ^ 27 ∧ RowOk AT row ∧ ∀ m : Nat, m ≤ 2 ^ 169 → Q (.int m)
theorem len__law_asked : ∀ ds Q, S__law_asked ds Q → ds.length = (["which", "often", "row"] : List Str).length := by rintro _ _ ⟨_, _, _, _, _, rfl, _⟩; rfl
theorem rooms_top {w s n : Nat} (hs : s < 2 ^ 27) (h : n ≤ 139) (h1 : w = 1 → n ≤ 76) : (rooms w s n).sum ≤ 2 ^ 167 := by
  unfold rooms
  split
  · rename_i hw
    have hn := h1 hw
    rw [List.sum_cons, geo_sum]
    have a : s * (s - 1) ≤ 2 ^ 27 * 2 ^ 27 := Nat.mul_le_mul (by omega) (by omega)
    have b : 2 * s * s ≤ 2 * 2 ^ 27 * 2 ^ 27 := Nat.mul_le_mul (Nat.mul_le_mul_left 2 (by omega)) (by omega)
    have c : 2 ^ (n - 1) - 1 ≤ 2 ^ 75 := Nat.le_trans (Nat.sub_le _ _) (Nat.pow_le_pow_right (by decide) (by omega))
    have d := Nat.mul_le_mul b c
    have e : 2 ^ 27 * 2 ^ 27 + 2 * 2 ^ 27 * 2 ^ 27 * 2 ^ 75 ≤ 2 ^ 167 := by decide
    omega
  · rw [geo_sum]
    have c : 2 ^ n - 1 ≤ 2 ^ 139 := Nat.le_trans (Nat.sub_le _ _) (Nat.pow_le_pow_right (by decide) h)
    have d := Nat.mul_le_mul (show s ≤ 2 ^ 27 by omega) c
    have e : 2 ^ 27 * 2 ^ 139 ≤ 2 ^ 167 := by decide
    omega
theorem pick {w : Nat} (hw : w ≤ 1) (a b : Int) : ∃ c : Int, atI [D.int a, .int b] (w : Int) = some (.int c) ∧ (c = a ∨ c = b) ∧ (w = 1 → c = b) ∧ (w = 0 → c = a) := by
  have : w = 0 ∨ w = 1 := by omega
  rcases this with rfl | rfl
  · exact ⟨a, rfl, .inl rfl, fun h => (nomatch h), fun _ => rfl⟩
  · exact ⟨b, rfl, .inr rfl, fun _ => rfl, fun h => (nomatch h)⟩
theorem rd__law_asked (ds : List D) (Q : D → Prop) (h : S__law_asked ds Q) : t__law_asked S__law_rooms { nx := fun _ => false = false ∧ Q .non, rt := Q } (startD 5 ds) := by
  obtain ⟨w, s, row, i, j, rfl, rfl, rfl, hw, hs, hs2, ⟨hl, hb⟩, q⟩ := h
  have hsl : sizeLine = 16777216 := sizeLine_eq
  have hl : row.length = 11 := hl
  obtain ⟨x0, h0, a0, b0⟩ := row_at hb 0 (by omega) rfl
  obtain ⟨x1, h1, a1, b1⟩ := row_at hb 1 (by omega) rfl
  obtain ⟨x2, h2, a2, b2⟩ := row_at hb 2 (by omega) rfl
  obtain ⟨x3, h3, a3, b3⟩ := row_at hb 3 (by omega) rfl
  obtain ⟨x4, h4, a4, b4⟩ := row_at hb 4 (by omega) rfl
  have hq : ∀ r : Int, 0 ≤ r → r.toNat ≤ 2 ^ 169 → Q (.int r) := fun r h1 h2 => by
    have := q r.toNat h2
    rwa [Int.toNat_of_nonneg h1] at this
  have p300 : 300 ≤ 2 ^ 169 := by decide
  refine ⟨_, h0 _ rfl, fun _ => ⟨_, h4 _ rfl, by decide, hq _ (Int.emod_nonneg _ (by decide)) ?_⟩, fun _ => ⟨_, h0 _ rfl, fun _ => ?_, fun _ => ?_⟩⟩
  · have := Int.emod_lt_of_pos x4 (show (0 : Int) < 300 by decide)
    omega
  · obtain ⟨c, hc, hc2, hc3, hc4⟩ := pick hw 139 76
    have c0 : 0 < c := by omega
    have m0 := Int.emod_nonneg x1 (show c ≠ 0 by omega)
    have m1 := Int.emod_lt_of_pos x1 c0
    refine ⟨_, h1 _ rfl, by simp [hsl], .int c, hc, c0, w, s, 1 + (x1 % c).toNat, _, _, _, rfl, rfl, rfl, by omega, hw, hs, by omega, by omega, by omega, ?_⟩
    obtain ⟨e1, e2⟩ := nats_sum (rooms w s (1 + (x1 % c).toNat))
    refine ⟨_, e1, _, h2 _ rfl, hq _ (by omega) ?_⟩
    have ht := rooms_top (w := w) (n := 1 + (x1 % c).toNat) hs2 (by omega) (fun h => by have := hc3 h; omega)
    have : 2 ^ 167 + 10 ≤ 2 ^ 169 := by decide
    rw [e2]
    omega
  · refine ⟨_, h3 _ rfl, by omega, by omega, fun k env => ∃ (v : Int) (x : Sl), env = [.fz (.int w), .fz (.int s), .fz (.lst (row.map .int)), .fz (.int v), x] ∧ 0 ≤ v, ⟨_, _, rfl, by decide⟩, ?_, ?_⟩
    · rintro k d _ hd ⟨v, x, rfl, hv⟩
      obtain ⟨hk, rfl⟩ := rngD_get hd
      have hk7 : k < 7 := by omega
      obtain ⟨y, hy, y0, y1⟩ := row_at hb (4 + k) (z := 100000000) (by omega) (by
        have : ∀ k, k < 7 → AT[4 + k]? = some 100000000 := by decide
        exact this k hk7)
      exact ⟨mul_r (by decide) (by decide), _, hy _ (by omega), _, _, rfl, by omega⟩
    · rintro _ ⟨v, x, rfl, hv⟩
      obtain ⟨c, hc, hc2, _, _⟩ := pick hw (10 ^ 50) (10 ^ 30)
      have c0 : 0 < c + 1 := by
        rcases hc2 with h | h <;> rw [h] <;> decide
      have cle : c ≤ 10 ^ 50 := by
        rcases hc2 with h | h <;> rw [h] <;> decide
      refine ⟨by decide, by decide, by decide, by decide, by decide, by decide, by simp [hsl], .int c, hc, c0, hq _ (Int.emod_nonneg _ (by omega)) ?_⟩
      have := Int.emod_lt_of_pos v c0
      have : (10 : Int) ^ 50 ≤ 2 ^ 169 := by decide
      omega
theorem cut_from {α : Type} (l : List α) (n : Nat) : DL.cutD l (some (n : Int)) none = l.drop n := by
  unfold DL.cutD
  rw [sIx_pos (by omega), Int.toNat_natCast]
  show (l.drop (min n l.length)).take (l.length - min n l.length) = _
  by_cases h : n ≤ l.length
  · rw [Nat.min_eq_left h, List.take_of_length_le (by rw [List.length_drop]; omega)]
  · rw [Nat.min_eq_right (by omega), List.drop_length, List.drop_of_length_le (by omega), List.take_nil]
theorem cut_mid {α : Type} (l : List α) (n m : Nat) (h : n ≤ l.length) (h2 : m ≤ l.length) : DL.cutD l (some (n : Int)) (some (m : Int)) = (l.drop n).take (m - n) := by
  unfold DL.cutD
  rw [sIx_pos (by omega), sIx_pos (by omega), Int.toNat_natCast, Int.toNat_natCast, Nat.min_eq_left h, Nat.min_eq_left h2]
theorem rowOk_drop {sizes row : List Int} (n : Nat) (h : RowOk sizes row) : RowOk (sizes.drop n) (row.drop n) := by
  refine ⟨by rw [List.length_drop, List.length_drop, h.1], fun k x z a b => ?_⟩
  rw [List.getElem?_drop] at a b
  exact h.2 _ x z a b
theorem rowOk_take {sizes row : List Int} (n : Nat) (h : RowOk sizes row) : RowOk (sizes.take n) (row.take n) := by
  refine ⟨by rw [List.length_take, List.length_take, h.1], fun k x z a b => ?_⟩
  rw [List.getElem?_take] at a b
  split at a
  · rename_i hk
    rw [if_pos hk] at b
    exact h.2 _ x z a b
  · cases a
def S__law_totals_hold : DSp := fun ds Q => ∃ (w s : Nat) (row small large : List Int) (i j : Int), ds = [.int i, .int j, .lst (row.map .int), .lst (small.map .int), .lst (large.map .int)] ∧ i = w ∧ j = s ∧ w ≤ 1 ∧ 1 ≤ s ∧ (w = 0 → s ≤ 10 ^ 8) ∧ (w = 1 → s ≤ 3600) ∧
  RowOk AT row ∧ RowOk (140 :: UT) small ∧ RowOk (140 :: UT) large ∧ Q (.bl true)
theorem len__law_totals_hold : ∀ ds Q, S__law_totals_hold ds Q → ds.length = (["which", "often", "row", "small", "large"] : List Str).length := by rintro _ _ ⟨_, _, _, _, _, _, _, rfl, _⟩; rfl
theorem rd__law_totals_hold (ds : List D) (Q : D → Prop) (h : S__law_totals_hold ds Q) : t__law_totals_hold S__law_asked S__law_told S__law_is_due S__law_small_choice S__law_rooms S__law_uses S__law_choice_holds S__law_tight { nx := fun _ => false = false ∧ Q .non, rt := Q } (startD 10 ds) := by
  obtain ⟨w, s, row, small, large, i, j, rfl, rfl, rfl, hw, hs, hw0, hw1, hrow, hsm, hlg, q⟩ := h
  have hsl : sizeLine = 16777216 := sizeLine_eq
  have hs27 : s + 1 < 2 ^ 27 := by
    have : w = 0 ∨ w = 1 := by omega
    rcases this with h | h
    · have := hw0 h; omega
    · have := hw1 h; omega
  have ls : small.length = 52 := hsm.1
  have ll : large.length = 52 := hlg.1
  obtain ⟨y0, g0, c0, d0⟩ := row_at hsm.2 0 (by omega) rfl
  obtain ⟨z0, f0, e0, k0⟩ := row_at hlg.2 0 (by omega) rfl
  have p1 : 2 ^ 169 + 1 ≤ 2 ^ 170 := by decide
  have p2 : 2 ^ 170 ≤ 2 ^ 190 := by decide
  refine ⟨w, s, row, _, _, rfl, rfl, rfl, hw, hs, by omega, hrow, fun m hm => ⟨w, s, m, _, _, _, rfl, rfl, rfl, rfl, hw, hs, by omega, by omega, fun r hr => ⟨by simp [hsl], ?_⟩⟩⟩
  refine ⟨fun k env => ∃ x7, env = [.fz (.int w), .fz (.int s), .fz (.lst (row.map .int)), .fz (.lst (small.map .int)), .fz (.lst (large.map .int)), .fz (.int m), .fz (.int r), x7, .no, .no], ⟨_, rfl⟩, ?_, ?_⟩
  · rintro k d _ hd ⟨x7, rfl⟩
    obtain ⟨v, rfl, hv⟩ : ∃ v : Int, d = .int v ∧ v ≤ m + 1 := by
      match k, hd with
      | 0, hd => exact ⟨_, (Option.some.inj hd).symm, by omega⟩
      | 1, hd => exact ⟨_, (Option.some.inj hd).symm, by omega⟩
      | 2, hd => exact ⟨_, (Option.some.inj hd).symm, by omega⟩
    obtain ⟨c, hc, _, _, _⟩ := pick hw (10 ^ 50) (10 ^ 30)
    refine ⟨fun h0 => ⟨by decide, by decide, by decide, by decide, by decide, by decide, by simp [hsl], .int c, hc, fun _ => ?_, fun _ => ⟨fun z => (nomatch z), fun _ => ⟨_, rfl⟩⟩⟩, fun _ => ⟨fun z => (nomatch z), fun _ => ⟨fun z => (nomatch z), fun _ => ⟨_, rfl⟩⟩⟩⟩
    have h0 : (0 : Int) ≤ v := of_decide_eq_true h0
    exact ⟨w, s, v.toNat, _, _, _, rfl, rfl, rfl, (Int.toNat_of_nonneg h0).symm, hw, hs, by omega, by omega, fun z => (nomatch z), fun _ => ⟨_, rfl⟩⟩
  · rintro _ ⟨x7, rfl⟩
    obtain ⟨c, hc, hc2, hc3, hc4⟩ := pick hw 9 5
    obtain ⟨c', hc', hc2', hc3', hc4'⟩ := pick hw 131 76
    obtain ⟨c'', hc'', _, _, _⟩ := pick hw (10 ^ 8) 3600
    have m0 := Int.emod_nonneg y0 (show c ≠ 0 by omega)
    have m1 := Int.emod_lt_of_pos y0 (show 0 < c by omega)
    have n0 := Int.emod_nonneg z0 (show c' ≠ 0 by omega)
    have n1 := Int.emod_lt_of_pos z0 (show 0 < c' by omega)
    have rest : r__law_totals_hold_1 S__law_asked S__law_told S__law_is_due S__law_small_choice S__law_rooms S__law_uses S__law_choice_holds S__law_tight (DD Q)
        [.fz (.int w), .fz (.int s), .fz (.lst (row.map .int)), .fz (.lst (small.map .int)), .fz (.lst (large.map .int)), .fz (.int m), .fz (.int r), x7, .no, .no] := by
      have tail : (dSeq (dIfS (dNot (dTst (dCall S__law_small_choice (dCons (dVar 0) (dCons (dOp cAdd (dC (.int 1)) (dOp cMod (dCal cInt (dOp cIx (dVar 3) (dC (.int 0)))) (dOp cIx (dLst (dCons (dC (.int 9)) (dCons (dC (.int 5)) dNil))) (dVar 0)))) (dCons (dSlice (dVar 3) (dPart (dC (.int 1))) dNoP) dNil)))))) (dRet (dC (.bl false))) dNext)
          (dSeq (dSet 8 (dCall S__law_rooms (dCons (dVar 0) (dCons (dVar 1) (dCons (dOp cAdd (dC (.int 1)) (dOp cMod (dCal cInt (dOp cIx (dVar 4) (dC (.int 0)))) (dOp cIx (dLst (dCons (dC (.int 131)) (dCons (dC (.int 76)) dNil))) (dVar 0)))) dNil)))))
          (dSeq (dSet 9 (dCall S__law_uses (dCons (dVar 8) (dCons (dSlice (dVar 4) (dPart (dC (.int 1))) dNoP) dNil))))
          (dSeq (dIfS (dNot (dTst (dCall S__law_choice_holds (dCons (dVar 0) (dCons (dVar 1) (dCons (dLRg1 (dCal cLen (dVar 8))) (dCons (dVar 9) (dCons (dCall S__law_tight (dCons (dVar 8) (dCons (dVar 9) dNil))) dNil)))))))) (dRet (dC (.bl false))) dNext)
          (dRet (dCmp cEq (dCall S__law_told (dCons (dVar 0) (dCons (dVar 1) (dCons (dVar 5) dNil)))) (dVar 6)))))))
          (DD Q) [.fz (.int w), .fz (.int s), .fz (.lst (row.map .int)), .fz (.lst (small.map .int)), .fz (.lst (large.map .int)), .fz (.int m), .fz (.int r), x7, .no, .no] := by
        refine ⟨_, g0 _ rfl, by simp [hsl], .int c, hc, by omega, w, 1 + (y0 % c).toNat, small.drop 1, (w : Int), 1 + y0 % c, ?_, rfl, by omega, hw, by omega, by omega, rowOk_drop 1 hsm, fun z => (nomatch z), fun _ => ?_⟩
        · show [D.int w, .int (1 + y0 % c), .lst (DL.cutD (small.map D.int) (some ((1 : Nat) : Int)) none)] = _
          rw [cut_from, List.map_drop]
        refine ⟨_, f0 _ rfl, by simp [hsl], .int c', hc', by omega, w, s, 1 + (z0 % c').toNat, _, _, _, rfl, rfl, rfl, by omega, hw, hs, by omega, by omega, by omega, ?_⟩
        have hn1 : 1 ≤ 1 + (z0 % c').toNat := by omega
        have hn2 : 1 + (z0 % c').toNat ≤ 131 := by omega
        have hn3 : w = 1 → 1 + (z0 % c').toNat ≤ 76 := fun h => by have := hc3' h; omega
        generalize 1 + (z0 % c').toNat = n at *
        have hrl := rooms_len (which := w) (s := s) hn1
        refine ⟨rooms w s n, large.drop 1, ?_, by omega, by omega, rowOk_drop 1 hlg, fun us hF => ?_⟩
        · show [D.lst (nats (rooms w s n)), .lst (DL.cutD (large.map D.int) (some ((1 : Nat) : Int)) none)] = _
          rw [cut_from, List.map_drop]
        have hsum := sum_le hF.1.symm hF.2
        have htop := rooms_top (w := w) (s := s) (n := n) (by omega) (by omega) hn3
        have p167 : 2 ^ 167 ≤ 2 ^ 190 := by decide
        have eln : rngD 0 (nats (rooms w s n)).length = nats (List.range n) := by
          rw [nats_len, hrl]
          unfold rngD nats
          refine List.map_congr_left fun k _ => ?_
          rw [Int.zero_add]
        refine ⟨by rw [nats_len]; omega, by rw [nats_len]; omega, rooms w s n, us, rfl, hF.1.symm, by omega, fun b hb => ?_⟩
        rw [hrl] at hb
        refine ⟨w, s, List.range n, rooms w s n, us, _, _, b, ?_, rfl, rfl, hw, hs, by omega, by rw [List.length_range, hrl], hF.1.symm, by rw [hF.1]; omega, fun l hl => by have := List.mem_range.mp hl; omega, by omega, List.pairwise_le_range, hF.2, ?_, hb, fun z => (nomatch z), fun _ => ⟨w, s, m, _, _, _, rfl, rfl, rfl, rfl, hw, hs, by omega, by omega, fun r2 hr2 => ?_⟩⟩
        · show [D.int w, .int s, .lst (rngD 0 (nats (rooms w s n)).length), .lst (nats us), .bl b] = _
          rw [eln]
        · have := wt_G 0 us.sum (rooms w s n)
          rw [hrl, ← List.range_eq_range', T_cut hn1 (by omega) hsum] at this
          exact this.symm
        · show Q (.bl (decide (r2 = r)))
          rw [hr, hr2]
          simpa using q
      refine ⟨by decide, by decide, by decide, by simp [hsl], .int c'', hc'', fun hb => ⟨w, s + 1, m, _, _, _, rfl, rfl, rfl, rfl, hw, by omega, by omega, by omega, fun z => (nomatch z), fun _ => tail⟩, fun _ => ⟨fun z => (nomatch z), fun _ => tail⟩⟩
    exact rest
end K21

set_option linter.all false
set_option maxRecDepth 100000
set_option maxHeartbeats 4000000
namespace K21
open PySem PySem.Spec PyProof.Rows L2 DL
open K02 (wt wt_zero)
def S__law_bound : DSp := fun ds Q => ∃ (s S c : Nat) (i j k : Int), ds = [.int i, .int j, .int k] ∧ i = s ∧ j = S ∧ k = c ∧ 1 ≤ s ∧ s ≤ 6 ∧ 1 ≤ S ∧ S < 2 ^ 60 ∧ c ≤ 2 ^ 190 ∧ ∀ r : Int, r = (told s S c : Nat) → Q (.int r)
def S__law_long_block : DSp := fun ds Q => ∃ (s c : Nat) (i j : Int), ds = [.int i, .int j] ∧ i = s ∧ j = c ∧ 1 ≤ s ∧ s ≤ 6 ∧ c ≤ 2 ^ 190 ∧ ∀ r : Int, r = (P s c : Nat) → Q (.int r)
def S__law_excess_holds : DSp := fun ds Q => ∃ (s S c : Nat) (i j k : Int), ds = [.int i, .int j, .int k] ∧ i = s ∧ j = S ∧ k = c ∧ 1 ≤ s ∧ s ≤ 6 ∧ 1 ≤ S ∧ S < 2 ^ 60 ∧ c ≤ 2 ^ 170 ∧ Q (.bl true)
def S__law_big : DSp := fun ds Q => ∃ (l : List Int) (m : Int), ds = [.lst (l.map .int), .int m] ∧ ∀ n : Nat, n ≤ 10 ^ 30 → Q (.int n)
def PT : List Int := [8, 100, 4, 4] ++ List.replicate 4 100000000
def S__law_pieces : DSp := fun ds Q => ∃ row : List Int, ds = [.lst (row.map .int)] ∧ RowOk PT row ∧ ∀ n : Nat, n ≤ 10 ^ 30 → Q (.int n)
def GT : List Int := [2, 8, 100, 4, 4] ++ List.replicate 8 100000000
def S__law_growth_holds : DSp := fun ds Q => ∃ (s S : Nat) (row : List Int) (i j : Int), ds = [.int i, .int j, .lst (row.map .int)] ∧ i = s ∧ j = S ∧ 1 ≤ s ∧ s ≤ 6 ∧ 1 ≤ S ∧ S < 2 ^ 60 ∧ RowOk GT row ∧ Q (.bl true)
def S_law : DSp := spLawD
theorem len__law_bound : ∀ ds Q, S__law_bound ds Q → ds.length = (["letters", "states", "many"] : List Str).length := by rintro _ _ ⟨_, _, _, _, _, _, rfl, _⟩; rfl
theorem len__law_long_block : ∀ ds Q, S__law_long_block ds Q → ds.length = (["letters", "many"] : List Str).length := by rintro _ _ ⟨_, _, _, _, rfl, _⟩; rfl
theorem len__law_excess_holds : ∀ ds Q, S__law_excess_holds ds Q → ds.length = (["letters", "states", "many"] : List Str).length := by rintro _ _ ⟨_, _, _, _, _, _, rfl, _⟩; rfl
theorem len__law_big : ∀ ds Q, S__law_big ds Q → ds.length = (["parts", "many"] : List Str).length := by rintro _ _ ⟨_, _, rfl, _⟩; rfl
theorem len__law_pieces : ∀ ds Q, S__law_pieces ds Q → ds.length = (["row"] : List Str).length := by rintro _ _ ⟨_, rfl, _⟩; rfl
theorem len__law_growth_holds : ∀ ds Q, S__law_growth_holds ds Q → ds.length = (["letters", "states", "row"] : List Str).length := by rintro _ _ ⟨_, _, _, _, _, rfl, _⟩; rfl
theorem len_law : ∀ ds Q, S_law ds Q → ds.length = (["script"] : List Str).length := by rintro _ _ ⟨_, rfl, _⟩; rfl
theorem rd__law_bound (ds : List D) (Q : D → Prop) (h : S__law_bound ds Q) : t__law_bound S__law_width S__law_log { nx := fun _ => false = false ∧ Q .non, rt := Q } (startD 5 ds) := by
  obtain ⟨s, S, c, i, j, k, rfl, rfl, rfl, rfl, hs, hs6, hS, hS2, hc, q⟩ := h
  have w1 : W s ≤ 60 := (W_le hs).mpr (Nat.le_trans hs6 (by decide))
  have w2 : W S ≤ 60 := (W_le hS).mpr (by omega)
  have p1 : 2 ^ 60 ≤ 2 ^ 400 := by decide
  have p2 : 2 ^ 190 + 1 < 2 ^ 400 := by decide
  refine ⟨s, _, rfl, rfl, hs, by omega, fun r hr => ⟨S, _, rfl, rfl, hS, by omega, fun r2 hr2 => ⟨mul_l (by decide) (by decide), mul_r (by omega) (by omega), c + 1, _, rfl, rfl, by omega, fun r3 hr3 => ⟨mul_l (by decide) (by decide), q _ ?_⟩⟩⟩⟩
  have h3 := bl_pos (n := c + 1) (by omega)
  unfold told
  rw [hr, hr2, hr3, Int.natCast_add, Int.natCast_add, Int.natCast_add, Int.natCast_mul, show ((W s + 1 + 2 * W S : Nat) : Int) = (W s : Int) + 1 + 2 * (W S : Int) by omega]
  omega
theorem rd__law_long_block (ds : List D) (Q : D → Prop) (h : S__law_long_block ds Q) : t__law_long_block S__law_width { nx := fun _ => false = false ∧ Q .non, rt := Q } (startD 6 ds) := by
  obtain ⟨s, c, i, j, rfl, rfl, rfl, hs, hs6, hc, q⟩ := h
  have p2 : 2 ^ 190 + 1 < 2 ^ 400 := by decide
  refine ⟨c + 1, _, rfl, rfl, by omega, by omega, fun r hr => ⟨by decide, by decide, ?_⟩⟩
  by_cases hs1 : s = 1
  · subst hs1
    refine ⟨fun k env => ∃ (tot top : Int) (x4 x5 : Sl), env = [.fz (.int (1 : Nat)), .fz (.int c), .fz (.int tot), .fz (.int top), x4, x5] ∧ k ≤ 1 ∧ tot = (W (c + 1) + k * (c + 1) : Nat) ∧ top = (2 ^ k : Nat), ⟨_, _, _, _, rfl, by omega, by rw [hr]; simp, by simp⟩, ?_, ?_⟩
    · rintro k d _ hd ⟨tot, top, x4, x5, rfl, hk1, rfl, rfl⟩
      have hk : k = 0 ∨ k = 1 := by omega
      refine ⟨fun z => absurd z (by decide), fun _ => ?_⟩
      rcases hk with rfl | rfl
      · refine ⟨fun z => absurd z (by decide), fun _ => ⟨fun z => ?_, fun _ => ⟨mul_r (by decide) (by decide), _, _, _, _, rfl, by omega, by omega, rfl⟩⟩⟩
        have := of_decide_eq_true z; omega
      · refine ⟨fun _ => ⟨fun _ => q _ ?_, fun z => ?_⟩, fun z => absurd z (by decide)⟩
        · unfold P; rw [Ws_one]; omega
        · have := of_decide_eq_false z; omega
    · rintro _ ⟨tot, top, x4, x5, rfl, hk1, _⟩
      rw [rngD_len] at hk1
      exact absurd hk1 (by decide)
  · have hs2 : 2 ≤ s := by omega
    refine ⟨fun k env => ∃ (tot top : Int) (x4 x5 : Sl), env = [.fz (.int s), .fz (.int c), .fz (.int tot), .fz (.int top), x4, x5] ∧ tot = (W (c + 1) + Sm s k (c + 1) : Nat) ∧ top = (2 ^ k : Nat) ∧ ∀ j, j < k → nar s j ≤ c, ⟨_, _, _, _, rfl, by rw [hr, Sm_zero]; omega, by simp, fun j h => absurd h (Nat.not_lt_zero _)⟩, ?_, ?_⟩
    · rintro k d _ hd ⟨tot, top, x4, x5, rfl, rfl, rfl, hj⟩
      have en : max (0 : Int) (((2 ^ k : Nat) : Int) - 2) / ((s : Int) - 1) = (nar s k : Nat) := by
        unfold nar
        rw [Int.natCast_ediv, Int.natCast_sub hs, show max (0 : Int) (((2 ^ k : Nat) : Int) - 2) = ((2 ^ k - 2 : Nat) : Int) by omega]
        rfl
      refine ⟨fun _ => ⟨by omega, log_ok (by omega) (by omega), ?_⟩, fun z => ?_⟩
      · refine ⟨fun z => ?_, fun z => ⟨mul_r (by decide) (by decide), _, _, _, _, rfl, ?_, by rw [Nat.pow_succ]; rfl, fun j hj2 => ?_⟩⟩
        · have z : (c : Int) < max (0 : Int) (((2 ^ k : Nat) : Int) - 2) / ((s : Int) - 1) := of_decide_eq_true z
          rw [en] at z
          refine q _ ?_
          unfold P
          rw [Sm_eq hs2 _ (by omega)]
        · have z : ¬ ((c : Int) < max (0 : Int) (((2 ^ k : Nat) : Int) - 2) / ((s : Int) - 1)) := of_decide_eq_false z
          rw [en] at z
          rw [Sm_succ hs2]
          show ((W (c + 1) + Sm s k (c + 1) : Nat) : Int) + c + 1 - max (0 : Int) (((2 ^ k : Nat) : Int) - 2) / ((s : Int) - 1) = _
          rw [en]
          omega
        · have z : ¬ ((c : Int) < max (0 : Int) (((2 ^ k : Nat) : Int) - 2) / ((s : Int) - 1)) := of_decide_eq_false z
          rw [en] at z
          by_cases e : j = k
          · subst e; omega
          · exact hj j (by omega)
      · have := of_decide_eq_false z; omega
    · rintro _ ⟨tot, top, x4, x5, rfl, h1, h2, hj⟩
      rw [rngD_len] at hj
      have h3 := hj 399 (by decide)
      have h4 := nar_big (s := s) (w := 399) (n := c + 1) hs2 (by
        have : (c + 1) * (s - 1) ≤ (2 ^ 190 + 1) * 5 := Nat.mul_le_mul (by omega) (by omega)
        have : (2 ^ 190 + 1) * 5 + 2 ≤ 2 ^ 399 := by decide
        omega)
      omega
theorem rd__law_excess_holds (ds : List D) (Q : D → Prop) (h : S__law_excess_holds ds Q) : t__law_excess_holds S_excess S_told_excess S__law_whole S__law_long_block S__law_filled S__law_rooms S__law_bound { nx := fun _ => false = false ∧ Q .non, rt := Q } (startD 5 ds) := by
  obtain ⟨s, S, c, i, j, k, rfl, rfl, rfl, rfl, hs, hs6, hS, hS2, hc, q⟩ := h
  have p1 : 2 ^ 170 ≤ 2 ^ 190 := by decide
  refine ⟨s, S, c, _, _, _, rfl, rfl, rfl, rfl, hs, hs6, hS, hS2, by omega, fun g hg => ⟨s, S, c, _, _, _, rfl, rfl, rfl, rfl, hs, hs6, hS, hS2, fun t ht => ?_⟩⟩
  refine ⟨g, rfl, fun z => (nomatch z), fun _ => ⟨s, c, _, _, rfl, rfl, rfl, hs, hs6, by omega, fun b hb => ⟨1, S, 180, _, _, _, rfl, rfl, rfl, rfl, by omega, hS, hS2, by omega, by omega, rooms 1 S 180, c, _, rfl, rfl, by rw [rooms_len (by decide)]; decide, fun f hf => ?_⟩⟩⟩
  rw [T_cut (by decide) (by decide)] at hf
  · refine ⟨fun z => ?_, fun _ => ⟨rfl, rfl, s, S, c, _, _, _, rfl, rfl, rfl, rfl, hs, hs6, hS, hS2, by omega, fun g2 hg2 => ⟨fun z => ?_, fun _ => ⟨rfl, rfl, s, S, c, _, _, _, rfl, rfl, rfl, rfl, hs, hs6, hS, hS2, fun t2 ht2 => ⟨fun z => ?_, fun _ => ?_⟩⟩⟩⟩⟩
    · rw [hg, hb, hf] at z; simp at z
    · rw [hg, hg2] at z; simp at z
    · rw [ht, ht2] at z; simp at z
    · refine ⟨t, rfl, fun _ => ⟨s, S, c, _, _, _, rfl, rfl, rfl, rfl, hs, hs6, hS, hS2, by omega, fun b2 hb2 => ⟨fun _ => ?_, fun z => ?_⟩⟩, fun z => (nomatch z)⟩
      · show Q (.bl (decide (g ≤ t)))
        have h1 := excess_told hs hS (show c ≤ 2 ^ 190 by omega)
        have h2 : (told s S c : Nat) = c * (W s + 1 + 2 * W S) + W s + 2 + 2 * (bl (c + 1) - 1) := rfl
        rw [← h2] at h1
        rw [show decide (g ≤ t) = true from decide_eq_true (by omega)]
        exact q
      · have z : decide (t = b2) = false := z
        rw [ht, hb2] at z; simp at z
  · have := rooms_sum (which := 1) (s := S) (n := 180) hS (by decide)
    have : 2 ^ 170 ≤ 2 ^ (180 - 1) - 1 := by decide
    omega
theorem rd__law_big (ds : List D) (Q : D → Prop) (h : S__law_big ds Q) : t__law_big { nx := fun _ => false = false ∧ Q .non, rt := Q } (startD 4 ds) := by
  obtain ⟨l, m, rfl, q⟩ := h
  refine ⟨fun k env => ∃ (v : Int) (x : Sl), env = [.fz (.lst (l.map .int)), .fz (.int m), .fz (.int v), x], ⟨_, _, rfl⟩, ?_, ?_⟩
  · rintro k d _ hd ⟨v, x, rfl⟩
    rw [cut_map] at hd
    obtain ⟨z, hz, rfl⟩ := map_get hd
    exact ⟨mul_r (by decide) (by decide), _, _, rfl⟩
  · rintro _ ⟨v, x, rfl⟩
    have h0 := Int.emod_nonneg v (show (10 : Int) ^ 30 + 1 ≠ 0 by decide)
    have h1 := Int.emod_lt_of_pos v (show (0 : Int) < 10 ^ 30 + 1 by decide)
    refine ⟨by decide, by decide, by decide, by decide, ?_⟩
    have := q (v % (10 ^ 30 + 1)).toNat (by omega)
    rwa [Int.toNat_of_nonneg h0] at this
theorem rd__law_pieces (ds : List D) (Q : D → Prop) (h : S__law_pieces ds Q) : t__law_pieces S__law_big { nx := fun _ => false = false ∧ Q .non, rt := Q } (startD 3 ds) := by
  obtain ⟨row, rfl, ⟨hl, hb⟩, q⟩ := h
  have hl : row.length = 8 := hl
  obtain ⟨x0, h0, a0, b0⟩ := row_at hb 0 (by omega) rfl
  obtain ⟨x1, h1, a1, b1⟩ := row_at hb 1 (by omega) rfl
  obtain ⟨x2, h2, a2, b2⟩ := row_at hb 2 (by omega) rfl
  obtain ⟨x3, h3, a3, b3⟩ := row_at hb 3 (by omega) rfl
  obtain ⟨x4, h4, a4, b4⟩ := row_at hb 4 (by omega) rfl
  have hq : ∀ r : Int, 0 ≤ r → r ≤ 10 ^ 30 → Q (.int r) := fun r h1 h2 => by
    have := q r.toNat (by omega)
    rwa [Int.toNat_of_nonneg h1] at this
  refine ⟨_, h0 _ rfl, fun _ => ⟨_, h4 _ rfl, by decide, hq _ (Int.emod_nonneg _ (by decide)) ?_⟩, fun _ => ⟨_, h0 _ rfl, fun _ => ?_, fun _ => ?_⟩⟩
  · have := Int.emod_lt_of_pos x4 (show (0 : Int) < 201 by decide)
    omega
  · refine ⟨_, h1 _ rfl, by omega, by omega, fun k env => ∃ (t : Int) (x : Sl), env = [.fz (.lst (row.map .int)), .fz (.int t), x] ∧ t = (2 ^ k : Nat), ⟨_, _, rfl, by simp⟩, ?_, ?_⟩
    · rintro k d _ hd ⟨t, x, rfl, rfl⟩
      exact ⟨mul_r (by decide) (by decide), _, _, rfl, by rw [Nat.pow_succ]; rfl⟩
    · rintro _ ⟨t, x, rfl, rfl⟩
      rw [rngD_len]
      have hp : 2 ^ x1.toNat ≤ 2 ^ 99 := Nat.pow_le_pow_right (by decide) (by omega)
      have : (2 : Nat) ^ 99 + 2 ≤ 10 ^ 30 := by decide
      refine ⟨_, h2 _ rfl, hq _ (by omega) (by omega)⟩
  · refine ⟨_, h3 _ rfl, (row.drop 4).take 4, 1 + x3, ?_, q⟩
    show [D.lst (DL.cutD (row.map D.int) (some ((4 : Nat) : Int)) (some ((8 : Nat) : Int))), .int (1 + x3)] = _
    rw [cut_map, cut_mid _ _ _ (by omega) (by omega)]
/-- bounds of the excess, for its repr -/
theorem T_top {S : Nat} (hS : 1 ≤ S) : ∀ c, c ≤ 2 ^ 190 → T 1 S c ≤ 191 * c
  | 0, _ => by
    show wt 0 0 _ ≤ _
    rw [wt_zero]
    exact Nat.zero_le _
  | c + 1, h => by
    have ih := T_top hS c (by omega)
    obtain ⟨l, e, h1, _⟩ := next_word hS (show c < 2 ^ 190 by omega)
    have : l ≤ 191 := by
      have h2 : 2 ^ l ≤ 2 ^ 191 := Nat.le_trans h1 (by
        have : 2 ^ 190 + 1 ≤ 2 ^ 191 := by decide
        omega)
      exact (Nat.pow_le_pow_iff_right (by decide)).mp h2
    omega
theorem told_top {s S c : Nat} (hs : 1 ≤ s) (hs6 : s ≤ 6) (hS : 1 ≤ S) (hS2 : S < 2 ^ 60) (hc : c ≤ 2 ^ 170) : told s S c ≤ 2 ^ 190 := by
  have w1 : W s ≤ 60 := (W_le hs).mpr (Nat.le_trans hs6 (by decide))
  have w2 : W S ≤ 60 := (W_le hS).mpr (by omega)
  have h3 : bl (c + 1) ≤ 200 := bl_le.mpr (by
    have : 2 ^ 170 + 1 < 2 ^ 200 := by decide
    omega)
  have h4 : c * (W s + 1 + 2 * W S) ≤ 2 ^ 170 * 181 := Nat.mul_le_mul hc (by omega)
  have h5 : 2 ^ 170 * 181 + 1000 ≤ 2 ^ 190 := by decide
  unfold told
  omega
theorem small_int {e : Int} (h : e.natAbs ≤ 2 ^ 190) : decide (e.natAbs.log2 < 599) = true := by
  apply decide_eq_true
  by_cases z : e.natAbs = 0
  · rw [z]; decide
  · rw [Nat.log2_lt z]
    have : 2 ^ 190 < 2 ^ 599 := by decide
    omega
theorem repr_ok {a b : Int} (ha : a.natAbs ≤ 2 ^ 190) (hb : b.natAbs ≤ 2 ^ 190) {Q : D → Prop} (h : ∀ s, s = shw (.lst [.int a, .int b]) → Q (.str s)) : cRepr (.lst [.int a, .int b]) Q :=
  ⟨rfl, rfl, by
    show (decide (a.natAbs.log2 < 599) && (decide (b.natAbs.log2 < 599) && true)) = true
    rw [small_int ha, small_int hb]
    rfl, by show 0 + 1 + (0 + 1 + 0) ≤ 27000; decide, h⟩
theorem rd__law_growth_holds (ds : List D) (Q : D → Prop) (h : S__law_growth_holds ds Q) : t__law_growth_holds S__law_pieces S__law_big S_told_excess S_excess S__law_excess_holds { nx := fun _ => false = false ∧ Q .non, rt := Q } (startD 6 ds) := by
  obtain ⟨s, S, row, i, j, rfl, rfl, rfl, hs, hs6, hS, hS2, hrow, q⟩ := h
  have hsl : sizeLine = 16777216 := sizeLine_eq
  have hl : row.length = 13 := hrow.1
  obtain ⟨x0, h0, a0, b0⟩ := row_at hrow.2 0 (by omega) rfl
  obtain ⟨x4, h4, a4, b4⟩ := row_at hrow.2 4 (by omega) rfl
  have p1 : (10 : Nat) ^ 30 ≤ 2 ^ 169 := by decide
  have p2 : 2 ^ 169 ≤ 2 ^ 170 := by decide
  have p3 : 2 ^ 170 ≤ 2 ^ 190 := by decide
  have hpr : RowOk PT ((row.drop 1).take 8) := rowOk_take 8 (rowOk_drop 1 hrow)
  refine ⟨(row.drop 1).take 8, ?_, hpr, fun m hm => ?_⟩
  · show [D.lst (DL.cutD (row.map D.int) (some ((1 : Nat) : Int)) (some ((9 : Nat) : Int)))] = _
    rw [cut_map, cut_mid _ _ _ (by omega) (by omega)]
  have small : ∀ e : Int, e = (P s m : Nat) - (T 1 S m : Nat) → e.natAbs ≤ 2 ^ 190 := fun e he => by
    have h1 := excess_told hs hS (show m ≤ 2 ^ 190 by omega)
    have h2 : (told s S m : Nat) = m * (W s + 1 + 2 * W S) + W s + 2 + 2 * (bl (m + 1) - 1) := rfl
    rw [← h2] at h1
    have h3 := told_top hs hs6 hS hS2 (show m ≤ 2 ^ 170 by omega)
    have h4 := T_top hS m (by omega)
    have h5 : 191 * 2 ^ 169 ≤ 2 ^ 190 := by decide
    omega
  have smt : ∀ e : Int, e = (told s S m : Nat) → e.natAbs ≤ 2 ^ 190 := fun e he => by
    have h3 := told_top hs hs6 hS hS2 (show m ≤ 2 ^ 170 by omega)
    omega
  have main : ∀ (more : Nat) (mi : Int), mi = more → dSeq (dSet 5 (dCal cRepr (dLst (dCons (dCall S_excess (dCons (dVar 0) (dCons (dVar 1) (dCons (dVar 3) dNil)))) (dCons (dCall S_told_excess (dCons (dVar 0) (dCons (dVar 1) (dCons (dVar 3) dNil)))) dNil)))))
      (dSeq (dIfS (dNot (dTst (dCall S__law_excess_holds (dCons (dVar 0) (dCons (dVar 1) (dCons (dVar 3) dNil)))))) (dRet (dC (.bl false))) dNext)
      (dSeq (dIfS (dChain cLt cLe (dVar 3) (dVar 4) (dOp cPow (dC (.int 10)) (dC (.int 30)))) (dSeq (dIfS (dNot (dTst (dCall S__law_excess_holds (dCons (dVar 0) (dCons (dVar 1) (dCons (dVar 4) dNil)))))) (dRet (dC (.bl false))) dNext)
        (dIfS (dAnd (dCmpT cGt (dVar 0) (dC (.int 1))) (dCmpT cLe (dCall S_excess (dCons (dVar 0) (dCons (dVar 1) (dCons (dVar 4) dNil)))) (dCall S_excess (dCons (dVar 0) (dCons (dVar 1) (dCons (dVar 3) dNil)))))) (dRet (dC (.bl false))) dNext)) dNext)
      (dRet (dCmp cEq (dCal cRepr (dLst (dCons (dCall S_excess (dCons (dVar 0) (dCons (dVar 1) (dCons (dVar 3) dNil)))) (dCons (dCall S_told_excess (dCons (dVar 0) (dCons (dVar 1) (dCons (dVar 3) dNil)))) dNil)))) (dVar 5)))))
      (DD Q) [.fz (.int s), .fz (.int S), .fz (.lst (row.map .int)), .fz (.int m), .fz (.int mi), .no] := by
    rintro more _ rfl
    refine ⟨s, S, m, _, _, _, rfl, rfl, rfl, rfl, hs, hs6, hS, hS2, by omega, fun g hg => ⟨s, S, m, _, _, _, rfl, rfl, rfl, rfl, hs, hs6, hS, hS2, fun t ht => ⟨by simp [hsl], repr_ok (small g hg) (smt t ht) fun kept hkept => ?_⟩⟩⟩
    refine ⟨s, S, m, _, _, _, rfl, rfl, rfl, rfl, hs, hs6, hS, hS2, by omega, fun z => (nomatch z), fun _ => ?_⟩
    have last : (dRet (dCmp cEq (dCal cRepr (dLst (dCons (dCall S_excess (dCons (dVar 0) (dCons (dVar 1) (dCons (dVar 3) dNil)))) (dCons (dCall S_told_excess (dCons (dVar 0) (dCons (dVar 1) (dCons (dVar 3) dNil)))) dNil)))) (dVar 5))) (DD Q) [.fz (.int s), .fz (.int S), .fz (.lst (row.map .int)), .fz (.int m), .fz (.int more), .fz (.str kept)] := by
      refine ⟨s, S, m, _, _, _, rfl, rfl, rfl, rfl, hs, hs6, hS, hS2, by omega, fun g2 hg2 => ⟨s, S, m, _, _, _, rfl, rfl, rfl, rfl, hs, hs6, hS, hS2, fun t2 ht2 => ⟨by simp [hsl], repr_ok (small g2 hg2) (smt t2 ht2) fun k2 hk2 => ?_⟩⟩⟩
      show Q (.bl (decide (k2 = kept)))
      rw [hk2, hkept, hg, hg2, ht, ht2]
      simpa using q
    refine ⟨fun hmore => ⟨by decide, by decide, by decide, fun hb => ?_, fun _ => last⟩, fun _ => ⟨fun z => (nomatch z), fun _ => last⟩⟩
    · have hmore : m < more := by
        have : (m : Int) < more := of_decide_eq_true hmore
        omega
      have hb : (more : Int) ≤ 10 ^ 30 := of_decide_eq_true hb
      have hb2 : more ≤ 10 ^ 30 := by omega
      refine ⟨s, S, more, _, _, _, rfl, rfl, rfl, rfl, hs, hs6, hS, hS2, by omega, fun z => (nomatch z), fun _ => ⟨fun hgt => ?_, fun _ => ⟨fun z => (nomatch z), fun _ => last⟩⟩⟩
      have hgt : (1 : Int) < s := of_decide_eq_true hgt
      refine ⟨s, S, more, _, _, _, rfl, rfl, rfl, rfl, hs, hs6, hS, hS2, by omega, fun e1 he1 => ⟨s, S, m, _, _, _, rfl, rfl, rfl, rfl, hs, hs6, hS, hS2, by omega, fun e2 he2 => ⟨fun z => ?_, fun _ => last⟩⟩⟩
      have z : e1 ≤ e2 := of_decide_eq_true z
      have := excess_mono (s := s) (S := S) (c := m) (by omega) hS more hmore (by omega)
      omega
  refine ⟨_, h0 _ rfl, fun _ => ?_, fun _ => main (m + 1) _ rfl⟩
  refine ⟨by decide, by decide, by decide, _, h4 _ rfl, (row.drop 9).take 4, 1 + x4, ?_, fun b hb => ?_⟩
  · show [D.lst (DL.cutD (row.map D.int) (some ((9 : Nat) : Int)) (some ((13 : Nat) : Int))), .int (1 + x4)] = _
    rw [cut_map, cut_mid _ _ _ (by omega) (by omega)]
  · exact main (min (10 ^ 30) (m + 1 + b)) _ (by
      show min ((10 : Int) ^ (30 : Int).toNat) ((m : Int) + 1 + (b : Nat)) = _
      have e : ((10 : Int) ^ (30 : Int).toNat) = ((10 ^ 30 : Nat) : Int) := by decide
      rw [e]
      omega)
theorem cutDrop {row : List Int} (h : row.length = 13) (a b : D) (x y : List Int) (j : Int) : [a, D.int j, .lst (DL.cutD (row.map D.int) (some 2) none), .lst (x.map D.int), .lst (y.map D.int)] = [a, .int j, .lst ((row.drop 2).map .int), .lst (x.map .int), .lst (y.map .int)] := by
  have := cut_from (row.map D.int) 2
  rw [show ((2 : Nat) : Int) = 2 from rfl] at this
  rw [this, List.map_drop]
theorem TOPS_ok : ∀ z ∈ 140 :: UT, 1 ≤ z ∧ z < 2 ^ 64 := by decide
theorem rd_law (ds : List D) (Q : D → Prop) (h : S_law ds Q) : t_law S__law_digits S__law_cell S__law_totals_hold S__law_growth_holds { nx := fun _ => false = false ∧ Q .non, rt := Q } (startD 7 ds) := by
  obtain ⟨ns, rfl, hl, q, _⟩ := h
  have hsl : sizeLine = 16777216 := sizeLine_eq
  refine ⟨by simp [hsl], by simp [hsl], by decide, by simp [hsl], by decide, by simp [hsl], ?_⟩
  refine ⟨by simp [hsl], by simp [hsl], by simp [hsl], by simp [hsl], by decide, by simp [hsl], by decide, by simp [hsl], by simp [hsl], by decide, by simp [hsl], by decide, by simp [hsl], by simp [hsl], by decide, by simp [hsl], by decide, by simp [hsl], ?_⟩
  refine ⟨ns, 0, rfl, by decide, by decide, fun c0 => ⟨by simp [hsl], by simp [hsl], c0, [8, 100000000] ++ AT, rfl, by decide, by decide, fun row hl0 hb0 => ?_⟩⟩
  have hl0 : row.length = 13 := hl0
  have hrow : RowOk AT (row.drop 2) := rowOk_drop (sizes := [8, 100000000] ++ AT) 2 ⟨hl0, hb0⟩
  obtain ⟨x0, h0, a0, b0⟩ := row_at hb0 0 (by omega) rfl
  obtain ⟨x1, h1, a1, b1⟩ := row_at hb0 1 (by omega) rfl
  have m0 := Int.emod_nonneg x1 (show (12 : Int) ≠ 0 by decide)
  have m1 := Int.emod_lt_of_pos x1 (show (0 : Int) < 12 by decide)
  refine ⟨_, h1 _ rfl, _, h0 _ rfl, fun _ => ⟨_, h1 _ rfl, by decide, ?_⟩, fun _ => ?_⟩
  · obtain ⟨o, ho, o1, o2⟩ : ∃ o : Nat, (1 + x1 % 12 : Int) = o ∧ 1 ≤ o ∧ o ≤ 10 ^ 8 := ⟨(1 + x1 % 12).toNat, by omega, by omega, by omega⟩
    refine ⟨ns, 1, rfl, by decide, by decide, fun c1 => ⟨c1, 140 :: UT, rfl, by decide, TOPS_ok, fun small hl1 hb1 => ⟨ns, 2, rfl, by decide, by decide, fun c2 => ⟨c2, 140 :: UT, rfl, by decide, TOPS_ok, fun large hl2 hb2 => ⟨0, o, row.drop 2, small, large, 0, _, ?_, rfl, ho, by omega, o1, fun _ => o2, fun z => (nomatch z), hrow, ⟨hl1, hb1⟩, ⟨hl2, hb2⟩, fun z => (nomatch z), fun _ => ?_⟩⟩⟩⟩⟩
    · exact cutDrop hl0 _ .non _ _ _
    refine ⟨ns, 3, rfl, by decide, by decide, fun c3 => ⟨by simp [hsl], by simp [hsl], c3, [6, 3600] ++ AT, rfl, by decide, by decide, fun row2 hl3 hb3 => ?_⟩⟩
    have hl3 : row2.length = 13 := hl3
    have hrow2 : RowOk AT (row2.drop 2) := rowOk_drop (sizes := [6, 3600] ++ AT) 2 ⟨hl3, hb3⟩
    obtain ⟨y0, i0, c0', d0⟩ := row_at hb3 0 (by omega) rfl
    obtain ⟨y1, i1, c1', d1⟩ := row_at hb3 1 (by omega) rfl
    refine ⟨_, i1 _ rfl, _, i0 _ rfl, fun h4 => ?_, fun _ => ?_⟩
    · have h4 : y0 < 4 := of_decide_eq_true h4
      obtain ⟨c, hc, hc1, hc2⟩ : ∃ c : Int, atI [D.int 1, .int 7, .int 7, .int 7] y0 = some (.int c) ∧ 1 ≤ c ∧ c ≤ 7 := by
        have : y0 = 0 ∨ y0 = 1 ∨ y0 = 2 ∨ y0 = 3 := by omega
        rcases this with rfl | rfl | rfl | rfl
        · exact ⟨1, rfl, by decide, by decide⟩
        · exact ⟨7, rfl, by decide, by decide⟩
        · exact ⟨7, rfl, by decide, by decide⟩
        · exact ⟨7, rfl, by decide, by decide⟩
      have n0 := Int.emod_nonneg y1 (show c ≠ 0 by omega)
      have n1 := Int.emod_lt_of_pos y1 (show 0 < c by omega)
      refine ⟨_, i1 _ rfl, by simp [hsl], _, i0 _ rfl, .int c, hc, by omega, ?_⟩
      obtain ⟨p, hp, p1, p2⟩ : ∃ p : Nat, (1 + y1 % c : Int) = p ∧ 1 ≤ p ∧ p ≤ 3600 := ⟨(1 + y1 % c).toNat, by omega, by omega, by omega⟩
      refine ⟨ns, 4, rfl, by decide, by decide, fun c4 => ⟨c4, 140 :: UT, rfl, by decide, TOPS_ok, fun small2 hl4 hb4 => ⟨ns, 5, rfl, by decide, by decide, fun c5 => ⟨c5, 140 :: UT, rfl, by decide, TOPS_ok, fun large2 hl5 hb5 => ⟨1, p, row2.drop 2, small2, large2, 1, _, ?_, rfl, hp, by omega, p1, fun z => (nomatch z), fun _ => p2, hrow2, ⟨hl4, hb4⟩, ⟨hl5, hb5⟩, fun z => (nomatch z), fun _ => ?_⟩⟩⟩⟩⟩
      · exact cutDrop hl3 _ .non _ _ _
      refine ⟨ns, 6, rfl, by decide, by decide, fun c6 => ⟨by simp [hsl], by simp [hsl], by decide, by simp [hsl], by decide, by simp [hsl], c6, 6 :: GT, rfl, by decide, by decide, fun row3 hl6 hb6 => ?_⟩⟩
      have hl6 : row3.length = 14 := hl6
      obtain ⟨z0, k0, f0, g0⟩ := row_at hb6 0 (by omega) rfl
      refine ⟨_, k0 _ rfl, (1 + z0).toNat, p, row3.drop 1, _, _, ?_, (Int.toNat_of_nonneg (by omega)).symm, hp, by omega, by omega, p1, by omega, rowOk_drop 1 ⟨hl6, hb6⟩, q⟩
      show [_, _, D.lst (DL.cutD (row3.map D.int) (some ((1 : Nat) : Int)) none)] = _
      rw [cut_from, List.map_drop]
    · obtain ⟨p, hp, p1, p2⟩ : ∃ p : Nat, (1 + y1 : Int) = p ∧ 1 ≤ p ∧ p ≤ 3600 := ⟨(1 + y1).toNat, by omega, by omega, by omega⟩
      refine ⟨ns, 4, rfl, by decide, by decide, fun c4 => ⟨c4, 140 :: UT, rfl, by decide, TOPS_ok, fun small2 hl4 hb4 => ⟨ns, 5, rfl, by decide, by decide, fun c5 => ⟨c5, 140 :: UT, rfl, by decide, TOPS_ok, fun large2 hl5 hb5 => ⟨1, p, row2.drop 2, small2, large2, 1, _, ?_, rfl, hp, by omega, p1, fun z => (nomatch z), fun _ => p2, hrow2, ⟨hl4, hb4⟩, ⟨hl5, hb5⟩, fun z => (nomatch z), fun _ => ?_⟩⟩⟩⟩⟩
      · exact cutDrop hl3 _ .non _ _ _
      refine ⟨ns, 6, rfl, by decide, by decide, fun c6 => ⟨by simp [hsl], by simp [hsl], by decide, by simp [hsl], by decide, by simp [hsl], c6, 6 :: GT, rfl, by decide, by decide, fun row3 hl6 hb6 => ?_⟩⟩
      have hl6 : row3.length = 14 := hl6
      obtain ⟨z0, k0, f0, g0⟩ := row_at hb6 0 (by omega) rfl
      refine ⟨_, k0 _ rfl, (1 + z0).toNat, p, row3.drop 1, _, _, ?_, (Int.toNat_of_nonneg (by omega)).symm, hp, by omega, by omega, p1, by omega, rowOk_drop 1 ⟨hl6, hb6⟩, q⟩
      show [_, _, D.lst (DL.cutD (row3.map D.int) (some ((1 : Nat) : Int)) none)] = _
      rw [cut_from, List.map_drop]
  · obtain ⟨o, ho, o1, o2⟩ : ∃ o : Nat, (1 + x1 : Int) = o ∧ 1 ≤ o ∧ o ≤ 10 ^ 8 := ⟨(1 + x1).toNat, by omega, by omega, by omega⟩
    refine ⟨ns, 1, rfl, by decide, by decide, fun c1 => ⟨c1, 140 :: UT, rfl, by decide, TOPS_ok, fun small hl1 hb1 => ⟨ns, 2, rfl, by decide, by decide, fun c2 => ⟨c2, 140 :: UT, rfl, by decide, TOPS_ok, fun large hl2 hb2 => ⟨0, o, row.drop 2, small, large, 0, _, ?_, rfl, ho, by omega, o1, fun _ => o2, fun z => (nomatch z), hrow, ⟨hl1, hb1⟩, ⟨hl2, hb2⟩, fun z => (nomatch z), fun _ => ?_⟩⟩⟩⟩⟩
    · exact cutDrop hl0 _ .non _ _ _
    refine ⟨ns, 3, rfl, by decide, by decide, fun c3 => ⟨by simp [hsl], by simp [hsl], c3, [6, 3600] ++ AT, rfl, by decide, by decide, fun row2 hl3 hb3 => ?_⟩⟩
    have hl3 : row2.length = 13 := hl3
    have hrow2 : RowOk AT (row2.drop 2) := rowOk_drop (sizes := [6, 3600] ++ AT) 2 ⟨hl3, hb3⟩
    obtain ⟨y0, i0, c0', d0⟩ := row_at hb3 0 (by omega) rfl
    obtain ⟨y1, i1, c1', d1⟩ := row_at hb3 1 (by omega) rfl
    refine ⟨_, i1 _ rfl, _, i0 _ rfl, fun h4 => ?_, fun _ => ?_⟩
    · have h4 : y0 < 4 := of_decide_eq_true h4
      obtain ⟨c, hc, hc1, hc2⟩ : ∃ c : Int, atI [D.int 1, .int 7, .int 7, .int 7] y0 = some (.int c) ∧ 1 ≤ c ∧ c ≤ 7 := by
        have : y0 = 0 ∨ y0 = 1 ∨ y0 = 2 ∨ y0 = 3 := by omega
        rcases this with rfl | rfl | rfl | rfl
        · exact ⟨1, rfl, by decide, by decide⟩
        · exact ⟨7, rfl, by decide, by decide⟩
        · exact ⟨7, rfl, by decide, by decide⟩
        · exact ⟨7, rfl, by decide, by decide⟩
      have n0 := Int.emod_nonneg y1 (show c ≠ 0 by omega)
      have n1 := Int.emod_lt_of_pos y1 (show 0 < c by omega)
      refine ⟨_, i1 _ rfl, by simp [hsl], _, i0 _ rfl, .int c, hc, by omega, ?_⟩
      obtain ⟨p, hp, p1, p2⟩ : ∃ p : Nat, (1 + y1 % c : Int) = p ∧ 1 ≤ p ∧ p ≤ 3600 := ⟨(1 + y1 % c).toNat, by omega, by omega, by omega⟩
      refine ⟨ns, 4, rfl, by decide, by decide, fun c4 => ⟨c4, 140 :: UT, rfl, by decide, TOPS_ok, fun small2 hl4 hb4 => ⟨ns, 5, rfl, by decide, by decide, fun c5 => ⟨c5, 140 :: UT, rfl, by decide, TOPS_ok, fun large2 hl5 hb5 => ⟨1, p, row2.drop 2, small2, large2, 1, _, ?_, rfl, hp, by omega, p1, fun z => (nomatch z), fun _ => p2, hrow2, ⟨hl4, hb4⟩, ⟨hl5, hb5⟩, fun z => (nomatch z), fun _ => ?_⟩⟩⟩⟩⟩
      · exact cutDrop hl3 _ .non _ _ _
      refine ⟨ns, 6, rfl, by decide, by decide, fun c6 => ⟨by simp [hsl], by simp [hsl], by decide, by simp [hsl], by decide, by simp [hsl], c6, 6 :: GT, rfl, by decide, by decide, fun row3 hl6 hb6 => ?_⟩⟩
      have hl6 : row3.length = 14 := hl6
      obtain ⟨z0, k0, f0, g0⟩ := row_at hb6 0 (by omega) rfl
      refine ⟨_, k0 _ rfl, (1 + z0).toNat, p, row3.drop 1, _, _, ?_, (Int.toNat_of_nonneg (by omega)).symm, hp, by omega, by omega, p1, by omega, rowOk_drop 1 ⟨hl6, hb6⟩, q⟩
      show [_, _, D.lst (DL.cutD (row3.map D.int) (some ((1 : Nat) : Int)) none)] = _
      rw [cut_from, List.map_drop]
    · obtain ⟨p, hp, p1, p2⟩ : ∃ p : Nat, (1 + y1 : Int) = p ∧ 1 ≤ p ∧ p ≤ 3600 := ⟨(1 + y1).toNat, by omega, by omega, by omega⟩
      refine ⟨ns, 4, rfl, by decide, by decide, fun c4 => ⟨c4, 140 :: UT, rfl, by decide, TOPS_ok, fun small2 hl4 hb4 => ⟨ns, 5, rfl, by decide, by decide, fun c5 => ⟨c5, 140 :: UT, rfl, by decide, TOPS_ok, fun large2 hl5 hb5 => ⟨1, p, row2.drop 2, small2, large2, 1, _, ?_, rfl, hp, by omega, p1, fun z => (nomatch z), fun _ => p2, hrow2, ⟨hl4, hb4⟩, ⟨hl5, hb5⟩, fun z => (nomatch z), fun _ => ?_⟩⟩⟩⟩⟩
      · exact cutDrop hl3 _ .non _ _ _
      refine ⟨ns, 6, rfl, by decide, by decide, fun c6 => ⟨by simp [hsl], by simp [hsl], by decide, by simp [hsl], by decide, by simp [hsl], c6, 6 :: GT, rfl, by decide, by decide, fun row3 hl6 hb6 => ?_⟩⟩
      have hl6 : row3.length = 14 := hl6
      obtain ⟨z0, k0, f0, g0⟩ := row_at hb6 0 (by omega) rfl
      refine ⟨_, k0 _ rfl, (1 + z0).toNat, p, row3.drop 1, _, _, ?_, (Int.toNat_of_nonneg (by omega)).symm, hp, by omega, by omega, p1, by omega, rowOk_drop 1 ⟨hl6, hb6⟩, q⟩
      show [_, _, D.lst (DL.cutD (row3.map D.int) (some ((1 : Nat) : Int)) none)] = _
      rw [cut_from, List.map_drop]
end K21

set_option Elab.async false
set_option linter.all false
set_option maxRecDepth 100000
set_option maxHeartbeats 4000000
namespace K21
open PySem PySem.Spec PyProof.Rows L2 DL
def topS (i : Nat) : Stmt := PySem.Challenge.pw_outpressed_k21_floors_and_excesses.main.body.getD i (.Pass ⟨0, 0, 0, 0⟩)
abbrev s_level_total : Stmt := topS 1
abbrev nm_level_total : List Str := ["count", "room", "shortest", "total", "left", "here", "length", "taken"]
theorem sc_level_total : FnScope nm_level_total ["count", "room", "shortest"] (defScope s_level_total) := ⟨rfl, rfl, rfl, by decide +kernel, rfl, by decide +kernel, by decide +kernel⟩
abbrev s_shared_total : Stmt := topS 2
abbrev nm_shared_total : List Str := ["count", "share"]
theorem sc_shared_total : FnScope nm_shared_total ["count", "share"] (defScope s_shared_total) := ⟨rfl, rfl, rfl, by decide +kernel, rfl, by decide +kernel, by decide +kernel⟩
abbrev s_floor_bits : Stmt := topS 3
abbrev nm_floor_bits : List Str := ["standings", "count", "silent"]
theorem sc_floor_bits : FnScope nm_floor_bits ["standings", "count"] (defScope s_floor_bits) := ⟨rfl, rfl, rfl, by decide +kernel, rfl, by decide +kernel, by decide +kernel⟩
abbrev s_width : Stmt := topS 5
abbrev nm_width : List Str := ["options"]
theorem sc_width : FnScope nm_width ["options"] (defScope s_width) := ⟨rfl, rfl, rfl, by decide +kernel, rfl, by decide +kernel, by decide +kernel⟩
abbrev s_pressed_length : Stmt := topS 7
abbrev nm_pressed_length : List Str := ["size", "count", "numbers", "total", "powers", "narrow"]
theorem sc_pressed_length : FnScope nm_pressed_length ["size", "count"] (defScope s_pressed_length) := ⟨rfl, rfl, rfl, by decide +kernel, rfl, by decide +kernel, by decide +kernel⟩
abbrev s_excess : Stmt := topS 9
abbrev nm_excess : List Str := ["size", "standings", "count"]
theorem sc_excess : FnScope nm_excess ["size", "standings", "count"] (defScope s_excess) := ⟨rfl, rfl, rfl, by decide +kernel, rfl, by decide +kernel, by decide +kernel⟩
abbrev s_told_excess : Stmt := topS 10
abbrev nm_told_excess : List Str := ["size", "standings", "count", "letter_bits", "standing_bits", "log"]
theorem sc_told_excess : FnScope nm_told_excess ["size", "standings", "count"] (defScope s_told_excess) := ⟨rfl, rfl, rfl, by decide +kernel, rfl, by decide +kernel, by decide +kernel⟩
abbrev s__law_whole : Stmt := topS 12
abbrev nm__law_whole : List Str := ["value"]
theorem sc__law_whole : FnScope nm__law_whole ["value"] (defScope s__law_whole) := ⟨rfl, rfl, rfl, by decide +kernel, rfl, by decide +kernel, by decide +kernel⟩
abbrev s__law_cell : Stmt := topS 13
abbrev nm__law_cell : List Str := ["script", "k", "seed", "cell"]
theorem sc__law_cell : FnScope nm__law_cell ["script", "k"] (defScope s__law_cell) := ⟨rfl, rfl, rfl, by decide +kernel, rfl, by decide +kernel, by decide +kernel⟩
abbrev s__law_width : Stmt := topS 14
abbrev nm__law_width : List Str := ["options", "wide", "top", "k"]
theorem sc__law_width : FnScope nm__law_width ["options"] (defScope s__law_width) := ⟨rfl, rfl, rfl, by decide +kernel, rfl, by decide +kernel, by decide +kernel⟩
abbrev s__law_log : Stmt := topS 15
abbrev nm__law_log : List Str := ["n"]
theorem sc__law_log : FnScope nm__law_log ["n"] (defScope s__law_log) := ⟨rfl, rfl, rfl, by decide +kernel, rfl, by decide +kernel, by decide +kernel⟩
abbrev s__law_digits : Stmt := topS 16
abbrev nm__law_digits : List Str := ["cell", "tops", "row", "rest", "seed", "k", "top", "twice"]
theorem sc__law_digits : FnScope nm__law_digits ["cell", "tops"] (defScope s__law_digits) := ⟨rfl, rfl, rfl, by decide +kernel, rfl, by decide +kernel, by decide +kernel⟩
abbrev s__law_bit_words : Stmt := topS 17
abbrev nm__law_bit_words : List Str := ["most", "words", "at"]
theorem sc__law_bit_words : FnScope nm__law_bit_words ["most"] (defScope s__law_bit_words) := ⟨rfl, rfl, rfl, by decide +kernel, rfl, by decide +kernel, by decide +kernel⟩
abbrev s__law_rooms : Stmt := topS 18
abbrev nm__law_rooms : List Str := ["which", "often", "lengths", "rooms", "here", "wide"]
theorem sc__law_rooms : FnScope nm__law_rooms ["which", "often", "lengths"] (defScope s__law_rooms) := ⟨rfl, rfl, rfl, by decide +kernel, rfl, by decide +kernel, by decide +kernel⟩
abbrev s__law_filled : Stmt := topS 19
abbrev nm__law_filled : List Str := ["rooms", "many", "total", "left", "wide", "taken"]
theorem sc__law_filled : FnScope nm__law_filled ["rooms", "many"] (defScope s__law_filled) := ⟨rfl, rfl, rfl, by decide +kernel, rfl, by decide +kernel, by decide +kernel⟩
abbrev s__law_uses : Stmt := topS 20
abbrev nm__law_uses : List Str := ["rooms", "row", "last", "uses", "turn", "k", "part", "one", "two", "free", "picked", "moved"]
theorem sc__law_uses : FnScope nm__law_uses ["rooms", "row"] (defScope s__law_uses) := ⟨rfl, rfl, rfl, by decide +kernel, rfl, by decide +kernel, by decide +kernel⟩
abbrev s__law_tight : Stmt := topS 21
abbrev nm__law_tight : List Str := ["rooms", "uses", "gap", "k"]
theorem sc__law_tight : FnScope nm__law_tight ["rooms", "uses"] (defScope s__law_tight) := ⟨rfl, rfl, rfl, by decide +kernel, rfl, by decide +kernel, by decide +kernel⟩
abbrev s__law_told : Stmt := topS 22
abbrev nm__law_told : List Str := ["which", "often", "many", "actual", "named"]
theorem sc__law_told : FnScope nm__law_told ["which", "often", "many"] (defScope s__law_told) := ⟨rfl, rfl, rfl, by decide +kernel, rfl, by decide +kernel, by decide +kernel⟩
abbrev s__law_is_due : Stmt := topS 23
abbrev nm__law_is_due : List Str := ["which", "often", "many"]
theorem sc__law_is_due : FnScope nm__law_is_due ["which", "often", "many"] (defScope s__law_is_due) := ⟨rfl, rfl, rfl, by decide +kernel, rfl, by decide +kernel, by decide +kernel⟩
abbrev s__law_choice_holds : Stmt := topS 24
abbrev nm__law_choice_holds : List Str := ["which", "often", "lengths", "uses", "tight", "actual", "used", "k"]
theorem sc__law_choice_holds : FnScope nm__law_choice_holds ["which", "often", "lengths", "uses", "tight"] (defScope s__law_choice_holds) := ⟨rfl, rfl, rfl, by decide +kernel, rfl, by decide +kernel, by decide +kernel⟩
abbrev s__law_small_choice : Stmt := topS 25
abbrev nm__law_small_choice : List Str := ["which", "few", "row", "lengths", "rooms", "uses", "plain", "k", "gap", "longest", "word"]
theorem sc__law_small_choice : FnScope nm__law_small_choice ["which", "few", "row"] (defScope s__law_small_choice) := ⟨rfl, rfl, rfl, by decide +kernel, rfl, by decide +kernel, by decide +kernel⟩
abbrev s__law_asked : Stmt := topS 26
abbrev nm__law_asked : List Str := ["which", "often", "row", "many", "k"]
theorem sc__law_asked : FnScope nm__law_asked ["which", "often", "row"] (defScope s__law_asked) := ⟨rfl, rfl, rfl, by decide +kernel, rfl, by decide +kernel, by decide +kernel⟩
abbrev s__law_totals_hold : Stmt := topS 27
abbrev nm__law_totals_hold : List Str := ["which", "often", "row", "small", "large", "many", "kept", "near", "rooms", "uses"]
theorem sc__law_totals_hold : FnScope nm__law_totals_hold ["which", "often", "row", "small", "large"] (defScope s__law_totals_hold) := ⟨rfl, rfl, rfl, by decide +kernel, rfl, by decide +kernel, by decide +kernel⟩
abbrev s__law_bound : Stmt := topS 28
abbrev nm__law_bound : List Str := ["letters", "states", "many", "letter", "state"]
theorem sc__law_bound : FnScope nm__law_bound ["letters", "states", "many"] (defScope s__law_bound) := ⟨rfl, rfl, rfl, by decide +kernel, rfl, by decide +kernel, by decide +kernel⟩
abbrev s__law_long_block : Stmt := topS 29
abbrev nm__law_long_block : List Str := ["letters", "many", "total", "top", "wide", "fits"]
theorem sc__law_long_block : FnScope nm__law_long_block ["letters", "many"] (defScope s__law_long_block) := ⟨rfl, rfl, rfl, by decide +kernel, rfl, by decide +kernel, by decide +kernel⟩
abbrev s__law_excess_holds : Stmt := topS 30
abbrev nm__law_excess_holds : List Str := ["letters", "states", "many", "gap", "told"]
theorem sc__law_excess_holds : FnScope nm__law_excess_holds ["letters", "states", "many"] (defScope s__law_excess_holds) := ⟨rfl, rfl, rfl, by decide +kernel, rfl, by decide +kernel, by decide +kernel⟩
abbrev s__law_big : Stmt := topS 31
abbrev nm__law_big : List Str := ["parts", "many", "number", "part"]
theorem sc__law_big : FnScope nm__law_big ["parts", "many"] (defScope s__law_big) := ⟨rfl, rfl, rfl, by decide +kernel, rfl, by decide +kernel, by decide +kernel⟩
abbrev s__law_pieces : Stmt := topS 32
abbrev nm__law_pieces : List Str := ["row", "top", "turn"]
theorem sc__law_pieces : FnScope nm__law_pieces ["row"] (defScope s__law_pieces) := ⟨rfl, rfl, rfl, by decide +kernel, rfl, by decide +kernel, by decide +kernel⟩
abbrev s__law_growth_holds : Stmt := topS 33
abbrev nm__law_growth_holds : List Str := ["letters", "states", "row", "many", "more", "kept"]
theorem sc__law_growth_holds : FnScope nm__law_growth_holds ["letters", "states", "row"] (defScope s__law_growth_holds) := ⟨rfl, rfl, rfl, by decide +kernel, rfl, by decide +kernel, by decide +kernel⟩
abbrev s_law : Stmt := topS 34
abbrev nm_law : List Str := ["script", "asked", "tops", "row", "often", "small", "states"]
theorem sc_law : FnScope nm_law ["script"] (defScope s_law) := ⟨rfl, rfl, rfl, by decide +kernel, rfl, by decide +kernel, by decide +kernel⟩
section
variable {P : Program} {w : World} {K : PySem.W.Frag} {mg : Str → Option Value} {base : Heap}
theorem rel_shared_total_0_share_count : RelG (fun vs zs => g_shared_total_0_share_count vs zs) (fun ds es => g_shared_total_0_share_count ds es) 0 2 := by
  intro K G ds es vs ws h1 h2 r1 r2
  match ds, es, h1, h2 with
  | [], [e0, e1], _, _ =>
    cases (show vs = [] from r1)
    obtain ⟨y0, _, rfl, b0, y1, _, rfl, b1, rfl⟩ := r2
    exact ⟨_, _, rfl, b1, _, _, rfl, b0, rfl⟩
theorem kbn_shared_total_0_share_count {f : Addr} {fd : FuncData} (F : FnP K "shared_total" s_shared_total f fd) : KBn K fd ["count", "share"] 0 ["share", "count"] (fun us ws => g_shared_total_0_share_count us ws) (fun vs zs => g_shared_total_0_share_count vs zs) :=
  kb_of F (fun us ws => g_shared_total_0_share_count us ws) (fun {vs us zs ws} r1 r2 => by
    cases r1 with | nil => (cases r2 with | nil => exact .nil | cons b0 r2 => (cases r2 with | nil => exact .nil | cons b1 r2 => (cases r2 with | nil => exact .cons b1 (.cons b0 (.nil)) | cons _ _ => exact .nil))) | cons _ _ => exact .nil) fun _ _ _ _ _ _ us ws h1 h2 => match us, ws, h1, h2 with | [], [_, _], _, _ => rfl
theorem rel_floor_bits_0_count_standings : RelG (fun vs zs => g_floor_bits_0_count_standings vs zs) (fun ds es => g_floor_bits_0_count_standings ds es) 0 2 := by
  intro K G ds es vs ws h1 h2 r1 r2
  match ds, es, h1, h2 with
  | [], [e0, e1], _, _ =>
    cases (show vs = [] from r1)
    obtain ⟨y0, _, rfl, b0, y1, _, rfl, b1, rfl⟩ := r2
    exact ⟨_, _, rfl, b1, _, _, rfl, b0, rfl⟩
theorem kbn_floor_bits_0_count_standings {f : Addr} {fd : FuncData} (F : FnP K "floor_bits" s_floor_bits f fd) : KBn K fd ["standings", "count"] 0 ["count", "standings"] (fun us ws => g_floor_bits_0_count_standings us ws) (fun vs zs => g_floor_bits_0_count_standings vs zs) :=
  kb_of F (fun us ws => g_floor_bits_0_count_standings us ws) (fun {vs us zs ws} r1 r2 => by
    cases r1 with | nil => (cases r2 with | nil => exact .nil | cons b0 r2 => (cases r2 with | nil => exact .nil | cons b1 r2 => (cases r2 with | nil => exact .cons b1 (.cons b0 (.nil)) | cons _ _ => exact .nil))) | cons _ _ => exact .nil) fun _ _ _ _ _ _ us ws h1 h2 => match us, ws, h1, h2 with | [], [_, _], _, _ => rfl
theorem rel_excess_0_count_standings_size : RelG (fun vs zs => g_excess_0_count_standings_size vs zs) (fun ds es => g_excess_0_count_standings_size ds es) 0 3 := by
  intro K G ds es vs ws h1 h2 r1 r2
  match ds, es, h1, h2 with
  | [], [e0, e1, e2], _, _ =>
    cases (show vs = [] from r1)
    obtain ⟨y0, _, rfl, b0, y1, _, rfl, b1, y2, _, rfl, b2, rfl⟩ := r2
    exact ⟨_, _, rfl, b2, _, _, rfl, b1, _, _, rfl, b0, rfl⟩
theorem kbn_excess_0_count_standings_size {f : Addr} {fd : FuncData} (F : FnP K "excess" s_excess f fd) : KBn K fd ["size", "standings", "count"] 0 ["count", "standings", "size"] (fun us ws => g_excess_0_count_standings_size us ws) (fun vs zs => g_excess_0_count_standings_size vs zs) :=
  kb_of F (fun us ws => g_excess_0_count_standings_size us ws) (fun {vs us zs ws} r1 r2 => by
    cases r1 with | nil => (cases r2 with | nil => exact .nil | cons b0 r2 => (cases r2 with | nil => exact .nil | cons b1 r2 => (cases r2 with | nil => exact .nil | cons b2 r2 => (cases r2 with | nil => exact .cons b2 (.cons b1 (.cons b0 (.nil))) | cons _ _ => exact .nil)))) | cons _ _ => exact .nil) fun _ _ _ _ _ _ us ws h1 h2 => match us, ws, h1, h2 with | [], [_, _, _], _, _ => rfl
theorem rel_told_excess_0_standings_size_count : RelG (fun vs zs => g_told_excess_0_standings_size_count vs zs) (fun ds es => g_told_excess_0_standings_size_count ds es) 0 3 := by
  intro K G ds es vs ws h1 h2 r1 r2
  match ds, es, h1, h2 with
  | [], [e0, e1, e2], _, _ =>
    cases (show vs = [] from r1)
    obtain ⟨y0, _, rfl, b0, y1, _, rfl, b1, y2, _, rfl, b2, rfl⟩ := r2
    exact ⟨_, _, rfl, b1, _, _, rfl, b0, _, _, rfl, b2, rfl⟩
theorem kbn_told_excess_0_standings_size_count {f : Addr} {fd : FuncData} (F : FnP K "told_excess" s_told_excess f fd) : KBn K fd ["size", "standings", "count"] 0 ["standings", "size", "count"] (fun us ws => g_told_excess_0_standings_size_count us ws) (fun vs zs => g_told_excess_0_standings_size_count vs zs) :=
  kb_of F (fun us ws => g_told_excess_0_standings_size_count us ws) (fun {vs us zs ws} r1 r2 => by
    cases r1 with | nil => (cases r2 with | nil => exact .nil | cons b0 r2 => (cases r2 with | nil => exact .nil | cons b1 r2 => (cases r2 with | nil => exact .nil | cons b2 r2 => (cases r2 with | nil => exact .cons b1 (.cons b0 (.cons b2 (.nil))) | cons _ _ => exact .nil)))) | cons _ _ => exact .nil) fun _ _ _ _ _ _ us ws h1 h2 => match us, ws, h1, h2 with | [], [_, _, _], _, _ => rfl
theorem ok_level_total {fa : Addr} {fd : FuncData} (Fn : FnP K "level_total" s_level_total fa fd) (m_min : mg "min" = none) {S : DSp} (len : ∀ ds Q, S ds Q → ds.length = (["count", "room", "shortest"] : List Str).length) (rd : ∀ ds Q, S ds Q → t_level_total { nx := fun _ => false = false ∧ Q .non, rt := Q } (startD 8 ds)) :
  FnG P w K mg base CX0 1 fa fd ["count", "room", "shortest"] (spD K false S) := by
  refine FunD.okD Fn sc_level_total len _ (fun cdv A outer s H E hr => ?_) rd
  exact (qss_cons (qs_set 3 (fun _ => sc_level_total.nd) q_int)
    (qss_cons (qs_set 4 (fun _ => sc_level_total.nd) (qv 0))
    (qss_cons (qs_set 5 (fun _ => sc_level_total.nd) (qv 1))
    (qss_cons (qs_set 6 (fun _ => sc_level_total.nd) (qv 2))
    (qss_cons (qs_while (fun _ => PassesOwn.never) (qt_gt (qv 4) q_int) (qss_cons (qs_set 7 (fun _ => sc_level_total.nd) (q_min2 (fun _ => rfl) (fun _ => m_min) (qv 4) (qv 5)))
    (qss_cons (qs_set 3 (fun _ => sc_level_total.nd) (q_add (qv 3) (q_mul (qv 7) (qv 6))))
    (qss_cons (qs_set 4 (fun _ => sc_level_total.nd) (q_sub (qv 4) (qv 7)))
    (qss_cons (qs_set 5 (fun _ => sc_level_total.nd) (q_mul (qv 5) q_int))
    (qss_one (qs_set 6 (fun _ => sc_level_total.nd) (q_add (qv 6) q_int))))))))
    (qss_one (qs_ret (qv 3))))))))
theorem ok_shared_total {fa : Addr} {fd : FuncData} (Fn : FnP K "shared_total" s_shared_total fa fd) {S_level_total : DSp} {a_level_total : Addr} {fd_level_total : FuncData} (G_level_total : FnG P w K mg base CX0 1 a_level_total fd_level_total ["count", "room", "shortest"] (spD K false S_level_total)) (m_level_total : mg "level_total" = some (.ref a_level_total)) (k_level_total : PySem.W.keepIn K (.ref a_level_total) = true) (b_level_total : Binds K fd_level_total ["count", "room", "shortest"] []) {S : DSp} (len : ∀ ds Q, S ds Q → ds.length = (["count", "share"] : List Str).length) (rd : ∀ ds Q, S ds Q → t_shared_total S_level_total { nx := fun _ => false = false ∧ Q .non, rt := Q } (startD 2 ds)) :
  FnG P w K mg base CX0 2 fa fd ["count", "share"] (spD K false S) := by
  refine FunD.okD Fn sc_shared_total len _ (fun cdv A outer s H E hr => ?_) rd
  exact (qss_one (qs_ret (q_call (fun _ => G_level_total) (fun _ => hr.mono (by decide)) (fun _ => m_level_total) k_level_total b_level_total (qa_cons (qv 0) (qa_cons (qv 1) (qa_cons q_int qa_nil))))))
theorem ok_floor_bits {fa : Addr} {fd : FuncData} (Fn : FnP K "floor_bits" s_floor_bits fa fd) {S_level_total : DSp} {a_level_total : Addr} {fd_level_total : FuncData} (G_level_total : FnG P w K mg base CX0 1 a_level_total fd_level_total ["count", "room", "shortest"] (spD K false S_level_total)) (m_level_total : mg "level_total" = some (.ref a_level_total)) (k_level_total : PySem.W.keepIn K (.ref a_level_total) = true) (b_level_total : Binds K fd_level_total ["count", "room", "shortest"] []) (m_max : mg "max" = none) {S : DSp} (len : ∀ ds Q, S ds Q → ds.length = (["standings", "count"] : List Str).length) (rd : ∀ ds Q, S ds Q → t_floor_bits S_level_total { nx := fun _ => false = false ∧ Q .non, rt := Q } (startD 3 ds)) :
  FnG P w K mg base CX0 2 fa fd ["standings", "count"] (spD K false S) := by
  refine FunD.okD Fn sc_floor_bits len _ (fun cdv A outer s H E hr => ?_) rd
  exact (qss_cons (qs_set 2 (fun _ => sc_floor_bits.nd) (q_div (q_mul (qv 0) (q_sub (qv 0) q_int)) q_int))
    (qss_one (qs_ret (q_call (fun _ => G_level_total) (fun _ => hr.mono (by decide)) (fun _ => m_level_total) k_level_total b_level_total (qa_cons (q_max2 (fun _ => rfl) (fun _ => m_max) q_int (q_sub (qv 1) (qv 2))) (qa_cons (q_mul (q_mul q_int (qv 0)) (qv 0)) (qa_cons q_int qa_nil)))))))
theorem ok_width {fa : Addr} {fd : FuncData} (Fn : FnP K "width" s_width fa fd)  {S : DSp} (len : ∀ ds Q, S ds Q → ds.length = (["options"] : List Str).length) (rd : ∀ ds Q, S ds Q → t_width { nx := fun _ => false = false ∧ Q .non, rt := Q } (startD 1 ds)) :
  FnG P w K mg base CX0 1 fa fd ["options"] (spD K false S) := by
  refine FunD.okD Fn sc_width len _ (fun cdv A outer s H E hr => ?_) rd
  exact (qss_one (qs_ret (q_bits (q_sub (qv 0) q_int))))
theorem ok_pressed_length {fa : Addr} {fd : FuncData} (Fn : FnP K "pressed_length" s_pressed_length fa fd) {S_width : DSp} {a_width : Addr} {fd_width : FuncData} (G_width : FnG P w K mg base CX0 1 a_width fd_width ["options"] (spD K false S_width)) (m_width : mg "width" = some (.ref a_width)) (k_width : PySem.W.keepIn K (.ref a_width) = true) (b_width : Binds K fd_width ["options"] []) {S : DSp} (len : ∀ ds Q, S ds Q → ds.length = (["size", "count"] : List Str).length) (rd : ∀ ds Q, S ds Q → t_pressed_length S_width { nx := fun _ => false = false ∧ Q .non, rt := Q } (startD 6 ds)) :
  FnG P w K mg base CX0 2 fa fd ["size", "count"] (spD K false S) := by
  refine FunD.okD Fn sc_pressed_length len _ (fun cdv A outer s H E hr => ?_) rd
  exact (qss_cons (qs_set 2 (fun _ => sc_pressed_length.nd) (q_add (qv 1) q_int))
    (qss_cons (qs_set 3 (fun _ => sc_pressed_length.nd) (q_call (fun _ => G_width) (fun _ => hr.mono (by decide)) (fun _ => m_width) k_width b_width (qa_cons (qv 2) qa_nil)))
    (qss_cons (qs_if (qt_eq (fun _ => hr.toRoom) (qv 0) q_int) (qss_one (qs_ret (q_add (qv 3) (qv 2)))) qss_nil)
    (qss_cons (qs_set 4 (fun _ => sc_pressed_length.nd) q_int)
    (qss_cons (qs_set 5 (fun _ => sc_pressed_length.nd) q_int)
    (qss_cons (qs_while (fun _ => PassesOwn.never) (qt_lt (qv 5) (qv 2)) (qss_cons (qs_set 3 (fun _ => sc_pressed_length.nd) (q_sub (q_add (qv 3) (qv 2)) (qv 5)))
    (qss_cons (qs_set 4 (fun _ => sc_pressed_length.nd) (q_mul (qv 4) q_int))
    (qss_one (qs_set 5 (fun _ => sc_pressed_length.nd) (q_div (q_sub (qv 4) q_int) (q_sub (qv 0) q_int)))))))
    (qss_one (qs_ret (qv 3)))))))))
theorem ok_excess {fa : Addr} {fd : FuncData} (Fn : FnP K "excess" s_excess fa fd) {S_pressed_length : DSp} {a_pressed_length : Addr} {fd_pressed_length : FuncData} (G_pressed_length : FnG P w K mg base CX0 2 a_pressed_length fd_pressed_length ["size", "count"] (spD K false S_pressed_length)) (m_pressed_length : mg "pressed_length" = some (.ref a_pressed_length)) (k_pressed_length : PySem.W.keepIn K (.ref a_pressed_length) = true) (b_pressed_length : Binds K fd_pressed_length ["size", "count"] []) {S_floor_bits : DSp} {a_floor_bits : Addr} {fd_floor_bits : FuncData} (G_floor_bits : FnG P w K mg base CX0 2 a_floor_bits fd_floor_bits ["standings", "count"] (spD K false S_floor_bits)) (m_floor_bits : mg "floor_bits" = some (.ref a_floor_bits)) (k_floor_bits : PySem.W.keepIn K (.ref a_floor_bits) = true) (b_floor_bits : Binds K fd_floor_bits ["standings", "count"] []) {S : DSp} (len : ∀ ds Q, S ds Q → ds.length = (["size", "standings", "count"] : List Str).length) (rd : ∀ ds Q, S ds Q → t_excess S_pressed_length S_floor_bits { nx := fun _ => false = false ∧ Q .non, rt := Q } (startD 3 ds)) :
  FnG P w K mg base CX0 3 fa fd ["size", "standings", "count"] (spD K false S) := by
  refine FunD.okD Fn sc_excess len _ (fun cdv A outer s H E hr => ?_) rd
  exact (qss_one (qs_ret (q_sub (q_call (fun _ => G_pressed_length) (fun _ => hr.mono (by decide)) (fun _ => m_pressed_length) k_pressed_length b_pressed_length (qa_cons (qv 0) (qa_cons (qv 2) qa_nil))) (q_call (fun _ => G_floor_bits) (fun _ => hr.mono (by decide)) (fun _ => m_floor_bits) k_floor_bits b_floor_bits (qa_cons (qv 1) (qa_cons (qv 2) qa_nil))))))
theorem ok_told_excess {fa : Addr} {fd : FuncData} (Fn : FnP K "told_excess" s_told_excess fa fd) {S_width : DSp} {a_width : Addr} {fd_width : FuncData} (G_width : FnG P w K mg base CX0 1 a_width fd_width ["options"] (spD K false S_width)) (m_width : mg "width" = some (.ref a_width)) (k_width : PySem.W.keepIn K (.ref a_width) = true) (b_width : Binds K fd_width ["options"] []) {S : DSp} (len : ∀ ds Q, S ds Q → ds.length = (["size", "standings", "count"] : List Str).length) (rd : ∀ ds Q, S ds Q → t_told_excess S_width { nx := fun _ => false = false ∧ Q .non, rt := Q } (startD 6 ds)) :
  FnG P w K mg base CX0 2 fa fd ["size", "standings", "count"] (spD K false S) := by
  refine FunD.okD Fn sc_told_excess len _ (fun cdv A outer s H E hr => ?_) rd
  exact (qss_cons (qs_set 3 (fun _ => sc_told_excess.nd) (q_call (fun _ => G_width) (fun _ => hr.mono (by decide)) (fun _ => m_width) k_width b_width (qa_cons (qv 0) qa_nil)))
    (qss_cons (qs_set 4 (fun _ => sc_told_excess.nd) (q_call (fun _ => G_width) (fun _ => hr.mono (by decide)) (fun _ => m_width) k_width b_width (qa_cons (qv 1) qa_nil)))
    (qss_cons (qs_set 5 (fun _ => sc_told_excess.nd) (q_sub (q_bits (q_add (qv 2) q_int)) q_int))
    (qss_one (qs_ret (q_add (q_add (q_add (q_mul (qv 2) (q_add (q_add (qv 3) q_int) (q_mul q_int (qv 4)))) (qv 3)) q_int) (q_mul q_int (qv 5))))))))
theorem ok__law_whole {fa : Addr} {fd : FuncData} (Fn : FnP K "_law_whole" s__law_whole fa fd) (m_isinstance : mg "isinstance" = none) (m_int : mg "int" = none) (m_bool : mg "bool" = none) {S : DSp} (len : ∀ ds Q, S ds Q → ds.length = (["value"] : List Str).length) (rd : ∀ ds Q, S ds Q → t__law_whole { nx := fun _ => false = false ∧ Q .non, rt := Q } (startD 1 ds)) :
  FnG P w K mg base CX0 1 fa fd ["value"] (spD K false S) := by
  refine FunD.okD Fn sc__law_whole len _ (fun cdv A outer s H E hr => ?_) rd
  exact (qss_one (qs_ret (q_and (q_isi .int (fun _ => m_isinstance) (fun _ => m_int) (by decide +kernel) (qv 0)) (q_one (q_not (q_isi .bool (fun _ => m_isinstance) (fun _ => m_bool) (by decide +kernel) (qv 0)))))))
theorem ok__law_cell {fa : Addr} {fd : FuncData} (Fn : FnP K "_law_cell" s__law_cell fa fd) (m_len : mg "len" = none) (m_int : mg "int" = none) {S : DSp} (len : ∀ ds Q, S ds Q → ds.length = (["script", "k"] : List Str).length) (rd : ∀ ds Q, S ds Q → t__law_cell { nx := fun _ => false = false ∧ Q .non, rt := Q } (startD 4 ds)) :
  FnG P w K mg base CX0 1 fa fd ["script", "k"] (spD K false S) := by
  refine FunD.okD Fn sc__law_cell len _ (fun cdv A outer s H E hr => ?_) rd
  exact (qss_cons (qs_if (qt_lt (qv 1) (q_len (fun _ => m_len) (QE.qp (qv 0)))) (qss_one (qs_ret (q_ix (qv 0) (qv 1)))) qss_nil)
    (qss_cons (qs_set 2 (fun _ => sc__law_cell.nd) q_int)
    (qss_cons (qs_for (fun _ => PassesOwn.never) (fun _ => rfl) (qi_seq (qv 0)) (qg_name 3 (fun _ => sc__law_cell.nd)) (qss_one (qs_set 2 (fun _ => sc__law_cell.nd) (q_mod (q_intc (fun _ => m_int) (QE.qp (q_add (q_mul (qv 2) q_int) (q_mod (q_intc (fun _ => m_int) (QE.qp (qv 3))) q_int)))) q_int))))
    (qss_one (qs_ret (q_mod (q_intc (fun _ => m_int) (QE.qp (q_mul (q_mul (q_add (qv 2) q_int) (q_add (qv 1) q_int)) q_int))) q_int))))))
theorem ok__law_width {fa : Addr} {fd : FuncData} (Fn : FnP K "_law_width" s__law_width fa fd) (m_range : mg "range" = none) {S : DSp} (len : ∀ ds Q, S ds Q → ds.length = (["options"] : List Str).length) (rd : ∀ ds Q, S ds Q → t__law_width { nx := fun _ => false = false ∧ Q .non, rt := Q } (startD 4 ds)) :
  FnG P w K mg base CX0 1 fa fd ["options"] (spD K false S) := by
  refine FunD.okD Fn sc__law_width len _ (fun cdv A outer s H E hr => ?_) rd
  exact (qss_cons (qs_set 1 (fun _ => sc__law_width.nd) q_int)
    (qss_cons (qs_set 2 (fun _ => sc__law_width.nd) q_int)
    (qss_cons (qs_for (fun _ => PassesOwn.never) (fun _ => rfl) (qi_range1 (fun _ => m_range) q_int) (qg_name 3 (fun _ => sc__law_width.nd)) (qss_cons (qs_if (qt_ge (qv 2) (qv 0)) (qss_one qs_break) qss_nil)
    (qss_cons (qs_set 2 (fun _ => sc__law_width.nd) (q_mul (qv 2) q_int))
    (qss_one (qs_set 1 (fun _ => sc__law_width.nd) (q_add (qv 1) q_int))))))
    (qss_one (qs_ret (qv 1))))))
theorem ok__law_log {fa : Addr} {fd : FuncData} (Fn : FnP K "_law_log" s__law_log fa fd) {S__law_width : DSp} {a__law_width : Addr} {fd__law_width : FuncData} (G__law_width : FnG P w K mg base CX0 1 a__law_width fd__law_width ["options"] (spD K false S__law_width)) (m__law_width : mg "_law_width" = some (.ref a__law_width)) (k__law_width : PySem.W.keepIn K (.ref a__law_width) = true) (b__law_width : Binds K fd__law_width ["options"] []) {S : DSp} (len : ∀ ds Q, S ds Q → ds.length = (["n"] : List Str).length) (rd : ∀ ds Q, S ds Q → t__law_log S__law_width { nx := fun _ => false = false ∧ Q .non, rt := Q } (startD 1 ds)) :
  FnG P w K mg base CX0 2 fa fd ["n"] (spD K false S) := by
  refine FunD.okD Fn sc__law_log len _ (fun cdv A outer s H E hr => ?_) rd
  exact (qss_one (qs_ret (q_sub (q_call (fun _ => G__law_width) (fun _ => hr.mono (by decide)) (fun _ => m__law_width) k__law_width b__law_width (qa_cons (q_add (qv 0) q_int) qa_nil)) q_int)))
theorem ok__law_digits {fa : Addr} {fd : FuncData} (Fn : FnP K "_law_digits" s__law_digits fa fd) (m_int : mg "int" = none) (m_len : mg "len" = none) (m_range : mg "range" = none) {S : DSp} (len : ∀ ds Q, S ds Q → ds.length = (["cell", "tops"] : List Str).length) (rd : ∀ ds Q, S ds Q → t__law_digits { nx := fun _ => false = false ∧ Q .non, rt := Q } (startD 8 ds)) :
  FnG P w K mg base CX0 1 fa fd ["cell", "tops"] (spD K false S) := by
  refine FunD.okD Fn sc__law_digits len _ (fun cdv A outer s H E hr => ?_) rd
  exact (qss_cons (qs_setO 2 (fun _ => sc__law_digits.nd) (qo_lst qa_nil))
    (qss_cons (qs_set 3 (fun _ => sc__law_digits.nd) (q_intc (fun _ => m_int) (QE.qp (qv 0))))
    (qss_cons (qs_if (qt_ge (qv 3) (q_pow q_int q_int)) (qss_cons (qs_set 3 (fun _ => sc__law_digits.nd) (q_sub (qv 3) (q_pow q_int q_int)))
    (qss_cons (qs_for (fun _ => PassesOwn.never) (fun _ => rfl) (qi_seq (qv 1)) (qg_name 6 (fun _ => sc__law_digits.nd)) (qss_cons (qs_expr (q_append 2 (q_mod (q_intc (fun _ => m_int) (QE.qp (qv 3))) (qv 6))))
    (qss_one (qs_set 3 (fun _ => sc__law_digits.nd) (q_div (q_intc (fun _ => m_int) (QE.qp (qv 3))) (qv 6))))))
    (qss_one (qs_ret (qv 2))))) qss_nil)
    (qss_cons (qs_set 4 (fun _ => sc__law_digits.nd) (q_mod (q_intc (fun _ => m_int) (QE.qp (qv 3))) q_int))
    (qss_cons (qs_for (fun _ => PassesOwn.never) (fun _ => rfl) (qi_range1 (fun _ => m_range) (q_len (fun _ => m_len) (QE.qp (qv 1)))) (qg_name 5 (fun _ => sc__law_digits.nd)) (qss_cons (qs_set 4 (fun _ => sc__law_digits.nd) (q_mod (q_intc (fun _ => m_int) (QE.qp (q_add (q_add (q_mul (qv 4) q_int) (q_mul q_int (qv 5))) q_int))) q_int))
    (qss_cons (qs_set 7 (fun _ => sc__law_digits.nd) (q_mod (q_intc (fun _ => m_int) (QE.qp (q_mul (qv 4) (q_add (q_div (qv 4) q_int) q_int)))) q_int))
    (qss_one (qs_expr (q_append 2 (q_mod (q_div (qv 7) q_int) (q_ix (qv 1) (qv 5)))))))))
    (qss_one (qs_ret (qv 2))))))))
theorem ok__law_bit_words {fa : Addr} {fd : FuncData} (Fn : FnP K "_law_bit_words" s__law_bit_words fa fd) (m_range : mg "range" = none) (m_len : mg "len" = none) {S : DSp} (len : ∀ ds Q, S ds Q → ds.length = (["most"] : List Str).length) (rd : ∀ ds Q, S ds Q → t__law_bit_words { nx := fun _ => false = false ∧ Q .non, rt := Q } (startD 3 ds)) :
  FnG P w K mg base CX0 1 fa fd ["most"] (spD K false S) := by
  refine FunD.okD Fn sc__law_bit_words len _ (fun cdv A outer s H E hr => ?_) rd
  exact (qss_cons (qs_setO 1 (fun _ => sc__law_bit_words.nd) (qo_lst (qa_cons (q_str []) qa_nil)))
    (qss_cons (qs_for (fun _ => PassesOwn.never) (fun _ => rfl) (qi_range1 (fun _ => m_range) (qv 0)) (qg_name 2 (fun _ => sc__law_bit_words.nd)) (qss_cons (qs_if (qt_ge (q_len (fun _ => m_len) (qpv 1)) (qv 0)) (qss_one qs_break) qss_nil)
    (qss_cons (qs_expr (q_append 1 (q_add (q_ixv 1 (qv 2)) (q_str [48]))))
    (qss_one (qs_expr (q_append 1 (q_add (q_ixv 1 (qv 2)) (q_str [49]))))))))
    (qss_one (qs_ret (q_slv 1 qp_none (qp_some (qv 0)))))))
theorem ok__law_rooms {fa : Addr} {fd : FuncData} (Fn : FnP K "_law_rooms" s__law_rooms fa fd) (m_range : mg "range" = none) {S : DSp} (len : ∀ ds Q, S ds Q → ds.length = (["which", "often", "lengths"] : List Str).length) (rd : ∀ ds Q, S ds Q → t__law_rooms { nx := fun _ => false = false ∧ Q .non, rt := Q } (startD 6 ds)) :
  FnG P w K mg base CX0 1 fa fd ["which", "often", "lengths"] (spD K false S) := by
  refine FunD.okD Fn sc__law_rooms len _ (fun cdv A outer s H E hr => ?_) rd
  exact (qss_cons (qs_setO 3 (fun _ => sc__law_rooms.nd) (qo_lst (qa_cons (qv 1) qa_nil)))
    (qss_cons (qs_set 4 (fun _ => sc__law_rooms.nd) (qv 1))
    (qss_cons (qs_if (qt_eq (fun _ => hr.toRoom) (qv 0) q_int) (qss_cons (qs_setO 3 (fun _ => sc__law_rooms.nd) (qo_lst (qa_cons (q_div (q_mul (qv 1) (q_sub (qv 1) q_int)) q_int) qa_nil)))
    (qss_one (qs_set 4 (fun _ => sc__law_rooms.nd) (q_mul (qv 1) (qv 1))))) qss_nil)
    (qss_cons (qs_for (fun _ => PassesOwn.never) (fun _ => rfl) (qi_range2 (fun _ => m_range) q_int (qv 2)) (qg_name 5 (fun _ => sc__law_rooms.nd)) (qss_cons (qs_set 4 (fun _ => sc__law_rooms.nd) (q_mul (qv 4) q_int))
    (qss_one (qs_expr (q_append 3 (qv 4))))))
    (qss_one (qs_ret (qv 3)))))))
theorem ok__law_filled {fa : Addr} {fd : FuncData} (Fn : FnP K "_law_filled" s__law_filled fa fd) (m_len : mg "len" = none) (m_range : mg "range" = none) (m_min : mg "min" = none) {S : DSp} (len : ∀ ds Q, S ds Q → ds.length = (["rooms", "many"] : List Str).length) (rd : ∀ ds Q, S ds Q → t__law_filled { nx := fun _ => false = false ∧ Q .non, rt := Q } (startD 6 ds)) :
  FnG P w K mg base CX0 1 fa fd ["rooms", "many"] (spD K false S) := by
  refine FunD.okD Fn sc__law_filled len _ (fun cdv A outer s H E hr => ?_) rd
  exact (qss_cons (qs_set 2 (fun _ => sc__law_filled.nd) q_int)
    (qss_cons (qs_set 3 (fun _ => sc__law_filled.nd) (qv 1))
    (qss_cons (qs_for (fun _ => PassesOwn.never) (fun _ => rfl) (qi_range1 (fun _ => m_range) (q_len (fun _ => m_len) (QE.qp (qv 0)))) (qg_name 4 (fun _ => sc__law_filled.nd)) (qss_cons (qs_set 5 (fun _ => sc__law_filled.nd) (q_min2 (fun _ => rfl) (fun _ => m_min) (qv 3) (q_ix (qv 0) (qv 4))))
    (qss_cons (qs_set 2 (fun _ => sc__law_filled.nd) (q_add (qv 2) (q_mul (qv 4) (qv 5))))
    (qss_one (qs_set 3 (fun _ => sc__law_filled.nd) (q_sub (qv 3) (qv 5)))))))
    (qss_one (qs_ret (qv 2))))))
theorem ok__law_uses {fa : Addr} {fd : FuncData} (Fn : FnP K "_law_uses" s__law_uses fa fd) (m_len : mg "len" = none) (m_range : mg "range" = none) (m_int : mg "int" = none) (m_min : mg "min" = none) (m_max : mg "max" = none) {S : DSp} (len : ∀ ds Q, S ds Q → ds.length = (["rooms", "row"] : List Str).length) (rd : ∀ ds Q, S ds Q → t__law_uses { nx := fun _ => false = false ∧ Q .non, rt := Q } (startD 12 ds)) :
  FnG P w K mg base CX0 1 fa fd ["rooms", "row"] (spD K false S) := by
  refine FunD.okD Fn sc__law_uses len _ (fun cdv A outer s H E hr => ?_) rd
  exact (qss_cons (qs_if (qt_eq (fun _ => hr.toRoom) (q_ix (qv 1) q_int) q_int) (qss_cons (qs_setO 3 (fun _ => sc__law_uses.nd) (qo_lst qa_nil))
    (qss_cons (qs_for (fun _ => PassesOwn.never) (fun _ => rfl) (qi_range1 (fun _ => m_range) (q_len (fun _ => m_len) (QE.qp (qv 0)))) (qg_name 5 (fun _ => sc__law_uses.nd)) (qss_cons (qs_set 9 (fun _ => sc__law_uses.nd) (q_mod (q_intc (fun _ => m_int) (QE.qp (q_ix (qv 1) (q_add q_int (q_mod (qv 5) q_int))))) (q_add (q_ix (qv 0) (qv 5)) q_int)))
    (qss_cons (qs_set 10 (fun _ => sc__law_uses.nd) (QO.qe (qo_lst (qa_cons q_int (qa_cons (q_ix (qv 0) (qv 5)) (qa_cons (q_max2 (fun _ => rfl) (fun _ => m_max) q_int (q_sub (q_ix (qv 0) (qv 5)) q_int)) (qa_cons (q_min2 (fun _ => rfl) (fun _ => m_min) q_int (q_ix (qv 0) (qv 5))) (qa_cons (qv 9) (qa_cons (q_sub (q_ix (qv 0) (qv 5)) (qv 9)) qa_nil)))))))))
    (qss_one (qs_expr (q_append 3 (q_ix (qv 10) (q_ix (qv 1) (q_add q_int (q_mod (qv 5) q_int))))))))))
    (qss_one (qs_ret (qv 3))))) qss_nil)
    (qss_cons (qs_set 2 (fun _ => sc__law_uses.nd) (q_mod (q_intc (fun _ => m_int) (QE.qp (q_ix (qv 1) q_int))) (q_len (fun _ => m_len) (QE.qp (qv 0)))))
    (qss_cons (qs_setLcO 3 (ow := [("k", 5)]) (fun _ => rfl) (fun _ => sc__law_uses.nd) (qi_range1 (fun _ => m_range) (q_len (fun _ => m_len) (QE.qp (qv 0)))) (fun _ => blkOk_by (N := nm__law_uses) (sc := defScope s__law_uses) (by decide +kernel)) (qgc_name 5 (fun _ => sc__law_uses.nd)) qts_nil (q_mul (q_ix (qv 0) (qv 5)) (q_intc (fun _ => m_int) (QE.qp (q_lt (qv 5) (qv 2))))))
    (qss_cons (qs_setI 3 (q_mod (q_intc (fun _ => m_int) (QE.qp (q_ix (qv 1) q_int))) (q_add (q_ix (qv 0) (qv 2)) q_int)) (qv 2))
    (qss_cons (qs_for (fun _ => PassesOwn.never) (fun _ => rfl) (qi_range1 (fun _ => m_range) q_int) (qg_name 4 (fun _ => sc__law_uses.nd)) (qss_cons (qs_set 6 (fun _ => sc__law_uses.nd) (q_slice (qv 1) (qp_some (q_add q_int (q_mul q_int (qv 4)))) (qp_some (q_add q_int (q_mul q_int (qv 4))))))
    (qss_cons (qs_set 7 (fun _ => sc__law_uses.nd) (q_mod (q_intc (fun _ => m_int) (QE.qp (q_ix (qv 6) q_int))) (q_len (fun _ => m_len) (QE.qp (qv 0)))))
    (qss_cons (qs_set 8 (fun _ => sc__law_uses.nd) (q_mod (q_intc (fun _ => m_int) (QE.qp (q_ix (qv 6) q_int))) (q_len (fun _ => m_len) (QE.qp (qv 0)))))
    (qss_one (qs_if (QW.qt (qw_and (qt_ne (fun _ => hr.toRoom) (qv 7) (qv 8)) (qw_and1 (qt_gt (q_ix (qv 6) q_int) q_int)))) (qss_cons (qs_set 11 (fun _ => sc__law_uses.nd) (q_min3 (fun _ => rfl) (fun _ => m_min) (qa_cons (q_ixv 3 (qv 7)) (qa_cons (q_sub (q_ix (qv 0) (qv 8)) (q_ixv 3 (qv 8))) (qa_cons (q_add q_int (q_ix (qv 6) q_int)) qa_nil)))))
    (qss_cons (qs_setI 3 (q_sub (q_ixv 3 (qv 7)) (qv 11)) (qv 7))
    (qss_one (qs_setI 3 (q_add (q_ixv 3 (qv 8)) (qv 11)) (qv 8))))) qss_nil))))))
    (qss_one (qs_ret (qv 3))))))))
theorem ok__law_tight {fa : Addr} {fd : FuncData} (Fn : FnP K "_law_tight" s__law_tight fa fd) (m_len : mg "len" = none) (m_range : mg "range" = none) {S : DSp} (len : ∀ ds Q, S ds Q → ds.length = (["rooms", "uses"] : List Str).length) (rd : ∀ ds Q, S ds Q → t__law_tight { nx := fun _ => false = false ∧ Q .non, rt := Q } (startD 4 ds)) :
  FnG P w K mg base CX0 1 fa fd ["rooms", "uses"] (spD K false S) := by
  refine FunD.okD Fn sc__law_tight len _ (fun cdv A outer s H E hr => ?_) rd
  exact (qss_cons (qs_set 2 (fun _ => sc__law_tight.nd) q_bl)
    (qss_cons (qs_for (fun _ => PassesOwn.never) (fun _ => rfl) (qi_range1 (fun _ => m_range) (q_len (fun _ => m_len) (QE.qp (qv 0)))) (qg_name 3 (fun _ => sc__law_tight.nd)) (qss_cons (qs_if (QW.qt (qw_and (qt_val (qv 2)) (qw_and1 (qt_gt (q_ix (qv 1) (qv 3)) q_int)))) (qss_one (qs_ret q_bl)) qss_nil)
    (qss_one (qs_if (qt_lt (q_ix (qv 1) (qv 3)) (q_ix (qv 0) (qv 3))) (qss_one (qs_set 2 (fun _ => sc__law_tight.nd) q_bl)) qss_nil))))
    (qss_one (qs_ret q_bl))))
theorem ok__law_told {fa : Addr} {fd : FuncData} (Fn : FnP K "_law_told" s__law_told fa fd) {S_shared_total : DSp} {a_shared_total : Addr} {fd_shared_total : FuncData} (G_shared_total : FnG P w K mg base CX0 2 a_shared_total fd_shared_total ["count", "share"] (spD K false S_shared_total)) (m_shared_total : mg "shared_total" = some (.ref a_shared_total)) (k_shared_total : PySem.W.keepIn K (.ref a_shared_total) = true) (b_shared_total : Binds K fd_shared_total ["count", "share"] []) {S_floor_bits : DSp} {a_floor_bits : Addr} {fd_floor_bits : FuncData} (G_floor_bits : FnG P w K mg base CX0 2 a_floor_bits fd_floor_bits ["standings", "count"] (spD K false S_floor_bits)) (m_floor_bits : mg "floor_bits" = some (.ref a_floor_bits)) (k_floor_bits : PySem.W.keepIn K (.ref a_floor_bits) = true) (b_floor_bits : Binds K fd_floor_bits ["standings", "count"] []) {S__law_whole : DSp} {a__law_whole : Addr} {fd__law_whole : FuncData} (G__law_whole : FnG P w K mg base CX0 1 a__law_whole fd__law_whole ["value"] (spD K false S__law_whole)) (m__law_whole : mg "_law_whole" = some (.ref a__law_whole)) (k__law_whole : PySem.W.keepIn K (.ref a__law_whole) = true) (b__law_whole : Binds K fd__law_whole ["value"] []) (kb_shared_total_0_share_count : KBn K fd_shared_total ["count", "share"] 0 ["share", "count"] (fun us ws => g_shared_total_0_share_count us ws) (fun vs zs => g_shared_total_0_share_count vs zs)) (kb_floor_bits_0_count_standings : KBn K fd_floor_bits ["standings", "count"] 0 ["count", "standings"] (fun us ws => g_floor_bits_0_count_standings us ws) (fun vs zs => g_floor_bits_0_count_standings vs zs)) {S : DSp} (len : ∀ ds Q, S ds Q → ds.length = (["which", "often", "many"] : List Str).length) (rd : ∀ ds Q, S ds Q → t__law_told S_shared_total S_floor_bits S__law_whole { nx := fun _ => false = false ∧ Q .non, rt := Q } (startD 5 ds)) :
  FnG P w K mg base CX0 3 fa fd ["which", "often", "many"] (spD K false S) := by
  refine FunD.okD Fn sc__law_told len _ (fun cdv A outer s H E hr => ?_) rd
  exact (qss_cons (qs_if (qt_eq (fun _ => hr.toRoom) (qv 0) q_int) (qss_cons (qs_set 3 (fun _ => sc__law_told.nd) (q_call (fun _ => G_shared_total) (fun _ => hr.mono (by decide)) (fun _ => m_shared_total) k_shared_total b_shared_total (qa_cons (qv 2) (qa_cons (qv 1) qa_nil))))
    (qss_one (qs_set 4 (fun _ => sc__law_told.nd) (q_callK0 (m := 2) (fun _ => G_shared_total) (fun _ => hr.mono (by decide)) (fun _ => m_shared_total) k_shared_total kb_shared_total_0_share_count rel_shared_total_0_share_count rfl (qk_cons (qv 1) (qk_cons (qv 2) qk_nil)))))) (qss_cons (qs_set 3 (fun _ => sc__law_told.nd) (q_call (fun _ => G_floor_bits) (fun _ => hr.mono (by decide)) (fun _ => m_floor_bits) k_floor_bits b_floor_bits (qa_cons (qv 1) (qa_cons (qv 2) qa_nil))))
    (qss_one (qs_set 4 (fun _ => sc__law_told.nd) (q_callK0 (m := 2) (fun _ => G_floor_bits) (fun _ => hr.mono (by decide)) (fun _ => m_floor_bits) k_floor_bits kb_floor_bits_0_count_standings rel_floor_bits_0_count_standings rfl (qk_cons (qv 2) (qk_cons (qv 1) qk_nil)))))))
    (qss_cons (qs_if (QW.qt (qw_or (qt_not (qt_val (q_call (fun _ => G__law_whole) (fun _ => hr.mono (by decide)) (fun _ => m__law_whole) k__law_whole b__law_whole (qa_cons (qv 3) qa_nil)))) (qw_or (qt_not (qt_val (q_call (fun _ => G__law_whole) (fun _ => hr.mono (by decide)) (fun _ => m__law_whole) k__law_whole b__law_whole (qa_cons (qv 4) qa_nil)))) (qw_or1 (qt_ne (fun _ => hr.toRoom) (qv 3) (qv 4)))))) (qss_one (qs_ret (q_neg q_int))) qss_nil)
    (qss_one (qs_ret (qv 3)))))
theorem ok__law_is_due {fa : Addr} {fd : FuncData} (Fn : FnP K "_law_is_due" s__law_is_due fa fd) {S__law_told : DSp} {a__law_told : Addr} {fd__law_told : FuncData} (G__law_told : FnG P w K mg base CX0 3 a__law_told fd__law_told ["which", "often", "many"] (spD K false S__law_told)) (m__law_told : mg "_law_told" = some (.ref a__law_told)) (k__law_told : PySem.W.keepIn K (.ref a__law_told) = true) (b__law_told : Binds K fd__law_told ["which", "often", "many"] []) {S__law_filled : DSp} {a__law_filled : Addr} {fd__law_filled : FuncData} (G__law_filled : FnG P w K mg base CX0 1 a__law_filled fd__law_filled ["rooms", "many"] (spD K false S__law_filled)) (m__law_filled : mg "_law_filled" = some (.ref a__law_filled)) (k__law_filled : PySem.W.keepIn K (.ref a__law_filled) = true) (b__law_filled : Binds K fd__law_filled ["rooms", "many"] []) {S__law_rooms : DSp} {a__law_rooms : Addr} {fd__law_rooms : FuncData} (G__law_rooms : FnG P w K mg base CX0 1 a__law_rooms fd__law_rooms ["which", "often", "lengths"] (spD K false S__law_rooms)) (m__law_rooms : mg "_law_rooms" = some (.ref a__law_rooms)) (k__law_rooms : PySem.W.keepIn K (.ref a__law_rooms) = true) (b__law_rooms : Binds K fd__law_rooms ["which", "often", "lengths"] []) {S : DSp} (len : ∀ ds Q, S ds Q → ds.length = (["which", "often", "many"] : List Str).length) (rd : ∀ ds Q, S ds Q → t__law_is_due S__law_told S__law_filled S__law_rooms { nx := fun _ => false = false ∧ Q .non, rt := Q } (startD 3 ds)) :
  FnG P w K mg base CX0 4 fa fd ["which", "often", "many"] (spD K false S) := by
  refine FunD.okD Fn sc__law_is_due len _ (fun cdv A outer s H E hr => ?_) rd
  exact (qss_one (qs_ret (q_eq (fun _ => hr.toRoom) (q_call (fun _ => G__law_told) (fun _ => hr.mono (by decide)) (fun _ => m__law_told) k__law_told b__law_told (qa_cons (qv 0) (qa_cons (qv 1) (qa_cons (qv 2) qa_nil)))) (q_call (fun _ => G__law_filled) (fun _ => hr.mono (by decide)) (fun _ => m__law_filled) k__law_filled b__law_filled (qa_cons (q_call (fun _ => G__law_rooms) (fun _ => hr.mono (by decide)) (fun _ => m__law_rooms) k__law_rooms b__law_rooms (qa_cons (qv 0) (qa_cons (qv 1) (qa_cons q_int qa_nil)))) (qa_cons (qv 2) qa_nil))))))
theorem ok__law_choice_holds {fa : Addr} {fd : FuncData} (Fn : FnP K "_law_choice_holds" s__law_choice_holds fa fd) {S__law_told : DSp} {a__law_told : Addr} {fd__law_told : FuncData} (G__law_told : FnG P w K mg base CX0 3 a__law_told fd__law_told ["which", "often", "many"] (spD K false S__law_told)) (m__law_told : mg "_law_told" = some (.ref a__law_told)) (k__law_told : PySem.W.keepIn K (.ref a__law_told) = true) (b__law_told : Binds K fd__law_told ["which", "often", "many"] []) (m_sum : mg "sum" = none) (m_len : mg "len" = none) (m_range : mg "range" = none) {S : DSp} (len : ∀ ds Q, S ds Q → ds.length = (["which", "often", "lengths", "uses", "tight"] : List Str).length) (rd : ∀ ds Q, S ds Q → t__law_choice_holds S__law_told { nx := fun _ => false = false ∧ Q .non, rt := Q } (startD 8 ds)) :
  FnG P w K mg base CX0 4 fa fd ["which", "often", "lengths", "uses", "tight"] (spD K false S) := by
  refine FunD.okD Fn sc__law_choice_holds len _ (fun cdv A outer s H E hr => ?_) rd
  exact (qss_cons (qs_set 5 (fun _ => sc__law_choice_holds.nd) (q_call (fun _ => G__law_told) (fun _ => hr.mono (by decide)) (fun _ => m__law_told) k__law_told b__law_told (qa_cons (qv 0) (qa_cons (qv 1) (qa_cons (q_sum (fun _ => rfl) (fun _ => m_sum) (QE.qp (qv 3))) qa_nil)))))
    (qss_cons (qs_set 6 (fun _ => sc__law_choice_holds.nd) (q_sum (fun _ => rfl) (fun _ => m_sum) (QE.qp (QO.qe (qo_lc (ow := [("k", 7)]) (fun _ => rfl) (fun _ => sc__law_choice_holds.nd) (qi_range1 (fun _ => m_range) (q_len (fun _ => m_len) (QE.qp (qv 3)))) (fun _ => blkOk_by (N := nm__law_choice_holds) (sc := defScope s__law_choice_holds) (by decide +kernel)) (qgc_name 7 (fun _ => sc__law_choice_holds.nd)) qts_nil (q_mul (q_ix (qv 2) (qv 7)) (q_ix (qv 3) (qv 7))))))))
    (qss_one (qs_ret (q_and (q_chain (fun _ => op_le) (fun _ => op_le) cmpc_ord cmpc_ord q_int (qv 5) (qv 6)) (q_one (q_eq (fun _ => hr.toRoom) (q_eq (fun _ => hr.toRoom) (qv 5) (qv 6)) (qv 4))))))))
theorem ok__law_small_choice {fa : Addr} {fd : FuncData} (Fn : FnP K "_law_small_choice" s__law_small_choice fa fd) {S__law_bit_words : DSp} {a__law_bit_words : Addr} {fd__law_bit_words : FuncData} (G__law_bit_words : FnG P w K mg base CX0 1 a__law_bit_words fd__law_bit_words ["most"] (spD K false S__law_bit_words)) (m__law_bit_words : mg "_law_bit_words" = some (.ref a__law_bit_words)) (k__law_bit_words : PySem.W.keepIn K (.ref a__law_bit_words) = true) (b__law_bit_words : Binds K fd__law_bit_words ["most"] []) {S__law_uses : DSp} {a__law_uses : Addr} {fd__law_uses : FuncData} (G__law_uses : FnG P w K mg base CX0 1 a__law_uses fd__law_uses ["rooms", "row"] (spD K false S__law_uses)) (m__law_uses : mg "_law_uses" = some (.ref a__law_uses)) (k__law_uses : PySem.W.keepIn K (.ref a__law_uses) = true) (b__law_uses : Binds K fd__law_uses ["rooms", "row"] []) {S__law_told : DSp} {a__law_told : Addr} {fd__law_told : FuncData} (G__law_told : FnG P w K mg base CX0 3 a__law_told fd__law_told ["which", "often", "many"] (spD K false S__law_told)) (m__law_told : mg "_law_told" = some (.ref a__law_told)) (k__law_told : PySem.W.keepIn K (.ref a__law_told) = true) (b__law_told : Binds K fd__law_told ["which", "often", "many"] []) {S__law_choice_holds : DSp} {a__law_choice_holds : Addr} {fd__law_choice_holds : FuncData} (G__law_choice_holds : FnG P w K mg base CX0 4 a__law_choice_holds fd__law_choice_holds ["which", "often", "lengths", "uses", "tight"] (spD K false S__law_choice_holds)) (m__law_choice_holds : mg "_law_choice_holds" = some (.ref a__law_choice_holds)) (k__law_choice_holds : PySem.W.keepIn K (.ref a__law_choice_holds) = true) (b__law_choice_holds : Binds K fd__law_choice_holds ["which", "often", "lengths", "uses", "tight"] []) (m_len : mg "len" = none) (m_range : mg "range" = none) (m_sum : mg "sum" = none) (m_min : mg "min" = none) (m_max : mg "max" = none) {S : DSp} (len : ∀ ds Q, S ds Q → ds.length = (["which", "few", "row"] : List Str).length) (rd : ∀ ds Q, S ds Q → t__law_small_choice S__law_bit_words S__law_uses S__law_told S__law_choice_holds { nx := fun _ => false = false ∧ Q .non, rt := Q } (startD 11 ds)) :
  FnG P w K mg base CX0 5 fa fd ["which", "few", "row"] (spD K false S) := by
  refine FunD.okD Fn sc__law_small_choice len _ (fun cdv A outer s H E hr => ?_) rd
  exact (qss_cons (qs_set 3 (fun _ => sc__law_small_choice.nd) (QO.qe (qo_lc (ow := [("word", 10)]) (fun _ => rfl) (fun _ => sc__law_small_choice.nd) (qi_seq (q_call (fun _ => G__law_bit_words) (fun _ => hr.mono (by decide)) (fun _ => m__law_bit_words) k__law_bit_words b__law_bit_words (qa_cons q_int qa_nil))) (fun _ => blkOk_by (N := nm__law_small_choice) (sc := defScope s__law_small_choice) (by decide +kernel)) (qgc_name 10 (fun _ => sc__law_small_choice.nd)) qts_nil (q_len (fun _ => m_len) (QE.qp (qv 10))))))
    (qss_cons (qs_set 4 (fun _ => sc__law_small_choice.nd) (q_mul (QO.qe (qo_lst (qa_cons (qv 1) qa_nil))) q_int))
    (qss_cons (qs_if (qt_eq (fun _ => hr.toRoom) (qv 0) q_int) (qss_one (qs_set 4 (fun _ => sc__law_small_choice.nd) (q_add (QO.qe (qo_lst (qa_cons (q_div (q_mul (qv 1) (q_sub (qv 1) q_int)) q_int) qa_nil))) (q_mul (QO.qe (qo_lst (qa_cons (q_mul (qv 1) (qv 1)) qa_nil))) q_int)))) qss_nil)
    (qss_cons (qs_set 5 (fun _ => sc__law_small_choice.nd) (q_call (fun _ => G__law_uses) (fun _ => hr.mono (by decide)) (fun _ => m__law_uses) k__law_uses b__law_uses (qa_cons (qv 4) (qa_cons (qv 2) qa_nil))))
    (qss_cons (qs_set 6 (fun _ => sc__law_small_choice.nd) (QO.qe (qo_lst qa_nil)))
    (qss_cons (qs_for (fun _ => PassesOwn.never) (fun _ => rfl) (qi_range1 (fun _ => m_range) q_int) (qg_name 7 (fun _ => sc__law_small_choice.nd)) (qss_one (qs_set 6 (fun _ => sc__law_small_choice.nd) (q_add (qv 6) (q_mul (QO.qe (qo_lst (qa_cons (q_ix (qv 3) (qv 7)) qa_nil))) (q_ix (qv 4) (qv 7)))))))
    (qss_cons (qs_if (qt_ne (fun _ => hr.toRoom) (q_call (fun _ => G__law_told) (fun _ => hr.mono (by decide)) (fun _ => m__law_told) k__law_told b__law_told (qa_cons (qv 0) (qa_cons (qv 1) (qa_cons (q_sum (fun _ => rfl) (fun _ => m_sum) (QE.qp (qv 5))) qa_nil)))) (q_sum (fun _ => rfl) (fun _ => m_sum) (QE.qp (q_slice (qv 6) qp_none (qp_some (q_sum (fun _ => rfl) (fun _ => m_sum) (QE.qp (qv 5)))))))) (qss_one (qs_ret q_bl)) qss_nil)
    (qss_cons (qs_set 8 (fun _ => sc__law_small_choice.nd) (q_minL (fun _ => rfl) (fun _ => m_min) (QE.qp (q_add (QO.qe (qo_lc (ow := [("k", 7)]) (fun _ => rfl) (fun _ => sc__law_small_choice.nd) (qi_range1 (fun _ => m_range) q_int) (fun _ => blkOk_by (N := nm__law_small_choice) (sc := defScope s__law_small_choice) (by decide +kernel)) (qgc_name 7 (fun _ => sc__law_small_choice.nd)) (qts_one (qt_lt (q_ix (qv 5) (qv 7)) (q_ix (qv 4) (qv 7)))) (q_ix (qv 3) (qv 7)))) (QO.qe (qo_lst (qa_cons q_int qa_nil)))))))
    (qss_cons (qs_set 9 (fun _ => sc__law_small_choice.nd) (q_maxL (fun _ => rfl) (fun _ => m_max) (QE.qp (q_add (QO.qe (qo_lc (ow := [("k", 7)]) (fun _ => rfl) (fun _ => sc__law_small_choice.nd) (qi_range1 (fun _ => m_range) q_int) (fun _ => blkOk_by (N := nm__law_small_choice) (sc := defScope s__law_small_choice) (by decide +kernel)) (qgc_name 7 (fun _ => sc__law_small_choice.nd)) (qts_one (qt_gt (q_ix (qv 5) (qv 7)) q_int)) (q_ix (qv 3) (qv 7)))) (QO.qe (qo_lst (qa_cons q_int qa_nil)))))))
    (qss_one (qs_ret (q_call (fun _ => G__law_choice_holds) (fun _ => hr.mono (by decide)) (fun _ => m__law_choice_holds) k__law_choice_holds b__law_choice_holds (qa_cons (qv 0) (qa_cons (qv 1) (qa_cons (qv 3) (qa_cons (qv 5) (qa_cons (q_le (qv 9) (qv 8)) qa_nil)))))))))))))))))
theorem ok__law_asked {fa : Addr} {fd : FuncData} (Fn : FnP K "_law_asked" s__law_asked fa fd) {S__law_rooms : DSp} {a__law_rooms : Addr} {fd__law_rooms : FuncData} (G__law_rooms : FnG P w K mg base CX0 1 a__law_rooms fd__law_rooms ["which", "often", "lengths"] (spD K false S__law_rooms)) (m__law_rooms : mg "_law_rooms" = some (.ref a__law_rooms)) (k__law_rooms : PySem.W.keepIn K (.ref a__law_rooms) = true) (b__law_rooms : Binds K fd__law_rooms ["which", "often", "lengths"] []) (m_int : mg "int" = none) (m_sum : mg "sum" = none) (m_max : mg "max" = none) (m_range : mg "range" = none) {S : DSp} (len : ∀ ds Q, S ds Q → ds.length = (["which", "often", "row"] : List Str).length) (rd : ∀ ds Q, S ds Q → t__law_asked S__law_rooms { nx := fun _ => false = false ∧ Q .non, rt := Q } (startD 5 ds)) :
  FnG P w K mg base CX0 2 fa fd ["which", "often", "row"] (spD K false S) := by
  refine FunD.okD Fn sc__law_asked len _ (fun cdv A outer s H E hr => ?_) rd
  exact (qss_cons (qs_if (qt_lt (q_ix (qv 2) q_int) q_int) (qss_one (qs_ret (q_mod (q_intc (fun _ => m_int) (QE.qp (q_ix (qv 2) q_int))) q_int))) qss_nil)
    (qss_cons (qs_if (qt_lt (q_ix (qv 2) q_int) q_int) (qss_one (qs_ret (q_max2 (fun _ => rfl) (fun _ => m_max) q_int (q_sub (q_add (q_sum (fun _ => rfl) (fun _ => m_sum) (QE.qp (q_call (fun _ => G__law_rooms) (fun _ => hr.mono (by decide)) (fun _ => m__law_rooms) k__law_rooms b__law_rooms (qa_cons (qv 0) (qa_cons (qv 1) (qa_cons (q_add q_int (q_mod (q_intc (fun _ => m_int) (QE.qp (q_ix (qv 2) q_int))) (q_ix (QO.qe (qo_lst (qa_cons q_int (qa_cons q_int qa_nil)))) (qv 0)))) qa_nil)))))) (q_ix (qv 2) q_int)) q_int)))) qss_nil)
    (qss_cons (qs_set 3 (fun _ => sc__law_asked.nd) q_int)
    (qss_cons (qs_for (fun _ => PassesOwn.never) (fun _ => rfl) (qi_range1 (fun _ => m_range) (q_add q_int (q_ix (qv 2) q_int))) (qg_name 4 (fun _ => sc__law_asked.nd)) (qss_one (qs_set 3 (fun _ => sc__law_asked.nd) (q_add (q_mul (qv 3) q_int) (q_ix (qv 2) (q_add q_int (qv 4)))))))
    (qss_one (qs_ret (q_mod (q_intc (fun _ => m_int) (QE.qp (qv 3))) (q_add (q_ix (QO.qe (qo_lst (qa_cons (q_pow q_int q_int) (qa_cons (q_pow q_int q_int) qa_nil)))) (qv 0)) q_int))))))))
theorem ok__law_totals_hold {fa : Addr} {fd : FuncData} (Fn : FnP K "_law_totals_hold" s__law_totals_hold fa fd) {S__law_asked : DSp} {a__law_asked : Addr} {fd__law_asked : FuncData} (G__law_asked : FnG P w K mg base CX0 2 a__law_asked fd__law_asked ["which", "often", "row"] (spD K false S__law_asked)) (m__law_asked : mg "_law_asked" = some (.ref a__law_asked)) (k__law_asked : PySem.W.keepIn K (.ref a__law_asked) = true) (b__law_asked : Binds K fd__law_asked ["which", "often", "row"] []) {S__law_told : DSp} {a__law_told : Addr} {fd__law_told : FuncData} (G__law_told : FnG P w K mg base CX0 3 a__law_told fd__law_told ["which", "often", "many"] (spD K false S__law_told)) (m__law_told : mg "_law_told" = some (.ref a__law_told)) (k__law_told : PySem.W.keepIn K (.ref a__law_told) = true) (b__law_told : Binds K fd__law_told ["which", "often", "many"] []) {S__law_is_due : DSp} {a__law_is_due : Addr} {fd__law_is_due : FuncData} (G__law_is_due : FnG P w K mg base CX0 4 a__law_is_due fd__law_is_due ["which", "often", "many"] (spD K false S__law_is_due)) (m__law_is_due : mg "_law_is_due" = some (.ref a__law_is_due)) (k__law_is_due : PySem.W.keepIn K (.ref a__law_is_due) = true) (b__law_is_due : Binds K fd__law_is_due ["which", "often", "many"] []) {S__law_small_choice : DSp} {a__law_small_choice : Addr} {fd__law_small_choice : FuncData} (G__law_small_choice : FnG P w K mg base CX0 5 a__law_small_choice fd__law_small_choice ["which", "few", "row"] (spD K false S__law_small_choice)) (m__law_small_choice : mg "_law_small_choice" = some (.ref a__law_small_choice)) (k__law_small_choice : PySem.W.keepIn K (.ref a__law_small_choice) = true) (b__law_small_choice : Binds K fd__law_small_choice ["which", "few", "row"] []) {S__law_rooms : DSp} {a__law_rooms : Addr} {fd__law_rooms : FuncData} (G__law_rooms : FnG P w K mg base CX0 1 a__law_rooms fd__law_rooms ["which", "often", "lengths"] (spD K false S__law_rooms)) (m__law_rooms : mg "_law_rooms" = some (.ref a__law_rooms)) (k__law_rooms : PySem.W.keepIn K (.ref a__law_rooms) = true) (b__law_rooms : Binds K fd__law_rooms ["which", "often", "lengths"] []) {S__law_uses : DSp} {a__law_uses : Addr} {fd__law_uses : FuncData} (G__law_uses : FnG P w K mg base CX0 1 a__law_uses fd__law_uses ["rooms", "row"] (spD K false S__law_uses)) (m__law_uses : mg "_law_uses" = some (.ref a__law_uses)) (k__law_uses : PySem.W.keepIn K (.ref a__law_uses) = true) (b__law_uses : Binds K fd__law_uses ["rooms", "row"] []) {S__law_choice_holds : DSp} {a__law_choice_holds : Addr} {fd__law_choice_holds : FuncData} (G__law_choice_holds : FnG P w K mg base CX0 4 a__law_choice_holds fd__law_choice_holds ["which", "often", "lengths", "uses", "tight"] (spD K false S__law_choice_holds)) (m__law_choice_holds : mg "_law_choice_holds" = some (.ref a__law_choice_holds)) (k__law_choice_holds : PySem.W.keepIn K (.ref a__law_choice_holds) = true) (b__law_choice_holds : Binds K fd__law_choice_holds ["which", "often", "lengths", "uses", "tight"] []) {S__law_tight : DSp} {a__law_tight : Addr} {fd__law_tight : FuncData} (G__law_tight : FnG P w K mg base CX0 1 a__law_tight fd__law_tight ["rooms", "uses"] (spD K false S__law_tight)) (m__law_tight : mg "_law_tight" = some (.ref a__law_tight)) (k__law_tight : PySem.W.keepIn K (.ref a__law_tight) = true) (b__law_tight : Binds K fd__law_tight ["rooms", "uses"] []) (m_int : mg "int" = none) (m_len : mg "len" = none) (m_list : mg "list" = none) (m_range : mg "range" = none) {S : DSp} (len : ∀ ds Q, S ds Q → ds.length = (["which", "often", "row", "small", "large"] : List Str).length) (rd : ∀ ds Q, S ds Q → t__law_totals_hold S__law_asked S__law_told S__law_is_due S__law_small_choice S__law_rooms S__law_uses S__law_choice_holds S__law_tight { nx := fun _ => false = false ∧ Q .non, rt := Q } (startD 10 ds)) :
  FnG P w K mg base CX0 6 fa fd ["which", "often", "row", "small", "large"] (spD K false S) := by
  refine FunD.okD Fn sc__law_totals_hold len _ (fun cdv A outer s H E hr => ?_) rd
  exact (qss_cons (qs_set 5 (fun _ => sc__law_totals_hold.nd) (q_call (fun _ => G__law_asked) (fun _ => hr.mono (by decide)) (fun _ => m__law_asked) k__law_asked b__law_asked (qa_cons (qv 0) (qa_cons (qv 1) (qa_cons (qv 2) qa_nil)))))
    (qss_cons (qs_set 6 (fun _ => sc__law_totals_hold.nd) (q_call (fun _ => G__law_told) (fun _ => hr.mono (by decide)) (fun _ => m__law_told) k__law_told b__law_told (qa_cons (qv 0) (qa_cons (qv 1) (qa_cons (qv 5) qa_nil)))))
    (qss_cons (qs_for (fun _ => PassesOwn.never) (fun _ => rfl) (qi_seq (QO.qe (qo_lst (qa_cons (q_sub (qv 5) q_int) (qa_cons (qv 5) (qa_cons (q_add (qv 5) q_int) qa_nil)))))) (qg_name 7 (fun _ => sc__law_totals_hold.nd)) (qss_one (qs_if (QW.qt (qw_and (qt_chain (fun _ => op_le) (fun _ => op_le) cmpc_ord cmpc_ord q_int (qv 7) (q_ix (QO.qe (qo_lst (qa_cons (q_pow q_int q_int) (qa_cons (q_pow q_int q_int) qa_nil)))) (qv 0))) (qw_and1 (qt_not (qt_val (q_call (fun _ => G__law_is_due) (fun _ => hr.mono (by decide)) (fun _ => m__law_is_due) k__law_is_due b__law_is_due (qa_cons (qv 0) (qa_cons (qv 1) (qa_cons (qv 7) qa_nil))))))))) (qss_one (qs_ret q_bl)) qss_nil)))
    (qss_cons (qs_if (QW.qt (qw_and (qt_lt (qv 1) (q_ix (QO.qe (qo_lst (qa_cons (q_pow q_int q_int) (qa_cons q_int qa_nil)))) (qv 0))) (qw_and1 (qt_not (qt_val (q_call (fun _ => G__law_is_due) (fun _ => hr.mono (by decide)) (fun _ => m__law_is_due) k__law_is_due b__law_is_due (qa_cons (qv 0) (qa_cons (q_add (qv 1) q_int) (qa_cons (qv 5) qa_nil))))))))) (qss_one (qs_ret q_bl)) qss_nil)
    (qss_cons (qs_if (qt_not (qt_val (q_call (fun _ => G__law_small_choice) (fun _ => hr.mono (by decide)) (fun _ => m__law_small_choice) k__law_small_choice b__law_small_choice (qa_cons (qv 0) (qa_cons (q_add q_int (q_mod (q_intc (fun _ => m_int) (QE.qp (q_ix (qv 3) q_int))) (q_ix (QO.qe (qo_lst (qa_cons q_int (qa_cons q_int qa_nil)))) (qv 0)))) (qa_cons (q_slice (qv 3) (qp_some q_int) qp_none) qa_nil)))))) (qss_one (qs_ret q_bl)) qss_nil)
    (qss_cons (qs_set 8 (fun _ => sc__law_totals_hold.nd) (q_call (fun _ => G__law_rooms) (fun _ => hr.mono (by decide)) (fun _ => m__law_rooms) k__law_rooms b__law_rooms (qa_cons (qv 0) (qa_cons (qv 1) (qa_cons (q_add q_int (q_mod (q_intc (fun _ => m_int) (QE.qp (q_ix (qv 4) q_int))) (q_ix (QO.qe (qo_lst (qa_cons q_int (qa_cons q_int qa_nil)))) (qv 0)))) qa_nil)))))
    (qss_cons (qs_set 9 (fun _ => sc__law_totals_hold.nd) (q_call (fun _ => G__law_uses) (fun _ => hr.mono (by decide)) (fun _ => m__law_uses) k__law_uses b__law_uses (qa_cons (qv 8) (qa_cons (q_slice (qv 4) (qp_some q_int) qp_none) qa_nil))))
    (qss_cons (qs_if (qt_not (qt_val (q_call (fun _ => G__law_choice_holds) (fun _ => hr.mono (by decide)) (fun _ => m__law_choice_holds) k__law_choice_holds b__law_choice_holds (qa_cons (qv 0) (qa_cons (qv 1) (qa_cons (QO.qe (qo_listRg1 (fun _ => rfl) (fun _ => m_list) (fun _ => m_range) (q_len (fun _ => m_len) (QE.qp (qv 8))))) (qa_cons (qv 9) (qa_cons (q_call (fun _ => G__law_tight) (fun _ => hr.mono (by decide)) (fun _ => m__law_tight) k__law_tight b__law_tight (qa_cons (qv 8) (qa_cons (qv 9) qa_nil))) qa_nil)))))))) (qss_one (qs_ret q_bl)) qss_nil)
    (qss_one (qs_ret (q_eq (fun _ => hr.toRoom) (q_call (fun _ => G__law_told) (fun _ => hr.mono (by decide)) (fun _ => m__law_told) k__law_told b__law_told (qa_cons (qv 0) (qa_cons (qv 1) (qa_cons (qv 5) qa_nil)))) (qv 6))))))))))))
theorem ok__law_bound {fa : Addr} {fd : FuncData} (Fn : FnP K "_law_bound" s__law_bound fa fd) {S__law_width : DSp} {a__law_width : Addr} {fd__law_width : FuncData} (G__law_width : FnG P w K mg base CX0 1 a__law_width fd__law_width ["options"] (spD K false S__law_width)) (m__law_width : mg "_law_width" = some (.ref a__law_width)) (k__law_width : PySem.W.keepIn K (.ref a__law_width) = true) (b__law_width : Binds K fd__law_width ["options"] []) {S__law_log : DSp} {a__law_log : Addr} {fd__law_log : FuncData} (G__law_log : FnG P w K mg base CX0 2 a__law_log fd__law_log ["n"] (spD K false S__law_log)) (m__law_log : mg "_law_log" = some (.ref a__law_log)) (k__law_log : PySem.W.keepIn K (.ref a__law_log) = true) (b__law_log : Binds K fd__law_log ["n"] []) {S : DSp} (len : ∀ ds Q, S ds Q → ds.length = (["letters", "states", "many"] : List Str).length) (rd : ∀ ds Q, S ds Q → t__law_bound S__law_width S__law_log { nx := fun _ => false = false ∧ Q .non, rt := Q } (startD 5 ds)) :
  FnG P w K mg base CX0 3 fa fd ["letters", "states", "many"] (spD K false S) := by
  refine FunD.okD Fn sc__law_bound len _ (fun cdv A outer s H E hr => ?_) rd
  exact (qss_cons (qs_set 3 (fun _ => sc__law_bound.nd) (q_call (fun _ => G__law_width) (fun _ => hr.mono (by decide)) (fun _ => m__law_width) k__law_width b__law_width (qa_cons (qv 0) qa_nil)))
    (qss_cons (qs_set 4 (fun _ => sc__law_bound.nd) (q_call (fun _ => G__law_width) (fun _ => hr.mono (by decide)) (fun _ => m__law_width) k__law_width b__law_width (qa_cons (qv 1) qa_nil)))
    (qss_one (qs_ret (q_add (q_add (q_add (q_mul (qv 2) (q_add (q_add (qv 3) q_int) (q_mul q_int (qv 4)))) (qv 3)) q_int) (q_mul q_int (q_call (fun _ => G__law_log) (fun _ => hr.mono (by decide)) (fun _ => m__law_log) k__law_log b__law_log (qa_cons (q_add (qv 2) q_int) qa_nil))))))))
theorem ok__law_long_block {fa : Addr} {fd : FuncData} (Fn : FnP K "_law_long_block" s__law_long_block fa fd) {S__law_width : DSp} {a__law_width : Addr} {fd__law_width : FuncData} (G__law_width : FnG P w K mg base CX0 1 a__law_width fd__law_width ["options"] (spD K false S__law_width)) (m__law_width : mg "_law_width" = some (.ref a__law_width)) (k__law_width : PySem.W.keepIn K (.ref a__law_width) = true) (b__law_width : Binds K fd__law_width ["options"] []) (m_range : mg "range" = none) (m_max : mg "max" = none) {S : DSp} (len : ∀ ds Q, S ds Q → ds.length = (["letters", "many"] : List Str).length) (rd : ∀ ds Q, S ds Q → t__law_long_block S__law_width { nx := fun _ => false = false ∧ Q .non, rt := Q } (startD 6 ds)) :
  FnG P w K mg base CX0 2 fa fd ["letters", "many"] (spD K false S) := by
  refine FunD.okD Fn sc__law_long_block len _ (fun cdv A outer s H E hr => ?_) rd
  exact (qss_cons (qs_set 2 (fun _ => sc__law_long_block.nd) (q_call (fun _ => G__law_width) (fun _ => hr.mono (by decide)) (fun _ => m__law_width) k__law_width b__law_width (qa_cons (q_add (qv 1) q_int) qa_nil)))
    (qss_cons (qs_set 3 (fun _ => sc__law_long_block.nd) q_int)
    (qss_cons (qs_for (fun _ => PassesOwn.never) (fun _ => rfl) (qi_range1 (fun _ => m_range) q_int) (qg_name 4 (fun _ => sc__law_long_block.nd)) (qss_cons (qs_set 5 (fun _ => sc__law_long_block.nd) q_int)
    (qss_cons (qs_if (qt_gt (qv 0) q_int) (qss_one (qs_set 5 (fun _ => sc__law_long_block.nd) (q_div (q_max2 (fun _ => rfl) (fun _ => m_max) q_int (q_sub (qv 3) q_int)) (q_sub (qv 0) q_int)))) (qss_one (qs_if (qt_gt (qv 3) q_int) (qss_one (qs_set 5 (fun _ => sc__law_long_block.nd) (q_add (qv 1) q_int))) qss_nil)))
    (qss_cons (qs_if (qt_gt (qv 5) (qv 1)) (qss_one qs_break) qss_nil)
    (qss_cons (qs_set 2 (fun _ => sc__law_long_block.nd) (q_sub (q_add (q_add (qv 2) (qv 1)) q_int) (qv 5)))
    (qss_one (qs_set 3 (fun _ => sc__law_long_block.nd) (q_mul (qv 3) q_int))))))))
    (qss_one (qs_ret (qv 2))))))
theorem ok__law_excess_holds {fa : Addr} {fd : FuncData} (Fn : FnP K "_law_excess_holds" s__law_excess_holds fa fd) {S_excess : DSp} {a_excess : Addr} {fd_excess : FuncData} (G_excess : FnG P w K mg base CX0 3 a_excess fd_excess ["size", "standings", "count"] (spD K false S_excess)) (m_excess : mg "excess" = some (.ref a_excess)) (k_excess : PySem.W.keepIn K (.ref a_excess) = true) (b_excess : Binds K fd_excess ["size", "standings", "count"] []) {S_told_excess : DSp} {a_told_excess : Addr} {fd_told_excess : FuncData} (G_told_excess : FnG P w K mg base CX0 2 a_told_excess fd_told_excess ["size", "standings", "count"] (spD K false S_told_excess)) (m_told_excess : mg "told_excess" = some (.ref a_told_excess)) (k_told_excess : PySem.W.keepIn K (.ref a_told_excess) = true) (b_told_excess : Binds K fd_told_excess ["size", "standings", "count"] []) {S__law_whole : DSp} {a__law_whole : Addr} {fd__law_whole : FuncData} (G__law_whole : FnG P w K mg base CX0 1 a__law_whole fd__law_whole ["value"] (spD K false S__law_whole)) (m__law_whole : mg "_law_whole" = some (.ref a__law_whole)) (k__law_whole : PySem.W.keepIn K (.ref a__law_whole) = true) (b__law_whole : Binds K fd__law_whole ["value"] []) {S__law_long_block : DSp} {a__law_long_block : Addr} {fd__law_long_block : FuncData} (G__law_long_block : FnG P w K mg base CX0 2 a__law_long_block fd__law_long_block ["letters", "many"] (spD K false S__law_long_block)) (m__law_long_block : mg "_law_long_block" = some (.ref a__law_long_block)) (k__law_long_block : PySem.W.keepIn K (.ref a__law_long_block) = true) (b__law_long_block : Binds K fd__law_long_block ["letters", "many"] []) {S__law_filled : DSp} {a__law_filled : Addr} {fd__law_filled : FuncData} (G__law_filled : FnG P w K mg base CX0 1 a__law_filled fd__law_filled ["rooms", "many"] (spD K false S__law_filled)) (m__law_filled : mg "_law_filled" = some (.ref a__law_filled)) (k__law_filled : PySem.W.keepIn K (.ref a__law_filled) = true) (b__law_filled : Binds K fd__law_filled ["rooms", "many"] []) {S__law_rooms : DSp} {a__law_rooms : Addr} {fd__law_rooms : FuncData} (G__law_rooms : FnG P w K mg base CX0 1 a__law_rooms fd__law_rooms ["which", "often", "lengths"] (spD K false S__law_rooms)) (m__law_rooms : mg "_law_rooms" = some (.ref a__law_rooms)) (k__law_rooms : PySem.W.keepIn K (.ref a__law_rooms) = true) (b__law_rooms : Binds K fd__law_rooms ["which", "often", "lengths"] []) {S__law_bound : DSp} {a__law_bound : Addr} {fd__law_bound : FuncData} (G__law_bound : FnG P w K mg base CX0 3 a__law_bound fd__law_bound ["letters", "states", "many"] (spD K false S__law_bound)) (m__law_bound : mg "_law_bound" = some (.ref a__law_bound)) (k__law_bound : PySem.W.keepIn K (.ref a__law_bound) = true) (b__law_bound : Binds K fd__law_bound ["letters", "states", "many"] []) (kb_excess_0_count_standings_size : KBn K fd_excess ["size", "standings", "count"] 0 ["count", "standings", "size"] (fun us ws => g_excess_0_count_standings_size us ws) (fun vs zs => g_excess_0_count_standings_size vs zs)) (kb_told_excess_0_standings_size_count : KBn K fd_told_excess ["size", "standings", "count"] 0 ["standings", "size", "count"] (fun us ws => g_told_excess_0_standings_size_count us ws) (fun vs zs => g_told_excess_0_standings_size_count vs zs)) {S : DSp} (len : ∀ ds Q, S ds Q → ds.length = (["letters", "states", "many"] : List Str).length) (rd : ∀ ds Q, S ds Q → t__law_excess_holds S_excess S_told_excess S__law_whole S__law_long_block S__law_filled S__law_rooms S__law_bound { nx := fun _ => false = false ∧ Q .non, rt := Q } (startD 5 ds)) :
  FnG P w K mg base CX0 4 fa fd ["letters", "states", "many"] (spD K false S) := by
  refine FunD.okD Fn sc__law_excess_holds len _ (fun cdv A outer s H E hr => ?_) rd
  exact (qss_cons (qs_set 3 (fun _ => sc__law_excess_holds.nd) (q_call (fun _ => G_excess) (fun _ => hr.mono (by decide)) (fun _ => m_excess) k_excess b_excess (qa_cons (qv 0) (qa_cons (qv 1) (qa_cons (qv 2) qa_nil)))))
    (qss_cons (qs_set 4 (fun _ => sc__law_excess_holds.nd) (q_call (fun _ => G_told_excess) (fun _ => hr.mono (by decide)) (fun _ => m_told_excess) k_told_excess b_told_excess (qa_cons (qv 0) (qa_cons (qv 1) (qa_cons (qv 2) qa_nil)))))
    (qss_cons (qs_if (QW.qt (qw_or (qt_not (qt_val (q_call (fun _ => G__law_whole) (fun _ => hr.mono (by decide)) (fun _ => m__law_whole) k__law_whole b__law_whole (qa_cons (qv 3) qa_nil)))) (qw_or1 (qt_ne (fun _ => hr.toRoom) (qv 3) (q_sub (q_call (fun _ => G__law_long_block) (fun _ => hr.mono (by decide)) (fun _ => m__law_long_block) k__law_long_block b__law_long_block (qa_cons (qv 0) (qa_cons (qv 2) qa_nil))) (q_call (fun _ => G__law_filled) (fun _ => hr.mono (by decide)) (fun _ => m__law_filled) k__law_filled b__law_filled (qa_cons (q_call (fun _ => G__law_rooms) (fun _ => hr.mono (by decide)) (fun _ => m__law_rooms) k__law_rooms b__law_rooms (qa_cons q_int (qa_cons (qv 1) (qa_cons q_int qa_nil)))) (qa_cons (qv 2) qa_nil)))))))) (qss_one (qs_ret q_bl)) qss_nil)
    (qss_cons (qs_if (qt_ne (fun _ => hr.toRoom) (q_callK0 (m := 3) (fun _ => G_excess) (fun _ => hr.mono (by decide)) (fun _ => m_excess) k_excess kb_excess_0_count_standings_size rel_excess_0_count_standings_size rfl (qk_cons (qv 2) (qk_cons (qv 1) (qk_cons (qv 0) qk_nil)))) (qv 3)) (qss_one (qs_ret q_bl)) qss_nil)
    (qss_cons (qs_if (qt_ne (fun _ => hr.toRoom) (q_callK0 (m := 3) (fun _ => G_told_excess) (fun _ => hr.mono (by decide)) (fun _ => m_told_excess) k_told_excess kb_told_excess_0_standings_size_count rel_told_excess_0_standings_size_count rfl (qk_cons (qv 1) (qk_cons (qv 0) (qk_cons (qv 2) qk_nil)))) (qv 4)) (qss_one (qs_ret q_bl)) qss_nil)
    (qss_one (qs_ret (q_and (q_call (fun _ => G__law_whole) (fun _ => hr.mono (by decide)) (fun _ => m__law_whole) k__law_whole b__law_whole (qa_cons (qv 4) qa_nil)) (q_and (q_eq (fun _ => hr.toRoom) (qv 4) (q_call (fun _ => G__law_bound) (fun _ => hr.mono (by decide)) (fun _ => m__law_bound) k__law_bound b__law_bound (qa_cons (qv 0) (qa_cons (qv 1) (qa_cons (qv 2) qa_nil))))) (q_one (q_le (qv 3) (qv 4))))))))))))
theorem ok__law_big {fa : Addr} {fd : FuncData} (Fn : FnP K "_law_big" s__law_big fa fd) (m_int : mg "int" = none) {S : DSp} (len : ∀ ds Q, S ds Q → ds.length = (["parts", "many"] : List Str).length) (rd : ∀ ds Q, S ds Q → t__law_big { nx := fun _ => false = false ∧ Q .non, rt := Q } (startD 4 ds)) :
  FnG P w K mg base CX0 1 fa fd ["parts", "many"] (spD K false S) := by
  refine FunD.okD Fn sc__law_big len _ (fun cdv A outer s H E hr => ?_) rd
  exact (qss_cons (qs_set 2 (fun _ => sc__law_big.nd) q_int)
    (qss_cons (qs_for (fun _ => PassesOwn.never) (fun _ => rfl) (qi_seq (q_slice (qv 0) qp_none (qp_some (qv 1)))) (qg_name 3 (fun _ => sc__law_big.nd)) (qss_one (qs_set 2 (fun _ => sc__law_big.nd) (q_add (q_mul (qv 2) q_int) (qv 3)))))
    (qss_one (qs_ret (q_mod (q_intc (fun _ => m_int) (QE.qp (qv 2))) (q_add (q_pow q_int q_int) q_int))))))
theorem ok__law_pieces {fa : Addr} {fd : FuncData} (Fn : FnP K "_law_pieces" s__law_pieces fa fd) {S__law_big : DSp} {a__law_big : Addr} {fd__law_big : FuncData} (G__law_big : FnG P w K mg base CX0 1 a__law_big fd__law_big ["parts", "many"] (spD K false S__law_big)) (m__law_big : mg "_law_big" = some (.ref a__law_big)) (k__law_big : PySem.W.keepIn K (.ref a__law_big) = true) (b__law_big : Binds K fd__law_big ["parts", "many"] []) (m_int : mg "int" = none) (m_range : mg "range" = none) (m_max : mg "max" = none) {S : DSp} (len : ∀ ds Q, S ds Q → ds.length = (["row"] : List Str).length) (rd : ∀ ds Q, S ds Q → t__law_pieces S__law_big { nx := fun _ => false = false ∧ Q .non, rt := Q } (startD 3 ds)) :
  FnG P w K mg base CX0 2 fa fd ["row"] (spD K false S) := by
  refine FunD.okD Fn sc__law_pieces len _ (fun cdv A outer s H E hr => ?_) rd
  exact (qss_cons (qs_if (qt_lt (q_ix (qv 0) q_int) q_int) (qss_one (qs_ret (q_mod (q_intc (fun _ => m_int) (QE.qp (q_ix (qv 0) q_int))) q_int))) qss_nil)
    (qss_cons (qs_if (qt_lt (q_ix (qv 0) q_int) q_int) (qss_cons (qs_set 1 (fun _ => sc__law_pieces.nd) q_int)
    (qss_cons (qs_for (fun _ => PassesOwn.never) (fun _ => rfl) (qi_range1 (fun _ => m_range) (q_ix (qv 0) q_int)) (qg_name 2 (fun _ => sc__law_pieces.nd)) (qss_one (qs_set 1 (fun _ => sc__law_pieces.nd) (q_mul (qv 1) q_int))))
    (qss_one (qs_ret (q_max2 (fun _ => rfl) (fun _ => m_max) q_int (q_sub (q_add (qv 1) (q_ix (qv 0) q_int)) q_int)))))) qss_nil)
    (qss_one (qs_ret (q_call (fun _ => G__law_big) (fun _ => hr.mono (by decide)) (fun _ => m__law_big) k__law_big b__law_big (qa_cons (q_slice (qv 0) (qp_some q_int) (qp_some q_int)) (qa_cons (q_add q_int (q_ix (qv 0) q_int)) qa_nil)))))))
theorem ok__law_growth_holds {fa : Addr} {fd : FuncData} (Fn : FnP K "_law_growth_holds" s__law_growth_holds fa fd) {S__law_pieces : DSp} {a__law_pieces : Addr} {fd__law_pieces : FuncData} (G__law_pieces : FnG P w K mg base CX0 2 a__law_pieces fd__law_pieces ["row"] (spD K false S__law_pieces)) (m__law_pieces : mg "_law_pieces" = some (.ref a__law_pieces)) (k__law_pieces : PySem.W.keepIn K (.ref a__law_pieces) = true) (b__law_pieces : Binds K fd__law_pieces ["row"] []) {S__law_big : DSp} {a__law_big : Addr} {fd__law_big : FuncData} (G__law_big : FnG P w K mg base CX0 1 a__law_big fd__law_big ["parts", "many"] (spD K false S__law_big)) (m__law_big : mg "_law_big" = some (.ref a__law_big)) (k__law_big : PySem.W.keepIn K (.ref a__law_big) = true) (b__law_big : Binds K fd__law_big ["parts", "many"] []) {S_told_excess : DSp} {a_told_excess : Addr} {fd_told_excess : FuncData} (G_told_excess : FnG P w K mg base CX0 2 a_told_excess fd_told_excess ["size", "standings", "count"] (spD K false S_told_excess)) (m_told_excess : mg "told_excess" = some (.ref a_told_excess)) (k_told_excess : PySem.W.keepIn K (.ref a_told_excess) = true) (b_told_excess : Binds K fd_told_excess ["size", "standings", "count"] []) {S_excess : DSp} {a_excess : Addr} {fd_excess : FuncData} (G_excess : FnG P w K mg base CX0 3 a_excess fd_excess ["size", "standings", "count"] (spD K false S_excess)) (m_excess : mg "excess" = some (.ref a_excess)) (k_excess : PySem.W.keepIn K (.ref a_excess) = true) (b_excess : Binds K fd_excess ["size", "standings", "count"] []) {S__law_excess_holds : DSp} {a__law_excess_holds : Addr} {fd__law_excess_holds : FuncData} (G__law_excess_holds : FnG P w K mg base CX0 4 a__law_excess_holds fd__law_excess_holds ["letters", "states", "many"] (spD K false S__law_excess_holds)) (m__law_excess_holds : mg "_law_excess_holds" = some (.ref a__law_excess_holds)) (k__law_excess_holds : PySem.W.keepIn K (.ref a__law_excess_holds) = true) (b__law_excess_holds : Binds K fd__law_excess_holds ["letters", "states", "many"] []) (m_min : mg "min" = none) (m_repr : mg "repr" = none) {S : DSp} (len : ∀ ds Q, S ds Q → ds.length = (["letters", "states", "row"] : List Str).length) (rd : ∀ ds Q, S ds Q → t__law_growth_holds S__law_pieces S__law_big S_told_excess S_excess S__law_excess_holds { nx := fun _ => false = false ∧ Q .non, rt := Q } (startD 6 ds)) :
  FnG P w K mg base CX0 5 fa fd ["letters", "states", "row"] (spD K false S) := by
  refine FunD.okD Fn sc__law_growth_holds len _ (fun cdv A outer s H E hr => ?_) rd
  exact (qss_cons (qs_set 3 (fun _ => sc__law_growth_holds.nd) (q_call (fun _ => G__law_pieces) (fun _ => hr.mono (by decide)) (fun _ => m__law_pieces) k__law_pieces b__law_pieces (qa_cons (q_slice (qv 2) (qp_some q_int) (qp_some q_int)) qa_nil)))
    (qss_cons (qs_set 4 (fun _ => sc__law_growth_holds.nd) (q_add (qv 3) q_int))
    (qss_cons (qs_if (qt_eq (fun _ => hr.toRoom) (q_ix (qv 2) q_int) q_int) (qss_one (qs_set 4 (fun _ => sc__law_growth_holds.nd) (q_min2 (fun _ => rfl) (fun _ => m_min) (q_pow q_int q_int) (q_add (q_add (qv 3) q_int) (q_call (fun _ => G__law_big) (fun _ => hr.mono (by decide)) (fun _ => m__law_big) k__law_big b__law_big (qa_cons (q_slice (qv 2) (qp_some q_int) (qp_some q_int)) (qa_cons (q_add q_int (q_ix (qv 2) q_int)) qa_nil))))))) qss_nil)
    (qss_cons (qs_set 5 (fun _ => sc__law_growth_holds.nd) (q_repr (fun _ => hr) (fun _ => m_repr) (QE.qp (QO.qe (qo_lst (qa_cons (q_call (fun _ => G_excess) (fun _ => hr.mono (by decide)) (fun _ => m_excess) k_excess b_excess (qa_cons (qv 0) (qa_cons (qv 1) (qa_cons (qv 3) qa_nil)))) (qa_cons (q_call (fun _ => G_told_excess) (fun _ => hr.mono (by decide)) (fun _ => m_told_excess) k_told_excess b_told_excess (qa_cons (qv 0) (qa_cons (qv 1) (qa_cons (qv 3) qa_nil)))) qa_nil)))))))
    (qss_cons (qs_if (qt_not (qt_val (q_call (fun _ => G__law_excess_holds) (fun _ => hr.mono (by decide)) (fun _ => m__law_excess_holds) k__law_excess_holds b__law_excess_holds (qa_cons (qv 0) (qa_cons (qv 1) (qa_cons (qv 3) qa_nil)))))) (qss_one (qs_ret q_bl)) qss_nil)
    (qss_cons (qs_if (qt_chain (fun _ => op_lt) (fun _ => op_le) cmpc_ord cmpc_ord (qv 3) (qv 4) (q_pow q_int q_int)) (qss_cons (qs_if (qt_not (qt_val (q_call (fun _ => G__law_excess_holds) (fun _ => hr.mono (by decide)) (fun _ => m__law_excess_holds) k__law_excess_holds b__law_excess_holds (qa_cons (qv 0) (qa_cons (qv 1) (qa_cons (qv 4) qa_nil)))))) (qss_one (qs_ret q_bl)) qss_nil)
    (qss_one (qs_if (QW.qt (qw_and (qt_gt (qv 0) q_int) (qw_and1 (qt_le (q_call (fun _ => G_excess) (fun _ => hr.mono (by decide)) (fun _ => m_excess) k_excess b_excess (qa_cons (qv 0) (qa_cons (qv 1) (qa_cons (qv 4) qa_nil)))) (q_call (fun _ => G_excess) (fun _ => hr.mono (by decide)) (fun _ => m_excess) k_excess b_excess (qa_cons (qv 0) (qa_cons (qv 1) (qa_cons (qv 3) qa_nil)))))))) (qss_one (qs_ret q_bl)) qss_nil))) qss_nil)
    (qss_one (qs_ret (q_eq (fun _ => hr.toRoom) (q_repr (fun _ => hr) (fun _ => m_repr) (QE.qp (QO.qe (qo_lst (qa_cons (q_call (fun _ => G_excess) (fun _ => hr.mono (by decide)) (fun _ => m_excess) k_excess b_excess (qa_cons (qv 0) (qa_cons (qv 1) (qa_cons (qv 3) qa_nil)))) (qa_cons (q_call (fun _ => G_told_excess) (fun _ => hr.mono (by decide)) (fun _ => m_told_excess) k_told_excess b_told_excess (qa_cons (qv 0) (qa_cons (qv 1) (qa_cons (qv 3) qa_nil)))) qa_nil)))))) (qv 5))))))))))
theorem ok_law {fa : Addr} {fd : FuncData} (Fn : FnP K "law" s_law fa fd) {S__law_digits : DSp} {a__law_digits : Addr} {fd__law_digits : FuncData} (G__law_digits : FnG P w K mg base CX0 1 a__law_digits fd__law_digits ["cell", "tops"] (spD K false S__law_digits)) (m__law_digits : mg "_law_digits" = some (.ref a__law_digits)) (k__law_digits : PySem.W.keepIn K (.ref a__law_digits) = true) (b__law_digits : Binds K fd__law_digits ["cell", "tops"] []) {S__law_cell : DSp} {a__law_cell : Addr} {fd__law_cell : FuncData} (G__law_cell : FnG P w K mg base CX0 1 a__law_cell fd__law_cell ["script", "k"] (spD K false S__law_cell)) (m__law_cell : mg "_law_cell" = some (.ref a__law_cell)) (k__law_cell : PySem.W.keepIn K (.ref a__law_cell) = true) (b__law_cell : Binds K fd__law_cell ["script", "k"] []) {S__law_totals_hold : DSp} {a__law_totals_hold : Addr} {fd__law_totals_hold : FuncData} (G__law_totals_hold : FnG P w K mg base CX0 6 a__law_totals_hold fd__law_totals_hold ["which", "often", "row", "small", "large"] (spD K false S__law_totals_hold)) (m__law_totals_hold : mg "_law_totals_hold" = some (.ref a__law_totals_hold)) (k__law_totals_hold : PySem.W.keepIn K (.ref a__law_totals_hold) = true) (b__law_totals_hold : Binds K fd__law_totals_hold ["which", "often", "row", "small", "large"] []) {S__law_growth_holds : DSp} {a__law_growth_holds : Addr} {fd__law_growth_holds : FuncData} (G__law_growth_holds : FnG P w K mg base CX0 5 a__law_growth_holds fd__law_growth_holds ["letters", "states", "row"] (spD K false S__law_growth_holds)) (m__law_growth_holds : mg "_law_growth_holds" = some (.ref a__law_growth_holds)) (k__law_growth_holds : PySem.W.keepIn K (.ref a__law_growth_holds) = true) (b__law_growth_holds : Binds K fd__law_growth_holds ["letters", "states", "row"] []) (m_int : mg "int" = none) {S : DSp} (len : ∀ ds Q, S ds Q → ds.length = (["script"] : List Str).length) (rd : ∀ ds Q, S ds Q → t_law S__law_digits S__law_cell S__law_totals_hold S__law_growth_holds { nx := fun _ => false = false ∧ Q .non, rt := Q } (startD 7 ds)) :
  FnG P w K mg base CX0 7 fa fd ["script"] (spD K false S) := by
  refine FunD.okD Fn sc_law len _ (fun cdv A outer s H E hr => ?_) rd
  exact (qss_cons (qs_set 1 (fun _ => sc_law.nd) (q_add (QO.qe (qo_lst (qa_cons q_int (qa_cons q_int (qa_cons q_int (qa_cons q_int qa_nil)))))) (q_mul (QO.qe (qo_lst (qa_cons q_int qa_nil))) q_int)))
    (qss_cons (qs_set 2 (fun _ => sc_law.nd) (q_add (q_add (q_add (q_add (QO.qe (qo_lst (qa_cons q_int qa_nil))) (QO.qe (qo_lst (qa_cons q_int (qa_cons q_int (qa_cons q_int qa_nil)))))) (q_mul (QO.qe (qo_lst (qa_cons q_int (qa_cons q_int (qa_cons q_int (qa_cons q_int qa_nil)))))) q_int)) (q_mul (QO.qe (qo_lst (qa_cons q_int qa_nil))) q_int)) (q_mul (QO.qe (qo_lst (qa_cons q_int qa_nil))) q_int)))
    (qss_cons (qs_set 3 (fun _ => sc_law.nd) (q_call (fun _ => G__law_digits) (fun _ => hr.mono (by decide)) (fun _ => m__law_digits) k__law_digits b__law_digits (qa_cons (q_call (fun _ => G__law_cell) (fun _ => hr.mono (by decide)) (fun _ => m__law_cell) k__law_cell b__law_cell (qa_cons (qv 0) (qa_cons q_int qa_nil))) (qa_cons (q_add (QO.qe (qo_lst (qa_cons q_int (qa_cons q_int qa_nil)))) (qv 1)) qa_nil))))
    (qss_cons (qs_set 4 (fun _ => sc_law.nd) (q_add q_int (q_ix (qv 3) q_int)))
    (qss_cons (qs_if (qt_lt (q_ix (qv 3) q_int) q_int) (qss_one (qs_set 4 (fun _ => sc_law.nd) (q_add q_int (q_mod (q_intc (fun _ => m_int) (QE.qp (q_ix (qv 3) q_int))) q_int)))) qss_nil)
    (qss_cons (qs_set 5 (fun _ => sc_law.nd) (q_call (fun _ => G__law_digits) (fun _ => hr.mono (by decide)) (fun _ => m__law_digits) k__law_digits b__law_digits (qa_cons (q_call (fun _ => G__law_cell) (fun _ => hr.mono (by decide)) (fun _ => m__law_cell) k__law_cell b__law_cell (qa_cons (qv 0) (qa_cons q_int qa_nil))) (qa_cons (qv 2) qa_nil))))
    (qss_cons (qs_if (qt_not (qt_val (q_call (fun _ => G__law_totals_hold) (fun _ => hr.mono (by decide)) (fun _ => m__law_totals_hold) k__law_totals_hold b__law_totals_hold (qa_cons q_int (qa_cons (qv 4) (qa_cons (q_slice (qv 3) (qp_some q_int) qp_none) (qa_cons (qv 5) (qa_cons (q_call (fun _ => G__law_digits) (fun _ => hr.mono (by decide)) (fun _ => m__law_digits) k__law_digits b__law_digits (qa_cons (q_call (fun _ => G__law_cell) (fun _ => hr.mono (by decide)) (fun _ => m__law_cell) k__law_cell b__law_cell (qa_cons (qv 0) (qa_cons q_int qa_nil))) (qa_cons (qv 2) qa_nil))) qa_nil)))))))) (qss_one (qs_ret q_bl)) qss_nil)
    (qss_cons (qs_set 3 (fun _ => sc_law.nd) (q_call (fun _ => G__law_digits) (fun _ => hr.mono (by decide)) (fun _ => m__law_digits) k__law_digits b__law_digits (qa_cons (q_call (fun _ => G__law_cell) (fun _ => hr.mono (by decide)) (fun _ => m__law_cell) k__law_cell b__law_cell (qa_cons (qv 0) (qa_cons q_int qa_nil))) (qa_cons (q_add (QO.qe (qo_lst (qa_cons q_int (qa_cons q_int qa_nil)))) (qv 1)) qa_nil))))
    (qss_cons (qs_set 6 (fun _ => sc_law.nd) (q_add q_int (q_ix (qv 3) q_int)))
    (qss_cons (qs_if (qt_lt (q_ix (qv 3) q_int) q_int) (qss_one (qs_set 6 (fun _ => sc_law.nd) (q_add q_int (q_mod (q_intc (fun _ => m_int) (QE.qp (q_ix (qv 3) q_int))) (q_ix (QO.qe (qo_lst (qa_cons q_int (qa_cons q_int (qa_cons q_int (qa_cons q_int qa_nil)))))) (q_ix (qv 3) q_int)))))) qss_nil)
    (qss_cons (qs_set 5 (fun _ => sc_law.nd) (q_call (fun _ => G__law_digits) (fun _ => hr.mono (by decide)) (fun _ => m__law_digits) k__law_digits b__law_digits (qa_cons (q_call (fun _ => G__law_cell) (fun _ => hr.mono (by decide)) (fun _ => m__law_cell) k__law_cell b__law_cell (qa_cons (qv 0) (qa_cons q_int qa_nil))) (qa_cons (qv 2) qa_nil))))
    (qss_cons (qs_if (qt_not (qt_val (q_call (fun _ => G__law_totals_hold) (fun _ => hr.mono (by decide)) (fun _ => m__law_totals_hold) k__law_totals_hold b__law_totals_hold (qa_cons q_int (qa_cons (qv 6) (qa_cons (q_slice (qv 3) (qp_some q_int) qp_none) (qa_cons (qv 5) (qa_cons (q_call (fun _ => G__law_digits) (fun _ => hr.mono (by decide)) (fun _ => m__law_digits) k__law_digits b__law_digits (qa_cons (q_call (fun _ => G__law_cell) (fun _ => hr.mono (by decide)) (fun _ => m__law_cell) k__law_cell b__law_cell (qa_cons (qv 0) (qa_cons q_int qa_nil))) (qa_cons (qv 2) qa_nil))) qa_nil)))))))) (qss_one (qs_ret q_bl)) qss_nil)
    (qss_cons (qs_set 3 (fun _ => sc_law.nd) (q_call (fun _ => G__law_digits) (fun _ => hr.mono (by decide)) (fun _ => m__law_digits) k__law_digits b__law_digits (qa_cons (q_call (fun _ => G__law_cell) (fun _ => hr.mono (by decide)) (fun _ => m__law_cell) k__law_cell b__law_cell (qa_cons (qv 0) (qa_cons q_int qa_nil))) (qa_cons (q_add (QO.qe (qo_lst (qa_cons q_int (qa_cons q_int (qa_cons q_int (qa_cons q_int (qa_cons q_int (qa_cons q_int qa_nil)))))))) (q_mul (QO.qe (qo_lst (qa_cons q_int qa_nil))) q_int)) qa_nil))))
    (qss_one (qs_ret (q_call (fun _ => G__law_growth_holds) (fun _ => hr.mono (by decide)) (fun _ => m__law_growth_holds) k__law_growth_holds b__law_growth_holds (qa_cons (q_add q_int (q_ix (qv 3) q_int)) (qa_cons (qv 6) (qa_cons (q_slice (qv 3) (qp_some q_int) qp_none) qa_nil)))))))))))))))))))
end
end K21

set_option Elab.async false
set_option linter.all false
set_option maxRecDepth 100000
set_option maxHeartbeats 0
namespace K21
open PySem PySem.Spec PyProof.Rows L2 DL
def d_level_total : He.DefD := ⟨("level_total", none), "level_total", "level_total", defArgs s_level_total, defBody s_level_total, defScope s_level_total, [], []⟩
def d_shared_total : He.DefD := ⟨("shared_total", none), "shared_total", "shared_total", defArgs s_shared_total, defBody s_shared_total, defScope s_shared_total, [], []⟩
def d_floor_bits : He.DefD := ⟨("floor_bits", none), "floor_bits", "floor_bits", defArgs s_floor_bits, defBody s_floor_bits, defScope s_floor_bits, [], []⟩
def d_width : He.DefD := ⟨("width", none), "width", "width", defArgs s_width, defBody s_width, defScope s_width, [], []⟩
def d_pressed_length : He.DefD := ⟨("pressed_length", none), "pressed_length", "pressed_length", defArgs s_pressed_length, defBody s_pressed_length, defScope s_pressed_length, [], []⟩
def d_excess : He.DefD := ⟨("excess", none), "excess", "excess", defArgs s_excess, defBody s_excess, defScope s_excess, [], []⟩
def d_told_excess : He.DefD := ⟨("told_excess", none), "told_excess", "told_excess", defArgs s_told_excess, defBody s_told_excess, defScope s_told_excess, [], []⟩
def d__law_whole : He.DefD := ⟨("_law_whole", none), "_law_whole", "_law_whole", defArgs s__law_whole, defBody s__law_whole, defScope s__law_whole, [], []⟩
def d__law_cell : He.DefD := ⟨("_law_cell", none), "_law_cell", "_law_cell", defArgs s__law_cell, defBody s__law_cell, defScope s__law_cell, [], []⟩
def d__law_width : He.DefD := ⟨("_law_width", none), "_law_width", "_law_width", defArgs s__law_width, defBody s__law_width, defScope s__law_width, [], []⟩
def d__law_log : He.DefD := ⟨("_law_log", none), "_law_log", "_law_log", defArgs s__law_log, defBody s__law_log, defScope s__law_log, [], []⟩
def d__law_digits : He.DefD := ⟨("_law_digits", none), "_law_digits", "_law_digits", defArgs s__law_digits, defBody s__law_digits, defScope s__law_digits, [], []⟩
def d__law_bit_words : He.DefD := ⟨("_law_bit_words", none), "_law_bit_words", "_law_bit_words", defArgs s__law_bit_words, defBody s__law_bit_words, defScope s__law_bit_words, [], []⟩
def d__law_rooms : He.DefD := ⟨("_law_rooms", none), "_law_rooms", "_law_rooms", defArgs s__law_rooms, defBody s__law_rooms, defScope s__law_rooms, [], []⟩
def d__law_filled : He.DefD := ⟨("_law_filled", none), "_law_filled", "_law_filled", defArgs s__law_filled, defBody s__law_filled, defScope s__law_filled, [], []⟩
def d__law_uses : He.DefD := ⟨("_law_uses", none), "_law_uses", "_law_uses", defArgs s__law_uses, defBody s__law_uses, defScope s__law_uses, [], []⟩
def d__law_tight : He.DefD := ⟨("_law_tight", none), "_law_tight", "_law_tight", defArgs s__law_tight, defBody s__law_tight, defScope s__law_tight, [], []⟩
def d__law_told : He.DefD := ⟨("_law_told", none), "_law_told", "_law_told", defArgs s__law_told, defBody s__law_told, defScope s__law_told, [], []⟩
def d__law_is_due : He.DefD := ⟨("_law_is_due", none), "_law_is_due", "_law_is_due", defArgs s__law_is_due, defBody s__law_is_due, defScope s__law_is_due, [], []⟩
def d__law_choice_holds : He.DefD := ⟨("_law_choice_holds", none), "_law_choice_holds", "_law_choice_holds", defArgs s__law_choice_holds, defBody s__law_choice_holds, defScope s__law_choice_holds, [], []⟩
def d__law_small_choice : He.DefD := ⟨("_law_small_choice", none), "_law_small_choice", "_law_small_choice", defArgs s__law_small_choice, defBody s__law_small_choice, defScope s__law_small_choice, [], []⟩
def d__law_asked : He.DefD := ⟨("_law_asked", none), "_law_asked", "_law_asked", defArgs s__law_asked, defBody s__law_asked, defScope s__law_asked, [], []⟩
def d__law_totals_hold : He.DefD := ⟨("_law_totals_hold", none), "_law_totals_hold", "_law_totals_hold", defArgs s__law_totals_hold, defBody s__law_totals_hold, defScope s__law_totals_hold, [], []⟩
def d__law_bound : He.DefD := ⟨("_law_bound", none), "_law_bound", "_law_bound", defArgs s__law_bound, defBody s__law_bound, defScope s__law_bound, [], []⟩
def d__law_long_block : He.DefD := ⟨("_law_long_block", none), "_law_long_block", "_law_long_block", defArgs s__law_long_block, defBody s__law_long_block, defScope s__law_long_block, [], []⟩
def d__law_excess_holds : He.DefD := ⟨("_law_excess_holds", none), "_law_excess_holds", "_law_excess_holds", defArgs s__law_excess_holds, defBody s__law_excess_holds, defScope s__law_excess_holds, [], []⟩
def d__law_big : He.DefD := ⟨("_law_big", none), "_law_big", "_law_big", defArgs s__law_big, defBody s__law_big, defScope s__law_big, [], []⟩
def d__law_pieces : He.DefD := ⟨("_law_pieces", none), "_law_pieces", "_law_pieces", defArgs s__law_pieces, defBody s__law_pieces, defScope s__law_pieces, [], []⟩
def d__law_growth_holds : He.DefD := ⟨("_law_growth_holds", none), "_law_growth_holds", "_law_growth_holds", defArgs s__law_growth_holds, defBody s__law_growth_holds, defScope s__law_growth_holds, [], []⟩
def d_law : He.DefD := ⟨("law", none), "law", "law", defArgs s_law, defBody s_law, defScope s_law, [], []⟩
def fn : List He.DefD := [d_level_total, d_shared_total, d_floor_bits, d_width, d_pressed_length, d_excess, d_told_excess, d__law_whole, d__law_cell, d__law_width, d__law_log, d__law_digits, d__law_bit_words, d__law_rooms, d__law_filled, d__law_uses, d__law_tight, d__law_told, d__law_is_due, d__law_choice_holds, d__law_small_choice, d__law_asked, d__law_totals_hold, d__law_bound, d__law_long_block, d__law_excess_holds, d__law_big, d__law_pieces, d__law_growth_holds, d_law]
def fa : List He.Fa := [.glo "level_total", .glo "shared_total", .glo "floor_bits", .glo "width", .glo "pressed_length", .glo "excess", .glo "told_excess", .glo "_law_whole", .glo "_law_cell", .glo "_law_width", .glo "_law_log", .glo "_law_digits", .glo "_law_bit_words", .glo "_law_rooms", .glo "_law_filled", .glo "_law_uses", .glo "_law_tight", .glo "_law_told", .glo "_law_is_due", .glo "_law_choice_holds", .glo "_law_small_choice", .glo "_law_asked", .glo "_law_totals_hold", .glo "_law_bound", .glo "_law_long_block", .glo "_law_excess_holds", .glo "_law_big", .glo "_law_pieces", .glo "_law_growth_holds", .glo "law", .free "min", .free "max", .free "isinstance", .free "int", .free "bool", .free "len", .free "range", .free "sum", .free "list", .free "repr"]
abbrev R : PySem.W.OpenRow := PySem.W.OpenLaw.row PySem.Challenge.rw_outpressed_k21_floors_and_excesses
abbrev hk : PySem.W.Hook := He.hookD 4 fa fn
def ob (s : PySem.W.SharedT) : He.AlD := He.obsDG 4 fa fn (HandSHeadRun.getT s)
theorem ob_eq (s : PySem.W.SharedT) : ob s = hk.obs s.abs := He.obsDG_eq (HandSHeadRun.getT_eq s)
def loose : List PySem.Str := (["level_total", "shared_total", "floor_bits", "width", "pressed_length", "excess", "told_excess", "_law_whole", "_law_cell", "_law_width", "_law_log", "_law_digits", "_law_bit_words", "_law_rooms", "_law_filled", "_law_uses", "_law_tight", "_law_told", "_law_is_due", "_law_choice_holds", "_law_small_choice", "_law_asked", "_law_totals_hold", "_law_bound", "_law_long_block", "_law_excess_holds", "_law_big", "_law_pieces", "_law_growth_holds"] : List PySem.Str)
theorem run (w : World) : HandSHeadRun.RunEq R (PySem.W.view R.prog [34]) hk ob 4000 loose w := by
  intro os
  kernel_rfl
theorem facts {P : Program} {w : World} {K : PySem.W.Frag} {h : Heap} {mg : Str → Option Value} {f : Addr} (X : K.In h) (G : h.Ns mainGlobals mg) (hfa : mg ("law" : Str) = some (.ref f)) (c : He.SaysD fa fn K) :
    ∃ fd : FuncData, (∀ (s : Shared) (v : Value), BindsTo s fd ⟨[v], []⟩ [("script", v)]) ∧ ∀ base : Heap, K.In base → base.Ns mainGlobals mg → FnG P w K mg base CX0 7 f fd ["script"] (spD K false S_law) := by
  obtain ⟨fd_level_total, F_level_total⟩ := c.def_ 0 (d := d_level_total) rfl
  obtain ⟨fd_shared_total, F_shared_total⟩ := c.def_ 1 (d := d_shared_total) rfl
  obtain ⟨fd_floor_bits, F_floor_bits⟩ := c.def_ 2 (d := d_floor_bits) rfl
  obtain ⟨fd_width, F_width⟩ := c.def_ 3 (d := d_width) rfl
  obtain ⟨fd_pressed_length, F_pressed_length⟩ := c.def_ 4 (d := d_pressed_length) rfl
  obtain ⟨fd_excess, F_excess⟩ := c.def_ 5 (d := d_excess) rfl
  obtain ⟨fd_told_excess, F_told_excess⟩ := c.def_ 6 (d := d_told_excess) rfl
  obtain ⟨fd__law_whole, F__law_whole⟩ := c.def_ 7 (d := d__law_whole) rfl
  obtain ⟨fd__law_cell, F__law_cell⟩ := c.def_ 8 (d := d__law_cell) rfl
  obtain ⟨fd__law_width, F__law_width⟩ := c.def_ 9 (d := d__law_width) rfl
  obtain ⟨fd__law_log, F__law_log⟩ := c.def_ 10 (d := d__law_log) rfl
  obtain ⟨fd__law_digits, F__law_digits⟩ := c.def_ 11 (d := d__law_digits) rfl
  obtain ⟨fd__law_bit_words, F__law_bit_words⟩ := c.def_ 12 (d := d__law_bit_words) rfl
  obtain ⟨fd__law_rooms, F__law_rooms⟩ := c.def_ 13 (d := d__law_rooms) rfl
  obtain ⟨fd__law_filled, F__law_filled⟩ := c.def_ 14 (d := d__law_filled) rfl
  obtain ⟨fd__law_uses, F__law_uses⟩ := c.def_ 15 (d := d__law_uses) rfl
  obtain ⟨fd__law_tight, F__law_tight⟩ := c.def_ 16 (d := d__law_tight) rfl
  obtain ⟨fd__law_told, F__law_told⟩ := c.def_ 17 (d := d__law_told) rfl
  obtain ⟨fd__law_is_due, F__law_is_due⟩ := c.def_ 18 (d := d__law_is_due) rfl
  obtain ⟨fd__law_choice_holds, F__law_choice_holds⟩ := c.def_ 19 (d := d__law_choice_holds) rfl
  obtain ⟨fd__law_small_choice, F__law_small_choice⟩ := c.def_ 20 (d := d__law_small_choice) rfl
  obtain ⟨fd__law_asked, F__law_asked⟩ := c.def_ 21 (d := d__law_asked) rfl
  obtain ⟨fd__law_totals_hold, F__law_totals_hold⟩ := c.def_ 22 (d := d__law_totals_hold) rfl
  obtain ⟨fd__law_bound, F__law_bound⟩ := c.def_ 23 (d := d__law_bound) rfl
  obtain ⟨fd__law_long_block, F__law_long_block⟩ := c.def_ 24 (d := d__law_long_block) rfl
  obtain ⟨fd__law_excess_holds, F__law_excess_holds⟩ := c.def_ 25 (d := d__law_excess_holds) rfl
  obtain ⟨fd__law_big, F__law_big⟩ := c.def_ 26 (d := d__law_big) rfl
  obtain ⟨fd__law_pieces, F__law_pieces⟩ := c.def_ 27 (d := d__law_pieces) rfl
  obtain ⟨fd__law_growth_holds, F__law_growth_holds⟩ := c.def_ 28 (d := d__law_growth_holds) rfl
  obtain ⟨fd_law, F_law⟩ := c.def_ 29 (d := d_law) rfl
  have m_level_total : mg "level_total" = some (.ref (He.ga K "level_total")) := He.glo_ok X G (c.fact 0 (f := .glo "level_total") rfl)
  have m_shared_total : mg "shared_total" = some (.ref (He.ga K "shared_total")) := He.glo_ok X G (c.fact 1 (f := .glo "shared_total") rfl)
  have m_floor_bits : mg "floor_bits" = some (.ref (He.ga K "floor_bits")) := He.glo_ok X G (c.fact 2 (f := .glo "floor_bits") rfl)
  have m_width : mg "width" = some (.ref (He.ga K "width")) := He.glo_ok X G (c.fact 3 (f := .glo "width") rfl)
  have m_pressed_length : mg "pressed_length" = some (.ref (He.ga K "pressed_length")) := He.glo_ok X G (c.fact 4 (f := .glo "pressed_length") rfl)
  have m_excess : mg "excess" = some (.ref (He.ga K "excess")) := He.glo_ok X G (c.fact 5 (f := .glo "excess") rfl)
  have m_told_excess : mg "told_excess" = some (.ref (He.ga K "told_excess")) := He.glo_ok X G (c.fact 6 (f := .glo "told_excess") rfl)
  have m__law_whole : mg "_law_whole" = some (.ref (He.ga K "_law_whole")) := He.glo_ok X G (c.fact 7 (f := .glo "_law_whole") rfl)
  have m__law_cell : mg "_law_cell" = some (.ref (He.ga K "_law_cell")) := He.glo_ok X G (c.fact 8 (f := .glo "_law_cell") rfl)
  have m__law_width : mg "_law_width" = some (.ref (He.ga K "_law_width")) := He.glo_ok X G (c.fact 9 (f := .glo "_law_width") rfl)
  have m__law_log : mg "_law_log" = some (.ref (He.ga K "_law_log")) := He.glo_ok X G (c.fact 10 (f := .glo "_law_log") rfl)
  have m__law_digits : mg "_law_digits" = some (.ref (He.ga K "_law_digits")) := He.glo_ok X G (c.fact 11 (f := .glo "_law_digits") rfl)
  have m__law_bit_words : mg "_law_bit_words" = some (.ref (He.ga K "_law_bit_words")) := He.glo_ok X G (c.fact 12 (f := .glo "_law_bit_words") rfl)
  have m__law_rooms : mg "_law_rooms" = some (.ref (He.ga K "_law_rooms")) := He.glo_ok X G (c.fact 13 (f := .glo "_law_rooms") rfl)
  have m__law_filled : mg "_law_filled" = some (.ref (He.ga K "_law_filled")) := He.glo_ok X G (c.fact 14 (f := .glo "_law_filled") rfl)
  have m__law_uses : mg "_law_uses" = some (.ref (He.ga K "_law_uses")) := He.glo_ok X G (c.fact 15 (f := .glo "_law_uses") rfl)
  have m__law_tight : mg "_law_tight" = some (.ref (He.ga K "_law_tight")) := He.glo_ok X G (c.fact 16 (f := .glo "_law_tight") rfl)
  have m__law_told : mg "_law_told" = some (.ref (He.ga K "_law_told")) := He.glo_ok X G (c.fact 17 (f := .glo "_law_told") rfl)
  have m__law_is_due : mg "_law_is_due" = some (.ref (He.ga K "_law_is_due")) := He.glo_ok X G (c.fact 18 (f := .glo "_law_is_due") rfl)
  have m__law_choice_holds : mg "_law_choice_holds" = some (.ref (He.ga K "_law_choice_holds")) := He.glo_ok X G (c.fact 19 (f := .glo "_law_choice_holds") rfl)
  have m__law_small_choice : mg "_law_small_choice" = some (.ref (He.ga K "_law_small_choice")) := He.glo_ok X G (c.fact 20 (f := .glo "_law_small_choice") rfl)
  have m__law_asked : mg "_law_asked" = some (.ref (He.ga K "_law_asked")) := He.glo_ok X G (c.fact 21 (f := .glo "_law_asked") rfl)
  have m__law_totals_hold : mg "_law_totals_hold" = some (.ref (He.ga K "_law_totals_hold")) := He.glo_ok X G (c.fact 22 (f := .glo "_law_totals_hold") rfl)
  have m__law_bound : mg "_law_bound" = some (.ref (He.ga K "_law_bound")) := He.glo_ok X G (c.fact 23 (f := .glo "_law_bound") rfl)
  have m__law_long_block : mg "_law_long_block" = some (.ref (He.ga K "_law_long_block")) := He.glo_ok X G (c.fact 24 (f := .glo "_law_long_block") rfl)
  have m__law_excess_holds : mg "_law_excess_holds" = some (.ref (He.ga K "_law_excess_holds")) := He.glo_ok X G (c.fact 25 (f := .glo "_law_excess_holds") rfl)
  have m__law_big : mg "_law_big" = some (.ref (He.ga K "_law_big")) := He.glo_ok X G (c.fact 26 (f := .glo "_law_big") rfl)
  have m__law_pieces : mg "_law_pieces" = some (.ref (He.ga K "_law_pieces")) := He.glo_ok X G (c.fact 27 (f := .glo "_law_pieces") rfl)
  have m__law_growth_holds : mg "_law_growth_holds" = some (.ref (He.ga K "_law_growth_holds")) := He.glo_ok X G (c.fact 28 (f := .glo "_law_growth_holds") rfl)
  have m_law : mg "law" = some (.ref (He.ga K "law")) := He.glo_ok X G (c.fact 29 (f := .glo "law") rfl)
  have m_min : mg "min" = none := He.free_ok X G (c.fact 30 (f := .free "min") rfl)
  have m_max : mg "max" = none := He.free_ok X G (c.fact 31 (f := .free "max") rfl)
  have m_isinstance : mg "isinstance" = none := He.free_ok X G (c.fact 32 (f := .free "isinstance") rfl)
  have m_int : mg "int" = none := He.free_ok X G (c.fact 33 (f := .free "int") rfl)
  have m_bool : mg "bool" = none := He.free_ok X G (c.fact 34 (f := .free "bool") rfl)
  have m_len : mg "len" = none := He.free_ok X G (c.fact 35 (f := .free "len") rfl)
  have m_range : mg "range" = none := He.free_ok X G (c.fact 36 (f := .free "range") rfl)
  have m_sum : mg "sum" = none := He.free_ok X G (c.fact 37 (f := .free "sum") rfl)
  have m_list : mg "list" = none := He.free_ok X G (c.fact 38 (f := .free "list") rfl)
  have m_repr : mg "repr" = none := He.free_ok X G (c.fact 39 (f := .free "repr") rfl)
  have e := hfa.symm.trans m_law
  cases e
  have b := FunD.bindsA (ps := ["script"]) F_law fun _ _ _ _ _ _ us hl => match us, hl with | [_], _ => rfl
  refine ⟨fd_law, fun s v => b s [v] rfl, fun base _ _ => ?_⟩
  have b__law_digits : Binds K fd__law_digits ["cell", "tops"] [] := FunD.bindsN F__law_digits fun _ _ _ _ _ _ us hl => match us, hl with | [_, _], _ => rfl
  have G__law_digits := ok__law_digits (P := P) (w := w) (K := K) (mg := mg) (base := base) F__law_digits m_int m_len m_range (S := S__law_digits) len__law_digits rd__law_digits
  have b__law_cell : Binds K fd__law_cell ["script", "k"] [] := FunD.bindsN F__law_cell fun _ _ _ _ _ _ us hl => match us, hl with | [_, _], _ => rfl
  have G__law_cell := ok__law_cell (P := P) (w := w) (K := K) (mg := mg) (base := base) F__law_cell m_len m_int (S := S__law_cell) len__law_cell rd__law_cell
  have b__law_rooms : Binds K fd__law_rooms ["which", "often", "lengths"] [] := FunD.bindsN F__law_rooms fun _ _ _ _ _ _ us hl => match us, hl with | [_, _, _], _ => rfl
  have G__law_rooms := ok__law_rooms (P := P) (w := w) (K := K) (mg := mg) (base := base) F__law_rooms m_range (S := S__law_rooms) len__law_rooms rd__law_rooms
  have b__law_asked : Binds K fd__law_asked ["which", "often", "row"] [] := FunD.bindsN F__law_asked fun _ _ _ _ _ _ us hl => match us, hl with | [_, _, _], _ => rfl
  have G__law_asked := ok__law_asked (P := P) (w := w) (K := K) (mg := mg) (base := base) F__law_asked G__law_rooms m__law_rooms (FunD.kp F__law_rooms) b__law_rooms m_int m_sum m_max m_range (S := S__law_asked) len__law_asked rd__law_asked
  have b_level_total : Binds K fd_level_total ["count", "room", "shortest"] [] := FunD.bindsN F_level_total fun _ _ _ _ _ _ us hl => match us, hl with | [_, _, _], _ => rfl
  have G_level_total := ok_level_total (P := P) (w := w) (K := K) (mg := mg) (base := base) F_level_total m_min (S := S_level_total) len_level_total rd_level_total
  have b_shared_total : Binds K fd_shared_total ["count", "share"] [] := FunD.bindsN F_shared_total fun _ _ _ _ _ _ us hl => match us, hl with | [_, _], _ => rfl
  have G_shared_total := ok_shared_total (P := P) (w := w) (K := K) (mg := mg) (base := base) F_shared_total G_level_total m_level_total (FunD.kp F_level_total) b_level_total (S := S_shared_total) len_shared_total rd_shared_total
  have b_floor_bits : Binds K fd_floor_bits ["standings", "count"] [] := FunD.bindsN F_floor_bits fun _ _ _ _ _ _ us hl => match us, hl with | [_, _], _ => rfl
  have G_floor_bits := ok_floor_bits (P := P) (w := w) (K := K) (mg := mg) (base := base) F_floor_bits G_level_total m_level_total (FunD.kp F_level_total) b_level_total m_max (S := S_floor_bits) len_floor_bits rd_floor_bits
  have b__law_whole : Binds K fd__law_whole ["value"] [] := FunD.bindsN F__law_whole fun _ _ _ _ _ _ us hl => match us, hl with | [_], _ => rfl
  have G__law_whole := ok__law_whole (P := P) (w := w) (K := K) (mg := mg) (base := base) F__law_whole m_isinstance m_int m_bool (S := S__law_whole) len__law_whole rd__law_whole
  have b__law_told : Binds K fd__law_told ["which", "often", "many"] [] := FunD.bindsN F__law_told fun _ _ _ _ _ _ us hl => match us, hl with | [_, _, _], _ => rfl
  have kb_shared_total_0_share_count := kbn_shared_total_0_share_count F_shared_total
  have kb_floor_bits_0_count_standings := kbn_floor_bits_0_count_standings F_floor_bits
  have G__law_told := ok__law_told (P := P) (w := w) (K := K) (mg := mg) (base := base) F__law_told G_shared_total m_shared_total (FunD.kp F_shared_total) b_shared_total G_floor_bits m_floor_bits (FunD.kp F_floor_bits) b_floor_bits G__law_whole m__law_whole (FunD.kp F__law_whole) b__law_whole kb_shared_total_0_share_count kb_floor_bits_0_count_standings (S := S__law_told) len__law_told rd__law_told
  have b__law_filled : Binds K fd__law_filled ["rooms", "many"] [] := FunD.bindsN F__law_filled fun _ _ _ _ _ _ us hl => match us, hl with | [_, _], _ => rfl
  have G__law_filled := ok__law_filled (P := P) (w := w) (K := K) (mg := mg) (base := base) F__law_filled m_len m_range m_min (S := S__law_filled) len__law_filled rd__law_filled
  have b__law_is_due : Binds K fd__law_is_due ["which", "often", "many"] [] := FunD.bindsN F__law_is_due fun _ _ _ _ _ _ us hl => match us, hl with | [_, _, _], _ => rfl
  have G__law_is_due := ok__law_is_due (P := P) (w := w) (K := K) (mg := mg) (base := base) F__law_is_due G__law_told m__law_told (FunD.kp F__law_told) b__law_told G__law_filled m__law_filled (FunD.kp F__law_filled) b__law_filled G__law_rooms m__law_rooms (FunD.kp F__law_rooms) b__law_rooms (S := S__law_is_due) len__law_is_due rd__law_is_due
  have b__law_bit_words : Binds K fd__law_bit_words ["most"] [] := FunD.bindsN F__law_bit_words fun _ _ _ _ _ _ us hl => match us, hl with | [_], _ => rfl
  have G__law_bit_words := ok__law_bit_words (P := P) (w := w) (K := K) (mg := mg) (base := base) F__law_bit_words m_range m_len (S := S__law_bit_words) len__law_bit_words rd__law_bit_words
  have b__law_uses : Binds K fd__law_uses ["rooms", "row"] [] := FunD.bindsN F__law_uses fun _ _ _ _ _ _ us hl => match us, hl with | [_, _], _ => rfl
  have G__law_uses := ok__law_uses (P := P) (w := w) (K := K) (mg := mg) (base := base) F__law_uses m_len m_range m_int m_min m_max (S := S__law_uses) len__law_uses rd__law_uses
  have b__law_choice_holds : Binds K fd__law_choice_holds ["which", "often", "lengths", "uses", "tight"] [] := FunD.bindsN F__law_choice_holds fun _ _ _ _ _ _ us hl => match us, hl with | [_, _, _, _, _], _ => rfl
  have G__law_choice_holds := ok__law_choice_holds (P := P) (w := w) (K := K) (mg := mg) (base := base) F__law_choice_holds G__law_told m__law_told (FunD.kp F__law_told) b__law_told m_sum m_len m_range (S := S__law_choice_holds) len__law_choice_holds rd__law_choice_holds
  have b__law_small_choice : Binds K fd__law_small_choice ["which", "few", "row"] [] := FunD.bindsN F__law_small_choice fun _ _ _ _ _ _ us hl => match us, hl with | [_, _, _], _ => rfl
  have G__law_small_choice := ok__law_small_choice (P := P) (w := w) (K := K) (mg := mg) (base := base) F__law_small_choice G__law_bit_words m__law_bit_words (FunD.kp F__law_bit_words) b__law_bit_words G__law_uses m__law_uses (FunD.kp F__law_uses) b__law_uses G__law_told m__law_told (FunD.kp F__law_told) b__law_told G__law_choice_holds m__law_choice_holds (FunD.kp F__law_choice_holds) b__law_choice_holds m_len m_range m_sum m_min m_max (S := S__law_small_choice) len__law_small_choice rd__law_small_choice
  have b__law_tight : Binds K fd__law_tight ["rooms", "uses"] [] := FunD.bindsN F__law_tight fun _ _ _ _ _ _ us hl => match us, hl with | [_, _], _ => rfl
  have G__law_tight := ok__law_tight (P := P) (w := w) (K := K) (mg := mg) (base := base) F__law_tight m_len m_range (S := S__law_tight) len__law_tight rd__law_tight
  have b__law_totals_hold : Binds K fd__law_totals_hold ["which", "often", "row", "small", "large"] [] := FunD.bindsN F__law_totals_hold fun _ _ _ _ _ _ us hl => match us, hl with | [_, _, _, _, _], _ => rfl
  have G__law_totals_hold := ok__law_totals_hold (P := P) (w := w) (K := K) (mg := mg) (base := base) F__law_totals_hold G__law_asked m__law_asked (FunD.kp F__law_asked) b__law_asked G__law_told m__law_told (FunD.kp F__law_told) b__law_told G__law_is_due m__law_is_due (FunD.kp F__law_is_due) b__law_is_due G__law_small_choice m__law_small_choice (FunD.kp F__law_small_choice) b__law_small_choice G__law_rooms m__law_rooms (FunD.kp F__law_rooms) b__law_rooms G__law_uses m__law_uses (FunD.kp F__law_uses) b__law_uses G__law_choice_holds m__law_choice_holds (FunD.kp F__law_choice_holds) b__law_choice_holds G__law_tight m__law_tight (FunD.kp F__law_tight) b__law_tight m_int m_len m_list m_range (S := S__law_totals_hold) len__law_totals_hold rd__law_totals_hold
  have b__law_big : Binds K fd__law_big ["parts", "many"] [] := FunD.bindsN F__law_big fun _ _ _ _ _ _ us hl => match us, hl with | [_, _], _ => rfl
  have G__law_big := ok__law_big (P := P) (w := w) (K := K) (mg := mg) (base := base) F__law_big m_int (S := S__law_big) len__law_big rd__law_big
  have b__law_pieces : Binds K fd__law_pieces ["row"] [] := FunD.bindsN F__law_pieces fun _ _ _ _ _ _ us hl => match us, hl with | [_], _ => rfl
  have G__law_pieces := ok__law_pieces (P := P) (w := w) (K := K) (mg := mg) (base := base) F__law_pieces G__law_big m__law_big (FunD.kp F__law_big) b__law_big m_int m_range m_max (S := S__law_pieces) len__law_pieces rd__law_pieces
  have b_width : Binds K fd_width ["options"] [] := FunD.bindsN F_width fun _ _ _ _ _ _ us hl => match us, hl with | [_], _ => rfl
  have G_width := ok_width (P := P) (w := w) (K := K) (mg := mg) (base := base) F_width  (S := S_width) len_width rd_width
  have b_told_excess : Binds K fd_told_excess ["size", "standings", "count"] [] := FunD.bindsN F_told_excess fun _ _ _ _ _ _ us hl => match us, hl with | [_, _, _], _ => rfl
  have G_told_excess := ok_told_excess (P := P) (w := w) (K := K) (mg := mg) (base := base) F_told_excess G_width m_width (FunD.kp F_width) b_width (S := S_told_excess) len_told_excess rd_told_excess
  have b_pressed_length : Binds K fd_pressed_length ["size", "count"] [] := FunD.bindsN F_pressed_length fun _ _ _ _ _ _ us hl => match us, hl with | [_, _], _ => rfl
  have G_pressed_length := ok_pressed_length (P := P) (w := w) (K := K) (mg := mg) (base := base) F_pressed_length G_width m_width (FunD.kp F_width) b_width (S := S_pressed_length) len_pressed_length rd_pressed_length
  have b_excess : Binds K fd_excess ["size", "standings", "count"] [] := FunD.bindsN F_excess fun _ _ _ _ _ _ us hl => match us, hl with | [_, _, _], _ => rfl
  have G_excess := ok_excess (P := P) (w := w) (K := K) (mg := mg) (base := base) F_excess G_pressed_length m_pressed_length (FunD.kp F_pressed_length) b_pressed_length G_floor_bits m_floor_bits (FunD.kp F_floor_bits) b_floor_bits (S := S_excess) len_excess rd_excess
  have b__law_width : Binds K fd__law_width ["options"] [] := FunD.bindsN F__law_width fun _ _ _ _ _ _ us hl => match us, hl with | [_], _ => rfl
  have G__law_width := ok__law_width (P := P) (w := w) (K := K) (mg := mg) (base := base) F__law_width m_range (S := S__law_width) len__law_width rd__law_width
  have b__law_long_block : Binds K fd__law_long_block ["letters", "many"] [] := FunD.bindsN F__law_long_block fun _ _ _ _ _ _ us hl => match us, hl with | [_, _], _ => rfl
  have G__law_long_block := ok__law_long_block (P := P) (w := w) (K := K) (mg := mg) (base := base) F__law_long_block G__law_width m__law_width (FunD.kp F__law_width) b__law_width m_range m_max (S := S__law_long_block) len__law_long_block rd__law_long_block
  have b__law_log : Binds K fd__law_log ["n"] [] := FunD.bindsN F__law_log fun _ _ _ _ _ _ us hl => match us, hl with | [_], _ => rfl
  have G__law_log := ok__law_log (P := P) (w := w) (K := K) (mg := mg) (base := base) F__law_log G__law_width m__law_width (FunD.kp F__law_width) b__law_width (S := S__law_log) len__law_log rd__law_log
  have b__law_bound : Binds K fd__law_bound ["letters", "states", "many"] [] := FunD.bindsN F__law_bound fun _ _ _ _ _ _ us hl => match us, hl with | [_, _, _], _ => rfl
  have G__law_bound := ok__law_bound (P := P) (w := w) (K := K) (mg := mg) (base := base) F__law_bound G__law_width m__law_width (FunD.kp F__law_width) b__law_width G__law_log m__law_log (FunD.kp F__law_log) b__law_log (S := S__law_bound) len__law_bound rd__law_bound
  have b__law_excess_holds : Binds K fd__law_excess_holds ["letters", "states", "many"] [] := FunD.bindsN F__law_excess_holds fun _ _ _ _ _ _ us hl => match us, hl with | [_, _, _], _ => rfl
  have kb_excess_0_count_standings_size := kbn_excess_0_count_standings_size F_excess
  have kb_told_excess_0_standings_size_count := kbn_told_excess_0_standings_size_count F_told_excess
  have G__law_excess_holds := ok__law_excess_holds (P := P) (w := w) (K := K) (mg := mg) (base := base) F__law_excess_holds G_excess m_excess (FunD.kp F_excess) b_excess G_told_excess m_told_excess (FunD.kp F_told_excess) b_told_excess G__law_whole m__law_whole (FunD.kp F__law_whole) b__law_whole G__law_long_block m__law_long_block (FunD.kp F__law_long_block) b__law_long_block G__law_filled m__law_filled (FunD.kp F__law_filled) b__law_filled G__law_rooms m__law_rooms (FunD.kp F__law_rooms) b__law_rooms G__law_bound m__law_bound (FunD.kp F__law_bound) b__law_bound kb_excess_0_count_standings_size kb_told_excess_0_standings_size_count (S := S__law_excess_holds) len__law_excess_holds rd__law_excess_holds
  have b__law_growth_holds : Binds K fd__law_growth_holds ["letters", "states", "row"] [] := FunD.bindsN F__law_growth_holds fun _ _ _ _ _ _ us hl => match us, hl with | [_, _, _], _ => rfl
  have G__law_growth_holds := ok__law_growth_holds (P := P) (w := w) (K := K) (mg := mg) (base := base) F__law_growth_holds G__law_pieces m__law_pieces (FunD.kp F__law_pieces) b__law_pieces G__law_big m__law_big (FunD.kp F__law_big) b__law_big G_told_excess m_told_excess (FunD.kp F_told_excess) b_told_excess G_excess m_excess (FunD.kp F_excess) b_excess G__law_excess_holds m__law_excess_holds (FunD.kp F__law_excess_holds) b__law_excess_holds m_min m_repr (S := S__law_growth_holds) len__law_growth_holds rd__law_growth_holds
  exact ok_law (P := P) (w := w) (K := K) (mg := mg) (base := base) F_law G__law_digits m__law_digits (FunD.kp F__law_digits) b__law_digits G__law_cell m__law_cell (FunD.kp F__law_cell) b__law_cell G__law_totals_hold m__law_totals_hold (FunD.kp F__law_totals_hold) b__law_totals_hold G__law_growth_holds m__law_growth_holds (FunD.kp F__law_growth_holds) b__law_growth_holds m_int (S := S_law) len_law rd_law
end K21
open PySem PySem.W PySem.Calls PyProof.Rows
theorem PySem.Challenge.cw_outpressed_k21_floors_and_excesses_holds : PySem.Challenge.rw_outpressed_k21_floors_and_excesses.Holds := by
  w_on; o_law
  refine HandSHeadRun.head_any (r := OpenLaw.row PySem.Challenge.rw_outpressed_k21_floors_and_excesses) (q := view (OpenLaw.row PySem.Challenge.rw_outpressed_k21_floors_and_excesses).prog [34]) (H := K21.hk) (ob := K21.ob) (M := 4000) (loose := K21.loose) (d := HandSHeadRun.topDef (OpenLaw.row PySem.Challenge.rw_outpressed_k21_floors_and_excesses).prog 34) (kwd := []) K21.ob_eq
    (by kernel_rfl) (fun s => by kernel_rfl) K21.run (by kernel_rfl) (by kernel_rfl) (by kernel_rfl) (by rfl) (by first | assumption | decide +kernel) (by decide +kernel) ⟨rfl, rfl, rfl, rfl, rfl, by decide +kernel⟩ ?hw ?hc
  case hw => w_witness2
  case hc =>
    refine DL.walk_ofG (l := PySem.Challenge.rw_outpressed_k21_floors_and_excesses) (n := 63) (k := 7) (x := "script") rfl (by decide) (by kernel_rfl) ⟨rfl, by decide, by decide⟩ ?F
    intro w mg fa h Y G hmg0
    obtain ⟨K, KX, c⟩ := Y
    have hmg : mg ("law" : PySem.Str) = some (.ref fa) := by
      have e : (HandSHeadRun.topDef (OpenLaw.row PySem.Challenge.rw_outpressed_k21_floors_and_excesses).prog 34).name = ("law" : PySem.Str) := by kernel_rfl
      rw [← e]
      exact hmg0
    obtain ⟨fd, hb, hF⟩ := K21.facts (P := (PySem.Challenge.rw_outpressed_k21_floors_and_excesses).prog) (w := w) KX G hmg c
    exact ⟨K, fd, DL.spD K false DL.spLawD, KX, hb, fun H a ns hl hb hS => DL.law_sp hl hb hS, hF⟩

