import PyProof.Rows.All
import Wide.All
import OpenK.AllK
import Wide.FinOn
import HandS.ForMost
import HandS.ForExc
import HandS.EndBits
import HandS.WideBits
import HandS.Wide
import HandS.IsInst
import HandS.Conv
import HandS.Flow
import HandS.Rev
import HandS.SortInts
import HandS.HeadHook1
import PyProof.StrOps2
import HandS.Defaults
import HandS.HeadEnd
import HandS.Head0
import HandS.Head1
import HandS.Head2
import HandS.HeadHook2
import HandS.RevTup
import HandS.Text
import PyProof.JoinWalk
import KE.GoesEnum
import KE.GoesZip
import KE.GoesMore
import HandS.Comp
import HandS.Deep
import HandS.TupAny
import PyProof.ReprRoads
import PyProof.ReprBulk
import PyProof.MaxThree
import HandS.Replace
import HandS.TupLe
import KE.KRevSl
import HandS.SetBool
import HandS.SetKeys
import HandS.WordsDict
import KE.KMathG
import HandS.Gcd
import HandS.Head3
import PySem.Challenge.RW_outpressed_k26_whole_pieces_of_beginning
set_option Elab.async false
set_option linter.all false
set_option maxRecDepth 100000
namespace DL
open PySem PySem.Spec PyProof.Rows L2

/-- a Python value; a dict: its keys and its values, in order; an instance: its class, the names of its attributes, their values -/
inductive D where
  | non | bl (b : Bool) | int (i : Int) | str (x : List Nat) | tup (xs : List D) | lst (xs : List D) | scr (xs : List Int)
  | dk (ks : List Key) (xs : List D) | dt (ks : List (List Key)) (xs : List D) | ins (C : Addr) (fs : List Str) (xs : List D)
  /-- an exception: its class's name, its fields -/
  | exc (n : Str) (fs : List Str) (xs : List D)

/-- the dict of an exception -/
def XdAt (G : Hp) : Option Addr → List (Str × V) → Prop
  | none, l => l = []
  | some p, l => G p = some (.xd l)
/-- what stands at an exception's address -/
def ExcH (K : PySem.W.Frag) (n : Str) (a : Addr) (d : Option Addr) (h : Heap) : Prop := ∃ (oe : Obj) (w : Array Value), h.get? a = some oe ∧ Zc (.ref (He.ga K n)) d oe ∧ oe.data = .fields w

mutual
def Rep (K : PySem.W.Frag) (G : Hp) : D → V → Prop
  | .non, v => v = .non
  | .bl b, v => v = .bl b
  | .int i, v => v = .int i
  | .str x, v => v = .str ⟨x.toArray⟩
  | .tup ds, v => ∃ a vs, v = .ref a ∧ G a = some (.tup vs) ∧ Reps K G ds vs
  | .lst ds, v => ∃ a vs, v = .ref a ∧ G a = some (.lst vs) ∧ Reps K G ds vs
  | .scr xs, v => ∃ a, v = .ref a ∧ SqL K G a (xs.map V.int)
  | .dk ks ds, v => ∃ a vs, v = .ref a ∧ G a = some (.dK (ks.zip vs)) ∧ ks.length = ds.length ∧ Reps K G ds vs
  | .dt ks ds, v => ∃ a vs, v = .ref a ∧ G a = some (.dT (ks.zip vs)) ∧ ks.length = ds.length ∧ Reps K G ds vs
  | .ins C fs ds, v => ∃ a dx vs, v = .ref a ∧ G a = some (.ins C dx (fs.zip vs)) ∧ fs.length = ds.length ∧ Reps K G ds vs
  | .exc n fs ds, v => ∃ (a : Addr) (φ : Heap → Prop) (d : Option Addr) (vs : List V), v = .ref a ∧ G a = some (.ext φ) ∧ (∀ h, φ h → ExcH K n a d h) ∧ XdAt G d (fs.zip vs) ∧ fs.length = ds.length ∧ Reps K G ds vs
def Reps (K : PySem.W.Frag) (G : Hp) : List D → List V → Prop
  | [], vs => vs = []
  | d :: ds, vs => ∃ v r, vs = v :: r ∧ Rep K G d v ∧ Reps K G ds r
end

section
variable {K : PySem.W.Frag} {G G' H H' : Hp}
theorem Same.xd {d : Option Addr} {l : List (Str × V)} (e : Same G G') (h : XdAt G d l) : XdAt G' d l := by
  cases d with
  | none => exact h
  | some p => exact e _ _ h
theorem Same.sqt {a : Addr} {xs : List V} (e : Same G G') (h : SqT K G a xs) : SqT K G' a xs := by
  rcases h with (h | ⟨o, h⟩) | h
  · exact .inl (.inl (e _ _ h))
  · exact .inl (.inr ⟨o, e _ _ h⟩)
  · exact .inr h
mutual
theorem Rep.mono (e : Same G G') : ∀ (d : D) (v : V), Rep K G d v → Rep K G' d v
  | .non, _, h => h
  | .bl _, _, h => h
  | .int _, _, h => h
  | .str _, _, h => h
  | .tup ds, _, ⟨a, vs, e1, s, r⟩ => ⟨a, vs, e1, e _ _ s, Reps.mono e ds vs r⟩
  | .lst ds, _, ⟨a, vs, e1, s, r⟩ => ⟨a, vs, e1, e _ _ s, Reps.mono e ds vs r⟩
  | .scr _, _, ⟨a, e1, s⟩ => ⟨a, e1, e.seq s⟩
  | .dk _ ds, _, ⟨a, vs, e1, s, l, r⟩ => ⟨a, vs, e1, e _ _ s, l, Reps.mono e ds vs r⟩
  | .dt _ ds, _, ⟨a, vs, e1, s, l, r⟩ => ⟨a, vs, e1, e _ _ s, l, Reps.mono e ds vs r⟩
  | .ins _ _ ds, _, ⟨a, dx, vs, e1, s, l, r⟩ => ⟨a, dx, vs, e1, e _ _ s, l, Reps.mono e ds vs r⟩
  | .exc _ _ ds, _, ⟨a, φ, d, vs, e1, s, z, x, l, r⟩ => ⟨a, φ, d, vs, e1, e _ _ s, z, Same.xd e x, l, Reps.mono e ds vs r⟩
theorem Reps.mono (e : Same G G') : ∀ (ds : List D) (vs : List V), Reps K G ds vs → Reps K G' ds vs
  | [], _, h => h
  | d :: ds, _, ⟨v, r, e1, a, b⟩ => ⟨v, r, e1, Rep.mono e d v a, Reps.mono e ds r b⟩
end
theorem Reps.len : ∀ {ds : List D} {vs : List V}, Reps K G ds vs → vs.length = ds.length
  | [], _, h => by cases h; rfl
  | _ :: ds, _, ⟨v, r, e1, _, b⟩ => by
    subst e1
    rw [List.length_cons, List.length_cons, Reps.len b]
theorem Reps.get : ∀ {ds : List D} {vs : List V} {i : Nat} {d : D}, Reps K G ds vs → ds[i]? = some d → ∃ v, vs[i]? = some v ∧ Rep K G d v
  | [], _, i, d, h, e => by simp at e
  | x :: ds, _, 0, d, ⟨v, r, e1, a, b⟩, e => by
    subst e1
    cases (show x = d by simpa using e)
    exact ⟨v, rfl, a⟩
  | x :: ds, _, i + 1, d, ⟨v, r, e1, a, b⟩, e => by
    subst e1
    obtain ⟨w, h1, h2⟩ := Reps.get b (show ds[i]? = some d by simpa using e)
    exact ⟨w, by simpa using h1, h2⟩
theorem Reps.get' : ∀ {ds : List D} {vs : List V} {i : Nat} {v : V}, Reps K G ds vs → vs[i]? = some v → ∃ d, ds[i]? = some d ∧ Rep K G d v := by
  intro ds vs i v h e
  have hl := h.len
  have : i < ds.length := by
    rw [← hl]
    exact (List.getElem?_eq_some_iff.mp e).1
  obtain ⟨w, h1, h2⟩ := h.get (List.getElem?_eq_getElem this)
  rw [e] at h1
  cases h1
  exact ⟨_, List.getElem?_eq_getElem this, h2⟩
theorem Reps.append : ∀ {ds es : List D} {vs ws : List V}, Reps K G ds vs → Reps K G es ws → Reps K G (ds ++ es) (vs ++ ws)
  | [], _, _, _, h, q => by cases h; exact q
  | d :: ds, es, _, ws, ⟨v, r, e1, a, b⟩, q => by
    subst e1
    exact ⟨v, r ++ ws, rfl, a, Reps.append b q⟩
theorem Reps.one {d : D} {v : V} (h : Rep K G d v) : Reps K G [d] [v] := ⟨v, [], rfl, h, rfl⟩
theorem Reps.drop : ∀ {ds : List D} {vs : List V} (n : Nat), Reps K G ds vs → Reps K G (ds.drop n) (vs.drop n)
  | _, _, 0, h => h
  | [], _, n + 1, h => by cases h; exact (rfl : _ = _)
  | d :: ds, _, n + 1, ⟨v, r, e1, a, b⟩ => by subst e1; exact Reps.drop n b
theorem Reps.take : ∀ {ds : List D} {vs : List V} (n : Nat), Reps K G ds vs → Reps K G (ds.take n) (vs.take n)
  | _, _, 0, h => (rfl : _ = _)
  | [], _, n + 1, h => by cases h; exact (rfl : _ = _)
  | d :: ds, _, n + 1, ⟨v, r, e1, a, b⟩ => by subst e1; exact ⟨v, r.take n, rfl, a, Reps.take n b⟩
theorem Reps.set : ∀ {ds : List D} {vs : List V} (n : Nat) {d : D} {v : V}, Reps K G ds vs → Rep K G d v → Reps K G (ds.set n d) (vs.set n v)
  | [], _, n, _, _, h, _ => by cases h; cases n <;> exact (rfl : _ = _)
  | d :: ds, _, 0, _, w, ⟨v, r, e1, a, b⟩, q => by subst e1; exact ⟨w, r, rfl, q, b⟩
  | d :: ds, _, n + 1, _, w, ⟨v, r, e1, a, b⟩, q => by subst e1; exact ⟨v, _, rfl, a, Reps.set n b q⟩
theorem Reps.reverse {ds : List D} {vs : List V} (h : Reps K G ds vs) : Reps K G ds.reverse vs.reverse := by
  induction ds generalizing vs with
  | nil => cases h; exact (rfl : _ = _)
  | cons d ds ih =>
    obtain ⟨v, r, e1, a, b⟩ := h
    subst e1
    rw [List.reverse_cons, List.reverse_cons]
    exact (ih b).append (Reps.one a)
theorem Reps.dropLast {ds : List D} {vs : List V} (h : Reps K G ds vs) : Reps K G ds.dropLast vs.dropLast := by
  rw [List.dropLast_eq_take, List.dropLast_eq_take, h.len]
  exact h.take _
theorem Reps.flat {ds : List D} {vs : List V} (h : Reps K G ds vs) : ∀ n : Nat, Reps K G (List.replicate n ds).flatten (List.replicate n vs).flatten
  | 0 => (rfl : _ = _)
  | n + 1 => by
    rw [List.replicate_succ, List.replicate_succ, List.flatten_cons, List.flatten_cons]
    exact h.append (Reps.flat h n)
theorem Reps.ints : ∀ (ns : List Int), Reps K G (ns.map D.int) (ns.map V.int)
  | [] => rfl
  | n :: ns => ⟨_, _, rfl, rfl, Reps.ints ns⟩
end

inductive Sl where
  | no | fz (d : D) | ow (d : D) | me (p : Addr) (d : D)
abbrev DEnv := List Sl
/-- what an object that can be owned holds -/
def Cont (K : PySem.W.Frag) (G : Hp) : D → HO → Prop
  | .lst ds, o => ∃ vs, o = .lst vs ∧ Reps K G ds vs
  | .dk ks ds, o => ∃ vs, o = .dK (ks.zip vs) ∧ ks.length = ds.length ∧ Reps K G ds vs
  | .dt ks ds, o => ∃ vs, o = .dT (ks.zip vs) ∧ ks.length = ds.length ∧ Reps K G ds vs
  | .ins C fs ds, o => ∃ dx vs, o = .ins C dx (fs.zip vs) ∧ fs.length = ds.length ∧ Reps K G ds vs
  | _, _ => False
theorem Cont.mono {K : PySem.W.Frag} {G G' : Hp} (e : Same G G') : ∀ {d : D} {o : HO}, Cont K G d o → Cont K G' d o
  | .lst _, _, ⟨vs, h, r⟩ => ⟨vs, h, r.mono e⟩
  | .dk _ _, _, ⟨vs, h, l, r⟩ => ⟨vs, h, l, r.mono e⟩
  | .dt _ _, _, ⟨vs, h, l, r⟩ => ⟨vs, h, l, r.mono e⟩
  | .ins _ _ _, _, ⟨dx, vs, h, l, r⟩ => ⟨dx, vs, h, l, r.mono e⟩
  | .non, _, h => h.elim
  | .bl _, _, h => h.elim
  | .int _, _, h => h.elim
  | .str _, _, h => h.elim
  | .tup _, _, h => h.elim
  | .scr _, _, h => h.elim
  | .exc _ _ _, _, h => h.elim
theorem Cont.rep {K : PySem.W.Frag} {G : Hp} {p : Addr} : ∀ {d : D} {o : HO}, Cont K G d o → G p = some o → Rep K G d (.ref p)
  | .lst _, _, ⟨vs, h, r⟩, e => ⟨p, vs, rfl, by rw [e, h], r⟩
  | .dk _ _, _, ⟨vs, h, l, r⟩, e => ⟨p, vs, rfl, by rw [e, h], l, r⟩
  | .dt _ _, _, ⟨vs, h, l, r⟩, e => ⟨p, vs, rfl, by rw [e, h], l, r⟩
  | .ins _ _ _, _, ⟨dx, vs, h, l, r⟩, e => ⟨p, dx, vs, rfl, by rw [e, h], l, r⟩
  | .non, _, h, _ => h.elim
  | .bl _, _, h, _ => h.elim
  | .int _, _, h, _ => h.elim
  | .str _, _, h, _ => h.elim
  | .tup _, _, h, _ => h.elim
  | .scr _, _, h, _ => h.elim
  | .exc _ _ _, _, h, _ => h.elim
/-- an owned object -/
def OwnAt (K : PySem.W.Frag) (G H : Hp) (p : Addr) (d : D) : Prop := ∃ o, H p = some o ∧ Cont K G d o
/-- the value of a slot -/
def SlOk (K : PySem.W.Frag) (H0 G H : Hp) : Sl → Option V → Prop
  | .no, _ => True
  | .fz d, x => ∃ v, x = some v ∧ Rep K G d v
  | .ow d, x => ∃ p, x = some (.ref p) ∧ G p = none ∧ H0 p = none ∧ OwnAt K G H p d
  | .me p d, x => x = some (.ref p) ∧ G p = none ∧ H0 p = none ∧ OwnAt K G H p d
def isOw : Sl → Bool
  | .ow _ => true
  | .me _ _ => true
  | _ => false
structure ER (K : PySem.W.Frag) (G0 H0 : Hp) (env : DEnv) (σ : L2.St) (G H : Hp) : Prop where
  sub : Same G H
  old : Same H0 H
  gold : ∀ b, H0 b ≠ none → G b = G0 b
  len : env.length = σ.length
  sl : ∀ (i : Nat) (s : Sl) (x : Option V), env[i]? = some s → σ[i]? = some x → SlOk K H0 G H s x
  sep : ∀ (i j : Nat) (s t : Sl) (x : Option V), i ≠ j → env[i]? = some s → isOw s = true → env[j]? = some t → isOw t = true → σ[i]? = some x → σ[j]? ≠ some x

section
variable {K : PySem.W.Frag} {G0 H0 G G' H H' : Hp} {env : DEnv} {σ : L2.St}
theorem OwnAt.mono {p : Addr} {d : D} (e : Same G G') (k : H' p = H p) (h : OwnAt K G H p d) : OwnAt K G' H' p d := by
  obtain ⟨o, h, c⟩ := h
  exact ⟨o, k.trans h, c.mono e⟩
theorem OwnAt.some {p : Addr} {d : D} (h : OwnAt K G H p d) : H p ≠ none := by
  obtain ⟨o, h, c⟩ := h
  rw [h]
  exact fun z => by cases z
theorem SlOk.mono (e : Same G G') (k : ∀ p, G p = none → H0 p = none → H p ≠ none → H' p = H p ∧ G' p = none) : ∀ {s : Sl} {x : Option V}, SlOk K H0 G H s x → SlOk K H0 G' H' s x
  | .no, _, _ => trivial
  | .fz d, x, ⟨v, h, r⟩ => ⟨v, h, r.mono e⟩
  | .ow d, x, ⟨p, h, g, h0, r⟩ => by
    obtain ⟨k1, k2⟩ := k p g h0 r.some
    exact ⟨p, h, k2, h0, r.mono e k1⟩
  | .me p d, x, ⟨h, g, h0, r⟩ => by
    obtain ⟨k1, k2⟩ := k p g h0 r.some
    exact ⟨h, k2, h0, r.mono e k1⟩
/-- all that stood is kept; what is new may be frozen -/
theorem ER.ext (I : ER K G0 H0 env σ G H) (hH : Same H H') (hG : ∀ b, H b ≠ none → G' b = G b) (hs : Same G' H') : ER K G0 H0 env σ G' H' ∧ Same G G' := by
  have sG : Same G G' := fun b o q => by
    rw [hG b (by rw [I.sub b o q]; exact fun z => by cases z)]
    exact q
  refine ⟨⟨hs, I.old.trans hH, fun b q => ?_, I.len, fun i s x h1 h2 => (I.sl i s x h1 h2).mono sG fun p g h0 hp => ?_, I.sep⟩, sG⟩
  · rw [hG b ?_]
    · exact I.gold b q
    · cases z : H0 b with
      | none => exact absurd z q
      | some o => rw [I.old b o z]; exact fun z => by cases z
  · refine ⟨?_, (hG p hp).trans g⟩
    cases z : H p with
    | none => exact absurd z hp
    | some o => exact hH p o z
/-- a new frozen object -/
theorem ER.new (I : ER K G0 H0 env σ G H) {p : Addr} {o : HO} (hp : H p = none) : ER K G0 H0 env σ (upd G p o) (upd H p o) ∧ Same G (upd G p o) := by
  refine I.ext (fun b x q => ?_) (fun b q => ?_) fun b x q => ?_
  · rw [upd_ne (ne_of_none q hp)]; exact q
  · have : b ≠ p := fun z => q (by rw [z]; exact hp)
    rw [upd_ne this]
  · by_cases hb : b = p
    · subst hb; rw [upd_same] at q ⊢; exact q
    · rw [upd_ne hb] at q ⊢; exact I.sub _ _ q
theorem ER.newH (I : ER K G0 H0 env σ G H) {p : Addr} {o : HO} (hp : H p = none) : ER K G0 H0 env σ G (upd H p o) := by
  refine (I.ext (G' := G) (fun b x q => ?_) (fun b q => rfl) fun b x q => ?_).1
  · rw [upd_ne (ne_of_none q hp)]; exact q
  · rw [upd_ne (ne_of_none (I.sub _ _ q) hp)]; exact I.sub _ _ q
theorem ER.free (I : ER K G0 H0 env σ G H) {p : Addr} (hp : H p = none) : G p = none ∧ H0 p = none := by
  constructor
  · cases q : G p with
    | none => rfl
    | some o => rw [I.sub _ _ q] at hp; cases hp
  · cases q : H0 p with
    | none => rfl
    | some o => rw [I.old _ _ q] at hp; cases hp
/-- an owned value in the hand -/
def OwnV (K : PySem.W.Frag) (H0 : Hp) (env : DEnv) (σ : L2.St) (G H : Hp) (v : V) (d : D) : Prop :=
  ∃ p, v = .ref p ∧ G p = none ∧ H0 p = none ∧ OwnAt K G H p d ∧ ∀ (i : Nat) (s : Sl), env[i]? = some s → isOw s = true → σ[i]? ≠ some (some (.ref p))
theorem ER.noslot (I : ER K G0 H0 env σ G H) {p : Addr} (hp : H p = none) (i : Nat) (s : Sl) (h1 : env[i]? = some s) (h2 : isOw s = true) : σ[i]? ≠ some (some (.ref p)) := fun h3 => by
  have := I.sl i s _ h1 h3
  cases s with
  | no => cases h2
  | fz d => cases h2
  | ow d =>
    obtain ⟨q, e, _, _, own⟩ := this
    cases e
    exact own.some hp
  | me q d =>
    obtain ⟨e, _, _, own⟩ := this
    cases e
    exact own.some hp
theorem ER.freshOwn (I : ER K G0 H0 env σ G H) {p : Addr} (hp : H p = none) {d : D} {o : HO} (r : Cont K G d o) : OwnV K H0 env σ G (upd H p o) (.ref p) d :=
  ⟨p, rfl, (I.free hp).1, (I.free hp).2, ⟨o, upd_same, r⟩, I.noslot hp⟩
/-- it is frozen -/
theorem ER.freeze (I : ER K G0 H0 env σ G H) {v : V} {d : D} (o : OwnV K H0 env σ G H v d) : ∃ G', Same G G' ∧ ER K G0 H0 env σ G' H ∧ Rep K G' d v := by
  obtain ⟨p, rfl, g, h0, ⟨ob, hp, r⟩, sep⟩ := o
  have sG : Same G (upd G p ob) := fun b o q => by rw [upd_ne (ne_of_none q g)]; exact q
  refine ⟨upd G p ob, sG, ⟨fun b o q => ?_, I.old, fun b q => ?_, I.len, fun i s x h1 h2 => ?_, I.sep⟩, (r.mono sG).rep upd_same⟩
  · by_cases hb : b = p
    · subst hb; rw [upd_same] at q; cases q; exact hp
    · rw [upd_ne hb] at q; exact I.sub _ _ q
  · have : b ≠ p := fun z => q (by rw [z]; exact h0)
    rw [upd_ne this]; exact I.gold b q
  · have old := I.sl i s x h1 h2
    cases s with
    | no => trivial
    | fz d => obtain ⟨w, e, q⟩ := old; exact ⟨w, e, q.mono sG⟩
    | ow d =>
      obtain ⟨q, e, g', h0', own'⟩ := old
      have : q ≠ p := fun z => by
        subst z
        exact sep i _ h1 rfl (by rw [h2, e])
      exact ⟨q, e, by rw [upd_ne this]; exact g', h0', own'.mono sG rfl⟩
    | me q d =>
      obtain ⟨e, g', h0', own'⟩ := old
      have : q ≠ p := fun z => by
        subst z
        exact sep i _ h1 rfl (by rw [h2, e])
      exact ⟨e, by rw [upd_ne this]; exact g', h0', own'.mono sG rfl⟩
/-- a slot gets a frozen value -/
theorem ER.setF (I : ER K G0 H0 env σ G H) {v : V} {d : D} (r : Rep K G d v) (i : Nat) : ER K G0 H0 (env.set i (.fz d)) (σ.set i (some v)) G H := by
  refine ⟨I.sub, I.old, I.gold, by rw [List.length_set, List.length_set]; exact I.len, fun j s x h1 h2 => ?_, fun j k s t x hjk h1 h2 h3 h4 h5 => ?_⟩
  · by_cases hj : i = j
    · subst hj
      have l1 : i < env.length := by have := (List.getElem?_eq_some_iff.mp h1).1; rwa [List.length_set] at this
      have l2 : i < σ.length := by rw [← I.len]; exact l1
      rw [List.getElem?_set_self l1] at h1
      rw [List.getElem?_set_self l2] at h2
      cases h1; cases h2
      exact ⟨v, rfl, r⟩
    · rw [List.getElem?_set_ne hj] at h1 h2
      exact I.sl j s x h1 h2
  · have n1 : i ≠ j := fun z => by
      subst z
      have l1 : i < env.length := by have := (List.getElem?_eq_some_iff.mp h1).1; rwa [List.length_set] at this
      rw [List.getElem?_set_self l1] at h1
      cases h1; cases h2
    have n2 : i ≠ k := fun z => by
      subst z
      have l1 : i < env.length := by have := (List.getElem?_eq_some_iff.mp h3).1; rwa [List.length_set] at this
      rw [List.getElem?_set_self l1] at h3
      cases h3; cases h4
    rw [List.getElem?_set_ne n1] at h1 h5
    rw [List.getElem?_set_ne n2] at h3 ⊢
    exact I.sep j k s t x hjk h1 h2 h3 h4 h5
/-- a slot gets an owned value -/
theorem ER.setO (I : ER K G0 H0 env σ G H) {v : V} {d : D} (o : OwnV K H0 env σ G H v d) (i : Nat) : ER K G0 H0 (env.set i (.ow d)) (σ.set i (some v)) G H := by
  obtain ⟨p, rfl, g, h0, own, sep⟩ := o
  refine ⟨I.sub, I.old, I.gold, by rw [List.length_set, List.length_set]; exact I.len, fun j s x h1 h2 => ?_, fun j k s t x hjk h1 h2 h3 h4 h5 => ?_⟩
  · by_cases hj : i = j
    · subst hj
      have l1 : i < env.length := by have := (List.getElem?_eq_some_iff.mp h1).1; rwa [List.length_set] at this
      have l2 : i < σ.length := by rw [← I.len]; exact l1
      rw [List.getElem?_set_self l1] at h1
      rw [List.getElem?_set_self l2] at h2
      cases h1; cases h2
      exact ⟨p, rfl, g, h0, own⟩
    · rw [List.getElem?_set_ne hj] at h1 h2
      exact I.sl j s x h1 h2
  · by_cases hj : i = j
    · subst hj
      have l1 : i < env.length := by have := (List.getElem?_eq_some_iff.mp h1).1; rwa [List.length_set] at this
      have l2 : i < σ.length := by rw [← I.len]; exact l1
      rw [List.getElem?_set_self l2] at h5
      cases h5
      rw [List.getElem?_set_ne hjk] at h3 ⊢
      exact sep k t h3 h4
    · rw [List.getElem?_set_ne hj] at h1 h5
      by_cases hk : i = k
      · subst hk
        have l1 : i < env.length := by have := (List.getElem?_eq_some_iff.mp h3).1; rwa [List.length_set] at this
        have l2 : i < σ.length := by rw [← I.len]; exact l1
        rw [List.getElem?_set_self l2]
        intro z
        cases z
        exact sep j s h1 h2 h5
      · rw [List.getElem?_set_ne hk] at h3 ⊢
        exact I.sep j k s t x hjk h1 h2 h3 h4 h5
/-- what an owned slot holds is taken out -/
theorem ER.take (I : ER K G0 H0 env σ G H) {i : Nat} {d : D} (h : env[i]? = some (.ow d)) : ∃ v, σ[i]? = some (some v) ∧ OwnV K H0 (env.set i .no) σ G H v d ∧ ER K G0 H0 (env.set i .no) σ G H := by
  have l1 : i < env.length := (List.getElem?_eq_some_iff.mp h).1
  have l2 : i < σ.length := by rw [← I.len]; exact l1
  obtain ⟨p, e, g, h0, own⟩ := I.sl i _ _ h (List.getElem?_eq_getElem l2)
  have e' : σ[i]? = some (some (.ref p)) := by rw [List.getElem?_eq_getElem l2, e]
  refine ⟨.ref p, e', ⟨p, rfl, g, h0, own, fun j s h1 h2 h3 => ?_⟩, ⟨I.sub, I.old, I.gold, by rw [List.length_set]; exact I.len, fun j s x h1 h2 => ?_, fun j k s t x hjk h1 h2 h3 h4 h5 => ?_⟩⟩
  · by_cases hj : i = j
    · subst hj
      rw [List.getElem?_set_self l1] at h1
      cases h1; cases h2
    · rw [List.getElem?_set_ne hj] at h1
      exact I.sep j i s _ _ (Ne.symm hj) h1 h2 h rfl h3 e'
  · by_cases hj : i = j
    · subst hj
      rw [List.getElem?_set_self l1] at h1
      cases h1; trivial
    · rw [List.getElem?_set_ne hj] at h1
      exact I.sl j s x h1 h2
  · have n1 : i ≠ j := fun z => by
      subst z
      rw [List.getElem?_set_self l1] at h1
      cases h1; cases h2
    have n2 : i ≠ k := fun z => by
      subst z
      rw [List.getElem?_set_self l1] at h3
      cases h3; cases h4
    rw [List.getElem?_set_ne n1] at h1
    rw [List.getElem?_set_ne n2] at h3
    exact I.sep j k s t x hjk h1 h2 h3 h4 h5
/-- an owned object is changed -/
theorem ER.write (I : ER K G0 H0 env σ G H) {i : Nat} {d e : D} {o : HO} (h : env[i]? = some (.ow d)) (c : Cont K G e o) : ∃ p, σ[i]? = some (some (.ref p)) ∧ OwnAt K G H p d ∧ ER K G0 H0 (env.set i (.ow e)) σ G (upd H p o) := by
  have l1 : i < env.length := (List.getElem?_eq_some_iff.mp h).1
  have l2 : i < σ.length := by rw [← I.len]; exact l1
  obtain ⟨p, q, g, h0, own⟩ := I.sl i _ _ h (List.getElem?_eq_getElem l2)
  have q' : σ[i]? = some (some (.ref p)) := by rw [List.getElem?_eq_getElem l2, q]
  have hown : ∀ (j : Nat) (t : Sl), (env.set i (.ow e))[j]? = some t → isOw t = true → ∃ u, env[j]? = some u ∧ isOw u = true := fun j t h1 h2 => by
    by_cases hj : i = j
    · subst hj; exact ⟨_, h, rfl⟩
    · rw [List.getElem?_set_ne hj] at h1; exact ⟨t, h1, h2⟩
  refine ⟨p, q', own, ⟨fun b x z => ?_, fun b x z => ?_, I.gold, by rw [List.length_set]; exact I.len, fun j s x h1 h2 => ?_, fun j k s t x hjk h1 h2 h3 h4 h5 => ?_⟩⟩
  · rw [upd_ne (ne_of_none z g)]; exact I.sub _ _ z
  · rw [upd_ne (ne_of_none z h0)]; exact I.old _ _ z
  · by_cases hj : i = j
    · subst hj
      rw [List.getElem?_set_self l1] at h1
      rw [q'] at h2
      cases h1; cases h2
      exact ⟨p, rfl, g, h0, o, upd_same, c⟩
    · rw [List.getElem?_set_ne hj] at h1
      have old := I.sl j s x h1 h2
      cases s with
      | no => trivial
      | fz d => exact old
      | ow d =>
        obtain ⟨r, e1, g', h0', own'⟩ := old
        have : r ≠ p := fun z => by
          subst z
          exact I.sep i j _ _ _ hj h rfl h1 rfl q' (by rw [h2, e1])
        exact ⟨r, e1, g', h0', own'.mono (Same.refl G) (upd_ne this)⟩
      | me r d =>
        obtain ⟨e1, g', h0', own'⟩ := old
        have : r ≠ p := fun z => by
          subst z
          exact I.sep i j _ _ _ hj h rfl h1 rfl q' (by rw [h2, e1])
        exact ⟨e1, g', h0', own'.mono (Same.refl G) (upd_ne this)⟩
  · obtain ⟨s', a1, a2⟩ := hown j s h1 h2
    obtain ⟨t', b1, b2⟩ := hown k t h3 h4
    exact I.sep j k s' t' x hjk a1 a2 b1 b2 h5
/-- the same, the slot names the address -/
theorem ER.writeM (I : ER K G0 H0 env σ G H) {i : Nat} {p : Addr} {d e : D} {o : HO} (h : env[i]? = some (.me p d)) (c : Cont K G e o) : σ[i]? = some (some (.ref p)) ∧ OwnAt K G H p d ∧ ER K G0 H0 (env.set i (.me p e)) σ G (upd H p o) := by
  have l1 : i < env.length := (List.getElem?_eq_some_iff.mp h).1
  have l2 : i < σ.length := by rw [← I.len]; exact l1
  obtain ⟨q, g, h0, own⟩ := I.sl i _ _ h (List.getElem?_eq_getElem l2)
  have q' : σ[i]? = some (some (.ref p)) := by rw [List.getElem?_eq_getElem l2, q]
  have hown : ∀ (j : Nat) (t : Sl), (env.set i (.me p e))[j]? = some t → isOw t = true → ∃ u, env[j]? = some u ∧ isOw u = true := fun j t h1 h2 => by
    by_cases hj : i = j
    · subst hj; exact ⟨_, h, rfl⟩
    · rw [List.getElem?_set_ne hj] at h1; exact ⟨t, h1, h2⟩
  refine ⟨q', own, ⟨fun b x z => ?_, fun b x z => ?_, I.gold, by rw [List.length_set]; exact I.len, fun j s x h1 h2 => ?_, fun j k s t x hjk h1 h2 h3 h4 h5 => ?_⟩⟩
  · rw [upd_ne (ne_of_none z g)]; exact I.sub _ _ z
  · rw [upd_ne (ne_of_none z h0)]; exact I.old _ _ z
  · by_cases hj : i = j
    · subst hj
      rw [List.getElem?_set_self l1] at h1
      rw [q'] at h2
      cases h1; cases h2
      exact ⟨rfl, g, h0, o, upd_same, c⟩
    · rw [List.getElem?_set_ne hj] at h1
      have old := I.sl j s x h1 h2
      cases s with
      | no => trivial
      | fz d => exact old
      | ow d =>
        obtain ⟨r, e1, g', h0', own'⟩ := old
        have : r ≠ p := fun z => by
          subst z
          exact I.sep i j _ _ _ hj h rfl h1 rfl q' (by rw [h2, e1])
        exact ⟨r, e1, g', h0', own'.mono (Same.refl G) (upd_ne this)⟩
      | me r d =>
        obtain ⟨e1, g', h0', own'⟩ := old
        have : r ≠ p := fun z => by
          subst z
          exact I.sep i j _ _ _ hj h rfl h1 rfl q' (by rw [h2, e1])
        exact ⟨e1, g', h0', own'.mono (Same.refl G) (upd_ne this)⟩
  · obtain ⟨s', a1, a2⟩ := hown j s h1 h2
    obtain ⟨t', b1, b2⟩ := hown k t h3 h4
    exact I.sep j k s' t' x hjk a1 a2 b1 b2 h5
end
end DL

set_option Elab.async false
set_option linter.all false
set_option maxRecDepth 100000
namespace DL
open PySem PySem.Spec PyProof.Rows L2

/-- contexts that share the written part: a def's one, or a comprehension's blocks -/
structure Fam where
  ι : Type
  X : ι → Cx
  K : PySem.W.Frag
  hK : ∀ i, (X i).K = K
abbrev DQ := D → DEnv → Prop
abbrev DE := DEnv → DQ → Prop
abbrev DT := DEnv → (Bool → DEnv → Prop) → Prop
abbrev DA := DEnv → (List D → DEnv → Prop) → Prop

def SemE (K : PySem.W.Frag) (te : TE) (t : DE) : Prop := ∀ (G0 H0 : Hp) (env : DEnv) (σ : L2.St) (G H : Hp) (Q : DQ) (R : VK), ER K G0 H0 env σ G H → t env Q →
  (∀ v H' G' env' d, Same G G' → ER K G0 H0 env' σ G' H' → Rep K G' d v → Q d env' → R v H') → te σ H R
def SemO (K : PySem.W.Frag) (te : TE) (t : DE) : Prop := ∀ (G0 H0 : Hp) (env : DEnv) (σ : L2.St) (G H : Hp) (Q : DQ) (R : VK), ER K G0 H0 env σ G H → t env Q →
  (∀ v H' G' env' d, Same G G' → ER K G0 H0 env' σ G' H' → OwnV K H0 env' σ G' H' v d → Q d env' → R v H') → te σ H R
def SemT (K : PySem.W.Frag) (te : TT) (t : DT) : Prop := ∀ (G0 H0 : Hp) (env : DEnv) (σ : L2.St) (G H : Hp) (Q : Bool → DEnv → Prop) (R : Bool → Hp → Prop), ER K G0 H0 env σ G H → t env Q →
  (∀ b H' G' env', Same G G' → ER K G0 H0 env' σ G' H' → Q b env' → R b H') → te σ H R
def SemA (K : PySem.W.Frag) (te : TA) (t : DA) : Prop := ∀ (G0 H0 : Hp) (env : DEnv) (σ : L2.St) (G H : Hp) (Q : List D → DEnv → Prop) (R : List V → Hp → Prop), ER K G0 H0 env σ G H → t env Q →
  (∀ vs H' G' env' ds, Same G G' → ER K G0 H0 env' σ G' H' → Reps K G' ds vs → Q ds env' → R vs H') → te σ H R
def QE (F : Fam) (e : Expr) (t : DE) : Prop := ∃ te : TE, (∀ i, PE (F.X i) e te) ∧ SemE F.K te t
def QO (F : Fam) (e : Expr) (t : DE) : Prop := ∃ te : TE, (∀ i, PE (F.X i) e te) ∧ SemO F.K te t
def QT (F : Fam) (e : Expr) (t : DT) : Prop := ∃ te : TT, (∀ i, PT (F.X i) e te) ∧ SemT F.K te t
def QW (F : Fam) (e : Expr) (t : DT) : Prop := ∃ te : TT, (∀ i, PW (F.X i) e te) ∧ SemT F.K te t
def QA (F : Fam) (es : List Expr) (t : DA) : Prop := ∃ te : TA, (∀ i, PA (F.X i) es te) ∧ SemA F.K te t

section
variable {F : Fam} {e a b c o : Expr} {es : List Expr} {t ta tb tc : DE} {tt tu : DT} {tA : DA} {pos : Pos}
/-- what is owned may be frozen -/
theorem SemO.semE {K : PySem.W.Frag} {te : TE} (h : SemO K te t) : SemE K te t := fun G0 H0 env σ G H Q R I q r =>
  h G0 H0 env σ G H Q R I q fun v H' G' env' d s1 I1 ow q1 => by
    obtain ⟨G2, s2, I2, rp⟩ := I1.freeze ow
    exact r v H' G2 env' d (s1.trans s2) I2 rp q1
theorem QO.qe (h : QO F e t) : QE F e t := let ⟨te, p, s⟩ := h; ⟨te, p, s.semE⟩

def gs : DEnv → Nat → Sl
  | [], _ => .no
  | s :: _, 0 => s
  | _ :: r, i + 1 => gs r i
theorem gs_get : ∀ {env : DEnv} {i : Nat} {s : Sl}, gs env i = s → s ≠ .no → env[i]? = some s
  | [], _, _, h, n => absurd h.symm n
  | x :: _, 0, _, h, _ => by rw [← h]; rfl
  | x :: r, i + 1, s, h, n => by rw [List.getElem?_cons_succ]; exact gs_get (env := r) h n
def ss : DEnv → Nat → Sl → DEnv
  | [], _, _ => []
  | _ :: r, 0, s => s :: r
  | x :: r, i + 1, s => x :: ss r i s
theorem ss_set : ∀ (env : DEnv) (i : Nat) (s : Sl), ss env i s = env.set i s
  | [], i, s => by cases i <;> rfl
  | _ :: _, 0, _ => rfl
  | x :: r, i + 1, s => by rw [List.set_cons_succ, ← ss_set r i s]; rfl
def rdSl (env : DEnv) (i : Nat) (Q : DQ) : Sl → Prop
  | .fz d => Q d env
  | .ow d => Q d (ss env i (.fz d))
  | _ => False
def dVar (i : Nat) : DE := fun env Q => rdSl env i Q (gs env i)
theorem set_same {α : Type} : ∀ {l : List α} {i : Nat} {x : α}, l[i]? = some x → l.set i x = l
  | [], _, _, h => by simp at h
  | y :: r, 0, x, h => by simp at h; simp [h]
  | y :: r, i + 1, x, h => by rw [List.set_cons_succ, set_same (by simpa using h)]
/-- an owned slot is frozen -/
theorem ER.frz {K : PySem.W.Frag} {G0 H0 G H : Hp} {env : DEnv} {σ : L2.St} (I : ER K G0 H0 env σ G H) {i : Nat} {d : D} (h : env[i]? = some (.ow d)) :
    ∃ v G', σ[i]? = some (some v) ∧ Same G G' ∧ ER K G0 H0 (env.set i (.fz d)) σ G' H ∧ Rep K G' d v := by
  obtain ⟨v, e, ow, I1⟩ := I.take h
  obtain ⟨G', s1, I2, rp⟩ := I1.freeze ow
  have I3 := I2.setF rp i
  rw [List.set_set, set_same e] at I3
  exact ⟨v, G', e, s1, I3, rp⟩
theorem semVar {K : PySem.W.Frag} (i : Nat) : SemE K (tVar i) (dVar i) := fun G0 H0 env σ G H Q R I q r => by
  unfold dVar at q
  cases hg : gs env i with
  | me p d => rw [hg] at q; exact q.elim
  | no => rw [hg] at q; exact q.elim
  | fz d =>
    rw [hg] at q
    have h := gs_get hg (fun z => nomatch z)
    have l2 : i < σ.length := by rw [← I.len]; exact (List.getElem?_eq_some_iff.mp h).1
    obtain ⟨v, e, rp⟩ := I.sl i _ _ h (List.getElem?_eq_getElem l2)
    exact ⟨v, by rw [List.getElem?_eq_getElem l2, e], r v H G env d (Same.refl G) I rp q⟩
  | ow d =>
    rw [hg] at q
    have q' : Q d (ss env i (.fz d)) := q
    rw [ss_set] at q'
    obtain ⟨v, G', e, s1, I1, rp⟩ := I.frz (gs_get hg (fun z => nomatch z))
    exact ⟨v, e, r v H G' _ d s1 I1 rp q'⟩
theorem qv (i : Nat) {x : Str} (hN : ∀ j, (F.X j).N[i]? = some x := by exact fun _ => rfl) (hv : ∀ j, Vis (F.X j).env.scope x := by first | exact fun _ => Or.inl rfl | exact fun _ => Or.inr (Or.inl rfl) | exact fun _ => Or.inr (Or.inr rfl))
    (hd : (x == ("__debug__" : Str)) = false := by decide) (hcd : (x == ("__classdict__" : Str)) = false := by decide) : QE F (.Name x pos) (dVar i) :=
  ⟨tVar i, fun j => pe_var (hN j) (hv j) hd hcd, semVar i⟩
def tkSl (env : DEnv) (i : Nat) (Q : DQ) : Sl → Prop
  | .ow d => Q d (ss env i .no)
  | _ => False
/-- an owned name handed on as it is -/
def dTake (i : Nat) : DE := fun env Q => tkSl env i Q (gs env i)
theorem qvo (i : Nat) {x : Str} (hN : ∀ j, (F.X j).N[i]? = some x := by exact fun _ => rfl) (hv : ∀ j, Vis (F.X j).env.scope x := by first | exact fun _ => Or.inl rfl | exact fun _ => Or.inr (Or.inl rfl) | exact fun _ => Or.inr (Or.inr rfl))
    (hd : (x == ("__debug__" : Str)) = false := by decide) (hcd : (x == ("__classdict__" : Str)) = false := by decide) : QO F (.Name x pos) (dTake i) :=
  ⟨tVar i, fun j => pe_var (hN j) (hv j) hd hcd, fun G0 H0 env σ G H Q R I q r => by
    unfold dTake at q
    cases hg : gs env i with
    | me p d => rw [hg] at q; exact q.elim
    | no => rw [hg] at q; exact q.elim
    | fz d => rw [hg] at q; exact q.elim
    | ow d =>
      rw [hg] at q
      have q' : Q d (ss env i .no) := q
      rw [ss_set] at q'
      obtain ⟨v, e, ow, I1⟩ := I.take (gs_get hg (fun z => nomatch z))
      exact ⟨v, e, r v H G _ d (Same.refl G) I1 ow q'⟩⟩
def dC (d : D) : DE := fun env Q => Q d env
theorem semC {K : PySem.W.Frag} {v : V} {d : D} (h : ∀ G, Rep K G d v) : SemE K (tC v) (dC d) := fun G0 H0 env σ G H Q R I q r => r v H G env d (Same.refl G) I (h G) q
theorem q_int {i j} : QE F (.Constant (.int i) j pos) (dC (.int i)) := ⟨_, fun _ => pe_int, semC fun _ => rfl⟩
theorem q_bl {b j} : QE F (.Constant (.bool b) j pos) (dC (.bl b)) := ⟨_, fun _ => pe_bl, semC fun _ => rfl⟩
theorem q_non {j} : QE F (.Constant .none j pos) (dC .non) := ⟨_, fun _ => pe_non, semC fun _ => rfl⟩
theorem q_str {x j} (l : List Nat) (h : x = ⟨l.toArray⟩ := by rfl) : QE F (.Constant (.str x) j pos) (dC (.str l)) := ⟨_, fun _ => pe_str, semC fun _ => by rw [h]; rfl⟩

/-- what a two-place operator asks of two values -/
def OpC (K : PySem.W.Frag) (r : R2) (c : D → D → (D → Prop) → Prop) : Prop := ∀ (G0 H0 : Hp) (env : DEnv) (σ : L2.St) (G H : Hp) (x y : V) (d e : D) (Q : D → Prop) (R : VK), ER K G0 H0 env σ G H → Rep K G d x → Rep K G e y → c d e Q →
  (∀ v H' G' z, Same G G' → ER K G0 H0 env σ G' H' → Rep K G' z v → Q z → R v H') → r x y H R
def dOp (c : D → D → (D → Prop) → Prop) (ta tb : DE) : DE := fun env Q => ta env fun x env1 => tb env1 fun y env2 => c x y fun z => Q z env2
theorem sem2 {K : PySem.W.Frag} {r : R2} {c : D → D → (D → Prop) → Prop} (hc : OpC K r c) {sa sb : TE} (ha : SemE K sa ta) (hb : SemE K sb tb) : SemE K (tOp r sa sb) (dOp c ta tb) := fun G0 H0 env σ G H Q R I q k =>
  ha G0 H0 env σ G H _ _ I q fun x H1 G1 env1 d s1 I1 r1 q1 => hb G0 H0 env1 σ G1 H1 _ _ I1 q1 fun y H2 G2 env2 e s2 I2 r2 q2 =>
    hc G0 H0 env2 σ G2 H2 x y d e _ R I2 (r1.mono s2) r2 q2 fun v H' G' z s3 I3 r3 q3 => k v H' G' env2 z (s1.trans (s2.trans s3)) I3 r3 q3
theorem q_op {op : Operator} {r : R2} {c : D → D → (D → Prop) → Prop} (ho : ∀ i, OpR (F.X i) (binaryOp op) r) (hc : OpC F.K r c) (ha : QE F a ta) (hb : QE F b tb) : QE F (.BinOp a op b pos) (dOp c ta tb) := by
  obtain ⟨sa, pa, ha⟩ := ha
  obtain ⟨sb, pb, hb⟩ := hb
  exact ⟨tOp r sa sb, fun i => pe_op (ho i) (pa i) (pb i), sem2 hc ha hb⟩
def MulOk (i j : Int) : Prop := (-(2 ^ 64) < i ∧ i < 2 ^ 64) ∨ (-(2 ^ 64) < j ∧ j < 2 ^ 64) ∨ CMulW i j
theorem MulOk.ok {i j : Int} (h : MulOk i j) : IntMulOk i j := by
  rcases h with h | h | h
  · exact CMul.ok (.inl h)
  · exact CMul.ok (.inr h)
  · exact h.ok
theorem op_mulA {X : Cx} : OpR X (binaryOp .Mult) (rI MulOk fun i j => .int (i * j)) := opI fun _ _ _ _ _ _ _ hc q => mul_int q hc.ok
def cAdd (x y : D) (Q : D → Prop) : Prop := match x, y with
  | .int i, .int j => Q (.int (i + j))
  | .str i, .str j => i.length + j.length ≤ sizeLine ∧ Q (.str (i ++ j))
  | .lst i, .lst j => i.length + j.length ≤ sizeLine ∧ Q (.lst (i ++ j))
  | .tup i, .tup j => i ≠ [] ∧ i.length + j.length ≤ sizeLine ∧ Q (.tup (i ++ j))
  | _, _ => False
def cSub (x y : D) (Q : D → Prop) : Prop := match x, y with
  | .int i, .int j => Q (.int (i - j))
  | _, _ => False
def cMul (x y : D) (Q : D → Prop) : Prop := match x, y with
  | .int i, .int j => MulOk i j ∧ Q (.int (i * j))
  | .lst xs, .int k => k < 2 ^ 62 ∧ xs.length * k.toNat ≤ sizeLine ∧ -(2 ^ 62) ≤ k ∧ Q (.lst (List.replicate k.toNat xs).flatten)
  | .str xs, .int k => k < 2 ^ 62 ∧ xs.length * k.toNat ≤ sizeLine ∧ -(2 ^ 62) ≤ k ∧ Q (.str (List.replicate k.toNat xs).flatten)
  | _, _ => False
def cDiv (x y : D) (Q : D → Prop) : Prop := match x, y with
  | .int i, .int j => 0 < j ∧ j.natAbs.log2 < 9000 ∧ Q (.int (i / j))
  | _, _ => False
def cMod (x y : D) (Q : D → Prop) : Prop := match x, y with
  | .int i, .int j => 0 < j ∧ Q (.int (i % j))
  | _, _ => False
def cPow (x y : D) (Q : D → Prop) : Prop := match x, y with
  | .int i, .int j => 0 ≤ j ∧ j ≤ 1000000 ∧ i.natAbs < 2 ^ 64 ∧ Q (.int (i ^ j.toNat))
  | _, _ => False
theorem rep_int {K : PySem.W.Frag} {G : Hp} {i : Int} {v : V} (h : Rep K G (.int i) v) : v = .int i := h
theorem rep_str {K : PySem.W.Frag} {G : Hp} {i : List Nat} {v : V} (h : Rep K G (.str i) v) : v = .str ⟨i.toArray⟩ := h
theorem str_len (l : List Nat) : (⟨l.toArray⟩ : Str).length = l.length := by
  show l.toArray.size = l.length
  simp
theorem str_app (l m : List Nat) : (⟨l.toArray⟩ : Str) ++ (⟨m.toArray⟩ : Str) = ⟨(l ++ m).toArray⟩ := by
  show (⟨l.toArray ++ m.toArray⟩ : Str) = _
  simp
theorem opc_add {K : PySem.W.Frag} : OpC K (fun x y H Q => rI0 (fun i j => .int (i + j)) x y H Q ∨ (∃ i j, x = .str i ∧ y = .str j ∧ i.length + j.length ≤ sizeLine ∧ Q (.str (i ++ j)) H) ∨ rCat x y H Q ∨ rCatT K x y H Q) cAdd := by
  intro G0 H0 env σ G H x y d e Q R I r1 r2 q k
  cases d with
  | int i =>
    cases e with
    | int j => exact .inl ⟨i, j, r1, r2, k (.int (i + j)) H G (.int (i + j)) (Same.refl G) I rfl q⟩
    | _ => exact (q : False).elim
  | str i =>
    cases e with
    | str j => exact .inr (.inl ⟨_, _, r1, r2, by rw [str_len, str_len]; exact q.1, by rw [str_app]; exact k _ H G (.str (i ++ j)) (Same.refl G) I rfl q.2⟩)
    | _ => exact (q : False).elim
  | lst i =>
    cases e with
    | lst j =>
      obtain ⟨p, vs, e1, h1, a1⟩ := r1
      obtain ⟨p2, ws, e2, h2, a2⟩ := r2
      refine .inr (.inr (.inl ⟨p, p2, vs, ws, e1, e2, I.sub _ _ h1, I.sub _ _ h2, by rw [a1.len, a2.len]; exact q.1, fun l hl => ?_⟩))
      obtain ⟨I2, s2⟩ := I.new (o := .lst (vs ++ ws)) hl
      exact k _ _ _ (.lst (i ++ j)) s2 I2 ⟨l, _, rfl, upd_same, (a1.append a2).mono s2⟩ q.2
    | _ => exact (q : False).elim
  | tup i =>
    cases e with
    | tup j =>
      have r1' := r1
      obtain ⟨p, vs, e1, h1, a1⟩ := r1
      obtain ⟨p2, ws, e2, h2, a2⟩ := r2
      obtain ⟨qn, qz, q⟩ := q
      refine .inr (.inr (.inr ⟨p, p2, vs, ws, e1, e2, SqT.of (I.sub _ _ h1), SqT.of (I.sub _ _ h2), fun z => ?_, by rw [a1.len, a2.len]; exact qz, fun z => ?_, fun _ l hl => ?_⟩))
      · have := a1.len
        rw [z] at this
        exact qn (List.length_eq_zero_iff.mp this.symm)
      · have := a2.len
        rw [z] at this
        have hj := List.length_eq_zero_iff.mp this.symm
        subst hj
        rw [List.append_nil] at q
        rw [← e1]
        exact k _ H G (.tup i) (Same.refl G) I r1' q
      · obtain ⟨I2, s2⟩ := I.new (o := .tup (vs ++ ws)) hl
        exact k _ _ _ (.tup (i ++ j)) s2 I2 ⟨l, _, rfl, upd_same, (a1.append a2).mono s2⟩ q
    | _ => exact (q : False).elim
  | _ => exact (q : False).elim
theorem q_add (ha : QE F a ta) (hb : QE F b tb) : QE F (.BinOp a .Add b pos) (dOp cAdd ta tb) := q_op (fun i => by have := op_add.or (op_add_str.or (op_cat.or (op_catT (X := F.X i)))); rw [F.hK] at this; exact this) opc_add ha hb
theorem opc_int {K : PySem.W.Frag} {C : Int → Int → Prop} {g : Int → Int → Int} {c : D → D → (D → Prop) → Prop} (h : ∀ i j Q, c (.int i) (.int j) Q → C i j ∧ Q (.int (g i j))) (hn : ∀ d e Q, c d e Q → ∃ i j, d = .int i ∧ e = .int j) : OpC K (rI C fun i j => .int (g i j)) c := by
  intro G0 H0 env σ G H x y d e Q R I r1 r2 q k
  obtain ⟨i, j, rfl, rfl⟩ := hn d e Q q
  obtain ⟨h1, h2⟩ := h i j Q q
  exact ⟨i, j, r1, r2, h1, k (.int (g i j)) H G (.int (g i j)) (Same.refl G) I rfl h2⟩
theorem q_sub (ha : QE F a ta) (hb : QE F b tb) : QE F (.BinOp a .Sub b pos) (dOp cSub ta tb) := q_op (fun _ => opI (C := fun _ _ => True) (fun _ _ _ _ _ _ _ _ q => sub_int q)) (opc_int (fun _ _ _ q => ⟨trivial, q⟩) fun d e Q q => by
  unfold cSub at q; split at q
  · exact ⟨_, _, rfl, rfl⟩
  · exact q.elim) ha hb
theorem q_div (ha : QE F a ta) (hb : QE F b tb) : QE F (.BinOp a .FloorDiv b pos) (dOp cDiv ta tb) := q_op (fun _ => op_fdivW) (opc_int (fun _ _ _ q => ⟨⟨q.1, q.2.1⟩, q.2.2⟩) fun d e Q q => by
  unfold cDiv at q; split at q
  · exact ⟨_, _, rfl, rfl⟩
  · exact q.elim) ha hb
theorem q_mod (ha : QE F a ta) (hb : QE F b tb) : QE F (.BinOp a .Mod b pos) (dOp cMod ta tb) := q_op (fun _ => op_mod) (opc_int (fun _ _ _ q => ⟨q.1, q.2⟩) fun d e Q q => by
  unfold cMod at q; split at q
  · exact ⟨_, _, rfl, rfl⟩
  · exact q.elim) ha hb
theorem q_pow (ha : QE F a ta) (hb : QE F b tb) : QE F (.BinOp a .Pow b pos) (dOp cPow ta tb) := q_op (fun _ => op_pow) (opc_int (fun _ _ _ q => ⟨⟨q.1, q.2.1, q.2.2.1⟩, q.2.2.2⟩) fun d e Q q => by
  unfold cPow at q; split at q
  · exact ⟨_, _, rfl, rfl⟩
  · exact q.elim) ha hb
def rRepS : R2 := fun x y H Q => ∃ (a : Str) (n : Int), x = .str a ∧ y = .int n ∧ -(2 ^ 62) ≤ n ∧ n < 2 ^ 62 ∧ a.length * n.toNat ≤ sizeLine ∧ Q (.str ⟨(List.replicate n.toNat a.cps.toList).flatten.toArray⟩) H
theorem foldl_repS (its : List Nat) : ∀ (k : Nat) (acc : List Nat), List.foldl (fun x1 x2 => x1 ++ x2) acc.toArray (List.replicate k its.toArray) = (acc ++ (List.replicate k its).flatten).toArray
  | 0, acc => by simp
  | k + 1, acc => by
    have e : acc.toArray ++ its.toArray = (acc ++ its).toArray := by simp
    have e2 : (acc ++ its) ++ (List.replicate k its).flatten = acc ++ (List.replicate (k + 1) its).flatten := by
      rw [List.replicate_succ, List.flatten_cons, List.append_assoc]
    rw [← e2, ← foldl_repS its k (acc ++ its), ← e, List.replicate_succ, List.foldl_cons]
theorem op_repS {X : Cx} : OpR X (binaryOp .Mult) rRepS := by
  intro pins s σ H x y v u Q I rx ry h
  obtain ⟨a, n, rfl, rfl, h1, h2, hz, q⟩ := h
  obtain ⟨t, rfl⟩ := rx
  obtain ⟨t', rfl⟩ := ry
  have hsl : sizeLine = 16777216 := sizeLine_eq
  have hsz : a.cps.size = a.length := rfl
  refine PySem.P.mul_str (by
      have h3 : ¬ n < -(2 ^ 63 : Int) := by omega
      have h4 : ¬ n ≥ 2 ^ 63 := by omega
      rw [decide_eq_false h3, decide_eq_false h4]; rfl) (fun h1 _ h3 => ?_) (fun _ _ => by unfold Builtin.Str.tooLong; rw [decide_eq_false (by omega)]) ?_
  · have h4 : (a.length : Int) ≤ (2 ^ 63 - 1) / n := by
      rw [Int.le_ediv_iff_mul_le (by omega)]
      have h5 : ((a.length * n.toNat : Nat) : Int) ≤ (sizeLine : Nat) := by omega
      rw [Int.natCast_mul, Int.toNat_of_nonneg (by omega)] at h5
      omega
    omega
  · by_cases c1 : n < 1
    · rw [if_pos c1]
      rw [show n.toNat = 0 by omega] at q
      exact ⟨by decide, .str _, H, I.tok _, ⟨_, rfl⟩, q⟩
    · rw [if_neg c1]
      by_cases c2 : (n == 1 || a.length == 0) = true
      · rw [if_pos c2]
        refine ⟨.str a, H, I, ⟨t, rfl⟩, ?_⟩
        have e : (⟨(List.replicate n.toNat a.cps.toList).flatten.toArray⟩ : Str) = a := by
          rw [Bool.or_eq_true, beq_iff_eq, beq_iff_eq] at c2
          obtain ⟨cp⟩ := a
          rcases c2 with c2 | c2
          · subst c2; simp
          · have : cp = #[] := Array.eq_empty_of_size_eq_zero c2
            subst this
            simp
        rw [e] at q
        exact q
      · rw [if_neg c2]
        have e : (List.replicate n.toNat a.cps).foldl (· ++ ·) #[] = (List.replicate n.toNat a.cps.toList).flatten.toArray := by
          have := foldl_repS a.cps.toList n.toNat []
          simpa using this
        rw [e]
        refine ⟨?_, .str _, H, I.tok _, ⟨_, rfl⟩, q⟩
        show ((List.replicate n.toNat a.cps.toList).flatten.toArray).size ≤ sizeLine
        simp only [List.size_toArray, List.length_flatten, List.map_replicate, List.sum_replicate_nat, Array.length_toList]
        rw [Nat.mul_comm]
        exact hz
theorem opc_mul {K : PySem.W.Frag} : OpC K (fun x y H Q => rI MulOk (fun i j => .int (i * j)) x y H Q ∨ rRep x y H Q ∨ rRepS x y H Q) cMul := by
  intro G0 H0 env σ G H x y d e Q R I r1 r2 q k
  cases d with
  | int i =>
    cases e with
    | int j => exact .inl ⟨i, j, r1, r2, q.1, k (.int (i * j)) H G (.int (i * j)) (Same.refl G) I rfl q.2⟩
    | _ => exact (q : False).elim
  | lst i =>
    cases e with
    | int j =>
      obtain ⟨p, vs, e1, h1, a1⟩ := r1
      obtain ⟨q1, q2, q3, q4⟩ := q
      refine .inr (.inl ⟨p, j, vs, e1, r2, I.sub _ _ h1, by omega, by omega, by rw [a1.len]; exact q2, fun l hl => ?_⟩)
      obtain ⟨I2, s2⟩ := I.new (o := .lst (List.replicate j.toNat vs).flatten) hl
      exact k _ _ _ (.lst (List.replicate j.toNat i).flatten) s2 I2 ⟨l, _, rfl, upd_same, (a1.flat _).mono s2⟩ q4
    | _ => exact (q : False).elim
  | str i =>
    cases e with
    | int j =>
      obtain ⟨q1, q2, q3, q4⟩ := q
      refine .inr (.inr ⟨_, j, r1, r2, q3, q1, by rw [str_len]; exact q2, ?_⟩)
      have : (⟨i.toArray⟩ : Str).cps.toList = i := by simp
      rw [this]
      exact k _ H G (.str (List.replicate j.toNat i).flatten) (Same.refl G) I rfl q4
    | _ => exact (q : False).elim
  | _ => exact (q : False).elim
theorem q_mul (ha : QE F a ta) (hb : QE F b tb) : QE F (.BinOp a .Mult b pos) (dOp cMul ta tb) := q_op (fun _ => op_mulA.or (op_rep.or op_repS)) opc_mul ha hb
/-- -a -/
def cNeg (x : D) (Q : D → Prop) : Prop := match x with
  | .int i => Q (.int (-i))
  | _ => False
def dUn (c : D → (D → Prop) → Prop) (ta : DE) : DE := fun env Q => ta env fun x env1 => c x fun z => Q z env1
theorem q_neg (ha : QE F a ta) : QE F (.UnaryOp .USub a pos) (dUn cNeg ta) := by
  obtain ⟨sa, pa, ha⟩ := ha
  refine ⟨tUn _ sa, fun i => pe_un un_neg (pa i), fun G0 H0 env σ G H Q R I q k => ha G0 H0 env σ G H _ _ I q fun x H1 G1 env1 d s1 I1 r1 q1 => ?_⟩
  cases d with
  | int i => exact ⟨i, r1, k (.int (-i)) H1 G1 _ (.int (-i)) s1 I1 rfl q1⟩
  | _ => exact (q1 : False).elim

def CmpC (K : PySem.W.Frag) (r : R2) (c : D → D → (Bool → Prop) → Prop) : Prop := ∀ (G0 H0 : Hp) (env : DEnv) (σ : L2.St) (G H : Hp) (x y : V) (d e : D) (Q : Bool → Prop) (R : VK), ER K G0 H0 env σ G H → Rep K G d x → Rep K G e y → c d e Q →
  (∀ b, Q b → R (.bl b) H) → r x y H R
def dCmp (c : D → D → (Bool → Prop) → Prop) (ta tb : DE) : DE := fun env Q => ta env fun x env1 => tb env1 fun y env2 => c x y fun z => Q (.bl z) env2
def dCmpT (c : D → D → (Bool → Prop) → Prop) (ta tb : DE) : DT := fun env Q => ta env fun x env1 => tb env1 fun y env2 => c x y fun z => Q z env2
theorem q_cmp {op : CmpOp} {r : R2} {c : D → D → (Bool → Prop) → Prop} (ho : ∀ i, OpR (F.X i) (compareOp op) r) (hc : CmpC F.K r c) (ha : QE F a ta) (hb : QE F b tb) (hm : behindInMarks op b = false) : QE F (.Compare a [op] [b] pos) (dCmp c ta tb) := by
  obtain ⟨sa, pa, ha⟩ := ha
  obtain ⟨sb, pb, hb⟩ := hb
  refine ⟨tOp r sa sb, fun i => pe_cmpR (ho i) (pa i) (pb i) hm, fun G0 H0 env σ G H Q R I q k => ?_⟩
  exact ha G0 H0 env σ G H _ _ I q fun x H1 G1 env1 d s1 I1 r1 q1 => hb G0 H0 env1 σ G1 H1 _ _ I1 q1 fun y H2 G2 env2 e s2 I2 r2 q2 =>
    hc G0 H0 env2 σ G2 H2 x y d e _ R I2 (r1.mono s2) r2 q2 fun z q3 => k _ H2 G2 env2 (.bl z) (s1.trans s2) I2 rfl q3
theorem qt_cmp {op : CmpOp} {r : R2} {c : D → D → (Bool → Prop) → Prop} (ho : ∀ i, OpR (F.X i) (compareOp op) r) (hc : CmpC F.K r c) (ha : QE F a ta) (hb : QE F b tb) (hm : behindInMarks op b = false) : QT F (.Compare a [op] [b] pos) (dCmpT c ta tb) := by
  obtain ⟨sa, pa, ha⟩ := ha
  obtain ⟨sb, pb, hb⟩ := hb
  refine ⟨tTest (tOp r sa sb), fun i => pt_cmpR (ho i) (pa i) (pb i) hm, fun G0 H0 env σ G H Q R I q k => ?_⟩
  exact ha G0 H0 env σ G H _ _ I q fun x H1 G1 env1 d s1 I1 r1 q1 => hb G0 H0 env1 σ G1 H1 _ _ I1 q1 fun y H2 G2 env2 e s2 I2 r2 q2 =>
    hc G0 H0 env2 σ G2 H2 x y d e _ _ I2 (r1.mono s2) r2 q2 fun z q3 => ⟨z, rfl, k z H2 G2 env2 (s1.trans s2) I2 q3⟩
def cOrd (p : Int → Int → Bool) (x y : D) (Q : Bool → Prop) : Prop := match x, y with
  | .int i, .int j => Q (p i j)
  | _, _ => False
theorem cmpc_ord {K : PySem.W.Frag} {p : Int → Int → Bool} : CmpC K (rI0 fun i j => .bl (p i j)) (cOrd p) := by
  intro G0 H0 env σ G H x y d e Q R I r1 r2 q k
  unfold cOrd at q
  split at q
  · exact ⟨_, _, r1, r2, k _ q⟩
  · exact q.elim
abbrev cLt := cOrd fun i j => decide (i < j)
abbrev cLe := cOrd fun i j => decide (i ≤ j)
abbrev cGt := cOrd fun i j => decide (j < i)
abbrev cGe := cOrd fun i j => decide (j ≤ i)
theorem q_lt (ha : QE F a ta) (hb : QE F b tb) : QE F (.Compare a [.Lt] [b] pos) (dCmp cLt ta tb) := q_cmp (fun _ => op_lt) cmpc_ord ha hb (nomark _)
theorem q_le (ha : QE F a ta) (hb : QE F b tb) : QE F (.Compare a [.LtE] [b] pos) (dCmp cLe ta tb) := q_cmp (fun _ => op_le) cmpc_ord ha hb (nomark _)
theorem q_gt (ha : QE F a ta) (hb : QE F b tb) : QE F (.Compare a [.Gt] [b] pos) (dCmp cGt ta tb) := q_cmp (fun _ => op_gt) cmpc_ord ha hb (nomark _)
theorem q_ge (ha : QE F a ta) (hb : QE F b tb) : QE F (.Compare a [.GtE] [b] pos) (dCmp cGe ta tb) := q_cmp (fun _ => op_ge) cmpc_ord ha hb (nomark _)
theorem qt_lt (ha : QE F a ta) (hb : QE F b tb) : QT F (.Compare a [.Lt] [b] pos) (dCmpT cLt ta tb) := qt_cmp (fun _ => op_lt) cmpc_ord ha hb (nomark _)
theorem qt_le (ha : QE F a ta) (hb : QE F b tb) : QT F (.Compare a [.LtE] [b] pos) (dCmpT cLe ta tb) := qt_cmp (fun _ => op_le) cmpc_ord ha hb (nomark _)
theorem qt_gt (ha : QE F a ta) (hb : QE F b tb) : QT F (.Compare a [.Gt] [b] pos) (dCmpT cGt ta tb) := qt_cmp (fun _ => op_gt) cmpc_ord ha hb (nomark _)
theorem qt_ge (ha : QE F a ta) (hb : QE F b tb) : QT F (.Compare a [.GtE] [b] pos) (dCmpT cGe ta tb) := qt_cmp (fun _ => op_ge) cmpc_ord ha hb (nomark _)
mutual
def eqD : D → D → Bool
  | .non, .non => true
  | .bl a, .bl b => a == b
  | .bl a, .int j => (if a then 1 else 0) == j
  | .int i, .bl b => i == (if b then 1 else 0)
  | .int i, .int j => i == j
  | .str x, .str y => x == y
  | .tup xs, .tup ys => eqDs xs ys
  | .lst xs, .lst ys => eqDs xs ys
  | _, _ => false
def eqDs : List D → List D → Bool
  | [], [] => true
  | x :: xs, y :: ys => eqD x y && eqDs xs ys
  | _, _ => false
end
mutual
/-- what == of this layer tells: none, bools, ints, texts, tuples and lists of them -/
def toP : D → PyData
  | .non => .none
  | .bl b => .bool b
  | .int i => .int i
  | .str x => .str ⟨x.toArray⟩
  | .tup ds => .tuple (toPs ds)
  | .lst ds => .list (toPs ds)
  | _ => .none
def toPs : List D → List PyData
  | [] => []
  | d :: ds => toP d :: toPs ds
end
mutual
def shD : Nat → D → Bool
  | _, .non => true
  | _, .bl _ => true
  | _, .int _ => true
  | _, .str x => PyData.strOk ⟨x.toArray⟩
  | n + 1, .tup ds => shDs n ds
  | n + 1, .lst ds => shDs n ds
  | _, _ => false
def shDs : Nat → List D → Bool
  | _, [] => true
  | n, d :: ds => shD n d && shDs n ds
end
mutual
theorem shaped_toP : ∀ (n : Nat) (d : D), shD n d = true → (toP d).canLay0 = true ∧ (toP d).depth ≤ n
  | _, .non, _ => ⟨rfl, Nat.zero_le _⟩
  | _, .bl _, _ => ⟨rfl, Nat.zero_le _⟩
  | _, .int _, _ => ⟨rfl, Nat.zero_le _⟩
  | _, .str x, h => ⟨by simpa [toP, PyData.canLay0, shD] using h, Nat.zero_le _⟩
  | 0, .tup ds, h => by simp [shD] at h
  | 0, .lst ds, h => by simp [shD] at h
  | n + 1, .tup ds, h => by
    have := shaped_toPs n ds (by simpa [shD] using h)
    exact ⟨by simpa [toP, PyData.canLay0] using this.1, by simpa [toP, PyData.depth] using this.2⟩
  | n + 1, .lst ds, h => by
    have := shaped_toPs n ds (by simpa [shD] using h)
    exact ⟨by simpa [toP, PyData.canLay0] using this.1, by simpa [toP, PyData.depth] using this.2⟩
  | n, .scr _, h => by simp [shD] at h
  | n, .dk _ _, h => by simp [shD] at h
  | n, .dt _ _, h => by simp [shD] at h
  | n, .ins _ _ _, h => by simp [shD] at h
  | n, .exc _ _ _, h => by simp [shD] at h
theorem shaped_toPs : ∀ (n : Nat) (ds : List D), shDs n ds = true → PyData.canLayAll0 (toPs ds) = true ∧ PyData.depthAll (toPs ds) ≤ n
  | _, [], _ => ⟨rfl, Nat.zero_le _⟩
  | n, d :: ds, h => by
    obtain ⟨h1, h2⟩ := Bool.and_eq_true_iff.mp (by simpa [shDs] using h : (shD n d && shDs n ds) = true)
    obtain ⟨a1, a2⟩ := shaped_toP n d h1
    obtain ⟨b1, b2⟩ := shaped_toPs n ds h2
    exact ⟨by simp [toPs, PyData.canLayAll0, a1, b1], by simp only [toPs, PyData.depthAll]; omega⟩
end
mutual
theorem dp_of {K : PySem.W.Frag} {G H : Hp} (e : Same G H) : ∀ (n : Nat) (d : D) (v : V), shD n d = true → Rep K G d v → Dp K H v (toP d)
  | _, .non, _, _, r => by cases (show _ = _ from r); exact .non
  | _, .bl b, _, _, r => by cases (show _ = _ from r); exact .bl b
  | _, .int i, _, _, r => by cases (show _ = _ from r); exact .int i
  | _, .str x, _, _, r => by cases (show _ = _ from r); exact .str _
  | 0, .tup ds, _, h, _ => by simp [shD] at h
  | 0, .lst ds, _, h, _ => by simp [shD] at h
  | n + 1, .tup ds, v, h, ⟨a, vs, e1, s, r⟩ => by
    subst e1
    exact .tup (SqT.of (e _ _ s)) (dps_of e n ds vs (by simpa [shD] using h) r)
  | n + 1, .lst ds, v, h, ⟨a, vs, e1, s, r⟩ => by
    subst e1
    exact .lst (SqL.of (e _ _ s)) (dps_of e n ds vs (by simpa [shD] using h) r)
  | n, .scr _, _, h, _ => by simp [shD] at h
  | n, .dk _ _, _, h, _ => by simp [shD] at h
  | n, .dt _ _, _, h, _ => by simp [shD] at h
  | n, .ins _ _ _, _, h, _ => by simp [shD] at h
  | n, .exc _ _ _, _, h, _ => by simp [shD] at h
theorem dps_of {K : PySem.W.Frag} {G H : Hp} (e : Same G H) : ∀ (n : Nat) (ds : List D) (vs : List V), shDs n ds = true → Reps K G ds vs → DpAll K H vs (toPs ds)
  | _, [], vs, _, r => by cases (show _ = _ from r); exact .nil
  | n, d :: ds, vs, h, ⟨v, w, e1, r1, r2⟩ => by
    subst e1
    obtain ⟨h1, h2⟩ := Bool.and_eq_true_iff.mp (by simpa [shDs] using h : (shD n d && shDs n ds) = true)
    exact .cons (dp_of e n d v h1 r1) (dps_of e n ds w h2 r2)
end
theorem str_eq (x y : List Nat) : ((⟨x.toArray⟩ : Str) == ⟨y.toArray⟩) = (x == y) := by
  rw [Bool.eq_iff_iff, beq_iff_eq, beq_iff_eq]
  constructor
  · intro h
    have : x.toArray = y.toArray := by injection h
    simpa using congrArg Array.toList this
  · intro h
    rw [h]
mutual
theorem eqv_toP : ∀ (n : Nat) (d e : D), shD n d = true → shD n e = true → PyData.eqv (toP d) (toP e) = eqD d e
  | n, .non, e, _, h => by cases e <;> first | rfl | (cases n <;> simp [shD] at h)
  | n, .bl b, e, _, h => by cases e <;> first | rfl | (cases n <;> simp [shD] at h)
  | n, .int i, e, _, h => by cases e <;> first | rfl | (cases n <;> simp [shD] at h)
  | n, .str x, e, _, h => by cases e <;> first | rfl | (exact str_eq _ _) | (cases n <;> simp [shD] at h)
  | 0, .tup ds, _, h, _ => by simp [shD] at h
  | 0, .lst ds, _, h, _ => by simp [shD] at h
  | n + 1, .tup ds, e, h1, h => by
    cases e with
    | tup es =>
      have := eqvs_toPs n ds es (by simpa [shD] using h1) (by simpa [shD] using h)
      simpa [toP, PyData.eqv, eqD] using this
    | _ => first | rfl | simp [shD] at h
  | n + 1, .lst ds, e, h1, h => by
    cases e with
    | lst es =>
      have := eqvs_toPs n ds es (by simpa [shD] using h1) (by simpa [shD] using h)
      simpa [toP, PyData.eqv, eqD] using this
    | _ => first | rfl | simp [shD] at h
  | n, .scr _, _, h, _ => by simp [shD] at h
  | n, .dk _ _, _, h, _ => by simp [shD] at h
  | n, .dt _ _, _, h, _ => by simp [shD] at h
  | n, .ins _ _ _, _, h, _ => by simp [shD] at h
  | n, .exc _ _ _, _, h, _ => by simp [shD] at h
theorem eqvs_toPs : ∀ (n : Nat) (ds es : List D), shDs n ds = true → shDs n es = true → PyData.eqvAll (toPs ds) (toPs es) = eqDs ds es
  | _, [], [], _, _ => rfl
  | _, [], _ :: _, _, _ => rfl
  | _, _ :: _, [], _, _ => rfl
  | n, d :: ds, e :: es, h, h' => by
    obtain ⟨h1, h2⟩ := Bool.and_eq_true_iff.mp (by simpa [shDs] using h : (shD n d && shDs n ds) = true)
    obtain ⟨h3, h4⟩ := Bool.and_eq_true_iff.mp (by simpa [shDs] using h' : (shD n e && shDs n es) = true)
    have a := eqv_toP n d e h1 h3
    have b := eqvs_toPs n ds es h2 h4
    simp [toPs, PyData.eqvAll, eqDs, a, b]
end
/-- == : ints and texts at once, other data where it is shaped -/
def cEq (x y : D) (Q : Bool → Prop) : Prop := match x, y with
  | .int i, .int j => Q (decide (i = j))
  | .str i, .str j => Q (decide (i = j))
  | x, y => shD 60 x = true ∧ shD 60 y = true ∧ Q (eqD x y)
def cNe (x y : D) (Q : Bool → Prop) : Prop := cEq x y fun b => Q (!b)
theorem cmpc_eq {K : PySem.W.Frag} : CmpC K (fun x y H Q => rEq x y H Q ∨ rEqD K x y H Q) cEq := by
  intro G0 H0 env σ G H x y d e Q R I r1 r2 q k
  unfold cEq at q
  split at q
  · cases (show _ = _ from r1); cases (show _ = _ from r2)
    refine .inl ⟨rfl, ?_⟩
    have := k _ q
    rwa [show ∀ i j : Int, decide (V.int i = V.int j) = decide (i = j) from fun i j => by simp]
  · cases (show _ = _ from r1); cases (show _ = _ from r2)
    refine .inl ⟨rfl, ?_⟩
    have := k _ q
    rwa [dec_str, str_eq, Bool.beq_eq_decide_eq]
  · obtain ⟨h1, h2, q⟩ := q
    refine .inr ⟨toP d, toP e, dp_of I.sub 60 d x h1 r1, dp_of I.sub 60 e y h2 r2, ?_, ?_, ?_⟩
    · obtain ⟨a, b⟩ := shaped_toP 60 d h1
      exact Bool.and_eq_true_iff.mpr ⟨a, decide_eq_true (by omega)⟩
    · obtain ⟨a, b⟩ := shaped_toP 60 e h2
      exact Bool.and_eq_true_iff.mpr ⟨a, decide_eq_true (by omega)⟩
    · rw [eqv_toP 60 d e h1 h2]
      exact k _ q
theorem cmpc_ne {K : PySem.W.Frag} : CmpC K (fun x y H Q => rNe x y H Q ∨ rNeD K x y H Q) cNe := by
  intro G0 H0 env σ G H x y d e Q R I r1 r2 q k
  unfold cNe at q
  rcases cmpc_eq (K := K) G0 H0 env σ G H x y d e (fun b => Q (!b)) (fun v H' => ∃ b, v = .bl b ∧ R (.bl (!b)) H) I r1 r2 q (fun b hb => ⟨b, rfl, k _ hb⟩) with ⟨h1, b, e1, h2⟩ | ⟨p, q', h1, h2, h3, h4, b, e1, h5⟩
  · cases e1
    exact .inl ⟨h1, h2⟩
  · cases e1
    exact .inr ⟨p, q', h1, h2, h3, h4, h5⟩
theorem q_eq {k : Nat} (hr : ∀ i, Room k (F.X i).A) (ha : QE F a ta) (hb : QE F b tb) : QE F (.Compare a [.Eq] [b] pos) (dCmp cEq ta tb) := q_cmp (fun i => by have := op_eq.or (op_eqD (hr i).units); rw [F.hK] at this; exact this) cmpc_eq ha hb (nomark _)
theorem q_ne {k : Nat} (hr : ∀ i, Room k (F.X i).A) (ha : QE F a ta) (hb : QE F b tb) : QE F (.Compare a [.NotEq] [b] pos) (dCmp cNe ta tb) := q_cmp (fun i => by have := op_ne.or (op_neD (hr i).units); rw [F.hK] at this; exact this) cmpc_ne ha hb (nomark _)
theorem qt_eq {k : Nat} (hr : ∀ i, Room k (F.X i).A) (ha : QE F a ta) (hb : QE F b tb) : QT F (.Compare a [.Eq] [b] pos) (dCmpT cEq ta tb) := qt_cmp (fun i => by have := op_eq.or (op_eqD (hr i).units); rw [F.hK] at this; exact this) cmpc_eq ha hb (nomark _)
theorem qt_ne {k : Nat} (hr : ∀ i, Room k (F.X i).A) (ha : QE F a ta) (hb : QE F b tb) : QT F (.Compare a [.NotEq] [b] pos) (dCmpT cNe ta tb) := qt_cmp (fun i => by have := op_ne.or (op_neD (hr i).units); rw [F.hK] at this; exact this) cmpc_ne ha hb (nomark _)
end
end DL

set_option Elab.async false
set_option linter.all false
set_option maxRecDepth 100000
namespace DL
open PySem PySem.Spec PyProof.Rows L2

section
variable {F : Fam} {e a b c o : Expr} {es : List Expr} {t ta tb tc : DE} {tt tu tv : DT} {tA : DA} {pos : Pos}

/-- two ways -/
def br (b : Bool) (p q : Prop) : Prop := (b = true → p) ∧ (b = false → q)
theorem br_t {p q : Prop} (h : br true p q) : p := h.1 rfl
theorem br_f {p q : Prop} (h : br false p q) : q := h.2 rfl
def dTst (t : DE) : DT := fun env Q => t env fun x env1 => match x with
  | .bl b => Q b env1
  | _ => False
theorem qt_val (h : QE F e t) (he : ∀ i whole, isTrue e (F.X i).env whole = (do let v ← whole; standAt e.pos; holding [v] (truthy v)) := by intro _ _; rfl) : QT F e (dTst t) := by
  obtain ⟨te, p, s⟩ := h
  refine ⟨tB te, fun i => pt_val (p i) (he i), fun G0 H0 env σ G H Q R I q k => s G0 H0 env σ G H _ _ I q fun v H1 G1 env1 d s1 I1 r1 q1 => ?_⟩
  cases d with
  | bl b => exact ⟨b, r1, k b H1 G1 env1 s1 I1 q1⟩
  | _ => exact (q1 : False).elim
def dNot (t : DT) : DT := fun env Q => t env fun b env1 => Q (!b) env1
theorem qt_not (h : QT F a tt) : QT F (.UnaryOp .Not a pos) (dNot tt) := by
  obtain ⟨te, p, s⟩ := h
  exact ⟨tNot te, fun i => pt_not (p i), fun G0 H0 env σ G H Q R I q k => s G0 H0 env σ G H _ _ I q fun b H1 G1 env1 s1 I1 q1 => k (!b) H1 G1 env1 s1 I1 q1⟩
theorem QW.qt (h : QW F e tt) : QT F e tt := let ⟨te, p, s⟩ := h; ⟨te, fun i => (p i).pt, s⟩
def dAnd (t u : DT) : DT := fun env Q => t env fun b env1 => br b (u env1 Q) (Q false env1)
def dOr (t u : DT) : DT := fun env Q => t env fun b env1 => br b (Q true env1) (u env1 Q)
theorem qw_and1 (h : QT F a tt) : QW F (.BoolOp .And [a] pos) tt := let ⟨te, p, s⟩ := h; ⟨te, fun i => pw_and1 (p i), s⟩
theorem qw_or1 (h : QT F a tt) : QW F (.BoolOp .Or [a] pos) tt := let ⟨te, p, s⟩ := h; ⟨te, fun i => pw_or1 (p i), s⟩
theorem qw_and {rest : List Expr} (h : QT F a tt) (h2 : QW F (.BoolOp .And (b :: rest) pos) tu) : QW F (.BoolOp .And (a :: b :: rest) pos) (dAnd tt tu) := by
  obtain ⟨te, p, s⟩ := h
  obtain ⟨te2, p2, s2⟩ := h2
  refine ⟨tAnd te te2, fun i => pw_and (p i) (p2 i), fun G0 H0 env σ G H Q R I q k => s G0 H0 env σ G H _ _ I q fun b H1 G1 env1 e1 I1 q1 => ?_⟩
  cases b with
  | true => exact s2 G0 H0 env1 σ G1 H1 Q R I1 (br_t q1) fun b H2 G2 env2 e2 I2 q2 => k b H2 G2 env2 (e1.trans e2) I2 q2
  | false => exact k false H1 G1 env1 e1 I1 (br_f q1)
theorem qw_or {rest : List Expr} (h : QT F a tt) (h2 : QW F (.BoolOp .Or (b :: rest) pos) tu) : QW F (.BoolOp .Or (a :: b :: rest) pos) (dOr tt tu) := by
  obtain ⟨te, p, s⟩ := h
  obtain ⟨te2, p2, s2⟩ := h2
  refine ⟨tOr te te2, fun i => pw_or (p i) (p2 i), fun G0 H0 env σ G H Q R I q k => s G0 H0 env σ G H _ _ I q fun b H1 G1 env1 e1 I1 q1 => ?_⟩
  cases b with
  | false => exact s2 G0 H0 env1 σ G1 H1 Q R I1 (br_f q1) fun b H2 G2 env2 e2 I2 q2 => k b H2 G2 env2 (e1.trans e2) I2 q2
  | true => exact k true H1 G1 env1 e1 I1 (br_t q1)
/-- as values, all bools -/
def dBl (c : Bool → DEnv → Prop) (x : D) (env : DEnv) : Prop := match x with
  | .bl b => c b env
  | _ => False
def dAndV (ta tb : DE) : DE := fun env Q => ta env fun x env1 => dBl (fun b env1 => br b (tb env1 Q) (Q (.bl false) env1)) x env1
def dOrV (ta tb : DE) : DE := fun env Q => ta env fun x env1 => dBl (fun b env1 => br b (Q (.bl true) env1) (tb env1 Q)) x env1
def dNotV (ta : DE) : DE := fun env Q => ta env fun x env1 => dBl (fun b env1 => Q (.bl (!b)) env1) x env1
theorem q_one {op} (h : QE F a t) : QE F (.BoolOp op [a] pos) t := let ⟨te, p, s⟩ := h; ⟨te, fun i => pe_one (p i), s⟩
theorem q_and {rest : List Expr} (h : QE F a ta) (h2 : QE F (.BoolOp .And (b :: rest) pos) tb) : QE F (.BoolOp .And (a :: b :: rest) pos) (dAndV ta tb) := by
  obtain ⟨te, p, s⟩ := h
  obtain ⟨te2, p2, s2⟩ := h2
  refine ⟨tAndV te te2, fun i => pe_and (p i) (p2 i), fun G0 H0 env σ G H Q R I q k => s G0 H0 env σ G H _ _ I q fun v H1 G1 env1 d e1 I1 r1 q1 => ?_⟩
  cases d with
  | bl b =>
    refine ⟨b, r1, ?_⟩
    cases b with
    | true => exact s2 G0 H0 env1 σ G1 H1 Q R I1 (br_t q1) fun v H2 G2 env2 d e2 I2 r2 q2 => k v H2 G2 env2 d (e1.trans e2) I2 r2 q2
    | false => exact k (.bl false) H1 G1 env1 (.bl false) e1 I1 rfl (br_f q1)
  | _ => exact (q1 : False).elim
theorem q_or {rest : List Expr} (h : QE F a ta) (h2 : QE F (.BoolOp .Or (b :: rest) pos) tb) : QE F (.BoolOp .Or (a :: b :: rest) pos) (dOrV ta tb) := by
  obtain ⟨te, p, s⟩ := h
  obtain ⟨te2, p2, s2⟩ := h2
  refine ⟨tOrV te te2, fun i => pe_or (p i) (p2 i), fun G0 H0 env σ G H Q R I q k => s G0 H0 env σ G H _ _ I q fun v H1 G1 env1 d e1 I1 r1 q1 => ?_⟩
  cases d with
  | bl b =>
    refine ⟨b, r1, ?_⟩
    cases b with
    | false => exact s2 G0 H0 env1 σ G1 H1 Q R I1 (br_f q1) fun v H2 G2 env2 d e2 I2 r2 q2 => k v H2 G2 env2 d (e1.trans e2) I2 r2 q2
    | true => exact k (.bl true) H1 G1 env1 (.bl true) e1 I1 rfl (br_t q1)
  | _ => exact (q1 : False).elim
theorem q_not (h : QE F a ta) : QE F (.UnaryOp .Not a pos) (dNotV ta) := by
  obtain ⟨te, p, s⟩ := h
  refine ⟨tNotV te, fun i => pe_not (p i), fun G0 H0 env σ G H Q R I q k => s G0 H0 env σ G H _ _ I q fun v H1 G1 env1 d e1 I1 r1 q1 => ?_⟩
  cases d with
  | bl b => exact ⟨b, r1, k (.bl (!b)) H1 G1 env1 (.bl (!b)) e1 I1 rfl q1⟩
  | _ => exact (q1 : False).elim
def dIf (c : DT) (ta tb : DE) : DE := fun env Q => c env fun b env1 => br b (ta env1 Q) (tb env1 Q)
theorem q_ifE (hc : QT F c tt) (ha : QE F a ta) (hb : QE F b tb) : QE F (.IfExp c a b pos) (dIf tt ta tb) := by
  obtain ⟨sc, pc, hc⟩ := hc
  obtain ⟨sa, pa, ha⟩ := ha
  obtain ⟨sb, pb, hb⟩ := hb
  refine ⟨tIf sc sa sb, fun i => pe_ifExp (pc i) (pa i) (pb i), fun G0 H0 env σ G H Q R I q k => hc G0 H0 env σ G H _ _ I q fun z H1 G1 env1 e1 I1 q1 => ?_⟩
  cases z with
  | true => exact ha G0 H0 env1 σ G1 H1 Q R I1 (br_t q1) fun v H2 G2 env2 d e2 I2 r2 q2 => k v H2 G2 env2 d (e1.trans e2) I2 r2 q2
  | false => exact hb G0 H0 env1 σ G1 H1 Q R I1 (br_f q1) fun v H2 G2 env2 d e2 I2 r2 q2 => k v H2 G2 env2 d (e1.trans e2) I2 r2 q2
/-- a op b op c -/
def dChain (c c' : D → D → (Bool → Prop) → Prop) (ta tb tc : DE) : DT := fun env Q => ta env fun x env1 => tb env1 fun y env2 => c x y fun z => br z (tc env2 fun w env3 => c' y w fun u => Q u env3) (Q false env2)
theorem qt_chain {op op' : CmpOp} {r r' : R2} {k k' : D → D → (Bool → Prop) → Prop} (ho : ∀ i, OpR (F.X i) (compareOp op) r) (ho' : ∀ i, OpR (F.X i) (compareOp op') r') (hk : CmpC F.K r k) (hk' : CmpC F.K r' k') (ha : QE F a ta) (hb : QE F b tb) (hc : QE F c tc)
    (hm : lastMarks [op, op'] [b, c] = false := by with_unfolding_all rfl) : QT F (.Compare a [op, op'] [b, c] pos) (dChain k k' ta tb tc) := by
  obtain ⟨sa, pa, ha⟩ := ha
  obtain ⟨sb, pb, hb⟩ := hb
  obtain ⟨sc, pc, hc⟩ := hc
  refine ⟨tTest (tChain r r' sa sb sc), fun i => pt_chain (ho i) (ho' i) (pa i) (pb i) (pc i) hm, fun G0 H0 env σ G H Q R I q kk => ?_⟩
  exact ha G0 H0 env σ G H _ _ I q fun x H1 G1 env1 d s1 I1 r1 q1 => hb G0 H0 env1 σ G1 H1 _ _ I1 q1 fun y H2 G2 env2 e s2 I2 r2 q2 =>
    hk G0 H0 env2 σ G2 H2 x y d e _ _ I2 (r1.mono s2) r2 q2 fun z q3 => ⟨z, rfl, by
      cases z with
      | false => exact ⟨false, rfl, kk false H2 G2 env2 (s1.trans s2) I2 (br_f q3)⟩
      | true => exact hc G0 H0 env2 σ G2 H2 _ _ I2 (br_t q3) fun w H3 G3 env3 f s3 I3 r3 q4 => hk' G0 H0 env3 σ G3 H3 y w e f _ _ I3 (r2.mono s3) r3 q4 fun u q5 => ⟨u, rfl, kk u H3 G3 env3 (s1.trans (s2.trans s3)) I3 q5⟩⟩
def dChainV (c c' : D → D → (Bool → Prop) → Prop) (ta tb tc : DE) : DE := fun env Q => dChain c c' ta tb tc env fun b env1 => Q (.bl b) env1
theorem q_chain {op op' : CmpOp} {r r' : R2} {k k' : D → D → (Bool → Prop) → Prop} (ho : ∀ i, OpR (F.X i) (compareOp op) r) (ho' : ∀ i, OpR (F.X i) (compareOp op') r') (hk : CmpC F.K r k) (hk' : CmpC F.K r' k') (ha : QE F a ta) (hb : QE F b tb) (hc : QE F c tc)
    (hm : lastMarks [op, op'] [b, c] = false := by with_unfolding_all rfl) : QE F (.Compare a [op, op'] [b, c] pos) (dChainV k k' ta tb tc) := by
  obtain ⟨sa, pa, ha⟩ := ha
  obtain ⟨sb, pb, hb⟩ := hb
  obtain ⟨sc, pc, hc⟩ := hc
  refine ⟨tChain r r' sa sb sc, fun i => pe_chain (ho i) (ho' i) (pa i) (pb i) (pc i) hm, fun G0 H0 env σ G H Q R I q kk => ?_⟩
  exact ha G0 H0 env σ G H _ _ I q fun x H1 G1 env1 d s1 I1 r1 q1 => hb G0 H0 env1 σ G1 H1 _ _ I1 q1 fun y H2 G2 env2 e s2 I2 r2 q2 =>
    hk G0 H0 env2 σ G2 H2 x y d e _ _ I2 (r1.mono s2) r2 q2 fun z q3 => ⟨z, rfl, by
      cases z with
      | false => exact kk (.bl false) H2 G2 env2 (.bl false) (s1.trans s2) I2 rfl (br_f q3)
      | true => exact hc G0 H0 env2 σ G2 H2 _ _ I2 (br_t q3) fun w H3 G3 env3 f s3 I3 r3 q4 => hk' G0 H0 env3 σ G3 H3 y w e f _ _ I3 (r2.mono s3) r3 q4 fun u q5 => kk (.bl u) H3 G3 env3 (.bl u) (s1.trans (s2.trans s3)) I3 rfl q5⟩

def dNil : DA := fun env Q => Q [] env
def dCons (t : DE) (u : DA) : DA := fun env Q => t env fun x env1 => u env1 fun xs env2 => Q (x :: xs) env2
theorem qa_nil : QA F [] dNil := ⟨tNil, fun _ => pa_nil, fun G0 H0 env σ G H Q R I q k => k [] H G env [] (Same.refl G) I rfl q⟩
theorem qa_cons (h : QE F e t) (h2 : QA F es tA) (hs : ∀ i, starEach (e :: es) (F.X i).env = (false, eval e (F.X i).env) :: starEach es (F.X i).env := by intro _; rfl) : QA F (e :: es) (dCons t tA) := by
  obtain ⟨te, p, s⟩ := h
  obtain ⟨te2, p2, s2⟩ := h2
  exact ⟨tCons te te2, fun i => pa_cons (p i) (p2 i) (hs i), fun G0 H0 env σ G H Q R I q k => s G0 H0 env σ G H _ _ I q fun v H1 G1 env1 d e1 I1 r1 q1 =>
    s2 G0 H0 env1 σ G1 H1 _ _ I1 q1 fun vs H2 G2 env2 ds e2 I2 r2 q2 => k (v :: vs) H2 G2 env2 (d :: ds) (e1.trans e2) I2 ⟨v, vs, rfl, r1.mono e2, r2⟩ q2⟩
def dLst (t : DA) : DE := fun env Q => t env fun xs env1 => xs.length ≤ sizeLine ∧ Q (.lst xs) env1
def dTup (t : DA) : DE := fun env Q => t env fun xs env1 => xs.length ≤ sizeLine ∧ Q (.tup xs) env1
theorem qo_lst (h : QA F es tA) : QO F (.List es pos) (dLst tA) := by
  obtain ⟨te, p, s⟩ := h
  refine ⟨tLst te, fun i => pe_lst (p i), fun G0 H0 env σ G H Q R I q k => s G0 H0 env σ G H _ _ I q fun vs H1 G1 env1 ds e1 I1 r1 q1 => ⟨by rw [r1.len]; exact q1.1, fun l hl => ?_⟩⟩
  exact k _ _ G1 env1 (.lst ds) e1 (I1.newH hl) (I1.freshOwn hl ⟨vs, rfl, r1⟩) q1.2
theorem q_tup {x1} (h : QA F es tA) : QE F (.Tuple es x1 pos) (dTup tA) := by
  obtain ⟨te, p, s⟩ := h
  refine ⟨tTup te, fun i => pe_tup (p i), fun G0 H0 env σ G H Q R I q k => s G0 H0 env σ G H _ _ I q fun vs H1 G1 env1 ds e1 I1 r1 q1 => ⟨by rw [r1.len]; exact q1.1, fun l hl => ?_⟩⟩
  obtain ⟨I2, s2⟩ := I1.new (o := .tup vs) hl
  exact k _ _ _ env1 (.tup ds) (e1.trans s2) I2 ⟨l, vs, rfl, upd_same, r1.mono s2⟩ q1.2

def cIx (x y : D) (Q : D → Prop) : Prop := match x, y with
  | .lst ds, .int i => ∃ d, atI ds i = some d ∧ Q d
  | .tup ds, .int i => ∃ d, atI ds i = some d ∧ Q d
  | .scr ns, .int i => ∃ d, atI ns i = some d ∧ Q (.int d)
  | .str s, .int i => s.length ≤ sizeLine ∧ ∃ c, atI s i = some c ∧ Q (.str [c])
  | _, _ => False
theorem reps_at {K : PySem.W.Frag} {G : Hp} {ds : List D} {vs : List V} {i : Int} {d : D} (r : Reps K G ds vs) (h : atI ds i = some d) : ∃ v, atI vs i = some v ∧ Rep K G d v := by
  unfold atI at h ⊢
  rw [r.len]
  cases q : ixN ds.length i with
  | none => rw [q] at h; cases h
  | some j =>
    rw [q] at h
    exact r.get h
theorem atI_map {α β : Type} {f : α → β} {l : List α} {i : Int} : atI (l.map f) i = (atI l i).map f := by
  unfold atI
  rw [List.length_map]
  cases ixN l.length i with
  | none => rfl
  | some j => exact List.getElem?_map
/-- a value that is looked at: frozen, or an owned object as it stands -/
def PRep (K : PySem.W.Frag) (G H : Hp) (d : D) (v : V) : Prop := Rep K G d v ∨ ∃ p, v = .ref p ∧ OwnAt K G H p d
theorem PRep.lst {K : PySem.W.Frag} {G H : Hp} (s : Same G H) {ds : List D} {v : V} (h : PRep K G H (.lst ds) v) : ∃ p vs, v = .ref p ∧ H p = some (.lst vs) ∧ Reps K G ds vs := by
  rcases h with ⟨p, vs, e, h, r⟩ | ⟨p, e, o, h, vs, e2, r⟩
  · exact ⟨p, vs, e, s _ _ h, r⟩
  · exact ⟨p, vs, e, by rw [h, e2], r⟩
theorem PRep.frozen {K : PySem.W.Frag} {G H : Hp} {d : D} {v : V} (h : PRep K G H d v) (n : ∀ o, ¬ Cont K G d o) : Rep K G d v := by
  rcases h with h | ⟨p, e, o, h, c⟩
  · exact h
  · exact (n o c).elim
theorem ix_sem {K : PySem.W.Frag} {G0 H0 : Hp} {env : DEnv} {σ : L2.St} {G H : Hp} {x y : V} {d e : D} {Q : D → Prop} {R : VK} (I : ER K G0 H0 env σ G H) (r1 : PRep K G H d x) (r2 : Rep K G e y) (q : cIx d e Q)
    (k : ∀ v z, Rep K G z v → Q z → R v H) : rIx K x y H R := by
  cases d with
  | lst ds =>
    cases e with
    | int i =>
      obtain ⟨z, q1, q2⟩ := q
      obtain ⟨p, vs, e1, h1, a1⟩ := r1.lst I.sub
      obtain ⟨v, b1, b2⟩ := reps_at a1 q1
      exact .inl ⟨p, vs, i, v, e1, r2, SqL.of h1, b1, k v z b2 q2⟩
    | _ => exact (q : False).elim
  | tup ds =>
    cases e with
    | int i =>
      obtain ⟨z, q1, q2⟩ := q
      obtain ⟨p, vs, e1, h1, a1⟩ := r1.frozen (fun _ z => z)
      obtain ⟨v, b1, b2⟩ := reps_at a1 q1
      exact .inr (.inl ⟨p, vs, i, v, e1, r2, SqT.of (I.sub _ _ h1), b1, k v z b2 q2⟩)
    | _ => exact (q : False).elim
  | scr ns =>
    cases e with
    | int i =>
      obtain ⟨z, q1, q2⟩ := q
      obtain ⟨p, e1, h1⟩ := r1.frozen (fun _ z => z)
      exact .inl ⟨p, _, i, .int z, e1, r2, I.sub.seq h1, by rw [atI_map, q1]; rfl, k (.int z) (.int z) rfl q2⟩
    | _ => exact (q : False).elim
  | str s =>
    cases e with
    | int i =>
      obtain ⟨q0, z, q1, q2⟩ := q
      exact .inr (.inr ⟨⟨s.toArray⟩, i, z, r1.frozen (fun _ z => z), r2, by rw [str_len]; exact q0, by simpa using q1, k (.str ⟨#[z]⟩) (.str [z]) rfl q2⟩)
    | _ => exact (q : False).elim
  | _ => exact (q : False).elim
theorem opc_ix {K : PySem.W.Frag} : OpC K (rIx K) cIx := fun G0 H0 env σ G H x y d e Q R I r1 r2 q k => ix_sem I (.inl r1) r2 q fun v z r h => k v H G z (Same.refl G) I r h
theorem q_ix (ha : QE F a ta) (hb : QE F b tb) (hs : PlainIx b := by exact fun _ _ => rfl) : QE F (.Subscript a b pos) (dOp cIx ta tb) := by
  obtain ⟨sa, pa, ha⟩ := ha
  obtain ⟨sb, pb, hb⟩ := hb
  exact ⟨tOp (rIx F.K) sa sb, fun i => pe_ix (by have := ix_seq (X := F.X i); rw [F.hK] at this; exact this) (pa i) (pb i) hs, sem2 opc_ix ha hb⟩
/-- what a slot holds, owned or frozen, looked at alone -/
def slD : Sl → (D → Prop) → Prop
  | .fz d, Q => Q d
  | .ow d, Q => Q d
  | .me _ d, Q => Q d
  | .no, _ => False
/-- the object of a slot, looked at -/
theorem ER.peek {K : PySem.W.Frag} {G0 H0 G H : Hp} {env : DEnv} {σ : L2.St} (I : ER K G0 H0 env σ G H) {i : Nat} {Q : D → Prop} (h : slD (gs env i) Q) :
    ∃ v d, σ[i]? = some (some v) ∧ Q d ∧ PRep K G H d v := by
  cases hg : gs env i with
  | no => rw [hg] at h; exact h.elim
  | fz d =>
    rw [hg] at h
    have h1 := gs_get hg (fun z => nomatch z)
    have l2 : i < σ.length := by rw [← I.len]; exact (List.getElem?_eq_some_iff.mp h1).1
    obtain ⟨v, e, rp⟩ := I.sl i _ _ h1 (List.getElem?_eq_getElem l2)
    exact ⟨v, d, by rw [List.getElem?_eq_getElem l2, e], h, .inl rp⟩
  | ow d =>
    rw [hg] at h
    have h1 := gs_get hg (fun z => nomatch z)
    have l2 : i < σ.length := by rw [← I.len]; exact (List.getElem?_eq_some_iff.mp h1).1
    obtain ⟨p, e, g, h0, own⟩ := I.sl i _ _ h1 (List.getElem?_eq_getElem l2)
    exact ⟨.ref p, d, by rw [List.getElem?_eq_getElem l2, e], h, .inr ⟨p, rfl, own⟩⟩
  | me p d =>
    rw [hg] at h
    have h1 := gs_get hg (fun z => nomatch z)
    have l2 : i < σ.length := by rw [← I.len]; exact (List.getElem?_eq_some_iff.mp h1).1
    obtain ⟨e, g, h0, own⟩ := I.sl i _ _ h1 (List.getElem?_eq_getElem l2)
    exact ⟨.ref p, d, by rw [List.getElem?_eq_getElem l2, e], h, .inr ⟨p, rfl, own⟩⟩
def bound : Sl → Prop
  | .no => False
  | _ => True
/-- x[i] of a name: it is looked at alone -/
def dIxV (j : Nat) (tb : DE) : DE := fun env Q => bound (gs env j) ∧ tb env fun y env1 => slD (gs env1 j) fun x => cIx x y fun z => Q z env1
theorem q_ixv (j : Nat) {x : Str} {ipos : Pos} (hb : QE F b tb) (hN : ∀ i, (F.X i).N[j]? = some x := by exact fun _ => rfl) (hv : ∀ i, Vis (F.X i).env.scope x := by first | exact fun _ => Or.inl rfl | exact fun _ => Or.inr (Or.inl rfl) | exact fun _ => Or.inr (Or.inr rfl)) (hs : PlainIx b := by exact fun _ _ => rfl) (hd : (x == ("__debug__" : Str)) = false := by decide) (hcd : (x == ("__classdict__" : Str)) = false := by decide) :
    QE F (.Subscript (.Name x ipos) b pos) (dIxV j tb) := by
  obtain ⟨sb, pb, hb⟩ := hb
  refine ⟨tOp (rIx F.K) (tVar j) sb, fun i => pe_ix (by have := ix_seq (X := F.X i); rw [F.hK] at this; exact this) (pe_var (hN i) (hv i) hd hcd) (pb i) hs, fun G0 H0 env σ G H Q R I q k => ?_⟩
  obtain ⟨hn, q⟩ := q
  obtain ⟨v, d, e, _, _⟩ := I.peek (i := j) (Q := fun _ => True) (by
    cases z : gs env j with
    | no => rw [z] at hn; exact hn
    | fz d => trivial
    | ow d => trivial
    | me p d => trivial)
  refine ⟨v, e, hb G0 H0 env σ G H _ _ I q fun y H1 G1 env1 f s1 I1 r1 q1 => ?_⟩
  obtain ⟨v', d', e', q2, rp⟩ := I1.peek q1
  rw [e] at e'
  cases e'
  exact ix_sem I1 rp r1 q2 fun u z r h => k u H1 G1 env1 z s1 I1 r h

def SemP (K : PySem.W.Frag) (te : TE) (t : DE) : Prop := ∀ (G0 H0 : Hp) (env : DEnv) (σ : L2.St) (G H : Hp) (Q : DQ) (R : VK), ER K G0 H0 env σ G H → t env Q →
  (∀ v H' G' env' d, Same G G' → ER K G0 H0 env' σ G' H' → PRep K G' H' d v → Q d env' → R v H') → te σ H R
def QP (F : Fam) (e : Expr) (t : DE) : Prop := ∃ te : TE, (∀ i, PE (F.X i) e te) ∧ SemP F.K te t
theorem QE.qp (h : QE F e t) : QP F e t := let ⟨te, p, s⟩ := h; ⟨te, p, fun G0 H0 env σ G H Q R I q k => s G0 H0 env σ G H Q R I q fun v H' G' env' d s1 I1 r q1 => k v H' G' env' d s1 I1 (.inl r) q1⟩
def dPk (i : Nat) : DE := fun env Q => slD (gs env i) fun d => Q d env
theorem qpv (i : Nat) {x : Str} (hN : ∀ j, (F.X j).N[i]? = some x := by exact fun _ => rfl) (hv : ∀ j, Vis (F.X j).env.scope x := by first | exact fun _ => Or.inl rfl | exact fun _ => Or.inr (Or.inl rfl) | exact fun _ => Or.inr (Or.inr rfl))
    (hd : (x == ("__debug__" : Str)) = false := by decide) (hcd : (x == ("__classdict__" : Str)) = false := by decide) : QP F (.Name x pos) (dPk i) :=
  ⟨tVar i, fun j => pe_var (hN j) (hv j) hd hcd, fun G0 H0 env σ G H Q R I q r => by
    obtain ⟨v, d, e, q1, rp⟩ := I.peek q
    exact ⟨v, e, r v H G env d (Same.refl G) I rp q1⟩⟩

def CalP (K : PySem.W.Frag) (r : List V → Hp → VK → Prop) (c : D → (D → Prop) → Prop) : Prop := ∀ (G0 H0 : Hp) (env : DEnv) (σ : L2.St) (G H : Hp) (x : V) (d : D) (Q : D → Prop) (R : VK), ER K G0 H0 env σ G H → PRep K G H d x → c d Q →
  (∀ v H' G' z, Same G G' → ER K G0 H0 env σ G' H' → Rep K G' z v → Q z → R v H') → r [x] H R
def CalO (K : PySem.W.Frag) (r : List V → Hp → VK → Prop) (c : D → (D → Prop) → Prop) : Prop := ∀ (G0 H0 : Hp) (env : DEnv) (σ : L2.St) (G H : Hp) (x : V) (d : D) (Q : D → Prop) (R : VK), ER K G0 H0 env σ G H → PRep K G H d x → c d Q →
  (∀ v H' G' z, Same G G' → ER K G0 H0 env σ G' H' → OwnV K H0 env σ G' H' v z → Q z → R v H') → r [x] H R
def dCal (c : D → (D → Prop) → Prop) (t : DE) : DE := fun env Q => t env fun d env1 => c d fun z => Q z env1
section
variable {r : List V → Hp → VK → Prop} {c : D → (D → Prop) → Prop} {x : Str} {p : Pos} {id T : String}
theorem pa1 {X : Cx} {te : TE} (h : PE X e te) (hs : starEach (e :: []) X.env = (false, eval e X.env) :: starEach [] X.env) : PA X [e] (tCons te tNil) := pa_cons h pa_nil hs
theorem sem_cal {te : TE} {K : PySem.W.Frag} (hc : CalP K r c) (h : SemP K te t) : SemE K (tCB r (tCons te tNil)) (dCal c t) := fun G0 H0 env σ G H Q R I q k =>
  h G0 H0 env σ G H _ _ I q fun v H1 G1 env1 d s1 I1 r1 q1 => hc G0 H0 env1 σ G1 H1 v d _ _ I1 r1 q1 fun w H2 G2 z s2 I2 r2 q2 => k w H2 G2 env1 z (s1.trans s2) I2 r2 q2
theorem sem_calO {te : TE} {K : PySem.W.Frag} (hc : CalO K r c) (h : SemP K te t) : SemO K (tCB r (tCons te tNil)) (dCal c t) := fun G0 H0 env σ G H Q R I q k =>
  h G0 H0 env σ G H _ _ I q fun v H1 G1 env1 d s1 I1 r1 q1 => hc G0 H0 env1 σ G1 H1 v d _ _ I1 r1 q1 fun w H2 G2 z s2 I2 r2 q2 => k w H2 G2 env1 z (s1.trans s2) I2 r2 q2
theorem q_callB (hr : ∀ i, CallR (F.X i) (.builtin id) r) (hc : CalP F.K r c) (hg : ∀ i, Gl (F.X i) x) (hm : ∀ i, (F.X i).mg x = none) (hv : bootBuiltins x = some (.builtin id)) (h : QP F e t) (hn : x ≠ "__name__" := by decide) (hdb : (x == ("__debug__" : Str)) = false := by decide)
    (hs : ∀ i, starEach (e :: []) (F.X i).env = (false, eval e (F.X i).env) :: starEach [] (F.X i).env := by intro _; rfl) : QE F (.Call (.Name x p) [e] [] pos) (dCal c t) := by
  obtain ⟨te, pe, s⟩ := h
  exact ⟨_, fun i => pe_callB (hr i) (hg i) (hm i) hv (pa1 (pe i) (hs i)) hn hdb (he := hs i), sem_cal hc s⟩
theorem q_callT (hr : ∀ i, CallR (F.X i) (.type T) r) (hc : CalP F.K r c) (hg : ∀ i, Gl (F.X i) x) (hm : ∀ i, (F.X i).mg x = none) (hv : bootBuiltins x = some (.type T)) (h : QP F e t) (hn : x ≠ "__name__" := by decide) (hdb : (x == ("__debug__" : Str)) = false := by decide)
    (hs : ∀ i, starEach (e :: []) (F.X i).env = (false, eval e (F.X i).env) :: starEach [] (F.X i).env := by intro _; rfl) : QE F (.Call (.Name x p) [e] [] pos) (dCal c t) := by
  obtain ⟨te, pe, s⟩ := h
  exact ⟨_, fun i => pe_callTy (hr i) (hg i) (hm i) hv (pa1 (pe i) (hs i)) hn hdb (he := hs i), sem_cal hc s⟩
theorem qo_callB (hr : ∀ i, CallR (F.X i) (.builtin id) r) (hc : CalO F.K r c) (hg : ∀ i, Gl (F.X i) x) (hm : ∀ i, (F.X i).mg x = none) (hv : bootBuiltins x = some (.builtin id)) (h : QP F e t) (hn : x ≠ "__name__" := by decide) (hdb : (x == ("__debug__" : Str)) = false := by decide)
    (hs : ∀ i, starEach (e :: []) (F.X i).env = (false, eval e (F.X i).env) :: starEach [] (F.X i).env := by intro _; rfl) : QO F (.Call (.Name x p) [e] [] pos) (dCal c t) := by
  obtain ⟨te, pe, s⟩ := h
  exact ⟨_, fun i => pe_callB (hr i) (hg i) (hm i) hv (pa1 (pe i) (hs i)) hn hdb (he := hs i), sem_calO hc s⟩
theorem qo_callT (hr : ∀ i, CallR (F.X i) (.type T) r) (hc : CalO F.K r c) (hg : ∀ i, Gl (F.X i) x) (hm : ∀ i, (F.X i).mg x = none) (hv : bootBuiltins x = some (.type T)) (h : QP F e t) (hn : x ≠ "__name__" := by decide) (hdb : (x == ("__debug__" : Str)) = false := by decide)
    (hs : ∀ i, starEach (e :: []) (F.X i).env = (false, eval e (F.X i).env) :: starEach [] (F.X i).env := by intro _; rfl) : QO F (.Call (.Name x p) [e] [] pos) (dCal c t) := by
  obtain ⟨te, pe, s⟩ := h
  exact ⟨_, fun i => pe_callTy (hr i) (hg i) (hm i) hv (pa1 (pe i) (hs i)) hn hdb (he := hs i), sem_calO hc s⟩
end
def cLen (d : D) (Q : D → Prop) : Prop := match d with
  | .lst ds => Q (.int ds.length)
  | .tup ds => Q (.int ds.length)
  | .scr ds => Q (.int ds.length)
  | .str s => s.length ≤ sizeLine ∧ Q (.int s.length)
  | _ => False
theorem calp_len {K : PySem.W.Frag} : CalP K (fun xs H Q => ∃ x n, xs = [x] ∧ LenV K x H n ∧ Q (.int n) H) cLen := by
  intro G0 H0 env σ G H x d Q R I r q k
  cases d with
  | lst ds =>
    obtain ⟨p, vs, rfl, h1, a1⟩ := r.lst I.sub
    exact ⟨_, ds.length, rfl, .inl ⟨vs, SqL.of h1, a1.len.symm⟩, k _ H G (.int ds.length) (Same.refl G) I rfl q⟩
  | tup ds =>
    obtain ⟨p, vs, rfl, h1, a1⟩ := r.frozen (fun _ z => z)
    exact ⟨_, ds.length, rfl, .inr ⟨vs, SqT.of (I.sub _ _ h1), a1.len.symm⟩, k _ H G (.int ds.length) (Same.refl G) I rfl q⟩
  | scr ds =>
    obtain ⟨p, rfl, h1⟩ := r.frozen (fun _ z => z)
    exact ⟨_, ds.length, rfl, .inl ⟨_, I.sub.seq h1, by simp⟩, k _ H G (.int ds.length) (Same.refl G) I rfl q⟩
  | str s =>
    cases (show _ = _ from r.frozen (fun _ z => z))
    exact ⟨_, s.length, rfl, ⟨by rw [str_len]; exact q.1, (str_len s).symm⟩, k _ H G (.int s.length) (Same.refl G) I rfl q.2⟩
  | _ => exact (q : False).elim
theorem q_len {p : Pos} (hm : ∀ i, (F.X i).mg "len" = none) (h : QP F e t) (hg : ∀ i, Gl (F.X i) "len" := by exact fun _ => rfl) (hs : ∀ i, starEach (e :: []) (F.X i).env = (false, eval e (F.X i).env) :: starEach [] (F.X i).env := by intro _; rfl) : QE F (.Call (.Name "len" p) [e] [] pos) (dCal cLen t) :=
  q_callB (fun i => by have := call_len (X := F.X i); rw [F.hK] at this; exact this) calp_len hg hm boot_len h (hs := hs)
def cInt (d : D) (Q : D → Prop) : Prop := match d with
  | .int i => Q (.int i)
  | .bl b => Q (.int (if b then 1 else 0))
  | _ => False
theorem calp_int {K : PySem.W.Frag} : CalP K (fun xs H Q => (∃ i, xs = [.int i] ∧ Q (.int i) H) ∨ ∃ k, xs = [.bl k] ∧ Q (.int (if k then 1 else 0)) H) cInt := by
  intro G0 H0 env σ G H x d Q R I r q k
  cases d with
  | int i =>
    cases (show _ = _ from r.frozen (fun _ z => z))
    exact .inl ⟨i, rfl, k _ H G (.int i) (Same.refl G) I rfl q⟩
  | bl b =>
    cases (show _ = _ from r.frozen (fun _ z => z))
    exact .inr ⟨b, rfl, k _ H G (.int (if b then 1 else 0)) (Same.refl G) I rfl q⟩
  | _ => exact (q : False).elim
theorem q_intc {p : Pos} (hm : ∀ i, (F.X i).mg "int" = none) (h : QP F e t) (hg : ∀ i, Gl (F.X i) "int" := by exact fun _ => rfl) (hs : ∀ i, starEach (e :: []) (F.X i).env = (false, eval e (F.X i).env) :: starEach [] (F.X i).env := by intro _; rfl) : QE F (.Call (.Name "int" p) [e] [] pos) (dCal cInt t) :=
  q_callT (fun i => call_int1) calp_int hg hm (by decide +kernel) h (hs := hs)
def cListc (d : D) (Q : D → Prop) : Prop := match d with
  | .lst ds => Q (.lst ds)
  | .tup ds => Q (.lst ds)
  | .scr ns => Q (.lst (ns.map .int))
  | _ => False
theorem calo_list {K : PySem.W.Frag} : CalO K (fun xs H Q => ∃ p ys, xs = [.ref p] ∧ (SqL K H p ys ∨ SqT K H p ys) ∧ ∀ l, H l = none → Q (.ref l) (upd H l (.lst ys))) cListc := by
  intro G0 H0 env σ G H x d Q R I r q k
  have fin : ∀ {ds : List D} {vs : List V} {l : Addr}, Reps K G ds vs → Q (.lst ds) → H l = none → R (.ref l) (upd H l (.lst vs)) := fun {ds vs l} r q hl =>
    k _ _ G (.lst ds) (Same.refl G) (I.newH hl) (I.freshOwn hl ⟨vs, rfl, r⟩) q
  cases d with
  | lst ds =>
    obtain ⟨p, vs, rfl, h1, a1⟩ := r.lst I.sub
    exact ⟨p, vs, rfl, .inl (SqL.of h1), fun l hl => fin a1 q hl⟩
  | tup ds =>
    obtain ⟨p, vs, rfl, h1, a1⟩ := r.frozen (fun _ z => z)
    exact ⟨p, vs, rfl, .inr (SqT.of (I.sub _ _ h1)), fun l hl => fin a1 q hl⟩
  | scr ns =>
    obtain ⟨p, rfl, h1⟩ := r.frozen (fun _ z => z)
    exact ⟨p, _, rfl, .inl (I.sub.seq h1), fun l hl => fin (Reps.ints ns) q hl⟩
  | _ => exact (q : False).elim
theorem qo_list {p : Pos} (hm : ∀ i, (F.X i).mg "list" = none) (h : QP F e t) (hg : ∀ i, Gl (F.X i) "list" := by exact fun _ => rfl) (hs : ∀ i, starEach (e :: []) (F.X i).env = (false, eval e (F.X i).env) :: starEach [] (F.X i).env := by intro _; rfl) : QO F (.Call (.Name "list" p) [e] [] pos) (dCal cListc t) :=
  qo_callT (fun i => by have := call_list_of (X := F.X i); rw [F.hK] at this; exact this) calo_list hg hm (by decide +kernel) h (hs := hs)
def cTupc (d : D) (Q : D → Prop) : Prop := match d with
  | .lst ds => Q (.tup ds)
  | .tup ds => Q (.tup ds)
  | .scr ns => Q (.tup (ns.map .int))
  | _ => False
theorem calp_tuple {K : PySem.W.Frag} : CalP K (fun xs H Q => ∃ p ys, xs = [.ref p] ∧ ((SqL K H p ys ∧ ∀ l, H l = none → Q (.ref l) (upd H l (.tup ys))) ∨ (SqT K H p ys ∧ Q (.ref p) H))) cTupc := by
  intro G0 H0 env σ G H x d Q R I r q k
  have fin : ∀ {ds : List D} {vs : List V} {l : Addr}, Reps K G ds vs → Q (.tup ds) → H l = none → R (.ref l) (upd H l (.tup vs)) := fun {ds vs l} r q hl => by
    obtain ⟨I2, s2⟩ := I.new (o := .tup vs) hl
    exact k _ _ _ (.tup ds) s2 I2 ⟨l, vs, rfl, upd_same, r.mono s2⟩ q
  cases d with
  | lst ds =>
    obtain ⟨p, vs, rfl, h1, a1⟩ := r.lst I.sub
    exact ⟨p, vs, rfl, .inl ⟨SqL.of h1, fun l hl => fin a1 q hl⟩⟩
  | tup ds =>
    have r' := r.frozen (fun _ z => z)
    obtain ⟨p, vs, rfl, h1, a1⟩ := id r'
    exact ⟨p, vs, rfl, .inr ⟨SqT.of (I.sub _ _ h1), k _ H G (.tup ds) (Same.refl G) I r' q⟩⟩
  | scr ns =>
    obtain ⟨p, rfl, h1⟩ := r.frozen (fun _ z => z)
    exact ⟨p, _, rfl, .inl ⟨I.sub.seq h1, fun l hl => fin (Reps.ints ns) q hl⟩⟩
  | _ => exact (q : False).elim
theorem q_tuplec {p : Pos} (hm : ∀ i, (F.X i).mg "tuple" = none) (h : QP F e t) (hg : ∀ i, Gl (F.X i) "tuple" := by exact fun _ => rfl) (hs : ∀ i, starEach (e :: []) (F.X i).env = (false, eval e (F.X i).env) :: starEach [] (F.X i).env := by intro _; rfl) : QE F (.Call (.Name "tuple" p) [e] [] pos) (dCal cTupc t) :=
  q_callT (fun i => by have := call_tuple_of (X := F.X i); rw [F.hK] at this; exact this) calp_tuple hg hm (by decide +kernel) h (hs := hs)
/-- n.bit_length() -/
def cBits (d : D) (Q : D → Prop) : Prop := match d with
  | .int i => Q (.int (Builtin.Int.intBits i : Nat))
  | _ => False
theorem q_bits {apos : Pos} (h : QE F o t) (hbase : ∀ i, attributeBase o "bit_length" (F.X i).env (eval o (F.X i).env) = eval o (F.X i).env := by intro _; rfl) (hline : (apos.endLine == pos.line) = true := by rfl) : QE F (.Call (.Attribute o "bit_length" apos) [] [] pos) (dCal cBits t) := by
  obtain ⟨te, pe, s⟩ := h
  refine ⟨tBits te, fun i => pe_bits (pe i) (hbase i) hline, fun G0 H0 env σ G H Q R I q k => s G0 H0 env σ G H _ _ I q fun v H1 G1 env1 d s1 I1 r1 q1 => ?_⟩
  cases d with
  | int i => exact ⟨i, r1, k (.int (Builtin.Int.intBits i : Nat)) H1 G1 env1 (.int (Builtin.Int.intBits i : Nat)) s1 I1 rfl q1⟩
  | _ => exact (q1 : False).elim
end
end DL

set_option Elab.async false
set_option linter.all false
set_option maxRecDepth 100000
namespace DL
open PySem PySem.Spec PyProof.Rows L2
structure RoomG (k : Nat) (A : Around) : Prop extends Room k A where
  g : A.guards = some []
theorem RoomG.mono {j k : Nat} {A : Around} (r : RoomG k A) (h : j ≤ k) : RoomG j A := ⟨r.toRoom.mono h, r.g⟩
theorem RoomG.deeper {k : Nat} {A : Around} (r : RoomG (k + 1) A) (env : Env) : RoomG k (A.deeper env) := ⟨r.toRoom.deeper env, r.g⟩
/-- a def's promise to such a place -/
structure FnG (P : Program) (w : World) (K : PySem.W.Frag) (mg : Str → Option Value) (base : Heap) (CX : CXT) (k : Nat) (f : Addr) (fd : FuncData) (ps : List Str) (sp : Sp) : Prop where
  len : ∀ vs H Q E, sp vs H Q E → vs.length = ps.length
  run : ∀ (A : Around) (outer : List Env) (s : Shared) (H : Hp) (args : Args) (us : List Value) (vs : List V) (Q : VK) (E : XK), RoomG k A → Env0 P w K mg base A outer s H → BindsTo s fd args (ps.zip us) → Vals vs us → sp vs H Q E →
    codeAny (model P w) A (.call (.ref f) args) (CR CX outer P w H s Q E) s
section
variable {P : Program} {w : World} {K : PySem.W.Frag} {mg : Str → Option Value} {base : Heap} {CX : CXT} {k : Nat} {f : Addr} {fd : FuncData} {ps : List Str} {sp : Sp}
theorem FunD.okG {x qual : Str} {params : Arguments} {body : List Stmt} {scope : Scope} {dvs : List V} {kws : List (Str × V)} {N : List Str} (F : FunD K x qual params body scope dvs kws f fd) (Sc : FnScope N ps scope) (len : ∀ vs H Q E, sp vs H Q E → vs.length = ps.length)
    (hbody : ∀ (cdv : Value) (A : Around) (outer : List Env) (s : Shared) (H : Hp) (vs : List V) (Q : VK) (E : XK), RoomG k (A.deeper (envOfC qual scope s.heap.objs.size f cdv)) → sp vs H Q E →
      ∃ t, PSs (cxOf CX P w K mg base N qual scope f cdv A outer s H E) body t ∧ t { nx := fun _ H' => Q .non H', rt := Q } (start N vs) H) : FnG P w K mg base CX (k + 1) f fd ps sp := by
  obtain ⟨oc, od, dV, kV, doc, pm, an, cdv, ct, osl, rfl, lk, hcd, _, _⟩ := F.ex
  refine ⟨len, fun A outer s H args us vs Q E hr e0 hb r hsp => ?_⟩
  have keeps : s.heap.NoLimit ∧ K.In s.heap := ⟨e0.mod.nolimit.keeps fun b o e => (e0.bs b o e).1, e0.mod.kin.keeps fun b o e => (e0.bs b o e).1⟩
  have hkind : ∀ y ∈ ps.zip us, scope.names.lookup y.1 = some .local ∨ (scope.names.lookup y.1 = some .cell ∧ ((cellsFrom (s.heap.objs.size + 1) scope.names []).lookup y.1).isSome = true) := by
    rintro ⟨n, v⟩ hy
    cases Sc.par n (List.of_mem_zip hy).1 with
    | inl q => exact .inl q
    | inr q => exact .inr ⟨q, PySem.W.cellsFrom_some _ _ _ (.inl q)⟩
  refine codeAny_call_function hr.toRoom.depth (keeps.2 _ _ lk) rfl Sc.co Sc.gen rfl (PySem.W.codeRec_of keeps.2 hcd) (hb _ _ _ _ (wpAny_newFunctionEnv_cells Sc.kind hkind fun env he s1 x => ?_))
  subst he
  obtain ⟨t, ht, hq⟩ := hbody cdv A outer s H vs Q E (hr.deeper _) hsp
  refine ⟨keeps.1.keeps x.toInCall.keep, codeAny_func (wpAny_mono (ht.run [] s1 (start N vs) H _ (inv_start Sc hr.hd e0 (len _ _ _ _ hsp) r x) hq) (fun fl s' hs => ?_) fun _ _ hs => hs)⟩
  cases fl with
  | ret u =>
    obtain ⟨v, σ', H', J, rv, q⟩ := hs
    exact ⟨v, H', J.os, J.bare, J.base, J.hok, rv, q⟩
  | next =>
    obtain ⟨σ', H', J, q⟩ := hs
    exact ⟨.non, H', J.os, J.bare, J.base, J.hok, (rfl : RelV V.non Value.none), q⟩
  | brk => exact hs.elim fun _ h => h.elim fun _ h => h.2.elim
  | cont => exact hs.elim fun _ h => h.elim fun _ h => h.2.elim
end
section
variable {X : Cx} {CX : CXT} {k n : Nat} {f : Addr} {fd : FuncData} {ps ks : List Str} {sp : Sp} {dvs : List V} {ds : List Value} {E : XK} {x : Str} {p pos : Pos} {e : Expr} {es : List Expr} {t tk : TA} {kws : List Keyword} {g : List Value → List Value → List Value} {gV : List V → List V → List V}
theorem FnG.call {pins : List (Addr × Obj)} {σ : L2.St} {H : Hp} {s : Shared} {Q : VK} {args : Args} {us : List Value} {vs : List V} (F : FnG X.prog X.w X.K X.mg X.base CX k f fd ps sp) (hr : RoomG k X.A) (hx : Passes CX X E) (I : Inv X pins σ H s) (hb : BindsTo s fd args (ps.zip us)) (r : Vals vs us) (h : sp vs H Q E) :
    codeAny (model X.prog X.w) X.A (.call (.ref f) args) (fun r s' => match r with | .ok (.ret u) => EP X pins σ Q u s' | .ok _ => False | .error e => X.xe e s') s :=
  codeAny_mono (F.run X.A X.stack s H args us vs Q E hr I.env0 hb r h) fun r s' hq => by
    cases r with
    | error e => exact hx pins σ H s e s' I hq
    | ok fl => cases fl <;> first | exact I.after hq | exact False.elim hq
theorem pe_callG (F : FnG X.prog X.w X.K X.mg X.base CX k f fd ps sp) (hr : RoomG k X.A) (hg : Gl X x) (hm : X.mg x = some (.ref f)) (hk : PySem.W.keepIn X.K (.ref f) = true) (hb : Binds X.K fd ps ds) (hd : Vals dvs ds) (hx : Passes CX X E)
    (ha : PA X (e :: es) t) (hdb : (x == ("__debug__" : Str)) = false := by decide) (he : starEach (e :: es) X.env = (false, eval e X.env) :: starEach es X.env := by rfl) (hpl : (backTo pos (starEach es X.env)).any (·.1) = false := by rfl) :
    PE X (.Call (.Name x p) (e :: es) [] pos) (tCall sp dvs E t) :=
  ⟨fun pins s σ H Q I h => wpAny_Call_Name_kw (ld_glob I hg hm (PySem.W.callWith_K (h₀ := X.base) I.ok.mod.kin hk (thn (ha.run pos pins s σ H _ I h) fun us s1 ⟨vs, H1, I1, r, q⟩ => ⟨I1.kIn, by
    have r2 : Vals (vs ++ dvs) (us ++ ds) := r.append hd
    show wpAny _ _ (call (.ref f) us) _ _ _
    refine wpAny_call (codeAny_mono (F.call hr hx I1 (hb s1 us I1.kIn (by rw [← r2.length]; exact F.len _ _ _ _ q)) r2 q) fun r s' hq => ?_)
    cases r with
    | error e => exact hq
    | ok fl => cases fl <;> first | exact hq | exact False.elim hq⟩) he hpl) hdb)⟩
theorem callNG {pins : List (Addr × Obj)} {σ : L2.St} {H : Hp} {s : Shared} {Q : VK} {us ws : List Value} {vs zs : List V} (F : FnG X.prog X.w X.K X.mg X.base CX k f fd ps sp) (hr : RoomG k X.A) (hb : KBn X.K fd ps n ks g gV) (hx : Passes CX X E)
    (I : Inv X pins σ H s) (r : Vals vs us) (rz : Vals zs ws) (l1 : vs.length = n) (l2 : zs.length = ks.length) (h : sp (gV vs zs) H Q E) : wpAny (model X.prog X.w) X.A (call (.ref f) us (ks.zip ws)) (EP X pins σ Q) X.xe s := by
  refine wpAny_call (codeAny_mono (F.call hr hx I (hb.to s us ws I.kIn (r.length.symm.trans l1) (rz.length.symm.trans l2)) (hb.rel r rz) h) fun r s' hq => ?_)
  cases r with
  | error e => exact hq
  | ok fl => cases fl <;> first | exact hq | exact False.elim hq
theorem pe_callNG (F : FnG X.prog X.w X.K X.mg X.base CX k f fd ps sp) (hr : RoomG k X.A) (hg : Gl X x) (hm : X.mg x = some (.ref f)) (hk : PySem.W.keepIn X.K (.ref f) = true) (hb : KBn X.K fd ps n ks g gV) (hx : Passes CX X E)
    (ha : PA X (e :: es) t) (hkw : PK X kws tk) (hall : (backToKw pos (keywordEach kws X.env)).all (·.1.isSome) = true := by rfl) (hks : (backToKw pos (keywordEach kws X.env)).filterMap (·.1) = ks := by rfl)
    (hdb : (x == ("__debug__" : Str)) = false := by decide) (he : starEach (e :: es) X.env = (false, eval e X.env) :: starEach es X.env := by rfl)
    (hpl : ((backTo pos (starEach (e :: es) X.env)).any (·.1) || (backToKw pos (keywordEach kws X.env)).any (·.1.isNone)) = false := by rfl) :
    PE X (.Call (.Name x p) (e :: es) kws pos) (tCallN n ks.length sp gV E t tk) :=
  ⟨fun pins s σ H Q I h => wpAny_Call_Name_kw (ld_glob I hg hm (PySem.W.callWith_KW (h₀ := X.base) I.ok.mod.kin hk hall (thn (ha.run pos pins s σ H _ I h) fun us s1 ⟨vs, H1, I1, r, q⟩ =>
    thn (hkw.run pos pins s1 σ H1 _ I1 q) fun ws s2 ⟨zs, H2, I2, rz, l1, l2, q2⟩ => ⟨I2.kIn, by rw [hks]; exact callNG F hr hb hx I2 r rz l1 l2 q2⟩) hpl he) hdb)⟩
theorem pe_callN0G (F : FnG X.prog X.w X.K X.mg X.base CX k f fd ps sp) (hr : RoomG k X.A) (hg : Gl X x) (hm : X.mg x = some (.ref f)) (hk : PySem.W.keepIn X.K (.ref f) = true) (hb : KBn X.K fd ps 0 ks g gV) (hx : Passes CX X E)
    (hkw : PK X kws tk) (hall : (backToKw pos (keywordEach kws X.env)).all (·.1.isSome) = true := by rfl) (hks : (backToKw pos (keywordEach kws X.env)).filterMap (·.1) = ks := by rfl)
    (hdb : (x == ("__debug__" : Str)) = false := by decide)
    (hpl : ((backTo pos (starEach [] X.env)).any (·.1) || (backToKw pos (keywordEach kws X.env)).any (·.1.isNone)) = false := by rfl) :
    PE X (.Call (.Name x p) [] kws pos) (tCallN 0 ks.length sp gV E tNil tk) := by
  refine ⟨fun pins s σ H Q I h => ?_⟩
  refine wpAny_Call_Name_kw (ld_glob I hg hm ?_ hdb)
  refine PySem.W.callWith_KW0 (h₀ := X.base) I.ok.mod.kin hk hall ?_ hpl
  refine thn (hkw.run pos pins s σ H _ I (show tk σ H _ from h)) fun ws s2 ⟨zs, H2, I2, rz, l1, l2, q2⟩ => ⟨I2.kIn, ?_⟩
  rw [hks]
  exact callNG F hr hb hx I2 .nil rz rfl l2 q2
end

theorem callerG {k : Nat} (h : Room k callerA) : RoomG k callerA := ⟨h, rfl⟩
theorem law_callG {P : Program} {w : World} {K : PySem.W.Frag} {mg mb : Str → Option Value} {k : Nat} {fa a : Addr} {fd : FuncData} {x : Str} {sp : Sp} {s : Shared} {vs : List Value} {ns : List Int}
    (KX : K.In s.heap) (hns : s.heap.Ns mainGlobals mg) (hb : s.heap.Ns builtinsNs mb) (hbb : ∀ x : Str, x ≠ "__name__" → mb x = bootBuiltins x) (hlim : s.heap.NoLimit) (hg : s.gens = #[])
    (ha : s.heap.get? a = some { cls := .type "list", data := .seq vs.toArray }) (hi : IntsAre vs ns) (hl : ns.length ≤ sizeLine) (hr : Room k callerA)
    (F : ∀ base : Heap, K.In base → base.Ns mainGlobals mg → FnG P w K mg base CX0 k fa fd [x] sp) (hbind : ∀ (s : Shared) (u : Value), BindsTo s fd ⟨[u], []⟩ [(x, u)])
    (hsp : ∀ H : Hp, SqL K H a (ns.map V.int) → sp [.ref a] H (fun v _ => v = .bl true) fun _ _ _ => False) :
    codeAny (model P w) callerA (.call (.ref fa) ⟨[.ref a], []⟩) (fun r s' => r = .ok (.ret (.bool true)) ∧ OldK s.heap s'.heap ∧ s'.os = s.os ∧ AllBare s'.gens) s := by
  -- the script is frozen, if it is none of the module's own objects
  obtain ⟨H, hH, hS⟩ : ∃ H : Hp, (∀ b u, H b = some u → b = a ∧ K.lookup a = none ∧ u = .frz { cls := .type "list", data := .seq vs.toArray } (.lst (ns.map V.int))) ∧ SqL K H a (ns.map V.int) := by
    cases hk : K.lookup a with
    | none =>
      refine ⟨upd (fun _ => none) a (.frz { cls := .type "list", data := .seq vs.toArray } (.lst (ns.map V.int))), fun b u q => ?_, .inl (.inr ⟨_, upd_same⟩)⟩
      by_cases e : b = a
      · subst e; rw [upd_same] at q; cases q; exact ⟨rfl, rfl, rfl⟩
      · rw [upd_ne e] at q; cases q
    | some o =>
      have e := KX a o hk
      rw [ha] at e
      cases e
      exact ⟨fun _ => none, fun b u q => (by cases q), .inr ⟨_, vs.toArray, _, hk, rfl, rfl, rfl, by rw [List.size_toArray, hi.length]; exact hl, by simpa using vals_ints hi⟩⟩
  have hid : ∀ {b : Addr} {o : Obj}, s.heap.get? b = some o → (∀ es ep, o.data = .dict es ep → (hidT s.heap H).get? b = some o) := fun {b o} e es ep d => hidT_get e (by
    cases q : H b with
    | none => rfl
    | some u =>
      obtain ⟨rfl, _, _⟩ := hH b u q
      rw [ha] at e
      cases e
      cases (show Data.seq vs.toArray _ = Data.dict es ep from d))
  have nsH : ∀ {b : Addr} {m : Str → Option Value}, s.heap.Ns b m → (hidT s.heap H).Ns b m := fun {b m} ⟨o, es, ep, e, d, r⟩ => ⟨o, es, ep, hid e es ep d, d, r⟩
  have kH : K.In (hidT s.heap H) := fun b o e => hidT_get (KX b o e) (by
    cases q : H b with
    | none => rfl
    | some u =>
      obtain ⟨rfl, z, _⟩ := hH b u q
      rw [z] at e
      cases e)
  have okH : HOk P w H s.heap := fun b u z => by
    obtain ⟨rfl, _, rfl⟩ := hH b u z
    exact ⟨ha, by rw [List.length_map]; exact hl, vs, _, vals_ints hi, ha⟩
  have e0 : Env0 P w K mg (hidT s.heap H) callerA [] s H :=
    ⟨rfl, ⟨kH, nsH hns, ⟨mb, nsH hb, hbb⟩, let ⟨mc, h1, h2⟩ := hlim; ⟨mc, nsH h1, h2⟩⟩, fun b o e => of_hidT e, Nat.le_of_eq (hidT_size _ _), trivial, fun b hb => absurd (show b ∈ ([] : List Addr) from hb) (by simp), okH, .of_eq hg⟩
  refine codeAny_mono ((F _ kH (nsH hns)).run callerA [] s H ⟨[.ref a], []⟩ [.ref a] [.ref a] _ _ (callerG hr) e0 (hbind s (.ref a)) (.cons rfl .nil) (hsp H hS)) fun r s' h => ?_
  cases r with
  | error e => exact False.elim h
  | ok fl =>
    cases fl with
    | ret u =>
      obtain ⟨v, H', os, bare, un, hok', r', q⟩ := h
      obtain rfl : v = .bl true := q
      obtain rfl : u = Value.bool true := r'
      refine ⟨rfl, OldK.of_keep fun b o e => ?_, os, bare⟩
      cases z : H b with
      | none => exact un.keep b o e z (fun m => absurd (show b ∈ ([] : List Addr) from m) (by simp)) (by simp)
      | some u =>
        obtain ⟨rfl, _, rfl⟩ := hH b u z
        have := (hok' b _ (un.frzs b _ _ z)).1
        rw [ha] at e
        cases e
        exact this
    | _ => exact False.elim h
theorem walk_ofG {l : PySem.W.OpenLaw} {n k : Nat} {q : Program} {loose : List Str} {XP : (Str → Option Value) → Heap → Prop} {YP : World → Heap → Prop} {d : DefRec} {x : Str}
    (hn : l.most = some n) (hn2 : n ≤ sizeLine) (hdf : d.params.defaults = []) (hr : Room k callerA)
    (F : ∀ (w : World) (mg : Str → Option Value) (fa : Addr) (h : Heap), YP w h → h.Ns mainGlobals mg → mg d.name = some (.ref fa) →
      ∃ (K : PySem.W.Frag) (fd : FuncData) (sp : Sp), K.In h ∧ (∀ (s : Shared) (u : Value), BindsTo s fd ⟨[u], []⟩ [(x, u)]) ∧
        (∀ (H : Hp) (a : Addr) (ns : List Int), ns.length ≤ n → (∀ z ∈ ns, Builtin.Int.intBits z ≤ 1048576) → SqL K H a (ns.map V.int) → sp [.ref a] H (fun v _ => v = .bl true) fun _ _ _ => False) ∧
        ∀ base : Heap, K.In base → base.Ns mainGlobals mg → FnG l.prog w K mg base CX0 k fa fd [x] sp) :
    PySem.W.WalkO q loose XP YP l.row.toRowW d [] (fun f vs => PySem.call f vs) := by
  refine Att.attach_callB hn hdf fun w s₀ s₁ mg mb fa o pm cd doc a vs ns G Y ho hd hcd hmg hobj hints hlen hbits hg => ?_
  obtain ⟨K, fd, sp, KX, hb, hsp, hF⟩ := F w mg fa _ Y G.T.g hmg
  exact law_callG KX G.T.g G.T.b G.T.builtins G.T.nolimit hg hobj hints (Nat.le_trans hlen hn2) hr hF hb fun H hS => hsp H a ns hlen hbits hS
end DL

set_option Elab.async false
set_option linter.all false
set_option maxRecDepth 100000
namespace DL
open PySem PySem.Spec PyProof.Rows L2

structure DEnds where
  nx : DEnv → Prop
  rt : D → Prop
  bk : DEnv → Prop := fun _ => False
  ct : DEnv → Prop := fun _ => False
abbrev DS := DEnds → DEnv → Prop
/-- a value handed back: owned and new, or frozen -/
def RetOk (own : Bool) (K : PySem.W.Frag) (H0 G H : Hp) (v : V) (d : D) : Prop :=
  if own = true then (∃ p, v = .ref p ∧ G p = none ∧ H0 p = none ∧ OwnAt K G H p d) else Rep K G d v
structure EO (K : PySem.W.Frag) (own : Bool) (G0 H0 Gs : Hp) (D : DEnds) (E : Ends) : Prop where
  nx : ∀ env σ G H, Same Gs G → ER K G0 H0 env σ G H → D.nx env → E.nx σ H
  rt : ∀ env σ G H v d, Same Gs G → ER K G0 H0 env σ G H → RetOk own K H0 G H v d → D.rt d → E.rt v H
  bk : ∀ env σ G H, Same Gs G → ER K G0 H0 env σ G H → D.bk env → E.bk σ H
  ct : ∀ env σ G H, Same Gs G → ER K G0 H0 env σ G H → D.ct env → E.ct σ H
theorem EO.mono {K : PySem.W.Frag} {own : Bool} {G0 H0 Gs Gt : Hp} {D : DEnds} {E : Ends} (e : EO K own G0 H0 Gs D E) (s : Same Gs Gt) : EO K own G0 H0 Gt D E :=
  ⟨fun env σ G H s1 I q => e.nx env σ G H (s.trans s1) I q, fun env σ G H v d s1 I r q => e.rt env σ G H v d (s.trans s1) I r q, fun env σ G H s1 I q => e.bk env σ G H (s.trans s1) I q, fun env σ G H s1 I q => e.ct env σ G H (s.trans s1) I q⟩
def SemS (K : PySem.W.Frag) (own : Bool) (ts : TS) (t : DS) : Prop := ∀ (G0 H0 : Hp) (env : DEnv) (σ : L2.St) (G H : Hp) (D : DEnds) (E : Ends), ER K G0 H0 env σ G H → t D env → EO K own G0 H0 G D E → ts E σ H
def QS (F : Fam) (own : Bool) (st : Stmt) (t : DS) : Prop := ∃ ts : TS, (∀ i, PS (F.X i) st ts) ∧ SemS F.K own ts t
def QSs (F : Fam) (own : Bool) (st : List Stmt) (t : DS) : Prop := ∃ ts : TS, (∀ i, PSs (F.X i) st ts) ∧ SemS F.K own ts t
/-- targets -/
abbrev DG := D → DEnv → (DEnv → Prop) → Prop
def SemG (K : PySem.W.Frag) (g : TG) (t : DG) : Prop := ∀ (G0 H0 : Hp) (env : DEnv) (σ : L2.St) (G H : Hp) (v : V) (d : D) (Q : DEnv → Prop) (R : L2.St → Hp → Prop), ER K G0 H0 env σ G H → Rep K G d v → t d env Q →
  (∀ env' σ' , ER K G0 H0 env' σ' G H → Q env' → R σ' H) → g v σ H R
def QG (F : Fam) (tg : Expr) (t : DG) : Prop := ∃ g : TG, (∀ i, PG (F.X i) tg g) ∧ SemG F.K g t
abbrev DGs := List D → DEnv → (DEnv → Prop) → Prop
def SemGs (K : PySem.W.Frag) (g : TGs) (t : DGs) : Prop := ∀ (G0 H0 : Hp) (env : DEnv) (σ : L2.St) (G H : Hp) (vs : List V) (ds : List D) (Q : DEnv → Prop) (R : L2.St → Hp → Prop), ER K G0 H0 env σ G H → Reps K G ds vs → t ds env Q →
  (∀ env' σ' , ER K G0 H0 env' σ' G H → Q env' → R σ' H) → g vs σ H R
def QGs (F : Fam) (tgs : List Expr) (t : DGs) : Prop := ∃ g : TGs, (∀ i, PGs (F.X i) tgs g) ∧ SemGs F.K g t

section
variable {F : Fam} {own : Bool} {e a b c o : Expr} {es : List Expr} {te ta tb : DE} {tt : DT} {tA : DA} {pos : Pos} {st : Stmt} {sts : List Stmt} {t u : DS}
def gNm (i : Nat) : DG := fun d env Q => Q (ss env i (.fz d))
theorem qg_name (i : Nat) {x : Str} (hN : ∀ j, (F.X j).N.Nodup) (hi : ∀ j, (F.X j).N[i]? = some x := by exact fun _ => rfl) (hx : ∀ j, Loc (F.X j).env.scope x := by first | exact fun _ => Or.inl rfl | exact fun _ => Or.inr rfl)
    (hf : ∀ j, (F.X j).fn x = true ∨ (F.X j).env.scope.names.lookup x = some .local := by first | exact fun _ => .inl rfl | exact fun _ => .inr rfl) : QG F (.Name x pos) (gNm i) :=
  ⟨gName i, fun j => pg_name (hN j) (hi j) (hx j) (hf j), fun G0 H0 env σ G H v d Q R I r q k => by
    have q' : Q (ss env i (.fz d)) := q
    rw [ss_set] at q'
    exact k _ _ (I.setF r i) q'⟩
def gsN : DGs := fun ds env Q => match ds with
  | [] => Q env
  | _ => False
def gsC (t : DG) (u : DGs) : DGs := fun ds env Q => match ds with
  | d :: r => t d env fun e => u r e Q
  | _ => False
theorem qgs_nil : QGs F [] gsN := ⟨gNil, fun _ => pgs_nil, fun G0 H0 env σ G H vs ds Q R I r q k => by
  cases ds with
  | nil => cases r; exact ⟨rfl, k _ _ I q⟩
  | cons _ _ => exact (q : False).elim⟩
theorem qgs_cons {t : DG} {u : DGs} (h : QG F e t) (h2 : QGs F es u) (hs : ∀ i, (assignEach (e :: es) (F.X i).env).map (·.2) = assign e (F.X i).env :: (assignEach es (F.X i).env).map (·.2) := by intro _; rfl) : QGs F (e :: es) (gsC t u) := by
  obtain ⟨g, p, s⟩ := h
  obtain ⟨g2, p2, s2⟩ := h2
  refine ⟨gCons g g2, fun i => pgs_cons (p i) (p2 i) (hs i), fun G0 H0 env σ G H vs ds Q R I r q k => ?_⟩
  cases ds with
  | nil => exact (q : False).elim
  | cons d ds =>
    obtain ⟨v, w, rfl, r1, r2⟩ := r
    exact ⟨v, w, rfl, s G0 H0 env σ G H v d _ _ I r1 q fun env' σ' I1 q1 => s2 G0 H0 env' σ' G H w ds Q R I1 r2 q1 k⟩
/-- a, b = a tuple -/
def gTp (n : Nat) (t : DGs) : DG := fun d env Q => match d with
  | .tup ds => ds.length = n ∧ t ds env Q
  | _ => False
theorem qg_tup {k : Nat} {t : DGs} {n : Nat} (hc : ∀ i, (F.X i).calm = true) (h : QGs F es t) (hn : ∀ i, (assignEach es (F.X i).env).length = n := by intro _; rfl) (hst : ∀ i, (assignEach es (F.X i).env).findIdx? (·.1) = none := by intro _; rfl) : QG F (.Tuple es k pos) (gTp n t) := by
  obtain ⟨g, p, s⟩ := h
  refine ⟨gTup F.K n g, fun i => by have := pg_tup (pos := pos) (k := k) (hc i) (p i) (hn i) (hst i); rw [F.hK] at this; exact this, fun G0 H0 env σ G H v d Q R I r q k => ?_⟩
  cases d with
  | tup ds =>
    obtain ⟨a, vs, e1, h1, r1⟩ := r
    exact ⟨a, vs, e1, SqT.of (I.sub _ _ h1), by rw [r1.len]; exact q.1, s G0 H0 env σ G H vs ds Q R I r1 q.2 k⟩
  | _ => exact (q : False).elim

def dNext : DS := fun D env => D.nx env
def dSeq (t u : DS) : DS := fun D env => t { D with nx := u D } env
theorem qss_nil : QSs F own [] dNext := ⟨tNext, fun _ => pss_nil, fun G0 H0 env σ G H D E I q k => k.nx env σ G H (Same.refl G) I q⟩
theorem qss_one (h : QS F own st t) : QSs F own [st] t := let ⟨ts, p, s⟩ := h; ⟨ts, fun i => pss_one (p i), s⟩
theorem qss_cons (h : QS F own st t) (h2 : QSs F own sts u) : QSs F own (st :: sts) (dSeq t u) := by
  obtain ⟨ts, p, s⟩ := h
  obtain ⟨ts2, p2, s2⟩ := h2
  refine ⟨tSeq ts ts2, fun i => pss_cons (p i) (p2 i), fun G0 H0 env σ G H D E I q k => s G0 H0 env σ G H _ _ I q ⟨fun env' σ' G' H' s1 I1 q1 => ?_, k.rt, k.bk, k.ct⟩⟩
  exact s2 G0 H0 env' σ' G' H' D E I1 q1 (k.mono s1)
def dBreak : DS := fun D env => D.bk env
def dCont : DS := fun D env => D.ct env
theorem qs_pass : QS F own (.Pass pos) dNext := ⟨tNext, fun _ => ps_pass, fun G0 H0 env σ G H D E I q k => k.nx env σ G H (Same.refl G) I q⟩
theorem qs_break : QS F own (.Break pos) dBreak := ⟨tBreak, fun _ => ps_break, fun G0 H0 env σ G H D E I q k => k.bk env σ G H (Same.refl G) I q⟩
theorem qs_cont : QS F own (.Continue pos) dCont := ⟨tCont, fun _ => ps_continue, fun G0 H0 env σ G H D E I q k => k.ct env σ G H (Same.refl G) I q⟩
def dRet (t : DE) : DS := fun D env => t env fun d _ => D.rt d
theorem qs_ret (h : QE F e te) : QS F false (.Return (some e) pos) (dRet te) := by
  obtain ⟨ts, p, s⟩ := h
  exact ⟨tRet ts, fun i => ps_ret (p i), fun G0 H0 env σ G H D E I q k => s G0 H0 env σ G H _ _ I q fun v H' G' env' d s1 I1 r q1 => k.rt env' σ G' H' v d s1 I1 r q1⟩
theorem qs_retO (h : QO F e te) : QS F true (.Return (some e) pos) (dRet te) := by
  obtain ⟨ts, p, s⟩ := h
  exact ⟨tRet ts, fun i => ps_ret (p i), fun G0 H0 env σ G H D E I q k => s G0 H0 env σ G H _ _ I q fun v H' G' env' d s1 I1 r q1 => k.rt env' σ G' H' v d s1 I1 (let ⟨p, e, g, h0, ow, _⟩ := r; ⟨p, e, g, h0, ow⟩) q1⟩
def dRetN : DS := fun D _ => D.rt .non
theorem qs_retN : QS F false (.Return none pos) dRetN := ⟨tRetN, fun _ => ps_retN, fun G0 H0 env σ G H D E I q k => k.rt env σ G H .non .non (Same.refl G) I rfl q⟩
def dIfS (c : DT) (t u : DS) : DS := fun D env => c env fun b env1 => br b (t D env1) (u D env1)
theorem qs_if {x y : List Stmt} (hc : QT F c tt) (h : QSs F own x t) (h2 : QSs F own y u) : QS F own (.If c x y pos) (dIfS tt t u) := by
  obtain ⟨sc, pc, hc⟩ := hc
  obtain ⟨ts, p, s⟩ := h
  obtain ⟨ts2, p2, s2⟩ := h2
  refine ⟨tIfS sc ts ts2, fun i => ps_if (pc i) (p i) (p2 i), fun G0 H0 env σ G H D E I q k => hc G0 H0 env σ G H _ _ I q fun b H' G' env' s1 I1 q1 => ?_⟩
  cases b with
  | true => exact s G0 H0 env' σ G' H' D E I1 (br_t q1) (k.mono s1)
  | false => exact s2 G0 H0 env' σ G' H' D E I1 (br_f q1) (k.mono s1)
def dDrop (t : DE) : DS := fun D env => t env fun _ env1 => D.nx env1
theorem qs_expr (h : QE F e te) (hs : ∀ i, swapsWith e none pos.line (F.X i).env = pure false := by intro _; rfl) : QS F own (.Expr e pos) (dDrop te) := by
  obtain ⟨ts, p, s⟩ := h
  exact ⟨tDrop ts, fun i => ps_expr (p i) (hs i), fun G0 H0 env σ G H D E I q k => s G0 H0 env σ G H _ _ I q fun v H' G' env' d s1 I1 r q1 => k.nx env' σ G' H' s1 I1 q1⟩

def dSet (i : Nat) (t : DE) : DS := fun D env => t env fun d env1 => D.nx (ss env1 i (.fz d))
def dSetO (i : Nat) (t : DE) : DS := fun D env => t env fun d env1 => D.nx (ss env1 i (.ow d))
theorem qs_set (i : Nat) {x : Str} {pos' : Pos} (hN : ∀ j, (F.X j).N.Nodup) (h : QE F e te) (hi : ∀ j, (F.X j).N[i]? = some x := by exact fun _ => rfl) (hx : ∀ j, Loc (F.X j).env.scope x := by first | exact fun _ => Or.inl rfl | exact fun _ => Or.inr rfl) (hs : ∀ j, swapsWith e (some (.Name x pos')) pos.line (F.X j).env = pure false := by intro _; rfl)
    (hf : ∀ j, (F.X j).fn x = true ∨ (F.X j).env.scope.names.lookup x = some .local := by first | exact fun _ => .inl rfl | exact fun _ => .inr rfl) : QS F own (.Assign [.Name x pos'] e pos) (dSet i te) := by
  obtain ⟨ts, p, s⟩ := h
  refine ⟨tAsg ts (gName i), fun j => ps_set (hN j) (hi j) (hx j) (p j) (hs j) (hf j), fun G0 H0 env σ G H D E I q k => s G0 H0 env σ G H _ _ I q fun v H' G' env' d s1 I1 r q1 => ?_⟩
  have q' : D.nx (ss env' i (.fz d)) := q1
  rw [ss_set] at q'
  exact k.nx _ _ G' H' s1 (I1.setF r i) q'
theorem qs_setO (i : Nat) {x : Str} {pos' : Pos} (hN : ∀ j, (F.X j).N.Nodup) (h : QO F e te) (hi : ∀ j, (F.X j).N[i]? = some x := by exact fun _ => rfl) (hx : ∀ j, Loc (F.X j).env.scope x := by first | exact fun _ => Or.inl rfl | exact fun _ => Or.inr rfl) (hs : ∀ j, swapsWith e (some (.Name x pos')) pos.line (F.X j).env = pure false := by intro _; rfl)
    (hf : ∀ j, (F.X j).fn x = true ∨ (F.X j).env.scope.names.lookup x = some .local := by first | exact fun _ => .inl rfl | exact fun _ => .inr rfl) : QS F own (.Assign [.Name x pos'] e pos) (dSetO i te) := by
  obtain ⟨ts, p, s⟩ := h
  refine ⟨tAsg ts (gName i), fun j => ps_set (hN j) (hi j) (hx j) (p j) (hs j) (hf j), fun G0 H0 env σ G H D E I q k => s G0 H0 env σ G H _ _ I q fun v H' G' env' d s1 I1 r q1 => ?_⟩
  have q' : D.nx (ss env' i (.ow d)) := q1
  rw [ss_set] at q'
  exact k.nx _ _ G' H' s1 (I1.setO r i) q'
def dAsg (t : DE) (g : DG) : DS := fun D env => t env fun d env1 => g d env1 D.nx
theorem qs_asg {tg : Expr} {g : DG} (h : QE F e te) (hg : QG F tg g) (hs : ∀ i, swapsWithSole [tg] e pos.line (F.X i).env = pure false := by intro _; rfl) (hw : ∀ i, swappedStores [tg] e (F.X i).env = pure none := by intro _; rfl)
    (h1 : ∀ i, (assignEach [tg] (F.X i).env).map (·.2) = [assign tg (F.X i).env] := by intro _; rfl) : QS F own (.Assign [tg] e pos) (dAsg te g) := by
  obtain ⟨ts, p, s⟩ := h
  obtain ⟨gg, pg, sg⟩ := hg
  exact ⟨tAsg ts gg, fun i => ps_asg (p i) (pg i) (hs i) (hw i) (h1 i), fun G0 H0 env σ G H D E I q k => s G0 H0 env σ G H _ _ I q fun v H' G' env' d s1 I1 r q1 =>
    sg G0 H0 env' σ G' H' v d _ _ I1 r q1 fun env2 σ2 I2 q2 => k.nx env2 σ2 G' H' s1 I2 q2⟩

def owD : Sl → (D → Prop) → Prop
  | .ow d, Q => Q d
  | _, _ => False
theorem owD_get {env : DEnv} {i : Nat} {Q : D → Prop} (h : owD (gs env i) Q) : ∃ d, env[i]? = some (.ow d) ∧ Q d := by
  cases hg : gs env i with
  | no => rw [hg] at h; exact h.elim
  | fz d => rw [hg] at h; exact h.elim
  | me p d => rw [hg] at h; exact h.elim
  | ow d => rw [hg] at h; exact ⟨d, gs_get hg (fun z => nomatch z), h⟩
def lsD : D → (List D → Prop) → Prop
  | .lst ds, Q => Q ds
  | _, _ => False
/-- x.append(e) -/
def dApp (j : Nat) (t : DE) : DE := fun env Q => owD (gs env j) fun d0 => lsD d0 fun _ => t env fun z env1 => owD (gs env1 j) fun d => lsD d fun ds => ds.length < sizeLine ∧ Q .non (ss env1 j (.ow (.lst (ds ++ [z]))))
/-- the object of an owned name -/
theorem ER.ownedAt {K : PySem.W.Frag} {G0 H0 G H : Hp} {env : DEnv} {σ : L2.St} (I : ER K G0 H0 env σ G H) {j : Nat} {d : D} (h : env[j]? = some (.ow d)) : ∃ p o, σ[j]? = some (some (.ref p)) ∧ G p = none ∧ H p = some o ∧ Cont K G d o := by
  have l2 : j < σ.length := by rw [← I.len]; exact (List.getElem?_eq_some_iff.mp h).1
  obtain ⟨p, e, g, h0, o, ho, c⟩ := I.sl j _ _ h (List.getElem?_eq_getElem l2)
  exact ⟨p, o, by rw [List.getElem?_eq_getElem l2, e], g, ho, c⟩
theorem lsD_get {d : D} {Q : List D → Prop} (h : lsD d Q) : ∃ ds, d = .lst ds ∧ Q ds := by
  cases d with
  | lst ds => exact ⟨ds, rfl, h⟩
  | _ => exact (h : False).elim
theorem q_append (j : Nat) {x : Str} {apos npos : Pos} (h : QE F e te) (hN : ∀ i, (F.X i).N[j]? = some x := by exact fun _ => rfl) (hv : ∀ i, Vis (F.X i).env.scope x := by first | exact fun _ => Or.inl rfl | exact fun _ => Or.inr (Or.inl rfl) | exact fun _ => Or.inr (Or.inr rfl)) (hd : (x == ("__debug__" : Str)) = false := by decide) (hcd : (x == ("__classdict__" : Str)) = false := by decide)
    (hs : ∀ i, starEach (e :: []) (F.X i).env = (false, eval e (F.X i).env) :: starEach [] (F.X i).env := by intro _; rfl)
    (hbase : ∀ i, attributeBase (.Name x npos) "append" (F.X i).env (eval (.Name x npos) (F.X i).env) = eval (.Name x npos) (F.X i).env := by intro _; rfl) (hline : (apos.endLine == pos.line) = true := by rfl) :
    QE F (.Call (.Attribute (.Name x npos) "append" apos) [e] [] pos) (dApp j te) := by
  obtain ⟨ts, p, s⟩ := h
  refine ⟨tBM F.K "list" rAppend (tVar j) (tCons ts tNil), fun i => by
    have := pe_bm (X := F.X i) (apos := apos) (cpos := pos) PySem.F.plainAttrs_list PySem.F.slot_list_append PySem.F.type_list_append mt_append (pe_var (pos := npos) (hN i) (hv i) hd hcd) (pa1 (p i) (hs i)) (hs := hs i) (hbase := hbase i) (hline := hline) (hfew := by rw [hs i]; rfl)
    rw [F.hK] at this; exact this, fun G0 H0 env σ G H Q R I q k => ?_⟩
  obtain ⟨d0, h0, q⟩ := owD_get q
  obtain ⟨ds0, rfl, q⟩ := lsD_get q
  obtain ⟨p0, o0, e0, g0, ho0, vs0, rfl, _⟩ := I.ownedAt h0
  refine ⟨.ref p0, e0, .inl ⟨rfl, _, SqL.of ho0⟩, s G0 H0 env σ G H _ _ I q fun v H1 G1 env1 z s1 I1 r1 q1 => ?_⟩
  obtain ⟨d1, h1, q1⟩ := owD_get q1
  obtain ⟨ds, rfl, hz, q1⟩ := lsD_get q1
  obtain ⟨p1, o1, e1, g1, ho1, vs, rfl, c1⟩ := I1.ownedAt h1
  rw [e0] at e1
  cases e1
  obtain ⟨p2, e2, own2, I2⟩ := I1.write h1 (e := .lst (ds ++ [z])) (o := .lst (vs ++ [v])) ⟨_, rfl, c1.append (Reps.one r1)⟩
  rw [e0] at e2
  cases e2
  rw [ss_set] at q1
  exact ⟨p0, vs, v, rfl, rfl, ho1, by rw [c1.len]; exact hz, k .non _ G1 _ .non s1 I2 rfl q1⟩
/-- x[i] = e, x an owned list's name -/
def dSetI (j : Nat) (te ti : DE) : DS := fun D env => te env fun z env1 => owD (gs env1 j) fun d0 => lsD d0 fun _ => ti env1 fun i env2 => owD (gs env2 j) fun d => lsD d fun ds => match i with
  | .int i => ∃ m, ixN ds.length i = some m ∧ D.nx (ss env2 j (.ow (.lst (ds.set m z))))
  | _ => False
theorem qs_setI (j : Nat) {x : Str} {spos npos : Pos} {i : Expr} {ti : DE} (h : QE F e te) (hi : QE F i ti) (hN : ∀ i, (F.X i).N[j]? = some x := by exact fun _ => rfl) (hv : ∀ i, Vis (F.X i).env.scope x := by first | exact fun _ => Or.inl rfl | exact fun _ => Or.inr (Or.inl rfl) | exact fun _ => Or.inr (Or.inr rfl)) (hd : (x == ("__debug__" : Str)) = false := by decide) (hcd : (x == ("__classdict__" : Str)) = false := by decide)
    (ha : ∀ (k : F.ι) v, assign (.Subscript (.Name x npos) i spos) (F.X k).env v = (do
      let ov ← holding [v] (eval (.Name x npos) (F.X k).env)
      let iv ← holding [v, ov] (eval i (F.X k).env)
      standAt spos
      holding [v, ov, iv] (setItem ov iv v)
      release [v, ov, iv] []) := by intro _ _; rfl)
    (hs : ∀ k, swapsWithSole [.Subscript (.Name x npos) i spos] e pos.line (F.X k).env = pure false := by intro _; rfl) (hw : ∀ k, swappedStores [.Subscript (.Name x npos) i spos] e (F.X k).env = pure none := by intro _; rfl)
    (h1 : ∀ k, (assignEach [.Subscript (.Name x npos) i spos] (F.X k).env).map (·.2) = [assign (.Subscript (.Name x npos) i spos) (F.X k).env] := by intro _; rfl) :
    QS F own (.Assign [.Subscript (.Name x npos) i spos] e pos) (dSetI j te ti) := by
  obtain ⟨ts, p, s⟩ := h
  obtain ⟨ti', p', s'⟩ := hi
  refine ⟨tAsg ts (gSub (tVar j) ti' rSetL), fun k => ps_asg (p k) (pg_sub (pe_var (hN k) (hv k) hd hcd) (p' k) set_list (ha k)) (hs k) (hw k) (h1 k), fun G0 H0 env σ G H D E I q k => s G0 H0 env σ G H _ _ I q fun v H1 G1 env1 z s1 I1 r1 q1 => ?_⟩
  obtain ⟨d0, h0, q1⟩ := owD_get q1
  obtain ⟨ds0, rfl, q1⟩ := lsD_get q1
  obtain ⟨p0, o0, e0, g0, ho0, vs0, rfl, _⟩ := I1.ownedAt h0
  refine ⟨.ref p0, e0, s' G0 H0 env1 σ G1 H1 _ _ I1 q1 fun y H2 G2 env2 iz s2 I2 r2 q2 => ?_⟩
  obtain ⟨d1, h1', q2⟩ := owD_get q2
  obtain ⟨ds, rfl, q2⟩ := lsD_get q2
  obtain ⟨p1, o1, e1, g1, ho1, vs, rfl, c1⟩ := I2.ownedAt h1'
  rw [e0] at e1
  cases e1
  cases iz with
  | int n =>
    obtain ⟨m, hm, q2⟩ := q2
    obtain ⟨p2, e2, own2, I3⟩ := I2.write h1' (e := .lst (ds.set m z)) (o := .lst (vs.set m v)) ⟨_, rfl, c1.set m (r1.mono s2)⟩
    rw [e0] at e2
    cases e2
    rw [ss_set] at q2
    exact ⟨p0, vs, n, m, rfl, r2, ho1, by rw [c1.len]; exact hm, k.nx _ _ _ _ (s1.trans s2) I3 q2⟩
  | _ => exact (q2 : False).elim

def dWhile (c : DT) (tb : DS) : DS := fun D env => ∃ I : Nat → DEnv → Prop, (∃ m, I m env) ∧ ∀ m e, I m e → c e fun b e1 => br b (tb { nx := fun e2 => ∃ m', m' < m ∧ I m' e2, rt := D.rt, ct := fun e2 => ∃ m', m' < m ∧ I m' e2, bk := D.nx } e1) (D.nx e1)
theorem qs_while {body : List Stmt} {tb : DS} (hp : ∀ i, PassesOwn (model (F.X i).prog (F.X i).w) (F.X i).A (F.X i).env (F.X i).xe) (hc : QT F c tt) (hb : QSs F own body tb) : QS F own (.While c body [] pos) (dWhile tt tb) := by
  obtain ⟨sc, pc, hc⟩ := hc
  obtain ⟨ts, p, s⟩ := hb
  refine ⟨tWhile sc ts, fun i => ps_while (hp i) (pc i) (p i), fun G0 H0 env σ G H D E I q k => ?_⟩
  obtain ⟨J, ⟨m0, j0⟩, turn⟩ := q
  refine ⟨fun m σ' H' => ∃ env' G', Same G G' ∧ ER F.K G0 H0 env' σ' G' H' ∧ J m env', ⟨m0, env, G, Same.refl G, I, j0⟩, ?_⟩
  rintro m σ' H' ⟨env', G', s1, I1, j1⟩
  refine hc G0 H0 env' σ' G' H' _ _ I1 (turn m env' j1) fun b H2 G2 env2 s2 I2 q2 => ?_
  cases b with
  | true =>
    rw [if_pos rfl]
    have q2 := br_t q2
    refine ⟨fun σ3 H3 => ∃ m', m' < m ∧ ∃ env3 G3, Same G G3 ∧ ER F.K G0 H0 env3 σ3 G3 H3 ∧ J m' env3, fun σ3 H3 h => h, ?_⟩
    refine s G0 H0 env2 σ' G2 H2 _ _ I2 q2 ⟨fun e3 σ3 G3 H3 s3 I3 ⟨m', hm, j3⟩ => ⟨m', hm, e3, G3, s1.trans (s2.trans s3), I3, j3⟩, fun e3 σ3 G3 H3 v d s3 I3 r3 q3 => k.rt e3 σ3 G3 H3 v d (s1.trans (s2.trans s3)) I3 r3 q3,
      fun e3 σ3 G3 H3 s3 I3 q3 => k.nx e3 σ3 G3 H3 (s1.trans (s2.trans s3)) I3 q3, fun e3 σ3 G3 H3 s3 I3 ⟨m', hm, j3⟩ => ⟨m', hm, e3, G3, s1.trans (s2.trans s3), I3, j3⟩⟩
  | false =>
    rw [if_neg Bool.false_ne_true]
    exact k.nx env2 σ' G2 H2 (s1.trans s2) I2 (br_f q2)

structure ItOk (K : PySem.W.Frag) (J : It) (G : Hp) (items : List D) : Prop where
  go : ∀ i G' H', Same G G' → Same G' H' → i < items.length → J.go i H'
  stop : ∀ G' H', Same G G' → Same G' H' → J.stop items.length H'
  yld : ∀ i G' H' d x H'', Same G G' → Same G' H' → items[i]? = some d → J.yld i H' x H'' → ∃ G'', Same H' H'' ∧ (∀ b, H' b ≠ none → G'' b = G' b) ∧ Same G'' H'' ∧ Rep K G'' d x
abbrev DI := DEnv → (List D → DEnv → Prop) → Prop
def SemI (K : PySem.W.Frag) (wi : TI) (t : DI) : Prop := ∀ (G0 H0 : Hp) (env : DEnv) (σ : L2.St) (G H : Hp) (Q : List D → DEnv → Prop) (R : It → Hp → Prop), ER K G0 H0 env σ G H → t env Q →
  (∀ J H' G' env' items, Same G G' → ER K G0 H0 env' σ G' H' → ItOk K J G' items → Q items env' → R J H') → wi σ H R
def QI (F : Fam) (tg iter : Expr) (t : DI) : Prop := ∃ wi : TI, (∀ i, PI (F.X i) tg iter wi) ∧ SemI F.K wi t
def dFor (ti : DI) (g : DG) (tb : DS) : DS := fun D env => ti env fun items env1 => ∃ I : Nat → DEnv → Prop, I 0 env1 ∧ (∀ k d e, items[k]? = some d → I k e → g d e fun e2 => tb { nx := I (k + 1), rt := D.rt, ct := I (k + 1), bk := D.nx } e2) ∧ ∀ e, I items.length e → D.nx e
theorem qs_for {iter tg : Expr} {body : List Stmt} {ti : DI} {g : DG} {tb : DS} (hp : ∀ i, PassesOwn (model (F.X i).prog (F.X i).w) (F.X i).A (F.X i).env (F.X i).xe) (hc : ∀ i, (F.X i).calm = true) (hi : QI F tg iter ti) (hg : QG F tg g) (hb : QSs F own body tb)
    (hs : ∀ i x, foldedSetIterable iter (F.X i).env x = pure x := by intro _ _; rfl) : QS F own (.For tg iter body [] pos) (dFor ti g tb) := by
  obtain ⟨wi, pw, sw⟩ := hi
  obtain ⟨gg, pg, sg⟩ := hg
  obtain ⟨ts, p, s⟩ := hb
  refine ⟨tFor wi gg ts, fun i => ps_for (hp i) (hc i) (pw i) (pg i) (p i) (hs i), fun G0 H0 env σ G H D E I q k => sw G0 H0 env σ G H _ _ I q fun J H1 G1 env1 items s1 I1 ok q1 => ?_⟩
  obtain ⟨W, w0, turn, fin⟩ := q1
  refine ⟨fun i m σ' H' => m = items.length - i ∧ i ≤ items.length ∧ ∃ env' G', Same G1 G' ∧ ER F.K G0 H0 env' σ' G' H' ∧ W i env', ⟨_, rfl, Nat.zero_le _, env1, G1, Same.refl G1, I1, w0⟩, ?_⟩
  rintro i m σ' H' ⟨rfl, hi, env', G', s2, I2, w2⟩
  by_cases hlt : i < items.length
  · refine .inr ⟨ok.go i G' H' s2 I2.sub hlt, fun σ3 H3 => ∃ env3 G3, Same G1 G3 ∧ ER F.K G0 H0 env3 σ3 G3 H3 ∧ W (i + 1) env3, fun σ3 H3 ⟨env3, G3, a, b, c⟩ => ⟨items.length - (i + 1), by omega, rfl, hlt, env3, G3, a, b, c⟩, fun x H3 y => ?_⟩
    obtain ⟨G3, a1, a2, a3, a4⟩ := ok.yld i G' H' items[i] x H3 s2 I2.sub (List.getElem?_eq_getElem hlt) y
    obtain ⟨I3, s3⟩ := I2.ext a1 a2 a3
    refine sg G0 H0 env' σ' G3 H3 x items[i] _ _ I3 a4 (turn i items[i] env' (List.getElem?_eq_getElem hlt) w2) fun env4 σ4 I4 q4 => ?_
    refine s G0 H0 env4 σ4 G3 H3 _ _ I4 q4 ⟨fun e5 σ5 G5 H5 s5 I5 q5 => ⟨e5, G5, s2.trans (s3.trans s5), I5, q5⟩, fun e5 σ5 G5 H5 v d s5 I5 r5 q5 => k.rt e5 σ5 G5 H5 v d (s1.trans (s2.trans (s3.trans s5))) I5 r5 q5,
      fun e5 σ5 G5 H5 s5 I5 q5 => k.nx e5 σ5 G5 H5 (s1.trans (s2.trans (s3.trans s5))) I5 q5, fun e5 σ5 G5 H5 s5 I5 q5 => ⟨e5, G5, s2.trans (s3.trans s5), I5, q5⟩⟩
  · have e : i = items.length := by omega
    subst e
    exact .inl ⟨ok.stop G' H' s2 I2.sub, k.nx env' σ' G' H' (s1.trans s2) I2 (fin env' w2)⟩
/-- over a list or a tuple (frozen) -/
def itemsD : D → (List D → Prop) → Prop
  | .lst ds, Q => Q ds
  | .scr ns, Q => Q (ns.map .int)
  | _, _ => False
def dItL (t : DE) : DI := fun env Q => t env fun d env1 => itemsD d fun ds => Q ds env1
theorem itl_ok {K : PySem.W.Frag} {a : Addr} {G : Hp} {ds : List D} {vs : List V} (h : SqL K G a vs) (r : Reps K G ds vs) : ItOk K (Itl K a) G ds where
  go := fun i G' H' s1 s2 hi => ⟨vs, vs[i]'(by rw [r.len]; exact hi), s2.seq (s1.seq h), List.getElem?_eq_getElem _⟩
  stop := fun G' H' s1 s2 => ⟨vs, s2.seq (s1.seq h), by rw [r.len]; exact Nat.le_refl _⟩
  yld := fun i G' H' d x H'' s1 s2 hd y => by
    obtain ⟨e, y⟩ := y
    subst e
    obtain ⟨v, h1, h2⟩ := r.get hd
    have := y vs (s2.seq (s1.seq h))
    rw [h1] at this
    cases this
    exact ⟨G', Same.refl _, fun _ _ => rfl, s2, h2.mono s1⟩
theorem itt_ok {K : PySem.W.Frag} {a : Addr} {G : Hp} {ds : List D} {vs : List V} (h : SqT K G a vs) (r : Reps K G ds vs) : ItOk K (Itt K a) G ds where
  go := fun i G' H' s1 s2 hi => ⟨vs, vs[i]'(by rw [r.len]; exact hi), Same.sqt s2 (Same.sqt s1 h), List.getElem?_eq_getElem _⟩
  stop := fun G' H' s1 s2 => ⟨vs, Same.sqt s2 (Same.sqt s1 h), by rw [r.len]; exact Nat.le_refl _⟩
  yld := fun i G' H' d x H'' s1 s2 hd y => by
    obtain ⟨e, y⟩ := y
    subst e
    obtain ⟨v, h1, h2⟩ := r.get hd
    have := y vs (Same.sqt s2 (Same.sqt s1 h))
    rw [h1] at this
    cases this
    exact ⟨G', Same.refl _, fun _ _ => rfl, s2, h2.mono s1⟩
theorem qi_list {tg iter : Expr} (h : QE F iter te) : QI F tg iter (dItL te) := by
  obtain ⟨ts, p, s⟩ := h
  refine ⟨iList F.K ts, fun i => by have := pi_list (tg := tg) (p i); rw [F.hK] at this; exact this, fun G0 H0 env σ G H Q R I q k => s G0 H0 env σ G H _ _ I q fun v H1 G1 env1 d s1 I1 r1 q1 => ?_⟩
  cases d with
  | lst ds =>
    obtain ⟨a, vs, e1, h1, r1⟩ := r1
    exact ⟨a, e1, ⟨vs, SqL.of (I1.sub _ _ h1)⟩, k _ H1 G1 env1 ds s1 I1 (itl_ok (SqL.of h1) r1) q1⟩
  | scr ns =>
    obtain ⟨a, e1, h1⟩ := r1
    exact ⟨a, e1, ⟨_, I1.sub.seq h1⟩, k _ H1 G1 env1 _ s1 I1 (itl_ok h1 (Reps.ints ns)) q1⟩
  | _ => exact (q1 : False).elim
def dItT (t : DE) : DI := fun env Q => t env fun d env1 => match d with
  | .tup ds => Q ds env1
  | _ => False
theorem qi_tup {tg iter : Expr} (h : QE F iter te) : QI F tg iter (dItT te) := by
  obtain ⟨ts, p, s⟩ := h
  refine ⟨iTup F.K ts, fun i => by have := pi_tup (tg := tg) (p i); rw [F.hK] at this; exact this, fun G0 H0 env σ G H Q R I q k => s G0 H0 env σ G H _ _ I q fun v H1 G1 env1 d s1 I1 r1 q1 => ?_⟩
  cases d with
  | tup ds =>
    obtain ⟨a, vs, e1, h1, r1⟩ := r1
    exact ⟨a, e1, ⟨vs, SqT.of (I1.sub _ _ h1)⟩, k _ H1 G1 env1 ds s1 I1 (itt_ok (SqT.of h1) r1) q1⟩
  | _ => exact (q1 : False).elim
def rngD (lo : Int) (n : Nat) : List D := (List.range n).map fun (k : Nat) => D.int (lo + (k : Int))
theorem rngD_get {lo : Int} {n i : Nat} {d : D} (h : (rngD lo n)[i]? = some d) : i < n ∧ d = .int (lo + i) := by
  unfold rngD at h
  rw [List.getElem?_map] at h
  cases q : (List.range n)[i]? with
  | none => rw [q] at h; cases h
  | some j =>
    rw [q] at h
    have := List.getElem?_eq_some_iff.mp q
    obtain ⟨h1, h2⟩ := this
    rw [List.length_range] at h1
    rw [List.getElem_range] at h2
    subst h2
    exact ⟨h1, (Option.some.inj h).symm⟩
theorem rngD_len {lo : Int} {n : Nat} : (rngD lo n).length = n := by simp [rngD]
theorem itr_ok {K : PySem.W.Frag} {G : Hp} {lo : Int} {n : Nat} : ItOk K (Itr lo n) G (rngD lo n) where
  go := fun i G' H' s1 s2 hi => by rw [rngD_len] at hi; exact hi
  stop := fun G' H' s1 s2 => by rw [rngD_len]; exact Nat.le_refl _
  yld := fun i G' H' d x H'' s1 s2 hd y => by
    obtain ⟨e, y⟩ := y
    subst e
    obtain ⟨h1, rfl⟩ := rngD_get hd
    exact ⟨G', Same.refl _, fun _ _ => rfl, s2, y⟩
def dRng1 (t : DE) : DI := fun env Q => t env fun d env1 => match d with
  | .int j => -(2 ^ 62) ≤ j ∧ j < 2 ^ 62 ∧ Q (rngD 0 j.toNat) env1
  | _ => False
theorem qi_range1 {tg : Expr} {p : Pos} (hm : ∀ i, (F.X i).mg "range" = none) (h : QE F a te) (hg : ∀ i, Gl (F.X i) "range" := by exact fun _ => rfl) (hs : ∀ i, starEach (a :: []) (F.X i).env = (false, eval a (F.X i).env) :: starEach [] (F.X i).env := by intro _; rfl) : QI F tg (.Call (.Name "range" p) [a] [] pos) (dRng1 te) := by
  obtain ⟨ts, p, s⟩ := h
  refine ⟨iRng1 (tCons ts tNil), fun i => pi_range1 (hg i) (hm i) (pa1 (p i) (hs i)) (hs i), fun G0 H0 env σ G H Q R I q k => s G0 H0 env σ G H _ _ I q fun v H1 G1 env1 d s1 I1 r1 q1 => ?_⟩
  cases d with
  | int j => exact ⟨j, by rw [rep_int r1], q1.1, q1.2.1, k _ H1 G1 env1 _ s1 I1 itr_ok q1.2.2⟩
  | _ => exact (q1 : False).elim
def dRng2 (t u : DE) : DI := fun env Q => t env fun d env1 => u env1 fun d2 env2 => match d, d2 with
  | .int i, .int j => (-(2 ^ 62) ≤ i ∧ i < 2 ^ 62 ∧ -(2 ^ 62) ≤ j ∧ j < 2 ^ 62) ∧ Q (rngD i (j - i).toNat) env2
  | _, _ => False
theorem qi_range2 {tg : Expr} {p : Pos} (hm : ∀ i, (F.X i).mg "range" = none) (h : QE F a ta) (h2 : QE F b tb) (hg : ∀ i, Gl (F.X i) "range" := by exact fun _ => rfl) (hs : ∀ i, starEach [a, b] (F.X i).env = [(false, eval a (F.X i).env), (false, eval b (F.X i).env)] := by intro _; rfl) (hs2 : ∀ i, starEach [b] (F.X i).env = [(false, eval b (F.X i).env)] := by intro _; rfl) : QI F tg (.Call (.Name "range" p) [a, b] [] pos) (dRng2 ta tb) := by
  obtain ⟨ts, p, s⟩ := h
  obtain ⟨ts2, p2, s2⟩ := h2
  refine ⟨iRng2 (tCons ts (tCons ts2 tNil)), fun i => pi_range2 (hg i) (hm i) (pa_cons (p i) (pa1 (p2 i) (hs2 i)) (by rw [hs i, hs2 i])) (hs i) (hs2 i), fun G0 H0 env σ G H Q R I q k => s G0 H0 env σ G H _ _ I q fun v H1 G1 env1 d s1 I1 r1 q1 => s2 G0 H0 env1 σ G1 H1 _ _ I1 q1 fun w H2 G2 env2 d2 s3 I2 r2 q2 => ?_⟩
  cases d with
  | int i =>
    cases d2 with
    | int j => exact ⟨i, j, by rw [rep_int r1, rep_int r2], q2.1, k _ H2 G2 env2 _ (s1.trans s3) I2 itr_ok q2.2⟩
    | _ => exact (q2 : False).elim
  | _ => exact (q2 : False).elim
end

abbrev DSp := List D → (D → Prop) → Prop
/-- a def's promise over values -/
def spD (K : PySem.W.Frag) (own : Bool) (S : DSp) : Sp := fun vs H Q _ => ∃ (G : Hp) (ds : List D) (QD : D → Prop), Same G H ∧ Reps K G ds vs ∧ S ds QD ∧
  ∀ v H' G' d, Same H H' → (∀ b, H b ≠ none → G' b = G b) → Same G' H' → RetOk own K H G' H' v d → QD d → Q v H'
def startD (n : Nat) (ds : List D) : DEnv := ds.map .fz ++ List.replicate (n - ds.length) .no
theorem er_start {K : PySem.W.Frag} {G H : Hp} {N : List Str} {ds : List D} {vs : List V} (s : Same G H) (r : Reps K G ds vs) : ER K G H (startD N.length ds) (L2.start N vs) G H := by
  have hl := r.len
  refine ⟨s, Same.refl H, fun _ _ => rfl, by unfold startD L2.start; simp [hl], fun i sl x h1 h2 => ?_, fun i j sl t x _ h1 h2 => ?_⟩
  · unfold startD at h1
    unfold L2.start at h2
    by_cases hi : i < ds.length
    · rw [List.getElem?_append_left (by simpa using hi), List.getElem?_map, List.getElem?_eq_getElem hi] at h1
      rw [List.getElem?_append_left (by simpa [hl] using hi), List.getElem?_map] at h2
      obtain ⟨v, e1, e2⟩ := r.get (List.getElem?_eq_getElem hi)
      rw [e1] at h2
      cases h1; cases h2
      exact ⟨v, rfl, e2⟩
    · rw [List.getElem?_append_right (by simpa using hi)] at h1
      have : sl = .no := by
        have := List.mem_of_getElem? h1
        exact (List.mem_replicate.mp this).2
      subst this
      trivial
  · unfold startD at h1
    have := List.mem_of_getElem? h1
    rcases List.mem_append.mp this with z | z
    · obtain ⟨d, _, e⟩ := List.mem_map.mp z
      subst e
      cases h2
    · have := (List.mem_replicate.mp z).2
      subst this
      cases h2
section
variable {P : Program} {w : World} {K : PySem.W.Frag} {mg : Str → Option Value} {base : Heap}
/-- the family of a def's body -/
abbrev famOf (P : Program) (w : World) (K : PySem.W.Frag) (mg : Str → Option Value) (base : Heap) (N : List Str) (qual : Str) (scope : Scope) (f : Addr) (cd : Value) (A : Around) (outer : List Env) (s : Shared) (H : Hp) (E : XK) : Fam :=
  ⟨Unit, fun _ => (cxOf CX0 P w K mg base N qual scope f cd A outer s H E).nox, K, fun _ => rfl⟩
end
section
variable {F : Fam} {e : Expr} {es : List Expr} {tA : DA} {pos p : Pos} {k : Nat} {f : Addr} {fd : FuncData} {ps : List Str} {S : DSp} {x : Str}
def dCall (S : DSp) (t : DA) : DE := fun env Q => t env fun ds env1 => S ds fun z => Q z env1
theorem sem_call {K : PySem.W.Frag} {ta : TA} (h : SemA K ta tA) : SemE K (tCall (spD K false S) [] E0 ta) (dCall S tA) := fun G0 H0 env σ G H Q R I q kk =>
  h G0 H0 env σ G H _ _ I q fun vs H1 G1 env1 ds s1 I1 r1 q1 => ⟨G1, ds, _, I1.sub, by rw [List.append_nil]; exact r1, q1, fun v H' G' d a b c r q2 => by
    obtain ⟨I2, s2⟩ := I1.ext a b c
    exact kk v H' G' env1 d (s1.trans s2) I2 r q2⟩
theorem sem_callO {K : PySem.W.Frag} {ta : TA} (h : SemA K ta tA) : SemO K (tCall (spD K true S) [] E0 ta) (dCall S tA) := fun G0 H0 env σ G H Q R I q kk =>
  h G0 H0 env σ G H _ _ I q fun vs H1 G1 env1 ds s1 I1 r1 q1 => ⟨G1, ds, _, I1.sub, by rw [List.append_nil]; exact r1, q1, fun v H' G' d a b c r q2 => by
    obtain ⟨I2, s2⟩ := I1.ext a b c
    obtain ⟨p, rfl, g, h0, ow⟩ := r
    exact kk (.ref p) H' G' env1 d (s1.trans s2) I2 ⟨p, rfl, g, (I1.free h0).2, ow, I1.noslot h0⟩ q2⟩
/-- f(..) -/
theorem q_call (G : ∀ i, FnG (F.X i).prog (F.X i).w (F.X i).K (F.X i).mg (F.X i).base CX0 k f fd ps (spD F.K false S)) (hr : ∀ i, RoomG k (F.X i).A) (hm : ∀ i, (F.X i).mg x = some (.ref f)) (hk : PySem.W.keepIn F.K (.ref f) = true) (hb : Binds F.K fd ps [])
    (ha : QA F (e :: es) tA) (hg : ∀ i, Gl (F.X i) x := by exact fun _ => rfl) (hdb : (x == ("__debug__" : Str)) = false := by decide) (he : ∀ i, starEach (e :: es) (F.X i).env = (false, eval e (F.X i).env) :: starEach es (F.X i).env := by intro _; rfl) (hpl : ∀ i, (backTo pos (starEach es (F.X i).env)).any (·.1) = false := by intro _; rfl) :
    QE F (.Call (.Name x p) (e :: es) [] pos) (dCall S tA) := by
  obtain ⟨ts, pa, s⟩ := ha
  exact ⟨_, fun i => pe_callG (G i) (hr i) (hg i) (hm i) (by rw [F.hK]; exact hk) (by rw [F.hK]; exact hb) .nil pass0 (pa i) hdb (he i) (hpl i), sem_call s⟩
theorem qo_call (G : ∀ i, FnG (F.X i).prog (F.X i).w (F.X i).K (F.X i).mg (F.X i).base CX0 k f fd ps (spD F.K true S)) (hr : ∀ i, RoomG k (F.X i).A) (hm : ∀ i, (F.X i).mg x = some (.ref f)) (hk : PySem.W.keepIn F.K (.ref f) = true) (hb : Binds F.K fd ps [])
    (ha : QA F (e :: es) tA) (hg : ∀ i, Gl (F.X i) x := by exact fun _ => rfl) (hdb : (x == ("__debug__" : Str)) = false := by decide) (he : ∀ i, starEach (e :: es) (F.X i).env = (false, eval e (F.X i).env) :: starEach es (F.X i).env := by intro _; rfl) (hpl : ∀ i, (backTo pos (starEach es (F.X i).env)).any (·.1) = false := by intro _; rfl) :
    QO F (.Call (.Name x p) (e :: es) [] pos) (dCall S tA) := by
  obtain ⟨ts, pa, s⟩ := ha
  exact ⟨_, fun i => pe_callG (G i) (hr i) (hg i) (hm i) (by rw [F.hK]; exact hk) (by rw [F.hK]; exact hb) .nil pass0 (pa i) hdb (he i) (hpl i), sem_callO s⟩
end
end DL

set_option Elab.async false
set_option linter.all false
set_option maxRecDepth 100000
namespace DL
open PySem PySem.Spec PyProof.Rows L2
section
variable {P : Program} {w : World} {K : PySem.W.Frag} {mg : Str → Option Value} {base : Heap}
abbrev FnP (K : PySem.W.Frag) (x : Str) (st : Stmt) (f : Addr) (fd : FuncData) : Prop := FunD K x x (defArgs st) (defBody st) (defScope st) [] [] f fd
theorem FunD.okD {x qual : Str} {params : Arguments} {body : List Stmt} {scope : Scope} {dvs : List V} {kws : List (Str × V)} {f : Addr} {fd : FuncData} {N ps : List Str} {k : Nat} {own : Bool} {S : DSp} (F : FunD K x qual params body scope dvs kws f fd) (Sc : FnScope N ps scope) (len : ∀ ds Q, S ds Q → ds.length = ps.length) (t : DS)
    (hbody : ∀ (cdv : Value) (A : Around) (outer : List Env) (s : Shared) (H : Hp) (E : XK), RoomG k (A.deeper (envOfC qual scope s.heap.objs.size f cdv)) → QSs (famOf P w K mg base N qual scope f cdv A outer s H E) own body t)
    (rd : ∀ ds Q, S ds Q → t { nx := fun _ => own = false ∧ Q .non, rt := Q } (startD N.length ds)) :
    FnG P w K mg base CX0 (k + 1) f fd ps (spD K own S) := by
  refine FunD.okG F Sc (fun vs H Q E h => ?_) (fun cdv A outer s H vs Q E hr h => ?_)
  · obtain ⟨G, ds, QD, _, r, hS, _⟩ := h
    rw [r.len]
    exact len ds QD hS
  · obtain ⟨G, ds, QD, s1, r, hS, k⟩ := h
    obtain ⟨ts, p, sem⟩ := hbody cdv A outer s H E hr
    refine ⟨ts, (p ()).nox, sem G H _ _ G H _ _ (er_start s1 r) (rd ds QD hS) ⟨fun env σ G' H' s2 I q => ?_, fun env σ G' H' v d s2 I r q => k v H' G' d I.old I.gold I.sub r q, fun _ _ _ _ _ _ q => q, fun _ _ _ _ _ _ q => q⟩⟩
    obtain ⟨rfl, q⟩ := q
    exact k .non H' G' .non I.old I.gold I.sub (rfl : Rep K G' .non .non) q
end
def QK (F : Fam) (kws : List Keyword) (t : DA) : Prop := ∃ te : TA, (∀ i, PK (F.X i) kws te) ∧ SemA F.K te t
section
variable {F : Fam} {e : Expr} {es : List Expr} {kws : List Keyword} {te : DE} {tA tk : DA} {pos p kpos : Pos} {k n : Nat} {f : Addr} {fd : FuncData} {ps ks : List Str} {S : DSp} {x : Str} {nm : Option Str} {g : List Value → List Value → List Value} {gV : List V → List V → List V} {gD : List D → List D → List D}
theorem qk_nil : QK F [] dNil := ⟨tNil, fun _ => pk_nil, fun G0 H0 env σ G H Q R I q k => k [] H G env [] (Same.refl G) I rfl q⟩
theorem qk_cons (h : QE F e te) (h2 : QK F kws tk) : QK F (⟨nm, e, kpos⟩ :: kws) (dCons te tk) := by
  obtain ⟨t1, p, s⟩ := h
  obtain ⟨t2, p2, s2⟩ := h2
  exact ⟨tCons t1 t2, fun i => pk_cons (p i) (p2 i), fun G0 H0 env σ G H Q R I q k => s G0 H0 env σ G H _ _ I q fun v H1 G1 env1 d e1 I1 r1 q1 =>
    s2 G0 H0 env1 σ G1 H1 _ _ I1 q1 fun vs H2 G2 env2 ds e2 I2 r2 q2 => k (v :: vs) H2 G2 env2 (d :: ds) (e1.trans e2) I2 ⟨v, vs, rfl, r1.mono e2, r2⟩ q2⟩
/-- how the values of the arguments and of the keywords are put in the parameters' order -/
def RelG (gV : List V → List V → List V) (gD : List D → List D → List D) (n m : Nat) : Prop := ∀ (K : PySem.W.Frag) (G : Hp) (ds es : List D) (vs ws : List V), ds.length = n → es.length = m → Reps K G ds vs → Reps K G es ws → Reps K G (gD ds es) (gV vs ws)
def dCallK (n m : Nat) (gD : List D → List D → List D) (S : DSp) (t u : DA) : DE := fun env Q => t env fun ds env1 => u env1 fun es env2 => ds.length = n ∧ es.length = m ∧ S (gD ds es) fun z => Q z env2
theorem sem_callK {K : PySem.W.Frag} {ta tb : TA} {m : Nat} (hg : RelG gV gD n m) (h : SemA K ta tA) (h2 : SemA K tb tk) : SemE K (tCallN n m (spD K false S) gV E0 ta tb) (dCallK n m gD S tA tk) := fun G0 H0 env σ G H Q R I q kk =>
  h G0 H0 env σ G H _ _ I q fun vs H1 G1 env1 ds s1 I1 r1 q1 => h2 G0 H0 env1 σ G1 H1 _ _ I1 q1 fun ws H2 G2 env2 es s2 I2 r2 q2 =>
    ⟨by rw [r1.len]; exact q2.1, by rw [r2.len]; exact q2.2.1, G2, gD ds es, _, I2.sub, hg K G2 ds es vs ws q2.1 q2.2.1 (r1.mono s2) r2, q2.2.2, fun v H' G' d a b c r q3 => by
      obtain ⟨I3, s3⟩ := I2.ext a b c
      exact kk v H' G' env2 d (s1.trans (s2.trans s3)) I3 r q3⟩
theorem q_callK0 {m : Nat} (G : ∀ i, FnG (F.X i).prog (F.X i).w (F.X i).K (F.X i).mg (F.X i).base CX0 k f fd ps (spD F.K false S)) (hr : ∀ i, RoomG k (F.X i).A) (hm : ∀ i, (F.X i).mg x = some (.ref f)) (hk : PySem.W.keepIn F.K (.ref f) = true) (hb : KBn F.K fd ps 0 ks g gV) (hgD : RelG gV gD 0 m) (hkl : ks.length = m)
    (hkw : QK F kws tk) (hg : ∀ i, Gl (F.X i) x := by exact fun _ => rfl) (hall : ∀ i, (backToKw pos (keywordEach kws (F.X i).env)).all (·.1.isSome) = true := by intro _; rfl) (hks : ∀ i, (backToKw pos (keywordEach kws (F.X i).env)).filterMap (·.1) = ks := by intro _; rfl)
    (hdb : (x == ("__debug__" : Str)) = false := by decide)
    (hpl : ∀ i, ((backTo pos (starEach [] (F.X i).env)).any (·.1) || (backToKw pos (keywordEach kws (F.X i).env)).any (·.1.isNone)) = false := by intro _; rfl) :
    QE F (.Call (.Name x p) [] kws pos) (dCallK 0 m gD S dNil tk) := by
  obtain ⟨tb, pb, sb⟩ := hkw
  subst hkl
  exact ⟨_, fun i => pe_callN0G (G i) (hr i) (hg i) (hm i) (by rw [F.hK]; exact hk) (by rw [F.hK]; exact hb) pass0 (pb i) (hall i) (hks i) hdb (hpl i),
    sem_callK hgD (fun G0 H0 env σ G H Q R I q k => k [] H G env [] (Same.refl G) I rfl q) sb⟩
theorem q_callK {m : Nat} (G : ∀ i, FnG (F.X i).prog (F.X i).w (F.X i).K (F.X i).mg (F.X i).base CX0 k f fd ps (spD F.K false S)) (hr : ∀ i, RoomG k (F.X i).A) (hm : ∀ i, (F.X i).mg x = some (.ref f)) (hk : PySem.W.keepIn F.K (.ref f) = true) (hb : KBn F.K fd ps n ks g gV) (hgD : RelG gV gD n m) (hkl : ks.length = m)
    (ha : QA F (e :: es) tA) (hkw : QK F kws tk) (hg : ∀ i, Gl (F.X i) x := by exact fun _ => rfl) (hall : ∀ i, (backToKw pos (keywordEach kws (F.X i).env)).all (·.1.isSome) = true := by intro _; rfl) (hks : ∀ i, (backToKw pos (keywordEach kws (F.X i).env)).filterMap (·.1) = ks := by intro _; rfl)
    (hdb : (x == ("__debug__" : Str)) = false := by decide) (he : ∀ i, starEach (e :: es) (F.X i).env = (false, eval e (F.X i).env) :: starEach es (F.X i).env := by intro _; rfl)
    (hpl : ∀ i, ((backTo pos (starEach (e :: es) (F.X i).env)).any (·.1) || (backToKw pos (keywordEach kws (F.X i).env)).any (·.1.isNone)) = false := by intro _; rfl) :
    QE F (.Call (.Name x p) (e :: es) kws pos) (dCallK n m gD S tA tk) := by
  obtain ⟨ta, pa, sa⟩ := ha
  obtain ⟨tb, pb, sb⟩ := hkw
  subst hkl
  exact ⟨_, fun i => pe_callNG (G i) (hr i) (hg i) (hm i) (by rw [F.hK]; exact hk) (by rw [F.hK]; exact hb) pass0 (pa i) (pb i) (hall i) (hks i) hdb (he i) (hpl i), sem_callK hgD sa sb⟩
/-- keywords of a def without defaults -/
theorem kb_of {K : PySem.W.Frag} {y qual : Str} {params : Arguments} {body : List Stmt} {scope : Scope} {f : Addr} {fd : FuncData} {ps ks : List Str} {n : Nat} (F : FunD K y qual params body scope [] [] f fd) (g : {α : Type} → List α → List α → List α)
    (hrel : ∀ {vs : List V} {us : List Value} {zs : List V} {ws : List Value}, Vals vs us → Vals zs ws → Vals (g vs zs) (g us ws))
    (h : ∀ (kV doc pm : Value) (an : Option Addr) (cdv ct : Value) (us ws : List Value), us.length = n → ws.length = ks.length → bindArgs (PySem.W.fnOf y qual params body scope .none kV doc pm an cdv ct) ⟨us, ks.zip ws⟩ = pure (ps.zip (g us ws))) : KBn K fd ps n ks (fun us ws => g us ws) (fun vs zs => g vs zs) := by
  obtain ⟨oc, od, dV, kV, doc, pm, an, cdv, ct, osl, rfl, lk, hcd, hD, hK⟩ := F.ex
  rcases hD with ⟨_, rfl⟩ | ⟨e, _⟩
  · exact ⟨fun s us ws _ h1 h2 => .of_eq (h kV doc pm an cdv ct us ws h1 h2), hrel⟩
  · exact absurd rfl e
end
def spLawD : DSp := fun ds Q => ∃ ns : List Int, ds = [.scr ns] ∧ ns.length ≤ 63 ∧ Q (.bl true) ∧ ∀ z ∈ ns, Builtin.Int.intBits z ≤ 1048576
theorem law_sp {K : PySem.W.Frag} {H : Hp} {a : Addr} {ns : List Int} (hl : ns.length ≤ 63) (hb : ∀ z ∈ ns, Builtin.Int.intBits z ≤ 1048576) (hS : SqL K H a (ns.map V.int)) {E : XK} : spD K false spLawD [.ref a] H (fun v _ => v = .bl true) E :=
  ⟨H, [.scr ns], fun d => d = .bl true, Same.refl H, Reps.one ⟨a, rfl, hS⟩, ⟨ns, rfl, hl, rfl, hb⟩, fun v H' G' d _ _ _ r q => by
    subst q
    exact (r : Rep K G' (.bl true) v)⟩
end DL

set_option Elab.async false
set_option linter.all false
set_option maxRecDepth 100000
namespace DL
open PySem PySem.Spec PyProof.Rows L2
section
variable {F : Fam} {own : Bool} {e a b c o : Expr} {es : List Expr} {te ta tb : DE} {tt : DT} {tA : DA} {pos : Pos}
def iSeq (K : PySem.W.Frag) (tl : TE) : TI := fun σ H R => tl σ H fun x H1 => (∃ a, x = .ref a ∧ (∃ xs, SqL K H1 a xs) ∧ R (Itl K a) H1) ∨ (∃ a, x = .ref a ∧ (∃ xs, SqT K H1 a xs) ∧ R (Itt K a) H1) ∨ ∃ z, x = .str z ∧ R (Its z) H1
theorem pi_seq {X : Cx} {tg l : Expr} {tl : TE} (hl : PE X l tl) : PI X tg l (iSeq X.K tl) := by
  refine ⟨fun pins s σ H R I h => ?_⟩
  refine thn (hl.run pins s σ H _ I h) fun v s1 ⟨x, H1, I1, r1, q1⟩ => ?_
  rcases q1 with ⟨a, e, ⟨xs, hq⟩, q⟩ | ⟨a, e, ⟨xs, hq⟩, q⟩ | ⟨x, ex, q⟩
  · subst e
    cases r1
    obtain ⟨its, rv, p, hz⟩ := I1.list hq
    refine wpAny_pyIter_list p.isList ?_
    refine ⟨s1.heap.objs.size, [s1.heap.objs.size], _, _, H1, rfl, I1.kept (t' := s1.toks) fun b o e => Heap.get?_push_of_some _ e, turn_list a _, ⟨_, Heap.get?_push_size _ rfl, rfl, rfl⟩, fun b hb => ?_, q⟩
    have e : b = s1.heap.objs.size := by simpa using hb
    subst e
    exact I1.fpOk (Nat.le_refl _) (I1.hok.fresh (Nat.le_refl _))
  · subst e
    cases r1
    obtain ⟨its, rv, p, hz⟩ := I1.tuple hq
    refine wpAny_pyIter_tuple (show s1.heap.IsTuple a its.toArray from p) ?_
    refine ⟨s1.heap.objs.size, [s1.heap.objs.size], _, _, H1, rfl, I1.kept (t' := s1.toks) fun b o e => Heap.get?_push_of_some _ e, turn_tuple a _, ⟨_, Heap.get?_push_size _ rfl, rfl, rfl⟩, fun b hb => ?_, q⟩
    have e : b = s1.heap.objs.size := by simpa using hb
    subst e
    exact I1.fpOk (Nat.le_refl _) (I1.hok.fresh (Nat.le_refl _))
  · subst ex
    obtain ⟨t, rfl⟩ := r1
    cases ha : x.cps.all (· < 128)
    · exact wpAny_pyIter_wide ha (pi_one (tk := s1.toks) I1 _ (turn_str _ x t "str_iterator" (.inr rfl)) ⟨_, Heap.get?_push_size _ rfl, rfl, rfl⟩ q)
    · exact wpAny_pyIter_ascii ha (pi_one (tk := s1.toks) I1 _ (turn_str _ x t "str_ascii_iterator" (.inl rfl)) ⟨_, Heap.get?_push_size _ rfl, rfl, rfl⟩ q)
theorem its_ok {K : PySem.W.Frag} {G : Hp} {l : List Nat} : ItOk K (Its ⟨l.toArray⟩) G (l.map fun c => .str [c]) where
  go := fun i G' H' s1 s2 hi => by rw [List.length_map] at hi; show i < l.toArray.size; simpa using hi
  stop := fun G' H' s1 s2 => by rw [List.length_map]; show l.toArray.size ≤ l.length; simp
  yld := fun i G' H' d x H'' s1 s2 hd y => by
    obtain ⟨e, c, h1, h2⟩ := y
    subst e
    rw [List.getElem?_map] at hd
    have h1' : l[i]? = some c := by simpa using h1
    rw [h1'] at hd
    cases hd
    exact ⟨G', Same.refl _, fun _ _ => rfl, s2, h2⟩
def itemsS : D → (List D → Prop) → Prop
  | .lst ds, Q => Q ds
  | .scr ns, Q => Q (ns.map .int)
  | .tup ds, Q => Q ds
  | .str s, Q => Q (s.map fun c => .str [c])
  | _, _ => False
def dItS (t : DE) : DI := fun env Q => t env fun d env1 => itemsS d fun ds => Q ds env1
theorem qi_seq {tg iter : Expr} (h : QE F iter te) : QI F tg iter (dItS te) := by
  obtain ⟨ts, p, s⟩ := h
  refine ⟨iSeq F.K ts, fun i => by have := pi_seq (tg := tg) (p i); rw [F.hK] at this; exact this, fun G0 H0 env σ G H Q R I q k => s G0 H0 env σ G H _ _ I q fun v H1 G1 env1 d s1 I1 r1 q1 => ?_⟩
  cases d with
  | lst ds =>
    obtain ⟨a, vs, e1, h1, r1⟩ := r1
    exact .inl ⟨a, e1, ⟨vs, SqL.of (I1.sub _ _ h1)⟩, k _ H1 G1 env1 ds s1 I1 (itl_ok (SqL.of h1) r1) q1⟩
  | scr ns =>
    obtain ⟨a, e1, h1⟩ := r1
    exact .inl ⟨a, e1, ⟨_, I1.sub.seq h1⟩, k _ H1 G1 env1 _ s1 I1 (itl_ok h1 (Reps.ints ns)) q1⟩
  | tup ds =>
    obtain ⟨a, vs, e1, h1, r1⟩ := r1
    exact .inr (.inl ⟨a, e1, ⟨vs, SqT.of (I1.sub _ _ h1)⟩, k _ H1 G1 env1 ds s1 I1 (itt_ok (SqT.of h1) r1) q1⟩)
  | str z => exact .inr (.inr ⟨_, r1, k _ H1 G1 env1 _ s1 I1 its_ok q1⟩)
  | _ => exact (q1 : False).elim

inductive BT where
  | int | bool | str | list | tuple | dict
def BT.nm : BT → String
  | .int => "int" | .bool => "bool" | .str => "str" | .list => "list" | .tuple => "tuple" | .dict => "dict"
inductive Kd where
  | non | bool | int | str | tuple | list | dict
def Kd.nm : Kd → String
  | .non => "NoneType" | .bool => "bool" | .int => "int" | .str => "str" | .tuple => "tuple" | .list => "list" | .dict => "dict"
def isB2 : BT → Kd → Bool
  | .int, .int => true | .int, .bool => true | .bool, .bool => true | .str, .str => true | .list, .list => true | .tuple, .tuple => true | .dict, .dict => true
  | _, _ => false
theorem kit_kd (k : Kd) (T : BT) : kitB k.nm T.nm = some (isB2 T k) := by cases k <;> cases T <;> decide +kernel
def kdD : D → Kd
  | .non => .non | .bl _ => .bool | .int _ => .int | .str _ => .str | .tup _ => .tuple | .lst _ => .list | .scr _ => .list | .dk _ _ => .dict | .dt _ _ => .dict | .ins _ _ _ => .non | .exc _ _ _ => .non
def isBT (T : BT) (d : D) : Bool := isB2 T (kdD d)
def plainD : D → Bool
  | .ins _ _ _ => false
  | .exc _ _ _ => false
  | .scr _ => false
  | _ => true
def cIsi (T : BT) (d : D) (Q : D → Prop) : Prop := plainD d = true ∧ Q (.bl (isBT T d))
theorem tyx_of {K : PySem.W.Frag} {G H : Hp} (s : Same G H) {d : D} {v : V} (r : Rep K G d v) (h : plainD d = true) : TyX K H v (.type (kdD d).nm) := by
  cases d with
  | non => cases (show _ = _ from r); exact .base .non
  | bl b => cases (show _ = _ from r); exact .base (.bl b)
  | int b => cases (show _ = _ from r); exact .base (.int b)
  | str b => cases (show _ = _ from r); exact .base (.str _)
  | tup ds =>
    obtain ⟨a, vs, rfl, h1, _⟩ := r
    rcases (SqT.of (s _ _ h1) : SqT K H _ _) with (z | ⟨o, z⟩) | ⟨o, its, n, z, c, _⟩
    · exact .base (.tup z)
    · exact .fTuple z
    · exact .kTuple z c
  | lst ds =>
    obtain ⟨a, vs, rfl, h1, _⟩ := r
    exact .base (.lst (s _ _ h1))
  | dk ks ds =>
    obtain ⟨a, vs, rfl, h1, _⟩ := r
    exact .base (.dK (s _ _ h1))
  | dt ks ds =>
    obtain ⟨a, vs, rfl, h1, _⟩ := r
    exact .base (.dT (s _ _ h1))
  | scr _ => cases h
  | ins _ _ _ => cases h
  | exc _ _ _ => cases h
theorem q_isi (T : BT) {x : Str} {p q : Pos} (hm : ∀ i, (F.X i).mg "isinstance" = none) (hmT : ∀ i, (F.X i).mg x = none) (hv : bootBuiltins x = some (.type T.nm)) (h : QE F e te) (hg : ∀ i, Gl (F.X i) "isinstance" := by exact fun _ => rfl) (hgT : ∀ i, Gl (F.X i) x := by exact fun _ => rfl) (hn : x ≠ "__name__" := by decide) (hd : (x == ("__debug__" : Str)) = false := by decide)
    (hs : ∀ i, starEach [e, .Name x q] (F.X i).env = (false, eval e (F.X i).env) :: starEach [.Name x q] (F.X i).env := by intro _; rfl) : QE F (.Call (.Name "isinstance" p) [e, .Name x q] [] pos) (dCal (cIsi T) te) := by
  obtain ⟨ts, pe, s⟩ := h
  refine ⟨tCB (rIsi F.K) (tCons ts (tCons (tC (.ty T.nm)) tNil)), fun i => ?_, fun G0 H0 env σ G H Q R I q k => s G0 H0 env σ G H _ _ I q fun v H1 G1 env1 d s1 I1 r1 q1 => ?_⟩
  · have := pe_callB (X := F.X i) (pos := pos) (p := p) call_isi (hg i) (hm i) (by decide +kernel) (pa_cons (pe i) (pa_cons (pe_bltn (v := .ty T.nm) (pos := q) (hgT i) (hmT i) hv rfl hn hd) pa_nil) (hs i)) (he := hs i)
    rw [F.hK] at this
    exact this
  · have ty := tyx_of I1.sub r1 q1.1
    exact ⟨v, .ty T.nm, _, .type T.nm, _, rfl, .ty _, ty, kit_ty (kit_kd _ T), k _ H1 G1 env1 (.bl (isBT T d)) s1 I1 rfl q1.2⟩

def dCal2 (c : D → D → (D → Prop) → Prop) (ta tb : DE) : DE := dOp c ta tb
def cMax (x y : D) (Q : D → Prop) : Prop := match x, y with
  | .int i, .int j => Q (.int (max i j))
  | _, _ => False
def cMin (x y : D) (Q : D → Prop) : Prop := match x, y with
  | .int i, .int j => Q (.int (min i j))
  | _, _ => False
theorem q_max2 {p : Pos} (hc : ∀ i, (F.X i).calm = true) (hm : ∀ i, (F.X i).mg "max" = none) (ha : QE F a ta) (hb : QE F b tb) (hg : ∀ i, Gl (F.X i) "max" := by exact fun _ => rfl) (hs : ∀ i, starEach [a, b] (F.X i).env = (false, eval a (F.X i).env) :: starEach [b] (F.X i).env := by intro _; rfl) (hs2 : ∀ i, starEach (b :: []) (F.X i).env = (false, eval b (F.X i).env) :: starEach [] (F.X i).env := by intro _; rfl)
    (hpl : ∀ i, (backTo pos (starEach [b] (F.X i).env)).any (·.1) = false := by intro _; rfl) : QE F (.Call (.Name "max" p) [a, b] [] pos) (dOp cMax ta tb) := by
  obtain ⟨sa, pa, ha⟩ := ha
  obtain ⟨sb, pb, hb⟩ := hb
  refine ⟨_, fun i => pe_callB (call_max2 (hc i)) (hg i) (hm i) (by decide +kernel) (pa_cons (pa i) (pa1 (pb i) (hs2 i)) (hs i)) (he := hs i) (hpl := hpl i), fun G0 H0 env σ G H Q R I q k => ?_⟩
  refine ha G0 H0 env σ G H _ _ I q fun x H1 G1 env1 d s1 I1 r1 q1 => hb G0 H0 env1 σ G1 H1 _ _ I1 q1 fun y H2 G2 env2 f s2 I2 r2 q2 => ?_
  cases d with
  | int i =>
    cases f with
    | int j =>
      refine ⟨i, j, by rw [rep_int r1, rep_int r2], k _ H2 G2 env2 (.int (max i j)) (s1.trans s2) I2 ?_ q2⟩
      show V.int _ = V.int _
      congr 1
      split <;> omega
    | _ => exact (q2 : False).elim
  | _ => exact (q2 : False).elim
theorem q_min2 {p : Pos} (hc : ∀ i, (F.X i).calm = true) (hm : ∀ i, (F.X i).mg "min" = none) (ha : QE F a ta) (hb : QE F b tb) (hg : ∀ i, Gl (F.X i) "min" := by exact fun _ => rfl) (hs : ∀ i, starEach [a, b] (F.X i).env = (false, eval a (F.X i).env) :: starEach [b] (F.X i).env := by intro _; rfl) (hs2 : ∀ i, starEach (b :: []) (F.X i).env = (false, eval b (F.X i).env) :: starEach [] (F.X i).env := by intro _; rfl)
    (hpl : ∀ i, (backTo pos (starEach [b] (F.X i).env)).any (·.1) = false := by intro _; rfl) : QE F (.Call (.Name "min" p) [a, b] [] pos) (dOp cMin ta tb) := by
  obtain ⟨sa, pa, ha⟩ := ha
  obtain ⟨sb, pb, hb⟩ := hb
  refine ⟨_, fun i => pe_callB (call_min2 (hc i)) (hg i) (hm i) (by decide +kernel) (pa_cons (pa i) (pa1 (pb i) (hs2 i)) (hs i)) (he := hs i) (hpl := hpl i), fun G0 H0 env σ G H Q R I q k => ?_⟩
  refine ha G0 H0 env σ G H _ _ I q fun x H1 G1 env1 d s1 I1 r1 q1 => hb G0 H0 env1 σ G1 H1 _ _ I1 q1 fun y H2 G2 env2 f s2 I2 r2 q2 => ?_
  cases d with
  | int i =>
    cases f with
    | int j =>
      refine ⟨i, j, by rw [rep_int r1, rep_int r2], k _ H2 G2 env2 (.int (min i j)) (s1.trans s2) I2 ?_ q2⟩
      show V.int _ = V.int _
      congr 1
      split <;> omega
    | _ => exact (q2 : False).elim
  | _ => exact (q2 : False).elim
end
end DL

set_option Elab.async false
set_option linter.all false
set_option maxRecDepth 100000
namespace DL
open PySem PySem.Spec PyProof.Rows L2
theorem strs_of_map {G : Hp} {K : PySem.W.Frag} : ∀ {ls : List (List Nat)} {vs : List V}, Reps K G (ls.map .str) vs → vs = (ls.map fun l => (⟨l.toArray⟩ : Str)).map V.str
  | [], vs, h => h
  | l :: ls, vs, ⟨v, r, e1, a, b⟩ => by
    subst e1
    rw [strs_of_map b, rep_str a]
    rfl
theorem join_rev {prog : Program} {w : World} {A : Around} {E : Value → Shared → Prop} {s : Shared} {x : Str} {t : Tok} {it l : Addr} {items : Array Value} {ys : List Str} {Q : Value → Shared → Prop} (hh : A.handled = none) (hit : s.heap.IsRevIter it l ((items.size : Int) - 1)) (hl : s.heap.IsList l items) (hne : l ≠ it) (hn : items.size ≤ sizeLine)
    (hi : StrsAre items.toList.reverse ys) (hok : (ys.map (·.length)).sum + ys.length * x.length ≤ 16777216) (hq : ∀ h' t' k, (∀ b o, b ≠ it → s.heap.get? b = some o → h'.get? b = some o) → Q (.str (Txt.join x ys) t') { s with heap := h', toks := k }) :
    wpAny (model prog w) A (call (.builtin "str.join") [.str x t, .ref it]) Q E s := by
  refine wpAny_call (codeAny_call_builtin PySem.F.slot_str_join.plain PySem.F.entry_str_join (PySem.F.slot_str_join.check _ _ _ _ _ _ _ _ (typeIs_str _ _ _) (PySem.F.args_str_join_2 _ _) ?_))
  rw [join_tree_other]
  refine wpAny_bind (wpAny_typeOf hit.typeIs ?_)
  show wpAny _ A.in1 ((pyIter (.ref it)).tryCatch _ >>= fun it => collect it >>= fun items => joinTail x items) _ _ s
  refine wpAny_bind (wpAny_tryCatch (wpAny_pyIter_revIter hit ?_))
  refine wpAny_bind (RT.collect_rev (A := A.in1) hh hit hl hne hn fun h' tk acc hk hacc => ?_)
  have e : acc.toList = items.toList.reverse := by
    obtain ⟨h1, h2⟩ := hacc
    refine List.ext_getElem? fun i => ?_
    rw [Array.getElem?_toList]
    by_cases hi : i < items.size
    · have hi' : i < acc.size := by omega
      have := h2 i acc[i] (Array.getElem?_eq_getElem hi')
      rw [Array.getElem?_eq_getElem hi', ← this, List.getElem?_reverse (by simpa using hi)]
      simp
    · rw [Array.getElem?_eq_none (by omega), List.getElem?_eq_none (by simp; omega)]
  rw [e]
  obtain ⟨l2, hl2, ht⟩ := strsAre_values hi
  subst ht
  rw [hl2]
  have hok' := joinOk_of hok
  unfold JoinOk at hok'
  rw [Bool.not_eq_true'] at hok'
  have g : Gives (joinTail x (strValues l2)) (joinMade x l2) := by
    have g0 := gives_joinTail x l2 hok'
    cases l2 with
    | nil => exact g0
    | cons p r => cases r with
      | nil => exact g0
      | cons q r' => exact g0
  exact g prog w A (wants Q E) _ (post_join l2 ⟨joinFit_length hok', fun t' k => hq h' t' k hk⟩)
def tJoinRev (K : PySem.W.Frag) (to : TE) (ta : TA) : TE := fun σ H Q => to σ H fun x H1 => (∃ a, x = .str a) ∧ ta σ H1 fun vs H2 => ∃ (a : Str) (q : Addr) (ys : List Str),
  x = .str a ∧ vs = [.ref q] ∧ SqL K H2 q (ys.map V.str) ∧ (ys.map (·.length)).sum + ys.length * a.length ≤ 16777216 ∧ Q (.str (Txt.join a ys.reverse)) H2
theorem sum_rev (ys : List Str) : (ys.reverse.map (·.length)).sum = (ys.map (·.length)).sum := by
  rw [List.map_reverse, List.sum_reverse]
theorem pe_joinRev {X : Cx} {o e : Expr} {to : TE} {ta : TA} {apos pos p pos2 : Pos} (hc : X.calm = true) (ho : PE X o to) (hg : Gl X "reversed") (hm : X.mg "reversed" = none) (ha : PA X [e] ta)
    (hs1 : starEach [.Call (.Name "reversed" p) [e] [] pos2] X.env = [(false, eval (.Call (.Name "reversed" p) [e] [] pos2) X.env)] := by rfl) (hs : starEach [e] X.env = [(false, eval e X.env)] := by rfl)
    (hbase : attributeBase o "join" X.env (eval o X.env) = eval o X.env := by rfl) (hline : (apos.endLine == pos.line) = true := by rfl) :
    PE X (.Call (.Attribute o "join" apos) [.Call (.Name "reversed" p) [e] [] pos2] [] pos) (tJoinRev X.K to ta) := by
  refine ⟨fun pins s σ H Q I h => ?_⟩
  refine PySem.Call_method1 hbase hs1 hline (thn (ho.run pins s σ H _ I h) fun v s1 ⟨x, H1, I1, r1, q1⟩ => ?_)
  obtain ⟨⟨a, rfl⟩, q1⟩ := q1
  obtain ⟨t, rfl⟩ := _root_.id r1
  refine ⟨"str", _, PySem.F.plainAttrs_str, PySem.F.slot_str_join, PySem.F.type_str_join, typeIs_str _ _ _, (fun _ e => nomatch e), Calls.callWith_builtin rfl (Calls.evalArgs_plain (Calls.spliced_cons ?_))⟩
  refine Call_ (ld_blt I1 hg hm PyProof.Rows.boot_reversed (PyProof.Rows.callWith_type1 (thn (ha.run pos2 pins s1 σ H1 _ I1 q1) fun us s2 ⟨vs, H2, I2, r2, q2⟩ => ?_) hs rfl))
  obtain ⟨a', q, ys, ea, rfl, hq, hz, q3⟩ := q2
  cases ea
  cases r2 with
  | cons r rr =>
    cases rr
    cases r
    obtain ⟨its, rv, pl, hsz⟩ := I2.list hq
    have hlen : its.length = ys.length := by have := rv.length; simp at this; omega
    have hlt : q < s2.heap.objs.size := by obtain ⟨o, n, ho, _⟩ := pl; exact Heap.lt_size ho
    refine call_reversed_list pl.isList (Calls.spliced_nil ?_)
    refine join_rev (I2.ok.hd hc) ⟨_, Heap.get?_push_size _ rfl, rfl, rfl⟩ (pl.isList.push _) (Nat.ne_of_lt hlt) (by simp only [List.size_toArray]; rw [← rv.length]; exact hsz) (ys := ys.reverse) ?_ (by rw [sum_rev, List.length_reverse]; exact hz) fun h' t' k hk => ?_
    · rw [List.toList_toArray]
      have : Vals ((ys.reverse).map V.str) its.reverse := by rw [List.map_reverse]; exact Vals.reverse rv
      exact strs_of_vals this
    · exact ⟨.str _, H2, I2.kept (t' := k) fun b o e => hk b o (Nat.ne_of_lt (Heap.lt_size e)) (Heap.get?_push_of_some _ e), ⟨t', rfl⟩, q3⟩
/-- joined -/
def joinL (sep : List Nat) : List (List Nat) → List Nat
  | [] => []
  | [x] => x
  | x :: y :: r => x ++ sep ++ joinL sep (y :: r)
theorem joinL_nil : ∀ ls : List (List Nat), joinL [] ls = ls.flatten
  | [] => rfl
  | [x] => by simp [joinL]
  | x :: y :: r => by
    have := joinL_nil (y :: r)
    simp only [joinL, List.append_nil, this, List.flatten_cons]
theorem joinL_cons (sep x : List Nat) : ∀ ls : List (List Nat), joinL sep (x :: ls) = x ++ (ls.map fun l => sep ++ l).flatten
  | [] => by simp [joinL]
  | y :: r => by
    have := joinL_cons sep y r
    simp only [joinL, this, List.map_cons, List.flatten_cons, List.append_assoc]
theorem foldl_app (sep : List Nat) : ∀ (ls : List (List Nat)) (acc : Array Nat), ((ls.map fun l => (⟨l.toArray⟩ : Str)).foldl (fun acc p => acc ++ (⟨sep.toArray⟩ : Str).cps ++ p.cps) acc) = acc ++ ((ls.map fun l => sep ++ l).flatten).toArray
  | [], acc => by simp
  | l :: ls, acc => by
    rw [List.map_cons, List.foldl_cons, foldl_app sep ls, List.map_cons, List.flatten_cons]
    apply Array.ext'
    simp
theorem join_codes (sep : List Nat) : ∀ ls : List (List Nat), Txt.join (⟨sep.toArray⟩ : Str) (ls.map fun l => (⟨l.toArray⟩ : Str)) = ⟨(joinL sep ls).toArray⟩
  | [] => rfl
  | x :: ls => by
    rw [joinL_cons]
    show (⟨((List.drop 1 (List.map _ (x :: ls))).foldl _ _)⟩ : Str) = _
    have e : List.drop 1 (List.map (fun l => (⟨l.toArray⟩ : Str)) (x :: ls)) = ls.map fun l => (⟨l.toArray⟩ : Str) := rfl
    rw [e, foldl_app sep ls]
    congr 1
    show x.toArray ++ _ = _
    apply Array.ext'
    simp
theorem sum_codes (ls : List (List Nat)) : (((ls.map fun l => (⟨l.toArray⟩ : Str))).map (·.length)).sum = (ls.map List.length).sum := by
  rw [List.map_map]
  exact congrArg List.sum (List.map_congr_left fun l _ => str_len l)
section
variable {F : Fam} {o e : Expr} {to te : DE} {pos : Pos}
/-- sep.join(xs), sep.join(reversed(xs)) -/
def joinOk (rev : Bool) (s d : D) (Q : D → Prop) : Prop := match s, d with
  | .str s, .lst ds => ∃ ls : List (List Nat), ds = ls.map .str ∧ (ls.map List.length).sum + ls.length * s.length ≤ 16777216 ∧ Q (.str (joinL s (if rev then ls.reverse else ls)))
  | .str s, .tup ds => rev = false ∧ ∃ ls : List (List Nat), ds = ls.map .str ∧ (ls.map List.length).sum + ls.length * s.length ≤ 16777216 ∧ Q (.str (joinL s ls))
  | _, _ => False
def isStrD (s : D) (P : Prop) : Prop := match s with
  | .str _ => P
  | _ => False
def dJoin (rev : Bool) (to te : DE) : DE := fun env Q => to env fun s env1 => isStrD s (te env1 fun d env2 => joinOk rev s d fun z => Q z env2)
def rJn (K : PySem.W.Frag) : V → List V → Hp → VK → Prop := fun x xs H Q => ∃ a p, ∃ ys : List Str, x = .str a ∧ xs = [.ref p] ∧ (SqL K H p (ys.map V.str) ∨ SqT K H p (ys.map V.str)) ∧ (ys.map (·.length)).sum + ys.length * a.length ≤ 16777216 ∧ Q (.str (Txt.join a ys)) H
theorem q_join {apos : Pos} (ho : QE F o to) (he : QP F e te) (hs : ∀ i, starEach [e] (F.X i).env = [(false, eval e (F.X i).env)] := by intro _; rfl) (hbase : ∀ i, attributeBase o "join" (F.X i).env (eval o (F.X i).env) = eval o (F.X i).env := by intro _; rfl) (hline : (apos.endLine == pos.line) = true := by rfl) :
    QE F (.Call (.Attribute o "join" apos) [e] [] pos) (dJoin false to te) := by
  obtain ⟨so, po, ho⟩ := ho
  obtain ⟨se, pe, he⟩ := he
  refine ⟨tM1 (rJn F.K) so se, fun i => by have := pe_join (po i) (pe i) (hs i) (hbase i) hline; rw [F.hK] at this; exact this, fun G0 H0 env σ G H Q R I q k => ho G0 H0 env σ G H _ _ I q fun x H1 G1 env1 d s1 I1 r1 q1 => ?_⟩
  cases d with
  | str s =>
    refine ⟨⟨_, rep_str r1⟩, he G0 H0 env1 σ G1 H1 _ _ I1 q1 fun y H2 G2 env2 d2 s2 I2 r2 q2 => ?_⟩
    cases d2 with
    | lst ds =>
      obtain ⟨ls, rfl, hz, q⟩ := q2
      obtain ⟨p, vs, rfl, h1, a1⟩ := r2.lst I2.sub
      rw [strs_of_map a1] at h1
      refine ⟨_, p, _, rep_str r1, rfl, .inl (SqL.of h1), by rw [sum_codes, List.length_map, str_len]; exact hz, ?_⟩
      rw [join_codes]
      exact k _ H2 G2 env2 (.str (joinL s ls)) (s1.trans s2) I2 rfl q
    | tup ds =>
      obtain ⟨_, ls, rfl, hz, q⟩ := q2
      obtain ⟨p, vs, rfl, h1, a1⟩ := r2.frozen (fun _ z => z)
      rw [strs_of_map a1] at h1
      refine ⟨_, p, _, rep_str r1, rfl, .inr (SqT.of (I2.sub _ _ h1)), by rw [sum_codes, List.length_map, str_len]; exact hz, ?_⟩
      rw [join_codes]
      exact k _ H2 G2 env2 (.str (joinL s ls)) (s1.trans s2) I2 rfl q
    | _ => exact (q2 : False).elim
  | _ => exact (q1 : False).elim
theorem q_joinrev {apos p pos2 : Pos} (hc : ∀ i, (F.X i).calm = true) (hm : ∀ i, (F.X i).mg "reversed" = none) (ho : QE F o to) (he : QP F e te) (hg : ∀ i, Gl (F.X i) "reversed" := by exact fun _ => rfl) (hs1 : ∀ i, starEach [.Call (.Name "reversed" p) [e] [] pos2] (F.X i).env = [(false, eval (.Call (.Name "reversed" p) [e] [] pos2) (F.X i).env)] := by intro _; rfl) (hs : ∀ i, starEach [e] (F.X i).env = [(false, eval e (F.X i).env)] := by intro _; rfl)
    (hbase : ∀ i, attributeBase o "join" (F.X i).env (eval o (F.X i).env) = eval o (F.X i).env := by intro _; rfl) (hline : (apos.endLine == pos.line) = true := by rfl) :
    QE F (.Call (.Attribute o "join" apos) [.Call (.Name "reversed" p) [e] [] pos2] [] pos) (dJoin true to te) := by
  obtain ⟨so, po, ho⟩ := ho
  obtain ⟨se, pe, he⟩ := he
  refine ⟨tJoinRev F.K so (tCons se tNil), fun i => by have := pe_joinRev (hc i) (po i) (hg i) (hm i) (pa1 (pe i) (hs i)) (hs1 i) (hs i) (hbase i) hline; rw [F.hK] at this; exact this, fun G0 H0 env σ G H Q R I q k => ho G0 H0 env σ G H _ _ I q fun x H1 G1 env1 d s1 I1 r1 q1 => ?_⟩
  cases d with
  | str s =>
    refine ⟨⟨_, rep_str r1⟩, he G0 H0 env1 σ G1 H1 _ _ I1 q1 fun y H2 G2 env2 d2 s2 I2 r2 q2 => ?_⟩
    cases d2 with
    | lst ds =>
      obtain ⟨ls, rfl, hz, q⟩ := q2
      obtain ⟨p, vs, rfl, h1, a1⟩ := r2.lst I2.sub
      rw [strs_of_map a1] at h1
      refine ⟨_, p, _, rep_str r1, rfl, SqL.of h1, by rw [sum_codes, List.length_map, str_len]; exact hz, ?_⟩
      rw [← List.map_reverse, join_codes]
      exact k _ H2 G2 env2 (.str (joinL s ls.reverse)) (s1.trans s2) I2 rfl q
    | tup ds => exact (Bool.noConfusion (q2.1 : true = false))
    | _ => exact (q2 : False).elim
  | _ => exact (q1 : False).elim
end
end DL

set_option Elab.async false
set_option linter.all false
set_option maxRecDepth 100000
namespace DL
open PySem PySem.Spec PyProof.Rows L2
inductive SK where
  | l (a : Addr) | t (a : Addr) | s (x : Str) (tk : Tok)
def SK.st (h : Heap) (it : Addr) (i : Nat) : SK → Prop
  | .l a => h.IsListIter it a i
  | .t a => h.IsTupleIter it a i
  | .s x tk => h.IsStrIter it (strIterType x) x tk i
def SK.ok (K : PySem.W.Frag) (H : Hp) (vs : List V) : SK → Prop
  | .l a => SqL K H a vs
  | .t a => SqT K H a vs
  | .s x _ => vs = x.cps.toList.map fun c => V.str ⟨#[c]⟩
def SK.src : SK → Option Addr
  | .l a => some a
  | .t a => some a
  | .s _ _ => none
theorem SK.ok.same {K : PySem.W.Frag} {H H' : Hp} {vs : List V} (e : Same H H') : ∀ {k : SK}, k.ok K H vs → k.ok K H' vs
  | .l _, h => e.seq h
  | .t _, h => Same.sqt e h
  | .s _ _, h => h
theorem SK.st_obj {h : Heap} {it : Addr} {i : Nat} : ∀ {k : SK}, k.st h it i → ∃ o, h.get? it = some o ∧ ∀ v, o.data ≠ .cell v
  | .l _, ⟨o, e, _, d⟩ => ⟨o, e, fun v q => by rw [d] at q; cases q⟩
  | .t _, ⟨o, e, _, d⟩ => ⟨o, e, fun v q => by rw [d] at q; cases q⟩
  | .s _ _, ⟨o, e, _, d⟩ => ⟨o, e, fun v q => by rw [d] at q; cases q⟩
theorem SK.st_at {h h' : Heap} {it : Addr} {i : Nat} (e : ∀ o, h.get? it = some o → h'.get? it = some o) : ∀ {k : SK}, k.st h it i → k.st h' it i
  | .l _, st => Heap.IsListIter.at st e
  | .t _, ⟨o, q, r⟩ => ⟨o, e o q, r⟩
  | .s _ _, ⟨o, q, r⟩ => ⟨o, e o q, r⟩
section
variable {X : Cx} {pins : List (Addr × Obj)} {σ : L2.St} {H : Hp} {s : Shared}
theorem src_ne {k : SK} {vs : List V} (I : L2.Inv X pins σ H s) (ok : k.ok X.K H vs) {b : Addr} (f : FpOk X pins H b) : k.src ≠ some b := by
  have old : ∀ {a : Addr} {o : Obj}, X.K.lookup a = some o → a ≠ b := fun {a o} e z => by
    subst z
    have h1 := I.ok.mod.kin a o e
    rcases f.2.2.2.1 with q | q
    · exact I.ok.noex a o h1 q
    · exact absurd (Nat.lt_of_lt_of_le (Heap.lt_size h1) (Nat.le_trans I.ok.bsz q)) (Nat.lt_irrefl _)
  intro e
  cases k with
  | l a =>
    cases e
    rcases ok with (h | ⟨o, h⟩) | ⟨o, its, n, h, _⟩
    · rw [f.1] at h; cases h
    · rw [f.1] at h; cases h
    · exact old h rfl
  | t a =>
    cases e
    rcases ok with (h | ⟨o, h⟩) | ⟨o, its, n, h, _⟩
    · rw [f.1] at h; cases h
    · rw [f.1] at h; cases h
    · exact old h rfl
  | s x tk => cases e
theorem SK.draws {A : Around} {k : SK} {vs : List V} {it : Addr} {i : Nat} (I : L2.Inv X pins σ H s) (hh : A.handled = none) (ok : k.ok X.K H vs) (f : FpOk X pins H it) (st : k.st s.heap it i) :
    ∃ (fp : List Addr) (n : Nat) (Pv : Nat → Value → Prop) (St : Nat → Heap → Prop), Draws X.prog X.w A it fp n Pv St ∧ n = vs.length ∧ it ∈ fp ∧ (∀ b ∈ fp, b = it ∨ k.src = some b) ∧ St i s.heap ∧
      (∀ j h', St j h' → k.st h' it j) ∧ ∀ j x, Pv j x → ∃ v, vs[j]? = some v ∧ RelV v x := by
  cases k with
  | l a =>
    obtain ⟨its, rv, p, hz⟩ := I.list ok
    have hne : a ≠ it := fun z => src_ne I ok f (by rw [z]; rfl)
    refine ⟨_, _, _, _, Draws.list hh it a hne its.toArray, by simp [rv.length], by simp, fun b hb => ?_, ⟨st, p.isList⟩, fun j h' x => x.1, fun j x hx => ?_⟩
    · rcases List.mem_cons.mp hb with z | z
      · exact .inl z
      · exact .inr (by rw [List.mem_singleton.mp z]; rfl)
    · have hx : its.toArray[j]? = some x := hx
      have hx' : its[j]? = some x := by simpa using hx
      have hj : j < vs.length := by rw [rv.length]; exact (List.getElem?_eq_some_iff.mp hx').1
      obtain ⟨u, h1, h2⟩ := rv.get (List.getElem?_eq_getElem hj)
      rw [hx'] at h1
      cases h1
      exact ⟨_, List.getElem?_eq_getElem hj, h2⟩
  | t a =>
    obtain ⟨its, rv, p, hz⟩ := I.tuple ok
    have hne : a ≠ it := fun z => src_ne I ok f (by rw [z]; rfl)
    refine ⟨_, _, _, _, Draws.tuple hh it a hne its.toArray, by simp [rv.length], by simp, fun b hb => ?_, ⟨st, p⟩, fun j h' x => x.1, fun j x hx => ?_⟩
    · rcases List.mem_cons.mp hb with z | z
      · exact .inl z
      · exact .inr (by rw [List.mem_singleton.mp z]; rfl)
    · have hx : its.toArray[j]? = some x := hx
      have hx' : its[j]? = some x := by simpa using hx
      have hj : j < vs.length := by rw [rv.length]; exact (List.getElem?_eq_some_iff.mp hx').1
      obtain ⟨u, h1, h2⟩ := rv.get (List.getElem?_eq_getElem hj)
      rw [hx'] at h1
      cases h1
      exact ⟨_, List.getElem?_eq_getElem hj, h2⟩
  | s x tk =>
    have ok : vs = x.cps.toList.map fun c => V.str ⟨#[c]⟩ := ok
    refine ⟨_, _, _, _, Draws.text hh it x tk, by rw [ok]; simp, by simp, fun b hb => .inl (List.mem_singleton.mp hb), st, fun j h' x => x, fun j u hu => ?_⟩
    obtain ⟨c, t, h1, rfl⟩ := hu
    exact ⟨.str ⟨#[c]⟩, by rw [ok, List.getElem?_map, Array.getElem?_toList, h1]; rfl, ⟨t, rfl⟩⟩
end
def ItE (K : PySem.W.Frag) (k : SK) (vs : List V) : It :=
  ⟨fun i H => i < vs.length ∧ k.ok K H vs, fun i H v H' => ∃ T x, v = .ref T ∧ H T = none ∧ H' = upd H T (.tup [.int (i : Nat), x]) ∧ vs[i]? = some x, fun i H => vs.length = i ∧ k.ok K H vs⟩
theorem turn_enumS {P : Program} {w : World} {K : PySem.W.Frag} {elts : List Expr} {kk : Nat} {tpos : Pos} (k : SK) (vs : List V) (e it : Addr) :
    Turn P w K (.Tuple elts kk tpos) (ItE K k vs) [e, it] e (fun i h => (∃ old, IsEnum h e it ((i : Nat) : Int) old) ∧ k.st h it i ∧ e ≠ it) where
  mem := by simp
  obj := fun i h st b hb => by
    obtain ⟨⟨old, he⟩, hk, _⟩ := st
    have e' : b = e ∨ b = it := by simpa using hb
    rcases e' with z | z
    · rw [z]; exact ⟨_, he, fun v q => nomatch q⟩
    · rw [z]; exact SK.st_obj (k := k) hk
  keep := fun i h h' st kp => let ⟨⟨old, he⟩, hi, hne⟩ := st; ⟨⟨old, kp e (by simp) _ he⟩, SK.st_at (k := k) (fun o q => kp it (by simp) o q) hi, hne⟩
  item := by
    intro X hP hw hK hc i pins s σ H E I hf st hg
    subst hP hw hK
    obtain ⟨⟨old, he⟩, hit, hne⟩ := st
    obtain ⟨hi, ok⟩ := hg
    obtain ⟨fp, n, Pv, St, D, hn, hm, hfp, hst, hback, hval⟩ := SK.draws (A := X.A.in1) I (I.ok.hd hc) ok (hf it (by simp)) hit
    have hel : e < s.heap.objs.size := Heap.lt_size he
    have hil : it < s.heap.objs.size := by obtain ⟨_, q⟩ := D.live _ _ hst; exact Heap.lt_size q
    have hef : e ∉ fp := fun z => by
      rcases hfp e z with q | q
      · exact hne q
      · exact src_ne I ok (hf e (by simp)) q
    refine wpAny_pyNext_enum_itemD D he hst (by omega) hne hef fun u h' tk hP ho hst' hT hsz hk => ?_
    refine ⟨_, rfl, wpAny_letOwnedTupleGo_enum (s := { s with heap := h', toks := tk + 1 }) ho fun h'' he' sb => ?_⟩
    obtain ⟨x, hx, rx⟩ := hval i u hP
    have hT2 : h''.get? s.heap.objs.size = some { cls := .type "tuple", data := .seq #[.int i tk, u] } := (sb.2 _ (Nat.ne_of_gt hel)).trans hT
    have new : ObjOk X.prog X.w (upd H s.heap.objs.size (.tup [.int (i : Nat), x])) h'' s.heap.objs.size (.tup [.int (i : Nat), x]) :=
      ⟨by show 2 ≤ sizeLine; decide, [.int i tk, u], .cons ⟨_, rfl⟩ (.cons rx .nil), ⟨_, hT2, rfl, _, rfl⟩⟩
    have I1 : L2.Inv X pins σ (upd H s.heap.objs.size (.tup [.int (i : Nat), x])) { s with heap := h'', toks := tk + 1 } :=
      I.turnedNew (ch := [e, it]) (fun b ob hb q => (sb.2 b (fun z => hb (by simp [z]))).trans (hk b ob (fun z => hb (by simp [z])) (fun z => hb (by simp [z])) q)) hf (Nat.le_refl _) new
    refine ⟨.ref s.heap.objs.size, _, I1, rfl, ⟨_, x, rfl, I.hok.fresh (Nat.le_refl _), rfl, hx⟩, ⟨⟨u, ?_⟩, SK.st_at (k := k) (fun o q => (sb.2 it (Ne.symm hne)).trans q) (hback _ _ hst'), hne⟩, fun b hb => ?_⟩
    · have e1 : ((i + 1 : Nat) : Int) = (i : Int) + 1 := by omega
      rw [e1]; exact he'
    · have hb' : b < s.heap.objs.size := by
        have e' : b = e ∨ b = it := by simpa using hb
        rcases e' with z | z
        · rw [z]; exact hel
        · rw [z]; exact hil
      rw [upd_ne (Nat.ne_of_lt hb')]
      exact (hf b hb).1
  done := by
    intro X hP hw hK hc i pins s σ H E I hf st hg
    subst hP hw hK
    obtain ⟨⟨old, he⟩, hit, hne⟩ := st
    obtain ⟨hi, ok⟩ := hg
    obtain ⟨f0, f1, f2, f3, f4, f5⟩ := hf it (by simp)
    obtain ⟨fp, n, Pv, St, D, hn, hm, hfp, hst, hback, hval⟩ := SK.draws (A := X.A.in1) I (I.ok.hd hc) ok (hf it (by simp)) hit
    have hin : i = n := by omega
    subst hin
    exact wpAny_pyNext_enum_endD D he hst fun h' eb => ⟨rfl, I.turned (t' := s.toks) (fun b o hb q => eb b o hb q) f0 f1 f3 f4 f5⟩
  self := fun A i s Q E st h => let ⟨⟨_, he⟩, _⟩ := st; wpAny_pyIter_enum he h
set_option maxHeartbeats 1000000 in
theorem meets_enumerate_new1 {v : Value} {o : Obj} {H : Heap → Prop} (B : Begins v o H) :
    Meets (Builtin.«enumerate.__new__» ⟨[.type "enumerate", v], []⟩) (fun _ R s => H s.heap ∧
      R (.ok (.ret (.ref (s.heap.push o).objs.size))) { s with heap := (s.heap.push o).push { cls := .type "enumerate", data := .fields #[.none, .bool false, .ref s.heap.objs.size, rawInt 0, .none, .none] } }) :=
  .of_wp fun prog w A R s h => by
    obtain ⟨hp, g, d, tk, os⟩ := s; obtain ⟨h1, h⟩ := h
    have hsub := sub_enumerate
    have q1 : ∀ {A' : Around} {E : Value → Shared → Prop} {Q : Value → Shared → Prop}, Q (.ref hp.objs.size) ⟨hp.push o, g, d, tk, os⟩ → wpAny (model prog w) A' (pyIter v) Q E ⟨hp, g, d, tk, os⟩ :=
      fun q => B.iter prog w _ _ ⟨hp, g, d, tk, os⟩ _ h1 q
    wp_walk using q1
    refine wpAny_stack_any fun st => wpAny_pure ?_
    split
    · rename_i c _ _ _ _ _
      cases (c == Value.type "enumerate")
      · wp_walk using q1
        exact ⟨_, rfl, h⟩
      · wp_walk using q1
        exact ⟨_, rfl, h⟩
    · wp_walk using q1
      exact ⟨_, rfl, h⟩
theorem enum1_begins {prog : Program} {w : World} {A : Around} {E : Value → Shared → Prop} {s : Shared} {v : Value} {o : Obj} {H : Heap → Prop} {Q : Value → Shared → Prop} (B : Begins v o H) (h1 : H s.heap)
    (h : ∀ h', IsEnum h' (s.heap.objs.size + 1) s.heap.objs.size 0 .none → h'.get? s.heap.objs.size = some o → h'.objs.size = s.heap.objs.size + 2 →
      (∀ b o, s.heap.get? b = some o → h'.get? b = some o) → Q (.ref (s.heap.objs.size + 1)) { s with heap := h' }) :
    wpAny (model prog w) A (call (.type "enumerate") [v]) Q E s := by
  refine callType_new PySem.F.called_enumerate (by decide) (PySem.F.typeCall_enumerate_1 _) (PySem.F.newCall_enumerate_1 _) (fun obj => PySem.F.args_object_init_2 obj _) PySem.F.entry_enumerate_new
    (meets_enumerate_new1 B) ⟨h1, ?_⟩
  have hz : (s.heap.push o).objs.size = s.heap.objs.size + 1 := Heap.size_push ..
  show _ ∧ _
  rw [hz]
  have he : IsEnum ((s.heap.push o).push { cls := .type "enumerate", data := .fields #[.none, .bool false, .ref s.heap.objs.size, rawInt 0, .none, .none] }) (s.heap.objs.size + 1) s.heap.objs.size 0 .none := by
    have := Heap.get?_push_size (s.heap.push o) (o := { cls := .type "enumerate", data := .fields #[.none, .bool false, .ref s.heap.objs.size, rawInt 0, .none, .none] }) rfl
    rw [hz] at this; exact this
  refine ⟨⟨_, he, rfl⟩, h _ he (Heap.get?_push_of_some _ (Heap.get?_push_size _ B.free)) (by rw [Heap.size_push, hz]) fun b o x => Heap.get?_push_of_some _ (Heap.get?_push_of_some _ x)⟩
def SK.val (u : Value) : SK → Prop
  | .l a => u = .ref a
  | .t a => u = .ref a
  | .s x tk => u = .str x tk
/-- the source's kind, by the value -/
theorem sk_begins {X : Cx} {pins : List (Addr × Obj)} {σ : L2.St} {H : Hp} {s : Shared} {k : SK} {vs : List V} (I : L2.Inv X pins σ H s) (ok : k.ok X.K H vs) (u : Value) (hu : k.val u) :
    ∃ (o : Obj) (G : Heap → Prop), Begins u o G ∧ G s.heap ∧ ∀ h' it, h'.get? it = some o → k.st h' it 0 := by
  cases k with
  | l a =>
    obtain ⟨its, rv, p, hz⟩ := I.list ok
    cases (show u = _ from hu)
    exact ⟨_, _, begins_list a its.toArray, p.isList, fun h' it e => ⟨_, e, rfl, rfl⟩⟩
  | t a =>
    obtain ⟨its, rv, p, hz⟩ := I.tuple ok
    cases (show u = _ from hu)
    exact ⟨_, _, begins_tuple a its.toArray, p, fun h' it e => ⟨_, e, rfl, rfl⟩⟩
  | s x tk =>
    cases (show u = _ from hu)
    exact ⟨_, _, begins_text x tk, trivial, fun h' it e => ⟨_, e, rfl, rfl⟩⟩
/-- a value is a source of these items -/
def SrcR (K : PySem.W.Frag) (H : Hp) (vs : List V) (v : V) (Pk : SK → Prop) : Prop := (∃ a, v = .ref a ∧ SqL K H a vs ∧ Pk (.l a)) ∨ (∃ a, v = .ref a ∧ SqT K H a vs ∧ Pk (.t a)) ∨ ∃ x : Str, v = .str x ∧ (vs = x.cps.toList.map fun c => V.str ⟨#[c]⟩) ∧ ∀ tk, Pk (.s x tk)
theorem SrcR.kind {K : PySem.W.Frag} {H : Hp} {vs : List V} {v : V} {u : Value} {Pk : SK → Prop} (h : SrcR K H vs v Pk) (r : L2.RelV v u) : ∃ k : SK, k.ok K H vs ∧ k.val u ∧ Pk k := by
  rcases h with ⟨a, rfl, h, q⟩ | ⟨a, rfl, h, q⟩ | ⟨x, rfl, h, q⟩
  · cases r; exact ⟨.l a, h, rfl, q⟩
  · cases r; exact ⟨.t a, h, rfl, q⟩
  · obtain ⟨t, rfl⟩ := r; exact ⟨.s x t, h, rfl, q t⟩
def iEnumS (K : PySem.W.Frag) (ta : TA) : TI := fun σ H R => ta σ H fun xs H1 => ∃ v vs, xs = [v] ∧ SrcR K H1 vs v fun k => R (ItE K k vs) H1
theorem pi_enumS {X : Cx} {e : Expr} {ta : TA} {p pos tpos : Pos} {elts : List Expr} {kk : Nat} (hg : Gl X "enumerate") (hm : X.mg "enumerate" = none) (ha : PA X [e] ta) (hs : starEach [e] X.env = [(false, eval e X.env)] := by rfl) :
    PI X (.Tuple elts kk tpos) (.Call (.Name "enumerate" p) [e] [] pos) (iEnumS X.K ta) := by
  refine ⟨fun pins s σ H R I h => ?_⟩
  refine Call_ (ld_blt I hg hm boot_enumerate (PyProof.Rows.callWith_type1 (thn (ha.run pos pins s σ H _ I h) fun us s1 ⟨xs, H1, I1, r1, q1⟩ => ?_) hs rfl))
  obtain ⟨v, vs, ex, hq⟩ := q1
  subst ex
  cases r1 with
  | cons r rr =>
    cases rr
    obtain ⟨k, ok, hu, q⟩ := hq.kind r
    obtain ⟨o, G, B, g, st0⟩ := sk_begins I1 ok _ hu
    refine enum1_begins B g fun h' he hit hsz hk => wpAny_pyIter_enum he ?_
    have I2 : L2.Inv X pins σ H1 { s1 with heap := h' } := I1.kept (t' := s1.toks) hk
    refine ⟨s1.heap.objs.size + 1, [s1.heap.objs.size + 1, s1.heap.objs.size], _, _, H1, rfl, I2, turn_enumS k vs (s1.heap.objs.size + 1) s1.heap.objs.size, ⟨⟨.none, he⟩, st0 _ _ hit, Nat.succ_ne_self _⟩, fun b hb => ?_, q⟩
    have e' : b = s1.heap.objs.size + 1 ∨ b = s1.heap.objs.size := by simpa using hb
    have hle : s1.heap.objs.size ≤ b := by
      rcases e' with z | z
      · rw [z]; exact Nat.le_add_right _ _
      · rw [z]; exact Nat.le_refl _
    exact I1.fpOk hle (I1.hok.fresh hle)
def ItZ (K : PySem.W.Frag) (k1 k2 : SK) (vs ws : List V) : It :=
  ⟨fun i H => i < vs.length ∧ i < ws.length ∧ k1.ok K H vs ∧ k2.ok K H ws, fun i H v H' => ∃ T x y, v = .ref T ∧ H T = none ∧ H' = upd H T (.tup [x, y]) ∧ vs[i]? = some x ∧ ws[i]? = some y,
    fun i H => i = min vs.length ws.length ∧ k1.ok K H vs ∧ k2.ok K H ws⟩
theorem turn_zipS {P : Program} {w : World} {K : PySem.W.Frag} {elts : List Expr} {kk : Nat} {tpos : Pos} (k1 k2 : SK) (vs ws : List V) (z TI TO i1 i2 : Addr) (ne : TI ≠ z ∧ TO ≠ z ∧ TI ≠ TO ∧ TI ≠ i1 ∧ TI ≠ i2 ∧ z ≠ i1 ∧ z ≠ i2 ∧ TO ≠ i1 ∧ TO ≠ i2 ∧ i1 ≠ i2) :
    Turn P w K (.Tuple elts kk tpos) (ItZ K k1 k2 vs ws) [z, TI, TO, i1, i2] z (fun i h => IsZip h z TI TO .none ∧ IsTupOf2 h TI (.ref i1) (.ref i2) ∧ (∃ x y, IsTupOf2 h TO x y) ∧ k1.st h i1 i ∧ k2.st h i2 i) where
  mem := by simp
  obj := fun i h st c hc => by
    obtain ⟨hz, hTI, ⟨x, y, hTO⟩, h1, h2⟩ := st
    have e' : c = z ∨ c = TI ∨ c = TO ∨ c = i1 ∨ c = i2 := by simpa using hc
    rcases e' with q | q | q | q | q
    · rw [q]; exact ⟨_, hz, fun v q => nomatch q⟩
    · rw [q]; exact ⟨_, hTI, fun v q => nomatch q⟩
    · rw [q]; exact ⟨_, hTO, fun v q => nomatch q⟩
    · rw [q]; exact SK.st_obj (k := k1) h1
    · rw [q]; exact SK.st_obj (k := k2) h2
  keep := fun i h h' st kp => by
    obtain ⟨hz, hTI, ⟨x, y, hTO⟩, h1, h2⟩ := st
    exact ⟨kp z (by simp) _ hz, kp TI (by simp) _ hTI, ⟨x, y, kp TO (by simp) _ hTO⟩, SK.st_at (k := k1) (fun o q => kp i1 (by simp) o q) h1, SK.st_at (k := k2) (fun o q => kp i2 (by simp) o q) h2⟩
  item := by
    intro X hP hw hK hc i pins s σ H E I hf st hg
    subst hP hw hK
    obtain ⟨hz, hTI, ⟨x0, y0, hTO⟩, h1, h2⟩ := st
    obtain ⟨a1, a2, ok1, ok2⟩ := hg
    obtain ⟨n1, n2, n3, n4, n5, n6, n7, n8, n9, n10⟩ := ne
    obtain ⟨fp1, m1, Pv1, St1, D1, e1, mm1, hfp1, hst1, hback1, hval1⟩ := SK.draws (A := X.A.in1) I (I.ok.hd hc) ok1 (hf i1 (by simp)) h1
    obtain ⟨fp2, m2, Pv2, St2, D2, e2, mm2, hfp2, hst2, hback2, hval2⟩ := SK.draws (A := X.A.in1) I (I.ok.hd hc) ok2 (hf i2 (by simp)) h2
    have out1 : ∀ b, b ∈ [z, TI, TO, i1, i2] → b ≠ i1 → b ∉ fp1 := fun b hb hn hm => by
      rcases hfp1 b hm with q | q
      · exact hn q
      · exact src_ne I ok1 (hf b hb) q
    have out2 : ∀ b, b ∈ [z, TI, TO, i1, i2] → b ≠ i2 → b ∉ fp2 := fun b hb hn hm => by
      rcases hfp2 b hm with q | q
      · exact hn q
      · exact src_ne I ok2 (hf b hb) q
    have S : ZipSep2 z TI TO i1 i2 fp1 fp2 := ⟨n1, n2, n3, n4, mm1, out1 z (by simp) n6, out1 TO (by simp) n8, n5, mm2, out2 z (by simp) n7, out2 TO (by simp) n9, out2 i1 (by simp) n10, out1 i2 (by simp) (Ne.symm n10)⟩
    have hzl : z < s.heap.objs.size := Heap.lt_size hz
    refine wpAny_pyNext_zipD2_item S D1 D2 hz hTI hTO hst1 hst2 (by omega) (by omega) fun u u2 h' tk p1 p2 z' TO' st1' st2' hT hsz hk => ?_
    refine ⟨_, rfl, wpAny_letOwnedTupleGo_zip (s := { s with heap := h', toks := tk }) z' fun h'' z'' sb => ?_⟩
    obtain ⟨x, hx, rx⟩ := hval1 i u p1
    obtain ⟨y, hy, ry⟩ := hval2 i u2 p2
    have hT2 : h''.get? s.heap.objs.size = some { cls := .type "tuple", data := .seq #[u, u2] } := (sb.2 _ (Nat.ne_of_gt hzl)).trans hT
    have new : ObjOk X.prog X.w (upd H s.heap.objs.size (.tup [x, y])) h'' s.heap.objs.size (.tup [x, y]) :=
      ⟨by show 2 ≤ sizeLine; decide, [u, u2], .cons rx (.cons ry .nil), ⟨_, hT2, rfl, _, rfl⟩⟩
    have I1 : L2.Inv X pins σ (upd H s.heap.objs.size (.tup [x, y])) { s with heap := h'', toks := tk } :=
      I.turnedNew (t' := tk) (ch := [z, TI, TO, i1, i2]) (fun c o hb q => (sb.2 c (fun q' => hb (by simp [q']))).trans (hk c o (fun q' => hb (by simp [q'])) (fun q' => hb (by simp [q'])) (fun q' => hb (by simp [q'])) (fun q' => hb (by simp [q'])) q)) hf (Nat.le_refl _) new
    refine ⟨.ref s.heap.objs.size, _, I1, rfl, ⟨_, x, y, rfl, I.hok.fresh (Nat.le_refl _), rfl, hx, hy⟩, ⟨z'', ?_, ⟨u, u2, ?_⟩, ?_, ?_⟩, fun c hcm => ?_⟩
    · exact (sb.2 _ n1).trans (hk _ _ n1 n3 n4 n5 hTI)
    · exact (sb.2 _ n2).trans TO'
    · exact SK.st_at (k := k1) (fun o q => (sb.2 _ (Ne.symm n6)).trans q) (hback1 _ _ st1')
    · exact SK.st_at (k := k2) (fun o q => (sb.2 _ (Ne.symm n7)).trans q) (hback2 _ _ st2')
    · have hlt : c < s.heap.objs.size := by
        have e' : c = z ∨ c = TI ∨ c = TO ∨ c = i1 ∨ c = i2 := by simpa using hcm
        rcases e' with q | q | q | q | q
        · rw [q]; exact hzl
        · rw [q]; exact Heap.lt_size hTI
        · rw [q]; exact Heap.lt_size hTO
        · rw [q]; obtain ⟨_, e1⟩ := D1.live _ _ hst1; exact Heap.lt_size e1
        · rw [q]; obtain ⟨_, e2⟩ := D2.live _ _ hst2; exact Heap.lt_size e2
      rw [upd_ne (Nat.ne_of_lt hlt)]
      exact (hf c hcm).1
  done := by
    intro X hP hw hK hc i pins s σ H E I hf st hg
    subst hP hw hK
    obtain ⟨hz, hTI, ⟨x0, y0, hTO⟩, h1, h2⟩ := st
    obtain ⟨a1, ok1, ok2⟩ := hg
    obtain ⟨n1, n2, n3, n4, n5, n6, n7, n8, n9, n10⟩ := ne
    obtain ⟨fp1, m1, Pv1, St1, D1, e1, mm1, hfp1, hst1, hback1, hval1⟩ := SK.draws (A := X.A.in1) I (I.ok.hd hc) ok1 (hf i1 (by simp)) h1
    obtain ⟨fp2, m2, Pv2, St2, D2, e2, mm2, hfp2, hst2, hback2, hval2⟩ := SK.draws (A := X.A.in1) I (I.ok.hd hc) ok2 (hf i2 (by simp)) h2
    have out1 : ∀ b, b ∈ [z, TI, TO, i1, i2] → b ≠ i1 → b ∉ fp1 := fun b hb hn hm => by
      rcases hfp1 b hm with q | q
      · exact hn q
      · exact src_ne I ok1 (hf b hb) q
    have out2 : ∀ b, b ∈ [z, TI, TO, i1, i2] → b ≠ i2 → b ∉ fp2 := fun b hb hn hm => by
      rcases hfp2 b hm with q | q
      · exact hn q
      · exact src_ne I ok2 (hf b hb) q
    have S : ZipSep2 z TI TO i1 i2 fp1 fp2 := ⟨n1, n2, n3, n4, mm1, out1 z (by simp) n6, out1 TO (by simp) n8, n5, mm2, out2 z (by simp) n7, out2 TO (by simp) n9, out2 i1 (by simp) n10, out1 i2 (by simp) (Ne.symm n10)⟩
    exact wpAny_pyNext_zipD2_end S D1 D2 hz hTI hTO hst1 hst2 (by omega) (by omega) (by omega) fun h' tk hk => ⟨rfl, I.turnedL (t' := tk) (ch := [z, TI, TO, i1, i2]) (fun c o hb q =>
      hk c o (fun q' => hb (by simp [q'])) (fun q' => hb (by simp [q'])) (fun q' => hb (by simp [q'])) (fun q' => hb (by simp [q'])) q) hf⟩
  self := fun A i s Q E st h => wpAny_pyIter_zip st.1 h
def iZipS (K : PySem.W.Frag) (ta : TA) : TI := fun σ H R => ta σ H fun xs H1 => ∃ v w vs ws, xs = [v, w] ∧ SrcR K H1 vs v fun k1 => SrcR K H1 ws w fun k2 => R (ItZ K k1 k2 vs ws) H1
theorem nn (N : Nat) : N + 2 ≠ N + 4 ∧ N + 3 ≠ N + 4 ∧ N + 2 ≠ N + 3 ∧ N + 2 ≠ N ∧ N + 2 ≠ N + 1 ∧ N + 4 ≠ N ∧ N + 4 ≠ N + 1 ∧ N + 3 ≠ N ∧ N + 3 ≠ N + 1 ∧ N ≠ N + 1 := by omega
theorem pi_zipS {X : Cx} {e e2 : Expr} {ta : TA} {p pos tpos : Pos} {elts : List Expr} {kk : Nat} (hg : Gl X "zip") (hm : X.mg "zip" = none) (ha : PA X [e, e2] ta)
    (hs : starEach [e, e2] X.env = (false, eval e X.env) :: starEach [e2] X.env := by rfl) (hpl : (backTo pos (starEach [e2] X.env)).any (·.1) = false := by rfl) :
    PI X (.Tuple elts kk tpos) (.Call (.Name "zip" p) [e, e2] [] pos) (iZipS X.K ta) := by
  refine ⟨fun pins s σ H R I h => ?_⟩
  refine Call_ (ld_blt I hg hm PyProof.Rows.boot_zip (PyProof.Rows.callWith_type1 (thn (ha.run pos pins s σ H _ I h) fun us s1 ⟨xs, H1, I1, r1, q1⟩ => ?_) hs hpl))
  obtain ⟨v, w, vs, ws, ex, hq1⟩ := q1
  subst ex
  cases r1 with
  | cons r rr =>
    cases rr with
    | cons r' rr =>
      cases rr
      obtain ⟨k1, ok1, hu1, hq2⟩ := hq1.kind r
      obtain ⟨k2, ok2, hu2, q⟩ := hq2.kind r'
      obtain ⟨o1, G1, B1, g1, st1⟩ := sk_begins I1 ok1 _ hu1
      obtain ⟨o2, G2, B2, g2, st2⟩ := sk_begins I1 ok2 _ hu2
      refine zip_begins2 B1 B2 g1 g2 fun h' hz hTI hTO e1 e2 hsz hk => wpAny_pyIter_zip hz ?_
      have I2 : L2.Inv X pins σ H1 { s1 with heap := h' } := I1.kept (t' := s1.toks) hk
      refine ⟨s1.heap.objs.size + 4, [s1.heap.objs.size + 4, s1.heap.objs.size + 2, s1.heap.objs.size + 3, s1.heap.objs.size, s1.heap.objs.size + 1], _, _, H1, rfl, I2, turn_zipS k1 k2 vs ws _ _ _ _ _ (nn s1.heap.objs.size), ⟨hz, hTI, ⟨_, _, hTO⟩, st1 _ _ e1, st2 _ _ e2⟩, fun c hcm => ?_, q⟩
      have e' : c = s1.heap.objs.size + 4 ∨ c = s1.heap.objs.size + 2 ∨ c = s1.heap.objs.size + 3 ∨ c = s1.heap.objs.size ∨ c = s1.heap.objs.size + 1 := by simpa using hcm
      have hle : s1.heap.objs.size ≤ c := by
        rcases e' with z | z | z | z | z
        · rw [z]; exact Nat.le_add_right _ _
        · rw [z]; exact Nat.le_add_right _ _
        · rw [z]; exact Nat.le_add_right _ _
        · rw [z]; exact Nat.le_refl _
        · rw [z]; exact Nat.le_add_right _ _
      exact I1.fpOk hle (I1.hok.fresh hle)

theorem src_of {K : PySem.W.Frag} {G H : Hp} (s : Same G H) {d : D} {v : V} {ds : List D} {Pk : SK → Prop} (r : Rep K G d v) (h : ∀ Q : List D → Prop, itemsS d Q → Q ds) (hh : itemsS d fun _ => True)
    (q : ∀ (k : SK) (vs : List V), k.ok K G vs → Reps K G ds vs → Pk k) : ∃ vs, Reps K G ds vs ∧ SrcR K H vs v fun k => k.ok K G vs ∧ Pk k := by
  cases d with
  | lst es =>
    have e : es = ds := h (fun x => es = x) rfl
    subst e
    obtain ⟨a, vs, rfl, h1, r1⟩ := r
    exact ⟨vs, r1, .inl ⟨a, rfl, SqL.of (s _ _ h1), SqL.of h1, q (.l a) vs (SqL.of h1) r1⟩⟩
  | scr ns =>
    have e : ns.map D.int = ds := h (fun x => ns.map D.int = x) rfl
    subst e
    obtain ⟨a, rfl, h1⟩ := r
    exact ⟨_, Reps.ints ns, .inl ⟨a, rfl, s.seq h1, h1, q (.l a) _ h1 (Reps.ints ns)⟩⟩
  | tup es =>
    have e : es = ds := h (fun x => es = x) rfl
    subst e
    obtain ⟨a, vs, rfl, h1, r1⟩ := r
    exact ⟨vs, r1, .inr (.inl ⟨a, rfl, SqT.of (s _ _ h1), SqT.of h1, q (.t a) vs (SqT.of h1) r1⟩)⟩
  | str x =>
    have e : (x.map fun c => D.str [c]) = ds := h (fun y => (x.map fun c => D.str [c]) = y) rfl
    subst e
    have r2 : Reps K G (x.map fun c => D.str [c]) ((⟨x.toArray⟩ : Str).cps.toList.map fun c => V.str ⟨#[c]⟩) := by
      show Reps K G (x.map fun c => D.str [c]) (x.toArray.toList.map fun c => V.str ⟨#[c]⟩)
      rw [List.toList_toArray]
      clear r hh h q
      induction x with
      | nil => exact (rfl : _ = _)
      | cons c x ih => exact ⟨_, _, rfl, rfl, ih⟩
    exact ⟨_, r2, .inr (.inr ⟨_, r, rfl, fun tk => ⟨rfl, q (.s _ tk) _ rfl r2⟩⟩)⟩
  | _ => exact (hh : False).elim
theorem itemsS_get {d : D} {Q : List D → Prop} (h : itemsS d Q) : ∃ ds, Q ds ∧ (∀ Q : List D → Prop, itemsS d Q → Q ds) ∧ itemsS d fun _ => True := by
  cases d with
  | lst es => exact ⟨es, h, fun _ z => z, trivial⟩
  | scr ns => exact ⟨_, h, fun _ z => z, trivial⟩
  | tup es => exact ⟨es, h, fun _ z => z, trivial⟩
  | str x => exact ⟨_, h, fun _ z => z, trivial⟩
  | _ => exact (h : False).elim
/-- the pairs that enumerate gives -/
def enD (ds : List D) : List D := (List.range ds.length).zipWith (fun (i : Nat) d => .tup [.int i, d]) ds
theorem enD_len {ds : List D} : (enD ds).length = ds.length := by simp [enD]
theorem enD_get {ds : List D} {i : Nat} {d : D} (h : (enD ds)[i]? = some d) : ∃ x, ds[i]? = some x ∧ d = .tup [.int i, x] := by
  have hi : i < ds.length := by rw [← enD_len]; exact (List.getElem?_eq_some_iff.mp h).1
  refine ⟨ds[i], List.getElem?_eq_getElem hi, ?_⟩
  unfold enD at h
  rw [List.getElem?_zipWith, List.getElem?_range hi, List.getElem?_eq_getElem hi] at h
  exact (Option.some.inj h).symm
theorem new_pair {K : PySem.W.Frag} {G' H' : Hp} {T : Addr} {x y : V} {d e : D} (s2 : Same G' H') (hT : H' T = none) (r1 : Rep K G' d x) (r2 : Rep K G' e y) :
    ∃ G'', Same H' (upd H' T (.tup [x, y])) ∧ (∀ b, H' b ≠ none → G'' b = G' b) ∧ Same G'' (upd H' T (.tup [x, y])) ∧ Rep K G'' (.tup [d, e]) (.ref T) := by
  have hG : G' T = none := s2.free hT
  have sG : Same G' (upd G' T (.tup [x, y])) := fun b o q => by rw [upd_ne (ne_of_none q hG)]; exact q
  refine ⟨upd G' T (.tup [x, y]), fun b o q => ?_, fun b q => ?_, fun b o q => ?_, ⟨T, [x, y], rfl, upd_same, ⟨x, _, rfl, r1.mono sG, ⟨y, _, rfl, r2.mono sG, rfl⟩⟩⟩⟩
  · rw [upd_ne (ne_of_none q hT)]; exact q
  · have : b ≠ T := fun z => q (by rw [z]; exact hT)
    rw [upd_ne this]
  · by_cases hb : b = T
    · subst hb; rw [upd_same] at q ⊢; exact q
    · rw [upd_ne hb] at q ⊢; exact s2 _ _ q
theorem ite_ok {K : PySem.W.Frag} {G : Hp} {ds : List D} {vs : List V} {k : SK} (h : k.ok K G vs) (r : Reps K G ds vs) : ItOk K (ItE K k vs) G (enD ds) where
  go := fun i G' H' s1 s2 hi => ⟨by rw [r.len]; rw [enD_len] at hi; exact hi, (SK.ok.same s1 h).same s2⟩
  stop := fun G' H' s1 s2 => ⟨by rw [r.len, enD_len], (SK.ok.same s1 h).same s2⟩
  yld := fun i G' H' d x H'' s1 s2 hd y => by
    obtain ⟨T, z, rfl, hT, rfl, hz⟩ := y
    obtain ⟨e, he, rfl⟩ := enD_get hd
    obtain ⟨v, h1, h2⟩ := r.get he
    rw [hz] at h1
    cases h1
    exact new_pair (K := K) (d := .int (i : Nat)) (x := .int (i : Nat)) s2 hT rfl (h2.mono s1)
def ziD (ds es : List D) : List D := ds.zipWith (fun d e => .tup [d, e]) es
theorem ziD_len {ds es : List D} : (ziD ds es).length = min ds.length es.length := by simp [ziD]
theorem ziD_get {ds es : List D} {i : Nat} {d : D} (h : (ziD ds es)[i]? = some d) : ∃ x y, ds[i]? = some x ∧ es[i]? = some y ∧ d = .tup [x, y] := by
  unfold ziD at h
  rw [List.getElem?_zipWith] at h
  cases h1 : ds[i]? with
  | none => rw [h1] at h; cases h
  | some x =>
    cases h2 : es[i]? with
    | none => rw [h1, h2] at h; cases h
    | some y => rw [h1, h2] at h; exact ⟨x, y, rfl, rfl, (Option.some.inj h).symm⟩
theorem itz_ok {K : PySem.W.Frag} {G : Hp} {ds es : List D} {vs ws : List V} {k1 k2 : SK} (h : k1.ok K G vs) (h' : k2.ok K G ws) (r : Reps K G ds vs) (r' : Reps K G es ws) : ItOk K (ItZ K k1 k2 vs ws) G (ziD ds es) where
  go := fun i G' H' s1 s2 hi => by
    rw [ziD_len] at hi
    exact ⟨by rw [r.len]; omega, by rw [r'.len]; omega, (SK.ok.same s1 h).same s2, (SK.ok.same s1 h').same s2⟩
  stop := fun G' H' s1 s2 => ⟨by rw [r.len, r'.len, ziD_len], (SK.ok.same s1 h).same s2, (SK.ok.same s1 h').same s2⟩
  yld := fun i G' H' d x H'' s1 s2 hd y => by
    obtain ⟨T, z, z2, rfl, hT, rfl, hz, hz2⟩ := y
    obtain ⟨e, e', he, he', rfl⟩ := ziD_get hd
    obtain ⟨v, h1, h2⟩ := r.get he
    obtain ⟨v', h1', h2'⟩ := r'.get he'
    rw [hz] at h1
    rw [hz2] at h1'
    cases h1
    cases h1'
    exact new_pair s2 hT (h2.mono s1) (h2'.mono s1)
section
variable {F : Fam} {a b : Expr} {te ta tb : DE} {pos : Pos}
def dEnum (t : DE) : DI := fun env Q => t env fun d env1 => itemsS d fun ds => Q (enD ds) env1
theorem qi_enum {elts : List Expr} {kk : Nat} {tpos p : Pos} (hm : ∀ i, (F.X i).mg "enumerate" = none) (h : QE F a te) (hg : ∀ i, Gl (F.X i) "enumerate" := by exact fun _ => rfl) (hs : ∀ i, starEach (a :: []) (F.X i).env = (false, eval a (F.X i).env) :: starEach [] (F.X i).env := by intro _; rfl) :
    QI F (.Tuple elts kk tpos) (.Call (.Name "enumerate" p) [a] [] pos) (dEnum te) := by
  obtain ⟨ts, pp, s⟩ := h
  refine ⟨iEnumS F.K (tCons ts tNil), fun i => by have := pi_enumS (p := p) (pos := pos) (tpos := tpos) (elts := elts) (kk := kk) (hg i) (hm i) (pa1 (pp i) (hs i)) (hs i); rw [F.hK] at this; exact this, fun G0 H0 env σ G H Q R I q k => s G0 H0 env σ G H _ _ I q fun v H1 G1 env1 d s1 I1 r1 q1 => ?_⟩
  obtain ⟨ds, q2, h1, h2⟩ := itemsS_get q1
  obtain ⟨vs, r2, src⟩ := src_of (Pk := fun _ => True) I1.sub r1 h1 h2 (fun _ _ _ _ => trivial)
  refine ⟨v, vs, rfl, ?_⟩
  rcases src with ⟨a, e1, h3, h4, _⟩ | ⟨a, e1, h3, h4, _⟩ | ⟨x, e1, h3, h4⟩
  · exact .inl ⟨a, e1, h3, k _ H1 G1 env1 _ s1 I1 (ite_ok h4 r2) q2⟩
  · exact .inr (.inl ⟨a, e1, h3, k _ H1 G1 env1 _ s1 I1 (ite_ok h4 r2) q2⟩)
  · exact .inr (.inr ⟨x, e1, h3, fun tk => k _ H1 G1 env1 _ s1 I1 (ite_ok (h4 tk).1 r2) q2⟩)
def dZip (t u : DE) : DI := fun env Q => t env fun d env1 => u env1 fun e env2 => itemsS d fun ds => itemsS e fun es => Q (ziD ds es) env2
theorem qi_zip {elts : List Expr} {kk : Nat} {tpos p : Pos} (hm : ∀ i, (F.X i).mg "zip" = none) (h : QE F a ta) (h2 : QE F b tb) (hg : ∀ i, Gl (F.X i) "zip" := by exact fun _ => rfl) (hs : ∀ i, starEach [a, b] (F.X i).env = (false, eval a (F.X i).env) :: starEach [b] (F.X i).env := by intro _; rfl)
    (hs2 : ∀ i, starEach (b :: []) (F.X i).env = (false, eval b (F.X i).env) :: starEach [] (F.X i).env := by intro _; rfl) (hpl : ∀ i, (backTo pos (starEach [b] (F.X i).env)).any (·.1) = false := by intro _; rfl) :
    QI F (.Tuple elts kk tpos) (.Call (.Name "zip" p) [a, b] [] pos) (dZip ta tb) := by
  obtain ⟨ts, pp, s⟩ := h
  obtain ⟨ts2, pp2, s2⟩ := h2
  refine ⟨iZipS F.K (tCons ts (tCons ts2 tNil)), fun i => by have := pi_zipS (p := p) (pos := pos) (tpos := tpos) (elts := elts) (kk := kk) (hg i) (hm i) (pa_cons (pp i) (pa1 (pp2 i) (hs2 i)) (hs i)) (hs i) (hpl i); rw [F.hK] at this; exact this,
    fun G0 H0 env σ G H Q R I q k => s G0 H0 env σ G H _ _ I q fun v H1 G1 env1 d s1 I1 r1 q1 => s2 G0 H0 env1 σ G1 H1 _ _ I1 q1 fun w H2 G2 env2 e s3 I2 r2 q2 => ?_⟩
  obtain ⟨ds, q3, h1, h1'⟩ := itemsS_get q2
  obtain ⟨es, q4, h2, h2'⟩ := itemsS_get q3
  obtain ⟨vs, rr1, src1⟩ := src_of (Pk := fun _ => True) I2.sub (r1.mono s3) h1 h1' (fun _ _ _ _ => trivial)
  obtain ⟨ws, rr2, src2⟩ := src_of (Pk := fun _ => True) I2.sub r2 h2 h2' (fun _ _ _ _ => trivial)
  have fin : ∀ k1 k2 : SK, k1.ok F.K G2 vs → k2.ok F.K G2 ws → R (ItZ F.K k1 k2 vs ws) H2 := fun k1 k2 o1 o2 => k _ H2 G2 env2 _ (s1.trans s3) I2 (itz_ok o1 o2 rr1 rr2) q4
  refine ⟨v, w, vs, ws, rfl, ?_⟩
  have inner : ∀ k1 : SK, k1.ok F.K G2 vs → SrcR F.K H2 ws w fun k2 => R (ItZ F.K k1 k2 vs ws) H2 := fun k1 o1 => by
    rcases src2 with ⟨a, e1, h3, h4, _⟩ | ⟨a, e1, h3, h4, _⟩ | ⟨x, e1, h3, h4⟩
    · exact .inl ⟨a, e1, h3, fin k1 _ o1 h4⟩
    · exact .inr (.inl ⟨a, e1, h3, fin k1 _ o1 h4⟩)
    · exact .inr (.inr ⟨x, e1, h3, fun tk => fin k1 _ o1 (h4 tk).1⟩)
  rcases src1 with ⟨a, e1, h3, h4, _⟩ | ⟨a, e1, h3, h4, _⟩ | ⟨x, e1, h3, h4⟩
  · exact .inl ⟨a, e1, h3, inner _ h4⟩
  · exact .inr (.inl ⟨a, e1, h3, inner _ h4⟩)
  · exact .inr (.inr ⟨x, e1, h3, fun tk => inner _ (h4 tk).1⟩)
end
end DL

set_option Elab.async false
set_option linter.all false
set_option maxRecDepth 100000
namespace DL
open PySem PySem.Spec PyProof.Rows L2
section
variable {K : PySem.W.Frag} {G0 H0 G G' H H' : Hp} {env env' : DEnv} {σ σ' : L2.St}
theorem ER.chg (I : ER K G0 H0 env σ G H) (hl : env'.length = σ'.length) (h : ∀ (i : Nat) (s : Sl), env'[i]? = some s → s = .no ∨ (env[i]? = some s ∧ σ'[i]? = σ[i]?)) : ER K G0 H0 env' σ' G H := by
  refine ⟨I.sub, I.old, I.gold, hl, fun i s x h1 h2 => ?_, fun i j s t x hij h1 h2 h3 h4 h5 => ?_⟩
  · rcases h i s h1 with rfl | ⟨a, b⟩
    · trivial
    · exact I.sl i s x a (by rw [← b]; exact h2)
  · rcases h i s h1 with rfl | ⟨a, b⟩
    · cases h2
    · rcases h j t h3 with rfl | ⟨c, d⟩
      · cases h4
      · rw [d]
        exact I.sep i j s t x hij a h2 c h4 (by rw [← b]; exact h5)
theorem OwnV.chg {v : V} {d : D} (o : OwnV K H0 env σ G H v d) (h : ∀ (i : Nat) (s : Sl), env'[i]? = some s → s = .no ∨ (env[i]? = some s ∧ σ'[i]? = σ[i]?)) : OwnV K H0 env' σ' G H v d := by
  obtain ⟨p, e, g, h0, own, sep⟩ := o
  refine ⟨p, e, g, h0, own, fun i s h1 h2 => ?_⟩
  rcases h i s h1 with rfl | ⟨a, b⟩
  · cases h2
  · rw [b]; exact sep i s a h2
/-- the own slots forgotten -/
def noS (e : DEnv) : List Nat → DEnv
  | [] => e
  | v :: vs => ss (noS e vs) v .no
theorem noS_len (e : DEnv) : ∀ vs : List Nat, (noS e vs).length = e.length
  | [] => rfl
  | v :: vs => by unfold noS; rw [ss_set, List.length_set, noS_len e vs]
theorem noS_in {e : DEnv} {i : Nat} {s : Sl} : ∀ {vs : List Nat}, i ∈ vs → (noS e vs)[i]? = some s → s = .no
  | v :: vs, hi, h => by
    unfold noS at h
    rw [ss_set] at h
    by_cases hv : v = i
    · subst hv
      have l : v < (noS e vs).length := by have := (List.getElem?_eq_some_iff.mp h).1; rwa [List.length_set] at this
      rw [List.getElem?_set_self l] at h
      exact (Option.some.inj h).symm
    · rw [List.getElem?_set_ne hv] at h
      rcases List.mem_cons.mp hi with rfl | hi
      · exact absurd rfl hv
      · exact noS_in hi h
theorem noS_out {e : DEnv} {i : Nat} : ∀ {vs : List Nat}, i ∉ vs → (noS e vs)[i]? = e[i]?
  | [], _ => rfl
  | v :: vs, hi => by
    unfold noS
    rw [ss_set, List.getElem?_set_ne (fun e => hi (by rw [e]; exact List.mem_cons_self)), noS_out (fun h => hi (List.mem_cons_of_mem _ h))]
theorem ER.wipe {vs : List Nat} (I : ER K G0 H0 env σ G H) : ER K G0 H0 (noS env vs) (L2.wipe σ vs) G H := I.chg (by rw [noS_len, wipe_length, I.len]) fun i s h => by
  by_cases hi : i ∈ vs
  · exact .inl (noS_in hi h)
  · rw [noS_out hi] at h; exact .inr ⟨h, wipe_out hi⟩
theorem OwnV.wipe {vs : List Nat} {v : V} {d : D} (o : OwnV K H0 env σ G H v d) : OwnV K H0 (noS env vs) (L2.wipe σ vs) G H v d := o.chg fun i s h => by
  by_cases hi : i ∈ vs
  · exact .inl (noS_in hi h)
  · rw [noS_out hi] at h; exact .inr ⟨h, wipe_out hi⟩
theorem ER.unwipe {vs : List Nat} (I : ER K G0 H0 (noS env vs) (L2.wipe σ vs) G H) : ER K G0 H0 (noS env vs) σ G H := I.chg (by have := I.len; rwa [wipe_length] at this) fun i s h => by
  by_cases hi : i ∈ vs
  · exact .inl (noS_in hi h)
  · exact .inr ⟨h, (wipe_out hi).symm⟩
theorem OwnV.unwipe {vs : List Nat} {v : V} {d : D} (o : OwnV K H0 (noS env vs) (L2.wipe σ vs) G H v d) : OwnV K H0 (noS env vs) σ G H v d := o.chg fun i s h => by
  by_cases hi : i ∈ vs
  · exact .inl (noS_in hi h)
  · exact .inr ⟨h, (wipe_out hi).symm⟩
/-- frozen slots given back -/
def rs1 (e : DEnv) (v : Nat) : Sl → DEnv
  | .fz d => ss e v (.fz d)
  | _ => e
def resS (e1 e : DEnv) : List Nat → DEnv
  | [] => e
  | v :: vs => rs1 (resS e1 e vs) v (gs e1 v)
theorem resS_get {e1 e : DEnv} {i : Nat} {s : Sl} : ∀ {vs : List Nat}, (resS e1 e vs)[i]? = some s → e[i]? = some s ∨ ∃ d, s = .fz d ∧ e1[i]? = some s
  | [], h => .inl h
  | v :: vs, h => by
    unfold resS at h
    cases hg : gs e1 v with
    | no => rw [hg] at h; exact resS_get (vs := vs) h
    | ow d => rw [hg] at h; exact resS_get (vs := vs) h
    | me p d => rw [hg] at h; exact resS_get (vs := vs) h
    | fz d =>
      rw [hg] at h
      have h : (ss (resS e1 e vs) v (.fz d))[i]? = some s := h
      rw [ss_set] at h
      by_cases hv : v = i
      · subst hv
        have l : v < (resS e1 e vs).length := by have := (List.getElem?_eq_some_iff.mp h).1; rwa [List.length_set] at this
        rw [List.getElem?_set_self l] at h
        cases h
        exact .inr ⟨d, rfl, gs_get hg (fun z => nomatch z)⟩
      · rw [List.getElem?_set_ne hv] at h
        exact resS_get (vs := vs) h
theorem resS_len {e1 e : DEnv} : ∀ vs : List Nat, (resS e1 e vs).length = e.length
  | [] => rfl
  | v :: vs => by
    unfold resS
    cases hg : gs e1 v with
    | no => exact resS_len vs
    | ow d => exact resS_len vs
    | me p d => exact resS_len vs
    | fz d => show (ss _ v _).length = _; rw [ss_set, List.length_set]; exact resS_len vs
theorem ER.res {e1 : DEnv} {vs : List Nat} {G1 H1 : Hp} (I : ER K G0 H0 env σ G H) (I1 : ER K G0 H0 e1 σ G1 H1) (s : Same G1 G) : ER K G0 H0 (resS e1 env vs) σ G H := by
  refine ⟨I.sub, I.old, I.gold, by rw [resS_len]; exact I.len, fun i t x h1 h2 => ?_, fun i j t u x hij h1 h2 h3 h4 h5 => ?_⟩
  · rcases resS_get h1 with z | ⟨d, rfl, z⟩
    · exact I.sl i t x z h2
    · obtain ⟨v, e, r⟩ := I1.sl i _ x z h2
      exact ⟨v, e, r.mono s⟩
  · rcases resS_get h1 with z | ⟨d, rfl, z⟩
    · rcases resS_get h3 with z' | ⟨d, rfl, z'⟩
      · exact I.sep i j t u x hij z h2 z' h4 h5
      · cases h4
    · cases h2
theorem OwnV.res {e1 : DEnv} {vs : List Nat} {v : V} {d : D} (o : OwnV K H0 env σ G H v d) : OwnV K H0 (resS e1 env vs) σ G H v d := by
  obtain ⟨p, e, g, h0, own, sep⟩ := o
  refine ⟨p, e, g, h0, own, fun i s h1 h2 => ?_⟩
  rcases resS_get h1 with z | ⟨d, rfl, z⟩
  · exact sep i s z h2
  · cases h2
/-- a value in the hand, kept safe over an evaluation -/
def minusA (G : Hp) (p : Addr) : Hp := fun b => if b = p then none else G b
theorem ER.base {p : Addr} {d : D} {o : HO} (I : ER K G0 H0 env σ G H) (w : OwnV K H0 env σ G H (.ref p) d) (ho : H p = some o) : ER K (minusA G0 p) (upd H0 p o) env σ G H := by
  obtain ⟨q, e, g, h0, own, sep⟩ := w
  cases e
  refine ⟨I.sub, fun b x q => ?_, fun b q => ?_, I.len, fun i s x h1 h2 => ?_, I.sep⟩
  · by_cases hb : b = p
    · subst hb; rw [upd_same] at q; cases q; exact ho
    · rw [upd_ne hb] at q; exact I.old _ _ q
  · by_cases hb : b = p
    · subst hb; rw [g]; simp [minusA]
    · rw [upd_ne hb] at q; rw [I.gold b q]; simp [minusA, hb]
  · have old := I.sl i s x h1 h2
    cases s with
    | no => trivial
    | fz d => exact old
    | ow d =>
      obtain ⟨r, e1, g', h0', own'⟩ := old
      have : r ≠ p := fun z => by
        subst z
        exact sep i _ h1 rfl (by rw [h2, e1])
      exact ⟨r, e1, g', by rw [upd_ne this]; exact h0', own'⟩
    | me r d =>
      obtain ⟨e1, g', h0', own'⟩ := old
      have : r ≠ p := fun z => by
        subst z
        exact sep i _ h1 rfl (by rw [h2, e1])
      exact ⟨e1, g', by rw [upd_ne this]; exact h0', own'⟩
theorem ER.unbase {p : Addr} {d : D} {o : HO} (I : ER K (minusA G0 p) (upd H0 p o) env σ G H) (h0 : H0 p = none) (c : Cont K G d o) : ER K G0 H0 env σ G H ∧ OwnV K H0 env σ G H (.ref p) d := by
  have hne : ∀ {b}, H0 b ≠ none → b ≠ p := fun q z => q (by rw [z]; exact h0)
  have h0' : ∀ {b}, upd H0 p o b = none → b ≠ p := fun q z => by rw [z, upd_same] at q; cases q
  refine ⟨⟨I.sub, fun b x q => ?_, fun b q => ?_, I.len, fun i s x h1 h2 => ?_, I.sep⟩, p, rfl, ?_, h0, ⟨o, I.old _ _ upd_same, c⟩, fun i s h1 h2 h3 => ?_⟩
  · refine I.old b x ?_
    rw [upd_ne (ne_of_none q h0)]; exact q
  · rw [I.gold b (by rw [upd_ne (hne q)]; exact q)]
    simp [minusA, hne q]
  · have old := I.sl i s x h1 h2
    cases s with
    | no => trivial
    | fz d => exact old
    | ow d =>
      obtain ⟨r, e1, g', h1', own'⟩ := old
      exact ⟨r, e1, g', by rw [upd_ne (h0' h1')] at h1'; exact h1', own'⟩
    | me r d =>
      obtain ⟨e1, g', h1', own'⟩ := old
      exact ⟨e1, g', by rw [upd_ne (h0' h1')] at h1'; exact h1', own'⟩
  · rw [I.gold p (by rw [upd_same]; exact fun z => nomatch z)]
    simp [minusA]
  · have old := I.sl i s _ h1 h3
    cases s with
    | no => cases h2
    | fz d => cases h2
    | ow d =>
      obtain ⟨r, e1, g', h1', own'⟩ := old
      cases e1
      exact h0' h1' rfl
    | me r d =>
      obtain ⟨e1, g', h1', own'⟩ := old
      cases e1
      exact h0' h1' rfl
theorem ER.writeV {p : Addr} {d e : D} {o : HO} (I : ER K G0 H0 env σ G H) (w : OwnV K H0 env σ G H (.ref p) d) (c : Cont K G e o) : ER K G0 H0 env σ G (upd H p o) ∧ OwnV K H0 env σ G (upd H p o) (.ref p) e := by
  obtain ⟨q, e1, g, h0, own, sep⟩ := w
  cases e1
  refine ⟨⟨fun b x z => ?_, fun b x z => ?_, I.gold, I.len, fun i s x h1 h2 => ?_, I.sep⟩, p, rfl, g, h0, ⟨o, upd_same, c⟩, sep⟩
  · rw [upd_ne (ne_of_none z g)]; exact I.sub _ _ z
  · rw [upd_ne (ne_of_none z h0)]; exact I.old _ _ z
  · have old := I.sl i s x h1 h2
    cases s with
    | no => trivial
    | fz d => exact old
    | ow d =>
      obtain ⟨r, e1, g', h0', own'⟩ := old
      have : r ≠ p := fun z => by
        subst z
        exact sep i _ h1 rfl (by rw [h2, e1])
      exact ⟨r, e1, g', h0', own'.mono (Same.refl G) (upd_ne this)⟩
    | me r d =>
      obtain ⟨e1, g', h0', own'⟩ := old
      have : r ≠ p := fun z => by
        subst z
        exact sep i _ h1 rfl (by rw [h2, e1])
      exact ⟨e1, g', h0', own'.mono (Same.refl G) (upd_ne this)⟩
end

def SemGc (K : PySem.W.Frag) (vs : List Nat) (g : TG) (t : DG) : Prop := ∀ (G0 H0 : Hp) (env : DEnv) (σ : L2.St) (G H : Hp) (v : V) (d : D) (Q : DEnv → Prop) (R : L2.St → Hp → Prop), ER K G0 H0 env σ G H → Rep K G d v → t d env Q →
  (∀ env' σ', wipe σ' vs = wipe σ vs → ER K G0 H0 env' σ' G H → Q env' → R σ' H) → g v σ H R
def QGc (F : Fam) (vs : List Nat) (tg : Expr) (t : DG) : Prop := ∃ g : TG, (∀ i, PG (F.X i) tg g) ∧ SemGc F.K vs g t
def SemGcs (K : PySem.W.Frag) (us : List Nat) (g : TGs) (t : DGs) : Prop := ∀ (G0 H0 : Hp) (env : DEnv) (σ : L2.St) (G H : Hp) (vs : List V) (ds : List D) (Q : DEnv → Prop) (R : L2.St → Hp → Prop), ER K G0 H0 env σ G H → Reps K G ds vs → t ds env Q →
  (∀ env' σ', wipe σ' us = wipe σ us → ER K G0 H0 env' σ' G H → Q env' → R σ' H) → g vs σ H R
def QGcs (F : Fam) (us : List Nat) (tgs : List Expr) (t : DGs) : Prop := ∃ g : TGs, (∀ i, PGs (F.X i) tgs g) ∧ SemGcs F.K us g t
theorem wipe_ext {σ σ' : L2.St} (hl : σ'.length = σ.length) : ∀ {vs : List Nat}, (∀ i, i ∉ vs → σ'[i]? = σ[i]?) → wipe σ' vs = wipe σ vs := by
  intro vs h
  refine List.ext_getElem? fun i => ?_
  by_cases hi : i ∈ vs
  · have key : ∀ (τ : L2.St) (us : List Nat), i ∈ us → (wipe τ us)[i]? = if i < τ.length then some none else none := by
      intro τ us
      induction us with
      | nil => intro h; cases h
      | cons v us ih =>
        intro h
        unfold wipe
        by_cases hv : v = i
        · subst hv
          rw [List.getElem?_set]
          simp only [if_true, wipe_length]
        · rw [List.getElem?_set_ne hv]
          rcases List.mem_cons.mp h with rfl | h
          · exact absurd rfl hv
          · exact ih h
    rw [key σ' vs hi, key σ vs hi, hl]
  · rw [wipe_out hi, wipe_out hi, h i hi]
theorem wipe_idem {σ : L2.St} {vs : List Nat} : wipe (wipe σ vs) vs = wipe σ vs := wipe_ext (wipe_length σ vs) fun i hi => wipe_out hi
section
variable {F : Fam} {own : Bool} {e a b c o : Expr} {es : List Expr} {te ta tb : DE} {tt : DT} {pos : Pos} {us : List Nat}
theorem qgc_name (i : Nat) {x : Str} (hN : ∀ j, (F.X j).N.Nodup) (hu : i ∈ us := by decide) (hi : ∀ j, (F.X j).N[i]? = some x := by exact fun _ => rfl) (hx : ∀ j, Loc (F.X j).env.scope x := by first | exact fun _ => Or.inl rfl | exact fun _ => Or.inr rfl)
    (hf : ∀ j, (F.X j).fn x = true ∨ (F.X j).env.scope.names.lookup x = some .local := by first | exact fun _ => .inl rfl | exact fun _ => .inr rfl) : QGc F us (.Name x pos) (gNm i) :=
  ⟨gName i, fun j => pg_name (hN j) (hi j) (hx j) (hf j), fun G0 H0 env σ G H v d Q R I r q k => by
    have q' : Q (ss env i (.fz d)) := q
    rw [ss_set] at q'
    exact k _ _ (wipe_ext (by rw [List.length_set]) fun j hj => List.getElem?_set_ne fun z => hj (by rw [← z]; exact hu)) (I.setF r i) q'⟩
theorem qgcs_nil : QGcs F us [] gsN := ⟨gNil, fun _ => pgs_nil, fun G0 H0 env σ G H vs ds Q R I r q k => by
  cases ds with
  | nil => cases r; exact ⟨rfl, k _ _ rfl I q⟩
  | cons _ _ => exact (q : False).elim⟩
theorem qgcs_cons {t : DG} {u : DGs} (h : QGc F us e t) (h2 : QGcs F us es u) (hs : ∀ i, (assignEach (e :: es) (F.X i).env).map (·.2) = assign e (F.X i).env :: (assignEach es (F.X i).env).map (·.2) := by intro _; rfl) : QGcs F us (e :: es) (gsC t u) := by
  obtain ⟨g, p, s⟩ := h
  obtain ⟨g2, p2, s2⟩ := h2
  refine ⟨gCons g g2, fun i => pgs_cons (p i) (p2 i) (hs i), fun G0 H0 env σ G H vs ds Q R I r q k => ?_⟩
  cases ds with
  | nil => exact (q : False).elim
  | cons d ds =>
    obtain ⟨v, w, rfl, r1, r2⟩ := r
    exact ⟨v, w, rfl, s G0 H0 env σ G H v d _ _ I r1 q fun env' σ' w1 I1 q1 => s2 G0 H0 env' σ' G H w ds Q R I1 r2 q1 fun env2 σ2 w2 => k env2 σ2 (w2.trans w1)⟩
theorem qgc_tup {k : Nat} {t : DGs} {n : Nat} (hc : ∀ i, (F.X i).calm = true) (h : QGcs F us es t) (hn : ∀ i, (assignEach es (F.X i).env).length = n := by intro _; rfl) (hst : ∀ i, (assignEach es (F.X i).env).findIdx? (·.1) = none := by intro _; rfl) : QGc F us (.Tuple es k pos) (gTp n t) := by
  obtain ⟨g, p, s⟩ := h
  refine ⟨gTup F.K n g, fun i => by have := pg_tup (pos := pos) (k := k) (hc i) (p i) (hn i) (hst i); rw [F.hK] at this; exact this, fun G0 H0 env σ G H v d Q R I r q k => ?_⟩
  cases d with
  | tup ds =>
    obtain ⟨a, vs, e1, h1, r1⟩ := r
    exact ⟨a, vs, e1, SqT.of (I.sub _ _ h1), by rw [r1.len]; exact q.1, s G0 H0 env σ G H vs ds Q R I r1 q.2 k⟩
  | _ => exact (q : False).elim
/-- the tests of a comprehension -/
def QTs (F : Fam) (ifs : List Expr) (t : DT) : Prop := ∃ te : TT, (∀ i, PTs (F.X i) ifs te) ∧ SemT F.K te t
def dTru : DT := fun env Q => Q true env
theorem qts_nil : QTs F [] dTru := ⟨tYes, fun _ => pts_nil, fun G0 H0 env σ G H Q R I q k => k true H G env (Same.refl G) I q⟩
theorem qts_one (h : QT F e tt) : QTs F [e] tt := let ⟨te, p, s⟩ := h; ⟨te, fun i => pts_one (p i), s⟩

/-- the family of a comprehension's blocks -/
structure BIx (ι : Type) where
  i : ι
  s : Shared
  H : Hp
  C : Addr
  cl : List (Str × Addr)
  fp : List Addr
abbrev Fam.blk (F : Fam) (scope : Scope) : Fam := ⟨BIx F.ι, fun j => (F.X j.i).blk j.s j.H scope (compEnvC scope j.cl j.C (F.X j.i).env) j.fp, F.K, fun j => F.hK j.i⟩
def dLc (ti : DI) (g : DG) (tt : DT) (te : DE) (vs : List Nat) : DE := fun env Q => ti env fun items env1 => ∃ I : Nat → List D → DEnv → Prop, I 0 [] (noS env1 vs) ∧
  (∀ k d acc e, items[k]? = some d → I k acc e → g d e fun e2 => tt e2 fun b e3 => br b (te e3 fun z e4 => acc.length < sizeLine ∧ I (k + 1) (acc ++ [z]) (noS e4 vs)) (I (k + 1) acc (noS e3 vs))) ∧
  ∀ acc e, I items.length acc e → Q (.lst acc) (resS env1 e vs)
theorem sem_lc {K : PySem.W.Frag} {wi : TI} {gg : TG} {t3 : TT} {t4 : TE} {ti : DI} {g : DG} {vs : List Nat} (hi : SemI K wi ti) (hg : SemGc K vs gg g) (ht : SemT K t3 tt) (he : SemE K t4 te) : SemO K (tLc wi gg t3 t4 vs) (dLc ti g tt te vs) := by
  intro G0 H0 env σ G H Q R I q k
  refine hi G0 H0 env σ G H _ _ I q fun J H1 G1 env1 items s1 I1 ok q1 => ?_
  obtain ⟨W, w0, turn, fin⟩ := q1
  intro D hD
  have start : ER K G0 H0 (noS env1 vs) (wipe σ vs) G1 (upd H1 D (.lst [])) ∧ OwnV K H0 (noS env1 vs) (wipe σ vs) G1 (upd H1 D (.lst [])) (.ref D) (.lst []) :=
    ⟨(I1.newH hD).wipe, (I1.freshOwn hD (d := .lst []) (o := .lst []) ⟨[], rfl, rfl⟩).wipe⟩
  refine ⟨fun i m H' => m = items.length - i ∧ i ≤ items.length ∧ ∃ acc e G', Same G1 G' ∧ ER K G0 H0 (noS e vs) (wipe σ vs) G' H' ∧ OwnV K H0 (noS e vs) (wipe σ vs) G' H' (.ref D) (.lst acc) ∧ W i acc (noS e vs),
    ⟨_, rfl, Nat.zero_le _, [], env1, G1, Same.refl G1, start.1, start.2, w0⟩, ?_⟩
  rintro i m H' ⟨rfl, hi, acc, e, G', s2, I2, ow, w2⟩
  by_cases hlt : i < items.length
  · refine .inr ⟨ok.go i G' H' s2 I2.sub hlt, fun H3 => ∃ acc e G3, Same G1 G3 ∧ ER K G0 H0 (noS e vs) (wipe σ vs) G3 H3 ∧ OwnV K H0 (noS e vs) (wipe σ vs) G3 H3 (.ref D) (.lst acc) ∧ W (i + 1) acc (noS e vs),
      fun H3 h => ⟨items.length - (i + 1), by omega, rfl, hlt, h⟩, fun x H3 y => ?_⟩
    have ow' := ow
    obtain ⟨p, e1, gp, h0p, ⟨o, hp, avs, rfl, ra⟩, sep⟩ := ow
    cases e1
    obtain ⟨G3, a1, a2, a3, a4⟩ := ok.yld i G' H' items[i] x H3 s2 I2.sub (List.getElem?_eq_getElem hlt) y
    obtain ⟨I3, s3⟩ := (I2.base ow' hp).ext a1 a2 a3
    refine hg _ _ (noS e vs) (wipe σ vs) G3 H3 x items[i] _ _ I3 a4 (turn i items[i] acc (noS e vs) (List.getElem?_eq_getElem hlt) w2) fun env4 σ4 hw I4 q4 => ?_
    rw [wipe_idem] at hw
    refine ⟨hw, ?_⟩
    have fin4 : ∀ {env5 : DEnv} {G5 H5 : Hp}, Same G3 G5 → ER K (minusA G0 D) (upd H0 D (.lst avs)) env5 σ4 G5 H5 → ER K G0 H0 (noS env5 vs) (wipe σ vs) G5 H5 ∧ OwnV K H0 (noS env5 vs) (wipe σ vs) G5 H5 (.ref D) (.lst acc) := fun {env5 G5 H5} s5 I5 => by
      obtain ⟨b1, b2⟩ := I5.unbase h0p (d := .lst acc) ⟨avs, rfl, (ra.mono s3).mono s5⟩
      rw [← hw]
      exact ⟨b1.wipe, b2.wipe⟩
    refine ht _ _ env4 σ4 G3 H3 _ _ I4 q4 fun b H5 G5 env5 s5 I5 q5 => ?_
    cases b with
    | false =>
      rw [if_neg Bool.false_ne_true]
      obtain ⟨b1, b2⟩ := fin4 s5 I5
      exact ⟨acc, env5, G5, s2.trans (s3.trans s5), b1, b2, br_f q5⟩
    | true =>
      rw [if_pos rfl]
      refine he _ _ env5 σ4 G5 H5 _ _ I5 (br_t q5) fun z H6 G6 env6 d6 s6 I6 r6 q6 => ?_
      obtain ⟨hz, q6⟩ := q6
      obtain ⟨b1, b2⟩ := fin4 (s5.trans s6) I6
      have rr : Reps K G6 (acc ++ [d6]) (avs ++ [z]) := (((ra.mono s3).mono s5).mono s6).append (Reps.one r6)
      obtain ⟨c1, c2⟩ := b1.writeV b2 (e := .lst (acc ++ [d6])) ⟨_, rfl, rr⟩
      exact ⟨avs, I6.old _ _ upd_same, by rw [ra.len]; exact hz, acc ++ [d6], env6, G6, s2.trans (s3.trans (s5.trans s6)), c1, c2, q6⟩
  · have e1 : i = items.length := by omega
    subst e1
    exact .inl ⟨ok.stop G' H' s2 I2.sub, k _ H' G' _ (.lst acc) (s1.trans s2) (I2.unwipe.res I1 s2) ow.unwipe.res (fin acc (noS e vs) w2)⟩
end
end DL

set_option Elab.async false
set_option linter.all false
set_option maxRecDepth 100000
namespace DL
open PySem PySem.Spec PyProof.Rows L2
section
variable {F : Fam} {own : Bool} {e a b c o : Expr} {es : List Expr} {t te ta tb : DE} {tt : DT} {tA : DA} {pos : Pos} {K : PySem.W.Frag}
def cOrdS (p : List Nat → List Nat → Bool) (x y : D) (Q : Bool → Prop) : Prop := match x, y with
  | .str i, .str j => Q (p i j)
  | _, _ => False
abbrev cLtS := cOrdS fun i j => decide (i < j)
abbrev cGtS := cOrdS fun i j => decide (j < i)
abbrev cLeS := cOrdS fun i j => !decide (j < i)
abbrev cGeS := cOrdS fun i j => !decide (i < j)
theorem cps_list (l : List Nat) : (⟨l.toArray⟩ : Str).cps.toList = l := by simp
theorem cmpc_ordS {p : List Nat → List Nat → Bool} : CmpC K (fun x y H Q => ∃ i j, x = .str i ∧ y = .str j ∧ Q (.bl (p i.cps.toList j.cps.toList)) H) (cOrdS p) := by
  intro G0 H0 env σ G H x y d e Q R I r1 r2 q k
  unfold cOrdS at q
  split at q
  · exact ⟨_, _, rep_str r1, rep_str r2, k _ q⟩
  · exact q.elim
theorem q_ltS (ha : QE F a ta) (hb : QE F b tb) : QE F (.Compare a [.Lt] [b] pos) (dCmp cLtS ta tb) := q_cmp (fun _ => op_lt_str) (cmpc_ordS (p := fun i j => decide (i < j))) ha hb (nomark _)
theorem q_leS (ha : QE F a ta) (hb : QE F b tb) : QE F (.Compare a [.LtE] [b] pos) (dCmp cLeS ta tb) := q_cmp (fun _ => op_le_str) (cmpc_ordS (p := fun i j => !decide (j < i))) ha hb (nomark _)
theorem q_gtS (ha : QE F a ta) (hb : QE F b tb) : QE F (.Compare a [.Gt] [b] pos) (dCmp cGtS ta tb) := q_cmp (fun _ => op_gt_str) (cmpc_ordS (p := fun i j => decide (j < i))) ha hb (nomark _)
theorem q_geS (ha : QE F a ta) (hb : QE F b tb) : QE F (.Compare a [.GtE] [b] pos) (dCmp cGeS ta tb) := q_cmp (fun _ => op_ge_str) (cmpc_ordS (p := fun i j => !decide (i < j))) ha hb (nomark _)
theorem qt_ltS (ha : QE F a ta) (hb : QE F b tb) : QT F (.Compare a [.Lt] [b] pos) (dCmpT cLtS ta tb) := qt_cmp (fun _ => op_lt_str) (cmpc_ordS (p := fun i j => decide (i < j))) ha hb (nomark _)
theorem qt_leS (ha : QE F a ta) (hb : QE F b tb) : QT F (.Compare a [.LtE] [b] pos) (dCmpT cLeS ta tb) := qt_cmp (fun _ => op_le_str) (cmpc_ordS (p := fun i j => !decide (j < i))) ha hb (nomark _)
theorem qt_gtS (ha : QE F a ta) (hb : QE F b tb) : QT F (.Compare a [.Gt] [b] pos) (dCmpT cGtS ta tb) := qt_cmp (fun _ => op_gt_str) (cmpc_ordS (p := fun i j => decide (j < i))) ha hb (nomark _)
theorem qt_geS (ha : QE F a ta) (hb : QE F b tb) : QT F (.Compare a [.GtE] [b] pos) (dCmpT cGeS ta tb) := qt_cmp (fun _ => op_ge_str) (cmpc_ordS (p := fun i j => !decide (i < j))) ha hb (nomark _)

def flatD : D → Bool
  | .non => true
  | .bl _ => true
  | .int _ => true
  | .str _ => true
  | _ => false
theorem flatV_of {G : Hp} {d : D} {v : V} (h : flatD d = true) (r : Rep K G d v) : flatV v = true := by
  cases d <;> first | (cases (show _ = _ from r); rfl) | cases h
theorem flatVs_of {G : Hp} : ∀ {ds : List D} {vs : List V}, ds.all flatD = true → Reps K G ds vs → vs.all flatV = true
  | [], vs, _, r => by cases r; rfl
  | d :: ds, vs, h, ⟨v, w, e, r1, r2⟩ => by
    subst e
    rw [List.all_cons, Bool.and_eq_true] at h ⊢
    exact ⟨flatV_of h.1 r1, flatVs_of h.2 r2⟩
theorem eqV_of {G : Hp} {d e : D} {v w : V} (h : flatD d = true) (h' : flatD e = true) (r : Rep K G d v) (r' : Rep K G e w) : eqV v w = eqD d e := by
  cases d with
  | non => cases (show _ = _ from r); cases e <;> first | (cases (show _ = _ from r'); rfl) | cases h'
  | bl b => cases (show _ = _ from r); cases e <;> first | (cases (show _ = _ from r'); rfl) | cases h'
  | int b => cases (show _ = _ from r); cases e <;> first | (cases (show _ = _ from r'); rfl) | cases h'
  | str b => cases (show _ = _ from r); cases e <;> first | (cases (show _ = _ from r'); first | rfl | exact str_eq _ _) | cases h'
  | _ => cases h
theorem inV_of {G : Hp} {d : D} {v : V} (h : flatD d = true) (r : Rep K G d v) : ∀ {ds : List D} {vs : List V}, ds.all flatD = true → Reps K G ds vs → inV v vs = ds.any fun z => eqD z d
  | [], vs, _, r => by cases r; rfl
  | e :: ds, vs, h', ⟨w, ws, e1, r1, r2⟩ => by
    subst e1
    rw [List.all_cons, Bool.and_eq_true] at h'
    have := inV_of h r h'.2 r2
    unfold inV at this ⊢
    rw [List.any_cons, List.any_cons, this, eqV_of h'.1 h r1 r]
/-- the items can be compared: flat ones, or data of the depth 60 -/
def inOk (x : D) (ds : List D) : Prop := (flatD x = true ∧ ds.all flatD = true) ∨ (shD 60 x = true ∧ shD 60 (.lst ds) = true)
def cIn (x y : D) (Q : Bool → Prop) : Prop := match y with
  | .lst ds => inOk x ds ∧ Q (ds.any fun z => eqD z x)
  | .tup ds => flatD x = true ∧ ds.all flatD = true ∧ Q (ds.any fun z => eqD z x)
  | .str s => ∃ c, x = .str [c] ∧ Q (decide (c ∈ s))
  | _ => False
def cNotin (x y : D) (Q : Bool → Prop) : Prop := cIn x y fun b => Q (!b)
def CmpP (K : PySem.W.Frag) (r : R2) (c : D → D → (Bool → Prop) → Prop) : Prop := ∀ (G0 H0 : Hp) (env : DEnv) (σ : L2.St) (G H : Hp) (x y : V) (d e : D) (Q : Bool → Prop) (R : VK), ER K G0 H0 env σ G H → Rep K G d x → PRep K G H e y → c d e Q →
  (∀ b, Q b → R (.bl b) H) → r x y H R
theorem reps_any {n : Nat} {d : D} (hd : shD n d = true) : ∀ {ds : List D}, shDs n ds = true → ((toPs ds).any fun z => PyData.eqv z (toP d)) = ds.any fun z => eqD z d
  | [], _ => rfl
  | e :: ds, h => by
    obtain ⟨h1, h2⟩ := Bool.and_eq_true_iff.mp (by simpa [shDs] using h : (shD n e && shDs n ds) = true)
    show (List.any (toP e :: toPs ds) _) = _
    rw [List.any_cons, List.any_cons, reps_any hd h2, eqv_toP n e d h1 hd]
theorem shD_mono : ∀ {n : Nat} {d : D}, shD n d = true → shD (n + 1) d = true := by
  have key : ∀ n, (∀ d, shD n d = true → shD (n + 1) d = true) := by
    intro n
    induction n with
    | zero => intro d h; cases d <;> simp_all [shD]
    | succ n ih =>
      have l : ∀ ds, shDs n ds = true → shDs (n + 1) ds = true := by
        intro ds
        induction ds with
        | nil => intro _; rfl
        | cons d ds ih2 =>
          intro h
          obtain ⟨h1, h2⟩ := Bool.and_eq_true_iff.mp (by simpa [shDs] using h : (shD n d && shDs n ds) = true)
          simp [shDs, ih d h1, ih2 h2]
      intro d h
      cases d with
      | tup ds => exact l ds h
      | lst ds => exact l ds h
      | _ => first | exact h | cases h
  exact fun {n d} => key n d
theorem own_dp {G H : Hp} (s : Same G H) {ds : List D} {v : V} (h : PRep K G H (.lst ds) v) (hs : shD 60 (.lst ds) = true) : Dp K H v (.list (toPs ds)) := by
  obtain ⟨p, vs, rfl, h1, r1⟩ := h.lst s
  have : Rep K (upd G p (.lst vs)) (.lst ds) (.ref p) := ⟨p, vs, rfl, upd_same, r1.mono (fun b o q => by
    by_cases hb : b = p
    · subst hb; rw [upd_same]; rw [s _ _ q] at h1; exact h1.symm
    · rw [upd_ne hb]; exact q)⟩
  exact dp_of (G := upd G p (.lst vs)) (fun b o q => by
    by_cases hb : b = p
    · subst hb; rw [upd_same] at q; cases q; exact h1
    · rw [upd_ne hb] at q; exact s _ _ q) 60 (.lst ds) (.ref p) hs this
theorem shaped60 {d : D} (h : shD 60 d = true) : SeqAt.shaped (toP d) = true := by
  obtain ⟨a, b⟩ := shaped_toP 60 d h
  exact Bool.and_eq_true_iff.mpr ⟨a, decide_eq_true (by omega)⟩
theorem cmpp_in : CmpP K (fun x y H Q => (rIn K false x y H Q ∨ rInD K x y H Q) ∨ (∃ (c : Nat) (z : Str), x = .str ⟨#[c]⟩ ∧ y = .str z ∧ Q (.bl (decide (c ∈ z.cps.toList))) H)) cIn := by
  intro G0 H0 env σ G H x y d e Q R I r1 r2 q k
  cases e with
  | lst ds =>
    obtain ⟨h, q⟩ := q
    rcases h with ⟨f1, f2⟩ | ⟨f1, f2⟩
    · obtain ⟨p, vs, rfl, h1, a1⟩ := r2.lst I.sub
      exact .inl (.inl ⟨p, vs, rfl, .inl (SqL.of h1), flatV_of f1 r1, flatVs_of f2 a1, by rw [inV_of f1 r1 f2 a1]; exact k _ q⟩)
    · refine .inl (.inr ⟨toP d, toPs ds, dp_of I.sub 60 d x f1 r1, own_dp I.sub r2 f2, shaped60 f1, shaped60 f2, ?_⟩)
      rw [reps_any (n := 60) f1 (by
        have l : ∀ es, shDs 59 es = true → shDs 60 es = true := by
          intro es
          induction es with
          | nil => intro _; rfl
          | cons z es ih =>
            intro h
            obtain ⟨h1, h2⟩ := Bool.and_eq_true_iff.mp (by simpa [shDs] using h : (shD 59 z && shDs 59 es) = true)
            have := shD_mono h1
            simp only [shDs, this, ih h2, Bool.and_self]
        exact l ds f2)]
      exact k _ q
  | tup ds =>
    obtain ⟨f1, f2, q⟩ := q
    obtain ⟨p, vs, rfl, h1, a1⟩ := r2.frozen (fun _ z => z)
    exact .inl (.inl ⟨p, vs, rfl, .inr (SqT.of (I.sub _ _ h1)), flatV_of f1 r1, flatVs_of f2 a1, by rw [inV_of f1 r1 f2 a1]; exact k _ q⟩)
  | str s =>
    obtain ⟨c, rfl, q⟩ := q
    refine .inr ⟨c, _, rep_str r1, rep_str (r2.frozen (fun _ z => z)), ?_⟩
    rw [cps_list]
    exact k _ q
  | _ => exact (q : False).elim
theorem cmpp_notin : CmpP K (fun x y H Q => (rIn K true x y H Q ∨ rNotInD K x y H Q) ∨ (∃ (c : Nat) (z : Str), x = .str ⟨#[c]⟩ ∧ y = .str z ∧ Q (.bl (!decide (c ∈ z.cps.toList))) H)) cNotin := by
  intro G0 H0 env σ G H x y d e Q R I r1 r2 q k
  cases e with
  | str s =>
    obtain ⟨c, rfl, q⟩ := q
    refine .inr ⟨c, _, rep_str r1, rep_str (r2.frozen (fun _ z => z)), ?_⟩
    rw [cps_list]
    exact k _ q
  | lst ds =>
    obtain ⟨h, q⟩ := q
    rcases h with ⟨f1, f2⟩ | ⟨f1, f2⟩
    · obtain ⟨p, vs, rfl, h1, a1⟩ := r2.lst I.sub
      exact .inl (.inl ⟨p, vs, rfl, .inl (SqL.of h1), flatV_of f1 r1, flatVs_of f2 a1, by rw [inV_of f1 r1 f2 a1]; exact k _ q⟩)
    · refine .inl (.inr ⟨toP d, toPs ds, dp_of I.sub 60 d x f1 r1, own_dp I.sub r2 f2, shaped60 f1, shaped60 f2, ?_⟩)
      rw [reps_any (n := 60) f1 (by
        have l : ∀ es, shDs 59 es = true → shDs 60 es = true := by
          intro es
          induction es with
          | nil => intro _; rfl
          | cons z es ih =>
            intro h
            obtain ⟨h1, h2⟩ := Bool.and_eq_true_iff.mp (by simpa [shDs] using h : (shD 59 z && shDs 59 es) = true)
            have := shD_mono h1
            simp only [shDs, this, ih h2, Bool.and_self]
        exact l ds f2)]
      exact k _ q
  | tup ds =>
    obtain ⟨f1, f2, q⟩ := q
    obtain ⟨p, vs, rfl, h1, a1⟩ := r2.frozen (fun _ z => z)
    exact .inl (.inl ⟨p, vs, rfl, .inr (SqT.of (I.sub _ _ h1)), flatV_of f1 r1, flatVs_of f2 a1, by rw [inV_of f1 r1 f2 a1]; exact k _ q⟩)
  | _ => exact (q : False).elim
theorem q_cmpP {op : CmpOp} {r : R2} {c : D → D → (Bool → Prop) → Prop} (ho : ∀ i, OpR (F.X i) (compareOp op) r) (hc : CmpP F.K r c) (ha : QE F a ta) (hb : QP F b tb) (hm : behindInMarks op b = false) : QE F (.Compare a [op] [b] pos) (dCmp c ta tb) := by
  obtain ⟨sa, pa, ha⟩ := ha
  obtain ⟨sb, pb, hb⟩ := hb
  refine ⟨tOp r sa sb, fun i => pe_cmpR (ho i) (pa i) (pb i) hm, fun G0 H0 env σ G H Q R I q k => ?_⟩
  exact ha G0 H0 env σ G H _ _ I q fun x H1 G1 env1 d s1 I1 r1 q1 => hb G0 H0 env1 σ G1 H1 _ _ I1 q1 fun y H2 G2 env2 e s2 I2 r2 q2 =>
    hc G0 H0 env2 σ G2 H2 x y d e _ R I2 (r1.mono s2) r2 q2 fun z q3 => k _ H2 G2 env2 (.bl z) (s1.trans s2) I2 rfl q3
theorem qt_cmpP {op : CmpOp} {r : R2} {c : D → D → (Bool → Prop) → Prop} (ho : ∀ i, OpR (F.X i) (compareOp op) r) (hc : CmpP F.K r c) (ha : QE F a ta) (hb : QP F b tb) (hm : behindInMarks op b = false) : QT F (.Compare a [op] [b] pos) (dCmpT c ta tb) := by
  obtain ⟨sa, pa, ha⟩ := ha
  obtain ⟨sb, pb, hb⟩ := hb
  refine ⟨tTest (tOp r sa sb), fun i => pt_cmpR (ho i) (pa i) (pb i) hm, fun G0 H0 env σ G H Q R I q k => ?_⟩
  exact ha G0 H0 env σ G H _ _ I q fun x H1 G1 env1 d s1 I1 r1 q1 => hb G0 H0 env1 σ G1 H1 _ _ I1 q1 fun y H2 G2 env2 e s2 I2 r2 q2 =>
    hc G0 H0 env2 σ G2 H2 x y d e _ _ I2 (r1.mono s2) r2 q2 fun z q3 => ⟨z, rfl, k z H2 G2 env2 (s1.trans s2) I2 q3⟩
theorem Room.u65 {k : Nat} {A : Around} (r : Room k A) : A.units + 65 < cLine := by have := r.un; omega
section
variable {k : Nat} (hr : ∀ i, Room k (F.X i).A) (ha : QE F a ta) (hb : QP F b tb)
include hr ha hb
theorem q_in (hm : behindInMarks .In b = false := by rfl) : QE F (.Compare a [.In] [b] pos) (dCmp cIn ta tb) := q_cmpP (fun i => by have := (op_in_seq.or (op_inD (Room.u65 (hr i)))).or (op_in_sign (X := F.X i)); rw [F.hK] at this; exact this) cmpp_in ha hb hm
theorem q_notin (hm : behindInMarks .NotIn b = false := by rfl) : QE F (.Compare a [.NotIn] [b] pos) (dCmp cNotin ta tb) := q_cmpP (fun i => by have := (op_notIn_seq.or (op_notInD (Room.u65 (hr i)))).or (op_notIn_sign (X := F.X i)); rw [F.hK] at this; exact this) cmpp_notin ha hb hm
theorem qt_in (hm : behindInMarks .In b = false := by rfl) : QT F (.Compare a [.In] [b] pos) (dCmpT cIn ta tb) := qt_cmpP (fun i => by have := (op_in_seq.or (op_inD (Room.u65 (hr i)))).or (op_in_sign (X := F.X i)); rw [F.hK] at this; exact this) cmpp_in ha hb hm
theorem qt_notin (hm : behindInMarks .NotIn b = false := by rfl) : QT F (.Compare a [.NotIn] [b] pos) (dCmpT cNotin ta tb) := qt_cmpP (fun i => by have := (op_notIn_seq.or (op_notInD (Room.u65 (hr i)))).or (op_notIn_sign (X := F.X i)); rw [F.hK] at this; exact this) cmpp_notin ha hb hm
end
def cIsn (x : D) (Q : D → Prop) : Prop := match x with
  | .non => Q (.bl true)
  | _ => Q (.bl false)
def sIxD (n d : Nat) : Option Int → Nat
  | none => d
  | some v => if v < 0 then (v + (n : Int)).toNat else min v.toNat n
def cutD {α : Type} (xs : List α) (lo hi : Option Int) : List α := (xs.drop (HT.sIx xs.length 0 lo)).take (HT.sIx xs.length xs.length hi - HT.sIx xs.length 0 lo)
abbrev DP := DEnv → (Option Int → DEnv → Prop) → Prop
def SemPt (K : PySem.W.Frag) (te : TO) (t : DP) : Prop := ∀ (G0 H0 : Hp) (env : DEnv) (σ : L2.St) (G H : Hp) (Q : Option Int → DEnv → Prop) (R : Option Int → Hp → Prop), ER K G0 H0 env σ G H → t env Q →
  (∀ x H' G' env', Same G G' → ER K G0 H0 env' σ G' H' → Q x env' → R x H') → te σ H R
def QPt (F : Fam) (e : Option Expr) (t : DP) : Prop := ∃ te : TO, (∀ i, PO (F.X i) e te) ∧ SemPt F.K te t
def dNoP : DP := fun env Q => Q none env
def dPart (t : DE) : DP := fun env Q => t env fun d env1 => match d with
  | .int i => Q (some i) env1
  | _ => False
theorem qp_none : QPt F none dNoP := ⟨tNoPart, fun _ => po_none, fun G0 H0 env σ G H Q R I q k => k none H G env (Same.refl G) I q⟩
theorem qp_some (h : QE F a ta) : QPt F (some a) (dPart ta) := by
  obtain ⟨sa, pa, ha⟩ := h
  refine ⟨tPart sa, fun i => po_some (pa i), fun G0 H0 env σ G H Q R I q k => ha G0 H0 env σ G H _ _ I q fun x H1 G1 env1 d s1 I1 r1 q1 => ?_⟩
  cases d with
  | int i => exact ⟨i, r1, k (some i) H1 G1 env1 s1 I1 q1⟩
  | _ => exact (q1 : False).elim
def cSl (x : D) (lo hi : Option Int) (Q : D → Prop) : Prop := match x with
  | .lst ds => Q (.lst (cutD ds lo hi))
  | .tup ds => Q (.tup (cutD ds lo hi))
  | .scr ns => Q (.lst (cutD (ns.map .int) lo hi))
  | .str s => s.length ≤ sizeLine ∧ Q (.str (cutD s lo hi))
  | _ => False
def rSlAll (K : PySem.W.Frag) : V → Option Int → Option Int → Hp → VK → Prop := fun x lo hi H Q => (rSlL K x lo hi H Q ∨ rSlA K x lo hi H Q) ∨ rSlS x lo hi H Q
theorem sl_all {X : Cx} : SlR X (rSlAll X.K) := (sl_list.or sl_tupA).or sl_str
theorem Reps.cut {G : Hp} {ds : List D} {vs : List V} (r : Reps K G ds vs) (lo hi : Option Int) : Reps K G (cutD ds lo hi) (cutV vs lo hi) := by
  unfold cutD cutV
  rw [r.len]
  exact (r.drop _).take _
theorem sl_sem {G0 H0 : Hp} {env : DEnv} {σ : L2.St} {G H : Hp} {x : V} {d : D} {lo hi : Option Int} {Q : D → Prop} {R : VK} (I : ER K G0 H0 env σ G H) (r : PRep K G H d x) (q : cSl d lo hi Q)
    (k : ∀ v H' G' z, Same G G' → ER K G0 H0 env σ G' H' → Rep K G' z v → Q z → R v H') : rSlAll K x lo hi H R := by
  cases d with
  | lst ds =>
    obtain ⟨p, vs, rfl, h1, a1⟩ := r.lst I.sub
    refine .inl (.inl ⟨p, vs, rfl, SqL.of h1, fun l hl => ?_⟩)
    obtain ⟨I2, s2⟩ := I.new (o := .lst (cutV vs lo hi)) hl
    exact k _ _ _ (.lst (cutD ds lo hi)) s2 I2 ⟨l, _, rfl, upd_same, (a1.cut lo hi).mono s2⟩ q
  | scr ns =>
    obtain ⟨p, rfl, h1⟩ := r.frozen (fun _ z => z)
    refine .inl (.inl ⟨p, _, rfl, I.sub.seq h1, fun l hl => ?_⟩)
    obtain ⟨I2, s2⟩ := I.new (o := .lst (cutV (ns.map V.int) lo hi)) hl
    exact k _ _ _ (.lst (cutD (ns.map .int) lo hi)) s2 I2 ⟨l, _, rfl, upd_same, ((Reps.ints ns).cut lo hi).mono s2⟩ q
  | tup ds =>
    obtain ⟨p, vs, rfl, h1, a1⟩ := r.frozen (fun _ z => z)
    refine .inl (.inr ⟨p, vs, rfl, SqT.of (I.sub _ _ h1), fun ⟨w1, w2⟩ => ?_, fun _ l hl => ?_⟩)
    · have e : cutD ds lo hi = ds := by
        unfold cutD
        rw [← a1.len, w1, w2, List.drop_zero, Nat.sub_zero, a1.len, List.take_length]
      have q : Q (.tup (cutD ds lo hi)) := q
      rw [e] at q
      exact k (.ref p) H G (.tup ds) (Same.refl G) I ⟨p, vs, rfl, h1, a1⟩ q
    · obtain ⟨I2, s2⟩ := I.new (o := .tup (cutV vs lo hi)) hl
      exact k _ _ _ (.tup (cutD ds lo hi)) s2 I2 ⟨l, _, rfl, upd_same, (a1.cut lo hi).mono s2⟩ q
  | str s =>
    obtain ⟨h, q⟩ := q
    refine .inr ⟨_, rep_str (r.frozen (fun _ z => z)), by rw [str_len]; exact h, k _ H G (.str (cutD s lo hi)) (Same.refl G) I ?_ q⟩
    show V.str (cutS _ lo hi) = _
    unfold cutS cutD
    rw [cps_list, str_len]
  | _ => exact (q : False).elim
def dSlice (t : DE) (lo hi : DP) : DE := fun env Q => t env fun d env1 => lo env1 fun l env2 => hi env2 fun h env3 => cSl d l h fun z => Q z env3
theorem q_slice {p2 : Pos} {lo hi : Option Expr} {tl th : DP} (h : QE F e te) (hl : QPt F lo tl) (hh : QPt F hi th) : QE F (.Subscript e (.Slice lo hi none p2) pos) (dSlice te tl th) := by
  obtain ⟨sa, pa, ha⟩ := h
  obtain ⟨sl, pl, hl⟩ := hl
  obtain ⟨sh, ph, hh⟩ := hh
  refine ⟨_, fun i => pe_slice (by have := sl_all (X := F.X i); rw [F.hK] at this; exact this) (pa i) (pl i) (ph i), fun G0 H0 env σ G H Q R I q k => ?_⟩
  exact ha G0 H0 env σ G H _ _ I q fun x H1 G1 env1 d s1 I1 r1 q1 => hl G0 H0 env1 σ G1 H1 _ _ I1 q1 fun l H2 G2 env2 s2 I2 q2 => hh G0 H0 env2 σ G2 H2 _ _ I2 q2 fun u H3 G3 env3 s3 I3 q3 =>
    sl_sem I3 (.inl ((r1.mono s2).mono s3)) q3 fun v H4 G4 z s4 I4 r4 q4 => k v H4 G4 env3 z (s1.trans (s2.trans (s3.trans s4))) I4 r4 q4
/-- a name's slice, the name stays owned -/
def dSlV (j : Nat) (lo hi : DP) : DE := fun env Q => bound (gs env j) ∧ lo env fun l env2 => hi env2 fun h env3 => slD (gs env3 j) fun d => cSl d l h fun z => Q z env3
theorem q_slv (j : Nat) {x : Str} {ipos p2 : Pos} {lo hi : Option Expr} {tl th : DP} (hl : QPt F lo tl) (hh : QPt F hi th) (hN : ∀ i, (F.X i).N[j]? = some x := by exact fun _ => rfl) (hv : ∀ i, Vis (F.X i).env.scope x := by first | exact fun _ => Or.inl rfl | exact fun _ => Or.inr (Or.inl rfl) | exact fun _ => Or.inr (Or.inr rfl)) (hd : (x == ("__debug__" : Str)) = false := by decide) (hcd : (x == ("__classdict__" : Str)) = false := by decide) :
    QE F (.Subscript (.Name x ipos) (.Slice lo hi none p2) pos) (dSlV j tl th) := by
  obtain ⟨sl, pl, hl⟩ := hl
  obtain ⟨sh, ph, hh⟩ := hh
  refine ⟨_, fun i => pe_slice (by have := sl_all (X := F.X i); rw [F.hK] at this; exact this) (pe_var (hN i) (hv i) hd hcd) (pl i) (ph i), fun G0 H0 env σ G H Q R I q k => ?_⟩
  obtain ⟨hn, q⟩ := q
  obtain ⟨v, d, e, _, _⟩ := I.peek (i := j) (Q := fun _ => True) (by
    cases z : gs env j with
    | no => rw [z] at hn; exact hn
    | fz d => trivial
    | ow d => trivial
    | me p d => trivial)
  refine ⟨v, e, hl G0 H0 env σ G H _ _ I q fun l H2 G2 env2 s2 I2 q2 => hh G0 H0 env2 σ G2 H2 _ _ I2 q2 fun u H3 G3 env3 s3 I3 q3 => ?_⟩
  obtain ⟨v', d', e', q4, rp⟩ := I3.peek q3
  rw [e] at e'
  cases e'
  exact sl_sem I3 rp q4 fun v H4 G4 z s4 I4 r4 q4 => k v H4 G4 env3 z (s2.trans (s3.trans s4)) I4 r4 q4

def cSum (d : D) (Q : D → Prop) : Prop := match d with
  | .lst ds => ∃ ns : List Int, ds = ns.map .int ∧ Q (.int ns.sum)
  | .scr ns => Q (.int ns.sum)
  | _ => False
theorem reps_ints {G : Hp} : ∀ {ns : List Int} {vs : List V}, Reps K G (ns.map D.int) vs → vs = ns.map V.int
  | [], _, h => h
  | n :: ns, _, ⟨v, r, e, a, b⟩ => by
    subst e
    rw [rep_int a, reps_ints b]
    rfl
theorem calp_sum : CalP K (rSum K) cSum := by
  intro G0 H0 env σ G H x d Q R I r q k
  cases d with
  | lst ds =>
    obtain ⟨ns, rfl, q⟩ := q
    obtain ⟨p, vs, rfl, h1, a1⟩ := r.lst I.sub
    rw [reps_ints a1] at h1
    exact ⟨p, ns, rfl, SqL.of h1, k _ H G (.int ns.sum) (Same.refl G) I rfl q⟩
  | scr ns =>
    obtain ⟨p, rfl, h1⟩ := r.frozen (fun _ z => z)
    exact ⟨p, ns, rfl, I.sub.seq h1, k _ H G (.int ns.sum) (Same.refl G) I rfl q⟩
  | _ => exact (q : False).elim
theorem q_sum {p : Pos} (hc : ∀ i, (F.X i).calm = true) (hm : ∀ i, (F.X i).mg "sum" = none) (h : QP F e t) (hg : ∀ i, Gl (F.X i) "sum" := by exact fun _ => rfl) (hs : ∀ i, starEach (e :: []) (F.X i).env = (false, eval e (F.X i).env) :: starEach [] (F.X i).env := by intro _; rfl) : QE F (.Call (.Name "sum" p) [e] [] pos) (dCal cSum t) :=
  q_callB (fun i => by have := cr_sum (X := F.X i) (hc i); rw [F.hK] at this; exact this) calp_sum hg hm (by decide +kernel) h (hs := hs)
def cSorted (d : D) (Q : D → Prop) : Prop := match d with
  | .lst ds => ∃ ns : List Int, ds = ns.map .int ∧ ∀ ns' : List Int, ns'.Perm ns → ns'.Pairwise (· ≤ ·) → Q (.lst (ns'.map .int))
  | .scr ns => ∀ ns' : List Int, ns'.Perm ns → ns'.Pairwise (· ≤ ·) → Q (.lst (ns'.map .int))
  | _ => False
theorem calo_sorted : CalO K (rSortedI K) cSorted := by
  intro G0 H0 env σ G H x d Q R I r q k
  have fin : ∀ {ns : List Int} {l : Addr}, Q (.lst (ns.map .int)) → H l = none → R (.ref l) (upd H l (.lst (ns.map V.int))) := fun {ns l} q hl =>
    k _ _ G (.lst (ns.map .int)) (Same.refl G) (I.newH hl) (I.freshOwn hl ⟨_, rfl, Reps.ints ns⟩) q
  cases d with
  | lst ds =>
    obtain ⟨ns, rfl, q⟩ := q
    obtain ⟨p, vs, rfl, h1, a1⟩ := r.lst I.sub
    rw [reps_ints a1] at h1
    exact ⟨p, ns, rfl, SqL.of h1, fun ns' l h2 h3 hl => fin (q ns' h2 h3) hl⟩
  | scr ns =>
    obtain ⟨p, rfl, h1⟩ := r.frozen (fun _ z => z)
    exact ⟨p, ns, rfl, I.sub.seq h1, fun ns' l h2 h3 hl => fin (q ns' h2 h3) hl⟩
  | _ => exact (q : False).elim
theorem qo_sorted {p : Pos} (hm : ∀ i, (F.X i).mg "sorted" = none) (h : QP F e t) (hg : ∀ i, Gl (F.X i) "sorted" := by exact fun _ => rfl) (hs : ∀ i, starEach (e :: []) (F.X i).env = (false, eval e (F.X i).env) :: starEach [] (F.X i).env := by intro _; rfl) : QO F (.Call (.Name "sorted" p) [e] [] pos) (dCal cSorted t) :=
  qo_callB (fun i => by have := cr_sortedI (X := F.X i); rw [F.hK] at this; exact this) calo_sorted hg hm (by decide +kernel) h (hs := hs)
theorem reps_rng {G : Hp} (a b : Int) : Reps K G (rngD a (b - a).toNat) (rgV a b) := by
  unfold rngD rgV
  generalize (b - a).toNat = n
  have key : ∀ l : List Nat, Reps K G (l.map fun (k : Nat) => D.int (a + (k : Int))) (l.map fun i => V.int (a + (i : Nat))) := by
    intro l
    induction l with
    | nil => exact (rfl : _ = _)
    | cons x l ih => exact ⟨_, _, rfl, rfl, ih⟩
  exact key _
def dLRg1 (t : DE) : DE := fun env Q => t env fun d env1 => match d with
  | .int n => -(2 ^ 62) ≤ n ∧ n ≤ 2 ^ 24 ∧ Q (.lst (rngD 0 n.toNat)) env1
  | _ => False
theorem qo_listRg1 {p p2 pos2 : Pos} (hc : ∀ i, (F.X i).calm = true) (hm : ∀ i, (F.X i).mg "list" = none) (hm2 : ∀ i, (F.X i).mg "range" = none) (h : QE F a ta) (hg : ∀ i, Gl (F.X i) "list" := by exact fun _ => rfl) (hg2 : ∀ i, Gl (F.X i) "range" := by exact fun _ => rfl)
    (hs : ∀ i, starEach [a] (F.X i).env = (false, eval a (F.X i).env) :: starEach [] (F.X i).env := by intro _; rfl) (hs2 : ∀ i, starEach [.Call (.Name "range" p2) [a] [] pos2] (F.X i).env = (false, eval (.Call (.Name "range" p2) [a] [] pos2) (F.X i).env) :: starEach [] (F.X i).env := by intro _; rfl) :
    QO F (.Call (.Name "list" p) [.Call (.Name "range" p2) [a] [] pos2] [] pos) (dLRg1 ta) := by
  obtain ⟨sa, pa, ha⟩ := h
  refine ⟨tLstRg (tRg1 sa), fun i => pe_listRg (hc i) (hg i) (hm i) (prg_1 (hg2 i) (hm2 i) (pa i) (hs i)) (hs2 i), fun G0 H0 env σ G H Q R I q k => ha G0 H0 env σ G H _ _ I q fun x H1 G1 env1 d s1 I1 r1 q1 => ?_⟩
  cases d with
  | int n =>
    obtain ⟨h1, h2, q⟩ := q1
    refine ⟨n, r1, ⟨by omega, by omega, h1, by omega, by omega⟩, fun l hl => ?_⟩
    exact k _ _ G1 env1 (.lst (rngD 0 n.toNat)) s1 (I1.newH hl) (I1.freshOwn hl ⟨_, rfl, by have := reps_rng (K := F.K) (G := G1) 0 n; rwa [Int.sub_zero] at this⟩) q
  | _ => exact (q1 : False).elim
def cRgL (x y : D) (Q : D → Prop) : Prop := match x, y with
  | .int a, .int b => RgOk a b ∧ Q (.lst (rngD a (b - a).toNat))
  | _, _ => False
def dLRg2 (t u : DE) : DE := dOp cRgL t u
theorem qo_listRg2 {p p2 pos2 : Pos} (hc : ∀ i, (F.X i).calm = true) (hm : ∀ i, (F.X i).mg "list" = none) (hm2 : ∀ i, (F.X i).mg "range" = none) (h : QE F a ta) (h2 : QE F b tb) (hg : ∀ i, Gl (F.X i) "list" := by exact fun _ => rfl) (hg2 : ∀ i, Gl (F.X i) "range" := by exact fun _ => rfl)
    (hs : ∀ i, starEach [a, b] (F.X i).env = (false, eval a (F.X i).env) :: starEach [b] (F.X i).env := by intro _; rfl) (hsb : ∀ i, starEach [b] (F.X i).env = (false, eval b (F.X i).env) :: starEach [] (F.X i).env := by intro _; rfl) (hpl : ∀ i, (backTo pos2 (starEach [b] (F.X i).env)).any (·.1) = false := by intro _; rfl)
    (hs2 : ∀ i, starEach [.Call (.Name "range" p2) [a, b] [] pos2] (F.X i).env = (false, eval (.Call (.Name "range" p2) [a, b] [] pos2) (F.X i).env) :: starEach [] (F.X i).env := by intro _; rfl) :
    QO F (.Call (.Name "list" p) [.Call (.Name "range" p2) [a, b] [] pos2] [] pos) (dLRg2 ta tb) := by
  obtain ⟨sa, pa, ha⟩ := h
  obtain ⟨sb, pb, hb⟩ := h2
  refine ⟨tLstRg (tRg2 sa sb), fun i => pe_listRg (hc i) (hg i) (hm i) (prg_2 (hg2 i) (hm2 i) (pa i) (pb i) (hs i) (hsb i) (hpl i)) (hs2 i), fun G0 H0 env σ G H Q R I q k => ha G0 H0 env σ G H _ _ I q fun x H1 G1 env1 d s1 I1 r1 q1 => hb G0 H0 env1 σ G1 H1 _ _ I1 q1 fun y H2 G2 env2 e s2 I2 r2 q2 => ?_⟩
  cases d with
  | int n =>
    cases e with
    | int m =>
      obtain ⟨h1, q⟩ := (q2 : RgOk n m ∧ _)
      exact ⟨n, m, r1, r2, h1, fun l hl => k _ _ G2 env2 (.lst (rngD n (m - n).toNat)) (s1.trans s2) (I2.newH hl) (I2.freshOwn hl ⟨_, rfl, reps_rng n m⟩) q⟩
    | _ => exact (q2 : False).elim
  | _ => exact (q2 : False).elim

def cOAdd (x y : D) (Q : D → Prop) : Prop := match x, y with
  | .lst i, .lst j => i.length + j.length ≤ sizeLine ∧ Q (.lst (i ++ j))
  | _, _ => False
def cOMul (x y : D) (Q : D → Prop) : Prop := match x, y with
  | .lst xs, .int k => k < 2 ^ 62 ∧ xs.length * k.toNat ≤ sizeLine ∧ -(2 ^ 62) ≤ k ∧ Q (.lst (List.replicate k.toNat xs).flatten)
  | _, _ => False
theorem qo_add (ha : QE F a ta) (hb : QE F b tb) : QO F (.BinOp a .Add b pos) (dOp cOAdd ta tb) := by
  obtain ⟨sa, pa, ha⟩ := ha
  obtain ⟨sb, pb, hb⟩ := hb
  refine ⟨tOp rCat sa sb, fun i => pe_op op_cat (pa i) (pb i), fun G0 H0 env σ G H Q R I q k => ha G0 H0 env σ G H _ _ I q fun x H1 G1 env1 d s1 I1 r1 q1 => hb G0 H0 env1 σ G1 H1 _ _ I1 q1 fun y H2 G2 env2 e s2 I2 r2 q2 => ?_⟩
  cases d with
  | lst i =>
    cases e with
    | lst j =>
      obtain ⟨p, vs, e1, h1, a1⟩ := r1.mono s2
      obtain ⟨p2, ws, e2, h2, a2⟩ := r2
      exact ⟨p, p2, vs, ws, e1, e2, I2.sub _ _ h1, I2.sub _ _ h2, by rw [a1.len, a2.len]; exact q2.1, fun l hl => k _ _ G2 env2 (.lst (i ++ j)) (s1.trans s2) (I2.newH hl) (I2.freshOwn hl ⟨_, rfl, a1.append a2⟩) q2.2⟩
    | _ => exact (q2 : False).elim
  | _ => exact (q2 : False).elim
theorem qo_mul (ha : QE F a ta) (hb : QE F b tb) : QO F (.BinOp a .Mult b pos) (dOp cOMul ta tb) := by
  obtain ⟨sa, pa, ha⟩ := ha
  obtain ⟨sb, pb, hb⟩ := hb
  refine ⟨tOp rRep sa sb, fun i => pe_op op_rep (pa i) (pb i), fun G0 H0 env σ G H Q R I q k => ha G0 H0 env σ G H _ _ I q fun x H1 G1 env1 d s1 I1 r1 q1 => hb G0 H0 env1 σ G1 H1 _ _ I1 q1 fun y H2 G2 env2 e s2 I2 r2 q2 => ?_⟩
  cases d with
  | lst i =>
    cases e with
    | int j =>
      obtain ⟨p, vs, e1, h1, a1⟩ := r1.mono s2
      obtain ⟨q1, q2, q3, q4⟩ := q2
      exact ⟨p, j, vs, e1, r2, I2.sub _ _ h1, by omega, by omega, by rw [a1.len]; exact q2, fun l hl => k _ _ G2 env2 (.lst (List.replicate j.toNat i).flatten) (s1.trans s2) (I2.newH hl) (I2.freshOwn hl ⟨_, rfl, a1.flat _⟩) q4⟩
    | _ => exact (q2 : False).elim
  | _ => exact (q2 : False).elim
theorem qs_setLcO (i : Nat) {y : Str} {py : Pos} {elt tg iter : Expr} {ifs : List Expr} {scope : Scope} {ow : List (Str × Nat)} {spos : Pos} {ti : DI} {g : DG} (hc : ∀ j, (F.X j).calm = true) (hN : ∀ j, (F.X j).N.Nodup) (hi : QI F tg iter ti) (ok : ∀ j, BlkOk (F.X j).N (F.X j).env.scope scope ow)
    (hg : QGc (F.blk scope) (ow.map (·.2)) tg g) (ht : QTs (F.blk scope) ifs tt) (he : QE (F.blk scope) elt te) (hy : ∀ j, (F.X j).N[i]? = some y := by exact fun _ => rfl) (hyl : ∀ j, (F.X j).env.scope.names.lookup y = some .local := by exact fun _ => rfl) (hkind : ∀ j, (F.X j).env.scope.kind = .function := by exact fun _ => rfl)
    (hl : (py.line == pos.line) = true := by rfl) (ha : (scope.names.any fun (n, k) => n == y && (k == .local || k == .cell)) = false := by decide +kernel) (hs : ∀ j x, foldedSetIterable iter (F.X j).env x = pure x := by intro _ _; rfl) :
    QS F own (.Assign [.Name y py] (.ListComp elt [⟨tg, iter, ifs, 0⟩] scope pos) spos) (dSetO i (dLc ti g tt te (ow.map (·.2)))) := by
  obtain ⟨wi, pw, sw⟩ := hi
  obtain ⟨gg, pg, sg⟩ := hg
  obtain ⟨t3, p3, s3⟩ := ht
  obtain ⟨t4, p4, s4⟩ := he
  refine ⟨tAsg (tLc wi gg t3 t4 (ow.map (·.2))) (gName i), fun j => ps_setLc (own := ow) (hc j) (hN j) (hy j) (hyl j) (sw_true (hkind j) (hyl j) hl ha) (pw j) (ok j) (fun s H C cl fp => pg ⟨j, s, H, C, cl, fp⟩) (fun s H C cl fp => p3 ⟨j, s, H, C, cl, fp⟩) (fun s H C cl fp => p4 ⟨j, s, H, C, cl, fp⟩) (hs j),
    fun G0 H0 env σ G H D E I q k => ?_⟩
  have sem := sem_lc (vs := ow.map (·.2)) sw sg s3 s4
  refine sem G0 H0 env σ G H _ _ I q fun v H' G' env' d s1 I1 r q1 => ?_
  have q' : D.nx (ss env' i (.ow d)) := q1
  rw [ss_set] at q'
  exact k.nx _ _ G' H' s1 (I1.setO r i) q'
theorem qs_setLc (i : Nat) {y : Str} {py : Pos} {elt tg iter : Expr} {ifs : List Expr} {scope : Scope} {ow : List (Str × Nat)} {spos : Pos} {ti : DI} {g : DG} (hc : ∀ j, (F.X j).calm = true) (hN : ∀ j, (F.X j).N.Nodup) (hi : QI F tg iter ti) (ok : ∀ j, BlkOk (F.X j).N (F.X j).env.scope scope ow)
    (hg : QGc (F.blk scope) (ow.map (·.2)) tg g) (ht : QTs (F.blk scope) ifs tt) (he : QE (F.blk scope) elt te) (hy : ∀ j, (F.X j).N[i]? = some y := by exact fun _ => rfl) (hyl : ∀ j, (F.X j).env.scope.names.lookup y = some .local := by exact fun _ => rfl) (hkind : ∀ j, (F.X j).env.scope.kind = .function := by exact fun _ => rfl)
    (hl : (py.line == pos.line) = true := by rfl) (ha : (scope.names.any fun (n, k) => n == y && (k == .local || k == .cell)) = false := by decide +kernel) (hs : ∀ j x, foldedSetIterable iter (F.X j).env x = pure x := by intro _ _; rfl) :
    QS F own (.Assign [.Name y py] (.ListComp elt [⟨tg, iter, ifs, 0⟩] scope pos) spos) (dSet i (dLc ti g tt te (ow.map (·.2)))) := by
  obtain ⟨wi, pw, sw⟩ := hi
  obtain ⟨gg, pg, sg⟩ := hg
  obtain ⟨t3, p3, s3⟩ := ht
  obtain ⟨t4, p4, s4⟩ := he
  refine ⟨tAsg (tLc wi gg t3 t4 (ow.map (·.2))) (gName i), fun j => ps_setLc (own := ow) (hc j) (hN j) (hy j) (hyl j) (sw_true (hkind j) (hyl j) hl ha) (pw j) (ok j) (fun s H C cl fp => pg ⟨j, s, H, C, cl, fp⟩) (fun s H C cl fp => p3 ⟨j, s, H, C, cl, fp⟩) (fun s H C cl fp => p4 ⟨j, s, H, C, cl, fp⟩) (hs j),
    fun G0 H0 env σ G H D E I q k => ?_⟩
  have sem := (sem_lc (vs := ow.map (·.2)) sw sg s3 s4).semE
  refine sem G0 H0 env σ G H _ _ I q fun v H' G' env' d s1 I1 r q1 => ?_
  have q' : D.nx (ss env' i (.fz d)) := q1
  rw [ss_set] at q'
  exact k.nx _ _ G' H' s1 (I1.setF r i) q'
theorem qo_lc {elt tg iter : Expr} {ifs : List Expr} {scope : Scope} {ow : List (Str × Nat)} {ti : DI} {g : DG} (hc : ∀ j, (F.X j).calm = true) (hN : ∀ j, (F.X j).N.Nodup) (hi : QI F tg iter ti) (ok : ∀ j, BlkOk (F.X j).N (F.X j).env.scope scope ow)
    (hg : QGc (F.blk scope) (ow.map (·.2)) tg g) (ht : QTs (F.blk scope) ifs tt) (he : QE (F.blk scope) elt te) (hs : ∀ j x, foldedSetIterable iter (F.X j).env x = pure x := by intro _ _; rfl) :
    QO F (.ListComp elt [⟨tg, iter, ifs, 0⟩] scope pos) (dLc ti g tt te (ow.map (·.2))) := by
  obtain ⟨wi, pw, sw⟩ := hi
  obtain ⟨gg, pg, sg⟩ := hg
  obtain ⟨t3, p3, s3⟩ := ht
  obtain ⟨t4, p4, s4⟩ := he
  exact ⟨tLc wi gg t3 t4 (ow.map (·.2)), fun j => pe_lc (hc j) (hN j) (pw j) (ok j) (fun s H C cl fp => pg ⟨j, s, H, C, cl, fp⟩) (fun s H C cl fp => p3 ⟨j, s, H, C, cl, fp⟩) (fun s H C cl fp => p4 ⟨j, s, H, C, cl, fp⟩) (hs j), sem_lc sw sg s3 s4⟩
end
end DL

set_option linter.all false
set_option maxRecDepth 100000
namespace DL
open PySem PySem.Spec PyProof.Rows L2
def bl (k : Nat) : Nat := PySem.Builtin.Int.intBits (k : Int)
theorem bl_le {k m : Nat} : bl k ≤ m ↔ k < 2 ^ m := by
  unfold bl PySem.Builtin.Int.intBits
  by_cases h : k = 0
  · subst h
    simp
    exact Nat.two_pow_pos m
  · have h1 : ((k : Int) == 0) = false := by
      rw [beq_eq_false_iff_ne]; omega
    rw [h1]
    simp only [Bool.false_eq_true, if_false, Int.natAbs_natCast]
    rw [Nat.succ_le_iff, Nat.log2_lt h]
/-- the least width of so many options -/
def W (n : Nat) : Nat := bl (n - 1)
theorem W_le {n m : Nat} (h : 1 ≤ n) : W n ≤ m ↔ n ≤ 2 ^ m := by
  unfold W
  rw [bl_le]
  omega
theorem W_self {n : Nat} (h : 1 ≤ n) : n ≤ 2 ^ W n := (W_le h).mp (Nat.le_refl _)
theorem W_mono {n m : Nat} (h : 1 ≤ n) (hm : n ≤ m) : W n ≤ W m := (W_le h).mpr (Nat.le_trans hm (W_self (Nat.le_trans h hm)))
theorem W_succ {n : Nat} (h : 1 ≤ n) : W (n + 1) ≤ W n + 1 := by
  rw [W_le (by omega), Nat.pow_succ]
  have := W_self h
  omega
theorem mul_r {i j : Int} (h : -(2 ^ 64) < j) (h2 : j < 2 ^ 64) : MulOk i j := .inr (.inl ⟨h, h2⟩)
theorem mul_l {i j : Int} (h : -(2 ^ 64) < i) (h2 : i < 2 ^ 64) : MulOk i j := .inl ⟨h, h2⟩
theorem log_ok {j : Int} (h0 : 0 ≤ j) (h : j < 2 ^ 64) : j.natAbs.log2 < 9000 := by
  by_cases z : j.natAbs = 0
  · rw [z]; decide
  · rw [Nat.log2_lt z]
    have : j.natAbs < 2 ^ 64 := by omega
    exact Nat.lt_of_lt_of_le this (Nat.pow_le_pow_right (by decide) (by decide))
theorem at_ok {α : Type} {l : List α} {i : Int} {k : Nat} (h : i = k) (hk : k < l.length) : atI l i = some l[k] := by
  subst h
  exact atI_nat (List.getElem?_eq_getElem hk)
theorem map_get {α : Type} {f : α → D} {l : List α} {k : Nat} {d : D} (h : (l.map f)[k]? = some d) : ∃ z, l[k]? = some z ∧ d = f z := by
  rw [List.getElem?_map] at h
  cases q : l[k]? with
  | none => rw [q] at h; cases h
  | some z => rw [q] at h; exact ⟨z, rfl, (Option.some.inj h).symm⟩
theorem at_map {α : Type} {f : α → D} {l : List α} {i : Int} {k : Nat} (h : i = k) (hk : k < l.length) : atI (l.map f) i = some (f l[k]) := by
  rw [atI_map, at_ok h hk]; rfl
end DL

set_option Elab.async false
set_option linter.all false
set_option maxRecDepth 100000
namespace DL
open PySem PySem.Spec PyProof.Rows L2
section
variable {F : Fam} {own : Bool} {e a b c o : Expr} {es : List Expr} {t te ta tb : DE} {tt : DT} {tA : DA} {pos : Pos} {K : PySem.W.Frag}
def CalA (K : PySem.W.Frag) (r : List V → Hp → VK → Prop) (c : List D → (D → Prop) → Prop) : Prop := ∀ (G0 H0 : Hp) (env : DEnv) (σ : L2.St) (G H : Hp) (xs : List V) (ds : List D) (Q : D → Prop) (R : VK), ER K G0 H0 env σ G H → Reps K G ds xs → c ds Q →
  (∀ v H' G' z, Same G G' → ER K G0 H0 env σ G' H' → Rep K G' z v → Q z → R v H') → r xs H R
def dCalA (c : List D → (D → Prop) → Prop) (t : DA) : DE := fun env Q => t env fun ds env1 => c ds fun z => Q z env1
theorem q_callA {r : List V → Hp → VK → Prop} {c : List D → (D → Prop) → Prop} {x : Str} {p : Pos} {id : String} (hr : ∀ i, CallR (F.X i) (.builtin id) r) (hc : CalA F.K r c) (hg : ∀ i, Gl (F.X i) x) (hm : ∀ i, (F.X i).mg x = none) (hv : bootBuiltins x = some (.builtin id)) (h : QA F (e :: es) tA) (hn : x ≠ "__name__" := by decide) (hdb : (x == ("__debug__" : Str)) = false := by decide)
    (hs : ∀ i, starEach (e :: es) (F.X i).env = (false, eval e (F.X i).env) :: starEach es (F.X i).env := by intro _; rfl) (hpl : ∀ i, (backTo pos (starEach es (F.X i).env)).any (·.1) = false := by intro _; rfl) : QE F (.Call (.Name x p) (e :: es) [] pos) (dCalA c tA) := by
  obtain ⟨te, pe, s⟩ := h
  exact ⟨tCB r te, fun i => pe_callB (hr i) (hg i) (hm i) hv (pe i) hn hdb (he := hs i) (hpl := hpl i), fun G0 H0 env σ G H Q R I q k => s G0 H0 env σ G H _ _ I q fun vs H1 G1 env1 ds s1 I1 r1 q1 => hc G0 H0 env1 σ G1 H1 vs ds _ _ I1 r1 q1 fun w H2 G2 z s2 I2 r2 q2 => k w H2 G2 env1 z (s1.trans s2) I2 r2 q2⟩
theorem call_min3I {X : Cx} (hc : X.calm = true) : CallR X (.builtin "min") (fun xs H Q => ∃ i j k, xs = [.int i, .int j, .int k] ∧ Q (.int (min i (min j k))) H) := by
  intro pins s σ H xs us Q I r h
  obtain ⟨i, j, k, rfl, q⟩ := h
  cases r with
  | cons r1 r => cases r with
    | cons r2 r => cases r with
      | cons r3 r =>
        cases r
        obtain ⟨t1, rfl⟩ := r1
        obtain ⟨t2, rfl⟩ := r2
        obtain ⟨t3, rfl⟩ := r3
        refine min_three_ints (I.ok.hd hc) fun h' tk kk => ⟨_, H, I.kept kk, ?_, q⟩
        by_cases h1 : j < i
        · rw [if_pos h1]
          by_cases h2 : k < j
          · rw [if_pos h2, show min i (min j k) = k by omega]; exact ⟨_, rfl⟩
          · rw [if_neg h2, show min i (min j k) = j by omega]; exact ⟨_, rfl⟩
        · rw [if_neg h1]
          by_cases h2 : k < i
          · rw [if_pos h2, show min i (min j k) = k by omega]; exact ⟨_, rfl⟩
          · rw [if_neg h2, show min i (min j k) = i by omega]; exact ⟨_, rfl⟩
def cMin3 (ds : List D) (Q : D → Prop) : Prop := match ds with
  | [.int i, .int j, .int k] => Q (.int (min i (min j k)))
  | _ => False
theorem q_min3 {p : Pos} (hc : ∀ i, (F.X i).calm = true) (hm : ∀ i, (F.X i).mg "min" = none) (h : QA F (e :: es) tA) (hg : ∀ i, Gl (F.X i) "min" := by exact fun _ => rfl)
    (hs : ∀ i, starEach (e :: es) (F.X i).env = (false, eval e (F.X i).env) :: starEach es (F.X i).env := by intro _; rfl) (hpl : ∀ i, (backTo pos (starEach es (F.X i).env)).any (·.1) = false := by intro _; rfl) : QE F (.Call (.Name "min" p) (e :: es) [] pos) (dCalA cMin3 tA) :=
  q_callA (fun i => call_min3I (hc i)) (fun G0 H0 env σ G H xs ds Q R I r q k => by
    unfold cMin3 at q
    split at q
    · obtain ⟨x1, _, rfl, r1, x2, _, rfl, r2, x3, _, rfl, r3, r4⟩ := r
      cases r4
      exact ⟨_, _, _, by rw [rep_int r1, rep_int r2, rep_int r3], k _ H G (.int _) (Same.refl G) I rfl q⟩
    · exact q.elim) hg hm (by decide +kernel) h (hs := hs) (hpl := hpl)
def cMinL (d : D) (Q : D → Prop) : Prop := match d with
  | .lst ds => ∃ ns : List Int, ds = ns.map .int ∧ 0 < ns.length ∧ ∀ m, m ∈ ns → (∀ y, y ∈ ns → m ≤ y) → Q (.int m)
  | _ => False
def cMaxL (d : D) (Q : D → Prop) : Prop := match d with
  | .lst ds => ∃ ns : List Int, ds = ns.map .int ∧ 0 < ns.length ∧ ∀ m, m ∈ ns → (∀ y, y ∈ ns → y ≤ m) → Q (.int m)
  | _ => False
theorem q_minL {p : Pos} (hc : ∀ i, (F.X i).calm = true) (hm : ∀ i, (F.X i).mg "min" = none) (h : QP F e t) (hg : ∀ i, Gl (F.X i) "min" := by exact fun _ => rfl) (hs : ∀ i, starEach (e :: []) (F.X i).env = (false, eval e (F.X i).env) :: starEach [] (F.X i).env := by intro _; rfl) : QE F (.Call (.Name "min" p) [e] [] pos) (dCal cMinL t) :=
  q_callB (fun i => by have := cr_min (X := F.X i) (hc i); rw [F.hK] at this; exact this) (fun G0 H0 env σ G H x d Q R I r q k => by
    cases d with
    | lst ds =>
      obtain ⟨ns, rfl, hl, q⟩ := q
      obtain ⟨p, vs, rfl, h1, a1⟩ := r.lst I.sub
      rw [reps_ints a1] at h1
      exact ⟨p, ns, rfl, SqL.of h1, hl, fun m h2 h3 => k _ H G (.int m) (Same.refl G) I rfl (q m h2 h3)⟩
    | _ => exact (q : False).elim) hg hm (by decide +kernel) h (hs := hs)
theorem q_maxL {p : Pos} (hc : ∀ i, (F.X i).calm = true) (hm : ∀ i, (F.X i).mg "max" = none) (h : QP F e t) (hg : ∀ i, Gl (F.X i) "max" := by exact fun _ => rfl) (hs : ∀ i, starEach (e :: []) (F.X i).env = (false, eval e (F.X i).env) :: starEach [] (F.X i).env := by intro _; rfl) : QE F (.Call (.Name "max" p) [e] [] pos) (dCal cMaxL t) :=
  q_callB (fun i => by have := cr_max (X := F.X i) (hc i); rw [F.hK] at this; exact this) (fun G0 H0 env σ G H x d Q R I r q k => by
    cases d with
    | lst ds =>
      obtain ⟨ns, rfl, hl, q⟩ := q
      obtain ⟨p, vs, rfl, h1, a1⟩ := r.lst I.sub
      rw [reps_ints a1] at h1
      exact ⟨p, ns, rfl, SqL.of h1, hl, fun m h2 h3 => k _ H G (.int m) (Same.refl G) I rfl (q m h2 h3)⟩
    | _ => exact (q : False).elim) hg hm (by decide +kernel) h (hs := hs)

mutual
def smD : D → Bool
  | .int i => decide (i.natAbs.log2 < 599)
  | .str x => x.all fun c => decide (c < 16 ^ 8)
  | .tup ds => smDs ds
  | .lst ds => smDs ds
  | _ => true
def smDs : List D → Bool
  | [] => true
  | d :: ds => smD d && smDs ds
end
mutual
def bulkD : D → Nat
  | .str x => x.length
  | .tup ds => bulkDs ds
  | .lst ds => bulkDs ds
  | _ => 0
def bulkDs : List D → Nat
  | [] => 0
  | d :: ds => bulkD d + 1 + bulkDs ds
end
/-- the text -/
def shw (d : D) : List Nat := (toP d).shown.cps.toList
mutual
theorem bulk_of : ∀ d : D, (toP d).bulk = bulkD d
  | .non => rfl
  | .bl _ => rfl
  | .int _ => rfl
  | .str x => by show x.toArray.size = x.length; simp
  | .tup ds => bulks_of ds
  | .lst ds => bulks_of ds
  | .scr _ => rfl
  | .dk _ _ => rfl
  | .dt _ _ => rfl
  | .ins _ _ _ => rfl
  | .exc _ _ _ => rfl
theorem bulks_of : ∀ ds : List D, PyData.bulkAll (toPs ds) = bulkDs ds
  | [] => rfl
  | d :: ds => by
    show (toP d).bulk + 1 + PyData.bulkAll (toPs ds) = bulkD d + 1 + bulkDs ds
    rw [bulk_of d, bulks_of ds]
end
mutual
theorem short_of : ∀ d : D, smD d = true → (toP d).leavesShort 600 = true ∧ (toP d).showable = true
  | .non, _ => ⟨rfl, rfl⟩
  | .bl _, _ => ⟨rfl, rfl⟩
  | .int i, h => by
    have h := of_decide_eq_true (show decide (i.natAbs.log2 < 599) = true from h)
    have := int_text_length_le (k := 599) (by decide) h
    refine ⟨decide_eq_true ?_, decide_eq_true (by omega)⟩
    show (Str.ofString (toString i)).length ≤ 600
    rw [PySem.ofString_length]
    omega
  | .str x, h => by
    refine ⟨?_, rfl⟩
    show (x.toArray.toList.all _) = true
    simpa [smD] using h
  | .tup ds, h => shorts_of ds h
  | .lst ds, h => shorts_of ds h
  | .scr _, _ => ⟨rfl, rfl⟩
  | .dk _ _, _ => ⟨rfl, rfl⟩
  | .dt _ _, _ => ⟨rfl, rfl⟩
  | .ins _ _ _, _ => ⟨rfl, rfl⟩
  | .exc _ _ _, _ => ⟨rfl, rfl⟩
theorem shorts_of : ∀ ds : List D, smDs ds = true → PyData.leavesShortAll 600 (toPs ds) = true ∧ PyData.showableAll (toPs ds) = true
  | [], _ => ⟨rfl, rfl⟩
  | d :: ds, h => by
    obtain ⟨h1, h2⟩ := Bool.and_eq_true_iff.mp (show (smD d && smDs ds) = true from h)
    obtain ⟨a1, a2⟩ := short_of d h1
    obtain ⟨b1, b2⟩ := shorts_of ds h2
    exact ⟨Bool.and_eq_true_iff.mpr ⟨a1, b1⟩, Bool.and_eq_true_iff.mpr ⟨a2, b2⟩⟩
end
def isSeqD : D → Bool
  | .lst _ => true
  | .tup _ => true
  | _ => false
def cRepr (d : D) (Q : D → Prop) : Prop := isSeqD d = true ∧ shD 60 d = true ∧ smD d = true ∧ bulkD d ≤ 27000 ∧ ∀ s, s = shw d → Q (.str s)
theorem call_reprG {X : Cx} {k : Nat} (hr : RoomG k X.A) : CallR X (.builtin "repr") (fun xs H Q => ∃ a d, xs = [.ref a] ∧ Dp X.K H (.ref a) d ∧ d.showable = true ∧ d.hasDict = false ∧ d.depth ≤ 60 ∧ d.shown.length ≤ sizeLine ∧ Q (.str d.shown) H) := by
  intro pins s σ H xs us Q I r h
  obtain ⟨a, d, rfl, hd, h1, h2, h3, h4, q⟩ := h
  rw [Vals.ref1 r]
  obtain ⟨as, rd⟩ := Dp.reads I d (.ref a) (.ref a) hd rfl
  have hu := hr.toRoom.un
  exact repr_of_reads' rd h1 (PyData.noDict_hsm h2) hr.g (by omega) (fun b o e => e) (fun h' u tk hk => ⟨.str _, H, I.kept hk, ⟨u, rfl⟩, q⟩) h4
theorem calp_repr : CalP K (fun xs H Q => ∃ a d, xs = [.ref a] ∧ Dp K H (.ref a) d ∧ d.showable = true ∧ d.hasDict = false ∧ d.depth ≤ 60 ∧ d.shown.length ≤ sizeLine ∧ Q (.str d.shown) H) cRepr := by
  intro G0 H0 env σ G H x d Q R I r q k
  obtain ⟨h0, h1, h2, h3, q⟩ := q
  obtain ⟨a1, a2⟩ := short_of d h2
  obtain ⟨b1, b2⟩ := shaped_toP 60 d h1
  have hsz : (toP d).shown.length ≤ sizeLine := by
    have := PyData.shown_le_bulk 600 (by decide) (toP d) a1
    rw [bulk_of] at this
    rw [sizeLine_eq]
    omega
  have fin : R (.str (toP d).shown) H := k _ H G (.str (shw d)) (Same.refl G) I (show V.str _ = V.str _ by congr 1) (q _ rfl)
  cases d with
  | lst ds =>
    obtain ⟨p, vs, rfl, _⟩ := r.lst I.sub
    exact ⟨p, _, rfl, own_dp I.sub r h1, a2, PyData.hasDict_of_canLay _ b1, b2, hsz, fin⟩
  | tup ds =>
    have r' := r.frozen (fun _ z => z)
    obtain ⟨p, vs, rfl, _⟩ := _root_.id r'
    exact ⟨p, _, rfl, dp_of I.sub 60 _ _ h1 r', a2, PyData.hasDict_of_canLay _ b1, b2, hsz, fin⟩
  | _ => cases h0
theorem q_repr {p : Pos} {k : Nat} (hr : ∀ i, RoomG k (F.X i).A) (hm : ∀ i, (F.X i).mg "repr" = none) (h : QP F e t) (hg : ∀ i, Gl (F.X i) "repr" := by exact fun _ => rfl) (hs : ∀ i, starEach (e :: []) (F.X i).env = (false, eval e (F.X i).env) :: starEach [] (F.X i).env := by intro _; rfl) : QE F (.Call (.Name "repr" p) [e] [] pos) (dCal cRepr t) :=
  q_callB (fun i => by have := call_reprG (X := F.X i) (hr i); rw [F.hK] at this; exact this) calp_repr hg hm (by decide +kernel) h (hs := hs)
end
end DL

set_option linter.all false
set_option maxRecDepth 100000
namespace DL
open PySem PySem.Spec PyProof.Rows L2
def nats (l : List Nat) : List D := l.map fun (n : Nat) => .int (n : Int)
theorem nats_len (l : List Nat) : (nats l).length = l.length := List.length_map _
theorem nats_at {l : List Nat} {i : Int} {k : Nat} (h : i = k) (hk : k < l.length) : atI (nats l) i = some (.int l[k]) := at_map h hk
theorem nats_sum (l : List Nat) : nats l = (l.map fun (n : Nat) => (n : Int)).map .int ∧ (l.map fun (n : Nat) => (n : Int)).sum = (l.sum : Nat) := by
  refine ⟨by unfold nats; rw [List.map_map]; rfl, ?_⟩
  induction l with
  | nil => rfl
  | cons x l ih => rw [List.map_cons, List.sum_cons, ih, List.sum_cons]; omega
theorem nats_app (l m : List Nat) : nats (l ++ m) = nats l ++ nats m := List.map_append
theorem nats_of (l : List Int) (h : ∀ x ∈ l, 0 ≤ x) : l.map D.int = nats (l.map Int.toNat) := by
  unfold nats
  rw [List.map_map]
  refine List.map_congr_left fun x hx => ?_
  have := h x hx
  simp [Int.toNat_of_nonneg this]
theorem flat_one {α : Type} (x : α) : ∀ n : Nat, (List.replicate n [x]).flatten = List.replicate n x
  | 0 => rfl
  | n + 1 => by rw [List.replicate_succ, List.flatten_cons, flat_one x n]; rfl
theorem ixN_ok {n : Nat} {i : Int} (h0 : 0 ≤ i) (h1 : i.toNat < n) : ixN n i = some i.toNat := by
  unfold ixN
  rw [if_pos h0, if_pos (by omega)]
theorem cut_map {α β : Type} (f : α → β) (l : List α) (lo hi : Option Int) : cutD (l.map f) lo hi = (cutD l lo hi).map f := by
  unfold DL.cutD
  rw [List.length_map, List.map_take, List.map_drop]
theorem cut_len {α : Type} (l : List α) (lo hi : Option Int) : (cutD l lo hi).length ≤ l.length := by
  unfold DL.cutD
  rw [List.length_take, List.length_drop]
  omega
theorem row_at {row sizes : List Int} (hb : ∀ (k : Nat) (x z : Int), row[k]? = some x → sizes[k]? = some z → 0 ≤ x ∧ x < z) (k : Nat) {z : Int} (hk : k < row.length) (hz : sizes[k]? = some z) :
    ∃ x, (∀ i : Int, i = k → atI (row.map D.int) i = some (.int x)) ∧ 0 ≤ x ∧ x < z :=
  ⟨row[k], fun i hi => at_map hi hk, hb k _ z (List.getElem?_eq_getElem hk) hz⟩
theorem flat_ints : ∀ l : List Int, (l.map D.int).all flatD = true
  | [] => rfl
  | _ :: l => by rw [List.map_cons, List.all_cons, flat_ints l]; rfl
theorem any_int (x : Int) : ∀ l : List Int, ((l.map D.int).any fun z => eqD z (.int x)) = decide (x ∈ l)
  | [] => rfl
  | y :: l => by
    rw [List.map_cons, List.any_cons, any_int x l]
    have : eqD (.int y) (.int x) = decide (y = x) := by show (y == x) = _; rw [Bool.beq_eq_decide_eq]
    rw [this]
    by_cases h : y = x
    · simp [h]
    · simp [h, Ne.symm h]
theorem rng_ints (n : Nat) : rngD 0 n = (((List.range n).map fun (k : Nat) => (0 : Int) + (k : Nat))).map D.int := by
  unfold rngD
  rw [List.map_map]
  rfl
theorem shD_ints : ∀ (l : List Int) (n : Nat), shDs n (l.map .int) = true
  | [], _ => rfl
  | x :: l, n => by
    simp only [List.map_cons, shDs, shD_ints l n, Bool.and_true]
    cases n <;> rfl
theorem eqD_ints : ∀ l : List Int, eqDs (l.map .int) (l.map .int) = true
  | [] => rfl
  | x :: l => by simp [List.map_cons, eqDs, eqD, eqD_ints l]
end DL

set_option Elab.async false
set_option linter.all false
set_option maxRecDepth 100000
namespace DL
open PySem PySem.Spec PyProof.Rows L2
def lkD {α : Type} (f : Str) : List Str → List α → Option α
  | g :: fs, d :: ds => if f == g then some d else lkD f fs ds
  | _, _ => none
theorem lk_zip {α : Type} (f : Str) : ∀ (fs : List Str) (vs : List α), (fs.zip vs).lookup f = lkD f fs vs
  | [], _ => rfl
  | _ :: _, [] => rfl
  | g :: fs, v :: vs => by
    show (match f == g with | true => some v | false => (fs.zip vs).lookup f) = if (f == g) = true then some v else lkD f fs vs
    cases f == g
    · exact lk_zip f fs vs
    · rfl
theorem lk_rep {K : PySem.W.Frag} {G : Hp} {f : Str} : ∀ {fs : List Str} {ds : List D} {vs : List V} {z : D}, Reps K G ds vs → lkD f fs ds = some z → ∃ v, lkD f fs vs = some v ∧ Rep K G z v
  | [], _, _, _, _, h => by cases h
  | _ :: _, [], _, _, _, h => by cases h
  | g :: fs, d :: ds, _, z, ⟨v, w, e, r1, r2⟩, h => by
    subst e
    unfold lkD at h ⊢
    by_cases hg : (f == g) = true
    · rw [if_pos hg] at h ⊢
      cases h
      exact ⟨v, rfl, r1⟩
    · rw [if_neg hg] at h ⊢
      exact lk_rep r2 h
def putN (f : Str) : List Str → List Str
  | [] => [f]
  | g :: fs => if g = f then g :: fs else g :: putN f fs
def putX {α : Type} (f : Str) (z : α) : List Str → List α → List α
  | g :: fs, x :: xs => if g = f then z :: xs else x :: putX f z fs xs
  | _, _ => [z]
theorem put_zip {f : Str} {v : V} : ∀ (fs : List Str) (vs : List V), fs.length = vs.length → (putN f fs).zip (putX f v fs vs) = putF f v (fs.zip vs)
  | [], [], _ => rfl
  | [], _ :: _, h => by simp at h
  | _ :: _, [], h => by simp at h
  | g :: fs, x :: xs, h => by
    unfold putN putX
    rw [List.zip_cons_cons]
    unfold putF
    by_cases hg : g = f
    · rw [if_pos hg, if_pos hg, if_pos hg, List.zip_cons_cons]
    · rw [if_neg hg, if_neg hg, if_neg hg, List.zip_cons_cons, put_zip fs xs (by simpa using h)]
theorem put_len {α : Type} {f : Str} {z : α} : ∀ (fs : List Str) (xs : List α), fs.length = xs.length → (putN f fs).length = (putX f z fs xs).length
  | [], [], _ => rfl
  | [], _ :: _, h => by simp at h
  | _ :: _, [], h => by simp at h
  | g :: fs, x :: xs, h => by
    unfold putN putX
    by_cases hg : g = f
    · rw [if_pos hg, if_pos hg]; exact h
    · rw [if_neg hg, if_neg hg, List.length_cons, List.length_cons, put_len fs xs (by simpa using h)]
theorem put_rep {K : PySem.W.Frag} {G : Hp} {f : Str} {z : D} {v : V} (hz : Rep K G z v) : ∀ {fs : List Str} {ds : List D} {vs : List V}, Reps K G ds vs → fs.length = ds.length → Reps K G (putX f z fs ds) (putX f v fs vs)
  | [], [], _, r, _ => by cases r; exact Reps.one hz
  | [], _ :: _, _, _, h => by simp at h
  | _ :: _, [], _, _, h => by simp at h
  | g :: fs, d :: ds, _, ⟨x, w, e, r1, r2⟩, h => by
    subst e
    unfold putX
    by_cases hg : g = f
    · rw [if_pos hg, if_pos hg]; exact ⟨v, w, rfl, hz, r2⟩
    · rw [if_neg hg, if_neg hg]; exact ⟨x, _, rfl, r1, put_rep hz r2 (by simpa using h)⟩
section
variable {F : Fam} {own : Bool} {e a b c o : Expr} {es : List Expr} {t te ta tb : DE} {tt : DT} {tA : DA} {pos : Pos} {K : PySem.W.Frag} {f : Str} {Cs : List Addr}
def fldD (Cs : List Addr) (f : Str) (d : D) (Q : D → Prop) : Prop := match d with
  | .ins C fs ds => C ∈ Cs ∧ ∃ z, lkD f fs ds = some z ∧ Q z
  | _ => False
def dFld (Cs : List Addr) (f : Str) (t : DE) : DE := fun env Q => t env fun d env1 => fldD Cs f d fun z => Q z env1
theorem q_fld (hcls : ∀ C ∈ Cs, Cls F.K C ∧ NoAttr F.K C f) (h : QP F e t) (hb : ∀ i, attributeBase e f (F.X i).env (eval e (F.X i).env) = eval e (F.X i).env := by intro _; rfl) : QE F (.Attribute e f pos) (dFld Cs f t) := by
  obtain ⟨ts, p, s⟩ := h
  refine ⟨tFld F.K ts f, fun i => by have := pe_fld (pos := pos) (p i) (hb i); rw [F.hK] at this; exact this, fun G0 H0 env σ G H Q R I q k => s G0 H0 env σ G H _ _ I q fun v H1 G1 env1 d s1 I1 r1 q1 => ?_⟩
  cases d with
  | ins C fs ds =>
    obtain ⟨hC, z, hz, q1⟩ := q1
    obtain ⟨c1, c2⟩ := hcls C hC
    have fin : ∀ {p : Addr} {dx : Addr} {vs : List V}, H1 p = some (.ins C dx (fs.zip vs)) → Reps F.K G1 ds vs → v = .ref p → ∃ a C dx fs v', v = .ref a ∧ H1 a = some (.ins C dx fs) ∧ Cls F.K C ∧ NoAttr F.K C f ∧ fs.lookup f = some v' ∧ R v' H1 := fun {p dx vs} h1 h2 h3 => by
      obtain ⟨v', e1, e2⟩ := lk_rep h2 hz
      exact ⟨p, C, dx, _, v', h3, h1, c1, c2, by rw [lk_zip]; exact e1, k v' H1 G1 env1 z s1 I1 e2 q1⟩
    rcases r1 with ⟨a, dx, vs, rfl, h1, _, h3⟩ | ⟨p, rfl, o, h1, dx, vs, rfl, _, h3⟩
    · exact fin (I1.sub _ _ h1) h3 rfl
    · exact fin h1 h3 rfl
  | _ => exact (q1 : False).elim
/-- name.f = e, the name's object owned -/
def insD (d : D) (Q : Addr → List Str → List D → Prop) : Prop := match d with
  | .ins C fs ds => Q C fs ds
  | _ => False
def meD : Sl → (Addr → D → Prop) → Prop
  | .me p d, Q => Q p d
  | _, _ => False
theorem meD_get {env : DEnv} {i : Nat} {Q : Addr → D → Prop} (h : meD (gs env i) Q) : ∃ p d, env[i]? = some (.me p d) ∧ Q p d := by
  cases hg : gs env i with
  | me p d => rw [hg] at h; exact ⟨p, d, gs_get hg (fun z => nomatch z), h⟩
  | _ => rw [hg] at h; exact h.elim
def dSetF (Cs : List Addr) (f : Str) (j : Nat) (te : DE) : DS := fun DE env => te env fun z env1 => meD (gs env1 j) fun p d => insD d fun C fs ds => C ∈ Cs ∧ fs.length = ds.length ∧ fs.length < 1000 ∧ DE.nx (ss env1 j (.me p (.ins C (putN f fs) (putX f z fs ds))))
theorem qs_fld (j : Nat) {x : Str} {npos pos' : Pos} (hcls : ∀ C ∈ Cs, Cls F.K C ∧ NoAttr F.K C f) (h : QE F e te) (hN : ∀ i, (F.X i).N[j]? = some x := by exact fun _ => rfl) (hv : ∀ i, Vis (F.X i).env.scope x := by first | exact fun _ => Or.inl rfl | exact fun _ => Or.inr (Or.inl rfl) | exact fun _ => Or.inr (Or.inr rfl))
    (hd : (x == ("__debug__" : Str)) = false := by decide) (hcd : (x == ("__classdict__" : Str)) = false := by decide) (hs : ∀ i, swapsWith e (some (.Attribute (.Name x npos) f pos')) pos.line (F.X i).env = pure false := by intro _; rfl) :
    QS F own (.Assign [.Attribute (.Name x npos) f pos'] e pos) (dSetF Cs f j te) := by
  obtain ⟨ts, p, s⟩ := h
  refine ⟨sFld F.K (tVar j) ts f, fun i => by have := ps_fld (pos := pos) (f := f) (pos' := pos') (pe_var (pos := npos) (hN i) (hv i) hd hcd) (p i) (hs i); rw [F.hK] at this; exact this, fun G0 H0 env σ G H DE E I q k => s G0 H0 env σ G H _ _ I q fun v H1 G1 env1 z s1 I1 r1 q1 => ?_⟩
  obtain ⟨p0, d, hd1, q1⟩ := meD_get q1
  cases d with
  | ins C fs ds =>
    obtain ⟨hC, hl, hl2, q1⟩ := q1
    obtain ⟨c1, c2⟩ := hcls C hC
    have l2 : j < σ.length := by rw [← I1.len]; exact (List.getElem?_eq_some_iff.mp hd1).1
    obtain ⟨e1, e0, e4, o0, e2, dx, vs, rfl, _, h3⟩ := I1.sl j _ _ hd1 (List.getElem?_eq_getElem l2)
    have c' : Cont F.K G1 (.ins C (putN f fs) (putX f z fs ds)) (.ins C dx ((putN f fs).zip (putX f v fs vs))) := ⟨dx, _, rfl, put_len fs ds hl, put_rep r1 h3 hl⟩
    obtain ⟨f1, f2, I2⟩ := I1.writeM hd1 c'
    refine ⟨.ref p0, f1, p0, C, dx, fs.zip vs, rfl, e2, c1, c2, by rw [List.length_zip]; omega, ?_⟩
    rw [← put_zip fs vs (by rw [h3.len]; exact hl)]
    have q1 : DE.nx (ss env1 j (.me p0 (.ins C (putN f fs) (putX f z fs ds)))) := q1
    rw [ss_set] at q1
    exact k.nx _ _ _ _ s1 I2 q1
  | _ => exact (q1 : False).elim
/-- raise, never reached -/
def dNever : DS := fun _ _ => False
theorem qs_never {st : Stmt} : QS F own st dNever := ⟨fun _ _ _ => False, fun _ => ⟨fun _ _ _ _ _ _ h => h.elim⟩, fun _ _ _ _ _ _ _ _ _ q _ => q⟩
/-- a name that the module holds -/
theorem q_glob {x : Str} {u : Value} {v : V} {d : D} (hm : ∀ i, (F.X i).mg x = some u) (r : RelV v u) (hr : ∀ G, Rep F.K G d v) (hg : ∀ i, Gl (F.X i) x := by exact fun _ => rfl) (hd : (x == ("__debug__" : Str)) = false := by decide) : QE F (.Name x pos) (dC d) :=
  ⟨tC v, fun i => pe_glob (hg i) (hm i) r hd, semC hr⟩
end
end DL
namespace DL
open PySem PySem.Spec PyProof.Rows L2
section
variable {F : Fam} {e : Expr} {te : DE} {pos : Pos}
/-- isinstance(x, (T, U)), built-in types -/
def cIsi2 (T U : BT) (d : D) (Q : D → Prop) : Prop := plainD d = true ∧ Q (.bl (isBT T d || isBT U d))
theorem q_isi2 (T U : BT) {x y : Str} {p q q2 tpos : Pos} {kk : Nat} (hm : ∀ i, (F.X i).mg "isinstance" = none) (hmT : ∀ i, (F.X i).mg x = none) (hmU : ∀ i, (F.X i).mg y = none) (hv : bootBuiltins x = some (.type T.nm)) (hw : bootBuiltins y = some (.type U.nm)) (h : QE F e te)
    (hg : ∀ i, Gl (F.X i) "isinstance" := by exact fun _ => rfl) (hgT : ∀ i, Gl (F.X i) x := by exact fun _ => rfl) (hgU : ∀ i, Gl (F.X i) y := by exact fun _ => rfl) (hn : x ≠ "__name__" := by decide) (hd : (x == ("__debug__" : Str)) = false := by decide) (hn2 : y ≠ "__name__" := by decide) (hd2 : (y == ("__debug__" : Str)) = false := by decide)
    (hs : ∀ i, starEach [e, .Tuple [.Name x q, .Name y q2] kk tpos] (F.X i).env = (false, eval e (F.X i).env) :: starEach [.Tuple [.Name x q, .Name y q2] kk tpos] (F.X i).env := by intro _; rfl)
    (hs2 : ∀ i, starEach (.Tuple [.Name x q, .Name y q2] kk tpos :: []) (F.X i).env = (false, eval (.Tuple [.Name x q, .Name y q2] kk tpos) (F.X i).env) :: starEach [] (F.X i).env := by intro _; rfl)
    (hs3 : ∀ i, starEach [.Name x q, .Name y q2] (F.X i).env = (false, eval (.Name x q) (F.X i).env) :: starEach [.Name y q2] (F.X i).env := by intro _; rfl)
    (hs4 : ∀ i, starEach (.Name y q2 :: []) (F.X i).env = (false, eval (.Name y q2) (F.X i).env) :: starEach [] (F.X i).env := by intro _; rfl)
    (hpl : ∀ i, (backTo pos (starEach [.Tuple [.Name x q, .Name y q2] kk tpos] (F.X i).env)).any (·.1) = false := by intro _; rfl) :
    QE F (.Call (.Name "isinstance" p) [e, .Tuple [.Name x q, .Name y q2] kk tpos] [] pos) (dCal (cIsi2 T U) te) := by
  obtain ⟨ts, pe, s⟩ := h
  refine ⟨tCB (rIsiT F.K) (tCons ts (tCons (tTup (tCons (tC (.ty T.nm)) (tCons (tC (.ty U.nm)) tNil))) tNil)), fun i => ?_, fun G0 H0 env σ G H Q R I q k => s G0 H0 env σ G H _ _ I q fun v H1 G1 env1 d s1 I1 r1 q1 => ?_⟩
  · have := pe_callB (X := F.X i) (pos := pos) (p := p) call_isiT (hg i) (hm i) (by decide +kernel) (pa_cons (pe i) (pa1 (pe_tup (pa_cons (pe_bltn (v := .ty T.nm) (pos := q) (hgT i) (hmT i) hv rfl hn hd) (pa1 (pe_bltn (v := .ty U.nm) (pos := q2) (hgU i) (hmU i) hw rfl hn2 hd2) (hs4 i)) (hs3 i))) (hs2 i)) (hs i)) (he := hs i) (hpl := hpl i)
    rw [F.hK] at this
    exact this
  · refine ⟨by show 2 ≤ sizeLine; rw [sizeLine_eq]; decide, fun l hl => ?_⟩
    have I2 := I1.newH (o := .tup [.ty T.nm, .ty U.nm]) hl
    have ty := tyx_of I2.sub r1 q1.1
    refine ⟨v, l, _, .type (kdD d).nm, [.type T.nm, .type U.nm], (isBT T d || isBT U d), rfl, upd_same, .cons (.ty _) (.cons (.ty _) .nil), ty, ?_, k _ _ G1 env1 (.bl (isBT T d || isBT U d)) s1 I2 rfl q1.2⟩
    have k1 : PySem.W.kitOne F.K (.type (kdD d).nm) (.type T.nm) = some (isBT T d) := kit_ty (kit_kd _ T)
    have k2 : PySem.W.kitOne F.K (.type (kdD d).nm) (.type U.nm) = some (isBT U d) := kit_ty (kit_kd _ U)
    refine kitAny_cons k1 (fun h => ?_) ?_
    · rw [h, Bool.false_or]
      refine kitAny_cons k2 (fun h2 => ?_) ?_
      · rw [h2]; exact kitAny_nil
      · intro h2; rw [h2]
    · intro h; rw [h]; rfl
end
end DL

set_option Elab.async false
set_option linter.all false
set_option maxRecDepth 100000
namespace DL
open PySem PySem.Spec PyProof.Rows L2
theorem ER.consO {K : PySem.W.Frag} {G H : Hp} {env : DEnv} {σ : L2.St} {p : Addr} {d : D} {o : HO} (I : ER K G H env σ G H) (hp : H p = some o) (hg : G p = none) (c : Cont K G d o) (hn : ∀ (i : Nat) (s : Sl), env[i]? = some s → isOw s = false) :
    ER K G (minusA H p) (.me p d :: env) (some (.ref p) :: σ) G H := by
  refine ⟨I.sub, fun b x q => ?_, fun _ _ => rfl, by simp [I.len], fun i s x h1 h2 => ?_, fun i j s t x hij h1 h2 h3 h4 => ?_⟩
  · unfold minusA at q
    split at q
    · cases q
    · exact q
  · cases i with
    | zero =>
      simp at h1 h2
      subst h1 h2
      exact ⟨rfl, hg, by simp [minusA], o, hp, c⟩
    | succ i =>
      have h1 : env[i]? = some s := by simpa using h1
      have old := I.sl i s x h1 (by simpa using h2)
      have no := hn i s h1
      cases s with
      | no => trivial
      | fz d => exact old
      | ow d => cases no
      | me p d => cases no
  · cases i with
    | zero =>
      cases j with
      | zero => exact absurd rfl hij
      | succ j => have := hn j t (by simpa using h3); rw [this] at h4; cases h4
    | succ i => have := hn i s (by simpa using h1); rw [this] at h2; cases h2
theorem startD_no (n : Nat) (ds : List D) : ∀ (i : Nat) (s : Sl), (startD n ds)[i]? = some s → isOw s = false := fun i s h => by
  unfold startD at h
  rcases List.mem_append.mp (List.mem_of_getElem? h) with z | z
  · obtain ⟨d, _, e⟩ := List.mem_map.mp z
    subst e; rfl
  · rw [(List.mem_replicate.mp z).2]; rfl
/-- a new instance's __init__ -/
def spI (K : PySem.W.Frag) (C : Addr) (S : DSp) : Sp := fun vs H Q _ => ∃ (x : Addr) (rest : List V) (dx : Addr) (G : Hp) (ds : List D) (QD : D → Prop), vs = .ref x :: rest ∧ H x = some (.ins C dx []) ∧ G x = none ∧ Same G H ∧ Reps K G ds rest ∧ S ds QD ∧
  ∀ H' G' d o, Same (minusA H x) H' → (∀ b, minusA H x b ≠ none → G' b = G b) → Same G' H' → H' x = some o → G' x = none → Cont K G' d o → QD d → Q .non H'
def initD (C : Addr) (p : Addr) (n : Nat) (ds : List D) : DEnv := .me p (.ins C [] []) :: startD (n - 1) ds
section
variable {P : Program} {w : World} {K : PySem.W.Frag} {mg : Str → Option Value} {base : Heap}
theorem FunD.okI {C : Addr} {x qual : Str} {params : Arguments} {body : List Stmt} {scope : Scope} {dvs : List V} {kws : List (Str × V)} {f : Addr} {fd : FuncData} {N ps : List Str} {k : Nat} {S : DSp} (F : FunD K x qual params body scope dvs kws f fd) (Sc : FnScope N ps scope) (len : ∀ ds Q, S ds Q → ds.length + 1 = ps.length) (hN : 0 < N.length) (t : DS)
    (hbody : ∀ (cdv : Value) (A : Around) (outer : List Env) (s : Shared) (H : Hp) (E : XK), RoomG k (A.deeper (envOfC qual scope s.heap.objs.size f cdv)) → QSs (famOf P w K mg base N qual scope f cdv A outer s H E) false body t)
    (rd : ∀ p ds Q, S ds Q → t { nx := fun env => meD (gs env 0) fun p' d => p' = p ∧ Q d, rt := fun _ => False } (initD C p N.length ds)) :
    FnG P w K mg base CX0 (k + 1) f fd ps (spI K C S) := by
  refine FunD.okG F Sc (fun vs H Q E h => ?_) (fun cdv A outer s H vs Q E hr h => ?_)
  · obtain ⟨x, rest, dx, G, ds, QD, rfl, _, _, _, r, hS, _⟩ := h
    rw [List.length_cons, r.len]
    exact len ds QD hS
  · obtain ⟨x, rest, dx, G, ds, QD, rfl, hx, hgx, s1, r, hS, k⟩ := h
    obtain ⟨ts, p, sem⟩ := hbody cdv A outer s H E hr
    have I0 := er_start (K := K) (N := List.replicate (N.length - 1) ("" : Str)) s1 r
    rw [List.length_replicate] at I0
    have I1 := I0.consO (d := .ins C [] []) hx hgx ⟨dx, [], rfl, rfl, rfl⟩ (startD_no _ _)
    have es : (some (V.ref x) :: L2.start (List.replicate (N.length - 1) ("" : Str)) rest) = L2.start N (.ref x :: rest) := by
      unfold L2.start
      rw [List.length_replicate, List.length_cons, show N.length - (rest.length + 1) = N.length - 1 - rest.length by omega]
      rfl
    rw [es] at I1
    refine ⟨ts, (p ()).nox, sem G (minusA H x) _ _ G H _ _ I1 (rd x ds QD hS) ⟨fun env σ G' H' s2 I q => ?_, fun env σ G' H' v d s2 I r q => q.elim, fun _ _ _ _ _ _ q => q, fun _ _ _ _ _ _ q => q⟩⟩
    obtain ⟨p', d, h1, hp, q2⟩ := meD_get q
    subst hp
    have l2 : 0 < σ.length := by rw [← I.len]; exact (List.getElem?_eq_some_iff.mp h1).1
    obtain ⟨_, e0, _, o, e2, e3⟩ := I.sl 0 _ _ h1 (List.getElem?_eq_getElem l2)
    exact k H' G' d o I.old I.gold I.sub e2 e0 e3 q2
theorem RoomG.make {k : Nat} {A : Around} (r : RoomG (k + 1) A) (C : Addr) (us : List Value) (kw : List (Str × Value)) : RoomG k (A.under (.builtin "type.__call__" ⟨.ref C :: us, kw⟩)) :=
  ⟨r.toRoom.make C us kw, by
    show pushGuards (Code.guards (.builtin "type.__call__" ⟨.ref C :: us, kw⟩)) A.guards = some []
    rw [r.g]
    rfl⟩
end
section
variable {X : Cx} {CX : CXT} {k n : Nat} {f C : Addr} {fd : FuncData} {ps : List Str} {sp : Sp} {dvs : List V} {ds : List Value} {E : XK} {x : Str} {p pos : Pos} {e : Expr} {es : List Expr} {t : TA}
theorem run_makeG {pins : List (Addr × Obj)} {σ : L2.St} {H : Hp} {s : Shared} {Q : VK} {us : List Value} {vs : List V} (M : Mk X.K C f) (F : FnG X.prog X.w X.K X.mg X.base CX k f fd ps sp) (hr : RoomG (k + 1) X.A) (hb : Binds X.K fd ps ds) (hd : Vals dvs ds)
    (hx : Passes CX X E) (I : Inv X pins σ H s) (r : Vals vs us)
    (h : ∀ x dx, H x = none → H dx = none → dx ≠ x → sp (.ref x :: (vs ++ dvs)) (upd (upd H dx (.own x)) x (.ins C dx [])) (fun v H2 => v = .non ∧ Q (.ref x) H2) E) :
    wpAny (model X.prog X.w) X.A (call (.ref C) us) (EP X pins σ Q) X.xe s := by
  have hq := h (s.heap.objs.size + 1) s.heap.objs.size (I.hok.fresh (Nat.le_succ _)) (I.hok.fresh (Nat.le_refl _)) (Nat.ne_of_lt (Nat.lt_succ_self _))
  have I2 := Inv.made (C := C) I
  have r2 : Vals (V.ref (s.heap.objs.size + 1) :: (vs ++ dvs)) (Value.ref (s.heap.objs.size + 1) :: (us ++ ds)) := .cons rfl (r.append hd)
  refine wpAny_call (make_map (f := f) I.kIn M.makes M.init (beq_iff_eq.mp M.fn) (codeAny_mono (F.run _ X.stack _ _ ⟨Value.ref (s.heap.objs.size + 1) :: us, []⟩ (Value.ref (s.heap.objs.size + 1) :: (us ++ ds)) _ _ E (hr.make C us [])
    (I2.env0.make C us []) (hb _ (Value.ref (s.heap.objs.size + 1) :: us) I2.kIn (by
      have e := r2.length
      rw [F.len _ _ _ _ hq] at e
      exact e.symm)) r2 hq) fun r s' hq' => ?_))
  cases r with
  | error e => exact hx pins σ _ _ e s' I2 hq'
  | ok fl =>
    cases fl with
    | ret u =>
      obtain ⟨v, H', I3, rv, ev, q3⟩ := I2.after hq'
      subst ev
      exact ⟨rv, ⟨V.ref (s.heap.objs.size + 1), H', I3, rfl, q3⟩⟩
    | _ => exact False.elim hq'
theorem pe_makeG (M : Mk X.K C f) (F : FnG X.prog X.w X.K X.mg X.base CX k f fd ps sp) (hr : RoomG (k + 1) X.A) (hg : Gl X x) (hm : X.mg x = some (.ref C)) (hb : Binds X.K fd ps ds) (hd : Vals dvs ds) (hx : Passes CX X E)
    (ha : PA X (e :: es) t) (hdb : (x == ("__debug__" : Str)) = false := by decide) (he : starEach (e :: es) X.env = (false, eval e X.env) :: starEach es X.env := by rfl) (hpl : (backTo pos (starEach es X.env)).any (·.1) = false := by rfl) :
    PE X (.Call (.Name x p) (e :: es) [] pos) (tMake C sp dvs E t) :=
  ⟨fun pins s σ H Q I h => wpAny_Call_Name_kw (ld_glob I hg hm (PySem.W.callWith_K (h₀ := X.base) I.ok.mod.kin M.kp (thn (ha.run pos pins s σ H _ I h) fun us s1 ⟨vs, H1, I1, r, q⟩ => ⟨I1.kIn, run_makeG M F hr hb hd hx I1 r q⟩) he hpl) hdb)⟩
end
section
variable {F : Fam} {k : Nat} {f C : Addr} {fd : FuncData} {ps : List Str} {S : DSp} {x : Str} {p pos : Pos} {e : Expr} {es : List Expr} {tA : DA}
theorem sem_make {K : PySem.W.Frag} {ta : TA} (h : SemA K ta tA) : SemE K (tMake C (spI K C S) [] E0 ta) (dCall S tA) := fun G0 H0 env σ G H Q R I q kk =>
  h G0 H0 env σ G H _ _ I q fun vs H1 G1 env1 ds s1 I1 r1 q1 => by
    intro x dx hx hdx hne
    rw [List.append_nil]
    have hgx : G1 x = none := (I1.free hx).1
    refine ⟨x, vs, dx, G1, ds, _, rfl, upd_same, hgx, fun b o q => ?_, r1, q1, fun H' G' d o a b_ c e1 e2 e3 q3 => ⟨rfl, ?_⟩⟩
    · have hb := I1.sub b o q
      rw [upd_ne (ne_of_none hb hx), upd_ne (ne_of_none hb hdx)]
      exact hb
    · have keepH : ∀ b o, H1 b = some o → minusA (upd (upd H1 dx (.own x)) x (.ins C dx [])) x b = some o := fun b o q => by
        have n1 := ne_of_none q hx
        have n2 := ne_of_none q hdx
        simp only [minusA]
        rw [if_neg n1, upd_ne n1, upd_ne n2]
        exact q
      have sG : Same G' (upd G' x o) := fun b o' q => by rw [upd_ne (ne_of_none q e2)]; exact q
      have hG : ∀ b, H1 b ≠ none → upd G' x o b = G1 b := fun b q => by
        obtain ⟨o', z⟩ := Option.ne_none_iff_exists'.mp q
        rw [upd_ne (ne_of_none z hx)]
        exact b_ b (by rw [keepH b o' z]; exact fun z => nomatch z)
      have hS : Same (upd G' x o) H' := fun b o' q => by
        by_cases hb : b = x
        · subst hb; rw [upd_same] at q; cases q; exact e1
        · rw [upd_ne hb] at q; exact c _ _ q
      obtain ⟨I2, s2⟩ := I1.ext (H' := H') (G' := upd G' x o) (fun b o' q => a b o' (keepH b o' q)) hG hS
      exact kk (.ref x) H' _ env1 d (s1.trans s2) I2 ((e3.mono sG).rep upd_same) q3
/-- C(e, ..) -/
theorem q_make (M : Mk F.K C f) (G : ∀ i, FnG (F.X i).prog (F.X i).w (F.X i).K (F.X i).mg (F.X i).base CX0 k f fd ps (spI F.K C S)) (hr : ∀ i, RoomG (k + 1) (F.X i).A) (hm : ∀ i, (F.X i).mg x = some (.ref C)) (hb : Binds F.K fd ps [])
    (ha : QA F (e :: es) tA) (hg : ∀ i, Gl (F.X i) x := by exact fun _ => rfl) (hdb : (x == ("__debug__" : Str)) = false := by decide) (he : ∀ i, starEach (e :: es) (F.X i).env = (false, eval e (F.X i).env) :: starEach es (F.X i).env := by intro _; rfl) (hpl : ∀ i, (backTo pos (starEach es (F.X i).env)).any (·.1) = false := by intro _; rfl) :
    QE F (.Call (.Name x p) (e :: es) [] pos) (dCall S tA) := by
  obtain ⟨ts, pa, s⟩ := ha
  exact ⟨_, fun i => pe_makeG (by rw [F.hK]; exact M) (G i) (hr i) (hg i) (hm i) (by rw [F.hK]; exact hb) .nil pass0 (pa i) hdb (he i) (hpl i), sem_make s⟩
end
end DL

set_option Elab.async false
set_option linter.all false
set_option maxRecDepth 100000
namespace DL
open PySem PySem.Spec PyProof.Rows L2
def keyD : D → Option Key
  | .int i => some (.inl i)
  | .str s => some (.inr ⟨s.toArray⟩)
  | _ => none
def keysD : List D → Option (List Key)
  | [] => some []
  | d :: ds => match keyD d, keysD ds with
    | some k, some ks => some (k :: ks)
    | _, _ => none
theorem keyD_rep {K : PySem.W.Frag} {G : Hp} {d : D} {v : V} {k : Key} (h : keyD d = some k) (r : Rep K G d v) : v = kV k := by
  cases d with
  | int i => cases h; exact r
  | str s => cases h; exact r
  | _ => cases h
theorem keysD_rep {K : PySem.W.Frag} {G : Hp} : ∀ {ds : List D} {vs : List V} {ks : List Key}, keysD ds = some ks → Reps K G ds vs → vs = ks.map kV
  | [], vs, ks, h, r => by cases h; cases r; rfl
  | d :: ds, _, ks, h, ⟨v, w, e, r1, r2⟩ => by
    subst e
    unfold keysD at h
    split at h
    · rename_i k1 k2 h1 h2
      cases h
      rw [keyD_rep h1 r1, keysD_rep h2 r2]
      rfl
    · cases h
section
variable {κ : Type} [DecidableEq κ]
def lkK (k : κ) : List κ → List D → Option D
  | g :: ks, d :: ds => if g = k then some d else lkK k ks ds
  | _, _ => none
theorem lkK_rep {K : PySem.W.Frag} {G : Hp} {k : κ} : ∀ {ks : List κ} {ds : List D} {vs : List V}, Reps K G ds vs → ks.length = ds.length →
    (lkK k ks ds = none ∧ valV (ks.zip vs) k = none) ∨ ∃ d v, lkK k ks ds = some d ∧ valV (ks.zip vs) k = some v ∧ Rep K G d v
  | [], [], _, r, _ => by cases r; exact .inl ⟨rfl, rfl⟩
  | [], _ :: _, _, _, h => by simp at h
  | _ :: _, [], _, _, h => by simp at h
  | g :: ks, d :: ds, _, ⟨v, w, e, r1, r2⟩, h => by
    subst e
    by_cases hg : g = k
    · refine .inr ⟨d, v, by simp [lkK, hg], ?_, r1⟩
      rw [List.zip_cons_cons]
      exact valV_pos (p := (g, v)) hg
    · have e1 : lkK k (g :: ks) (d :: ds) = lkK k ks ds := by simp [lkK, hg]
      have e2 : valV ((g :: ks).zip (v :: w)) k = valV (ks.zip w) k := by
        rw [List.zip_cons_cons]
        exact valV_neg (p := (g, v)) hg
      rw [e1, e2]
      exact lkK_rep r2 (by simpa using h)
end
def dictLk (x d : D) (Q : Option D → Prop) : Prop := match d with
  | .dk ks ds => ks.length = ds.length ∧ ∃ k, keyD x = some k ∧ Q (lkK k ks ds)
  | .dt ks ds => ks.length = ds.length ∧ ∃ xs k, x = .tup xs ∧ keysD xs = some k ∧ Q (lkK k ks ds)
  | _ => False
theorem dget_of {K : PySem.W.Frag} {G H : Hp} {x d : D} {y v : V} {Q : Option D → Prop} (s : Same G H) (r : Rep K G x y) (p : PRep K G H d v) (q : dictLk x d Q) :
    ∃ a o r, v = .ref a ∧ DGet H a y o ∧ Q r ∧ ((r = none ∧ o = none) ∨ ∃ e w, r = some e ∧ o = some w ∧ Rep K G e w) := by
  cases d with
  | dk ks ds =>
    obtain ⟨hl, k, hk, q⟩ := q
    have key : ∀ {a : Addr} {vs : List V}, H a = some (.dK (ks.zip vs)) → Reps K G ds vs → v = .ref a → ∃ a o r, v = .ref a ∧ DGet H a y o ∧ Q r ∧ ((r = none ∧ o = none) ∨ ∃ e w, r = some e ∧ o = some w ∧ Rep K G e w) := fun {a vs} h1 h2 h3 => by
      refine ⟨a, _, _, h3, .inl ⟨ks.zip vs, k, .inl h1, keyD_rep hk r, rfl⟩, q, ?_⟩
      rcases lkK_rep (k := k) h2 hl with ⟨a1, a2⟩ | ⟨e, w, a1, a2, a3⟩
      · exact .inl ⟨a1, a2⟩
      · exact .inr ⟨e, w, a1, a2, a3⟩
    rcases p with ⟨a, vs, rfl, h1, _, h3⟩ | ⟨a, rfl, o, h1, vs, rfl, _, h3⟩
    · exact key (s _ _ h1) h3 rfl
    · exact key h1 h3 rfl
  | dt ks ds =>
    obtain ⟨hl, xs, k, rfl, hk, q⟩ := q
    obtain ⟨b, us, rfl, hb, hr⟩ := r
    have hu := keysD_rep hk hr
    subst hu
    have key : ∀ {a : Addr} {vs : List V}, H a = some (.dT (ks.zip vs)) → Reps K G ds vs → v = .ref a → ∃ a o r, v = .ref a ∧ DGet H a (.ref b) o ∧ Q r ∧ ((r = none ∧ o = none) ∨ ∃ e w, r = some e ∧ o = some w ∧ Rep K G e w) := fun {a vs} h1 h2 h3 => by
      refine ⟨a, _, _, h3, .inr ⟨ks.zip vs, k, b, .inl h1, rfl, s _ _ hb, rfl⟩, q, ?_⟩
      rcases lkK_rep (k := k) h2 hl with ⟨a1, a2⟩ | ⟨e, w, a1, a2, a3⟩
      · exact .inl ⟨a1, a2⟩
      · exact .inr ⟨e, w, a1, a2, a3⟩
    rcases p with ⟨a, vs, rfl, h1, _, h3⟩ | ⟨a, rfl, o, h1, vs, rfl, _, h3⟩
    · exact key (s _ _ h1) h3 rfl
    · exact key h1 h3 rfl
  | _ => exact (q : False).elim
section
variable {F : Fam} {a b : Expr} {ta tb : DE} {pos : Pos} {k : Nat}
def dNew (d : D) : DE := fun env Q => Q d env
theorem qo_dnewK : QO F (.Dict [] [] pos) (dNew (.dk [] [])) := ⟨tDNewK, fun _ => pe_dnewK, fun G0 H0 env σ G H Q R I q kk l hl => kk _ _ G env _ (Same.refl G) (I.newH hl) (I.freshOwn hl (d := .dk [] []) (o := .dK []) ⟨[], rfl, rfl, rfl⟩) q⟩
theorem qo_dnewT : QO F (.Dict [] [] pos) (dNew (.dt [] [])) := ⟨tDNewT, fun _ => pe_dnewT, fun G0 H0 env σ G H Q R I q kk l hl => kk _ _ G env _ (Same.refl G) (I.newH hl) (I.freshOwn hl (d := .dt [] []) (o := .dT []) ⟨[], rfl, rfl, rfl⟩) q⟩
def cDin (x d : D) (Q : Bool → Prop) : Prop := dictLk x d fun r => Q r.isSome
def cDnotin (x d : D) (Q : Bool → Prop) : Prop := dictLk x d fun r => Q (!r.isSome)
theorem u1 {A : Around} {k : Nat} (r : Room k A) : A.units + 1 < cLine := by have := r.un; omega
theorem q_din (hr : ∀ i, Room k (F.X i).A) (ha : QE F a ta) (hb : QP F b tb) (hm : behindInMarks .In b = false := by rfl) : QE F (.Compare a [.In] [b] pos) (dCmp cDin ta tb) := by
  obtain ⟨sa, pa, ha⟩ := ha
  obtain ⟨sb, pb, hb⟩ := hb
  refine ⟨tDIn sa sb, fun i => pe_cmp (pc_din (u1 (hr i)) (pa i) (pb i)) hm, fun G0 H0 env σ G H Q R I q kk => ?_⟩
  exact ha G0 H0 env σ G H _ _ I q fun x H1 G1 env1 d s1 I1 r1 q1 => hb G0 H0 env1 σ G1 H1 _ _ I1 q1 fun y H2 G2 env2 e s2 I2 r2 q2 => by
    obtain ⟨p, o, r, e1, e2, q3, e3⟩ := dget_of I2.sub (r1.mono s2) r2 q2
    refine ⟨p, o, e1, e2, kk _ H2 G2 env2 (.bl r.isSome) (s1.trans s2) I2 ?_ q3⟩
    rcases e3 with ⟨rfl, rfl⟩ | ⟨_, _, rfl, rfl, _⟩ <;> rfl
theorem qt_din (hr : ∀ i, Room k (F.X i).A) (ha : QE F a ta) (hb : QP F b tb) (hm : behindInMarks .In b = false := by rfl) : QT F (.Compare a [.In] [b] pos) (dCmpT cDin ta tb) := by
  obtain ⟨sa, pa, ha⟩ := ha
  obtain ⟨sb, pb, hb⟩ := hb
  refine ⟨tB (tDIn sa sb), fun i => pt_cmp (pc_din (u1 (hr i)) (pa i) (pb i)) hm, fun G0 H0 env σ G H Q R I q kk => ?_⟩
  exact ha G0 H0 env σ G H _ _ I q fun x H1 G1 env1 d s1 I1 r1 q1 => hb G0 H0 env1 σ G1 H1 _ _ I1 q1 fun y H2 G2 env2 e s2 I2 r2 q2 => by
    obtain ⟨p, o, r, e1, e2, q3, e3⟩ := dget_of I2.sub (r1.mono s2) r2 q2
    refine ⟨p, o, e1, e2, r.isSome, ?_, kk _ H2 G2 env2 (s1.trans s2) I2 q3⟩
    rcases e3 with ⟨rfl, rfl⟩ | ⟨_, _, rfl, rfl, _⟩ <;> rfl
theorem qt_dnotin (hr : ∀ i, Room k (F.X i).A) (ha : QE F a ta) (hb : QP F b tb) (hm : behindInMarks .NotIn b = false := by rfl) : QT F (.Compare a [.NotIn] [b] pos) (dCmpT cDnotin ta tb) := by
  obtain ⟨sa, pa, ha⟩ := ha
  obtain ⟨sb, pb, hb⟩ := hb
  refine ⟨tB (tDNotIn sa sb), fun i => pt_cmp (pc_dnotin (u1 (hr i)) (pa i) (pb i)) hm, fun G0 H0 env σ G H Q R I q kk => ?_⟩
  exact ha G0 H0 env σ G H _ _ I q fun x H1 G1 env1 d s1 I1 r1 q1 => hb G0 H0 env1 σ G1 H1 _ _ I1 q1 fun y H2 G2 env2 e s2 I2 r2 q2 => by
    obtain ⟨p, o, r, e1, e2, q3, e3⟩ := dget_of I2.sub (r1.mono s2) r2 q2
    refine ⟨p, o, e1, e2, !r.isSome, ?_, kk _ H2 G2 env2 (s1.trans s2) I2 q3⟩
    rcases e3 with ⟨rfl, rfl⟩ | ⟨_, _, rfl, rfl, _⟩ <;> rfl
theorem q_dnotin (hr : ∀ i, Room k (F.X i).A) (ha : QE F a ta) (hb : QP F b tb) (hm : behindInMarks .NotIn b = false := by rfl) : QE F (.Compare a [.NotIn] [b] pos) (dCmp cDnotin ta tb) := by
  obtain ⟨sa, pa, ha⟩ := ha
  obtain ⟨sb, pb, hb⟩ := hb
  refine ⟨tDNotIn sa sb, fun i => pe_cmp (pc_dnotin (u1 (hr i)) (pa i) (pb i)) hm, fun G0 H0 env σ G H Q R I q kk => ?_⟩
  exact ha G0 H0 env σ G H _ _ I q fun x H1 G1 env1 d s1 I1 r1 q1 => hb G0 H0 env1 σ G1 H1 _ _ I1 q1 fun y H2 G2 env2 e s2 I2 r2 q2 => by
    obtain ⟨p, o, r, e1, e2, q3, e3⟩ := dget_of I2.sub (r1.mono s2) r2 q2
    refine ⟨p, o, e1, e2, kk _ H2 G2 env2 (.bl (!r.isSome)) (s1.trans s2) I2 ?_ q3⟩
    rcases e3 with ⟨rfl, rfl⟩ | ⟨_, _, rfl, rfl, _⟩ <;> rfl
def someD (r : Option D) (Q : D → Prop) : Prop := match r with
  | some d => Q d
  | none => False
def cDget (d x : D) (Q : D → Prop) : Prop := dictLk x d fun r => someD r Q
/-- d[k], d frozen -/
theorem q_dget (hr : ∀ i, Room k (F.X i).A) (ha : QE F a ta) (hb : QE F b tb) (hs : NoSl b := by exact fun _ _ => rfl) : QE F (.Subscript a b pos) (dOp cDget ta tb) := by
  obtain ⟨sa, pa, ha⟩ := ha
  obtain ⟨sb, pb, hb⟩ := hb
  refine ⟨tDGet sa sb, fun i => pe_dget (u1 (hr i)) (pa i) (pb i) hs, fun G0 H0 env σ G H Q R I q kk => ?_⟩
  exact ha G0 H0 env σ G H _ _ I q fun x H1 G1 env1 d s1 I1 r1 q1 => hb G0 H0 env1 σ G1 H1 _ _ I1 q1 fun y H2 G2 env2 e s2 I2 r2 q2 => by
    obtain ⟨p, o, r, e1, e2, q3, e3⟩ := dget_of I2.sub r2 (.inl (r1.mono s2)) q2
    rcases e3 with ⟨rfl, rfl⟩ | ⟨z, w, rfl, rfl, rz⟩
    · exact (q3 : False).elim
    · exact ⟨p, w, e1, e2, kk w H2 G2 env2 z (s1.trans s2) I2 rz q3⟩
/-- name[k], the name stays owned -/
def dDgetV (j : Nat) (tb : DE) : DE := fun env Q => bound (gs env j) ∧ tb env fun y env1 => slD (gs env1 j) fun d => cDget d y fun z => Q z env1
theorem q_dgetv (j : Nat) {x : Str} {ipos : Pos} (hr : ∀ i, Room k (F.X i).A) (hb : QE F b tb) (hN : ∀ i, (F.X i).N[j]? = some x := by exact fun _ => rfl) (hv : ∀ i, Vis (F.X i).env.scope x := by first | exact fun _ => Or.inl rfl | exact fun _ => Or.inr (Or.inl rfl) | exact fun _ => Or.inr (Or.inr rfl)) (hs : NoSl b := by exact fun _ _ => rfl) (hd : (x == ("__debug__" : Str)) = false := by decide) (hcd : (x == ("__classdict__" : Str)) = false := by decide) :
    QE F (.Subscript (.Name x ipos) b pos) (dDgetV j tb) := by
  obtain ⟨sb, pb, hb⟩ := hb
  refine ⟨tDGet (tVar j) sb, fun i => pe_dget (u1 (hr i)) (pe_var (hN i) (hv i) hd hcd) (pb i) hs, fun G0 H0 env σ G H Q R I q kk => ?_⟩
  obtain ⟨hn, q⟩ := q
  obtain ⟨v, d, e, _, _⟩ := I.peek (i := j) (Q := fun _ => True) (by
    cases z : gs env j with
    | no => rw [z] at hn; exact hn
    | fz d => trivial
    | ow d => trivial
    | me p d => trivial)
  refine ⟨v, e, hb G0 H0 env σ G H _ _ I q fun y H1 G1 env1 f s1 I1 r1 q1 => ?_⟩
  obtain ⟨v', d', e', q2, rp⟩ := I1.peek q1
  rw [e] at e'
  cases e'
  obtain ⟨p, o, r, e1, e2, q3, e3⟩ := dget_of I1.sub r1 rp q2
  rcases e3 with ⟨rfl, rfl⟩ | ⟨z, w, rfl, rfl, rz⟩
  · exact (q3 : False).elim
  · exact ⟨p, w, e1, e2, kk w H1 G1 env1 z s1 I1 rz q3⟩
end
section
variable {κ α : Type} [DecidableEq κ]
def putKs (k : κ) (ks : List κ) : List κ := if k ∈ ks then ks else ks ++ [k]
def putDs (k : κ) (x : α) (ks : List κ) (xs : List α) : List α := if k ∈ ks then List.zipWith (fun g y => if g = k then x else y) ks xs else xs ++ [x]
theorem putK_zip (k : κ) (v : V) (ks : List κ) (vs : List V) (h : ks.length = vs.length) : (putKs k ks).zip (putDs k v ks vs) = putK (ks.zip vs) k v := by
  have hany : (((ks.zip vs).any fun kv => decide (kv.1 = k)) = true) ↔ k ∈ ks := by
    rw [List.any_eq_true]
    constructor
    · rintro ⟨⟨g, x⟩, hm, hg⟩
      have : g = k := of_decide_eq_true hg
      subst this
      exact (List.of_mem_zip hm).1
    · intro hk
      obtain ⟨i, hi⟩ := List.mem_iff_getElem?.mp hk
      have hl := (List.getElem?_eq_some_iff.mp hi).1
      refine ⟨(k, vs[i]'(by omega)), ?_, decide_eq_true rfl⟩
      refine List.mem_iff_getElem?.mpr ⟨i, ?_⟩
      rw [List.getElem?_zip_eq_some]
      exact ⟨hi, List.getElem?_eq_getElem _⟩
  unfold putK putKs putDs
  by_cases hk : k ∈ ks
  · rw [if_pos hk, if_pos hk, if_pos (hany.mpr hk)]
    clear hany hk
    induction ks generalizing vs with
    | nil => rfl
    | cons g ks ih =>
      cases vs with
      | nil => simp at h
      | cons x vs =>
        rw [List.zipWith_cons_cons, List.zip_cons_cons, List.zip_cons_cons, List.map_cons, ih vs (by simpa using h)]
        by_cases hg : g = k
        · simp [hg]
        · simp [hg]
  · rw [if_neg hk, if_neg hk, if_neg (fun z => hk (hany.mp z))]
    rw [List.zip_append h]
    rfl
theorem putD_len (k : κ) (x : α) (ks : List κ) (xs : List α) (h : ks.length = xs.length) : (putKs k ks).length = (putDs k x ks xs).length := by
  unfold putKs putDs
  by_cases hk : k ∈ ks
  · rw [if_pos hk, if_pos hk, List.length_zipWith]; omega
  · rw [if_neg hk, if_neg hk, List.length_append, List.length_append, h]; rfl
theorem putD_rep {K : PySem.W.Frag} {G : Hp} {k : κ} {d : D} {v : V} (hd : Rep K G d v) {ks : List κ} {ds : List D} {vs : List V} (r : Reps K G ds vs) : Reps K G (putDs k d ks ds) (putDs k v ks vs) := by
  unfold putDs
  by_cases hk : k ∈ ks
  · rw [if_pos hk, if_pos hk]
    clear hk
    induction ks generalizing ds vs with
    | nil => exact (rfl : _ = _)
    | cons g ks ih =>
      cases ds with
      | nil => cases r; exact (rfl : _ = _)
      | cons e ds =>
        obtain ⟨w, ws, rfl, r1, r2⟩ := r
        rw [List.zipWith_cons_cons, List.zipWith_cons_cons]
        refine ⟨_, _, rfl, ?_, ih r2⟩
        by_cases hg : g = k
        · simp only [hg, if_true]; exact hd
        · simp only [hg, if_false]; exact r1
  · rw [if_neg hk, if_neg hk]
    exact r.append (Reps.one hd)
end
def dictPut (x d z : D) (Q : D → Prop) : Prop := match d with
  | .dk ks ds => ks.length = ds.length ∧ ds.length < sizeLine ∧ ∃ k, keyD x = some k ∧ Q (.dk (putKs k ks) (putDs k z ks ds))
  | .dt ks ds => ks.length = ds.length ∧ ds.length < sizeLine ∧ ∃ xs k, x = .tup xs ∧ keysD xs = some k ∧ Q (.dt (putKs k ks) (putDs k z ks ds))
  | _ => False
def dDput (j : Nat) (te ti : DE) : DS := fun DE env => te env fun z env1 => owD (gs env1 j) fun _ => ti env1 fun x env2 => owD (gs env2 j) fun d => dictPut x d z fun d' => DE.nx (ss env2 j (.ow d'))
section
variable {F : Fam} {own : Bool} {e : Expr} {te ti : DE} {pos : Pos} {k : Nat}
theorem qs_dput (j : Nat) {x : Str} {spos npos : Pos} {i : Expr} (hr : ∀ i, Room k (F.X i).A) (h : QE F e te) (hi : QE F i ti) (hN : ∀ i, (F.X i).N[j]? = some x := by exact fun _ => rfl) (hv : ∀ i, Vis (F.X i).env.scope x := by first | exact fun _ => Or.inl rfl | exact fun _ => Or.inr (Or.inl rfl) | exact fun _ => Or.inr (Or.inr rfl))
    (hs : ∀ k, swapsWith e (some (.Subscript (.Name x npos) i spos)) pos.line (F.X k).env = pure false := by intro _; rfl) (hd : (x == ("__debug__" : Str)) = false := by decide) (hcd : (x == ("__classdict__" : Str)) = false := by decide) :
    QS F own (.Assign [.Subscript (.Name x npos) i spos] e pos) (dDput j te ti) := by
  obtain ⟨ts, p, s⟩ := h
  obtain ⟨t2, p2, s2⟩ := hi
  refine ⟨sDPut (tVar j) t2 ts, fun i => ps_dput (u1 (hr i)) (pe_var (hN i) (hv i) hd hcd) (p2 i) (p i) (hs i), fun G0 H0 env σ G H DE E I q kk => s G0 H0 env σ G H _ _ I q fun v H1 G1 env1 z s1 I1 r1 q1 => ?_⟩
  obtain ⟨d0, hd0, q1⟩ := owD_get q1
  obtain ⟨p0, o0, e0, _, _, _⟩ := I1.ownedAt hd0
  refine ⟨.ref p0, e0, s2 G0 H0 env1 σ G1 H1 _ _ I1 q1 fun y H2 G2 env2 xd s3 I2 r2 q2 => ?_⟩
  obtain ⟨d, hd1, q2⟩ := owD_get q2
  obtain ⟨p1, o1, e1, g1, ho1, c1⟩ := I2.ownedAt hd1
  rw [e0] at e1
  cases e1
  have fin : ∀ {d' : D} {o' : HO}, Cont F.K G2 d' o' → DE.nx (ss env2 j (.ow d')) → E.nx σ (upd H2 p0 o') := fun {d' o'} c q3 => by
    obtain ⟨p3, f1, _, I3⟩ := I2.write hd1 c
    rw [e0] at f1
    cases f1
    rw [ss_set] at q3
    exact kk.nx _ _ _ _ (s1.trans s3) I3 q3
  cases d with
  | dk ks ds =>
    obtain ⟨hl, hz, k, hk, q3⟩ := q2
    obtain ⟨vs, rfl, _, h3⟩ := c1
    have hkv : ks.length = vs.length := by rw [h3.len]; exact hl
    refine ⟨p0, _, rfl, .inl ⟨ks.zip vs, k, ho1, keyD_rep hk r2, by rw [List.length_zip, h3.len]; omega, rfl⟩, ?_⟩
    rw [← putK_zip k v ks vs hkv]
    exact fin (d' := .dk (putKs k ks) (putDs k z ks ds)) ⟨_, rfl, putD_len k z ks ds hl, putD_rep (r1.mono s3) h3⟩ q3
  | dt ks ds =>
    obtain ⟨hl, hz, xs, k, rfl, hk, q3⟩ := q2
    obtain ⟨vs, rfl, _, h3⟩ := c1
    have hkv : ks.length = vs.length := by rw [h3.len]; exact hl
    obtain ⟨b, us, rfl, hb, hr⟩ := r2
    have hu := keysD_rep hk hr
    subst hu
    refine ⟨p0, _, rfl, .inr ⟨ks.zip vs, k, b, ho1, rfl, I2.sub _ _ hb, by rw [List.length_zip, h3.len]; omega, rfl⟩, ?_⟩
    rw [← putK_zip k v ks vs hkv]
    exact fin (d' := .dt (putKs k ks) (putDs k z ks ds)) ⟨_, rfl, putD_len k z ks ds hl, putD_rep (r1.mono s3) h3⟩ q3
  | _ => exact (q2 : False).elim
end
end DL

set_option Elab.async false
set_option linter.all false
set_option maxRecDepth 100000
namespace DL
open PySem PySem.Spec PyProof.Rows L2
section
variable {F : Fam} {a b e o : Expr} {ta tb te to t : DE} {pos apos : Pos} {K : PySem.W.Frag}
theorem cps_mk (l : List Nat) : (⟨l.toArray⟩ : Str).cps.toList = l := by simp
theorem starts_codes (l m : List Nat) : Txt.startswith ⟨l.toArray⟩ ⟨m.toArray⟩ = m.isPrefixOf l := by
  unfold Txt.startswith
  rw [PySem.StrLaws.subAt_eq, str_len, str_len, cps_mk, cps_mk, List.drop_zero, Nat.zero_add, Bool.eq_iff_iff, List.isPrefixOf_iff_prefix, List.prefix_iff_eq_take, Bool.and_eq_true, beq_iff_eq, decide_eq_true_eq]
  constructor
  · rintro ⟨_, h⟩; exact h.symm
  · intro h
    refine ⟨?_, h.symm⟩
    have := congrArg List.length h
    rw [List.length_take] at this
    omega
def cStarts (x y : D) (Q : D → Prop) : Prop := match x, y with
  | .str l, .str m => Q (.bl (m.isPrefixOf l))
  | _, _ => False
def dM1 (c : D → D → (D → Prop) → Prop) (to te : DE) : DE := fun env Q => to env fun x env1 => isStrD x (te env1 fun y env2 => c x y fun z => Q z env2)
theorem q_m1 {id : String} {name : Str} {r : V → List V → Hp → VK → Prop} {c : D → D → (D → Prop) → Prop} (slot : Slot "str" name id) (ty : typeOf (.builtin id) = pure (.type "method_descriptor")) (rule : ∀ i, MtR (F.X i) id r)
    (hc : ∀ (G0 H0 : Hp) (env : DEnv) (σ : L2.St) (G H : Hp) (l : List Nat) (y : V) (d : D) (Q : D → Prop) (R : VK), ER F.K G0 H0 env σ G H → Rep F.K G d y → c (.str l) d Q → (∀ v z, Rep F.K G z v → Q z → R v H) → r (.str ⟨l.toArray⟩) [y] H R)
    (ho : QE F o to) (he : QE F e te) (hs : ∀ i, starEach [e] (F.X i).env = [(false, eval e (F.X i).env)] := by intro _; rfl) (hbase : ∀ i, attributeBase o name (F.X i).env (eval o (F.X i).env) = eval o (F.X i).env := by intro _; rfl) (hline : (apos.endLine == pos.line) = true := by rfl) :
    QE F (.Call (.Attribute o name apos) [e] [] pos) (dM1 c to te) := by
  obtain ⟨so, po, ho⟩ := ho
  obtain ⟨se, pe, he⟩ := he
  refine ⟨tM1 r so se, fun i => pe_m1 slot ty (rule i) (po i) (pe i) (hs i) (hbase i) hline, fun G0 H0 env σ G H Q R I q k => ho G0 H0 env σ G H _ _ I q fun v H1 G1 env1 d s1 I1 r1 q1 => ?_⟩
  cases d with
  | str l =>
    cases (show v = _ from r1)
    refine ⟨⟨_, rfl⟩, he G0 H0 env1 σ G1 H1 _ _ I1 q1 fun u H2 G2 env2 d2 s2 I2 r2 q2 => ?_⟩
    exact hc G0 H0 env2 σ G2 H2 l u d2 _ _ I2 r2 q2 fun v z rz qz => k v H2 G2 env2 z (s1.trans s2) I2 rz qz
  | _ => exact (q1 : False).elim
theorem q_starts (ho : QE F o to) (he : QE F e te) (hs : ∀ i, starEach [e] (F.X i).env = [(false, eval e (F.X i).env)] := by intro _; rfl) (hbase : ∀ i, attributeBase o "startswith" (F.X i).env (eval o (F.X i).env) = eval o (F.X i).env := by intro _; rfl) (hline : (apos.endLine == pos.line) = true := by rfl) :
    QE F (.Call (.Attribute o "startswith" apos) [e] [] pos) (dM1 cStarts to te) := by
  refine q_m1 PySem.F.slot_str_startswith PySem.F.type_str_startswith (fun i => mt_startswith) (fun G0 H0 env σ G H l y d Q R I r q k => ?_) ho he hs hbase hline
  cases d with
  | str m =>
    cases (show y = _ from r)
    refine ⟨_, _, rfl, rfl, ?_⟩
    rw [starts_codes]
    exact k _ (.bl (m.isPrefixOf l)) rfl q
  | _ => exact (q : False).elim
theorem occ_full (s sub : Str) (hi : Nat) : ∀ (l : List Nat) (st : Array Nat × Nat), 1 ≤ st.fst.size → (forIn l st (PySem.StrLaws.occBody s sub hi 1)).run.fst = st.fst
  | [], st, h => rfl
  | a :: l, st, h => by
    rw [List.forIn_cons]
    unfold PySem.StrLaws.occBody
    rw [if_neg (by omega)]
    exact occ_full s sub hi l _ h
theorem occ_first (s sub : Str) (hi : Nat) (P : Nat → Bool) (hP : ∀ i, P i = true ↔ i + sub.length ≤ hi ∧ Builtin.Str.subAt s sub i = true) : ∀ (l : List Nat) (free : Nat), (∀ i ∈ l, free ≤ i) →
    (forIn l ((#[] : Array Nat), free) (PySem.StrLaws.occBody s sub hi 1)).run.fst.toList = (l.find? P).toList
  | [], free, _ => rfl
  | a :: l, free, hf => by
    rw [List.forIn_cons]
    unfold PySem.StrLaws.occBody
    have ha : free ≤ a := hf a (List.mem_cons_self ..)
    by_cases hc : P a = true
    · have c0 := (hP a).mp hc
      have c1 : (((#[] : Array Nat), free).fst.size < 1 ∧ ((#[] : Array Nat), free).snd ≤ a) ∧ a + sub.length ≤ hi := ⟨⟨by simp, ha⟩, c0.1⟩
      rw [if_pos ⟨c1, c0.2⟩, List.find?_cons_of_pos hc]
      show (forIn l ((#[] : Array Nat).push a, a + sub.length) (PySem.StrLaws.occBody s sub hi 1)).run.fst.toList = _
      rw [occ_full _ _ _ _ _ (by simp)]
      rfl
    · have c2 : ¬ (((((#[] : Array Nat), free).fst.size < 1 ∧ ((#[] : Array Nat), free).snd ≤ a) ∧ a + sub.length ≤ hi) ∧ Builtin.Str.subAt s sub a = true) := fun h => hc ((hP a).mpr ⟨h.1.2, h.2⟩)
      rw [if_neg c2, List.find?_cons_of_neg hc]
      exact occ_first s sub hi P hP l free (fun i hi' => hf i (List.mem_cons_of_mem _ hi'))
theorem find_range {P : Nat → Bool} {i : Nat} (hi : P i = true) (hj : ∀ j, j < i → P j = false) : ∀ n k, k ≤ i → i < k + n → (List.range' k n).find? P = some i
  | 0, k, h1, h2 => by omega
  | n + 1, k, h1, h2 => by
    rw [List.range'_succ]
    by_cases hk : k = i
    · subst hk; rw [List.find?_cons_of_pos hi]
    · rw [List.find?_cons_of_neg (by rw [hj k (by omega)]; decide)]
      exact find_range hi hj n (k + 1) (by omega) (by omega)
theorem occ_one {l : List Nat} {c i : Nat} (h : l[i]? = some c) (hn : ∀ j, j < i → l[j]? ≠ some c) : Builtin.Str.occurrences ⟨l.toArray⟩ ⟨#[c]⟩ 0 (⟨l.toArray⟩ : Str).length 1 = [i] := by
  rw [PySem.StrLaws.occ_eq, occ_first _ _ _ (fun i => decide (l[i]? = some c)) (fun i => by
    rw [decide_eq_true_eq, PySem.StrLaws.subAt_one, cps_mk]) _ 0 (fun _ _ => Nat.zero_le _), find_range (i := i) (by simpa using h) (fun j hj => by simpa using hn j hj) _ 0 (Nat.zero_le _)]
  · rfl
  · have := (List.getElem?_eq_some_iff.mp h).1
    rw [str_len]
    omega
def cSIndex (x y : D) (Q : D → Prop) : Prop := match x, y with
  | .str l, .str [c] => ∃ i : Nat, l[i]? = some c ∧ (∀ j, j < i → l[j]? ≠ some c) ∧ ∀ k : Int, k = i → Q (.int k)
  | _, _ => False
theorem q_sindex (ho : QE F o to) (he : QE F e te) (hs : ∀ i, starEach [e] (F.X i).env = [(false, eval e (F.X i).env)] := by intro _; rfl) (hbase : ∀ i, attributeBase o "index" (F.X i).env (eval o (F.X i).env) = eval o (F.X i).env := by intro _; rfl) (hline : (apos.endLine == pos.line) = true := by rfl) :
    QE F (.Call (.Attribute o "index" apos) [e] [] pos) (dM1 cSIndex to te) := by
  refine q_m1 PySem.F.slot_str_index PySem.F.type_str_index (fun i => mt_sindex) (fun G0 H0 env σ G H l y d Q R I r q k => ?_) ho he hs hbase hline
  match d, q with
  | .str [c], q =>
    obtain ⟨i, h1, h2, q⟩ := q
    cases (show y = _ from r)
    refine ⟨_, _, i, [], rfl, rfl, occ_one h1 h2, ?_⟩
    exact k _ (.int (i : Nat)) rfl (q _ rfl)
  | .str [], q => exact (q : False).elim
  | .str (_ :: _ :: _), q => exact (q : False).elim
def cRevS (x : D) (Q : D → Prop) : Prop := match x with
  | .str l => l.length ≤ sizeLine ∧ Q (.str l.reverse)
  | _ => False
def tRevS (te : TE) : TE := fun σ H Q => te σ H fun x H1 => ∃ z : Str, x = .str z ∧ z.length ≤ sizeLine ∧ Q (.str ⟨z.cps.toList.reverse.toArray⟩) H1
theorem rev_picks (xs : Array Nat) : (Builtin.Str.strSliceIndices none none (-1) xs.size).filterMap (xs[·]?) = xs.toList.reverse := by
  show (sliceRange (((xs.size : Nat) : Int) - 1) (-1) (-1)).filterMap (xs[·]?) = _
  rw [PySem.W.krv_sliceRange, PySem.W.krv_range, List.filterMap_reverse, PySem.W.krv_all]
theorem rev_len (xs : Array Nat) : (Builtin.Str.strSliceIndices none none (-1) xs.size).length = xs.size := by
  show (sliceRange (((xs.size : Nat) : Int) - 1) (-1) (-1)).length = _
  rw [PySem.W.krv_sliceRange, List.length_map, List.length_range]
theorem evalPart_some' {e : Expr} {env : Env} : evalPart (some e) env = eval e env := evalPart_some ..
theorem pe_revS {X : Cx} {te : TE} {p1 p2 p3 : Pos} {j} (he : PE X e te) : PE X (.Subscript e (.Slice none none (some (.UnaryOp .USub (.Constant (.int 1) j p1) p2)) p3) pos) (tRevS te) := by
  refine ⟨fun pins s σ H Q I h => ?_⟩
  refine Subscript_ (thn (he.run pins s σ H _ I h) fun v s1 ⟨x, H1, I1, r1, q1⟩ => ?_)
  obtain ⟨z, rfl, hz, q1⟩ := q1
  obtain ⟨tk, rfl⟩ := r1
  refine wpAny_Slice ?_
  rw [evalPart_none]
  refine wpAny_pure (wpAny_pure ?_)
  rw [evalPart_some]
  have hm : PE X (.UnaryOp .USub (.Constant (.int 1) j p1) p2) (tUn (fun x H Q => ∃ i, x = .int i ∧ Q (.int (-i)) H) (tC (.int 1))) := pe_un un_neg pe_int
  refine thn (hm.run pins s1 σ H1 (fun v H2 => v = .int (-1) ∧ Q (.str ⟨z.cps.toList.reverse.toArray⟩) H2) I1 ⟨1, rfl, rfl, q1⟩) fun vu s3 ⟨u, H3, I3, pu, hu, q3⟩ => ?_
  subst hu
  obtain ⟨t3, rfl⟩ := pu
  have I4 : Inv X pins σ H3 { s3 with heap := s3.heap.push { cls := .type "slice", data := .fields #[.none, .none, .int (-1) t3] } } := I3.kept (t' := s3.toks) fun b ob q => Heap.get?_push_of_some _ q
  show wpAny (model X.prog X.w) X.A (subscriptTail e (.Slice none none (some (.UnaryOp .USub (.Constant (.int 1) j p1) p2)) p3) (.str z tk) (.ref s3.heap.objs.size)) (EP X pins σ Q) X.xe { s3 with heap := s3.heap.push { cls := .type "slice", data := .fields #[.none, .none, .int (-1) t3] } }
  refine tail_any (T := "str") (ops := [.ref s3.heap.objs.size, .str z tk]) (typeIs_str _ _ _) PySem.F.slot_str_getitem.lookup (wpAny_getItem_str_slice (l := none) (u := none) (st := some (-1, t3)) ⟨_, Heap.get?_push_size _ rfl, rfl, rfl⟩ rfl ?_) (by with_unfolding_all rfl)
  show Made.post (if ((-1 : Int) == 1 && (Builtin.Str.strSliceIndices none none (-1) z.length).length == z.length) = true then Made.val (.str z tk)
    else Made.str ⟨((Builtin.Str.strSliceIndices none none (-1) z.length).filterMap (z.cps[·]?)).toArray⟩) (EP X pins σ Q) _
  rw [if_neg (fun z => by rw [Bool.and_eq_true] at z; exact absurd z.1 (by decide))]
  have e1 := rev_picks z.cps
  refine ⟨?_, ?_⟩
  · show (((Builtin.Str.strSliceIndices none none (-1) z.cps.size).filterMap (z.cps[·]?)).toArray).size ≤ _
    rw [e1]
    simpa [Str.length] using hz
  · refine ⟨.str ⟨z.cps.toList.reverse.toArray⟩, H3, I4.tok _, ⟨s3.toks, ?_⟩, q3⟩
    · show Value.str ⟨((Builtin.Str.strSliceIndices none none (-1) z.cps.size).filterMap (z.cps[·]?)).toArray⟩ _ = _
      rw [e1]
theorem q_revS {p1 p2 p3 : Pos} {j} (he : QE F e te) : QE F (.Subscript e (.Slice none none (some (.UnaryOp .USub (.Constant (.int 1) j p1) p2)) p3) pos) (dUn cRevS te) := by
  obtain ⟨se, pe, he⟩ := he
  refine ⟨tRevS se, fun i => pe_revS (pe i), fun G0 H0 env σ G H Q R I q k => he G0 H0 env σ G H _ _ I q fun v H1 G1 env1 d s1 I1 r1 q1 => ?_⟩
  cases d with
  | str l =>
    cases (show v = _ from r1)
    refine ⟨_, rfl, by rw [str_len]; exact q1.1, ?_⟩
    rw [cps_mk]
    exact k _ H1 G1 env1 (.str l.reverse) s1 I1 rfl q1.2
  | _ => exact (q1 : False).elim
theorem sortedS_pair : ∀ {ls : List (List Nat)}, sortedS (ls.map fun l => (⟨l.toArray⟩ : Str)) = true → ls.Pairwise fun a b => ¬ b < a := by
  have rise : ∀ (ls : List (List Nat)) (p : List Nat), risingS ⟨p.toArray⟩ (ls.map fun l => (⟨l.toArray⟩ : Str)) = true → (p :: ls).Pairwise fun a b => ¬ b < a := by
    intro ls
    induction ls with
    | nil => intro p _; exact List.pairwise_singleton _ _
    | cons x ls ih =>
      intro p h
      rw [List.map_cons] at h
      unfold risingS at h
      rw [Bool.and_eq_true, Bool.not_eq_true', cps_mk, cps_mk, ltCps_eq, decide_eq_false_iff_not] at h
      have h2 := ih x h.2
      rw [List.pairwise_cons] at h2 ⊢
      refine ⟨fun y hy => ?_, List.pairwise_cons.mpr h2⟩
      rcases List.mem_cons.mp hy with rfl | hy
      · exact h.1
      · have := h2.1 y hy
        have h1 := h.1
        intro hlt
        rcases Std.lt_trichotomy x p with z | z | z
        · exact h1 z
        · subst z; exact this hlt
        · exact this (List.lt_trans hlt z)
  intro ls h
  cases ls with
  | nil => exact List.Pairwise.nil
  | cons x ls => exact rise ls x h
theorem reps_strs {G : Hp} : ∀ {ls : List (List Nat)} {vs : List V}, Reps K G (ls.map D.str) vs → vs = (ls.map fun l => (⟨l.toArray⟩ : Str)).map V.str := fun r => strs_of_map r
theorem reps_strs' {G : Hp} : ∀ (ls : List (List Nat)), Reps K G (ls.map D.str) ((ls.map fun l => (⟨l.toArray⟩ : Str)).map V.str)
  | [] => (rfl : _ = _)
  | _ :: ls => ⟨_, _, rfl, rfl, reps_strs' ls⟩
theorem strs_mk : ∀ (ys : List Str), ∃ ls : List (List Nat), ys = ls.map fun l => (⟨l.toArray⟩ : Str)
  | [] => ⟨[], rfl⟩
  | y :: ys => let ⟨ls, h⟩ := strs_mk ys; ⟨y.cps.toList :: ls, by rw [h]; simp⟩
theorem mk_inj {ls ms : List (List Nat)} (h : (ls.map fun l => (⟨l.toArray⟩ : Str)).Perm (ms.map fun l => (⟨l.toArray⟩ : Str))) : ls.Perm ms := by
  have := h.map fun s : Str => s.cps.toList
  simpa [List.map_map, Function.comp_def] using this
def cSortedA (d : D) (Q : D → Prop) : Prop := match d with
  | .lst ds => (∃ ns, ds = ns.map .int ∧ ∀ ns' : List Int, ns'.Perm ns → ns'.Pairwise (· ≤ ·) → Q (.lst (ns'.map .int))) ∨
    ∃ ls : List (List Nat), ds = ls.map .str ∧ ls.length < 64 ∧ ∀ ys : List (List Nat), ys.Perm ls → (ys.Pairwise fun a b => ¬ b < a) → Q (.lst (ys.map .str))
  | .scr ns => ∀ ns' : List Int, ns'.Perm ns → ns'.Pairwise (· ≤ ·) → Q (.lst (ns'.map .int))
  | _ => False
theorem calo_sortedA : CalO K (fun xs H Q => rSortedI K xs H Q ∨ rSortedS K xs H Q) cSortedA := by
  intro G0 H0 env σ G H x d Q R I r q k
  have fin : ∀ {ns : List Int} {l : Addr}, Q (.lst (ns.map .int)) → H l = none → R (.ref l) (upd H l (.lst (ns.map V.int))) := fun {ns l} q hl =>
    k _ _ G (.lst (ns.map .int)) (Same.refl G) (I.newH hl) (I.freshOwn hl ⟨_, rfl, Reps.ints ns⟩) q
  cases d with
  | lst ds =>
    obtain ⟨p, vs, rfl, h1, a1⟩ := r.lst I.sub
    rcases q with ⟨ns, rfl, q⟩ | ⟨ls, rfl, h64, q⟩
    · rw [reps_ints a1] at h1
      exact .inl ⟨p, ns, rfl, SqL.of h1, fun ns' l h2 h3 hl => fin (q ns' h2 h3) hl⟩
    · rw [reps_strs a1] at h1
      refine .inr ⟨p, _, rfl, SqL.of h1, by rw [List.length_map]; exact h64, fun ys l h2 h3 hl => ?_⟩
      obtain ⟨ms, rfl⟩ := strs_mk ys
      exact k _ _ G (.lst (ms.map .str)) (Same.refl G) (I.newH hl) (I.freshOwn hl ⟨_, rfl, reps_strs' ms⟩) (q ms (mk_inj h2) (sortedS_pair h3))
  | scr ns =>
    obtain ⟨p, rfl, h1⟩ := r.frozen (fun _ z => z)
    exact .inl ⟨p, ns, rfl, I.sub.seq h1, fun ns' l h2 h3 hl => fin (q ns' h2 h3) hl⟩
  | _ => exact (q : False).elim
theorem qo_sortedA {p : Pos} (hm : ∀ i, (F.X i).mg "sorted" = none) (h : QP F e t) (hg : ∀ i, Gl (F.X i) "sorted" := by exact fun _ => rfl) (hs : ∀ i, starEach (e :: []) (F.X i).env = (false, eval e (F.X i).env) :: starEach [] (F.X i).env := by intro _; rfl) : QO F (.Call (.Name "sorted" p) [e] [] pos) (dCal cSortedA t) :=
  qo_callB (fun i => by have := (cr_sortedI (X := F.X i)).or cr_sortedS; rw [F.hK] at this; exact this) calo_sortedA hg hm (by decide +kernel) h (hs := hs)
def ltX : D → D → Bool
  | .int i, .int j => decide (i < j)
  | .str l, .str m => decide (l < m)
  | _, _ => false
def kin : D → D → Prop
  | .int _, .int _ => True
  | .str _, .str _ => True
  | _, _ => False
def kins : List D → List D → Prop
  | [], _ => True
  | _, [] => True
  | x :: xs, y :: ys => kin x y ∧ kins xs ys
def lexX : List D → List D → Bool
  | [], [] => false
  | [], _ :: _ => true
  | _ :: _, [] => false
  | x :: xs, y :: ys => if eqD x y = true then lexX xs ys else ltX x y
theorem kins_at : ∀ {xs ys : List D} {j : Nat} {x y : D}, kins xs ys → xs[j]? = some x → ys[j]? = some y → kin x y
  | [], _, j, _, _, _, h, _ => by simp at h
  | _ :: _, [], j, _, _, _, _, h => by simp at h
  | a :: xs, b :: ys, 0, x, y, h, h1, h2 => by
    cases (show a = x by simpa using h1)
    cases (show b = y by simpa using h2)
    exact h.1
  | a :: xs, b :: ys, j + 1, x, y, h, h1, h2 => kins_at h.2 (by simpa using h1) (by simpa using h2)
theorem lexAt_X (xs ys : List D) : ∀ (k i : Nat), i + k = min xs.length ys.length →
    Ob.lexAt (fun j => eqD (xs.getD j .non) (ys.getD j .non)) (fun j => ltX (xs.getD j .non) (ys.getD j .non)) (decide (xs.length < ys.length)) i k = lexX (xs.drop i) (ys.drop i)
  | 0, i, h => by
    rw [Ob.lexAt_zero]
    rcases Nat.lt_or_ge xs.length ys.length with z | z
    · rw [List.drop_of_length_le (l := xs) (by omega), List.drop_eq_getElem_cons (l := ys) (i := i) (by omega)]
      simpa [lexX] using z
    · rw [List.drop_of_length_le (l := ys) (by omega)]
      rw [decide_eq_false (by omega)]
      cases xs.drop i <;> rfl
  | k + 1, i, h => by
    have h1 : i < xs.length := by omega
    have h2 : i < ys.length := by omega
    rw [Ob.lexAt_succ, List.drop_eq_getElem_cons h1, List.drop_eq_getElem_cons h2, lexAt_X xs ys k (i + 1) (by omega)]
    simp only [lexX]
    rw [List.getD_eq_getElem?_getD, List.getD_eq_getElem?_getD, List.getElem?_eq_getElem h1, List.getElem?_eq_getElem h2]
    rfl
def rLtX (K : PySem.W.Frag) : R2 := fun x y H Q => ∃ (a b : Addr) (G : Hp) (ds es : List D) (vs ws : List V), x = .ref a ∧ y = .ref b ∧ SqT K H a vs ∧ SqT K H b ws ∧ Reps K G ds vs ∧ Reps K G es ws ∧ kins ds es ∧ Q (.bl (lexX ds es)) H
theorem vals_get : ∀ {vs : List V} {us : List Value} {j : Nat} {v : V}, Vals vs us → vs[j]? = some v → ∃ u, us[j]? = some u ∧ RelV v u
  | _, _, j, v, .nil, h => by simp at h
  | _, _, 0, v, .cons (a := x) r t, h => by
    cases (show x = v by simpa using h)
    exact ⟨_, rfl, r⟩
  | _, _, j + 1, v, .cons r t, h => by
    obtain ⟨u, h1, h2⟩ := vals_get t (show _ by simpa using h)
    exact ⟨u, by simpa using h1, h2⟩
theorem op_ltX {X : Cx} (hu : X.A.units < cLine) : OpR X (compareOp .Lt) (rLtX X.K) := by
  intro pins s σ H x y v u Q I rx ry h
  obtain ⟨a, b, G, ds, es, vs, ws, rfl, rfl, ha, hb, rd, re, hk, q⟩ := h
  cases rx
  cases ry
  obtain ⟨its, r1, p1, _⟩ := I.tuple ha
  obtain ⟨its2, r2, p2, _⟩ := I.tuple hb
  have e1 : its.toArray.size = ds.length := by rw [List.size_toArray, ← r1.length, rd.len]
  have e2 : its2.toArray.size = es.length := by rw [List.size_toArray, ← r2.length, re.len]
  have key : ∀ j (h1 : j < its.toArray.size) (h2 : j < its2.toArray.size), ∃ d e, ds.getD j .non = d ∧ es.getD j .non = e ∧ kin d e ∧ ∃ v w, Rep X.K G d v ∧ Rep X.K G e w ∧ RelV v its.toArray[j] ∧ RelV w its2.toArray[j] := fun j h1 h2 => by
    have g1 : ds[j]? = some ds[j] := List.getElem?_eq_getElem (by omega)
    have g2 : es[j]? = some es[j] := List.getElem?_eq_getElem (by omega)
    obtain ⟨v, a1, a2⟩ := rd.get g1
    obtain ⟨w, b1, b2⟩ := re.get g2
    obtain ⟨u1, c1, c2⟩ := vals_get r1 a1
    obtain ⟨u2, d1, d2⟩ := vals_get r2 b1
    have f1 : its.toArray[j] = u1 := by have := (List.getElem?_eq_some_iff.mp c1).2; simpa using this
    have f2 : its2.toArray[j] = u2 := by have := (List.getElem?_eq_some_iff.mp d1).2; simpa using this
    refine ⟨ds[j], es[j], by rw [List.getD_eq_getElem?_getD, g1]; rfl, by rw [List.getD_eq_getElem?_getD, g2]; rfl, kins_at hk g1 g2, v, w, a2, b2, by rw [f1]; exact c2, by rw [f2]; exact d2⟩
  have R := Ob.RcOp.tuples_lt (A := X.A) (s := s) (e := fun j => eqD (ds.getD j .non) (es.getD j .non)) (r := fun j => ltX (ds.getD j .non) (es.getD j .non)) p1 p2 hu (fun j h1 h2 => by
    obtain ⟨d, e, z1, z2, hk, v, w, rv, rw_, v1, w1⟩ := key j h1 h2
    rw [z1, z2]
    revert rv rw_
    cases d <;> cases e <;> intro rv rw_ <;> first | exact hk.elim | skip
    · cases (show v = _ from rv); cases (show w = _ from rw_)
      obtain ⟨t, et⟩ := v1
      obtain ⟨t', et'⟩ := w1
      rw [et, et']
      have := SeqAt.EqAt.int_int (A := X.A.in1) (s := s) ‹Int› t ‹Int› t'
      exact SeqAt.EqAt.int_int _ _ _ _
    · cases (show v = _ from rv); cases (show w = _ from rw_)
      obtain ⟨t, et⟩ := v1
      obtain ⟨t', et'⟩ := w1
      rw [et, et']
      show SeqAt.EqAt _ _ _ _ (_ == _)
      rw [← str_eq]
      exact SeqAt.EqAt.str_str _ _ _ _) (fun j h1 h2 _ => by
    obtain ⟨d, e, z1, z2, hk, v, w, rv, rw_, v1, w1⟩ := key j h1 h2
    rw [z1, z2]
    revert rv rw_
    cases d <;> cases e <;> intro rv rw_ <;> first | exact hk.elim | skip
    · cases (show v = _ from rv); cases (show w = _ from rw_)
      obtain ⟨t, et⟩ := v1
      obtain ⟨t', et'⟩ := w1
      rw [et, et']
      exact Ob.RcOp.lt_int _ _ _ _
    · cases (show v = _ from rv); cases (show w = _ from rw_)
      obtain ⟨t, et⟩ := v1
      obtain ⟨t', et'⟩ := w1
      rw [et, et']
      intro prog w E Q h
      refine (lt_str ?_ : wpAny _ _ (compareOp .Lt _ _) Q E s)
      rw [cps_mk, cps_mk]
      exact h)
  rw [e1, e2] at R
  rw [lexAt_X ds es _ 0 (by omega)] at R
  have z : wpAny (model X.prog X.w) X.A (compareOp .Lt (.ref a) (.ref b)) (EP X pins σ Q) X.xe s := R X.prog X.w X.xe (EP X pins σ Q) ⟨.bl _, H, I, rfl, q⟩
  exact z
def cLtX (x y : D) (Q : Bool → Prop) : Prop := match x, y with
  | .tup ds, .tup es => kins ds es ∧ Q (lexX ds es)
  | _, _ => False
theorem cmpc_ltX : CmpC K (rLtX K) cLtX := by
  intro G0 H0 env σ G H x y d e Q R I r1 r2 q k
  cases d with
  | tup ds =>
    cases e with
    | tup es =>
      obtain ⟨a, vs, rfl, h1, h2⟩ := r1
      obtain ⟨b, ws, rfl, h3, h4⟩ := r2
      exact ⟨a, b, G, ds, es, vs, ws, rfl, rfl, SqT.of (I.sub _ _ h1), SqT.of (I.sub _ _ h3), h2, h4, q.1, k _ q.2⟩
    | _ => exact (q : False).elim
  | _ => exact (q : False).elim
theorem q_ltX {k : Nat} (hr : ∀ i, Room k (F.X i).A) (ha : QE F a ta) (hb : QE F b tb) : QE F (.Compare a [.Lt] [b] pos) (dCmp cLtX ta tb) := q_cmp (fun i => by have := op_ltX (X := F.X i) (by have := (hr i).units; omega); rw [F.hK] at this; exact this) cmpc_ltX ha hb (nomark _)
theorem qt_ltX {k : Nat} (hr : ∀ i, Room k (F.X i).A) (ha : QE F a ta) (hb : QE F b tb) : QT F (.Compare a [.Lt] [b] pos) (dCmpT cLtX ta tb) := qt_cmp (fun i => by have := op_ltX (X := F.X i) (by have := (hr i).units; omega); rw [F.hK] at this; exact this) cmpc_ltX ha hb (nomark _)
def dPairs : List (DE × DE) → DEnv → (List (D × D) → DEnv → Prop) → Prop
  | [], env, Q => Q [] env
  | (k, v) :: r, env, Q => k env fun x e1 => v e1 fun y e2 => dPairs r e2 fun ps e3 => Q ((x, y) :: ps) e3
def mergeD : List Key → List D → List (D × D) → (List Key → List D → Prop) → Prop
  | ks, ds, [], Q => Q ks ds
  | ks, ds, (x, y) :: r, Q => ∃ k, keyD x = some k ∧ mergeD (putKs k ks) (putDs k y ks ds) r Q
def dDisp (l : List (DE × DE)) : DE := fun env Q => dPairs l env fun ps env1 => ps.length ≤ 15 ∧ mergeD [] [] ps fun ks ds => Q (.dk ks ds) env1
def RepP (K : PySem.W.Frag) (G : Hp) : List (D × D) → List (V × V) → Prop
  | [], vs => vs = []
  | (x, y) :: r, vs => ∃ u w t, vs = (u, w) :: t ∧ Rep K G x u ∧ Rep K G y w ∧ RepP K G r t
theorem RepP.mono {G G' : Hp} (e : Same G G') : ∀ {ps : List (D × D)} {vs : List (V × V)}, RepP K G ps vs → RepP K G' ps vs
  | [], _, h => h
  | _ :: _, _, ⟨u, w, t, e1, a, b, c⟩ => ⟨u, w, t, e1, Rep.mono e _ _ a, Rep.mono e _ _ b, RepP.mono e c⟩
def SemPs (K : PySem.W.Frag) (tr : List (TE × TE)) (l : List (DE × DE)) : Prop := ∀ (G0 H0 : Hp) (env : DEnv) (σ : L2.St) (G H : Hp) (Q : List (D × D) → DEnv → Prop) (R : List (V × V) → Hp → Prop), ER K G0 H0 env σ G H → dPairs l env Q →
  (∀ vs H' G' env' ps, Same G G' → ER K G0 H0 env' σ G' H' → RepP K G' ps vs → Q ps env' → R vs H') → tPairs tr σ H R
def QPs (F : Fam) (pos : Pos) (keys : List (Option Expr)) (values : List Expr) (l : List (DE × DE)) : Prop := ∃ tr : List (TE × TE), (∀ i, PPs (F.X i) pos keys values tr) ∧ SemPs F.K tr l
theorem qps_nil : QPs F pos [] [] [] := ⟨[], fun _ => pps_nil, fun G0 H0 env σ G H Q R I q k => k [] H G env [] (Same.refl G) I rfl q⟩
theorem qps_cons {ks : List (Option Expr)} {vs : List Expr} {l : List (DE × DE)} (hk : QE F a ta) (hv : QE F b tb) (h : QPs F pos ks vs l) : QPs F pos (some a :: ks) (b :: vs) ((ta, tb) :: l) := by
  obtain ⟨sa, pa, ha⟩ := hk
  obtain ⟨sb, pb, hb⟩ := hv
  obtain ⟨tr, pr, hr⟩ := h
  refine ⟨(sa, sb) :: tr, fun i => pps_cons (pa i) (pb i) (pr i), fun G0 H0 env σ G H Q R I q k => ha G0 H0 env σ G H _ _ I q fun x H1 G1 env1 d s1 I1 r1 q1 => hb G0 H0 env1 σ G1 H1 _ _ I1 q1 fun y H2 G2 env2 e s2 I2 r2 q2 => hr G0 H0 env2 σ G2 H2 _ _ I2 q2 fun vs H3 G3 env3 ps s3 I3 r3 q3 => ?_⟩
  exact k _ H3 G3 env3 ((d, e) :: ps) (s1.trans (s2.trans s3)) I3 ⟨x, y, vs, rfl, (r1.mono s2).mono s3, r2.mono s3, r3⟩ q3
theorem mergeD_rep {G : Hp} : ∀ {ps : List (D × D)} {vs : List (V × V)} {ks : List Key} {ds : List D} {ws : List V} {Q : List Key → List D → Prop}, RepP K G ps vs → Reps K G ds ws → ks.length = ds.length → mergeD ks ds ps Q →
    ∃ (kvs : List (Key × V)) (ks' : List Key) (ds' : List D) (ws' : List V), vs = kvs.map (fun kv => (kV kv.1, kv.2)) ∧ kvs.length = ps.length ∧ mergeK (ks.zip ws) kvs = ks'.zip ws' ∧ ks'.length = ds'.length ∧ Reps K G ds' ws' ∧ Q ks' ds'
  | [], vs, ks, ds, ws, Q, h, r, l, q => by cases h; exact ⟨[], ks, ds, ws, rfl, rfl, rfl, l, r, q⟩
  | (x, y) :: ps, _, ks, ds, ws, Q, ⟨u, w, t, e1, a, b, c⟩, r, l, ⟨k, hk, q⟩ => by
    subst e1
    obtain ⟨kvs, ks', ds', ws', h1, h2, h3, h4, h5, h6⟩ := mergeD_rep c (putD_rep (k := k) b r) (putD_len k y ks ds l) q
    refine ⟨(k, w) :: kvs, ks', ds', ws', by rw [keyD_rep hk a, h1]; rfl, by rw [List.length_cons, List.length_cons, h2], ?_, h4, h5, h6⟩
    rw [← h3, putK_zip k w ks ws (by rw [r.len]; exact l)]
    rfl
theorem qo_disp {keys : List (Option Expr)} {values : List Expr} {l : List (DE × DE)} (h : QPs F pos keys values l) (hall : keys.all (·.isSome) = true := by rfl) (hl : keys.length = values.length := by rfl) (h0 : keys ≠ [] := by exact fun z => nomatch z) (h15 : keys.length ≤ 15 := by decide) :
    QO F (.Dict keys values pos) (dDisp l) := by
  obtain ⟨tr, pr, hs⟩ := h
  refine ⟨tDisp tr, fun i => pe_disp (pr i) hall hl h0 h15, fun G0 H0 env σ G H Q R I q k p hp => ?_⟩
  have w0 := I.freshOwn hp (d := .dk [] []) (o := .dK []) ⟨[], rfl, rfl, rfl⟩
  have I1 := (I.newH (o := .dK []) hp).base w0 upd_same
  refine hs _ _ env σ G _ _ _ I1 q fun vs H1 G1 env1 ps s1 I2 r1 q1 => ?_
  obtain ⟨hz, q1⟩ := q1
  obtain ⟨kvs, ks', ds', ws', h1, h2, h3, h4, h5, h6⟩ := mergeD_rep (ks := []) (ds := []) (ws := []) r1 (show Reps F.K G1 [] [] from (rfl : _ = _)) rfl q1
  obtain ⟨I3, w3⟩ := I2.unbase (I.free hp).2 (d := .dk [] []) ⟨[], rfl, rfl, rfl⟩
  refine ⟨I2.old _ _ upd_same, kvs, h1, by rw [h2]; exact hz, ?_⟩
  rw [show mergeK [] kvs = ks'.zip ws' from h3]
  obtain ⟨I4, w4⟩ := I3.writeV w3 (e := .dk ks' ds') (o := .dK (ks'.zip ws')) ⟨ws', rfl, h4, h5⟩
  exact k _ _ G1 env1 _ s1 I4 w4 h6
end
end DL
namespace DL
open PySem PySem.Spec PyProof.Rows L2
/-- a def that is never called -/
theorem FunD.okN {P : Program} {w : World} {K : PySem.W.Frag} {mg : Str → Option Value} {base : Heap} {x qual : Str} {params : Arguments} {body : List Stmt} {scope : Scope} {dvs : List V} {kws : List (Str × V)} {f : Addr} {fd : FuncData} {N ps : List Str} {k : Nat} {own : Bool} (F : FunD K x qual params body scope dvs kws f fd) (Sc : FnScope N ps scope) :
    FnG P w K mg base CX0 (k + 1) f fd ps (spD K own fun _ _ => False) :=
  FunD.okD F Sc (fun _ _ h => h.elim) (fun _ _ => False) (fun _ _ _ _ _ _ _ => ⟨fun _ _ _ => False, fun _ => ⟨fun _ _ _ _ _ _ h => h.elim⟩, fun _ _ _ _ _ _ _ _ _ q _ => q⟩) (fun _ _ h => h.elim)
end DL

set_option Elab.async false
set_option linter.all false
set_option maxRecDepth 100000
namespace DL
open PySem PySem.Spec PyProof.Rows L2
def keyStep (P : Program) (w : World) (D : Addr) (Nx : Hp → Prop) : VK := fun y H => ∃ (c : Key) (S : Key → Bool) (n : Nat), y = kV c ∧ H D = some (SetK P w D S n) ∧ n + 1 < scanBound ∧ Nx (upd H D (SetK P w D (fun j => S j || decide (j = c)) (if S c = true then n else n + 1)))
def tSk (P : Program) (w : World) (wi : TI) (g : TG) (tt : TT) (te : TE) (vs : List Nat) : TE := fun σ H Q => wi σ H fun J H1 => ∀ D, H1 D = none → ∃ W : Nat → Nat → Hp → Prop, (∃ m, W 0 m (upd H1 D (SetK P w D (fun _ => false) 0))) ∧ ∀ i m H, W i m H →
  (J.stop i H ∧ Q (.ref D) H) ∨ (J.go i H ∧ ∃ Nx : Hp → Prop, (∀ H', Nx H' → ∃ m', m' < m ∧ W (i + 1) m' H') ∧ ∀ x H', J.yld i H x H' → g x (wipe σ vs) H' fun σ2 H2 => wipe σ2 vs = wipe σ vs ∧ tt σ2 H2 fun b H3 =>
    if b = true then te σ2 H3 (keyStep P w D Nx) else Nx H3)
section
variable {X : Cx}
theorem addK_ok {pins : List (Addr × Obj)} {σ : L2.St} {H : Hp} {s : Shared} {E : Value → Shared → Prop} {D : Addr} {S : Key → Bool} {n : Nat} {c : Key} {z : Value} {Q : Value → Shared → Prop} (I : Inv X pins σ H s) (hD : H D = some (SetK X.prog X.w D S n)) (room : n + 1 < scanBound) (r : RelV (kV c) z)
    (h : ∀ s', Inv X pins σ (upd H D (SetK X.prog X.w D (fun j => S j || decide (j = c)) (if S c = true then n else n + 1))) s' → Q .none s') : wpAny (model X.prog X.w) X.A (call (.builtin "set.add") [.ref D, z]) Q E s := by
  refine call_set_add (kV_is r) (key_scan r) (setK_get I hD) room fun h' sb new => ?_
  have he : ∃ u, h'.get? D = some u := by
    have ⟨o, _, _, _, ho, _⟩ := new
    exact ⟨o, ho⟩
  exact h _ (I.write (e := D) (t' := s.toks + 1) (by rw [hD]; trivial) (.inl rfl) (fun b u hb hu => (sb.2 b hb).trans hu) he (setK_new new))
abbrev fresh0 (X : Cx) : Obj := { cls := .type "set", dict := none, data := .set #[] 0 (.fresh 0 0 (!X.w.params.followText "set-order")) }
theorem pe_sk {elt tg iter : Expr} {ifs : List Expr} {scope : Scope} {own : List (PySem.Str × Nat)} {pos : Pos} {wi : TI} {g : TG} {tt : TT} {te : TE} (hc : X.calm = true) (hN : X.N.Nodup) (hi : PI X tg iter wi) (ok : BlkOk X.N X.env.scope scope own)
    (hg : ∀ (s : Shared) (H : Hp) (C : Addr) (cl : List (PySem.Str × Addr)) (fp : List Addr), PG (X.blk s H scope (compEnvC scope cl C X.env) fp) tg g) (ht : ∀ (s : Shared) (H : Hp) (C : Addr) (cl : List (PySem.Str × Addr)) (fp : List Addr), PTs (X.blk s H scope (compEnvC scope cl C X.env) fp) ifs tt)
    (he : ∀ (s : Shared) (H : Hp) (C : Addr) (cl : List (PySem.Str × Addr)) (fp : List Addr), PE (X.blk s H scope (compEnvC scope cl C X.env) fp) elt te) (hs : ∀ x, foldedSetIterable iter X.env x = pure x := by intro _; rfl) :
    PE X (.SetComp elt [⟨tg, iter, ifs, 0⟩] scope pos) (tSk X.prog X.w wi g tt te (own.map (·.2))) := by
  refine ⟨fun pins s σ H Q I h => ?_⟩
  rw [PpSet.eval_SetComp]
  have hfree : ∀ y ∈ scope.names, y.2 = .free → ∃ c, X.env.cells.lookup y.1 = some c := fun y hy e => by
    rcases ok.free y hy e with k | k
    · exact I.ok.has _ (.inl k)
    · exact I.ok.has _ (.inr k)
  refine wpAny_comprehension_free rfl hs (closure_ok hfree) ok.kind (fun y hy e => by rw [ok.uniq y hy, e])
    (thn (hi.run pins s σ H _ I h) fun xv s1 hx => thn hx fun itv s2 h2 => ?_)
  obtain ⟨it, fp, tn, J, H2, e, I2, T, st2, f2, q⟩ := h2
  subst e
  refine PpSet.newSet_ok (newEnv_comp ?_)
  generalize hD : s2.heap.objs.size = D
  obtain ⟨W, ⟨m0, w0⟩, turn⟩ := q D (I2.hok.fresh (Nat.le_of_eq hD))
  generalize hs3 : ({ s2 with heap := s2.heap.push (fresh0 X) } : Shared) = s3
  have h3 : s3.heap = s2.heap.push (fresh0 X) := by rw [← hs3]
  have I3 : Inv X pins σ (upd H2 D (SetK X.prog X.w D (fun _ => false) 0)) s3 := by
    rw [← hs3]
    refine I2.laid (t' := s2.toks) (fun b o e => Heap.get?_push_of_some _ e) (Nat.le_of_eq hD) ?_
    rw [← hD]
    exact setK_new ⟨_, #[], 0, _, Heap.get?_push_size _ rfl, ⟨rfl, rfl, rfl⟩, rfl, (fun e he => by simp at he), (fun k => by simp), (by decide), (by rfl), rfl⟩
  generalize hH3 : upd H2 D (SetK X.prog X.w D (fun _ => false) 0) = H3 at I3 w0
  have f3 : ∀ b ∈ fp, FpOk X pins H3 b ∧ b < s3.heap.objs.size := fun b hb => by
    obtain ⟨o, e, _⟩ := T.obj _ _ st2 b hb
    have hlt := Heap.lt_size e
    refine ⟨⟨?_, (f2 b hb).2⟩, by rw [h3, Heap.size_push]; exact Nat.lt_succ_of_lt hlt⟩
    rw [← hH3, upd_ne (by rw [← hD]; exact Nat.ne_of_lt hlt)]
    exact (f2 b hb).1
  have st3 : tn 0 s3.heap := T.keep _ _ _ st2 fun b _ o e => by rw [h3]; exact Heap.get?_push_of_some _ e
  have I4 := block_start I3 ok hN f3
  have pg := hg s3 H3 s3.heap.objs.size (cellsFrom (s3.heap.objs.size + 1) scope.names (cloFrom X.env.cells scope.names [])) fp
  have pt := ht s3 H3 s3.heap.objs.size (cellsFrom (s3.heap.objs.size + 1) scope.names (cloFrom X.env.cells scope.names [])) fp
  have pe := he s3 H3 s3.heap.objs.size (cellsFrom (s3.heap.objs.size + 1) scope.names (cloFrom X.env.cells scope.names [])) fp
  show codeAny _ _ (.compStart (.SetComp elt [⟨tg, iter, ifs, 0⟩] scope pos) 0 (.ref it) (.ref D) (compEnvC scope (cellsFrom (s3.heap.objs.size + 1) scope.names (cloFrom X.env.cells scope.names [])) s3.heap.objs.size X.env)) (compPost (model X.prog X.w) X.A X.xe none (EP X pins σ Q) (.ref D) s3.heap.objs.size) { s3 with heap := pushCells (s3.heap.push { cls := .type "dict", data := .dict #[] }) scope.names }
  generalize hce : compEnvC scope (cellsFrom (s3.heap.objs.size + 1) scope.names (cloFrom X.env.cells scope.names [])) s3.heap.objs.size X.env = ce at I4 pg pt pe ⊢
  have cL : ce.locals = s3.heap.objs.size := by subst hce; rfl
  generalize hs4 : ({ s3 with heap := pushCells (s3.heap.push { cls := .type "dict", data := .dict #[] }) scope.names } : Shared) = s4 at I4 ⊢
  have st4 : tn 0 s4.heap := T.keep _ _ _ st3 fun b _ o e => by rw [← hs4]; exact pushCells_keeps _ _ _ _ (Heap.get?_push_of_some _ e)
  have stat : ∀ {σ' : L2.St} {H' : Hp} {s' : Shared}, Inv (X.blk s3 H3 scope ce fp) [] σ' H' s' → (∀ b ∈ fp, H' b = none) → ∀ b ∈ fp, FpOk (X.blk s3 H3 scope ce fp) [] H' b := fun {σ' H' s'} I' hn b hb =>
    ⟨hn b hb, (I'.ok.exf b hb).1, I'.ok.exfs b hb, .inl hb, fun x c e => (I'.ok.exf b hb).2 x c e, fun p hp => absurd (show p ∈ ([] : List (Addr × Obj)) ++ [] from hp) (by simp)⟩
  refine PpSet.codeAny_compStart_set ?_ (T.self X.A 0 _ _ _ st4 ?_) <;>
  · refine PpSet.compLoopS_any (fun n s' => ∃ i H', Inv (X.blk s3 H3 scope ce fp) [] (wipe σ (own.map (·.2))) H' s' ∧ tn i s'.heap ∧ (∀ b ∈ fp, H' b = none) ∧ W i n H') ?_ m0 ⟨0, H3, I4, st4, fun b hb => (f3 b hb).1.1, w0⟩
    rintro n s5 ⟨i, H5, I5, st5, n5, w5⟩
    rcases turn i n H5 w5 with ⟨stop, qq⟩ | ⟨go, Nx, hNx, step⟩
    · refine thnF (T.done (X.blk s3 H3 scope ce fp) rfl rfl rfl hc i [] s5 _ H5 (fun _ _ => False) I5 (stat I5 n5) st5 stop) fun r s6 ⟨hr, I6⟩ => ?_
      subst hr
      have I7 : Inv X pins σ H5 s6 := I3.call' (ch := fp) I6.os I6.base I6.hok I6.bare fun b hb => ⟨(f3 b hb).1.2.2.2.1, (f3 b hb).1.2.1, (f3 b hb).1.2.2.2.2.1, (f3 b hb).1.2.2.2.2.2⟩
      have nC : H5 s3.heap.objs.size = none := by
        have z : H5 ce.locals = none := I6.free
        rwa [cL] at z
      obtain ⟨m, hn, _⟩ := I6.loc
      have hn : s6.heap.Ns ce.locals m := hn
      rw [cL] at hn
      obtain ⟨f0, f1, f2', f3', f4, f5⟩ := I3.fpOk (Nat.le_refl _) nC
      refine ⟨m, hn, fun h'' sb => ?_⟩
      exact ⟨.ref D, H5, I7.turned (t' := s6.toks) (fun b o hb e => (sb.2 b hb).trans e) f0 f1 f3' f4 f5, rfl, qq⟩
    · refine thnF (T.item (X.blk s3 H3 scope ce fp) rfl rfl rfl hc i [] s5 _ H5 (fun _ _ => False) I5 (stat I5 n5) st5 go) fun r s6 ⟨u, hr, h6⟩ => ?_
      subst hr
      refine thnF h6 fun _ s7 ⟨x, H7, I7, r7, y7, st7, n7⟩ => ?_
      refine thnF (pg.run _ s7 _ H7 x u _ (I7.pinned (stat I7 n7) (T.obj _ _ st7)) r7 (step x H7 y7)) fun _ s8 ⟨σ8, H8, I8, hw8, q8⟩ => ?_
      refine thnF (pt.run _ s8 σ8 H8 _ I8 q8) fun b s9 ⟨H9, I9, q9⟩ => ?_
      have fin : ∀ {s' : Shared} {H' : Hp}, Inv (X.blk s3 H3 scope ce fp) ([] ++ pinsAt fp s7.heap) σ8 H' s' → Nx H' → ∃ m, m < n ∧ ∃ i H', Inv (X.blk s3 H3 scope ce fp) [] (wipe σ (own.map (·.2))) H' s' ∧ tn i s'.heap ∧ (∀ b ∈ fp, H' b = none) ∧ W i m H' := fun {s' H'} I' nx => by
        obtain ⟨m', hm, w'⟩ := hNx H' nx
        have pin' : ∀ b ∈ fp, ∀ o, s7.heap.get? b = some o → s'.heap.get? b = some o ∧ H' b = none := fun b hb o e =>
          let z := I'.pin (b, o) (List.mem_append_right _ (List.mem_append_right _ (mem_pinsAt hb e)))
          ⟨z.1, z.2.1⟩
        have hl : (wipe σ (own.map (·.2))).length = σ8.length := by rw [← hw8, wipe_length]
        refine ⟨m', hm, i + 1, H', (I'.unpinned (pins := [])).weak hl (fun j v e => ?_), T.keep _ _ _ st7 fun b hb o e => (pin' b hb o e).1, fun b hb => ?_, w'⟩
        · rw [← hw8] at e
          exact (wipe_some e).1
        · obtain ⟨o, e, _⟩ := T.obj _ _ st7 b hb
          exact (pin' b hb o e).2
      cases b with
      | false =>
        simp only [Bool.false_eq_true, if_false] at q9 ⊢
        exact fin I9 q9
      | true =>
        simp only [if_true] at q9 ⊢
        refine thnF (pe.run _ s9 σ8 H9 _ I9 q9) fun z s10 ⟨yv, H10, I10, r10, cb, S0, n0, ey, hD10, hz10, nx⟩ => ?_
        subst ey
        exact addK_ok (X := X.blk s3 H3 scope ce fp) I10 hD10 hz10 r10 fun s11 I11 => fin I11 nx
/-- len of a set of keys -/
def rLenK (P : Program) (w : World) : List V → Hp → VK → Prop := fun xs H Q => ∃ a S n, xs = [.ref a] ∧ H a = some (SetK P w a S n) ∧ n < scanBound ∧ Q (.int n) H
theorem call_lenK : CallR X (.builtin "len") (rLenK X.prog X.w) := by
  intro pins s σ H xs us Q I r h
  obtain ⟨a, S, n, rfl, ha, hb, q⟩ := h
  rw [Vals.ref1 r]
  obtain ⟨o, es, ep, t, ho, hex, hd, _, _, _, hf, hn⟩ := setK_get I ha
  exact call_len_set ho hex hd hf (by rw [hn]; unfold scanBound at hb; omega) ⟨.int n, H, I.tok _, ⟨_, by rw [hn]⟩, q⟩
end

structure OwnX (H0 : Hp) (env : DEnv) (σ : L2.St) (G H : Hp) (p : Addr) (o : HO) : Prop where
  g : G p = none
  h0 : H0 p = none
  at_ : H p = some o
  sep : ∀ (i : Nat) (s : Sl), env[i]? = some s → isOw s = true → σ[i]? ≠ some (some (.ref p))
section
variable {K : PySem.W.Frag} {G0 H0 G G' H H' : Hp} {env env' : DEnv} {σ σ' : L2.St} {p : Addr} {o o' : HO}
theorem OwnX.chg (w : OwnX H0 env σ G H p o) (h : ∀ (i : Nat) (s : Sl), env'[i]? = some s → s = .no ∨ (env[i]? = some s ∧ σ'[i]? = σ[i]?)) : OwnX H0 env' σ' G H p o :=
  ⟨w.g, w.h0, w.at_, fun i s h1 h2 => by
    rcases h i s h1 with rfl | ⟨a, b⟩
    · cases h2
    · rw [b]; exact w.sep i s a h2⟩
theorem OwnX.wipe {vs : List Nat} (w : OwnX H0 env σ G H p o) : OwnX H0 (noS env vs) (L2.wipe σ vs) G H p o := w.chg fun i s h => by
  by_cases hi : i ∈ vs
  · exact .inl (noS_in hi h)
  · rw [noS_out hi] at h; exact .inr ⟨h, wipe_out hi⟩
theorem ER.baseX (I : ER K G0 H0 env σ G H) (w : OwnX H0 env σ G H p o) : ER K (minusA G0 p) (upd H0 p o) env σ G H := by
  have ne : ∀ {i : Nat} {s : Sl} {x : Option V} {r : Addr}, env[i]? = some s → σ[i]? = some x → isOw s = true → x = some (.ref r) → r ≠ p := fun h1 h2 h3 e1 z => by
    subst z
    exact w.sep _ _ h1 h3 (by rw [h2, e1])
  refine ⟨I.sub, fun b x q => ?_, fun b q => ?_, I.len, fun i s x h1 h2 => ?_, I.sep⟩
  · by_cases hb : b = p
    · subst hb; rw [upd_same] at q; cases q; exact w.at_
    · rw [upd_ne hb] at q; exact I.old _ _ q
  · by_cases hb : b = p
    · subst hb; rw [w.g]; simp [minusA]
    · rw [upd_ne hb] at q; rw [I.gold b q]; simp [minusA, hb]
  · have old := I.sl i s x h1 h2
    cases s with
    | no => trivial
    | fz d => exact old
    | ow d =>
      obtain ⟨r, e1, g', h0', own'⟩ := old
      exact ⟨r, e1, g', by rw [upd_ne (ne h1 h2 rfl e1)]; exact h0', own'⟩
    | me r d =>
      obtain ⟨e1, g', h0', own'⟩ := old
      exact ⟨e1, g', by rw [upd_ne (ne h1 h2 rfl e1)]; exact h0', own'⟩
theorem ER.unbaseX (I : ER K (minusA G0 p) (upd H0 p o) env σ G H) (h0 : H0 p = none) : ER K G0 H0 env σ G H ∧ OwnX H0 env σ G H p o := by
  have hne : ∀ {b}, H0 b ≠ none → b ≠ p := fun q z => q (by rw [z]; exact h0)
  have h0' : ∀ {b}, upd H0 p o b = none → b ≠ p := fun q z => by rw [z, upd_same] at q; cases q
  refine ⟨⟨I.sub, fun b x q => ?_, fun b q => ?_, I.len, fun i s x h1 h2 => ?_, I.sep⟩, ?_, h0, I.old _ _ upd_same, fun i s h1 h2 h3 => ?_⟩
  · refine I.old b x ?_
    rw [upd_ne (ne_of_none q h0)]; exact q
  · rw [I.gold b (by rw [upd_ne (hne q)]; exact q)]
    simp [minusA, hne q]
  · have old := I.sl i s x h1 h2
    cases s with
    | no => trivial
    | fz d => exact old
    | ow d =>
      obtain ⟨r, e1, g', h1', own'⟩ := old
      exact ⟨r, e1, g', by rw [upd_ne (h0' h1')] at h1'; exact h1', own'⟩
    | me r d =>
      obtain ⟨e1, g', h1', own'⟩ := old
      exact ⟨e1, g', by rw [upd_ne (h0' h1')] at h1'; exact h1', own'⟩
  · rw [I.gold p (by rw [upd_same]; exact fun z => nomatch z)]
    simp [minusA]
  · have old := I.sl i s _ h1 h3
    cases s with
    | no => cases h2
    | fz d => cases h2
    | ow d =>
      obtain ⟨r, e1, g', h1', own'⟩ := old
      cases e1
      exact h0' h1' rfl
    | me r d =>
      obtain ⟨e1, g', h1', own'⟩ := old
      cases e1
      exact h0' h1' rfl
theorem ER.writeX (I : ER K G0 H0 env σ G H) (w : OwnX H0 env σ G H p o) : ER K G0 H0 env σ G (upd H p o') ∧ OwnX H0 env σ G (upd H p o') p o' := by
  have ne : ∀ {i : Nat} {s : Sl} {x : Option V} {r : Addr}, env[i]? = some s → σ[i]? = some x → isOw s = true → x = some (.ref r) → r ≠ p := fun h1 h2 h3 e1 z => by
    subst z
    exact w.sep _ _ h1 h3 (by rw [h2, e1])
  refine ⟨⟨fun b x z => ?_, fun b x z => ?_, I.gold, I.len, fun i s x h1 h2 => ?_, I.sep⟩, w.g, w.h0, upd_same, w.sep⟩
  · rw [upd_ne (ne_of_none z w.g)]; exact I.sub _ _ z
  · rw [upd_ne (ne_of_none z w.h0)]; exact I.old _ _ z
  · have old := I.sl i s x h1 h2
    cases s with
    | no => trivial
    | fz d => exact old
    | ow d =>
      obtain ⟨r, e1, g', h0', own'⟩ := old
      exact ⟨r, e1, g', h0', own'.mono (Same.refl G) (upd_ne (ne h1 h2 rfl e1))⟩
    | me r d =>
      obtain ⟨e1, g', h0', own'⟩ := old
      exact ⟨e1, g', h0', own'.mono (Same.refl G) (upd_ne (ne h1 h2 rfl e1))⟩
end
/-- how many different ones: the last one that came stands first -/
def nDiff : List (List Nat) → Nat
  | [] => 0
  | x :: xs => if x ∈ xs then nDiff xs else nDiff xs + 1
def keyT (l : List Nat) : Key := Sum.inr (⟨l.toArray⟩ : Str)
def keyL (xs : List (List Nat)) : Key → Bool := fun j => xs.any fun l => decide (j = keyT l)
theorem keyT_inj {l x : List Nat} (e : keyT l = keyT x) : l = x := by
  unfold keyT at e
  injection e with e
  injection e with e
  exact congrArg Array.toList e
theorem keyL_mem {x : List Nat} {xs : List (List Nat)} : keyL xs (keyT x) = true ↔ x ∈ xs := by
  unfold keyL
  rw [List.any_eq_true]
  constructor
  · rintro ⟨l, h, e⟩
    rw [keyT_inj (of_decide_eq_true e)]; exact h
  · exact fun h => ⟨x, h, decide_eq_true rfl⟩
theorem keyL_cons {x : List Nat} {xs : List (List Nat)} : keyL (x :: xs) = fun j => keyL xs j || decide (j = keyT x) := by
  funext j
  unfold keyL
  rw [List.any_cons, Bool.or_comm]
theorem keyL_nil : keyL [] = fun _ => false := rfl
theorem nDiff_cons {x : List Nat} {xs : List (List Nat)} : nDiff (x :: xs) = if keyL xs (keyT x) = true then nDiff xs else nDiff xs + 1 := by
  show (if x ∈ xs then _ else _) = _
  by_cases h : x ∈ xs
  · rw [if_pos h, if_pos (keyL_mem.2 h)]
  · rw [if_neg h, if_neg fun z => h (keyL_mem.1 z)]
theorem nDiff_le : ∀ xs : List (List Nat), nDiff xs ≤ xs.length
  | [] => Nat.le_refl _
  | x :: xs => by
    have := nDiff_le xs
    unfold nDiff
    split <;> simp only [List.length_cons] <;> omega
def strQ (d : D) (Q : List Nat → Prop) : Prop := match d with
  | .str x => Q x
  | _ => False
def dLenSet (ti : DI) (g : DG) (tt : DT) (te : DE) (vs : List Nat) : DE := fun env Q => ti env fun items env1 => ∃ I : Nat → List (List Nat) → DEnv → Prop, I 0 [] (noS env1 vs) ∧
  (∀ k d acc e, items[k]? = some d → I k acc e → g d e fun e2 => tt e2 fun b e3 => br b (te e3 fun z e4 => strQ z fun x => acc.length < 4000 ∧ I (k + 1) (x :: acc) (noS e4 vs)) (I (k + 1) acc (noS e3 vs))) ∧
  ∀ acc e, I items.length acc e → Q (.int (nDiff acc)) (resS env1 e vs)
theorem sem_lenSet {P : Program} {w : World} {K : PySem.W.Frag} {wi : TI} {gg : TG} {t3 : TT} {t4 : TE} {ti : DI} {g : DG} {tt : DT} {te : DE} {vs : List Nat} (hi : SemI K wi ti) (hg : SemGc K vs gg g) (ht : SemT K t3 tt) (he : SemE K t4 te) :
    SemE K (tCB (rLenK P w) (tCons (tSk P w wi gg t3 t4 vs) tNil)) (dLenSet ti g tt te vs) := by
  intro G0 H0 env σ G H Q R I q k
  refine hi G0 H0 env σ G H _ _ I q fun J H1 G1 env1 items s1 I1 ok q1 => ?_
  obtain ⟨W, w0, turn, fin⟩ := q1
  intro D hD
  have start : ER K G0 H0 (noS env1 vs) (wipe σ vs) G1 (upd H1 D (SetK P w D (fun _ => false) 0)) ∧ OwnX H0 (noS env1 vs) (wipe σ vs) G1 (upd H1 D (SetK P w D (fun _ => false) 0)) D (SetK P w D (fun _ => false) 0) :=
    ⟨(I1.newH hD).wipe, OwnX.wipe ⟨(I1.free hD).1, (I1.free hD).2, upd_same, I1.noslot hD⟩⟩
  have lim : ∀ acc : List (List Nat), acc.length ≤ 4000 → nDiff acc < scanBound := fun acc h => by have := nDiff_le acc; unfold scanBound; omega
  refine ⟨fun i m H' => m = items.length - i ∧ i ≤ items.length ∧ ∃ (acc : List (List Nat)) (e : DEnv) (G' : Hp), acc.length ≤ 4000 ∧ Same G1 G' ∧ ER K G0 H0 (noS e vs) (wipe σ vs) G' H' ∧ OwnX H0 (noS e vs) (wipe σ vs) G' H' D (SetK P w D (keyL acc) (nDiff acc)) ∧ W i acc (noS e vs),
    ⟨_, rfl, Nat.zero_le _, [], env1, G1, by decide, Same.refl G1, start.1, by rw [keyL_nil]; exact start.2, w0⟩, ?_⟩
  rintro i m H' ⟨rfl, hi, acc, e, G', la, s2, I2, ow, w2⟩
  by_cases hlt : i < items.length
  · refine .inr ⟨ok.go i G' H' s2 I2.sub hlt, fun H3 => ∃ (acc : List (List Nat)) (e : DEnv) (G3 : Hp), acc.length ≤ 4000 ∧ Same G1 G3 ∧ ER K G0 H0 (noS e vs) (wipe σ vs) G3 H3 ∧ OwnX H0 (noS e vs) (wipe σ vs) G3 H3 D (SetK P w D (keyL acc) (nDiff acc)) ∧ W (i + 1) acc (noS e vs),
      fun H3 h => ⟨items.length - (i + 1), by omega, rfl, hlt, h⟩, fun x H3 y => ?_⟩
    obtain ⟨G3, a1, a2, a3, a4⟩ := ok.yld i G' H' items[i] x H3 s2 I2.sub (List.getElem?_eq_getElem hlt) y
    obtain ⟨I3, s3⟩ := (I2.baseX ow).ext a1 a2 a3
    refine hg _ _ (noS e vs) (wipe σ vs) G3 H3 x items[i] _ _ I3 a4 (turn i items[i] acc (noS e vs) (List.getElem?_eq_getElem hlt) w2) fun env4 σ4 hw I4 q4 => ?_
    rw [wipe_idem] at hw
    refine ⟨hw, ?_⟩
    have fin4 : ∀ {env5 : DEnv} {G5 H5 : Hp}, ER K (minusA G0 D) (upd H0 D (SetK P w D (keyL acc) (nDiff acc))) env5 σ4 G5 H5 → ER K G0 H0 (noS env5 vs) (wipe σ vs) G5 H5 ∧ OwnX H0 (noS env5 vs) (wipe σ vs) G5 H5 D (SetK P w D (keyL acc) (nDiff acc)) := fun {env5 G5 H5} I5 => by
      obtain ⟨b1, b2⟩ := I5.unbaseX ow.h0
      rw [← hw]
      exact ⟨b1.wipe, b2.wipe⟩
    refine ht _ _ env4 σ4 G3 H3 _ _ I4 q4 fun b H5 G5 env5 s5 I5 q5 => ?_
    cases b with
    | false =>
      rw [if_neg Bool.false_ne_true]
      obtain ⟨b1, b2⟩ := fin4 I5
      exact ⟨acc, env5, G5, la, s2.trans (s3.trans s5), b1, b2, br_f q5⟩
    | true =>
      rw [if_pos rfl]
      refine he _ _ env5 σ4 G5 H5 _ _ I5 (br_t q5) fun z H6 G6 env6 d6 s6 I6 r6 q6 => ?_
      cases d6 with
      | str x6 =>
        obtain ⟨hz, q6⟩ := q6
        obtain ⟨b1, b2⟩ := fin4 I6
        obtain ⟨c1, c2⟩ := b1.writeX b2 (o' := SetK P w D (fun j => keyL acc j || decide (j = keyT x6)) (if keyL acc (keyT x6) = true then nDiff acc else nDiff acc + 1))
        refine ⟨keyT x6, keyL acc, nDiff acc, r6, b2.at_, ?_, x6 :: acc, env6, G6, ?_, s2.trans (s3.trans (s5.trans s6)), c1, ?_, q6⟩
        · have := nDiff_le acc; unfold scanBound; omega
        · simp only [List.length_cons]; omega
        · rw [keyL_cons, nDiff_cons]; exact c2
      | _ => exact (q6 : False).elim
  · have e1 : i = items.length := by omega
    subst e1
    refine .inl ⟨ok.stop G' H' s2 I2.sub, ⟨D, keyL acc, nDiff acc, rfl, ow.at_, lim acc la, k _ H' G' _ (.int (nDiff acc)) (s1.trans s2) (I2.unwipe.res I1 s2) rfl (fin acc (noS e vs) w2)⟩⟩
section
variable {F : Fam} {e elt tg iter : Expr} {ifs : List Expr} {scope : Scope} {ti : DI} {g : DG} {tt : DT} {te : DE} {p pos spos : Pos}
theorem q_lenSet {ow : List (Str × Nat)} (hm : ∀ i, (F.X i).mg "len" = none) (hP : ∃ P w, ∀ j, (F.X j).prog = P ∧ (F.X j).w = w) (hc : ∀ j, (F.X j).calm = true) (hN : ∀ j, (F.X j).N.Nodup) (hi : QI F tg iter ti) (ok : ∀ j, BlkOk (F.X j).N (F.X j).env.scope scope ow)
    (hg : QGc (F.blk scope) (ow.map (·.2)) tg g) (ht : QTs (F.blk scope) ifs tt) (he : QE (F.blk scope) elt te) (hgl : ∀ i, Gl (F.X i) "len" := by exact fun _ => rfl) (hs : ∀ j x, foldedSetIterable iter (F.X j).env x = pure x := by intro _ _; rfl)
    (ha : ∀ i, starEach (.SetComp elt [⟨tg, iter, ifs, 0⟩] scope spos :: []) (F.X i).env = (false, eval (.SetComp elt [⟨tg, iter, ifs, 0⟩] scope spos) (F.X i).env) :: starEach [] (F.X i).env := by intro _; rfl) :
    QE F (.Call (.Name "len" p) [.SetComp elt [⟨tg, iter, ifs, 0⟩] scope spos] [] pos) (dLenSet ti g tt te (ow.map (·.2))) := by
  obtain ⟨wi, pw, sw⟩ := hi
  obtain ⟨gg, pg, sg⟩ := hg
  obtain ⟨t3, p3, s3⟩ := ht
  obtain ⟨t4, p4, s4⟩ := he
  obtain ⟨P, w, hP⟩ := hP
  refine ⟨tCB (rLenK P w) (tCons (tSk P w wi gg t3 t4 (ow.map (·.2))) tNil), fun j => ?_, sem_lenSet sw sg s3 s4⟩
  have a := pe_sk (pos := spos) (hc j) (hN j) (pw j) (ok j) (fun s H C cl fp => pg ⟨j, s, H, C, cl, fp⟩) (fun s H C cl fp => p3 ⟨j, s, H, C, cl, fp⟩) (fun s H C cl fp => p4 ⟨j, s, H, C, cl, fp⟩) (hs j)
  have b := pe_callB (X := F.X j) (pos := pos) (p := p) call_lenK (hgl j) (hm j) boot_len (pa1 a (ha j)) (he := ha j)
  rw [(hP j).1, (hP j).2] at b
  exact b
end

def gFldT (K : PySem.W.Frag) (to : TE) (f : Str) : TG := fun v σ H Q => to σ H fun x H1 => ∃ a C dx fs, x = .ref a ∧ H1 a = some (.ins C dx fs) ∧ Cls K C ∧ NoAttr K C f ∧ fs.length < 1000 ∧ Q σ (upd H1 a (.ins C dx (putF f v fs)))
theorem pg_fldT {X : Cx} {o : Expr} {to : TE} {f : Str} {pos : Pos} (ho : PE X o to) : PG X (.Attribute o f pos) (gFldT X.K to f) := by
  refine ⟨fun pins s σ H v u Q I r h => ?_⟩
  rw [arm_assign_Attribute]
  refine wpAny_bind (wpAny_holding (thn (ho.run pins s σ H _ I h) fun ov s1 ⟨x, H1, I1, r1, a, C, dx, fs, ex, ea, c, n, l, q⟩ => ?_))
  subst ex
  obtain rfl : ov = Value.ref a := r1
  refine wpAny_bind (wpAny_standAt (wpAny_bind (wpAny_holding (setattr_ok I1 ea c n l r fun s2 I2 => ?_))))
  exact wpAny_release ⟨σ, _, I2, q⟩
def SemGh (K : PySem.W.Frag) (g : TG) (t : DG) : Prop := ∀ (G0 H0 : Hp) (env : DEnv) (σ : L2.St) (G H : Hp) (v : V) (d : D) (Q : DEnv → Prop) (R : L2.St → Hp → Prop), ER K G0 H0 env σ G H → Rep K G d v → t d env Q →
  (∀ env' σ' H', ER K G0 H0 env' σ' G H' → Q env' → R σ' H') → g v σ H R
def QGh (F : Fam) (tg : Expr) (t : DG) : Prop := ∃ g : TG, (∀ i, PG (F.X i) tg g) ∧ SemGh F.K g t
def SemGhs (K : PySem.W.Frag) (g : TGs) (t : DGs) : Prop := ∀ (G0 H0 : Hp) (env : DEnv) (σ : L2.St) (G H : Hp) (vs : List V) (ds : List D) (Q : DEnv → Prop) (R : L2.St → Hp → Prop), ER K G0 H0 env σ G H → Reps K G ds vs → t ds env Q →
  (∀ env' σ' H', ER K G0 H0 env' σ' G H' → Q env' → R σ' H') → g vs σ H R
def QGhs (F : Fam) (tgs : List Expr) (t : DGs) : Prop := ∃ g : TGs, (∀ i, PGs (F.X i) tgs g) ∧ SemGhs F.K g t
section
variable {F : Fam} {own : Bool} {e : Expr} {es : List Expr} {te : DE} {pos : Pos} {f : Str} {Cs : List Addr}
theorem QG.h {tg : Expr} {t : DG} (h : QG F tg t) : QGh F tg t := by
  obtain ⟨g, p, s⟩ := h
  exact ⟨g, p, fun G0 H0 env σ G H v d Q R I r q k => s G0 H0 env σ G H v d Q R I r q fun env' σ' I' q' => k env' σ' H I' q'⟩
def gFldD (Cs : List Addr) (f : Str) (j : Nat) : DG := fun z env Q => meD (gs env j) fun p d => insD d fun C fs ds => C ∈ Cs ∧ fs.length = ds.length ∧ fs.length < 1000 ∧ Q (ss env j (.me p (.ins C (putN f fs) (putX f z fs ds))))
theorem qgh_fld (j : Nat) {x : Str} {npos : Pos} (hcls : ∀ C ∈ Cs, Cls F.K C ∧ NoAttr F.K C f) (hN : ∀ i, (F.X i).N[j]? = some x := by exact fun _ => rfl) (hv : ∀ i, Vis (F.X i).env.scope x := by first | exact fun _ => Or.inl rfl | exact fun _ => Or.inr (Or.inl rfl) | exact fun _ => Or.inr (Or.inr rfl))
    (hd : (x == ("__debug__" : Str)) = false := by decide) (hcd : (x == ("__classdict__" : Str)) = false := by decide) : QGh F (.Attribute (.Name x npos) f pos) (gFldD Cs f j) := by
  refine ⟨gFldT F.K (tVar j) f, fun i => by have := pg_fldT (pos := pos) (f := f) (pe_var (pos := npos) (hN i) (hv i) hd hcd); rw [F.hK] at this; exact this, fun G0 H0 env σ G H v z Q R I r q k => ?_⟩
  obtain ⟨p0, d, hd1, q1⟩ := meD_get q
  cases d with
  | ins C fs ds =>
    obtain ⟨hC, hl, hl2, q1⟩ := q1
    obtain ⟨c1, c2⟩ := hcls C hC
    have l2 : j < σ.length := by rw [← I.len]; exact (List.getElem?_eq_some_iff.mp hd1).1
    obtain ⟨e1, e0, e4, o0, e2, dx, vs, rfl, _, h3⟩ := I.sl j _ _ hd1 (List.getElem?_eq_getElem l2)
    have c' : Cont F.K G (.ins C (putN f fs) (putX f z fs ds)) (.ins C dx ((putN f fs).zip (putX f v fs vs))) := ⟨dx, _, rfl, put_len fs ds hl, put_rep r h3 hl⟩
    obtain ⟨f1, f2, I2⟩ := I.writeM hd1 c'
    refine ⟨.ref p0, f1, p0, C, dx, fs.zip vs, rfl, e2, c1, c2, by rw [List.length_zip]; omega, ?_⟩
    rw [← put_zip fs vs (by rw [h3.len]; exact hl)]
    have q1 : Q (ss env j (.me p0 (.ins C (putN f fs) (putX f z fs ds)))) := q1
    rw [ss_set] at q1
    exact k _ _ _ I2 q1
  | _ => exact (q1 : False).elim
theorem qghs_nil : QGhs F [] gsN := ⟨gNil, fun _ => pgs_nil, fun G0 H0 env σ G H vs ds Q R I r q k => by
  cases ds with
  | nil => cases r; exact ⟨rfl, k _ _ _ I q⟩
  | cons _ _ => exact (q : False).elim⟩
theorem qghs_cons {t : DG} {u : DGs} (h : QGh F e t) (h2 : QGhs F es u) (hs : ∀ i, (assignEach (e :: es) (F.X i).env).map (·.2) = assign e (F.X i).env :: (assignEach es (F.X i).env).map (·.2) := by intro _; rfl) : QGhs F (e :: es) (gsC t u) := by
  obtain ⟨g, p, s⟩ := h
  obtain ⟨g2, p2, s2⟩ := h2
  refine ⟨gCons g g2, fun i => pgs_cons (p i) (p2 i) (hs i), fun G0 H0 env σ G H vs ds Q R I r q k => ?_⟩
  cases ds with
  | nil => exact (q : False).elim
  | cons d ds =>
    obtain ⟨v, w, rfl, r1, r2⟩ := r
    exact ⟨v, w, rfl, s G0 H0 env σ G H v d _ _ I r1 q fun env' σ' H' I1 q1 => s2 G0 H0 env' σ' G H' w ds Q R I1 r2 q1 k⟩
theorem qgh_tup {k : Nat} {t : DGs} {n : Nat} (hc : ∀ i, (F.X i).calm = true) (h : QGhs F es t) (hn : ∀ i, (assignEach es (F.X i).env).length = n := by intro _; rfl) (hst : ∀ i, (assignEach es (F.X i).env).findIdx? (·.1) = none := by intro _; rfl) : QGh F (.Tuple es k pos) (gTp n t) := by
  obtain ⟨g, p, s⟩ := h
  refine ⟨gTup F.K n g, fun i => by have := pg_tup (pos := pos) (k := k) (hc i) (p i) (hn i) (hst i); rw [F.hK] at this; exact this, fun G0 H0 env σ G H v d Q R I r q k => ?_⟩
  cases d with
  | tup ds =>
    obtain ⟨a, vs, e1, h1, r1⟩ := r
    exact ⟨a, vs, e1, SqT.of (I.sub _ _ h1), by rw [r1.len]; exact q.1, s G0 H0 env σ G H vs ds Q R I r1 q.2 k⟩
  | _ => exact (q : False).elim
theorem qs_asgH {tg : Expr} {g : DG} (h : QE F e te) (hg : QGh F tg g) (hs : ∀ i, swapsWithSole [tg] e pos.line (F.X i).env = pure false := by intro _; rfl) (hw : ∀ i, swappedStores [tg] e (F.X i).env = pure none := by intro _; rfl)
    (h1 : ∀ i, (assignEach [tg] (F.X i).env).map (·.2) = [assign tg (F.X i).env] := by intro _; rfl) : QS F own (.Assign [tg] e pos) (dAsg te g) := by
  obtain ⟨ts, p, s⟩ := h
  obtain ⟨gg, pg, sg⟩ := hg
  exact ⟨tAsg ts gg, fun i => ps_asg (p i) (pg i) (hs i) (hw i) (h1 i), fun G0 H0 env σ G H D E I q k => s G0 H0 env σ G H _ _ I q fun v H' G' env' d s1 I1 r q1 =>
    sg G0 H0 env' σ G' H' v d _ _ I1 r q1 fun env2 σ2 H2 I2 q2 => k.nx env2 σ2 G' H2 s1 I2 q2⟩
end

section
variable {X : Cx} {CX : CXT} {k : Nat} {f C : Addr} {fd : FuncData} {ps : List Str} {sp : Sp} {dvs : List V} {ds : List Value} {E : XK} {m : Str} {pos apos : Pos} {e o : Expr} {es : List Expr} {ta : TE} {t : TA}
theorem run_methG {pins : List (Addr × Obj)} {σ : L2.St} {H : Hp} {s : Shared} {Q : VK} {us : List Value} {vs : List V} (F : FnG X.prog X.w X.K X.mg X.base CX k f fd ps sp) (hr : RoomG k X.A) (hb : Binds X.K fd ps ds) (hd : Vals dvs ds) (hx : Passes CX X E)
    (I : Inv X pins σ H s) (r : Vals vs us) (h : sp (vs ++ dvs) H Q E) : wpAny (model X.prog X.w) X.A (call (.ref f) us) (EP X pins σ Q) X.xe s := by
  have r2 : Vals (vs ++ dvs) (us ++ ds) := r.append hd
  refine wpAny_call (codeAny_mono (F.call hr hx I (hb s us I.kIn (by rw [← r2.length]; exact F.len _ _ _ _ h)) r2 h) fun r s' hq => ?_)
  cases r with
  | error e => exact hq
  | ok fl => cases fl <;> first | exact hq | exact False.elim hq
theorem pe_methG {pl : Sem Bool} (he : PE X o ta) (c : Cls X.K C) (hm : Meth X.K C m f) (F : FnG X.prog X.w X.K X.mg X.base CX k f fd ps sp) (hr : RoomG k X.A) (hb : Binds X.K fd ps ds) (hd : Vals dvs ds) (hx : Passes CX X E) (ha : PA X (e :: es) t)
    (hst : starEach (e :: es) X.env = (false, eval e X.env) :: starEach es X.env := by rfl) (hpl : (backTo pos (starEach es X.env)).any (·.1) = false := by rfl)
    (ht : eval (.Call (.Attribute o m apos) (e :: es) [] pos) X.env = (do
      let ov ← eval o X.env
      standAt apos.atName
      let (f, first) ← holding [ov] (getMethod ov m pl)
      callWith pos f first (backTo pos (starEach (e :: es) X.env)) (backToKw pos (keywordEach [] X.env))) := by rfl) :
    PE X (.Call (.Attribute o m apos) (e :: es) [] pos) (tMeth C m sp dvs E ta t) := by
  refine ⟨fun pins s σ H Q I h => ?_⟩
  refine PySem.W.methodCall_KW (pl := pl) (thn (he.run pins s σ H _ I h) fun u s1 ⟨x, H1, I1, rx, a, dx, fs, ex, ea, l, q⟩ => ?_) ht
  subst ex
  obtain rfl : u = Value.ref a := rx
  refine getmeth_ok I1 ea c hm l (PySem.W.callWith_K (first := [.ref a]) (h₀ := X.base) I.ok.mod.kin hm.kp (thn (ha.run pos pins s1 σ H1 _ I1 q) fun us s2 ⟨vs, H2, I2, r, q2⟩ => ⟨I2.kIn, ?_⟩) hst hpl)
  exact run_methG (us := .ref a :: us) (vs := .ref a :: vs) F hr hb hd hx I2 (.cons rfl r) q2
theorem pe_meth0G {pl : Sem Bool} (he : PE X o ta) (c : Cls X.K C) (hm : Meth X.K C m f) (F : FnG X.prog X.w X.K X.mg X.base CX k f fd ps sp) (hr : RoomG k X.A) (hb : Binds X.K fd ps ds) (hd : Vals dvs ds) (hx : Passes CX X E)
    (ht : eval (.Call (.Attribute o m apos) [] [] pos) X.env = (do
      let ov ← eval o X.env
      standAt apos.atName
      let (f, first) ← holding [ov] (getMethod ov m pl)
      callWith pos f first (backTo pos (starEach [] X.env)) (backToKw pos (keywordEach [] X.env))) := by rfl) :
    PE X (.Call (.Attribute o m apos) [] [] pos) (tMeth C m sp dvs E ta tNil) := by
  refine ⟨fun pins s σ H Q I h => ?_⟩
  refine PySem.W.methodCall_KW (pl := pl) (thn (he.run pins s σ H _ I h) fun u s1 ⟨x, H1, I1, rx, a, dx, fs, ex, ea, l, q⟩ => ?_) ht
  subst ex
  obtain rfl : u = Value.ref a := rx
  exact getmeth_ok I1 ea c hm l (PySem.W.callWith_K0 (first := [.ref a]) I1.kIn hm.kp (run_methG (us := [.ref a]) (vs := [.ref a]) F hr hb hd hx I1 (.cons rfl .nil) q))
end
section
variable {F : Fam} {k : Nat} {f C : Addr} {fd : FuncData} {ps : List Str} {S : DSp} {m : Str} {pos apos : Pos} {o e : Expr} {es : List Expr} {to : DE} {tA : DA}
def dMeth (C : Addr) (m : Str) (S : DSp) (to : DE) (tA : DA) : DE := fun env Q => to env fun d env1 => insD d fun C' fs _ => C' = C ∧ m ∉ fs ∧ tA env1 fun ds env2 => S (d :: ds) fun z => Q z env2
theorem lk_not {α : Type} : ∀ {fs : List Str} {vs : List α}, m ∉ fs → (fs.zip vs).lookup m = none
  | [], _, _ => rfl
  | _ :: _, [], _ => rfl
  | g :: fs, v :: vs, h => by
    have h1 : (m == g) = false := by
      rw [beq_eq_false_iff_ne]
      exact fun z => h (by rw [z]; exact List.mem_cons_self)
    rw [List.zip_cons_cons, List.lookup_cons, h1]
    exact lk_not fun z => h (List.mem_cons_of_mem _ z)
theorem sem_meth {K : PySem.W.Frag} {t : TE} {ta : TA} (h : SemE K t to) (h2 : SemA K ta tA) : SemE K (tMeth C m (spD K false S) [] E0 t ta) (dMeth C m S to tA) := fun G0 H0 env σ G H Q R I q kk =>
  h G0 H0 env σ G H _ _ I q fun v H1 G1 env1 d s1 I1 r1 q1 => by
    cases d with
    | ins C' fs ds0 =>
      obtain ⟨rfl, hm, q1⟩ := q1
      have r1' := r1
      obtain ⟨a, dx, vs0, rfl, h1, _, _⟩ := r1'
      refine ⟨a, dx, _, rfl, I1.sub _ _ h1, lk_not hm, h2 G0 H0 env1 σ G1 H1 _ _ I1 q1 fun vs H2 G2 env2 ds s2 I2 r2 q2 => ?_⟩
      refine ⟨G2, .ins C' fs ds0 :: ds, _, I2.sub, ⟨_, _, rfl, r1.mono s2, by rw [List.append_nil]; exact r2⟩, q2, fun v H' G' d a b c r q3 => ?_⟩
      obtain ⟨I3, s3⟩ := I2.ext a b c
      exact kk v H' G' env2 d ((s1.trans s2).trans s3) I3 r q3
    | _ => exact (q1 : False).elim
theorem q_meth (c : Cls F.K C) (M : Meth F.K C m f) (G : ∀ i, FnG (F.X i).prog (F.X i).w (F.X i).K (F.X i).mg (F.X i).base CX0 k f fd ps (spD F.K false S)) (hr : ∀ i, RoomG k (F.X i).A) (hb : Binds F.K fd ps [])
    (ho : QE F o to) (ha : QA F (e :: es) tA) (hst : ∀ i, starEach (e :: es) (F.X i).env = (false, eval e (F.X i).env) :: starEach es (F.X i).env := by intro _; rfl) (hpl : ∀ i, (backTo pos (starEach es (F.X i).env)).any (·.1) = false := by intro _; rfl)
    (ht : ∀ i, ∃ pl : Sem Bool, eval (.Call (.Attribute o m apos) (e :: es) [] pos) (F.X i).env = (do
      let ov ← eval o (F.X i).env
      standAt apos.atName
      let (f, first) ← holding [ov] (getMethod ov m pl)
      callWith pos f first (backTo pos (starEach (e :: es) (F.X i).env)) (backToKw pos (keywordEach [] (F.X i).env))) := by intro _; exact ⟨_, rfl⟩) :
    QE F (.Call (.Attribute o m apos) (e :: es) [] pos) (dMeth C m S to tA) := by
  obtain ⟨t, po, s⟩ := ho
  obtain ⟨ts, pa, s2⟩ := ha
  exact ⟨_, fun i => by
    obtain ⟨pl, ht⟩ := ht i
    exact pe_methG (pl := pl) (po i) (by rw [F.hK]; exact c) (by rw [F.hK]; exact M) (G i) (hr i) (by rw [F.hK]; exact hb) .nil pass0 (pa i) (hst i) (hpl i) ht, sem_meth s s2⟩
theorem q_meth0 (c : Cls F.K C) (M : Meth F.K C m f) (G : ∀ i, FnG (F.X i).prog (F.X i).w (F.X i).K (F.X i).mg (F.X i).base CX0 k f fd ps (spD F.K false S)) (hr : ∀ i, RoomG k (F.X i).A) (hb : Binds F.K fd ps [])
    (ho : QE F o to) (ht : ∀ i, ∃ pl : Sem Bool, eval (.Call (.Attribute o m apos) [] [] pos) (F.X i).env = (do
      let ov ← eval o (F.X i).env
      standAt apos.atName
      let (f, first) ← holding [ov] (getMethod ov m pl)
      callWith pos f first (backTo pos (starEach [] (F.X i).env)) (backToKw pos (keywordEach [] (F.X i).env))) := by intro _; exact ⟨_, rfl⟩) :
    QE F (.Call (.Attribute o m apos) [] [] pos) (dMeth C m S to dNil) := by
  obtain ⟨t, po, s⟩ := ho
  exact ⟨tMeth C m (spD F.K false S) [] E0 t tNil, fun i => by
    obtain ⟨pl, ht⟩ := ht i
    exact pe_meth0G (pl := pl) (po i) (by rw [F.hK]; exact c) (by rw [F.hK]; exact M) (G i) (hr i) (by rw [F.hK]; exact hb) .nil pass0 ht, sem_meth s (fun G0 H0 env σ G H Q R I q k => k [] H G env [] (Same.refl G) I rfl q)⟩
end
theorem hc_sub {A B : List Addr} {P : Addr → Prop} (h : ∀ C ∈ A, P C) (s : ∀ C ∈ B, C ∈ A) : ∀ C ∈ B, P C := fun C z => h C (s C z)
/-- len of a dict of texts and numbers -/
def cLenK (d : D) (Q : D → Prop) : Prop := match d with
  | .dk ks ds => ks.length = ds.length ∧ Q (.int ks.length)
  | _ => False
section
variable {F : Fam} {e : Expr} {t : DE} {p pos : Pos}
theorem calp_lenK {K : PySem.W.Frag} : CalP K (fun xs H Q => ∃ a kvs, xs = [V.ref a] ∧ H a = some (.dK kvs) ∧ Q (.int kvs.length) H) cLenK := by
  intro G0 H0 env σ G H x d Q R I r q k
  cases d with
  | dk ks ds =>
    obtain ⟨hl, q⟩ := q
    have fin : ∀ {vs : List V}, Reps K G ds vs → R (.int (ks.zip vs).length) H := fun {vs} r => by
      have e : (ks.zip vs).length = ks.length := by rw [List.length_zip, r.len]; omega
      rw [e]
      exact k _ H G (.int ks.length) (Same.refl G) I rfl q
    rcases r with ⟨a, vs, rfl, h1, _, h3⟩ | ⟨a, rfl, o, h1, vs, rfl, _, h3⟩
    · exact ⟨a, _, rfl, I.sub _ _ h1, fin h3⟩
    · exact ⟨a, _, rfl, h1, fin h3⟩
  | _ => exact (q : False).elim
theorem q_lenK (hm : ∀ i, (F.X i).mg "len" = none) (h : QP F e t) (hg : ∀ i, Gl (F.X i) "len" := by exact fun _ => rfl) (hs : ∀ i, starEach (e :: []) (F.X i).env = (false, eval e (F.X i).env) :: starEach [] (F.X i).env := by intro _; rfl) : QE F (.Call (.Name "len" p) [e] [] pos) (dCal cLenK t) :=
  q_callB (fun i => call_lenD) calp_lenK hg hm boot_len h (hs := hs)
end
end DL

set_option linter.all false
namespace Lb
open PySem
theorem below8 {n : Nat} (h : n < 8) : Float64.rootBelow8 n * Float64.rootBelow8 n ≤ n ∧ n < (Float64.rootBelow8 n + 1) * (Float64.rootBelow8 n + 1) := by
  have : ∀ n : Nat, n < 8 → Float64.rootBelow8 n * Float64.rootBelow8 n ≤ n ∧ n < (Float64.rootBelow8 n + 1) * (Float64.rootBelow8 n + 1) := by decide
  exact this n h
theorem sq_lt {a b : Nat} (h : a * a < b * b) : a < b := Nat.lt_of_not_le fun z => absurd (Nat.mul_le_mul z z) (by omega)
theorem newton {n k r : Nat} (hk : 1 ≤ k) (hn : 8 ≤ n) (hkn : 4 ^ k * 4 ^ k ≤ 2 * n) (h1 : r * r ≤ n / 4 ^ k) (h2 : n / 4 ^ k < (r + 1) * (r + 1)) :
    ∀ x y s, x = (r + 1) * 2 ^ k → y = (x + n / x) / 2 → s = (if y * y > n then y - 1 else y) → s * s ≤ n ∧ n < (s + 1) * (s + 1) := by
  intro x y s hx hy hs
  have p2 : 0 < 2 ^ k := Nat.two_pow_pos k
  have e4 : 4 ^ k = 2 ^ k * 2 ^ k := by rw [show (4 : Nat) = 2 * 2 from rfl, Nat.mul_pow]
  have p4 : 0 < 4 ^ k := by rw [e4]; exact Nat.mul_pos p2 p2
  generalize hP : 2 ^ k = P at *
  -- x is above the root
  have hlt : n < (n / 4 ^ k + 1) * 4 ^ k := by
    have := Nat.lt_div_mul_add (a := n) p4
    rw [Nat.succ_mul]; omega
  have hxx : x * x = (r + 1) * (r + 1) * 4 ^ k := by rw [hx, e4]; ac_rfl
  have hxn : n < x * x := by
    rw [hxx]
    exact Nat.lt_of_lt_of_le hlt (Nat.mul_le_mul_right _ h2)
  have hx0 : 0 < x := by
    rcases Nat.eq_zero_or_pos x with z | z
    · rw [z] at hxn; omega
    · exact z
  have hqx : n / x * x ≤ n := Nat.div_mul_le_self n x
  have hqx2 : n < (n / x + 1) * x := by
    have := Nat.lt_div_mul_add (a := n) hx0
    rw [Nat.succ_mul]; omega
  generalize hq : n / x = q at *
  have hqlt : q < x := by
    rcases Nat.lt_or_ge q x with z | z
    · exact z
    · have := Nat.mul_le_mul_right x z
      omega
  -- below
  have low : n < (y + 1) * (y + 1) := by
    have a1 : x + (q + 1) ≤ 2 * (y + 1) := by omega
    have a2 := Nat.mul_le_mul a1 a1
    have a3 : 4 * ((q + 1) * x) ≤ (x + (q + 1)) * (x + (q + 1)) := by
      obtain ⟨d, hd⟩ : ∃ d, x = q + 1 + d := ⟨x - (q + 1), by omega⟩
      rw [hd]
      have : (q + 1 + d + (q + 1)) * (q + 1 + d + (q + 1)) = 4 * ((q + 1) * (q + 1 + d)) + d * d := by grind
      omega
    have a4 : 2 * (y + 1) * (2 * (y + 1)) = 4 * ((y + 1) * (y + 1)) := by grind
    omega
  by_cases hc : y * y > n
  · rw [if_pos hc] at hs
    subst hs
    have y0 : 0 < y := by
      rcases Nat.eq_zero_or_pos y with z | z
      · rw [z] at hc; omega
      · exact z
    refine ⟨?_, by rw [Nat.sub_add_cancel y0]; exact hc⟩
    refine Nat.le_of_not_lt fun hbad => ?_
    obtain ⟨t, ht⟩ : ∃ t, y = t + 1 := ⟨y - 1, by omega⟩
    subst ht
    rw [Nat.add_sub_cancel] at hbad
    have b1 : 2 * t + 2 ≤ x + q := by omega
    have b2 : t + 1 ≤ x := by omega
    -- x is near
    have b3 : r * P < t := by
      refine sq_lt ?_
      have : r * P * (r * P) = r * r * 4 ^ k := by rw [e4]; ac_rfl
      rw [this]
      have := Nat.mul_le_mul_right (4 ^ k) h1
      have := Nat.div_mul_le_self n (4 ^ k)
      omega
    have b4 : x + 1 ≤ t + P := by rw [hx, Nat.add_mul]; omega
    obtain ⟨d, hd⟩ : ∃ d, x = t + 1 + d := ⟨x - (t + 1), by omega⟩
    have b5 : d + 2 ≤ P := by omega
    -- d * d is large
    have b6 : (2 * t + 2) * x ≤ x * x + n := by
      have := Nat.mul_le_mul_right x b1
      rw [Nat.add_mul x q x] at this
      omega
    have b7 : 2 * t + 2 ≤ d * d := by
      rw [hd] at b6
      have e1 : (2 * t + 2) * (t + 1 + d) = 2 * ((t + 1) * (t + 1)) + 2 * ((t + 1) * d) := by grind
      have e2 : (t + 1 + d) * (t + 1 + d) = (t + 1) * (t + 1) + 2 * ((t + 1) * d) + d * d := by grind
      have e3 : (t + 1) * (t + 1) = t * t + 2 * t + 1 := by grind
      omega
    have b8 : d * d < 4 ^ k := by
      rw [e4]
      have := Nat.mul_le_mul (show d + 1 ≤ P by omega) (show d + 1 ≤ P by omega)
      have e3 : (d + 1) * (d + 1) = d * d + 2 * d + 1 := by grind
      omega
    have b9 : 4 ^ k < 2 * t := by
      refine sq_lt ?_
      have : 2 * t * (2 * t) = 4 * (t * t) := by grind
      omega
    omega
  · rw [if_neg hc] at hs
    subst hs
    exact ⟨by omega, low⟩
theorem root_ok : ∀ (l n : Nat), n.log2 ≤ l → Float64.rootByHalves l n * Float64.rootByHalves l n ≤ n ∧ n < (Float64.rootByHalves l n + 1) * (Float64.rootByHalves l n + 1)
  | 0, n, h => by
    unfold Float64.rootByHalves
    refine below8 ?_
    by_cases z : n = 0
    · omega
    · have := (Nat.log2_lt z).mp (show n.log2 < 1 by omega)
      omega
  | l + 1, n, h => by
    unfold Float64.rootByHalves
    by_cases h8 : n < 8
    · rw [if_pos h8]; exact below8 h8
    · rw [if_neg h8]
      have z : n ≠ 0 := by omega
      have hl : 3 ≤ n.log2 := (Nat.le_log2 z).mpr (by omega)
      have hk : 1 ≤ (n.log2 + 1) / 4 := by omega
      have hself : 2 ^ n.log2 ≤ n := Nat.log2_self_le z
      generalize hkk : (n.log2 + 1) / 4 = k at hk
      have hkn : 4 ^ k * 4 ^ k ≤ 2 * n := by
        have e : 4 ^ k * 4 ^ k = 2 ^ (4 * k) := by
          rw [show (4 : Nat) = 2 ^ 2 from rfl, ← Nat.pow_mul, ← Nat.pow_add]
          congr 1
          omega
        have e2 : 2 * 2 ^ n.log2 = 2 ^ (n.log2 + 1) := by rw [Nat.pow_succ]; omega
        have := Nat.pow_le_pow_right (show 0 < 2 by decide) (show 4 * k ≤ n.log2 + 1 by omega)
        omega
      have hm : (n / 4 ^ k).log2 ≤ l := by
        by_cases z2 : n / 4 ^ k = 0
        · rw [z2, Nat.log2_zero]; exact Nat.zero_le _
        · have h4 : 2 ≤ 4 ^ k := by
            have := Nat.pow_le_pow_right (show 0 < 4 by decide) hk
            omega
          have hb : n / 4 ^ k ≤ n / 2 := Nat.div_le_div_left h4 (by decide)
          have hn2 : n < 2 ^ (n.log2 + 1) := Nat.lt_log2_self
          have : n / 4 ^ k < 2 ^ (l + 1) := by
            have := Nat.pow_le_pow_right (show 0 < 2 by decide) (show n.log2 + 1 ≤ l + 2 by omega)
            have e2 : 2 ^ (l + 2) = 2 * 2 ^ (l + 1) := by rw [Nat.pow_succ]; omega
            omega
          have := (Nat.log2_lt z2).mpr this
          omega
      obtain ⟨i1, i2⟩ := root_ok l _ hm
      exact newton hk (by omega) hkn i1 i2 _ _ _ rfl rfl rfl
theorem isqrt_ok (n : Nat) : Float64.isqrt n * Float64.isqrt n ≤ n ∧ n < (Float64.isqrt n + 1) * (Float64.isqrt n + 1) := root_ok _ _ (Nat.le_refl _)
end Lb

set_option Elab.async false
set_option linter.all false
set_option maxRecDepth 100000
namespace DL
open PySem PySem.Spec PySem.Calls PyProof.Rows L2
def rRoot : List V → Hp → VK → Prop := fun vs H Q => ∃ a : Int, vs = [.int a] ∧ 0 ≤ a ∧ a.toNat.log2 ≤ 13000 ∧ Q (.int ((Float64.isqrt a.toNat : Nat) : Int)) H
theorem cr_root {X : Cx} : CallR X (.builtin "math.isqrt") rRoot := by
  intro pins s σ H vs us Q I r h
  obtain ⟨a, rfl, h0, h1, q⟩ := h
  obtain ⟨u, rfl, ru⟩ := vals1 r
  obtain ⟨t, rfl⟩ := ru
  exact call_function_meets PySem.W.MGF.kind_isqrt PySem.W.MGF.plain_isqrt PySem.W.MGF.entry_isqrt (PySem.W.MGF.args_isqrt _) (PySem.W.mg_run_isqrt a t (by omega) (by omega) (by omega)).meets ⟨.int _, H, I.tok _, ⟨_, rfl⟩, q⟩
def cRoot (d : D) (Q : D → Prop) : Prop := match d with
  | .int i => 0 ≤ i ∧ i.toNat.log2 ≤ 13000 ∧ ∀ s : Nat, s * s ≤ i.toNat → i.toNat < (s + 1) * (s + 1) → Q (.int s)
  | _ => False
section
variable {F : Fam} {e : Expr} {t : DE} {p pos : Pos} {x : Str}
theorem q_isqrt (hm : ∀ i, (F.X i).mg x = some (.builtin "math.isqrt")) (h : QE F e t) (hg : ∀ i, Gl (F.X i) x := by exact fun _ => rfl) (hd : (x == ("__debug__" : Str)) = false := by decide) (hs : ∀ i, starEach (e :: []) (F.X i).env = (false, eval e (F.X i).env) :: starEach [] (F.X i).env := by intro _; rfl) (hpl : ∀ i, (backTo pos (starEach [] (F.X i).env)).any (·.1) = false := by intro _; rfl) :
    QE F (.Call (.Name x p) [e] [] pos) (dCal cRoot t) := by
  obtain ⟨ts, pe, s⟩ := h
  refine ⟨tCB rRoot (tCons ts tNil), fun i => pe_callBfun cr_root (hg i) (hm i) (pa1 (pe i) (hs i)) hd (hs i) (hpl i), fun G0 H0 env σ G H Q R I q k => s G0 H0 env σ G H _ _ I q fun v H1 G1 env1 d s1 I1 r1 q1 => ?_⟩
  cases d with
  | int i =>
    obtain ⟨h0, h1, q1⟩ := q1
    obtain ⟨a1, a2⟩ := Lb.isqrt_ok i.toNat
    exact ⟨i, by rw [rep_int r1], h0, h1, k _ H1 G1 env1 (.int (Float64.isqrt i.toNat : Nat)) s1 I1 rfl (q1 _ a1 a2)⟩
  | _ => exact (q1 : False).elim
end
end DL
namespace He
open PySem PySem.Spec PySem.Calls PyProof.Rows L2
abbrev BtL : Type := List (Str × String)
def btOk (bs : BtL) (K : PySem.W.Frag) : Bool := bs.all fun b => eqO (PySem.W.nsIn K mainGlobals b.1) (some (some (.builtin b.2)))
def obsB (n : Nat) (fa : List Fa) (fn : List DefD) (bs : BtL) (g : Addr → Option Obj) : AlD × Bool := (obsD fa fn (frG g (asD g n)), btOk bs (frG g (asD g n)))
def hookB (n : Nat) (fa : List Fa) (fn : List DefD) (bs : BtL) : PySem.W.Hook where
  α := AlD × Bool
  obs := fun s => obsB n fa fn bs s.heap.get?
  val := fun _ => (valD fn, true)
  says := fun _ h => ∃ K : PySem.W.Frag, K.In h ∧ SaysD fa fn K ∧ btOk bs K = true
  of := fun _ _ e => ⟨_, frG_in, congrArg Prod.fst e, congrArg Prod.snd e⟩
  keeps := fun _ _ _ ⟨K, hK, c⟩ k => ⟨K, PySem.W.Frag.In.keeps hK k, c⟩
theorem obsB_eq {n : Nat} {fa : List Fa} {fn : List DefD} {bs : BtL} {g : Addr → Option Obj} {s : Shared} (h : ∀ a, g a = s.heap.get? a) : obsB n fa fn bs g = (hookB n fa fn bs).obs s := by
  have e : g = s.heap.get? := funext h
  rw [e] <;> rfl
theorem bt_ok {K : PySem.W.Frag} {h : Heap} {mg : Str → Option Value} {bs : BtL} {x : Str} {id : String} (X : K.In h) (G : h.Ns mainGlobals mg) (c : btOk bs K = true) (i : Nat) (hi : bs[i]? = some (x, id) := by rfl) : mg x = some (.builtin id) :=
  PySem.W.mg_of X G (eqO_ok (List.all_eq_true.mp c _ (List.mem_of_getElem? hi)))
end He

set_option linter.all false
namespace Lb
open DL
theorem nodup_sub {α : Type} [DecidableEq α] : ∀ {l m : List α}, l.Nodup → (∀ x ∈ l, x ∈ m) → l.length ≤ m.length
  | [], _, _, _ => Nat.zero_le _
  | x :: l, m, h, hs => by
    rw [List.nodup_cons] at h
    have hx := hs x (List.mem_cons_self ..)
    have h2 : ∀ y ∈ l, y ∈ m.erase x := fun y hy => by
      rw [List.mem_erase_of_ne (fun e => h.1 (by rw [← e]; exact hy))]
      exact hs y (List.mem_cons_of_mem _ hy)
    have := nodup_sub h.2 h2
    rw [List.length_erase_of_mem hx] at this
    have : 0 < m.length := List.length_pos_of_mem hx
    rw [List.length_cons]
    omega
theorem pair_lt_nodup : ∀ {l : List Nat}, l.Pairwise (· < ·) → l.Nodup := fun h => h.imp fun h => Nat.ne_of_lt h
def LET : List Nat := [48, 49, 50, 51, 52, 53, 54, 55, 56, 57, 97, 98, 99, 100, 101, 102, 103, 104, 105, 106, 107, 108, 109, 110, 111, 112, 113, 114, 115, 116, 117, 118, 119, 120, 121, 122]
structure IsAlpha (A : List Nat) : Prop where
  pos : 1 ≤ A.length
  six : A.length ≤ 6
  let_ : ∀ c ∈ A, c ∈ LET
  asc : A.Pairwise (· < ·)
def TextOf (A t : List Nat) : Prop := ∀ c ∈ t, c ∈ A
theorem TextOf.app {A t u : List Nat} (h : TextOf A t) (h' : TextOf A u) : TextOf A (t ++ u) := fun c hc => (List.mem_append.mp hc).elim (h c) (h' c)
theorem TextOf.take {A t : List Nat} (n : Nat) (h : TextOf A t) : TextOf A (t.take n) := fun c hc => h c (List.mem_of_mem_take hc)
theorem TextOf.drop {A t : List Nat} (n : Nat) (h : TextOf A t) : TextOf A (t.drop n) := fun c hc => h c (List.mem_of_mem_drop hc)
theorem TextOf.nil {A : List Nat} : TextOf A [] := fun c hc => by cases hc
theorem TextOf.one {A : List Nat} {c : Nat} (h : c ∈ A) : TextOf A [c] := fun d hd => by rw [List.mem_singleton.mp hd]; exact h
theorem TextOf.rev {A t : List Nat} (h : TextOf A t) : TextOf A t.reverse := fun c hc => h c (List.mem_reverse.mp hc)
theorem TextOf.flat {A : List Nat} {ts : List (List Nat)} (h : ∀ t ∈ ts, TextOf A t) : TextOf A ts.flatten := fun c hc => by
  obtain ⟨t, ht, hc⟩ := List.mem_flatten.mp hc
  exact h t ht c hc
theorem TextOf.rep {A t : List Nat} (n : Nat) (h : TextOf A t) : TextOf A (List.replicate n t).flatten := .flat fun u hu => by rw [(List.mem_replicate.mp hu).2]; exact h
abbrev Row := Nat × Nat
def lzStep (st : List Row × Nat) (c : Nat) : List Row × Nat := if (st.2, c) ∈ st.1 then (st.1, st.1.idxOf (st.2, c) + 1) else (st.1 ++ [(st.2, c)], 0)
def lz (t : List Nat) : List Row × Nat := t.foldl lzStep ([], 0)
theorem lz_snoc (t : List Nat) (c : Nat) : lz (t ++ [c]) = lzStep (lz t) c := by unfold lz; rw [List.foldl_append]; rfl
structure Good (rows : List Row) : Prop where
  par : ∀ (i : Nat) (r : Row), rows[i]? = some r → r.1 ≤ i
  nd : rows.Nodup
structure GoodA (A : List Nat) (rows : List Row) : Prop extends Good rows where
  ltr : ∀ r ∈ rows, r.2 ∈ A
def pcs (rows : List Row) : List (List Nat) := rows.foldl (fun ts r => ts ++ [ts.getD r.1 [] ++ [r.2]]) [[]]
theorem pcs_snoc (rows : List Row) (r : Row) : pcs (rows ++ [r]) = pcs rows ++ [(pcs rows).getD r.1 [] ++ [r.2]] := by unfold pcs; rw [List.foldl_append]; rfl
theorem snoc_ind {α : Type} {P : List α → Prop} (h0 : P []) (hs : ∀ l x, P l → P (l ++ [x])) : ∀ l, P l := fun l => by
  have : ∀ l : List α, P l.reverse := fun l => by
    induction l with
    | nil => exact h0
    | cons x l ih => rw [List.reverse_cons]; exact hs _ _ ih
  have := this l.reverse
  rwa [List.reverse_reverse] at this
theorem pcs_len (rows : List Row) : (pcs rows).length = rows.length + 1 := by
  induction rows using snoc_ind with
  | h0 => rfl
  | hs l x ih => rw [pcs_snoc, List.length_append, List.length_append, ih]; rfl
theorem Good.init {rows : List Row} {r : Row} (h : Good (rows ++ [r])) : Good rows :=
  ⟨fun i s hs => h.par i s (by rw [List.getElem?_append_left (List.getElem?_eq_some_iff.mp hs).1]; exact hs), (List.nodup_append.mp h.nd).1⟩
theorem Good.last {rows : List Row} {r : Row} (h : Good (rows ++ [r])) : r.1 ≤ rows.length ∧ r ∉ rows :=
  ⟨h.par rows.length r (by simp), fun hr => (List.nodup_append.mp h.nd).2.2 r hr r (List.mem_singleton.mpr rfl) rfl⟩
theorem Good.snoc {rows : List Row} {r : Row} (h : Good rows) (h1 : r.1 ≤ rows.length) (h2 : r ∉ rows) : Good (rows ++ [r]) := by
  refine ⟨fun i s hs => ?_, ?_⟩
  · by_cases hi : i < rows.length
    · rw [List.getElem?_append_left hi] at hs
      exact h.par i s hs
    · rw [List.getElem?_append_right (by omega)] at hs
      have : i - rows.length = 0 := by
        rcases Nat.eq_zero_or_pos (i - rows.length) with z | z
        · exact z
        · rw [List.getElem?_eq_none (by simp; omega)] at hs; cases hs
      rw [this] at hs
      cases hs
      omega
  · rw [List.nodup_append]
    refine ⟨h.nd, List.nodup_cons.mpr ⟨List.not_mem_nil, List.nodup_nil⟩, fun a ha b hb e => ?_⟩
    rw [List.mem_singleton.mp hb] at e
    exact h2 (e ▸ ha)
theorem Good.take {rows : List Row} (h : Good rows) (n : Nat) : Good (rows.take n) :=
  ⟨fun i s hs => h.par i s (by rw [List.getElem?_take] at hs; split at hs <;> first | exact hs | cases hs), h.nd.sublist (List.take_sublist ..)⟩
theorem Good.nil : Good [] := ⟨fun i r h => by simp at h, List.nodup_nil⟩
theorem pcs_zero (rows : List Row) : (pcs rows)[0]? = some [] := by
  induction rows using snoc_ind with
  | h0 => rfl
  | hs l x ih => rw [pcs_snoc, List.getElem?_append_left (by rw [pcs_len]; omega), ih]
theorem pcs_succ {rows : List Row} (g : Good rows) {i : Nat} {r : Row} (h : rows[i]? = some r) : ∃ p, (pcs rows)[r.1]? = some p ∧ (pcs rows)[i + 1]? = some (p ++ [r.2]) := by
  induction rows using snoc_ind generalizing i r with
  | h0 => simp at h
  | hs l x ih =>
    have hl := pcs_len l
    rw [pcs_snoc]
    by_cases hi : i < l.length
    · rw [List.getElem?_append_left hi] at h
      obtain ⟨p, h1, h2⟩ := ih g.init h
      have := g.init.par i r h
      exact ⟨p, by rw [List.getElem?_append_left (by omega)]; exact h1, by rw [List.getElem?_append_left (by omega)]; exact h2⟩
    · rw [List.getElem?_append_right (by omega)] at h
      have : i - l.length = 0 := by
        rcases Nat.eq_zero_or_pos (i - l.length) with z | z
        · exact z
        · rw [List.getElem?_eq_none (by simp; omega)] at h; cases h
      rw [this] at h
      cases h
      have hx := g.last.1
      refine ⟨(pcs l).getD x.1 [], ?_, ?_⟩
      · rw [List.getElem?_append_left (by omega), List.getD_eq_getElem?_getD, List.getElem?_eq_getElem (by omega)]; rfl
      · rw [List.getElem?_append_right (by omega), show i + 1 - (pcs l).length = 0 by omega]; rfl
theorem pcs_nodup {rows : List Row} (g : Good rows) : (pcs rows).Nodup := by
  induction rows using snoc_ind with
  | h0 => exact List.nodup_cons.mpr ⟨List.not_mem_nil, List.nodup_nil⟩
  | hs l x ih =>
    have nd := ih g.init
    have hl := pcs_len l
    have hx := g.last
    rw [pcs_snoc, List.nodup_append]
    refine ⟨nd, List.nodup_cons.mpr ⟨List.not_mem_nil, List.nodup_nil⟩, fun a ha b hb e => ?_⟩
    rw [List.mem_singleton.mp hb] at e
    subst e
    obtain ⟨j, hj⟩ := List.mem_iff_getElem?.mp ha
    cases j with
    | zero => rw [pcs_zero] at hj; simp at hj
    | succ i =>
      have hi : i < l.length := by
        have := (List.getElem?_eq_some_iff.mp hj).1
        omega
      obtain ⟨p, h1, h2⟩ := pcs_succ g.init (List.getElem?_eq_getElem hi)
      rw [h2] at hj
      have e := Option.some.inj hj
      obtain ⟨e1, e2⟩ := List.append_inj' e rfl
      have e3 : l[i].2 = x.2 := by simpa using e2
      rw [List.getD_eq_getElem?_getD] at e1
      have hx1 : (pcs l)[x.1]? = some p := by
        rw [List.getElem?_eq_getElem (by omega)] at e1 ⊢
        rw [e1]; rfl
      have e4 : l[i].1 = x.1 := by
        have hlt := (List.getElem?_eq_some_iff.mp h1).1
        exact (List.getElem?_inj hlt nd).mp (h1.trans hx1.symm)
      exact hx.2 (by
        have : l[i] = x := Prod.ext e4 e3
        rw [← this]; exact List.getElem_mem hi)
/-- a piece with a letter more is a piece exactly if its row is there -/
theorem pcs_find {rows : List Row} (g : Good rows) {p c : Nat} (hp : p ≤ rows.length) {t : List Nat} (ht : (pcs rows)[p]? = some t) (j : Nat) : (pcs rows)[j]? = some (t ++ [c]) ↔ ∃ i, j = i + 1 ∧ rows[i]? = some (p, c) := by
  have nd := pcs_nodup g
  have hl := pcs_len rows
  constructor
  · intro h
    cases j with
    | zero => rw [pcs_zero] at h; simp at h
    | succ i =>
      have hi : i < rows.length := by
        have := (List.getElem?_eq_some_iff.mp h).1
        omega
      obtain ⟨u, h1, h2⟩ := pcs_succ g (List.getElem?_eq_getElem hi)
      rw [h2] at h
      obtain ⟨e1, e2⟩ := List.append_inj' (Option.some.inj h) rfl
      subst e1
      have e4 : rows[i].1 = p := by
        have hlt := (List.getElem?_eq_some_iff.mp h1).1
        exact (List.getElem?_inj hlt nd).mp (h1.trans ht.symm)
      refine ⟨i, rfl, ?_⟩
      rw [List.getElem?_eq_getElem hi]
      exact congrArg some (Prod.ext e4 (by simpa using e2))
  · rintro ⟨i, rfl, hi⟩
    obtain ⟨u, h1, h2⟩ := pcs_succ g hi
    have : u = t := Option.some.inj (h1.symm.trans ht)
    rw [h2, this]
structure LzOk (A t : List Nat) (st : List Row × Nat) : Prop where
  good : GoodA A st.1
  tail : st.2 ≤ st.1.length
  txt : (pcs st.1).flatten ++ (pcs st.1).getD st.2 [] = t
theorem GoodA.snoc {A : List Nat} {rows : List Row} {r : Row} (h : GoodA A rows) (h1 : r.1 ≤ rows.length) (h2 : r ∉ rows) (h3 : r.2 ∈ A) : GoodA A (rows ++ [r]) :=
  ⟨h.toGood.snoc h1 h2, fun s hs => (List.mem_append.mp hs).elim (h.ltr s) fun hs => by rw [List.mem_singleton.mp hs]; exact h3⟩
theorem getD_of {α : Type} {l : List α} {i : Nat} {x d : α} (h : l[i]? = some x) : l.getD i d = x := by rw [List.getD_eq_getElem?_getD, h]; rfl
theorem lz_ok {A t : List Nat} (h : TextOf A t) : LzOk A t (lz t) := by
  induction t using snoc_ind with
  | h0 => exact ⟨⟨Good.nil, fun r h => by cases h⟩, Nat.le_refl _, rfl⟩
  | hs t c ih =>
    have I := ih fun d hd => h d (List.mem_append_left _ hd)
    have hc : c ∈ A := h c (by simp)
    rw [lz_snoc]
    generalize lz t = st at I
    obtain ⟨rows, p⟩ := st
    have hl := pcs_len rows
    have htl : p ≤ rows.length := I.tail
    obtain ⟨u, hu⟩ : ∃ u, (pcs rows)[p]? = some u := ⟨_, List.getElem?_eq_getElem (by omega)⟩
    have itx : (pcs rows).flatten ++ (pcs rows).getD p [] = t := I.txt
    rw [getD_of hu] at itx
    unfold lzStep
    by_cases hm : (p, c) ∈ rows
    · rw [if_pos hm]
      have hlt : rows.idxOf (p, c) < rows.length := List.idxOf_lt_length_of_mem hm
      have hg : rows[rows.idxOf (p, c)]? = some (p, c) := by rw [List.getElem?_eq_getElem hlt]; exact congrArg some (List.getElem_idxOf hlt)
      refine ⟨I.good, hlt, ?_⟩
      have := (pcs_find I.good.toGood htl hu (rows.idxOf (p, c) + 1) (c := c)).mpr ⟨_, rfl, hg⟩
      show (pcs rows).flatten ++ (pcs rows).getD (rows.idxOf (p, c) + 1) [] = _
      rw [getD_of this, ← itx, List.append_assoc]
    · rw [if_neg hm]
      refine ⟨I.good.snoc htl hm hc, Nat.zero_le _, ?_⟩
      show (pcs (rows ++ [(p, c)])).flatten ++ (pcs (rows ++ [(p, c)])).getD 0 [] = _
      rw [getD_of (pcs_zero _), List.append_nil, pcs_snoc, List.flatten_append, getD_of hu, ← itx]
      simp
theorem lz_inj {t u : List Nat} (h : lz t = lz u) : t = u := by
  have a := (lz_ok (A := t) (fun _ h => h)).txt
  have b := (lz_ok (A := u) (fun _ h => h)).txt
  rw [h] at a
  exact a.symm.trans b
theorem lz_rows_le (t : List Nat) : (lz t).1.length ≤ t.length := by
  induction t using snoc_ind with
  | h0 => exact Nat.le_refl _
  | hs t c ih =>
    rw [lz_snoc]
    unfold lzStep
    split <;> simp <;> omega
theorem pcs_sum {t : List Nat} : ((pcs (lz t).1).map List.length).sum ≤ t.length := by
  have a := congrArg List.length (lz_ok (A := t) (fun _ h => h)).txt
  rw [List.length_append, List.length_flatten] at a
  omega
def ext (A : List Nat) (w : List Nat) : List (List Nat) := A.map fun c => w ++ [c]
def lvlW (A : List Nat) : Nat → List (List Nat)
  | 0 => [[]]
  | n + 1 => (lvlW A n).flatMap (ext A)
def cup (A : List Nat) : Nat → List Nat
  | 0 => []
  | n + 1 => cup A n ++ (lvlW A (n + 1)).flatten
def cntT (A : List Nat) (many : Nat) : List Nat := (cup A many).take many
theorem lvl_len {A : List Nat} : ∀ (n : Nat) {w : List Nat}, w ∈ lvlW A n → w.length = n
  | 0, w, h => by rw [lvlW, List.mem_singleton] at h; rw [h]; rfl
  | n + 1, w, h => by
    rw [lvlW, List.mem_flatMap] at h
    obtain ⟨u, hu, hw⟩ := h
    obtain ⟨c, _, rfl⟩ := List.mem_map.mp hw
    rw [List.length_append, lvl_len n hu]; rfl
theorem lvl_txt {A : List Nat} : ∀ (n : Nat) {w : List Nat}, w ∈ lvlW A n → TextOf A w
  | 0, w, h => by rw [lvlW, List.mem_singleton] at h; rw [h]; exact TextOf.nil
  | n + 1, w, h => by
    rw [lvlW, List.mem_flatMap] at h
    obtain ⟨u, hu, hw⟩ := h
    obtain ⟨c, hc, rfl⟩ := List.mem_map.mp hw
    exact (lvl_txt n hu).app (TextOf.one hc)
theorem lvl_pos {A : List Nat} (h : 1 ≤ A.length) : ∀ n, 1 ≤ (lvlW A n).length
  | 0 => Nat.le_refl _
  | n + 1 => by
    have ih := lvl_pos h n
    rw [lvlW]
    cases hl : lvlW A n with
    | nil => rw [hl] at ih; simp at ih
    | cons w ws => rw [List.flatMap_cons, List.length_append, ext, List.length_map]; omega
theorem cup_txt {A : List Nat} : ∀ n, TextOf A (cup A n)
  | 0 => TextOf.nil
  | n + 1 => (cup_txt n).app (TextOf.flat fun t h => lvl_txt _ h)
theorem cup_ge {A : List Nat} (h : 1 ≤ A.length) : ∀ n, n ≤ (cup A n).length
  | 0 => Nat.le_refl _
  | n + 1 => by
    have ih := cup_ge h n
    have h2 := lvl_pos h (n + 1)
    rw [cup, List.length_append]
    cases hl : lvlW A (n + 1) with
    | nil => rw [hl] at h2; simp at h2
    | cons w ws =>
      have := lvl_len (n + 1) (A := A) (w := w) (by rw [hl]; exact List.mem_cons_self ..)
      rw [List.flatten_cons, List.length_append, this]
      omega
theorem cup_pre {A : List Nat} {m n : Nat} (h : m ≤ n) : cup A m <+: cup A n := by
  induction n with
  | zero => rw [show m = 0 by omega]; exact List.prefix_refl _
  | succ n ih =>
    by_cases e : m = n + 1
    · rw [e]; exact List.prefix_refl _
    · exact (ih (by omega)).trans (List.prefix_append _ _)
theorem pre_take {u v : List Nat} {m : Nat} (h : u <+: v) (hm : m ≤ u.length) : u.take m = v.take m := by
  obtain ⟨t, rfl⟩ := h
  rw [List.take_append_of_le_length hm]
theorem cup_take {A : List Nat} (h : 1 ≤ A.length) {k m : Nat} {u : List Nat} (hu : u <+: cup A k) (hm : m ≤ u.length) : u.take m = cntT A m := by
  unfold cntT
  rw [pre_take hu hm]
  have hk : m ≤ (cup A k).length := by obtain ⟨t, ht⟩ := hu; rw [← ht, List.length_append]; omega
  rcases Nat.le_total k m with z | z
  · exact pre_take (cup_pre z) hk
  · exact (pre_take (cup_pre z) (cup_ge h m)).symm
theorem cntT_len {A : List Nat} (h : 1 ≤ A.length) (m : Nat) : (cntT A m).length = m := by
  unfold cntT
  rw [List.length_take]
  have := cup_ge h m
  omega
theorem cntT_txt {A : List Nat} (m : Nat) : TextOf A (cntT A m) := (cup_txt m).take m
theorem flatMap_take_pre {A : List Nat} {l : List (List Nat)} (j : Nat) : (l.take j).flatMap (ext A) <+: l.flatMap (ext A) := by
  have : l.flatMap (ext A) = (l.take j).flatMap (ext A) ++ (l.drop j).flatMap (ext A) := by rw [← List.flatMap_append, List.take_append_drop]
  rw [this]
  exact List.prefix_append _ _
theorem flatten_pre {l m : List (List Nat)} (h : l <+: m) : l.flatten <+: m.flatten := by
  obtain ⟨t, rfl⟩ := h
  rw [List.flatten_append]
  exact List.prefix_append _ _
theorem flat_len {l : List (List Nat)} {k : Nat} (h : ∀ w ∈ l, w.length = k) : l.flatten.length = l.length * k := by
  induction l with
  | nil => simp
  | cons w l ih => rw [List.flatten_cons, List.length_append, h w (List.mem_cons_self ..), ih fun v hv => h v (List.mem_cons_of_mem _ hv), List.length_cons, Nat.add_mul]; omega
def bitsN : Nat → Nat → List Nat
  | 0, _ => []
  | w + 1, n => (48 + n / 2 ^ w % 2) :: bitsN w n
def lev (n : Nat) : Nat → List (List Nat)
  | 0 => []
  | k + 1 => lev n k ++ [[48 + n / 2 ^ k % 2]]
theorem lev_len (n : Nat) : ∀ k, (lev n k).length = k
  | 0 => rfl
  | k + 1 => by simp [lev, lev_len n k]
theorem lev_sum (n : Nat) : ∀ k, ((lev n k).map List.length).sum = k
  | 0 => rfl
  | k + 1 => by simp [lev, lev_sum n k]
theorem lev_rev (n : Nat) : ∀ k, (lev n k).reverse.flatten = bitsN k n
  | 0 => rfl
  | k + 1 => by simp [lev, bitsN, lev_rev n k]
theorem bitsN_len (n : Nat) : ∀ w, (bitsN w n).length = w
  | 0 => rfl
  | w + 1 => by simp [bitsN, bitsN_len n w]
theorem bits_ltm : ∀ (w a b : Nat), a % 2 ^ w < b % 2 ^ w → bitsN w a < bitsN w b
  | 0, a, b, h => by simp [Nat.mod_one] at h
  | w + 1, a, b, h => by
    have ea : a % 2 ^ (w + 1) = a % 2 ^ w + 2 ^ w * (a / 2 ^ w % 2) := by rw [Nat.pow_succ, Nat.mod_mul]
    have eb : b % 2 ^ (w + 1) = b % 2 ^ w + 2 ^ w * (b / 2 ^ w % 2) := by rw [Nat.pow_succ, Nat.mod_mul]
    have pa : a % 2 ^ w < 2 ^ w := Nat.mod_lt _ (Nat.two_pow_pos w)
    have pb : b % 2 ^ w < 2 ^ w := Nat.mod_lt _ (Nat.two_pow_pos w)
    show ((48 + a / 2 ^ w % 2) :: bitsN w a) < ((48 + b / 2 ^ w % 2) :: bitsN w b)
    rw [List.cons_lt_cons_iff]
    have ta : a / 2 ^ w % 2 < 2 := Nat.mod_lt _ (by decide)
    have tb : b / 2 ^ w % 2 < 2 := Nat.mod_lt _ (by decide)
    generalize a / 2 ^ w % 2 = x at *
    generalize b / 2 ^ w % 2 = y at *
    by_cases hx : x < y
    · exact .inl (by omega)
    · by_cases he : x = y
      · subst he
        exact .inr ⟨rfl, bits_ltm w a b (by omega)⟩
      · have h1 : x = 1 := by omega
        have h2 : y = 0 := by omega
        subst h1 h2
        omega
theorem bits_lt {w a b : Nat} (h : a < b) (hb : b < 2 ^ w) : bitsN w a < bitsN w b := bits_ltm w a b (by rw [Nat.mod_eq_of_lt hb, Nat.mod_eq_of_lt (by omega)]; exact h)
/-- the number in so many options -/
def nb (a n : Nat) : List Nat := bitsN (W n) a
theorem nb_len (a n : Nat) : (nb a n).length = W n := bitsN_len _ _
theorem nb_lt {a b n : Nat} (h : a < b) (hb : b < n) : nb a n < nb b n := bits_lt h (Nat.lt_of_lt_of_le hb (W_self (by omega)))
def posn (A : List Nat) (r : Row) : Nat := r.1 * A.length + A.idxOf r.2
def rlt (r s : Row) : Bool := decide (r.1 < s.1) || (decide (r.1 = s.1) && decide (r.2 < s.2))
def place (A : List Nat) (rows : List Row) (r : Row) : Nat := posn A r - (rows.filter fun s => rlt s r).length
def opt (s c : Nat) : Nat := (c + 1) * s - c + 1
theorem filter_split (P : List Nat) {x y : Nat} (h : x ≤ y) : (P.filter (fun z => decide (z < y))).length = (P.filter (fun z => decide (z < x))).length + (P.filter (fun z => decide (x ≤ z) && decide (z < y))).length := by
  induction P with
  | nil => rfl
  | cons z P ih =>
    simp only [List.filter_cons]
    by_cases h1 : z < x
    · have h2 : z < y := by omega
      have h3 : ¬ x ≤ z := by omega
      simp [h1, h2, h3] at ih ⊢
      omega
    · have h3 : x ≤ z := by omega
      by_cases h2 : z < y
      · simp [h1, h2, h3] at ih ⊢
        omega
      · simp [h1, h2, h3] at ih ⊢
        omega
def cnt (P : List Nat) (x : Nat) : Nat := (P.filter (fun z => decide (z < x))).length
theorem cnt_lt {P : List Nat} (nd : P.Nodup) {x y : Nat} (hx : x ∉ P) (h : x < y) : cnt P y + 1 ≤ cnt P x + (y - x) := by
  unfold cnt
  rw [filter_split P (Nat.le_of_lt h)]
  have : (P.filter (fun z => decide (x ≤ z) && decide (z < y))).length ≤ (List.range' (x + 1) (y - x - 1)).length := by
    refine nodup_sub (nd.sublist List.filter_sublist) fun z hz => ?_
    rw [List.mem_filter] at hz
    simp only [Bool.and_eq_true, decide_eq_true_eq] at hz
    rw [List.mem_range']
    have : z ≠ x := fun e => hx (by rw [← e]; exact hz.1)
    exact ⟨z - (x + 1), by omega, by omega⟩
  rw [List.length_range'] at this
  omega
theorem cnt_le {P : List Nat} (nd : P.Nodup) (x : Nat) : cnt P x ≤ x := by
  have : cnt P x ≤ (List.range x).length := nodup_sub (nd.sublist List.filter_sublist) fun z hz => by
    rw [List.mem_filter] at hz
    simpa using hz.2
  simpa using this
theorem idx_lt {A : List Nat} {c : Nat} (h : c ∈ A) : A.idxOf c < A.length := List.idxOf_lt_length_of_mem h
theorem idx_inj {A : List Nat} {c d : Nat} (h : c ∈ A) (h' : d ∈ A) (e : A.idxOf c = A.idxOf d) : c = d := by
  have a := List.getElem_idxOf (idx_lt h)
  have b := List.getElem_idxOf (idx_lt h')
  rw [← a, ← b]
  congr 1
theorem idx_asc {A : List Nat} (asc : A.Pairwise (· < ·)) {c d : Nat} (h : c ∈ A) (h' : d ∈ A) : A.idxOf c < A.idxOf d ↔ c < d := by
  have a := List.getElem_idxOf (idx_lt h)
  have b := List.getElem_idxOf (idx_lt h')
  rw [List.pairwise_iff_getElem] at asc
  have key : ∀ {c d : Nat} (h : c ∈ A) (h' : d ∈ A), A.idxOf c < A.idxOf d → c < d := fun {c d} h h' z => by
    have := asc _ _ (idx_lt h) (idx_lt h') z
    rwa [List.getElem_idxOf, List.getElem_idxOf] at this
  constructor
  · exact key h h'
  · intro z
    rcases Nat.lt_trichotomy (A.idxOf c) (A.idxOf d) with q | q | q
    · exact q
    · have := idx_inj h h' q; omega
    · have := key h' h q; omega
theorem posn_lt {A : List Nat} (asc : A.Pairwise (· < ·)) {r s : Row} (hr : r.2 ∈ A) (hs : s.2 ∈ A) : posn A r < posn A s ↔ rlt r s = true := by
  have h1 := idx_lt hr
  have h2 := idx_lt hs
  have h3 := idx_asc asc hr hs
  unfold posn rlt
  rw [Bool.or_eq_true, Bool.and_eq_true, decide_eq_true_eq, decide_eq_true_eq, decide_eq_true_eq]
  constructor
  · intro h
    rcases Nat.lt_trichotomy r.1 s.1 with z | z | z
    · exact .inl z
    · rw [z] at h
      exact .inr ⟨z, h3.mp (by omega)⟩
    · have := Nat.mul_le_mul_right A.length (show s.1 + 1 ≤ r.1 by omega)
      rw [Nat.add_mul] at this
      omega
  · rintro (z | ⟨z, q⟩)
    · have := Nat.mul_le_mul_right A.length (show r.1 + 1 ≤ s.1 by omega)
      rw [Nat.add_mul] at this
      omega
    · have := h3.mpr q
      rw [z]
      omega
theorem posn_inj {A : List Nat} (asc : A.Pairwise (· < ·)) {r s : Row} (hr : r.2 ∈ A) (hs : s.2 ∈ A) (e : posn A r = posn A s) : r = s := by
  have a : ¬ rlt r s = true := fun z => by have := (posn_lt asc hr hs).mpr z; omega
  have b : ¬ rlt s r = true := fun z => by have := (posn_lt asc hs hr).mpr z; omega
  unfold rlt at a b
  simp only [Bool.or_eq_true, Bool.and_eq_true, decide_eq_true_eq, not_or, not_and] at a b
  have e1 : r.1 = s.1 := by omega
  exact Prod.ext e1 (by have := a.2 e1; have := b.2 e1.symm; omega)
theorem posn_nodup {A : List Nat} (asc : A.Pairwise (· < ·)) : ∀ {rows : List Row}, rows.Nodup → (∀ r ∈ rows, r.2 ∈ A) → (rows.map (posn A)).Nodup
  | [], _, _ => List.nodup_nil
  | r :: rows, nd, h => by
    rw [List.nodup_cons] at nd
    rw [List.map_cons, List.nodup_cons]
    refine ⟨fun hm => ?_, posn_nodup asc nd.2 fun s hs => h s (List.mem_cons_of_mem _ hs)⟩
    obtain ⟨s, hs, e⟩ := List.mem_map.mp hm
    have := posn_inj asc (h s (List.mem_cons_of_mem _ hs)) (h r (List.mem_cons_self ..)) e
    exact nd.1 (by rw [← this]; exact hs)
theorem place_eq {A : List Nat} (asc : A.Pairwise (· < ·)) {r : Row} (hr : r.2 ∈ A) : ∀ {rows : List Row}, (∀ s ∈ rows, s.2 ∈ A) → (rows.filter fun s => rlt s r).length = cnt (rows.map (posn A)) (posn A r)
  | [], _ => rfl
  | s :: rows, h => by
    have ih := place_eq asc hr (rows := rows) fun s hs => h s (List.mem_cons_of_mem _ hs)
    have := posn_lt asc (h s (List.mem_cons_self ..)) hr
    unfold cnt at ih ⊢
    rw [List.map_cons, List.filter_cons, List.filter_cons]
    by_cases z : rlt s r = true
    · rw [if_pos z, if_pos (decide_eq_true (this.mpr z)), List.length_cons, List.length_cons, ih]
    · rw [if_neg z, if_neg (by simpa using fun q => z (this.mp q)), ih]
theorem place_lt {A : List Nat} (asc : A.Pairwise (· < ·)) {rows : List Row} (nd : rows.Nodup) (hl : ∀ s ∈ rows, s.2 ∈ A) {r s : Row} (hr : r.2 ∈ A) (hs : s.2 ∈ A) (hr2 : r ∉ rows) (h : rlt r s = true) : place A rows r < place A rows s := by
  unfold place
  rw [place_eq asc hr hl, place_eq asc hs hl]
  have nd' := posn_nodup asc nd hl
  have h1 := cnt_lt nd' (x := posn A r) (y := posn A s) (fun hm => by
    obtain ⟨t, ht, e⟩ := List.mem_map.mp hm
    exact hr2 (by rw [← posn_inj asc (hl t ht) hr e]; exact ht)) ((posn_lt asc hr hs).mpr h)
  have h2 := cnt_le nd' (posn A r)
  have h3 := (posn_lt asc hr hs).mpr h
  omega
theorem place_sub {A : List Nat} (asc : A.Pairwise (· < ·)) {rows : List Row} (nd : rows.Nodup) (hl : ∀ s ∈ rows, s.2 ∈ A) {r : Row} (hr : r.2 ∈ A) : (rows.filter fun s => rlt s r).length ≤ posn A r := by
  rw [place_eq asc hr hl]
  exact cnt_le (posn_nodup asc nd hl) _
theorem posn_bound {A : List Nat} {r : Row} {n : Nat} (hr : r.2 ∈ A) (h : r.1 ≤ n) : posn A r < (n + 1) * A.length := by
  have := idx_lt hr
  have := Nat.mul_le_mul_right A.length h
  unfold posn
  rw [Nat.add_mul]
  omega
theorem place_opt {A : List Nat} (asc : A.Pairwise (· < ·)) {rows : List Row} (g : GoodA A rows) {r : Row} (hr : r.2 ∈ A) (h1 : r.1 ≤ rows.length) (h2 : r ∉ rows) : 1 + place A rows r < opt A.length rows.length := by
  have nd' := posn_nodup asc g.nd g.ltr
  have hb := posn_bound hr h1
  have h1 := cnt_lt nd' (x := posn A r) (y := (rows.length + 1) * A.length) (fun hm => by
    obtain ⟨t, ht, e⟩ := List.mem_map.mp hm
    exact h2 (by rw [← posn_inj asc (g.ltr t ht) hr e]; exact ht)) hb
  have h3 : cnt (rows.map (posn A)) ((rows.length + 1) * A.length) = rows.length := by
    unfold cnt
    rw [List.filter_eq_self.mpr, List.length_map]
    intro z hz
    obtain ⟨t, ht, e⟩ := List.mem_map.mp hz
    obtain ⟨i, hi⟩ := List.mem_iff_getElem?.mp ht
    have := (List.getElem?_eq_some_iff.mp hi).1
    have := posn_bound (n := rows.length) (g.ltr t ht) (by have := g.par i t hi; omega)
    rw [← e]
    exact decide_eq_true this
  unfold place opt
  rw [place_eq asc hr g.ltr]
  have h4 := cnt_le nd' (posn A r)
  omega
def pbF (A : List Nat) : List Row → List Row → List Nat
  | _, [] => []
  | pre, r :: rest => nb (1 + place A pre r) (opt A.length pre.length) ++ pbF A (pre ++ [r]) rest
theorem pbF_app (A : List Nat) : ∀ (xs pre ys : List Row), pbF A pre (xs ++ ys) = pbF A pre xs ++ pbF A (pre ++ xs) ys
  | [], pre, ys => by simp [pbF]
  | x :: xs, pre, ys => by
    rw [List.cons_append]
    simp only [pbF]
    rw [pbF_app A xs (pre ++ [x]) ys, List.append_assoc]
    simp
def rch (s : Nat) : Nat → Nat
  | 0 => 0
  | k + 1 => rch s k + W (opt s k)
theorem pbF_len (A : List Nat) (rows : List Row) : (pbF A [] rows).length = rch A.length rows.length := by
  induction rows using snoc_ind with
  | h0 => rfl
  | hs l x ih =>
    rw [pbF_app, List.length_append, ih, List.length_append]
    simp [pbF, rch, nb_len]
def block (A : List Nat) (rows : List Row) (tail : Nat) : List Nat := pbF A [] rows ++ (nb 0 (opt A.length rows.length) ++ nb tail (rows.length + 1))
def plen (s n : Nat) : Nat := rch s n + (W (opt s n) + W (n + 1))
theorem block_len (A : List Nat) (rows : List Row) (tail : Nat) : (block A rows tail).length = plen A.length rows.length := by
  unfold block plen
  rw [List.length_append, List.length_append, pbF_len, nb_len, nb_len]
def blk (A t : List Nat) : List Nat := block A (lz t).1 (lz t).2
theorem opt_two (s n : Nat) (hs : 1 ≤ s) : 2 ≤ opt s n := by
  unfold opt
  have := Nat.mul_le_mul_left (n + 1) hs
  omega
theorem W_two {n : Nat} (h : 2 ≤ n) : 1 ≤ W n := by
  rcases Nat.eq_zero_or_pos (W n) with z | z
  · have := (W_le (n := n) (m := 0) (by omega)).mp (by omega)
    simp at this
    omega
  · exact z
theorem plen_lt {s n m : Nat} (hs : 1 ≤ s) (h : n < m) : plen s n < plen s m := by
  have step : ∀ n, plen s n < plen s (n + 1) := fun n => by
    unfold plen
    show _ < rch s n + W (opt s n) + _
    have := W_two (opt_two s (n + 1) hs)
    have := W_mono (n := n + 1) (m := n + 1 + 1) (by omega) (by omega)
    omega
  induction m with
  | zero => omega
  | succ m ih =>
    rcases Nat.lt_or_ge n m with q | q
    · exact Nat.lt_trans (ih q) (step m)
    · have : n = m := by omega
      subst this
      exact step n
/-- two strings part within a stretch -/
structure Part (B C : List Nat) (r w : Nat) (less : Bool) : Prop where
  ex : ∃ P a b X Y, B = P ++ (a ++ X) ∧ C = P ++ (b ++ Y) ∧ P.length = r ∧ a.length = w ∧ b.length = w ∧ (if less = true then a < b else b < a)
theorem Part.symm {B C : List Nat} {r w : Nat} {l : Bool} (h : Part B C r w l) : Part C B r w (!l) := by
  obtain ⟨P, a, b, X, Y, h1, h2, h3, h4, h5, h6⟩ := h.ex
  refine ⟨P, b, a, Y, X, h2, h1, h3, h5, h4, ?_⟩
  cases l <;> simpa using h6
theorem lt_irr (a : List Nat) : ¬ a < a := List.lt_irrefl a
theorem Part.nopre {B C : List Nat} {r w : Nat} {l : Bool} (h : Part B C r w l) : B.isPrefixOf C = false := by
  obtain ⟨P, a, b, X, Y, h1, h2, h3, h4, h5, h6⟩ := h.ex
  rw [Bool.eq_false_iff]
  intro z
  rw [List.isPrefixOf_iff_prefix, h1, h2] at z
  obtain ⟨t, ht⟩ := z
  rw [List.append_assoc] at ht
  have e1 := List.append_cancel_left ht
  rw [List.append_assoc] at e1
  have e2 := (List.append_inj e1 (by omega)).1
  subst e2
  cases l
  · exact lt_irr _ (by simpa using h6)
  · exact lt_irr _ (by simpa using h6)
theorem parted {A t u : List Nat} (hA : IsAlpha A) (ht : TextOf A t) (hu : TextOf A u) (hne : t ≠ u) (pre x y : List Row) (e1 : (lz t).1 = pre ++ x) (e2 : (lz u).1 = pre ++ y) :
    (∀ x1 xs y1 ys, x = x1 :: xs → y = y1 :: ys → x1 ≠ y1 → Part (blk A t) (blk A u) (rch A.length pre.length) (W (opt A.length pre.length)) (rlt x1 y1)) ∧
    (∀ x1 xs, x = x1 :: xs → y = [] → Part (blk A t) (blk A u) (rch A.length pre.length) (W (opt A.length pre.length)) false) ∧
    (∀ y1 ys, x = [] → y = y1 :: ys → Part (blk A t) (blk A u) (rch A.length pre.length) (W (opt A.length pre.length)) true) ∧
    (x = [] → y = [] → Part (blk A t) (blk A u) (rch A.length pre.length + W (opt A.length pre.length)) (W (pre.length + 1)) (decide ((lz t).2 < (lz u).2))) := by
  have It := lz_ok ht
  have Iu := lz_ok hu
  have gt := It.good
  have gu := Iu.good
  unfold blk block
  rw [e1] at gt
  rw [e2] at gu
  rw [e1, e2, pbF_app, pbF_app, List.nil_append]
  have gp : ∀ {z : List Row}, GoodA A (pre ++ z) → GoodA A pre := fun {z} g => ⟨by have := g.toGood.take pre.length; rwa [List.take_left'] at this; rfl, fun r hr => g.ltr r (List.mem_append_left _ hr)⟩
  have hd : ∀ {z : Row} {zs : List Row}, GoodA A (pre ++ z :: zs) → z.2 ∈ A ∧ z.1 ≤ pre.length ∧ z ∉ pre := fun {z zs} g =>
    ⟨g.ltr z (by simp), g.par pre.length z (by simp), fun hz => (List.nodup_append.mp g.nd).2.2 z hz z (List.mem_cons_self ..) rfl⟩
  have g0 := gp gt
  have hW : ∀ r ∈ pre, r.2 ∈ A := g0.ltr
  refine ⟨fun x1 xs y1 ys hx hy hxy => ?_, fun x1 xs hx hy => ?_, fun y1 ys hx hy => ?_, fun hx hy => ?_⟩
  · subst hx hy
    obtain ⟨a1, a2, a3⟩ := hd gt
    obtain ⟨b1, b2, b3⟩ := hd gu
    simp only [pbF]
    refine ⟨pbF A [] pre, nb (1 + place A pre x1) (opt A.length pre.length), nb (1 + place A pre y1) (opt A.length pre.length), _, _, by rw [List.append_assoc, List.append_assoc], by rw [List.append_assoc, List.append_assoc], pbF_len _ _, nb_len _ _, nb_len _ _, ?_⟩
    by_cases hl : rlt x1 y1 = true
    · rw [if_pos hl]
      have := place_lt hA.asc g0.nd hW a1 b1 a3 hl
      exact nb_lt (by omega) (place_opt hA.asc g0 b1 b2 b3)
    · rw [if_neg hl]
      have hl2 : rlt y1 x1 = true := by
        have n1 : ¬ posn A x1 < posn A y1 := fun z => hl ((posn_lt hA.asc a1 b1).mp z)
        have n2 : posn A x1 ≠ posn A y1 := fun z => hxy (posn_inj hA.asc a1 b1 z)
        exact (posn_lt hA.asc b1 a1).mp (by omega)
      have := place_lt hA.asc g0.nd hW b1 a1 b3 hl2
      exact nb_lt (by omega) (place_opt hA.asc g0 a1 a2 a3)
  · subst hx hy
    obtain ⟨a1, a2, a3⟩ := hd gt
    simp only [pbF, List.append_nil, List.nil_append]
    refine ⟨pbF A [] pre, nb (1 + place A pre x1) (opt A.length pre.length), nb 0 (opt A.length pre.length), _, _, by rw [List.append_assoc, List.append_assoc], rfl, pbF_len _ _, nb_len _ _, nb_len _ _, ?_⟩
    rw [if_neg (by decide)]
    exact nb_lt (by omega) (place_opt hA.asc g0 a1 a2 a3)
  · subst hx hy
    obtain ⟨b1, b2, b3⟩ := hd gu
    simp only [pbF, List.append_nil, List.nil_append]
    refine ⟨pbF A [] pre, nb 0 (opt A.length pre.length), nb (1 + place A pre y1) (opt A.length pre.length), _, _, rfl, by rw [List.append_assoc, List.append_assoc], pbF_len _ _, nb_len _ _, nb_len _ _, ?_⟩
    rw [if_pos rfl]
    exact nb_lt (by omega) (place_opt hA.asc g0 b1 b2 b3)
  · subst hx hy
    simp only [pbF, List.append_nil, List.nil_append] at *
    have h1 : (lz t).2 ≤ pre.length := by have := It.tail; rw [e1] at this; exact this
    have h2 : (lz u).2 ≤ pre.length := by have := Iu.tail; rw [e2] at this; exact this
    have h3 : (lz t).2 ≠ (lz u).2 := fun z => hne (lz_inj (Prod.ext (e1.trans e2.symm) z))
    refine ⟨pbF A [] pre ++ nb 0 (opt A.length pre.length), nb (lz t).2 (pre.length + 1), nb (lz u).2 (pre.length + 1), [], [], by rw [List.append_nil, List.append_assoc], by rw [List.append_nil, List.append_assoc], by rw [List.length_append, pbF_len, nb_len], nb_len _ _, nb_len _ _, ?_⟩
    by_cases hl : (lz t).2 < (lz u).2
    · rw [if_pos (decide_eq_true hl)]
      exact nb_lt hl (by omega)
    · rw [if_neg (by simpa using hl)]
      exact nb_lt (by omega) (by omega)
end Lb

set_option linter.all false
set_option maxRecDepth 100000
namespace Lb
open PySem PySem.Spec PyProof.Rows L2 DL
def t_frozen (S_frozen : DSp) : DS :=
  (dSeq (dIfS (dTst (dCal (cIsi2 .list .tuple) (dVar 0))) (dRet (dCal cTupc (dLc (dItS (dVar 0)) (gNm 1) dTru (dCall S_frozen (dCons (dVar 1) dNil)) [1]))) dNext)
  (dRet (dVar 0)))
def t_is_whole : DS :=
  (dRet (dAndV (dCal (cIsi .int) (dVar 0)) (dNotV (dCal (cIsi .bool) (dVar 0)))))
def t_check_alphabet : DS :=
  (dSeq (dIfS (dNot (dChain cLe cLe (dC (.int 1)) (dCal cLen (dVar 0)) (dC (.int 6)))) dNever dNext)
  (dFor (dEnum (dVar 0)) (gTp 2 (gsC (gNm 1) (gsC (gNm 2) gsN)))
  (dIfS (dOr (dCmpT cNotin (dVar 2) (dC (.str [48, 49, 50, 51, 52, 53, 54, 55, 56, 57, 97, 98, 99, 100, 101, 102, 103, 104, 105, 106, 107, 108, 109, 110, 111, 112, 113, 114, 115, 116, 117, 118, 119, 120, 121, 122]))) (dAnd (dCmpT cGt (dVar 1) (dC (.int 0))) (dCmpT cGeS (dOp cIx (dVar 0) (dOp cSub (dVar 1) (dC (.int 1)))) (dVar 2)))) dNever dNext)))
def t_check_text : DS :=
  (dFor (dEnum (dVar 1)) (gTp 2 (gsC (gNm 2) (gsC (gNm 3) gsN)))
  (dIfS (dCmpT cNotin (dVar 3) (dVar 0)) dNever dNext))
def t_check_both (S_check_alphabet : DSp) (S_check_text : DSp) : DS :=
  (dSeq (dDrop (dCall S_check_alphabet (dCons (dVar 0) dNil)))
  (dDrop (dCall S_check_text (dCons (dVar 0) (dCons (dVar 1) dNil)))))
def t_is_good_row (S_is_whole : DSp) : DS :=
  (dSeq (dAsg (dVar 1) (gTp 2 (gsC (gNm 3) (gsC (gNm 4) gsN))))
  (dSeq (dIfS (dOr (dNot (dTst (dCall S_is_whole (dCons (dVar 3) dNil)))) (dNot (dChain cLe cLe (dC (.int 0)) (dVar 3) (dVar 2)))) (dRet (dC (.bl false))) dNext)
  (dRet (dAndV (dCal (cIsi .str) (dVar 4)) (dAndV (dCmp cEq (dCal cLen (dVar 4)) (dC (.int 1))) (dCmp cIn (dVar 4) (dVar 0)))))))
def t_check_rows (S_is_good_row : DSp) : DS :=
  (dSeq (dSetO 2 (dNew (.dt [] [])))
  (dFor (dEnum (dVar 1)) (gTp 2 (gsC (gNm 3) (gsC (gNm 4) gsN)))
  (dSeq (dIfS (dOr (dNot (dTst (dCall S_is_good_row (dCons (dVar 0) (dCons (dVar 4) (dCons (dVar 3) dNil)))))) (dCmpT cDin (dVar 4) (dPk 2))) dNever dNext)
  (dDput 2 (dC (.bl true)) (dVar 4)))))
def r_texts_of_pieces_1 : DS :=
  (dRet (dVar 1))
def t_texts_of_pieces : DS :=
  (dSeq (dSetO 1 (dLst (dCons (dC (.str [])) dNil)))
  (dSeq (dFor (dItS (dVar 0)) (gTp 2 (gsC (gNm 2) (gsC (gNm 3) gsN)))
  (dDrop (dApp 1 (dOp cAdd (dIxV 1 (dVar 2)) (dVar 3)))))
  (r_texts_of_pieces_1)))
def r_starts_of_1 : DS :=
  (dRet (dVar 1))
def t_starts_of : DS :=
  (dSeq (dSetO 1 (dLst (dCons (dC (.int 0)) dNil)))
  (dSeq (dFor (dItS (dSlice (dVar 0) (dPart (dC (.int 1))) dNoP)) (gNm 2)
  (dDrop (dApp 1 (dOp cAdd (dIxV 1 (dUn cNeg (dC (.int 1)))) (dCal cLen (dVar 2))))))
  (r_starts_of_1)))
def t_Cut_init (Ad : Str → Addr) (S_check_alphabet : DSp) (S_frozen : DSp) (S_check_rows : DSp) (S_is_whole : DSp) (S_texts_of_pieces : DSp) (S_starts_of : DSp) : DS :=
  (dSeq (dDrop (dCall S_check_alphabet (dCons (dVar 1) dNil)))
  (dSeq (dSetF ([Ad "Cut"] : List Addr) "alphabet" 0 (dVar 1))
  (dSeq (dSetF ([Ad "Cut"] : List Addr) "rows" 0 (dCall S_frozen (dCons (dVar 2) dNil)))
  (dSeq (dSetF ([Ad "Cut"] : List Addr) "tail" 0 (dVar 3))
  (dSeq (dDrop (dCall S_check_rows (dCons (dVar 1) (dCons (dFld ([Ad "Cut"] : List Addr) "rows" (dPk 0)) dNil))))
  (dSeq (dSetF ([Ad "Cut"] : List Addr) "many" 0 (dCal cLen (dFld ([Ad "Cut"] : List Addr) "rows" (dPk 0))))
  (dSeq (dIfS (dOr (dNot (dTst (dCall S_is_whole (dCons (dVar 3) dNil)))) (dNot (dChain cLe cLe (dC (.int 0)) (dVar 3) (dFld ([Ad "Cut"] : List Addr) "many" (dPk 0))))) dNever dNext)
  (dSeq (dSetF ([Ad "Cut"] : List Addr) "pieces" 0 (dCal cTupc (dCall S_texts_of_pieces (dCons (dFld ([Ad "Cut"] : List Addr) "rows" (dPk 0)) dNil))))
  (dSeq (dSetF ([Ad "Cut"] : List Addr) "text" 0 (dOp cAdd (dJoin false (dC (.str [])) (dFld ([Ad "Cut"] : List Addr) "pieces" (dPk 0))) (dOp cIx (dFld ([Ad "Cut"] : List Addr) "pieces" (dPk 0)) (dVar 3))))
  (dSetF ([Ad "Cut"] : List Addr) "starts" 0 (dCal cTupc (dCall S_starts_of (dCons (dFld ([Ad "Cut"] : List Addr) "pieces" (dPk 0)) dNil)))))))))))))
def r_cut_of_1 (S_check_both : DSp) (S_Cut : DSp) : DS :=
  (dRet (dCall S_Cut (dCons (dVar 0) (dCons (dVar 2) (dCons (dVar 4) dNil)))))
def t_cut_of (S_check_both : DSp) (S_Cut : DSp) : DS :=
  (dSeq (dDrop (dCall S_check_both (dCons (dVar 0) (dCons (dVar 1) dNil))))
  (dSeq (dSetO 2 (dLst dNil))
  (dSeq (dSetO 3 (dNew (.dt [] [])))
  (dSeq (dSet 4 (dC (.int 0)))
  (dSeq (dFor (dItS (dVar 1)) (gNm 5)
  (dSeq (dSet 6 (dTup (dCons (dVar 4) (dCons (dVar 5) dNil))))
  (dIfS (dCmpT cDin (dVar 6) (dPk 3)) (dSet 4 (dDgetV 3 (dVar 6))) (dSeq (dDrop (dApp 2 (dVar 6)))
  (dSeq (dDput 3 (dCal cLen (dPk 2)) (dVar 6))
  (dSet 4 (dC (.int 0))))))))
  (r_cut_of_1 S_check_both S_Cut))))))
def t_place_number : DS :=
  (dSeq (dSet 3 (dLc (dItS (dVar 1)) (gNm 4) (dCmpT cLtX (dVar 4) (dVar 2)) (dVar 4) [4]))
  (dRet (dOp cSub (dOp cAdd (dOp cMul (dOp cIx (dVar 2) (dC (.int 0))) (dCal cLen (dVar 0))) (dM1 cSIndex (dVar 0) (dOp cIx (dVar 2) (dC (.int 1))))) (dCal cLen (dVar 3)))))
def t_width : DS :=
  (dRet (dCal cBits (dOp cSub (dVar 0) (dC (.int 1)))))
def r_number_bits_1 (S_width : DSp) : DS :=
  (dRet (dJoin true (dC (.str [])) (dPk 2)))
def t_number_bits (S_width : DSp) : DS :=
  (dSeq (dSetO 2 (dLst dNil))
  (dSeq (dSet 3 (dVar 0))
  (dSeq (dFor (dRng1 (dCall S_width (dCons (dVar 1) dNil))) (gNm 4)
  (dSeq (dDrop (dApp 2 (dIf (dCmpT cEq (dOp cMod (dVar 3) (dC (.int 2))) (dC (.int 1))) (dC (.str [49])) (dC (.str [48])))))
  (dSet 3 (dOp cDiv (dVar 3) (dC (.int 2))))))
  (r_number_bits_1 S_width))))
def t_piece_options : DS :=
  (dRet (dOp cAdd (dOp cSub (dOp cMul (dOp cAdd (dVar 1) (dC (.int 1))) (dVar 0)) (dVar 1)) (dC (.int 1))))
def r_piece_bits_1 (S_place_number : DSp) (S_number_bits : DSp) (S_piece_options : DSp) : DS :=
  (dRet (dJoin false (dC (.str [])) (dPk 2)))
def t_piece_bits (S_place_number : DSp) (S_number_bits : DSp) (S_piece_options : DSp) : DS :=
  (dSeq (dSetO 2 (dLst dNil))
  (dSeq (dFor (dEnum (dVar 1)) (gTp 2 (gsC (gNm 3) (gsC (gNm 4) gsN)))
  (dSeq (dSet 5 (dCall S_place_number (dCons (dVar 0) (dCons (dSlice (dVar 1) dNoP (dPart (dVar 3))) (dCons (dVar 4) dNil)))))
  (dDrop (dApp 2 (dCall S_number_bits (dCons (dOp cAdd (dC (.int 1)) (dVar 5)) (dCons (dCall S_piece_options (dCons (dCal cLen (dVar 0)) (dCons (dVar 3) dNil))) dNil)))))))
  (r_piece_bits_1 S_place_number S_number_bits S_piece_options)))
def t_end_bits (S_number_bits : DSp) (S_piece_options : DSp) : DS :=
  (dRet (dOp cAdd (dCall S_number_bits (dCons (dC (.int 0)) (dCons (dCall S_piece_options (dCons (dVar 0) (dCons (dVar 1) dNil))) dNil))) (dCall S_number_bits (dCons (dVar 2) (dCons (dOp cAdd (dVar 1) (dC (.int 1))) dNil)))))
def t_block_of_rows (S_piece_bits : DSp) (S_end_bits : DSp) : DS :=
  (dRet (dOp cAdd (dCall S_piece_bits (dCons (dVar 0) (dCons (dVar 1) dNil))) (dCall S_end_bits (dCons (dCal cLen (dVar 0)) (dCons (dCal cLen (dVar 1)) (dCons (dVar 2) dNil))))))
def t_press (Ad : Str → Addr) (S_cut_of : DSp) (S_block_of_rows : DSp) : DS :=
  (dSeq (dSet 2 (dCall S_cut_of (dCons (dVar 0) (dCons (dVar 1) dNil))))
  (dRet (dCall S_block_of_rows (dCons (dVar 0) (dCons (dFld ([Ad "Cut"] : List Addr) "rows" (dVar 2)) (dCons (dFld ([Ad "Cut"] : List Addr) "tail" (dVar 2)) dNil))))))
def r__law_cell_1 : DS :=
  (dRet (dOp cMod (dCal cInt (dOp cMul (dOp cMul (dOp cAdd (dVar 2) (dC (.int 7))) (dOp cAdd (dVar 1) (dC (.int 3)))) (dC (.int 69621)))) (dC (.int 2147483647))))
def t__law_cell : DS :=
  (dSeq (dIfS (dCmpT cLt (dVar 1) (dCal cLen (dVar 0))) (dRet (dOp cIx (dVar 0) (dVar 1))) dNext)
  (dSeq (dSet 2 (dC (.int 17)))
  (dSeq (dFor (dItS (dVar 0)) (gNm 3)
  (dSet 2 (dOp cMod (dCal cInt (dOp cAdd (dOp cMul (dVar 2) (dC (.int 31))) (dOp cMod (dCal cInt (dVar 3)) (dC (.int 1000003))))) (dC (.int 1000003)))))
  (r__law_cell_1))))
def r__law_digits_1 : DS :=
  (dRet (dVar 2))
def r__law_digits_2 : DS :=
  (dRet (dVar 2))
def t__law_digits : DS :=
  (dSeq (dSetO 2 (dLst dNil))
  (dSeq (dSet 3 (dCal cInt (dVar 0)))
  (dSeq (dIfS (dCmpT cGe (dVar 3) (dOp cPow (dC (.int 10)) (dC (.int 18)))) (dSeq (dSet 3 (dOp cSub (dVar 3) (dOp cPow (dC (.int 10)) (dC (.int 18)))))
  (dSeq (dFor (dItS (dVar 1)) (gNm 6)
  (dSeq (dDrop (dApp 2 (dOp cMod (dCal cInt (dVar 3)) (dVar 6))))
  (dSet 3 (dOp cDiv (dCal cInt (dVar 3)) (dVar 6)))))
  (r__law_digits_1))) dNext)
  (dSeq (dSet 4 (dOp cMod (dCal cInt (dVar 3)) (dC (.int 2147483629))))
  (dSeq (dFor (dRng1 (dCal cLen (dVar 1))) (gNm 5)
  (dSeq (dSet 4 (dOp cMod (dCal cInt (dOp cAdd (dOp cAdd (dOp cMul (dVar 4) (dC (.int 48271))) (dOp cMul (dC (.int 974711)) (dVar 5))) (dC (.int 12345)))) (dC (.int 2147483647))))
  (dSeq (dSet 7 (dOp cMod (dCal cInt (dOp cMul (dVar 4) (dOp cAdd (dOp cDiv (dVar 4) (dC (.int 65537))) (dC (.int 3))))) (dC (.int 2147483629))))
  (dDrop (dApp 2 (dOp cMod (dOp cDiv (dVar 7) (dC (.int 19))) (dOp cIx (dVar 1) (dVar 5))))))))
  (r__law_digits_2))))))
def r__law_signs_1 : DS :=
  (dDrop (dApp 3 (dOp cIx (dVar 2) (dVar 5))))
def r__law_signs_2 : DS :=
  (dRet (dJoin false (dC (.str [])) (dCal cSortedA (dPk 3))))
def t__law_signs : DS :=
  (dSeq (dSet 1 (dOp cIx (dLst (dCons (dC (.int 2)) (dCons (dC (.int 2)) (dCons (dC (.int 2)) (dCons (dC (.int 2)) (dCons (dC (.int 3)) (dCons (dC (.int 3)) (dCons (dC (.int 3)) (dCons (dC (.int 1)) (dCons (dC (.int 4)) (dCons (dC (.int 5)) (dCons (dC (.int 6)) (dCons (dC (.int 2)) dNil))))))))))))) (dOp cIx (dVar 0) (dC (.int 0)))))
  (dSeq (dSet 2 (dC (.str [48, 49, 50, 51, 52, 53, 54, 55, 56, 57, 97, 98, 99, 100, 101, 102, 103, 104, 105, 106, 107, 108, 109, 110, 111, 112, 113, 114, 115, 116, 117, 118, 119, 120, 121, 122])))
  (dSeq (dSetO 3 (dLst dNil))
  (dSeq (dFor (dRng1 (dVar 1)) (gNm 4)
  (dSeq (dSet 5 (dOp cMod (dCal cInt (dOp cIx (dVar 0) (dOp cAdd (dC (.int 1)) (dVar 4)))) (dC (.int 36))))
  (dSeq (dFor (dRng1 (dC (.int 36))) (gNm 6)
  (dIfS (dCmpT cIn (dOp cIx (dVar 2) (dVar 5)) (dPk 3)) (dSet 5 (dOp cMod (dCal cInt (dOp cAdd (dVar 5) (dC (.int 1)))) (dC (.int 36)))) dNext))
  (r__law_signs_1))))
  (r__law_signs_2)))))
def t__law_free_word : DS :=
  (dRet (dJoin false (dC (.str [])) (dLc (dRng1 (dVar 2)) (gNm 3) dTru (dOp cIx (dVar 0) (dOp cMod (dCal cInt (dOp cIx (dVar 1) (dVar 3))) (dCal cLen (dVar 0)))) [3])))
def r__law_counting_word_1 : DS :=
  (dSeq (dSet 2 (dOp cAdd (dVar 2) (dJoin false (dC (.str [])) (dVar 5))))
  (dSet 3 (dCal cListc (dVar 5))))
def r__law_counting_word_2 : DS :=
  (dRet (dSlice (dVar 2) dNoP (dPart (dVar 1))))
def t__law_counting_word : DS :=
  (dSeq (dSet 2 (dC (.str [])))
  (dSeq (dSet 3 (dLst (dCons (dC (.str [])) dNil)))
  (dSeq (dFor (dRng1 (dC (.int 400))) (gNm 4)
  (dSeq (dIfS (dCmpT cGe (dCal cLen (dVar 2)) (dVar 1)) dBreak dNext)
  (dSeq (dSet 5 (dLst dNil))
  (dSeq (dFor (dItS (dVar 3)) (gNm 6)
  (dIfS (dCmpT cLt (dOp cAdd (dCal cLen (dVar 2)) (dOp cMul (dCal cLen (dVar 5)) (dOp cAdd (dCal cLen (dVar 6)) (dC (.int 1))))) (dOp cAdd (dVar 1) (dOp cMul (dC (.int 6)) (dOp cAdd (dCal cLen (dVar 6)) (dC (.int 1)))))) (dSet 5 (dOp cAdd (dVar 5) (dLc (dItS (dVar 0)) (gNm 7) dTru (dOp cAdd (dVar 6) (dVar 7)) [7]))) dNext))
  (r__law_counting_word_1)))))
  (r__law_counting_word_2))))
def r__law_word_1 (S__law_free_word : DSp) (S__law_counting_word : DSp) : DS :=
  (dRet (dSlice (dVar 6) dNoP (dPart (dVar 3))))
def t__law_word (S__law_free_word : DSp) (S__law_counting_word : DSp) : DS :=
  (dSeq (dSet 3 (dOp cMin (dVar 2) (dOp cIx (dVar 1) (dC (.int 1)))))
  (dSeq (dSet 4 (dCall S__law_free_word (dCons (dVar 0) (dCons (dSlice (dVar 1) (dPart (dC (.int 3))) dNoP) (dCons (dC (.int 46)) dNil)))))
  (dSeq (dSet 5 (dOp cIx (dVar 1) (dC (.int 0))))
  (dSeq (dIfS (dCmpT cLt (dVar 5) (dC (.int 5))) (dRet (dSlice (dVar 4) dNoP (dPart (dVar 3)))) dNext)
  (dSeq (dIfS (dCmpT cLt (dVar 5) (dC (.int 7))) (dRet (dSlice (dOp cMul (dSlice (dVar 4) dNoP (dPart (dOp cAdd (dC (.int 1)) (dOp cMod (dCal cInt (dOp cIx (dVar 1) (dC (.int 2)))) (dC (.int 5)))))) (dC (.int 46))) dNoP (dPart (dVar 3)))) dNext)
  (dSeq (dIfS (dCmpT cEq (dVar 5) (dC (.int 7))) (dRet (dSlice (dJoin false (dC (.str [])) (dLc (dRng1 (dC (.int 12))) (gNm 7) dTru (dOp cMul (dOp cIx (dVar 4) (dVar 7)) (dOp cAdd (dC (.int 1)) (dCal cInt (dOp cIx (dVar 1) (dOp cAdd (dC (.int 15)) (dVar 7)))))) [7])) dNoP (dPart (dVar 3)))) dNext)
  (dSeq (dIfS (dCmpT cEq (dVar 5) (dC (.int 8))) (dRet (dCall S__law_counting_word (dCons (dVar 0) (dCons (dVar 3) dNil)))) dNext)
  (dSeq (dIfS (dCmpT cEq (dVar 5) (dC (.int 9))) (dSeq (dSet 6 (dSlice (dVar 4) dNoP (dPart (dC (.int 2)))))
  (dSeq (dFor (dRng1 (dC (.int 5))) (gNm 7)
  (dSet 6 (dOp cAdd (dOp cAdd (dVar 6) (dOp cIx (dVar 4) (dOp cAdd (dC (.int 2)) (dVar 7)))) (dVar 6))))
  (r__law_word_1 S__law_free_word S__law_counting_word))) dNext)
  (dSeq (dIfS (dCmpT cEq (dVar 5) (dC (.int 10))) (dRet (dSlice (dOp cAdd (dSlice (dOp cMul (dSlice (dVar 4) dNoP (dPart (dC (.int 3)))) (dC (.int 10))) dNoP (dPart (dOp cMod (dCal cInt (dOp cIx (dVar 1) (dC (.int 2)))) (dC (.int 20))))) (dVar 4)) dNoP (dPart (dVar 3)))) dNext)
  (dRet (dSlice (dOp cMul (dOp cIx (dVar 4) (dC (.int 0))) (dC (.int 46))) dNoP (dPart (dVar 3)))))))))))))
def r__law_long_word_1 (S__law_free_word : DSp) (S__law_counting_word : DSp) (S__law_digits : DSp) (S__law_cell : DSp) : DS :=
  (dRet (dSlice (dVar 6) dNoP (dPart (dVar 4))))
def t__law_long_word (S__law_free_word : DSp) (S__law_counting_word : DSp) (S__law_digits : DSp) (S__law_cell : DSp) : DS :=
  (dSeq (dSet 4 (dOp cIx (dVar 3) (dC (.int 1))))
  (dSeq (dSet 5 (dCall S__law_free_word (dCons (dVar 2) (dCons (dSlice (dVar 3) (dPart (dC (.int 2))) dNoP) (dCons (dC (.int 5)) dNil)))))
  (dSeq (dIfS (dCmpT cEq (dOp cIx (dVar 3) (dC (.int 0))) (dC (.int 0))) (dRet (dSlice (dOp cMul (dOp cIx (dVar 5) (dC (.int 0))) (dC (.int 400))) dNoP (dPart (dVar 4)))) dNext)
  (dSeq (dIfS (dCmpT cEq (dOp cIx (dVar 3) (dC (.int 0))) (dC (.int 1))) (dRet (dSlice (dOp cMul (dVar 5) (dC (.int 80))) dNoP (dPart (dVar 4)))) dNext)
  (dSeq (dIfS (dCmpT cEq (dOp cIx (dVar 3) (dC (.int 0))) (dC (.int 2))) (dRet (dCall S__law_counting_word (dCons (dVar 2) (dCons (dVar 4) dNil)))) dNext)
  (dSeq (dSet 6 (dSlice (dVar 5) dNoP (dPart (dC (.int 2)))))
  (dSeq (dIfS (dCmpT cEq (dOp cIx (dVar 3) (dC (.int 0))) (dC (.int 3))) (dSeq (dFor (dRng1 (dC (.int 8))) (gNm 8)
  (dSet 6 (dOp cAdd (dOp cAdd (dVar 6) (dOp cIx (dVar 5) (dOp cAdd (dC (.int 2)) (dOp cMod (dVar 8) (dC (.int 3)))))) (dVar 6))))
  (r__law_long_word_1 S__law_free_word S__law_counting_word S__law_digits S__law_cell)) dNext)
  (dSeq (dIfS (dCmpT cEq (dOp cIx (dVar 3) (dC (.int 0))) (dC (.int 4))) (dSeq (dSet 9 (dOp cMod (dCal cInt (dOp cIx (dVar 3) (dC (.int 7)))) (dOp cAdd (dVar 4) (dC (.int 1)))))
  (dRet (dSlice (dOp cAdd (dOp cAdd (dSlice (dOp cMul (dVar 6) (dC (.int 200))) dNoP (dPart (dVar 9))) (dOp cIx (dVar 5) (dC (.int 2)))) (dOp cMul (dVar 6) (dC (.int 200)))) dNoP (dPart (dVar 4))))) dNext)
  (dSeq (dSet 7 (dLc (dRng1 (dC (.int 7))) (gNm 8) dTru (dCall S__law_digits (dCons (dCall S__law_cell (dCons (dVar 0) (dCons (dOp cAdd (dVar 1) (dVar 8)) dNil))) (dCons (dOp cMul (dLst (dCons (dC (.int 6)) dNil)) (dC (.int 60))) dNil))) [8]))
  (dRet (dSlice (dJoin false (dC (.str [])) (dLc (dItS (dVar 7)) (gNm 10) dTru (dCall S__law_free_word (dCons (dVar 2) (dCons (dVar 10) (dCons (dC (.int 60)) dNil)))) [10])) dNoP (dPart (dVar 4)))))))))))))
def r__law_cut_1 : DS :=
  (dRet (dLst (dCons (dCal cTupc (dPk 3)) (dCons (dDgetV 2 (dVar 4)) (dCons (dVar 1) dNil)))))
def t__law_cut : DS :=
  (dSeq (dSetO 1 (dLst (dCons (dC (.str [])) dNil)))
  (dSeq (dSetO 2 (dDisp (((dC (.str [])), (dC (.int 0))) :: [])))
  (dSeq (dSetO 3 (dLst dNil))
  (dSeq (dSet 4 (dC (.str [])))
  (dSeq (dFor (dItS (dVar 0)) (gNm 5)
  (dIfS (dCmpT cDin (dOp cAdd (dVar 4) (dVar 5)) (dPk 2)) (dSet 4 (dOp cAdd (dVar 4) (dVar 5))) (dSeq (dDrop (dApp 3 (dTup (dCons (dDgetV 2 (dVar 4)) (dCons (dVar 5) dNil)))))
  (dSeq (dDput 2 (dCal cLen (dPk 1)) (dOp cAdd (dVar 4) (dVar 5)))
  (dSeq (dDrop (dApp 1 (dOp cAdd (dVar 4) (dVar 5))))
  (dSet 4 (dC (.str []))))))))
  (r__law_cut_1))))))
def r__law_width_1 : DS :=
  (dRet (dVar 1))
def t__law_width : DS :=
  (dSeq (dSet 1 (dC (.int 0)))
  (dSeq (dSet 2 (dC (.int 1)))
  (dSeq (dFor (dRng1 (dC (.int 400))) (gNm 3)
  (dSeq (dIfS (dCmpT cGe (dVar 2) (dVar 0)) dBreak dNext)
  (dSeq (dSet 2 (dOp cMul (dVar 2) (dC (.int 2))))
  (dSet 1 (dOp cAdd (dVar 1) (dC (.int 1)))))))
  (r__law_width_1))))
end Lb

set_option linter.all false
set_option maxRecDepth 100000
set_option maxHeartbeats 1000000
namespace Lb
open PySem PySem.Spec PyProof.Rows L2 DL
theorem cut_to {α : Type} (l : List α) {i : Int} {k : Nat} (h : i = k) : cutD l none (some i) = l.take k := by
  subst h
  unfold DL.cutD
  rw [HT.sIx_none, HT.sIx_nat, List.drop_zero, Nat.sub_zero]
  rcases Nat.le_total k l.length with z | z
  · rw [Nat.min_eq_left z]
  · rw [Nat.min_eq_right z, List.take_length, List.take_of_length_le z]
theorem cut_from {α : Type} (l : List α) {i : Int} {k : Nat} (h : i = k) : cutD l (some i) none = l.drop k := by
  subst h
  unfold DL.cutD
  rw [HT.sIx_none, HT.sIx_nat]
  rcases Nat.le_total k l.length with z | z
  · rw [Nat.min_eq_left z, List.take_of_length_le (by rw [List.length_drop]; exact Nat.le_refl _)]
  · rw [Nat.min_eq_right z, List.drop_length, List.take_nil, List.drop_of_length_le z]
theorem cut_mid {α : Type} (l : List α) {i j : Int} {a b : Nat} (h : i = a) (h' : j = b) : cutD l (some i) (some j) = (l.drop a).take (b - a) := by
  subst h h'
  unfold DL.cutD
  rw [HT.sIx_nat, HT.sIx_nat]
  rcases Nat.le_total a l.length with z | z
  · rw [Nat.min_eq_left z]
    rcases Nat.le_total b l.length with y | y
    · rw [Nat.min_eq_left y]
    · rw [Nat.min_eq_right y, List.take_of_length_le (by rw [List.length_drop]; exact Nat.le_refl _), List.take_of_length_le (by rw [List.length_drop]; omega)]
  · rw [Nat.min_eq_right z, List.drop_length, List.take_nil, List.drop_of_length_le z, List.take_nil]
theorem cut_init {α : Type} (l : List α) : cutD l none (some (-1)) = l.take (l.length - 1) := by
  unfold DL.cutD
  rw [HT.sIx_none, List.drop_zero, Nat.sub_zero]
  congr 1
  simp [HT.sIx]
  omega
theorem TextOf.cut {A t : List Nat} (lo hi : Option Int) (h : TextOf A t) : TextOf A (cutD t lo hi) := (h.drop _).take _
theorem cut_to_len {α : Type} (l : List α) {i : Int} (h : 0 ≤ i) : ((cutD l none (some i)).length : Int) ≤ i := by
  rw [cut_to l (k := i.toNat) (by omega), List.length_take]
  omega
theorem bl_t {p : Prop} {_ : Decidable p} {Q : D → Prop} (h : p) (q : Q (.bl true)) : Q (.bl (decide p)) := by rw [decide_eq_true h]; exact q
theorem bl_f {p : Prop} {_ : Decidable p} {Q : D → Prop} (h : ¬ p) (q : Q (.bl false)) : Q (.bl (decide p)) := by rw [decide_eq_false h]; exact q
theorem starts_f {l m : List Nat} {Q : D → Prop} (h : m.isPrefixOf l = false) (q : Q (.bl false)) : cStarts (.str l) (.str m) Q := by show Q _; rw [h]; exact q
theorem starts_t {l m : List Nat} {Q : D → Prop} (h : m.isPrefixOf l = true) (q : Q (.bl true)) : cStarts (.str l) (.str m) Q := by show Q _; rw [h]; exact q
theorem cMin_eq {i j k : Int} {Q : D → Prop} (h : min i j = k) (q : Q (.int k)) : cMin (.int i) (.int j) Q := by subst h; exact q
theorem cMax_eq {i j k : Int} {Q : D → Prop} (h : max i j = k) (q : Q (.int k)) : cMax (.int i) (.int j) Q := by subst h; exact q
theorem cAdd_eq {i j k : Int} {Q : D → Prop} (h : i + j = k) (q : Q (.int k)) : cAdd (.int i) (.int j) Q := by subst h; exact q
theorem cSub_eq {i j k : Int} {Q : D → Prop} (h : i - j = k) (q : Q (.int k)) : cSub (.int i) (.int j) Q := by subst h; exact q
structure RowOk (sizes row : List Int) : Prop where
  len : row.length = sizes.length
  at_ : ∀ (k : Nat) (x z : Int), row[k]? = some x → sizes[k]? = some z → 0 ≤ x ∧ x < z
theorem RowOk.get {sizes row : List Int} (h : RowOk sizes row) (k : Nat) {z : Int} (hz : sizes[k]? = some z) : ∃ x, row[k]? = some x ∧ (∀ i : Int, i = k → atI (row.map D.int) i = some (.int x)) ∧ 0 ≤ x ∧ x < z := by
  have hk : k < row.length := by rw [h.len]; exact (List.getElem?_eq_some_iff.mp hz).1
  exact ⟨row[k], List.getElem?_eq_getElem hk, fun i hi => at_map hi hk, h.at_ k _ z (List.getElem?_eq_getElem hk) hz⟩
theorem RowOk.drop {sizes row : List Int} (h : RowOk sizes row) (n : Nat) : RowOk (sizes.drop n) (row.drop n) :=
  ⟨by rw [List.length_drop, List.length_drop, h.len], fun k x z h1 h2 => by rw [List.getElem?_drop] at h1 h2; exact h.at_ _ x z h1 h2⟩
theorem RowOk.pos {sizes row : List Int} (h : RowOk sizes row) : ∀ x ∈ row, 0 ≤ x := fun x hx => by
  obtain ⟨k, hk⟩ := List.mem_iff_getElem?.mp hx
  have hl := (List.getElem?_eq_some_iff.mp hk).1
  exact (h.at_ k x _ hk (List.getElem?_eq_getElem (by rw [← h.len]; exact hl))).1
theorem str_at {l : List Nat} {i : Int} {k : Nat} (h : i = k) (hk : k < l.length) : atI l i = some l[k] := at_ok h hk
def S__law_whole : DSp := fun ds Q => ∃ i : Int, ds = [.int i] ∧ Q (.bl true)
def S__law_cell : DSp := fun ds Q => ∃ (ns : List Int) (i : Int), ds = [.scr ns, .int i] ∧ 0 ≤ i ∧ i < 2 ^ 40 ∧ ∀ r : Int, Q (.int r)
def S__law_digits : DSp := fun ds Q => ∃ (cell : Int) (sizes : List Int), ds = [.int cell, .lst (sizes.map .int)] ∧ sizes.length ≤ 1000 ∧ (∀ z ∈ sizes, 1 ≤ z ∧ z < 2 ^ 64) ∧
  ∀ row : List Int, RowOk sizes row → Q (.lst (row.map .int))
theorem len__law_cell : ∀ ds Q, S__law_cell ds Q → ds.length = (["script", "k"] : List Str).length := by rintro _ _ ⟨_, _, rfl, _⟩; rfl
theorem len__law_digits : ∀ ds Q, S__law_digits ds Q → ds.length = (["cell", "sizes"] : List Str).length := by rintro _ _ ⟨_, _, rfl, _⟩; rfl
theorem rd__law_cell (ds : List D) (Q : D → Prop) (h : S__law_cell ds Q) : t__law_cell { nx := fun _ => false = false ∧ Q .non, rt := Q } (startD 4 ds) := by
  obtain ⟨ns, i, rfl, h0, h1, q⟩ := h
  refine ⟨fun h => ?_, fun _ => ?_⟩
  · have hl := of_decide_eq_true h
    exact ⟨_, at_ok (k := i.toNat) (by omega) (by omega), q _⟩
  · refine ⟨fun _ env => ∃ (sd : Int) (x : Sl), env = [.fz (.scr ns), .fz (.int i), .fz (.int sd), x] ∧ 0 ≤ sd ∧ sd < 1000003, ⟨17, _, rfl, by omega, by omega⟩, ?_, ?_⟩
    · rintro k d _ hd ⟨sd, x, rfl, h2, h3⟩
      obtain ⟨z, hz⟩ : ∃ z, d = .int z := by
        rw [List.getElem?_map] at hd
        cases q2 : ns[k]? with
        | none => rw [q2] at hd; cases hd
        | some z => rw [q2] at hd; exact ⟨z, (Option.some.inj hd).symm⟩
      subst hz
      refine ⟨mul_r (by decide) (by decide), by decide, by decide, _, _, rfl, ?_, ?_⟩
      · exact Int.emod_nonneg _ (by decide)
      · exact Int.emod_lt_of_pos _ (by decide)
    · rintro _ ⟨sd, x, rfl, h2, h3⟩
      exact ⟨mul_l (by omega) (by omega), mul_r (by decide) (by decide), by decide, q _⟩
theorem digits_step {row sizes : List Int} {k : Nat} {z y : Int} (hl : row.length = k) (hz : sizes[k]? = some z) (h0 : 0 ≤ y) (h1 : y < z) (h : ∀ (j : Nat) (x z : Int), row[j]? = some x → sizes[j]? = some z → 0 ≤ x ∧ x < z) :
    ∀ (j : Nat) (x z : Int), (row ++ [y])[j]? = some x → sizes[j]? = some z → 0 ≤ x ∧ x < z := fun j x w h2 h3 => by
  by_cases hj : j < row.length
  · rw [List.getElem?_append_left hj] at h2
    exact h j x w h2 h3
  · rw [List.getElem?_append_right (by omega)] at h2
    have : j - row.length = 0 := by
      rcases Nat.eq_zero_or_pos (j - row.length) with q | q
      · exact q
      · rw [List.getElem?_eq_none (by simp; omega)] at h2; cases h2
    rw [this] at h2
    have e : j = k := by omega
    rw [e, hz] at h3
    cases h3
    cases h2
    exact ⟨h0, h1⟩
theorem rd__law_digits (ds : List D) (Q : D → Prop) (h : S__law_digits ds Q) : t__law_digits { nx := fun _ => false = false ∧ Q .non, rt := Q } (startD 8 ds) := by
  obtain ⟨cell, sizes, rfl, hn, hs, q⟩ := h
  have hsl : sizeLine = 16777216 := sizeLine_eq
  have hln : (sizes.map D.int).length = sizes.length := List.length_map _
  refine ⟨Nat.zero_le _, by decide, by decide, by decide, ⟨fun _ => ?_, fun _ => ?_⟩⟩
  · refine ⟨by decide, by decide, by decide, ?_⟩
    refine ⟨fun k env => ∃ (row : List Int) (rest : Int) (x4 x5 x6 x7 : Sl), env = [.fz (.int cell), .fz (.lst (sizes.map .int)), .ow (.lst (row.map .int)), .fz (.int rest), x4, x5, x6, x7] ∧ row.length = k ∧ (∀ (j : Nat) (x z : Int), row[j]? = some x → sizes[j]? = some z → 0 ≤ x ∧ x < z),
      ⟨[], _, _, _, _, _, rfl, rfl, fun j x z h => by simp at h⟩, ?_, ?_⟩
    · rintro k d _ hd ⟨row, rest, x4, x5, x6, x7, rfl, hl, hr⟩
      obtain ⟨z, hz, rfl⟩ := map_get hd
      have hk : k < sizes.length := (List.getElem?_eq_some_iff.mp hz).1
      obtain ⟨h1, h2⟩ := hs z (List.mem_of_getElem? hz)
      refine ⟨by omega, by rw [List.length_map]; omega, by omega, log_ok (by omega) h2, row ++ [rest % z], _, _, _, _, _, by rw [List.map_append]; rfl, by rw [List.length_append, hl]; rfl, digits_step hl hz (Int.emod_nonneg _ (by omega)) (Int.emod_lt_of_pos _ (by omega)) hr⟩
    · rintro _ ⟨row, rest, x4, x5, x6, x7, rfl, hl, hr⟩
      exact q row ⟨by omega, hr⟩
  · refine ⟨by decide, by omega, by omega, ?_⟩
    refine ⟨fun k env => ∃ (row : List Int) (sd : Int) (x3 x5 x6 x7 : Sl), env = [.fz (.int cell), .fz (.lst (sizes.map .int)), .ow (.lst (row.map .int)), x3, .fz (.int sd), x5, x6, x7] ∧ row.length = k ∧ 0 ≤ sd ∧ sd < 2147483647 ∧ (∀ (j : Nat) (x z : Int), row[j]? = some x → sizes[j]? = some z → 0 ≤ x ∧ x < z),
      ⟨[], _, _, _, _, _, rfl, rfl, Int.emod_nonneg _ (by decide), Int.lt_trans (Int.emod_lt_of_pos _ (by decide)) (by decide), fun j x z h => by simp at h⟩, ?_, ?_⟩
    · rintro k d _ hd ⟨row, sd, x3, x5, x6, x7, rfl, hl, h0, h1, hr⟩
      obtain ⟨hk, rfl⟩ := rngD_get hd
      have hk' : k < sizes.length := by rw [← hln]; simpa using hk
      have hz := List.getElem?_eq_getElem hk'
      obtain ⟨h3, h4⟩ := hs _ (List.mem_of_getElem? hz)
      have hat : atI (sizes.map D.int) (0 + (k : Int)) = some (.int sizes[k]) := by
        rw [atI_map, at_ok (k := k) (by omega) hk']; rfl
      refine ⟨mul_r (by decide) (by decide), mul_l (by decide) (by decide), by decide, by decide, by decide, mul_l ?_ ?_, by decide, by decide, by decide, _, hat, by omega, by rw [List.length_map]; omega, row ++ [_], _, _, _, _, _, by rw [List.map_append]; rfl, by rw [List.length_append, hl]; rfl, Int.emod_nonneg _ (by decide), Int.emod_lt_of_pos _ (by decide), digits_step hl hz (Int.emod_nonneg _ (by omega)) (Int.emod_lt_of_pos _ (by omega)) hr⟩
      · have := Int.emod_nonneg (sd * 48271 + 974711 * (0 + (k : Int)) + 12345) (show (2147483647 : Int) ≠ 0 by decide)
        omega
      · have := Int.emod_lt_of_pos (sd * 48271 + 974711 * (0 + (k : Int)) + 12345) (show (0 : Int) < 2147483647 by decide)
        omega
    · rintro _ ⟨row, sd, x3, x5, x6, x7, rfl, hl, h0, h1, hr⟩
      refine q row ⟨?_, hr⟩
      rw [rngD_len] at hl
      simpa using hl
def Psigns : List Int := [12, 36, 36, 36, 36, 36, 36]
def S__law_signs : DSp := fun ds Q => ∃ row : List Int, ds = [.lst (row.map .int)] ∧ RowOk Psigns row ∧ ∀ A : List Nat, IsAlpha A → Q (.str A)
theorem len__law_signs : ∀ ds Q, S__law_signs ds Q → ds.length = (["row"] : List Str).length := by rintro _ _ ⟨_, rfl, _⟩; rfl
def ones (l : List Nat) : List (List Nat) := l.map fun c => [c]
theorem ones_flat (l : List Nat) : (ones l).flatten = l := by
  unfold ones
  induction l with
  | nil => rfl
  | cons c l ih => rw [List.map_cons, List.flatten_cons, ih]; rfl
theorem ones_sum (l : List Nat) : ((ones l).map List.length).sum = l.length := by
  rw [← List.length_flatten, ones_flat]
theorem ones_inj : ∀ {l m : List Nat}, ones l = ones m → l = m := fun {l m} h => by
  have := congrArg List.flatten h
  rwa [ones_flat, ones_flat] at this
theorem mem_ones {l : List Nat} {x : List Nat} : x ∈ ones l ↔ ∃ c ∈ l, x = [c] := by
  unfold ones
  rw [List.mem_map]
  exact ⟨fun ⟨c, h, e⟩ => ⟨c, h, e.symm⟩, fun ⟨c, h, e⟩ => ⟨c, h, e.symm⟩⟩
theorem any_one (c : Nat) (l : List Nat) : (((ones l).map D.str).any fun z => eqD z (.str [c])) = decide (c ∈ l) := by
  unfold ones
  induction l with
  | nil => rfl
  | cons d l ih =>
    rw [List.map_cons, List.map_cons, List.any_cons, ih]
    show (([d] == [c]) || _) = _
    by_cases h : d = c
    · subst h; simp
    · have : ([d] == [c]) = false := by simpa using h
      rw [this]
      have h2 : ¬ c = d := fun z => h z.symm
      simp [h2]
theorem flat_ones (l : List Nat) : ((ones l).map D.str).all flatD = true := by
  unfold ones
  induction l with
  | nil => rfl
  | cons d l ih => rw [List.map_cons, List.map_cons, List.all_cons, ih]; rfl
theorem LET_len : LET.length = 36 := rfl
theorem LET_nodup : LET.Nodup := by decide
theorem LET_lt : ∀ c ∈ LET, c < 128 := by decide
theorem rd__law_signs (ds : List D) (Q : D → Prop) (h : S__law_signs ds Q) : t__law_signs { nx := fun _ => false = false ∧ Q .non, rt := Q } (startD 7 ds) := by
  obtain ⟨row, rfl, hr, q⟩ := h
  have hsl : sizeLine = 16777216 := sizeLine_eq
  obtain ⟨x0, g0, a0, b0, c0⟩ := hr.get 0 (z := 12) rfl
  refine ⟨by show 12 ≤ sizeLine; omega, .int x0, a0 _ rfl, ?_⟩
  obtain ⟨m, hm, hm1, hm6⟩ : ∃ m : Int, atI [D.int 2, .int 2, .int 2, .int 2, .int 3, .int 3, .int 3, .int 1, .int 4, .int 5, .int 6, .int 2] x0 = some (.int m) ∧ 1 ≤ m ∧ m ≤ 6 := by
    obtain ⟨k, rfl⟩ : ∃ k : Nat, x0 = k := ⟨x0.toNat, by omega⟩
    have hk : k < 12 := by omega
    have : ∀ k : Nat, k < 12 → ∃ m : Int, [(2 : Int), 2, 2, 2, 3, 3, 3, 1, 4, 5, 6, 2][k]? = some m ∧ 1 ≤ m ∧ m ≤ 6 := by decide
    obtain ⟨m, h1, h2⟩ := this k hk
    refine ⟨m, ?_, h2⟩
    rw [show [D.int 2, .int 2, .int 2, .int 2, .int 3, .int 3, .int 3, .int 1, .int 4, .int 5, .int 6, .int 2] = [(2 : Int), 2, 2, 2, 3, 3, 3, 1, 4, 5, 6, 2].map D.int from rfl, atI_map, atI_nat h1]
    rfl
  refine ⟨.int m, hm, Nat.zero_le _, by omega, by omega, ?_⟩
  refine ⟨fun k env => ∃ (T : List Nat) (x y z : Sl), env = [.fz (.lst (row.map .int)), .fz (.int m), .fz (.str LET), .ow (.lst ((ones T).map .str)), x, y, z] ∧ T.length = k ∧ T.Nodup ∧ ∀ c ∈ T, c ∈ LET,
    ⟨[], _, _, _, rfl, rfl, List.nodup_nil, fun c h => by cases h⟩, ?_, ?_⟩
  · rintro k d _ hd ⟨T, x, y, z, rfl, hl, nd, hT⟩
    obtain ⟨hk, rfl⟩ := rngD_get hd
    have hk6 : k < 6 := by omega
    have hz : Psigns[1 + k]? = some 36 := by
      have : ∀ k : Nat, k < 6 → Psigns[1 + k]? = some 36 := by decide
      exact this k hk6
    obtain ⟨v, gv, av, bv, cv⟩ := hr.get (1 + k) hz
    refine ⟨.int v, av _ (by omega), by decide, by decide, by decide, ?_⟩
    refine ⟨fun j env => ∃ (at_ i : Nat) (ai : Int) (w : Sl), env = [.fz (.lst (row.map .int)), .fz (.int m), .fz (.str LET), .ow (.lst ((ones T).map .str)), .fz (.int (0 + (k : Int))), .fz (.int ai), w] ∧ ai = at_ ∧ at_ < 36 ∧ i ≤ j ∧ at_ = (v.toNat + i) % 36 ∧ (∀ e, e < i → LET.getD ((v.toNat + e) % 36) 0 ∈ T) ∧ (LET.getD at_ 0 ∉ T ∨ i = j),
      ⟨v.toNat, 0, v % 36, z, rfl, by omega, by omega, Nat.le_refl _, by omega, fun e he => absurd he (Nat.not_lt_zero _), .inr rfl⟩, ?_, ?_⟩
    · rintro j d _ hd ⟨at_, i, ai, w, rfl, rfl, h36, hij, hat, hin, hor⟩
      obtain ⟨hj, rfl⟩ := rngD_get hd
      have hLl : at_ < LET.length := h36
      have hgd : LET.getD at_ 0 = LET[at_] := by rw [List.getD_eq_getElem?_getD, List.getElem?_eq_getElem hLl]; rfl
      refine ⟨by show 36 ≤ sizeLine; omega, LET[at_], at_ok (k := at_) rfl hLl, .inl ⟨rfl, flat_ones T⟩, ?_⟩
      rw [any_one]
      refine ⟨fun hb => ?_, fun hb => ?_⟩
      · have hb := of_decide_eq_true hb
        refine ⟨by decide, (at_ + 1) % 36, i + 1, _, _, rfl, by omega, by omega, ?_, by omega, fun e he => ?_, .inr ?_⟩
        · omega
        · by_cases z : e < i
          · exact hin e z
          · have : e = i := by omega
            subst this
            rw [← hat, hgd]; exact hb
        · rcases hor with z | z
          · rw [hgd] at z; exact absurd hb z
          · omega
      · have hb := of_decide_eq_false hb
        exact ⟨at_, i, _, _, rfl, rfl, h36, by omega, hat, hin, .inl (by rw [hgd]; exact hb)⟩
    · rintro _ ⟨at_, i, ai, w, rfl, rfl, h36, hij, hat, hin, hor⟩
      have hLl : at_ < LET.length := h36
      have hgd : LET.getD at_ 0 = LET[at_] := by rw [List.getD_eq_getElem?_getD, List.getElem?_eq_getElem hLl]; rfl
      have hnot : LET[at_] ∉ T := by
        rcases hor with z | z
        · rw [hgd] at z; exact z
        · exfalso
          have i36 : i = 36 := z
          have : LET.length ≤ T.length := nodup_sub LET_nodup fun c hc => by
            obtain ⟨e, he⟩ := List.mem_iff_getElem?.mp hc
            have he2 := (List.getElem?_eq_some_iff.mp he).1
            have he3 : e < 36 := he2
            have hv : v.toNat < 36 := by omega
            have := hin ((e + 36 - v.toNat) % 36) (by omega)
            rw [show (v.toNat + (e + 36 - v.toNat) % 36) % 36 = e by omega, getD_of he] at this
            exact this
          rw [LET_len] at this
          omega
      refine ⟨by show 36 ≤ sizeLine; omega, LET[at_], at_ok (k := at_) rfl hLl, by rw [List.length_map, ones, List.length_map]; omega, T ++ [LET[at_]], .fz (.int (0 + (k : Int))), .fz (.int at_), w, ?_, by rw [List.length_append, hl]; rfl, ?_, ?_⟩
      · rw [show (ones (T ++ [LET[at_]])).map D.str = (ones T).map D.str ++ [.str [LET[at_]]] by simp [ones]]
        rfl
      · rw [List.nodup_append]
        exact ⟨nd, List.nodup_cons.mpr ⟨List.not_mem_nil, List.nodup_nil⟩, fun a ha b hb e => hnot (by rw [← List.mem_singleton.mp hb, ← e]; exact ha)⟩
      · intro c hc
        rcases List.mem_append.mp hc with z | z
        · exact hT c z
        · rw [List.mem_singleton.mp z]; exact List.getElem_mem hLl
  · rintro _ ⟨T, x, y, z, rfl, hl, nd, hT⟩
    rw [rngD_len] at hl
    refine .inr ⟨ones T, rfl, by rw [ones, List.length_map]; omega, fun ys hp hs => ?_⟩
    obtain ⟨A, rfl⟩ : ∃ A, ys = ones A := by
      have : ∀ y ∈ ys, ∃ c ∈ T, y = [c] := fun y hy => mem_ones.mp (hp.mem_iff.mp hy)
      clear hp hs
      induction ys with
      | nil => exact ⟨[], rfl⟩
      | cons y ys ih =>
        obtain ⟨A, h⟩ := ih fun z hz => this z (List.mem_cons_of_mem _ hz)
        obtain ⟨c, _, rfl⟩ := this y (List.mem_cons_self ..)
        exact ⟨c :: A, by rw [h]; rfl⟩
    have hp2 : A.Perm T := by
      have := hp.flatten
      rwa [ones_flat, ones_flat] at this
    refine ⟨ones A, rfl, ?_, ?_⟩
    · rw [ones_sum, hp2.length_eq]
      simp only [List.length_nil, Nat.mul_zero]
      omega
    · rw [if_neg (by decide), joinL_nil, ones_flat]
      refine q A ⟨by rw [hp2.length_eq]; omega, by rw [hp2.length_eq]; omega, fun c hc => hT c (hp2.mem_iff.mp hc), ?_⟩
      have nd2 := hp2.symm.nodup nd
      unfold ones at hs
      rw [List.pairwise_map] at hs
      have := hs.and nd2
      refine this.imp fun {a b} h => ?_
      have h1 : ¬ b < a := fun z => h.1 (by rw [List.cons_lt_cons_iff]; exact .inl z)
      omega
end Lb

set_option linter.all false
set_option maxRecDepth 100000
set_option maxHeartbeats 1000000
namespace Lb
open PySem PySem.Spec PyProof.Rows L2 DL
def S__law_free_word : DSp := fun ds Q => ∃ (A : List Nat) (row : List Int) (n : Nat) (i : Int), ds = [.str A, .lst (row.map .int), .int i] ∧ i = n ∧ n ≤ row.length ∧ n ≤ 100000 ∧ 1 ≤ A.length ∧ A.length ≤ 100 ∧ ∀ t, TextOf A t → t.length = n → Q (.str t)
def S__law_counting_word : DSp := fun ds Q => ∃ (A : List Nat) (n : Nat) (i : Int), ds = [.str A, .int i] ∧ i = n ∧ n ≤ 400 ∧ IsAlpha A ∧ Q (.str (cntT A n))
def Pword : List Int := [12, 46, 46] ++ List.replicate 46 6
def S__law_word : DSp := fun ds Q => ∃ (A : List Nat) (row : List Int) (n : Nat) (i : Int), ds = [.str A, .lst (row.map .int), .int i] ∧ i = n ∧ n ≤ 400 ∧ RowOk Pword row ∧ IsAlpha A ∧ ∀ t, TextOf A t → t.length ≤ n → Q (.str t)
def Plong : List Int := [8, 401, 6, 6, 6, 6, 6, 401]
def S__law_long_word : DSp := fun ds Q => ∃ (ns : List Int) (f : Int) (A : List Nat) (row : List Int), ds = [.scr ns, .int f, .str A, .lst (row.map .int)] ∧ 0 ≤ f ∧ f ≤ 1000 ∧ RowOk Plong row ∧ IsAlpha A ∧ ∀ t, TextOf A t → t.length ≤ 400 → Q (.str t)
theorem len__law_free_word : ∀ ds Q, S__law_free_word ds Q → ds.length = (["signs", "row", "many"] : List Str).length := by rintro _ _ ⟨_, _, _, _, rfl, _⟩; rfl
theorem len__law_counting_word : ∀ ds Q, S__law_counting_word ds Q → ds.length = (["signs", "many"] : List Str).length := by rintro _ _ ⟨_, _, _, rfl, _⟩; rfl
theorem len__law_word : ∀ ds Q, S__law_word ds Q → ds.length = (["signs", "row", "most"] : List Str).length := by rintro _ _ ⟨_, _, _, _, rfl, _⟩; rfl
theorem len__law_long_word : ∀ ds Q, S__law_long_word ds Q → ds.length = (["script", "first", "signs", "row"] : List Str).length := by rintro _ _ ⟨_, _, _, _, rfl, _⟩; rfl
theorem ones_app (l m : List Nat) : ones (l ++ m) = ones l ++ ones m := List.map_append
theorem rd__law_free_word (ds : List D) (Q : D → Prop) (h : S__law_free_word ds Q) : t__law_free_word { nx := fun _ => false = false ∧ Q .non, rt := Q } (startD 4 ds) := by
  obtain ⟨A, row, n, i, rfl, rfl, hn, hn2, hA, hA2, q⟩ := h
  have hsl : sizeLine = 16777216 := sizeLine_eq
  refine ⟨by omega, by omega, fun k acc e => ∃ t : List Nat, acc = (ones t).map .str ∧ e = [.fz (.str A), .fz (.lst (row.map .int)), .fz (.int n), .no] ∧ t.length = k ∧ TextOf A t, ⟨[], rfl, rfl, rfl, TextOf.nil⟩, ?_, ?_⟩
  · rintro k d acc e hd ⟨t, rfl, rfl, hl, ht⟩
    obtain ⟨hk, rfl⟩ := rngD_get hd
    have hk' : k < row.length := by omega
    have hm0 := Int.emod_nonneg row[k] (show (A.length : Int) ≠ 0 by omega)
    have hm1 := Int.emod_lt_of_pos row[k] (show 0 < (A.length : Int) by omega)
    have hx : (row[k] % (A.length : Int)).toNat < A.length := by omega
    refine ⟨fun _ => ⟨_, at_map (by omega) hk', by omega, by omega, by omega, A[(row[k] % (A.length : Int)).toNat], at_ok (by omega) hx, by rw [List.length_map, ones, List.length_map]; omega, t ++ [A[(row[k] % (A.length : Int)).toNat]], ?_, rfl, by rw [List.length_append, hl]; rfl, ht.app (TextOf.one (List.getElem_mem hx))⟩, fun z => nomatch z⟩
    rw [ones_app, List.map_append]; rfl
  · rintro acc e ⟨t, rfl, rfl, hl, ht⟩
    rw [rngD_len] at hl
    refine ⟨ones t, rfl, by rw [ones_sum]; simp; omega, ?_⟩
    rw [if_neg (by decide), joinL_nil, ones_flat]
    exact q t ht (by omega)
theorem strs_app (l m : List (List Nat)) : (l ++ m).map D.str = l.map D.str ++ m.map D.str := List.map_append
theorem rd__law_counting_word (ds : List D) (Q : D → Prop) (h : S__law_counting_word ds Q) : t__law_counting_word { nx := fun _ => false = false ∧ Q .non, rt := Q } (startD 8 ds) := by
  obtain ⟨A, n, i, rfl, rfl, hn, hA, q⟩ := h
  have hsl : sizeLine = 16777216 := sizeLine_eq
  have hA1 := hA.pos
  have hA6 := hA.six
  have fin : ∀ w : List Nat, w.length ≤ 100000 → w.take n = cntT A n → r__law_counting_word_2 { nx := fun _ => false = false ∧ Q .non, rt := Q } [.fz (.str A), .fz (.int n), .fz (.str w), .no, .no, .no, .no, .no] ∧ (w.length ≤ sizeLine ∧ Q (.str (cutD w none (some (n : Int))))) := fun w hw e => by
    have : w.length ≤ sizeLine ∧ Q (.str (cutD w none (some (n : Int)))) := ⟨by omega, by rw [cut_to w rfl, e]; exact q⟩
    exact ⟨this, this⟩
  refine ⟨by show 1 ≤ sizeLine; omega, by decide, by decide, ?_⟩
  refine ⟨fun k env => ∃ (w : List Nat) (st : List (List Nat)) (x4 x5 x6 : Sl), env = [.fz (.str A), .fz (.int n), .fz (.str w), .fz (.lst (st.map .str)), x4, x5, x6, .no] ∧ w.length ≤ 100000 ∧ ((w = cup A k ∧ st = lvlW A k) ∨ (n ≤ w.length ∧ w.take n = cntT A n)),
    ⟨[], [[]], _, _, _, rfl, by simp, .inl ⟨rfl, rfl⟩⟩, ?_, ?_⟩
  · rintro k d _ hd ⟨w, st, x4, x5, x6, rfl, hw, hor⟩
    obtain ⟨hk, rfl⟩ := rngD_get hd
    have hk4 : k < 400 := hk
    refine ⟨by omega, fun hb => ?_, fun hb => ?_⟩
    · have hb := of_decide_eq_true hb
      refine (fin w hw ?_).2
      rcases hor with ⟨e, _⟩ | ⟨_, e⟩
      · rw [e]
        exact cup_take hA1 (List.prefix_refl _) (by rw [← e]; omega)
      · exact e
    · have hb := of_decide_eq_false hb
      have hlt : w.length < n := by omega
      rcases hor with ⟨e1, e2⟩ | ⟨z, _⟩
      · refine ⟨Nat.zero_le _, ?_⟩
        have hst : ∀ s ∈ st, s.length = k := fun s hs => lvl_len k (by rw [← e2]; exact hs)
        refine ⟨fun j env => ∃ (m : Nat) (g : List (List Nat)) (x6 : Sl), env = [.fz (.str A), .fz (.int n), .fz (.str w), .fz (.lst (st.map .str)), .fz (.int (0 + (k : Int))), .fz (.lst (g.map .str)), x6, .no] ∧ m ≤ j ∧ g = (st.take m).flatMap (ext A) ∧ (m = j ∨ n + 6 * (k + 1) ≤ w.length + g.length * (k + 1)) ∧ w.length + g.length * (k + 1) < n + 12 * (k + 1),
          ⟨0, [], x6, rfl, Nat.le_refl _, by simp, .inl rfl, by simp; omega⟩, ?_, ?_⟩
        · rintro j d _ hd ⟨m, g, x6, rfl, hmj, hg, hmo, hsz⟩
          obtain ⟨s, hs, rfl⟩ := map_get hd
          have hsl2 : s.length = k := hst s (List.mem_of_getElem? hs)
          have hP : (((g.map D.str).length : Nat) : Int) * ((s.length : Int) + 1) = (g.length * (k + 1) : Nat) := by rw [List.length_map, hsl2, Int.natCast_mul]; rfl
          have hgl : g.length ≤ g.length * (k + 1) := Nat.le_mul_of_pos_right _ (by omega)
          refine ⟨by omega, by omega, mul_r (by omega) (by omega), by omega, mul_l (by omega) (by omega), fun hb => ?_, fun hb => ?_⟩
          · have hb := of_decide_eq_true hb
            have hmj2 : m = j := by
              rcases hmo with z | z
              · exact z
              · exfalso; omega
            subst hmj2
            refine ⟨fun i acc e => acc = ((A.take i).map fun c => s ++ [c]).map .str ∧ e = [.fz (.str A), .fz (.int n), .fz (.str w), .fz (.lst (st.map .str)), .fz (.int (0 + (k : Int))), .fz (.lst (g.map .str)), .fz (.str s), .no], ⟨rfl, rfl⟩, ?_, ?_⟩
            · rintro i d acc _ hd ⟨rfl, rfl⟩
              obtain ⟨c, hc, rfl⟩ := map_get hd
              have hiA := (List.getElem?_eq_some_iff.mp hc).1
              refine ⟨fun _ => ⟨by show s.length + 1 ≤ sizeLine; omega, by rw [List.length_map, List.length_map, List.length_take]; omega, ?_, rfl⟩, fun z => nomatch z⟩
              rw [List.take_succ, hc]
              simp
            · rintro acc _ ⟨rfl, rfl⟩
              have hlA : (List.map (fun c => D.str [c]) A).length = A.length := List.length_map _
              have hl6 : ((A.take (List.map (fun c => D.str [c]) A).length).map fun c => s ++ [c]) = ext A s := by rw [hlA, List.take_length]; rfl
              rw [hl6]
              have hlen : (g ++ ext A s).length = g.length + A.length := by rw [List.length_append, ext, List.length_map]
              refine ⟨by simp only [List.length_map, ext]; omega, m + 1, g ++ ext A s, .fz (.str s), ?_, Nat.le_refl _, ?_, .inl rfl, ?_⟩
              · rw [strs_app]; rfl
              · rw [List.take_succ, hs, List.flatMap_append, ← hg]
                simp
              · rw [hlen, Nat.add_mul]
                have : A.length * (k + 1) ≤ 6 * (k + 1) := Nat.mul_le_mul_right _ hA6
                omega
          · have hb := of_decide_eq_false hb
            refine ⟨m, g, .fz (.str s), rfl, by omega, hg, .inr ?_, hsz⟩
            omega
        · rintro _ ⟨m, g, x6, rfl, hmj, hg, hmo, hsz⟩
          have hgk : ∀ u ∈ g, u.length = k + 1 := fun u hu => lvl_len (A := A) (k + 1) (by
            rw [hg] at hu
            rw [lvlW, ← e2]
            exact (flatMap_take_pre m).subset hu)
          have hfl := flat_len hgk
          have hpre : w ++ g.flatten <+: cup A (k + 1) := by
            rw [cup, e1]
            refine (List.prefix_append_right_inj _).mpr (flatten_pre ?_)
            rw [hg, lvlW, ← e2]
            exact flatMap_take_pre m
          refine ⟨g, rfl, ?_, ?_⟩
          · rw [← List.length_flatten, hfl]; simp only [List.length_nil, Nat.mul_zero]; omega
          rw [if_neg (by decide), joinL_nil]
          refine ⟨by rw [hfl]; omega, ?_⟩
          show ∃ _, _
          refine ⟨w ++ g.flatten, g, .fz (.int (0 + (k : Int))), .fz (.lst (g.map .str)), x6, rfl, by rw [List.length_append, hfl]; omega, ?_⟩
          rcases hmo with z | z
          · refine .inl ⟨?_, ?_⟩
            · rw [cup, e1, hg, lvlW, ← e2, z, List.length_map, List.take_length]
            · rw [hg, lvlW, ← e2, z, List.length_map, List.take_length]
          · refine .inr ⟨by rw [List.length_append, hfl]; omega, cup_take hA1 hpre (by rw [List.length_append, hfl]; omega)⟩
      · exact absurd z (by omega)
  · rintro _ ⟨w, st, x4, x5, x6, rfl, hw, hor⟩
    refine (fin w hw ?_).2
    rcases hor with ⟨e, _⟩ | ⟨_, e⟩
    · rw [e]
      refine cup_take hA1 (List.prefix_refl _) ?_
      rw [rngD_len]
      have := cup_ge hA1 (Int.toNat 400)
      have h4 : Int.toNat 400 = 400 := rfl
      omega
    · exact e
end Lb

set_option linter.all false
set_option maxRecDepth 100000
set_option maxHeartbeats 1000000
namespace Lb
open PySem PySem.Spec PyProof.Rows L2 DL
theorem row_from {row : List Int} {i : Int} {k : Nat} (h : i = k) : cutD (row.map D.int) (some i) none = (row.drop k).map D.int := by rw [cut_map, cut_from row h]
theorem TextOf.getE {A t : List Nat} {k : Nat} (h : TextOf A t) (hk : k < t.length) : TextOf A [t[k]] := TextOf.one (h _ (List.getElem_mem hk))
theorem rd__law_word (ds : List D) (Q : D → Prop) (h : S__law_word ds Q) : t__law_word S__law_free_word S__law_counting_word { nx := fun _ => false = false ∧ Q .non, rt := Q } (startD 8 ds) := by
  obtain ⟨A, row, n, i, rfl, rfl, hn, hr, hA, q⟩ := h
  have hsl : sizeLine = 16777216 := sizeLine_eq
  have hA1 := hA.pos
  have hA6 := hA.six
  obtain ⟨x0, g0, a0, b0, c0⟩ := hr.get 0 (z := 12) rfl
  obtain ⟨x1, g1, a1, b1, c1⟩ := hr.get 1 (z := 46) rfl
  obtain ⟨x2, g2, a2, b2, c2⟩ := hr.get 2 (z := 46) rfl
  have hlen : row.length = 49 := hr.len
  refine ⟨.int x1, a1 _ rfl, ?_⟩
  obtain ⟨m, hm⟩ : ∃ m : Nat, min (n : Int) x1 = m := ⟨(min (n : Int) x1).toNat, by omega⟩
  have hmn : m ≤ n := by omega
  have hm46 : m ≤ 46 := by omega
  have fin : ∀ t, TextOf A t → t.length ≤ 1000000 → t.length ≤ sizeLine ∧ Q (.str (cutD t none (some (m : Int)))) := fun t ht hl => ⟨by omega, q _ (ht.cut _ _) (by have := cut_to_len t (i := (m : Int)) (by omega); omega)⟩
  refine cMin_eq hm ?_
  refine ⟨A, row.drop 3, 46, 46, by rw [row_from (i := 3) (k := 3) rfl], rfl, by rw [List.length_drop]; omega, by omega, by omega, by omega, fun fr hfr hfl => ?_⟩
  have frc : ∀ (lo hi : Option Int), (cutD fr lo hi).length ≤ 46 := fun lo hi => by have := cut_len fr lo hi; omega
  refine ⟨.int x0, a0 _ rfl, fun hb => fin fr hfr (by omega), fun hb => ?_⟩
  refine ⟨fun hb => ?_, fun hb => ?_⟩
  · refine ⟨.int x2, a2 _ rfl, by decide, by omega, by decide, ?_, by decide, fin _ ((hfr.cut _ _).rep _) ?_⟩
    · have := frc none (some (1 + x2 % 5)); rw [show Int.toNat 46 = 46 from rfl]; omega
    · have := frc none (some (1 + x2 % 5))
      rw [List.length_flatten, List.map_replicate, List.sum_replicate_nat, show Int.toNat 46 = 46 from rfl]
      omega
  refine ⟨fun hb => ?_, fun hb => ?_⟩
  · refine ⟨by decide, by decide, fun k acc e => ∃ ts : List (List Nat), acc = ts.map .str ∧ e = [.fz (.str A), .fz (.lst (row.map .int)), .fz (.int n), .fz (.int m), .fz (.str fr), .fz (.int x0), .no, .no] ∧ ts.length = k ∧ (∀ t ∈ ts, TextOf A t) ∧ (ts.map List.length).sum ≤ k * 7, ⟨[], rfl, rfl, rfl, (fun t h => by cases h), by simp⟩, ?_, ?_⟩
    · rintro k d acc e hd ⟨ts, rfl, rfl, hl, ht, hs⟩
      obtain ⟨hk, rfl⟩ := rngD_get hd
      have hk12 : k < 12 := hk
      have hz : Pword[15 + k]? = some 6 := by
        have : ∀ k : Nat, k < 12 → Pword[15 + k]? = some 6 := by decide
        exact this k hk12
      obtain ⟨v, gv, av, bv, cv⟩ := hr.get (15 + k) hz
      refine ⟨fun _ => ⟨by omega, fr[k], at_ok (by omega) (by omega), .int v, av _ (by omega), by omega, by show 1 * (1 + v).toNat ≤ sizeLine; omega, by omega, by rw [List.length_map]; omega, ts ++ [(List.replicate (1 + v).toNat [fr[k]]).flatten], ?_, rfl, by rw [List.length_append, hl]; rfl, ?_, ?_⟩, fun z => nomatch z⟩
      · rw [strs_app]; rfl
      · intro t h
        rcases List.mem_append.mp h with z | z
        · exact ht t z
        · rw [List.mem_singleton.mp z]; exact (hfr.getE (by omega)).rep _
      · rw [List.map_append, List.sum_append]
        simp only [List.map_cons, List.map_nil, List.sum_cons, List.sum_nil, List.length_flatten, List.map_replicate, List.sum_replicate_nat, List.length_cons, List.length_nil]
        omega
    · rintro acc e ⟨ts, rfl, rfl, hl, ht, hs⟩
      rw [rngD_len] at hl hs
      have h12 : Int.toNat 12 = 12 := rfl
      refine ⟨ts, rfl, by simp only [List.length_nil]; omega, ?_⟩
      rw [if_neg (by decide), joinL_nil]
      exact fin _ (TextOf.flat ht) (by rw [List.length_flatten]; omega)
  refine ⟨fun hb => ⟨A, m, _, rfl, rfl, by omega, hA, q _ (cntT_txt m) (by rw [cntT_len hA1]; omega)⟩, fun hb => ?_⟩
  refine ⟨fun hb => ?_, fun hb => ?_⟩
  · refine ⟨by omega, by decide, by decide, fun k env => ∃ (w : List Nat) (x7 : Sl), env = [.fz (.str A), .fz (.lst (row.map .int)), .fz (.int n), .fz (.int m), .fz (.str fr), .fz (.int x0), .fz (.str w), x7] ∧ TextOf A w ∧ w.length + 1 ≤ 3 * 2 ^ k, ⟨cutD fr none (some 2), _, rfl, hfr.cut _ _, by have := cut_to_len fr (i := 2) (by decide); omega⟩, ?_, ?_⟩
    · rintro k d _ hd ⟨w, x7, rfl, hw, hwl⟩
      obtain ⟨hk, rfl⟩ := rngD_get hd
      have hk5 : k < 5 := hk
      have h32 : 2 ^ k ≤ 32 := Nat.pow_le_pow_right (by decide) (show k ≤ 5 by omega)
      have e2 : 2 ^ (k + 1) = 2 * 2 ^ k := by rw [Nat.pow_succ, Nat.mul_comm]
      refine ⟨by omega, fr[2 + k], at_ok (by omega) (by omega), by simp only [List.length_cons, List.length_nil]; omega, by simp only [List.length_append, List.length_cons, List.length_nil]; omega, _, _, rfl, (hw.app (hfr.getE (by omega))).app hw, ?_⟩
      simp only [List.length_append, List.length_cons, List.length_nil]
      omega
    · rintro _ ⟨w, x7, rfl, hw, hwl⟩
      refine fin w hw ?_
      rw [rngD_len] at hwl
      have : 3 * 2 ^ (Int.toNat 5) = 96 := by decide
      omega
  refine ⟨fun hb => ?_, fun hb => ?_⟩
  · have h1 := frc none (some 3)
    have l1 : (List.replicate (Int.toNat 10) (cutD fr none (some 3))).flatten.length ≤ 460 := by
      rw [List.length_flatten, List.map_replicate, List.sum_replicate_nat, show Int.toNat 10 = 10 from rfl]; omega
    have l2 := cut_len (List.replicate (Int.toNat 10) (cutD fr none (some 3))).flatten none (some (x2 % 20))
    refine ⟨by omega, by decide, by rw [show Int.toNat 10 = 10 from rfl]; omega, by decide, .int x2, a2 _ rfl, by decide, by omega, by omega, fin _ ((((hfr.cut _ _).rep _).cut _ _).app hfr) (by rw [List.length_append]; omega)⟩
  · refine ⟨by omega, fr[0], at_ok (k := 0) rfl (by omega), by decide, by simp only [List.length_cons, List.length_nil]; rw [show Int.toNat 46 = 46 from rfl]; omega, by decide, fin _ ((hfr.getE (by omega)).rep _) ?_⟩
    rw [List.length_flatten, List.map_replicate, List.sum_replicate_nat, show Int.toNat 46 = 46 from rfl]
    simp only [List.length_cons, List.length_nil]; omega
def P60 : List Int := List.replicate 60 6
theorem rd__law_long_word (ds : List D) (Q : D → Prop) (h : S__law_long_word ds Q) : t__law_long_word S__law_free_word S__law_counting_word S__law_digits S__law_cell { nx := fun _ => false = false ∧ Q .non, rt := Q } (startD 11 ds) := by
  obtain ⟨ns, f, A, row, rfl, hf0, hf1, hr, hA, q⟩ := h
  have hsl : sizeLine = 16777216 := sizeLine_eq
  have hA1 := hA.pos
  have hA6 := hA.six
  obtain ⟨x0, g0, a0, b0, c0⟩ := hr.get 0 (z := 8) rfl
  obtain ⟨x1, g1, a1, b1, c1⟩ := hr.get 1 (z := 401) rfl
  obtain ⟨x7, g7, a7, b7, c7⟩ := hr.get 7 (z := 401) rfl
  have hlen : row.length = 8 := hr.len
  obtain ⟨m, rfl⟩ : ∃ m : Nat, x1 = m := ⟨x1.toNat, by omega⟩
  have fin : ∀ t, TextOf A t → t.length ≤ 1000000 → t.length ≤ sizeLine ∧ Q (.str (cutD t none (some (m : Int)))) := fun t ht hl => ⟨by omega, q _ (ht.cut _ _) (by have := cut_to_len t (i := (m : Int)) (by omega); omega)⟩
  have rpl : ∀ (t : List Nat) (k : Nat), (List.replicate k t).flatten.length = k * t.length := fun t k => by rw [List.length_flatten, List.map_replicate, List.sum_replicate_nat]
  refine ⟨.int m, a1 _ rfl, A, row.drop 2, 5, 5, by rw [row_from (i := 2) (k := 2) rfl], rfl, by rw [List.length_drop]; omega, by omega, by omega, by omega, fun fr hfr hfl => ?_⟩
  have frc : ∀ (lo hi : Option Int), (cutD fr lo hi).length ≤ 5 := fun lo hi => by have := cut_len fr lo hi; omega
  refine ⟨.int x0, a0 _ rfl, fun hb => ⟨by omega, fr[0], at_ok (k := 0) rfl (by omega), by decide, by simp only [List.length_cons, List.length_nil]; rw [show Int.toNat 400 = 400 from rfl]; omega, by decide, fin _ ((hfr.getE (by omega)).rep _) (by rw [rpl, show Int.toNat 400 = 400 from rfl]; simp only [List.length_cons, List.length_nil]; omega)⟩, fun hb => ?_⟩
  refine ⟨.int x0, a0 _ rfl, fun hb => ⟨by decide, by rw [show Int.toNat 80 = 80 from rfl]; omega, by decide, fin _ (hfr.rep _) (by rw [rpl, show Int.toNat 80 = 80 from rfl]; omega)⟩, fun hb => ?_⟩
  refine ⟨.int x0, a0 _ rfl, fun hb => ⟨A, m, _, rfl, rfl, by omega, hA, q _ (cntT_txt m) (by rw [cntT_len hA1]; omega)⟩, fun hb => ?_⟩
  have l2 := cut_to_len fr (i := 2) (by decide)
  have hw0 : TextOf A (cutD fr none (some 2)) := hfr.cut _ _
  refine ⟨by omega, .int x0, a0 _ rfl, fun hb => ?_, fun hb => ?_⟩
  · refine ⟨by decide, by decide, fun k env => ∃ (w : List Nat) (y7 y8 y9 y10 : Sl), env = [.fz (.scr ns), .fz (.int f), .fz (.str A), .fz (.lst (row.map .int)), .fz (.int m), .fz (.str fr), .fz (.str w), y7, y8, y9, y10] ∧ TextOf A w ∧ w.length + 1 ≤ 3 * 2 ^ k, ⟨_, _, _, _, _, rfl, hw0, by omega⟩, ?_, ?_⟩
    · rintro k d _ hd ⟨w, y7, y8, y9, y10, rfl, hw, hwl⟩
      obtain ⟨hk, rfl⟩ := rngD_get hd
      have hk8 : k < 8 := hk
      have h32 : 2 ^ k ≤ 256 := Nat.pow_le_pow_right (by decide) (show k ≤ 8 by omega)
      have e2 : 2 ^ (k + 1) = 2 * 2 ^ k := by rw [Nat.pow_succ, Nat.mul_comm]
      have hx : k % 3 + 2 < fr.length := by omega
      refine ⟨by decide, by omega, fr[k % 3 + 2], at_ok (by omega) hx, by simp only [List.length_cons, List.length_nil]; omega, by simp only [List.length_append, List.length_cons, List.length_nil]; omega, _, _, _, _, _, rfl, (hw.app (hfr.getE hx)).app hw, ?_⟩
      simp only [List.length_append, List.length_cons, List.length_nil]
      omega
    · rintro _ ⟨w, y7, y8, y9, y10, rfl, hw, hwl⟩
      refine fin w hw ?_
      rw [rngD_len] at hwl
      have : 3 * 2 ^ (Int.toNat 8) = 768 := by decide
      omega
  refine ⟨.int x0, a0 _ rfl, fun hb => ?_, fun hb => ?_⟩
  · have l3 : (List.replicate (Int.toNat 200) (cutD fr none (some 2))).flatten.length ≤ 400 := by rw [rpl, show Int.toNat 200 = 200 from rfl]; omega
    have l4 := cut_len (List.replicate (Int.toNat 200) (cutD fr none (some 2))).flatten none (some (x7 % ((m : Int) + 1)))
    refine ⟨.int x7, a7 _ rfl, by omega, by decide, by rw [show Int.toNat 200 = 200 from rfl]; omega, by decide, by omega, by omega, fr[2], at_ok (k := 2) rfl (by omega), by simp only [List.length_cons, List.length_nil]; omega, by decide, by rw [show Int.toNat 200 = 200 from rfl]; omega, by decide, by simp only [List.length_append, List.length_cons, List.length_nil]; omega, fin _ ((((hw0.rep _).cut _ _).app (hfr.getE (by omega))).app (hw0.rep _)) (by simp only [List.length_append, List.length_cons, List.length_nil]; omega)⟩
  · refine ⟨by decide, by decide, fun k acc e => ∃ rs : List (List Int), acc = rs.map (fun r => .lst (r.map .int)) ∧ e = [.fz (.scr ns), .fz (.int f), .fz (.str A), .fz (.lst (row.map .int)), .fz (.int m), .fz (.str fr), .fz (.str (cutD fr none (some 2))), .no, .no, .no, .no] ∧ rs.length = k ∧ ∀ r ∈ rs, RowOk P60 r, ⟨[], rfl, rfl, rfl, fun t h => by cases h⟩, ?_, ?_⟩
    · rintro k d acc e hd ⟨rs, rfl, rfl, hl, ht⟩
      obtain ⟨hk, rfl⟩ := rngD_get hd
      have hk7 : k < 7 := hk
      refine ⟨fun _ => ⟨ns, _, rfl, by omega, by omega, fun c => ⟨by show 1 ≤ sizeLine; omega, by decide, by show 1 * 60 ≤ sizeLine; omega, by decide, c, P60, rfl, by decide, by decide, fun r hr => ⟨by rw [List.length_map]; omega, rs ++ [r], ?_, rfl, by rw [List.length_append, hl]; rfl, ?_⟩⟩⟩, fun z => nomatch z⟩
      · rw [List.map_append]; rfl
      · intro t h
        rcases List.mem_append.mp h with z | z
        · exact ht t z
        · rw [List.mem_singleton.mp z]; exact hr
    · rintro acc e ⟨rs, rfl, rfl, hl, ht⟩
      rw [rngD_len] at hl
      have hl : rs.length = 7 := hl
      refine ⟨fun k acc e => ∃ ts : List (List Nat), acc = ts.map .str ∧ e = [.fz (.scr ns), .fz (.int f), .fz (.str A), .fz (.lst (row.map .int)), .fz (.int m), .fz (.str fr), .fz (.str (cutD fr none (some 2))), .fz (.lst (rs.map (fun r => .lst (r.map .int)))), .no, .no, .no] ∧ ts.length = k ∧ (∀ t ∈ ts, TextOf A t) ∧ (ts.map List.length).sum = k * 60, ⟨[], rfl, rfl, rfl, (fun t h => by cases h), by simp⟩, ?_, ?_⟩
      · rintro k d acc e hd ⟨ts, rfl, rfl, hl2, ht2, hs⟩
        obtain ⟨r, hr2, rfl⟩ := map_get hd
        have hrl : r.length = 60 := (ht r (List.mem_of_getElem? hr2)).len
        have hk := (List.getElem?_eq_some_iff.mp hr2).1
        refine ⟨fun _ => ⟨A, r, 60, _, rfl, rfl, by omega, by decide, by omega, by omega, fun t htt htl => ⟨by rw [List.length_map]; omega, ts ++ [t], ?_, rfl, by rw [List.length_append, hl2]; rfl, ?_, ?_⟩⟩, fun z => nomatch z⟩
        · rw [strs_app]; rfl
        · intro u h
          rcases List.mem_append.mp h with z | z
          · exact ht2 u z
          · rw [List.mem_singleton.mp z]; exact htt
        · rw [List.map_append, List.sum_append, hs]
          simp only [List.map_cons, List.map_nil, List.sum_cons, List.sum_nil, htl]
          omega
      · rintro acc e ⟨ts, rfl, rfl, hl2, ht2, hs⟩
        rw [List.length_map, hl] at hl2 hs
        refine ⟨ts, rfl, by simp only [List.length_nil]; omega, ?_⟩
        rw [if_neg (by decide), joinL_nil]
        exact fin _ (TextOf.flat ht2) (by rw [List.length_flatten]; omega)
def S__law_width : DSp := fun ds Q => ∃ (n : Nat) (i : Int), ds = [.int i] ∧ i = n ∧ 1 ≤ n ∧ n ≤ 2 ^ 400 ∧ ∀ r : Int, r = (W n : Nat) → Q (.int r)
theorem len__law_width : ∀ ds Q, S__law_width ds Q → ds.length = (["many"] : List Str).length := by rintro _ _ ⟨_, _, rfl, _⟩; rfl
theorem rd__law_width (ds : List D) (Q : D → Prop) (h : S__law_width ds Q) : t__law_width { nx := fun _ => false = false ∧ Q .non, rt := Q } (startD 4 ds) := by
  obtain ⟨n, i, rfl, rfl, h1, h2, q⟩ := h
  have fin : ∀ k : Nat, W n ≤ k → (∀ j, j < k → 2 ^ j < n) → ∀ r : Int, r = k → Q (.int r) := fun k hk hj r hr => by
    refine q r ?_
    have : ¬ W n < k := fun z => by
      have := hj (W n) z
      have := W_self h1
      omega
    omega
  refine ⟨by decide, by decide, fun k env => ∃ (w t : Int) (x : Sl), env = [.fz (.int n), .fz (.int w), .fz (.int t), x] ∧ w = k ∧ t = (2 ^ k : Nat) ∧ ∀ j, j < k → 2 ^ j < n,
    ⟨_, _, _, rfl, rfl, rfl, fun j hj => absurd hj (Nat.not_lt_zero _)⟩, ?_, ?_⟩
  · rintro k d _ hd ⟨w, t, x, rfl, rfl, rfl, hj⟩
    obtain ⟨hk, rfl⟩ := rngD_get hd
    refine ⟨fun h => ?_, fun h => ?_⟩
    · have := of_decide_eq_true h
      exact fin k (by rw [W_le h1]; omega) hj _ rfl
    · have := of_decide_eq_false h
      refine ⟨mul_r (by decide) (by decide), _, _, _, rfl, rfl, by rw [Nat.pow_succ]; rfl, fun j hj2 => ?_⟩
      by_cases e : j = k
      · subst e; omega
      · exact hj j (by omega)
  · rintro _ ⟨w, t, x, rfl, rfl, rfl, hj⟩
    rw [rngD_len] at hj ⊢
    exact fin 400 (by rw [W_le h1]; exact h2) hj _ rfl
end Lb

set_option linter.all false
set_option maxRecDepth 100000
set_option maxHeartbeats 1000000
namespace Lb
open PySem PySem.Spec PyProof.Rows L2 DL
mutual
def frz : D → D
  | .lst ds => .tup (frzs ds)
  | .tup ds => .tup (frzs ds)
  | d => d
def frzs : List D → List D
  | [] => []
  | d :: ds => frz d :: frzs ds
end
mutual
def dep : Nat → D → Bool
  | n + 1, .lst ds => decide (ds.length < 16777216) && deps n ds
  | n + 1, .tup ds => decide (ds.length < 16777216) && deps n ds
  | 0, .lst _ => false
  | 0, .tup _ => false
  | _, d => plainD d
def deps : Nat → List D → Bool
  | _, [] => true
  | n, d :: ds => dep n d && deps n ds
end
theorem frzs_map : ∀ ds : List D, frzs ds = ds.map frz
  | [] => rfl
  | d :: ds => by rw [frzs, frzs_map ds]; rfl
theorem deps_all {n : Nat} : ∀ {ds : List D}, deps n ds = true → ∀ d ∈ ds, dep n d = true
  | [], _, d, h => by cases h
  | x :: ds, h, d, hd => by
    rw [deps, Bool.and_eq_true] at h
    rcases List.mem_cons.mp hd with z | z
    · rw [z]; exact h.1
    · exact deps_all h.2 d z
theorem deps_of {n : Nat} : ∀ {ds : List D}, (∀ d ∈ ds, dep n d = true) → deps n ds = true
  | [], _ => rfl
  | x :: ds, h => by
    rw [deps, Bool.and_eq_true]
    exact ⟨h x (List.mem_cons_self ..), deps_of fun d hd => h d (List.mem_cons_of_mem _ hd)⟩
def S_frozen : Nat → DSp
  | 0 => fun _ _ => False
  | n + 1 => fun ds Q => ∃ d, ds = [d] ∧ dep n d = true ∧ Q (frz d)
theorem len_frozen : ∀ n ds Q, S_frozen n ds Q → ds.length = (["value"] : List Str).length
  | 0, _, _, h => h.elim
  | _ + 1, _, _, ⟨_, e, _⟩ => by rw [e]; rfl
theorem rd_frozen (n : Nat) (ds : List D) (Q : D → Prop) (h : S_frozen (n + 1) ds Q) : t_frozen (S_frozen n) { nx := fun _ => false = false ∧ Q .non, rt := Q } (startD 2 ds) := by
  obtain ⟨d, rfl, hd, q⟩ := h
  have hsl : sizeLine = 16777216 := sizeLine_eq
  have body : ∀ (m : Nat) (d0 : D) (xs : List D), n = m + 1 → (d0 = .lst xs ∨ d0 = .tup xs) → xs.length < 16777216 → deps m xs = true → Q (.tup (frzs xs)) →
      dRet (dCal cTupc (dLc (dItS (dVar 0)) (gNm 1) dTru (dCall (S_frozen n) (dCons (dVar 1) dNil)) [1])) { nx := dRet (dVar 0) { nx := fun _ => false = false ∧ Q .non, rt := Q }, rt := Q } [.fz d0, .no] := by
    intro m d0 xs hn h0 hl hdp q
    subst hn
    have key : ∀ Q2 : List D → DEnv → Prop, (∃ I : Nat → List D → DEnv → Prop, I 0 [] [.fz d0, .no] ∧
        (∀ k d acc e, xs[k]? = some d → I k acc e → gNm 1 d e fun e2 => dTru e2 fun b e3 => br b (dCall (S_frozen (m + 1)) (dCons (dVar 1) dNil) e3 fun z e4 => acc.length < sizeLine ∧ I (k + 1) (acc ++ [z]) (noS e4 [1])) (I (k + 1) acc (noS e3 [1]))) ∧
        ∀ acc e, I xs.length acc e → Q (.tup acc)) := fun Q2 => by
      refine ⟨fun k acc e => acc = (xs.take k).map frz ∧ e = [.fz d0, .no], ⟨rfl, rfl⟩, ?_, ?_⟩
      · rintro k d acc e hd2 ⟨rfl, rfl⟩
        have hk := (List.getElem?_eq_some_iff.mp hd2).1
        refine ⟨fun _ => ⟨d, rfl, deps_all hdp d (List.mem_of_getElem? hd2), ?_, ?_, rfl⟩, fun z => nomatch z⟩
        · rw [List.length_map, List.length_take]; omega
        · rw [List.take_succ, hd2]; simp
      · rintro acc e ⟨rfl, rfl⟩
        rw [List.take_length, ← frzs_map]
        exact q
    rcases h0 with rfl | rfl
    · exact key fun _ _ => True
    · exact key fun _ _ => True
  cases d with
  | lst xs =>
    cases n with
    | zero => cases hd
    | succ m =>
      rw [dep, Bool.and_eq_true] at hd
      refine ⟨rfl, fun _ => body m _ xs rfl (.inl rfl) (of_decide_eq_true hd.1) hd.2 q, fun z => nomatch z⟩
  | tup xs =>
    cases n with
    | zero => cases hd
    | succ m =>
      rw [dep, Bool.and_eq_true] at hd
      refine ⟨rfl, fun _ => body m _ xs rfl (.inr rfl) (of_decide_eq_true hd.1) hd.2 q, fun z => nomatch z⟩
  | scr xs => cases n <;> cases hd
  | ins C fs xs => cases n <;> cases hd
  | exc C fs xs => cases n <;> cases hd
  | non => exact ⟨rfl, (fun z => nomatch z), fun _ => q⟩
  | bl b => exact ⟨rfl, (fun z => nomatch z), fun _ => q⟩
  | int b => exact ⟨rfl, (fun z => nomatch z), fun _ => q⟩
  | str b => exact ⟨rfl, (fun z => nomatch z), fun _ => q⟩
  | dk b c => exact ⟨rfl, (fun z => nomatch z), fun _ => q⟩
  | dt b c => exact ⟨rfl, (fun z => nomatch z), fun _ => q⟩
def S_is_whole : DSp := fun ds Q => ∃ d, ds = [d] ∧ plainD d = true ∧ Q (.bl (match d with | .int _ => true | _ => false))
def S_check_alphabet : DSp := fun ds Q => ∃ A : List Nat, ds = [.str A] ∧ IsAlpha A ∧ Q .non
def S_check_text : DSp := fun ds Q => ∃ A t : List Nat, ds = [.str A, .str t] ∧ TextOf A t ∧ Q .non
def S_check_both : DSp := fun ds Q => ∃ A t : List Nat, ds = [.str A, .str t] ∧ IsAlpha A ∧ TextOf A t ∧ Q .non
theorem len_is_whole : ∀ ds Q, S_is_whole ds Q → ds.length = (["value"] : List Str).length := by rintro _ _ ⟨_, rfl, _⟩; rfl
theorem len_check_alphabet : ∀ ds Q, S_check_alphabet ds Q → ds.length = (["alphabet"] : List Str).length := by rintro _ _ ⟨_, rfl, _⟩; rfl
theorem len_check_text : ∀ ds Q, S_check_text ds Q → ds.length = (["alphabet", "text"] : List Str).length := by rintro _ _ ⟨_, _, rfl, _⟩; rfl
theorem len_check_both : ∀ ds Q, S_check_both ds Q → ds.length = (["alphabet", "text"] : List Str).length := by rintro _ _ ⟨_, _, rfl, _⟩; rfl
theorem rd_is_whole (ds : List D) (Q : D → Prop) (h : S_is_whole ds Q) : t_is_whole { nx := fun _ => false = false ∧ Q .non, rt := Q } (startD 1 ds) := by
  obtain ⟨d, rfl, hp, q⟩ := h
  cases d with
  | int i => exact ⟨rfl, fun _ => ⟨rfl, q⟩, fun z => nomatch z⟩
  | bl i => exact ⟨rfl, fun _ => ⟨rfl, q⟩, fun z => nomatch z⟩
  | ins C fs xs => cases hp
  | exc C fs xs => cases hp
  | scr xs => cases hp
  | _ => exact ⟨rfl, (fun z => nomatch z), fun _ => q⟩
theorem rd_check_alphabet (ds : List D) (Q : D → Prop) (h : S_check_alphabet ds Q) : t_check_alphabet { nx := fun _ => false = false ∧ Q .non, rt := Q } (startD 3 ds) := by
  obtain ⟨A, rfl, hA, q⟩ := h
  have hsl : sizeLine = 16777216 := sizeLine_eq
  have h1 := hA.pos
  have h6 := hA.six
  refine ⟨by omega, fun _ => ⟨fun h => absurd h (by simpa using (show (A.length : Int) ≤ 6 by omega)), fun _ => ?_⟩, fun z => absurd z (by simpa using (show (1 : Int) ≤ A.length by omega))⟩
  refine ⟨fun k env => ∃ x y : Sl, env = [.fz (.str A), x, y], ⟨_, _, rfl⟩, ?_, fun _ _ => ⟨rfl, q⟩⟩
  rintro k d _ hd ⟨x, y, rfl⟩
  obtain ⟨e, he, rfl⟩ := enD_get hd
  obtain ⟨c, hc, rfl⟩ := map_get he
  have hk := (List.getElem?_eq_some_iff.mp hc).1
  have hcA : c ∈ A := List.mem_of_getElem? hc
  refine ⟨rfl, c, rfl, fun z => absurd (hA.let_ c hcA) (by have z := of_decide_eq_false (Bool.not_eq_true' _ ▸ z : decide (c ∈ LET) = false); exact z), fun _ => ⟨fun z => ?_, fun _ => ⟨(fun z => nomatch z), fun _ => ⟨_, _, rfl⟩⟩⟩⟩
  have hk0 : 0 < k := by have := of_decide_eq_true z; omega
  have hasc := List.pairwise_iff_getElem.mp hA.asc (k - 1) k (by omega) hk (by omega)
  have hck : A[k] = c := Option.some.inj ((List.getElem?_eq_getElem hk).symm.trans hc)
  refine ⟨by omega, A[k - 1], at_ok (by omega) (by omega), fun z => ?_, fun _ => ⟨_, _, rfl⟩⟩
  exfalso
  have z2 : ¬ [A[k - 1]] < [c] := by simpa using z
  exact z2 (by rw [List.cons_lt_cons_iff]; exact .inl (by omega))
theorem rd_check_text (ds : List D) (Q : D → Prop) (h : S_check_text ds Q) : t_check_text { nx := fun _ => false = false ∧ Q .non, rt := Q } (startD 4 ds) := by
  obtain ⟨A, t, rfl, ht, q⟩ := h
  refine ⟨fun k env => ∃ x y : Sl, env = [.fz (.str A), .fz (.str t), x, y], ⟨_, _, rfl⟩, ?_, fun _ _ => ⟨rfl, q⟩⟩
  rintro k d _ hd ⟨x, y, rfl⟩
  obtain ⟨e, he, rfl⟩ := enD_get hd
  obtain ⟨c, hc, rfl⟩ := map_get he
  have hcA : c ∈ A := ht c (List.mem_of_getElem? hc)
  exact ⟨rfl, c, rfl, fun z => absurd hcA (by simpa only [Bool.not_eq_true', decide_eq_false_iff_not] using z), fun _ => ⟨_, _, rfl⟩⟩
theorem rd_check_both (ds : List D) (Q : D → Prop) (h : S_check_both ds Q) : t_check_both S_check_alphabet S_check_text { nx := fun _ => false = false ∧ Q .non, rt := Q } (startD 2 ds) := by
  obtain ⟨A, t, rfl, hA, ht, q⟩ := h
  exact ⟨A, rfl, hA, A, t, rfl, ht, rfl, q⟩
def rowD (r : Row) : D := .tup [.int (r.1 : Nat), .str [r.2]]
def rowsD (rows : List Row) : List D := rows.map rowD
def S_is_good_row : DSp := fun ds Q => ∃ (A : List Nat) (r : Row) (k : Nat) (i : Int), ds = [.str A, rowD r, .int i] ∧ i = k ∧ r.1 ≤ k ∧ r.2 ∈ A ∧ Q (.bl true)
def S_check_rows : DSp := fun ds Q => ∃ (A : List Nat) (rows : List Row), ds = [.str A, .tup (rowsD rows)] ∧ GoodA A rows ∧ rows.length < 16777216 ∧ Q .non
def S_texts_of_pieces : DSp := fun ds Q => ∃ (rows : List Row), ds = [.tup (rowsD rows)] ∧ Good rows ∧ rows.length < 16000000 ∧ ((pcs rows).map List.length).sum < 16000000 ∧ Q (.lst ((pcs rows).map .str))
def acc : Nat → List (List Nat) → List Nat
  | a, [] => [a]
  | a, t :: ts => a :: acc (a + t.length) ts
def S_starts_of : DSp := fun ds Q => ∃ ts : List (List Nat), ds = [.tup (ts.map .str)] ∧ ts.length < 16000000 ∧ (∀ t ∈ ts, t.length ≤ 16000000) ∧ Q (.lst (nats (acc 0 (ts.drop 1))))
theorem len_is_good_row : ∀ ds Q, S_is_good_row ds Q → ds.length = (["alphabet", "row", "index"] : List Str).length := by rintro _ _ ⟨_, _, _, _, rfl, _⟩; rfl
theorem len_check_rows : ∀ ds Q, S_check_rows ds Q → ds.length = (["alphabet", "rows"] : List Str).length := by rintro _ _ ⟨_, _, rfl, _⟩; rfl
theorem len_texts_of_pieces : ∀ ds Q, S_texts_of_pieces ds Q → ds.length = (["rows"] : List Str).length := by rintro _ _ ⟨_, rfl, _⟩; rfl
theorem len_starts_of : ∀ ds Q, S_starts_of ds Q → ds.length = (["texts"] : List Str).length := by rintro _ _ ⟨_, rfl, _⟩; rfl
theorem rd_is_good_row (ds : List D) (Q : D → Prop) (h : S_is_good_row ds Q) : t_is_good_row S_is_whole { nx := fun _ => false = false ∧ Q .non, rt := Q } (startD 5 ds) := by
  obtain ⟨A, ⟨p, c⟩, k, i, rfl, rfl, hp, hc, q⟩ := h
  have hp : p ≤ k := hp
  refine ⟨rfl, .int p, rfl, rfl, (fun z => nomatch z), fun _ => ⟨fun _ => ⟨fun z => ?_, fun _ => ⟨rfl, fun _ => ⟨by show 1 ≤ sizeLine; rw [sizeLine_eq]; decide, fun _ => ⟨c, rfl, ?_⟩, fun z => nomatch z⟩, fun z => nomatch z⟩⟩, fun z => ?_⟩⟩
  · exact absurd z (by simpa using hp)
  · rw [decide_eq_true hc]; exact q
  · exact absurd z (by simp)
def kRow (r : Row) : List Key := [.inl (r.1 : Nat), .inr ⟨#[r.2]⟩]
theorem kRow_inj {r s : Row} (h : kRow r = kRow s) : r = s := by
  obtain ⟨a, b⟩ := r
  obtain ⟨c, d⟩ := s
  unfold kRow at h
  simp at h
  exact Prod.ext (by omega) h.2
theorem kRow_mem {r : Row} {rows : List Row} : kRow r ∈ rows.map kRow ↔ r ∈ rows := by
  rw [List.mem_map]
  exact ⟨fun ⟨s, h, e⟩ => by rw [← kRow_inj e]; exact h, fun h => ⟨r, h, rfl⟩⟩
theorem lk_none {α : Type} [DecidableEq α] {k : α} : ∀ {ks : List α} {ds : List D}, ks.length = ds.length → k ∉ ks → lkK k ks ds = none
  | [], _, _, _ => by cases ‹List D› <;> rfl
  | g :: ks, [], h, _ => by simp at h
  | g :: ks, d :: ds, h, hn => by
    rw [List.mem_cons, not_or] at hn
    rw [lkK, if_neg (fun z => hn.1 z.symm)]
    exact lk_none (by simpa using h) hn.2
theorem lk_at {α : Type} [DecidableEq α] {k : α} : ∀ {ks : List α} {ds : List D} {i : Nat} {d : D}, ks.Nodup → ks[i]? = some k → ds[i]? = some d → lkK k ks ds = some d
  | [], _, i, _, _, h, _ => by simp at h
  | g :: ks, [], i, _, _, _, h => by simp at h
  | g :: ks, x :: ds, 0, d, nd, h, h2 => by
    have : g = k := by simpa using h
    rw [lkK, if_pos this]
    simpa using h2
  | g :: ks, x :: ds, i + 1, d, nd, h, h2 => by
    rw [List.nodup_cons] at nd
    have hk : ks[i]? = some k := by simpa using h
    have : g ≠ k := fun z => nd.1 (by rw [z]; exact List.mem_of_getElem? hk)
    rw [lkK, if_neg this]
    exact lk_at nd.2 hk (by simpa using h2)
theorem rd_check_rows (ds : List D) (Q : D → Prop) (h : S_check_rows ds Q) : t_check_rows S_is_good_row { nx := fun _ => false = false ∧ Q .non, rt := Q } (startD 5 ds) := by
  obtain ⟨A, rows, rfl, g, hl, q⟩ := h
  have hsl : sizeLine = 16777216 := sizeLine_eq
  refine ⟨fun k env => ∃ x y : Sl, env = [.fz (.str A), .fz (.tup (rowsD rows)), .ow (.dt ((rows.take k).map kRow) (List.replicate (rows.take k).length (.bl true))), x, y], ⟨_, _, rfl⟩, ?_, fun _ _ => ⟨rfl, q⟩⟩
  rintro k d _ hd ⟨x, y, rfl⟩
  obtain ⟨e, he, rfl⟩ := enD_get hd
  obtain ⟨r, hr, rfl⟩ := map_get he
  have hk := (List.getElem?_eq_some_iff.mp hr).1
  have hck : rows[k] = r := Option.some.inj ((List.getElem?_eq_getElem hk).symm.trans hr)
  have hnot : r ∉ rows.take k := fun z => by
    have nd := g.nd
    rw [← List.take_append_drop k rows, List.nodup_append, List.drop_eq_getElem_cons hk, hck] at nd
    exact nd.2.2 r z r (List.mem_cons_self ..) rfl
  have hlen : ((rows.take k).map kRow).length = (List.replicate (rows.take k).length (D.bl true)).length := by rw [List.length_map, List.length_replicate]
  refine ⟨rfl, A, r, k, _, rfl, rfl, g.par k r hr, g.ltr r (List.mem_of_getElem? hr), fun z => (nomatch z), fun _ => ⟨hlen, _, kRow r, rfl, rfl, ?_⟩⟩
  rw [lk_none hlen (fun z => hnot (kRow_mem.mp z))]
  refine ⟨fun z => (nomatch z), fun _ => ⟨hlen, by rw [List.length_replicate, List.length_take]; omega, _, kRow r, rfl, rfl, .fz (.int (k : Nat)), .fz (rowD r), ?_⟩⟩
  have e1 : putKs (kRow r) ((rows.take k).map kRow) = (rows.take (k + 1)).map kRow := by
    unfold putKs
    rw [if_neg (fun z => hnot (kRow_mem.mp z)), List.take_succ, hr]
    simp
  have e2 : putDs (kRow r) (D.bl true) ((rows.take k).map kRow) (List.replicate (rows.take k).length (D.bl true)) = List.replicate (rows.take (k + 1)).length (D.bl true) := by
    unfold putDs
    rw [if_neg (fun z => hnot (kRow_mem.mp z)), List.take_succ, hr, List.length_append]
    show _ = List.replicate ((rows.take k).length + 1) _
    rw [List.replicate_succ']
  rw [e1, e2]
  rfl
theorem pcs_le {rows : List Row} {t : List Nat} (h : t ∈ pcs rows) : t.length ≤ ((pcs rows).map List.length).sum := by
  generalize pcs rows = l at h
  induction l with
  | nil => cases h
  | cons x l ih =>
    rw [List.map_cons, List.sum_cons]
    rcases List.mem_cons.mp h with z | z
    · rw [z]; omega
    · have := ih z; omega
theorem pcs_take_pre (rows : List Row) : ∀ k, pcs (rows.take k) <+: pcs rows := fun k => by
  have : ∀ xs ys : List Row, pcs xs <+: pcs (xs ++ ys) := fun xs ys => by
    induction ys using snoc_ind with
    | h0 => rw [List.append_nil]; exact List.prefix_refl _
    | hs l x ih => rw [← List.append_assoc, pcs_snoc]; exact ih.trans (List.prefix_append _ _)
  have h := this (rows.take k) (rows.drop k)
  rwa [List.take_append_drop] at h
theorem rd_texts_of_pieces (ds : List D) (Q : D → Prop) (h : S_texts_of_pieces ds Q) : t_texts_of_pieces { nx := fun _ => false = false ∧ Q .non, rt := Q } (startD 4 ds) := by
  obtain ⟨rows, rfl, g, hl, hs, q⟩ := h
  have hsl : sizeLine = 16777216 := sizeLine_eq
  refine ⟨by show 1 ≤ sizeLine; omega, fun k env => ∃ x y : Sl, env = [.fz (.tup (rowsD rows)), .ow (.lst ((pcs (rows.take k)).map .str)), x, y], ⟨_, _, rfl⟩, ?_, ?_⟩
  · rintro k d _ hd ⟨x, y, rfl⟩
    obtain ⟨r, hr, rfl⟩ := map_get hd
    have hk := (List.getElem?_eq_some_iff.mp hr).1
    have hpl := pcs_len (rows.take k)
    rw [List.length_take] at hpl
    have hp := g.par k r hr
    have hlt : r.1 < (pcs (rows.take k)).length := by omega
    have hmem : (pcs (rows.take k))[r.1] ∈ pcs rows := (pcs_take_pre rows k).subset (List.getElem_mem hlt)
    have hle := pcs_le hmem
    refine ⟨rfl, trivial, .str (pcs (rows.take k))[r.1], at_map rfl hlt, by show _ + 1 ≤ sizeLine; omega, by rw [List.length_map]; omega, .fz (.int (r.1 : Nat)), .fz (.str [r.2]), ?_⟩
    rw [show pcs (rows.take (k + 1)) = pcs (rows.take k) ++ [(pcs (rows.take k))[r.1] ++ [r.2]] by
      rw [List.take_succ, hr]
      show pcs (rows.take k ++ [r]) = _
      rw [pcs_snoc, getD_of (List.getElem?_eq_getElem hlt)]]
    rw [List.map_append]
    rfl
  · rintro _ ⟨x, y, rfl⟩
    show Q _
    rw [rowsD, List.length_map, List.take_length]
    exact q
theorem acc_snoc : ∀ (ts : List (List Nat)) (a : Nat) (t : List Nat), acc a (ts ++ [t]) = acc a ts ++ [a + (ts.map List.length).sum + t.length]
  | [], a, t => by simp [acc]
  | x :: ts, a, t => by
    rw [List.cons_append, acc, acc, acc_snoc ts, List.map_cons, List.sum_cons, List.cons_append]
    congr 3
    omega
theorem acc_last : ∀ (ts : List (List Nat)) (a : Nat), ∃ l, acc a ts = l ++ [a + (ts.map List.length).sum] := fun ts a => by
  induction ts using snoc_ind with
  | h0 => exact ⟨[], by simp [acc]⟩
  | hs l x ih => exact ⟨acc a l, by rw [acc_snoc, List.map_append, List.sum_append]; simp; omega⟩
theorem acc_len : ∀ (ts : List (List Nat)) (a : Nat), (acc a ts).length = ts.length + 1
  | [], _ => rfl
  | _ :: ts, a => by rw [acc, List.length_cons, acc_len ts, List.length_cons]
theorem atI_last {α : Type} (l : List α) (x : α) : atI (l ++ [x]) (-1) = some x := by
  unfold atI ixN
  rw [if_neg (by decide), if_pos (by rw [List.length_append]; simp; omega)]
  show (l ++ [x])[((-1 : Int) + ((l ++ [x]).length : Nat)).toNat]? = _
  have : ((-1 : Int) + ((l ++ [x]).length : Nat)).toNat = l.length := by rw [List.length_append]; simp; omega
  rw [this]
  simp
theorem rd_starts_of (ds : List D) (Q : D → Prop) (h : S_starts_of ds Q) : t_starts_of { nx := fun _ => false = false ∧ Q .non, rt := Q } (startD 3 ds) := by
  obtain ⟨ts, rfl, hl, hb, q⟩ := h
  have hsl : sizeLine = 16777216 := sizeLine_eq
  have ec : cutD (ts.map D.str) (some 1) none = (ts.drop 1).map D.str := by rw [cut_map, cut_from (i := 1) (k := 1) ts rfl]
  refine ⟨by show 1 ≤ sizeLine; omega, fun k env => ∃ x : Sl, env = [.fz (.tup (ts.map .str)), .ow (.lst (nats (acc 0 ((ts.drop 1).take k)))), x], ⟨_, rfl⟩, ?_, ?_⟩
  · rintro k d _ hd ⟨x, rfl⟩
    rw [ec] at hd
    obtain ⟨t, ht, rfl⟩ := map_get hd
    have hk := (List.getElem?_eq_some_iff.mp ht).1
    have htb := hb t (List.mem_of_mem_drop (List.mem_of_getElem? ht))
    rw [List.length_drop] at hk
    obtain ⟨l, hl2⟩ := acc_last ((ts.drop 1).take k) 0
    have hat : atI (nats (acc 0 ((ts.drop 1).take k))) (-1) = some (.int (0 + (((ts.drop 1).take k).map List.length).sum : Nat)) := by
      rw [hl2]
      unfold nats
      rw [atI_map]
      have : atI (l ++ [0 + (((ts.drop 1).take k).map List.length).sum]) (-1) = some (0 + (((ts.drop 1).take k).map List.length).sum) := by
        exact atI_last l _
      rw [this]
      rfl
    refine ⟨trivial, _, hat, by omega, by rw [nats_len, acc_len, List.length_take, List.length_drop]; omega, .fz (.str t), ?_⟩
    rw [List.take_succ, ht]
    show _ = [_, Sl.ow (.lst (nats (acc 0 ((ts.drop 1).take k ++ [t])))), _]
    rw [acc_snoc, nats_app]
    rfl
  · rintro _ ⟨x, rfl⟩
    show Q _
    rw [ec, List.length_map, List.take_length]
    exact q
end Lb

set_option linter.all false
set_option maxRecDepth 100000
set_option maxHeartbeats 1000000
namespace Lb
open PySem PySem.Spec PyProof.Rows L2 DL
def cutFs : List Str := ["alphabet", "rows", "tail", "many", "pieces", "text", "starts"]
def cutVs (A : List Nat) (rows : List Row) (tail : Nat) : List D := [.str A, .tup (rowsD rows), .int (tail : Nat), .int (rows.length : Nat), .tup ((pcs rows).map .str), .str ((pcs rows).flatten ++ (pcs rows).getD tail []), .tup (nats (acc 0 ((pcs rows).drop 1)))]
def cutI (Ad : Str → Addr) (A : List Nat) (rows : List Row) (tail : Nat) : D := .ins (Ad "Cut") cutFs (cutVs A rows tail)
def S_Cut (Ad : Str → Addr) : DSp := fun ds Q => ∃ (A : List Nat) (rows : List Row) (tail : Nat) (d : D) (i : Int), ds = [.str A, d, .int i] ∧ i = tail ∧ frz d = .tup (rowsD rows) ∧ dep 2 d = true ∧ IsAlpha A ∧ GoodA A rows ∧ tail ≤ rows.length ∧ rows.length < 15000000 ∧ ((pcs rows).map List.length).sum < 8000000 ∧ Q (cutI Ad A rows tail)
theorem len_Cut_init (Ad : Str → Addr) : ∀ ds Q, S_Cut Ad ds Q → ds.length + 1 = (["self", "alphabet", "rows", "tail"] : List Str).length := by rintro _ _ ⟨_, _, _, _, _, rfl, _⟩; rfl
theorem rd_Cut_init (Ad : Str → Addr) (p : Addr) (ds : List D) (Q : D → Prop) (h : S_Cut Ad ds Q) : t_Cut_init Ad S_check_alphabet (S_frozen 3) S_check_rows S_is_whole S_texts_of_pieces S_starts_of { nx := fun env => meD (gs env 0) fun p' d => p' = p ∧ Q d, rt := fun _ => False } (initD (Ad "Cut") p 4 ds) := by
  obtain ⟨A, rows, tail, d, i, rfl, rfl, hd, hdep, hA, g, ht, hl, hs, q⟩ := h
  have hsl : sizeLine = 16777216 := sizeLine_eq
  have hpl := pcs_len rows
  have hC : Ad "Cut" ∈ ([Ad "Cut"] : List Addr) := List.mem_singleton.mpr rfl
  have htl : tail < (pcs rows).length := by omega
  have hle := pcs_le (List.getElem_mem htl)
  refine ⟨A, rfl, hA, hC, rfl, by decide, d, rfl, hdep, ?_⟩
  rw [hd]
  refine ⟨hC, rfl, by decide, hC, rfl, by decide, hC, .tup (rowsD rows), rfl, A, rows, rfl, g, by omega, hC, .tup (rowsD rows), rfl, hC, rfl, by decide, .int tail, rfl, rfl, (fun z => nomatch z), fun _ => ⟨fun _ => ⟨hC, _, rfl, fun z => ?_, fun _ => ?_⟩, fun z => ?_⟩⟩
  · exact absurd z (by simpa [rowsD] using ht)
  · refine ⟨hC, .tup (rowsD rows), rfl, rows, rfl, g.toGood, by omega, by omega, hC, rfl, by decide, hC, .tup ((pcs rows).map .str), rfl, rfl, pcs rows, rfl, ?_, hC, .tup ((pcs rows).map .str), rfl, .str (pcs rows)[tail], at_map rfl htl, ?_, hC, rfl, by decide, hC, .tup ((pcs rows).map .str), rfl, pcs rows, rfl, by omega, fun t h => by have := pcs_le h; omega, hC, rfl, by decide, rfl, ?_⟩
    · simp only [List.length_nil]; omega
    · rw [joinL_nil, List.length_flatten]; omega
    · have e : joinL [] (pcs rows) ++ (pcs rows)[tail] = (pcs rows).flatten ++ (pcs rows).getD tail [] := by rw [joinL_nil, getD_of (List.getElem?_eq_getElem htl)]
      have e2 : (D.int ((rowsD rows).length : Nat)) = .int (rows.length : Nat) := by rw [rowsD, List.length_map]
      have : cutI Ad A rows tail = .ins (Ad "Cut") cutFs [.str A, .tup (rowsD rows), .int (tail : Nat), .int ((rowsD rows).length : Nat), .tup ((pcs rows).map .str), .str (joinL [] (pcs rows) ++ (pcs rows)[tail]), .tup (nats (acc 0 ((pcs rows).drop 1)))] := by
        rw [e, e2]; rfl
      rw [this] at q
      exact q
  · exact absurd z (by simp)
def S_cut_of (Ad : Str → Addr) : DSp := fun ds Q => ∃ A t : List Nat, ds = [.str A, .str t] ∧ IsAlpha A ∧ TextOf A t ∧ t.length < 200000 ∧ Q (cutI Ad A (lz t).1 (lz t).2)
theorem len_cut_of (Ad : Str → Addr) : ∀ ds Q, S_cut_of Ad ds Q → ds.length = (["alphabet", "text"] : List Str).length := by rintro _ _ ⟨_, _, rfl, _⟩; rfl
def numsD (n : Nat) : List D := (List.range n).map fun (i : Nat) => .int ((i : Int) + 1)
theorem numsD_succ (n : Nat) : numsD (n + 1) = numsD n ++ [.int ((n : Int) + 1)] := by unfold numsD; rw [List.range_succ, List.map_append]; rfl
theorem numsD_len (n : Nat) : (numsD n).length = n := by simp [numsD]
theorem numsD_at {n i : Nat} (h : i < n) : (numsD n)[i]? = some (.int ((i : Int) + 1)) := by unfold numsD; rw [List.getElem?_map, List.getElem?_range h]; rfl
theorem rows_put {rows : List Row} {r : Row} (h : r ∉ rows) : putKs (kRow r) (rows.map kRow) = (rows ++ [r]).map kRow := by
  unfold putKs
  rw [if_neg (fun z => h (kRow_mem.mp z)), List.map_append]; rfl
theorem rows_putD {rows : List Row} {r : Row} (h : r ∉ rows) (x : D) (xs : List D) : putDs (kRow r) x (rows.map kRow) xs = xs ++ [x] := by
  unfold putDs
  rw [if_neg (fun z => h (kRow_mem.mp z))]
theorem kRow_nodup {rows : List Row} (h : rows.Nodup) : (rows.map kRow).Nodup := by
  rw [List.nodup_iff_pairwise_ne] at *
  exact List.pairwise_map.mpr (h.imp fun h z => h (kRow_inj z))
theorem lk_row {rows : List Row} {r : Row} (nd : rows.Nodup) (h : r ∈ rows) : lkK (kRow r) (rows.map kRow) (numsD rows.length) = some (.int ((rows.idxOf r : Int) + 1)) := by
  have hlt := List.idxOf_lt_length_of_mem h
  refine lk_at (i := rows.idxOf r) (kRow_nodup nd) ?_ (numsD_at hlt)
  rw [List.getElem?_map, List.getElem?_eq_getElem hlt, List.getElem_idxOf]; rfl
theorem frz_rows (rows : List Row) : frzs (rowsD rows) = rowsD rows := by
  rw [frzs_map]
  unfold rowsD
  rw [List.map_map]
  rfl
theorem dep_rows {rows : List Row} : deps 1 (rowsD rows) = true := deps_of fun d hd => by
  obtain ⟨r, _, rfl⟩ := List.mem_map.mp hd
  rfl
theorem rd_cut_of (Ad : Str → Addr) (ds : List D) (Q : D → Prop) (h : S_cut_of Ad ds Q) : t_cut_of S_check_both (S_Cut Ad) { nx := fun _ => false = false ∧ Q .non, rt := Q } (startD 7 ds) := by
  obtain ⟨A, t, rfl, hA, ht, hl, q⟩ := h
  have hsl : sizeLine = 16777216 := sizeLine_eq
  refine ⟨A, t, rfl, hA, ht, Nat.zero_le _, ?_⟩
  refine ⟨fun k env => ∃ (rows : List Row) (q0 : Nat) (p : Int) (x y : Sl), env = [.fz (.str A), .fz (.str t), .ow (.lst (rowsD rows)), .ow (.dt (rows.map kRow) (numsD rows.length)), .fz (.int p), x, y] ∧ p = q0 ∧ lz (t.take k) = (rows, q0), ⟨[], 0, _, _, _, rfl, rfl, rfl⟩, ?_, ?_⟩
  · rintro k d _ hd ⟨rows, q0, p, x, y, rfl, rfl, hst⟩
    obtain ⟨c, hc, rfl⟩ := map_get hd
    have hk := (List.getElem?_eq_some_iff.mp hc).1
    have htk : t.take (k + 1) = t.take k ++ [c] := by rw [List.take_succ, hc]; rfl
    have hrl := lz_rows_le (t.take k)
    rw [List.length_take] at hrl
    have ok := lz_ok (ht.take k)
    have e1 : lz (t.take (k + 1)) = lzStep (lz (t.take k)) c := by rw [htk, lz_snoc]
    rw [hst] at ok hrl e1
    have hkl : (rows.map kRow).length = (numsD rows.length).length := by rw [numsD_len, List.length_map]
    have hrl : rows.length ≤ min k t.length := hrl
    refine ⟨by show 2 ≤ sizeLine; omega, hkl, _, kRow (q0, c), rfl, rfl, ?_⟩
    unfold lzStep at e1
    by_cases hm : (q0, c) ∈ rows
    · rw [if_pos hm] at e1
      rw [lk_row ok.good.nd hm]
      refine ⟨fun _ => ⟨trivial, hkl, _, kRow (q0, c), rfl, rfl, ?_⟩, fun z => nomatch z⟩
      rw [lk_row ok.good.nd hm]
      exact ⟨rows, rows.idxOf (q0, c) + 1, _, _, _, rfl, rfl, e1⟩
    · rw [if_neg hm] at e1
      rw [lk_none hkl (fun z => hm (kRow_mem.mp z))]
      refine ⟨fun z => (nomatch z), fun _ => ⟨by rw [rowsD, List.length_map]; omega, hkl, by rw [numsD_len]; omega, _, kRow (q0, c), rfl, rfl, ?_⟩⟩
      rw [rows_put hm, rows_putD hm]
      refine ⟨rows ++ [(q0, c)], 0, 0, .fz (.str [c]), .fz (rowD (q0, c)), ?_, rfl, e1⟩
      have e3 : numsD (rows ++ [(q0, c)]).length = numsD rows.length ++ [.int (((rowsD rows ++ [rowD (q0, c)]).length : Nat))] := by
        rw [List.length_append, List.length_append]
        show numsD (rows.length + 1) = _
        rw [numsD_succ, rowsD, List.length_map]; rfl
      rw [e3, show rowsD (rows ++ [(q0, c)]) = rowsD rows ++ [rowD (q0, c)] from List.map_append]
      rfl
  · rintro _ ⟨rows, q0, p, x, y, rfl, rfl, hst⟩
    have ok := lz_ok ht
    rw [List.length_map, List.take_length] at hst
    have h1 := lz_rows_le t
    have h2 := pcs_sum (t := t)
    rw [hst] at h1 h2 ok q
    dsimp only at h1 h2 ok q
    refine ⟨A, rows, q0, _, _, rfl, rfl, ?_, ?_, hA, ok.good, ok.tail, by omega, by omega, q⟩
    · show D.tup (frzs (rowsD rows)) = _
      rw [frz_rows]
    · show (decide ((rowsD rows).length < 16777216) && deps 1 (rowsD rows)) = true
      rw [dep_rows, rowsD, List.length_map]
      simp
      omega
def S_width : DSp := fun ds Q => ∃ (n : Nat) (i : Int), ds = [.int i] ∧ i = n ∧ 1 ≤ n ∧ ∀ r : Int, r = (W n : Nat) → Q (.int r)
def S_number_bits : DSp := fun ds Q => ∃ (a n : Nat) (i j : Int), ds = [.int i, .int j] ∧ i = a ∧ j = n ∧ a < n ∧ W n ≤ 10000 ∧ Q (.str (nb a n))
theorem len_width : ∀ ds Q, S_width ds Q → ds.length = (["options"] : List Str).length := by rintro _ _ ⟨_, _, rfl, _⟩; rfl
theorem len_number_bits : ∀ ds Q, S_number_bits ds Q → ds.length = (["number", "options"] : List Str).length := by rintro _ _ ⟨_, _, _, _, rfl, _⟩; rfl
theorem rd_width (ds : List D) (Q : D → Prop) (h : S_width ds Q) : t_width { nx := fun _ => false = false ∧ Q .non, rt := Q } (startD 1 ds) := by
  obtain ⟨n, i, rfl, rfl, h1, q⟩ := h
  refine q (Builtin.Int.intBits ((n : Int) - 1) : Nat) ?_
  unfold W bl
  rw [Int.natCast_sub h1] <;> rfl
theorem rd_number_bits (ds : List D) (Q : D → Prop) (h : S_number_bits ds Q) : t_number_bits S_width { nx := fun _ => false = false ∧ Q .non, rt := Q } (startD 5 ds) := by
  obtain ⟨a, n, i, j, rfl, rfl, rfl, hn, hw, q⟩ := h
  have hsl : sizeLine = 16777216 := sizeLine_eq
  refine ⟨Nat.zero_le _, n, _, rfl, rfl, by omega, fun r hr => ?_⟩
  subst hr
  refine ⟨by omega, by omega, ?_⟩
  refine ⟨fun k env => ∃ (rest : Int) (x : Sl), env = [.fz (.int a), .fz (.int n), .ow (.lst ((lev a k).map .str)), .fz (.int rest), x] ∧ rest = (a / 2 ^ k : Nat), ⟨_, _, rfl, by simp⟩, ?_, ?_⟩
  · rintro k d _ hd ⟨rest, x, rfl, rfl⟩
    obtain ⟨hk, rfl⟩ := rngD_get hd
    have e2 : ((a / 2 ^ k : Nat) : Int) / 2 = (a / 2 ^ (k + 1) : Nat) := by
      rw [Nat.pow_succ, ← Nat.div_div_eq_div_mul]; omega
    have step : ∀ b : Nat, b = a / 2 ^ k % 2 → (lev a k).map D.str ++ [D.str [48 + b]] = (lev a (k + 1)).map .str := fun b hb => by
      subst hb
      simp [lev]
    refine ⟨by omega, fun h => ⟨by rw [List.length_map, lev_len]; omega, by omega, log_ok (by omega) (by omega), _, .fz (.int (0 + (k : Nat))), ?_, e2⟩, fun h => ⟨by rw [List.length_map, lev_len]; omega, by omega, log_ok (by omega) (by omega), _, .fz (.int (0 + (k : Nat))), ?_, e2⟩⟩
    · have := of_decide_eq_true h
      rw [← step 1 (by omega)]
      rfl
    · have := of_decide_eq_false h
      rw [← step 0 (by omega)]
      rfl
  · rintro _ ⟨rest, x, rfl, rfl⟩
    rw [rngD_len]
    have e : (Int.toNat ((W n : Nat) : Int)) = W n := by omega
    rw [e]
    refine ⟨lev a (W n), rfl, ?_, ?_⟩
    · rw [lev_sum, lev_len]
      simp
      omega
    · rw [if_pos rfl, joinL_nil, lev_rev]
      exact q
def S_piece_options : DSp := fun ds Q => ∃ (s c : Nat) (i j : Int), ds = [.int i, .int j] ∧ i = s ∧ j = c ∧ 1 ≤ s ∧ s < 1000 ∧ ∀ r : Int, r = (opt s c : Nat) → Q (.int r)
theorem len_piece_options : ∀ ds Q, S_piece_options ds Q → ds.length = (["size", "count"] : List Str).length := by rintro _ _ ⟨_, _, _, _, rfl, _⟩; rfl
theorem opt_int {s c : Nat} (h : 1 ≤ s) : ((c : Int) + 1) * (s : Int) - c + 1 = (opt s c : Nat) := by
  unfold opt
  have h1 := Nat.mul_le_mul_left (c + 1) h
  rw [Nat.mul_one] at h1
  have h2 : (((c + 1) * s : Nat) : Int) = ((c : Int) + 1) * (s : Int) := by rw [Int.natCast_mul]; rfl
  omega
theorem rd_piece_options (ds : List D) (Q : D → Prop) (h : S_piece_options ds Q) : t_piece_options { nx := fun _ => false = false ∧ Q .non, rt := Q } (startD 2 ds) := by
  obtain ⟨s, c, i, j, rfl, rfl, rfl, hs, hs2, q⟩ := h
  exact ⟨mul_r (by omega) (by omega), q _ (opt_int hs)⟩
def S_place_number : DSp := fun ds Q => ∃ (A : List Nat) (rows : List Row) (r : Row) (d : D), ds = [.str A, d, rowD r] ∧ (d = .tup (rowsD rows) ∨ d = .lst (rowsD rows)) ∧ IsAlpha A ∧ GoodA A rows ∧ r.2 ∈ A ∧ rows.length < 200000 ∧ ∀ k : Int, k = (place A rows r : Nat) → Q (.int k)
theorem len_place_number : ∀ ds Q, S_place_number ds Q → ds.length = (["alphabet", "rows", "row"] : List Str).length := by rintro _ _ ⟨_, _, _, _, rfl, _⟩; rfl
theorem lex_row (r s : Row) : lexX [.int (r.1 : Nat), .str [r.2]] [.int (s.1 : Nat), .str [s.2]] = rlt r s := by
  unfold rlt
  by_cases h1 : r.1 = s.1
  · by_cases h2 : r.2 = s.2
    · simp [lexX, eqD, ltX, h1, h2]
    · have h3 : ([r.2] < [s.2]) ↔ r.2 < s.2 := by rw [List.cons_lt_cons_iff]; simp
      simp [lexX, eqD, ltX, h1, h2, h3]
  · have : ¬ (r.1 : Int) = (s.1 : Int) := by omega
    simp [lexX, eqD, ltX, h1, this]
theorem rd_place_number (ds : List D) (Q : D → Prop) (h : S_place_number ds Q) : t_place_number { nx := fun _ => false = false ∧ Q .non, rt := Q } (startD 5 ds) := by
  obtain ⟨A, rows, r, d, rfl, hd, hA, g, hr, hl, q⟩ := h
  have hsl : sizeLine = 16777216 := sizeLine_eq
  have h1 := hA.pos
  have h6 := hA.six
  have hlt := idx_lt hr
  have hsub := place_sub hA.asc g.nd g.ltr hr
  have main : ∀ Q2 : List D → DEnv → Prop, (∀ acc : List D, acc.length = (rows.filter fun s => rlt s r).length → Q2 acc [.fz (.str A), .fz d, .fz (rowD r), .no, .no]) → ∃ I : Nat → List D → DEnv → Prop, I 0 [] [.fz (.str A), .fz d, .fz (rowD r), .no, .no] ∧
      (∀ k d acc e, (rowsD rows)[k]? = some d → I k acc e → gNm 4 d e fun e2 => dCmpT cLtX (dVar 4) (dVar 2) e2 fun b e3 => br b (dVar 4 e3 fun z e4 => acc.length < sizeLine ∧ I (k + 1) (acc ++ [z]) (noS e4 [4])) (I (k + 1) acc (noS e3 [4]))) ∧
      ∀ acc e, I (rowsD rows).length acc e → Q2 acc (resS [.fz (.str A), .fz d, .fz (rowD r), .no, .no] e [4]) := fun Q2 hq => by
    refine ⟨fun k acc e => acc.length = ((rows.take k).filter fun s => rlt s r).length ∧ e = [.fz (.str A), .fz d, .fz (rowD r), .no, .no], ⟨rfl, rfl⟩, ?_, ?_⟩
    · rintro k d2 acc e hd2 ⟨hac, rfl⟩
      obtain ⟨s, hs, rfl⟩ := map_get hd2
      have hk := (List.getElem?_eq_some_iff.mp hs).1
      have e1 : (rows.take (k + 1)).filter (fun s => rlt s r) = (rows.take k).filter (fun s => rlt s r) ++ if rlt s r then [s] else [] := by
        rw [List.take_succ, hs]
        simp [List.filter_append, List.filter_cons]
      have hf : ((rows.take k).filter fun s => rlt s r).length ≤ (rows.take k).length := List.length_filter_le _ _
      rw [List.length_take] at hf
      refine ⟨⟨trivial, trivial, trivial⟩, fun z => ⟨by omega, ?_, rfl⟩, fun z => ⟨?_, rfl⟩⟩
      · rw [lex_row] at z
        rw [List.length_append, hac, e1, z, if_pos rfl, List.length_append]; rfl
      · rw [lex_row] at z
        rw [hac, e1, z, if_neg (by decide), List.append_nil]
    · rintro acc e ⟨hac, rfl⟩
      refine hq acc ?_
      rw [hac, rowsD, List.length_map, List.take_length]
  have fin : ∀ acc : List D, acc.length = (rows.filter fun s => rlt s r).length → dRet (dOp cSub (dOp cAdd (dOp cMul (dOp cIx (dVar 2) (dC (.int 0))) (dCal cLen (dVar 0))) (dM1 cSIndex (dVar 0) (dOp cIx (dVar 2) (dC (.int 1))))) (dCal cLen (dVar 3))) { nx := fun _ => false = false ∧ Q .non, rt := Q } [.fz (.str A), .fz d, .fz (rowD r), .fz (.lst acc), .no] := fun acc hac => by
    refine ⟨.int (r.1 : Nat), rfl, by omega, mul_r (by omega) (by omega), .str [r.2], rfl, A.idxOf r.2, ?_, ?_, fun k hk => q _ ?_⟩
    · rw [List.getElem?_eq_getElem hlt, List.getElem_idxOf]
    · intro j hj hz
      have hjl : j < A.length := by omega
      have e : A[j] = r.2 := Option.some.inj ((List.getElem?_eq_getElem hjl).symm.trans hz)
      have := List.not_of_lt_findIdx (show j < A.findIdx (· == r.2) from hj)
      rw [e] at this
      simp at this
    · subst hk
      show ((r.1 : Nat) : Int) * (A.length : Nat) + (A.idxOf r.2 : Nat) - (acc.length : Nat) = _
      unfold place
      unfold posn at hsub ⊢
      rw [hac, Int.natCast_sub hsub]
      simp
  rcases hd with rfl | rfl
  · exact main (fun acc env => dRet (dOp cSub (dOp cAdd (dOp cMul (dOp cIx (dVar 2) (dC (.int 0))) (dCal cLen (dVar 0))) (dM1 cSIndex (dVar 0) (dOp cIx (dVar 2) (dC (.int 1))))) (dCal cLen (dVar 3))) { nx := fun _ => false = false ∧ Q .non, rt := Q } (ss env 3 (.fz (.lst acc)))) fin
  · exact main (fun acc env => dRet (dOp cSub (dOp cAdd (dOp cMul (dOp cIx (dVar 2) (dC (.int 0))) (dCal cLen (dVar 0))) (dM1 cSIndex (dVar 0) (dOp cIx (dVar 2) (dC (.int 1))))) (dCal cLen (dVar 3))) { nx := fun _ => false = false ∧ Q .non, rt := Q } (ss env 3 (.fz (.lst acc)))) fin
end Lb

set_option linter.all false
set_option maxRecDepth 100000
set_option maxHeartbeats 1000000
namespace Lb
open PySem PySem.Spec PyProof.Rows L2 DL
def S_piece_bits : DSp := fun ds Q => ∃ (A : List Nat) (rows : List Row), ds = [.str A, .tup (rowsD rows)] ∧ IsAlpha A ∧ GoodA A rows ∧ rows.length < 200000 ∧ Q (.str (pbF A [] rows))
def S_end_bits : DSp := fun ds Q => ∃ (s c tail : Nat) (i j k : Int), ds = [.int i, .int j, .int k] ∧ i = s ∧ j = c ∧ k = tail ∧ 1 ≤ s ∧ s ≤ 6 ∧ c < 200000 ∧ tail ≤ c ∧ Q (.str (nb 0 (opt s c) ++ nb tail (c + 1)))
def S_block_of_rows : DSp := fun ds Q => ∃ (A : List Nat) (rows : List Row) (tail : Nat) (i : Int), ds = [.str A, .tup (rowsD rows), .int i] ∧ i = tail ∧ IsAlpha A ∧ GoodA A rows ∧ rows.length < 200000 ∧ tail ≤ rows.length ∧ Q (.str (block A rows tail))
def S_press : DSp := fun ds Q => ∃ A t : List Nat, ds = [.str A, .str t] ∧ IsAlpha A ∧ TextOf A t ∧ t.length < 200000 ∧ Q (.str (blk A t))
theorem len_piece_bits : ∀ ds Q, S_piece_bits ds Q → ds.length = (["alphabet", "rows"] : List Str).length := by rintro _ _ ⟨_, _, rfl, _⟩; rfl
theorem len_end_bits : ∀ ds Q, S_end_bits ds Q → ds.length = (["size", "count", "tail"] : List Str).length := by rintro _ _ ⟨_, _, _, _, _, _, rfl, _⟩; rfl
theorem len_block_of_rows : ∀ ds Q, S_block_of_rows ds Q → ds.length = (["alphabet", "rows", "tail"] : List Str).length := by rintro _ _ ⟨_, _, _, _, rfl, _⟩; rfl
theorem len_press : ∀ ds Q, S_press ds Q → ds.length = (["alphabet", "text"] : List Str).length := by rintro _ _ ⟨_, _, rfl, _⟩; rfl
theorem opt_small {s c : Nat} (hs : 1 ≤ s) (h6 : s ≤ 6) (hc : c < 200000) : W (opt s c) ≤ 21 := by
  have h2 := opt_two s c hs
  refine (W_le (by omega)).mpr ?_
  have := Nat.mul_le_mul_left (c + 1) h6
  have e : 2 ^ 21 = 2097152 := rfl
  unfold opt
  omega
theorem W_small {c : Nat} (hc : c < 200000) : W (c + 1) ≤ 21 := (W_le (by omega)).mpr (by have e : 2 ^ 21 = 2097152 := rfl; omega)
theorem rch_small {s : Nat} (hs : 1 ≤ s) (h6 : s ≤ 6) : ∀ {c : Nat}, c ≤ 200000 → rch s c ≤ 21 * c
  | 0, _ => Nat.le_refl _
  | c + 1, h => by
    have := rch_small hs h6 (c := c) (by omega)
    have := opt_small hs h6 (c := c) (by omega)
    show rch s c + W (opt s c) ≤ _
    omega
theorem rows_cut {rows : List Row} {i : Int} {k : Nat} (h : i = k) : cutD (rowsD rows) none (some i) = rowsD (rows.take k) := by
  rw [rowsD, cut_map, cut_to rows h]; rfl
theorem GoodA.take {A : List Nat} {rows : List Row} (g : GoodA A rows) (n : Nat) : GoodA A (rows.take n) := ⟨g.toGood.take n, fun r hr => g.ltr r (List.mem_of_mem_take hr)⟩
theorem rd_piece_bits (ds : List D) (Q : D → Prop) (h : S_piece_bits ds Q) : t_piece_bits S_place_number S_number_bits S_piece_options { nx := fun _ => false = false ∧ Q .non, rt := Q } (startD 6 ds) := by
  obtain ⟨A, rows, rfl, hA, g, hl, q⟩ := h
  have hsl : sizeLine = 16777216 := sizeLine_eq
  have h1 := hA.pos
  have h6 := hA.six
  refine ⟨Nat.zero_le _, fun k env => ∃ (ps : List (List Nat)) (x y z : Sl), env = [.fz (.str A), .fz (.tup (rowsD rows)), .ow (.lst (ps.map .str)), x, y, z] ∧ ps.length = k ∧ k ≤ rows.length ∧ ps.flatten = pbF A [] (rows.take k), ⟨[], _, _, _, rfl, rfl, Nat.zero_le _, rfl⟩, ?_, ?_⟩
  · rintro k d _ hd ⟨ps, x, y, z, rfl, hpl, hkl, hfl⟩
    obtain ⟨e, he, rfl⟩ := enD_get hd
    obtain ⟨r, hr, rfl⟩ := map_get he
    have hk := (List.getElem?_eq_some_iff.mp hr).1
    have hck : rows[k] = r := Option.some.inj ((List.getElem?_eq_getElem hk).symm.trans hr)
    have hnot : r ∉ rows.take k := fun z => by
      have nd := g.nd
      rw [← List.take_append_drop k rows, List.nodup_append, List.drop_eq_getElem_cons hk, hck] at nd
      exact nd.2.2 r z r (List.mem_cons_self ..) rfl
    have hlt : (rows.take k).length = k := by rw [List.length_take]; omega
    have hrA := g.ltr r (List.mem_of_getElem? hr)
    refine ⟨rfl, A, rows.take k, r, _, rfl, .inl (by rw [rows_cut (i := (k : Nat)) rfl]), hA, g.take k, hrA, by omega, fun pl hpl2 => ?_⟩
    have hp := place_opt hA.asc (g.take k) hrA (by rw [hlt]; exact g.par k r hr) hnot
    rw [hlt] at hp
    refine ⟨by omega, A.length, k, _, _, rfl, rfl, rfl, h1, by omega, fun o ho => ⟨1 + place A (rows.take k) r, opt A.length k, _, _, rfl, by omega, ho, hp, by have := opt_small h1 h6 (c := k) (by omega); omega, by rw [List.length_map]; omega, ps ++ [nb (1 + place A (rows.take k) r) (opt A.length k)], .fz (.int (k : Nat)), .fz (rowD r), .fz (.int pl), ?_, by rw [List.length_append, hpl]; rfl, hk, ?_⟩⟩
    · rw [strs_app]; rfl
    · rw [List.flatten_append, hfl, List.take_succ, hr]
      show _ = pbF A [] (rows.take k ++ [r])
      rw [pbF_app, List.nil_append]
      simp only [pbF, hlt]
      simp
  · rintro _ ⟨ps, x, y, z, rfl, hpl, hkl, hfl⟩
    rw [enD_len, rowsD, List.length_map] at hpl hfl
    rw [List.take_length] at hfl
    have hb := rch_small h1 h6 (c := rows.length) (by omega)
    have hs : (ps.map List.length).sum = rch A.length rows.length := by rw [← List.length_flatten, hfl, pbF_len]
    refine ⟨ps, rfl, by simp only [List.length_nil]; omega, ?_⟩
    rw [if_neg (by decide), joinL_nil, hfl]
    exact q
theorem rd_end_bits (ds : List D) (Q : D → Prop) (h : S_end_bits ds Q) : t_end_bits S_number_bits S_piece_options { nx := fun _ => false = false ∧ Q .non, rt := Q } (startD 3 ds) := by
  obtain ⟨s, c, tail, i, j, k, rfl, rfl, rfl, rfl, hs, h6, hc, ht, q⟩ := h
  have hsl : sizeLine = 16777216 := sizeLine_eq
  have h1 := opt_small hs h6 hc
  have h2 := W_small hc
  have h3 := opt_two s c hs
  exact ⟨s, c, _, _, rfl, rfl, rfl, hs, by omega, fun o ho => ⟨0, opt s c, _, _, rfl, rfl, ho, by omega, by omega, tail, c + 1, _, _, rfl, rfl, by omega, by omega, by omega, by rw [nb_len, nb_len]; omega, q⟩⟩
theorem rd_block_of_rows (ds : List D) (Q : D → Prop) (h : S_block_of_rows ds Q) : t_block_of_rows S_piece_bits S_end_bits { nx := fun _ => false = false ∧ Q .non, rt := Q } (startD 3 ds) := by
  obtain ⟨A, rows, tail, i, rfl, rfl, hA, g, hl, ht, q⟩ := h
  have hsl : sizeLine = 16777216 := sizeLine_eq
  have h1 := hA.pos
  have h6 := hA.six
  refine ⟨A, rows, rfl, hA, g, hl, by omega, A.length, rows.length, tail, _, _, _, rfl, rfl, ?_, rfl, h1, h6, hl, ht, ?_, q⟩
  · rw [rowsD, List.length_map]
  · have hb := rch_small h1 h6 (c := rows.length) (by omega)
    have h2 := opt_small h1 h6 hl
    have h3 := W_small hl
    rw [List.length_append, pbF_len, nb_len, nb_len]
    omega
theorem rd_press (Ad : Str → Addr) (ds : List D) (Q : D → Prop) (h : S_press ds Q) : t_press Ad (S_cut_of Ad) S_block_of_rows { nx := fun _ => false = false ∧ Q .non, rt := Q } (startD 3 ds) := by
  obtain ⟨A, t, rfl, hA, ht, hl, q⟩ := h
  have ok := lz_ok ht
  have h1 := lz_rows_le t
  have hC : Ad "Cut" ∈ ([Ad "Cut"] : List Addr) := List.mem_singleton.mpr rfl
  exact ⟨A, t, rfl, hA, ht, hl, hC, _, rfl, hC, _, rfl, A, (lz t).1, (lz t).2, _, rfl, rfl, hA, ok.good, by omega, ok.tail, q⟩
def S__law_cut : DSp := fun ds Q => ∃ t : List Nat, ds = [.str t] ∧ t.length < 200000 ∧ Q (.lst [.tup (rowsD (lz t).1), .int ((lz t).2 : Nat), .lst ((pcs (lz t).1).map .str)])
theorem len__law_cut : ∀ ds Q, S__law_cut ds Q → ds.length = (["word"] : List Str).length := by rintro _ _ ⟨_, rfl, _⟩; rfl
def kT (t : List Nat) : Key := .inr ⟨t.toArray⟩
theorem kT_inj {t u : List Nat} (h : kT t = kT u) : t = u := by
  unfold kT at h
  simpa using h
theorem kT_mem {t : List Nat} {ts : List (List Nat)} : kT t ∈ ts.map kT ↔ t ∈ ts := by
  rw [List.mem_map]
  exact ⟨fun ⟨s, h, e⟩ => by rw [← kT_inj e]; exact h, fun h => ⟨t, h, rfl⟩⟩
theorem kT_nodup {ts : List (List Nat)} (h : ts.Nodup) : (ts.map kT).Nodup := by
  rw [List.nodup_iff_pairwise_ne] at *
  exact List.pairwise_map.mpr (h.imp fun h z => h (kT_inj z))
def idsD (n : Nat) : List D := (List.range n).map fun (i : Nat) => .int (i : Int)
theorem idsD_succ (n : Nat) : idsD (n + 1) = idsD n ++ [.int (n : Int)] := by unfold idsD; rw [List.range_succ, List.map_append]; rfl
theorem idsD_len (n : Nat) : (idsD n).length = n := by simp [idsD]
theorem idsD_at {n i : Nat} (h : i < n) : (idsD n)[i]? = some (.int (i : Int)) := by unfold idsD; rw [List.getElem?_map, List.getElem?_range h]; rfl
theorem rd__law_cut (ds : List D) (Q : D → Prop) (h : S__law_cut ds Q) : t__law_cut { nx := fun _ => false = false ∧ Q .non, rt := Q } (startD 6 ds) := by
  obtain ⟨t, rfl, hl, q⟩ := h
  have hsl : sizeLine = 16777216 := sizeLine_eq
  refine ⟨by show 1 ≤ sizeLine; omega, by decide, .inr ⟨#[]⟩, rfl, Nat.zero_le _, ?_⟩
  refine ⟨fun k env => ∃ (rows : List Row) (q0 : Nat) (u : List Nat) (x : Sl), env = [.fz (.str t), .ow (.lst ((pcs rows).map .str)), .ow (.dk ((pcs rows).map kT) (idsD (pcs rows).length)), .ow (.lst (rowsD rows)), .fz (.str u), x] ∧ lz (t.take k) = (rows, q0) ∧ (pcs rows)[q0]? = some u, ⟨[], 0, [], _, rfl, rfl, rfl⟩, ?_, ?_⟩
  · rintro k d _ hd ⟨rows, q0, u, x, rfl, hst, hu⟩
    obtain ⟨c, hc, rfl⟩ := map_get hd
    have hk := (List.getElem?_eq_some_iff.mp hc).1
    have htk : t.take (k + 1) = t.take k ++ [c] := by rw [List.take_succ, hc]; rfl
    have hrl := lz_rows_le (t.take k)
    have hps := pcs_sum (t := t.take k)
    rw [List.length_take] at hrl hps
    have ok := lz_ok (A := t.take k) (t := t.take k) (fun _ h => h)
    have e1 : lz (t.take (k + 1)) = lzStep (lz (t.take k)) c := by rw [htk, lz_snoc]
    rw [hst] at ok hrl hps e1
    dsimp only at ok hrl hps e1
    have hpl := pcs_len rows
    have g := ok.good.toGood
    have nd := pcs_nodup g
    have hul := pcs_le (List.mem_of_getElem? hu)
    have hq0 : q0 < (pcs rows).length := (List.getElem?_eq_some_iff.mp hu).1
    have hkl : ((pcs rows).map kT).length = (idsD (pcs rows).length).length := by rw [idsD_len, List.length_map]
    have find := pcs_find g ok.tail hu (c := c)
    refine ⟨by show u.length + 1 ≤ sizeLine; omega, hkl, kT (u ++ [c]), rfl, ?_⟩
    unfold lzStep at e1
    by_cases hm : (q0, c) ∈ rows
    · rw [if_pos hm] at e1
      dsimp only at e1
      have hlt := List.idxOf_lt_length_of_mem hm
      have hg : rows[rows.idxOf (q0, c)]? = some (q0, c) := by rw [List.getElem?_eq_getElem hlt, List.getElem_idxOf]
      have hin := (find (rows.idxOf (q0, c) + 1)).mpr ⟨_, rfl, hg⟩
      rw [lk_at (i := rows.idxOf (q0, c) + 1) (kT_nodup nd) (by rw [List.getElem?_map, hin]; rfl) (idsD_at (by omega))]
      exact ⟨fun _ => ⟨by show u.length + 1 ≤ sizeLine; omega, rows, rows.idxOf (q0, c) + 1, u ++ [c], _, rfl, e1, hin⟩, fun z => nomatch z⟩
    · rw [if_neg hm] at e1
      dsimp only at e1
      have hnin : u ++ [c] ∉ pcs rows := fun z => by
        obtain ⟨j, hj⟩ := List.mem_iff_getElem?.mp z
        obtain ⟨i, _, hi⟩ := (find j).mp hj
        exact hm (List.mem_of_getElem? hi)
      rw [lk_none hkl (fun z => hnin (kT_mem.mp z))]
      refine ⟨fun z => (nomatch z), fun _ => ⟨trivial, hkl, kT u, rfl, ?_⟩⟩
      rw [lk_at (i := q0) (kT_nodup nd) (by rw [List.getElem?_map, hu]; rfl) (idsD_at hq0)]
      refine ⟨by show 2 ≤ sizeLine; omega, by rw [rowsD, List.length_map]; omega, by show u.length + 1 ≤ sizeLine; omega, hkl, by rw [idsD_len]; omega, kT (u ++ [c]), rfl, by show u.length + 1 ≤ sizeLine; omega, by rw [List.length_map]; omega, rows ++ [(q0, c)], 0, [], .fz (.str [c]), ?_, e1, pcs_zero _⟩
      have e2 : pcs (rows ++ [(q0, c)]) = pcs rows ++ [u ++ [c]] := by rw [pcs_snoc, getD_of hu]
      rw [e2, strs_app, List.length_append, show rowsD (rows ++ [(q0, c)]) = rowsD rows ++ [rowD (q0, c)] from List.map_append, List.map_append]
      show _ = [_, _, Sl.ow (.dk _ (idsD ((pcs rows).length + 1))), _, _, _]
      rw [idsD_succ]
      have e3 : putKs (kT (u ++ [c])) ((pcs rows).map kT) = (pcs rows).map kT ++ [kT (u ++ [c])] := by
        unfold putKs; rw [if_neg (fun z => hnin (kT_mem.mp z))]
      have e4 : ∀ z : D, putDs (kT (u ++ [c])) z ((pcs rows).map kT) (idsD (pcs rows).length) = idsD (pcs rows).length ++ [z] := fun z => by
        unfold putDs; rw [if_neg (fun z => hnin (kT_mem.mp z))]
      rw [e3, e4, List.length_map]
      rfl
  · rintro _ ⟨rows, q0, u, x, rfl, hst, hu⟩
    rw [List.length_map, List.take_length] at hst
    have ok := lz_ok (A := t) (t := t) (fun _ h => h)
    rw [hst] at q ok
    dsimp only at q ok
    have nd := pcs_nodup ok.good.toGood
    have hq0 : q0 < (pcs rows).length := (List.getElem?_eq_some_iff.mp hu).1
    have hkl : ((pcs rows).map kT).length = (idsD (pcs rows).length).length := by rw [idsD_len, List.length_map]
    refine ⟨trivial, hkl, kT u, rfl, ?_⟩
    rw [lk_at (i := q0) (kT_nodup nd) (by rw [List.getElem?_map, hu]; rfl) (idsD_at hq0)]
    exact ⟨by show 3 ≤ sizeLine; omega, q⟩
end Lb

set_option linter.all false
namespace Lb
open DL
theorem opt_eq {s k : Nat} (h : 1 ≤ s) : opt s k = (k + 1) * (s - 1) + 2 := by
  unfold opt
  rw [Nat.mul_sub, Nat.mul_one]
  have := Nat.mul_le_mul_left (k + 1) h
  omega
def Sm (s w : Nat) : Nat → Nat
  | 0 => 0
  | n + 1 => Sm s w n + min w (W (opt s n))
def nar (s w : Nat) : Nat := (2 ^ w - 2) / (s - 1)
theorem plen_eq (s c : Nat) : plen s c = W (c + 1) + rch s (c + 1) := by unfold plen; simp only [rch]; omega
theorem nar_lt {s w k : Nat} (hs : 2 ≤ s) : nar s w < k + 1 ↔ w < W (opt s k) := by
  unfold nar
  rw [Nat.div_lt_iff_lt_mul (by omega), ← Nat.not_le, ← Nat.not_le (b := w), not_congr]
  rw [W_le (by have := opt_two s k (by omega); omega), opt_eq (by omega)]
  have h0 : 0 < (k + 1) * (s - 1) := Nat.mul_pos (by omega) (by omega)
  omega
theorem Sm_succ {s w : Nat} (hs : 2 ≤ s) : ∀ n, Sm s (w + 1) n = Sm s w n + (n - min n (nar s w))
  | 0 => by simp [Sm]
  | n + 1 => by
    have ih := Sm_succ (w := w) hs n
    have k := nar_lt (s := s) (w := w) (k := n) hs
    unfold Sm
    rw [ih]
    by_cases h : nar s w < n + 1
    · have := k.mp h
      omega
    · have : ¬ w < W (opt s n) := fun z => h (k.mpr z)
      omega
theorem Sm_zero {s : Nat} : ∀ n, Sm s 0 n = 0
  | 0 => rfl
  | n + 1 => by unfold Sm; rw [Sm_zero n]; omega
theorem Sm_eq {s w : Nat} (hs : 2 ≤ s) : ∀ n, n ≤ nar s w → Sm s w n = rch s n
  | 0, _ => rfl
  | n + 1, h => by
    unfold Sm rch
    rw [Sm_eq hs n (by omega)]
    have : ¬ w < W (opt s n) := fun z => by
      have := (nar_lt hs).mpr z
      omega
    omega
theorem nar_big {s w n : Nat} (hs : 2 ≤ s) (h : n * (s - 1) + 2 ≤ 2 ^ w) : n ≤ nar s w := by
  unfold nar
  rw [Nat.le_div_iff_mul_le (by omega)]
  omega
theorem rch_one : ∀ n, rch 1 n = n
  | 0 => rfl
  | n + 1 => by
    unfold rch
    rw [rch_one n, opt_eq (by decide)]
    have : W ((n + 1) * (1 - 1) + 2) = 1 := by
      rw [Nat.sub_self, Nat.mul_zero]
      rfl
    omega
theorem plen_mono {s n m : Nat} (hs : 1 ≤ s) (h : n ≤ m) : plen s n ≤ plen s m := by
  rcases Nat.lt_or_ge n m with q | q
  · exact Nat.le_of_lt (plen_lt hs q)
  · rw [show n = m by omega]; exact Nat.le_refl _
def fl : Nat → Nat → List Nat → Nat
  | _, _, [] => 0
  | k, left, c :: cs => min c (left / k) + fl (k + 1) (left - min c (left / k) * k) cs
def wt : Nat → Nat → List Nat → Nat
  | _, _, [] => 0
  | k, m, c :: cs => min m c * k + wt (k + 1) (m - min m c) cs
theorem wt_zero : ∀ (k : Nat) (cs : List Nat), wt k 0 cs = 0
  | _, [] => rfl
  | k, c :: cs => by simp [wt, wt_zero (k + 1) cs]
theorem fl_small : ∀ (k left : Nat) (cs : List Nat), left < k → fl k left cs = 0
  | _, _, [], _ => rfl
  | k, left, c :: cs, h => by
    have e : left / k = 0 := Nat.div_eq_of_lt h
    simp only [fl, e, Nat.min_zero, Nat.zero_mul, Nat.sub_zero, Nat.zero_add]
    exact fl_small (k + 1) left cs (by omega)
theorem fl_most : ∀ (k left : Nat) (cs : List Nat), 1 ≤ k → fl k left cs ≤ cs.sum ∧ wt k (fl k left cs) cs ≤ left ∧ (fl k left cs = cs.sum ∨ left < wt k (fl k left cs + 1) cs)
  | k, left, [], _ => ⟨Nat.le_refl _, Nat.zero_le _, .inl rfl⟩
  | k, left, c :: cs, hk => by
    rw [List.sum_cons]
    by_cases hc : c ≤ left / k
    · have e : min c (left / k) = c := by omega
      have hle : c * k ≤ left := by
        have := Nat.mul_le_mul_right k hc
        have := Nat.div_mul_le_self left k
        omega
      obtain ⟨h1, h2, h3⟩ := fl_most (k + 1) (left - c * k) cs (by omega)
      have ef : fl k left (c :: cs) = c + fl (k + 1) (left - c * k) cs := by simp only [fl, e]
      have ew : ∀ m, wt k (c + m) (c :: cs) = c * k + wt (k + 1) m cs := fun m => by
        have : min (c + m) c = c := by omega
        simp only [wt, this, Nat.add_sub_cancel_left]
      refine ⟨by omega, by rw [ef, ew]; omega, ?_⟩
      rcases h3 with h3 | h3
      · exact .inl (by omega)
      · refine .inr ?_
        rw [ef, Nat.add_assoc, ew]
        omega
    · have e : min c (left / k) = left / k := by omega
      have hm : left - left / k * k = left % k := by
        have := Nat.div_add_mod left k
        rw [Nat.mul_comm] at this
        omega
      have hlt : left % k < k := Nat.mod_lt _ hk
      have ef : fl k left (c :: cs) = left / k := by
        simp only [fl, e, hm]
        rw [fl_small (k + 1) (left % k) cs (by omega)]
        rfl
      have ew : ∀ m, m ≤ c → wt k m (c :: cs) = m * k := fun m hm => by
        have : min m c = m := by omega
        simp only [wt, this, Nat.sub_self, wt_zero, Nat.add_zero]
      refine ⟨by omega, ?_, .inr ?_⟩
      · rw [ef, ew _ (by omega)]
        exact Nat.div_mul_le_self left k
      · rw [ef, ew _ (by omega), Nat.add_mul, Nat.one_mul]
        have := Nat.div_add_mod left k
        rw [Nat.mul_comm] at this
        omega
theorem wt_app : ∀ (k m : Nat) (cs : List Nat) (c : Nat), wt k m (cs ++ [c]) = wt k m cs + min (m - cs.sum) c * (k + cs.length)
  | k, m, [], c => by simp [wt]
  | k, m, p :: cs, c => by
    have := wt_app (k + 1) (m - min m p) cs c
    rw [List.cons_append]
    simp only [wt, this, List.sum_cons, List.length_cons]
    have e : m - min m p - cs.sum = m - (p + cs.sum) := by omega
    rw [e, show k + 1 + cs.length = k + (cs.length + 1) by omega]
    omega
theorem wt_mono : ∀ (k : Nat) (cs : List Nat) (a m : Nat), a ≤ m → wt k a cs ≤ wt k m cs
  | k, [], a, m, _ => Nat.le_refl _
  | k, p :: cs, a, m, h => by
    simp only [wt]
    by_cases hp : a ≤ p
    · have e : a - min a p = 0 := by omega
      rw [e, wt_zero]
      have : min a p * k ≤ min m p * k := Nat.mul_le_mul_right k (by omega)
      omega
    · have ih := wt_mono (k + 1) cs (a - min a p) (m - min m p) (by omega)
      have e : min m p = min a p := by omega
      rw [e] at ih ⊢
      omega
theorem fl_max {k left a : Nat} {cs : List Nat} (hk : 1 ≤ k) (h : a ≤ cs.sum) (h2 : wt k a cs ≤ left) : a ≤ fl k left cs := by
  obtain ⟨h3, h4, h5⟩ := fl_most k left cs hk
  rcases Nat.lt_or_ge (fl k left cs) a with q | q
  · rcases h5 with h5 | h5
    · omega
    · have := wt_mono k cs (fl k left cs + 1) a q
      omega
  · exact q
theorem fl_drop {k left : Nat} {cs : List Nat} {c : Nat} (h : cs[k]? = some c) (j : Nat) : fl j left (cs.drop k) = min c (left / j) + fl (j + 1) (left - min c (left / j) * j) (cs.drop (k + 1)) := by
  obtain ⟨hk, e⟩ := List.getElem?_eq_some_iff.mp h
  rw [List.drop_eq_getElem_cons hk, e]
  rfl
/-- the least sum of so many different words, the last kind without end -/
def wtI : Nat → Nat → List Nat → Nat
  | k, m, [] => m * k
  | k, m, c :: cs => min m c * k + wtI (k + 1) (m - min m c) cs
theorem wtI_add : ∀ (k m b : Nat) (cs : List Nat), wtI k m cs + b * k ≤ wtI k (m + b) cs
  | k, m, b, [] => by simp only [wtI]; rw [Nat.add_mul]; exact Nat.le_refl _
  | k, m, b, c :: cs => by
    simp only [wtI]
    have ih := wtI_add (k + 1) (m - min m c) (m + b - min (m + b) c - (m - min m c)) cs
    have e : m - min m c + (m + b - min (m + b) c - (m - min m c)) = m + b - min (m + b) c := by omega
    rw [e] at ih
    generalize hd : m + b - min (m + b) c - (m - min m c) = d at ih
    have e2 : min (m + b) c = min m c + (b - d) := by omega
    have h1 : (min m c + (b - d)) * k = min m c * k + (b - d) * k := Nat.add_mul _ _ _
    have h2 : b * k = (b - d) * k + d * k := by rw [← Nat.add_mul]; congr 1; omega
    have h3 : d * k ≤ d * (k + 1) := Nat.mul_le_mul_left _ (by omega)
    have h4 : min (m + b) c * k = min m c * k + (b - d) * k := by rw [e2]; exact h1
    omega
theorem wt_le_I : ∀ (k m : Nat) (cs : List Nat), wt k m cs ≤ wtI k m cs
  | _, _, [] => Nat.zero_le _
  | k, m, c :: cs => by simp only [wt, wtI]; have := wt_le_I (k + 1) (m - min m c) cs; omega
theorem sum_ge {k : Nat} : ∀ {L : List Nat}, (∀ x ∈ L, k ≤ x) → L.length * k ≤ L.sum
  | [], _ => by simp
  | x :: L, h => by
    have := sum_ge (L := L) fun y hy => h y (List.mem_cons_of_mem _ hy)
    have := h x (List.mem_cons_self ..)
    rw [List.length_cons, Nat.add_mul, List.sum_cons]
    omega
theorem least_sum : ∀ (cs : List Nat) (k : Nat) (L : List Nat), (∀ x ∈ L, k ≤ x) → (∀ (i c : Nat), cs[i]? = some c → (L.filter fun x => decide (x = k + i)).length ≤ c) → wtI k L.length cs ≤ L.sum
  | [], k, L, h, _ => by
    simp only [wtI]
    exact sum_ge h
  | c :: cs, k, L, h, hc => by
    have split : ∀ L : List Nat, L.length = (L.filter fun x => decide (x = k)).length + (L.filter fun x => !decide (x = k)).length ∧ L.sum = (L.filter fun x => decide (x = k)).length * k + (L.filter fun x => !decide (x = k)).sum := fun L => by
      induction L with
      | nil => simp
      | cons x L ih =>
        by_cases e : x = k
        · rw [List.filter_cons_of_pos (by simpa using e), List.filter_cons_of_neg (by simpa using e), List.length_cons, List.length_cons, List.sum_cons, Nat.add_mul]
          omega
        · rw [List.filter_cons_of_neg (by simpa using e), List.filter_cons_of_pos (by simpa using e), List.length_cons, List.length_cons, List.sum_cons, List.sum_cons]
          omega
    obtain ⟨s1, s2⟩ := split L
    have ha : (L.filter fun x => decide (x = k)).length ≤ c := by have := hc 0 c rfl; simpa using this
    have ih := least_sum cs (k + 1) (L.filter fun x => !decide (x = k)) (fun x hx => by
      rw [List.mem_filter] at hx
      have := h x hx.1
      have : x ≠ k := by simpa using hx.2
      omega) (fun i c' hi => by
      have := hc (i + 1) c' (by simpa using hi)
      refine Nat.le_trans ?_ this
      rw [List.filter_filter]
      refine Nat.le_of_eq (congrArg List.length (List.filter_congr fun x _ => ?_))
      by_cases e : x = k + 1 + i
      · have : x ≠ k := by omega
        have e2 : x = k + (i + 1) := by omega
        rw [decide_eq_true e, decide_eq_true e2, decide_eq_false this]; rfl
      · have e2 : ¬ x = k + (i + 1) := by omega
        rw [decide_eq_false e, decide_eq_false e2]; rfl)
    simp only [wtI]
    generalize (L.filter fun x => decide (x = k)).length = a at *
    generalize (L.filter fun x => !decide (x = k)) = L' at *
    rw [s1, s2]
    have := wtI_add (k + 1) (a + L'.length - min (a + L'.length) c) (min (a + L'.length) c - a) cs
    have e : a + L'.length - min (a + L'.length) c + (min (a + L'.length) c - a) = L'.length := by omega
    rw [e] at this
    have e2 : min (a + L'.length) c * k = a * k + (min (a + L'.length) c - a) * k := by rw [← Nat.add_mul]; congr 1; omega
    have e3 : (min (a + L'.length) c - a) * k ≤ (min (a + L'.length) c - a) * (k + 1) := Nat.mul_le_mul_left _ (by omega)
    omega
theorem pcs_pref {rows : List Row} (g : Good rows) {u : List Nat} {c : Nat} (h : u ++ [c] ∈ pcs rows) : u ∈ pcs rows := by
  obtain ⟨j, hj⟩ := List.mem_iff_getElem?.mp h
  cases j with
  | zero => rw [pcs_zero] at hj; simp at hj
  | succ i =>
    have hi : i < rows.length := by
      have := (List.getElem?_eq_some_iff.mp hj).1
      have := pcs_len rows
      omega
    obtain ⟨p, h1, h2⟩ := pcs_succ g (List.getElem?_eq_getElem hi)
    rw [hj] at h2
    have := (List.append_inj' (Option.some.inj h2) rfl).1
    rw [this]
    exact List.mem_of_getElem? h1
/-- from the root a piece's letters lead to it -/
theorem walk_to {rows : List Row} (g : Good rows) : ∀ (u : List Nat) (j : Nat), (pcs rows)[j]? = some u → u.foldl lzStep (rows, 0) = (rows, j) := fun u => by
  induction u using snoc_ind with
  | h0 =>
    intro j hj
    have : j = 0 := by
      have hl := (List.getElem?_eq_some_iff.mp hj).1
      exact (List.getElem?_inj hl (pcs_nodup g)).mp (hj.trans (pcs_zero rows).symm)
    rw [this]; rfl
  | hs u c ih =>
    intro j hj
    obtain ⟨p, hp⟩ := List.mem_iff_getElem?.mp (pcs_pref g (List.mem_of_getElem? hj))
    have hpl := (List.getElem?_eq_some_iff.mp hp).1
    rw [pcs_len] at hpl
    obtain ⟨i, hji, hi⟩ := (pcs_find g (by omega) hp j (c := c)).mp hj
    rw [List.foldl_append, ih p hp]
    show lzStep (rows, p) c = _
    unfold lzStep
    have hm : (p, c) ∈ rows := List.mem_of_getElem? hi
    rw [if_pos hm, hji]
    have hil := (List.getElem?_eq_some_iff.mp hi).1
    have : rows.idxOf (p, c) = i := by
      have h1 := List.idxOf_lt_length_of_mem hm
      have h2 : rows[rows.idxOf (p, c)]? = rows[i]? := by rw [hi, List.getElem?_eq_getElem h1, List.getElem_idxOf]
      exact (List.getElem?_inj h1 g.nd).mp h2
    rw [this]
/-- one word more, of which all but the last letter is a piece -/
theorem walk_new {rows : List Row} (g : Good rows) {u : List Nat} {c j : Nat} (hj : (pcs rows)[j]? = some u) (hn : u ++ [c] ∉ pcs rows) : (u ++ [c]).foldl lzStep (rows, 0) = (rows ++ [(j, c)], 0) := by
  rw [List.foldl_append, walk_to g u j hj]
  show lzStep (rows, j) c = _
  unfold lzStep
  rw [if_neg]
  intro hm
  have hl := (List.getElem?_eq_some_iff.mp hj).1
  rw [pcs_len] at hl
  obtain ⟨i, hi⟩ := List.mem_iff_getElem?.mp hm
  exact hn (List.mem_of_getElem? ((pcs_find g (by omega) hj (i + 1) (c := c)).mpr ⟨i, rfl, hi⟩))
theorem lz_app (t u : List Nat) : lz (t ++ u) = u.foldl lzStep (lz t) := by unfold lz; rw [List.foldl_append]
theorem rows_grow (u : List Nat) : ∀ st : List Row × Nat, st.1.length ≤ (u.foldl lzStep st).1.length := by
  induction u with
  | nil => intro st; exact Nat.le_refl _
  | cons c u ih =>
    intro st
    refine Nat.le_trans ?_ (ih (lzStep st c))
    unfold lzStep
    split
    · exact Nat.le_refl _
    · simp
/-- the words of 1, 2, .. L letters -/
def WL (A : List Nat) : Nat → List (List Nat)
  | 0 => []
  | L + 1 => WL A L ++ lvlW A (L + 1)
theorem WL_flat (A : List Nat) : ∀ L, (WL A L).flatten = cup A L
  | 0 => rfl
  | L + 1 => by rw [WL, List.flatten_append, WL_flat A L]; rfl
theorem WL_len {A : List Nat} : ∀ (L : Nat) {w : List Nat}, w ∈ WL A L → 1 ≤ w.length ∧ w.length ≤ L
  | 0, w, h => by cases h
  | L + 1, w, h => by
    rw [WL, List.mem_append] at h
    rcases h with h | h
    · have := WL_len L h; omega
    · rw [lvl_len _ h]; omega
theorem lvlW_nodup {A : List Nat} (nd : A.Nodup) : ∀ n, (lvlW A n).Nodup
  | 0 => List.nodup_cons.mpr ⟨List.not_mem_nil, List.nodup_nil⟩
  | n + 1 => by
    rw [lvlW, List.nodup_iff_pairwise_ne, List.pairwise_flatMap]
    have ih := lvlW_nodup nd n
    rw [List.nodup_iff_pairwise_ne] at ih nd
    refine ⟨fun w _ => List.pairwise_map.mpr (nd.imp fun h e => h (by simpa using e)), ih.imp fun {u v} h x hx y hy e => ?_⟩
    obtain ⟨c, _, rfl⟩ := List.mem_map.mp hx
    obtain ⟨d, _, rfl⟩ := List.mem_map.mp hy
    exact h (List.append_inj' e rfl).1
theorem WL_nodup {A : List Nat} (nd : A.Nodup) : ∀ n, (WL A n).Nodup
  | 0 => List.nodup_nil
  | n + 1 => by
    rw [WL, List.nodup_append]
    refine ⟨WL_nodup nd n, lvlW_nodup nd _, fun a ha b hb e => ?_⟩
    have h1 := (WL_len n ha).2
    have h2 := lvl_len _ hb
    rw [e] at h1
    omega
theorem lvl_in_WL {A : List Nat} {L k : Nat} {w : List Nat} (h1 : 1 ≤ k) (hk : k ≤ L) (h : w ∈ lvlW A k) : w ∈ WL A L := by
  induction L with
  | zero => omega
  | succ L ih =>
    rw [WL, List.mem_append]
    by_cases e : k = L + 1
    · rw [← e]; exact .inr h
    · exact .inl (ih (by omega))
theorem WL_init {A : List Nat} : ∀ (L m : Nat) (u : List Nat) (c : Nat), (WL A L)[m]? = some (u ++ [c]) → u = [] ∨ u ∈ (WL A L).take m
  | 0, m, u, c, h => by simp [WL] at h
  | L + 1, m, u, c, h => by
    rw [WL] at h ⊢
    by_cases hm : m < (WL A L).length
    · rw [List.getElem?_append_left hm] at h
      rcases WL_init L m u c h with z | z
      · exact .inl z
      · rw [List.take_append_of_le_length (by omega)]; exact .inr z
    · rw [List.getElem?_append_right (by omega)] at h
      have hw := List.mem_of_getElem? h
      rw [lvlW, List.mem_flatMap] at hw
      obtain ⟨v, hv, hx⟩ := hw
      obtain ⟨d, _, e⟩ := List.mem_map.mp hx
      have e1 : v = u := (List.append_inj' e rfl).1
      subst e1
      cases L with
      | zero => rw [lvlW, List.mem_singleton] at hv; exact .inl hv
      | succ L =>
        refine .inr ?_
        rw [List.take_append, List.take_of_length_le (by omega)]
        exact List.mem_append_left _ (lvl_in_WL (by omega) (Nat.le_refl _) hv)
theorem WL_cut {A : List Nat} (nd : A.Nodup) (L : Nat) : ∀ m, m ≤ (WL A L).length → ∃ rows, lz ((WL A L).take m).flatten = (rows, 0) ∧ pcs rows = [] :: (WL A L).take m ∧ Good rows
  | 0, _ => ⟨[], rfl, rfl, Good.nil⟩
  | m + 1, h => by
    obtain ⟨rows, h1, h2, g⟩ := WL_cut nd L m (by omega)
    have hm : m < (WL A L).length := by omega
    have hw := List.getElem?_eq_getElem hm
    have hln := WL_len L (List.getElem_mem hm)
    generalize (WL A L)[m] = w at hw hln
    obtain ⟨u, c, rfl⟩ : ∃ u c, w = u ++ [c] := by
      have : w ≠ [] := fun z => by rw [z] at hln; simp at hln
      exact ⟨_, _, (List.dropLast_concat_getLast this).symm⟩
    have hu : u ∈ pcs rows := by
      rw [h2]
      rcases WL_init L m u c hw with z | z
      · rw [z]; exact List.mem_cons_self ..
      · exact List.mem_cons_of_mem _ z
    have hnot : u ++ [c] ∉ pcs rows := fun z => by
      rw [h2] at z
      rcases List.mem_cons.mp z with z | z
      · simp at z
      · have nd2 := WL_nodup nd L
        obtain ⟨i, hi⟩ := List.mem_iff_getElem?.mp z
        have hil := (List.getElem?_eq_some_iff.mp hi).1
        rw [List.length_take] at hil
        rw [List.getElem?_take, if_pos (by omega)] at hi
        have : i = m := (List.getElem?_inj (by omega) nd2).mp (hi.trans hw.symm)
        omega
    obtain ⟨j, hj⟩ := List.mem_iff_getElem?.mp hu
    have et : (WL A L).take (m + 1) = (WL A L).take m ++ [u ++ [c]] := by rw [List.take_succ, hw]; rfl
    have hjl := (List.getElem?_eq_some_iff.mp hj).1
    rw [pcs_len] at hjl
    have hr : (j, c) ∉ rows := fun z => by
      obtain ⟨i, hi⟩ := List.mem_iff_getElem?.mp z
      exact hnot (List.mem_of_getElem? ((pcs_find g (by omega) hj (i + 1) (c := c)).mpr ⟨i, rfl, hi⟩))
    refine ⟨rows ++ [(j, c)], ?_, ?_, g.snoc (by show j ≤ _; omega) hr⟩
    · rw [et, List.flatten_append, lz_app, h1]
      show (([u ++ [c]] : List (List Nat)).flatten).foldl lzStep (rows, 0) = _
      rw [show ([u ++ [c]] : List (List Nat)).flatten = u ++ [c] by simp]
      exact walk_new g hj hnot
    · rw [pcs_snoc, h2, et, ← h2, getD_of hj, h2]
      rfl
/-- how many words there are of 1, 2, .. letters -/
def pw (s : Nat) : Nat → List Nat
  | 0 => []
  | L + 1 => pw s L ++ [s ^ (L + 1)]
theorem pw_len (s : Nat) : ∀ L, (pw s L).length = L
  | 0 => rfl
  | L + 1 => by rw [pw, List.length_append, pw_len s L]; rfl
theorem lvlW_length (A : List Nat) : ∀ n, (lvlW A n).length = A.length ^ n
  | 0 => rfl
  | n + 1 => by
    rw [lvlW, List.length_flatMap, Nat.pow_succ, ← lvlW_length A n]
    have : (lvlW A n).map (fun w => (ext A w).length) = List.replicate (lvlW A n).length A.length := by
      rw [List.eq_replicate_iff]
      refine ⟨List.length_map _, fun x hx => ?_⟩
      obtain ⟨w, _, rfl⟩ := List.mem_map.mp hx
      rw [ext, List.length_map]
    rw [this, List.sum_replicate_nat]
theorem pw_sum (A : List Nat) : ∀ L, (pw A.length L).sum = (WL A L).length
  | 0 => rfl
  | L + 1 => by rw [pw, WL, List.sum_append, List.length_append, pw_sum A L, lvlW_length]; simp
theorem WL_wt (A : List Nat) (m : Nat) : ∀ L, ((WL A L).take m).flatten.length = wt 1 m (pw A.length L)
  | 0 => by simp [WL, pw, wt]
  | L + 1 => by
    rw [WL, pw, wt_app, List.take_append, List.flatten_append, List.length_append, WL_wt A m L, pw_sum, pw_len]
    congr 1
    rw [flat_len (k := L + 1) (fun w hw => lvl_len _ (List.mem_of_mem_take hw)), List.length_take, lvlW_length]
    congr 1
    omega
theorem wt_cap (B : Nat) : ∀ (cs : List Nat) (k m : Nat), m ≤ B → wt k m (cs.map (min B)) = wt k m cs
  | [], _, _, _ => rfl
  | c :: cs, k, m, h => by
    simp only [List.map_cons, wt]
    have e : min m (min B c) = min m c := by omega
    rw [e, wt_cap B cs _ _ (by omega)]
theorem in_lvl {A : List Nat} : ∀ (n : Nat) {w : List Nat}, TextOf A w → w.length = n → w ∈ lvlW A n
  | 0, w, _, h => by rw [List.length_eq_zero_iff.mp h]; exact List.mem_singleton.mpr rfl
  | n + 1, w, ht, h => by
    have hne : w ≠ [] := fun z => by rw [z] at h; simp at h
    have e := List.dropLast_concat_getLast hne
    rw [lvlW, List.mem_flatMap]
    refine ⟨w.dropLast, in_lvl n (fun c hc => ht c ((List.dropLast_prefix w).subset hc)) (by rw [List.length_dropLast]; omega), ?_⟩
    rw [ext, List.mem_map]
    exact ⟨w.getLast hne, ht _ (List.getLast_mem hne), e⟩
/-- no text has more pieces -/
theorem pieces_le {A t : List Nat} (hA : 1 ≤ A.length) (ht : TextOf A t) (L B : Nat) (hB : t.length ≤ B) : wtI 1 (lz t).1.length ((pw A.length L).map (min B)) ≤ t.length := by
  have ok := lz_ok ht
  have nd := pcs_nodup ok.good.toGood
  have hps := pcs_sum (t := t)
  have hrl := lz_rows_le t
  have hl := pcs_len (lz t).1
  have hcons : ∃ ps, pcs (lz t).1 = [] :: ps := by
    have := pcs_zero (lz t).1
    cases h : pcs (lz t).1 with
    | nil => rw [h] at this; simp at this
    | cons x ps => rw [h] at this; exact ⟨ps, by rw [show x = [] by simpa using this]⟩
  obtain ⟨ps, hp⟩ := hcons
  rw [hp] at nd hps hl
  rw [List.nodup_cons] at nd
  have hptx : ∀ p ∈ ps, TextOf A p := fun p hpm c hc => by
    have : c ∈ t := by
      rw [← ok.txt, hp]
      exact List.mem_append_left _ (List.mem_flatten.mpr ⟨p, List.mem_cons_of_mem _ hpm, hc⟩)
    exact ht c this
  have key := least_sum ((pw A.length L).map (min B)) 1 (ps.map List.length) (fun x hx => by
    obtain ⟨p, hpm, rfl⟩ := List.mem_map.mp hx
    cases p with
    | nil => exact absurd hpm nd.1
    | cons _ _ => simp) (fun i c hi => by
    rw [List.getElem?_map] at hi
    cases hpi : (pw A.length L)[i]? with
    | none => rw [hpi] at hi; cases hi
    | some x =>
      rw [hpi] at hi
      have hi : min B x = c := by simpa using hi
      have hx : x = A.length ^ (i + 1) := by
        clear hi
        induction L with
        | zero => simp [pw] at hpi
        | succ L ih =>
          rw [pw] at hpi
          by_cases hiL : i < (pw A.length L).length
          · rw [List.getElem?_append_left hiL] at hpi; exact ih hpi
          · rw [List.getElem?_append_right (by omega), pw_len] at hpi
            rw [pw_len] at hiL
            have : i - L = 0 := by
              rcases Nat.eq_zero_or_pos (i - L) with z | z
              · exact z
              · rw [List.getElem?_eq_none (by simp; omega)] at hpi; cases hpi
            rw [this] at hpi
            have : i = L := by omega
            rw [this]
            exact (Option.some.inj hpi).symm
      have hmap : ((ps.map List.length).filter fun x => decide (x = 1 + i)).length = (ps.filter fun p => decide (p.length = 1 + i)).length := by
        rw [List.filter_map, List.length_map]
        rfl
      rw [hmap]
      have h1 : (ps.filter fun p => decide (p.length = 1 + i)).length ≤ (lvlW A (1 + i)).length := nodup_sub (nd.2.sublist List.filter_sublist) fun p hpf => by
        rw [List.mem_filter] at hpf
        exact in_lvl _ (hptx p hpf.1) (by simpa using hpf.2)
      have h2 : (ps.filter fun p => decide (p.length = 1 + i)).length ≤ ps.length := List.length_filter_le _ _
      rw [lvlW_length, show 1 + i = i + 1 by omega, ← hx, show i + 1 = 1 + i by omega] at h1
      rw [List.length_cons] at hl
      omega)
  rw [List.length_map] at key
  rw [List.length_cons] at hl
  simp only [List.map_cons, List.length_nil, List.sum_cons, Nat.zero_add] at hps
  have e : ps.length = (lz t).1.length := by omega
  rw [e] at key
  omega
end Lb

set_option linter.all false
set_option maxRecDepth 100000
namespace Lb
open PySem PySem.Spec PyProof.Rows L2 DL
def r_pressed_length_1 (S_width : DSp) : DS :=
  (dRet (dVar 3))
def t_pressed_length (S_width : DSp) : DS :=
  (dSeq (dSet 2 (dOp cAdd (dVar 1) (dC (.int 1))))
  (dSeq (dSet 3 (dCall S_width (dCons (dVar 2) dNil)))
  (dSeq (dIfS (dCmpT cEq (dVar 0) (dC (.int 1))) (dRet (dOp cAdd (dVar 3) (dVar 2))) dNext)
  (dSeq (dSet 4 (dC (.int 1)))
  (dSeq (dSet 5 (dC (.int 0)))
  (dSeq (dWhile (dCmpT cLt (dVar 5) (dVar 2))
  (dSeq (dSet 3 (dOp cSub (dOp cAdd (dVar 3) (dVar 2)) (dVar 5)))
  (dSeq (dSet 4 (dOp cMul (dVar 4) (dC (.int 2))))
  (dSet 5 (dOp cDiv (dOp cSub (dVar 4) (dC (.int 2))) (dOp cSub (dVar 0) (dC (.int 1))))))))
  (r_pressed_length_1 S_width)))))))
def r_fill_1 : DS :=
  (dRet (dVar 2))
def t_fill : DS :=
  (dSeq (dSet 2 (dC (.int 0)))
  (dSeq (dSet 3 (dVar 0))
  (dSeq (dFor (dEnum (dVar 1)) (gTp 2 (gsC (gNm 4) (gsC (gNm 5) gsN)))
  (dSeq (dSet 6 (dOp cMin (dVar 5) (dOp cDiv (dVar 3) (dOp cAdd (dVar 4) (dC (.int 1))))))
  (dSeq (dSet 2 (dOp cAdd (dVar 2) (dVar 6)))
  (dSet 3 (dOp cSub (dVar 3) (dOp cMul (dVar 6) (dOp cAdd (dVar 4) (dC (.int 1)))))))))
  (r_fill_1))))
def r__law_width21_1 : DS :=
  (dRet (dVar 1))
def t__law_width21 : DS :=
  (dSeq (dSet 1 (dC (.int 0)))
  (dSeq (dSet 2 (dC (.int 1)))
  (dSeq (dFor (dRng1 (dC (.int 2100))) (gNm 3)
  (dSeq (dIfS (dCmpT cGe (dVar 2) (dVar 0)) dBreak dNext)
  (dSeq (dSet 2 (dOp cMul (dVar 2) (dC (.int 2))))
  (dSet 1 (dOp cAdd (dVar 1) (dC (.int 1)))))))
  (r__law_width21_1))))
end Lb

set_option linter.all false
set_option exponentiation.threshold 3000
namespace Lb
open DL
theorem wt_ge : ∀ (cs : List Nat) (k m : Nat), m ≤ cs.sum → m * k ≤ wt k m cs
  | [], k, m, h => by simp at h; simp [h]
  | c :: cs, k, m, h => by
    simp only [wt]
    rw [List.sum_cons] at h
    have ih := wt_ge cs (k + 1) (m - min m c) (by omega)
    have e : m * k = min m c * k + (m - min m c) * k := by rw [← Nat.add_mul]; congr 1; omega
    have h2 : (m - min m c) * k ≤ (m - min m c) * (k + 1) := Nat.mul_le_mul_left _ (by omega)
    omega
def cap30 (s : Nat) : List Nat := (pw s 30).map (min 1000000000)
theorem cap_sum_le (s : Nat) : (cap30 s).sum ≤ (pw s 30).sum := by
  unfold cap30
  generalize pw s 30 = l
  induction l with
  | nil => exact Nat.le_refl _
  | cons x l ih => rw [List.map_cons, List.sum_cons, List.sum_cons]; omega
theorem many_le {A t : List Nat} (hA : IsAlpha A) (ht : TextOf A t) (hl : t.length ≤ 400) : (lz t).1.length ≤ fl 1 t.length (cap30 A.length) := by
  have h1 := hA.pos
  have h6 := hA.six
  have key := pieces_le h1 ht 30 1000000000 (by omega)
  have hrl := lz_rows_le t
  refine fl_max (by decide) ?_ (Nat.le_trans (wt_le_I _ _ _) key)
  have key : wtI 1 (lz t).1.length (cap30 A.length) ≤ t.length := key
  rcases Nat.eq_or_lt_of_le h1 with e | e
  · rw [← e] at key ⊢
    rcases Nat.lt_or_ge 30 (lz t).1.length with z | z
    · exfalso
      have h := wtI_add 1 31 ((lz t).1.length - 31) (cap30 1)
      rw [show 31 + ((lz t).1.length - 31) = (lz t).1.length by omega] at h
      have h2 : wtI 1 31 (cap30 1) = 496 := by decide +kernel
      omega
    · have : (cap30 1).sum = 30 := by decide +kernel
      omega
  · have : 400 ≤ (cap30 A.length).sum := by
      have tab : ∀ s : Nat, s < 7 → 2 ≤ s → 400 ≤ (cap30 s).sum := by decide +kernel
      exact tab _ (by omega) (by omega)
    omega
theorem cnt_pieces {A : List Nat} (hA : IsAlpha A) {n : Nat} (hn : n ≤ 400) : (lz (cntT A n)).1.length = fl 1 n (cap30 A.length) := by
  have h1 := hA.pos
  have hln := cntT_len h1 n
  refine Nat.le_antisymm ?_ ?_
  · have := many_le hA (cntT_txt (A := A) n) (by omega)
    rwa [hln] at this
  · obtain ⟨f1, f2, _⟩ := fl_most 1 n (cap30 A.length) (by decide)
    generalize fl 1 n (cap30 A.length) = m at f1 f2
    have hm := wt_ge _ 1 m f1
    have e : wt 1 m (cap30 A.length) = wt 1 m (pw A.length 30) := wt_cap _ _ _ _ (by omega)
    rw [e, ← WL_wt] at f2
    have hms : m ≤ (WL A 30).length := by rw [← pw_sum]; exact Nat.le_trans f1 (cap_sum_le _)
    obtain ⟨rows, c1, c2, g⟩ := WL_cut (pair_lt_nodup hA.asc) 30 m hms
    have hr : rows.length = m := by
      have := pcs_len rows
      rw [c2, List.length_cons, List.length_take] at this
      omega
    generalize hP : ((WL A 30).take m).flatten = P at c1 f2
    have p1 : P <+: cup A 30 := by
      rw [← hP, ← WL_flat]
      exact flatten_pre (List.take_prefix _ _)
    have p2 : P <+: cntT A n := by
      have a := p1.trans (cup_pre (A := A) (m := 30) (n := max 30 n) (by omega))
      have b : cntT A n = (cup A (max 30 n)).take n := pre_take (cup_pre (by omega)) (cup_ge h1 n)
      rw [b]
      exact List.prefix_of_prefix_length_le a (List.take_prefix _ _) (by
        rw [List.length_take]
        have := cup_ge h1 (max 30 n)
        omega) 
    obtain ⟨r, hr2⟩ := p2
    rw [← hr2, lz_app, c1, ← hr]
    exact rows_grow r (rows, 0)
def pr (s c : Nat) : Nat → Nat
  | 0 => c + 1
  | n + 1 => pr s c n * (opt s n - 1)
theorem pr_le (s c : Nat) (hs : 1 ≤ s) : ∀ n, pr s c n ≤ 2 ^ (W (c + 1) + rch s n)
  | 0 => W_self (n := c + 1) (by omega)
  | n + 1 => by
    have h := opt_two s n hs
    have h1 : opt s n - 1 ≤ 2 ^ W (opt s n) := Nat.le_trans (by omega) (W_self (n := opt s n) (by omega))
    show pr s c n * (opt s n - 1) ≤ 2 ^ (W (c + 1) + (rch s n + W (opt s n)))
    rw [← Nat.add_assoc, Nat.pow_add]
    exact Nat.mul_le_mul (pr_le s c hs n) h1
theorem W_pred {n : Nat} (h : 2 ≤ n) : 2 ^ (W n - 1) ≤ n - 1 := by
  have h1 := W_two h
  rcases Nat.lt_or_ge (n - 1) (2 ^ (W n - 1)) with z | z
  · exfalso
    have := (W_le (n := n) (m := W n - 1) (by omega)).mpr (by omega)
    omega
  · exact z
theorem rch_ge {s : Nat} (hs : 1 ≤ s) : ∀ n, n ≤ rch s n
  | 0 => Nat.le_refl _
  | n + 1 => by
    have := rch_ge hs n
    have := W_two (opt_two s n hs)
    show n + 1 ≤ rch s n + W (opt s n)
    omega
theorem pr_ge (s c : Nat) (hs : 1 ≤ s) : ∀ n, 2 ^ (W (c + 1) - 1 + (rch s n - n)) ≤ pr s c n
  | 0 => by
    show 2 ^ (W (c + 1) - 1) ≤ c + 1
    rcases Nat.eq_zero_or_pos c with z | z
    · subst z; exact Nat.le_of_eq rfl
    · have := W_pred (n := c + 1) (by omega); omega
  | n + 1 => by
    have h := opt_two s n hs
    have h1 := W_two h
    have h2 := rch_ge hs n
    have e : W (c + 1) - 1 + (rch s (n + 1) - (n + 1)) = (W (c + 1) - 1 + (rch s n - n)) + (W (opt s n) - 1) := by
      show W (c + 1) - 1 + (rch s n + W (opt s n) - (n + 1)) = _
      omega
    rw [e, Nat.pow_add]
    exact Nat.mul_le_mul (pr_ge s c hs n) (W_pred h)
theorem pr_pos (s c : Nat) (hs : 1 ≤ s) (n : Nat) : 1 ≤ pr s c n := Nat.le_trans (Nat.two_pow_pos _) (pr_ge s c hs n)
theorem near {s c : Nat} (hs : 1 ≤ s) : W (pr s c c) ≤ plen s c ∧ plen s c ≤ W (pr s c c) + c + 1 + W (opt s c) := by
  have hp := pr_pos s c hs c
  constructor
  · rw [W_le hp]
    refine Nat.le_trans (pr_le s c hs c) (Nat.pow_le_pow_right (by decide) ?_)
    rw [plen_eq]
    show _ ≤ _ + (rch s c + W (opt s c))
    omega
  · have h1 := pr_ge s c hs c
    have h2 : W (c + 1) - 1 + (rch s c - c) ≤ W (pr s c c) := by
      rcases Nat.lt_or_ge (W (pr s c c)) (W (c + 1) - 1 + (rch s c - c)) with z | z
      · exfalso
        have := W_self hp
        have := Nat.pow_lt_pow_right (a := 2) (by decide) z
        omega
      · exact z
    have h3 := rch_ge hs c
    rw [plen_eq]
    show _ + (rch s c + W (opt s c)) ≤ _
    omega
end Lb

set_option linter.all false
namespace Lb
open DL
abbrev Fn := Nat → Nat
def en (h r : List Nat) : Fn := fun i => if i < h.length then h.getD i 0 else r.getD ((i - h.length) % r.length) 0
def wd (f : Fn) (a n : Nat) : List Nat := (List.range n).map fun j => f (a + j)
section
variable {f : Fn} {a b n m i : Nat}
theorem wd_len : (wd f a n).length = n := by simp [wd]
theorem wd_get (h : i < n) : (wd f a n)[i]? = some (f (a + i)) := by unfold wd; rw [List.getElem?_map, List.getElem?_range h]; rfl
theorem wd_getD (h : i < n) : (wd f a n).getD i 0 = f (a + i) := by rw [List.getD_eq_getElem?_getD, wd_get h]; rfl
theorem wd_none (h : n ≤ i) : (wd f a n)[i]? = none := List.getElem?_eq_none (by rw [wd_len]; exact h)
theorem wd_ext {l : List Nat} (hl : l.length = n) (h : ∀ i, i < n → l[i]? = some (f (a + i))) : l = wd f a n := by
  refine List.ext_getElem? fun i => ?_
  by_cases hi : i < n
  · rw [h i hi, wd_get hi]
  · rw [wd_none (by omega), List.getElem?_eq_none (by omega)]
theorem wd_eq : wd f a n = wd f b n ↔ ∀ i, i < n → f (a + i) = f (b + i) := by
  constructor
  · intro h i hi
    have := congrArg (fun l => l[i]?) h
    simp only [wd_get hi] at this
    exact Option.some.inj this
  · intro h
    exact wd_ext wd_len fun i hi => by rw [wd_get hi, h i hi]
theorem wd_drop (k : Nat) : (wd f a n).drop k = wd f (a + k) (n - k) := by
  refine wd_ext (by rw [List.length_drop, wd_len]) fun i hi => ?_
  rw [List.getElem?_drop, wd_get (by omega), Nat.add_assoc]
theorem wd_take {k : Nat} (h : k ≤ n) : (wd f a n).take k = wd f a k := by
  refine wd_ext (by rw [List.length_take, wd_len]; omega) fun i hi => ?_
  rw [List.getElem?_take, if_pos hi, wd_get (by omega)]
theorem wd_app : wd f a m ++ wd f (a + m) n = wd f a (m + n) := by
  refine wd_ext (by rw [List.length_append, wd_len, wd_len]) fun i hi => ?_
  by_cases h : i < m
  · rw [List.getElem?_append_left (by rw [wd_len]; exact h), wd_get h]
  · rw [List.getElem?_append_right (by rw [wd_len]; omega), wd_len, wd_get (by omega)]
    congr 2
    omega
theorem wd_one : wd f a 1 = [f a] := rfl
theorem wd_txt {A : List Nat} (h : ∀ i, f i ∈ A) : TextOf A (wd f a n) := fun c hc => by
  obtain ⟨j, _, rfl⟩ := List.mem_map.mp hc
  exact h _
end
theorem rep_get {r : List Nat} (hr : 0 < r.length) : ∀ {m i : Nat}, i < m * r.length → (List.replicate m r).flatten[i]? = r[i % r.length]?
  | 0, i, h => by omega
  | m + 1, i, h => by
    rw [List.replicate_succ, List.flatten_cons]
    by_cases hi : i < r.length
    · rw [List.getElem?_append_left hi, Nat.mod_eq_of_lt hi]
    · rw [List.getElem?_append_right (by omega), rep_get hr (by rw [Nat.succ_mul] at h; omega)]
      congr 1
      exact (Nat.mod_eq_sub_mod (by omega)).symm
theorem rep_len (r : List Nat) (m : Nat) : (List.replicate m r).flatten.length = m * r.length := by simp
section
variable {h r : List Nat}
theorem en_lt {i : Nat} (hi : i < h.length) : h[i]? = some (en h r i) := by
  unfold en
  rw [if_pos hi, List.getD_eq_getElem?_getD, List.getElem?_eq_getElem hi]; rfl
theorem en_ge (hr : 0 < r.length) (x : Nat) : r[x % r.length]? = some (en h r (h.length + x)) := by
  have hx := Nat.mod_lt x hr
  unfold en
  rw [if_neg (by omega), show h.length + x - h.length = x by omega, List.getD_eq_getElem?_getD, List.getElem?_eq_getElem hx]; rfl
theorem en_rep (hr : 0 < r.length) (m : Nat) : h ++ (List.replicate m r).flatten = wd (en h r) 0 (h.length + m * r.length) := by
  refine wd_ext (by rw [List.length_append, rep_len]) fun i hi => ?_
  rw [Nat.zero_add]
  by_cases h1 : i < h.length
  · rw [List.getElem?_append_left h1, en_lt h1]
  · rw [List.getElem?_append_right (by omega), rep_get hr (by omega), en_ge (h := h) hr]
    congr 2
    omega
theorem en_head : wd (en h r) 0 h.length = h := (wd_ext rfl fun i hi => by rw [Nat.zero_add]; exact en_lt hi).symm
theorem en_ring (hr : 0 < r.length) : wd (en h r) h.length r.length = r := (wd_ext rfl fun i hi => by
  have := en_ge (h := h) hr i
  rwa [Nat.mod_eq_of_lt hi] at this).symm
theorem en_in {A : List Nat} (hr : 0 < r.length) (h1 : TextOf A h) (h2 : TextOf A r) (i : Nat) : en h r i ∈ A := by
  by_cases hi : i < h.length
  · exact h1 _ (List.mem_of_getElem? (en_lt (r := r) hi))
  · have := en_ge (h := h) hr (i - h.length)
    rw [show h.length + (i - h.length) = i by omega] at this
    exact h2 _ (List.mem_of_getElem? this)
end
def Per (f : Fn) (H p : Nat) : Prop := ∀ i, H ≤ i → f (i + p) = f i
section
variable {f : Fn} {H H' p q n a b : Nat}
theorem Per.zero : Per f H 0 := fun i _ => rfl
theorem Per.mul (h : Per f H p) : ∀ k, Per f H (p * k)
  | 0 => by rw [Nat.mul_zero]; exact Per.zero
  | k + 1 => fun i hi => by
    rw [Nat.mul_succ, ← Nat.add_assoc, h _ (by omega)]
    exact h.mul k i hi
theorem Per.up (h : Per f H p) (hH : H ≤ H') : Per f H' p := fun i hi => h i (by omega)
theorem Per.mod (h : Per f H a) (h2 : Per f H b) : Per f H (b % a) := fun i hi => by
  have e := Nat.mod_add_div b a
  have := h.mul (b / a) (i + b % a) (by omega)
  rw [← this, Nat.add_assoc, e]
  exact h2 i hi
theorem Per.gcd : ∀ {a b : Nat}, Per f H a → Per f H b → Per f H (Nat.gcd a b) := by
  intro a b
  induction a, b using Nat.gcd.induction with
  | H0 n => intro _ h; rw [Nat.gcd_zero_left]; exact h
  | H1 m n hm ih => intro h1 h2; rw [Nat.gcd_rec]; exact ih (h1.mod h2) h1
theorem Per.back (hn : 0 < n) (h : Per f H n) (hq : Per f H' q) : Per f H q := fun i hi => by
  have hb : H' ≤ i + n * H' := by
    have : H' ≤ n * H' := Nat.le_mul_of_pos_left _ hn
    omega
  have e1 := h.mul H' (i + q) (by omega)
  have e2 := h.mul H' i hi
  have e3 := hq (i + n * H') hb
  rw [← e1, ← e2, ← e3]
  congr 1
  omega
theorem Per.red (h : Per f H p) (x : Nat) : f (H + x) = f (H + x % p) := by
  have e := Nat.mod_add_div x p
  have := h.mul (x / p) (H + x % p) (by omega)
  rw [← this, Nat.add_assoc, e]
theorem en_per {h r : List Nat} (hr : 0 < r.length) : Per (en h r) h.length r.length := fun i hi => by
  have e1 := en_ge (h := h) hr (i - h.length)
  have e2 := en_ge (h := h) hr (i - h.length + r.length)
  rw [Nat.add_mod_right, e1] at e2
  have := Option.some.inj e2
  rw [show h.length + (i - h.length) = i by omega, show h.length + (i - h.length + r.length) = i + r.length by omega] at this
  exact this.symm
theorem en_wd (hp : 0 < p) (h : Per f H p) : en (wd f 0 H) (wd f H p) = f := by
  funext i
  have hl : (wd f H p).length = p := wd_len
  by_cases hi : i < H
  · have := en_lt (h := wd f 0 H) (r := wd f H p) (i := i) (by rw [wd_len]; exact hi)
    rw [wd_get hi, Nat.zero_add] at this
    exact (Option.some.inj this).symm
  · have := en_ge (h := wd f 0 H) (r := wd f H p) (by rw [hl]; exact hp) (i - H)
    rw [hl, wd_get (Nat.mod_lt _ hp), wd_len, ← h.red, show H + (i - H) = i by omega] at this
    exact (Option.some.inj this).symm
theorem root_iff {h r : List Nat} {l : Nat} (hr : 0 < r.length) (hl : 0 < l) (hd : r.length % l = 0) : (List.replicate (r.length / l) (r.take l)).flatten = r ↔ Per (en h r) h.length l := by
  have hdv : l ∣ r.length := Nat.dvd_of_mod_eq_zero hd
  have hle : l ≤ r.length := Nat.le_of_dvd hr hdv
  have htl : (r.take l).length = l := by rw [List.length_take]; omega
  have hml : r.length / l * l = r.length := Nat.div_mul_cancel hdv
  have P := en_per (h := h) hr
  have key : (List.replicate (r.length / l) (r.take l)).flatten = r ↔ ∀ x, x < r.length → en h r (h.length + x % l) = en h r (h.length + x) := by
    have hg : ∀ x, x < r.length → (List.replicate (r.length / l) (r.take l)).flatten[x]? = some (en h r (h.length + x % l)) := fun x hx => by
      have hxl := Nat.mod_lt x hl
      rw [rep_get (by omega) (by rw [htl, hml]; exact hx), htl, List.getElem?_take, if_pos hxl]
      have := en_ge (h := h) hr (x % l)
      rwa [Nat.mod_eq_of_lt (show x % l < r.length by omega)] at this
    have hr2 : ∀ x, x < r.length → r[x]? = some (en h r (h.length + x)) := fun x hx => by
      have := en_ge (h := h) hr x
      rwa [Nat.mod_eq_of_lt hx] at this
    constructor
    · intro e x hx
      have := hg x hx
      rw [e, hr2 x hx] at this
      exact (Option.some.inj this).symm
    · intro e
      refine List.ext_getElem? fun x => ?_
      by_cases hx : x < r.length
      · rw [hg x hx, hr2 x hx, e x hx]
      · rw [List.getElem?_eq_none (by rw [rep_len, htl, hml]; omega), List.getElem?_eq_none (by omega)]
  rw [key]
  constructor
  · intro e i hi
    have h1 : ∀ x, en h r (h.length + x) = en h r (h.length + x % l) := fun x => by
      rw [P.red x, ← e _ (Nat.mod_lt x hr), Nat.mod_mod_of_dvd _ hdv]
    have a1 := h1 (i - h.length)
    have a2 := h1 (i - h.length + l)
    rw [Nat.add_mod_right, ← a1] at a2
    rw [show h.length + (i - h.length) = i by omega, show h.length + (i - h.length + l) = i + l by omega] at a2
    exact a2
  · intro e x _
    exact (e.red x).symm
/-- the least period, once its divisors are tried -/
theorem least_per (hn : 0 < n) (P : Per f H n) {l : Nat} (ht : ∀ l', 0 < l' → l' < l → n % l' = 0 → ¬ Per f H l') : ∀ H' q, 0 < q → Per f H' q → l ≤ q := fun H' q hq h => by
  have h1 := Per.back hn P h
  have h2 := h1.gcd P
  have h3 : Nat.gcd q n ≤ q := Nat.gcd_le_left _ hq
  have h4 : 0 < Nat.gcd q n := Nat.gcd_pos_of_pos_left _ hq
  rcases Nat.lt_or_ge q l with z | z
  · exact absurd h2 (ht _ h4 (by omega) (Nat.mod_eq_zero_of_dvd (Nat.gcd_dvd_right q n)))
  · exact z
structure LF (f : Fn) (H p : Nat) : Prop where
  pos : 0 < p
  per : Per f H p
  minp : ∀ H' q, 0 < q → Per f H' q → p ≤ q
  minH : ∀ H', Per f H' p → H ≤ H'
theorem LF.uniq (L : LF f H p) (L' : LF f H' q) : H = H' ∧ p = q := by
  have e : p = q := Nat.le_antisymm (L.minp _ _ L'.pos L'.per) (L'.minp _ _ L.pos L.per)
  subst e
  exact ⟨Nat.le_antisymm (L.minH _ L'.per) (L'.minH _ L.per), rfl⟩
theorem start_min {k : Nat} (h : k = 0 ∨ f (k - 1) ≠ f (k - 1 + p)) : ∀ H', Per f H' p → k ≤ H' := fun H' P => by
  rcases h with h | h
  · omega
  · rcases Nat.lt_or_ge H' k with z | z
    · exact absurd (P (k - 1) (by omega)).symm h
    · exact z
theorem win_per {k L : Nat} (hp : 0 < p) (hL : p ≤ L) (P : Per f H p) (h : ∀ j, j < L → f (H + j) = f (H + k + j)) : Per f H k := fun i hi => by
  have e := Nat.mod_add_div (i - H) p
  have hm := Nat.mod_lt (i - H) hp
  have a1 := P.mul ((i - H) / p) (H + (i - H) % p + k) (by omega)
  have a2 := P.mul ((i - H) / p) (H + (i - H) % p) (by omega)
  have a3 := h ((i - H) % p) (by omega)
  rw [show H + (i - H) % p + k + p * ((i - H) / p) = i + k by omega] at a1
  rw [show H + (i - H) % p + p * ((i - H) / p) = i by omega] at a2
  rw [a1, a2, a3]
  congr 1
  omega
theorem win_start {k K L : Nat} (hp : 0 < p) (hL : p ≤ L) (hk : k ≤ K) (P : Per f K p) (h : ∀ j, j < K + L - k → f (k + j) = f (k + p + j)) : Per f k p := fun i hi => by
  by_cases z : i < K + L
  · have := h (i - k) (by omega)
    rw [show k + (i - k) = i by omega, show k + p + (i - k) = i + p by omega] at this
    exact this.symm
  · exact P i (by omega)
theorem LF.distinct (L : LF f H p) (hn : H + p ≤ n) {i j : Nat} (hij : i < j) (hj : j < H + p) : wd f i n ≠ wd f j n := fun e => by
  have e := wd_eq.mp e
  have hp := L.pos
  -- d is a period of the tail
  have key : ∀ x, H ≤ x → i ≤ x → x < i + n → f (x + (j - i)) = f x := fun x h1 h2 h3 => by
    have := e (x - i) (by omega)
    rw [show i + (x - i) = x by omega, show j + (x - i) = x + (j - i) by omega] at this
    exact this.symm
  by_cases hi : H ≤ i
  · have P : Per f H (j - i) := Per.back hp L.per (H' := i) (win_per (L := p) hp (Nat.le_refl p) (L.per.up hi) fun t ht => by
      have := key (i + t) (by omega) (by omega) (by omega)
      rw [show i + (j - i) + t = i + t + (j - i) by omega]
      exact this.symm)
    have := L.minp H (j - i) (by omega) P
    omega
  · have P : Per f H (j - i) := win_per (L := p) hp (Nat.le_refl p) L.per fun t ht => by
      have := key (H + t) (by omega) (by omega) (by omega)
      rw [show H + (j - i) + t = H + t + (j - i) by omega]
      exact this.symm
    -- p divides d
    have P2 := L.per.mod P
    have hd : (j - i) % p = 0 := by
      rcases Nat.eq_zero_or_pos ((j - i) % p) with z | z
      · exact z
      · have := L.minp H _ z P2
        have := Nat.mod_lt (j - i) hp
        omega
    have e1 := e (H - 1 - i) (by omega)
    rw [show i + (H - 1 - i) = H - 1 by omega, show j + (H - 1 - i) = H - 1 + (j - i) by omega] at e1
    obtain ⟨c, hc⟩ := Nat.dvd_of_mod_eq_zero hd
    have hc1 : 1 ≤ c := by
      rcases Nat.eq_zero_or_pos c with z | z
      · subst z; omega
      · exact z
    have hpc : p * c = p + p * (c - 1) := by
      obtain ⟨c', rfl⟩ : ∃ c', c = c' + 1 := ⟨c - 1, by omega⟩
      rw [Nat.mul_succ, Nat.add_sub_cancel]; omega
    have e2 := L.per.mul (c - 1) (H - 1 + p) (by omega)
    rw [show H - 1 + p + p * (c - 1) = H - 1 + (j - i) by omega] at e2
    have P3 : Per f (H - 1) p := fun x hx => by
      by_cases z : x = H - 1
      · subst z; rw [← e2, ← e1]
      · exact L.per x (by omega)
    have := L.minH _ P3
    omega
def nubL : List (List Nat) → List (List Nat)
  | [] => []
  | x :: xs => if x ∈ xs then nubL xs else x :: nubL xs
theorem nub_mem : ∀ {l : List (List Nat)} {x : List Nat}, x ∈ nubL l ↔ x ∈ l
  | [], _ => Iff.rfl
  | y :: ys, x => by
    unfold nubL
    by_cases h : y ∈ ys
    · rw [if_pos h, nub_mem, List.mem_cons]
      exact ⟨.inr, fun z => z.elim (fun e => by rw [e]; exact h) _root_.id⟩
    · rw [if_neg h, List.mem_cons, List.mem_cons, nub_mem]
theorem nub_nodup : ∀ l : List (List Nat), (nubL l).Nodup
  | [] => List.nodup_nil
  | y :: ys => by
    unfold nubL
    by_cases h : y ∈ ys
    · rw [if_pos h]; exact nub_nodup ys
    · rw [if_neg h, List.nodup_cons]; exact ⟨fun z => h (nub_mem.mp z), nub_nodup ys⟩
theorem nDiff_nub : ∀ l : List (List Nat), nDiff l = (nubL l).length
  | [] => rfl
  | y :: ys => by
    unfold nDiff nubL
    by_cases h : y ∈ ys
    · rw [if_pos h, if_pos h]; exact nDiff_nub ys
    · rw [if_neg h, if_neg h, List.length_cons, nDiff_nub ys]
theorem nDiff_eq {l k : List (List Nat)} (hk : k.Nodup) (hm : ∀ x, x ∈ k ↔ x ∈ l) : nDiff l = k.length := by
  rw [nDiff_nub]
  exact Nat.le_antisymm (nodup_sub (nub_nodup l) fun x hx => (hm x).mpr (nub_mem.mp hx)) (nodup_sub hk fun x hx => nub_mem.mpr ((hm x).mp hx))
def wds (f : Fn) (v n : Nat) : List (List Nat) := (List.range v).map fun k => wd f k n
theorem mem_wds {v : Nat} {x : List Nat} : x ∈ wds f v n ↔ ∃ k, k < v ∧ x = wd f k n := by
  unfold wds
  rw [List.mem_map]
  exact ⟨fun ⟨k, h, e⟩ => ⟨k, List.mem_range.mp h, e.symm⟩, fun ⟨k, h, e⟩ => ⟨k, List.mem_range.mpr h, e.symm⟩⟩
/-- how many words of n letters -/
def nW (f : Fn) (v n : Nat) : Nat := nDiff (wds f v n).reverse
theorem LF.words (L : LF f H p) {m : Nat} (hm : H + p ≤ m) {us : List (List Nat)} (nd : us.Nodup) (h : ∀ x, x ∈ us ↔ ∃ k, k < m ∧ x = wd f k n) : us.length = nW f (H + p) n := by
  refine (nDiff_eq nd fun x => ?_).symm
  rw [List.mem_reverse, mem_wds, h]
  constructor
  · rintro ⟨k, hk, rfl⟩
    by_cases z : k < H + p
    · exact ⟨k, z, rfl⟩
    · have hq := Nat.mod_lt (k - H) L.pos
      refine ⟨H + (k - H) % p, by omega, wd_eq.mpr fun i _ => ?_⟩
      have e := Nat.mod_add_div (k - H) p
      have := L.per.mul ((k - H) / p) (H + (k - H) % p + i) (by omega)
      rw [← this]
      congr 1
      omega
  · rintro ⟨k, hk, rfl⟩
    exact ⟨k, by omega, rfl⟩
theorem LF.all (L : LF f H p) (hn : H + p ≤ n) : nW f (H + p) n = H + p := by
  have nd : (wds f (H + p) n).Nodup := by
    unfold wds
    rw [List.nodup_iff_pairwise_ne, List.pairwise_map]
    refine List.Pairwise.imp_of_mem ?_ (List.pairwise_lt_range (n := H + p))
    intro i j hi hj hij
    exact L.distinct hn hij (List.mem_range.mp hj)
  rw [← L.words (Nat.le_refl _) nd fun x => mem_wds]
  simp [wds]
theorem LF.le (L : LF f H p) : nW f (H + p) n ≤ H + p := by
  have := nDiff_le (wds f (H + p) n).reverse
  simpa [nW, wds] using this
end
end Lb

set_option linter.all false
namespace Lb
open DL
def tri : Nat → Nat
  | 0 => 0
  | n + 1 => tri n + n
theorem tri_eq : ∀ n, 2 * tri n + n = n * n
  | 0 => rfl
  | n + 1 => by
    have := tri_eq n
    show 2 * (tri n + n) + (n + 1) = (n + 1) * (n + 1)
    grind
theorem tri_div (n : Nat) : n * (n - 1) / 2 = tri n := by
  have := tri_eq n
  have e : n * (n - 1) = 2 * tri n := by
    rw [Nat.mul_sub, Nat.mul_one]; omega
  omega
/-- the letters of so many full levels from length k on -/
def LL (v k l : Nat) : Nat := v * (l * k + tri l)
theorem LL_succ (v k l : Nat) : LL v k (l + 1) = LL v k l + v * (k + l) := by
  unfold LL
  rw [show tri (l + 1) = tri l + l from rfl]
  generalize tri l = T
  grind
theorem LL_le {v k l m : Nat} (h : l ≤ m) : LL v k l ≤ LL v k m := by
  induction m with
  | zero => rw [show l = 0 by omega]; exact Nat.le_refl _
  | succ m ih =>
    rcases Nat.lt_or_ge m l with z | z
    · rw [show l = m + 1 by omega]; exact Nat.le_refl _
    · have := ih z
      have := LL_succ v k m
      omega
theorem LL_shift (v k l : Nat) : LL v k (l + 1) = v * k + LL v (k + 1) l := by
  induction l with
  | zero => simp [LL, tri]
  | succ l ih =>
    have a := LL_succ v k (l + 1)
    have b := LL_succ v (k + 1) l
    have e : v * (k + (l + 1)) = v * (k + 1 + l) := by congr 1; omega
    omega
theorem wt_rep {v : Nat} (hv : 0 < v) : ∀ (N k l q : Nat), l * v + q ≤ N * v → q < v → wt k (l * v + q) (List.replicate N v) = LL v k l + q * (k + l)
  | 0, k, l, q, h, hq => by
    have e0 : 0 * v = 0 := Nat.zero_mul v
    have hq0 : q = 0 := by omega
    have hl0 : l = 0 := by
      rcases Nat.eq_zero_or_pos l with z | z
      · exact z
      · have := Nat.le_mul_of_pos_left v z
        omega
    subst hq0 hl0
    simp [wt, LL, tri]
  | N + 1, k, 0, q, h, hq => by
    rw [List.replicate_succ, Nat.zero_mul, Nat.zero_add]
    have e : min q v = q := by omega
    simp [wt, e, wt_zero, LL, tri]
  | N + 1, k, l + 1, q, h, hq => by
    rw [List.replicate_succ]
    have h1 : (l + 1) * v = l * v + v := Nat.succ_mul l v
    have h2 : (N + 1) * v = N * v + v := Nat.succ_mul N v
    have e : min ((l + 1) * v + q) v = v := by omega
    have e2 : (l + 1) * v + q - v = l * v + q := by omega
    have ih := wt_rep hv N (k + 1) l q (by omega) hq
    simp only [wt, e, e2, ih]
    have := LL_shift v k l
    rw [this, show k + 1 + l = k + (l + 1) by omega]
    omega
theorem fl_uniq {k left n : Nat} {cs : List Nat} (hk : 1 ≤ k) (h : n + 1 ≤ cs.sum) (h1 : wt k n cs ≤ left) (h2 : left < wt k (n + 1) cs) : fl k left cs = n := by
  have a := fl_max hk (show n ≤ cs.sum by omega) h1
  obtain ⟨b1, b2, b3⟩ := fl_most k left cs hk
  rcases Nat.lt_or_ge n (fl k left cs) with z | z
  · have := wt_mono k cs (n + 1) (fl k left cs) z
    omega
  · omega
theorem rep_sum (N v : Nat) : (List.replicate N v).sum = N * v := by simp
/-- the fill of the tail, closed -/
theorem fl_rep {v k left l N : Nat} (hv : 0 < v) (hk : 1 ≤ k) (h1 : LL v k l ≤ left) (h2 : left < LL v k (l + 1)) (hN : l + 2 ≤ N) : fl k left (List.replicate N v) = l * v + (left - LL v k l) / (k + l) := by
  have hs := LL_succ v k l
  have hkl : 0 < k + l := by omega
  generalize hq : (left - LL v k l) / (k + l) = q
  have q1 : q * (k + l) ≤ left - LL v k l := by rw [← hq]; exact Nat.div_mul_le_self _ _
  have q2 : left - LL v k l < (q + 1) * (k + l) := by
    have := Nat.lt_div_mul_add (a := left - LL v k l) hkl
    rw [hq] at this
    rw [Nat.succ_mul]; omega
  have q3 : q < v := by
    rcases Nat.lt_or_ge q v with z | z
    · exact z
    · have := Nat.mul_le_mul_right (k + l) z
      omega
  have hN1 : l * v + v + v ≤ N * v := by
    have := Nat.mul_le_mul_right v hN
    have e : (l + 2) * v = l * v + v + v := by rw [Nat.add_mul]; omega
    omega
  refine fl_uniq hk (by rw [rep_sum]; omega) ?_ ?_
  · rw [wt_rep hv N k l q (by omega) q3]; omega
  · rcases Nat.lt_or_ge (q + 1) v with z | z
    · rw [Nat.add_assoc, wt_rep hv N k l (q + 1) (by omega) z]; omega
    · have e : l * v + q + 1 = (l + 1) * v + 0 := by rw [Nat.succ_mul]; omega
      rw [e, wt_rep hv N k (l + 1) 0 (by rw [Nat.succ_mul]; omega) hv, Nat.zero_mul, Nat.add_zero]
      exact h2
/-- how many full levels: by the root -/
theorem levels_ok {v left s : Nat} (hv : 0 < v) (hs1 : s * s ≤ (2 * v - 1) * (2 * v - 1) + 4 * (2 * left / v)) (hs2 : (2 * v - 1) * (2 * v - 1) + 4 * (2 * left / v) < (s + 1) * (s + 1)) :
    2 * v - 1 ≤ s ∧ LL v v ((s - (2 * v - 1)) / 2) ≤ left ∧ left < LL v v ((s - (2 * v - 1)) / 2 + 1) := by
  obtain ⟨e, he⟩ : ∃ e, e = 2 * v - 1 := ⟨_, rfl⟩
  rw [← he] at hs1 hs2 ⊢
  have two : ∀ l, 2 * LL v v l = v * (l * (l + e)) := fun l => by
    have t := tri_eq l
    have h1 : 2 * (l * v + tri l) = l * (l + e) := by
      have : l * (l + e) + l = 2 * (l * v) + l * l := by
        have h2 : e + 1 = 2 * v := by omega
        have h3 : l * (l + e) + l = l * l + l * (e + 1) := by grind
        rw [h3, h2]; grind
      omega
    unfold LL
    rw [← h1]; grind
  have hse : e ≤ s := by
    rcases Nat.lt_or_ge s e with z | z
    · have := Nat.mul_le_mul (show s + 1 ≤ e from z) (show s + 1 ≤ e from z)
      omega
    · exact z
  have iff : ∀ l, LL v v l ≤ left ↔ 2 * l + e ≤ s := fun l => by
    have sq : (2 * l + e) * (2 * l + e) = 4 * (l * (l + e)) + e * e := by grind
    constructor
    · intro h
      have h3 : l * (l + e) ≤ 2 * left / v := by
        rw [Nat.le_div_iff_mul_le hv, Nat.mul_comm]
        have := two l
        omega
      rcases Nat.lt_or_ge s (2 * l + e) with z | z
      · have := Nat.mul_le_mul (show s + 1 ≤ 2 * l + e from z) (show s + 1 ≤ 2 * l + e from z)
        omega
      · exact z
    · intro h
      have := Nat.mul_le_mul h h
      have h3 : l * (l + e) ≤ 2 * left / v := by omega
      rw [Nat.le_div_iff_mul_le hv, Nat.mul_comm] at h3
      have := two l
      omega
  refine ⟨hse, (iff _).mpr (by omega), ?_⟩
  rcases Nat.lt_or_ge left (LL v v ((s - e) / 2 + 1)) with z | z
  · exact z
  · have := (iff _).mp z
    omega
theorem wt_more {k m : Nat} {cs : List Nat} (ds : List Nat) : ∀ {k m : Nat} {cs : List Nat}, m ≤ cs.sum → wt k m (cs ++ ds) = wt k m cs
  | k, m, [], h => by
    have : m = 0 := by simpa using h
    subst this
    rw [wt_zero, wt_zero]
  | k, m, c :: cs, h => by
    rw [List.sum_cons] at h
    rw [List.cons_append]
    simp only [wt]
    rw [wt_more ds (k := k + 1) (m := m - min m c) (cs := cs) (by omega)]
theorem wt_lt : ∀ {k m : Nat} {cs : List Nat}, 1 ≤ k → m + 1 ≤ cs.sum → wt k m cs < wt k (m + 1) cs
  | k, m, [], hk, h => by simp at h
  | k, m, c :: cs, hk, h => by
    rw [List.sum_cons] at h
    simp only [wt]
    by_cases hc : m < c
    · have e1 : min m c = m := by omega
      have e2 : min (m + 1) c = m + 1 := by omega
      rw [e1, e2, Nat.sub_self, Nat.sub_self, wt_zero, Nat.succ_mul]
      omega
    · have e1 : min m c = c := by omega
      have e2 : min (m + 1) c = c := by omega
      have ih := wt_lt (k := k + 1) (m := m - c) (cs := cs) (by omega) (by omega)
      rw [e1, e2, show m + 1 - c = m - c + 1 by omega]
      omega
theorem wt_sq {v : Nat} : ∀ {k n : Nat} {cs : List Nat}, 1 ≤ k → (∀ c ∈ cs, c ≤ v) → n ≤ cs.sum → n * (n + 2 * v * (k - 1)) ≤ 2 * v * wt k n cs
  | k, n, [], hk, hc, h => by
    have : n = 0 := by simpa using h
    subst this
    simp
  | k, n, c :: cs, hk, hc, h => by
    rw [List.sum_cons] at h
    simp only [wt]
    obtain ⟨t, ht⟩ : ∃ t, t = min n c := ⟨_, rfl⟩
    rw [← ht]
    have hcv := hc c (List.mem_cons_self ..)
    obtain ⟨r, hr⟩ : ∃ r, n = t + r := ⟨n - t, by omega⟩
    obtain ⟨w, hw⟩ : ∃ w, v = t + w := ⟨v - t, by omega⟩
    have ih := wt_sq (v := v) (k := k + 1) (n := r) (cs := cs) (by omega) (fun x hx => hc x (List.mem_cons_of_mem _ hx)) (by omega)
    obtain ⟨j, rfl⟩ : ∃ j, k = j + 1 := ⟨k - 1, by omega⟩
    rw [show n - t = r by omega]
    simp only [Nat.add_sub_cancel] at ih ⊢
    generalize wt (j + 1 + 1) r cs = z at ih ⊢
    have e1 : 2 * v * (t * (j + 1) + z) = 2 * v * z + 2 * v * t * (j + 1) := by grind
    have e2 : n * (n + 2 * v * j) + t * t + 2 * (r * w) + 2 * (t * w) = r * (r + 2 * v * (j + 1)) + 2 * v * t * (j + 1) := by
      rw [hr, hw]; grind
    omega
/-- the caps of an endless text: the words of each length, from v letters on as many as v -/
def capF (f : Fn) (v N : Nat) : List Nat := ((List.range (v - 1)).map fun k => nW f v (k + 1)) ++ List.replicate N v
def wtF (f : Fn) (v n : Nat) : Nat := wt 1 n (capF f v (n + 1))
theorem capF_sum {f : Fn} {v N : Nat} (hv : 0 < v) : N ≤ (capF f v N).sum := by
  unfold capF
  rw [List.sum_append, rep_sum]
  have := Nat.le_mul_of_pos_right N hv
  omega
theorem wtF_eq {f : Fn} {v n N : Nat} (hv : 0 < v) (h : n ≤ N) : wt 1 n (capF f v N) = wtF f v n := by
  have key : ∀ M, n ≤ M → wt 1 n (capF f v M) = wt 1 n (capF f v n) := fun M hM => by
    have e : capF f v M = capF f v n ++ List.replicate (M - n) v := by
      unfold capF
      rw [List.append_assoc, List.replicate_append_replicate, show n + (M - n) = M by omega]
    rw [e, wt_more (k := 1) (m := n) (cs := capF f v n) _ (capF_sum hv)]
  unfold wtF
  rw [key N h, key (n + 1) (by omega)]
theorem wtF_lt {f : Fn} {v n : Nat} (hv : 0 < v) : wtF f v n < wtF f v (n + 1) := by
  rw [← wtF_eq (N := n + 1) hv (Nat.le_succ n), ← wtF_eq (N := n + 1) hv (Nat.le_refl _)]
  exact wt_lt (Nat.le_refl 1) (capF_sum hv)
theorem wtF_le {f : Fn} {v n m : Nat} (hv : 0 < v) (h : n ≤ m) : wtF f v n ≤ wtF f v m := by
  induction m with
  | zero => rw [show n = 0 by omega]; exact Nat.le_refl _
  | succ m ih =>
    rcases Nat.lt_or_ge m n with z | z
    · rw [show n = m + 1 by omega]; exact Nat.le_refl _
    · exact Nat.le_trans (ih z) (Nat.le_of_lt (wtF_lt hv))
/-- the most words that so many letters hold -/
def IsB (f : Fn) (v span n : Nat) : Prop := wtF f v n ≤ span ∧ span < wtF f v (n + 1)
theorem IsB.uniq {f : Fn} {v span n m : Nat} (hv : 0 < v) (h : IsB f v span n) (h' : IsB f v span m) : n = m := by
  rcases Nat.lt_trichotomy n m with z | z | z
  · have := wtF_le (f := f) hv (show n + 1 ≤ m from z)
    have := h.2; have := h'.1; omega
  · exact z
  · have := wtF_le (f := f) hv (show m + 1 ≤ n from z)
    have := h'.2; have := h.1; omega
theorem IsB.of_fl {f : Fn} {v span N : Nat} (hv : 0 < v) (hN : span + 1 ≤ N) : IsB f v span (fl 1 span (capF f v N)) := by
  obtain ⟨h1, h2, h3⟩ := fl_most 1 span (capF f v N) (Nat.le_refl 1)
  have hs := capF_sum (f := f) (N := N) hv
  have hg := wt_ge (capF f v N) 1 _ h1
  generalize fl 1 span (capF f v N) = n at h1 h2 h3 hg
  rcases h3 with h3 | h3
  · omega
  · exact ⟨by rw [← wtF_eq (N := N) hv (by omega)]; exact h2, by rw [← wtF_eq (N := N) hv (by omega)]; exact h3⟩
end Lb

set_option linter.all false
set_option maxRecDepth 100000
namespace Lb
open PySem PySem.Spec PyProof.Rows L2 DL
def r_root_length_1 : DS :=
  (dRet (dCal cLen (dVar 0)))
def t_root_length : DS :=
  (dSeq (dFor (dRng2 (dC (.int 1)) (dCal cLen (dVar 0))) (gNm 1)
  (dIfS (dAnd (dCmpT cEq (dOp cMod (dCal cLen (dVar 0)) (dVar 1)) (dC (.int 0))) (dCmpT cEq (dOp cMul (dSlice (dVar 0) dNoP (dPart (dVar 1))) (dOp cDiv (dCal cLen (dVar 0)) (dVar 1))) (dVar 0))) (dRet (dVar 1)) dNext))
  (r_root_length_1))
def r_least_round_1 (S_root_length : DSp) : DS :=
  (dRet (dTup (dCons (dSlice (dVar 0) dNoP (dPart (dVar 3))) (dCons (dVar 2) dNil))))
def t_least_round (S_root_length : DSp) : DS :=
  (dSeq (dSet 2 (dSlice (dVar 1) dNoP (dPart (dCall S_root_length (dCons (dVar 1) dNil)))))
  (dSeq (dSet 3 (dCal cLen (dVar 0)))
  (dSeq (dWhile (dAnd (dCmpT cGt (dVar 3) (dC (.int 0))) (dCmpT cEq (dOp cIx (dVar 0) (dOp cSub (dVar 3) (dC (.int 1)))) (dOp cIx (dVar 2) (dUn cNeg (dC (.int 1))))))
  (dSeq (dSet 2 (dOp cAdd (dOp cIx (dVar 2) (dUn cNeg (dC (.int 1)))) (dSlice (dVar 2) dNoP (dPart (dUn cNeg (dC (.int 1)))))))
  (dSet 3 (dOp cSub (dVar 3) (dC (.int 1))))))
  (r_least_round_1 S_root_length))))
def t_Round_init (Ad : Str → Addr) (S_check_alphabet : DSp) (S_check_text : DSp) (S_least_round : DSp) : DS :=
  (dSeq (dDrop (dCall S_check_alphabet (dCons (dVar 1) dNil)))
  (dSeq (dDrop (dCall S_check_text (dCons (dVar 1) (dCons (dVar 2) dNil))))
  (dSeq (dDrop (dCall S_check_text (dCons (dVar 1) (dCons (dVar 3) dNil))))
  (dSeq (dIfS (dCmpT cEq (dVar 3) (dC (.str []))) dNever dNext)
  (dSeq (dSetF ([Ad "Round"] : List Addr) "alphabet" 0 (dVar 1))
  (dSeq (dAsg (dCall S_least_round (dCons (dVar 2) (dCons (dVar 3) dNil))) (gTp 2 (gsC (gFldD ([Ad "Round"] : List Addr) "head" 0) (gsC (gFldD ([Ad "Round"] : List Addr) "ring" 0) gsN))))
  (dSetF ([Ad "Round"] : List Addr) "variety" 0 (dOp cAdd (dCal cLen (dFld ([Ad "Round"] : List Addr) "head" (dPk 0))) (dCal cLen (dFld ([Ad "Round"] : List Addr) "ring" (dPk 0)))))))))))
def t_Round_beginning (Ad : Str → Addr) : DS :=
  (dSeq (dSet 2 (dOp cAdd (dOp cDiv (dVar 1) (dCal cLen (dFld ([Ad "Round"] : List Addr) "ring" (dVar 0)))) (dC (.int 1))))
  (dRet (dSlice (dOp cAdd (dFld ([Ad "Round"] : List Addr) "head" (dVar 0)) (dOp cMul (dFld ([Ad "Round"] : List Addr) "ring" (dVar 0)) (dVar 2))) dNoP (dPart (dVar 1)))))
def t_word_count (Ad : Str → Addr) (S_Round_beginning : DSp) : DS :=
  (dSeq (dIfS (dCmpT cGe (dVar 1) (dFld ([Ad "Round"] : List Addr) "variety" (dVar 0))) (dRet (dFld ([Ad "Round"] : List Addr) "variety" (dVar 0))) dNext)
  (dSeq (dSet 2 (dMeth (Ad "Round") "beginning" S_Round_beginning (dVar 0) (dCons (dOp cAdd (dFld ([Ad "Round"] : List Addr) "variety" (dVar 0)) (dVar 1)) dNil)))
  (dRet (dLenSet (dRng1 (dFld ([Ad "Round"] : List Addr) "variety" (dVar 0))) (gNm 3) dTru (dSlice (dVar 2) (dPart (dVar 3)) (dPart (dOp cAdd (dVar 3) (dVar 1)))) [3]))))
def t__law_whole : DS :=
  (dRet (dAndV (dCal (cIsi .int) (dVar 0)) (dNotV (dCal (cIsi .bool) (dVar 0)))))
def r__law_alphabet_1 : DS :=
  (dDrop (dApp 4 (dOp cIx (dVar 3) (dVar 6))))
def r__law_alphabet_2 : DS :=
  (dRet (dJoin false (dC (.str [])) (dCal cSortedA (dPk 4))))
def t__law_alphabet : DS :=
  (dSeq (dSet 2 (dOp cMin (dVar 1) (dOp cIx (dLst (dCons (dC (.int 2)) (dCons (dC (.int 2)) (dCons (dC (.int 2)) (dCons (dC (.int 2)) (dCons (dC (.int 3)) (dCons (dC (.int 3)) (dCons (dC (.int 3)) (dCons (dC (.int 1)) (dCons (dC (.int 4)) (dCons (dC (.int 5)) (dCons (dC (.int 6)) (dCons (dC (.int 2)) dNil))))))))))))) (dOp cIx (dVar 0) (dC (.int 0))))))
  (dSeq (dSet 3 (dC (.str [48, 49, 50, 51, 52, 53, 54, 55, 56, 57, 97, 98, 99, 100, 101, 102, 103, 104, 105, 106, 107, 108, 109, 110, 111, 112, 113, 114, 115, 116, 117, 118, 119, 120, 121, 122])))
  (dSeq (dSetO 4 (dLst dNil))
  (dSeq (dFor (dRng1 (dVar 2)) (gNm 5)
  (dSeq (dSet 6 (dOp cMod (dCal cInt (dOp cIx (dVar 0) (dOp cAdd (dC (.int 1)) (dVar 5)))) (dC (.int 36))))
  (dSeq (dFor (dRng1 (dC (.int 36))) (gNm 7)
  (dIfS (dCmpT cIn (dOp cIx (dVar 3) (dVar 6)) (dPk 4)) (dSet 6 (dOp cMod (dCal cInt (dOp cAdd (dVar 6) (dC (.int 1)))) (dC (.int 36)))) dNext))
  (r__law_alphabet_1))))
  (r__law_alphabet_2)))))
def t__law_plain_text : DS :=
  (dRet (dJoin false (dC (.str [])) (dLc (dRng1 (dVar 2)) (gNm 3) dTru (dOp cIx (dVar 0) (dOp cMod (dCal cInt (dOp cIx (dVar 1) (dVar 3))) (dCal cLen (dVar 0)))) [3])))
def r__law_writing_1 (S__law_plain_text : DSp) : DS :=
  (dSeq (dIfS (dCmpT cEq (dVar 6) (dC (.int 0))) (dRet (dLst (dCons (dSlice (dVar 4) dNoP (dPart (dOp cIx (dVar 1) (dC (.int 3))))) (dCons (dSlice (dVar 5) dNoP (dPart (dOp cMax (dC (.int 1)) (dOp cIx (dVar 1) (dC (.int 4)))))) dNil)))) dNext)
  (dSeq (dIfS (dCmpT cLt (dVar 6) (dC (.int 3))) (dRet (dLst (dCons (dVar 7) (dCons (dVar 8) dNil)))) dNext)
  (dSeq (dIfS (dCmpT cLt (dVar 6) (dC (.int 5))) (dRet (dLst (dCons (dVar 7) (dCons (dVar 9) dNil)))) dNext)
  (dSeq (dIfS (dCmpT cLt (dVar 6) (dC (.int 8))) (dRet (dLst (dCons (dOp cAdd (dVar 7) (dVar 10)) (dCons (dVar 9) dNil)))) dNext)
  (dSeq (dIfS (dCmpT cEq (dVar 6) (dC (.int 8))) (dRet (dLst (dCons (dSlice (dOp cMul (dVar 8) (dC (.int 60))) (dPart (dOp cSub (dOp cMul (dC (.int 60)) (dCal cLen (dVar 8))) (dOp cIx (dVar 1) (dC (.int 6))))) dNoP) (dCons (dVar 9) dNil)))) dNext)
  (dSeq (dIfS (dCmpT cEq (dVar 6) (dC (.int 9))) (dRet (dLst (dCons (dOp cAdd (dVar 7) (dVar 10)) (dCons (dVar 8) dNil)))) dNext)
  (dSeq (dIfS (dCmpT cEq (dVar 6) (dC (.int 10))) (dRet (dLst (dCons (dOp cAdd (dVar 7) (dVar 10)) (dCons (dOp cAdd (dSlice (dVar 9) dNoP (dPart (dUn cNeg (dC (.int 1))))) (dVar 11)) dNil)))) dNext)
  (dSeq (dIfS (dCmpT cEq (dVar 6) (dC (.int 11))) (dRet (dLst (dCons (dOp cMul (dOp cIx (dVar 8) (dC (.int 0))) (dOp cIx (dVar 1) (dC (.int 3)))) (dCons (dOp cMul (dOp cIx (dVar 8) (dC (.int 0))) (dOp cMax (dC (.int 1)) (dOp cIx (dVar 1) (dC (.int 4))))) dNil)))) dNext)
  (dSeq (dIfS (dCmpT cEq (dVar 6) (dC (.int 12))) (dRet (dLst (dCons (dOp cAdd (dSlice (dVar 4) dNoP (dPart (dOp cMod (dCal cInt (dOp cIx (dVar 1) (dC (.int 3)))) (dC (.int 31))))) (dSlice (dVar 12) (dPart (dOp cMod (dCal cInt (dOp cIx (dVar 1) (dC (.int 6)))) (dCal cLen (dVar 12)))) dNoP)) (dCons (dOp cAdd (dVar 12) (dVar 12)) dNil)))) dNext)
  (dSeq (dIfS (dCmpT cEq (dVar 6) (dC (.int 13))) (dSeq (dSet 13 (dOp cMod (dCal cInt (dOp cIx (dVar 1) (dC (.int 7)))) (dCal cLen (dVar 12))))
  (dRet (dLst (dCons (dVar 7) (dCons (dOp cAdd (dOp cAdd (dOp cAdd (dVar 12) (dSlice (dVar 12) dNoP (dPart (dVar 13)))) (dVar 11)) (dSlice (dVar 12) (dPart (dOp cAdd (dVar 13) (dC (.int 1)))) dNoP)) dNil))))) dNext)
  (dSeq (dIfS (dCmpT cEq (dVar 6) (dC (.int 14))) (dRet (dLst (dCons (dC (.str [])) (dCons (dVar 9) dNil)))) dNext)
  (dRet (dLst (dCons (dOp cAdd (dOp cAdd (dVar 7) (dVar 11)) (dVar 10)) (dCons (dVar 9) dNil)))))))))))))))
def r__law_writing_2 (S__law_plain_text : DSp) : DS :=
  (dSeq (dSet 10 (dSlice (dOp cMul (dVar 8) (dC (.int 60))) (dPart (dOp cSub (dOp cMul (dC (.int 60)) (dCal cLen (dVar 8))) (dOp cMod (dCal cInt (dOp cIx (dVar 1) (dC (.int 6)))) (dC (.int 25))))) dNoP))
  (dSeq (dSet 11 (dOp cIx (dVar 0) (dOp cMod (dCal cInt (dOp cAdd (dOp cAdd (dM1 cSIndex (dVar 0) (dOp cIx (dVar 8) (dUn cNeg (dC (.int 1))))) (dC (.int 1))) (dOp cIx (dVar 1) (dC (.int 7))))) (dCal cLen (dVar 0)))))
  (dSeq (dSet 12 (dSlice (dVar 5) dNoP (dPart (dOp cAdd (dC (.int 1)) (dOp cMod (dCal cInt (dOp cIx (dVar 1) (dC (.int 4)))) (dC (.int 30)))))))
  (r__law_writing_1 S__law_plain_text))))
def t__law_writing (S__law_plain_text : DSp) : DS :=
  (dSeq (dSet 4 (dCall S__law_plain_text (dCons (dVar 0) (dCons (dVar 2) (dCons (dC (.int 60)) dNil)))))
  (dSeq (dSet 5 (dCall S__law_plain_text (dCons (dVar 0) (dCons (dVar 3) (dCons (dC (.int 60)) dNil)))))
  (dSeq (dSet 6 (dOp cIx (dVar 1) (dC (.int 0))))
  (dSeq (dSet 7 (dSlice (dVar 4) dNoP (dPart (dOp cIx (dVar 1) (dC (.int 1))))))
  (dSeq (dSet 8 (dSlice (dVar 5) dNoP (dPart (dOp cAdd (dC (.int 1)) (dOp cIx (dVar 1) (dC (.int 2)))))))
  (dSeq (dSet 9 (dOp cMul (dVar 8) (dOp cMin (dOp cAdd (dC (.int 1)) (dOp cIx (dVar 1) (dC (.int 5)))) (dOp cDiv (dC (.int 60)) (dCal cLen (dVar 8))))))
  (r__law_writing_2 S__law_plain_text)))))))
def r__law_form_1 : DS :=
  (dRet (dLst (dCons (dSlice (dVar 2) dNoP (dPart (dVar 5))) (dCons (dSlice (dVar 2) (dPart (dVar 5)) (dPart (dOp cAdd (dVar 5) (dVar 3)))) dNil))))
def r__law_form_2 : DS :=
  (dSeq (dSet 5 (dCal cLen (dVar 0)))
  (dSeq (dFor (dRng1 (dOp cAdd (dCal cLen (dVar 0)) (dC (.int 1)))) (gNm 4)
  (dIfS (dCmpT cEq (dSlice (dVar 2) (dPart (dVar 4)) (dPart (dOp cAdd (dCal cLen (dVar 0)) (dC (.int 60))))) (dSlice (dVar 2) (dPart (dOp cAdd (dVar 4) (dVar 3))) (dPart (dOp cAdd (dOp cAdd (dCal cLen (dVar 0)) (dC (.int 60))) (dVar 3))))) (dSeq (dSet 5 (dVar 4))
  dBreak) dNext))
  (r__law_form_1)))
def t__law_form : DS :=
  (dSeq (dSet 2 (dOp cAdd (dVar 0) (dSlice (dOp cMul (dVar 1) (dC (.int 180))) dNoP (dPart (dC (.int 180))))))
  (dSeq (dSet 3 (dCal cLen (dVar 1)))
  (dSeq (dFor (dRng2 (dC (.int 1)) (dC (.int 61))) (gNm 4)
  (dIfS (dCmpT cEq (dSlice (dVar 2) (dPart (dCal cLen (dVar 0))) (dPart (dOp cAdd (dCal cLen (dVar 0)) (dC (.int 60))))) (dSlice (dVar 2) (dPart (dOp cAdd (dCal cLen (dVar 0)) (dVar 4))) (dPart (dOp cAdd (dOp cAdd (dCal cLen (dVar 0)) (dVar 4)) (dC (.int 60)))))) (dSeq (dSet 3 (dVar 4))
  dBreak) dNext))
  (r__law_form_2))))
def r__law_giant_1 : DS :=
  (dRet (dVar 1))
def t__law_giant : DS :=
  (dSeq (dIfS (dCmpT cEq (dOp cIx (dVar 0) (dC (.int 0))) (dC (.int 31))) (dRet (dOp cPow (dC (.int 10)) (dC (.int 30)))) dNext)
  (dSeq (dSet 1 (dC (.int 0)))
  (dSeq (dFor (dRng1 (dOp cIx (dVar 0) (dC (.int 0)))) (gNm 2)
  (dSet 1 (dOp cAdd (dOp cMul (dVar 1) (dC (.int 10))) (dOp cIx (dVar 0) (dOp cAdd (dC (.int 1)) (dVar 2))))))
  (r__law_giant_1))))
def r__law_words_1 : DS :=
  (dRet (dCal cLenK (dPk 4)))
def t__law_words : DS :=
  (dSeq (dSet 3 (dOp cAdd (dVar 0) (dOp cMul (dVar 1) (dOp cAdd (dOp cDiv (dVar 2) (dCal cLen (dVar 1))) (dC (.int 2))))))
  (dSeq (dSetO 4 (dNew (.dk [] [])))
  (dSeq (dFor (dRng1 (dOp cAdd (dCal cLen (dVar 0)) (dCal cLen (dVar 1)))) (gNm 5)
  (dDput 4 (dC (.bl true)) (dSlice (dVar 3) (dPart (dVar 5)) (dPart (dOp cAdd (dVar 5) (dVar 2))))))
  (r__law_words_1))))
def r__law_counting_text_1 : DS :=
  (dSeq (dSet 2 (dOp cAdd (dVar 2) (dJoin false (dC (.str [])) (dVar 5))))
  (dSet 3 (dCal cListc (dVar 5))))
def r__law_counting_text_2 : DS :=
  (dRet (dSlice (dVar 2) dNoP (dPart (dVar 1))))
def t__law_counting_text : DS :=
  (dSeq (dSet 2 (dC (.str [])))
  (dSeq (dSet 3 (dLst (dCons (dC (.str [])) dNil)))
  (dSeq (dFor (dRng1 (dC (.int 400))) (gNm 4)
  (dSeq (dIfS (dCmpT cGe (dCal cLen (dVar 2)) (dVar 1)) dBreak dNext)
  (dSeq (dSet 5 (dLst dNil))
  (dSeq (dFor (dItS (dVar 3)) (gNm 6)
  (dIfS (dCmpT cLt (dOp cAdd (dCal cLen (dVar 2)) (dOp cMul (dCal cLen (dVar 5)) (dOp cAdd (dCal cLen (dVar 6)) (dC (.int 1))))) (dOp cAdd (dVar 1) (dOp cMul (dC (.int 6)) (dOp cAdd (dCal cLen (dVar 6)) (dC (.int 1)))))) (dSet 5 (dOp cAdd (dVar 5) (dLc (dItS (dVar 0)) (gNm 7) dTru (dOp cAdd (dVar 6) (dVar 7)) [7]))) dNext))
  (r__law_counting_text_1)))))
  (r__law_counting_text_2))))
end Lb

set_option linter.all false
set_option maxRecDepth 100000
set_option maxHeartbeats 2000000
namespace Lb
open PySem PySem.Spec PyProof.Rows L2 DL
theorem atI_of {α : Type} {l : List α} {i : Int} {k : Nat} {x : α} (h : l[k]? = some x) (e : i = k) : atI l i = some x := by
  obtain ⟨hk, rfl⟩ := List.getElem?_eq_some_iff.mp h
  exact at_ok e hk
theorem wd_last {f : Fn} {a n : Nat} (h : 0 < n) : wd f a n = wd f a (n - 1) ++ [f (a + n - 1)] := by
  have := (wd_app (f := f) (a := a) (m := n - 1) (n := 1)).symm
  rw [show n - 1 + 1 = n by omega, wd_one, show a + (n - 1) = a + n - 1 by omega] at this
  exact this
theorem atI_wl {f : Fn} {a n : Nat} (h : 0 < n) : atI (wd f a n) (-1) = some (f (a + n - 1)) := by rw [wd_last h, Lb.atI_last]
theorem cut_wl {f : Fn} {a n : Nat} : cutD (wd f a n) none (some (-1)) = wd f a (n - 1) := by rw [cut_init, wd_len, wd_take (by omega)]
theorem wd_cons {f : Fn} {a n : Nat} : f a :: wd f (a + 1) n = wd f a (n + 1) := by
  have := wd_app (f := f) (a := a) (m := 1) (n := n)
  rw [wd_one, Nat.add_comm 1 n] at this
  exact this
def S_root_length : DSp := fun ds Q => ∃ r : List Nat, ds = [.str r] ∧ 0 < r.length ∧ r.length ≤ 100000 ∧ ∀ l : Nat, 0 < l → l ≤ r.length → (∀ h : List Nat, Per (en h r) h.length l ∧ ∀ H' q, 0 < q → Per (en h r) H' q → l ≤ q) → Q (.int l)
theorem len_root_length : ∀ ds Q, S_root_length ds Q → ds.length = (["ring"] : List Str).length := by rintro _ _ ⟨_, rfl, _⟩; rfl
theorem rd_root_length (ds : List D) (Q : D → Prop) (h : S_root_length ds Q) : t_root_length { nx := fun _ => false = false ∧ Q .non, rt := Q } (startD 2 ds) := by
  obtain ⟨r, rfl, hr, hr2, q⟩ := h
  have hsl : sizeLine = 16777216 := sizeLine_eq
  refine ⟨by omega, ⟨by omega, by omega, by omega, by omega⟩, fun k env => ∃ x : Sl, env = [.fz (.str r), x] ∧ ∀ l, 0 < l → l < k + 1 → r.length % l = 0 → ∀ h : List Nat, ¬ Per (en h r) h.length l, ⟨_, rfl, fun l h1 h2 => by omega⟩, ?_, ?_⟩
  · rintro k d _ hd ⟨x, rfl, ht⟩
    obtain ⟨hk, rfl⟩ := rngD_get hd
    have hk1 : (k : Int) + 1 < r.length := by omega
    have e1 : (1 : Int) + k = ((k + 1 : Nat) : Int) := by omega
    rw [e1]
    have hdv : ((r.length : Int) % ((k + 1 : Nat) : Int)) = ((r.length % (k + 1) : Nat) : Int) := by omega
    have hqv : ((r.length : Int) / ((k + 1 : Nat) : Int)) = ((r.length / (k + 1) : Nat) : Int) := by omega
    have hml : r.length / (k + 1) * (k + 1) ≤ r.length := Nat.div_mul_le_self _ _
    have hdl : r.length / (k + 1) ≤ r.length := Nat.div_le_self _ _
    have hcl : (cutD r none (some (((k + 1 : Nat) : Int)))).length = k + 1 := by rw [cut_to r rfl, List.length_take]; omega
    have next : (r.length % (k + 1) = 0 → ∀ h : List Nat, ¬ Per (en h r) h.length (k + 1)) → ∃ x : Sl, ss [Sl.fz (D.str r), x] 1 (.fz (.int ((k + 1 : Nat) : Int))) = [.fz (.str r), x] ∧ ∀ l, 0 < l → l < k + 1 + 1 → r.length % l = 0 → ∀ h : List Nat, ¬ Per (en h r) h.length l := fun z => ⟨_, rfl, fun l h1 h2 h3 => by
      rcases Nat.lt_or_ge l (k + 1) with y | y
      · exact ht l h1 y h3
      · obtain rfl : l = k + 1 := by omega
        exact z h3⟩
    refine ⟨by omega, by omega, fun hb => ?_, fun hb => ⟨fun z => (nomatch z), fun _ => next fun z => ?_⟩⟩
    · have hb := of_decide_eq_true hb
      have hb0 : r.length % (k + 1) = 0 := by omega
      refine ⟨by omega, by omega, by omega, log_ok (by omega) (by omega), by omega, ?_, by have : (0 : Int) ≤ (r.length : Int) / ((k + 1 : Nat) : Int) := Int.ediv_nonneg (by omega) (by omega); omega, fun hc => ?_, fun hc => ?_⟩
      · rw [hcl, hqv, Int.toNat_natCast, Nat.mul_comm]; omega
      · have hc := of_decide_eq_true hc
        rw [cut_to r rfl, hqv, Int.toNat_natCast] at hc
        refine q (k + 1) (by omega) (by omega) fun h => ?_
        have hp := (root_iff (h := h) hr (Nat.succ_pos k) hb0).mp hc
        exact ⟨hp, least_per hr (en_per hr) fun l h1 h2 h3 => ht l h1 h2 h3 h⟩
      · have hc := of_decide_eq_false hc
        rw [cut_to r rfl, hqv, Int.toNat_natCast] at hc
        exact next fun _ h P => hc ((root_iff hr (Nat.succ_pos k) hb0).mpr P)
    · have hb := of_decide_eq_false hb
      omega
  · rintro _ ⟨x, rfl, ht⟩
    rw [rngD_len] at ht
    exact ⟨by omega, q r.length hr (Nat.le_refl _) fun h => ⟨en_per hr, least_per hr (en_per hr) fun l h1 h2 h3 => ht l h1 (by omega) h3 h⟩⟩
def S_least_round : DSp := fun ds Q => ∃ h r : List Nat, ds = [.str h, .str r] ∧ 0 < r.length ∧ r.length ≤ 100000 ∧ h.length ≤ 100000 ∧ ∀ H p, LF (en h r) H p → H ≤ h.length → p ≤ r.length → Q (.tup [.str (wd (en h r) 0 H), .str (wd (en h r) H p)])
theorem len_least_round : ∀ ds Q, S_least_round ds Q → ds.length = (["head", "ring"] : List Str).length := by rintro _ _ ⟨_, _, rfl, _⟩; rfl
theorem rd_least_round (ds : List D) (Q : D → Prop) (h : S_least_round ds Q) : t_least_round S_root_length { nx := fun _ => false = false ∧ Q .non, rt := Q } (startD 4 ds) := by
  obtain ⟨h, r, rfl, hr, hr2, hh, q⟩ := h
  have hsl : sizeLine = 16777216 := sizeLine_eq
  refine ⟨r, rfl, hr, hr2, fun p hp hp2 hP => ?_⟩
  obtain ⟨P, hmin⟩ := hP h
  obtain ⟨f, hf⟩ : ∃ f, f = en h r := ⟨_, rfl⟩
  rw [← hf] at P hmin q
  have hroot : cutD r none (some ((p : Nat) : Int)) = wd f h.length p := by rw [cut_to r rfl, ← wd_take hp2, hf, en_ring hr]
  have hhd : ∀ i, i < h.length → h[i]? = some (f i) := fun i hi => by rw [hf]; exact en_lt hi
  have hhw : wd f 0 h.length = h := by rw [hf]; exact en_head
  refine ⟨by omega, by omega, ?_⟩
  refine ⟨fun m env => ∃ (k : Nat) (ki : Int), env = [.fz (.str h), .fz (.str r), .fz (.str (wd f k p)), .fz (.int ki)] ∧ ki = k ∧ m = k ∧ k ≤ h.length ∧ Per f k p, ⟨h.length, h.length, h.length, by rw [← hroot]; rfl, rfl, rfl, Nat.le_refl _, P⟩, ?_⟩
  rintro m _ ⟨k, ki, rfl, rfl, rfl, hk, Pk⟩
  have hwl : (wd f m p).length = p := wd_len
  have fin : (m = 0 ∨ f (m - 1) ≠ f (m - 1 + p)) → (h.length ≤ sizeLine ∧ 2 ≤ sizeLine ∧ Q (.tup [.str (cutD h none (some (m : Int))), .str (wd f m p)])) := fun z => by
    refine ⟨by omega, by omega, ?_⟩
    have := q m p ⟨hp, Pk, hmin, start_min z⟩ hk hp2
    rw [← wd_take hk, hhw] at this
    rw [cut_to h rfl]
    exact this
  refine ⟨fun hb => ?_, fun hb => ⟨fun z => (nomatch z), fun _ => ?_⟩⟩
  · have hb := of_decide_eq_true hb
    refine ⟨by omega, _, atI_of (hhd (m - 1) (by omega)) (by omega), by omega, _, atI_wl hp, fun hc => ?_, fun hc => ?_⟩
    · have hc := of_decide_eq_true hc
      injection hc with hc _
      have P2 : Per f (m - 1) p := fun i hi => by
        rcases Nat.lt_or_ge i m with z | z
        · obtain rfl : i = m - 1 := by omega
          rw [hc]; congr 1; omega
        · exact Pk i z
      have hcl : (cutD (wd f m p) none (some (-1))).length = p - 1 := by rw [cut_wl, wd_len]
      refine ⟨by omega, _, atI_wl hp, by omega, ?_, m - 1, by omega, m - 1, (m : Int) - 1, ?_, by omega, rfl, by omega, P2⟩
      · rw [hcl]; show 1 + (p - 1) ≤ _; omega
      · have e : wd f (m - 1) p = [f (m + p - 1)] ++ cutD (wd f m p) none (some (-1)) := by
          rw [cut_wl, ← hc]
          have := wd_cons (f := f) (a := m - 1) (n := p - 1)
          rw [show m - 1 + 1 = m by omega, show p - 1 + 1 = p by omega] at this
          exact this.symm
        rw [e]; rfl
    · have hc := of_decide_eq_false hc
      refine fin (.inr fun z => hc ?_)
      rw [z, show m - 1 + p = m + p - 1 by omega]
  · have hb := of_decide_eq_false hb
    exact fin (.inl (by omega))
def rndFs : List Str := ["alphabet", "head", "ring", "variety"]
def rndI (Ad : Str → Addr) (A : List Nat) (f : Fn) (H p : Nat) : D := .ins (Ad "Round") rndFs [.str A, .str (wd f 0 H), .str (wd f H p), .int ((H + p : Nat) : Int)]
def S_Round (Ad : Str → Addr) : DSp := fun ds Q => ∃ A h r : List Nat, ds = [.str A, .str h, .str r] ∧ IsAlpha A ∧ TextOf A h ∧ TextOf A r ∧ 0 < r.length ∧ r.length ≤ 100000 ∧ h.length ≤ 100000 ∧ ∀ H p, LF (en h r) H p → H ≤ h.length → p ≤ r.length → Q (rndI Ad A (en h r) H p)
theorem len_Round_init (Ad : Str → Addr) : ∀ ds Q, S_Round Ad ds Q → ds.length + 1 = (["self", "alphabet", "head", "ring"] : List Str).length := by rintro _ _ ⟨_, _, _, rfl, _⟩; rfl
theorem rd_Round_init (Ad : Str → Addr) (p : Addr) (ds : List D) (Q : D → Prop) (h : S_Round Ad ds Q) : t_Round_init Ad S_check_alphabet S_check_text S_least_round { nx := fun env => meD (gs env 0) fun p' d => p' = p ∧ Q d, rt := fun _ => False } (initD (Ad "Round") p 4 ds) := by
  obtain ⟨A, h, r, rfl, hA, h1, h2, hr, hr2, hh, q⟩ := h
  have hsl : sizeLine = 16777216 := sizeLine_eq
  have hC : Ad "Round" ∈ ([Ad "Round"] : List Addr) := List.mem_singleton.mpr rfl
  refine ⟨A, rfl, hA, A, h, rfl, h1, A, r, rfl, h2, fun z => ?_, fun _ => ?_⟩
  · have z := of_decide_eq_true z
    rw [z] at hr
    exact absurd hr (by decide)
  · refine ⟨hC, rfl, by decide, h, r, rfl, hr, hr2, hh, fun H p L hH hp => ?_⟩
    have q := q H p L hH hp
    have l1 : (wd (en h r) 0 H).length = H := wd_len
    have l2 : (wd (en h r) H p).length = p := wd_len
    refine ⟨rfl, hC, rfl, by decide, hC, rfl, by decide, hC, _, rfl, ?_, hC, _, rfl, ?_, hC, rfl, by decide, rfl, ?_⟩
    · rw [l1]; omega
    · rw [l2]; omega
    · have e : (((wd (en h r) 0 H).length : Nat) : Int) + ((wd (en h r) H p).length : Nat) = ((H + p : Nat) : Int) := by rw [l1, l2]; omega
      have := q
      unfold rndI at this
      rw [← e] at this
      exact this
def S_Round_beginning (Ad : Str → Addr) : DSp := fun ds Q => ∃ (A : List Nat) (f : Fn) (H p n : Nat), ds = [rndI Ad A f H p, .int (n : Nat)] ∧ LF f H p ∧ H + p ≤ 10000 ∧ n ≤ 100000 ∧ Q (.str (wd f 0 n))
theorem len_Round_beginning (Ad : Str → Addr) : ∀ ds Q, S_Round_beginning Ad ds Q → ds.length = (["self", "length"] : List Str).length := by rintro _ _ ⟨_, _, _, _, _, rfl, _⟩; rfl
theorem rd_Round_beginning (Ad : Str → Addr) (ds : List D) (Q : D → Prop) (h : S_Round_beginning Ad ds Q) : t_Round_beginning Ad { nx := fun _ => false = false ∧ Q .non, rt := Q } (startD 3 ds) := by
  obtain ⟨A, f, H, p, n, rfl, L, hH, hn, q⟩ := h
  have hsl : sizeLine = 16777216 := sizeLine_eq
  have hp := L.pos
  have hC : Ad "Round" ∈ ([Ad "Round"] : List Addr) := List.mem_singleton.mpr rfl
  have l1 : (wd f 0 H).length = H := wd_len
  have l2 : (wd f H p).length = p := wd_len
  have hdl : n / p ≤ n := Nat.div_le_self _ _
  have hml : n / p * p ≤ n := Nat.div_mul_le_self _ _
  have hlt : n < (n / p + 1) * p := by
    have := Nat.lt_div_mul_add (a := n) hp
    rw [Nat.succ_mul]; omega
  have hq : ((n : Int) / ((wd f H p).length : Nat) + 1) = ((n / p + 1 : Nat) : Int) := by rw [l2]; omega
  have hm2 : (n / p + 1) * p ≤ n + p := by rw [Nat.succ_mul]; omega
  have e : wd f 0 H ++ (List.replicate (n / p + 1) (wd f H p)).flatten = wd f 0 (H + (n / p + 1) * p) := by
    rw [en_rep (by rw [l2]; exact hp), l1, l2, en_wd hp L.per]
  refine ⟨hC, _, rfl, by rw [l2]; omega, by rw [l2]; omega, log_ok (by rw [l2]; omega) (by rw [l2]; omega), hC, _, rfl, hC, _, rfl, ?_, ?_, ?_, ?_, ?_, ?_⟩
  · rw [hq]; omega
  · rw [hq, l2, Int.toNat_natCast, Nat.mul_comm]; omega
  · have : (0 : Int) ≤ (n : Int) / ((wd f H p).length : Nat) := Int.ediv_nonneg (by omega) (by omega)
    omega
  · rw [hq, Int.toNat_natCast, l1, rep_len, l2]; omega
  · rw [hq, Int.toNat_natCast, e, wd_len]; omega
  · rw [hq, Int.toNat_natCast, e, cut_to _ rfl, wd_take (by omega)]; exact q
def S_word_count (Ad : Str → Addr) : DSp := fun ds Q => ∃ (A : List Nat) (f : Fn) (H p n : Nat) (i : Int), ds = [rndI Ad A f H p, .int i] ∧ i = n ∧ LF f H p ∧ H + p ≤ 2000 ∧ Q (.int (nW f (H + p) n : Nat))
theorem len_word_count (Ad : Str → Addr) : ∀ ds Q, S_word_count Ad ds Q → ds.length = (["endless", "length"] : List Str).length := by rintro _ _ ⟨_, _, _, _, _, _, rfl, _⟩; rfl
theorem rd_word_count (Ad : Str → Addr) (ds : List D) (Q : D → Prop) (h : S_word_count Ad ds Q) : t_word_count Ad (S_Round_beginning Ad) { nx := fun _ => false = false ∧ Q .non, rt := Q } (startD 4 ds) := by
  obtain ⟨A, f, H, p, n, i, rfl, rfl, L, hH, q⟩ := h
  have hsl : sizeLine = 16777216 := sizeLine_eq
  have hC : Ad "Round" ∈ ([Ad "Round"] : List Addr) := List.mem_singleton.mpr rfl
  refine ⟨hC, _, rfl, fun hb => ?_, fun hb => ?_⟩
  · have hb := of_decide_eq_true hb
    have e := L.all (n := n) (by omega)
    rw [e] at q
    exact ⟨hC, _, rfl, q⟩
  · have hb := of_decide_eq_false hb
    have hlt : n < H + p := by omega
    refine ⟨rfl, by decide, hC, _, rfl, A, f, H, p, H + p + n, ?_, L, by omega, by omega, ?_⟩
    · rw [Int.natCast_add (H + p) n]
    · refine ⟨hC, _, rfl, by omega, by omega, fun k acc e => acc = (wds f k n).reverse ∧ ∃ x, e = [.fz (rndI Ad A f H p), .fz (.int n), .fz (.str (wd f 0 (H + p + n))), x], ⟨rfl, _, rfl⟩, ?_, ?_⟩
      · rintro k d acc _ hd ⟨rfl, x, rfl⟩
        obtain ⟨hk, rfl⟩ := rngD_get hd
        have e1 : cutD (wd f 0 (H + p + n)) (some (0 + (k : Int))) (some (0 + (k : Int) + n)) = wd f k n := by
          rw [cut_mid _ (a := k) (b := k + n) (by omega) (by omega), wd_drop, wd_take (by omega)]
          congr 1 <;> omega
        refine ⟨fun _ => ⟨by rw [wd_len]; omega, ?_⟩, fun z => nomatch z⟩
        rw [e1]
        refine ⟨by rw [List.length_reverse, wds, List.length_map, List.length_range]; omega, ?_, _, rfl⟩
        unfold wds
        rw [List.range_succ, List.map_append, List.reverse_append]; rfl
      · rintro acc _ ⟨rfl, x, rfl⟩
        rw [rngD_len, Int.toNat_natCast]
        exact q
def S__law_alphabet : DSp := fun ds Q => ∃ row : List Int, ds = [.lst (row.map .int), .int 6] ∧ RowOk Psigns row ∧ ∀ A : List Nat, IsAlpha A → Q (.str A)
theorem len__law_alphabet : ∀ ds Q, S__law_alphabet ds Q → ds.length = (["row", "upto"] : List Str).length := by rintro _ _ ⟨_, rfl, _⟩; rfl
theorem rd__law_alphabet (ds : List D) (Q : D → Prop) (h : S__law_alphabet ds Q) : t__law_alphabet { nx := fun _ => false = false ∧ Q .non, rt := Q } (startD 8 ds) := by
  obtain ⟨row, rfl, hr, q⟩ := h
  have hsl : sizeLine = 16777216 := sizeLine_eq
  obtain ⟨x0, g0, a0, b0, c0⟩ := hr.get 0 (z := 12) rfl
  refine ⟨by show 12 ≤ sizeLine; omega, .int x0, a0 _ rfl, ?_⟩
  obtain ⟨m, hm, hm1, hm6⟩ : ∃ m : Int, atI [D.int 2, .int 2, .int 2, .int 2, .int 3, .int 3, .int 3, .int 1, .int 4, .int 5, .int 6, .int 2] x0 = some (.int m) ∧ 1 ≤ m ∧ m ≤ 6 := by
    obtain ⟨k, rfl⟩ : ∃ k : Nat, x0 = k := ⟨x0.toNat, by omega⟩
    have hk : k < 12 := by omega
    have : ∀ k : Nat, k < 12 → ∃ m : Int, [(2 : Int), 2, 2, 2, 3, 3, 3, 1, 4, 5, 6, 2][k]? = some m ∧ 1 ≤ m ∧ m ≤ 6 := by decide
    obtain ⟨m, h1, h2⟩ := this k hk
    refine ⟨m, ?_, h2⟩
    rw [show [D.int 2, .int 2, .int 2, .int 2, .int 3, .int 3, .int 3, .int 1, .int 4, .int 5, .int 6, .int 2] = [(2 : Int), 2, 2, 2, 3, 3, 3, 1, 4, 5, 6, 2].map D.int from rfl, atI_map, atI_nat h1]
    rfl
  refine ⟨.int m, hm, cMin_eq (k := m) (by omega) ?_⟩
  refine ⟨Nat.zero_le _, by omega, by omega, ?_⟩
  refine ⟨fun k env => ∃ (T : List Nat) (x y z : Sl), env = [.fz (.lst (row.map .int)), .fz (.int 6), .fz (.int m), .fz (.str LET), .ow (.lst ((ones T).map .str)), x, y, z] ∧ T.length = k ∧ T.Nodup ∧ ∀ c ∈ T, c ∈ LET,
    ⟨[], _, _, _, rfl, rfl, List.nodup_nil, fun c h => by cases h⟩, ?_, ?_⟩
  · rintro k d _ hd ⟨T, x, y, z, rfl, hl, nd, hT⟩
    obtain ⟨hk, rfl⟩ := rngD_get hd
    have hk6 : k < 6 := by omega
    have hz : Psigns[1 + k]? = some 36 := by
      have : ∀ k : Nat, k < 6 → Psigns[1 + k]? = some 36 := by decide
      exact this k hk6
    obtain ⟨v, gv, av, bv, cv⟩ := hr.get (1 + k) hz
    refine ⟨.int v, av _ (by omega), by decide, by decide, by decide, ?_⟩
    refine ⟨fun j env => ∃ (at_ i : Nat) (ai : Int) (w : Sl), env = [.fz (.lst (row.map .int)), .fz (.int 6), .fz (.int m), .fz (.str LET), .ow (.lst ((ones T).map .str)), .fz (.int (0 + (k : Int))), .fz (.int ai), w] ∧ ai = at_ ∧ at_ < 36 ∧ i ≤ j ∧ at_ = (v.toNat + i) % 36 ∧ (∀ e, e < i → LET.getD ((v.toNat + e) % 36) 0 ∈ T) ∧ (LET.getD at_ 0 ∉ T ∨ i = j),
      ⟨v.toNat, 0, v % 36, z, rfl, by omega, by omega, Nat.le_refl _, by omega, fun e he => absurd he (Nat.not_lt_zero _), .inr rfl⟩, ?_, ?_⟩
    · rintro j d _ hd ⟨at_, i, ai, w, rfl, rfl, h36, hij, hat, hin, hor⟩
      obtain ⟨hj, rfl⟩ := rngD_get hd
      have hLl : at_ < LET.length := h36
      have hgd : LET.getD at_ 0 = LET[at_] := by rw [List.getD_eq_getElem?_getD, List.getElem?_eq_getElem hLl]; rfl
      refine ⟨by show 36 ≤ sizeLine; omega, LET[at_], at_ok (k := at_) rfl hLl, .inl ⟨rfl, flat_ones T⟩, ?_⟩
      rw [any_one]
      refine ⟨fun hb => ?_, fun hb => ?_⟩
      · have hb := of_decide_eq_true hb
        refine ⟨by decide, (at_ + 1) % 36, i + 1, _, _, rfl, by omega, by omega, ?_, by omega, fun e he => ?_, .inr ?_⟩
        · omega
        · by_cases z : e < i
          · exact hin e z
          · have : e = i := by omega
            subst this
            rw [← hat, hgd]; exact hb
        · rcases hor with z | z
          · rw [hgd] at z; exact absurd hb z
          · omega
      · have hb := of_decide_eq_false hb
        exact ⟨at_, i, _, _, rfl, rfl, h36, by omega, hat, hin, .inl (by rw [hgd]; exact hb)⟩
    · rintro _ ⟨at_, i, ai, w, rfl, rfl, h36, hij, hat, hin, hor⟩
      have hLl : at_ < LET.length := h36
      have hgd : LET.getD at_ 0 = LET[at_] := by rw [List.getD_eq_getElem?_getD, List.getElem?_eq_getElem hLl]; rfl
      have hnot : LET[at_] ∉ T := by
        rcases hor with z | z
        · rw [hgd] at z; exact z
        · exfalso
          have i36 : i = 36 := z
          have : LET.length ≤ T.length := nodup_sub LET_nodup fun c hc => by
            obtain ⟨e, he⟩ := List.mem_iff_getElem?.mp hc
            have he2 := (List.getElem?_eq_some_iff.mp he).1
            have he3 : e < 36 := he2
            have hv : v.toNat < 36 := by omega
            have := hin ((e + 36 - v.toNat) % 36) (by omega)
            rw [show (v.toNat + (e + 36 - v.toNat) % 36) % 36 = e by omega, getD_of he] at this
            exact this
          rw [LET_len] at this
          omega
      refine ⟨by show 36 ≤ sizeLine; omega, LET[at_], at_ok (k := at_) rfl hLl, by rw [List.length_map, ones, List.length_map]; omega, T ++ [LET[at_]], .fz (.int (0 + (k : Int))), .fz (.int at_), w, ?_, by rw [List.length_append, hl]; rfl, ?_, ?_⟩
      · rw [show (ones (T ++ [LET[at_]])).map D.str = (ones T).map D.str ++ [.str [LET[at_]]] by simp [ones]]
        rfl
      · rw [List.nodup_append]
        exact ⟨nd, List.nodup_cons.mpr ⟨List.not_mem_nil, List.nodup_nil⟩, fun a ha b hb e => hnot (by rw [← List.mem_singleton.mp hb, ← e]; exact ha)⟩
      · intro c hc
        rcases List.mem_append.mp hc with z | z
        · exact hT c z
        · rw [List.mem_singleton.mp z]; exact List.getElem_mem hLl
  · rintro _ ⟨T, x, y, z, rfl, hl, nd, hT⟩
    rw [rngD_len] at hl
    refine .inr ⟨ones T, rfl, by rw [ones, List.length_map]; omega, fun ys hp hs => ?_⟩
    obtain ⟨A, rfl⟩ : ∃ A, ys = ones A := by
      have : ∀ y ∈ ys, ∃ c ∈ T, y = [c] := fun y hy => mem_ones.mp (hp.mem_iff.mp hy)
      clear hp hs
      induction ys with
      | nil => exact ⟨[], rfl⟩
      | cons y ys ih =>
        obtain ⟨A, h⟩ := ih fun z hz => this z (List.mem_cons_of_mem _ hz)
        obtain ⟨c, _, rfl⟩ := this y (List.mem_cons_self ..)
        exact ⟨c :: A, by rw [h]; rfl⟩
    have hp2 : A.Perm T := by
      have := hp.flatten
      rwa [ones_flat, ones_flat] at this
    refine ⟨ones A, rfl, ?_, ?_⟩
    · rw [ones_sum, hp2.length_eq]
      simp only [List.length_nil, Nat.mul_zero]
      omega
    · rw [if_neg (by decide), joinL_nil, ones_flat]
      refine q A ⟨by rw [hp2.length_eq]; omega, by rw [hp2.length_eq]; omega, fun c hc => hT c (hp2.mem_iff.mp hc), ?_⟩
      have nd2 := hp2.symm.nodup nd
      unfold ones at hs
      rw [List.pairwise_map] at hs
      have := hs.and nd2
      refine this.imp fun {a b} h => ?_
      have h1 : ¬ b < a := fun z => h.1 (by rw [List.cons_lt_cons_iff]; exact .inl z)
      omega
def S__law_plain_text : DSp := S__law_free_word
theorem len__law_plain_text : ∀ ds Q, S__law_plain_text ds Q → ds.length = (["alphabet", "row", "size"] : List Str).length := len__law_free_word
theorem rd__law_plain_text (ds : List D) (Q : D → Prop) (h : S__law_plain_text ds Q) : t__law_plain_text { nx := fun _ => false = false ∧ Q .non, rt := Q } (startD 4 ds) := rd__law_free_word ds Q h
def S__law_counting_text : DSp := S__law_counting_word
theorem len__law_counting_text : ∀ ds Q, S__law_counting_text ds Q → ds.length = (["alphabet", "size"] : List Str).length := len__law_counting_word
theorem rd__law_counting_text (ds : List D) (Q : D → Prop) (h : S__law_counting_text ds Q) : t__law_counting_text { nx := fun _ => false = false ∧ Q .non, rt := Q } (startD 8 ds) := rd__law_counting_word ds Q h
theorem sidx {A : List Nat} {c : Nat} {Q : D → Prop} (h : c ∈ A) (q : ∀ i : Nat, i < A.length → Q (.int i)) : cSIndex (.str A) (.str [c]) Q := by
  have hlt := idx_lt h
  refine ⟨A.idxOf c, ?_, fun j hj hz => ?_, fun k hk => by subst hk; exact q _ hlt⟩
  · rw [List.getElem?_eq_getElem hlt, List.getElem_idxOf]
  · have hjl : j < A.length := by omega
    have e : A[j] = c := Option.some.inj ((List.getElem?_eq_getElem hjl).symm.trans hz)
    have := List.not_of_lt_findIdx (show j < A.findIdx (· == c) from hj)
    rw [e] at this
    simp at this
theorem last_at {l : List Nat} (h : 0 < l.length) : ∃ c, c ∈ l ∧ atI l (-1) = some c := by
  have hn : l ≠ [] := fun z => by rw [z] at h; exact absurd h (by decide)
  refine ⟨l.getLast hn, List.getLast_mem hn, ?_⟩
  have := Lb.atI_last l.dropLast (l.getLast hn)
  rwa [List.dropLast_concat_getLast hn] at this
theorem cut_from_len {α : Type} (l : List α) {i : Int} (h : 0 ≤ i) : ((cutD l (some i) none).length : Int) = (l.length : Int) - min i l.length := by
  rw [cut_from l (k := i.toNat) (by omega), List.length_drop]
  omega
theorem cut_to_len2 {α : Type} (l : List α) {i : Int} (h : 0 ≤ i) : ((cutD l none (some i)).length : Int) = min i l.length := by
  rw [cut_to l (k := i.toNat) (by omega), List.length_take]
  omega
def Pwrite : List Int := [16, 9, 9, 61, 61, 10, 61, 60]
def S__law_writing : DSp := fun ds Q => ∃ (A : List Nat) (row one two : List Int), ds = [.str A, .lst (row.map .int), .lst (one.map .int), .lst (two.map .int)] ∧ IsAlpha A ∧ RowOk Pwrite row ∧ one.length = 60 ∧ two.length = 60 ∧
  ∀ h r : List Nat, TextOf A h → TextOf A r → h.length ≤ 100 → 0 < r.length → r.length ≤ 60 → Q (.lst [.str h, .str r])
theorem len__law_writing : ∀ ds Q, S__law_writing ds Q → ds.length = (["alphabet", "row", "one", "two"] : List Str).length := by rintro _ _ ⟨_, _, _, _, rfl, _⟩; rfl
theorem br__law_writing_1 {A : List Nat} {row : List Int} {Q : D → Prop} (hA : IsAlpha A) (hr : RowOk Pwrite row) {e2 e3 : Sl} {x0 : Int} {hd rg sm ro ma : List Nat}
    (h0 : row[0]? = some x0) (thd : TextOf A hd) (lhd : hd.length = 60) (trg : TextOf A rg) (lrg : rg.length = 60) (tsm : TextOf A sm) (lsm : (sm.length : Int) ≤ 8) (tro : TextOf A ro) (pro : 0 < ro.length) (lro : ro.length ≤ 9) (tma : TextOf A ma) (pma : 0 < ma.length) (lma : ma.length ≤ 60)
    {ta ot hf : List Nat} (tta : TextOf A ta) (lta : (ta.length : Int) ≤ 24) (tot : TextOf A ot) (lot : ot.length = 1) (thf : TextOf A hf) (lhf : 0 < hf.length ∧ hf.length ≤ 30)
    (q : ∀ h r : List Nat, TextOf A h → TextOf A r → h.length ≤ 100 → 0 < r.length → r.length ≤ 60 → Q (.lst [.str h, .str r])) :
    r__law_writing_1 S__law_plain_text { nx := fun _ => false = false ∧ Q .non, rt := Q } [.fz (.str A), .fz (.lst (row.map .int)), e2, e3, .fz (.str hd), .fz (.str rg), .fz (.int x0), .fz (.str sm), .fz (.str ro), .fz (.str ma), .fz (.str ta), .fz (.str ot), .fz (.str hf), .no] := by
  have hsl : sizeLine = 16777216 := sizeLine_eq
  have h2 : 2 ≤ sizeLine := by omega
  have hA1 := hA.pos
  have hA6 := hA.six
  obtain ⟨x1, _, a1, b1, c1⟩ := hr.get 1 (z := 9) rfl
  obtain ⟨x2, _, a2, b2, c2⟩ := hr.get 2 (z := 9) rfl
  obtain ⟨x3, _, a3, b3, c3⟩ := hr.get 3 (z := 61) rfl
  obtain ⟨x4, _, a4, b4, c4⟩ := hr.get 4 (z := 61) rfl
  obtain ⟨x5, _, a5, b5, c5⟩ := hr.get 5 (z := 10) rfl
  obtain ⟨x6, _, a6, b6, c6⟩ := hr.get 6 (z := 61) rfl
  obtain ⟨x7, _, a7, b7, c7⟩ := hr.get 7 (z := 60) rfl
  obtain ⟨y0, g0, a0, b0, c0⟩ := hr.get 0 (z := 16) rfl
  have e0 : x0 = y0 := Option.some.inj (h0.symm.trans g0)
  subst e0
  obtain ⟨bg, hbg⟩ : ∃ bg, bg = (List.replicate (Int.toNat 60) ro).flatten := ⟨_, rfl⟩
  have lbg : bg.length = 60 * ro.length := by rw [hbg]; exact rep_len _ _
  have tbg : TextOf A bg := by rw [hbg]; exact tro.rep _
  refine ⟨fun hb => ?_, fun hb0 => ?_⟩
  · refine ⟨.int x3, a3 _ rfl, by omega, .int x4, a4 _ rfl, ?_⟩
    have l1 := cut_to_len hd b3
    have l2 := cut_to_len2 rg (i := max 1 x4) (by omega)
    exact ⟨by omega, h2, q _ _ (thd.cut _ _) (trg.cut _ _) (by omega) (by omega) (by omega)⟩
  refine ⟨fun hb => ⟨h2, q _ _ tsm tro (by omega) pro (by omega)⟩, fun hb1 => ?_⟩
  refine ⟨fun hb => ⟨h2, q _ _ tsm tma (by omega) (by omega) (by omega)⟩, fun hb2 => ?_⟩
  refine ⟨fun hb => ⟨by omega, h2, q _ _ (tsm.app tta) tma (by rw [List.length_append]; omega) (by omega) (by omega)⟩, fun hb3 => ?_⟩
  refine ⟨fun hb => ?_, fun hb4 => ?_⟩
  · have l1 := cut_from_len bg (i := 60 * ((ro.length : Nat) : Int) - x6) (by omega)
    refine ⟨by omega, by show ro.length * 60 ≤ _; omega, by omega, by omega, mul_l (by decide) (by decide), .int x6, a6 _ rfl, ?_⟩
    rw [← hbg]
    exact ⟨by omega, h2, q _ _ (tbg.cut _ _) tma (by omega) (by omega) (by omega)⟩
  refine ⟨fun hb => ⟨by omega, h2, q _ _ (tsm.app tta) tro (by rw [List.length_append]; omega) pro (by omega)⟩, fun hb5 => ?_⟩
  refine ⟨fun hb => ?_, fun hb6 => ?_⟩
  · have l1 : (cutD ma none (some (-1))).length = ma.length - 1 := by rw [cut_init, List.length_take]; omega
    refine ⟨by omega, by omega, by rw [l1]; omega, h2, q _ _ (tsm.app tta) ((tma.cut _ _).app tot) (by rw [List.length_append]; omega) (by rw [List.length_append]; omega) (by rw [List.length_append, l1]; omega)⟩
  refine ⟨fun hb => ?_, fun hb7 => ?_⟩
  · have r0 : ro[0] ∈ A := tro _ (List.getElem_mem pro)
    refine ⟨by omega, ro[0], at_ok (k := 0) rfl pro, .int x3, a3 _ rfl, by omega, by show 1 * x3.toNat ≤ _; omega, by omega, by omega, ro[0], at_ok (k := 0) rfl pro, .int x4, a4 _ rfl, cMax_eq (k := max 1 x4) rfl ?_⟩
    have lr : ∀ k : Nat, (List.replicate k [ro[0]]).flatten.length = k := fun k => by rw [rep_len]; exact Nat.mul_one k
    refine ⟨by omega, by show 1 * (max 1 x4).toNat ≤ _; omega, by omega, h2, q _ _ ((TextOf.one r0).rep _) ((TextOf.one r0).rep _) (by rw [lr]; omega) (by rw [lr]; omega) (by rw [lr]; omega)⟩
  refine ⟨fun hb => ?_, fun hb8 => ?_⟩
  · have l1 := cut_to_len hd (i := x3 % 31) (by omega)
    obtain ⟨y, hy⟩ : ∃ y, y = x6 % (hf.length : Nat) := ⟨_, rfl⟩
    have y0 : 0 ≤ y := by rw [hy]; exact Int.emod_nonneg _ (by omega)
    have l2 := cut_from_len hf y0
    refine ⟨.int x3, a3 _ rfl, by decide, by omega, .int x6, a6 _ rfl, by omega, by omega, ?_⟩
    rw [← hy]
    refine ⟨by omega, by omega, by omega, h2, q _ _ ((thd.cut _ _).app (thf.cut _ _)) (thf.app thf) (by rw [List.length_append]; omega) (by rw [List.length_append]; omega) (by rw [List.length_append]; omega)⟩
  refine ⟨fun hb => ?_, fun hb9 => ?_⟩
  · obtain ⟨y, hy⟩ : ∃ y, y = x7 % (hf.length : Nat) := ⟨_, rfl⟩
    have y0 : 0 ≤ y := by rw [hy]; exact Int.emod_nonneg _ (by omega)
    have y1 : y < hf.length := by rw [hy]; exact Int.emod_lt_of_pos _ (by omega)
    have l1 := cut_to_len2 hf y0
    have l2 := cut_from_len hf (i := y + 1) (by omega)
    refine ⟨.int x7, a7 _ rfl, by omega, by omega, ?_⟩
    rw [← hy]
    refine ⟨by omega, by omega, by rw [List.length_append]; omega, by omega, by rw [List.length_append, List.length_append]; omega, h2, q _ _ tsm (((thf.app (thf.cut _ _)).app tot).app (thf.cut _ _)) (by omega) (by simp only [List.length_append]; omega) (by simp only [List.length_append]; omega)⟩
  refine ⟨fun hb => ⟨h2, q _ _ TextOf.nil tma (by decide) (by omega) (by omega)⟩, fun hb10 => ?_⟩
  exact ⟨by omega, by rw [List.length_append]; omega, h2, q _ _ ((tsm.app tot).app tta) tma (by simp only [List.length_append]; omega) (by omega) (by omega)⟩
theorem br__law_writing_2 {A : List Nat} {row : List Int} {Q : D → Prop} (hA : IsAlpha A) (hr : RowOk Pwrite row) {e2 e3 : Sl} {x0 : Int} {hd rg sm ro ma : List Nat}
    (h0 : row[0]? = some x0) (thd : TextOf A hd) (lhd : hd.length = 60) (trg : TextOf A rg) (lrg : rg.length = 60) (tsm : TextOf A sm) (lsm : (sm.length : Int) ≤ 8) (tro : TextOf A ro) (pro : 0 < ro.length) (lro : ro.length ≤ 9) (tma : TextOf A ma) (pma : 0 < ma.length) (lma : ma.length ≤ 60)
    (q : ∀ h r : List Nat, TextOf A h → TextOf A r → h.length ≤ 100 → 0 < r.length → r.length ≤ 60 → Q (.lst [.str h, .str r])) :
    r__law_writing_2 S__law_plain_text { nx := fun _ => false = false ∧ Q .non, rt := Q } [.fz (.str A), .fz (.lst (row.map .int)), e2, e3, .fz (.str hd), .fz (.str rg), .fz (.int x0), .fz (.str sm), .fz (.str ro), .fz (.str ma), .no, .no, .no, .no] := by
  have hsl : sizeLine = 16777216 := sizeLine_eq
  have h2 : 2 ≤ sizeLine := by omega
  have hA1 := hA.pos
  have hA6 := hA.six
  obtain ⟨x1, _, a1, b1, c1⟩ := hr.get 1 (z := 9) rfl
  obtain ⟨x2, _, a2, b2, c2⟩ := hr.get 2 (z := 9) rfl
  obtain ⟨x3, _, a3, b3, c3⟩ := hr.get 3 (z := 61) rfl
  obtain ⟨x4, _, a4, b4, c4⟩ := hr.get 4 (z := 61) rfl
  obtain ⟨x5, _, a5, b5, c5⟩ := hr.get 5 (z := 10) rfl
  obtain ⟨x6, _, a6, b6, c6⟩ := hr.get 6 (z := 61) rfl
  obtain ⟨x7, _, a7, b7, c7⟩ := hr.get 7 (z := 60) rfl
  obtain ⟨y0, g0, a0, b0, c0⟩ := hr.get 0 (z := 16) rfl
  have e0 : x0 = y0 := Option.some.inj (h0.symm.trans g0)
  subst e0
  -- the tail
  obtain ⟨bg, hbg⟩ : ∃ bg, bg = (List.replicate (Int.toNat 60) ro).flatten := ⟨_, rfl⟩
  have lbg : bg.length = 60 * ro.length := by rw [hbg]; exact rep_len _ _
  have tbg : TextOf A bg := by rw [hbg]; exact tro.rep _
  refine ⟨by decide, by show ro.length * 60 ≤ _; omega, by decide, by omega, mul_l (by decide) (by decide), .int x6, a6 _ rfl, by decide, ?_⟩
  rw [← hbg]
  refine ⟨by omega, ?_⟩
  obtain ⟨ta, hta⟩ : ∃ ta, ta = cutD bg (some (60 * ((ro.length : Nat) : Int) - x6 % 25)) none := ⟨_, rfl⟩
  have lta : (ta.length : Int) ≤ 24 := by have := cut_from_len bg (i := 60 * ((ro.length : Nat) : Int) - x6 % 25) (by omega); rw [← hta] at this; omega
  have tta : TextOf A ta := by rw [hta]; exact tbg.cut _ _
  rw [← hta]
  clear hta
  -- another letter
  obtain ⟨lc, hlc, elc⟩ := last_at pro
  refine ⟨by omega, lc, elc, sidx (tro lc hlc) fun ix hix => ⟨.int x7, a7 _ rfl, by omega, by omega, ?_⟩⟩
  obtain ⟨oi, hoi⟩ : ∃ oi, oi = ((ix : Int) + 1 + x7) % (A.length : Nat) := ⟨_, rfl⟩
  have oi0 : 0 ≤ oi := by rw [hoi]; exact Int.emod_nonneg _ (by omega)
  have oi1 : oi < A.length := by rw [hoi]; exact Int.emod_lt_of_pos _ (by omega)
  rw [← hoi]
  have ho2 : oi.toNat < A.length := by omega
  refine ⟨by omega, A[oi.toNat], at_ok (by omega) ho2, ?_⟩
  have tot : TextOf A [A[oi.toNat]] := TextOf.one (List.getElem_mem ho2)
  obtain ⟨ot, hot⟩ : ∃ ot, ot = [A[oi.toNat]] := ⟨_, rfl⟩
  have lot : ot.length = 1 := by rw [hot]; rfl
  rw [← hot] at tot ⊢
  clear hot hoi
  -- a half
  refine ⟨.int x4, a4 _ rfl, by decide, by omega, ?_⟩
  obtain ⟨hf, hhf⟩ : ∃ hf, hf = cutD rg none (some (1 + x4 % 30)) := ⟨_, rfl⟩
  have lhf : (hf.length : Int) = 1 + x4 % 30 := by have := cut_to_len2 rg (i := 1 + x4 % 30) (by omega); rw [← hhf] at this; omega
  have thf : TextOf A hf := by rw [hhf]; exact trg.cut _ _
  rw [← hhf]
  clear hhf
  exact br__law_writing_1 hA hr h0 thd lhd trg lrg tsm lsm tro pro lro tma pma lma tta lta tot lot thf (by omega) q
theorem rd__law_writing (ds : List D) (Q : D → Prop) (h : S__law_writing ds Q) : t__law_writing S__law_plain_text { nx := fun _ => false = false ∧ Q .non, rt := Q } (startD 14 ds) := by
  obtain ⟨A, row, one, two, rfl, hA, hr, ho, ht, q⟩ := h
  have hsl : sizeLine = 16777216 := sizeLine_eq
  have hA1 := hA.pos
  have hA6 := hA.six
  obtain ⟨x0, g0, a0, b0, c0⟩ := hr.get 0 (z := 16) rfl
  obtain ⟨x1, _, a1, b1, c1⟩ := hr.get 1 (z := 9) rfl
  obtain ⟨x2, _, a2, b2, c2⟩ := hr.get 2 (z := 9) rfl
  obtain ⟨x3, _, a3, b3, c3⟩ := hr.get 3 (z := 61) rfl
  obtain ⟨x4, _, a4, b4, c4⟩ := hr.get 4 (z := 61) rfl
  obtain ⟨x5, _, a5, b5, c5⟩ := hr.get 5 (z := 10) rfl
  obtain ⟨x6, _, a6, b6, c6⟩ := hr.get 6 (z := 61) rfl
  obtain ⟨x7, _, a7, b7, c7⟩ := hr.get 7 (z := 60) rfl
  refine ⟨A, one, 60, _, rfl, rfl, by omega, by decide, hA1, by omega, fun hd thd lhd => ?_⟩
  refine ⟨A, two, 60, _, rfl, rfl, by omega, by decide, hA1, by omega, fun rg trg lrg => ?_⟩
  refine ⟨.int x0, a0 _ rfl, .int x1, a1 _ rfl, by omega, .int x2, a2 _ rfl, by omega, ?_⟩
  obtain ⟨sm, hsm⟩ : ∃ sm, sm = cutD hd none (some x1) := ⟨_, rfl⟩
  have tsm : TextOf A sm := by rw [hsm]; exact thd.cut _ _
  have lsm : (sm.length : Int) ≤ 8 := by have := cut_to_len hd b1; rw [← hsm] at this; omega
  rw [← hsm]
  clear hsm
  obtain ⟨ro, hro⟩ : ∃ ro, ro = cutD rg none (some (1 + x2)) := ⟨_, rfl⟩
  have tro : TextOf A ro := by rw [hro]; exact trg.cut _ _
  have lro : (ro.length : Int) = 1 + x2 := by have := cut_to_len2 rg (i := 1 + x2) (by omega); rw [← hro] at this; omega
  rw [← hro]
  clear hro
  have pro : 0 < ro.length := by omega
  -- the root many times
  have qv : (60 : Int) / (ro.length : Nat) = ((60 / ro.length : Nat) : Int) := (Int.natCast_ediv 60 ro.length).symm
  have h2 : 2 ≤ sizeLine := by omega
  have qm : 60 / ro.length * ro.length ≤ 60 := Nat.div_mul_le_self _ _
  have q1 : 1 ≤ 60 / ro.length := Nat.div_pos (by omega) pro
  have q0 : 60 / ro.length ≤ 60 := Nat.div_le_self _ _
  obtain ⟨mm, hmm⟩ : ∃ mm, mm = min (1 + x5) ((60 : Int) / (ro.length : Nat)) := ⟨_, rfl⟩
  have mm1 : 1 ≤ mm ∧ mm ≤ ((60 / ro.length : Nat) : Int) := by rw [qv] at hmm; omega
  obtain ⟨mn, emn⟩ : ∃ n : Nat, mm = n := ⟨mm.toNat, by omega⟩
  have lmm : mn * ro.length ≤ 60 := Nat.le_trans (Nat.mul_le_mul_right _ (by omega)) qm
  have gmm : ro.length ≤ mn * ro.length := Nat.le_mul_of_pos_left _ (by omega)
  refine ⟨.int x5, a5 _ rfl, by omega, by omega, log_ok (by omega) (by omega), cMin_eq hmm.symm ?_⟩
  refine ⟨by omega, by rw [emn, Int.toNat_natCast, Nat.mul_comm]; omega, by omega, ?_⟩
  rw [emn, Int.toNat_natCast]
  obtain ⟨ma, hma⟩ : ∃ ma, ma = (List.replicate mn ro).flatten := ⟨_, rfl⟩
  have lma : ma.length = mn * ro.length := by rw [hma]; exact rep_len _ _
  have tma : TextOf A ma := by rw [hma]; exact tro.rep _
  rw [← hma]
  clear hma
  exact br__law_writing_2 hA hr g0 thd lhd trg lrg tsm lsm tro pro (by omega) tma (by omega) (by omega) q
theorem cut_w {f : Fn} {n a b : Nat} {i j : Int} (h : i = a) (h' : j = b) (hb : b ≤ n) (hab : a ≤ b) : cutD (wd f 0 n) (some i) (some j) = wd f a (b - a) := by
  rw [cut_mid _ h h', wd_drop, wd_take (by omega), Nat.zero_add]
def S__law_form : DSp := fun ds Q => ∃ h r : List Nat, ds = [.str h, .str r] ∧ 0 < r.length ∧ r.length ≤ 60 ∧ h.length ≤ 1000 ∧ ∀ H p, LF (en h r) H p → H ≤ h.length → p ≤ r.length → Q (.lst [.str (wd (en h r) 0 H), .str (wd (en h r) H p)])
theorem len__law_form : ∀ ds Q, S__law_form ds Q → ds.length = (["head", "ring"] : List Str).length := by rintro _ _ ⟨_, _, rfl, _⟩; rfl
theorem br__law_form_2 {f : Fn} {h r : List Nat} {p : Nat} {Q : D → Prop} {x4 : Sl} (hh : h.length ≤ 1000) (hp : 0 < p) (hp60 : p ≤ 60) (P : Per f h.length p) (hmin : ∀ H' q, 0 < q → Per f H' q → p ≤ q) (q : ∀ H, LF f H p → H ≤ h.length → Q (.lst [.str (wd f 0 H), .str (wd f H p)])) :
    r__law_form_2 { nx := fun _ => false = false ∧ Q .non, rt := Q } [.fz (.str h), .fz (.str r), .fz (.str (wd f 0 (h.length + 180))), .fz (.int (p : Nat)), x4, .no] := by
  have hsl : sizeLine = 16777216 := sizeLine_eq
  have h2 : 2 ≤ sizeLine := by omega
  have lw : (wd f 0 (h.length + 180)).length = h.length + 180 := wd_len
  have fin : ∀ (k : Nat) (x4 : Sl), LF f k p → k ≤ h.length → r__law_form_1 { nx := fun _ => false = false ∧ Q .non, rt := Q } [.fz (.str h), .fz (.str r), .fz (.str (wd f 0 (h.length + 180))), .fz (.int (p : Nat)), x4, .fz (.int (k : Nat))] := fun k x4 L hk => by
    have := q k L hk
    have e1 : cutD (wd f 0 (h.length + 180)) none (some (k : Int)) = wd f 0 k := by rw [cut_to _ rfl, wd_take (by omega)]
    have e2 : cutD (wd f 0 (h.length + 180)) (some (k : Int)) (some ((k : Int) + (p : Nat))) = wd f k p := by rw [cut_w (a := k) (b := k + p) rfl (by omega) (by omega) (by omega)]; congr 1; omega
    refine ⟨by omega, by omega, h2, ?_⟩
    rw [e1, e2]
    exact this
  refine ⟨by omega, by omega, by omega, by omega, fun k env => ∃ x4 : Sl, env = [.fz (.str h), .fz (.str r), .fz (.str (wd f 0 (h.length + 180))), .fz (.int (p : Nat)), x4, .fz (.int (h.length : Nat))] ∧ ∀ j, j < k → ¬ Per f j p, ⟨x4, rfl, fun j hj => absurd hj (Nat.not_lt_zero j)⟩, ?_, ?_⟩
  · rintro k d _ hd ⟨x, rfl, ht⟩
    obtain ⟨hk, rfl⟩ := rngD_get hd
    have hk2 : k ≤ h.length := by omega
    have e1 : cutD (wd f 0 (h.length + 180)) (some (0 + (k : Int))) (some ((h.length : Int) + 60)) = wd f k (h.length + 60 - k) := cut_w (by omega) (by omega) (by omega) (by omega)
    have e2 : cutD (wd f 0 (h.length + 180)) (some (0 + (k : Int) + (p : Nat))) (some ((h.length : Int) + 60 + (p : Nat))) = wd f (k + p) (h.length + 60 - k) := by
      rw [cut_w (a := k + p) (b := h.length + 60 + p) (by omega) (by omega) (by omega) (by omega)]
      congr 1; omega
    have win : wd f k (h.length + 60 - k) = wd f (k + p) (h.length + 60 - k) ↔ Per f k p := by
      rw [wd_eq]
      constructor
      · intro w
        exact win_start hp hp60 hk2 P w
      · intro w i _
        have := w (k + i) (by omega)
        rw [← this]; congr 1; omega
    refine ⟨by omega, by omega, by omega, by omega, fun hb => ?_, fun hb => ?_⟩
    · have hb := of_decide_eq_true hb
      rw [e1, e2, win] at hb
      have := fin k (.fz (.int (0 + (k : Int)))) ⟨hp, hb, hmin, fun H' w => by
        rcases Nat.lt_or_ge H' k with z | z
        · exact absurd w (ht H' z)
        · exact z⟩ hk2
      rw [show ((k : Nat) : Int) = 0 + (k : Int) by omega] at this
      exact this
    · have hb := of_decide_eq_false hb
      rw [e1, e2, win] at hb
      refine ⟨_, rfl, fun j hj => ?_⟩
      rcases Nat.lt_or_ge j k with z | z
      · exact ht j z
      · obtain rfl : j = k := by omega
        exact hb
  · rintro _ ⟨x, rfl, ht⟩
    rw [rngD_len] at ht
    exact absurd P (ht _ (by omega))
theorem rd__law_form (ds : List D) (Q : D → Prop) (h : S__law_form ds Q) : t__law_form { nx := fun _ => false = false ∧ Q .non, rt := Q } (startD 6 ds) := by
  obtain ⟨h, r, rfl, hr, hr2, hh, q⟩ := h
  have hsl : sizeLine = 16777216 := sizeLine_eq
  obtain ⟨f, hf⟩ : ∃ f, f = en h r := ⟨_, rfl⟩
  have PR : Per f h.length r.length := by rw [hf]; exact en_per hr
  rw [← hf] at q
  have lrep : (List.replicate (Int.toNat 180) r).flatten.length = 180 * r.length := rep_len _ _
  have e0 : h ++ cutD (List.replicate (Int.toNat 180) r).flatten none (some 180) = wd f 0 (h.length + 180) := by
    rw [cut_to (List.replicate (Int.toNat 180) r).flatten (i := 180) (k := 180) rfl, hf, ← wd_take (n := h.length + 180 * r.length) (by omega), ← en_rep hr 180, List.take_length_add_append]
    rfl
  have lw : (wd f 0 (h.length + 180)).length = h.length + 180 := wd_len
  refine ⟨by decide, by show r.length * 180 ≤ _; omega, by decide, by omega, by rw [← List.length_append, e0, lw]; omega, ?_⟩
  rw [e0]
  refine ⟨by omega, ⟨by decide, by decide, by decide, by decide⟩, fun k env => ∃ x4 : Sl, env = [.fz (.str h), .fz (.str r), .fz (.str (wd f 0 (h.length + 180))), .fz (.int (r.length : Nat)), x4, .no] ∧ ∀ l, 0 < l → l < k + 1 → ¬ Per f h.length l, ⟨_, rfl, fun l h1 h2 => by omega⟩, ?_, ?_⟩
  · rintro k d _ hd ⟨x, rfl, ht⟩
    obtain ⟨hk, rfl⟩ := rngD_get hd
    have hk60 : k < 60 := hk
    have e1 : cutD (wd f 0 (h.length + 180)) (some ((h.length : Nat) : Int)) (some ((h.length : Int) + 60)) = wd f h.length 60 := by
      rw [cut_w (a := h.length) (b := h.length + 60) rfl (by omega) (by omega) (by omega)]; congr 1; omega
    have e2 : cutD (wd f 0 (h.length + 180)) (some ((h.length : Int) + (1 + (k : Int)))) (some ((h.length : Int) + (1 + (k : Int)) + 60)) = wd f (h.length + (k + 1)) 60 := by
      rw [cut_w (a := h.length + (k + 1)) (b := h.length + (k + 1) + 60) (by omega) (by omega) (by omega) (by omega)]
      congr 1; omega
    have win : wd f h.length 60 = wd f (h.length + (k + 1)) 60 ↔ Per f h.length (k + 1) := by
      rw [wd_eq]
      constructor
      · intro w
        exact win_per hr hr2 PR w
      · intro w i _
        have := w (h.length + i) (by omega)
        rw [← this]; congr 1; omega
    refine ⟨by omega, by omega, by omega, by omega, by omega, by omega, fun hb => ?_, fun hb => ?_⟩
    · have hb := of_decide_eq_true hb
      rw [e1, e2, win] at hb
      have hle : k + 1 ≤ r.length := by
        rcases Nat.lt_or_ge r.length (k + 1) with z | z
        · exact absurd PR (ht _ hr z)
        · exact z
      have := br__law_form_2 (Q := Q) (f := f) (h := h) (r := r) (p := k + 1) (x4 := .fz (.int (1 + (k : Int)))) hh (by omega) (by omega) hb (least_per hr PR fun l h1 h2 _ => ht l h1 h2) fun H L hH => q H (k + 1) L hH hle
      rw [show ((k + 1 : Nat) : Int) = 1 + (k : Int) by omega] at this
      exact this
    · have hb := of_decide_eq_false hb
      rw [e1, e2, win] at hb
      refine ⟨_, rfl, fun l h1 h2 => ?_⟩
      rcases Nat.lt_or_ge l (k + 1) with z | z
      · exact ht l h1 z
      · obtain rfl : l = k + 1 := by omega
        exact hb
  · rintro _ ⟨x, rfl, ht⟩
    exact absurd PR (ht _ hr (by show r.length < 60 + 1; omega))
theorem len__law_whole : ∀ ds Q, S__law_whole ds Q → ds.length = (["value"] : List Str).length := by rintro _ _ ⟨_, rfl, _⟩; rfl
theorem rd__law_whole (ds : List D) (Q : D → Prop) (h : S__law_whole ds Q) : t__law_whole { nx := fun _ => false = false ∧ Q .non, rt := Q } (startD 1 ds) := by
  obtain ⟨i, rfl, q⟩ := h
  exact ⟨rfl, fun _ => ⟨rfl, q⟩, fun z => nomatch z⟩
def Pgiant : List Int := [32] ++ List.replicate 30 10
def S__law_giant : DSp := fun ds Q => ∃ row : List Int, ds = [.lst (row.map .int)] ∧ RowOk Pgiant row ∧ ∀ (n : Nat) (i : Int), i = n → Q (.int i)
theorem len__law_giant : ∀ ds Q, S__law_giant ds Q → ds.length = (["row"] : List Str).length := by rintro _ _ ⟨_, rfl, _⟩; rfl
theorem rd__law_giant (ds : List D) (Q : D → Prop) (h : S__law_giant ds Q) : t__law_giant { nx := fun _ => false = false ∧ Q .non, rt := Q } (startD 3 ds) := by
  obtain ⟨row, rfl, hr, q⟩ := h
  obtain ⟨x0, _, a0, b0, c0⟩ := hr.get 0 (z := 32) rfl
  refine ⟨.int x0, a0 _ rfl, fun hb => ?_, fun hb => ?_⟩
  · exact ⟨by decide, by decide, by decide, q (10 ^ 30) _ (by decide)⟩
  · have hb := of_decide_eq_false hb
    refine ⟨.int x0, a0 _ rfl, by omega, by omega, fun k env => ∃ (n : Nat) (i : Int) (x : Sl), env = [.fz (.lst (row.map .int)), .fz (.int i), x] ∧ i = n, ⟨0, 0, _, rfl, rfl⟩, ?_, ?_⟩
    · rintro k d _ hd ⟨n, i, x, rfl, rfl⟩
      obtain ⟨hk, rfl⟩ := rngD_get hd
      have hz : Pgiant[1 + k]? = some 10 := by
        have : ∀ k : Nat, k < 30 → Pgiant[1 + k]? = some 10 := by decide
        exact this k (by omega)
      obtain ⟨v, gv, av, bv, cv⟩ := hr.get (1 + k) hz
      exact ⟨mul_r (by decide) (by decide), .int v, av _ (by omega), n * 10 + v.toNat, _, _, rfl, by omega⟩
    · rintro _ ⟨n, i, x, rfl, rfl⟩
      exact q n _ rfl
theorem keyT_mem {x : List Nat} {us : List (List Nat)} : keyT x ∈ us.map keyT ↔ x ∈ us := by
  rw [List.mem_map]
  exact ⟨fun ⟨l, h, e⟩ => by rw [← keyT_inj e]; exact h, fun h => ⟨x, h, rfl⟩⟩
def S__law_words : DSp := fun ds Q => ∃ (h r : List Nat) (n H p : Nat) (i : Int), ds = [.str h, .str r, .int i] ∧ i = n ∧ 0 < r.length ∧ r.length ≤ 60 ∧ h.length ≤ 1000 ∧ n ≤ 2000 ∧ LF (en h r) H p ∧ H ≤ h.length ∧ p ≤ r.length ∧ Q (.int (nW (en h r) (H + p) n : Nat))
theorem len__law_words : ∀ ds Q, S__law_words ds Q → ds.length = (["head", "ring", "span"] : List Str).length := by rintro _ _ ⟨_, _, _, _, _, _, rfl, _⟩; rfl
theorem rd__law_words (ds : List D) (Q : D → Prop) (h : S__law_words ds Q) : t__law_words { nx := fun _ => false = false ∧ Q .non, rt := Q } (startD 6 ds) := by
  obtain ⟨h, r, n, H, p, i, rfl, rfl, hr, hr2, hh, hn, L, hH, hp, q⟩ := h
  have hsl : sizeLine = 16777216 := sizeLine_eq
  obtain ⟨f, hf⟩ : ∃ f, f = en h r := ⟨_, rfl⟩
  rw [← hf] at L q
  have qv : (n : Int) / (r.length : Nat) + 2 = ((n / r.length + 2 : Nat) : Int) := by
    rw [Int.natCast_add, Int.natCast_ediv]; rfl
  have hdl : n / r.length ≤ n := Nat.div_le_self _ _
  have hml : n / r.length * r.length ≤ n := Nat.div_mul_le_self _ _
  have hlt : n < n / r.length * r.length + r.length := Nat.lt_div_mul_add hr
  have hm : (n / r.length + 2) * r.length = n / r.length * r.length + 2 * r.length := Nat.add_mul _ _ _
  have e0 : h ++ (List.replicate (n / r.length + 2) r).flatten = wd f 0 (h.length + (n / r.length + 2) * r.length) := by rw [hf]; exact en_rep hr _
  obtain ⟨N, hN⟩ : ∃ N, N = h.length + (n / r.length + 2) * r.length := ⟨_, rfl⟩
  have lw : (wd f 0 N).length = N := wd_len
  have hd0 : (0 : Int) ≤ (n : Int) / (r.length : Nat) := Int.ediv_nonneg (by omega) (by omega)
  refine ⟨by omega, by omega, log_ok (by omega) (by omega), by rw [qv]; omega, by rw [qv, Int.toNat_natCast, Nat.mul_comm]; omega, by omega, by rw [qv, Int.toNat_natCast, rep_len]; omega, ?_⟩
  rw [qv, Int.toNat_natCast, e0, ← hN]
  refine ⟨by omega, by omega, by omega, by omega, fun k env => ∃ (us : List (List Nat)) (vs : List D) (x : Sl), env = [.fz (.str h), .fz (.str r), .fz (.int n), .fz (.str (wd f 0 N)), .ow (.dk (us.map keyT) vs), x] ∧ us.Nodup ∧ us.length = vs.length ∧ us.length ≤ k ∧ ∀ x, x ∈ us ↔ ∃ j, j < k ∧ x = wd f j n,
    ⟨[], [], _, rfl, List.nodup_nil, rfl, Nat.le_refl _, fun x => ⟨(fun z => (nomatch z)), fun ⟨j, hj, _⟩ => absurd hj (Nat.not_lt_zero j)⟩⟩, ?_, ?_⟩
  · rintro k d _ hd ⟨us, vs, x, rfl, nd, hl, hlk, hm2⟩
    obtain ⟨hk, rfl⟩ := rngD_get hd
    have hk2 : k < h.length + r.length := by omega
    have e1 : cutD (wd f 0 N) (some (0 + (k : Int))) (some (0 + (k : Int) + n)) = wd f k n := by
      rw [cut_w (a := k) (b := k + n) (by omega) (by omega) (by omega) (by omega)]; congr 1; omega
    refine ⟨by omega, by rw [List.length_map]; exact hl, by omega, keyT (wd f k n), by rw [e1]; rfl, ?_⟩
    by_cases hx : wd f k n ∈ us
    · refine ⟨us, _, _, by unfold putKs; rw [if_pos (keyT_mem.mpr hx)]; rfl, nd, ?_, by omega, fun y => ?_⟩
      · unfold putDs; rw [if_pos (keyT_mem.mpr hx), List.length_zipWith, List.length_map]; omega
      · rw [hm2]
        constructor
        · rintro ⟨j, hj, rfl⟩; exact ⟨j, by omega, rfl⟩
        · rintro ⟨j, hj, rfl⟩
          rcases Nat.lt_or_ge j k with z | z
          · exact ⟨j, z, rfl⟩
          · obtain rfl : j = k := by omega
            exact (hm2 _).mp hx
    · refine ⟨us ++ [wd f k n], _, _, by unfold putKs; rw [if_neg fun z => hx (keyT_mem.mp z), List.map_append]; rfl, ?_, ?_, by rw [List.length_append]; show us.length + 1 ≤ _; omega, fun y => ?_⟩
      · rw [List.nodup_append]
        exact ⟨nd, List.nodup_cons.mpr ⟨List.not_mem_nil, List.nodup_nil⟩, fun a ha b hb e => hx (by rw [← List.mem_singleton.mp hb, ← e]; exact ha)⟩
      · unfold putDs; rw [if_neg fun z => hx (keyT_mem.mp z), List.length_append, List.length_append, hl]; rfl
      · rw [List.mem_append, List.mem_singleton, hm2]
        constructor
        · rintro (⟨j, hj, rfl⟩ | rfl)
          · exact ⟨j, by omega, rfl⟩
          · exact ⟨k, by omega, rfl⟩
        · rintro ⟨j, hj, rfl⟩
          rcases Nat.lt_or_ge j k with z | z
          · exact .inl ⟨j, z, rfl⟩
          · obtain rfl : j = k := by omega
            exact .inr rfl
  · rintro _ ⟨us, vs, x, rfl, nd, hl, hlk, hm2⟩
    rw [rngD_len] at hm2
    have e := L.words (n := n) (m := h.length + r.length) (by omega) nd fun x => by
      rw [hm2]
      constructor
      · rintro ⟨j, hj, rfl⟩; exact ⟨j, by omega, rfl⟩
      · rintro ⟨j, hj, rfl⟩; exact ⟨j, by omega, rfl⟩
    rw [← e] at q
    refine ⟨by rw [List.length_map]; exact hl, ?_⟩
    rw [List.length_map]
    exact q
end Lb

set_option linter.all false
namespace K26
open PySem PySem.Spec PyProof.Rows L2 DL
def g_pieces_bound_0_length_endless {α : Type} : List α → List α → List α
  | [], [w0, w1] => [w1, w0]
  | _, _ => []
def t_frozen (S_frozen : DSp) : DS :=
  (dSeq (dIfS (dTst (dCal (cIsi2 .list .tuple) (dVar 0))) (dRet (dCal cTupc (dLc (dItS (dVar 0)) (gNm 1) dTru (dCall S_frozen (dCons (dVar 1) dNil)) [1]))) dNext)
  (dRet (dVar 0)))
def t_is_whole : DS :=
  (dRet (dAndV (dCal (cIsi .int) (dVar 0)) (dNotV (dCal (cIsi .bool) (dVar 0)))))
def t_check_alphabet : DS :=
  (dSeq (dIfS (dNot (dChain cLe cLe (dC (.int 1)) (dCal cLen (dVar 0)) (dC (.int 6)))) dNever dNext)
  (dFor (dEnum (dVar 0)) (gTp 2 (gsC (gNm 1) (gsC (gNm 2) gsN)))
  (dIfS (dOr (dCmpT cNotin (dVar 2) (dC (.str [48, 49, 50, 51, 52, 53, 54, 55, 56, 57, 97, 98, 99, 100, 101, 102, 103, 104, 105, 106, 107, 108, 109, 110, 111, 112, 113, 114, 115, 116, 117, 118, 119, 120, 121, 122]))) (dAnd (dCmpT cGt (dVar 1) (dC (.int 0))) (dCmpT cGeS (dOp cIx (dVar 0) (dOp cSub (dVar 1) (dC (.int 1)))) (dVar 2)))) dNever dNext)))
def t_check_text : DS :=
  (dFor (dEnum (dVar 1)) (gTp 2 (gsC (gNm 2) (gsC (gNm 3) gsN)))
  (dIfS (dCmpT cNotin (dVar 3) (dVar 0)) dNever dNext))
def t_check_both (S_check_alphabet : DSp) (S_check_text : DSp) : DS :=
  (dSeq (dDrop (dCall S_check_alphabet (dCons (dVar 0) dNil)))
  (dDrop (dCall S_check_text (dCons (dVar 0) (dCons (dVar 1) dNil)))))
def r_root_length_1 : DS :=
  (dRet (dCal cLen (dVar 0)))
def t_root_length : DS :=
  (dSeq (dFor (dRng2 (dC (.int 1)) (dCal cLen (dVar 0))) (gNm 1)
  (dIfS (dAnd (dCmpT cEq (dOp cMod (dCal cLen (dVar 0)) (dVar 1)) (dC (.int 0))) (dCmpT cEq (dOp cMul (dSlice (dVar 0) dNoP (dPart (dVar 1))) (dOp cDiv (dCal cLen (dVar 0)) (dVar 1))) (dVar 0))) (dRet (dVar 1)) dNext))
  (r_root_length_1))
def r_least_round_1 (S_root_length : DSp) : DS :=
  (dRet (dTup (dCons (dSlice (dVar 0) dNoP (dPart (dVar 3))) (dCons (dVar 2) dNil))))
def t_least_round (S_root_length : DSp) : DS :=
  (dSeq (dSet 2 (dSlice (dVar 1) dNoP (dPart (dCall S_root_length (dCons (dVar 1) dNil)))))
  (dSeq (dSet 3 (dCal cLen (dVar 0)))
  (dSeq (dWhile (dAnd (dCmpT cGt (dVar 3) (dC (.int 0))) (dCmpT cEq (dOp cIx (dVar 0) (dOp cSub (dVar 3) (dC (.int 1)))) (dOp cIx (dVar 2) (dUn cNeg (dC (.int 1))))))
  (dSeq (dSet 2 (dOp cAdd (dOp cIx (dVar 2) (dUn cNeg (dC (.int 1)))) (dSlice (dVar 2) dNoP (dPart (dUn cNeg (dC (.int 1)))))))
  (dSet 3 (dOp cSub (dVar 3) (dC (.int 1))))))
  (r_least_round_1 S_root_length))))
def t_Round_init (Ad : Str → Addr) (S_check_alphabet : DSp) (S_check_text : DSp) (S_least_round : DSp) : DS :=
  (dSeq (dDrop (dCall S_check_alphabet (dCons (dVar 1) dNil)))
  (dSeq (dDrop (dCall S_check_text (dCons (dVar 1) (dCons (dVar 2) dNil))))
  (dSeq (dDrop (dCall S_check_text (dCons (dVar 1) (dCons (dVar 3) dNil))))
  (dSeq (dIfS (dCmpT cEq (dVar 3) (dC (.str []))) dNever dNext)
  (dSeq (dSetF ([Ad "Round"] : List Addr) "alphabet" 0 (dVar 1))
  (dSeq (dAsg (dCall S_least_round (dCons (dVar 2) (dCons (dVar 3) dNil))) (gTp 2 (gsC (gFldD ([Ad "Round"] : List Addr) "head" 0) (gsC (gFldD ([Ad "Round"] : List Addr) "ring" 0) gsN))))
  (dSetF ([Ad "Round"] : List Addr) "variety" 0 (dOp cAdd (dCal cLen (dFld ([Ad "Round"] : List Addr) "head" (dPk 0))) (dCal cLen (dFld ([Ad "Round"] : List Addr) "ring" (dPk 0)))))))))))
def t_Round_beginning (Ad : Str → Addr) : DS :=
  (dSeq (dSet 2 (dOp cAdd (dOp cDiv (dVar 1) (dCal cLen (dFld ([Ad "Round"] : List Addr) "ring" (dVar 0)))) (dC (.int 1))))
  (dRet (dSlice (dOp cAdd (dFld ([Ad "Round"] : List Addr) "head" (dVar 0)) (dOp cMul (dFld ([Ad "Round"] : List Addr) "ring" (dVar 0)) (dVar 2))) dNoP (dPart (dVar 1)))))
def t_word_count (Ad : Str → Addr) (S_Round_beginning : DSp) : DS :=
  (dSeq (dIfS (dCmpT cGe (dVar 1) (dFld ([Ad "Round"] : List Addr) "variety" (dVar 0))) (dRet (dFld ([Ad "Round"] : List Addr) "variety" (dVar 0))) dNext)
  (dSeq (dSet 2 (dMeth (Ad "Round") "beginning" S_Round_beginning (dVar 0) (dCons (dOp cAdd (dFld ([Ad "Round"] : List Addr) "variety" (dVar 0)) (dVar 1)) dNil)))
  (dRet (dLenSet (dRng1 (dFld ([Ad "Round"] : List Addr) "variety" (dVar 0))) (gNm 3) dTru (dSlice (dVar 2) (dPart (dVar 3)) (dPart (dOp cAdd (dVar 3) (dVar 1)))) [3]))))
def t_level_letters : DS :=
  (dRet (dOp cMul (dVar 0) (dOp cDiv (dOp cMul (dVar 1) (dOp cSub (dOp cAdd (dOp cMul (dC (.int 2)) (dVar 0)) (dVar 1)) (dC (.int 1)))) (dC (.int 2)))))
def t_full_levels : DS :=
  (dSeq (dSet 2 (dOp cSub (dOp cMul (dC (.int 2)) (dVar 0)) (dC (.int 1))))
  (dSeq (dSet 3 (dOp cDiv (dOp cMul (dC (.int 2)) (dVar 1)) (dVar 0)))
  (dRet (dOp cDiv (dOp cSub (dCal cRoot (dOp cAdd (dOp cMul (dVar 2) (dVar 2)) (dOp cMul (dC (.int 4)) (dVar 3)))) (dVar 2)) (dC (.int 2))))))
def r_pieces_bound_1 (Ad : Str → Addr) (S_word_count : DSp) (S_full_levels : DSp) (S_level_letters : DSp) : DS :=
  (dSeq (dSet 5 (dCall S_full_levels (dCons (dFld ([Ad "Round"] : List Addr) "variety" (dVar 0)) (dCons (dVar 3) dNil))))
  (dSeq (dSet 3 (dOp cSub (dVar 3) (dCall S_level_letters (dCons (dFld ([Ad "Round"] : List Addr) "variety" (dVar 0)) (dCons (dVar 5) dNil)))))
  (dRet (dOp cAdd (dOp cAdd (dVar 2) (dOp cMul (dVar 5) (dFld ([Ad "Round"] : List Addr) "variety" (dVar 0)))) (dOp cDiv (dVar 3) (dOp cAdd (dFld ([Ad "Round"] : List Addr) "variety" (dVar 0)) (dVar 5)))))))
def t_pieces_bound (Ad : Str → Addr) (S_word_count : DSp) (S_full_levels : DSp) (S_level_letters : DSp) : DS :=
  (dSeq (dSet 2 (dC (.int 0)))
  (dSeq (dSet 3 (dVar 1))
  (dSeq (dFor (dRng2 (dC (.int 1)) (dFld ([Ad "Round"] : List Addr) "variety" (dVar 0))) (gNm 4)
  (dSeq (dSet 6 (dOp cMin (dCall S_word_count (dCons (dVar 0) (dCons (dVar 4) dNil))) (dOp cDiv (dVar 3) (dVar 4))))
  (dSeq (dSet 2 (dOp cAdd (dVar 2) (dVar 6)))
  (dSet 3 (dOp cSub (dVar 3) (dOp cMul (dVar 6) (dVar 4)))))))
  (r_pieces_bound_1 Ad S_word_count S_full_levels S_level_letters))))
def t_is_good_row (S_is_whole : DSp) : DS :=
  (dSeq (dAsg (dVar 1) (gTp 2 (gsC (gNm 3) (gsC (gNm 4) gsN))))
  (dSeq (dIfS (dOr (dNot (dTst (dCall S_is_whole (dCons (dVar 3) dNil)))) (dNot (dChain cLe cLe (dC (.int 0)) (dVar 3) (dVar 2)))) (dRet (dC (.bl false))) dNext)
  (dRet (dAndV (dCal (cIsi .str) (dVar 4)) (dAndV (dCmp cEq (dCal cLen (dVar 4)) (dC (.int 1))) (dCmp cIn (dVar 4) (dVar 0)))))))
def t_check_rows (S_is_good_row : DSp) : DS :=
  (dSeq (dSetO 2 (dNew (.dt [] [])))
  (dFor (dEnum (dVar 1)) (gTp 2 (gsC (gNm 3) (gsC (gNm 4) gsN)))
  (dSeq (dIfS (dOr (dNot (dTst (dCall S_is_good_row (dCons (dVar 0) (dCons (dVar 4) (dCons (dVar 3) dNil)))))) (dCmpT cDin (dVar 4) (dPk 2))) dNever dNext)
  (dDput 2 (dC (.bl true)) (dVar 4)))))
def r_texts_of_pieces_1 : DS :=
  (dRet (dVar 1))
def t_texts_of_pieces : DS :=
  (dSeq (dSetO 1 (dLst (dCons (dC (.str [])) dNil)))
  (dSeq (dFor (dItS (dVar 0)) (gTp 2 (gsC (gNm 2) (gsC (gNm 3) gsN)))
  (dDrop (dApp 1 (dOp cAdd (dIxV 1 (dVar 2)) (dVar 3)))))
  (r_texts_of_pieces_1)))
def r_starts_of_1 : DS :=
  (dRet (dVar 1))
def t_starts_of : DS :=
  (dSeq (dSetO 1 (dLst (dCons (dC (.int 0)) dNil)))
  (dSeq (dFor (dItS (dSlice (dVar 0) (dPart (dC (.int 1))) dNoP)) (gNm 2)
  (dDrop (dApp 1 (dOp cAdd (dIxV 1 (dUn cNeg (dC (.int 1)))) (dCal cLen (dVar 2))))))
  (r_starts_of_1)))
def t_Cut_init (Ad : Str → Addr) (S_check_alphabet : DSp) (S_frozen : DSp) (S_check_rows : DSp) (S_is_whole : DSp) (S_texts_of_pieces : DSp) (S_starts_of : DSp) : DS :=
  (dSeq (dDrop (dCall S_check_alphabet (dCons (dVar 1) dNil)))
  (dSeq (dSetF ([Ad "Cut"] : List Addr) "alphabet" 0 (dVar 1))
  (dSeq (dSetF ([Ad "Cut"] : List Addr) "rows" 0 (dCall S_frozen (dCons (dVar 2) dNil)))
  (dSeq (dSetF ([Ad "Cut"] : List Addr) "tail" 0 (dVar 3))
  (dSeq (dDrop (dCall S_check_rows (dCons (dVar 1) (dCons (dFld ([Ad "Cut"] : List Addr) "rows" (dPk 0)) dNil))))
  (dSeq (dSetF ([Ad "Cut"] : List Addr) "many" 0 (dCal cLen (dFld ([Ad "Cut"] : List Addr) "rows" (dPk 0))))
  (dSeq (dIfS (dOr (dNot (dTst (dCall S_is_whole (dCons (dVar 3) dNil)))) (dNot (dChain cLe cLe (dC (.int 0)) (dVar 3) (dFld ([Ad "Cut"] : List Addr) "many" (dPk 0))))) dNever dNext)
  (dSeq (dSetF ([Ad "Cut"] : List Addr) "pieces" 0 (dCal cTupc (dCall S_texts_of_pieces (dCons (dFld ([Ad "Cut"] : List Addr) "rows" (dPk 0)) dNil))))
  (dSeq (dSetF ([Ad "Cut"] : List Addr) "text" 0 (dOp cAdd (dJoin false (dC (.str [])) (dFld ([Ad "Cut"] : List Addr) "pieces" (dPk 0))) (dOp cIx (dFld ([Ad "Cut"] : List Addr) "pieces" (dPk 0)) (dVar 3))))
  (dSetF ([Ad "Cut"] : List Addr) "starts" 0 (dCal cTupc (dCall S_starts_of (dCons (dFld ([Ad "Cut"] : List Addr) "pieces" (dPk 0)) dNil)))))))))))))
def r_cut_of_1 (S_check_both : DSp) (S_Cut : DSp) : DS :=
  (dRet (dCall S_Cut (dCons (dVar 0) (dCons (dVar 2) (dCons (dVar 4) dNil)))))
def t_cut_of (S_check_both : DSp) (S_Cut : DSp) : DS :=
  (dSeq (dDrop (dCall S_check_both (dCons (dVar 0) (dCons (dVar 1) dNil))))
  (dSeq (dSetO 2 (dLst dNil))
  (dSeq (dSetO 3 (dNew (.dt [] [])))
  (dSeq (dSet 4 (dC (.int 0)))
  (dSeq (dFor (dItS (dVar 1)) (gNm 5)
  (dSeq (dSet 6 (dTup (dCons (dVar 4) (dCons (dVar 5) dNil))))
  (dIfS (dCmpT cDin (dVar 6) (dPk 3)) (dSet 4 (dDgetV 3 (dVar 6))) (dSeq (dDrop (dApp 2 (dVar 6)))
  (dSeq (dDput 3 (dCal cLen (dPk 2)) (dVar 6))
  (dSet 4 (dC (.int 0))))))))
  (r_cut_of_1 S_check_both S_Cut))))))
def t__law_whole : DS :=
  (dRet (dAndV (dCal (cIsi .int) (dVar 0)) (dNotV (dCal (cIsi .bool) (dVar 0)))))
def r__law_cell_1 : DS :=
  (dRet (dOp cMod (dCal cInt (dOp cMul (dOp cMul (dOp cAdd (dVar 2) (dC (.int 7))) (dOp cAdd (dVar 1) (dC (.int 3)))) (dC (.int 69621)))) (dC (.int 2147483647))))
def t__law_cell : DS :=
  (dSeq (dIfS (dCmpT cLt (dVar 1) (dCal cLen (dVar 0))) (dRet (dOp cIx (dVar 0) (dVar 1))) dNext)
  (dSeq (dSet 2 (dC (.int 17)))
  (dSeq (dFor (dItS (dVar 0)) (gNm 3)
  (dSet 2 (dOp cMod (dCal cInt (dOp cAdd (dOp cMul (dVar 2) (dC (.int 31))) (dOp cMod (dCal cInt (dVar 3)) (dC (.int 1000003))))) (dC (.int 1000003)))))
  (r__law_cell_1))))
def r__law_digits_1 : DS :=
  (dRet (dVar 2))
def r__law_digits_2 : DS :=
  (dRet (dVar 2))
def t__law_digits : DS :=
  (dSeq (dSetO 2 (dLst dNil))
  (dSeq (dSet 3 (dCal cInt (dVar 0)))
  (dSeq (dIfS (dCmpT cGe (dVar 3) (dOp cPow (dC (.int 10)) (dC (.int 18)))) (dSeq (dSet 3 (dOp cSub (dVar 3) (dOp cPow (dC (.int 10)) (dC (.int 18)))))
  (dSeq (dFor (dItS (dVar 1)) (gNm 6)
  (dSeq (dDrop (dApp 2 (dOp cMod (dCal cInt (dVar 3)) (dVar 6))))
  (dSet 3 (dOp cDiv (dCal cInt (dVar 3)) (dVar 6)))))
  (r__law_digits_1))) dNext)
  (dSeq (dSet 4 (dOp cMod (dCal cInt (dVar 3)) (dC (.int 2147483629))))
  (dSeq (dFor (dRng1 (dCal cLen (dVar 1))) (gNm 5)
  (dSeq (dSet 4 (dOp cMod (dCal cInt (dOp cAdd (dOp cAdd (dOp cMul (dVar 4) (dC (.int 48271))) (dOp cMul (dC (.int 974711)) (dVar 5))) (dC (.int 12345)))) (dC (.int 2147483647))))
  (dSeq (dSet 7 (dOp cMod (dCal cInt (dOp cMul (dVar 4) (dOp cAdd (dOp cDiv (dVar 4) (dC (.int 65537))) (dC (.int 3))))) (dC (.int 2147483629))))
  (dDrop (dApp 2 (dOp cMod (dOp cDiv (dVar 7) (dC (.int 19))) (dOp cIx (dVar 1) (dVar 5))))))))
  (r__law_digits_2))))))
def r__law_alphabet_1 : DS :=
  (dDrop (dApp 4 (dOp cIx (dVar 3) (dVar 6))))
def r__law_alphabet_2 : DS :=
  (dRet (dJoin false (dC (.str [])) (dCal cSortedA (dPk 4))))
def t__law_alphabet : DS :=
  (dSeq (dSet 2 (dOp cMin (dVar 1) (dOp cIx (dLst (dCons (dC (.int 2)) (dCons (dC (.int 2)) (dCons (dC (.int 2)) (dCons (dC (.int 2)) (dCons (dC (.int 3)) (dCons (dC (.int 3)) (dCons (dC (.int 3)) (dCons (dC (.int 1)) (dCons (dC (.int 4)) (dCons (dC (.int 5)) (dCons (dC (.int 6)) (dCons (dC (.int 2)) dNil))))))))))))) (dOp cIx (dVar 0) (dC (.int 0))))))
  (dSeq (dSet 3 (dC (.str [48, 49, 50, 51, 52, 53, 54, 55, 56, 57, 97, 98, 99, 100, 101, 102, 103, 104, 105, 106, 107, 108, 109, 110, 111, 112, 113, 114, 115, 116, 117, 118, 119, 120, 121, 122])))
  (dSeq (dSetO 4 (dLst dNil))
  (dSeq (dFor (dRng1 (dVar 2)) (gNm 5)
  (dSeq (dSet 6 (dOp cMod (dCal cInt (dOp cIx (dVar 0) (dOp cAdd (dC (.int 1)) (dVar 5)))) (dC (.int 36))))
  (dSeq (dFor (dRng1 (dC (.int 36))) (gNm 7)
  (dIfS (dCmpT cIn (dOp cIx (dVar 3) (dVar 6)) (dPk 4)) (dSet 6 (dOp cMod (dCal cInt (dOp cAdd (dVar 6) (dC (.int 1)))) (dC (.int 36)))) dNext))
  (r__law_alphabet_1))))
  (r__law_alphabet_2)))))
def t__law_plain_text : DS :=
  (dRet (dJoin false (dC (.str [])) (dLc (dRng1 (dVar 2)) (gNm 3) dTru (dOp cIx (dVar 0) (dOp cMod (dCal cInt (dOp cIx (dVar 1) (dVar 3))) (dCal cLen (dVar 0)))) [3])))
def r__law_writing_1 (S__law_plain_text : DSp) : DS :=
  (dSeq (dIfS (dCmpT cEq (dVar 6) (dC (.int 0))) (dRet (dLst (dCons (dSlice (dVar 4) dNoP (dPart (dOp cIx (dVar 1) (dC (.int 3))))) (dCons (dSlice (dVar 5) dNoP (dPart (dOp cMax (dC (.int 1)) (dOp cIx (dVar 1) (dC (.int 4)))))) dNil)))) dNext)
  (dSeq (dIfS (dCmpT cLt (dVar 6) (dC (.int 3))) (dRet (dLst (dCons (dVar 7) (dCons (dVar 8) dNil)))) dNext)
  (dSeq (dIfS (dCmpT cLt (dVar 6) (dC (.int 5))) (dRet (dLst (dCons (dVar 7) (dCons (dVar 9) dNil)))) dNext)
  (dSeq (dIfS (dCmpT cLt (dVar 6) (dC (.int 8))) (dRet (dLst (dCons (dOp cAdd (dVar 7) (dVar 10)) (dCons (dVar 9) dNil)))) dNext)
  (dSeq (dIfS (dCmpT cEq (dVar 6) (dC (.int 8))) (dRet (dLst (dCons (dSlice (dOp cMul (dVar 8) (dC (.int 60))) (dPart (dOp cSub (dOp cMul (dC (.int 60)) (dCal cLen (dVar 8))) (dOp cIx (dVar 1) (dC (.int 6))))) dNoP) (dCons (dVar 9) dNil)))) dNext)
  (dSeq (dIfS (dCmpT cEq (dVar 6) (dC (.int 9))) (dRet (dLst (dCons (dOp cAdd (dVar 7) (dVar 10)) (dCons (dVar 8) dNil)))) dNext)
  (dSeq (dIfS (dCmpT cEq (dVar 6) (dC (.int 10))) (dRet (dLst (dCons (dOp cAdd (dVar 7) (dVar 10)) (dCons (dOp cAdd (dSlice (dVar 9) dNoP (dPart (dUn cNeg (dC (.int 1))))) (dVar 11)) dNil)))) dNext)
  (dSeq (dIfS (dCmpT cEq (dVar 6) (dC (.int 11))) (dRet (dLst (dCons (dOp cMul (dOp cIx (dVar 8) (dC (.int 0))) (dOp cIx (dVar 1) (dC (.int 3)))) (dCons (dOp cMul (dOp cIx (dVar 8) (dC (.int 0))) (dOp cMax (dC (.int 1)) (dOp cIx (dVar 1) (dC (.int 4))))) dNil)))) dNext)
  (dSeq (dIfS (dCmpT cEq (dVar 6) (dC (.int 12))) (dRet (dLst (dCons (dOp cAdd (dSlice (dVar 4) dNoP (dPart (dOp cMod (dCal cInt (dOp cIx (dVar 1) (dC (.int 3)))) (dC (.int 31))))) (dSlice (dVar 12) (dPart (dOp cMod (dCal cInt (dOp cIx (dVar 1) (dC (.int 6)))) (dCal cLen (dVar 12)))) dNoP)) (dCons (dOp cAdd (dVar 12) (dVar 12)) dNil)))) dNext)
  (dSeq (dIfS (dCmpT cEq (dVar 6) (dC (.int 13))) (dSeq (dSet 13 (dOp cMod (dCal cInt (dOp cIx (dVar 1) (dC (.int 7)))) (dCal cLen (dVar 12))))
  (dRet (dLst (dCons (dVar 7) (dCons (dOp cAdd (dOp cAdd (dOp cAdd (dVar 12) (dSlice (dVar 12) dNoP (dPart (dVar 13)))) (dVar 11)) (dSlice (dVar 12) (dPart (dOp cAdd (dVar 13) (dC (.int 1)))) dNoP)) dNil))))) dNext)
  (dSeq (dIfS (dCmpT cEq (dVar 6) (dC (.int 14))) (dRet (dLst (dCons (dC (.str [])) (dCons (dVar 9) dNil)))) dNext)
  (dRet (dLst (dCons (dOp cAdd (dOp cAdd (dVar 7) (dVar 11)) (dVar 10)) (dCons (dVar 9) dNil)))))))))))))))
def r__law_writing_2 (S__law_plain_text : DSp) : DS :=
  (dSeq (dSet 10 (dSlice (dOp cMul (dVar 8) (dC (.int 60))) (dPart (dOp cSub (dOp cMul (dC (.int 60)) (dCal cLen (dVar 8))) (dOp cMod (dCal cInt (dOp cIx (dVar 1) (dC (.int 6)))) (dC (.int 25))))) dNoP))
  (dSeq (dSet 11 (dOp cIx (dVar 0) (dOp cMod (dCal cInt (dOp cAdd (dOp cAdd (dM1 cSIndex (dVar 0) (dOp cIx (dVar 8) (dUn cNeg (dC (.int 1))))) (dC (.int 1))) (dOp cIx (dVar 1) (dC (.int 7))))) (dCal cLen (dVar 0)))))
  (dSeq (dSet 12 (dSlice (dVar 5) dNoP (dPart (dOp cAdd (dC (.int 1)) (dOp cMod (dCal cInt (dOp cIx (dVar 1) (dC (.int 4)))) (dC (.int 30)))))))
  (r__law_writing_1 S__law_plain_text))))
def t__law_writing (S__law_plain_text : DSp) : DS :=
  (dSeq (dSet 4 (dCall S__law_plain_text (dCons (dVar 0) (dCons (dVar 2) (dCons (dC (.int 60)) dNil)))))
  (dSeq (dSet 5 (dCall S__law_plain_text (dCons (dVar 0) (dCons (dVar 3) (dCons (dC (.int 60)) dNil)))))
  (dSeq (dSet 6 (dOp cIx (dVar 1) (dC (.int 0))))
  (dSeq (dSet 7 (dSlice (dVar 4) dNoP (dPart (dOp cIx (dVar 1) (dC (.int 1))))))
  (dSeq (dSet 8 (dSlice (dVar 5) dNoP (dPart (dOp cAdd (dC (.int 1)) (dOp cIx (dVar 1) (dC (.int 2)))))))
  (dSeq (dSet 9 (dOp cMul (dVar 8) (dOp cMin (dOp cAdd (dC (.int 1)) (dOp cIx (dVar 1) (dC (.int 5)))) (dOp cDiv (dC (.int 60)) (dCal cLen (dVar 8))))))
  (r__law_writing_2 S__law_plain_text)))))))
def r__law_form_1 : DS :=
  (dRet (dLst (dCons (dSlice (dVar 2) dNoP (dPart (dVar 5))) (dCons (dSlice (dVar 2) (dPart (dVar 5)) (dPart (dOp cAdd (dVar 5) (dVar 3)))) dNil))))
def r__law_form_2 : DS :=
  (dSeq (dSet 5 (dCal cLen (dVar 0)))
  (dSeq (dFor (dRng1 (dOp cAdd (dCal cLen (dVar 0)) (dC (.int 1)))) (gNm 4)
  (dIfS (dCmpT cEq (dSlice (dVar 2) (dPart (dVar 4)) (dPart (dOp cAdd (dCal cLen (dVar 0)) (dC (.int 60))))) (dSlice (dVar 2) (dPart (dOp cAdd (dVar 4) (dVar 3))) (dPart (dOp cAdd (dOp cAdd (dCal cLen (dVar 0)) (dC (.int 60))) (dVar 3))))) (dSeq (dSet 5 (dVar 4))
  dBreak) dNext))
  (r__law_form_1)))
def t__law_form : DS :=
  (dSeq (dSet 2 (dOp cAdd (dVar 0) (dSlice (dOp cMul (dVar 1) (dC (.int 180))) dNoP (dPart (dC (.int 180))))))
  (dSeq (dSet 3 (dCal cLen (dVar 1)))
  (dSeq (dFor (dRng2 (dC (.int 1)) (dC (.int 61))) (gNm 4)
  (dIfS (dCmpT cEq (dSlice (dVar 2) (dPart (dCal cLen (dVar 0))) (dPart (dOp cAdd (dCal cLen (dVar 0)) (dC (.int 60))))) (dSlice (dVar 2) (dPart (dOp cAdd (dCal cLen (dVar 0)) (dVar 4))) (dPart (dOp cAdd (dOp cAdd (dCal cLen (dVar 0)) (dVar 4)) (dC (.int 60)))))) (dSeq (dSet 3 (dVar 4))
  dBreak) dNext))
  (r__law_form_2))))
def r__law_giant_1 : DS :=
  (dRet (dVar 1))
def t__law_giant : DS :=
  (dSeq (dIfS (dCmpT cEq (dOp cIx (dVar 0) (dC (.int 0))) (dC (.int 31))) (dRet (dOp cPow (dC (.int 10)) (dC (.int 30)))) dNext)
  (dSeq (dSet 1 (dC (.int 0)))
  (dSeq (dFor (dRng1 (dOp cIx (dVar 0) (dC (.int 0)))) (gNm 2)
  (dSet 1 (dOp cAdd (dOp cMul (dVar 1) (dC (.int 10))) (dOp cIx (dVar 0) (dOp cAdd (dC (.int 1)) (dVar 2))))))
  (r__law_giant_1))))
def r__law_words_1 : DS :=
  (dRet (dCal cLenK (dPk 4)))
def t__law_words : DS :=
  (dSeq (dSet 3 (dOp cAdd (dVar 0) (dOp cMul (dVar 1) (dOp cAdd (dOp cDiv (dVar 2) (dCal cLen (dVar 1))) (dC (.int 2))))))
  (dSeq (dSetO 4 (dNew (.dk [] [])))
  (dSeq (dFor (dRng1 (dOp cAdd (dCal cLen (dVar 0)) (dCal cLen (dVar 1)))) (gNm 5)
  (dDput 4 (dC (.bl true)) (dSlice (dVar 3) (dPart (dVar 5)) (dPart (dOp cAdd (dVar 5) (dVar 2))))))
  (r__law_words_1))))
def t__law_beginning : DS :=
  (dRet (dSlice (dOp cAdd (dVar 0) (dOp cMul (dVar 1) (dOp cAdd (dOp cDiv (dVar 2) (dCal cLen (dVar 1))) (dC (.int 1))))) dNoP (dPart (dVar 2))))
def r__law_cut_1 : DS :=
  (dRet (dLst (dCons (dCal cTupc (dPk 3)) (dCons (dDgetV 2 (dVar 4)) (dCons (dVar 1) dNil)))))
def t__law_cut : DS :=
  (dSeq (dSetO 1 (dLst (dCons (dC (.str [])) dNil)))
  (dSeq (dSetO 2 (dDisp (((dC (.str [])), (dC (.int 0))) :: [])))
  (dSeq (dSetO 3 (dLst dNil))
  (dSeq (dSet 4 (dC (.str [])))
  (dSeq (dFor (dItS (dVar 0)) (gNm 5)
  (dIfS (dCmpT cDin (dOp cAdd (dVar 4) (dVar 5)) (dPk 2)) (dSet 4 (dOp cAdd (dVar 4) (dVar 5))) (dSeq (dDrop (dApp 3 (dTup (dCons (dDgetV 2 (dVar 4)) (dCons (dVar 5) dNil)))))
  (dSeq (dDput 2 (dCal cLen (dPk 1)) (dOp cAdd (dVar 4) (dVar 5)))
  (dSeq (dDrop (dApp 1 (dOp cAdd (dVar 4) (dVar 5))))
  (dSet 4 (dC (.str []))))))))
  (r__law_cut_1))))))
def r__law_least_letters_1 : DS :=
  (dSeq (dSet 5 (dOp cIx (dVar 0) (dUn cNeg (dC (.int 1)))))
  (dSeq (dSet 6 (dOp cDiv (dVar 3) (dVar 5)))
  (dSeq (dSet 7 (dOp cSub (dVar 3) (dOp cMul (dVar 6) (dVar 5))))
  (dRet (dOp cAdd (dOp cAdd (dVar 2) (dOp cMul (dVar 5) (dOp cAdd (dOp cMul (dVar 6) (dCal cLen (dVar 0))) (dOp cDiv (dOp cMul (dVar 6) (dOp cSub (dVar 6) (dC (.int 1)))) (dC (.int 2)))))) (dOp cMul (dVar 7) (dOp cAdd (dCal cLen (dVar 0)) (dVar 6))))))))
def t__law_least_letters : DS :=
  (dSeq (dSet 2 (dC (.int 0)))
  (dSeq (dSet 3 (dVar 1))
  (dSeq (dFor (dRng1 (dOp cSub (dCal cLen (dVar 0)) (dC (.int 1)))) (gNm 4)
  (dSeq (dSet 8 (dOp cMin (dVar 3) (dOp cIx (dVar 0) (dVar 4))))
  (dSeq (dSet 2 (dOp cAdd (dVar 2) (dOp cMul (dVar 8) (dOp cAdd (dVar 4) (dC (.int 1))))))
  (dSet 3 (dOp cSub (dVar 3) (dVar 8))))))
  (r__law_least_letters_1))))
def t__law_exact (S__law_whole : DSp) (S__law_least_letters : DSp) : DS :=
  (dSeq (dIfS (dOr (dNot (dTst (dCall S__law_whole (dCons (dVar 1) dNil)))) (dOr (dCmpT cLt (dVar 1) (dC (.int 0))) (dCmpT cGt (dOp cMul (dVar 1) (dVar 1)) (dOp cMul (dOp cMul (dC (.int 2)) (dVar 2)) (dOp cIx (dVar 0) (dUn cNeg (dC (.int 1)))))))) (dRet (dC (.bl false))) dNext)
  (dRet (dChainV cLe cLt (dCall S__law_least_letters (dCons (dVar 0) (dCons (dVar 1) dNil))) (dVar 2) (dCall S__law_least_letters (dCons (dVar 0) (dCons (dOp cAdd (dVar 1) (dC (.int 1))) dNil))))))
def t__law_pieces_within (Ad : Str → Addr) (S_Round_beginning : DSp) (S__law_beginning : DSp) (S_cut_of : DSp) (S__law_cut : DSp) (S__law_whole : DSp) : DS :=
  (dSeq (dSet 5 (dMeth (Ad "Round") "beginning" S_Round_beginning (dVar 1) (dCons (dVar 3) dNil)))
  (dSeq (dIfS (dCmpT cNe (dVar 5) (dCall S__law_beginning (dCons (dOp cIx (dVar 2) (dC (.int 0))) (dCons (dOp cIx (dVar 2) (dC (.int 1))) (dCons (dVar 3) dNil))))) (dRet (dC (.bl false))) dNext)
  (dSeq (dSet 6 (dCall S_cut_of (dCons (dVar 0) (dCons (dVar 5) dNil))))
  (dSeq (dSet 7 (dCall S__law_cut (dCons (dVar 5) dNil)))
  (dSeq (dIfS (dOr (dCmpT cNe (dFld ([Ad "Cut"] : List Addr) "rows" (dVar 6)) (dOp cIx (dVar 7) (dC (.int 0)))) (dOr (dCmpT cNe (dFld ([Ad "Cut"] : List Addr) "tail" (dVar 6)) (dOp cIx (dVar 7) (dC (.int 1)))) (dOr (dCmpT cNe (dFld ([Ad "Cut"] : List Addr) "pieces" (dVar 6)) (dCal cTupc (dOp cIx (dVar 7) (dC (.int 2))))) (dNot (dTst (dCall S__law_whole (dCons (dFld ([Ad "Cut"] : List Addr) "many" (dVar 6)) dNil))))))) (dRet (dC (.bl false))) dNext)
  (dRet (dAndV (dCmp cEq (dFld ([Ad "Cut"] : List Addr) "many" (dVar 6)) (dCal cLen (dOp cIx (dVar 7) (dC (.int 0))))) (dCmp cLe (dCal cLen (dOp cIx (dVar 7) (dC (.int 0)))) (dVar 4)))))))))
def r__law_counting_text_1 : DS :=
  (dSeq (dSet 2 (dOp cAdd (dVar 2) (dJoin false (dC (.str [])) (dVar 5))))
  (dSet 3 (dCal cListc (dVar 5))))
def r__law_counting_text_2 : DS :=
  (dRet (dSlice (dVar 2) dNoP (dPart (dVar 1))))
def t__law_counting_text : DS :=
  (dSeq (dSet 2 (dC (.str [])))
  (dSeq (dSet 3 (dLst (dCons (dC (.str [])) dNil)))
  (dSeq (dFor (dRng1 (dC (.int 400))) (gNm 4)
  (dSeq (dIfS (dCmpT cGe (dCal cLen (dVar 2)) (dVar 1)) dBreak dNext)
  (dSeq (dSet 5 (dLst dNil))
  (dSeq (dFor (dItS (dVar 3)) (gNm 6)
  (dIfS (dCmpT cLt (dOp cAdd (dCal cLen (dVar 2)) (dOp cMul (dCal cLen (dVar 5)) (dOp cAdd (dCal cLen (dVar 6)) (dC (.int 1))))) (dOp cAdd (dVar 1) (dOp cMul (dC (.int 6)) (dOp cAdd (dCal cLen (dVar 6)) (dC (.int 1)))))) (dSet 5 (dOp cAdd (dVar 5) (dLc (dItS (dVar 0)) (gNm 7) dTru (dOp cAdd (dVar 6) (dVar 7)) [7]))) dNext))
  (r__law_counting_text_1)))))
  (r__law_counting_text_2))))
def r__law_long_right_1 (Ad : Str → Addr) (S_cut_of : DSp) (S__law_counting_text : DSp) (S__law_form : DSp) (S__law_words : DSp) (S__law_exact : DSp) (S_pieces_bound : DSp) (S_Round : DSp) : DS :=
  (dRet (dC (.bl true)))
def t__law_long_right (Ad : Str → Addr) (S_cut_of : DSp) (S__law_counting_text : DSp) (S__law_form : DSp) (S__law_words : DSp) (S__law_exact : DSp) (S_pieces_bound : DSp) (S_Round : DSp) : DS :=
  (dSeq (dIfS (dCmpT cGt (dOp cIx (dVar 2) (dC (.int 0))) (dC (.int 0))) (dRet (dC (.bl true))) dNext)
  (dSeq (dSet 4 (dFld ([Ad "Cut"] : List Addr) "text" (dCall S_cut_of (dCons (dVar 0) (dCons (dCall S__law_counting_text (dCons (dVar 0) (dCons (dOp cIx (dVar 2) (dC (.int 1))) dNil))) dNil)))))
  (dSeq (dIfS (dCmpT cNe (dVar 4) (dCall S__law_counting_text (dCons (dVar 0) (dCons (dOp cIx (dVar 2) (dC (.int 1))) dNil)))) (dRet (dC (.bl false))) dNext)
  (dSeq (dSet 5 (dCall S__law_form (dCons (dVar 4) (dCons (dOp cIx (dVar 1) (dC (.int 1))) dNil))))
  (dSeq (dSet 6 (dLc (dRng1 (dOp cAdd (dCal cLen (dOp cIx (dVar 5) (dC (.int 0)))) (dCal cLen (dOp cIx (dVar 5) (dC (.int 1)))))) (gNm 9) dTru (dCall S__law_words (dCons (dOp cIx (dVar 5) (dC (.int 0))) (dCons (dOp cIx (dVar 5) (dC (.int 1))) (dCons (dOp cAdd (dVar 9) (dC (.int 1))) dNil)))) [9]))
  (dSeq (dSet 7 (dCall S_Round (dCons (dVar 0) (dCons (dVar 4) (dCons (dOp cIx (dVar 1) (dC (.int 1))) dNil)))))
  (dSeq (dFor (dItS (dVar 3)) (gNm 8)
  (dIfS (dNot (dTst (dCall S__law_exact (dCons (dVar 6) (dCons (dCall S_pieces_bound (dCons (dVar 7) (dCons (dVar 8) dNil))) (dCons (dVar 8) dNil)))))) (dRet (dC (.bl false))) dNext))
  (r__law_long_right_1 Ad S_cut_of S__law_counting_text S__law_form S__law_words S__law_exact S_pieces_bound S_Round))))))))
def r_law_1 (S__law_alphabet : DSp) (S__law_digits : DSp) (S__law_cell : DSp) (S__law_writing : DSp) (S__law_form : DSp) (S__law_words : DSp) (S_pieces_bound : DSp) (S__law_exact : DSp) (S__law_pieces_within : DSp) (S__law_giant : DSp) (S__law_long_right : DSp) (S__law_least_letters : DSp) (S_Round : DSp) : DS :=
  (dSeq (dIfS (dCmpT cNe (dCallK 0 2 g_pieces_bound_0_length_endless S_pieces_bound dNil (dCons (dOp cIx (dVar 10) (dC (.int 0))) (dCons (dVar 8) dNil))) (dIxV 11 (dC (.int 0)))) (dRet (dC (.bl false))) dNext)
  (dRet (dCmp cEq (dLc (dItS (dVar 10)) (gNm 12) dTru (dCall S_pieces_bound (dCons (dCall S_Round (dCons (dVar 1) (dCons (dOp cIx (dVar 6) (dC (.int 0))) (dCons (dOp cIx (dVar 6) (dC (.int 1))) dNil)))) (dCons (dVar 12) dNil))) [12]) (dVar 11))))
def r_law_2 (S__law_alphabet : DSp) (S__law_digits : DSp) (S__law_cell : DSp) (S__law_writing : DSp) (S__law_form : DSp) (S__law_words : DSp) (S_pieces_bound : DSp) (S__law_exact : DSp) (S__law_pieces_within : DSp) (S__law_giant : DSp) (S__law_long_right : DSp) (S__law_least_letters : DSp) (S_Round : DSp) : DS :=
  (dSeq (dIfS (dNot (dTst (dCall S__law_long_right (dCons (dVar 1) (dCons (dVar 5) (dCons (dCall S__law_digits (dCons (dCall S__law_cell (dCons (dVar 0) (dCons (dC (.int 8)) dNil))) (dCons (dLst (dCons (dC (.int 8)) (dCons (dC (.int 101)) dNil))) dNil))) (dCons (dLst (dCons (dOp cIx (dVar 9) (dC (.int 0))) (dCons (dVar 12) dNil))) dNil))))))) (dRet (dC (.bl false))) dNext)
  (dSeq (dFor (dItS (dLst (dCons (dOp cIx (dVar 9) (dC (.int 4))) (dCons (dOp cMod (dCal cInt (dVar 12)) (dOp cPow (dC (.int 10)) (dC (.int 15)))) dNil)))) (gNm 14)
  (dSeq (dSet 16 (dCall S__law_least_letters (dCons (dVar 7) (dCons (dVar 14) dNil))))
  (dIfS (dOr (dCmpT cNe (dCall S_pieces_bound (dCons (dVar 8) (dCons (dVar 16) dNil))) (dVar 14)) (dCmpT cNe (dCall S_pieces_bound (dCons (dVar 8) (dCons (dOp cMax (dC (.int 0)) (dOp cSub (dVar 16) (dC (.int 1)))) dNil))) (dOp cMax (dC (.int 0)) (dOp cSub (dVar 14) (dC (.int 1)))))) (dRet (dC (.bl false))) dNext)))
  (r_law_1 S__law_alphabet S__law_digits S__law_cell S__law_writing S__law_form S__law_words S_pieces_bound S__law_exact S__law_pieces_within S__law_giant S__law_long_right S__law_least_letters S_Round)))
def r_law_3 (S__law_alphabet : DSp) (S__law_digits : DSp) (S__law_cell : DSp) (S__law_writing : DSp) (S__law_form : DSp) (S__law_words : DSp) (S_pieces_bound : DSp) (S__law_exact : DSp) (S__law_pieces_within : DSp) (S__law_giant : DSp) (S__law_long_right : DSp) (S__law_least_letters : DSp) (S_Round : DSp) : DS :=
  (dSeq (dFor (dRng1 (dC (.int 3))) (gNm 13)
  (dSeq (dSet 12 (dCall S__law_giant (dCons (dCall S__law_digits (dCons (dCall S__law_cell (dCons (dVar 0) (dCons (dOp cAdd (dC (.int 5)) (dVar 13)) dNil))) (dCons (dOp cAdd (dLst (dCons (dC (.int 32)) dNil)) (dOp cMul (dLst (dCons (dC (.int 10)) dNil)) (dC (.int 30)))) dNil))) dNil)))
  (dIfS (dNot (dTst (dCall S__law_exact (dCons (dVar 7) (dCons (dCall S_pieces_bound (dCons (dVar 8) (dCons (dVar 12) dNil))) (dCons (dVar 12) dNil)))))) (dRet (dC (.bl false))) dNext)))
  (r_law_2 S__law_alphabet S__law_digits S__law_cell S__law_writing S__law_form S__law_words S_pieces_bound S__law_exact S__law_pieces_within S__law_giant S__law_long_right S__law_least_letters S_Round))
def r_law_4 (S__law_alphabet : DSp) (S__law_digits : DSp) (S__law_cell : DSp) (S__law_writing : DSp) (S__law_form : DSp) (S__law_words : DSp) (S_pieces_bound : DSp) (S__law_exact : DSp) (S__law_pieces_within : DSp) (S__law_giant : DSp) (S__law_long_right : DSp) (S__law_least_letters : DSp) (S_Round : DSp) : DS :=
  (dSeq (dSetO 11 (dLst dNil))
  (dSeq (dFor (dItS (dVar 10)) (gNm 12)
  (dSeq (dSet 15 (dCall S_pieces_bound (dCons (dVar 8) (dCons (dVar 12) dNil))))
  (dSeq (dDrop (dApp 11 (dVar 15)))
  (dIfS (dOr (dNot (dTst (dCall S__law_exact (dCons (dVar 7) (dCons (dVar 15) (dCons (dVar 12) dNil)))))) (dNot (dTst (dCall S__law_pieces_within (dCons (dVar 1) (dCons (dVar 8) (dCons (dVar 5) (dCons (dVar 12) (dCons (dVar 15) dNil))))))))) (dRet (dC (.bl false))) dNext))))
  (r_law_3 S__law_alphabet S__law_digits S__law_cell S__law_writing S__law_form S__law_words S_pieces_bound S__law_exact S__law_pieces_within S__law_giant S__law_long_right S__law_least_letters S_Round)))
def t_law (S__law_alphabet : DSp) (S__law_digits : DSp) (S__law_cell : DSp) (S__law_writing : DSp) (S__law_form : DSp) (S__law_words : DSp) (S_pieces_bound : DSp) (S__law_exact : DSp) (S__law_pieces_within : DSp) (S__law_giant : DSp) (S__law_long_right : DSp) (S__law_least_letters : DSp) (S_Round : DSp) : DS :=
  (dSeq (dSet 1 (dCall S__law_alphabet (dCons (dCall S__law_digits (dCons (dCall S__law_cell (dCons (dVar 0) (dCons (dC (.int 0)) dNil))) (dCons (dLst (dCons (dC (.int 12)) (dCons (dC (.int 36)) (dCons (dC (.int 36)) (dCons (dC (.int 36)) (dCons (dC (.int 36)) (dCons (dC (.int 36)) (dCons (dC (.int 36)) dNil)))))))) dNil))) (dCons (dC (.int 6)) dNil))))
  (dSeq (dSet 2 (dCall S__law_digits (dCons (dCall S__law_cell (dCons (dVar 0) (dCons (dC (.int 1)) dNil))) (dCons (dLst (dCons (dC (.int 16)) (dCons (dC (.int 9)) (dCons (dC (.int 9)) (dCons (dC (.int 61)) (dCons (dC (.int 61)) (dCons (dC (.int 10)) (dCons (dC (.int 61)) (dCons (dC (.int 60)) dNil))))))))) dNil))))
  (dSeq (dSet 3 (dCall S__law_digits (dCons (dCall S__law_cell (dCons (dVar 0) (dCons (dC (.int 2)) dNil))) (dCons (dOp cMul (dLst (dCons (dC (.int 6)) dNil)) (dC (.int 60))) dNil))))
  (dSeq (dSet 4 (dCall S__law_digits (dCons (dCall S__law_cell (dCons (dVar 0) (dCons (dC (.int 3)) dNil))) (dCons (dOp cMul (dLst (dCons (dC (.int 6)) dNil)) (dC (.int 60))) dNil))))
  (dSeq (dSet 5 (dCall S__law_writing (dCons (dVar 1) (dCons (dVar 2) (dCons (dVar 3) (dCons (dVar 4) dNil))))))
  (dSeq (dSet 6 (dCall S__law_form (dCons (dOp cIx (dVar 5) (dC (.int 0))) (dCons (dOp cIx (dVar 5) (dC (.int 1))) dNil))))
  (dSeq (dSet 7 (dLc (dRng1 (dOp cAdd (dCal cLen (dOp cIx (dVar 6) (dC (.int 0)))) (dCal cLen (dOp cIx (dVar 6) (dC (.int 1)))))) (gNm 13) dTru (dCall S__law_words (dCons (dOp cIx (dVar 6) (dC (.int 0))) (dCons (dOp cIx (dVar 6) (dC (.int 1))) (dCons (dOp cAdd (dVar 13) (dC (.int 1))) dNil)))) [13]))
  (dSeq (dSet 8 (dCall S_Round (dCons (dVar 1) (dCons (dOp cIx (dVar 5) (dC (.int 0))) (dCons (dOp cIx (dVar 5) (dC (.int 1))) dNil)))))
  (dSeq (dSet 9 (dCall S__law_digits (dCons (dCall S__law_cell (dCons (dVar 0) (dCons (dC (.int 4)) dNil))) (dCons (dLst (dCons (dC (.int 401)) (dCons (dC (.int 401)) (dCons (dC (.int 8)) (dCons (dC (.int 3001)) (dCons (dC (.int 201)) dNil)))))) dNil))))
  (dSeq (dSet 10 (dLst (dCons (dOp cIx (dVar 9) (dC (.int 0))) (dCons (dOp cIx (dVar 9) (dC (.int 1))) dNil))))
  (dSeq (dIfS (dCmpT cEq (dOp cIx (dVar 9) (dC (.int 2))) (dC (.int 0))) (dSet 10 (dOp cAdd (dVar 10) (dLst (dCons (dOp cIx (dVar 9) (dC (.int 3))) dNil)))) dNext)
  (r_law_4 S__law_alphabet S__law_digits S__law_cell S__law_writing S__law_form S__law_words S_pieces_bound S__law_exact S__law_pieces_within S__law_giant S__law_long_right S__law_least_letters S_Round))))))))))))
end K26

set_option Elab.async false
set_option linter.all false
set_option maxRecDepth 100000
set_option maxHeartbeats 4000000
namespace K26
open PySem PySem.Spec PyProof.Rows L2 DL
def topS (i : Nat) : Stmt := PySem.Challenge.pw_outpressed_k26_whole_pieces_of_beginning.main.body.getD i (.Pass ⟨0, 0, 0, 0⟩)
def clsB (s : Stmt) : List Stmt := match s with
  | .ClassDef _ _ _ b _ _ _ _ _ _ _ => b
  | _ => []
def methS (i j : Nat) : Stmt := (clsB (topS i)).getD j (.Pass ⟨0, 0, 0, 0⟩)
abbrev s_frozen : Stmt := topS 11
abbrev nm_frozen : List Str := ["value", "item"]
theorem sc_frozen : FnScope nm_frozen ["value"] (defScope s_frozen) := ⟨rfl, rfl, rfl, by decide +kernel, rfl, by decide +kernel, by decide +kernel⟩
abbrev s_is_whole : Stmt := topS 12
abbrev nm_is_whole : List Str := ["value"]
theorem sc_is_whole : FnScope nm_is_whole ["value"] (defScope s_is_whole) := ⟨rfl, rfl, rfl, by decide +kernel, rfl, by decide +kernel, by decide +kernel⟩
abbrev s_check_alphabet : Stmt := topS 13
abbrev nm_check_alphabet : List Str := ["alphabet", "index", "letter"]
theorem sc_check_alphabet : FnScope nm_check_alphabet ["alphabet"] (defScope s_check_alphabet) := ⟨rfl, rfl, rfl, by decide +kernel, rfl, by decide +kernel, by decide +kernel⟩
abbrev s_check_text : Stmt := topS 14
abbrev nm_check_text : List Str := ["alphabet", "text", "index", "letter"]
theorem sc_check_text : FnScope nm_check_text ["alphabet", "text"] (defScope s_check_text) := ⟨rfl, rfl, rfl, by decide +kernel, rfl, by decide +kernel, by decide +kernel⟩
abbrev s_check_both : Stmt := topS 15
abbrev nm_check_both : List Str := ["alphabet", "text"]
theorem sc_check_both : FnScope nm_check_both ["alphabet", "text"] (defScope s_check_both) := ⟨rfl, rfl, rfl, by decide +kernel, rfl, by decide +kernel, by decide +kernel⟩
abbrev s_root_length : Stmt := topS 17
abbrev nm_root_length : List Str := ["ring", "length"]
theorem sc_root_length : FnScope nm_root_length ["ring"] (defScope s_root_length) := ⟨rfl, rfl, rfl, by decide +kernel, rfl, by decide +kernel, by decide +kernel⟩
abbrev s_least_round : Stmt := topS 18
abbrev nm_least_round : List Str := ["head", "ring", "root", "many"]
theorem sc_least_round : FnScope nm_least_round ["head", "ring"] (defScope s_least_round) := ⟨rfl, rfl, rfl, by decide +kernel, rfl, by decide +kernel, by decide +kernel⟩
abbrev s_Round_init : Stmt := methS 19 0
abbrev nm_Round_init : List Str := ["self", "alphabet", "head", "ring"]
theorem sc_Round_init : FnScope nm_Round_init ["self", "alphabet", "head", "ring"] (defScope s_Round_init) := ⟨rfl, rfl, rfl, by decide +kernel, rfl, by decide +kernel, by decide +kernel⟩
abbrev s_Round_beginning : Stmt := methS 19 2
abbrev nm_Round_beginning : List Str := ["self", "length", "rings"]
theorem sc_Round_beginning : FnScope nm_Round_beginning ["self", "length"] (defScope s_Round_beginning) := ⟨rfl, rfl, rfl, by decide +kernel, rfl, by decide +kernel, by decide +kernel⟩
abbrev s_word_count : Stmt := topS 20
abbrev nm_word_count : List Str := ["endless", "length", "text", "start"]
theorem sc_word_count : FnScope nm_word_count ["endless", "length"] (defScope s_word_count) := ⟨rfl, rfl, rfl, by decide +kernel, rfl, by decide +kernel, by decide +kernel⟩
abbrev s_level_letters : Stmt := topS 21
abbrev nm_level_letters : List Str := ["variety", "levels"]
theorem sc_level_letters : FnScope nm_level_letters ["variety", "levels"] (defScope s_level_letters) := ⟨rfl, rfl, rfl, by decide +kernel, rfl, by decide +kernel, by decide +kernel⟩
abbrev s_full_levels : Stmt := topS 22
abbrev nm_full_levels : List Str := ["variety", "left", "edge", "room"]
theorem sc_full_levels : FnScope nm_full_levels ["variety", "left"] (defScope s_full_levels) := ⟨rfl, rfl, rfl, by decide +kernel, rfl, by decide +kernel, by decide +kernel⟩
abbrev s_pieces_bound : Stmt := topS 23
abbrev nm_pieces_bound : List Str := ["endless", "length", "total", "left", "letters", "levels", "taken"]
theorem sc_pieces_bound : FnScope nm_pieces_bound ["endless", "length"] (defScope s_pieces_bound) := ⟨rfl, rfl, rfl, by decide +kernel, rfl, by decide +kernel, by decide +kernel⟩
abbrev s_is_good_row : Stmt := topS 25
abbrev nm_is_good_row : List Str := ["alphabet", "row", "index", "parent", "letter"]
theorem sc_is_good_row : FnScope nm_is_good_row ["alphabet", "row", "index"] (defScope s_is_good_row) := ⟨rfl, rfl, rfl, by decide +kernel, rfl, by decide +kernel, by decide +kernel⟩
abbrev s_check_rows : Stmt := topS 26
abbrev nm_check_rows : List Str := ["alphabet", "rows", "earlier", "index", "row"]
theorem sc_check_rows : FnScope nm_check_rows ["alphabet", "rows"] (defScope s_check_rows) := ⟨rfl, rfl, rfl, by decide +kernel, rfl, by decide +kernel, by decide +kernel⟩
abbrev s_texts_of_pieces : Stmt := topS 27
abbrev nm_texts_of_pieces : List Str := ["rows", "texts", "parent", "letter"]
theorem sc_texts_of_pieces : FnScope nm_texts_of_pieces ["rows"] (defScope s_texts_of_pieces) := ⟨rfl, rfl, rfl, by decide +kernel, rfl, by decide +kernel, by decide +kernel⟩
abbrev s_starts_of : Stmt := topS 28
abbrev nm_starts_of : List Str := ["texts", "starts", "piece"]
theorem sc_starts_of : FnScope nm_starts_of ["texts"] (defScope s_starts_of) := ⟨rfl, rfl, rfl, by decide +kernel, rfl, by decide +kernel, by decide +kernel⟩
abbrev s_Cut_init : Stmt := methS 29 0
abbrev nm_Cut_init : List Str := ["self", "alphabet", "rows", "tail"]
theorem sc_Cut_init : FnScope nm_Cut_init ["self", "alphabet", "rows", "tail"] (defScope s_Cut_init) := ⟨rfl, rfl, rfl, by decide +kernel, rfl, by decide +kernel, by decide +kernel⟩
abbrev s_cut_of : Stmt := topS 30
abbrev nm_cut_of : List Str := ["alphabet", "text", "rows", "numbers", "piece", "letter", "row"]
theorem sc_cut_of : FnScope nm_cut_of ["alphabet", "text"] (defScope s_cut_of) := ⟨rfl, rfl, rfl, by decide +kernel, rfl, by decide +kernel, by decide +kernel⟩
abbrev s__law_whole : Stmt := topS 32
abbrev nm__law_whole : List Str := ["value"]
theorem sc__law_whole : FnScope nm__law_whole ["value"] (defScope s__law_whole) := ⟨rfl, rfl, rfl, by decide +kernel, rfl, by decide +kernel, by decide +kernel⟩
abbrev s__law_cell : Stmt := topS 33
abbrev nm__law_cell : List Str := ["script", "k", "seed", "cell"]
theorem sc__law_cell : FnScope nm__law_cell ["script", "k"] (defScope s__law_cell) := ⟨rfl, rfl, rfl, by decide +kernel, rfl, by decide +kernel, by decide +kernel⟩
abbrev s__law_digits : Stmt := topS 34
abbrev nm__law_digits : List Str := ["cell", "sizes", "row", "rest", "seed", "k", "size", "twice"]
theorem sc__law_digits : FnScope nm__law_digits ["cell", "sizes"] (defScope s__law_digits) := ⟨rfl, rfl, rfl, by decide +kernel, rfl, by decide +kernel, by decide +kernel⟩
abbrev s__law_alphabet : Stmt := topS 35
abbrev nm__law_alphabet : List Str := ["row", "upto", "many", "letters", "taken", "k", "at", "turn"]
theorem sc__law_alphabet : FnScope nm__law_alphabet ["row", "upto"] (defScope s__law_alphabet) := ⟨rfl, rfl, rfl, by decide +kernel, rfl, by decide +kernel, by decide +kernel⟩
abbrev s__law_plain_text : Stmt := topS 36
abbrev nm__law_plain_text : List Str := ["alphabet", "row", "size", "k"]
theorem sc__law_plain_text : FnScope nm__law_plain_text ["alphabet", "row", "size"] (defScope s__law_plain_text) := ⟨rfl, rfl, rfl, by decide +kernel, rfl, by decide +kernel, by decide +kernel⟩
abbrev s__law_writing : Stmt := topS 37
abbrev nm__law_writing : List Str := ["alphabet", "row", "one", "two", "head", "ring", "kind", "small", "root", "many", "tail", "other", "half", "at"]
theorem sc__law_writing : FnScope nm__law_writing ["alphabet", "row", "one", "two"] (defScope s__law_writing) := ⟨rfl, rfl, rfl, by decide +kernel, rfl, by decide +kernel, by decide +kernel⟩
abbrev s__law_form : Stmt := topS 38
abbrev nm__law_form : List Str := ["head", "ring", "text", "period", "k", "start"]
theorem sc__law_form : FnScope nm__law_form ["head", "ring"] (defScope s__law_form) := ⟨rfl, rfl, rfl, by decide +kernel, rfl, by decide +kernel, by decide +kernel⟩
abbrev s__law_giant : Stmt := topS 39
abbrev nm__law_giant : List Str := ["row", "number", "k"]
theorem sc__law_giant : FnScope nm__law_giant ["row"] (defScope s__law_giant) := ⟨rfl, rfl, rfl, by decide +kernel, rfl, by decide +kernel, by decide +kernel⟩
abbrev s__law_words : Stmt := topS 40
abbrev nm__law_words : List Str := ["head", "ring", "span", "text", "seen", "k"]
theorem sc__law_words : FnScope nm__law_words ["head", "ring", "span"] (defScope s__law_words) := ⟨rfl, rfl, rfl, by decide +kernel, rfl, by decide +kernel, by decide +kernel⟩
abbrev s__law_beginning : Stmt := topS 41
abbrev nm__law_beginning : List Str := ["head", "ring", "span"]
theorem sc__law_beginning : FnScope nm__law_beginning ["head", "ring", "span"] (defScope s__law_beginning) := ⟨rfl, rfl, rfl, by decide +kernel, rfl, by decide +kernel, by decide +kernel⟩
abbrev s__law_cut : Stmt := topS 42
abbrev nm__law_cut : List Str := ["text", "pieces", "number", "rows", "word", "letter"]
theorem sc__law_cut : FnScope nm__law_cut ["text"] (defScope s__law_cut) := ⟨rfl, rfl, rfl, by decide +kernel, rfl, by decide +kernel, by decide +kernel⟩
abbrev s__law_least_letters : Stmt := topS 43
abbrev nm__law_least_letters : List Str := ["counts", "count", "letters", "left", "k", "many", "full", "rest", "taken"]
theorem sc__law_least_letters : FnScope nm__law_least_letters ["counts", "count"] (defScope s__law_least_letters) := ⟨rfl, rfl, rfl, by decide +kernel, rfl, by decide +kernel, by decide +kernel⟩
abbrev s__law_exact : Stmt := topS 44
abbrev nm__law_exact : List Str := ["counts", "told", "span"]
theorem sc__law_exact : FnScope nm__law_exact ["counts", "told", "span"] (defScope s__law_exact) := ⟨rfl, rfl, rfl, by decide +kernel, rfl, by decide +kernel, by decide +kernel⟩
abbrev s__law_pieces_within : Stmt := topS 45
abbrev nm__law_pieces_within : List Str := ["alphabet", "world", "made", "span", "told", "text", "cut", "due"]
theorem sc__law_pieces_within : FnScope nm__law_pieces_within ["alphabet", "world", "made", "span", "told"] (defScope s__law_pieces_within) := ⟨rfl, rfl, rfl, by decide +kernel, rfl, by decide +kernel, by decide +kernel⟩
abbrev s__law_counting_text : Stmt := topS 46
abbrev nm__law_counting_text : List Str := ["alphabet", "size", "text", "words", "turn", "grown", "word", "letter"]
theorem sc__law_counting_text : FnScope nm__law_counting_text ["alphabet", "size"] (defScope s__law_counting_text) := ⟨rfl, rfl, rfl, by decide +kernel, rfl, by decide +kernel, by decide +kernel⟩
abbrev s__law_long_right : Stmt := topS 47
abbrev nm__law_long_right : List Str := ["alphabet", "made", "row", "lengths", "front", "form", "counts", "world", "span", "k"]
theorem sc__law_long_right : FnScope nm__law_long_right ["alphabet", "made", "row", "lengths"] (defScope s__law_long_right) := ⟨rfl, rfl, rfl, by decide +kernel, rfl, by decide +kernel, by decide +kernel⟩
abbrev s_law : Stmt := topS 48
abbrev nm_law : List Str := ["script", "alphabet", "row", "one", "two", "made", "form", "counts", "world", "extra", "lengths", "first", "span", "k", "many", "told", "edge"]
theorem sc_law : FnScope nm_law ["script"] (defScope s_law) := ⟨rfl, rfl, rfl, by decide +kernel, rfl, by decide +kernel, by decide +kernel⟩
section
variable {P : Program} {w : World} {K : PySem.W.Frag} {mg : Str → Option Value} {base : Heap}
theorem rel_pieces_bound_0_length_endless : RelG (fun vs zs => g_pieces_bound_0_length_endless vs zs) (fun ds es => g_pieces_bound_0_length_endless ds es) 0 2 := by
  intro K G ds es vs ws h1 h2 r1 r2
  match ds, es, h1, h2 with
  | [], [e0, e1], _, _ =>
    cases (show vs = [] from r1)
    obtain ⟨y0, _, rfl, b0, y1, _, rfl, b1, rfl⟩ := r2
    exact ⟨_, _, rfl, b1, _, _, rfl, b0, rfl⟩
theorem kbn_pieces_bound_0_length_endless {f : Addr} {fd : FuncData} (F : FnP K "pieces_bound" s_pieces_bound f fd) : KBn K fd ["endless", "length"] 0 ["length", "endless"] (fun us ws => g_pieces_bound_0_length_endless us ws) (fun vs zs => g_pieces_bound_0_length_endless vs zs) :=
  kb_of F (fun us ws => g_pieces_bound_0_length_endless us ws) (fun {vs us zs ws} r1 r2 => by
    cases r1 with | nil => (cases r2 with | nil => exact .nil | cons b0 r2 => (cases r2 with | nil => exact .nil | cons b1 r2 => (cases r2 with | nil => exact .cons b1 (.cons b0 (.nil)) | cons _ _ => exact .nil))) | cons _ _ => exact .nil) fun _ _ _ _ _ _ us ws h1 h2 => match us, ws, h1, h2 with | [], [_, _], _, _ => rfl
theorem ok_frozen {fa : Addr} {fd : FuncData} (Fn : FunD K "frozen" "frozen" (defArgs s_frozen) (defBody s_frozen) (defScope s_frozen) [] [] fa fd) {k : Nat} {S_frozen : DSp} {a_frozen : Addr} {fd_frozen : FuncData} {l_frozen : Nat} (h_frozen : l_frozen ≤ k) (G_frozen : FnG P w K mg base CX0 l_frozen a_frozen fd_frozen ["value"] (spD K false S_frozen)) (m_frozen : mg "frozen" = some (.ref a_frozen)) (k_frozen : PySem.W.keepIn K (.ref a_frozen) = true) (b_frozen : Binds K fd_frozen ["value"] []) (m_isinstance : mg "isinstance" = none) (m_list : mg "list" = none) (m_tuple : mg "tuple" = none) {S : DSp} (len : ∀ ds Q, S ds Q → ds.length = (["value"] : List Str).length) (rd : ∀ ds Q, S ds Q → t_frozen S_frozen { nx := fun _ => false = false ∧ Q .non, rt := Q } (startD 2 ds)) :
  FnG P w K mg base CX0 (k + 1) fa fd ["value"] (spD K false S) := by
  refine FunD.okD Fn sc_frozen len _ (fun cdv A outer s H E hr => ?_) rd
  exact (qss_cons (qs_if (qt_val (q_isi2 .list .tuple (fun _ => m_isinstance) (fun _ => m_list) (fun _ => m_tuple) (by decide +kernel) (by decide +kernel) (qv 0))) (qss_one (qs_ret (q_tuplec (fun _ => m_tuple) (QE.qp (QO.qe (qo_lc (ow := [("item", 1)]) (fun _ => rfl) (fun _ => sc_frozen.nd) (qi_seq (qv 0)) (fun _ => blkOk_by (N := nm_frozen) (sc := defScope s_frozen) (by decide +kernel)) (qgc_name 1 (fun _ => sc_frozen.nd)) qts_nil (q_call (fun _ => G_frozen) (fun _ => hr.mono h_frozen) (fun _ => m_frozen) k_frozen b_frozen (qa_cons (qv 1) qa_nil)))))))) qss_nil)
    (qss_one (qs_ret (qv 0))))
theorem ok_is_whole {fa : Addr} {fd : FuncData} (Fn : FunD K "is_whole" "is_whole" (defArgs s_is_whole) (defBody s_is_whole) (defScope s_is_whole) [] [] fa fd) {k : Nat} (m_isinstance : mg "isinstance" = none) (m_int : mg "int" = none) (m_bool : mg "bool" = none) {S : DSp} (len : ∀ ds Q, S ds Q → ds.length = (["value"] : List Str).length) (rd : ∀ ds Q, S ds Q → t_is_whole { nx := fun _ => false = false ∧ Q .non, rt := Q } (startD 1 ds)) :
  FnG P w K mg base CX0 (k + 1) fa fd ["value"] (spD K false S) := by
  refine FunD.okD Fn sc_is_whole len _ (fun cdv A outer s H E hr => ?_) rd
  exact (qss_one (qs_ret (q_and (q_isi .int (fun _ => m_isinstance) (fun _ => m_int) (by decide +kernel) (qv 0)) (q_one (q_not (q_isi .bool (fun _ => m_isinstance) (fun _ => m_bool) (by decide +kernel) (qv 0)))))))
theorem ok_check_alphabet {fa : Addr} {fd : FuncData} (Fn : FunD K "check_alphabet" "check_alphabet" (defArgs s_check_alphabet) (defBody s_check_alphabet) (defScope s_check_alphabet) [] [] fa fd) {k : Nat} {tk_LETTERS : Tok} (m_LETTERS : mg "LETTERS" = some (.str ⟨([48, 49, 50, 51, 52, 53, 54, 55, 56, 57, 97, 98, 99, 100, 101, 102, 103, 104, 105, 106, 107, 108, 109, 110, 111, 112, 113, 114, 115, 116, 117, 118, 119, 120, 121, 122] : List Nat).toArray⟩ tk_LETTERS)) (m_len : mg "len" = none) (m_enumerate : mg "enumerate" = none) {S : DSp} (len : ∀ ds Q, S ds Q → ds.length = (["alphabet"] : List Str).length) (rd : ∀ ds Q, S ds Q → t_check_alphabet { nx := fun _ => false = false ∧ Q .non, rt := Q } (startD 3 ds)) :
  FnG P w K mg base CX0 (k + 1) fa fd ["alphabet"] (spD K false S) := by
  refine FunD.okD Fn sc_check_alphabet len _ (fun cdv A outer s H E hr => ?_) rd
  exact (qss_cons (qs_if (qt_not (qt_chain (fun _ => op_le) (fun _ => op_le) cmpc_ord cmpc_ord q_int (q_len (fun _ => m_len) (QE.qp (qv 0))) q_int)) (qss_one qs_never) qss_nil)
    (qss_one (qs_for (fun _ => PassesOwn.never) (fun _ => rfl) (qi_enum (fun _ => m_enumerate) (qv 0)) (qg_tup (fun _ => rfl) (qgs_cons (qg_name 1 (fun _ => sc_check_alphabet.nd)) (qgs_cons (qg_name 2 (fun _ => sc_check_alphabet.nd)) qgs_nil))) (qss_one (qs_if (QW.qt (qw_or (qt_notin (fun _ => hr.toRoom) (qv 2) (QE.qp (q_glob (v := .str ⟨([48, 49, 50, 51, 52, 53, 54, 55, 56, 57, 97, 98, 99, 100, 101, 102, 103, 104, 105, 106, 107, 108, 109, 110, 111, 112, 113, 114, 115, 116, 117, 118, 119, 120, 121, 122] : List Nat).toArray⟩) (d := .str [48, 49, 50, 51, 52, 53, 54, 55, 56, 57, 97, 98, 99, 100, 101, 102, 103, 104, 105, 106, 107, 108, 109, 110, 111, 112, 113, 114, 115, 116, 117, 118, 119, 120, 121, 122]) (fun _ => m_LETTERS) ⟨_, rfl⟩ (fun _ => rfl)))) (qw_or1 (QW.qt (qw_and (qt_gt (qv 1) q_int) (qw_and1 (qt_geS (q_ix (qv 0) (q_sub (qv 1) q_int)) (qv 2)))))))) (qss_one qs_never) qss_nil)))))
theorem ok_check_text {fa : Addr} {fd : FuncData} (Fn : FunD K "check_text" "check_text" (defArgs s_check_text) (defBody s_check_text) (defScope s_check_text) [] [] fa fd) {k : Nat} (m_enumerate : mg "enumerate" = none) {S : DSp} (len : ∀ ds Q, S ds Q → ds.length = (["alphabet", "text"] : List Str).length) (rd : ∀ ds Q, S ds Q → t_check_text { nx := fun _ => false = false ∧ Q .non, rt := Q } (startD 4 ds)) :
  FnG P w K mg base CX0 (k + 1) fa fd ["alphabet", "text"] (spD K false S) := by
  refine FunD.okD Fn sc_check_text len _ (fun cdv A outer s H E hr => ?_) rd
  exact (qss_one (qs_for (fun _ => PassesOwn.never) (fun _ => rfl) (qi_enum (fun _ => m_enumerate) (qv 1)) (qg_tup (fun _ => rfl) (qgs_cons (qg_name 2 (fun _ => sc_check_text.nd)) (qgs_cons (qg_name 3 (fun _ => sc_check_text.nd)) qgs_nil))) (qss_one (qs_if (qt_notin (fun _ => hr.toRoom) (qv 3) (QE.qp (qv 0))) (qss_one qs_never) qss_nil))))
theorem ok_check_both {fa : Addr} {fd : FuncData} (Fn : FunD K "check_both" "check_both" (defArgs s_check_both) (defBody s_check_both) (defScope s_check_both) [] [] fa fd) {k : Nat} {S_check_alphabet : DSp} {a_check_alphabet : Addr} {fd_check_alphabet : FuncData} {l_check_alphabet : Nat} (h_check_alphabet : l_check_alphabet ≤ k) (G_check_alphabet : FnG P w K mg base CX0 l_check_alphabet a_check_alphabet fd_check_alphabet ["alphabet"] (spD K false S_check_alphabet)) (m_check_alphabet : mg "check_alphabet" = some (.ref a_check_alphabet)) (k_check_alphabet : PySem.W.keepIn K (.ref a_check_alphabet) = true) (b_check_alphabet : Binds K fd_check_alphabet ["alphabet"] []) {S_check_text : DSp} {a_check_text : Addr} {fd_check_text : FuncData} {l_check_text : Nat} (h_check_text : l_check_text ≤ k) (G_check_text : FnG P w K mg base CX0 l_check_text a_check_text fd_check_text ["alphabet", "text"] (spD K false S_check_text)) (m_check_text : mg "check_text" = some (.ref a_check_text)) (k_check_text : PySem.W.keepIn K (.ref a_check_text) = true) (b_check_text : Binds K fd_check_text ["alphabet", "text"] []) {S : DSp} (len : ∀ ds Q, S ds Q → ds.length = (["alphabet", "text"] : List Str).length) (rd : ∀ ds Q, S ds Q → t_check_both S_check_alphabet S_check_text { nx := fun _ => false = false ∧ Q .non, rt := Q } (startD 2 ds)) :
  FnG P w K mg base CX0 (k + 1) fa fd ["alphabet", "text"] (spD K false S) := by
  refine FunD.okD Fn sc_check_both len _ (fun cdv A outer s H E hr => ?_) rd
  exact (qss_cons (qs_expr (q_call (fun _ => G_check_alphabet) (fun _ => hr.mono h_check_alphabet) (fun _ => m_check_alphabet) k_check_alphabet b_check_alphabet (qa_cons (qv 0) qa_nil)))
    (qss_one (qs_expr (q_call (fun _ => G_check_text) (fun _ => hr.mono h_check_text) (fun _ => m_check_text) k_check_text b_check_text (qa_cons (qv 0) (qa_cons (qv 1) qa_nil))))))
theorem ok_root_length {fa : Addr} {fd : FuncData} (Fn : FunD K "root_length" "root_length" (defArgs s_root_length) (defBody s_root_length) (defScope s_root_length) [] [] fa fd) {k : Nat} (m_len : mg "len" = none) (m_range : mg "range" = none) {S : DSp} (len : ∀ ds Q, S ds Q → ds.length = (["ring"] : List Str).length) (rd : ∀ ds Q, S ds Q → t_root_length { nx := fun _ => false = false ∧ Q .non, rt := Q } (startD 2 ds)) :
  FnG P w K mg base CX0 (k + 1) fa fd ["ring"] (spD K false S) := by
  refine FunD.okD Fn sc_root_length len _ (fun cdv A outer s H E hr => ?_) rd
  exact (qss_cons (qs_for (fun _ => PassesOwn.never) (fun _ => rfl) (qi_range2 (fun _ => m_range) q_int (q_len (fun _ => m_len) (QE.qp (qv 0)))) (qg_name 1 (fun _ => sc_root_length.nd)) (qss_one (qs_if (QW.qt (qw_and (qt_eq (fun _ => hr.toRoom) (q_mod (q_len (fun _ => m_len) (QE.qp (qv 0))) (qv 1)) q_int) (qw_and1 (qt_eq (fun _ => hr.toRoom) (q_mul (q_slice (qv 0) qp_none (qp_some (qv 1))) (q_div (q_len (fun _ => m_len) (QE.qp (qv 0))) (qv 1))) (qv 0))))) (qss_one (qs_ret (qv 1))) qss_nil)))
    (qss_one (qs_ret (q_len (fun _ => m_len) (QE.qp (qv 0))))))
theorem ok_least_round {fa : Addr} {fd : FuncData} (Fn : FunD K "least_round" "least_round" (defArgs s_least_round) (defBody s_least_round) (defScope s_least_round) [] [] fa fd) {k : Nat} {S_root_length : DSp} {a_root_length : Addr} {fd_root_length : FuncData} {l_root_length : Nat} (h_root_length : l_root_length ≤ k) (G_root_length : FnG P w K mg base CX0 l_root_length a_root_length fd_root_length ["ring"] (spD K false S_root_length)) (m_root_length : mg "root_length" = some (.ref a_root_length)) (k_root_length : PySem.W.keepIn K (.ref a_root_length) = true) (b_root_length : Binds K fd_root_length ["ring"] []) (m_len : mg "len" = none) {S : DSp} (len : ∀ ds Q, S ds Q → ds.length = (["head", "ring"] : List Str).length) (rd : ∀ ds Q, S ds Q → t_least_round S_root_length { nx := fun _ => false = false ∧ Q .non, rt := Q } (startD 4 ds)) :
  FnG P w K mg base CX0 (k + 1) fa fd ["head", "ring"] (spD K false S) := by
  refine FunD.okD Fn sc_least_round len _ (fun cdv A outer s H E hr => ?_) rd
  exact (qss_cons (qs_set 2 (fun _ => sc_least_round.nd) (q_slice (qv 1) qp_none (qp_some (q_call (fun _ => G_root_length) (fun _ => hr.mono h_root_length) (fun _ => m_root_length) k_root_length b_root_length (qa_cons (qv 1) qa_nil)))))
    (qss_cons (qs_set 3 (fun _ => sc_least_round.nd) (q_len (fun _ => m_len) (QE.qp (qv 0))))
    (qss_cons (qs_while (fun _ => PassesOwn.never) (QW.qt (qw_and (qt_gt (qv 3) q_int) (qw_and1 (qt_eq (fun _ => hr.toRoom) (q_ix (qv 0) (q_sub (qv 3) q_int)) (q_ix (qv 2) (q_neg q_int)))))) (qss_cons (qs_set 2 (fun _ => sc_least_round.nd) (q_add (q_ix (qv 2) (q_neg q_int)) (q_slice (qv 2) qp_none (qp_some (q_neg q_int)))))
    (qss_one (qs_set 3 (fun _ => sc_least_round.nd) (q_sub (qv 3) q_int)))))
    (qss_one (qs_ret (q_tup (qa_cons (q_slice (qv 0) qp_none (qp_some (qv 3))) (qa_cons (qv 2) qa_nil))))))))
theorem ok_Round_init (Ad : Str → Addr) {fa : Addr} {fd : FuncData} (Fn : FunD K "__init__" "Round.__init__" (defArgs s_Round_init) (defBody s_Round_init) (defScope s_Round_init) [] [] fa fd) {k : Nat} {S_check_alphabet : DSp} {a_check_alphabet : Addr} {fd_check_alphabet : FuncData} {l_check_alphabet : Nat} (h_check_alphabet : l_check_alphabet ≤ k) (G_check_alphabet : FnG P w K mg base CX0 l_check_alphabet a_check_alphabet fd_check_alphabet ["alphabet"] (spD K false S_check_alphabet)) (m_check_alphabet : mg "check_alphabet" = some (.ref a_check_alphabet)) (k_check_alphabet : PySem.W.keepIn K (.ref a_check_alphabet) = true) (b_check_alphabet : Binds K fd_check_alphabet ["alphabet"] []) {S_check_text : DSp} {a_check_text : Addr} {fd_check_text : FuncData} {l_check_text : Nat} (h_check_text : l_check_text ≤ k) (G_check_text : FnG P w K mg base CX0 l_check_text a_check_text fd_check_text ["alphabet", "text"] (spD K false S_check_text)) (m_check_text : mg "check_text" = some (.ref a_check_text)) (k_check_text : PySem.W.keepIn K (.ref a_check_text) = true) (b_check_text : Binds K fd_check_text ["alphabet", "text"] []) {S_least_round : DSp} {a_least_round : Addr} {fd_least_round : FuncData} {l_least_round : Nat} (h_least_round : l_least_round ≤ k) (G_least_round : FnG P w K mg base CX0 l_least_round a_least_round fd_least_round ["head", "ring"] (spD K false S_least_round)) (m_least_round : mg "least_round" = some (.ref a_least_round)) (k_least_round : PySem.W.keepIn K (.ref a_least_round) = true) (b_least_round : Binds K fd_least_round ["head", "ring"] []) (hc_alphabet : ∀ C ∈ ([Ad "Round", Ad "Cut"] : List Addr), Cls K C ∧ NoAttr K C "alphabet") (hc_ring : ∀ C ∈ ([Ad "Round"] : List Addr), Cls K C ∧ NoAttr K C "ring") (hc_head : ∀ C ∈ ([Ad "Round"] : List Addr), Cls K C ∧ NoAttr K C "head") (hc_variety : ∀ C ∈ ([Ad "Round"] : List Addr), Cls K C ∧ NoAttr K C "variety") (m_len : mg "len" = none) {S : DSp} (len : ∀ ds Q, S ds Q → ds.length + 1 = (["self", "alphabet", "head", "ring"] : List Str).length) (rd : ∀ p ds Q, S ds Q → t_Round_init Ad S_check_alphabet S_check_text S_least_round { nx := fun env => meD (gs env 0) fun p' d => p' = p ∧ Q d, rt := fun _ => False } (initD (Ad "Round") p 4 ds)) :
  FnG P w K mg base CX0 (k + 1) fa fd ["self", "alphabet", "head", "ring"] (spI K (Ad "Round") S) := by
  refine FunD.okI Fn sc_Round_init len (by decide) _ (fun cdv A outer s H E hr => ?_) rd
  exact (qss_cons (qs_expr (q_call (fun _ => G_check_alphabet) (fun _ => hr.mono h_check_alphabet) (fun _ => m_check_alphabet) k_check_alphabet b_check_alphabet (qa_cons (qv 1) qa_nil)))
    (qss_cons (qs_expr (q_call (fun _ => G_check_text) (fun _ => hr.mono h_check_text) (fun _ => m_check_text) k_check_text b_check_text (qa_cons (qv 1) (qa_cons (qv 2) qa_nil))))
    (qss_cons (qs_expr (q_call (fun _ => G_check_text) (fun _ => hr.mono h_check_text) (fun _ => m_check_text) k_check_text b_check_text (qa_cons (qv 1) (qa_cons (qv 3) qa_nil))))
    (qss_cons (qs_if (qt_eq (fun _ => hr.toRoom) (qv 3) (q_str [])) (qss_one qs_never) qss_nil)
    (qss_cons (qs_fld (Cs := ([Ad "Round"] : List Addr)) 0 (hc_sub hc_alphabet (by simp)) (qv 1))
    (qss_cons (qs_asgH (q_call (fun _ => G_least_round) (fun _ => hr.mono h_least_round) (fun _ => m_least_round) k_least_round b_least_round (qa_cons (qv 2) (qa_cons (qv 3) qa_nil))) (qgh_tup (fun _ => rfl) (qghs_cons (qgh_fld (Cs := ([Ad "Round"] : List Addr)) 0 hc_head) (qghs_cons (qgh_fld (Cs := ([Ad "Round"] : List Addr)) 0 hc_ring) qghs_nil))))
    (qss_one (qs_fld (Cs := ([Ad "Round"] : List Addr)) 0 hc_variety (q_add (q_len (fun _ => m_len) (QE.qp (q_fld (Cs := ([Ad "Round"] : List Addr)) hc_head (qpv 0)))) (q_len (fun _ => m_len) (QE.qp (q_fld (Cs := ([Ad "Round"] : List Addr)) hc_ring (qpv 0)))))))))))))
theorem ok_Round_beginning (Ad : Str → Addr) {fa : Addr} {fd : FuncData} (Fn : FunD K "beginning" "Round.beginning" (defArgs s_Round_beginning) (defBody s_Round_beginning) (defScope s_Round_beginning) [] [] fa fd) {k : Nat} (hc_ring : ∀ C ∈ ([Ad "Round"] : List Addr), Cls K C ∧ NoAttr K C "ring") (hc_head : ∀ C ∈ ([Ad "Round"] : List Addr), Cls K C ∧ NoAttr K C "head") (m_len : mg "len" = none) {S : DSp} (len : ∀ ds Q, S ds Q → ds.length = (["self", "length"] : List Str).length) (rd : ∀ ds Q, S ds Q → t_Round_beginning Ad { nx := fun _ => false = false ∧ Q .non, rt := Q } (startD 3 ds)) :
  FnG P w K mg base CX0 (k + 1) fa fd ["self", "length"] (spD K false S) := by
  refine FunD.okD Fn sc_Round_beginning len _ (fun cdv A outer s H E hr => ?_) rd
  exact (qss_cons (qs_set 2 (fun _ => sc_Round_beginning.nd) (q_add (q_div (qv 1) (q_len (fun _ => m_len) (QE.qp (q_fld (Cs := ([Ad "Round"] : List Addr)) hc_ring (QE.qp (qv 0)))))) q_int))
    (qss_one (qs_ret (q_slice (q_add (q_fld (Cs := ([Ad "Round"] : List Addr)) hc_head (QE.qp (qv 0))) (q_mul (q_fld (Cs := ([Ad "Round"] : List Addr)) hc_ring (QE.qp (qv 0))) (qv 2))) qp_none (qp_some (qv 1))))))
theorem ok_word_count (Ad : Str → Addr) {fa : Addr} {fd : FuncData} (Fn : FunD K "word_count" "word_count" (defArgs s_word_count) (defBody s_word_count) (defScope s_word_count) [] [] fa fd) {k : Nat} {S_Round_beginning : DSp} {a_Round_beginning : Addr} {fd_Round_beginning : FuncData} {l_Round_beginning : Nat} (h_Round_beginning : l_Round_beginning ≤ k) (G_Round_beginning : FnG P w K mg base CX0 l_Round_beginning a_Round_beginning fd_Round_beginning ["self", "length"] (spD K false S_Round_beginning)) (c_Round : Cls K (Ad "Round")) (M_Round_beginning : Meth K (Ad "Round") "beginning" a_Round_beginning) (b_Round_beginning : Binds K fd_Round_beginning ["self", "length"] []) (hc_variety : ∀ C ∈ ([Ad "Round"] : List Addr), Cls K C ∧ NoAttr K C "variety") (m_range : mg "range" = none) (m_len : mg "len" = none) {S : DSp} (len : ∀ ds Q, S ds Q → ds.length = (["endless", "length"] : List Str).length) (rd : ∀ ds Q, S ds Q → t_word_count Ad S_Round_beginning { nx := fun _ => false = false ∧ Q .non, rt := Q } (startD 4 ds)) :
  FnG P w K mg base CX0 (k + 1) fa fd ["endless", "length"] (spD K false S) := by
  refine FunD.okD Fn sc_word_count len _ (fun cdv A outer s H E hr => ?_) rd
  exact (qss_cons (qs_if (qt_ge (qv 1) (q_fld (Cs := ([Ad "Round"] : List Addr)) hc_variety (QE.qp (qv 0)))) (qss_one (qs_ret (q_fld (Cs := ([Ad "Round"] : List Addr)) hc_variety (QE.qp (qv 0))))) qss_nil)
    (qss_cons (qs_set 2 (fun _ => sc_word_count.nd) (q_meth c_Round M_Round_beginning (fun _ => G_Round_beginning) (fun _ => hr.mono h_Round_beginning) b_Round_beginning (qv 0) (qa_cons (q_add (q_fld (Cs := ([Ad "Round"] : List Addr)) hc_variety (QE.qp (qv 0))) (qv 1)) qa_nil)))
    (qss_one (qs_ret (q_lenSet (ow := [("start", 3)]) (fun _ => m_len) ⟨_, _, fun _ => ⟨rfl, rfl⟩⟩ (fun _ => rfl) (fun _ => sc_word_count.nd) (qi_range1 (fun _ => m_range) (q_fld (Cs := ([Ad "Round"] : List Addr)) hc_variety (QE.qp (qv 0)))) (fun _ => blkOk_by (N := nm_word_count) (sc := defScope s_word_count) (by decide +kernel)) (qgc_name 3 (fun _ => sc_word_count.nd)) qts_nil (q_slice (qv 2) (qp_some (qv 3)) (qp_some (q_add (qv 3) (qv 1)))))))))
theorem ok_level_letters {fa : Addr} {fd : FuncData} (Fn : FunD K "level_letters" "level_letters" (defArgs s_level_letters) (defBody s_level_letters) (defScope s_level_letters) [] [] fa fd) {k : Nat}  {S : DSp} (len : ∀ ds Q, S ds Q → ds.length = (["variety", "levels"] : List Str).length) (rd : ∀ ds Q, S ds Q → t_level_letters { nx := fun _ => false = false ∧ Q .non, rt := Q } (startD 2 ds)) :
  FnG P w K mg base CX0 (k + 1) fa fd ["variety", "levels"] (spD K false S) := by
  refine FunD.okD Fn sc_level_letters len _ (fun cdv A outer s H E hr => ?_) rd
  exact (qss_one (qs_ret (q_mul (qv 0) (q_div (q_mul (qv 1) (q_sub (q_add (q_mul q_int (qv 0)) (qv 1)) q_int)) q_int))))
theorem ok_full_levels {fa : Addr} {fd : FuncData} (Fn : FunD K "full_levels" "full_levels" (defArgs s_full_levels) (defBody s_full_levels) (defScope s_full_levels) [] [] fa fd) {k : Nat} (m_isqrt : mg "isqrt" = some (.builtin "math.isqrt")) {S : DSp} (len : ∀ ds Q, S ds Q → ds.length = (["variety", "left"] : List Str).length) (rd : ∀ ds Q, S ds Q → t_full_levels { nx := fun _ => false = false ∧ Q .non, rt := Q } (startD 4 ds)) :
  FnG P w K mg base CX0 (k + 1) fa fd ["variety", "left"] (spD K false S) := by
  refine FunD.okD Fn sc_full_levels len _ (fun cdv A outer s H E hr => ?_) rd
  exact (qss_cons (qs_set 2 (fun _ => sc_full_levels.nd) (q_sub (q_mul q_int (qv 0)) q_int))
    (qss_cons (qs_set 3 (fun _ => sc_full_levels.nd) (q_div (q_mul q_int (qv 1)) (qv 0)))
    (qss_one (qs_ret (q_div (q_sub (q_isqrt (fun _ => m_isqrt) (q_add (q_mul (qv 2) (qv 2)) (q_mul q_int (qv 3)))) (qv 2)) q_int)))))
theorem ok_pieces_bound (Ad : Str → Addr) {fa : Addr} {fd : FuncData} (Fn : FunD K "pieces_bound" "pieces_bound" (defArgs s_pieces_bound) (defBody s_pieces_bound) (defScope s_pieces_bound) [] [] fa fd) {k : Nat} {S_word_count : DSp} {a_word_count : Addr} {fd_word_count : FuncData} {l_word_count : Nat} (h_word_count : l_word_count ≤ k) (G_word_count : FnG P w K mg base CX0 l_word_count a_word_count fd_word_count ["endless", "length"] (spD K false S_word_count)) (m_word_count : mg "word_count" = some (.ref a_word_count)) (k_word_count : PySem.W.keepIn K (.ref a_word_count) = true) (b_word_count : Binds K fd_word_count ["endless", "length"] []) {S_full_levels : DSp} {a_full_levels : Addr} {fd_full_levels : FuncData} {l_full_levels : Nat} (h_full_levels : l_full_levels ≤ k) (G_full_levels : FnG P w K mg base CX0 l_full_levels a_full_levels fd_full_levels ["variety", "left"] (spD K false S_full_levels)) (m_full_levels : mg "full_levels" = some (.ref a_full_levels)) (k_full_levels : PySem.W.keepIn K (.ref a_full_levels) = true) (b_full_levels : Binds K fd_full_levels ["variety", "left"] []) {S_level_letters : DSp} {a_level_letters : Addr} {fd_level_letters : FuncData} {l_level_letters : Nat} (h_level_letters : l_level_letters ≤ k) (G_level_letters : FnG P w K mg base CX0 l_level_letters a_level_letters fd_level_letters ["variety", "levels"] (spD K false S_level_letters)) (m_level_letters : mg "level_letters" = some (.ref a_level_letters)) (k_level_letters : PySem.W.keepIn K (.ref a_level_letters) = true) (b_level_letters : Binds K fd_level_letters ["variety", "levels"] []) (hc_variety : ∀ C ∈ ([Ad "Round"] : List Addr), Cls K C ∧ NoAttr K C "variety") (m_range : mg "range" = none) (m_min : mg "min" = none) {S : DSp} (len : ∀ ds Q, S ds Q → ds.length = (["endless", "length"] : List Str).length) (rd : ∀ ds Q, S ds Q → t_pieces_bound Ad S_word_count S_full_levels S_level_letters { nx := fun _ => false = false ∧ Q .non, rt := Q } (startD 7 ds)) :
  FnG P w K mg base CX0 (k + 1) fa fd ["endless", "length"] (spD K false S) := by
  refine FunD.okD Fn sc_pieces_bound len _ (fun cdv A outer s H E hr => ?_) rd
  exact (qss_cons (qs_set 2 (fun _ => sc_pieces_bound.nd) q_int)
    (qss_cons (qs_set 3 (fun _ => sc_pieces_bound.nd) (qv 1))
    (qss_cons (qs_for (fun _ => PassesOwn.never) (fun _ => rfl) (qi_range2 (fun _ => m_range) q_int (q_fld (Cs := ([Ad "Round"] : List Addr)) hc_variety (QE.qp (qv 0)))) (qg_name 4 (fun _ => sc_pieces_bound.nd)) (qss_cons (qs_set 6 (fun _ => sc_pieces_bound.nd) (q_min2 (fun _ => rfl) (fun _ => m_min) (q_call (fun _ => G_word_count) (fun _ => hr.mono h_word_count) (fun _ => m_word_count) k_word_count b_word_count (qa_cons (qv 0) (qa_cons (qv 4) qa_nil))) (q_div (qv 3) (qv 4))))
    (qss_cons (qs_set 2 (fun _ => sc_pieces_bound.nd) (q_add (qv 2) (qv 6)))
    (qss_one (qs_set 3 (fun _ => sc_pieces_bound.nd) (q_sub (qv 3) (q_mul (qv 6) (qv 4))))))))
    (qss_cons (qs_set 5 (fun _ => sc_pieces_bound.nd) (q_call (fun _ => G_full_levels) (fun _ => hr.mono h_full_levels) (fun _ => m_full_levels) k_full_levels b_full_levels (qa_cons (q_fld (Cs := ([Ad "Round"] : List Addr)) hc_variety (QE.qp (qv 0))) (qa_cons (qv 3) qa_nil))))
    (qss_cons (qs_set 3 (fun _ => sc_pieces_bound.nd) (q_sub (qv 3) (q_call (fun _ => G_level_letters) (fun _ => hr.mono h_level_letters) (fun _ => m_level_letters) k_level_letters b_level_letters (qa_cons (q_fld (Cs := ([Ad "Round"] : List Addr)) hc_variety (QE.qp (qv 0))) (qa_cons (qv 5) qa_nil)))))
    (qss_one (qs_ret (q_add (q_add (qv 2) (q_mul (qv 5) (q_fld (Cs := ([Ad "Round"] : List Addr)) hc_variety (QE.qp (qv 0))))) (q_div (qv 3) (q_add (q_fld (Cs := ([Ad "Round"] : List Addr)) hc_variety (QE.qp (qv 0))) (qv 5)))))))))))
theorem ok_is_good_row {fa : Addr} {fd : FuncData} (Fn : FunD K "is_good_row" "is_good_row" (defArgs s_is_good_row) (defBody s_is_good_row) (defScope s_is_good_row) [] [] fa fd) {k : Nat} {S_is_whole : DSp} {a_is_whole : Addr} {fd_is_whole : FuncData} {l_is_whole : Nat} (h_is_whole : l_is_whole ≤ k) (G_is_whole : FnG P w K mg base CX0 l_is_whole a_is_whole fd_is_whole ["value"] (spD K false S_is_whole)) (m_is_whole : mg "is_whole" = some (.ref a_is_whole)) (k_is_whole : PySem.W.keepIn K (.ref a_is_whole) = true) (b_is_whole : Binds K fd_is_whole ["value"] []) (m_isinstance : mg "isinstance" = none) (m_str : mg "str" = none) (m_len : mg "len" = none) {S : DSp} (len : ∀ ds Q, S ds Q → ds.length = (["alphabet", "row", "index"] : List Str).length) (rd : ∀ ds Q, S ds Q → t_is_good_row S_is_whole { nx := fun _ => false = false ∧ Q .non, rt := Q } (startD 5 ds)) :
  FnG P w K mg base CX0 (k + 1) fa fd ["alphabet", "row", "index"] (spD K false S) := by
  refine FunD.okD Fn sc_is_good_row len _ (fun cdv A outer s H E hr => ?_) rd
  exact (qss_cons (qs_asg (qv 1) (qg_tup (fun _ => rfl) (qgs_cons (qg_name 3 (fun _ => sc_is_good_row.nd)) (qgs_cons (qg_name 4 (fun _ => sc_is_good_row.nd)) qgs_nil))))
    (qss_cons (qs_if (QW.qt (qw_or (qt_not (qt_val (q_call (fun _ => G_is_whole) (fun _ => hr.mono h_is_whole) (fun _ => m_is_whole) k_is_whole b_is_whole (qa_cons (qv 3) qa_nil)))) (qw_or1 (qt_not (qt_chain (fun _ => op_le) (fun _ => op_le) cmpc_ord cmpc_ord q_int (qv 3) (qv 2)))))) (qss_one (qs_ret q_bl)) qss_nil)
    (qss_one (qs_ret (q_and (q_isi .str (fun _ => m_isinstance) (fun _ => m_str) (by decide +kernel) (qv 4)) (q_and (q_eq (fun _ => hr.toRoom) (q_len (fun _ => m_len) (QE.qp (qv 4))) q_int) (q_one (q_in (fun _ => hr.toRoom) (qv 4) (QE.qp (qv 0))))))))))
theorem ok_check_rows {fa : Addr} {fd : FuncData} (Fn : FunD K "check_rows" "check_rows" (defArgs s_check_rows) (defBody s_check_rows) (defScope s_check_rows) [] [] fa fd) {k : Nat} {S_is_good_row : DSp} {a_is_good_row : Addr} {fd_is_good_row : FuncData} {l_is_good_row : Nat} (h_is_good_row : l_is_good_row ≤ k) (G_is_good_row : FnG P w K mg base CX0 l_is_good_row a_is_good_row fd_is_good_row ["alphabet", "row", "index"] (spD K false S_is_good_row)) (m_is_good_row : mg "is_good_row" = some (.ref a_is_good_row)) (k_is_good_row : PySem.W.keepIn K (.ref a_is_good_row) = true) (b_is_good_row : Binds K fd_is_good_row ["alphabet", "row", "index"] []) (m_enumerate : mg "enumerate" = none) {S : DSp} (len : ∀ ds Q, S ds Q → ds.length = (["alphabet", "rows"] : List Str).length) (rd : ∀ ds Q, S ds Q → t_check_rows S_is_good_row { nx := fun _ => false = false ∧ Q .non, rt := Q } (startD 5 ds)) :
  FnG P w K mg base CX0 (k + 1) fa fd ["alphabet", "rows"] (spD K false S) := by
  refine FunD.okD Fn sc_check_rows len _ (fun cdv A outer s H E hr => ?_) rd
  exact (qss_cons (qs_setO 2 (fun _ => sc_check_rows.nd) qo_dnewT)
    (qss_one (qs_for (fun _ => PassesOwn.never) (fun _ => rfl) (qi_enum (fun _ => m_enumerate) (qv 1)) (qg_tup (fun _ => rfl) (qgs_cons (qg_name 3 (fun _ => sc_check_rows.nd)) (qgs_cons (qg_name 4 (fun _ => sc_check_rows.nd)) qgs_nil))) (qss_cons (qs_if (QW.qt (qw_or (qt_not (qt_val (q_call (fun _ => G_is_good_row) (fun _ => hr.mono h_is_good_row) (fun _ => m_is_good_row) k_is_good_row b_is_good_row (qa_cons (qv 0) (qa_cons (qv 4) (qa_cons (qv 3) qa_nil)))))) (qw_or1 (qt_din (fun _ => hr.toRoom) (qv 4) (qpv 2))))) (qss_one qs_never) qss_nil)
    (qss_one (qs_dput 2 (fun _ => hr.toRoom) q_bl (qv 4)))))))
theorem ok_texts_of_pieces {fa : Addr} {fd : FuncData} (Fn : FunD K "texts_of_pieces" "texts_of_pieces" (defArgs s_texts_of_pieces) (defBody s_texts_of_pieces) (defScope s_texts_of_pieces) [] [] fa fd) {k : Nat}  {S : DSp} (len : ∀ ds Q, S ds Q → ds.length = (["rows"] : List Str).length) (rd : ∀ ds Q, S ds Q → t_texts_of_pieces { nx := fun _ => false = false ∧ Q .non, rt := Q } (startD 4 ds)) :
  FnG P w K mg base CX0 (k + 1) fa fd ["rows"] (spD K false S) := by
  refine FunD.okD Fn sc_texts_of_pieces len _ (fun cdv A outer s H E hr => ?_) rd
  exact (qss_cons (qs_setO 1 (fun _ => sc_texts_of_pieces.nd) (qo_lst (qa_cons (q_str []) qa_nil)))
    (qss_cons (qs_for (fun _ => PassesOwn.never) (fun _ => rfl) (qi_seq (qv 0)) (qg_tup (fun _ => rfl) (qgs_cons (qg_name 2 (fun _ => sc_texts_of_pieces.nd)) (qgs_cons (qg_name 3 (fun _ => sc_texts_of_pieces.nd)) qgs_nil))) (qss_one (qs_expr (q_append 1 (q_add (q_ixv 1 (qv 2)) (qv 3))))))
    (qss_one (qs_ret (qv 1)))))
theorem ok_starts_of {fa : Addr} {fd : FuncData} (Fn : FunD K "starts_of" "starts_of" (defArgs s_starts_of) (defBody s_starts_of) (defScope s_starts_of) [] [] fa fd) {k : Nat} (m_len : mg "len" = none) {S : DSp} (len : ∀ ds Q, S ds Q → ds.length = (["texts"] : List Str).length) (rd : ∀ ds Q, S ds Q → t_starts_of { nx := fun _ => false = false ∧ Q .non, rt := Q } (startD 3 ds)) :
  FnG P w K mg base CX0 (k + 1) fa fd ["texts"] (spD K false S) := by
  refine FunD.okD Fn sc_starts_of len _ (fun cdv A outer s H E hr => ?_) rd
  exact (qss_cons (qs_setO 1 (fun _ => sc_starts_of.nd) (qo_lst (qa_cons q_int qa_nil)))
    (qss_cons (qs_for (fun _ => PassesOwn.never) (fun _ => rfl) (qi_seq (q_slice (qv 0) (qp_some q_int) qp_none)) (qg_name 2 (fun _ => sc_starts_of.nd)) (qss_one (qs_expr (q_append 1 (q_add (q_ixv 1 (q_neg q_int)) (q_len (fun _ => m_len) (QE.qp (qv 2))))))))
    (qss_one (qs_ret (qv 1)))))
theorem ok_Cut_init (Ad : Str → Addr) {fa : Addr} {fd : FuncData} (Fn : FunD K "__init__" "Cut.__init__" (defArgs s_Cut_init) (defBody s_Cut_init) (defScope s_Cut_init) [] [] fa fd) {k : Nat} {S_check_alphabet : DSp} {a_check_alphabet : Addr} {fd_check_alphabet : FuncData} {l_check_alphabet : Nat} (h_check_alphabet : l_check_alphabet ≤ k) (G_check_alphabet : FnG P w K mg base CX0 l_check_alphabet a_check_alphabet fd_check_alphabet ["alphabet"] (spD K false S_check_alphabet)) (m_check_alphabet : mg "check_alphabet" = some (.ref a_check_alphabet)) (k_check_alphabet : PySem.W.keepIn K (.ref a_check_alphabet) = true) (b_check_alphabet : Binds K fd_check_alphabet ["alphabet"] []) {S_frozen : DSp} {a_frozen : Addr} {fd_frozen : FuncData} {l_frozen : Nat} (h_frozen : l_frozen ≤ k) (G_frozen : FnG P w K mg base CX0 l_frozen a_frozen fd_frozen ["value"] (spD K false S_frozen)) (m_frozen : mg "frozen" = some (.ref a_frozen)) (k_frozen : PySem.W.keepIn K (.ref a_frozen) = true) (b_frozen : Binds K fd_frozen ["value"] []) {S_check_rows : DSp} {a_check_rows : Addr} {fd_check_rows : FuncData} {l_check_rows : Nat} (h_check_rows : l_check_rows ≤ k) (G_check_rows : FnG P w K mg base CX0 l_check_rows a_check_rows fd_check_rows ["alphabet", "rows"] (spD K false S_check_rows)) (m_check_rows : mg "check_rows" = some (.ref a_check_rows)) (k_check_rows : PySem.W.keepIn K (.ref a_check_rows) = true) (b_check_rows : Binds K fd_check_rows ["alphabet", "rows"] []) {S_is_whole : DSp} {a_is_whole : Addr} {fd_is_whole : FuncData} {l_is_whole : Nat} (h_is_whole : l_is_whole ≤ k) (G_is_whole : FnG P w K mg base CX0 l_is_whole a_is_whole fd_is_whole ["value"] (spD K false S_is_whole)) (m_is_whole : mg "is_whole" = some (.ref a_is_whole)) (k_is_whole : PySem.W.keepIn K (.ref a_is_whole) = true) (b_is_whole : Binds K fd_is_whole ["value"] []) {S_texts_of_pieces : DSp} {a_texts_of_pieces : Addr} {fd_texts_of_pieces : FuncData} {l_texts_of_pieces : Nat} (h_texts_of_pieces : l_texts_of_pieces ≤ k) (G_texts_of_pieces : FnG P w K mg base CX0 l_texts_of_pieces a_texts_of_pieces fd_texts_of_pieces ["rows"] (spD K false S_texts_of_pieces)) (m_texts_of_pieces : mg "texts_of_pieces" = some (.ref a_texts_of_pieces)) (k_texts_of_pieces : PySem.W.keepIn K (.ref a_texts_of_pieces) = true) (b_texts_of_pieces : Binds K fd_texts_of_pieces ["rows"] []) {S_starts_of : DSp} {a_starts_of : Addr} {fd_starts_of : FuncData} {l_starts_of : Nat} (h_starts_of : l_starts_of ≤ k) (G_starts_of : FnG P w K mg base CX0 l_starts_of a_starts_of fd_starts_of ["texts"] (spD K false S_starts_of)) (m_starts_of : mg "starts_of" = some (.ref a_starts_of)) (k_starts_of : PySem.W.keepIn K (.ref a_starts_of) = true) (b_starts_of : Binds K fd_starts_of ["texts"] []) (hc_alphabet : ∀ C ∈ ([Ad "Round", Ad "Cut"] : List Addr), Cls K C ∧ NoAttr K C "alphabet") (hc_rows : ∀ C ∈ ([Ad "Cut"] : List Addr), Cls K C ∧ NoAttr K C "rows") (hc_tail : ∀ C ∈ ([Ad "Cut"] : List Addr), Cls K C ∧ NoAttr K C "tail") (hc_many : ∀ C ∈ ([Ad "Cut"] : List Addr), Cls K C ∧ NoAttr K C "many") (hc_pieces : ∀ C ∈ ([Ad "Cut"] : List Addr), Cls K C ∧ NoAttr K C "pieces") (hc_text : ∀ C ∈ ([Ad "Cut"] : List Addr), Cls K C ∧ NoAttr K C "text") (hc_starts : ∀ C ∈ ([Ad "Cut"] : List Addr), Cls K C ∧ NoAttr K C "starts") (m_len : mg "len" = none) (m_tuple : mg "tuple" = none) {S : DSp} (len : ∀ ds Q, S ds Q → ds.length + 1 = (["self", "alphabet", "rows", "tail"] : List Str).length) (rd : ∀ p ds Q, S ds Q → t_Cut_init Ad S_check_alphabet S_frozen S_check_rows S_is_whole S_texts_of_pieces S_starts_of { nx := fun env => meD (gs env 0) fun p' d => p' = p ∧ Q d, rt := fun _ => False } (initD (Ad "Cut") p 4 ds)) :
  FnG P w K mg base CX0 (k + 1) fa fd ["self", "alphabet", "rows", "tail"] (spI K (Ad "Cut") S) := by
  refine FunD.okI Fn sc_Cut_init len (by decide) _ (fun cdv A outer s H E hr => ?_) rd
  exact (qss_cons (qs_expr (q_call (fun _ => G_check_alphabet) (fun _ => hr.mono h_check_alphabet) (fun _ => m_check_alphabet) k_check_alphabet b_check_alphabet (qa_cons (qv 1) qa_nil)))
    (qss_cons (qs_fld (Cs := ([Ad "Cut"] : List Addr)) 0 (hc_sub hc_alphabet (by simp)) (qv 1))
    (qss_cons (qs_fld (Cs := ([Ad "Cut"] : List Addr)) 0 hc_rows (q_call (fun _ => G_frozen) (fun _ => hr.mono h_frozen) (fun _ => m_frozen) k_frozen b_frozen (qa_cons (qv 2) qa_nil)))
    (qss_cons (qs_fld (Cs := ([Ad "Cut"] : List Addr)) 0 hc_tail (qv 3))
    (qss_cons (qs_expr (q_call (fun _ => G_check_rows) (fun _ => hr.mono h_check_rows) (fun _ => m_check_rows) k_check_rows b_check_rows (qa_cons (qv 1) (qa_cons (q_fld (Cs := ([Ad "Cut"] : List Addr)) hc_rows (qpv 0)) qa_nil))))
    (qss_cons (qs_fld (Cs := ([Ad "Cut"] : List Addr)) 0 hc_many (q_len (fun _ => m_len) (QE.qp (q_fld (Cs := ([Ad "Cut"] : List Addr)) hc_rows (qpv 0)))))
    (qss_cons (qs_if (QW.qt (qw_or (qt_not (qt_val (q_call (fun _ => G_is_whole) (fun _ => hr.mono h_is_whole) (fun _ => m_is_whole) k_is_whole b_is_whole (qa_cons (qv 3) qa_nil)))) (qw_or1 (qt_not (qt_chain (fun _ => op_le) (fun _ => op_le) cmpc_ord cmpc_ord q_int (qv 3) (q_fld (Cs := ([Ad "Cut"] : List Addr)) hc_many (qpv 0))))))) (qss_one qs_never) qss_nil)
    (qss_cons (qs_fld (Cs := ([Ad "Cut"] : List Addr)) 0 hc_pieces (q_tuplec (fun _ => m_tuple) (QE.qp (q_call (fun _ => G_texts_of_pieces) (fun _ => hr.mono h_texts_of_pieces) (fun _ => m_texts_of_pieces) k_texts_of_pieces b_texts_of_pieces (qa_cons (q_fld (Cs := ([Ad "Cut"] : List Addr)) hc_rows (qpv 0)) qa_nil)))))
    (qss_cons (qs_fld (Cs := ([Ad "Cut"] : List Addr)) 0 hc_text (q_add (q_join (q_str []) (QE.qp (q_fld (Cs := ([Ad "Cut"] : List Addr)) hc_pieces (qpv 0)))) (q_ix (q_fld (Cs := ([Ad "Cut"] : List Addr)) hc_pieces (qpv 0)) (qv 3))))
    (qss_one (qs_fld (Cs := ([Ad "Cut"] : List Addr)) 0 hc_starts (q_tuplec (fun _ => m_tuple) (QE.qp (q_call (fun _ => G_starts_of) (fun _ => hr.mono h_starts_of) (fun _ => m_starts_of) k_starts_of b_starts_of (qa_cons (q_fld (Cs := ([Ad "Cut"] : List Addr)) hc_pieces (qpv 0)) qa_nil)))))))))))))))
theorem ok_cut_of (Ad : Str → Addr) {fa : Addr} {fd : FuncData} (Fn : FunD K "cut_of" "cut_of" (defArgs s_cut_of) (defBody s_cut_of) (defScope s_cut_of) [] [] fa fd) {k : Nat} {S_check_both : DSp} {a_check_both : Addr} {fd_check_both : FuncData} {l_check_both : Nat} (h_check_both : l_check_both ≤ k) (G_check_both : FnG P w K mg base CX0 l_check_both a_check_both fd_check_both ["alphabet", "text"] (spD K false S_check_both)) (m_check_both : mg "check_both" = some (.ref a_check_both)) (k_check_both : PySem.W.keepIn K (.ref a_check_both) = true) (b_check_both : Binds K fd_check_both ["alphabet", "text"] []) {S_Cut : DSp} {a_Cut : Addr} {fd_Cut : FuncData} {l_Cut : Nat} (h_Cut : l_Cut + 1 ≤ k) (M_Cut : Mk K (Ad "Cut") a_Cut) (G_Cut : FnG P w K mg base CX0 l_Cut a_Cut fd_Cut ["self", "alphabet", "rows", "tail"] (spI K (Ad "Cut") S_Cut)) (m_Cut : mg "Cut" = some (.ref (Ad "Cut"))) (b_Cut : Binds K fd_Cut ["self", "alphabet", "rows", "tail"] []) (m_len : mg "len" = none) {S : DSp} (len : ∀ ds Q, S ds Q → ds.length = (["alphabet", "text"] : List Str).length) (rd : ∀ ds Q, S ds Q → t_cut_of S_check_both S_Cut { nx := fun _ => false = false ∧ Q .non, rt := Q } (startD 7 ds)) :
  FnG P w K mg base CX0 (k + 1) fa fd ["alphabet", "text"] (spD K false S) := by
  refine FunD.okD Fn sc_cut_of len _ (fun cdv A outer s H E hr => ?_) rd
  exact (qss_cons (qs_expr (q_call (fun _ => G_check_both) (fun _ => hr.mono h_check_both) (fun _ => m_check_both) k_check_both b_check_both (qa_cons (qv 0) (qa_cons (qv 1) qa_nil))))
    (qss_cons (qs_setO 2 (fun _ => sc_cut_of.nd) (qo_lst qa_nil))
    (qss_cons (qs_setO 3 (fun _ => sc_cut_of.nd) qo_dnewT)
    (qss_cons (qs_set 4 (fun _ => sc_cut_of.nd) q_int)
    (qss_cons (qs_for (fun _ => PassesOwn.never) (fun _ => rfl) (qi_seq (qv 1)) (qg_name 5 (fun _ => sc_cut_of.nd)) (qss_cons (qs_set 6 (fun _ => sc_cut_of.nd) (q_tup (qa_cons (qv 4) (qa_cons (qv 5) qa_nil))))
    (qss_one (qs_if (qt_din (fun _ => hr.toRoom) (qv 6) (qpv 3)) (qss_one (qs_set 4 (fun _ => sc_cut_of.nd) (q_dgetv 3 (fun _ => hr.toRoom) (qv 6)))) (qss_cons (qs_expr (q_append 2 (qv 6)))
    (qss_cons (qs_dput 3 (fun _ => hr.toRoom) (q_len (fun _ => m_len) (qpv 2)) (qv 6))
    (qss_one (qs_set 4 (fun _ => sc_cut_of.nd) q_int))))))))
    (qss_one (qs_ret (q_make M_Cut (fun _ => G_Cut) (fun _ => hr.mono h_Cut) (fun _ => m_Cut) b_Cut (qa_cons (qv 0) (qa_cons (qv 2) (qa_cons (qv 4) qa_nil)))))))))))
theorem ok__law_whole {fa : Addr} {fd : FuncData} (Fn : FunD K "_law_whole" "_law_whole" (defArgs s__law_whole) (defBody s__law_whole) (defScope s__law_whole) [] [] fa fd) {k : Nat} (m_isinstance : mg "isinstance" = none) (m_int : mg "int" = none) (m_bool : mg "bool" = none) {S : DSp} (len : ∀ ds Q, S ds Q → ds.length = (["value"] : List Str).length) (rd : ∀ ds Q, S ds Q → t__law_whole { nx := fun _ => false = false ∧ Q .non, rt := Q } (startD 1 ds)) :
  FnG P w K mg base CX0 (k + 1) fa fd ["value"] (spD K false S) := by
  refine FunD.okD Fn sc__law_whole len _ (fun cdv A outer s H E hr => ?_) rd
  exact (qss_one (qs_ret (q_and (q_isi .int (fun _ => m_isinstance) (fun _ => m_int) (by decide +kernel) (qv 0)) (q_one (q_not (q_isi .bool (fun _ => m_isinstance) (fun _ => m_bool) (by decide +kernel) (qv 0)))))))
theorem ok__law_cell {fa : Addr} {fd : FuncData} (Fn : FunD K "_law_cell" "_law_cell" (defArgs s__law_cell) (defBody s__law_cell) (defScope s__law_cell) [] [] fa fd) {k : Nat} (m_len : mg "len" = none) (m_int : mg "int" = none) {S : DSp} (len : ∀ ds Q, S ds Q → ds.length = (["script", "k"] : List Str).length) (rd : ∀ ds Q, S ds Q → t__law_cell { nx := fun _ => false = false ∧ Q .non, rt := Q } (startD 4 ds)) :
  FnG P w K mg base CX0 (k + 1) fa fd ["script", "k"] (spD K false S) := by
  refine FunD.okD Fn sc__law_cell len _ (fun cdv A outer s H E hr => ?_) rd
  exact (qss_cons (qs_if (qt_lt (qv 1) (q_len (fun _ => m_len) (QE.qp (qv 0)))) (qss_one (qs_ret (q_ix (qv 0) (qv 1)))) qss_nil)
    (qss_cons (qs_set 2 (fun _ => sc__law_cell.nd) q_int)
    (qss_cons (qs_for (fun _ => PassesOwn.never) (fun _ => rfl) (qi_seq (qv 0)) (qg_name 3 (fun _ => sc__law_cell.nd)) (qss_one (qs_set 2 (fun _ => sc__law_cell.nd) (q_mod (q_intc (fun _ => m_int) (QE.qp (q_add (q_mul (qv 2) q_int) (q_mod (q_intc (fun _ => m_int) (QE.qp (qv 3))) q_int)))) q_int))))
    (qss_one (qs_ret (q_mod (q_intc (fun _ => m_int) (QE.qp (q_mul (q_mul (q_add (qv 2) q_int) (q_add (qv 1) q_int)) q_int))) q_int))))))
theorem ok__law_digits {fa : Addr} {fd : FuncData} (Fn : FunD K "_law_digits" "_law_digits" (defArgs s__law_digits) (defBody s__law_digits) (defScope s__law_digits) [] [] fa fd) {k : Nat} (m_int : mg "int" = none) (m_len : mg "len" = none) (m_range : mg "range" = none) {S : DSp} (len : ∀ ds Q, S ds Q → ds.length = (["cell", "sizes"] : List Str).length) (rd : ∀ ds Q, S ds Q → t__law_digits { nx := fun _ => false = false ∧ Q .non, rt := Q } (startD 8 ds)) :
  FnG P w K mg base CX0 (k + 1) fa fd ["cell", "sizes"] (spD K false S) := by
  refine FunD.okD Fn sc__law_digits len _ (fun cdv A outer s H E hr => ?_) rd
  exact (qss_cons (qs_setO 2 (fun _ => sc__law_digits.nd) (qo_lst qa_nil))
    (qss_cons (qs_set 3 (fun _ => sc__law_digits.nd) (q_intc (fun _ => m_int) (QE.qp (qv 0))))
    (qss_cons (qs_if (qt_ge (qv 3) (q_pow q_int q_int)) (qss_cons (qs_set 3 (fun _ => sc__law_digits.nd) (q_sub (qv 3) (q_pow q_int q_int)))
    (qss_cons (qs_for (fun _ => PassesOwn.never) (fun _ => rfl) (qi_seq (qv 1)) (qg_name 6 (fun _ => sc__law_digits.nd)) (qss_cons (qs_expr (q_append 2 (q_mod (q_intc (fun _ => m_int) (QE.qp (qv 3))) (qv 6))))
    (qss_one (qs_set 3 (fun _ => sc__law_digits.nd) (q_div (q_intc (fun _ => m_int) (QE.qp (qv 3))) (qv 6))))))
    (qss_one (qs_ret (qv 2))))) qss_nil)
    (qss_cons (qs_set 4 (fun _ => sc__law_digits.nd) (q_mod (q_intc (fun _ => m_int) (QE.qp (qv 3))) q_int))
    (qss_cons (qs_for (fun _ => PassesOwn.never) (fun _ => rfl) (qi_range1 (fun _ => m_range) (q_len (fun _ => m_len) (QE.qp (qv 1)))) (qg_name 5 (fun _ => sc__law_digits.nd)) (qss_cons (qs_set 4 (fun _ => sc__law_digits.nd) (q_mod (q_intc (fun _ => m_int) (QE.qp (q_add (q_add (q_mul (qv 4) q_int) (q_mul q_int (qv 5))) q_int))) q_int))
    (qss_cons (qs_set 7 (fun _ => sc__law_digits.nd) (q_mod (q_intc (fun _ => m_int) (QE.qp (q_mul (qv 4) (q_add (q_div (qv 4) q_int) q_int)))) q_int))
    (qss_one (qs_expr (q_append 2 (q_mod (q_div (qv 7) q_int) (q_ix (qv 1) (qv 5)))))))))
    (qss_one (qs_ret (qv 2))))))))
theorem ok__law_alphabet {fa : Addr} {fd : FuncData} (Fn : FunD K "_law_alphabet" "_law_alphabet" (defArgs s__law_alphabet) (defBody s__law_alphabet) (defScope s__law_alphabet) [] [] fa fd) {k : Nat} (m_min : mg "min" = none) (m_range : mg "range" = none) (m_int : mg "int" = none) (m_sorted : mg "sorted" = none) {S : DSp} (len : ∀ ds Q, S ds Q → ds.length = (["row", "upto"] : List Str).length) (rd : ∀ ds Q, S ds Q → t__law_alphabet { nx := fun _ => false = false ∧ Q .non, rt := Q } (startD 8 ds)) :
  FnG P w K mg base CX0 (k + 1) fa fd ["row", "upto"] (spD K false S) := by
  refine FunD.okD Fn sc__law_alphabet len _ (fun cdv A outer s H E hr => ?_) rd
  exact (qss_cons (qs_set 2 (fun _ => sc__law_alphabet.nd) (q_min2 (fun _ => rfl) (fun _ => m_min) (qv 1) (q_ix (QO.qe (qo_lst (qa_cons q_int (qa_cons q_int (qa_cons q_int (qa_cons q_int (qa_cons q_int (qa_cons q_int (qa_cons q_int (qa_cons q_int (qa_cons q_int (qa_cons q_int (qa_cons q_int (qa_cons q_int qa_nil)))))))))))))) (q_ix (qv 0) q_int))))
    (qss_cons (qs_set 3 (fun _ => sc__law_alphabet.nd) (q_str [48, 49, 50, 51, 52, 53, 54, 55, 56, 57, 97, 98, 99, 100, 101, 102, 103, 104, 105, 106, 107, 108, 109, 110, 111, 112, 113, 114, 115, 116, 117, 118, 119, 120, 121, 122]))
    (qss_cons (qs_setO 4 (fun _ => sc__law_alphabet.nd) (qo_lst qa_nil))
    (qss_cons (qs_for (fun _ => PassesOwn.never) (fun _ => rfl) (qi_range1 (fun _ => m_range) (qv 2)) (qg_name 5 (fun _ => sc__law_alphabet.nd)) (qss_cons (qs_set 6 (fun _ => sc__law_alphabet.nd) (q_mod (q_intc (fun _ => m_int) (QE.qp (q_ix (qv 0) (q_add q_int (qv 5))))) q_int))
    (qss_cons (qs_for (fun _ => PassesOwn.never) (fun _ => rfl) (qi_range1 (fun _ => m_range) q_int) (qg_name 7 (fun _ => sc__law_alphabet.nd)) (qss_one (qs_if (qt_in (fun _ => hr.toRoom) (q_ix (qv 3) (qv 6)) (qpv 4)) (qss_one (qs_set 6 (fun _ => sc__law_alphabet.nd) (q_mod (q_intc (fun _ => m_int) (QE.qp (q_add (qv 6) q_int))) q_int))) qss_nil)))
    (qss_one (qs_expr (q_append 4 (q_ix (qv 3) (qv 6))))))))
    (qss_one (qs_ret (q_join (q_str []) (QE.qp (QO.qe (qo_sortedA (fun _ => m_sorted) (qpv 4)))))))))))
theorem ok__law_plain_text {fa : Addr} {fd : FuncData} (Fn : FunD K "_law_plain_text" "_law_plain_text" (defArgs s__law_plain_text) (defBody s__law_plain_text) (defScope s__law_plain_text) [] [] fa fd) {k : Nat} (m_range : mg "range" = none) (m_int : mg "int" = none) (m_len : mg "len" = none) {S : DSp} (len : ∀ ds Q, S ds Q → ds.length = (["alphabet", "row", "size"] : List Str).length) (rd : ∀ ds Q, S ds Q → t__law_plain_text { nx := fun _ => false = false ∧ Q .non, rt := Q } (startD 4 ds)) :
  FnG P w K mg base CX0 (k + 1) fa fd ["alphabet", "row", "size"] (spD K false S) := by
  refine FunD.okD Fn sc__law_plain_text len _ (fun cdv A outer s H E hr => ?_) rd
  exact (qss_one (qs_ret (q_join (q_str []) (QE.qp (QO.qe (qo_lc (ow := [("k", 3)]) (fun _ => rfl) (fun _ => sc__law_plain_text.nd) (qi_range1 (fun _ => m_range) (qv 2)) (fun _ => blkOk_by (N := nm__law_plain_text) (sc := defScope s__law_plain_text) (by decide +kernel)) (qgc_name 3 (fun _ => sc__law_plain_text.nd)) qts_nil (q_ix (qv 0) (q_mod (q_intc (fun _ => m_int) (QE.qp (q_ix (qv 1) (qv 3)))) (q_len (fun _ => m_len) (QE.qp (qv 0)))))))))))
theorem ok__law_writing {fa : Addr} {fd : FuncData} (Fn : FunD K "_law_writing" "_law_writing" (defArgs s__law_writing) (defBody s__law_writing) (defScope s__law_writing) [] [] fa fd) {k : Nat} {S__law_plain_text : DSp} {a__law_plain_text : Addr} {fd__law_plain_text : FuncData} {l__law_plain_text : Nat} (h__law_plain_text : l__law_plain_text ≤ k) (G__law_plain_text : FnG P w K mg base CX0 l__law_plain_text a__law_plain_text fd__law_plain_text ["alphabet", "row", "size"] (spD K false S__law_plain_text)) (m__law_plain_text : mg "_law_plain_text" = some (.ref a__law_plain_text)) (k__law_plain_text : PySem.W.keepIn K (.ref a__law_plain_text) = true) (b__law_plain_text : Binds K fd__law_plain_text ["alphabet", "row", "size"] []) (m_len : mg "len" = none) (m_min : mg "min" = none) (m_int : mg "int" = none) (m_max : mg "max" = none) {S : DSp} (len : ∀ ds Q, S ds Q → ds.length = (["alphabet", "row", "one", "two"] : List Str).length) (rd : ∀ ds Q, S ds Q → t__law_writing S__law_plain_text { nx := fun _ => false = false ∧ Q .non, rt := Q } (startD 14 ds)) :
  FnG P w K mg base CX0 (k + 1) fa fd ["alphabet", "row", "one", "two"] (spD K false S) := by
  refine FunD.okD Fn sc__law_writing len _ (fun cdv A outer s H E hr => ?_) rd
  exact (qss_cons (qs_set 4 (fun _ => sc__law_writing.nd) (q_call (fun _ => G__law_plain_text) (fun _ => hr.mono h__law_plain_text) (fun _ => m__law_plain_text) k__law_plain_text b__law_plain_text (qa_cons (qv 0) (qa_cons (qv 2) (qa_cons q_int qa_nil)))))
    (qss_cons (qs_set 5 (fun _ => sc__law_writing.nd) (q_call (fun _ => G__law_plain_text) (fun _ => hr.mono h__law_plain_text) (fun _ => m__law_plain_text) k__law_plain_text b__law_plain_text (qa_cons (qv 0) (qa_cons (qv 3) (qa_cons q_int qa_nil)))))
    (qss_cons (qs_set 6 (fun _ => sc__law_writing.nd) (q_ix (qv 1) q_int))
    (qss_cons (qs_set 7 (fun _ => sc__law_writing.nd) (q_slice (qv 4) qp_none (qp_some (q_ix (qv 1) q_int))))
    (qss_cons (qs_set 8 (fun _ => sc__law_writing.nd) (q_slice (qv 5) qp_none (qp_some (q_add q_int (q_ix (qv 1) q_int)))))
    (qss_cons (qs_set 9 (fun _ => sc__law_writing.nd) (q_mul (qv 8) (q_min2 (fun _ => rfl) (fun _ => m_min) (q_add q_int (q_ix (qv 1) q_int)) (q_div q_int (q_len (fun _ => m_len) (QE.qp (qv 8)))))))
    (qss_cons (qs_set 10 (fun _ => sc__law_writing.nd) (q_slice (q_mul (qv 8) q_int) (qp_some (q_sub (q_mul q_int (q_len (fun _ => m_len) (QE.qp (qv 8)))) (q_mod (q_intc (fun _ => m_int) (QE.qp (q_ix (qv 1) q_int))) q_int))) qp_none))
    (qss_cons (qs_set 11 (fun _ => sc__law_writing.nd) (q_ix (qv 0) (q_mod (q_intc (fun _ => m_int) (QE.qp (q_add (q_add (q_sindex (qv 0) (q_ix (qv 8) (q_neg q_int))) q_int) (q_ix (qv 1) q_int)))) (q_len (fun _ => m_len) (QE.qp (qv 0))))))
    (qss_cons (qs_set 12 (fun _ => sc__law_writing.nd) (q_slice (qv 5) qp_none (qp_some (q_add q_int (q_mod (q_intc (fun _ => m_int) (QE.qp (q_ix (qv 1) q_int))) q_int)))))
    (qss_cons (qs_if (qt_eq (fun _ => hr.toRoom) (qv 6) q_int) (qss_one (qs_ret (QO.qe (qo_lst (qa_cons (q_slice (qv 4) qp_none (qp_some (q_ix (qv 1) q_int))) (qa_cons (q_slice (qv 5) qp_none (qp_some (q_max2 (fun _ => rfl) (fun _ => m_max) q_int (q_ix (qv 1) q_int)))) qa_nil)))))) qss_nil)
    (qss_cons (qs_if (qt_lt (qv 6) q_int) (qss_one (qs_ret (QO.qe (qo_lst (qa_cons (qv 7) (qa_cons (qv 8) qa_nil)))))) qss_nil)
    (qss_cons (qs_if (qt_lt (qv 6) q_int) (qss_one (qs_ret (QO.qe (qo_lst (qa_cons (qv 7) (qa_cons (qv 9) qa_nil)))))) qss_nil)
    (qss_cons (qs_if (qt_lt (qv 6) q_int) (qss_one (qs_ret (QO.qe (qo_lst (qa_cons (q_add (qv 7) (qv 10)) (qa_cons (qv 9) qa_nil)))))) qss_nil)
    (qss_cons (qs_if (qt_eq (fun _ => hr.toRoom) (qv 6) q_int) (qss_one (qs_ret (QO.qe (qo_lst (qa_cons (q_slice (q_mul (qv 8) q_int) (qp_some (q_sub (q_mul q_int (q_len (fun _ => m_len) (QE.qp (qv 8)))) (q_ix (qv 1) q_int))) qp_none) (qa_cons (qv 9) qa_nil)))))) qss_nil)
    (qss_cons (qs_if (qt_eq (fun _ => hr.toRoom) (qv 6) q_int) (qss_one (qs_ret (QO.qe (qo_lst (qa_cons (q_add (qv 7) (qv 10)) (qa_cons (qv 8) qa_nil)))))) qss_nil)
    (qss_cons (qs_if (qt_eq (fun _ => hr.toRoom) (qv 6) q_int) (qss_one (qs_ret (QO.qe (qo_lst (qa_cons (q_add (qv 7) (qv 10)) (qa_cons (q_add (q_slice (qv 9) qp_none (qp_some (q_neg q_int))) (qv 11)) qa_nil)))))) qss_nil)
    (qss_cons (qs_if (qt_eq (fun _ => hr.toRoom) (qv 6) q_int) (qss_one (qs_ret (QO.qe (qo_lst (qa_cons (q_mul (q_ix (qv 8) q_int) (q_ix (qv 1) q_int)) (qa_cons (q_mul (q_ix (qv 8) q_int) (q_max2 (fun _ => rfl) (fun _ => m_max) q_int (q_ix (qv 1) q_int))) qa_nil)))))) qss_nil)
    (qss_cons (qs_if (qt_eq (fun _ => hr.toRoom) (qv 6) q_int) (qss_one (qs_ret (QO.qe (qo_lst (qa_cons (q_add (q_slice (qv 4) qp_none (qp_some (q_mod (q_intc (fun _ => m_int) (QE.qp (q_ix (qv 1) q_int))) q_int))) (q_slice (qv 12) (qp_some (q_mod (q_intc (fun _ => m_int) (QE.qp (q_ix (qv 1) q_int))) (q_len (fun _ => m_len) (QE.qp (qv 12))))) qp_none)) (qa_cons (q_add (qv 12) (qv 12)) qa_nil)))))) qss_nil)
    (qss_cons (qs_if (qt_eq (fun _ => hr.toRoom) (qv 6) q_int) (qss_cons (qs_set 13 (fun _ => sc__law_writing.nd) (q_mod (q_intc (fun _ => m_int) (QE.qp (q_ix (qv 1) q_int))) (q_len (fun _ => m_len) (QE.qp (qv 12)))))
    (qss_one (qs_ret (QO.qe (qo_lst (qa_cons (qv 7) (qa_cons (q_add (q_add (q_add (qv 12) (q_slice (qv 12) qp_none (qp_some (qv 13)))) (qv 11)) (q_slice (qv 12) (qp_some (q_add (qv 13) q_int)) qp_none)) qa_nil))))))) qss_nil)
    (qss_cons (qs_if (qt_eq (fun _ => hr.toRoom) (qv 6) q_int) (qss_one (qs_ret (QO.qe (qo_lst (qa_cons (q_str []) (qa_cons (qv 9) qa_nil)))))) qss_nil)
    (qss_one (qs_ret (QO.qe (qo_lst (qa_cons (q_add (q_add (qv 7) (qv 11)) (qv 10)) (qa_cons (qv 9) qa_nil))))))))))))))))))))))))))
theorem ok__law_form {fa : Addr} {fd : FuncData} (Fn : FunD K "_law_form" "_law_form" (defArgs s__law_form) (defBody s__law_form) (defScope s__law_form) [] [] fa fd) {k : Nat} (m_len : mg "len" = none) (m_range : mg "range" = none) {S : DSp} (len : ∀ ds Q, S ds Q → ds.length = (["head", "ring"] : List Str).length) (rd : ∀ ds Q, S ds Q → t__law_form { nx := fun _ => false = false ∧ Q .non, rt := Q } (startD 6 ds)) :
  FnG P w K mg base CX0 (k + 1) fa fd ["head", "ring"] (spD K false S) := by
  refine FunD.okD Fn sc__law_form len _ (fun cdv A outer s H E hr => ?_) rd
  exact (qss_cons (qs_set 2 (fun _ => sc__law_form.nd) (q_add (qv 0) (q_slice (q_mul (qv 1) q_int) qp_none (qp_some q_int))))
    (qss_cons (qs_set 3 (fun _ => sc__law_form.nd) (q_len (fun _ => m_len) (QE.qp (qv 1))))
    (qss_cons (qs_for (fun _ => PassesOwn.never) (fun _ => rfl) (qi_range2 (fun _ => m_range) q_int q_int) (qg_name 4 (fun _ => sc__law_form.nd)) (qss_one (qs_if (qt_eq (fun _ => hr.toRoom) (q_slice (qv 2) (qp_some (q_len (fun _ => m_len) (QE.qp (qv 0)))) (qp_some (q_add (q_len (fun _ => m_len) (QE.qp (qv 0))) q_int))) (q_slice (qv 2) (qp_some (q_add (q_len (fun _ => m_len) (QE.qp (qv 0))) (qv 4))) (qp_some (q_add (q_add (q_len (fun _ => m_len) (QE.qp (qv 0))) (qv 4)) q_int)))) (qss_cons (qs_set 3 (fun _ => sc__law_form.nd) (qv 4))
    (qss_one qs_break)) qss_nil)))
    (qss_cons (qs_set 5 (fun _ => sc__law_form.nd) (q_len (fun _ => m_len) (QE.qp (qv 0))))
    (qss_cons (qs_for (fun _ => PassesOwn.never) (fun _ => rfl) (qi_range1 (fun _ => m_range) (q_add (q_len (fun _ => m_len) (QE.qp (qv 0))) q_int)) (qg_name 4 (fun _ => sc__law_form.nd)) (qss_one (qs_if (qt_eq (fun _ => hr.toRoom) (q_slice (qv 2) (qp_some (qv 4)) (qp_some (q_add (q_len (fun _ => m_len) (QE.qp (qv 0))) q_int))) (q_slice (qv 2) (qp_some (q_add (qv 4) (qv 3))) (qp_some (q_add (q_add (q_len (fun _ => m_len) (QE.qp (qv 0))) q_int) (qv 3))))) (qss_cons (qs_set 5 (fun _ => sc__law_form.nd) (qv 4))
    (qss_one qs_break)) qss_nil)))
    (qss_one (qs_ret (QO.qe (qo_lst (qa_cons (q_slice (qv 2) qp_none (qp_some (qv 5))) (qa_cons (q_slice (qv 2) (qp_some (qv 5)) (qp_some (q_add (qv 5) (qv 3)))) qa_nil)))))))))))
theorem ok__law_giant {fa : Addr} {fd : FuncData} (Fn : FunD K "_law_giant" "_law_giant" (defArgs s__law_giant) (defBody s__law_giant) (defScope s__law_giant) [] [] fa fd) {k : Nat} (m_range : mg "range" = none) {S : DSp} (len : ∀ ds Q, S ds Q → ds.length = (["row"] : List Str).length) (rd : ∀ ds Q, S ds Q → t__law_giant { nx := fun _ => false = false ∧ Q .non, rt := Q } (startD 3 ds)) :
  FnG P w K mg base CX0 (k + 1) fa fd ["row"] (spD K false S) := by
  refine FunD.okD Fn sc__law_giant len _ (fun cdv A outer s H E hr => ?_) rd
  exact (qss_cons (qs_if (qt_eq (fun _ => hr.toRoom) (q_ix (qv 0) q_int) q_int) (qss_one (qs_ret (q_pow q_int q_int))) qss_nil)
    (qss_cons (qs_set 1 (fun _ => sc__law_giant.nd) q_int)
    (qss_cons (qs_for (fun _ => PassesOwn.never) (fun _ => rfl) (qi_range1 (fun _ => m_range) (q_ix (qv 0) q_int)) (qg_name 2 (fun _ => sc__law_giant.nd)) (qss_one (qs_set 1 (fun _ => sc__law_giant.nd) (q_add (q_mul (qv 1) q_int) (q_ix (qv 0) (q_add q_int (qv 2)))))))
    (qss_one (qs_ret (qv 1))))))
theorem ok__law_words {fa : Addr} {fd : FuncData} (Fn : FunD K "_law_words" "_law_words" (defArgs s__law_words) (defBody s__law_words) (defScope s__law_words) [] [] fa fd) {k : Nat} (m_len : mg "len" = none) (m_range : mg "range" = none) {S : DSp} (len : ∀ ds Q, S ds Q → ds.length = (["head", "ring", "span"] : List Str).length) (rd : ∀ ds Q, S ds Q → t__law_words { nx := fun _ => false = false ∧ Q .non, rt := Q } (startD 6 ds)) :
  FnG P w K mg base CX0 (k + 1) fa fd ["head", "ring", "span"] (spD K false S) := by
  refine FunD.okD Fn sc__law_words len _ (fun cdv A outer s H E hr => ?_) rd
  exact (qss_cons (qs_set 3 (fun _ => sc__law_words.nd) (q_add (qv 0) (q_mul (qv 1) (q_add (q_div (qv 2) (q_len (fun _ => m_len) (QE.qp (qv 1)))) q_int))))
    (qss_cons (qs_setO 4 (fun _ => sc__law_words.nd) qo_dnewK)
    (qss_cons (qs_for (fun _ => PassesOwn.never) (fun _ => rfl) (qi_range1 (fun _ => m_range) (q_add (q_len (fun _ => m_len) (QE.qp (qv 0))) (q_len (fun _ => m_len) (QE.qp (qv 1))))) (qg_name 5 (fun _ => sc__law_words.nd)) (qss_one (qs_dput 4 (fun _ => hr.toRoom) q_bl (q_slice (qv 3) (qp_some (qv 5)) (qp_some (q_add (qv 5) (qv 2)))))))
    (qss_one (qs_ret (q_lenK (fun _ => m_len) (qpv 4)))))))
theorem ok__law_beginning {fa : Addr} {fd : FuncData} (Fn : FunD K "_law_beginning" "_law_beginning" (defArgs s__law_beginning) (defBody s__law_beginning) (defScope s__law_beginning) [] [] fa fd) {k : Nat} (m_len : mg "len" = none) {S : DSp} (len : ∀ ds Q, S ds Q → ds.length = (["head", "ring", "span"] : List Str).length) (rd : ∀ ds Q, S ds Q → t__law_beginning { nx := fun _ => false = false ∧ Q .non, rt := Q } (startD 3 ds)) :
  FnG P w K mg base CX0 (k + 1) fa fd ["head", "ring", "span"] (spD K false S) := by
  refine FunD.okD Fn sc__law_beginning len _ (fun cdv A outer s H E hr => ?_) rd
  exact (qss_one (qs_ret (q_slice (q_add (qv 0) (q_mul (qv 1) (q_add (q_div (qv 2) (q_len (fun _ => m_len) (QE.qp (qv 1)))) q_int))) qp_none (qp_some (qv 2)))))
theorem ok__law_cut {fa : Addr} {fd : FuncData} (Fn : FunD K "_law_cut" "_law_cut" (defArgs s__law_cut) (defBody s__law_cut) (defScope s__law_cut) [] [] fa fd) {k : Nat} (m_len : mg "len" = none) (m_tuple : mg "tuple" = none) {S : DSp} (len : ∀ ds Q, S ds Q → ds.length = (["text"] : List Str).length) (rd : ∀ ds Q, S ds Q → t__law_cut { nx := fun _ => false = false ∧ Q .non, rt := Q } (startD 6 ds)) :
  FnG P w K mg base CX0 (k + 1) fa fd ["text"] (spD K false S) := by
  refine FunD.okD Fn sc__law_cut len _ (fun cdv A outer s H E hr => ?_) rd
  exact (qss_cons (qs_setO 1 (fun _ => sc__law_cut.nd) (qo_lst (qa_cons (q_str []) qa_nil)))
    (qss_cons (qs_setO 2 (fun _ => sc__law_cut.nd) (qo_disp (qps_cons (q_str []) q_int qps_nil)))
    (qss_cons (qs_setO 3 (fun _ => sc__law_cut.nd) (qo_lst qa_nil))
    (qss_cons (qs_set 4 (fun _ => sc__law_cut.nd) (q_str []))
    (qss_cons (qs_for (fun _ => PassesOwn.never) (fun _ => rfl) (qi_seq (qv 0)) (qg_name 5 (fun _ => sc__law_cut.nd)) (qss_one (qs_if (qt_din (fun _ => hr.toRoom) (q_add (qv 4) (qv 5)) (qpv 2)) (qss_one (qs_set 4 (fun _ => sc__law_cut.nd) (q_add (qv 4) (qv 5)))) (qss_cons (qs_expr (q_append 3 (q_tup (qa_cons (q_dgetv 2 (fun _ => hr.toRoom) (qv 4)) (qa_cons (qv 5) qa_nil)))))
    (qss_cons (qs_dput 2 (fun _ => hr.toRoom) (q_len (fun _ => m_len) (qpv 1)) (q_add (qv 4) (qv 5)))
    (qss_cons (qs_expr (q_append 1 (q_add (qv 4) (qv 5))))
    (qss_one (qs_set 4 (fun _ => sc__law_cut.nd) (q_str [])))))))))
    (qss_one (qs_ret (QO.qe (qo_lst (qa_cons (q_tuplec (fun _ => m_tuple) (qpv 3)) (qa_cons (q_dgetv 2 (fun _ => hr.toRoom) (qv 4)) (qa_cons (qv 1) qa_nil))))))))))))
theorem ok__law_least_letters {fa : Addr} {fd : FuncData} (Fn : FunD K "_law_least_letters" "_law_least_letters" (defArgs s__law_least_letters) (defBody s__law_least_letters) (defScope s__law_least_letters) [] [] fa fd) {k : Nat} (m_len : mg "len" = none) (m_range : mg "range" = none) (m_min : mg "min" = none) {S : DSp} (len : ∀ ds Q, S ds Q → ds.length = (["counts", "count"] : List Str).length) (rd : ∀ ds Q, S ds Q → t__law_least_letters { nx := fun _ => false = false ∧ Q .non, rt := Q } (startD 9 ds)) :
  FnG P w K mg base CX0 (k + 1) fa fd ["counts", "count"] (spD K false S) := by
  refine FunD.okD Fn sc__law_least_letters len _ (fun cdv A outer s H E hr => ?_) rd
  exact (qss_cons (qs_set 2 (fun _ => sc__law_least_letters.nd) q_int)
    (qss_cons (qs_set 3 (fun _ => sc__law_least_letters.nd) (qv 1))
    (qss_cons (qs_for (fun _ => PassesOwn.never) (fun _ => rfl) (qi_range1 (fun _ => m_range) (q_sub (q_len (fun _ => m_len) (QE.qp (qv 0))) q_int)) (qg_name 4 (fun _ => sc__law_least_letters.nd)) (qss_cons (qs_set 8 (fun _ => sc__law_least_letters.nd) (q_min2 (fun _ => rfl) (fun _ => m_min) (qv 3) (q_ix (qv 0) (qv 4))))
    (qss_cons (qs_set 2 (fun _ => sc__law_least_letters.nd) (q_add (qv 2) (q_mul (qv 8) (q_add (qv 4) q_int))))
    (qss_one (qs_set 3 (fun _ => sc__law_least_letters.nd) (q_sub (qv 3) (qv 8)))))))
    (qss_cons (qs_set 5 (fun _ => sc__law_least_letters.nd) (q_ix (qv 0) (q_neg q_int)))
    (qss_cons (qs_set 6 (fun _ => sc__law_least_letters.nd) (q_div (qv 3) (qv 5)))
    (qss_cons (qs_set 7 (fun _ => sc__law_least_letters.nd) (q_sub (qv 3) (q_mul (qv 6) (qv 5))))
    (qss_one (qs_ret (q_add (q_add (qv 2) (q_mul (qv 5) (q_add (q_mul (qv 6) (q_len (fun _ => m_len) (QE.qp (qv 0)))) (q_div (q_mul (qv 6) (q_sub (qv 6) q_int)) q_int)))) (q_mul (qv 7) (q_add (q_len (fun _ => m_len) (QE.qp (qv 0))) (qv 6))))))))))))
theorem ok__law_exact {fa : Addr} {fd : FuncData} (Fn : FunD K "_law_exact" "_law_exact" (defArgs s__law_exact) (defBody s__law_exact) (defScope s__law_exact) [] [] fa fd) {k : Nat} {S__law_whole : DSp} {a__law_whole : Addr} {fd__law_whole : FuncData} {l__law_whole : Nat} (h__law_whole : l__law_whole ≤ k) (G__law_whole : FnG P w K mg base CX0 l__law_whole a__law_whole fd__law_whole ["value"] (spD K false S__law_whole)) (m__law_whole : mg "_law_whole" = some (.ref a__law_whole)) (k__law_whole : PySem.W.keepIn K (.ref a__law_whole) = true) (b__law_whole : Binds K fd__law_whole ["value"] []) {S__law_least_letters : DSp} {a__law_least_letters : Addr} {fd__law_least_letters : FuncData} {l__law_least_letters : Nat} (h__law_least_letters : l__law_least_letters ≤ k) (G__law_least_letters : FnG P w K mg base CX0 l__law_least_letters a__law_least_letters fd__law_least_letters ["counts", "count"] (spD K false S__law_least_letters)) (m__law_least_letters : mg "_law_least_letters" = some (.ref a__law_least_letters)) (k__law_least_letters : PySem.W.keepIn K (.ref a__law_least_letters) = true) (b__law_least_letters : Binds K fd__law_least_letters ["counts", "count"] []) {S : DSp} (len : ∀ ds Q, S ds Q → ds.length = (["counts", "told", "span"] : List Str).length) (rd : ∀ ds Q, S ds Q → t__law_exact S__law_whole S__law_least_letters { nx := fun _ => false = false ∧ Q .non, rt := Q } (startD 3 ds)) :
  FnG P w K mg base CX0 (k + 1) fa fd ["counts", "told", "span"] (spD K false S) := by
  refine FunD.okD Fn sc__law_exact len _ (fun cdv A outer s H E hr => ?_) rd
  exact (qss_cons (qs_if (QW.qt (qw_or (qt_not (qt_val (q_call (fun _ => G__law_whole) (fun _ => hr.mono h__law_whole) (fun _ => m__law_whole) k__law_whole b__law_whole (qa_cons (qv 1) qa_nil)))) (qw_or (qt_lt (qv 1) q_int) (qw_or1 (qt_gt (q_mul (qv 1) (qv 1)) (q_mul (q_mul q_int (qv 2)) (q_ix (qv 0) (q_neg q_int)))))))) (qss_one (qs_ret q_bl)) qss_nil)
    (qss_one (qs_ret (q_chain (fun _ => op_le) (fun _ => op_lt) cmpc_ord cmpc_ord (q_call (fun _ => G__law_least_letters) (fun _ => hr.mono h__law_least_letters) (fun _ => m__law_least_letters) k__law_least_letters b__law_least_letters (qa_cons (qv 0) (qa_cons (qv 1) qa_nil))) (qv 2) (q_call (fun _ => G__law_least_letters) (fun _ => hr.mono h__law_least_letters) (fun _ => m__law_least_letters) k__law_least_letters b__law_least_letters (qa_cons (qv 0) (qa_cons (q_add (qv 1) q_int) qa_nil)))))))
theorem ok__law_pieces_within (Ad : Str → Addr) {fa : Addr} {fd : FuncData} (Fn : FunD K "_law_pieces_within" "_law_pieces_within" (defArgs s__law_pieces_within) (defBody s__law_pieces_within) (defScope s__law_pieces_within) [] [] fa fd) {k : Nat} {S_Round_beginning : DSp} {a_Round_beginning : Addr} {fd_Round_beginning : FuncData} {l_Round_beginning : Nat} (h_Round_beginning : l_Round_beginning ≤ k) (G_Round_beginning : FnG P w K mg base CX0 l_Round_beginning a_Round_beginning fd_Round_beginning ["self", "length"] (spD K false S_Round_beginning)) (c_Round : Cls K (Ad "Round")) (M_Round_beginning : Meth K (Ad "Round") "beginning" a_Round_beginning) (b_Round_beginning : Binds K fd_Round_beginning ["self", "length"] []) {S__law_beginning : DSp} {a__law_beginning : Addr} {fd__law_beginning : FuncData} {l__law_beginning : Nat} (h__law_beginning : l__law_beginning ≤ k) (G__law_beginning : FnG P w K mg base CX0 l__law_beginning a__law_beginning fd__law_beginning ["head", "ring", "span"] (spD K false S__law_beginning)) (m__law_beginning : mg "_law_beginning" = some (.ref a__law_beginning)) (k__law_beginning : PySem.W.keepIn K (.ref a__law_beginning) = true) (b__law_beginning : Binds K fd__law_beginning ["head", "ring", "span"] []) {S_cut_of : DSp} {a_cut_of : Addr} {fd_cut_of : FuncData} {l_cut_of : Nat} (h_cut_of : l_cut_of ≤ k) (G_cut_of : FnG P w K mg base CX0 l_cut_of a_cut_of fd_cut_of ["alphabet", "text"] (spD K false S_cut_of)) (m_cut_of : mg "cut_of" = some (.ref a_cut_of)) (k_cut_of : PySem.W.keepIn K (.ref a_cut_of) = true) (b_cut_of : Binds K fd_cut_of ["alphabet", "text"] []) {S__law_cut : DSp} {a__law_cut : Addr} {fd__law_cut : FuncData} {l__law_cut : Nat} (h__law_cut : l__law_cut ≤ k) (G__law_cut : FnG P w K mg base CX0 l__law_cut a__law_cut fd__law_cut ["text"] (spD K false S__law_cut)) (m__law_cut : mg "_law_cut" = some (.ref a__law_cut)) (k__law_cut : PySem.W.keepIn K (.ref a__law_cut) = true) (b__law_cut : Binds K fd__law_cut ["text"] []) {S__law_whole : DSp} {a__law_whole : Addr} {fd__law_whole : FuncData} {l__law_whole : Nat} (h__law_whole : l__law_whole ≤ k) (G__law_whole : FnG P w K mg base CX0 l__law_whole a__law_whole fd__law_whole ["value"] (spD K false S__law_whole)) (m__law_whole : mg "_law_whole" = some (.ref a__law_whole)) (k__law_whole : PySem.W.keepIn K (.ref a__law_whole) = true) (b__law_whole : Binds K fd__law_whole ["value"] []) (hc_rows : ∀ C ∈ ([Ad "Cut"] : List Addr), Cls K C ∧ NoAttr K C "rows") (hc_tail : ∀ C ∈ ([Ad "Cut"] : List Addr), Cls K C ∧ NoAttr K C "tail") (hc_pieces : ∀ C ∈ ([Ad "Cut"] : List Addr), Cls K C ∧ NoAttr K C "pieces") (hc_many : ∀ C ∈ ([Ad "Cut"] : List Addr), Cls K C ∧ NoAttr K C "many") (m_tuple : mg "tuple" = none) (m_len : mg "len" = none) {S : DSp} (len : ∀ ds Q, S ds Q → ds.length = (["alphabet", "world", "made", "span", "told"] : List Str).length) (rd : ∀ ds Q, S ds Q → t__law_pieces_within Ad S_Round_beginning S__law_beginning S_cut_of S__law_cut S__law_whole { nx := fun _ => false = false ∧ Q .non, rt := Q } (startD 8 ds)) :
  FnG P w K mg base CX0 (k + 1) fa fd ["alphabet", "world", "made", "span", "told"] (spD K false S) := by
  refine FunD.okD Fn sc__law_pieces_within len _ (fun cdv A outer s H E hr => ?_) rd
  exact (qss_cons (qs_set 5 (fun _ => sc__law_pieces_within.nd) (q_meth c_Round M_Round_beginning (fun _ => G_Round_beginning) (fun _ => hr.mono h_Round_beginning) b_Round_beginning (qv 1) (qa_cons (qv 3) qa_nil)))
    (qss_cons (qs_if (qt_ne (fun _ => hr.toRoom) (qv 5) (q_call (fun _ => G__law_beginning) (fun _ => hr.mono h__law_beginning) (fun _ => m__law_beginning) k__law_beginning b__law_beginning (qa_cons (q_ix (qv 2) q_int) (qa_cons (q_ix (qv 2) q_int) (qa_cons (qv 3) qa_nil))))) (qss_one (qs_ret q_bl)) qss_nil)
    (qss_cons (qs_set 6 (fun _ => sc__law_pieces_within.nd) (q_call (fun _ => G_cut_of) (fun _ => hr.mono h_cut_of) (fun _ => m_cut_of) k_cut_of b_cut_of (qa_cons (qv 0) (qa_cons (qv 5) qa_nil))))
    (qss_cons (qs_set 7 (fun _ => sc__law_pieces_within.nd) (q_call (fun _ => G__law_cut) (fun _ => hr.mono h__law_cut) (fun _ => m__law_cut) k__law_cut b__law_cut (qa_cons (qv 5) qa_nil)))
    (qss_cons (qs_if (QW.qt (qw_or (qt_ne (fun _ => hr.toRoom) (q_fld (Cs := ([Ad "Cut"] : List Addr)) hc_rows (QE.qp (qv 6))) (q_ix (qv 7) q_int)) (qw_or (qt_ne (fun _ => hr.toRoom) (q_fld (Cs := ([Ad "Cut"] : List Addr)) hc_tail (QE.qp (qv 6))) (q_ix (qv 7) q_int)) (qw_or (qt_ne (fun _ => hr.toRoom) (q_fld (Cs := ([Ad "Cut"] : List Addr)) hc_pieces (QE.qp (qv 6))) (q_tuplec (fun _ => m_tuple) (QE.qp (q_ix (qv 7) q_int)))) (qw_or1 (qt_not (qt_val (q_call (fun _ => G__law_whole) (fun _ => hr.mono h__law_whole) (fun _ => m__law_whole) k__law_whole b__law_whole (qa_cons (q_fld (Cs := ([Ad "Cut"] : List Addr)) hc_many (QE.qp (qv 6))) qa_nil))))))))) (qss_one (qs_ret q_bl)) qss_nil)
    (qss_one (qs_ret (q_and (q_eq (fun _ => hr.toRoom) (q_fld (Cs := ([Ad "Cut"] : List Addr)) hc_many (QE.qp (qv 6))) (q_len (fun _ => m_len) (QE.qp (q_ix (qv 7) q_int)))) (q_one (q_le (q_len (fun _ => m_len) (QE.qp (q_ix (qv 7) q_int))) (qv 4)))))))))))
theorem ok__law_counting_text {fa : Addr} {fd : FuncData} (Fn : FunD K "_law_counting_text" "_law_counting_text" (defArgs s__law_counting_text) (defBody s__law_counting_text) (defScope s__law_counting_text) [] [] fa fd) {k : Nat} (m_range : mg "range" = none) (m_len : mg "len" = none) (m_list : mg "list" = none) {S : DSp} (len : ∀ ds Q, S ds Q → ds.length = (["alphabet", "size"] : List Str).length) (rd : ∀ ds Q, S ds Q → t__law_counting_text { nx := fun _ => false = false ∧ Q .non, rt := Q } (startD 8 ds)) :
  FnG P w K mg base CX0 (k + 1) fa fd ["alphabet", "size"] (spD K false S) := by
  refine FunD.okD Fn sc__law_counting_text len _ (fun cdv A outer s H E hr => ?_) rd
  exact (qss_cons (qs_set 2 (fun _ => sc__law_counting_text.nd) (q_str []))
    (qss_cons (qs_set 3 (fun _ => sc__law_counting_text.nd) (QO.qe (qo_lst (qa_cons (q_str []) qa_nil))))
    (qss_cons (qs_for (fun _ => PassesOwn.never) (fun _ => rfl) (qi_range1 (fun _ => m_range) q_int) (qg_name 4 (fun _ => sc__law_counting_text.nd)) (qss_cons (qs_if (qt_ge (q_len (fun _ => m_len) (QE.qp (qv 2))) (qv 1)) (qss_one qs_break) qss_nil)
    (qss_cons (qs_set 5 (fun _ => sc__law_counting_text.nd) (QO.qe (qo_lst qa_nil)))
    (qss_cons (qs_for (fun _ => PassesOwn.never) (fun _ => rfl) (qi_seq (qv 3)) (qg_name 6 (fun _ => sc__law_counting_text.nd)) (qss_one (qs_if (qt_lt (q_add (q_len (fun _ => m_len) (QE.qp (qv 2))) (q_mul (q_len (fun _ => m_len) (QE.qp (qv 5))) (q_add (q_len (fun _ => m_len) (QE.qp (qv 6))) q_int))) (q_add (qv 1) (q_mul q_int (q_add (q_len (fun _ => m_len) (QE.qp (qv 6))) q_int)))) (qss_one (qs_set 5 (fun _ => sc__law_counting_text.nd) (q_add (qv 5) (QO.qe (qo_lc (ow := [("letter", 7)]) (fun _ => rfl) (fun _ => sc__law_counting_text.nd) (qi_seq (qv 0)) (fun _ => blkOk_by (N := nm__law_counting_text) (sc := defScope s__law_counting_text) (by decide +kernel)) (qgc_name 7 (fun _ => sc__law_counting_text.nd)) qts_nil (q_add (qv 6) (qv 7))))))) qss_nil)))
    (qss_cons (qs_set 2 (fun _ => sc__law_counting_text.nd) (q_add (qv 2) (q_join (q_str []) (QE.qp (qv 5)))))
    (qss_one (qs_set 3 (fun _ => sc__law_counting_text.nd) (QO.qe (qo_list (fun _ => m_list) (QE.qp (qv 5)))))))))))
    (qss_one (qs_ret (q_slice (qv 2) qp_none (qp_some (qv 1))))))))
theorem ok__law_long_right (Ad : Str → Addr) {fa : Addr} {fd : FuncData} (Fn : FunD K "_law_long_right" "_law_long_right" (defArgs s__law_long_right) (defBody s__law_long_right) (defScope s__law_long_right) [] [] fa fd) {k : Nat} {S_cut_of : DSp} {a_cut_of : Addr} {fd_cut_of : FuncData} {l_cut_of : Nat} (h_cut_of : l_cut_of ≤ k) (G_cut_of : FnG P w K mg base CX0 l_cut_of a_cut_of fd_cut_of ["alphabet", "text"] (spD K false S_cut_of)) (m_cut_of : mg "cut_of" = some (.ref a_cut_of)) (k_cut_of : PySem.W.keepIn K (.ref a_cut_of) = true) (b_cut_of : Binds K fd_cut_of ["alphabet", "text"] []) {S__law_counting_text : DSp} {a__law_counting_text : Addr} {fd__law_counting_text : FuncData} {l__law_counting_text : Nat} (h__law_counting_text : l__law_counting_text ≤ k) (G__law_counting_text : FnG P w K mg base CX0 l__law_counting_text a__law_counting_text fd__law_counting_text ["alphabet", "size"] (spD K false S__law_counting_text)) (m__law_counting_text : mg "_law_counting_text" = some (.ref a__law_counting_text)) (k__law_counting_text : PySem.W.keepIn K (.ref a__law_counting_text) = true) (b__law_counting_text : Binds K fd__law_counting_text ["alphabet", "size"] []) {S__law_form : DSp} {a__law_form : Addr} {fd__law_form : FuncData} {l__law_form : Nat} (h__law_form : l__law_form ≤ k) (G__law_form : FnG P w K mg base CX0 l__law_form a__law_form fd__law_form ["head", "ring"] (spD K false S__law_form)) (m__law_form : mg "_law_form" = some (.ref a__law_form)) (k__law_form : PySem.W.keepIn K (.ref a__law_form) = true) (b__law_form : Binds K fd__law_form ["head", "ring"] []) {S__law_words : DSp} {a__law_words : Addr} {fd__law_words : FuncData} {l__law_words : Nat} (h__law_words : l__law_words ≤ k) (G__law_words : FnG P w K mg base CX0 l__law_words a__law_words fd__law_words ["head", "ring", "span"] (spD K false S__law_words)) (m__law_words : mg "_law_words" = some (.ref a__law_words)) (k__law_words : PySem.W.keepIn K (.ref a__law_words) = true) (b__law_words : Binds K fd__law_words ["head", "ring", "span"] []) {S__law_exact : DSp} {a__law_exact : Addr} {fd__law_exact : FuncData} {l__law_exact : Nat} (h__law_exact : l__law_exact ≤ k) (G__law_exact : FnG P w K mg base CX0 l__law_exact a__law_exact fd__law_exact ["counts", "told", "span"] (spD K false S__law_exact)) (m__law_exact : mg "_law_exact" = some (.ref a__law_exact)) (k__law_exact : PySem.W.keepIn K (.ref a__law_exact) = true) (b__law_exact : Binds K fd__law_exact ["counts", "told", "span"] []) {S_pieces_bound : DSp} {a_pieces_bound : Addr} {fd_pieces_bound : FuncData} {l_pieces_bound : Nat} (h_pieces_bound : l_pieces_bound ≤ k) (G_pieces_bound : FnG P w K mg base CX0 l_pieces_bound a_pieces_bound fd_pieces_bound ["endless", "length"] (spD K false S_pieces_bound)) (m_pieces_bound : mg "pieces_bound" = some (.ref a_pieces_bound)) (k_pieces_bound : PySem.W.keepIn K (.ref a_pieces_bound) = true) (b_pieces_bound : Binds K fd_pieces_bound ["endless", "length"] []) {S_Round : DSp} {a_Round : Addr} {fd_Round : FuncData} {l_Round : Nat} (h_Round : l_Round + 1 ≤ k) (M_Round : Mk K (Ad "Round") a_Round) (G_Round : FnG P w K mg base CX0 l_Round a_Round fd_Round ["self", "alphabet", "head", "ring"] (spI K (Ad "Round") S_Round)) (m_Round : mg "Round" = some (.ref (Ad "Round"))) (b_Round : Binds K fd_Round ["self", "alphabet", "head", "ring"] []) (hc_text : ∀ C ∈ ([Ad "Cut"] : List Addr), Cls K C ∧ NoAttr K C "text") (m_len : mg "len" = none) (m_range : mg "range" = none) {S : DSp} (len : ∀ ds Q, S ds Q → ds.length = (["alphabet", "made", "row", "lengths"] : List Str).length) (rd : ∀ ds Q, S ds Q → t__law_long_right Ad S_cut_of S__law_counting_text S__law_form S__law_words S__law_exact S_pieces_bound S_Round { nx := fun _ => false = false ∧ Q .non, rt := Q } (startD 10 ds)) :
  FnG P w K mg base CX0 (k + 1) fa fd ["alphabet", "made", "row", "lengths"] (spD K false S) := by
  refine FunD.okD Fn sc__law_long_right len _ (fun cdv A outer s H E hr => ?_) rd
  exact (qss_cons (qs_if (qt_gt (q_ix (qv 2) q_int) q_int) (qss_one (qs_ret q_bl)) qss_nil)
    (qss_cons (qs_set 4 (fun _ => sc__law_long_right.nd) (q_fld (Cs := ([Ad "Cut"] : List Addr)) hc_text (QE.qp (q_call (fun _ => G_cut_of) (fun _ => hr.mono h_cut_of) (fun _ => m_cut_of) k_cut_of b_cut_of (qa_cons (qv 0) (qa_cons (q_call (fun _ => G__law_counting_text) (fun _ => hr.mono h__law_counting_text) (fun _ => m__law_counting_text) k__law_counting_text b__law_counting_text (qa_cons (qv 0) (qa_cons (q_ix (qv 2) q_int) qa_nil))) qa_nil))))))
    (qss_cons (qs_if (qt_ne (fun _ => hr.toRoom) (qv 4) (q_call (fun _ => G__law_counting_text) (fun _ => hr.mono h__law_counting_text) (fun _ => m__law_counting_text) k__law_counting_text b__law_counting_text (qa_cons (qv 0) (qa_cons (q_ix (qv 2) q_int) qa_nil)))) (qss_one (qs_ret q_bl)) qss_nil)
    (qss_cons (qs_set 5 (fun _ => sc__law_long_right.nd) (q_call (fun _ => G__law_form) (fun _ => hr.mono h__law_form) (fun _ => m__law_form) k__law_form b__law_form (qa_cons (qv 4) (qa_cons (q_ix (qv 1) q_int) qa_nil))))
    (qss_cons (qs_setLc 6 (ow := [("k", 9)]) (fun _ => rfl) (fun _ => sc__law_long_right.nd) (qi_range1 (fun _ => m_range) (q_add (q_len (fun _ => m_len) (QE.qp (q_ix (qv 5) q_int))) (q_len (fun _ => m_len) (QE.qp (q_ix (qv 5) q_int))))) (fun _ => blkOk_by (N := nm__law_long_right) (sc := defScope s__law_long_right) (by decide +kernel)) (qgc_name 9 (fun _ => sc__law_long_right.nd)) qts_nil (q_call (fun _ => G__law_words) (fun _ => hr.mono h__law_words) (fun _ => m__law_words) k__law_words b__law_words (qa_cons (q_ix (qv 5) q_int) (qa_cons (q_ix (qv 5) q_int) (qa_cons (q_add (qv 9) q_int) qa_nil)))))
    (qss_cons (qs_set 7 (fun _ => sc__law_long_right.nd) (q_make M_Round (fun _ => G_Round) (fun _ => hr.mono h_Round) (fun _ => m_Round) b_Round (qa_cons (qv 0) (qa_cons (qv 4) (qa_cons (q_ix (qv 1) q_int) qa_nil)))))
    (qss_cons (qs_for (fun _ => PassesOwn.never) (fun _ => rfl) (qi_seq (qv 3)) (qg_name 8 (fun _ => sc__law_long_right.nd)) (qss_one (qs_if (qt_not (qt_val (q_call (fun _ => G__law_exact) (fun _ => hr.mono h__law_exact) (fun _ => m__law_exact) k__law_exact b__law_exact (qa_cons (qv 6) (qa_cons (q_call (fun _ => G_pieces_bound) (fun _ => hr.mono h_pieces_bound) (fun _ => m_pieces_bound) k_pieces_bound b_pieces_bound (qa_cons (qv 7) (qa_cons (qv 8) qa_nil))) (qa_cons (qv 8) qa_nil)))))) (qss_one (qs_ret q_bl)) qss_nil)))
    (qss_one (qs_ret q_bl)))))))))
theorem ok_law (Ad : Str → Addr) {fa : Addr} {fd : FuncData} (Fn : FunD K "law" "law" (defArgs s_law) (defBody s_law) (defScope s_law) [] [] fa fd) {k : Nat} {S__law_alphabet : DSp} {a__law_alphabet : Addr} {fd__law_alphabet : FuncData} {l__law_alphabet : Nat} (h__law_alphabet : l__law_alphabet ≤ k) (G__law_alphabet : FnG P w K mg base CX0 l__law_alphabet a__law_alphabet fd__law_alphabet ["row", "upto"] (spD K false S__law_alphabet)) (m__law_alphabet : mg "_law_alphabet" = some (.ref a__law_alphabet)) (k__law_alphabet : PySem.W.keepIn K (.ref a__law_alphabet) = true) (b__law_alphabet : Binds K fd__law_alphabet ["row", "upto"] []) {S__law_digits : DSp} {a__law_digits : Addr} {fd__law_digits : FuncData} {l__law_digits : Nat} (h__law_digits : l__law_digits ≤ k) (G__law_digits : FnG P w K mg base CX0 l__law_digits a__law_digits fd__law_digits ["cell", "sizes"] (spD K false S__law_digits)) (m__law_digits : mg "_law_digits" = some (.ref a__law_digits)) (k__law_digits : PySem.W.keepIn K (.ref a__law_digits) = true) (b__law_digits : Binds K fd__law_digits ["cell", "sizes"] []) {S__law_cell : DSp} {a__law_cell : Addr} {fd__law_cell : FuncData} {l__law_cell : Nat} (h__law_cell : l__law_cell ≤ k) (G__law_cell : FnG P w K mg base CX0 l__law_cell a__law_cell fd__law_cell ["script", "k"] (spD K false S__law_cell)) (m__law_cell : mg "_law_cell" = some (.ref a__law_cell)) (k__law_cell : PySem.W.keepIn K (.ref a__law_cell) = true) (b__law_cell : Binds K fd__law_cell ["script", "k"] []) {S__law_writing : DSp} {a__law_writing : Addr} {fd__law_writing : FuncData} {l__law_writing : Nat} (h__law_writing : l__law_writing ≤ k) (G__law_writing : FnG P w K mg base CX0 l__law_writing a__law_writing fd__law_writing ["alphabet", "row", "one", "two"] (spD K false S__law_writing)) (m__law_writing : mg "_law_writing" = some (.ref a__law_writing)) (k__law_writing : PySem.W.keepIn K (.ref a__law_writing) = true) (b__law_writing : Binds K fd__law_writing ["alphabet", "row", "one", "two"] []) {S__law_form : DSp} {a__law_form : Addr} {fd__law_form : FuncData} {l__law_form : Nat} (h__law_form : l__law_form ≤ k) (G__law_form : FnG P w K mg base CX0 l__law_form a__law_form fd__law_form ["head", "ring"] (spD K false S__law_form)) (m__law_form : mg "_law_form" = some (.ref a__law_form)) (k__law_form : PySem.W.keepIn K (.ref a__law_form) = true) (b__law_form : Binds K fd__law_form ["head", "ring"] []) {S__law_words : DSp} {a__law_words : Addr} {fd__law_words : FuncData} {l__law_words : Nat} (h__law_words : l__law_words ≤ k) (G__law_words : FnG P w K mg base CX0 l__law_words a__law_words fd__law_words ["head", "ring", "span"] (spD K false S__law_words)) (m__law_words : mg "_law_words" = some (.ref a__law_words)) (k__law_words : PySem.W.keepIn K (.ref a__law_words) = true) (b__law_words : Binds K fd__law_words ["head", "ring", "span"] []) {S_pieces_bound : DSp} {a_pieces_bound : Addr} {fd_pieces_bound : FuncData} {l_pieces_bound : Nat} (h_pieces_bound : l_pieces_bound ≤ k) (G_pieces_bound : FnG P w K mg base CX0 l_pieces_bound a_pieces_bound fd_pieces_bound ["endless", "length"] (spD K false S_pieces_bound)) (m_pieces_bound : mg "pieces_bound" = some (.ref a_pieces_bound)) (k_pieces_bound : PySem.W.keepIn K (.ref a_pieces_bound) = true) (b_pieces_bound : Binds K fd_pieces_bound ["endless", "length"] []) {S__law_exact : DSp} {a__law_exact : Addr} {fd__law_exact : FuncData} {l__law_exact : Nat} (h__law_exact : l__law_exact ≤ k) (G__law_exact : FnG P w K mg base CX0 l__law_exact a__law_exact fd__law_exact ["counts", "told", "span"] (spD K false S__law_exact)) (m__law_exact : mg "_law_exact" = some (.ref a__law_exact)) (k__law_exact : PySem.W.keepIn K (.ref a__law_exact) = true) (b__law_exact : Binds K fd__law_exact ["counts", "told", "span"] []) {S__law_pieces_within : DSp} {a__law_pieces_within : Addr} {fd__law_pieces_within : FuncData} {l__law_pieces_within : Nat} (h__law_pieces_within : l__law_pieces_within ≤ k) (G__law_pieces_within : FnG P w K mg base CX0 l__law_pieces_within a__law_pieces_within fd__law_pieces_within ["alphabet", "world", "made", "span", "told"] (spD K false S__law_pieces_within)) (m__law_pieces_within : mg "_law_pieces_within" = some (.ref a__law_pieces_within)) (k__law_pieces_within : PySem.W.keepIn K (.ref a__law_pieces_within) = true) (b__law_pieces_within : Binds K fd__law_pieces_within ["alphabet", "world", "made", "span", "told"] []) {S__law_giant : DSp} {a__law_giant : Addr} {fd__law_giant : FuncData} {l__law_giant : Nat} (h__law_giant : l__law_giant ≤ k) (G__law_giant : FnG P w K mg base CX0 l__law_giant a__law_giant fd__law_giant ["row"] (spD K false S__law_giant)) (m__law_giant : mg "_law_giant" = some (.ref a__law_giant)) (k__law_giant : PySem.W.keepIn K (.ref a__law_giant) = true) (b__law_giant : Binds K fd__law_giant ["row"] []) {S__law_long_right : DSp} {a__law_long_right : Addr} {fd__law_long_right : FuncData} {l__law_long_right : Nat} (h__law_long_right : l__law_long_right ≤ k) (G__law_long_right : FnG P w K mg base CX0 l__law_long_right a__law_long_right fd__law_long_right ["alphabet", "made", "row", "lengths"] (spD K false S__law_long_right)) (m__law_long_right : mg "_law_long_right" = some (.ref a__law_long_right)) (k__law_long_right : PySem.W.keepIn K (.ref a__law_long_right) = true) (b__law_long_right : Binds K fd__law_long_right ["alphabet", "made", "row", "lengths"] []) {S__law_least_letters : DSp} {a__law_least_letters : Addr} {fd__law_least_letters : FuncData} {l__law_least_letters : Nat} (h__law_least_letters : l__law_least_letters ≤ k) (G__law_least_letters : FnG P w K mg base CX0 l__law_least_letters a__law_least_letters fd__law_least_letters ["counts", "count"] (spD K false S__law_least_letters)) (m__law_least_letters : mg "_law_least_letters" = some (.ref a__law_least_letters)) (k__law_least_letters : PySem.W.keepIn K (.ref a__law_least_letters) = true) (b__law_least_letters : Binds K fd__law_least_letters ["counts", "count"] []) {S_Round : DSp} {a_Round : Addr} {fd_Round : FuncData} {l_Round : Nat} (h_Round : l_Round + 1 ≤ k) (M_Round : Mk K (Ad "Round") a_Round) (G_Round : FnG P w K mg base CX0 l_Round a_Round fd_Round ["self", "alphabet", "head", "ring"] (spI K (Ad "Round") S_Round)) (m_Round : mg "Round" = some (.ref (Ad "Round"))) (b_Round : Binds K fd_Round ["self", "alphabet", "head", "ring"] []) (kb_pieces_bound_0_length_endless : KBn K fd_pieces_bound ["endless", "length"] 0 ["length", "endless"] (fun us ws => g_pieces_bound_0_length_endless us ws) (fun vs zs => g_pieces_bound_0_length_endless vs zs)) (m_len : mg "len" = none) (m_range : mg "range" = none) (m_int : mg "int" = none) (m_max : mg "max" = none) {S : DSp} (len : ∀ ds Q, S ds Q → ds.length = (["script"] : List Str).length) (rd : ∀ ds Q, S ds Q → t_law S__law_alphabet S__law_digits S__law_cell S__law_writing S__law_form S__law_words S_pieces_bound S__law_exact S__law_pieces_within S__law_giant S__law_long_right S__law_least_letters S_Round { nx := fun _ => false = false ∧ Q .non, rt := Q } (startD 17 ds)) :
  FnG P w K mg base CX0 (k + 1) fa fd ["script"] (spD K false S) := by
  refine FunD.okD Fn sc_law len _ (fun cdv A outer s H E hr => ?_) rd
  exact (qss_cons (qs_set 1 (fun _ => sc_law.nd) (q_call (fun _ => G__law_alphabet) (fun _ => hr.mono h__law_alphabet) (fun _ => m__law_alphabet) k__law_alphabet b__law_alphabet (qa_cons (q_call (fun _ => G__law_digits) (fun _ => hr.mono h__law_digits) (fun _ => m__law_digits) k__law_digits b__law_digits (qa_cons (q_call (fun _ => G__law_cell) (fun _ => hr.mono h__law_cell) (fun _ => m__law_cell) k__law_cell b__law_cell (qa_cons (qv 0) (qa_cons q_int qa_nil))) (qa_cons (QO.qe (qo_lst (qa_cons q_int (qa_cons q_int (qa_cons q_int (qa_cons q_int (qa_cons q_int (qa_cons q_int (qa_cons q_int qa_nil))))))))) qa_nil))) (qa_cons q_int qa_nil))))
    (qss_cons (qs_set 2 (fun _ => sc_law.nd) (q_call (fun _ => G__law_digits) (fun _ => hr.mono h__law_digits) (fun _ => m__law_digits) k__law_digits b__law_digits (qa_cons (q_call (fun _ => G__law_cell) (fun _ => hr.mono h__law_cell) (fun _ => m__law_cell) k__law_cell b__law_cell (qa_cons (qv 0) (qa_cons q_int qa_nil))) (qa_cons (QO.qe (qo_lst (qa_cons q_int (qa_cons q_int (qa_cons q_int (qa_cons q_int (qa_cons q_int (qa_cons q_int (qa_cons q_int (qa_cons q_int qa_nil)))))))))) qa_nil))))
    (qss_cons (qs_set 3 (fun _ => sc_law.nd) (q_call (fun _ => G__law_digits) (fun _ => hr.mono h__law_digits) (fun _ => m__law_digits) k__law_digits b__law_digits (qa_cons (q_call (fun _ => G__law_cell) (fun _ => hr.mono h__law_cell) (fun _ => m__law_cell) k__law_cell b__law_cell (qa_cons (qv 0) (qa_cons q_int qa_nil))) (qa_cons (q_mul (QO.qe (qo_lst (qa_cons q_int qa_nil))) q_int) qa_nil))))
    (qss_cons (qs_set 4 (fun _ => sc_law.nd) (q_call (fun _ => G__law_digits) (fun _ => hr.mono h__law_digits) (fun _ => m__law_digits) k__law_digits b__law_digits (qa_cons (q_call (fun _ => G__law_cell) (fun _ => hr.mono h__law_cell) (fun _ => m__law_cell) k__law_cell b__law_cell (qa_cons (qv 0) (qa_cons q_int qa_nil))) (qa_cons (q_mul (QO.qe (qo_lst (qa_cons q_int qa_nil))) q_int) qa_nil))))
    (qss_cons (qs_set 5 (fun _ => sc_law.nd) (q_call (fun _ => G__law_writing) (fun _ => hr.mono h__law_writing) (fun _ => m__law_writing) k__law_writing b__law_writing (qa_cons (qv 1) (qa_cons (qv 2) (qa_cons (qv 3) (qa_cons (qv 4) qa_nil))))))
    (qss_cons (qs_set 6 (fun _ => sc_law.nd) (q_call (fun _ => G__law_form) (fun _ => hr.mono h__law_form) (fun _ => m__law_form) k__law_form b__law_form (qa_cons (q_ix (qv 5) q_int) (qa_cons (q_ix (qv 5) q_int) qa_nil))))
    (qss_cons (qs_setLc 7 (ow := [("k", 13)]) (fun _ => rfl) (fun _ => sc_law.nd) (qi_range1 (fun _ => m_range) (q_add (q_len (fun _ => m_len) (QE.qp (q_ix (qv 6) q_int))) (q_len (fun _ => m_len) (QE.qp (q_ix (qv 6) q_int))))) (fun _ => blkOk_by (N := nm_law) (sc := defScope s_law) (by decide +kernel)) (qgc_name 13 (fun _ => sc_law.nd)) qts_nil (q_call (fun _ => G__law_words) (fun _ => hr.mono h__law_words) (fun _ => m__law_words) k__law_words b__law_words (qa_cons (q_ix (qv 6) q_int) (qa_cons (q_ix (qv 6) q_int) (qa_cons (q_add (qv 13) q_int) qa_nil)))))
    (qss_cons (qs_set 8 (fun _ => sc_law.nd) (q_make M_Round (fun _ => G_Round) (fun _ => hr.mono h_Round) (fun _ => m_Round) b_Round (qa_cons (qv 1) (qa_cons (q_ix (qv 5) q_int) (qa_cons (q_ix (qv 5) q_int) qa_nil)))))
    (qss_cons (qs_set 9 (fun _ => sc_law.nd) (q_call (fun _ => G__law_digits) (fun _ => hr.mono h__law_digits) (fun _ => m__law_digits) k__law_digits b__law_digits (qa_cons (q_call (fun _ => G__law_cell) (fun _ => hr.mono h__law_cell) (fun _ => m__law_cell) k__law_cell b__law_cell (qa_cons (qv 0) (qa_cons q_int qa_nil))) (qa_cons (QO.qe (qo_lst (qa_cons q_int (qa_cons q_int (qa_cons q_int (qa_cons q_int (qa_cons q_int qa_nil))))))) qa_nil))))
    (qss_cons (qs_set 10 (fun _ => sc_law.nd) (QO.qe (qo_lst (qa_cons (q_ix (qv 9) q_int) (qa_cons (q_ix (qv 9) q_int) qa_nil)))))
    (qss_cons (qs_if (qt_eq (fun _ => hr.toRoom) (q_ix (qv 9) q_int) q_int) (qss_one (qs_set 10 (fun _ => sc_law.nd) (q_add (qv 10) (QO.qe (qo_lst (qa_cons (q_ix (qv 9) q_int) qa_nil)))))) qss_nil)
    (qss_cons (qs_setO 11 (fun _ => sc_law.nd) (qo_lst qa_nil))
    (qss_cons (qs_for (fun _ => PassesOwn.never) (fun _ => rfl) (qi_seq (qv 10)) (qg_name 12 (fun _ => sc_law.nd)) (qss_cons (qs_set 15 (fun _ => sc_law.nd) (q_call (fun _ => G_pieces_bound) (fun _ => hr.mono h_pieces_bound) (fun _ => m_pieces_bound) k_pieces_bound b_pieces_bound (qa_cons (qv 8) (qa_cons (qv 12) qa_nil))))
    (qss_cons (qs_expr (q_append 11 (qv 15)))
    (qss_one (qs_if (QW.qt (qw_or (qt_not (qt_val (q_call (fun _ => G__law_exact) (fun _ => hr.mono h__law_exact) (fun _ => m__law_exact) k__law_exact b__law_exact (qa_cons (qv 7) (qa_cons (qv 15) (qa_cons (qv 12) qa_nil)))))) (qw_or1 (qt_not (qt_val (q_call (fun _ => G__law_pieces_within) (fun _ => hr.mono h__law_pieces_within) (fun _ => m__law_pieces_within) k__law_pieces_within b__law_pieces_within (qa_cons (qv 1) (qa_cons (qv 8) (qa_cons (qv 5) (qa_cons (qv 12) (qa_cons (qv 15) qa_nil))))))))))) (qss_one (qs_ret q_bl)) qss_nil)))))
    (qss_cons (qs_for (fun _ => PassesOwn.never) (fun _ => rfl) (qi_range1 (fun _ => m_range) q_int) (qg_name 13 (fun _ => sc_law.nd)) (qss_cons (qs_set 12 (fun _ => sc_law.nd) (q_call (fun _ => G__law_giant) (fun _ => hr.mono h__law_giant) (fun _ => m__law_giant) k__law_giant b__law_giant (qa_cons (q_call (fun _ => G__law_digits) (fun _ => hr.mono h__law_digits) (fun _ => m__law_digits) k__law_digits b__law_digits (qa_cons (q_call (fun _ => G__law_cell) (fun _ => hr.mono h__law_cell) (fun _ => m__law_cell) k__law_cell b__law_cell (qa_cons (qv 0) (qa_cons (q_add q_int (qv 13)) qa_nil))) (qa_cons (q_add (QO.qe (qo_lst (qa_cons q_int qa_nil))) (q_mul (QO.qe (qo_lst (qa_cons q_int qa_nil))) q_int)) qa_nil))) qa_nil)))
    (qss_one (qs_if (qt_not (qt_val (q_call (fun _ => G__law_exact) (fun _ => hr.mono h__law_exact) (fun _ => m__law_exact) k__law_exact b__law_exact (qa_cons (qv 7) (qa_cons (q_call (fun _ => G_pieces_bound) (fun _ => hr.mono h_pieces_bound) (fun _ => m_pieces_bound) k_pieces_bound b_pieces_bound (qa_cons (qv 8) (qa_cons (qv 12) qa_nil))) (qa_cons (qv 12) qa_nil)))))) (qss_one (qs_ret q_bl)) qss_nil))))
    (qss_cons (qs_if (qt_not (qt_val (q_call (fun _ => G__law_long_right) (fun _ => hr.mono h__law_long_right) (fun _ => m__law_long_right) k__law_long_right b__law_long_right (qa_cons (qv 1) (qa_cons (qv 5) (qa_cons (q_call (fun _ => G__law_digits) (fun _ => hr.mono h__law_digits) (fun _ => m__law_digits) k__law_digits b__law_digits (qa_cons (q_call (fun _ => G__law_cell) (fun _ => hr.mono h__law_cell) (fun _ => m__law_cell) k__law_cell b__law_cell (qa_cons (qv 0) (qa_cons q_int qa_nil))) (qa_cons (QO.qe (qo_lst (qa_cons q_int (qa_cons q_int qa_nil)))) qa_nil))) (qa_cons (QO.qe (qo_lst (qa_cons (q_ix (qv 9) q_int) (qa_cons (qv 12) qa_nil)))) qa_nil))))))) (qss_one (qs_ret q_bl)) qss_nil)
    (qss_cons (qs_for (fun _ => PassesOwn.never) (fun _ => rfl) (qi_seq (QO.qe (qo_lst (qa_cons (q_ix (qv 9) q_int) (qa_cons (q_mod (q_intc (fun _ => m_int) (QE.qp (qv 12))) (q_pow q_int q_int)) qa_nil))))) (qg_name 14 (fun _ => sc_law.nd)) (qss_cons (qs_set 16 (fun _ => sc_law.nd) (q_call (fun _ => G__law_least_letters) (fun _ => hr.mono h__law_least_letters) (fun _ => m__law_least_letters) k__law_least_letters b__law_least_letters (qa_cons (qv 7) (qa_cons (qv 14) qa_nil))))
    (qss_one (qs_if (QW.qt (qw_or (qt_ne (fun _ => hr.toRoom) (q_call (fun _ => G_pieces_bound) (fun _ => hr.mono h_pieces_bound) (fun _ => m_pieces_bound) k_pieces_bound b_pieces_bound (qa_cons (qv 8) (qa_cons (qv 16) qa_nil))) (qv 14)) (qw_or1 (qt_ne (fun _ => hr.toRoom) (q_call (fun _ => G_pieces_bound) (fun _ => hr.mono h_pieces_bound) (fun _ => m_pieces_bound) k_pieces_bound b_pieces_bound (qa_cons (qv 8) (qa_cons (q_max2 (fun _ => rfl) (fun _ => m_max) q_int (q_sub (qv 16) q_int)) qa_nil))) (q_max2 (fun _ => rfl) (fun _ => m_max) q_int (q_sub (qv 14) q_int)))))) (qss_one (qs_ret q_bl)) qss_nil))))
    (qss_cons (qs_if (qt_ne (fun _ => hr.toRoom) (q_callK0 (m := 2) (fun _ => G_pieces_bound) (fun _ => hr.mono h_pieces_bound) (fun _ => m_pieces_bound) k_pieces_bound kb_pieces_bound_0_length_endless rel_pieces_bound_0_length_endless rfl (qk_cons (q_ix (qv 10) q_int) (qk_cons (qv 8) qk_nil))) (q_ixv 11 q_int)) (qss_one (qs_ret q_bl)) qss_nil)
    (qss_one (qs_ret (q_eq (fun _ => hr.toRoom) (QO.qe (qo_lc (ow := [("span", 12)]) (fun _ => rfl) (fun _ => sc_law.nd) (qi_seq (qv 10)) (fun _ => blkOk_by (N := nm_law) (sc := defScope s_law) (by decide +kernel)) (qgc_name 12 (fun _ => sc_law.nd)) qts_nil (q_call (fun _ => G_pieces_bound) (fun _ => hr.mono h_pieces_bound) (fun _ => m_pieces_bound) k_pieces_bound b_pieces_bound (qa_cons (q_make M_Round (fun _ => G_Round) (fun _ => hr.mono h_Round) (fun _ => m_Round) b_Round (qa_cons (qv 1) (qa_cons (q_ix (qv 6) q_int) (qa_cons (q_ix (qv 6) q_int) qa_nil)))) (qa_cons (qv 12) qa_nil))))) (qv 11)))))))))))))))))))))
end
end K26

set_option linter.all false
set_option maxRecDepth 100000
set_option maxHeartbeats 2000000
set_option exponentiation.threshold 3000
namespace K26
open PySem PySem.Spec PyProof.Rows L2 DL Lb
def S_level_letters : DSp := fun ds Q => ∃ (v l : Nat), ds = [.int (v : Nat), .int (l : Nat)] ∧ v ≤ 2000 ∧ 0 < v ∧ l < 2 ^ 60 ∧ Q (.int (LL v v l : Nat))
theorem len_level_letters : ∀ ds Q, S_level_letters ds Q → ds.length = (["variety", "levels"] : List Str).length := by rintro _ _ ⟨_, _, rfl, _⟩; rfl
theorem LL_form {v l : Nat} (hv : 0 < v) : ((v : Nat) : Int) * (((l : Nat) : Int) * (2 * ((v : Nat) : Int) + ((l : Nat) : Int) - 1) / 2) = (LL v v l : Nat) := by
  have e : l * (2 * v + l - 1) / 2 = l * v + tri l := by
    have t := tri_eq l
    have : l * (2 * v + l - 1) + l = 2 * (l * v) + l * l := by
      obtain ⟨w, rfl⟩ : ∃ w, v = w + 1 := ⟨v - 1, by omega⟩
      rw [show 2 * (w + 1) + l - 1 = 2 * w + 1 + l by omega]
      grind
    omega
  unfold LL
  rw [← e, Int.natCast_mul, Int.natCast_ediv, Int.natCast_mul, Int.natCast_sub (by omega)]
  simp
theorem rd_level_letters (ds : List D) (Q : D → Prop) (h : S_level_letters ds Q) : t_level_letters { nx := fun _ => false = false ∧ Q .non, rt := Q } (startD 2 ds) := by
  obtain ⟨v, l, rfl, hv2, hv, hl, q⟩ := h
  rw [← LL_form hv] at q
  exact ⟨mul_l (by decide) (by decide), mul_l (by omega) (by omega), by decide, by decide, mul_l (by omega) (by omega), q⟩
def S_full_levels : DSp := fun ds Q => ∃ (v left : Nat), ds = [.int (v : Nat), .int (left : Nat)] ∧ v ≤ 2000 ∧ 0 < v ∧ left < 10 ^ 32 ∧ ∀ l : Nat, LL v v l ≤ left → left < LL v v (l + 1) → Q (.int l)
theorem len_full_levels : ∀ ds Q, S_full_levels ds Q → ds.length = (["variety", "left"] : List Str).length := by rintro _ _ ⟨_, _, rfl, _⟩; rfl
theorem rd_full_levels (ds : List D) (Q : D → Prop) (h : S_full_levels ds Q) : t_full_levels { nx := fun _ => false = false ∧ Q .non, rt := Q } (startD 4 ds) := by
  obtain ⟨v, left, rfl, hv2, hv, hl, q⟩ := h
  have e1 : (2 : Int) * ((v : Nat) : Int) - 1 = ((2 * v - 1 : Nat) : Int) := by omega
  have e2 : (2 : Int) * ((left : Nat) : Int) / ((v : Nat) : Int) = ((2 * left / v : Nat) : Int) := by rw [Int.natCast_ediv, Int.natCast_mul]; rfl
  have e3 : ((2 * v - 1 : Nat) : Int) * ((2 * v - 1 : Nat) : Int) + 4 * ((2 * left / v : Nat) : Int) = (((2 * v - 1) * (2 * v - 1) + 4 * (2 * left / v) : Nat) : Int) := by
    rw [Int.natCast_add, Int.natCast_mul, Int.natCast_mul]; rfl
  have hle : 2 * left / v ≤ 2 * left := Nat.div_le_self _ _
  have hsq : (2 * v - 1) * (2 * v - 1) ≤ 4000 * 4000 := Nat.mul_le_mul (by omega) (by omega)
  refine ⟨mul_l (by decide) (by decide), mul_l (by decide) (by decide), by omega, log_ok (by omega) (by omega), ?_⟩
  refine ⟨mul_l (by omega) (by omega), mul_l (by decide) (by decide), ?_, ?_, fun s hs1 hs2 => ⟨by decide, by decide, ?_⟩⟩
  · rw [e1, e2, e3]; omega
  · rw [e1, e2, e3, Int.toNat_natCast]
    by_cases z : (2 * v - 1) * (2 * v - 1) + 4 * (2 * left / v) = 0
    · rw [z]; decide
    · refine Nat.le_of_lt_succ ((Nat.log2_lt z).mpr ?_)
      have h1 : (10 : Nat) ^ 32 = 100000000000000000000000000000000 := by decide
      have h2 : (100000000000000000000000000000000 : Nat) < 2 ^ 200 := by decide
      have h3 : (2 : Nat) ^ 200 * 1000000000 ≤ 2 ^ 13001 := by
        have : (2 : Nat) ^ 200 * 1000000000 ≤ 2 ^ 300 := by decide
        exact Nat.le_trans this (Nat.pow_le_pow_right (by decide) (by decide))
      omega
  · rw [e1, e2, e3, Int.toNat_natCast] at hs1 hs2
    obtain ⟨h1, h2, h3⟩ := levels_ok hv hs1 hs2
    have := q _ h2 h3
    have e : (((s : Nat) : Int) - (2 * ((v : Nat) : Int) - 1)) / 2 = (((s - (2 * v - 1)) / 2 : Nat) : Int) := by omega
    rw [e]
    exact this
end K26

set_option linter.all false
set_option maxRecDepth 100000
set_option maxHeartbeats 2000000
namespace K26
open PySem PySem.Spec PyProof.Rows L2 DL Lb
theorem cap_get {f : Fn} {v N k : Nat} (h : k < v - 1) : (capF f v N)[k]? = some (nW f v (k + 1)) := by
  unfold capF
  rw [List.getElem?_append_left (by rw [List.length_map, List.length_range]; exact h), List.getElem?_map, List.getElem?_range h]; rfl
theorem cap_drop {f : Fn} {v N : Nat} : (capF f v N).drop (v - 1) = List.replicate N v := by
  unfold capF
  rw [List.drop_append_of_le_length (by rw [List.length_map, List.length_range]; exact Nat.le_refl _), List.drop_of_length_le (by rw [List.length_map, List.length_range]; exact Nat.le_refl _), List.nil_append]
theorem LL_ge {v l : Nat} (hv : 0 < v) : l ≤ LL v v l ∧ tri l ≤ LL v v l := by
  unfold LL
  have h1 : l ≤ l * v := Nat.le_mul_of_pos_right l hv
  have h2 : l * v + tri l ≤ v * (l * v + tri l) := Nat.le_mul_of_pos_left _ hv
  omega
theorem lev_small {v l left : Nat} (hv : 0 < v) (h : LL v v l ≤ left) (hl : left < 10 ^ 32) : l < 2 ^ 60 := by
  have h1 := (LL_ge (l := l) hv).2
  have h2 := tri_eq l
  rcases Nat.lt_or_ge l (2 ^ 60) with z | z
  · exact z
  · have h3 : 2 ^ 60 * l ≤ l * l := Nat.mul_le_mul_right l z
    have e1 : (10 : Nat) ^ 32 = 100000000000000000000000000000000 := by decide
    have e2 : (2 : Nat) ^ 60 = 1152921504606846976 := by decide
    omega
def S_pieces_bound (Ad : Str → Addr) : DSp := fun ds Q => ∃ (A : List Nat) (f : Fn) (H p span : Nat) (i : Int), ds = [rndI Ad A f H p, .int i] ∧ i = span ∧ LF f H p ∧ H + p ≤ 2000 ∧ span < 10 ^ 32 ∧ ∀ n : Nat, IsB f (H + p) span n → Q (.int n)
theorem len_pieces_bound (Ad : Str → Addr) : ∀ ds Q, S_pieces_bound Ad ds Q → ds.length = (["endless", "length"] : List Str).length := by rintro _ _ ⟨_, _, _, _, _, _, rfl, _⟩; rfl
theorem rd_pieces_bound (Ad : Str → Addr) (ds : List D) (Q : D → Prop) (h : S_pieces_bound Ad ds Q) : t_pieces_bound Ad (S_word_count Ad) S_full_levels S_level_letters { nx := fun _ => false = false ∧ Q .non, rt := Q } (startD 7 ds) := by
  obtain ⟨A, f, H, p, span, i, rfl, rfl, L, hb, hspan, q⟩ := h
  have pp := L.pos
  have hC : Ad "Round" ∈ ([Ad "Round"] : List Addr) := List.mem_singleton.mpr rfl
  obtain ⟨v, hv⟩ : ∃ v, v = H + p := ⟨_, rfl⟩
  have hv0 : 0 < v := by omega
  have hB := IsB.of_fl (f := f) (span := span) (N := span + 3) hv0 (by omega)
  obtain ⟨cs, hcs⟩ : ∃ cs, cs = capF f v (span + 3) := ⟨_, rfl⟩
  rw [← hcs] at hB
  rw [← hv] at q
  have fin : ∀ (total left : Nat) (x4 x6 : Sl), left ≤ span → fl 1 span cs = total + fl v left (List.replicate (span + 3) v) →
      r_pieces_bound_1 Ad (S_word_count Ad) S_full_levels S_level_letters { nx := fun _ => false = false ∧ Q .non, rt := Q } [.fz (rndI Ad A f H p), .fz (.int (span : Nat)), .fz (.int (total : Nat)), .fz (.int (left : Nat)), x4, .no, x6] := fun total left x4 x6 hl he => by
    refine ⟨hC, _, rfl, v, left, by rw [hv], by omega, hv0, by omega, fun l h1 h2 => ?_⟩
    have hl60 := lev_small hv0 h1 (by omega)
    have hlg := (LL_ge (l := l) hv0).1
    refine ⟨hC, _, rfl, v, l, by rw [hv], by omega, hv0, hl60, ?_⟩
    refine ⟨hC, _, rfl, mul_l (by omega) (by omega), hC, _, rfl, by omega, log_ok (by omega) (by omega), ?_⟩
    have e1 : (left : Int) - (LL v v l : Nat) = ((left - LL v v l : Nat) : Int) := by omega
    have e2 : ((left - LL v v l : Nat) : Int) / (((v : Nat) : Int) + (l : Nat)) = (((left - LL v v l) / (v + l) : Nat) : Int) := by rw [Int.natCast_ediv, Int.natCast_add]
    have e3 : ((l : Nat) : Int) * ((v : Nat) : Int) = ((l * v : Nat) : Int) := (Int.natCast_mul _ _).symm
    rw [← hv, e1, e2, e3]
    rw [he, fl_rep hv0 (by omega) h1 h2 (by omega)] at hB
    have := q _ hB
    have e4 : ((total + (l * v + (left - LL v v l) / (v + l)) : Nat) : Int) = (total : Int) + (l * v : Nat) + ((left - LL v v l) / (v + l) : Nat) := by omega
    rw [e4] at this
    exact this
  refine ⟨hC, _, rfl, ⟨by omega, by omega, by omega, by omega⟩, fun k env => ∃ (total left : Nat) (ti li : Int) (x4 x6 : Sl), env = [.fz (rndI Ad A f H p), .fz (.int (span : Nat)), .fz (.int ti), .fz (.int li), x4, .no, x6] ∧ ti = total ∧ li = left ∧ left ≤ span ∧ fl 1 span cs = total + fl (k + 1) left (cs.drop k),
    ⟨0, span, _, _, _, _, rfl, rfl, rfl, Nat.le_refl _, by simp⟩, ?_, ?_⟩
  · rintro k d _ hd ⟨total, left, ti, li, x4, x6, rfl, rfl, rfl, hl, he⟩
    obtain ⟨hk, rfl⟩ := rngD_get hd
    have hk2 : k < v - 1 := by omega
    have hd2 := fl_drop (k := k) (left := left) (cs := cs) (c := nW f v (k + 1)) (by rw [hcs]; exact cap_get hk2) (k + 1)
    rw [hd2] at he
    have ev : (left : Int) / (1 + (k : Int)) = ((left / (k + 1) : Nat) : Int) := by
      rw [Int.natCast_ediv, Int.natCast_add]; congr 1; omega
    have hml : left / (k + 1) * (k + 1) ≤ left := Nat.div_mul_le_self _ _
    obtain ⟨tk, htk⟩ : ∃ tk, tk = min (nW f v (k + 1)) (left / (k + 1)) := ⟨_, rfl⟩
    have htl : tk * (k + 1) ≤ left := Nat.le_trans (Nat.mul_le_mul_right _ (by omega)) hml
    rw [← htk] at he
    refine ⟨A, f, H, p, k + 1, _, rfl, by omega, L, hb, by omega, log_ok (by omega) (by omega), cMin_eq (k := ((tk : Nat) : Int)) (by rw [ev, ← hv]; omega) ?_⟩
    have e2 : (left : Int) - (tk : Nat) * (1 + (k : Int)) = ((left - tk * (k + 1) : Nat) : Int) := by
      rw [Int.natCast_sub htl, Int.natCast_mul]; congr 2; omega
    exact ⟨mul_r (by omega) (by omega), total + tk, left - tk * (k + 1), _, _, _, _, rfl, by omega, e2, by omega, by omega⟩
  · rintro _ ⟨total, left, ti, li, x4, x6, rfl, rfl, rfl, hl, he⟩
    rw [rngD_len] at he
    have e1 : ((H + p : Nat) : Int) - 1 = ((v - 1 : Nat) : Int) := by omega
    rw [e1, Int.toNat_natCast, hcs, cap_drop, show v - 1 + 1 = v by omega, ← hcs] at he
    exact fin total left x4 x6 hl he
end K26

set_option linter.all false
set_option maxRecDepth 100000
set_option maxHeartbeats 2000000
namespace K26
open PySem PySem.Spec PyProof.Rows L2 DL Lb
def capL (f : Fn) (v : Nat) : List D := (List.range v).map fun k => D.int (nW f v (k + 1) : Nat)
theorem capL_len {f : Fn} {v : Nat} : (capL f v).length = v := by simp [capL]
theorem capL_at {f : Fn} {v k : Nat} (h : k < v) : (capL f v)[k]? = some (.int (nW f v (k + 1) : Nat)) := by
  unfold capL
  rw [List.getElem?_map, List.getElem?_range h]; rfl
theorem capL_last {f : Fn} {H p : Nat} (L : LF f H p) : atI (capL f (H + p)) (-1) = some (.int ((H + p : Nat) : Int)) := by
  have pp := L.pos
  have e : capL f (H + p) = (List.range (H + p - 1)).map (fun k => D.int (nW f (H + p) (k + 1) : Nat)) ++ [.int ((H + p : Nat) : Int)] := by
    unfold capL
    rw [show List.range (H + p) = List.range (H + p - 1) ++ [H + p - 1] by rw [← List.range_succ]; congr 1; omega, List.map_append]
    congr 1
    show [D.int (nW f (H + p) (H + p - 1 + 1) : Nat)] = _
    rw [show H + p - 1 + 1 = H + p by omega, L.all (Nat.le_refl _)]
  rw [e, Lb.atI_last]
theorem tri_int (l : Nat) : ((l : Nat) : Int) * (((l : Nat) : Int) - 1) / 2 = (tri l : Nat) := by
  have t := tri_eq l
  have e : ((l : Nat) : Int) * (((l : Nat) : Int) - 1) = 2 * (tri l : Nat) := by
    rw [Int.mul_sub, Int.mul_one, ← Int.natCast_mul]
    omega
  rw [e]; omega
def S__law_least_letters : DSp := fun ds Q => ∃ (f : Fn) (H p m : Nat) (i : Int), ds = [.lst (capL f (H + p)), .int i] ∧ i = m ∧ LF f H p ∧ H + p ≤ 2000 ∧ m < 2 ^ 62 ∧ Q (.int (wtF f (H + p) m : Nat))
theorem len__law_least_letters : ∀ ds Q, S__law_least_letters ds Q → ds.length = (["counts", "count"] : List Str).length := by rintro _ _ ⟨_, _, _, _, _, rfl, _⟩; rfl
theorem rd__law_least_letters (ds : List D) (Q : D → Prop) (h : S__law_least_letters ds Q) : t__law_least_letters { nx := fun _ => false = false ∧ Q .non, rt := Q } (startD 9 ds) := by
  obtain ⟨f, H, p, m, i, rfl, rfl, L, hb, hm, q⟩ := h
  have pp := L.pos
  have hlast := capL_last L
  obtain ⟨v, hv⟩ : ∃ v, v = H + p := ⟨_, rfl⟩
  rw [← hv] at q hlast hb ⊢
  have hv0 : 0 < v := by omega
  obtain ⟨cs, hcs⟩ : ∃ cs, cs = capF f v (m + 1) := ⟨_, rfl⟩
  have hw : wt 1 m cs = wtF f v m := by rw [hcs]; rfl
  rw [← hw] at q
  have hcl : (capL f v).length = v := capL_len
  have fin : ∀ (letters left : Nat) (x4 x8 : Sl), left ≤ m → wt 1 m cs = letters + wt v left (List.replicate (m + 1) v) →
      r__law_least_letters_1 { nx := fun _ => false = false ∧ Q .non, rt := Q } [.fz (.lst (capL f v)), .fz (.int (m : Nat)), .fz (.int (letters : Nat)), .fz (.int (left : Nat)), x4, .no, .no, .no, x8] := fun letters left x4 x8 hl he => by
    obtain ⟨l, hl2⟩ : ∃ l, l = left / v := ⟨_, rfl⟩
    have hdl : l * v ≤ left := by rw [hl2]; exact Nat.div_mul_le_self _ _
    have hdm : left < l * v + v := by rw [hl2]; exact Nat.lt_div_mul_add hv0
    have hll : l ≤ left := by rw [hl2]; exact Nat.div_le_self _ _
    have ev : (left : Int) / ((v : Nat) : Int) = ((l : Nat) : Int) := by rw [hl2, Int.natCast_ediv]
    have hmm : m + 1 ≤ (m + 1) * v := Nat.le_mul_of_pos_right _ hv0
    have hr := wt_rep hv0 (m + 1) v l (left - l * v) (by omega) (by omega)
    rw [show l * v + (left - l * v) = left by omega] at hr
    rw [he, hr] at q
    refine ⟨_, hlast, by omega, log_ok (by omega) (by omega), ?_⟩
    rw [ev]
    refine ⟨mul_r (by omega) (by omega), mul_r (by omega) (by omega), mul_l (by omega) (by omega), by decide, by decide, mul_l (by omega) (by omega), mul_r (by omega) (by omega), ?_⟩
    have e1 : (left : Int) - (l : Nat) * (v : Nat) = ((left - l * v : Nat) : Int) := by rw [Int.natCast_sub hdl, Int.natCast_mul]
    rw [e1, hcl, tri_int]
    have e2 : ((letters + (LL v v l + (left - l * v) * (v + l)) : Nat) : Int) = (letters : Int) + (v : Nat) * ((l : Nat) * (v : Nat) + (tri l : Nat)) + ((left - l * v : Nat) : Int) * ((v : Nat) + (l : Nat)) := by
      unfold LL
      simp only [Int.natCast_add, Int.natCast_mul]
      omega
    rw [e2] at q
    exact q
  refine ⟨by omega, by omega, fun k env => ∃ (letters left : Nat) (ti li : Int) (x4 x8 : Sl), env = [.fz (.lst (capL f v)), .fz (.int (m : Nat)), .fz (.int ti), .fz (.int li), x4, .no, .no, .no, x8] ∧ ti = letters ∧ li = left ∧ left ≤ m ∧ wt 1 m cs = letters + wt (k + 1) left (cs.drop k),
    ⟨0, m, _, _, _, _, rfl, rfl, rfl, Nat.le_refl _, by simp⟩, ?_, ?_⟩
  · rintro k d _ hd ⟨letters, left, ti, li, x4, x8, rfl, rfl, rfl, hl, he⟩
    obtain ⟨hk, rfl⟩ := rngD_get hd
    have hk2 : k < v - 1 := by omega
    have hg : cs[k]? = some (nW f v (k + 1)) := by rw [hcs]; exact cap_get hk2
    obtain ⟨hkl, hgv⟩ := List.getElem?_eq_some_iff.mp hg
    rw [List.drop_eq_getElem_cons hkl, hgv] at he
    simp only [wt] at he
    obtain ⟨tk, htk⟩ : ∃ tk, tk = min left (nW f v (k + 1)) := ⟨_, rfl⟩
    rw [← htk] at he
    refine ⟨_, atI_of (capL_at (show k < v by omega)) (by omega), cMin_eq (k := ((tk : Nat) : Int)) (by omega) ?_⟩
    have e2 : (letters : Int) + (tk : Nat) * (0 + (k : Int) + 1) = ((letters + tk * (k + 1) : Nat) : Int) := by
      rw [Int.natCast_add, Int.natCast_mul]; congr 2; omega
    exact ⟨mul_r (by omega) (by omega), letters + tk * (k + 1), left - tk, _, _, _, _, rfl, e2, by omega, by omega, by omega⟩
  · rintro _ ⟨letters, left, ti, li, x4, x8, rfl, rfl, rfl, hl, he⟩
    rw [rngD_len] at he
    have e1 : (((capL f v).length : Nat) : Int) - 1 = ((v - 1 : Nat) : Int) := by omega
    rw [e1, Int.toNat_natCast, hcs, cap_drop, show v - 1 + 1 = v by omega, ← hcs] at he
    exact fin letters left x4 x8 hl he
end K26

set_option linter.all false
set_option maxRecDepth 100000
set_option maxHeartbeats 2000000
namespace K26
open PySem PySem.Spec PyProof.Rows L2 DL Lb
theorem cap_le {f : Fn} {H p N : Nat} (L : LF f H p) : ∀ c ∈ capF f (H + p) N, c ≤ H + p := fun c hc => by
  unfold capF at hc
  rcases List.mem_append.mp hc with z | z
  · obtain ⟨k, _, rfl⟩ := List.mem_map.mp z
    exact L.le
  · rw [(List.mem_replicate.mp z).2]; exact Nat.le_refl _
theorem isB_sq {f : Fn} {H p span n : Nat} (L : LF f H p) (h : IsB f (H + p) span n) : n * n ≤ 2 * (H + p) * span := by
  have pp := L.pos
  have hs := capF_sum (f := f) (v := H + p) (N := n + 1) (by omega)
  have := wt_sq (v := H + p) (k := 1) (n := n) (cs := capF f (H + p) (n + 1)) (Nat.le_refl 1) (cap_le L) (by omega)
  rw [Nat.sub_self, Nat.mul_zero, Nat.add_zero] at this
  exact Nat.le_trans this (Nat.mul_le_mul_left _ h.1)
theorem isB_small {f : Fn} {H p span n : Nat} (L : LF f H p) (hb : H + p ≤ 2000) (hs : span < 10 ^ 32) (h : IsB f (H + p) span n) : n < 2 ^ 61 := by
  have h1 := isB_sq L h
  have h2 : 2 * (H + p) * span ≤ 4000 * span := Nat.mul_le_mul_right _ (by omega)
  refine sq_lt ?_
  have e1 : (10 : Nat) ^ 32 = 100000000000000000000000000000000 := by decide
  have e2 : (2 : Nat) ^ 61 * 2 ^ 61 = 5316911983139663491615228241121378304 := by decide
  omega
theorem isB_le {f : Fn} {v span n : Nat} (hv : 0 < v) (h : IsB f v span n) : n ≤ span := by
  have hs := capF_sum (f := f) (v := v) (N := n + 1) hv
  have := wt_ge (capF f v (n + 1)) 1 n (by omega)
  have h1 := h.1
  unfold wtF at h1
  omega
def S__law_exact : DSp := fun ds Q => ∃ (f : Fn) (H p span n : Nat) (i j : Int), ds = [.lst (capL f (H + p)), .int i, .int j] ∧ i = n ∧ j = span ∧ LF f H p ∧ H + p ≤ 2000 ∧ span < 10 ^ 32 ∧ IsB f (H + p) span n ∧ Q (.bl true)
theorem len__law_exact : ∀ ds Q, S__law_exact ds Q → ds.length = (["counts", "told", "span"] : List Str).length := by rintro _ _ ⟨_, _, _, _, _, _, _, rfl, _⟩; rfl
theorem rd__law_exact (ds : List D) (Q : D → Prop) (h : S__law_exact ds Q) : t__law_exact S__law_whole S__law_least_letters { nx := fun _ => false = false ∧ Q .non, rt := Q } (startD 3 ds) := by
  obtain ⟨f, H, p, span, n, i, j, rfl, rfl, rfl, L, hb, hs, hB, q⟩ := h
  have h61 := isB_small L hb hs hB
  have hsq := isB_sq L hB
  have e61 : (2 : Nat) ^ 61 = 2305843009213693952 := by decide
  have e62 : (2 : Nat) ^ 62 = 4611686018427387904 := by decide
  have esq : ((n : Nat) : Int) * (n : Nat) ≤ 2 * ((span : Nat) : Int) * ((H + p : Nat) : Int) := by
    have : n * n ≤ 2 * span * (H + p) := by
      have e : 2 * (H + p) * span = 2 * span * (H + p) := by grind
      omega
    have := Int.ofNat_le.mpr this
    rw [Int.natCast_mul, Int.natCast_mul, Int.natCast_mul] at this
    exact this
  refine ⟨_, rfl, fun z => (nomatch z), fun _ => ⟨fun z => ?_, fun _ => ⟨mul_l (by omega) (by omega), mul_l (by decide) (by decide), _, capL_last L, mul_r (by omega) (by omega), fun z => ?_, fun _ => ?_⟩⟩⟩
  · have z := of_decide_eq_true z
    omega
  · have z := of_decide_eq_true z
    omega
  · refine ⟨f, H, p, n, _, rfl, rfl, L, hb, by omega, ?_⟩
    have h1 := hB.1
    have h2 := hB.2
    refine ⟨fun _ => ⟨f, H, p, n + 1, _, rfl, by omega, L, hb, by omega, ?_⟩, fun z => ?_⟩
    · exact bl_t (by omega) q
    · have z := of_decide_eq_false z
      omega
def S__law_beginning : DSp := fun ds Q => ∃ (h r : List Nat) (n : Nat) (i : Int), ds = [.str h, .str r, .int i] ∧ i = n ∧ 0 < r.length ∧ r.length ≤ 1000 ∧ h.length ≤ 1000 ∧ n ≤ 100000 ∧ Q (.str (wd (en h r) 0 n))
theorem len__law_beginning : ∀ ds Q, S__law_beginning ds Q → ds.length = (["head", "ring", "span"] : List Str).length := by rintro _ _ ⟨_, _, _, _, rfl, _⟩; rfl
theorem rd__law_beginning (ds : List D) (Q : D → Prop) (h : S__law_beginning ds Q) : t__law_beginning { nx := fun _ => false = false ∧ Q .non, rt := Q } (startD 3 ds) := by
  obtain ⟨h, r, n, i, rfl, rfl, hr, hr2, hh, hn, q⟩ := h
  have hsl : sizeLine = 16777216 := sizeLine_eq
  have qv : (n : Int) / (r.length : Nat) + 1 = ((n / r.length + 1 : Nat) : Int) := by
    rw [Int.natCast_add, Int.natCast_ediv]; rfl
  have hdl : n / r.length ≤ n := Nat.div_le_self _ _
  have hml : n / r.length * r.length ≤ n := Nat.div_mul_le_self _ _
  have hlt : n < n / r.length * r.length + r.length := Nat.lt_div_mul_add hr
  have hm : (n / r.length + 1) * r.length = n / r.length * r.length + r.length := Nat.succ_mul _ _
  have hd0 : (0 : Int) ≤ (n : Int) / (r.length : Nat) := Int.ediv_nonneg (by omega) (by omega)
  have e0 := en_rep (h := h) hr (n / r.length + 1)
  refine ⟨by omega, by omega, log_ok (by omega) (by omega), by rw [qv]; omega, by rw [qv, Int.toNat_natCast, Nat.mul_comm]; omega, by omega, by rw [qv, Int.toNat_natCast, rep_len]; omega, ?_⟩
  rw [qv, Int.toNat_natCast, e0]
  refine ⟨by rw [wd_len]; omega, ?_⟩
  rw [cut_to _ rfl, wd_take (by omega)]
  exact q
end K26

set_option linter.all false
set_option maxRecDepth 100000
set_option maxHeartbeats 2000000
namespace K26
open PySem PySem.Spec PyProof.Rows L2 DL Lb
theorem flat_wd {f : Fn} : ∀ (L : List (List Nat)) (z : List Nat) (a n : Nat), L.flatten ++ z = wd f a n → ∀ x ∈ L, ∃ j, x = wd f j x.length
  | [], _, _, _, _, x, hx => by cases hx
  | y :: L, z, a, n, h, x, hx => by
    rw [List.flatten_cons, List.append_assoc] at h
    have hl := congrArg List.length h
    rw [List.length_append, wd_len] at hl
    have hy : y = wd f a y.length := by
      have := congrArg (List.take y.length) h
      rw [List.take_left', wd_take (by omega)] at this
      · exact this
      · rfl
    rcases List.mem_cons.mp hx with rfl | hx
    · exact ⟨a, hy⟩
    · have h2 : L.flatten ++ z = wd f (a + y.length) (n - y.length) := by
        have := congrArg (List.drop y.length) h
        rw [List.drop_left', wd_drop] at this
        · exact this
        · rfl
      exact flat_wd L z _ _ h2 x hx
theorem words_le {f : Fn} {H p n : Nat} (L : LF f H p) {us : List (List Nat)} (nd : us.Nodup) (h : ∀ x ∈ us, ∃ j, x = wd f j n) : us.length ≤ nW f (H + p) n := by
  unfold nW
  rw [nDiff_nub]
  refine nodup_sub nd fun x hx => nub_mem.mpr ?_
  rw [List.mem_reverse, mem_wds]
  obtain ⟨k, rfl⟩ := h x hx
  by_cases z : k < H + p
  · exact ⟨k, z, rfl⟩
  · have hq := Nat.mod_lt (k - H) L.pos
    refine ⟨H + (k - H) % p, by omega, wd_eq.mpr fun i _ => ?_⟩
    have e := Nat.mod_add_div (k - H) p
    have := L.per.mul ((k - H) / p) (H + (k - H) % p + i) (by omega)
    rw [← this]
    congr 1
    omega
theorem cap_at {f : Fn} {H p N i c : Nat} (L : LF f H p) (h : (capF f (H + p) N)[i]? = some c) : c = nW f (H + p) (i + 1) := by
  have pp := L.pos
  by_cases hi : i < H + p - 1
  · rw [cap_get hi] at h
    exact (Option.some.inj h).symm
  · have : c = H + p := by
      unfold capF at h
      rw [List.getElem?_append_right (by rw [List.length_map, List.length_range]; omega)] at h
      exact (List.mem_replicate.mp (List.mem_of_getElem? h)).2
    rw [this, L.all (by omega)]
theorem pieces_in {A : List Nat} {f : Fn} {H p span n : Nat} (L : LF f H p) (ht : TextOf A (wd f 0 span)) (h : IsB f (H + p) span n) : (lz (wd f 0 span)).1.length ≤ n := by
  have pp := L.pos
  have ok := lz_ok ht
  have nd := pcs_nodup ok.good.toGood
  have hps := pcs_sum (t := wd f 0 span)
  rw [wd_len] at hps
  have hl := pcs_len (lz (wd f 0 span)).1
  have hcons : ∃ ps, pcs (lz (wd f 0 span)).1 = [] :: ps := by
    have := pcs_zero (lz (wd f 0 span)).1
    cases h : pcs (lz (wd f 0 span)).1 with
    | nil => rw [h] at this; simp at this
    | cons x ps => rw [h] at this; exact ⟨ps, by rw [show x = [] by simpa using this]⟩
  obtain ⟨ps, hp⟩ := hcons
  have htx := ok.txt
  have hfac := flat_wd _ _ 0 span htx
  rw [hp] at nd hps hl hfac
  rw [List.nodup_cons] at nd
  obtain ⟨m, hm⟩ : ∃ m, m = (lz (wd f 0 span)).1.length := ⟨_, rfl⟩
  have hpm : ps.length = m := by rw [List.length_cons] at hl; omega
  have key := least_sum (capF f (H + p) (m + 1)) 1 (ps.map List.length) (fun x hx => by
    obtain ⟨q, hq, rfl⟩ := List.mem_map.mp hx
    cases q with
    | nil => exact absurd hq nd.1
    | cons _ _ => simp) (fun i c hi => by
    rw [cap_at L hi]
    have hmap : ((ps.map List.length).filter fun x => decide (x = 1 + i)).length = (ps.filter fun q => decide (q.length = 1 + i)).length := by
      rw [List.filter_map, List.length_map]; rfl
    rw [hmap]
    refine words_le L (nd.2.sublist List.filter_sublist) fun x hx => ?_
    rw [List.mem_filter] at hx
    obtain ⟨j, hj⟩ := hfac x (List.mem_cons_of_mem _ hx.1)
    have hxl : x.length = 1 + i := by simpa using hx.2
    exact ⟨j, by rw [hj, hxl, Nat.add_comm]⟩)
  rw [List.length_map, hpm] at key
  simp only [List.map_cons, List.length_nil, List.sum_cons, Nat.zero_add] at hps
  have h2 := wt_le_I 1 m (capF f (H + p) (m + 1))
  have h3 : wtF f (H + p) m ≤ span := by unfold wtF; omega
  rw [← hm]
  rcases Nat.lt_or_ge n m with z | z
  · have := wtF_le (f := f) (v := H + p) (by omega) (show n + 1 ≤ m from z)
    have := h.2
    omega
  · exact z
end K26

set_option linter.all false
set_option maxRecDepth 100000
set_option maxHeartbeats 2000000
namespace K26
open PySem PySem.Spec PyProof.Rows L2 DL Lb
theorem str_sh {A t : List Nat} (hA : IsAlpha A) (ht : TextOf A t) (n : Nat) : shD n (.str t) = true := by
  have : PyData.strOk ⟨t.toArray⟩ = true := by
    unfold PyData.strOk
    rw [List.all_toArray, List.all_eq_true]
    intro c hc
    have := LET_lt c (hA.let_ c (ht c hc))
    exact decide_eq_true (by omega)
  cases n <;> exact this
theorem strs_sh {A : List Nat} (hA : IsAlpha A) (n : Nat) : ∀ {ts : List (List Nat)}, (∀ t ∈ ts, TextOf A t) → shDs n (ts.map .str) = true
  | [], _ => rfl
  | t :: ts, h => by
    show (shD n (.str t) && shDs n (ts.map .str)) = true
    rw [str_sh hA (h t (List.mem_cons_self ..)), strs_sh hA n fun u hu => h u (List.mem_cons_of_mem _ hu)]; rfl
theorem rows_sh {A : List Nat} (hA : IsAlpha A) (n : Nat) : ∀ {rows : List Lb.Row}, (∀ r ∈ rows, r.2 ∈ A) → shDs (n + 1) (rowsD rows) = true
  | [], _ => rfl
  | r :: rows, h => by
    show (shD (n + 1) (rowD r) && shDs (n + 1) (rowsD rows)) = true
    rw [rows_sh hA n fun u hu => h u (List.mem_cons_of_mem _ hu), Bool.and_true]
    show (true && (shD n (.str [r.2]) && true)) = true
    rw [str_sh hA (TextOf.one (h r (List.mem_cons_self ..)))]; rfl
theorem strs_eq : ∀ ts : List (List Nat), eqDs (ts.map .str) (ts.map .str) = true
  | [] => rfl
  | t :: ts => by
    show ((t == t) && eqDs (ts.map .str) (ts.map .str)) = true
    rw [strs_eq ts]; simp
theorem rows_eq : ∀ rows : List Lb.Row, eqDs (rowsD rows) (rowsD rows) = true
  | [] => rfl
  | r :: rows => by
    show (((((r.1 : Nat) : Int) == ((r.1 : Nat) : Int)) && (([r.2] == [r.2]) && true)) && eqDs (rowsD rows) (rowsD rows)) = true
    rw [rows_eq rows]; simp
def S__law_pieces_within (Ad : Str → Addr) : DSp := fun ds Q => ∃ (A h r : List Nat) (H p span n : Nat) (i j : Int), ds = [.str A, rndI Ad A (en h r) H p, .lst [.str h, .str r], .int i, .int j] ∧ i = span ∧ j = n ∧ IsAlpha A ∧ TextOf A h ∧ TextOf A r ∧ 0 < r.length ∧ r.length ≤ 60 ∧ h.length ≤ 1000 ∧ LF (en h r) H p ∧ H ≤ h.length ∧ p ≤ r.length ∧ span ≤ 5000 ∧ IsB (en h r) (H + p) span n ∧ Q (.bl true)
theorem len__law_pieces_within (Ad : Str → Addr) : ∀ ds Q, S__law_pieces_within Ad ds Q → ds.length = (["alphabet", "world", "made", "span", "told"] : List Str).length := by rintro _ _ ⟨_, _, _, _, _, _, _, _, _, rfl, _⟩; rfl
theorem rd__law_pieces_within (Ad : Str → Addr) (ds : List D) (Q : D → Prop) (h : S__law_pieces_within Ad ds Q) : t__law_pieces_within Ad (S_Round_beginning Ad) S__law_beginning (S_cut_of Ad) S__law_cut S__law_whole { nx := fun _ => false = false ∧ Q .non, rt := Q } (startD 8 ds) := by
  obtain ⟨A, h, r, H, p, span, n, i, j, rfl, rfl, rfl, hA, h1, h2, hr, hr2, hh, L, hH, hp, hs, hB, q⟩ := h
  have hsl : sizeLine = 16777216 := sizeLine_eq
  have hC : Ad "Cut" ∈ ([Ad "Cut"] : List Addr) := List.mem_singleton.mpr rfl
  have tw : TextOf A (wd (en h r) 0 span) := wd_txt fun i => en_in hr h1 h2 i
  have lw : (wd (en h r) 0 span).length = span := wd_len
  have hin := pieces_in L tw hB
  have ok := lz_ok tw
  obtain ⟨w, hw⟩ : ∃ w, w = wd (en h r) 0 span := ⟨_, rfl⟩
  have hpt : ∀ t ∈ pcs (lz w).1, TextOf A t := fun t ht c hc => by
    rw [hw] at ht
    exact tw c (by rw [← ok.txt]; exact List.mem_append_left _ (List.mem_flatten.mpr ⟨t, ht, hc⟩))
  rw [← hw] at hin ok
  have ltr := ok.good.ltr
  refine ⟨rfl, by decide, A, en h r, H, p, span, rfl, L, by omega, by omega, ?_⟩
  refine ⟨.str h, rfl, .str r, rfl, h, r, span, _, rfl, rfl, hr, by omega, by omega, by omega, fun z => ?_, fun _ => ?_⟩
  · simp at z
  rw [← hw]
  refine ⟨A, w, rfl, hA, by rw [hw]; exact tw, by rw [hw, lw]; omega, ?_⟩
  refine ⟨w, rfl, by rw [hw, lw]; omega, ?_⟩
  obtain ⟨rows, hrows⟩ : ∃ rows, rows = (lz w).1 := ⟨_, rfl⟩
  rw [← hrows] at hin ltr hpt ⊢
  refine ⟨hC, _, rfl, _, rfl, rows_sh hA 58 ltr, rows_sh hA 58 ltr, fun z => ?_, fun _ => ⟨hC, _, rfl, _, rfl, fun z => ?_, fun _ => ⟨hC, _, rfl, _, rfl, strs_sh hA 59 hpt, strs_sh hA 59 hpt, fun z => ?_, fun _ => ⟨hC, _, rfl, _, rfl, (fun z => nomatch z), fun _ => ?_⟩⟩⟩⟩
  · rw [show eqD (D.tup (rowsD rows)) (D.tup (rowsD rows)) = true from rows_eq rows] at z; cases z
  · simp at z
  · rw [show eqD (D.tup ((pcs rows).map .str)) (D.tup ((pcs rows).map .str)) = true from strs_eq _] at z; cases z
  · have hrl : (rowsD rows).length = rows.length := by rw [rowsD, List.length_map]
    refine ⟨hC, _, rfl, _, rfl, fun _ => ⟨_, rfl, bl_t (by rw [hrl]; omega) q⟩, fun z => ?_⟩
    have z := of_decide_eq_false z
    rw [hrl] at z
    exact absurd rfl z
end K26

set_option linter.all false
set_option maxRecDepth 100000
set_option maxHeartbeats 2000000
namespace K26
open PySem PySem.Spec PyProof.Rows L2 DL Lb
def S__law_giant : DSp := fun ds Q => ∃ row : List Int, ds = [.lst (row.map .int)] ∧ RowOk Pgiant row ∧ ∀ (n : Nat) (i : Int), i = n → n < 10 ^ 31 → Q (.int i)
theorem len__law_giant : ∀ ds Q, S__law_giant ds Q → ds.length = (["row"] : List Str).length := by rintro _ _ ⟨_, rfl, _⟩; rfl
theorem rd__law_giant (ds : List D) (Q : D → Prop) (h : S__law_giant ds Q) : t__law_giant { nx := fun _ => false = false ∧ Q .non, rt := Q } (startD 3 ds) := by
  obtain ⟨row, rfl, hr, q⟩ := h
  obtain ⟨x0, _, a0, b0, c0⟩ := hr.get 0 (z := 32) rfl
  refine ⟨.int x0, a0 _ rfl, fun hb => ?_, fun hb => ?_⟩
  · exact ⟨by decide, by decide, by decide, q (10 ^ 30) _ (by decide) (by decide)⟩
  · have hb := of_decide_eq_false hb
    refine ⟨.int x0, a0 _ rfl, by omega, by omega, fun k env => ∃ (n : Nat) (i : Int) (x : Sl), env = [.fz (.lst (row.map .int)), .fz (.int i), x] ∧ i = n ∧ n < 10 ^ k, ⟨0, 0, _, rfl, rfl, by decide⟩, ?_, ?_⟩
    · rintro k d _ hd ⟨n, i, x, rfl, rfl, hn⟩
      obtain ⟨hk, rfl⟩ := rngD_get hd
      have hz : Pgiant[1 + k]? = some 10 := by
        have : ∀ k : Nat, k < 30 → Pgiant[1 + k]? = some 10 := by decide
        exact this k (by omega)
      obtain ⟨v, gv, av, bv, cv⟩ := hr.get (1 + k) hz
      exact ⟨mul_r (by decide) (by decide), .int v, av _ (by omega), n * 10 + v.toNat, _, _, rfl, by omega, by rw [Nat.pow_succ]; omega⟩
    · rintro _ ⟨n, i, x, rfl, rfl, hn⟩
      rw [rngD_len] at hn
      have : (10 : Nat) ^ (x0 - 0).toNat ≤ 10 ^ 30 := Nat.pow_le_pow_right (by decide) (by omega)
      refine q n _ rfl (Nat.lt_of_lt_of_le ?_ (show 10 ^ 30 ≤ 10 ^ 31 by decide))
      first | omega | (simp only [Int.sub_zero] at this hn; omega)
def NatsB (ds : List D) : Prop := ∀ d ∈ ds, ∃ n : Nat, n < 10 ^ 32 ∧ d = .int n
theorem capL_take {f : Fn} {v k : Nat} (h : k < v) : (capL f v).take (k + 1) = (capL f v).take k ++ [.int (nW f v (k + 1) : Nat)] := by
  rw [List.take_succ, capL_at h]; rfl
/-- the law's words of a form -/
theorem form_words {f : Fn} {H p n : Nat} {i : Int} {Q : D → Prop} (hi : i = n) (L : LF f H p) (hH : H ≤ 1000) (hp : p ≤ 60) (hn : n ≤ 2000) (q : Q (.int (nW f (H + p) n : Nat))) : S__law_words [.str (wd f 0 H), .str (wd f H p), .int i] Q := by
  have l1 : (wd f 0 H).length = H := wd_len
  have l2 : (wd f H p).length = p := wd_len
  have e := en_wd L.pos L.per
  refine ⟨wd f 0 H, wd f H p, n, H, p, _, rfl, hi, by rw [l2]; exact L.pos, by omega, by omega, hn, by rw [e]; exact L, by omega, by omega, ?_⟩
  rw [e]; exact q
def S__law_long_right (Ad : Str → Addr) : DSp := fun ds Q => ∃ (A h r : List Nat) (row : List Int) (xs : List D), ds = [.str A, .lst [.str h, .str r], .lst (row.map .int), .lst xs] ∧ NatsB xs ∧ RowOk [8, 101] row ∧ IsAlpha A ∧ TextOf A r ∧ 0 < r.length ∧ r.length ≤ 60 ∧ Q (.bl true)
theorem len__law_long_right (Ad : Str → Addr) : ∀ ds Q, S__law_long_right Ad ds Q → ds.length = (["alphabet", "made", "row", "lengths"] : List Str).length := by rintro _ _ ⟨_, _, _, _, _, rfl, _⟩; rfl
theorem rd__law_long_right (Ad : Str → Addr) (ds : List D) (Q : D → Prop) (h : S__law_long_right Ad ds Q) : t__law_long_right Ad (S_cut_of Ad) S__law_counting_text S__law_form S__law_words S__law_exact (S_pieces_bound Ad) (S_Round Ad) { nx := fun _ => false = false ∧ Q .non, rt := Q } (startD 10 ds) := by
  obtain ⟨A, h, r, row, xs, rfl, hx, hrow, hA, h2, hr, hr2, q⟩ := h
  have hsl : sizeLine = 16777216 := sizeLine_eq
  have hA1 := hA.pos
  obtain ⟨x0, _, a0, b0, c0⟩ := hrow.get 0 (z := 8) rfl
  obtain ⟨x1, _, a1, b1, c1⟩ := hrow.get 1 (z := 101) rfl
  have hC : Ad "Cut" ∈ ([Ad "Cut"] : List Addr) := List.mem_singleton.mpr rfl
  obtain ⟨n, rfl⟩ : ∃ n : Nat, x1 = n := ⟨x1.toNat, by omega⟩
  have tc : TextOf A (cntT A n) := cntT_txt n
  have lc : (cntT A n).length = n := cntT_len hA1 n
  have htx := (lz_ok tc).txt
  refine ⟨.int x0, a0 _ rfl, fun hb => q, fun hb => ?_⟩
  refine ⟨.int n, a1 _ rfl, A, n, _, rfl, rfl, by omega, hA, A, cntT A n, rfl, hA, tc, by omega, hC, .str (cntT A n), ?_, ?_⟩
  · exact (show lkD ("text" : Str) cutFs (cutVs A (lz (cntT A n)).1 (lz (cntT A n)).2) = some (.str ((pcs (lz (cntT A n)).1).flatten ++ (pcs (lz (cntT A n)).1).getD (lz (cntT A n)).2 [])) from rfl).trans (by rw [htx])
  refine ⟨.int n, a1 _ rfl, A, n, _, rfl, rfl, by omega, hA, fun hb => ?_, fun hb => ?_⟩
  · simp at hb
  refine ⟨.str r, rfl, cntT A n, r, rfl, hr, hr2, by omega, fun H p L hH hp => ?_⟩
  obtain ⟨f, hf⟩ : ∃ f, f = en (cntT A n) r := ⟨_, rfl⟩
  rw [← hf] at L ⊢
  have pp := L.pos
  have l1 : (wd f 0 H).length = H := wd_len
  have l2 : (wd f H p).length = p := wd_len
  have ev : (((wd f 0 H).length : Nat) : Int) + ((wd f H p).length : Nat) = ((H + p : Nat) : Int) := by omega
  refine ⟨.str (wd f 0 H), rfl, by omega, .str (wd f H p), rfl, by omega, by omega, by omega, fun k acc e => acc = (capL f (H + p)).take k ∧ e = [.fz (.str A), .fz (.lst [.str h, .str r]), .fz (.lst (row.map .int)), .fz (.lst xs), .fz (.str (cntT A n)), .fz (.lst [.str (wd f 0 H), .str (wd f H p)]), .no, .no, .no, .no], ⟨rfl, rfl⟩, ?_, ?_⟩
  · rintro k d acc _ hd ⟨rfl, rfl⟩
    obtain ⟨hk, rfl⟩ := rngD_get hd
    have hk2 : k < H + p := by omega
    have e1 : (0 : Int) + (k : Int) + 1 = ((k + 1 : Nat) : Int) := by omega
    have ew := en_wd pp L.per
    refine ⟨fun _ => ⟨.str (wd f 0 H), rfl, .str (wd f H p), rfl, wd f 0 H, wd f H p, k + 1, H, p, _, rfl, e1, by rw [l2]; exact pp, by omega, by omega, by omega, by rw [ew]; exact L, by omega, by omega, ?_, ?_, rfl⟩, fun z => nomatch z⟩
    · rw [List.length_take, capL_len]; omega
    · rw [ew]; exact (capL_take hk2).symm
  · rintro acc _ ⟨rfl, rfl⟩
    rw [rngD_len, ev, Int.toNat_natCast, List.take_of_length_le (by rw [capL_len]; exact Nat.le_refl _)]
    refine ⟨.str r, rfl, A, cntT A n, r, rfl, hA, tc, h2, hr, by omega, by omega, fun H' p' L' _ _ => ?_⟩
    rw [← hf] at L' ⊢
    obtain ⟨rfl, rfl⟩ := L.uniq L'
    refine ⟨fun k env => ∃ x8 : Sl, env = [.fz (.str A), .fz (.lst [.str h, .str r]), .fz (.lst (row.map .int)), .fz (.lst xs), .fz (.str (cntT A n)), .fz (.lst [.str (wd f 0 H), .str (wd f H p)]), .fz (.lst (capL f (H + p))), .fz (rndI Ad A f H p), x8, .no], ⟨_, rfl⟩, ?_, ?_⟩
    · rintro k d _ hd ⟨x8, rfl⟩
      obtain ⟨m, hm, rfl⟩ := hx d (List.mem_of_getElem? hd)
      exact ⟨A, f, H, p, m, _, rfl, rfl, L, by omega, hm, fun b hB => ⟨f, H, p, m, b, _, _, rfl, rfl, rfl, L, by omega, hm, hB, (fun z => nomatch z), fun _ => ⟨_, rfl⟩⟩⟩
    · rintro _ ⟨x8, rfl⟩
      exact q
end K26

set_option linter.all false
set_option maxRecDepth 100000
set_option maxHeartbeats 2000000
namespace K26
open PySem PySem.Spec PyProof.Rows L2 DL Lb
def S_law : DSp := spLawD
theorem len_law : ∀ ds Q, S_law ds Q → ds.length = (["script"] : List Str).length := by rintro _ _ ⟨_, rfl, _⟩; rfl
def natI (ms : List Nat) : List D := ms.map fun (m : Nat) => .int m
theorem natI_sh (n : Nat) : ∀ ms : List Nat, shDs n (natI ms) = true
  | [] => by cases n <;> rfl
  | m :: ms => by
    show (shD n (.int m) && shDs n (natI ms)) = true
    rw [natI_sh n ms]
    cases n <;> rfl
theorem natI_eq : ∀ ms : List Nat, eqDs (natI ms) (natI ms) = true
  | [] => rfl
  | m :: ms => by
    show ((((m : Nat) : Int) == ((m : Nat) : Int)) && eqDs (natI ms) (natI ms)) = true
    rw [natI_eq ms]; simp
def tb (f : Fn) (v n : Nat) : Nat := fl 1 n (capF f v (n + 1))
theorem tb_ok {f : Fn} {v n : Nat} (hv : 0 < v) : IsB f v n (tb f v n) := IsB.of_fl hv (Nat.le_refl _)
theorem wt_le : ∀ (k m : Nat) (cs : List Nat), wt k m cs ≤ m * (k + cs.length)
  | _, _, [] => Nat.zero_le _
  | k, m, c :: cs => by
    have ih := wt_le (k + 1) (m - min m c) cs
    simp only [wt, List.length_cons]
    have e : m * (k + (cs.length + 1)) = min m c * (k + (cs.length + 1)) + (m - min m c) * (k + (cs.length + 1)) := by rw [← Nat.add_mul]; congr 1; omega
    have h1 : min m c * k ≤ min m c * (k + (cs.length + 1)) := Nat.mul_le_mul_left _ (by omega)
    rw [show k + 1 + cs.length = k + (cs.length + 1) by omega] at ih
    omega
theorem wtF_small {f : Fn} {v m : Nat} (hv : v ≤ 2000) (hm : m < 10 ^ 15) : wtF f v m < 10 ^ 32 := by
  have h := wt_le 1 m (capF f v (m + 1))
  have hl : (capF f v (m + 1)).length ≤ v + m + 1 := by
    unfold capF
    rw [List.length_append, List.length_map, List.length_range, List.length_replicate]; omega
  have h2 : m * (1 + (capF f v (m + 1)).length) ≤ 10 ^ 15 * (10 ^ 15 + 2003) := Nat.mul_le_mul (by omega) (by omega)
  have h3 : (10 : Nat) ^ 15 * (10 ^ 15 + 2003) < 10 ^ 32 := by decide
  unfold wtF
  omega
theorem isB_edge {f : Fn} {v m : Nat} (hv : 0 < v) : IsB f v (wtF f v m) m := ⟨Nat.le_refl _, wtF_lt hv⟩
theorem isB_edge2 {f : Fn} {v m : Nat} (hv : 0 < v) : IsB f v (wtF f v m - 1) (m - 1) := by
  cases m with
  | zero =>
    have : wtF f v 0 = 0 := wt_zero _ _
    have h := wtF_lt (f := f) (n := 0) hv
    rw [this] at h ⊢
    show wtF f v 0 ≤ 0 ∧ 0 < wtF f v (0 + 1)
    exact ⟨by omega, h⟩
  | succ m =>
    have h := wtF_lt (f := f) (n := m) hv
    rw [Nat.add_sub_cancel]
    exact ⟨by omega, by omega⟩
section
variable {Ad : Str → Addr} {A h r : List Nat} {H p : Nat} {ns : List Int} {ms : List Nat} {e2 e3 e4 x12 x13 x14 x15 x16 : Sl} {Q : D → Prop} {ex : List Int}
abbrev env26 (Ad : Str → Addr) (ns : List Int) (A : List Nat) (e2 e3 e4 : Sl) (h r : List Nat) (H p : Nat) (ex : List Int) (ms : List Nat) (first x12 x13 x14 x15 x16 : Sl) : DEnv :=
  [.fz (.scr ns), .fz (.str A), e2, e3, e4, .fz (.lst [.str h, .str r]), .fz (.lst [.str (wd (en h r) 0 H), .str (wd (en h r) H p)]), .fz (.lst (capL (en h r) (H + p))), .fz (rndI Ad A (en h r) H p), .fz (.lst (ex.map .int)), .fz (.lst (natI ms)), first, x12, x13, x14, x15, x16]
structure Cx26 (A h r : List Nat) (H p : Nat) (ex : List Int) (ms : List Nat) : Prop where
  hA : IsAlpha A
  h1 : TextOf A h
  h2 : TextOf A r
  hr : 0 < r.length
  hr2 : r.length ≤ 60
  hh : h.length ≤ 1000
  L : LF (en h r) H p
  hH : H ≤ h.length
  hp : p ≤ r.length
  ex : RowOk [401, 401, 8, 3001, 201] ex
  small : ∀ m ∈ ms, m ≤ 5000
  ms1 : 0 < ms.length
  ms3 : ms.length ≤ 3
abbrev R1 (Ad : Str → Addr) : DS := r_law_1 S__law_alphabet S__law_digits S__law_cell S__law_writing S__law_form S__law_words (S_pieces_bound Ad) S__law_exact (S__law_pieces_within Ad) S__law_giant (S__law_long_right Ad) S__law_least_letters (S_Round Ad)
theorem br_law_1 {g : Int} (c : Cx26 A h r H p ex ms) (q : Q (.bl true)) : R1 Ad { nx := fun _ => false = false ∧ Q .non, rt := Q } (env26 Ad ns A e2 e3 e4 h r H p ex ms (.ow (.lst (natI (ms.map (tb (en h r) (H + p)))))) (.fz (.int g)) x13 x14 x15 x16) := by
  have hsl : sizeLine = 16777216 := sizeLine_eq
  obtain ⟨hA, h1, h2, hr, hr2, hh, L, hH, hp, hex, hms, hm1, hm3⟩ := c
  have pp := L.pos
  obtain ⟨m0, ms', rfl⟩ : ∃ m0 ms', ms = m0 :: ms' := by
    cases ms with
    | nil => exact absurd hm1 (by decide)
    | cons a b => exact ⟨a, b, rfl⟩
  have hm0 := hms m0 (List.mem_cons_self ..)
  refine ⟨.int m0, atI_of (k := 0) rfl rfl, rfl, rfl, A, en h r, H, p, m0, _, rfl, rfl, L, by omega, by omega, fun n hB => ⟨trivial, .int (tb (en h r) (H + p) m0), atI_of (k := 0) rfl rfl, fun z => ?_, fun _ => ?_⟩⟩
  · rw [hB.uniq (by omega) (tb_ok (by omega))] at z
    simp at z
  have l1 : (wd (en h r) 0 H).length = H := wd_len
  have l2 : (wd (en h r) H p).length = p := wd_len
  have ew := en_wd pp L.per
  have fin : ∀ i, en h r i ∈ A := fun i => en_in hr h1 h2 i
  refine ⟨fun k acc e => acc = natI (((m0 :: ms').take k).map (tb (en h r) (H + p))) ∧ e = env26 Ad ns A e2 e3 e4 h r H p ex (m0 :: ms') (.ow (.lst (natI ((m0 :: ms').map (tb (en h r) (H + p)))))) .no x13 x14 x15 x16, ⟨rfl, rfl⟩, ?_, ?_⟩
  · rintro k d acc _ hd ⟨rfl, rfl⟩
    obtain ⟨m, hm, rfl⟩ := map_get hd
    have hm5 := hms m (List.mem_of_getElem? hm)
    have hkl := (List.getElem?_eq_some_iff.mp hm).1
    refine ⟨fun _ => ⟨.str (wd (en h r) 0 H), rfl, .str (wd (en h r) H p), rfl, A, wd (en h r) 0 H, wd (en h r) H p, rfl, hA, wd_txt fin, wd_txt fin, by omega, by omega, by omega, fun H' p' L' _ _ => ?_⟩, fun z => nomatch z⟩
    rw [ew] at L' ⊢
    obtain ⟨rfl, rfl⟩ := L.uniq L'
    refine ⟨A, en h r, H, p, m, _, rfl, rfl, L, by omega, by omega, fun n hB => ⟨?_, ?_, rfl⟩⟩
    · rw [natI, List.length_map, List.length_map, List.length_take]; omega
    · rw [hB.uniq (by omega) (tb_ok (by omega)), List.take_succ, hm, List.map_append]
      unfold natI
      rw [List.map_append]; rfl
  · rintro acc _ ⟨rfl, rfl⟩
    have hll : (natI (m0 :: ms')).length = (m0 :: ms').length := List.length_map _
    rw [hll, List.take_length]
    refine ⟨natI_sh 59 _, natI_sh 59 _, ?_⟩
    show Q (.bl (eqDs (natI _) (natI _)))
    rw [natI_eq]
    exact q
abbrev R2 (Ad : Str → Addr) : DS := r_law_2 S__law_alphabet S__law_digits S__law_cell S__law_writing S__law_form S__law_words (S_pieces_bound Ad) S__law_exact (S__law_pieces_within Ad) S__law_giant (S__law_long_right Ad) S__law_least_letters (S_Round Ad)
theorem br_law_2 {g : Int} {gn : Nat} (hg : g = gn) (hg2 : gn < 10 ^ 32) (c : Cx26 A h r H p ex ms) (q : Q (.bl true)) : R2 Ad { nx := fun _ => false = false ∧ Q .non, rt := Q } (env26 Ad ns A e2 e3 e4 h r H p ex ms (.ow (.lst (natI (ms.map (tb (en h r) (H + p)))))) (.fz (.int g)) x13 x14 x15 x16) := by
  have hsl : sizeLine = 16777216 := sizeLine_eq
  have h2s : 2 ≤ sizeLine := by omega
  have c' := c
  obtain ⟨hA, h1, h2, hr, hr2, hh, L, hH, hp, hex, hms, hm1, hm3⟩ := c
  have pp := L.pos
  obtain ⟨y0, _, b0, p0, q0⟩ := hex.get 0 (z := 401) rfl
  obtain ⟨y4, _, b4, p4, q4⟩ := hex.get 4 (z := 201) rfl
  have e15 : (10 : Int) ^ Int.toNat 15 = 1000000000000000 := by decide
  have n15 : (10 : Nat) ^ 15 = 1000000000000000 := by decide
  have n62 : (2 : Nat) ^ 62 = 4611686018427387904 := by decide
  refine ⟨ns, 8, rfl, by decide, by decide, fun cc => ⟨h2s, cc, [8, 101], rfl, by decide, by decide, fun row hrow => ⟨.int y0, b0 _ rfl, h2s, A, h, r, row, _, rfl, ?_, hrow, hA, h2, hr, hr2, (fun z => nomatch z), fun _ => ?_⟩⟩⟩
  · intro d hd
    simp only [List.mem_cons, List.not_mem_nil, or_false] at hd
    rcases hd with rfl | rfl
    · exact ⟨y0.toNat, Nat.lt_of_lt_of_le (show y0.toNat < 401 by omega) (by decide), by rw [Int.toNat_of_nonneg p0]⟩
    · exact ⟨gn, hg2, by rw [hg]⟩
  · refine ⟨.int y4, b4 _ rfl, by decide, by decide, by decide, by decide, h2s, fun k env => ∃ x14 x16 : Sl, env = env26 Ad ns A e2 e3 e4 h r H p ex ms (.ow (.lst (natI (ms.map (tb (en h r) (H + p)))))) (.fz (.int g)) x13 x14 x15 x16, ⟨_, _, rfl⟩, ?_, ?_⟩
    · rintro k d _ hd ⟨x14, x16, rfl⟩
      obtain ⟨m, hm, rfl⟩ : ∃ m : Nat, m < 10 ^ 15 ∧ d = .int m := by
        have := List.mem_of_getElem? hd
        simp only [List.mem_cons, List.not_mem_nil, or_false] at this
        rcases this with rfl | rfl
        · exact ⟨y4.toNat, Nat.lt_of_lt_of_le (show y4.toNat < 201 by omega) (by decide), by rw [Int.toNat_of_nonneg p4]⟩
        · refine ⟨gn % 10 ^ 15, Nat.mod_lt _ (by decide), ?_⟩
          rw [e15, n15, hg]
          congr 1
      have hw := wtF_small (f := en h r) (v := H + p) (m := m) (by omega) hm
      refine ⟨en h r, H, p, m, _, rfl, rfl, L, by omega, by omega, A, en h r, H, p, wtF (en h r) (H + p) m, _, rfl, rfl, L, by omega, hw, fun n hB => ⟨fun z => ?_, fun _ => ⟨A, en h r, H, p, wtF (en h r) (H + p) m - 1, _, rfl, by omega, L, by omega, by omega, fun n' hB' => ⟨fun z => ?_, fun _ => ⟨_, _, rfl⟩⟩⟩⟩⟩
      · rw [hB.uniq (by omega) (isB_edge (by omega))] at z
        simp at z
      · have e := hB'.uniq (by omega) (isB_edge2 (by omega))
        have e2 : (n' : Int) = max 0 ((m : Int) - 1) := by omega
        rw [e2] at z
        simp at z
    · rintro _ ⟨x14, x16, rfl⟩
      exact br_law_1 c' q
abbrev R3 (Ad : Str → Addr) : DS := r_law_3 S__law_alphabet S__law_digits S__law_cell S__law_writing S__law_form S__law_words (S_pieces_bound Ad) S__law_exact (S__law_pieces_within Ad) S__law_giant (S__law_long_right Ad) S__law_least_letters (S_Round Ad)
theorem br_law_3 (c : Cx26 A h r H p ex ms) (q : Q (.bl true)) : R3 Ad { nx := fun _ => false = false ∧ Q .non, rt := Q } (env26 Ad ns A e2 e3 e4 h r H p ex ms (.ow (.lst (natI (ms.map (tb (en h r) (H + p)))))) x12 x13 x14 x15 x16) := by
  have hsl : sizeLine = 16777216 := sizeLine_eq
  have c' := c
  obtain ⟨hA, h1, h2, hr, hr2, hh, L, hH, hp, hex, hms, hm1, hm3⟩ := c
  have p31 : (10 : Nat) ^ 31 < 10 ^ 32 := by decide
  refine ⟨by decide, by decide, fun k env => ∃ x12 x13 : Sl, env = env26 Ad ns A e2 e3 e4 h r H p ex ms (.ow (.lst (natI (ms.map (tb (en h r) (H + p)))))) x12 x13 x14 x15 x16 ∧ (k = 0 ∨ ∃ gn : Nat, gn < 10 ^ 32 ∧ x12 = .fz (.int gn)), ⟨_, _, rfl, .inl rfl⟩, ?_, ?_⟩
  · rintro k d _ hd ⟨x12, x13, rfl, _⟩
    obtain ⟨hk, rfl⟩ := rngD_get hd
    have hk3 : k < 3 := hk
    refine ⟨ns, _, rfl, by omega, by omega, fun cc => ⟨by show 1 ≤ sizeLine; omega, by show 1 ≤ sizeLine; omega, by decide, by show 1 * 30 ≤ sizeLine; omega, by decide, by show 31 ≤ sizeLine; omega, cc, Pgiant, rfl, by decide, by decide, fun row hrow => ⟨row, rfl, hrow, fun n i hi hn => ?_⟩⟩⟩
    subst hi
    have hn2 : n < 10 ^ 32 := Nat.lt_trans hn p31
    exact ⟨A, en h r, H, p, n, _, rfl, rfl, L, by omega, hn2, fun b hB => ⟨en h r, H, p, n, b, _, _, rfl, rfl, rfl, L, by omega, hn2, hB, (fun z => nomatch z), fun _ => ⟨_, _, rfl, .inr ⟨n, hn2, rfl⟩⟩⟩⟩
  · rintro _ ⟨x12, x13, rfl, hk⟩
    rcases hk with hk | ⟨gn, hg, rfl⟩
    · exact absurd hk (by decide)
    · exact br_law_2 rfl hg c' q
abbrev R4 (Ad : Str → Addr) : DS := r_law_4 S__law_alphabet S__law_digits S__law_cell S__law_writing S__law_form S__law_words (S_pieces_bound Ad) S__law_exact (S__law_pieces_within Ad) S__law_giant (S__law_long_right Ad) S__law_least_letters (S_Round Ad)
theorem br_law_4 (c : Cx26 A h r H p ex ms) (q : Q (.bl true)) : R4 Ad { nx := fun _ => false = false ∧ Q .non, rt := Q } (env26 Ad ns A e2 e3 e4 h r H p ex ms .no .no .no .no .no .no) := by
  have hsl : sizeLine = 16777216 := sizeLine_eq
  have c' := c
  obtain ⟨hA, h1, h2, hr, hr2, hh, L, hH, hp, hex, hms, hm1, hm3⟩ := c
  have pp := L.pos
  have p32 : 5000 < (10 : Nat) ^ 32 := by decide
  refine ⟨Nat.zero_le _, fun k env => ∃ x12 x15 : Sl, env = env26 Ad ns A e2 e3 e4 h r H p ex ms (.ow (.lst (natI ((ms.take k).map (tb (en h r) (H + p)))))) x12 .no .no x15 .no, ⟨_, _, rfl⟩, ?_, ?_⟩
  · rintro k d _ hd ⟨x12, x15, rfl⟩
    obtain ⟨m, hm, rfl⟩ := map_get hd
    have hm5 := hms m (List.mem_of_getElem? hm)
    have hkl := (List.getElem?_eq_some_iff.mp hm).1
    refine ⟨A, en h r, H, p, m, _, rfl, rfl, L, by omega, by omega, fun n hB => ⟨?_, en h r, H, p, m, n, _, _, rfl, rfl, rfl, L, by omega, by omega, hB, (fun z => nomatch z), fun _ => ⟨A, h, r, H, p, m, n, _, _, rfl, rfl, rfl, hA, h1, h2, hr, hr2, hh, L, hH, hp, hm5, hB, (fun z => nomatch z), fun _ => ⟨.fz (.int (m : Nat)), .fz (.int (n : Nat)), ?_⟩⟩⟩⟩
    · rw [natI, List.length_map, List.length_map, List.length_take]; omega
    · have e : natI ((ms.take (k + 1)).map (tb (en h r) (H + p))) = natI ((ms.take k).map (tb (en h r) (H + p))) ++ [.int (n : Nat)] := by
        rw [hB.uniq (by omega) (tb_ok (by omega)), List.take_succ, hm, List.map_append]
        unfold natI
        rw [List.map_append]; rfl
      rw [e]; rfl
  · rintro _ ⟨x12, x15, rfl⟩
    have hll : (natI ms).length = ms.length := List.length_map _
    rw [hll, List.take_length]
    exact br_law_3 c' q
theorem rd_law (Ad : Str → Addr) (ds : List D) (Q : D → Prop) (h : S_law ds Q) : t_law S__law_alphabet S__law_digits S__law_cell S__law_writing S__law_form S__law_words (S_pieces_bound Ad) S__law_exact (S__law_pieces_within Ad) S__law_giant (S__law_long_right Ad) S__law_least_letters (S_Round Ad) { nx := fun _ => false = false ∧ Q .non, rt := Q } (startD 17 ds) := by
  obtain ⟨ns, rfl, hn, q, _⟩ := h
  have hsl : sizeLine = 16777216 := sizeLine_eq
  have l60 : ∀ {row : List Int}, RowOk (List.replicate 60 6) row → row.length = 60 := fun h => h.len
  refine ⟨ns, 0, rfl, by decide, by decide, fun c0 => ⟨by show 7 ≤ sizeLine; omega, c0, Psigns, rfl, by decide, by decide, fun row0 hrow0 => ⟨row0, rfl, hrow0, fun A hA => ?_⟩⟩⟩
  refine ⟨ns, 1, rfl, by decide, by decide, fun c1 => ⟨by show 8 ≤ sizeLine; omega, c1, Pwrite, rfl, by decide, by decide, fun row hrow => ?_⟩⟩
  refine ⟨ns, 2, rfl, by decide, by decide, fun c2 => ⟨by show 1 ≤ sizeLine; omega, by decide, by show 1 * 60 ≤ sizeLine; omega, by decide, c2, List.replicate 60 6, rfl, by decide, by decide, fun one hone => ?_⟩⟩
  refine ⟨ns, 3, rfl, by decide, by decide, fun c3 => ⟨by show 1 ≤ sizeLine; omega, by decide, by show 1 * 60 ≤ sizeLine; omega, by decide, c3, List.replicate 60 6, rfl, by decide, by decide, fun two htwo => ?_⟩⟩
  refine ⟨A, row, one, two, rfl, hA, hrow, l60 hone, l60 htwo, fun h r h1 h2 hh hr hr2 => ?_⟩
  refine ⟨.str h, rfl, .str r, rfl, h, r, rfl, hr, hr2, by omega, fun H p L hH hp => ?_⟩
  have pp := L.pos
  have l1 : (wd (en h r) 0 H).length = H := wd_len
  have l2 : (wd (en h r) H p).length = p := wd_len
  have ev : (((wd (en h r) 0 H).length : Nat) : Int) + ((wd (en h r) H p).length : Nat) = ((H + p : Nat) : Int) := by omega
  have ew := en_wd pp L.per
  refine ⟨.str (wd (en h r) 0 H), rfl, by omega, .str (wd (en h r) H p), rfl, by omega, by omega, by omega, fun k acc e => acc = (capL (en h r) (H + p)).take k ∧ e = [.fz (.scr ns), .fz (.str A), .fz (.lst (row.map .int)), .fz (.lst (one.map .int)), .fz (.lst (two.map .int)), .fz (.lst [.str h, .str r]), .fz (.lst [.str (wd (en h r) 0 H), .str (wd (en h r) H p)]), .no, .no, .no, .no, .no, .no, .no, .no, .no, .no], ⟨rfl, rfl⟩, ?_, ?_⟩
  · rintro k d acc _ hd ⟨rfl, rfl⟩
    obtain ⟨hk, rfl⟩ := rngD_get hd
    have hk2 : k < H + p := by omega
    have e1 : (0 : Int) + (k : Int) + 1 = ((k + 1 : Nat) : Int) := by omega
    refine ⟨fun _ => ⟨.str (wd (en h r) 0 H), rfl, .str (wd (en h r) H p), rfl, wd (en h r) 0 H, wd (en h r) H p, k + 1, H, p, _, rfl, e1, by rw [l2]; exact pp, by omega, by omega, by omega, by rw [ew]; exact L, by omega, by omega, ?_, ?_, rfl⟩, fun z => nomatch z⟩
    · rw [List.length_take, capL_len]; omega
    · rw [ew]; exact (capL_take hk2).symm
  · rintro acc _ ⟨rfl, rfl⟩
    rw [rngD_len, ev, Int.toNat_natCast, List.take_of_length_le (by rw [capL_len]; exact Nat.le_refl _)]
    refine ⟨.str h, rfl, .str r, rfl, A, h, r, rfl, hA, h1, h2, hr, by omega, by omega, fun H' p' L' _ _ => ?_⟩
    obtain ⟨rfl, rfl⟩ := L.uniq L'
    refine ⟨ns, 4, rfl, by decide, by decide, fun c => ⟨by show 5 ≤ sizeLine; omega, c, [401, 401, 8, 3001, 201], rfl, by decide, by decide, fun ex hex => ?_⟩⟩
    obtain ⟨y0, _, b0, p0, q0⟩ := hex.get 0 (z := 401) rfl
    obtain ⟨y1, _, b1, p1, q1⟩ := hex.get 1 (z := 401) rfl
    obtain ⟨y2, _, b2, p2, q2⟩ := hex.get 2 (z := 8) rfl
    obtain ⟨y3, _, b3, p3, q3⟩ := hex.get 3 (z := 3001) rfl
    obtain ⟨m0, rfl⟩ : ∃ m : Nat, y0 = m := ⟨y0.toNat, by omega⟩
    obtain ⟨m1, rfl⟩ : ∃ m : Nat, y1 = m := ⟨y1.toNat, by omega⟩
    obtain ⟨m3, rfl⟩ : ∃ m : Nat, y3 = m := ⟨y3.toNat, by omega⟩
    have mk : ∀ ms : List Nat, (∀ m ∈ ms, m ≤ 5000) → 0 < ms.length → ms.length ≤ 3 → Cx26 A h r H p ex ms := fun ms x1 x2 x3 => ⟨hA, h1, h2, hr, hr2, by omega, L, hH, hp, hex, x1, x2, x3⟩
    refine ⟨.int m0, b0 _ rfl, .int m1, b1 _ rfl, by show 2 ≤ sizeLine; omega, .int y2, b2 _ rfl, fun hb => ⟨.int m3, b3 _ rfl, by show 1 ≤ sizeLine; omega, by show 2 + 1 ≤ sizeLine; omega, ?_⟩, fun hb => ?_⟩
    · exact br_law_4 (mk [m0, m1, m3] (fun m hm => by simp only [List.mem_cons, List.not_mem_nil, or_false] at hm; omega) (by simp) (by simp)) q
    · exact br_law_4 (mk [m0, m1] (fun m hm => by simp only [List.mem_cons, List.not_mem_nil, or_false] at hm; omega) (by simp) (by simp)) q
end
end K26

set_option Elab.async false
set_option linter.all false
set_option maxRecDepth 100000
set_option maxHeartbeats 8000000
namespace K26
open PySem PySem.Spec PyProof.Rows L2 DL Lb
def d_frozen : He.DefD := ⟨("frozen", none), "frozen", "frozen", defArgs s_frozen, defBody s_frozen, defScope s_frozen, [], []⟩
def d_is_whole : He.DefD := ⟨("is_whole", none), "is_whole", "is_whole", defArgs s_is_whole, defBody s_is_whole, defScope s_is_whole, [], []⟩
def d_check_alphabet : He.DefD := ⟨("check_alphabet", none), "check_alphabet", "check_alphabet", defArgs s_check_alphabet, defBody s_check_alphabet, defScope s_check_alphabet, [], []⟩
def d_check_text : He.DefD := ⟨("check_text", none), "check_text", "check_text", defArgs s_check_text, defBody s_check_text, defScope s_check_text, [], []⟩
def d_check_both : He.DefD := ⟨("check_both", none), "check_both", "check_both", defArgs s_check_both, defBody s_check_both, defScope s_check_both, [], []⟩
def d_root_length : He.DefD := ⟨("root_length", none), "root_length", "root_length", defArgs s_root_length, defBody s_root_length, defScope s_root_length, [], []⟩
def d_least_round : He.DefD := ⟨("least_round", none), "least_round", "least_round", defArgs s_least_round, defBody s_least_round, defScope s_least_round, [], []⟩
def d_Round_init : He.DefD := ⟨("Round", some "__init__"), "__init__", "Round.__init__", defArgs s_Round_init, defBody s_Round_init, defScope s_Round_init, [], []⟩
def d_Round_beginning : He.DefD := ⟨("Round", some "beginning"), "beginning", "Round.beginning", defArgs s_Round_beginning, defBody s_Round_beginning, defScope s_Round_beginning, [], []⟩
def d_word_count : He.DefD := ⟨("word_count", none), "word_count", "word_count", defArgs s_word_count, defBody s_word_count, defScope s_word_count, [], []⟩
def d_level_letters : He.DefD := ⟨("level_letters", none), "level_letters", "level_letters", defArgs s_level_letters, defBody s_level_letters, defScope s_level_letters, [], []⟩
def d_full_levels : He.DefD := ⟨("full_levels", none), "full_levels", "full_levels", defArgs s_full_levels, defBody s_full_levels, defScope s_full_levels, [], []⟩
def d_pieces_bound : He.DefD := ⟨("pieces_bound", none), "pieces_bound", "pieces_bound", defArgs s_pieces_bound, defBody s_pieces_bound, defScope s_pieces_bound, [], []⟩
def d_is_good_row : He.DefD := ⟨("is_good_row", none), "is_good_row", "is_good_row", defArgs s_is_good_row, defBody s_is_good_row, defScope s_is_good_row, [], []⟩
def d_check_rows : He.DefD := ⟨("check_rows", none), "check_rows", "check_rows", defArgs s_check_rows, defBody s_check_rows, defScope s_check_rows, [], []⟩
def d_texts_of_pieces : He.DefD := ⟨("texts_of_pieces", none), "texts_of_pieces", "texts_of_pieces", defArgs s_texts_of_pieces, defBody s_texts_of_pieces, defScope s_texts_of_pieces, [], []⟩
def d_starts_of : He.DefD := ⟨("starts_of", none), "starts_of", "starts_of", defArgs s_starts_of, defBody s_starts_of, defScope s_starts_of, [], []⟩
def d_Cut_init : He.DefD := ⟨("Cut", some "__init__"), "__init__", "Cut.__init__", defArgs s_Cut_init, defBody s_Cut_init, defScope s_Cut_init, [], []⟩
def d_cut_of : He.DefD := ⟨("cut_of", none), "cut_of", "cut_of", defArgs s_cut_of, defBody s_cut_of, defScope s_cut_of, [], []⟩
def d__law_whole : He.DefD := ⟨("_law_whole", none), "_law_whole", "_law_whole", defArgs s__law_whole, defBody s__law_whole, defScope s__law_whole, [], []⟩
def d__law_cell : He.DefD := ⟨("_law_cell", none), "_law_cell", "_law_cell", defArgs s__law_cell, defBody s__law_cell, defScope s__law_cell, [], []⟩
def d__law_digits : He.DefD := ⟨("_law_digits", none), "_law_digits", "_law_digits", defArgs s__law_digits, defBody s__law_digits, defScope s__law_digits, [], []⟩
def d__law_alphabet : He.DefD := ⟨("_law_alphabet", none), "_law_alphabet", "_law_alphabet", defArgs s__law_alphabet, defBody s__law_alphabet, defScope s__law_alphabet, [], []⟩
def d__law_plain_text : He.DefD := ⟨("_law_plain_text", none), "_law_plain_text", "_law_plain_text", defArgs s__law_plain_text, defBody s__law_plain_text, defScope s__law_plain_text, [], []⟩
def d__law_writing : He.DefD := ⟨("_law_writing", none), "_law_writing", "_law_writing", defArgs s__law_writing, defBody s__law_writing, defScope s__law_writing, [], []⟩
def d__law_form : He.DefD := ⟨("_law_form", none), "_law_form", "_law_form", defArgs s__law_form, defBody s__law_form, defScope s__law_form, [], []⟩
def d__law_giant : He.DefD := ⟨("_law_giant", none), "_law_giant", "_law_giant", defArgs s__law_giant, defBody s__law_giant, defScope s__law_giant, [], []⟩
def d__law_words : He.DefD := ⟨("_law_words", none), "_law_words", "_law_words", defArgs s__law_words, defBody s__law_words, defScope s__law_words, [], []⟩
def d__law_beginning : He.DefD := ⟨("_law_beginning", none), "_law_beginning", "_law_beginning", defArgs s__law_beginning, defBody s__law_beginning, defScope s__law_beginning, [], []⟩
def d__law_cut : He.DefD := ⟨("_law_cut", none), "_law_cut", "_law_cut", defArgs s__law_cut, defBody s__law_cut, defScope s__law_cut, [], []⟩
def d__law_least_letters : He.DefD := ⟨("_law_least_letters", none), "_law_least_letters", "_law_least_letters", defArgs s__law_least_letters, defBody s__law_least_letters, defScope s__law_least_letters, [], []⟩
def d__law_exact : He.DefD := ⟨("_law_exact", none), "_law_exact", "_law_exact", defArgs s__law_exact, defBody s__law_exact, defScope s__law_exact, [], []⟩
def d__law_pieces_within : He.DefD := ⟨("_law_pieces_within", none), "_law_pieces_within", "_law_pieces_within", defArgs s__law_pieces_within, defBody s__law_pieces_within, defScope s__law_pieces_within, [], []⟩
def d__law_counting_text : He.DefD := ⟨("_law_counting_text", none), "_law_counting_text", "_law_counting_text", defArgs s__law_counting_text, defBody s__law_counting_text, defScope s__law_counting_text, [], []⟩
def d__law_long_right : He.DefD := ⟨("_law_long_right", none), "_law_long_right", "_law_long_right", defArgs s__law_long_right, defBody s__law_long_right, defScope s__law_long_right, [], []⟩
def d_law : He.DefD := ⟨("law", none), "law", "law", defArgs s_law, defBody s_law, defScope s_law, [], []⟩
def fn : List He.DefD := [d_frozen, d_is_whole, d_check_alphabet, d_check_text, d_check_both, d_root_length, d_least_round, d_Round_init, d_Round_beginning, d_word_count, d_level_letters, d_full_levels, d_pieces_bound, d_is_good_row, d_check_rows, d_texts_of_pieces, d_starts_of, d_Cut_init, d_cut_of, d__law_whole, d__law_cell, d__law_digits, d__law_alphabet, d__law_plain_text, d__law_writing, d__law_form, d__law_giant, d__law_words, d__law_beginning, d__law_cut, d__law_least_letters, d__law_exact, d__law_pieces_within, d__law_counting_text, d__law_long_right, d_law]
def fa : List He.Fa := [.glo "frozen", .glo "is_whole", .glo "check_alphabet", .glo "check_text", .glo "check_both", .glo "root_length", .glo "least_round", .glo "word_count", .glo "level_letters", .glo "full_levels", .glo "pieces_bound", .glo "is_good_row", .glo "check_rows", .glo "texts_of_pieces", .glo "starts_of", .glo "cut_of", .glo "_law_whole", .glo "_law_cell", .glo "_law_digits", .glo "_law_alphabet", .glo "_law_plain_text", .glo "_law_writing", .glo "_law_form", .glo "_law_giant", .glo "_law_words", .glo "_law_beginning", .glo "_law_cut", .glo "_law_least_letters", .glo "_law_exact", .glo "_law_pieces_within", .glo "_law_counting_text", .glo "_law_long_right", .glo "law", .free "isinstance", .free "list", .free "tuple", .free "int", .free "bool", .free "len", .free "enumerate", .free "range", .free "min", .free "str", .free "sorted", .free "max", .glo "Cut", .glo "Round", .mkr "Cut", .mkr "Round", .noat "Round" "alphabet", .noat "Cut" "alphabet", .noat "Round" "ring", .noat "Round" "head", .noat "Round" "variety", .noat "Cut" "rows", .noat "Cut" "tail", .noat "Cut" "many", .noat "Cut" "pieces", .noat "Cut" "text", .noat "Cut" "starts", .cls "Round", .cls "Cut", .meth "Round" "beginning", .str "LETTERS" ⟨([48, 49, 50, 51, 52, 53, 54, 55, 56, 57, 97, 98, 99, 100, 101, 102, 103, 104, 105, 106, 107, 108, 109, 110, 111, 112, 113, 114, 115, 116, 117, 118, 119, 120, 121, 122] : List Nat).toArray⟩]
abbrev R : PySem.W.OpenRow := PySem.W.OpenLaw.row PySem.Challenge.rw_outpressed_k26_whole_pieces_of_beginning
def bs : He.BtL := [("isqrt", "math.isqrt")]
abbrev hk : PySem.W.Hook := He.hookB 6 fa fn bs
def ob (s : PySem.W.SharedT) : He.AlD × Bool := He.obsB 6 fa fn bs (HandSHeadRun.getT s)
theorem ob_eq (s : PySem.W.SharedT) : ob s = hk.obs s.abs := He.obsB_eq (HandSHeadRun.getT_eq s)
def loose : List PySem.Str := (["isqrt", "_wall", "PressError", "BadAlphabet", "BadLetter", "BadRow", "BadTail", "EmptyRing", "LETTERS", "frozen", "is_whole", "check_alphabet", "check_text", "check_both", "root_length", "least_round"] : List PySem.Str) ++ (["Round", "word_count", "level_letters", "full_levels", "pieces_bound", "is_good_row", "check_rows", "texts_of_pieces", "starts_of", "Cut", "cut_of", "_law_whole", "_law_cell", "_law_digits", "_law_alphabet", "_law_plain_text"] : List PySem.Str) ++ (["_law_writing", "_law_form", "_law_giant", "_law_words", "_law_beginning", "_law_cut", "_law_least_letters", "_law_exact", "_law_pieces_within", "_law_counting_text", "_law_long_right"] : List PySem.Str)
theorem run (w : World) : HandSHeadRun.RunEqI R (PySem.W.view R.prog [48]) hk ob 8000 loose w := by
  unfold HandSHeadRun.RunEqI
  kernel_rfl
theorem facts {P : Program} {w : World} {K : PySem.W.Frag} {h : Heap} {mg : Str → Option Value} {f : Addr} (X : K.In h) (G : h.Ns mainGlobals mg) (hfa : mg ("law" : Str) = some (.ref f)) (c : He.SaysD fa fn K) (cb : He.btOk bs K = true) :
    ∃ fd : FuncData, (∀ (s : Shared) (v : Value), BindsTo s fd ⟨[v], []⟩ [("script", v)]) ∧ ∀ base : Heap, K.In base → base.Ns mainGlobals mg → FnG P w K mg base CX0 9 f fd ["script"] (spD K false S_law) := by
  obtain ⟨fd_frozen, F_frozen⟩ := c.def_ 0 (d := d_frozen) rfl
  obtain ⟨fd_is_whole, F_is_whole⟩ := c.def_ 1 (d := d_is_whole) rfl
  obtain ⟨fd_check_alphabet, F_check_alphabet⟩ := c.def_ 2 (d := d_check_alphabet) rfl
  obtain ⟨fd_check_text, F_check_text⟩ := c.def_ 3 (d := d_check_text) rfl
  obtain ⟨fd_check_both, F_check_both⟩ := c.def_ 4 (d := d_check_both) rfl
  obtain ⟨fd_root_length, F_root_length⟩ := c.def_ 5 (d := d_root_length) rfl
  obtain ⟨fd_least_round, F_least_round⟩ := c.def_ 6 (d := d_least_round) rfl
  obtain ⟨fd_Round_init, F_Round_init⟩ := c.def_ 7 (d := d_Round_init) rfl
  obtain ⟨fd_Round_beginning, F_Round_beginning⟩ := c.def_ 8 (d := d_Round_beginning) rfl
  obtain ⟨fd_word_count, F_word_count⟩ := c.def_ 9 (d := d_word_count) rfl
  obtain ⟨fd_level_letters, F_level_letters⟩ := c.def_ 10 (d := d_level_letters) rfl
  obtain ⟨fd_full_levels, F_full_levels⟩ := c.def_ 11 (d := d_full_levels) rfl
  obtain ⟨fd_pieces_bound, F_pieces_bound⟩ := c.def_ 12 (d := d_pieces_bound) rfl
  obtain ⟨fd_is_good_row, F_is_good_row⟩ := c.def_ 13 (d := d_is_good_row) rfl
  obtain ⟨fd_check_rows, F_check_rows⟩ := c.def_ 14 (d := d_check_rows) rfl
  obtain ⟨fd_texts_of_pieces, F_texts_of_pieces⟩ := c.def_ 15 (d := d_texts_of_pieces) rfl
  obtain ⟨fd_starts_of, F_starts_of⟩ := c.def_ 16 (d := d_starts_of) rfl
  obtain ⟨fd_Cut_init, F_Cut_init⟩ := c.def_ 17 (d := d_Cut_init) rfl
  obtain ⟨fd_cut_of, F_cut_of⟩ := c.def_ 18 (d := d_cut_of) rfl
  obtain ⟨fd__law_whole, F__law_whole⟩ := c.def_ 19 (d := d__law_whole) rfl
  obtain ⟨fd__law_cell, F__law_cell⟩ := c.def_ 20 (d := d__law_cell) rfl
  obtain ⟨fd__law_digits, F__law_digits⟩ := c.def_ 21 (d := d__law_digits) rfl
  obtain ⟨fd__law_alphabet, F__law_alphabet⟩ := c.def_ 22 (d := d__law_alphabet) rfl
  obtain ⟨fd__law_plain_text, F__law_plain_text⟩ := c.def_ 23 (d := d__law_plain_text) rfl
  obtain ⟨fd__law_writing, F__law_writing⟩ := c.def_ 24 (d := d__law_writing) rfl
  obtain ⟨fd__law_form, F__law_form⟩ := c.def_ 25 (d := d__law_form) rfl
  obtain ⟨fd__law_giant, F__law_giant⟩ := c.def_ 26 (d := d__law_giant) rfl
  obtain ⟨fd__law_words, F__law_words⟩ := c.def_ 27 (d := d__law_words) rfl
  obtain ⟨fd__law_beginning, F__law_beginning⟩ := c.def_ 28 (d := d__law_beginning) rfl
  obtain ⟨fd__law_cut, F__law_cut⟩ := c.def_ 29 (d := d__law_cut) rfl
  obtain ⟨fd__law_least_letters, F__law_least_letters⟩ := c.def_ 30 (d := d__law_least_letters) rfl
  obtain ⟨fd__law_exact, F__law_exact⟩ := c.def_ 31 (d := d__law_exact) rfl
  obtain ⟨fd__law_pieces_within, F__law_pieces_within⟩ := c.def_ 32 (d := d__law_pieces_within) rfl
  obtain ⟨fd__law_counting_text, F__law_counting_text⟩ := c.def_ 33 (d := d__law_counting_text) rfl
  obtain ⟨fd__law_long_right, F__law_long_right⟩ := c.def_ 34 (d := d__law_long_right) rfl
  obtain ⟨fd_law, F_law⟩ := c.def_ 35 (d := d_law) rfl
  have m_frozen : mg "frozen" = some (.ref (He.ga K "frozen")) := He.glo_ok X G (c.fact 0 (f := .glo "frozen") rfl)
  have m_is_whole : mg "is_whole" = some (.ref (He.ga K "is_whole")) := He.glo_ok X G (c.fact 1 (f := .glo "is_whole") rfl)
  have m_check_alphabet : mg "check_alphabet" = some (.ref (He.ga K "check_alphabet")) := He.glo_ok X G (c.fact 2 (f := .glo "check_alphabet") rfl)
  have m_check_text : mg "check_text" = some (.ref (He.ga K "check_text")) := He.glo_ok X G (c.fact 3 (f := .glo "check_text") rfl)
  have m_check_both : mg "check_both" = some (.ref (He.ga K "check_both")) := He.glo_ok X G (c.fact 4 (f := .glo "check_both") rfl)
  have m_root_length : mg "root_length" = some (.ref (He.ga K "root_length")) := He.glo_ok X G (c.fact 5 (f := .glo "root_length") rfl)
  have m_least_round : mg "least_round" = some (.ref (He.ga K "least_round")) := He.glo_ok X G (c.fact 6 (f := .glo "least_round") rfl)
  have m_word_count : mg "word_count" = some (.ref (He.ga K "word_count")) := He.glo_ok X G (c.fact 7 (f := .glo "word_count") rfl)
  have m_level_letters : mg "level_letters" = some (.ref (He.ga K "level_letters")) := He.glo_ok X G (c.fact 8 (f := .glo "level_letters") rfl)
  have m_full_levels : mg "full_levels" = some (.ref (He.ga K "full_levels")) := He.glo_ok X G (c.fact 9 (f := .glo "full_levels") rfl)
  have m_pieces_bound : mg "pieces_bound" = some (.ref (He.ga K "pieces_bound")) := He.glo_ok X G (c.fact 10 (f := .glo "pieces_bound") rfl)
  have m_is_good_row : mg "is_good_row" = some (.ref (He.ga K "is_good_row")) := He.glo_ok X G (c.fact 11 (f := .glo "is_good_row") rfl)
  have m_check_rows : mg "check_rows" = some (.ref (He.ga K "check_rows")) := He.glo_ok X G (c.fact 12 (f := .glo "check_rows") rfl)
  have m_texts_of_pieces : mg "texts_of_pieces" = some (.ref (He.ga K "texts_of_pieces")) := He.glo_ok X G (c.fact 13 (f := .glo "texts_of_pieces") rfl)
  have m_starts_of : mg "starts_of" = some (.ref (He.ga K "starts_of")) := He.glo_ok X G (c.fact 14 (f := .glo "starts_of") rfl)
  have m_cut_of : mg "cut_of" = some (.ref (He.ga K "cut_of")) := He.glo_ok X G (c.fact 15 (f := .glo "cut_of") rfl)
  have m__law_whole : mg "_law_whole" = some (.ref (He.ga K "_law_whole")) := He.glo_ok X G (c.fact 16 (f := .glo "_law_whole") rfl)
  have m__law_cell : mg "_law_cell" = some (.ref (He.ga K "_law_cell")) := He.glo_ok X G (c.fact 17 (f := .glo "_law_cell") rfl)
  have m__law_digits : mg "_law_digits" = some (.ref (He.ga K "_law_digits")) := He.glo_ok X G (c.fact 18 (f := .glo "_law_digits") rfl)
  have m__law_alphabet : mg "_law_alphabet" = some (.ref (He.ga K "_law_alphabet")) := He.glo_ok X G (c.fact 19 (f := .glo "_law_alphabet") rfl)
  have m__law_plain_text : mg "_law_plain_text" = some (.ref (He.ga K "_law_plain_text")) := He.glo_ok X G (c.fact 20 (f := .glo "_law_plain_text") rfl)
  have m__law_writing : mg "_law_writing" = some (.ref (He.ga K "_law_writing")) := He.glo_ok X G (c.fact 21 (f := .glo "_law_writing") rfl)
  have m__law_form : mg "_law_form" = some (.ref (He.ga K "_law_form")) := He.glo_ok X G (c.fact 22 (f := .glo "_law_form") rfl)
  have m__law_giant : mg "_law_giant" = some (.ref (He.ga K "_law_giant")) := He.glo_ok X G (c.fact 23 (f := .glo "_law_giant") rfl)
  have m__law_words : mg "_law_words" = some (.ref (He.ga K "_law_words")) := He.glo_ok X G (c.fact 24 (f := .glo "_law_words") rfl)
  have m__law_beginning : mg "_law_beginning" = some (.ref (He.ga K "_law_beginning")) := He.glo_ok X G (c.fact 25 (f := .glo "_law_beginning") rfl)
  have m__law_cut : mg "_law_cut" = some (.ref (He.ga K "_law_cut")) := He.glo_ok X G (c.fact 26 (f := .glo "_law_cut") rfl)
  have m__law_least_letters : mg "_law_least_letters" = some (.ref (He.ga K "_law_least_letters")) := He.glo_ok X G (c.fact 27 (f := .glo "_law_least_letters") rfl)
  have m__law_exact : mg "_law_exact" = some (.ref (He.ga K "_law_exact")) := He.glo_ok X G (c.fact 28 (f := .glo "_law_exact") rfl)
  have m__law_pieces_within : mg "_law_pieces_within" = some (.ref (He.ga K "_law_pieces_within")) := He.glo_ok X G (c.fact 29 (f := .glo "_law_pieces_within") rfl)
  have m__law_counting_text : mg "_law_counting_text" = some (.ref (He.ga K "_law_counting_text")) := He.glo_ok X G (c.fact 30 (f := .glo "_law_counting_text") rfl)
  have m__law_long_right : mg "_law_long_right" = some (.ref (He.ga K "_law_long_right")) := He.glo_ok X G (c.fact 31 (f := .glo "_law_long_right") rfl)
  have m_law : mg "law" = some (.ref (He.ga K "law")) := He.glo_ok X G (c.fact 32 (f := .glo "law") rfl)
  have m_Cut : mg "Cut" = some (.ref (He.ga K "Cut")) := He.glo_ok X G (c.fact 45 (f := .glo "Cut") rfl)
  have M_Cut := He.mkr_ok (c.fact 47 (f := .mkr "Cut") rfl)
  have m_Round : mg "Round" = some (.ref (He.ga K "Round")) := He.glo_ok X G (c.fact 46 (f := .glo "Round") rfl)
  have M_Round := He.mkr_ok (c.fact 48 (f := .mkr "Round") rfl)
  have m_isqrt : mg "isqrt" = some (.builtin "math.isqrt") := He.bt_ok X G cb 0
  have m_isinstance : mg "isinstance" = none := He.free_ok X G (c.fact 33 (f := .free "isinstance") rfl)
  have m_list : mg "list" = none := He.free_ok X G (c.fact 34 (f := .free "list") rfl)
  have m_tuple : mg "tuple" = none := He.free_ok X G (c.fact 35 (f := .free "tuple") rfl)
  have m_int : mg "int" = none := He.free_ok X G (c.fact 36 (f := .free "int") rfl)
  have m_bool : mg "bool" = none := He.free_ok X G (c.fact 37 (f := .free "bool") rfl)
  have m_len : mg "len" = none := He.free_ok X G (c.fact 38 (f := .free "len") rfl)
  have m_enumerate : mg "enumerate" = none := He.free_ok X G (c.fact 39 (f := .free "enumerate") rfl)
  have m_range : mg "range" = none := He.free_ok X G (c.fact 40 (f := .free "range") rfl)
  have m_min : mg "min" = none := He.free_ok X G (c.fact 41 (f := .free "min") rfl)
  have m_str : mg "str" = none := He.free_ok X G (c.fact 42 (f := .free "str") rfl)
  have m_sorted : mg "sorted" = none := He.free_ok X G (c.fact 43 (f := .free "sorted") rfl)
  have m_max : mg "max" = none := He.free_ok X G (c.fact 44 (f := .free "max") rfl)
  obtain ⟨tk_LETTERS, m_LETTERS⟩ := He.str_ok X G (c.fact 63 (f := .str "LETTERS" ⟨([48, 49, 50, 51, 52, 53, 54, 55, 56, 57, 97, 98, 99, 100, 101, 102, 103, 104, 105, 106, 107, 108, 109, 110, 111, 112, 113, 114, 115, 116, 117, 118, 119, 120, 121, 122] : List Nat).toArray⟩) rfl)
  have hc_alphabet : ∀ C ∈ ([He.ga K "Round", He.ga K "Cut"] : List Addr), Cls K C ∧ NoAttr K C "alphabet" := by
    intro C hC
    simp only [List.mem_cons, List.not_mem_nil, or_false] at hC
    rcases hC with rfl | rfl
    · exact ⟨He.cls_ok (c.fact 60 (f := .cls "Round") rfl), He.noat_ok (c.fact 49 (f := .noat "Round" "alphabet") rfl)⟩
    · exact ⟨He.cls_ok (c.fact 61 (f := .cls "Cut") rfl), He.noat_ok (c.fact 50 (f := .noat "Cut" "alphabet") rfl)⟩
  have hc_ring : ∀ C ∈ ([He.ga K "Round"] : List Addr), Cls K C ∧ NoAttr K C "ring" := by
    intro C hC
    simp only [List.mem_cons, List.not_mem_nil, or_false] at hC
    rcases hC with rfl
    · exact ⟨He.cls_ok (c.fact 60 (f := .cls "Round") rfl), He.noat_ok (c.fact 51 (f := .noat "Round" "ring") rfl)⟩
  have hc_head : ∀ C ∈ ([He.ga K "Round"] : List Addr), Cls K C ∧ NoAttr K C "head" := by
    intro C hC
    simp only [List.mem_cons, List.not_mem_nil, or_false] at hC
    rcases hC with rfl
    · exact ⟨He.cls_ok (c.fact 60 (f := .cls "Round") rfl), He.noat_ok (c.fact 52 (f := .noat "Round" "head") rfl)⟩
  have hc_variety : ∀ C ∈ ([He.ga K "Round"] : List Addr), Cls K C ∧ NoAttr K C "variety" := by
    intro C hC
    simp only [List.mem_cons, List.not_mem_nil, or_false] at hC
    rcases hC with rfl
    · exact ⟨He.cls_ok (c.fact 60 (f := .cls "Round") rfl), He.noat_ok (c.fact 53 (f := .noat "Round" "variety") rfl)⟩
  have hc_rows : ∀ C ∈ ([He.ga K "Cut"] : List Addr), Cls K C ∧ NoAttr K C "rows" := by
    intro C hC
    simp only [List.mem_cons, List.not_mem_nil, or_false] at hC
    rcases hC with rfl
    · exact ⟨He.cls_ok (c.fact 61 (f := .cls "Cut") rfl), He.noat_ok (c.fact 54 (f := .noat "Cut" "rows") rfl)⟩
  have hc_tail : ∀ C ∈ ([He.ga K "Cut"] : List Addr), Cls K C ∧ NoAttr K C "tail" := by
    intro C hC
    simp only [List.mem_cons, List.not_mem_nil, or_false] at hC
    rcases hC with rfl
    · exact ⟨He.cls_ok (c.fact 61 (f := .cls "Cut") rfl), He.noat_ok (c.fact 55 (f := .noat "Cut" "tail") rfl)⟩
  have hc_many : ∀ C ∈ ([He.ga K "Cut"] : List Addr), Cls K C ∧ NoAttr K C "many" := by
    intro C hC
    simp only [List.mem_cons, List.not_mem_nil, or_false] at hC
    rcases hC with rfl
    · exact ⟨He.cls_ok (c.fact 61 (f := .cls "Cut") rfl), He.noat_ok (c.fact 56 (f := .noat "Cut" "many") rfl)⟩
  have hc_pieces : ∀ C ∈ ([He.ga K "Cut"] : List Addr), Cls K C ∧ NoAttr K C "pieces" := by
    intro C hC
    simp only [List.mem_cons, List.not_mem_nil, or_false] at hC
    rcases hC with rfl
    · exact ⟨He.cls_ok (c.fact 61 (f := .cls "Cut") rfl), He.noat_ok (c.fact 57 (f := .noat "Cut" "pieces") rfl)⟩
  have hc_text : ∀ C ∈ ([He.ga K "Cut"] : List Addr), Cls K C ∧ NoAttr K C "text" := by
    intro C hC
    simp only [List.mem_cons, List.not_mem_nil, or_false] at hC
    rcases hC with rfl
    · exact ⟨He.cls_ok (c.fact 61 (f := .cls "Cut") rfl), He.noat_ok (c.fact 58 (f := .noat "Cut" "text") rfl)⟩
  have hc_starts : ∀ C ∈ ([He.ga K "Cut"] : List Addr), Cls K C ∧ NoAttr K C "starts" := by
    intro C hC
    simp only [List.mem_cons, List.not_mem_nil, or_false] at hC
    rcases hC with rfl
    · exact ⟨He.cls_ok (c.fact 61 (f := .cls "Cut") rfl), He.noat_ok (c.fact 59 (f := .noat "Cut" "starts") rfl)⟩
  have e := hfa.symm.trans m_law
  cases e
  have b := FunD.bindsA (ps := ["script"]) F_law fun _ _ _ _ _ _ us hl => match us, hl with | [_], _ => rfl
  refine ⟨fd_law, fun s v => b s [v] rfl, fun base _ _ => ?_⟩
  have b__law_alphabet : Binds K fd__law_alphabet ["row", "upto"] [] := FunD.bindsN F__law_alphabet fun _ _ _ _ _ _ us hl => match us, hl with | [_, _], _ => rfl
  have G__law_alphabet := ok__law_alphabet (P := P) (w := w) (K := K) (mg := mg) (base := base) F__law_alphabet (k := 0) m_min m_range m_int m_sorted (S := S__law_alphabet) (by first | exact len__law_alphabet | exact len__law_alphabet (He.ga K) | exact len__law_alphabet _) (by first | exact rd__law_alphabet | exact rd__law_alphabet (He.ga K) | exact rd__law_alphabet _)
  have b__law_digits : Binds K fd__law_digits ["cell", "sizes"] [] := FunD.bindsN F__law_digits fun _ _ _ _ _ _ us hl => match us, hl with | [_, _], _ => rfl
  have G__law_digits := ok__law_digits (P := P) (w := w) (K := K) (mg := mg) (base := base) F__law_digits (k := 0) m_int m_len m_range (S := S__law_digits) (by first | exact len__law_digits | exact len__law_digits (He.ga K) | exact len__law_digits _) (by first | exact rd__law_digits | exact rd__law_digits (He.ga K) | exact rd__law_digits _)
  have b__law_cell : Binds K fd__law_cell ["script", "k"] [] := FunD.bindsN F__law_cell fun _ _ _ _ _ _ us hl => match us, hl with | [_, _], _ => rfl
  have G__law_cell := ok__law_cell (P := P) (w := w) (K := K) (mg := mg) (base := base) F__law_cell (k := 0) m_len m_int (S := S__law_cell) (by first | exact len__law_cell | exact len__law_cell (He.ga K) | exact len__law_cell _) (by first | exact rd__law_cell | exact rd__law_cell (He.ga K) | exact rd__law_cell _)
  have b__law_plain_text : Binds K fd__law_plain_text ["alphabet", "row", "size"] [] := FunD.bindsN F__law_plain_text fun _ _ _ _ _ _ us hl => match us, hl with | [_, _, _], _ => rfl
  have G__law_plain_text := ok__law_plain_text (P := P) (w := w) (K := K) (mg := mg) (base := base) F__law_plain_text (k := 0) m_range m_int m_len (S := S__law_plain_text) (by first | exact len__law_plain_text | exact len__law_plain_text (He.ga K) | exact len__law_plain_text _) (by first | exact rd__law_plain_text | exact rd__law_plain_text (He.ga K) | exact rd__law_plain_text _)
  have b__law_writing : Binds K fd__law_writing ["alphabet", "row", "one", "two"] [] := FunD.bindsN F__law_writing fun _ _ _ _ _ _ us hl => match us, hl with | [_, _, _, _], _ => rfl
  have G__law_writing := ok__law_writing (P := P) (w := w) (K := K) (mg := mg) (base := base) F__law_writing (k := 1) (by decide) G__law_plain_text m__law_plain_text (FunD.kp F__law_plain_text) b__law_plain_text m_len m_min m_int m_max (S := S__law_writing) (by first | exact len__law_writing | exact len__law_writing (He.ga K) | exact len__law_writing _) (by first | exact rd__law_writing | exact rd__law_writing (He.ga K) | exact rd__law_writing _)
  have b__law_form : Binds K fd__law_form ["head", "ring"] [] := FunD.bindsN F__law_form fun _ _ _ _ _ _ us hl => match us, hl with | [_, _], _ => rfl
  have G__law_form := ok__law_form (P := P) (w := w) (K := K) (mg := mg) (base := base) F__law_form (k := 0) m_len m_range (S := S__law_form) (by first | exact len__law_form | exact len__law_form (He.ga K) | exact len__law_form _) (by first | exact rd__law_form | exact rd__law_form (He.ga K) | exact rd__law_form _)
  have b__law_words : Binds K fd__law_words ["head", "ring", "span"] [] := FunD.bindsN F__law_words fun _ _ _ _ _ _ us hl => match us, hl with | [_, _, _], _ => rfl
  have G__law_words := ok__law_words (P := P) (w := w) (K := K) (mg := mg) (base := base) F__law_words (k := 0) m_len m_range (S := S__law_words) (by first | exact len__law_words | exact len__law_words (He.ga K) | exact len__law_words _) (by first | exact rd__law_words | exact rd__law_words (He.ga K) | exact rd__law_words _)
  have b_Round_beginning : Binds K fd_Round_beginning ["self", "length"] [] := FunD.bindsN F_Round_beginning fun _ _ _ _ _ _ us hl => match us, hl with | [_, _], _ => rfl
  have G_Round_beginning := ok_Round_beginning (He.ga K) (P := P) (w := w) (K := K) (mg := mg) (base := base) F_Round_beginning (k := 0) hc_ring hc_head m_len (S := S_Round_beginning (He.ga K)) (by first | exact len_Round_beginning | exact len_Round_beginning (He.ga K) | exact len_Round_beginning _) (by first | exact rd_Round_beginning | exact rd_Round_beginning (He.ga K) | exact rd_Round_beginning _)
  have b_word_count : Binds K fd_word_count ["endless", "length"] [] := FunD.bindsN F_word_count fun _ _ _ _ _ _ us hl => match us, hl with | [_, _], _ => rfl
  have G_word_count := ok_word_count (He.ga K) (P := P) (w := w) (K := K) (mg := mg) (base := base) F_word_count (k := 1) (by decide) G_Round_beginning (He.cls_ok (c.fact 60 (f := .cls "Round") rfl)) (He.meth_ok (c.fact 62 (f := .meth "Round" "beginning") rfl)) b_Round_beginning hc_variety m_range m_len (S := S_word_count (He.ga K)) (by first | exact len_word_count | exact len_word_count (He.ga K) | exact len_word_count _) (by first | exact rd_word_count | exact rd_word_count (He.ga K) | exact rd_word_count _)
  have b_full_levels : Binds K fd_full_levels ["variety", "left"] [] := FunD.bindsN F_full_levels fun _ _ _ _ _ _ us hl => match us, hl with | [_, _], _ => rfl
  have G_full_levels := ok_full_levels (P := P) (w := w) (K := K) (mg := mg) (base := base) F_full_levels (k := 0) m_isqrt (S := S_full_levels) (by first | exact len_full_levels | exact len_full_levels (He.ga K) | exact len_full_levels _) (by first | exact rd_full_levels | exact rd_full_levels (He.ga K) | exact rd_full_levels _)
  have b_level_letters : Binds K fd_level_letters ["variety", "levels"] [] := FunD.bindsN F_level_letters fun _ _ _ _ _ _ us hl => match us, hl with | [_, _], _ => rfl
  have G_level_letters := ok_level_letters (P := P) (w := w) (K := K) (mg := mg) (base := base) F_level_letters (k := 0)  (S := S_level_letters) (by first | exact len_level_letters | exact len_level_letters (He.ga K) | exact len_level_letters _) (by first | exact rd_level_letters | exact rd_level_letters (He.ga K) | exact rd_level_letters _)
  have b_pieces_bound : Binds K fd_pieces_bound ["endless", "length"] [] := FunD.bindsN F_pieces_bound fun _ _ _ _ _ _ us hl => match us, hl with | [_, _], _ => rfl
  have G_pieces_bound := ok_pieces_bound (He.ga K) (P := P) (w := w) (K := K) (mg := mg) (base := base) F_pieces_bound (k := 2) (by decide) G_word_count m_word_count (FunD.kp F_word_count) b_word_count (by decide) G_full_levels m_full_levels (FunD.kp F_full_levels) b_full_levels (by decide) G_level_letters m_level_letters (FunD.kp F_level_letters) b_level_letters hc_variety m_range m_min (S := S_pieces_bound (He.ga K)) (by first | exact len_pieces_bound | exact len_pieces_bound (He.ga K) | exact len_pieces_bound _) (by first | exact rd_pieces_bound | exact rd_pieces_bound (He.ga K) | exact rd_pieces_bound _)
  have b__law_whole : Binds K fd__law_whole ["value"] [] := FunD.bindsN F__law_whole fun _ _ _ _ _ _ us hl => match us, hl with | [_], _ => rfl
  have G__law_whole := ok__law_whole (P := P) (w := w) (K := K) (mg := mg) (base := base) F__law_whole (k := 0) m_isinstance m_int m_bool (S := S__law_whole) (by first | exact len__law_whole | exact len__law_whole (He.ga K) | exact len__law_whole _) (by first | exact rd__law_whole | exact rd__law_whole (He.ga K) | exact rd__law_whole _)
  have b__law_least_letters : Binds K fd__law_least_letters ["counts", "count"] [] := FunD.bindsN F__law_least_letters fun _ _ _ _ _ _ us hl => match us, hl with | [_, _], _ => rfl
  have G__law_least_letters := ok__law_least_letters (P := P) (w := w) (K := K) (mg := mg) (base := base) F__law_least_letters (k := 0) m_len m_range m_min (S := S__law_least_letters) (by first | exact len__law_least_letters | exact len__law_least_letters (He.ga K) | exact len__law_least_letters _) (by first | exact rd__law_least_letters | exact rd__law_least_letters (He.ga K) | exact rd__law_least_letters _)
  have b__law_exact : Binds K fd__law_exact ["counts", "told", "span"] [] := FunD.bindsN F__law_exact fun _ _ _ _ _ _ us hl => match us, hl with | [_, _, _], _ => rfl
  have G__law_exact := ok__law_exact (P := P) (w := w) (K := K) (mg := mg) (base := base) F__law_exact (k := 1) (by decide) G__law_whole m__law_whole (FunD.kp F__law_whole) b__law_whole (by decide) G__law_least_letters m__law_least_letters (FunD.kp F__law_least_letters) b__law_least_letters (S := S__law_exact) (by first | exact len__law_exact | exact len__law_exact (He.ga K) | exact len__law_exact _) (by first | exact rd__law_exact | exact rd__law_exact (He.ga K) | exact rd__law_exact _)
  have b__law_beginning : Binds K fd__law_beginning ["head", "ring", "span"] [] := FunD.bindsN F__law_beginning fun _ _ _ _ _ _ us hl => match us, hl with | [_, _, _], _ => rfl
  have G__law_beginning := ok__law_beginning (P := P) (w := w) (K := K) (mg := mg) (base := base) F__law_beginning (k := 0) m_len (S := S__law_beginning) (by first | exact len__law_beginning | exact len__law_beginning (He.ga K) | exact len__law_beginning _) (by first | exact rd__law_beginning | exact rd__law_beginning (He.ga K) | exact rd__law_beginning _)
  have b_check_alphabet : Binds K fd_check_alphabet ["alphabet"] [] := FunD.bindsN F_check_alphabet fun _ _ _ _ _ _ us hl => match us, hl with | [_], _ => rfl
  have G_check_alphabet := ok_check_alphabet (P := P) (w := w) (K := K) (mg := mg) (base := base) F_check_alphabet (k := 0) m_LETTERS m_len m_enumerate (S := S_check_alphabet) (by first | exact len_check_alphabet | exact len_check_alphabet (He.ga K) | exact len_check_alphabet _) (by first | exact rd_check_alphabet | exact rd_check_alphabet (He.ga K) | exact rd_check_alphabet _)
  have b_check_text : Binds K fd_check_text ["alphabet", "text"] [] := FunD.bindsN F_check_text fun _ _ _ _ _ _ us hl => match us, hl with | [_, _], _ => rfl
  have G_check_text := ok_check_text (P := P) (w := w) (K := K) (mg := mg) (base := base) F_check_text (k := 0) m_enumerate (S := S_check_text) (by first | exact len_check_text | exact len_check_text (He.ga K) | exact len_check_text _) (by first | exact rd_check_text | exact rd_check_text (He.ga K) | exact rd_check_text _)
  have b_check_both : Binds K fd_check_both ["alphabet", "text"] [] := FunD.bindsN F_check_both fun _ _ _ _ _ _ us hl => match us, hl with | [_, _], _ => rfl
  have G_check_both := ok_check_both (P := P) (w := w) (K := K) (mg := mg) (base := base) F_check_both (k := 1) (by decide) G_check_alphabet m_check_alphabet (FunD.kp F_check_alphabet) b_check_alphabet (by decide) G_check_text m_check_text (FunD.kp F_check_text) b_check_text (S := S_check_both) (by first | exact len_check_both | exact len_check_both (He.ga K) | exact len_check_both _) (by first | exact rd_check_both | exact rd_check_both (He.ga K) | exact rd_check_both _)
  have b_frozen : Binds K fd_frozen ["value"] [] := FunD.bindsN F_frozen fun _ _ _ _ _ _ us hl => match us, hl with | [_], _ => rfl
  have R_frozen : ∀ n, FnG P w K mg base CX0 (0 + n + 1) (He.ga K "frozen") fd_frozen ["value"] (spD K false (S_frozen n)) := by
    intro n
    induction n with
    | zero => exact FunD.okN F_frozen sc_frozen
    | succ n ih => exact ok_frozen (P := P) (w := w) (K := K) (mg := mg) (base := base) F_frozen (k := 0 + n + 1) (Nat.le_refl _) ih m_frozen (FunD.kp F_frozen) b_frozen m_isinstance m_list m_tuple (S := S_frozen (n + 1)) (len_frozen _) (rd_frozen n)
  have G_frozen := R_frozen 3
  have b_is_whole : Binds K fd_is_whole ["value"] [] := FunD.bindsN F_is_whole fun _ _ _ _ _ _ us hl => match us, hl with | [_], _ => rfl
  have G_is_whole := ok_is_whole (P := P) (w := w) (K := K) (mg := mg) (base := base) F_is_whole (k := 0) m_isinstance m_int m_bool (S := S_is_whole) (by first | exact len_is_whole | exact len_is_whole (He.ga K) | exact len_is_whole _) (by first | exact rd_is_whole | exact rd_is_whole (He.ga K) | exact rd_is_whole _)
  have b_is_good_row : Binds K fd_is_good_row ["alphabet", "row", "index"] [] := FunD.bindsN F_is_good_row fun _ _ _ _ _ _ us hl => match us, hl with | [_, _, _], _ => rfl
  have G_is_good_row := ok_is_good_row (P := P) (w := w) (K := K) (mg := mg) (base := base) F_is_good_row (k := 1) (by decide) G_is_whole m_is_whole (FunD.kp F_is_whole) b_is_whole m_isinstance m_str m_len (S := S_is_good_row) (by first | exact len_is_good_row | exact len_is_good_row (He.ga K) | exact len_is_good_row _) (by first | exact rd_is_good_row | exact rd_is_good_row (He.ga K) | exact rd_is_good_row _)
  have b_check_rows : Binds K fd_check_rows ["alphabet", "rows"] [] := FunD.bindsN F_check_rows fun _ _ _ _ _ _ us hl => match us, hl with | [_, _], _ => rfl
  have G_check_rows := ok_check_rows (P := P) (w := w) (K := K) (mg := mg) (base := base) F_check_rows (k := 2) (by decide) G_is_good_row m_is_good_row (FunD.kp F_is_good_row) b_is_good_row m_enumerate (S := S_check_rows) (by first | exact len_check_rows | exact len_check_rows (He.ga K) | exact len_check_rows _) (by first | exact rd_check_rows | exact rd_check_rows (He.ga K) | exact rd_check_rows _)
  have b_texts_of_pieces : Binds K fd_texts_of_pieces ["rows"] [] := FunD.bindsN F_texts_of_pieces fun _ _ _ _ _ _ us hl => match us, hl with | [_], _ => rfl
  have G_texts_of_pieces := ok_texts_of_pieces (P := P) (w := w) (K := K) (mg := mg) (base := base) F_texts_of_pieces (k := 0)  (S := S_texts_of_pieces) (by first | exact len_texts_of_pieces | exact len_texts_of_pieces (He.ga K) | exact len_texts_of_pieces _) (by first | exact rd_texts_of_pieces | exact rd_texts_of_pieces (He.ga K) | exact rd_texts_of_pieces _)
  have b_starts_of : Binds K fd_starts_of ["texts"] [] := FunD.bindsN F_starts_of fun _ _ _ _ _ _ us hl => match us, hl with | [_], _ => rfl
  have G_starts_of := ok_starts_of (P := P) (w := w) (K := K) (mg := mg) (base := base) F_starts_of (k := 0) m_len (S := S_starts_of) (by first | exact len_starts_of | exact len_starts_of (He.ga K) | exact len_starts_of _) (by first | exact rd_starts_of | exact rd_starts_of (He.ga K) | exact rd_starts_of _)
  have b_Cut_init : Binds K fd_Cut_init ["self", "alphabet", "rows", "tail"] [] := FunD.bindsN F_Cut_init fun _ _ _ _ _ _ us hl => match us, hl with | [_, _, _, _], _ => rfl
  have G_Cut_init := ok_Cut_init (He.ga K) (P := P) (w := w) (K := K) (mg := mg) (base := base) F_Cut_init (k := 4) (by decide) G_check_alphabet m_check_alphabet (FunD.kp F_check_alphabet) b_check_alphabet (by decide) G_frozen m_frozen (FunD.kp F_frozen) b_frozen (by decide) G_check_rows m_check_rows (FunD.kp F_check_rows) b_check_rows (by decide) G_is_whole m_is_whole (FunD.kp F_is_whole) b_is_whole (by decide) G_texts_of_pieces m_texts_of_pieces (FunD.kp F_texts_of_pieces) b_texts_of_pieces (by decide) G_starts_of m_starts_of (FunD.kp F_starts_of) b_starts_of hc_alphabet hc_rows hc_tail hc_many hc_pieces hc_text hc_starts m_len m_tuple (S := S_Cut (He.ga K)) (by first | exact len_Cut_init | exact len_Cut_init (He.ga K) | exact len_Cut_init _) (by first | exact rd_Cut_init | exact rd_Cut_init (He.ga K) | exact rd_Cut_init _)
  have b_cut_of : Binds K fd_cut_of ["alphabet", "text"] [] := FunD.bindsN F_cut_of fun _ _ _ _ _ _ us hl => match us, hl with | [_, _], _ => rfl
  have G_cut_of := ok_cut_of (He.ga K) (P := P) (w := w) (K := K) (mg := mg) (base := base) F_cut_of (k := 6) (by decide) G_check_both m_check_both (FunD.kp F_check_both) b_check_both (by decide) M_Cut G_Cut_init m_Cut b_Cut_init m_len (S := S_cut_of (He.ga K)) (by first | exact len_cut_of | exact len_cut_of (He.ga K) | exact len_cut_of _) (by first | exact rd_cut_of | exact rd_cut_of (He.ga K) | exact rd_cut_of _)
  have b__law_cut : Binds K fd__law_cut ["text"] [] := FunD.bindsN F__law_cut fun _ _ _ _ _ _ us hl => match us, hl with | [_], _ => rfl
  have G__law_cut := ok__law_cut (P := P) (w := w) (K := K) (mg := mg) (base := base) F__law_cut (k := 0) m_len m_tuple (S := S__law_cut) (by first | exact len__law_cut | exact len__law_cut (He.ga K) | exact len__law_cut _) (by first | exact rd__law_cut | exact rd__law_cut (He.ga K) | exact rd__law_cut _)
  have b__law_pieces_within : Binds K fd__law_pieces_within ["alphabet", "world", "made", "span", "told"] [] := FunD.bindsN F__law_pieces_within fun _ _ _ _ _ _ us hl => match us, hl with | [_, _, _, _, _], _ => rfl
  have G__law_pieces_within := ok__law_pieces_within (He.ga K) (P := P) (w := w) (K := K) (mg := mg) (base := base) F__law_pieces_within (k := 7) (by decide) G_Round_beginning (He.cls_ok (c.fact 60 (f := .cls "Round") rfl)) (He.meth_ok (c.fact 62 (f := .meth "Round" "beginning") rfl)) b_Round_beginning (by decide) G__law_beginning m__law_beginning (FunD.kp F__law_beginning) b__law_beginning (by decide) G_cut_of m_cut_of (FunD.kp F_cut_of) b_cut_of (by decide) G__law_cut m__law_cut (FunD.kp F__law_cut) b__law_cut (by decide) G__law_whole m__law_whole (FunD.kp F__law_whole) b__law_whole hc_rows hc_tail hc_pieces hc_many m_tuple m_len (S := S__law_pieces_within (He.ga K)) (by first | exact len__law_pieces_within | exact len__law_pieces_within (He.ga K) | exact len__law_pieces_within _) (by first | exact rd__law_pieces_within | exact rd__law_pieces_within (He.ga K) | exact rd__law_pieces_within _)
  have b__law_giant : Binds K fd__law_giant ["row"] [] := FunD.bindsN F__law_giant fun _ _ _ _ _ _ us hl => match us, hl with | [_], _ => rfl
  have G__law_giant := ok__law_giant (P := P) (w := w) (K := K) (mg := mg) (base := base) F__law_giant (k := 0) m_range (S := S__law_giant) (by first | exact len__law_giant | exact len__law_giant (He.ga K) | exact len__law_giant _) (by first | exact rd__law_giant | exact rd__law_giant (He.ga K) | exact rd__law_giant _)
  have b__law_counting_text : Binds K fd__law_counting_text ["alphabet", "size"] [] := FunD.bindsN F__law_counting_text fun _ _ _ _ _ _ us hl => match us, hl with | [_, _], _ => rfl
  have G__law_counting_text := ok__law_counting_text (P := P) (w := w) (K := K) (mg := mg) (base := base) F__law_counting_text (k := 0) m_range m_len m_list (S := S__law_counting_text) (by first | exact len__law_counting_text | exact len__law_counting_text (He.ga K) | exact len__law_counting_text _) (by first | exact rd__law_counting_text | exact rd__law_counting_text (He.ga K) | exact rd__law_counting_text _)
  have b_root_length : Binds K fd_root_length ["ring"] [] := FunD.bindsN F_root_length fun _ _ _ _ _ _ us hl => match us, hl with | [_], _ => rfl
  have G_root_length := ok_root_length (P := P) (w := w) (K := K) (mg := mg) (base := base) F_root_length (k := 0) m_len m_range (S := S_root_length) (by first | exact len_root_length | exact len_root_length (He.ga K) | exact len_root_length _) (by first | exact rd_root_length | exact rd_root_length (He.ga K) | exact rd_root_length _)
  have b_least_round : Binds K fd_least_round ["head", "ring"] [] := FunD.bindsN F_least_round fun _ _ _ _ _ _ us hl => match us, hl with | [_, _], _ => rfl
  have G_least_round := ok_least_round (P := P) (w := w) (K := K) (mg := mg) (base := base) F_least_round (k := 1) (by decide) G_root_length m_root_length (FunD.kp F_root_length) b_root_length m_len (S := S_least_round) (by first | exact len_least_round | exact len_least_round (He.ga K) | exact len_least_round _) (by first | exact rd_least_round | exact rd_least_round (He.ga K) | exact rd_least_round _)
  have b_Round_init : Binds K fd_Round_init ["self", "alphabet", "head", "ring"] [] := FunD.bindsN F_Round_init fun _ _ _ _ _ _ us hl => match us, hl with | [_, _, _, _], _ => rfl
  have G_Round_init := ok_Round_init (He.ga K) (P := P) (w := w) (K := K) (mg := mg) (base := base) F_Round_init (k := 2) (by decide) G_check_alphabet m_check_alphabet (FunD.kp F_check_alphabet) b_check_alphabet (by decide) G_check_text m_check_text (FunD.kp F_check_text) b_check_text (by decide) G_least_round m_least_round (FunD.kp F_least_round) b_least_round hc_alphabet hc_ring hc_head hc_variety m_len (S := S_Round (He.ga K)) (by first | exact len_Round_init | exact len_Round_init (He.ga K) | exact len_Round_init _) (by first | exact rd_Round_init | exact rd_Round_init (He.ga K) | exact rd_Round_init _)
  have b__law_long_right : Binds K fd__law_long_right ["alphabet", "made", "row", "lengths"] [] := FunD.bindsN F__law_long_right fun _ _ _ _ _ _ us hl => match us, hl with | [_, _, _, _], _ => rfl
  have G__law_long_right := ok__law_long_right (He.ga K) (P := P) (w := w) (K := K) (mg := mg) (base := base) F__law_long_right (k := 7) (by decide) G_cut_of m_cut_of (FunD.kp F_cut_of) b_cut_of (by decide) G__law_counting_text m__law_counting_text (FunD.kp F__law_counting_text) b__law_counting_text (by decide) G__law_form m__law_form (FunD.kp F__law_form) b__law_form (by decide) G__law_words m__law_words (FunD.kp F__law_words) b__law_words (by decide) G__law_exact m__law_exact (FunD.kp F__law_exact) b__law_exact (by decide) G_pieces_bound m_pieces_bound (FunD.kp F_pieces_bound) b_pieces_bound (by decide) M_Round G_Round_init m_Round b_Round_init hc_text m_len m_range (S := S__law_long_right (He.ga K)) (by first | exact len__law_long_right | exact len__law_long_right (He.ga K) | exact len__law_long_right _) (by first | exact rd__law_long_right | exact rd__law_long_right (He.ga K) | exact rd__law_long_right _)
  have kb_pieces_bound_0_length_endless := kbn_pieces_bound_0_length_endless F_pieces_bound
  exact ok_law (He.ga K) (P := P) (w := w) (K := K) (mg := mg) (base := base) F_law (k := 8) (by decide) G__law_alphabet m__law_alphabet (FunD.kp F__law_alphabet) b__law_alphabet (by decide) G__law_digits m__law_digits (FunD.kp F__law_digits) b__law_digits (by decide) G__law_cell m__law_cell (FunD.kp F__law_cell) b__law_cell (by decide) G__law_writing m__law_writing (FunD.kp F__law_writing) b__law_writing (by decide) G__law_form m__law_form (FunD.kp F__law_form) b__law_form (by decide) G__law_words m__law_words (FunD.kp F__law_words) b__law_words (by decide) G_pieces_bound m_pieces_bound (FunD.kp F_pieces_bound) b_pieces_bound (by decide) G__law_exact m__law_exact (FunD.kp F__law_exact) b__law_exact (by decide) G__law_pieces_within m__law_pieces_within (FunD.kp F__law_pieces_within) b__law_pieces_within (by decide) G__law_giant m__law_giant (FunD.kp F__law_giant) b__law_giant (by decide) G__law_long_right m__law_long_right (FunD.kp F__law_long_right) b__law_long_right (by decide) G__law_least_letters m__law_least_letters (FunD.kp F__law_least_letters) b__law_least_letters (by decide) M_Round G_Round_init m_Round b_Round_init kb_pieces_bound_0_length_endless m_len m_range m_int m_max (S := S_law) (by first | exact len_law | exact len_law (He.ga K) | exact len_law _) (by first | exact rd_law | exact rd_law (He.ga K) | exact rd_law _)
end K26
open PySem PySem.W PySem.Calls PyProof.Rows
theorem PySem.Challenge.cw_outpressed_k26_whole_pieces_of_beginning_holds : PySem.Challenge.rw_outpressed_k26_whole_pieces_of_beginning.Holds := by
  w_on; o_law
  refine HandSHeadRun.head_imp (r := OpenLaw.row PySem.Challenge.rw_outpressed_k26_whole_pieces_of_beginning) (q := view (OpenLaw.row PySem.Challenge.rw_outpressed_k26_whole_pieces_of_beginning).prog [48]) (H := K26.hk) (ob := K26.ob) (M := 8000) (loose := K26.loose) (d := HandSHeadRun.topDef (OpenLaw.row PySem.Challenge.rw_outpressed_k26_whole_pieces_of_beginning).prog 48) (kwd := []) K26.ob_eq
    K26.run (by kernel_rfl) (by kernel_rfl) (by kernel_rfl) (by rfl) (by first | assumption | decide +kernel) (by decide +kernel) ⟨rfl, rfl, rfl, rfl, rfl, by decide +kernel⟩ ?hw ?hc
  case hw => w_witness2
  case hc =>
    refine DL.walk_ofG (l := PySem.Challenge.rw_outpressed_k26_whole_pieces_of_beginning) (n := 63) (k := 9) (x := "script") rfl (by decide) (by kernel_rfl) ⟨rfl, by decide, by decide⟩ ?F
    intro w mg fa h Y G hmg0
    obtain ⟨K, KX, c, cb⟩ := Y
    have hmg : mg ("law" : PySem.Str) = some (.ref fa) := by
      have e : (HandSHeadRun.topDef (OpenLaw.row PySem.Challenge.rw_outpressed_k26_whole_pieces_of_beginning).prog 48).name = ("law" : PySem.Str) := by kernel_rfl
      rw [← e]
      exact hmg0
    obtain ⟨fd, hb, hF⟩ := K26.facts (P := (PySem.Challenge.rw_outpressed_k26_whole_pieces_of_beginning).prog) (w := w) KX G hmg c cb
    exact ⟨K, fd, DL.spD K false DL.spLawD, KX, hb, fun H a ns hl hb hS => DL.law_sp hl hb hS, hF⟩

