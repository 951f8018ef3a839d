import PyProof.Rows.All
import Wide.All
import OpenK.AllK
import Wide.FinOn
import KE.KStateDown
import HandS.ForMost
import HandS.ForExc
import HandS.Wide
import HandS.Defaults
import HandS.Flow
import HandS.Style
import HandS.StrMore
import HandS.IsInst
import HandS.RevRange
import HandS.TupAny
import KE.KUnpackStar
import HandS.Finally
import HandS.CallLocal
import HandS.Head0
import HandS.Head1
import HandS.Head2
import HandS.HeadEnd
import HandS.HeadHook1
import HandS.HeadHook2
import HandS.HeadHook3
import HandS.ExcInit
import KE.IntBitsLaws
import KE.IntTextLaws
import PySem.Challenge.RW_stemkeep_k34_pieces_and_parts
set_option Elab.async false
set_option linter.all false
set_option maxRecDepth 100000
set_option maxHeartbeats 1000000
/-! Q: a layer of data over the hand layer: tuples by value, what is known of the heap, functional readings. -/
namespace Q
open PySem PySem.Spec L2

/-- a value, tuples gone into -/
inductive D where
  | non | bl (b : Bool) | int (i : Int) | str (x : Str) | tup (ds : List D) | kl (ds : List D) | ref (a : Addr) | ty (n : String)

/-- an object that is known -/
inductive MO where
  | lst (ds : List D)
  | dS (kvs : List (Key × D))
  | ins (C : Addr) (fs : List (Str × D))
  | xd (fs : List (Str × D))

abbrev Sto := Addr → Option MO
def put (S : Sto) (a : Addr) (o : MO) : Sto := fun b => if b = a then some o else S b
theorem put_same {S : Sto} {a : Addr} {o : MO} : put S a o a = some o := if_pos rfl
theorem put_ne {S : Sto} {a b : Addr} {o : MO} (h : b ≠ a) : put S a o b = S b := if_neg h
theorem put_put {S : Sto} {a : Addr} {o u : MO} : put (put S a o) a u = put S a u := by
  funext b; unfold put; split <;> rfl
theorem st_ne {S : Sto} {a b : Addr} {o : MO} (h : S a = some o) (h' : S b = none) : a ≠ b := by
  intro e; subst e; rw [h] at h'; cases h'

/-- a list that stays as it is -/
def SqF (K : PySem.W.Frag) (H : Hp) (a : Addr) (xs : List V) : Prop := (∃ o, H a = some (.frz o (.lst xs))) ∨
  ∃ (o : Obj) (its : Array Value) (n : Nat), K.lookup a = some o ∧ o.cls = .type "list" ∧ o.dict = none ∧ o.data = .seq its n ∧ its.size ≤ sizeLine ∧ Vals xs its.toList
theorem SqF.sq {K : PySem.W.Frag} {H : Hp} {a : Addr} {xs : List V} (h : SqF K H a xs) : SqL K H a xs := h.elim (fun h => .inl (.inr h)) .inr
section
variable (K : PySem.W.Frag) (H : Hp)
mutual
def Rep : D → V → Prop
  | .non, v => v = .non
  | .bl b, v => v = .bl b
  | .int i, v => v = .int i
  | .str x, v => v = .str x
  | .ref a, v => v = .ref a
  | .ty n, v => v = .ty n
  | .tup ds, v => ∃ a vs, v = .ref a ∧ SqT K H a vs ∧ Reps ds vs
  | .kl ds, v => ∃ a vs, v = .ref a ∧ SqF K H a vs ∧ Reps ds vs
def Reps : List D → List V → Prop
  | [], vs => vs = []
  | d :: ds, vs => ∃ v r, vs = v :: r ∧ Rep d v ∧ Reps ds r
end
end

/-- tuples and frozen things stay -/
structure Grow (H H' : Hp) : Prop where
  tup : ∀ a vs, H a = some (.tup vs) → H' a = some (.tup vs)
  frz : ∀ a o u, H a = some (.frz o u) → H' a = some (.frz o u)
theorem Grow.refl (H : Hp) : Grow H H := ⟨fun _ _ h => h, fun _ _ _ h => h⟩
theorem Grow.trans {H H1 H2 : Hp} (a : Grow H H1) (b : Grow H1 H2) : Grow H H2 := ⟨fun x o h => b.tup x o (a.tup x o h), fun x o u h => b.frz x o u (a.frz x o u h)⟩
theorem Grow.new {H : Hp} {p : Addr} {o : HO} (h : H p = none) : Grow H (upd H p o) :=
  ⟨fun a vs e => by rw [upd_ne (ne_of_none e h)]; exact e, fun a o u e => by rw [upd_ne (ne_of_none e h)]; exact e⟩
/-- a tracked thing that is no tuple and not frozen is written -/
theorem Grow.wr {H : Hp} {p : Addr} {o u : HO} (h : H p = some u) (h1 : ∀ vs, u ≠ .tup vs) (h2 : ∀ x y, u ≠ .frz x y) : Grow H (upd H p o) :=
  ⟨fun a vs e => by
    by_cases q : a = p
    · subst q; rw [h] at e; exact absurd (Option.some.inj e) (h1 vs)
    · rw [upd_ne q]; exact e, fun a x y e => by
    by_cases q : a = p
    · subst q; rw [h] at e; exact absurd (Option.some.inj e) (h2 x y)
    · rw [upd_ne q]; exact e⟩
theorem Grow.sqT {K : PySem.W.Frag} {H H' : Hp} (g : Grow H H') {a : Addr} {vs : List V} (h : SqT K H a vs) : SqT K H' a vs := by
  rcases h with (h | ⟨o, h⟩) | h
  · exact .inl (.inl (g.tup _ _ h))
  · exact .inl (.inr ⟨o, g.frz _ _ _ h⟩)
  · exact .inr h
mutual
theorem Rep.mono {K : PySem.W.Frag} {H H' : Hp} (g : Grow H H') : ∀ (d : D) (v : V), Rep K H d v → Rep K H' d v
  | .non, _, h => h
  | .bl _, _, h => h
  | .int _, _, h => h
  | .str _, _, h => h
  | .ref _, _, h => h
  | .ty _, _, h => h
  | .tup ds, v, h => by
    obtain ⟨a, vs, e, h1, h2⟩ := h
    exact ⟨a, vs, e, g.sqT h1, Reps.mono g ds vs h2⟩
  | .kl ds, v, h => by
    obtain ⟨a, vs, e, h1, h2⟩ := h
    exact ⟨a, vs, e, h1.elim (fun ⟨o, h⟩ => .inl ⟨o, g.frz _ _ _ h⟩) .inr, Reps.mono g ds vs h2⟩
theorem Reps.mono {K : PySem.W.Frag} {H H' : Hp} (g : Grow H H') : ∀ (ds : List D) (vs : List V), Reps K H ds vs → Reps K H' ds vs
  | [], _, h => h
  | d :: ds, vs, h => by
    obtain ⟨v, r, e, h1, h2⟩ := h
    exact ⟨v, r, e, Rep.mono g d v h1, Reps.mono g ds r h2⟩
end
section
variable {K : PySem.W.Frag} {H : Hp}
theorem rNon : Rep K H .non .non := rfl
theorem rBl {b : Bool} : Rep K H (.bl b) (.bl b) := rfl
theorem rInt {i : Int} : Rep K H (.int i) (.int i) := rfl
theorem rStr {x : Str} : Rep K H (.str x) (.str x) := rfl
theorem rRef {a : Addr} : Rep K H (.ref a) (.ref a) := rfl
theorem rTy {n : String} : Rep K H (.ty n) (.ty n) := rfl
theorem rTup {ds : List D} {a : Addr} {vs : List V} (h : SqT K H a vs) (r : Reps K H ds vs) : Rep K H (.tup ds) (.ref a) := ⟨a, vs, rfl, h, r⟩
theorem Reps.nil : Reps K H [] [] := rfl
theorem Reps.cons {d : D} {ds : List D} {v : V} {vs : List V} (h : Rep K H d v) (hs : Reps K H ds vs) : Reps K H (d :: ds) (v :: vs) := ⟨v, vs, rfl, h, hs⟩
theorem Reps.len : ∀ {ds : List D} {vs : List V}, Reps K H ds vs → vs.length = ds.length
  | [], _, h => by rw [show _ = _ from h]; rfl
  | d :: ds, vs, h => by
    obtain ⟨v, r, e, _, h2⟩ := h
    rw [e, List.length_cons, List.length_cons, Reps.len h2]
theorem Reps.get : ∀ {ds : List D} {vs : List V} {i : Nat} {d : D}, Reps K H ds vs → ds[i]? = some d → ∃ v, vs[i]? = some v ∧ Rep K H d v
  | [], _, _, _, _, e => by simp at e
  | d :: ds, vs, 0, _, h, e => by
    obtain ⟨v, r, e1, h1, _⟩ := h
    rw [e1]
    simp at e
    subst e
    exact ⟨v, rfl, h1⟩
  | d :: ds, vs, i + 1, _, h, e => by
    obtain ⟨v, r, e1, _, h2⟩ := h
    obtain ⟨x, q1, q2⟩ := Reps.get h2 (show ds[i]? = some _ by simpa using e)
    exact ⟨x, by rw [e1]; simpa using q1, q2⟩
theorem Reps.get' : ∀ {ds : List D} {vs : List V} {i : Nat} {v : V}, Reps K H ds vs → vs[i]? = some v → ∃ d, ds[i]? = some d ∧ Rep K H d v
  | [], _, _, _, h, e => by rw [show _ = _ from h] at e; simp at e
  | d :: ds, vs, 0, _, h, e => by
    obtain ⟨v, r, e1, h1, _⟩ := h
    rw [e1] at e
    simp at e
    subst e
    exact ⟨d, rfl, h1⟩
  | d :: ds, vs, i + 1, _, h, e => by
    obtain ⟨v, r, e1, _, h2⟩ := h
    rw [e1] at e
    obtain ⟨x, q1, q2⟩ := Reps.get' h2 (show r[i]? = some _ by simpa using e)
    exact ⟨x, by simpa using q1, q2⟩
theorem Reps.append : ∀ {ds es : List D} {vs us : List V}, Reps K H ds vs → Reps K H es us → Reps K H (ds ++ es) (vs ++ us)
  | [], _, _, _, h, h' => by rw [show _ = _ from h]; exact h'
  | d :: ds, es, vs, us, h, h' => by
    obtain ⟨v, r, e, h1, h2⟩ := h
    rw [e]
    exact ⟨v, r ++ us, rfl, h1, Reps.append h2 h'⟩
theorem Reps.take : ∀ (n : Nat) {ds : List D} {vs : List V}, Reps K H ds vs → Reps K H (ds.take n) (vs.take n)
  | 0, _, _, _ => by simp; rfl
  | n + 1, [], _, h => by rw [show _ = _ from h]; simp; rfl
  | n + 1, d :: ds, vs, h => by
    obtain ⟨v, r, e, h1, h2⟩ := h
    rw [e]
    exact ⟨v, r.take n, rfl, h1, Reps.take n h2⟩
theorem Reps.drop : ∀ (n : Nat) {ds : List D} {vs : List V}, Reps K H ds vs → Reps K H (ds.drop n) (vs.drop n)
  | 0, _, _, h => by simpa using h
  | n + 1, [], _, h => by rw [show _ = _ from h]; simp; rfl
  | n + 1, d :: ds, vs, h => by
    obtain ⟨v, r, e, h1, h2⟩ := h
    rw [e]
    exact Reps.drop n h2
theorem Reps.set : ∀ (n : Nat) {ds : List D} {vs : List V} {d : D} {v : V}, Reps K H ds vs → Rep K H d v → Reps K H (ds.set n d) (vs.set n v)
  | _, [], _, _, _, h, _ => by rw [show _ = _ from h]; simp; rfl
  | 0, d :: ds, vs, _, _, h, h' => by
    obtain ⟨v, r, e, h1, h2⟩ := h
    rw [e]
    exact ⟨_, _, rfl, h', h2⟩
  | n + 1, d :: ds, vs, _, _, h, h' => by
    obtain ⟨v, r, e, h1, h2⟩ := h
    rw [e]
    exact ⟨_, _, rfl, h1, Reps.set n h2 h'⟩
theorem Reps.rev {ds : List D} {vs : List V} (h : Reps K H ds vs) : Reps K H ds.reverse vs.reverse := by
  induction ds generalizing vs with
  | nil => rw [show vs = _ from h]; exact rfl
  | cons d ds ih =>
    obtain ⟨v, r, e, h1, h2⟩ := h
    rw [e, List.reverse_cons, List.reverse_cons]
    exact (ih h2).append (.cons h1 .nil)
theorem Reps.erase : ∀ (n : Nat) {ds : List D} {vs : List V}, Reps K H ds vs → Reps K H (ds.eraseIdx n) (vs.eraseIdx n)
  | _, [], _, h => by rw [show _ = _ from h]; simp; rfl
  | 0, d :: ds, vs, h => by
    obtain ⟨v, r, e, h1, h2⟩ := h
    rw [e]
    exact h2
  | n + 1, d :: ds, vs, h => by
    obtain ⟨v, r, e, h1, h2⟩ := h
    rw [e]
    exact ⟨v, _, rfl, h1, Reps.erase n h2⟩
theorem Reps.rep {ds : List D} {vs : List V} (h : Reps K H ds vs) : ∀ k : Nat, Reps K H (List.replicate k ds).flatten (List.replicate k vs).flatten
  | 0 => rfl
  | k + 1 => by
    rw [List.replicate_succ, List.replicate_succ, List.flatten_cons, List.flatten_cons]
    exact h.append (Reps.rep h k)
theorem Reps.ints : ∀ {ns : List Int} {vs : List V}, Reps K H (ns.map D.int) vs → vs = ns.map V.int
  | [], _, h => h
  | n :: ns, vs, h => by
    obtain ⟨v, r, e, h1, h2⟩ := h
    rw [e, Reps.ints h2, show v = _ from h1]; rfl
theorem Reps.ofInts : ∀ (ns : List Int), Reps K H (ns.map D.int) (ns.map V.int)
  | [] => rfl
  | n :: ns => ⟨_, _, rfl, rfl, Reps.ofInts ns⟩
theorem Reps.strs : ∀ {ns : List Str} {vs : List V}, Reps K H (ns.map D.str) vs → vs = ns.map V.str
  | [], _, h => h
  | n :: ns, vs, h => by
    obtain ⟨v, r, e, h1, h2⟩ := h
    rw [e, Reps.strs h2, show v = _ from h1]; rfl
theorem Reps.ofStrs : ∀ (ns : List Str), Reps K H (ns.map D.str) (ns.map V.str)
  | [] => rfl
  | n :: ns => ⟨_, _, rfl, rfl, Reps.ofStrs ns⟩
theorem Reps.bls : ∀ {ns : List Bool} {vs : List V}, Reps K H (ns.map D.bl) vs → vs = ns.map V.bl
  | [], _, h => h
  | n :: ns, vs, h => by
    obtain ⟨v, r, e, h1, h2⟩ := h
    rw [e, Reps.bls h2, show v = _ from h1]; rfl
end

def RepKV {κ : Type} (K : PySem.W.Frag) (H : Hp) : List (κ × D) → List (κ × V) → Prop := Paired fun p q => p.1 = q.1 ∧ Rep K H p.2 q.2
theorem RepKV.mono {κ : Type} {K : PySem.W.Frag} {H H' : Hp} (g : Grow H H') {a : List (κ × D)} {b : List (κ × V)} (h : RepKV K H a b) : RepKV K H' a b := Paired.mapP h fun _ _ q => ⟨q.1, Rep.mono g _ _ q.2⟩
theorem RepKV.lookup {κ : Type} [BEq κ] {K : PySem.W.Frag} {H : Hp} {k : κ} : ∀ {a : List (κ × D)} {b : List (κ × V)}, RepKV K H a b → ∀ {d}, a.lookup k = some d → ∃ v, b.lookup k = some v ∧ Rep K H d v
  | _, _, .nil, _, e => by cases e
  | (k1, d1) :: r, (k2, v2) :: s, .cons q t, d, e => by
    have q1 : k1 = k2 := q.1
    have q2 : Rep K H d1 v2 := q.2
    subst q1
    rw [List.lookup_cons] at e ⊢
    cases hk : (k == k1) with
    | true =>
      rw [hk] at e
      exact ⟨v2, rfl, (Option.some.inj e) ▸ q2⟩
    | false =>
      rw [hk] at e
      exact RepKV.lookup t e
theorem RepKV.lookup_none {κ : Type} [BEq κ] {K : PySem.W.Frag} {H : Hp} {k : κ} : ∀ {a : List (κ × D)} {b : List (κ × V)}, RepKV K H a b → a.lookup k = none → b.lookup k = none
  | _, _, .nil, _ => rfl
  | (k1, d1) :: r, (k2, v2) :: s, .cons q t, e => by
    have q1 : k1 = k2 := q.1
    subst q1
    rw [List.lookup_cons] at e ⊢
    cases hk : (k == k1) with
    | true => rw [hk] at e; cases e
    | false =>
      rw [hk] at e
      exact RepKV.lookup_none t e
theorem RepKV.len {κ : Type} {K : PySem.W.Frag} {H : Hp} : ∀ {a : List (κ × D)} {b : List (κ × V)}, RepKV K H a b → b.length = a.length := fun h => (Paired.length h).symm
def putFD (f : Str) (d : D) : List (Str × D) → List (Str × D)
  | [] => [(f, d)]
  | (g, x) :: r => if g = f then (g, d) :: r else (g, x) :: putFD f d r

def HasO (K : PySem.W.Frag) (H : Hp) (a : Addr) : MO → Prop
  | .lst ds => ∃ vs, H a = some (.lst vs) ∧ Reps K H ds vs
  | .dS kvs => ∃ kvs', H a = some (.dK kvs') ∧ RepKV K H kvs kvs'
  | .ins C fs => ∃ dx fs', H a = some (.ins C dx fs') ∧ RepKV K H fs fs'
  | .xd fs => ∃ fs', H a = some (.xd fs') ∧ RepKV K H fs fs'
def Sim (K : PySem.W.Frag) (S : Sto) (H : Hp) : Prop := ∀ a o, S a = some o → HasO K H a o
theorem HasO.to {K : PySem.W.Frag} {H H' : Hp} {a : Addr} {o : MO} (g : Grow H H') (e : H' a = H a) (h : HasO K H a o) : HasO K H' a o := by
  cases o with
  | lst ds => obtain ⟨vs, h1, h2⟩ := h; exact ⟨vs, e.trans h1, Reps.mono g _ _ h2⟩
  | dS kvs => obtain ⟨vs, h1, h2⟩ := h; exact ⟨vs, e.trans h1, h2.mono g⟩
  | ins C fs => obtain ⟨dx, vs, h1, h2⟩ := h; exact ⟨dx, vs, e.trans h1, h2.mono g⟩
  | xd fs => obtain ⟨vs, h1, h2⟩ := h; exact ⟨vs, e.trans h1, h2.mono g⟩
theorem HasO.there {K : PySem.W.Frag} {H : Hp} {a : Addr} {o : MO} (h : HasO K H a o) : H a ≠ none := by
  cases o with
  | lst ds => obtain ⟨vs, h1, _⟩ := h; rw [h1]; exact fun z => by cases z
  | dS kvs => obtain ⟨vs, h1, _⟩ := h; rw [h1]; exact fun z => by cases z
  | ins C fs => obtain ⟨dx, vs, h1, _⟩ := h; rw [h1]; exact fun z => by cases z
  | xd fs => obtain ⟨vs, h1, _⟩ := h; rw [h1]; exact fun z => by cases z
theorem Sim.free {K : PySem.W.Frag} {S : Sto} {H : Hp} {p : Addr} (s : Sim K S H) (h : H p = none) : S p = none := by
  cases q : S p with
  | none => rfl
  | some o => exact absurd h (s p o q).there
theorem Sim.new {K : PySem.W.Frag} {S : Sto} {H : Hp} {p : Addr} {ho : HO} (s : Sim K S H) (h : H p = none) : Sim K S (upd H p ho) := fun a o e =>
  (s a o e).to (Grow.new h) (upd_ne fun z => by
    subst z
    exact (s _ o e).there h)
theorem Sim.put {K : PySem.W.Frag} {S : Sto} {H : Hp} {p : Addr} {ho : HO} {mo : MO} (s : Sim K S H) (g : Grow H (upd H p ho)) (n : HasO K (upd H p ho) p mo) : Sim K (put S p mo) (upd H p ho) := fun a o e => by
  by_cases q : a = p
  · subst q
    rw [put_same] at e
    cases e
    exact n
  · rw [put_ne q] at e
    exact (s a o e).to g (upd_ne q)
/-- less known -/
def Sub (S S' : Sto) : Prop := ∀ a o, S a = some o → S' a = some o
theorem Sub.refl (S : Sto) : Sub S S := fun _ _ h => h
theorem Sub.trans {S S1 S2 : Sto} (a : Sub S S1) (b : Sub S1 S2) : Sub S S2 := fun x o h => b x o (a x o h)
theorem Sim.less {K : PySem.W.Frag} {S S' : Sto} {H : Hp} (h : Sub S S') (s : Sim K S' H) : Sim K S H := fun a o e => s a o (h a o e)
theorem Sub.new {S : Sto} {p : Addr} {o : MO} (h : S p = none) : Sub S (put S p o) := fun a u e => by
  rw [put_ne (st_ne e h)]; exact e
theorem Sub.put2 {S S' : Sto} {p : Addr} {o : MO} (h : Sub S S') : Sub (put S p o) (put S' p o) := fun a u e => by
  by_cases q : a = p
  · subst q; rw [put_same] at e ⊢; exact e
  · rw [put_ne q] at e ⊢; exact h a u e
theorem Sub.putR {S S' : Sto} {p : Addr} {o : MO} (h : Sub S S') (n : S p = none) : Sub S (put S' p o) := fun a u e => by
  rw [put_ne (st_ne e n)]; exact h a u e

/-! ### names' values -/
abbrev Env := List (Option D)
def EnvOk (K : PySem.W.Frag) (H : Hp) (ρ : Env) (σ : St) : Prop := σ.length = ρ.length ∧ ∀ (i : Nat) (d : D), ρ[i]? = some (some d) → ∃ v, σ[i]? = some (some v) ∧ Rep K H d v
theorem EnvOk.mono {K : PySem.W.Frag} {H H' : Hp} (g : Grow H H') {ρ : Env} {σ : St} (h : EnvOk K H ρ σ) : EnvOk K H' ρ σ := ⟨h.1, fun i d e => by
  obtain ⟨v, h1, h2⟩ := h.2 i d e
  exact ⟨v, h1, Rep.mono g _ _ h2⟩⟩
theorem EnvOk.set {K : PySem.W.Frag} {H : Hp} {ρ : Env} {σ : St} (h : EnvOk K H ρ σ) {i : Nat} {d : D} {v : V} (r : Rep K H d v) : EnvOk K H (ρ.set i (some d)) (σ.set i (some v)) := by
  refine ⟨by rw [List.length_set, List.length_set, h.1], fun j e hj => ?_⟩
  by_cases q : i = j
  · subst q
    by_cases hl : i < ρ.length
    · rw [List.getElem?_set_self hl] at hj
      cases hj
      exact ⟨v, List.getElem?_set_self (by rw [h.1]; exact hl), r⟩
    · rw [List.getElem?_eq_none (by simpa using hl)] at hj; cases hj
  · rw [List.getElem?_set_ne q] at hj ⊢
    exact h.2 j e hj
theorem EnvOk.unset {K : PySem.W.Frag} {H : Hp} {ρ : Env} {σ : St} (h : EnvOk K H ρ σ) {i : Nat} : EnvOk K H (ρ.set i none) (σ.set i none) := by
  refine ⟨by rw [List.length_set, List.length_set, h.1], fun j e hj => ?_⟩
  by_cases q : i = j
  · subst q
    by_cases hl : i < ρ.length
    · rw [List.getElem?_set_self hl] at hj
      cases hj
    · rw [List.getElem?_eq_none (by simpa using hl)] at hj; cases hj
  · rw [List.getElem?_set_ne q] at hj ⊢
    exact h.2 j e hj

/-! ### exceptions: the class, the own dict (its fields stand in the store) -/
structure EV where
  cls : Value
  d : Option Addr
def RepX (K : PySem.W.Frag) (H : Hp) (ev : EV) (cls : Value) (d : Option Addr) : Prop := cls = ev.cls ∧ d = ev.d
abbrev XD := EV → Sto → Prop
abbrev WD := EV → Env → Sto → Prop

/-! ### readings over data -/
abbrev QK := D → Sto → Prop
abbrev QT := WD → Env → Sto → QK → Prop
abbrev QB := WD → Env → Sto → (Bool → Sto → Prop) → Prop
abbrev QA := WD → Env → Sto → (List D → Sto → Prop) → Prop
structure EndsD where
  nx : Env → Sto → Prop
  rt : QK
  bk : Env → Sto → Prop := fun _ _ => False
  ct : Env → Sto → Prop := fun _ _ => False
abbrev QS := WD → EndsD → Env → Sto → Prop

def liftE (K : PySem.W.Frag) (q : QT) (W : WD) : TE := fun σ H Q => ∃ ρ S Qd, Sim K S H ∧ EnvOk K H ρ σ ∧ q W ρ S Qd ∧ ∀ d S' v H', Grow H H' → Sim K S' H' → Rep K H' d v → Qd d S' → Q v H'
def liftB (K : PySem.W.Frag) (q : QB) (W : WD) : TT := fun σ H Q => ∃ ρ S Qd, Sim K S H ∧ EnvOk K H ρ σ ∧ q W ρ S Qd ∧ ∀ b S' H', Grow H H' → Sim K S' H' → Qd b S' → Q b H'
def liftA (K : PySem.W.Frag) (q : QA) (W : WD) : TA := fun σ H Q => ∃ ρ S Qd, Sim K S H ∧ EnvOk K H ρ σ ∧ q W ρ S Qd ∧ ∀ ds S' vs H', Grow H H' → Sim K S' H' → Reps K H' ds vs → Qd ds S' → Q vs H'
def liftS (K : PySem.W.Frag) (q : QS) (W : WD) : TS := fun D σ H => ∃ ρ S Dd, Sim K S H ∧ EnvOk K H ρ σ ∧ q W Dd ρ S ∧
  (∀ ρ' S' σ' H', Grow H H' → Sim K S' H' → EnvOk K H' ρ' σ' → Dd.nx ρ' S' → D.nx σ' H') ∧ (∀ d S' v H', Grow H H' → Sim K S' H' → Rep K H' d v → Dd.rt d S' → D.rt v H') ∧
  (∀ ρ' S' σ' H', Grow H H' → Sim K S' H' → EnvOk K H' ρ' σ' → Dd.bk ρ' S' → D.bk σ' H') ∧ (∀ ρ' S' σ' H', Grow H H' → Sim K S' H' → EnvOk K H' ρ' σ' → Dd.ct ρ' S' → D.ct σ' H')
/-- a wish about exceptions -/
def liftW (K : PySem.W.Frag) (W : WD) : WX := fun cls d σ H => ∃ ρ S ev, Sim K S H ∧ EnvOk K H ρ σ ∧ RepX K H ev cls d ∧ W ev ρ S
abbrev TakesD (X : Cx) (W : WD) : Prop := Takes X (liftW X.K W)

structure QE (X : Cx) (e : Expr) (q : QT) : Prop where
  pe : ∀ W, TakesD X W → PE X e (liftE X.K q W)
structure QTst (X : Cx) (e : Expr) (q : QB) : Prop where
  pt : ∀ W, TakesD X W → PT X e (liftB X.K q W)
structure QWst (X : Cx) (e : Expr) (q : QB) : Prop where
  pw : ∀ W, TakesD X W → PW X e (liftB X.K q W)
structure QArgs (X : Cx) (es : List Expr) (q : QA) : Prop where
  pa : ∀ W, TakesD X W → PA X es (liftA X.K q W)
structure QSt (X : Cx) (st : Stmt) (q : QS) : Prop where
  ps : ∀ W, TakesD X W → PS X st (liftS X.K q W)
structure QSts (X : Cx) (st : List Stmt) (q : QS) : Prop where
  pss : ∀ W, TakesD X W → PSs X st (liftS X.K q W)

theorem PE.imp {X : Cx} {e : Expr} {t t' : TE} (h : PE X e t) (i : ∀ σ H Q, t' σ H Q → t σ H Q) : PE X e t' := ⟨fun pins s σ H Q I q => h.run pins s σ H Q I (i _ _ _ q)⟩
theorem PT.imp {X : Cx} {e : Expr} {t t' : TT} (h : PT X e t) (i : ∀ σ H Q, t' σ H Q → t σ H Q) : PT X e t' := ⟨fun pins s σ H Q I q => h.run pins s σ H Q I (i _ _ _ q)⟩
theorem PW.imp {X : Cx} {e : Expr} {t t' : TT} (h : PW X e t) (i : ∀ σ H Q, t' σ H Q → t σ H Q) : PW X e t' := ⟨fun wh pins s σ H Q I q => h.run wh pins s σ H Q I (i _ _ _ q)⟩
theorem PA.imp {X : Cx} {e : List Expr} {t t' : TA} (h : PA X e t) (i : ∀ σ H Q, t' σ H Q → t σ H Q) : PA X e t' := ⟨fun pos pins s σ H Q I q => h.run pos pins s σ H Q I (i _ _ _ q)⟩
theorem PS.imp {X : Cx} {e : Stmt} {t t' : TS} (h : PS X e t) (i : ∀ D σ H, t' D σ H → t D σ H) : PS X e t' := ⟨fun pins s σ H D I q => h.run pins s σ H D I (i _ _ _ q)⟩
theorem PSs.imp {X : Cx} {e : List Stmt} {t t' : TS} (h : PSs X e t) (i : ∀ D σ H, t' D σ H → t D σ H) : PSs X e t' := ⟨fun pins s σ H D I q => h.run pins s σ H D I (i _ _ _ q)⟩
end Q

set_option maxHeartbeats 1000000
/-! Q: the rules, one a construct. -/
namespace Q
open PySem PySem.Spec L2
variable {X : Cx}

/-- what a place in a def's body gives -/
structure Here (X : Cx) (k : Nat) : Prop where
  calm : X.calm = true
  nd : X.N.Nodup
  po : PassesOwn (model X.prog X.w) X.A X.env X.xe
  room : Room k X.A
theorem Here.hu {k : Nat} (h : Here X k) : X.A.units + 64 < cLine := h.room.units

/-! ### names, constants -/
def qVar (i : Nat) : QT := fun _ ρ S Q => match ρ[i]? with
  | some (some d) => Q d S
  | _ => False
def qC (d : D) : QT := fun _ _ S Q => Q d S
theorem qe_var (i : Nat) {x : Str} {pos : Pos} (hN : X.N[i]? = some x := by rfl) (hv : Vis X.env.scope x := by first | exact Or.inl rfl | exact Or.inr (Or.inl rfl) | exact Or.inr (Or.inr rfl)) (hd : (x == ("__debug__" : Str)) = false := by decide)
    (hcd : (x == ("__classdict__" : Str)) = false := by decide) : QE X (.Name x pos) (qVar i) := ⟨fun W tk => PE.imp (pe_var (i := i) hN hv hd hcd) fun σ H Q ⟨ρ, S, Qd, s, en, q, k⟩ => by
  unfold qVar at q
  cases e : ρ[i]? with
  | none => rw [e] at q; cases q
  | some o =>
    cases o with
    | none => rw [e] at q; cases q
    | some d =>
      rw [e] at q
      obtain ⟨v, h1, h2⟩ := en.2 i d e
      exact ⟨v, h1, k d S v H (Grow.refl H) s h2 q⟩⟩
theorem qe_c {e : Expr} {d : D} {v : V} (h : PE X e (tC v)) (r : ∀ H, Rep X.K H d v) : QE X e (qC d) := ⟨fun W tk => PE.imp h fun σ H Q ⟨ρ, S, Qd, s, en, q, k⟩ => k d S v H (Grow.refl H) s (r H) q⟩
theorem qe_int {i j pos} : QE X (.Constant (.int i) j pos) (qC (.int i)) := qe_c pe_int fun _ => rfl
theorem qe_bl {b j pos} : QE X (.Constant (.bool b) j pos) (qC (.bl b)) := qe_c pe_bl fun _ => rfl
theorem qe_non {j pos} : QE X (.Constant .none j pos) (qC .non) := qe_c pe_non fun _ => rfl
theorem qe_str {x j pos} : QE X (.Constant (.str x) j pos) (qC (.str x)) := qe_c pe_str fun _ => rfl
/-- a module's constant -/
theorem qe_glob {x : Str} {d : D} {v : V} {u : Value} {pos : Pos} (hm : X.mg x = some u) (r : RelV v u) (rd : ∀ H, Rep X.K H d v) (hg : Gl X x := by rfl) (hd : (x == ("__debug__" : Str)) = false := by decide) : QE X (.Name x pos) (qC d) := qe_c (pe_glob hg hm r hd) rd

/-! ### two values -/
abbrev RD2 := D → D → Sto → QK → Prop
def OpD (K : PySem.W.Frag) (r : R2) (rD : RD2) : Prop := ∀ (d e : D) (x y : V) (S : Sto) (H : Hp) (Q : VK) (Qd : QK), Sim K S H → Rep K H d x → Rep K H e y → rD d e S Qd →
  (∀ d' S' v H', Grow H H' → Sim K S' H' → Rep K H' d' v → Qd d' S' → Q v H') → r x y H Q
def qOp (rD : RD2) (qa qb : QT) : QT := fun W ρ S Q => qa W ρ S fun d S1 => qb W ρ S1 fun e S2 => rD d e S2 Q
theorem lift_op {K : PySem.W.Frag} {r : R2} {rD : RD2} {qa qb : QT} {W : WD} (hd : OpD K r rD) : ∀ σ H Q, liftE K (qOp rD qa qb) W σ H Q → tOp r (liftE K qa W) (liftE K qb W) σ H Q := fun σ H Q ⟨ρ, S, Qd, s, en, q, k⟩ =>
  ⟨ρ, S, _, s, en, q, fun d S1 v H1 g1 s1 r1 q1 => ⟨ρ, S1, _, s1, en.mono g1, q1, fun e S2 u H2 g2 s2 r2 q2 =>
    hd d e v u S2 H2 Q Qd s2 (Rep.mono g2 _ _ r1) r2 q2 fun d' S' v' H' g s r q => k d' S' v' H' (g1.trans (g2.trans g)) s r q⟩⟩
variable {a b c : Expr} {qa qb qc : QT} {pos : Pos}
theorem qe_op {op : Operator} {r : R2} {rD : RD2} (ho : OpR X (binaryOp op) r) (hd : OpD X.K r rD) (ha : QE X a qa) (hb : QE X b qb) : QE X (.BinOp a op b pos) (qOp rD qa qb) :=
  ⟨fun W tk => PE.imp (pe_op ho (ha.pe W tk) (hb.pe W tk)) (lift_op hd)⟩
theorem OpD.or {K : PySem.W.Frag} {r r' : R2} {rD rD' : RD2} (h : OpD K r rD) (h' : OpD K r' rD') : OpD K (fun x y H Q => r x y H Q ∨ r' x y H Q) (fun d e S Q => rD d e S Q ∨ rD' d e S Q) := fun d e x y S H Q Qd s r1 r2 q k =>
  q.elim (fun q => .inl (h d e x y S H Q Qd s r1 r2 q k)) fun q => .inr (h' d e x y S H Q Qd s r1 r2 q k)
theorem OpD.imp {K : PySem.W.Frag} {r : R2} {rD rD' : RD2} (h : OpD K r rD) (i : ∀ d e S Q, rD' d e S Q → rD d e S Q) : OpD K r rD' := fun d e x y S H Q Qd s r1 r2 q k => h d e x y S H Q Qd s r1 r2 (i _ _ _ _ q) k

/-- two ints -/
def rII (C : Int → Int → Prop) (g : Int → Int → D) : RD2 := fun d e S Q => match d, e with
  | .int i, .int j => C i j ∧ Q (g i j) S
  | _, _ => False
theorem opd_I {K : PySem.W.Frag} {C : Int → Int → Prop} {g : Int → Int → V} {gd : Int → Int → D} (r : ∀ i j H, Rep K H (gd i j) (g i j)) : OpD K (rI C g) (rII C gd) := fun d e x y S H Q Qd s r1 r2 q k => by
  unfold rII at q
  split at q
  · exact ⟨_, _, r1, r2, q.1, k _ S _ H (Grow.refl H) s (r _ _ H) q.2⟩
  · cases q
def rII0 (g : Int → Int → D) : RD2 := fun d e S Q => match d, e with
  | .int i, .int j => Q (g i j) S
  | _, _ => False
theorem opd_I0 {K : PySem.W.Frag} {g : Int → Int → V} {gd : Int → Int → D} (r : ∀ i j H, Rep K H (gd i j) (g i j)) : OpD K (rI0 g) (rII0 gd) := fun d e x y S H Q Qd s r1 r2 q k => by
  unfold rII0 at q
  split at q
  · exact ⟨_, _, r1, r2, k _ S _ H (Grow.refl H) s (r _ _ H) q⟩
  · cases q

def addD : RD2 := fun d e S Q => match d, e with
  | .int i, .int j => Q (.int (i + j)) S
  | .str x, .str y => x.length + y.length ≤ sizeLine ∧ Q (.str (x ++ y)) S
  | .tup xs, .tup ys => xs.length + ys.length ≤ sizeLine ∧ Q (.tup (xs ++ ys)) S
  | .ref a, .ref b => match S a, S b with
    | some (.lst xs), some (.lst ys) => xs.length + ys.length ≤ sizeLine ∧ ∀ p, S p = none → Q (.ref p) (put S p (.lst (xs ++ ys)))
    | _, _ => False
  | _, _ => False
def rAddV (K : PySem.W.Frag) : R2 := fun x y H Q => (rI0 fun i j => .int (i + j)) x y H Q ∨ (∃ i j, x = .str i ∧ y = .str j ∧ i.length + j.length ≤ sizeLine ∧ Q (.str (i ++ j)) H) ∨ rCatA K x y H Q ∨ rCat x y H Q
theorem op_addV : OpR X (binaryOp .Add) (rAddV X.K) := op_add.or (op_add_str.or (op_catA.or op_cat))
theorem sim_lst {K : PySem.W.Frag} {S : Sto} {H : Hp} {p : Addr} {ds : List D} {vs : List V} (s : Sim K S H) (h : H p = none) (r : Reps K H ds vs) : Sim K (put S p (.lst ds)) (upd H p (.lst vs)) :=
  s.put (Grow.new h) ⟨vs, upd_same, Reps.mono (Grow.new h) _ _ r⟩
theorem opd_add {K : PySem.W.Frag} : OpD K (rAddV K) addD := fun d e x y S H Q Qd s r1 r2 q k => by
  unfold addD at q
  split at q
  · exact .inl ⟨_, _, r1, r2, k _ S _ H (Grow.refl H) s rInt q⟩
  · exact .inr (.inl ⟨_, _, r1, r2, q.1, k _ S _ H (Grow.refl H) s rStr q.2⟩)
  · obtain ⟨a, xs, rfl, h1, h2⟩ := r1
    obtain ⟨b, ys, rfl, h3, h4⟩ := r2
    refine .inr (.inr (.inl ⟨a, b, xs, ys, rfl, rfl, h1, h3, by rw [h2.len, h4.len]; exact q.1, fun z => ?_, fun _ z => ?_, fun _ _ p hp => ?_⟩))
    · subst z
      exact k _ S _ H (Grow.refl H) s (rTup h3 (h2.append h4)) q.2
    · subst z
      have := h2.append h4
      rw [List.append_nil] at this
      exact k _ S _ H (Grow.refl H) s (rTup h1 this) q.2
    · exact k _ S _ _ (Grow.new hp) (s.new hp) (rTup (SqT.of upd_same) (Reps.mono (Grow.new hp) _ _ (h2.append h4))) q.2
  · split at q
    · rename_i xs ys ea eb
      obtain ⟨vs, h1, h2⟩ := s _ _ ea
      obtain ⟨us, h3, h4⟩ := s _ _ eb
      refine .inr (.inr (.inr ⟨_, _, vs, us, r1, r2, h1, h3, by rw [h2.len, h4.len]; exact q.1, fun p hp => ?_⟩))
      exact k _ _ _ _ (Grow.new hp) (sim_lst s hp (h2.append h4)) rRef (q.2 p (s.free hp))
    · cases q
  · cases q
theorem qe_add (ha : QE X a qa) (hb : QE X b qb) : QE X (.BinOp a .Add b pos) (qOp addD qa qb) := qe_op op_addV opd_add ha hb
def subD : RD2 := rII0 fun i j => .int (i - j)
theorem qe_sub (ha : QE X a qa) (hb : QE X b qb) : QE X (.BinOp a .Sub b pos) (qOp subD qa qb) := qe_op op_sub (opd_I0 fun _ _ _ => rfl) ha hb
/-- a divisor below 2 ^ 9000 -/
def CFd (i j : Int) : Prop := j ≠ 0 ∧ (j.natAbs < 1073741824 ∨ (0 < j ∧ j.natAbs.log2 < 9000))
theorem op_fdivA : OpR X (binaryOp .FloorDiv) (rI CFd fun i j => .int (i.fdiv j)) := opI fun i j t u s Q E hc q => by
  rcases hc.2 with h | h
  · exact PyProof.Rows.floordiv_int hc.1 q (.inl (PyProof.noPylong_small h))
  · exact PyProof.Rows.floordiv_int hc.1 q (.inl (PyProof.noPylong_of_log2 h.2))
def fdivD : RD2 := rII CFd fun i j => .int (i.fdiv j)
theorem qe_fdiv (ha : QE X a qa) (hb : QE X b qb) : QE X (.BinOp a .FloorDiv b pos) (qOp fdivD qa qb) := qe_op op_fdivA (opd_I fun _ _ _ => rfl) ha hb
def modD : RD2 := rII (fun _ j => j ≠ 0) fun i j => .int (i.fmod j)
theorem qe_mod (ha : QE X a qa) (hb : QE X b qb) : QE X (.BinOp a .Mod b pos) (qOp modD qa qb) := qe_op op_modN (opd_I fun _ _ _ => rfl) ha hb
def CPw (i j : Int) : Prop := 0 ≤ j ∧ (Builtin.Int.intBits i : Int) * j ≤ 2 ^ 27
theorem op_powA : OpR X (binaryOp .Pow) (rI CPw fun i j => .int (i ^ j.toNat)) := opI fun _ _ _ _ _ _ _ hc q => PyProof.Rows.pow_int hc.1 hc.2 q
def powD : RD2 := rII CPw fun i j => .int (i ^ j.toNat)
theorem qe_pow (ha : QE X a qa) (hb : QE X b qb) : QE X (.BinOp a .Pow b pos) (qOp powD qa qb) := qe_op op_powA (opd_I fun _ _ _ => rfl) ha hb

/-! ### one value -/
theorem qe_neg {i j p} : QE X (.UnaryOp .USub (.Constant (.int i) j p) pos) (qC (.int (-i))) := ⟨fun W tk => PE.imp (pe_un un_neg pe_int) fun σ H Q ⟨ρ, S, Qd, s, en, q, k⟩ => ⟨i, rfl, k _ S _ H (Grow.refl H) s rInt q⟩⟩

/-! ### products -/
def repS (z : Str) (n : Int) : Str := ⟨(List.replicate n.toNat z.cps.toList).flatten.toArray⟩
def CRep (m : Nat) (n : Int) : Prop := n < 2 ^ 31 ∧ -(2 ^ 31) ≤ n ∧ m * n.toNat ≤ sizeLine
theorem foldl_cat (x : Array Nat) : ∀ (k : Nat) (acc : Array Nat), ((List.replicate k x).foldl (· ++ ·) acc).toList = acc.toList ++ (List.replicate k x.toList).flatten
  | 0, acc => by simp
  | k + 1, acc => by
    rw [List.replicate_succ, List.foldl_cons, foldl_cat x k, List.replicate_succ, List.flatten_cons, Array.toList_append, List.append_assoc]
theorem mul_repS (z : Str) (n : Int) : PySem.Txt.mul z n = repS z n := by
  unfold PySem.Txt.mul repS
  by_cases h1 : n < 1
  · rw [if_pos h1, show n.toNat = 0 by omega]; rfl
  · rw [if_neg h1]
    by_cases h2 : (n == 1 || z.length == 0) = true
    · rw [if_pos h2]
      refine TL.ext_tl ?_
      show z.cps.toList = (List.replicate n.toNat z.cps.toList).flatten
      rcases Bool.or_eq_true_iff.mp h2 with h | h
      · rw [beq_iff_eq] at h; subst h; simp
      · have : z.cps.toList = [] := by
          have h := beq_iff_eq.mp h
          have h' : z.cps.toList.length = 0 := by simpa [Str.length] using h
          exact List.length_eq_zero_iff.mp h'
        rw [this]
        simp
    · rw [if_neg h2]
      refine TL.ext_tl ?_
      show ((List.replicate n.toNat z.cps).foldl (· ++ ·) #[]).toList = _
      rw [foldl_cat]
      simp
theorem mulOk_of {z : Str} {n : Int} (h : CRep z.length n) : MulOk z n := by
  obtain ⟨h1, h2, h3⟩ := h
  refine ⟨by simp; omega, fun a b => ?_, fun a b => ?_⟩
  · have h4 : (z.length : Int) ≤ 16777216 := by
      have : 1 ≤ n.toNat := by omega
      have h5 : z.length * 1 ≤ z.length * n.toNat := Nat.mul_le_mul_left _ this
      rw [sizeLine_eq] at h3
      omega
    have h6 : (2 ^ 63 - 1) / (2 ^ 31 : Int) ≤ (2 ^ 63 - 1) / n := by
      refine (Int.le_ediv_iff_mul_le (by omega)).mpr ?_
      have h7 : (2 ^ 63 - 1) / (2 ^ 31 : Int) = 4294967295 := by decide
      rw [h7]
      omega
    have h7 : (2 ^ 63 - 1) / (2 ^ 31 : Int) = 4294967295 := by decide
    omega
  · simp only [Builtin.Str.tooLong, decide_eq_false_iff_not]
    exact Nat.not_lt.mpr h3
theorem op_mul_strR : OpR X (binaryOp .Mult) (fun x y H Q => ∃ z n, x = .str z ∧ y = .int n ∧ CRep z.length n ∧ Q (.str (repS z n)) H) := by
  intro pins s σ H x y v u Q I rx ry h
  obtain ⟨z, n, rfl, rfl, hc, q⟩ := h
  obtain ⟨t, rfl⟩ := rx
  obtain ⟨t', rfl⟩ := ry
  rw [← mul_repS] at q
  exact PySem.SB.mul (mulOk_of hc) fun t' k => ⟨.str _, H, I.tok _, ⟨_, rfl⟩, q⟩
def mulD : RD2 := fun d e S Q => match d, e with
  | .int i, .int j => CMulW i j ∧ Q (.int (i * j)) S
  | .str z, .int n => CRep z.length n ∧ Q (.str (repS z n)) S
  | .ref a, .int n => match S a with
    | some (.lst xs) => CRep xs.length n ∧ ∀ p, S p = none → Q (.ref p) (put S p (.lst (List.replicate n.toNat xs).flatten))
    | _ => False
  | _, _ => False
def rMulV : R2 := fun x y H Q => (rI CMulW fun i j => .int (i * j)) x y H Q ∨ (∃ z n, x = .str z ∧ y = .int n ∧ CRep z.length n ∧ Q (.str (repS z n)) H) ∨ rRep x y H Q
theorem op_mulV : OpR X (binaryOp .Mult) rMulV := op_mulW.or (op_mul_strR.or op_rep)
theorem opd_mul {K : PySem.W.Frag} : OpD K rMulV mulD := fun d e x y S H Q Qd s r1 r2 q k => by
  unfold mulD at q
  split at q
  · exact .inl ⟨_, _, r1, r2, q.1, k _ S _ H (Grow.refl H) s rInt q.2⟩
  · exact .inr (.inl ⟨_, _, r1, r2, q.1, k _ S _ H (Grow.refl H) s rStr q.2⟩)
  · split at q
    · rename_i xs ea
      obtain ⟨vs, h1, h2⟩ := s _ _ ea
      obtain ⟨⟨q1, q2, q3⟩, q⟩ := q
      refine .inr (.inr ⟨_, _, vs, r1, r2, h1, by omega, by omega, by rw [h2.len]; exact q3, fun p hp => ?_⟩)
      exact k _ _ _ _ (Grow.new hp) (sim_lst s hp (h2.rep _)) rRef (q p (s.free hp))
    · cases q
  · cases q
theorem qe_mul (ha : QE X a qa) (hb : QE X b qb) : QE X (.BinOp a .Mult b pos) (qOp mulD qa qb) := qe_op op_mulV opd_mul ha hb

/-! ### comparisons -/
def qT (q : QT) : QB := fun W ρ S Q => q W ρ S fun d S1 => match d with
  | .bl b => Q b S1
  | _ => False
theorem lift_T {K : PySem.W.Frag} {q : QT} {W : WD} : ∀ σ H Q, liftB K (qT q) W σ H Q → liftE K q W σ H fun x H' => ∃ k, x = .bl k ∧ Q k H' := fun σ H Q ⟨ρ, S, Qd, s, en, q, k⟩ =>
  ⟨ρ, S, _, s, en, q, fun d S' v H' g s r q => by
    cases d with
    | bl b => exact ⟨b, r, k b S' H' g s q⟩
    | _ => cases q⟩
theorem qe_cmp {op : CmpOp} {r : R2} {rD : RD2} (ho : OpR X (compareOp op) r) (hd : OpD X.K r rD) (ha : QE X a qa) (hb : QE X b qb) (hm : behindInMarks op b = false) : QE X (.Compare a [op] [b] pos) (qOp rD qa qb) :=
  ⟨fun W tk => PE.imp (pe_cmpR ho (ha.pe W tk) (hb.pe W tk) hm) (lift_op hd)⟩
theorem qt_cmp {op : CmpOp} {r : R2} {rD : RD2} (ho : OpR X (compareOp op) r) (hd : OpD X.K r rD) (ha : QE X a qa) (hb : QE X b qb) (hm : behindInMarks op b = false) : QTst X (.Compare a [op] [b] pos) (qT (qOp rD qa qb)) :=
  ⟨fun W tk => PT.imp (pt_cmpR ho (ha.pe W tk) (hb.pe W tk) hm) fun σ H Q h => lift_op hd σ H _ (lift_T σ H Q h)⟩

def cmpD (g : Int → Int → Bool) (gs : List Nat → List Nat → Bool) : RD2 := fun d e S Q => match d, e with
  | .int i, .int j => Q (.bl (g i j)) S
  | .str x, .str y => Q (.bl (gs x.cps.toList y.cps.toList)) S
  | _, _ => False
theorem opd_cmp {K : PySem.W.Frag} {g : Int → Int → Bool} {gs : List Nat → List Nat → Bool} : OpD K (fun x y H Q => (rI0 fun i j => .bl (g i j)) x y H Q ∨ (∃ i j, x = .str i ∧ y = .str j ∧ Q (.bl (gs i.cps.toList j.cps.toList)) H)) (cmpD g gs) := fun d e x y S H Q Qd s r1 r2 q k => by
  unfold cmpD at q
  split at q
  · exact .inl ⟨_, _, r1, r2, k _ S _ H (Grow.refl H) s rBl q⟩
  · exact .inr ⟨_, _, r1, r2, k _ S _ H (Grow.refl H) s rBl q⟩
  · cases q
def ltD : RD2 := cmpD (fun i j => decide (i < j)) fun x y => decide (x < y)
def leD : RD2 := cmpD (fun i j => decide (i ≤ j)) fun x y => !decide (y < x)
def gtD : RD2 := cmpD (fun i j => decide (j < i)) fun x y => decide (y < x)
def geD : RD2 := cmpD (fun i j => decide (j ≤ i)) fun x y => !decide (x < y)
theorem qe_lt (ha : QE X a qa) (hb : QE X b qb) : QE X (.Compare a [.Lt] [b] pos) (qOp ltD qa qb) := qe_cmp (op_lt.or op_lt_str) opd_cmp ha hb (nomark _)
theorem qt_lt (ha : QE X a qa) (hb : QE X b qb) : QTst X (.Compare a [.Lt] [b] pos) (qT (qOp ltD qa qb)) := qt_cmp (op_lt.or op_lt_str) opd_cmp ha hb (nomark _)
theorem qe_le (ha : QE X a qa) (hb : QE X b qb) : QE X (.Compare a [.LtE] [b] pos) (qOp leD qa qb) := qe_cmp (op_le.or op_le_str) opd_cmp ha hb (nomark _)
theorem qt_le (ha : QE X a qa) (hb : QE X b qb) : QTst X (.Compare a [.LtE] [b] pos) (qT (qOp leD qa qb)) := qt_cmp (op_le.or op_le_str) opd_cmp ha hb (nomark _)
theorem qe_gt (ha : QE X a qa) (hb : QE X b qb) : QE X (.Compare a [.Gt] [b] pos) (qOp gtD qa qb) := qe_cmp (op_gt.or op_gt_str) opd_cmp ha hb (nomark _)
theorem qt_gt (ha : QE X a qa) (hb : QE X b qb) : QTst X (.Compare a [.Gt] [b] pos) (qT (qOp gtD qa qb)) := qt_cmp (op_gt.or op_gt_str) opd_cmp ha hb (nomark _)
theorem qe_ge (ha : QE X a qa) (hb : QE X b qb) : QE X (.Compare a [.GtE] [b] pos) (qOp geD qa qb) := qe_cmp (op_ge.or op_ge_str) opd_cmp ha hb (nomark _)
theorem qt_ge (ha : QE X a qa) (hb : QE X b qb) : QTst X (.Compare a [.GtE] [b] pos) (qT (qOp geD qa qb)) := qt_cmp (op_ge.or op_ge_str) opd_cmp ha hb (nomark _)

/-! equality -/
mutual
inductive Pd (S : Sto) : D → PyData → Prop
  | non : Pd S .non .none
  | bl (b : Bool) : Pd S (.bl b) (.bool b)
  | int (i : Int) : Pd S (.int i) (.int i)
  | str (x : Str) : Pd S (.str x) (.str x)
  | tup {ds : List D} {ps : List PyData} : Pds S ds ps → Pd S (.tup ds) (.tuple ps)
  | kl {ds : List D} {ps : List PyData} : Pds S ds ps → Pd S (.kl ds) (.list ps)
  | lst {a : Addr} {ds : List D} {ps : List PyData} : S a = some (.lst ds) → Pds S ds ps → Pd S (.ref a) (.list ps)
inductive Pds (S : Sto) : List D → List PyData → Prop
  | nil : Pds S [] []
  | cons {d : D} {ds : List D} {p : PyData} {ps : List PyData} : Pd S d p → Pds S ds ps → Pds S (d :: ds) (p :: ps)
end
mutual
theorem Pd.dp {K : PySem.W.Frag} {S : Sto} {H : Hp} (s : Sim K S H) : ∀ (p : PyData) (d : D) (v : V), Pd S d p → Rep K H d v → Dp K H v p
  | .none, _, _, h, r => by cases h; rw [show _ = _ from r]; exact .non
  | .bool b, _, _, h, r => by cases h; rw [show _ = _ from r]; exact .bl b
  | .int b, _, _, h, r => by cases h; rw [show _ = _ from r]; exact .int b
  | .str b, _, _, h, r => by cases h; rw [show _ = _ from r]; exact .str b
  | .tuple ps, _, _, h, r => by
    cases h with
    | tup hs =>
      obtain ⟨a, vs, rfl, h1, h2⟩ := r
      exact .tup h1 (Pds.dp s ps _ vs hs h2)
  | .list ps, _, _, h, r => by
    cases h with
    | kl hs =>
      obtain ⟨a, vs, rfl, h1, h2⟩ := r
      exact .lst h1.sq (Pds.dp s ps _ vs hs h2)
    | lst ha hs =>
      rw [show _ = _ from r]
      obtain ⟨vs, h1, h2⟩ := s _ _ ha
      exact .lst (SqL.of h1) (Pds.dp s ps _ vs hs h2)
  | .dict _, _, _, h, _ => by cases h
theorem Pds.dp {K : PySem.W.Frag} {S : Sto} {H : Hp} (s : Sim K S H) : ∀ (ps : List PyData) (ds : List D) (vs : List V), Pds S ds ps → Reps K H ds vs → DpAll K H vs ps
  | [], _, _, h, r => by cases h; rw [show _ = _ from r]; exact .nil
  | p :: ps, _, _, h, r => by
    cases h with
    | cons h1 h2 =>
      obtain ⟨v, rs, rfl, r1, r2⟩ := r
      exact .cons (Pd.dp s p _ v h1 r1) (Pds.dp s ps _ rs h2 r2)
end
def eqD (neg : Bool) : RD2 := fun d e S Q => match d, e with
  | .int i, .int j => Q (.bl (neg ^^ decide (i = j))) S
  | .str x, .str y => Q (.bl (neg ^^ decide (x = y))) S
  | .bl x, .bl y => Q (.bl (neg ^^ decide (x = y))) S
  | .non, .non => Q (.bl (neg ^^ true)) S
  | .non, .str _ => Q (.bl (neg ^^ false)) S
  | .str _, .non => Q (.bl (neg ^^ false)) S
  | .non, .int _ => Q (.bl (neg ^^ false)) S
  | .int _, .non => Q (.bl (neg ^^ false)) S
  | d, e => ∃ p q, Pd S d p ∧ Pd S e q ∧ SeqAt.shaped p = true ∧ SeqAt.shaped q = true ∧ Q (.bl (neg ^^ PyData.eqv p q)) S
theorem opd_eq {K : PySem.W.Frag} : OpD K (fun x y H Q => rEq x y H Q ∨ rEqD K x y H Q) (eqD false) := fun d e x y S H Q Qd s r1 r2 q k => by
  unfold eqD at q
  split at q
  · rw [show x = _ from r1, show y = _ from r2]
    refine .inl ⟨rfl, k _ S _ H (Grow.refl H) s rBl ?_⟩
    simpa using q
  · rw [show x = _ from r1, show y = _ from r2]
    refine .inl ⟨rfl, k _ S _ H (Grow.refl H) s rBl ?_⟩
    simpa using q
  · rw [show x = _ from r1, show y = _ from r2]
    refine .inl ⟨rfl, k _ S _ H (Grow.refl H) s rBl ?_⟩
    simpa using q
  · rw [show x = _ from r1, show y = _ from r2]; exact .inl ⟨rfl, k _ S _ H (Grow.refl H) s rBl (by simpa using q)⟩
  · rw [show x = _ from r1, show y = _ from r2]; exact .inl ⟨rfl, k _ S _ H (Grow.refl H) s rBl (by simpa using q)⟩
  · rw [show x = _ from r1, show y = _ from r2]; exact .inl ⟨rfl, k _ S _ H (Grow.refl H) s rBl (by simpa using q)⟩
  · rw [show x = _ from r1, show y = _ from r2]; exact .inl ⟨rfl, k _ S _ H (Grow.refl H) s rBl (by simpa using q)⟩
  · rw [show x = _ from r1, show y = _ from r2]; exact .inl ⟨rfl, k _ S _ H (Grow.refl H) s rBl (by simpa using q)⟩
  · obtain ⟨p, p', h1, h2, h3, h4, q⟩ := q
    exact .inr ⟨p, p', Pd.dp s p _ _ h1 r1, Pd.dp s p' _ _ h2 r2, h3, h4, k _ S _ H (Grow.refl H) s rBl (by simpa using q)⟩
theorem opd_ne {K : PySem.W.Frag} : OpD K (fun x y H Q => rNe x y H Q ∨ rNeD K x y H Q) (eqD true) := fun d e x y S H Q Qd s r1 r2 q k => by
  unfold eqD at q
  split at q
  · rw [show x = _ from r1, show y = _ from r2]
    refine .inl ⟨rfl, k _ S _ H (Grow.refl H) s rBl ?_⟩
    simpa using q
  · rw [show x = _ from r1, show y = _ from r2]
    refine .inl ⟨rfl, k _ S _ H (Grow.refl H) s rBl ?_⟩
    simpa using q
  · rw [show x = _ from r1, show y = _ from r2]
    refine .inl ⟨rfl, k _ S _ H (Grow.refl H) s rBl ?_⟩
    simpa using q
  · rw [show x = _ from r1, show y = _ from r2]; exact .inl ⟨rfl, k _ S _ H (Grow.refl H) s rBl (by simpa using q)⟩
  · rw [show x = _ from r1, show y = _ from r2]; exact .inl ⟨rfl, k _ S _ H (Grow.refl H) s rBl (by simpa using q)⟩
  · rw [show x = _ from r1, show y = _ from r2]; exact .inl ⟨rfl, k _ S _ H (Grow.refl H) s rBl (by simpa using q)⟩
  · rw [show x = _ from r1, show y = _ from r2]; exact .inl ⟨rfl, k _ S _ H (Grow.refl H) s rBl (by simpa using q)⟩
  · rw [show x = _ from r1, show y = _ from r2]; exact .inl ⟨rfl, k _ S _ H (Grow.refl H) s rBl (by simpa using q)⟩
  · obtain ⟨p, p', h1, h2, h3, h4, q⟩ := q
    exact .inr ⟨p, p', Pd.dp s p _ _ h1 r1, Pd.dp s p' _ _ h2 r2, h3, h4, k _ S _ H (Grow.refl H) s rBl (by simpa using q)⟩
theorem qe_eq {k : Nat} (h : Here X k) (ha : QE X a qa) (hb : QE X b qb) : QE X (.Compare a [.Eq] [b] pos) (qOp (eqD false) qa qb) := qe_cmp (op_eq.or (op_eqD h.hu)) opd_eq ha hb (nomark _)
theorem qt_eq {k : Nat} (h : Here X k) (ha : QE X a qa) (hb : QE X b qb) : QTst X (.Compare a [.Eq] [b] pos) (qT (qOp (eqD false) qa qb)) := qt_cmp (op_eq.or (op_eqD h.hu)) opd_eq ha hb (nomark _)
theorem qe_ne {k : Nat} (h : Here X k) (ha : QE X a qa) (hb : QE X b qb) : QE X (.Compare a [.NotEq] [b] pos) (qOp (eqD true) qa qb) := qe_cmp (op_ne.or (op_neD h.hu)) opd_ne ha hb (nomark _)
theorem qt_ne {k : Nat} (h : Here X k) (ha : QE X a qa) (hb : QE X b qb) : QTst X (.Compare a [.NotEq] [b] pos) (qT (qOp (eqD true) qa qb)) := qt_cmp (op_ne.or (op_neD h.hu)) opd_ne ha hb (nomark _)

/-! None -/
def isNon : D → Bool
  | .non => true
  | _ => false
def isND (neg : Bool) : RD2 := fun d e S Q => match e with
  | .non => Q (.bl (neg ^^ isNon d)) S
  | _ => False
theorem rep_non {K : PySem.W.Frag} {H : Hp} {d : D} {v : V} (r : Rep K H d v) : decide (v = .non) = isNon d := by
  cases d with
  | tup ds => obtain ⟨a, vs, rfl, _⟩ := r; rfl
  | kl ds => obtain ⟨a, vs, rfl, _⟩ := r; rfl
  | _ => (have e : v = _ := r); subst e; rfl
theorem opd_is {K : PySem.W.Frag} : OpD K (fun x y H Q => y = .non ∧ Q (.bl (decide (x = .non))) H) (isND false) := fun d e x y S H Q Qd s r1 r2 q k => by
  unfold isND at q
  split at q
  · refine ⟨r2, k _ S _ H (Grow.refl H) s rBl ?_⟩
    rw [rep_non r1]
    simpa using q
  · cases q
theorem opd_isnot {K : PySem.W.Frag} : OpD K (fun x y H Q => y = .non ∧ Q (.bl (!decide (x = .non))) H) (isND true) := fun d e x y S H Q Qd s r1 r2 q k => by
  unfold isND at q
  split at q
  · refine ⟨r2, k _ S _ H (Grow.refl H) s rBl ?_⟩
    rw [rep_non r1]
    simpa using q
  · cases q
theorem qe_is (ha : QE X a qa) (hb : QE X b qb) : QE X (.Compare a [.Is] [b] pos) (qOp (isND false) qa qb) := qe_cmp op_isN opd_is ha hb (nomark _)
theorem qt_is (ha : QE X a qa) (hb : QE X b qb) : QTst X (.Compare a [.Is] [b] pos) (qT (qOp (isND false) qa qb)) := qt_cmp op_isN opd_is ha hb (nomark _)
theorem qe_isnot (ha : QE X a qa) (hb : QE X b qb) : QE X (.Compare a [.IsNot] [b] pos) (qOp (isND true) qa qb) := qe_cmp op_notN opd_isnot ha hb (nomark _)
theorem qt_isnot (ha : QE X a qa) (hb : QE X b qb) : QTst X (.Compare a [.IsNot] [b] pos) (qT (qOp (isND true) qa qb)) := qt_cmp op_notN opd_isnot ha hb (nomark _)
end Q

set_option maxHeartbeats 1000000
/-! Q: rules, second part. -/
namespace Q
open PySem PySem.Spec L2
variable {X : Cx} {a b c e : Expr} {es : List Expr} {qa qb qc : QT} {pos : Pos}

/-! ### in, not in -/
/-- whether the text y stands within x -/
def inS (y x : Str) : Bool := !(Builtin.Str.occurrences x y 0 x.length 1).isEmpty
def flatD : D → Bool
  | .non => true
  | .bl _ => true
  | .int _ => true
  | .str _ => true
  | _ => false
/-- == of flat data -/
def eqF : D → D → Bool
  | .non, .non => true
  | .bl a, .bl b => a == b
  | .bl a, .int b => (if a then 1 else 0) == b
  | .int a, .bl b => a == (if b then 1 else 0)
  | .int a, .int b => a == b
  | .str a, .str b => a == b
  | _, _ => false
def inF (d : D) (ds : List D) : Bool := ds.any fun y => eqF y d
theorem flat_rep {K : PySem.W.Frag} {H : Hp} {d : D} {v : V} (r : Rep K H d v) (f : flatD d = true) : flatV v = true := by
  cases d with
  | non => rw [show v = _ from r]; rfl
  | bl _ => rw [show v = _ from r]; rfl
  | int _ => rw [show v = _ from r]; rfl
  | str _ => rw [show v = _ from r]; rfl
  | _ => cases f
theorem eqF_rep {K : PySem.W.Frag} {H : Hp} {d e : D} {v u : V} (r : Rep K H d v) (q : Rep K H e u) (f : flatD d = true) (g : flatD e = true) : eqV v u = eqF d e := by
  cases d <;> first
    | (cases f; done)
    | (cases e <;> first
        | (cases g; done)
        | (rw [show v = _ from r, show u = _ from q]; rfl))
theorem flats_rep {K : PySem.W.Frag} {H : Hp} : ∀ {ds : List D} {vs : List V}, Reps K H ds vs → ds.all flatD = true → vs.all flatV = true
  | [], _, r, _ => by rw [show _ = _ from r]; rfl
  | d :: ds, vs, r, f => by
    obtain ⟨v, us, rfl, r1, r2⟩ := r
    rw [List.all_cons, Bool.and_eq_true] at f ⊢
    exact ⟨flat_rep r1 f.1, flats_rep r2 f.2⟩
theorem inF_rep {K : PySem.W.Frag} {H : Hp} {d : D} {v : V} (q : Rep K H d v) (g : flatD d = true) : ∀ {ds : List D} {vs : List V}, Reps K H ds vs → ds.all flatD = true → inV v vs = inF d ds
  | [], _, r, _ => by rw [show _ = _ from r]; rfl
  | d1 :: ds, vs, r, f => by
    obtain ⟨v1, us, rfl, r1, r2⟩ := r
    rw [List.all_cons, Bool.and_eq_true] at f
    have e := inF_rep q g r2 f.2
    unfold inV inF at e ⊢
    rw [List.any_cons, List.any_cons, e, eqF_rep r1 q f.1 g]
/-- the items of a list or tuple -/
def items (S : Sto) : D → Option (List D)
  | .tup ds => some ds
  | .kl ds => some ds
  | .ref a => match S a with
    | some (.lst ds) => some ds
    | _ => none
  | _ => none
theorem items_ref {S : Sto} {p : Addr} {ds : List D} (h : items S (.ref p) = some ds) : S p = some (.lst ds) := by
  have h' : (match S p with
    | some (.lst ds) => some ds
    | _ => none) = some ds := h
  cases e : S p with
  | none => rw [e] at h'; cases h'
  | some o =>
    rw [e] at h'
    cases o with
    | lst es => cases h'; rfl
    | _ => cases h'
theorem items_lst {S : Sto} {p : Addr} {ds : List D} (h : S p = some (.lst ds)) : items S (.ref p) = some ds := by
  show (match S p with
    | some (.lst ds) => some ds
    | _ => none) = some ds
  rw [h]
theorem items_rep {K : PySem.W.Frag} {S : Sto} {H : Hp} {d : D} {v : V} {ds : List D} (s : Sim K S H) (r : Rep K H d v) (h : items S d = some ds) : ∃ p vs, v = .ref p ∧ (SqL K H p vs ∨ SqT K H p vs) ∧ Reps K H ds vs := by
  cases d with
  | tup es =>
    cases h
    obtain ⟨p, vs, rfl, h1, h2⟩ := r
    exact ⟨p, vs, rfl, .inr h1, h2⟩
  | kl es =>
    cases h
    obtain ⟨p, vs, rfl, h1, h2⟩ := r
    exact ⟨p, vs, rfl, .inl h1.sq, h2⟩
  | ref p =>
    obtain ⟨vs, h1, h2⟩ := s _ _ (items_ref h)
    exact ⟨p, vs, r, .inl (SqL.of h1), h2⟩
  | _ => cases h
def inD (neg : Bool) : RD2 := fun d e S Q => match d, e with
  | .str y, .str x => Q (.bl (neg ^^ inS y x)) S
  | d, e => match items S e with
    | some ds => flatD d = true ∧ ds.all flatD = true ∧ Q (.bl (neg ^^ inF d ds)) S
    | none => False
def rInV (K : PySem.W.Frag) (neg : Bool) : R2 := fun x y H Q => (∃ i j, x = .str i ∧ y = .str j ∧ Q (.bl (neg ^^ inS i j)) H) ∨ rIn K neg x y H Q
theorem op_inV : OpR X (compareOp .In) (rInV X.K false) := by
  have h : OpR X (compareOp .In) (fun x y H Q => ∃ i j, x = .str i ∧ y = .str j ∧ Q (.bl (false ^^ inS i j)) H) := fun pins s σ H x y v u Q I rx ry h => by
    obtain ⟨i, j, e1, e2, q⟩ := h
    exact op_in_str pins s σ H x y v u Q I rx ry ⟨i, j, e1, e2, by simpa [inS] using q⟩
  exact h.or op_in_seq
theorem op_notinV : OpR X (compareOp .NotIn) (rInV X.K true) := by
  have h : OpR X (compareOp .NotIn) (fun x y H Q => ∃ i j, x = .str i ∧ y = .str j ∧ Q (.bl (true ^^ inS i j)) H) := fun pins s σ H x y v u Q I rx ry h => by
    obtain ⟨i, j, e1, e2, q⟩ := h
    exact op_notIn_str pins s σ H x y v u Q I rx ry ⟨i, j, e1, e2, by simpa [inS] using q⟩
  exact h.or op_notIn_seq
theorem opd_in {K : PySem.W.Frag} {neg : Bool} : OpD K (rInV K neg) (inD neg) := fun d e x y S H Q Qd s r1 r2 q k => by
  unfold inD at q
  split at q
  · exact .inl ⟨_, _, r1, r2, k _ S _ H (Grow.refl H) s rBl q⟩
  · split at q
    · rename_i ds hds
      obtain ⟨f1, f2, q⟩ := q
      obtain ⟨p, vs, rfl, h1, h2⟩ := items_rep s r2 hds
      refine .inr ⟨p, vs, rfl, h1, flat_rep r1 f1, flats_rep h2 f2, k _ S _ H (Grow.refl H) s rBl ?_⟩
      rw [inF_rep r1 f1 h2 f2]
      cases neg <;> simpa using q
    · cases q
theorem qe_in (ha : QE X a qa) (hb : QE X b qb) (hm : behindInMarks .In b = false := by rfl) : QE X (.Compare a [.In] [b] pos) (qOp (inD false) qa qb) := qe_cmp op_inV opd_in ha hb hm
theorem qt_in (ha : QE X a qa) (hb : QE X b qb) (hm : behindInMarks .In b = false := by rfl) : QTst X (.Compare a [.In] [b] pos) (qT (qOp (inD false) qa qb)) := qt_cmp op_inV opd_in ha hb hm
theorem qe_notin (ha : QE X a qa) (hb : QE X b qb) (hm : behindInMarks .NotIn b = false := by rfl) : QE X (.Compare a [.NotIn] [b] pos) (qOp (inD true) qa qb) := qe_cmp op_notinV opd_in ha hb hm
theorem qt_notin (ha : QE X a qa) (hb : QE X b qb) (hm : behindInMarks .NotIn b = false := by rfl) : QTst X (.Compare a [.NotIn] [b] pos) (qT (qOp (inD true) qa qb)) := qt_cmp op_notinV opd_in ha hb hm

/-! ### chains -/
def qCh (rD rD' : RD2) (qa qb qc : QT) : QT := fun W ρ S Q => qa W ρ S fun d S1 => qb W ρ S1 fun e S2 => rD d e S2 fun z S3 => match z with
  | .bl true => qc W ρ S3 fun f S4 => rD' e f S4 Q
  | .bl false => Q (.bl false) S3
  | _ => False
theorem lift_ch {K : PySem.W.Frag} {r r' : R2} {rD rD' : RD2} {qa qb qc : QT} {W : WD} (hd : OpD K r rD) (hd' : OpD K r' rD') : ∀ σ H Q, liftE K (qCh rD rD' qa qb qc) W σ H Q → tChain r r' (liftE K qa W) (liftE K qb W) (liftE K qc W) σ H Q := fun σ H Q ⟨ρ, S, Qd, s, en, q, k⟩ =>
  ⟨ρ, S, _, s, en, q, fun d S1 v H1 g1 s1 r1 q1 => ⟨ρ, S1, _, s1, en.mono g1, q1, fun e S2 u H2 g2 s2 r2 q2 =>
    hd d e v u S2 H2 _ _ s2 (Rep.mono g2 _ _ r1) r2 q2 fun z S3 zv H3 g3 s3 r3 q3 => by
      cases z with
      | bl w =>
        refine ⟨w, r3, ?_⟩
        cases w with
        | true =>
          refine iteT ?_
          exact ⟨ρ, S3, _, s3, ((en.mono g1).mono g2).mono g3, q3, fun f S4 fv H4 g4 s4 r4 q4 => hd' e f u fv S4 H4 _ _ s4 (Rep.mono (g3.trans g4) _ _ r2) r4 q4 fun d' S' v' H' g s r q => k d' S' v' H' (g1.trans (g2.trans (g3.trans (g4.trans g)))) s r q⟩
        | false =>
          refine iteF ?_
          exact k _ S3 _ H3 (g1.trans (g2.trans g3)) s3 rBl q3
      | _ => cases q3⟩⟩
theorem qe_ch {op op' : CmpOp} {r r' : R2} {rD rD' : RD2} (ho : OpR X (compareOp op) r) (ho' : OpR X (compareOp op') r') (hd : OpD X.K r rD) (hd' : OpD X.K r' rD') (ha : QE X a qa) (hb : QE X b qb) (hc : QE X c qc)
    (hm : lastMarks [op, op'] [b, c] = false := by rfl) : QE X (.Compare a [op, op'] [b, c] pos) (qCh rD rD' qa qb qc) :=
  ⟨fun W tk => PE.imp (pe_chain ho ho' (ha.pe W tk) (hb.pe W tk) (hc.pe W tk) hm) (lift_ch hd hd')⟩
theorem qt_ch {op op' : CmpOp} {r r' : R2} {rD rD' : RD2} (ho : OpR X (compareOp op) r) (ho' : OpR X (compareOp op') r') (hd : OpD X.K r rD) (hd' : OpD X.K r' rD') (ha : QE X a qa) (hb : QE X b qb) (hc : QE X c qc)
    (hm : lastMarks [op, op'] [b, c] = false := by rfl) : QTst X (.Compare a [op, op'] [b, c] pos) (qT (qCh rD rD' qa qb qc)) :=
  ⟨fun W tk => PT.imp (pt_chain ho ho' (ha.pe W tk) (hb.pe W tk) (hc.pe W tk) hm) fun σ H Q h => lift_ch hd hd' σ H _ (lift_T σ H Q h)⟩
theorem op_ltV : OpR X (compareOp .Lt) (fun x y H Q => (rI0 fun i j => .bl (decide (i < j))) x y H Q ∨ (∃ i j, x = .str i ∧ y = .str j ∧ Q (.bl (decide (i.cps.toList < j.cps.toList))) H)) := op_lt.or op_lt_str
theorem op_leV : OpR X (compareOp .LtE) (fun x y H Q => (rI0 fun i j => .bl (decide (i ≤ j))) x y H Q ∨ (∃ i j, x = .str i ∧ y = .str j ∧ Q (.bl (!decide (j.cps.toList < i.cps.toList))) H)) := op_le.or op_le_str

/-! ### tests -/
theorem qt_val {q : QT} (h : QE X e q) (he : ∀ whole, isTrue e X.env whole = (do let v ← whole; standAt e.pos; holding [v] (truthy v)) := by intro _; rfl) : QTst X e (qT q) :=
  ⟨fun W tk => PT.imp (pt_val (h.pe W tk) he) fun σ H Q h => lift_T σ H Q h⟩
variable {ta tb tc : QB} {rest : List Expr}
def qAnd (t u : QB) : QB := fun W ρ S Q => t W ρ S fun c S1 => match c with
  | true => u W ρ S1 Q
  | false => Q false S1
def qOr (t u : QB) : QB := fun W ρ S Q => t W ρ S fun c S1 => match c with
  | true => Q true S1
  | false => u W ρ S1 Q
def qNot (t : QB) : QB := fun W ρ S Q => t W ρ S fun c S1 => Q (!c) S1
theorem qt_w (h : QWst X e ta) : QTst X e ta := ⟨fun W tk => (h.pw W tk).pt⟩
theorem qw_and1 (h : QTst X a ta) : QWst X (.BoolOp .And [a] pos) ta := ⟨fun W tk => pw_and1 (h.pt W tk)⟩
theorem qw_or1 (h : QTst X a ta) : QWst X (.BoolOp .Or [a] pos) ta := ⟨fun W tk => pw_or1 (h.pt W tk)⟩
theorem qw_and (ha : QTst X a ta) (hb : QWst X (.BoolOp .And (b :: rest) pos) tb) : QWst X (.BoolOp .And (a :: b :: rest) pos) (qAnd ta tb) := ⟨fun W tk => PW.imp (pw_and (ha.pt W tk) (hb.pw W tk)) fun σ H Q ⟨ρ, S, Qd, s, en, q, k⟩ =>
  ⟨ρ, S, _, s, en, q, fun w S1 H1 g1 s1 q1 => by
    cases w with
    | true => exact iteT ⟨ρ, S1, Qd, s1, en.mono g1, q1, fun w2 S2 H2 g2 s2 q2 => k w2 S2 H2 (g1.trans g2) s2 q2⟩
    | false => exact iteF (k false S1 H1 g1 s1 q1)⟩⟩
theorem qw_or (ha : QTst X a ta) (hb : QWst X (.BoolOp .Or (b :: rest) pos) tb) : QWst X (.BoolOp .Or (a :: b :: rest) pos) (qOr ta tb) := ⟨fun W tk => PW.imp (pw_or (ha.pt W tk) (hb.pw W tk)) fun σ H Q ⟨ρ, S, Qd, s, en, q, k⟩ =>
  ⟨ρ, S, _, s, en, q, fun w S1 H1 g1 s1 q1 => by
    cases w with
    | true => exact iteT (k true S1 H1 g1 s1 q1)
    | false => exact iteF ⟨ρ, S1, Qd, s1, en.mono g1, q1, fun w2 S2 H2 g2 s2 q2 => k w2 S2 H2 (g1.trans g2) s2 q2⟩⟩⟩
theorem qt_not (ha : QTst X a ta) : QTst X (.UnaryOp .Not a pos) (qNot ta) := ⟨fun W tk => PT.imp (pt_not (ha.pt W tk)) fun σ H Q ⟨ρ, S, Qd, s, en, q, k⟩ => ⟨ρ, S, _, s, en, q, fun w S1 H1 g1 s1 q1 => k _ S1 H1 g1 s1 q1⟩⟩
/-- as values -/
def qAndV (qa qb : QT) : QT := fun W ρ S Q => qa W ρ S fun d S1 => match d with
  | .bl true => qb W ρ S1 Q
  | .bl false => Q (.bl false) S1
  | _ => False
def qOrV (qa qb : QT) : QT := fun W ρ S Q => qa W ρ S fun d S1 => match d with
  | .bl true => Q (.bl true) S1
  | .bl false => qb W ρ S1 Q
  | _ => False
def qNotV (qa : QT) : QT := fun W ρ S Q => qa W ρ S fun d S1 => match d with
  | .bl b => Q (.bl (!b)) S1
  | _ => False
theorem qe_one {op} (h : QE X a qa) : QE X (.BoolOp op [a] pos) qa := ⟨fun W tk => pe_one (h.pe W tk)⟩
theorem qe_and (ha : QE X a qa) (hb : QE X (.BoolOp .And (b :: rest) pos) qb) : QE X (.BoolOp .And (a :: b :: rest) pos) (qAndV qa qb) := ⟨fun W tk => PE.imp (pe_and (ha.pe W tk) (hb.pe W tk)) fun σ H Q ⟨ρ, S, Qd, s, en, q, k⟩ =>
  ⟨ρ, S, _, s, en, q, fun d S1 v H1 g1 s1 r1 q1 => by
    cases d with
    | bl w =>
      refine ⟨w, r1, ?_⟩
      cases w with
      | true => exact iteT ⟨ρ, S1, Qd, s1, en.mono g1, q1, fun w2 S2 v2 H2 g2 s2 r2 q2 => k w2 S2 v2 H2 (g1.trans g2) s2 r2 q2⟩
      | false => exact iteF (k _ S1 _ H1 g1 s1 rBl q1)
    | _ => cases q1⟩⟩
theorem qe_or (ha : QE X a qa) (hb : QE X (.BoolOp .Or (b :: rest) pos) qb) : QE X (.BoolOp .Or (a :: b :: rest) pos) (qOrV qa qb) := ⟨fun W tk => PE.imp (pe_or (ha.pe W tk) (hb.pe W tk)) fun σ H Q ⟨ρ, S, Qd, s, en, q, k⟩ =>
  ⟨ρ, S, _, s, en, q, fun d S1 v H1 g1 s1 r1 q1 => by
    cases d with
    | bl w =>
      refine ⟨w, r1, ?_⟩
      cases w with
      | true => exact iteT (k _ S1 _ H1 g1 s1 rBl q1)
      | false => exact iteF ⟨ρ, S1, Qd, s1, en.mono g1, q1, fun w2 S2 v2 H2 g2 s2 r2 q2 => k w2 S2 v2 H2 (g1.trans g2) s2 r2 q2⟩
    | _ => cases q1⟩⟩
theorem qe_not (ha : QE X a qa) : QE X (.UnaryOp .Not a pos) (qNotV qa) := ⟨fun W tk => PE.imp (pe_not (ha.pe W tk)) fun σ H Q ⟨ρ, S, Qd, s, en, q, k⟩ =>
  ⟨ρ, S, _, s, en, q, fun d S1 v H1 g1 s1 r1 q1 => by
    cases d with
    | bl w => exact ⟨w, r1, k _ S1 _ H1 g1 s1 rBl q1⟩
    | _ => cases q1⟩⟩
def qIf (t : QB) (qa qb : QT) : QT := fun W ρ S Q => t W ρ S fun c S1 => match c with
  | true => qa W ρ S1 Q
  | false => qb W ρ S1 Q
theorem qe_ifExp (hc : QTst X c ta) (ha : QE X a qa) (hb : QE X b qb) : QE X (.IfExp c a b pos) (qIf ta qa qb) := ⟨fun W tk => PE.imp (pe_ifExp (hc.pt W tk) (ha.pe W tk) (hb.pe W tk)) fun σ H Q ⟨ρ, S, Qd, s, en, q, k⟩ =>
  ⟨ρ, S, _, s, en, q, fun w S1 H1 g1 s1 q1 => by
    cases w with
    | true => exact iteT ⟨ρ, S1, Qd, s1, en.mono g1, q1, fun w2 S2 v2 H2 g2 s2 r2 q2 => k w2 S2 v2 H2 (g1.trans g2) s2 r2 q2⟩
    | false => exact iteF ⟨ρ, S1, Qd, s1, en.mono g1, q1, fun w2 S2 v2 H2 g2 s2 r2 q2 => k w2 S2 v2 H2 (g1.trans g2) s2 r2 q2⟩⟩⟩
/-- what is never reached -/
def qNever : QT := fun _ _ _ _ => False
theorem qe_never : QE X e qNever := ⟨fun W _ => ⟨fun _ _ _ _ _ _ ⟨_, _, _, _, _, q, _⟩ => q.elim⟩⟩

/-! ### arguments, displays -/
def qNil : QA := fun _ _ S Q => Q [] S
def qCons (q : QT) (r : QA) : QA := fun W ρ S Q => q W ρ S fun d S1 => r W ρ S1 fun ds S2 => Q (d :: ds) S2
theorem qa_nil : QArgs X [] qNil := ⟨fun W tk => PA.imp pa_nil fun σ H Q ⟨ρ, S, Qd, s, en, q, k⟩ => k [] S [] H (Grow.refl H) s rfl q⟩
theorem qa_cons {q : QT} {r : QA} (h : QE X e q) (hr : QArgs X es r) (hs : starEach (e :: es) X.env = (false, eval e X.env) :: starEach es X.env := by rfl) : QArgs X (e :: es) (qCons q r) :=
  ⟨fun W tk => PA.imp (pa_cons (h.pe W tk) (hr.pa W tk) hs) fun σ H Q ⟨ρ, S, Qd, s, en, q, k⟩ =>
    ⟨ρ, S, _, s, en, q, fun d S1 v H1 g1 s1 r1 q1 => ⟨ρ, S1, _, s1, en.mono g1, q1, fun ds S2 vs H2 g2 s2 r2 q2 => k _ S2 _ H2 (g1.trans g2) s2 (.cons (Rep.mono g2 _ _ r1) r2) q2⟩⟩⟩
def qTup (q : QA) : QT := fun W ρ S Q => q W ρ S fun ds S1 => ds.length ≤ sizeLine ∧ Q (.tup ds) S1
def qLst (q : QA) : QT := fun W ρ S Q => q W ρ S fun ds S1 => ds.length ≤ sizeLine ∧ ∀ p, S1 p = none → Q (.ref p) (put S1 p (.lst ds))
theorem qe_tup {x1} {q : QA} (h : QArgs X es q) : QE X (.Tuple es x1 pos) (qTup q) := ⟨fun W tk => PE.imp (pe_tup (h.pa W tk)) fun σ H Q ⟨ρ, S, Qd, s, en, q, k⟩ =>
  ⟨ρ, S, _, s, en, q, fun ds S1 vs H1 g1 s1 r1 q1 => ⟨by rw [r1.len]; exact q1.1, fun p hp => k _ S1 _ _ (g1.trans (Grow.new hp)) (s1.new hp) (rTup (SqT.of upd_same) (Reps.mono (Grow.new hp) _ _ r1)) q1.2⟩⟩⟩
theorem qe_lst {q : QA} (h : QArgs X es q) : QE X (.List es pos) (qLst q) := ⟨fun W tk => PE.imp (pe_lst (h.pa W tk)) fun σ H Q ⟨ρ, S, Qd, s, en, q, k⟩ =>
  ⟨ρ, S, _, s, en, q, fun ds S1 vs H1 g1 s1 r1 q1 => ⟨by rw [r1.len]; exact q1.1, fun p hp => k _ _ _ _ (g1.trans (Grow.new hp)) (sim_lst s1 hp r1) rRef (q1.2 p (s1.free hp))⟩⟩⟩

/-! ### o[i] -/
def ixD : RD2 := fun d e S Q => match e with
  | .int i => (match d with
    | .str z => z.length ≤ sizeLine ∧ (match atI z.cps.toList i with
      | some c => Q (.str ⟨#[c]⟩) S
      | none => False)
    | d => match items S d with
      | some ds => (match atI ds i with
        | some x => Q x S
        | none => False)
      | none => False)
  | _ => False
theorem atI_reps {K : PySem.W.Frag} {H : Hp} {ds : List D} {vs : List V} {i : Int} {d : D} (r : Reps K H ds vs) (h : atI ds i = some d) : ∃ v, atI vs i = some v ∧ Rep K H d v := by
  unfold atI at h ⊢
  rw [r.len]
  cases e : ixN ds.length i with
  | none => rw [e] at h; cases h
  | some j =>
    rw [e] at h
    exact r.get h
theorem opd_ix {K : PySem.W.Frag} : OpD K (rIx K) ixD := fun d e x y S H Q Qd s r1 r2 q k => by
  unfold ixD at q
  split at q
  · split at q
    · obtain ⟨q1, q⟩ := q
      split at q
      · exact .inr (.inr ⟨_, _, _, r1, r2, q1, by assumption, k _ S _ H (Grow.refl H) s rStr q⟩)
      · cases q
    · split at q
      · rename_i ds hds
        split at q
        · rename_i w hw
          obtain ⟨p, vs, rfl, h1, h2⟩ := items_rep s r1 hds
          obtain ⟨v, h3, h4⟩ := atI_reps h2 hw
          rcases h1 with h1 | h1
          · exact .inl ⟨p, vs, _, v, rfl, r2, h1, h3, k _ S _ H (Grow.refl H) s h4 q⟩
          · exact .inr (.inl ⟨p, vs, _, v, rfl, r2, h1, h3, k _ S _ H (Grow.refl H) s h4 q⟩)
        · cases q
      · cases q
  · cases q
theorem qe_ix (ha : QE X a qa) (hb : QE X b qb) (hs : PlainIx b := by exact fun _ _ => rfl) : QE X (.Subscript a b pos) (qOp ixD qa qb) := ⟨fun W tk => PE.imp (pe_ix ix_seq (ha.pe W tk) (hb.pe W tk) hs) (lift_op opd_ix)⟩

/-! ### o[i:j] -/
abbrev QO := WD → Env → Sto → (Option Int → Sto → Prop) → Prop
def liftO (K : PySem.W.Frag) (q : QO) (W : WD) : TO := fun σ H Q => ∃ ρ S Qd, Sim K S H ∧ EnvOk K H ρ σ ∧ q W ρ S Qd ∧ ∀ o S' H', Grow H H' → Sim K S' H' → Qd o S' → Q o H'
structure QOp (X : Cx) (e : Option Expr) (q : QO) : Prop where
  po : ∀ W, TakesD X W → PO X e (liftO X.K q W)
theorem PO.imp {e : Option Expr} {t t' : TO} (h : PO X e t) (i : ∀ σ H Q, t' σ H Q → t σ H Q) : PO X e t' := ⟨fun pins s σ H Q I q => h.run pins s σ H Q I (i _ _ _ q)⟩
def qNoPart : QO := fun _ _ S Q => Q none S
def qPart (q : QT) : QO := fun W ρ S Q => q W ρ S fun d S1 => match d with
  | .int i => Q (some i) S1
  | _ => False
theorem qo_none : QOp X none qNoPart := ⟨fun W tk => PO.imp po_none fun σ H Q ⟨ρ, S, Qd, s, en, q, k⟩ => k none S H (Grow.refl H) s q⟩
theorem qo_some {q : QT} (h : QE X e q) : QOp X (some e) (qPart q) := ⟨fun W tk => PO.imp (po_some (h.pe W tk)) fun σ H Q ⟨ρ, S, Qd, s, en, q, k⟩ =>
  ⟨ρ, S, _, s, en, q, fun d S1 v H1 g1 s1 r1 q1 => by
    cases d with
    | int i => exact ⟨i, r1, k _ S1 H1 g1 s1 q1⟩
    | _ => cases q1⟩⟩
def cutL {α : Type} (xs : List α) (lo hi : Option Int) : List α := (xs.drop (HT.sIx xs.length 0 lo)).take (HT.sIx xs.length xs.length hi - HT.sIx xs.length 0 lo)
theorem cutL_reps {K : PySem.W.Frag} {H : Hp} {ds : List D} {vs : List V} (r : Reps K H ds vs) (lo hi : Option Int) : Reps K H (cutL ds lo hi) (cutV vs lo hi) := by
  unfold cutL cutV
  rw [r.len]
  exact (r.drop _).take _
def slD (d : D) (lo hi : Option Int) (S : Sto) (Q : QK) : Prop := match d with
  | .str z => z.length ≤ sizeLine ∧ Q (.str (cutS z lo hi)) S
  | .tup ds => Q (.tup (cutL ds lo hi)) S
  | d => match items S d with
    | some ds => ∀ p, S p = none → Q (.ref p) (put S p (.lst (cutL ds lo hi)))
    | none => False
def rSlV (K : PySem.W.Frag) : V → Option Int → Option Int → Hp → VK → Prop := fun x lo hi H Q => rSlS x lo hi H Q ∨ rSlA K x lo hi H Q ∨ rSlL K x lo hi H Q
theorem sl_V : SlR X (rSlV X.K) := sl_str.or (sl_tupA.or sl_list)
def qSl (q : QT) (l h : QO) : QT := fun W ρ S Q => q W ρ S fun d S1 => l W ρ S1 fun i S2 => h W ρ S2 fun j S3 => slD d i j S3 Q
theorem qe_sl {lo hi : Option Expr} {p2 : Pos} {l h : QO} (he : QE X e qa) (hl : QOp X lo l) (hh : QOp X hi h) : QE X (.Subscript e (.Slice lo hi none p2) pos) (qSl qa l h) := ⟨fun W tk => PE.imp (pe_slice sl_V (he.pe W tk) (hl.po W tk) (hh.po W tk)) fun σ H Q ⟨ρ, S, Qd, s, en, q, k⟩ =>
  ⟨ρ, S, _, s, en, q, fun d S1 v H1 g1 s1 r1 q1 => ⟨ρ, S1, _, s1, en.mono g1, q1, fun i S2 H2 g2 s2 q2 => ⟨ρ, S2, _, s2, en.mono (g1.trans g2), q2, fun j S3 H3 g3 s3 q3 => by
    have r3 := Rep.mono (g2.trans g3) _ _ r1
    unfold slD at q3
    split at q3
    · exact .inl ⟨_, r3, q3.1, k _ S3 _ H3 (g1.trans (g2.trans g3)) s3 rStr q3.2⟩
    · obtain ⟨a, vs, rfl, h1, h2⟩ := r3
      refine .inr (.inl ⟨a, vs, rfl, h1, fun z => ?_, fun _ p hp => ?_⟩)
      · have e : cutV vs i j = vs := by
          unfold cutV
          rw [z.1, z.2]
          simp
        have h3 := cutL_reps h2 i j
        rw [e] at h3
        exact k _ S3 _ H3 (g1.trans (g2.trans g3)) s3 (rTup h1 h3) q3
      · exact k _ S3 _ _ (g1.trans (g2.trans (g3.trans (Grow.new hp)))) (s3.new hp) (rTup (SqT.of upd_same) (Reps.mono (Grow.new hp) _ _ (cutL_reps h2 i j))) q3
    · split at q3
      · rename_i hnt _ ds hds
        obtain ⟨p, vs, rfl, h1, h2⟩ := items_rep s3 r3 hds
        rcases h1 with h1 | h1
        · exact .inr (.inr ⟨p, vs, rfl, h1, fun p' hp => k _ _ _ _ (g1.trans (g2.trans (g3.trans (Grow.new hp)))) (sim_lst s3 hp (cutL_reps h2 i j)) rRef (q3 p' (s3.free hp))⟩)
        · cases d with
          | tup ds => exact absurd rfl (hnt ds)
          | kl ds =>
            obtain ⟨a, vs', e, h3, h4⟩ := r3
            cases e
            cases hds
            refine .inr (.inr ⟨_, vs', rfl, h3.sq, fun p' hp => k _ _ _ _ (g1.trans (g2.trans (g3.trans (Grow.new hp)))) (sim_lst s3 hp (cutL_reps h4 i j)) rRef (q3 p' (s3.free hp))⟩)
          | ref a =>
            have ea : V.ref p = .ref a := r3
            cases ea
            obtain ⟨us, h5, h6⟩ := s3 _ _ (items_ref hds)
            exact .inr (.inr ⟨_, us, rfl, SqL.of h5, fun p' hp => k _ _ _ _ (g1.trans (g2.trans (g3.trans (Grow.new hp)))) (sim_lst s3 hp (cutL_reps h6 i j)) rRef (q3 p' (s3.free hp))⟩)
          | _ => cases hds
      · cases q3⟩⟩⟩⟩
end Q

set_option maxHeartbeats 1000000
/-! Q: rules, third part: attributes, defs and their calls. -/
namespace Q
open PySem PySem.Spec L2
variable {X : Cx} {a b c e o : Expr} {es : List Expr} {qa qb qc qo : QT} {pos p apos : Pos} {x m f : Str}

/-! ### what a def promises -/
abbrev SpD := List D → Sto → QK → XD → Prop
def Fg (P : Sto → Prop) (S : Sto) : Prop := ∃ S', Sub S' S ∧ P S'
theorem Fg.here {P : Sto → Prop} {S : Sto} (h : P S) : Fg P S := ⟨S, Sub.refl S, h⟩
def spOf (K : PySem.W.Frag) (g : SpD) : Sp := fun vs H Q E => ∃ ds S Qd Ed, Sim K S H ∧ Reps K H ds vs ∧ g ds S Qd Ed ∧ (∀ d S' v H', Grow H H' → Sim K S' H' → Rep K H' d v → Qd d S' → Q v H') ∧
  (∀ ev S' cls dd H', Grow H H' → Sim K S' H' → RepX K H' ev cls dd → Ed ev S' → E cls dd H')
def startD (N : List Str) (ds : List D) : Env := ds.map some ++ List.replicate (N.length - ds.length) none
theorem start_ok {K : PySem.W.Frag} {H : Hp} {N : List Str} {ds : List D} {vs : List V} (r : Reps K H ds vs) : EnvOk K H (startD N ds) (L2.start N vs) := by
  unfold startD L2.start
  refine ⟨by simp [r.len], fun i d h => ?_⟩
  by_cases hi : i < ds.length
  · rw [List.getElem?_append_left (by simpa using hi)] at h
    rw [List.getElem?_append_left (by simpa [r.len] using hi)]
    rw [List.getElem?_map] at h ⊢
    cases e : ds[i]? with
    | none => rw [e] at h; cases h
    | some d' =>
      rw [e] at h
      cases h
      obtain ⟨v, h1, h2⟩ := r.get e
      exact ⟨v, by rw [h1]; rfl, h2⟩
  · rw [List.getElem?_append_right (by simpa using hi)] at h
    rw [List.getElem?_replicate] at h
    split at h <;> cases h
theorem fn_okD {P : Program} {w : World} {K : PySem.W.Frag} {mg : Str → Option Value} {base : Heap} {x qual : Str} {params : Arguments} {body : List Stmt} {scope : Scope} {dvs : List V} {kws : List (Str × V)} {f : Addr} {fd : FuncData} {N ps : List Str} {k : Nat} {g : SpD}
    (F : FunD K x qual params body scope dvs kws f fd) (Sc : FnScope N ps scope) (len : ∀ ds S Q E, g ds S Q E → ds.length = ps.length)
    (hbody : ∀ (f : Addr) (cdv : Value) (A : Around) (outer : List PySem.Env) (s : Shared) (H : Hp) (E : XK), Here (cxOf (CX P w) P w K mg base N qual scope f cdv A outer s H E) k →
      ∃ q, QSts (cxOf (CX P w) P w K mg base N qual scope f cdv A outer s H E) body q ∧ ∀ ds S Q E, g ds S Q E → q (fun ev _ S => Fg (E ev) S) { nx := fun _ S => Fg (Q .non) S, rt := fun d S => Fg (Q d) S } (startD N ds) S) :
    FnOk P w K mg base (CX P w) (k + 1) f fd ps (spOf K g) := by
  refine F.ok Sc (fun vs H Q E h => ?_) fun cdv A outer s H vs Q E hr h => ?_
  · obtain ⟨ds, S, Qd, Ed, _, r, h, _⟩ := h
    rw [r.len]
    exact len ds S Qd Ed h
  · obtain ⟨ds, S, Qd, Ed, sim, r, h, k1, k2⟩ := h
    obtain ⟨q, hq, hg⟩ := hbody f cdv A outer s H E ⟨rfl, Sc.nd, passes_of rfl, hr⟩
    refine ⟨_, hq.pss (fun ev _ S => Fg (Ed ev) S) ?_, startD N ds, S, _, sim, start_ok r, hg ds S Qd Ed h, ?_, ?_, ?_, ?_⟩
    · rintro u s' ⟨a, B, sI, pins, σ, H', cls, d, e, I, nb, up, sky, na, os, ag, ρ, S', ev, sm, en, rx, S2, sb, w⟩
      exact takes_of (E := E) rfl rfl rfl rfl u s' ⟨a, B, sI, pins, σ, H', cls, d, e, I, nb, up, sky, na, os, ag, k2 ev S2 cls d H' ⟨I.base.tups, I.base.frzs⟩ (sm.less sb) rx w⟩
    · rintro ρ' S' σ' H' g1 s1 en ⟨S2, sb, q⟩
      exact k1 .non S2 .non H' g1 (s1.less sb) rNon q
    · rintro d S' v H' g1 s1 r1 ⟨S2, sb, q⟩
      exact k1 d S2 v H' g1 (s1.less sb) r1 q
    · intro _ _ _ _ _ _ _ z; exact z.elim
    · intro _ _ _ _ _ _ _ z; exact z.elim

/-- a callee runs -/
theorem run_fnD {W : WD} {k : Nat} {f : Addr} {fd : FuncData} {ps : List Str} {g : SpD} {dvs : List V} {dd ds : List D} {dss : List Value} {pins : List (Addr × Obj)} {σ : St} {H : Hp} {s : Shared} {Q : VK} {us : List Value} {vs : List V} {ρ : Env} {S : Sto} {Qd : QK}
    (F : FnOk X.prog X.w X.K X.mg X.base (CX X.prog X.w) k f fd ps (spOf X.K g)) (hr : Room k X.A) (hb : Binds X.K fd ps dss) (hd : Vals dvs dss) (rd : ∀ H, Reps X.K H dd dvs) (tk : TakesD X W)
    (I : Inv X pins σ H s) (r : Vals vs us) (sim : Sim X.K S H) (en : EnvOk X.K H ρ σ) (rp : Reps X.K H ds vs) (h : g (ds ++ dd) S Qd fun ev S2 => W ev ρ S2)
    (kk : ∀ d S' v H', Grow H H' → Sim X.K S' H' → Rep X.K H' d v → Qd d S' → Q v H') : wpAny (model X.prog X.w) X.A (call (.ref f) us) (EP X pins σ Q) X.xe s := by
  have hsp : spOf X.K g (vs ++ dvs) H Q (fun cls d H' => liftW X.K W cls d σ H') := ⟨ds ++ dd, S, Qd, _, sim, rp.append (rd H), h, kk, fun ev S' cls d H' g1 s1 rx w => ⟨ρ, S', ev, s1, en.mono g1, rx, w⟩⟩
  have r2 : Vals (vs ++ dvs) (us ++ dss) := r.append hd
  have hl : (us ++ dss).length = ps.length := by rw [← r2.length]; exact F.len _ _ _ _ hsp
  refine wpAny_call (codeAny_mono (F.run X.A X.stack s H ⟨us, []⟩ (us ++ dss) (vs ++ dvs) Q _ hr I.env0 (hb s us I.kIn hl) r2 hsp) fun r s' hq => ?_)
  cases r with
  | error e => exact tk e s' (XE.of_call I (fun cls d H' h => h) hq)
  | ok fl =>
    cases fl with
    | ret u => exact I.after hq
    | next => exact False.elim hq
    | brk => exact False.elim hq
    | cont => exact False.elim hq

/-- a def that stands under a global name -/
structure FnG (P : Program) (w : World) (K : PySem.W.Frag) (mg : Str → Option Value) (base : Heap) (k : Nat) (x : Str) (dd : List D) (g : SpD) : Prop where
  ex : ∃ (f : Addr) (fd : FuncData) (ps : List Str) (dvs : List V) (dss : List Value), FnOk P w K mg base (CX P w) k f fd ps (spOf K g) ∧ mg x = some (.ref f) ∧ PySem.W.keepIn K (.ref f) = true ∧ Binds K fd ps dss ∧ Vals dvs dss ∧ ∀ H, Reps K H dd dvs
def qCall (g : SpD) (dd : List D) (qa : QA) : QT := fun W ρ S Q => qa W ρ S fun ds S1 => g (ds ++ dd) S1 Q fun ev S2 => W ev ρ S2
theorem qe_call {j k : Nat} {g : SpD} {dd : List D} {qa : QA} (h : Here X j) (F : FnG X.prog X.w X.K X.mg X.base k x dd g) (ha : QArgs X (e :: es) qa) (hk : k ≤ j := by decide) (hg : Gl X x := by rfl) (hdb : (x == ("__debug__" : Str)) = false := by decide)
    (he : starEach (e :: es) X.env = (false, eval e X.env) :: starEach es X.env := by rfl) (hpl : (backTo pos (starEach es X.env)).any (·.1) = false := by rfl) : QE X (.Call (.Name x p) (e :: es) [] pos) (qCall g dd qa) := by
  obtain ⟨f, fd, ps, dvs, dss, F, hm, kp, hb, hd, rd⟩ := F.ex
  refine ⟨fun W tk => ⟨fun pins s σ H Q I ⟨ρ, S, Qd, sim, en, q, kk⟩ => ?_⟩⟩
  refine wpAny_Call_Name_kw (ld_glob I hg hm ?_ hdb)
  refine PySem.W.callWith_K (h₀ := X.base) I.ok.mod.kin kp (thn ((ha.pa W tk).run pos pins s σ H _ I ⟨ρ, S, _, sim, en, q, fun ds S1 vs H1 g1 s1 r1 q1 => (show (fun vs H1 => ∃ ds S1, Grow H H1 ∧ Sim X.K S1 H1 ∧ Reps X.K H1 ds vs ∧ g (ds ++ dd) S1 Qd fun ev S2 => W ev ρ S2) vs H1 from ⟨ds, S1, g1, s1, r1, q1⟩)⟩) fun us s1 ⟨vs, H1, I1, r, ds, S1, g1, sm1, r1, q1⟩ => ⟨I1.kIn, ?_⟩) he hpl
  exact run_fnD F (h.room.mono hk) hb hd rd tk I1 r sm1 (en.mono g1) r1 q1 fun d S' v H' g2 => kk d S' v H' (g1.trans g2)
theorem qe_call0 {j k : Nat} {g : SpD} {dd : List D} (h : Here X j) (F : FnG X.prog X.w X.K X.mg X.base k x dd g) (hk : k ≤ j := by decide) (hg : Gl X x := by rfl) (hdb : (x == ("__debug__" : Str)) = false := by decide) : QE X (.Call (.Name x p) [] [] pos) (qCall g dd qNil) := by
  obtain ⟨f, fd, ps, dvs, dss, F, hm, kp, hb, hd, rd⟩ := F.ex
  refine ⟨fun W tk => ⟨fun pins s σ H Q I ⟨ρ, S, Qd, sim, en, q, kk⟩ => ?_⟩⟩
  refine wpAny_Call_Name_kw (ld_glob I hg hm ?_ hdb)
  exact PySem.W.callWith_K0 I.kIn kp (run_fnD (us := []) (vs := []) (ds := []) F (h.room.mono hk) hb hd rd tk I .nil sim en rfl q kk)

/-! ### attributes -/
def insAt (o : Option MO) (k : Addr → List (Str × D) → Prop) : Prop := match o with
  | some (.ins C fs) => k C fs
  | _ => False
def insOf (S : Sto) (d : D) (k : Addr → Addr → List (Str × D) → Prop) : Prop := match d with
  | .ref a => insAt (S a) (k a)
  | _ => False
theorem insOf_at {S : Sto} {a C : Addr} {fs : List (Str × D)} {k : Addr → Addr → List (Str × D) → Prop} (h : S a = some (.ins C fs)) (q : k a C fs) : insOf S (.ref a) k := by
  show insAt (S a) (k a)
  rw [h]
  exact q
theorem insOf_of {S : Sto} {d : D} {k : Addr → Addr → List (Str × D) → Prop} (h : insOf S d k) : ∃ a C fs, d = .ref a ∧ S a = some (.ins C fs) ∧ k a C fs := by
  cases d with
  | ref a =>
    have h' : insAt (S a) (k a) := h
    cases e : S a with
    | none => rw [e] at h'; exact h'.elim
    | some o =>
      rw [e] at h'
      cases o with
      | ins C fs => exact ⟨a, C, fs, rfl, e, h'⟩
      | _ => exact h'.elim
  | _ => exact h.elim
/-- classes whose instances have the attribute -/
structure AtOk (K : PySem.W.Frag) (C : Addr) (f : Str) : Prop where
  cl : Cls K C
  no : NoAttr K C f
def qFld (C : Addr) (f : Str) (q : QT) : QT := fun W ρ S Q => q W ρ S fun d S1 => insOf S1 d fun _ C' fs => C' = C ∧ match fs.lookup f with
  | some v => Q v S1
  | none => False
theorem qe_fld {C : Addr} (h : AtOk X.K C f) (ho : QE X e qa) (hb : attributeBase e f X.env (eval e X.env) = eval e X.env := by rfl) : QE X (.Attribute e f pos) (qFld C f qa) := ⟨fun W tk => PE.imp (pe_fld (ho.pe W tk) hb) fun σ H Q ⟨ρ, S, Qd, s, en, q, k⟩ =>
  ⟨ρ, S, _, s, en, q, fun d S1 v H1 g1 s1 r1 q1 => by
    obtain ⟨a, C', fs, rfl, ea, rfl, q2⟩ := insOf_of q1
    obtain ⟨dx, fs', h1, h2⟩ := s1 _ _ ea
    cases el : fs.lookup f with
    | none => rw [el] at q2; exact q2.elim
    | some z =>
      rw [el] at q2
      obtain ⟨u, h3, h4⟩ := RepKV.lookup h2 el
      exact ⟨a, C', dx, fs', u, r1, h1, h.cl, h.no, h3, k z S1 u H1 g1 s1 h4 q2⟩⟩⟩
theorem putF_rep {K : PySem.W.Frag} {H : Hp} {f : Str} {d : D} {v : V} (r : Rep K H d v) : ∀ {fs : List (Str × D)} {fs' : List (Str × V)}, RepKV K H fs fs' → RepKV K H (putFD f d fs) (putF f v fs')
  | _, _, .nil => .cons ⟨rfl, r⟩ .nil
  | (g, y) :: l, (g', y') :: l', .cons q t => by
    have q1 : g = g' := q.1
    subst q1
    unfold putFD putF
    by_cases hg : g = f
    · rw [if_pos hg, if_pos hg]; exact .cons ⟨rfl, r⟩ t
    · rw [if_neg hg, if_neg hg]; exact .cons q (putF_rep r t)
/-- o.f = e -/
def qSetF (C : Addr) (f : Str) (qo qv : QT) : QS := fun W D ρ S => qv W ρ S fun y S1 => qo W ρ S1 fun d S2 => insOf S2 d fun a C' fs => C' = C ∧ fs.length < 1000 ∧ D.nx ρ (put S2 a (.ins C (putFD f y fs)))
theorem qs_fld {C : Addr} {value : Expr} {qv : QT} {pos' : Pos} (h : AtOk X.K C f) (ho : QE X o qo) (hv : QE X value qv) (hs : swapsWith value (some (.Attribute o f pos')) pos.line X.env = pure false := by rfl) : QSt X (.Assign [.Attribute o f pos'] value pos) (qSetF C f qo qv) :=
  ⟨fun W tk => PS.imp (ps_fld (ho.pe W tk) (hv.pe W tk) hs) fun D σ H ⟨ρ, S, Dd, s, en, q, kn, kr, kb, kc⟩ =>
    ⟨ρ, S, _, s, en, q, fun y S1 yv H1 g1 s1 r1 q1 => ⟨ρ, S1, _, s1, en.mono g1, q1, fun d S2 v H2 g2 s2 r2 q2 => by
      obtain ⟨a, C', fs, rfl, ea, rfl, hl, q2⟩ := insOf_of q2
      obtain ⟨dx, fs', h1, h2⟩ := s2 _ _ ea
      have gw : Grow H2 (upd H2 a (.ins C' dx (putF f yv fs'))) := Grow.wr h1 (fun _ z => by cases z) (fun _ _ z => by cases z)
      refine ⟨a, C', dx, fs', r2, h1, h.cl, h.no, by rw [RepKV.len h2]; exact hl, ?_⟩
      refine kn ρ _ σ _ (g1.trans (g2.trans gw)) (s2.put (mo := .ins C' (putFD f y fs)) gw ⟨dx, _, upd_same, RepKV.mono gw (putF_rep (Rep.mono g2 _ _ r1) h2)⟩) (en.mono (g1.trans (g2.trans gw))) q2⟩⟩⟩

/-! ### methods -/
structure MtG (P : Program) (w : World) (K : PySem.W.Frag) (mg : Str → Option Value) (base : Heap) (k : Nat) (C : Addr) (m : Str) (dd : List D) (g : SpD) : Prop where
  ex : ∃ (f : Addr) (fd : FuncData) (ps : List Str) (dvs : List V) (dss : List Value), FnOk P w K mg base (CX P w) k f fd ps (spOf K g) ∧ Cls K C ∧ Meth K C m f ∧ Binds K fd ps dss ∧ Vals dvs dss ∧ ∀ H, Reps K H dd dvs
def qMeth (C : Addr) (m : Str) (g : SpD) (dd : List D) (qo : QT) (qa : QA) : QT := fun W ρ S Q => qo W ρ S fun d S1 => insOf S1 d fun a C' fs => C' = C ∧ fs.lookup m = none ∧ qa W ρ S1 fun ds S2 => g (.ref a :: (ds ++ dd)) S2 Q fun ev S3 => W ev ρ S3
theorem qe_meth {pl : Sem Bool} {j k : Nat} {C : Addr} {g : SpD} {dd : List D} {qa : QA} (h : Here X j) (F : MtG X.prog X.w X.K X.mg X.base k C m dd g) (ho : QE X o qo) (ha : QArgs X (e :: es) qa) (hk : k ≤ j := by decide)
    (hst : starEach (e :: es) X.env = (false, eval e X.env) :: starEach es X.env := by rfl) (hpl : (backTo pos (starEach es X.env)).any (·.1) = false := by rfl)
    (ht : eval (.Call (.Attribute o m apos) (e :: es) [] pos) X.env = (do
      let ov ← eval o X.env
      standAt apos.atName
      let (f, first) ← holding [ov] (getMethod ov m pl)
      callWith pos f first (backTo pos (starEach (e :: es) X.env)) (backToKw pos (keywordEach [] X.env))) := by rfl) : QE X (.Call (.Attribute o m apos) (e :: es) [] pos) (qMeth C m g dd qo qa) := by
  obtain ⟨f, fd, ps, dvs, dss, F, hc, hm, hb, hd, rd⟩ := F.ex
  refine ⟨fun W tk => ⟨fun pins s σ H Q I ⟨ρ, S, Qd, sim, en, q, kk⟩ => ?_⟩⟩
  refine PySem.W.methodCall_KW (pl := pl) (thn ((ho.pe W tk).run pins s σ H _ I ⟨ρ, S, _, sim, en, q, fun d S1 v H1 g1 s1 r1 q1 => (show (fun v H1 => ∃ a S1 fs, v = .ref a ∧ Grow H H1 ∧ Sim X.K S1 H1 ∧ S1 a = some (.ins C fs) ∧ fs.lookup m = none ∧ qa W ρ S1 fun ds S2 => g (.ref a :: (ds ++ dd)) S2 Qd fun ev S3 => W ev ρ S3) v H1 by
    obtain ⟨a, C', fs, rfl, ea, rfl, hl, q2⟩ := insOf_of q1
    exact ⟨a, S1, fs, r1, g1, s1, ea, hl, q2⟩)⟩) fun u s1 ⟨x, H1, I1, rx, a, S1, fs, ex, g1, sm1, ea, l, q1⟩ => ?_) ht
  subst ex
  obtain rfl : u = Value.ref a := rx
  obtain ⟨dx, fs', h1, h2⟩ := sm1 _ _ ea
  refine getmeth_ok I1 h1 hc hm (RepKV.lookup_none h2 l) ?_
  refine PySem.W.callWith_K (first := [.ref a]) (h₀ := X.base) I.ok.mod.kin hm.kp (thn ((ha.pa W tk).run pos pins s1 σ H1 _ I1 ⟨ρ, S1, _, sm1, en.mono g1, q1, fun ds S2 vs H2 g2 s2 r2 q2 => (show (fun vs H2 => ∃ ds S2, Grow H1 H2 ∧ Sim X.K S2 H2 ∧ Reps X.K H2 ds vs ∧ g (.ref a :: (ds ++ dd)) S2 Qd fun ev S3 => W ev ρ S3) vs H2 from ⟨ds, S2, g2, s2, r2, q2⟩)⟩) fun us s2 ⟨vs, H2, I2, r, ds, S2, g2, sm2, r2, q2⟩ => ⟨I2.kIn, ?_⟩) hst hpl
  exact run_fnD (us := .ref a :: us) (vs := .ref a :: vs) (ds := .ref a :: ds) F (h.room.mono hk) hb hd rd tk I2 (.cons rfl r) sm2 (en.mono (g1.trans g2)) (.cons rRef r2) q2 fun d S' v H' g3 => kk d S' v H' (g1.trans (g2.trans g3))
theorem qe_meth0 {pl : Sem Bool} {j k : Nat} {C : Addr} {g : SpD} {dd : List D} (h : Here X j) (F : MtG X.prog X.w X.K X.mg X.base k C m dd g) (ho : QE X o qo) (hk : k ≤ j := by decide)
    (ht : eval (.Call (.Attribute o m apos) [] [] pos) X.env = (do
      let ov ← eval o X.env
      standAt apos.atName
      let (f, first) ← holding [ov] (getMethod ov m pl)
      callWith pos f first (backTo pos (starEach [] X.env)) (backToKw pos (keywordEach [] X.env))) := by rfl) : QE X (.Call (.Attribute o m apos) [] [] pos) (qMeth C m g dd qo qNil) := by
  obtain ⟨f, fd, ps, dvs, dss, F, hc, hm, hb, hd, rd⟩ := F.ex
  refine ⟨fun W tk => ⟨fun pins s σ H Q I ⟨ρ, S, Qd, sim, en, q, kk⟩ => ?_⟩⟩
  refine PySem.W.methodCall_KW (pl := pl) (thn ((ho.pe W tk).run pins s σ H _ I ⟨ρ, S, _, sim, en, q, fun d S1 v H1 g1 s1 r1 q1 => (show (fun v H1 => ∃ a S1 fs, v = .ref a ∧ Grow H H1 ∧ Sim X.K S1 H1 ∧ S1 a = some (.ins C fs) ∧ fs.lookup m = none ∧ g (.ref a :: ([] ++ dd)) S1 Qd fun ev S3 => W ev ρ S3) v H1 by
    obtain ⟨a, C', fs, rfl, ea, rfl, hl, q2⟩ := insOf_of q1
    exact ⟨a, S1, fs, r1, g1, s1, ea, hl, q2⟩)⟩) fun u s1 ⟨x, H1, I1, rx, a, S1, fs, ex, g1, sm1, ea, l, q1⟩ => ?_) ht
  subst ex
  obtain rfl : u = Value.ref a := rx
  obtain ⟨dx, fs', h1, h2⟩ := sm1 _ _ ea
  refine getmeth_ok I1 h1 hc hm (RepKV.lookup_none h2 l) ?_
  exact PySem.W.callWith_K0 (first := [.ref a]) I1.kIn hm.kp (run_fnD (us := [.ref a]) (vs := [.ref a]) (ds := [.ref a]) F (h.room.mono hk) hb hd rd tk I1 (.cons rfl .nil) sm1 (en.mono g1) (.cons rRef .nil) q1 fun d S' v H' g3 => kk d S' v H' (g1.trans g3))
end Q

set_option maxHeartbeats 1000000
/-! Q: rules, fourth part: statements, targets, loops, comprehensions. -/
namespace Q
open PySem PySem.Spec L2
variable {X : Cx} {a b c e o tg iter : Expr} {es : List Expr} {qa qb qc qo : QT} {pos p apos : Pos} {x m f : Str}

/-! ### making an instance -/
structure MkG (P : Program) (w : World) (K : PySem.W.Frag) (mg : Str → Option Value) (base : Heap) (k : Nat) (x : Str) (C : Addr) (dd : List D) (g : SpD) : Prop where
  ex : ∃ (f : Addr) (fd : FuncData) (ps : List Str) (dvs : List V) (dss : List Value), FnOk P w K mg base (CX P w) k f fd ps (spOf K g) ∧ Mk K C f ∧ mg x = some (.ref C) ∧ Binds K fd ps dss ∧ Vals dvs dss ∧ ∀ H, Reps K H dd dvs
def qMake (C : Addr) (g : SpD) (dd : List D) (qa : QA) : QT := fun W ρ S Q => qa W ρ S fun ds S1 => ∀ p, S1 p = none → g (.ref p :: (ds ++ dd)) (put S1 p (.ins C [])) (fun v S2 => v = .non ∧ Q (.ref p) S2) fun ev S2 => W ev ρ S2
theorem run_makeD {W : WD} {k : Nat} {C f : Addr} {fd : FuncData} {ps : List Str} {g : SpD} {dvs : List V} {dd ds : List D} {dss : List Value} {pins : List (Addr × Obj)} {σ : St} {H : Hp} {s : Shared} {Q : VK} {us : List Value} {vs : List V} {ρ : Env} {S : Sto} {Qd : QK}
    (M : Mk X.K C f) (F : FnOk X.prog X.w X.K X.mg X.base (CX X.prog X.w) k f fd ps (spOf X.K g)) (hr : Room (k + 1) X.A) (hb : Binds X.K fd ps dss) (hd : Vals dvs dss) (rd : ∀ H, Reps X.K H dd dvs) (tk : TakesD X W)
    (I : Inv X pins σ H s) (r : Vals vs us) (sim : Sim X.K S H) (en : EnvOk X.K H ρ σ) (rp : Reps X.K H ds vs) (h : ∀ p, S p = none → g (.ref p :: (ds ++ dd)) (put S p (.ins C [])) (fun v S2 => v = .non ∧ Qd (.ref p) S2) fun ev S2 => W ev ρ S2)
    (kk : ∀ d S' v H', Grow H H' → Sim X.K S' H' → Rep X.K H' d v → Qd d S' → Q v H') : wpAny (model X.prog X.w) X.A (call (.ref C) us) (EP X pins σ Q) X.xe s := by
  have n1 : H s.heap.objs.size = none := I.hok.fresh (Nat.le_refl _)
  have n2 : H (s.heap.objs.size + 1) = none := I.hok.fresh (Nat.le_succ _)
  have ne : s.heap.objs.size + 1 ≠ s.heap.objs.size := Nat.succ_ne_self _
  have n3 : (upd H s.heap.objs.size (.own (s.heap.objs.size + 1))) (s.heap.objs.size + 1) = none := by rw [upd_ne ne]; exact n2
  have g1 : Grow H (upd (upd H s.heap.objs.size (.own (s.heap.objs.size + 1))) (s.heap.objs.size + 1) (.ins C s.heap.objs.size [])) := (Grow.new n1).trans (Grow.new n3)
  have s1 : Sim X.K (put S (s.heap.objs.size + 1) (.ins C [])) (upd (upd H s.heap.objs.size (.own (s.heap.objs.size + 1))) (s.heap.objs.size + 1) (.ins C s.heap.objs.size [])) :=
    (sim.new n1).put (mo := .ins C []) (Grow.new n3) ⟨s.heap.objs.size, [], upd_same, .nil⟩
  have hsp : spOf X.K g (V.ref (s.heap.objs.size + 1) :: (vs ++ dvs)) (upd (upd H s.heap.objs.size (.own (s.heap.objs.size + 1))) (s.heap.objs.size + 1) (.ins C s.heap.objs.size [])) (fun v H2 => v = .non ∧ Q (.ref (s.heap.objs.size + 1)) H2) (fun cls d H' => liftW X.K W cls d σ H') :=
    ⟨_, _, _, _, s1, .cons rRef (Reps.mono g1 _ _ (rp.append (rd H))), h _ (sim.free n2), fun d S' v H' g2 s2 r2 q2 => by
      obtain ⟨rfl, q2⟩ := q2
      exact ⟨r2, kk _ S' _ H' (g1.trans g2) s2 rRef q2⟩, fun ev S' cls d H' g2 s2 rx w => ⟨ρ, S', ev, s2, en.mono (g1.trans g2), rx, w⟩⟩
  have I2 := Inv.made (C := C) I
  have r2 : Vals (V.ref (s.heap.objs.size + 1) :: (vs ++ dvs)) (Value.ref (s.heap.objs.size + 1) :: (us ++ dss)) := .cons rfl (r.append hd)
  have hl : (Value.ref (s.heap.objs.size + 1) :: us ++ dss).length = ps.length := by
    have e := r2.length
    rw [F.len _ _ _ _ hsp] at e
    exact e.symm
  refine wpAny_call (make_map (f := f) I.kIn M.makes M.init (beq_iff_eq.mp M.fn) (codeAny_mono (F.run _ X.stack _ _ ⟨Value.ref (s.heap.objs.size + 1) :: us, []⟩ (Value.ref (s.heap.objs.size + 1) :: (us ++ dss)) _ _ _ (hr.make C us [])
    (I2.env0.make C us []) (hb _ (Value.ref (s.heap.objs.size + 1) :: us) I2.kIn hl) r2 hsp) fun r s' hq' => ?_))
  cases r with
  | error e => exact tk e s' (XE.of_call I2 (fun cls d H' h => h) hq')
  | ok fl =>
    cases fl with
    | ret u =>
      obtain ⟨v, H', I3, rv, ev, q3⟩ := I2.after hq'
      subst ev
      exact ⟨rv, ⟨V.ref (s.heap.objs.size + 1), H', I3, rfl, q3⟩⟩
    | next => exact False.elim hq'
    | brk => exact False.elim hq'
    | cont => exact False.elim hq'
theorem qe_make {j k : Nat} {C : Addr} {g : SpD} {dd : List D} {qa : QA} (h : Here X j) (F : MkG X.prog X.w X.K X.mg X.base k x C dd g) (ha : QArgs X (e :: es) qa) (hk : k + 1 ≤ j := by decide) (hg : Gl X x := by rfl) (hdb : (x == ("__debug__" : Str)) = false := by decide)
    (he : starEach (e :: es) X.env = (false, eval e X.env) :: starEach es X.env := by rfl) (hpl : (backTo pos (starEach es X.env)).any (·.1) = false := by rfl) : QE X (.Call (.Name x p) (e :: es) [] pos) (qMake C g dd qa) := by
  obtain ⟨f, fd, ps, dvs, dss, F, M, hm, hb, hd, rd⟩ := F.ex
  refine ⟨fun W tk => ⟨fun pins s σ H Q I ⟨ρ, S, Qd, sim, en, q, kk⟩ => ?_⟩⟩
  refine wpAny_Call_Name_kw (ld_glob I hg hm ?_ hdb)
  refine PySem.W.callWith_K (h₀ := X.base) I.ok.mod.kin M.kp (thn ((ha.pa W tk).run pos pins s σ H _ I ⟨ρ, S, _, sim, en, q, fun ds S1 vs H1 g1 s1 r1 q1 => (show (fun vs H1 => ∃ ds S1, Grow H H1 ∧ Sim X.K S1 H1 ∧ Reps X.K H1 ds vs ∧ ∀ p, S1 p = none → g (.ref p :: (ds ++ dd)) (put S1 p (.ins C [])) (fun v S2 => v = .non ∧ Qd (.ref p) S2) fun ev S2 => W ev ρ S2) vs H1 from ⟨ds, S1, g1, s1, r1, q1⟩)⟩) fun us s1 ⟨vs, H1, I1, r, ds, S1, g1, sm1, r1, q1⟩ => ⟨I1.kIn, ?_⟩) he hpl
  exact run_makeD M F (h.room.mono hk) hb hd rd tk I1 r sm1 (en.mono g1) r1 q1 fun d S' v H' g2 => kk d S' v H' (g1.trans g2)
theorem qe_make0 {j k : Nat} {C : Addr} {g : SpD} {dd : List D} (h : Here X j) (F : MkG X.prog X.w X.K X.mg X.base k x C dd g) (hk : k + 1 ≤ j := by decide) (hg : Gl X x := by rfl) (hdb : (x == ("__debug__" : Str)) = false := by decide) : QE X (.Call (.Name x p) [] [] pos) (qMake C g dd qNil) := by
  obtain ⟨f, fd, ps, dvs, dss, F, M, hm, hb, hd, rd⟩ := F.ex
  refine ⟨fun W tk => ⟨fun pins s σ H Q I ⟨ρ, S, Qd, sim, en, q, kk⟩ => ?_⟩⟩
  refine wpAny_Call_Name_kw (ld_glob I hg hm ?_ hdb)
  exact PySem.W.callWith_K0 I.kIn M.kp (run_makeD (us := []) (vs := []) (ds := []) M F (h.room.mono hk) hb hd rd tk I .nil sim en rfl q kk)

/-! ### blocks, small statements -/
variable {st : Stmt} {rest : List Stmt} {s1 s2 : QS}
def qNext : QS := fun _ D ρ S => D.nx ρ S
def qSeq (t u : QS) : QS := fun W D ρ S => t W { D with nx := u W D } ρ S
theorem qss_nil : QSts X [] qNext := ⟨fun W tk => PSs.imp pss_nil fun D σ H ⟨ρ, S, Dd, s, en, q, kn, kr, kb, kc⟩ => kn ρ S σ H (Grow.refl H) s en q⟩
theorem qss_cons (h1 : QSt X st s1) (h2 : QSts X rest s2) : QSts X (st :: rest) (qSeq s1 s2) := ⟨fun W tk => PSs.imp (pss_cons (h1.ps W tk) (h2.pss W tk)) fun D σ H ⟨ρ, S, Dd, s, en, q, kn, kr, kb, kc⟩ =>
  ⟨ρ, S, _, s, en, q, fun ρ' S' σ' H' g s' en' q' => ⟨ρ', S', Dd, s', en', q', fun a b c d g1 => kn a b c d (g.trans g1), fun a b c d g1 => kr a b c d (g.trans g1), fun a b c d g1 => kb a b c d (g.trans g1), fun a b c d g1 => kc a b c d (g.trans g1)⟩, kr, kb, kc⟩⟩
theorem qss_one (h1 : QSt X st s1) : QSts X [st] s1 := ⟨fun W tk => pss_one (h1.ps W tk)⟩
theorem qs_pass : QSt X (.Pass pos) qNext := ⟨fun W tk => PS.imp ps_pass fun D σ H ⟨ρ, S, Dd, s, en, q, kn, kr, kb, kc⟩ => kn ρ S σ H (Grow.refl H) s en q⟩
def qBreak : QS := fun _ D ρ S => D.bk ρ S
theorem qs_break : QSt X (.Break pos) qBreak := ⟨fun W tk => PS.imp ps_break fun D σ H ⟨ρ, S, Dd, s, en, q, kn, kr, kb, kc⟩ => kb ρ S σ H (Grow.refl H) s en q⟩
def qDrop (q : QT) : QS := fun W D ρ S => q W ρ S fun _ S1 => D.nx ρ S1
theorem qs_expr (h : QE X e qa) (hs : swapsWith e none pos.line X.env = pure false := by rfl) : QSt X (.Expr e pos) (qDrop qa) := ⟨fun W tk => PS.imp (ps_expr (h.pe W tk) hs) fun D σ H ⟨ρ, S, Dd, s, en, q, kn, kr, kb, kc⟩ =>
  ⟨ρ, S, _, s, en, q, fun d S1 v H1 g1 s1 r1 q1 => kn ρ S1 σ H1 g1 s1 (en.mono g1) q1⟩⟩
def qRet (q : QT) : QS := fun W D ρ S => q W ρ S D.rt
theorem qs_ret (h : QE X e qa) : QSt X (.Return (some e) pos) (qRet qa) := ⟨fun W tk => PS.imp (ps_ret (h.pe W tk)) fun D σ H ⟨ρ, S, Dd, s, en, q, kn, kr, kb, kc⟩ => ⟨ρ, S, _, s, en, q, kr⟩⟩
def qRetN : QS := fun _ D _ S => D.rt .non S
theorem qs_retN : QSt X (.Return none pos) qRetN := ⟨fun W tk => PS.imp ps_retN fun D σ H ⟨ρ, S, Dd, s, en, q, kn, kr, kb, kc⟩ => kr _ S _ H (Grow.refl H) s rNon q⟩
def qIfS (t : QB) (u v : QS) : QS := fun W D ρ S => t W ρ S fun b S1 => match b with
  | true => u W D ρ S1
  | false => v W D ρ S1
theorem qs_if {c : Expr} {sa sb : List Stmt} {t : QB} (hc : QTst X c t) (ha : QSts X sa s1) (hb : QSts X sb s2) : QSt X (.If c sa sb pos) (qIfS t s1 s2) := ⟨fun W tk => PS.imp (ps_if (hc.pt W tk) (ha.pss W tk) (hb.pss W tk)) fun D σ H ⟨ρ, S, Dd, s, en, q, kn, kr, kb, kc⟩ =>
  ⟨ρ, S, _, s, en, q, fun w S1 H1 g1 s1 q1 => by
    cases w with
    | true => exact iteT ⟨ρ, S1, Dd, s1, en.mono g1, q1, fun a b c d g => kn a b c d (g1.trans g), fun a b c d g => kr a b c d (g1.trans g), fun a b c d g => kb a b c d (g1.trans g), fun a b c d g => kc a b c d (g1.trans g)⟩
    | false => exact iteF ⟨ρ, S1, Dd, s1, en.mono g1, q1, fun a b c d g => kn a b c d (g1.trans g), fun a b c d g => kr a b c d (g1.trans g), fun a b c d g => kb a b c d (g1.trans g), fun a b c d g => kc a b c d (g1.trans g)⟩⟩⟩
def qNeverS : QS := fun _ _ _ _ => False
theorem qs_never : QSt X st qNeverS := ⟨fun W tk => PS.imp ps_never fun D σ H ⟨ρ, S, Dd, s, en, q, _⟩ => q⟩
theorem qss_never {sts : List Stmt} : QSts X sts qNeverS := ⟨fun W tk => PSs.imp pss_never fun D σ H ⟨ρ, S, Dd, s, en, q, _⟩ => q⟩

/-! ### targets: a name, a tuple of names -/
inductive Tgt where
  | name (i : Nat)
  | tup (is : List Nat)
def setAll {α : Type} : List Nat → List α → List (Option α) → List (Option α)
  | i :: is, x :: xs, σ => setAll is xs (σ.set i (some x))
  | _, _, σ => σ
def asgD (t : Tgt) (d : D) (ρ : Env) (Q : Env → Prop) : Prop := match t with
  | .name i => Q (ρ.set i (some d))
  | .tup is => match d with
    | .tup ds => ds.length = is.length ∧ Q (setAll is ds ρ)
    | _ => False
def gTgt (K : PySem.W.Frag) (t : Tgt) : TG := fun v σ H Q => match t with
  | .name i => Q (σ.set i (some v)) H
  | .tup is => ∃ a xs, v = .ref a ∧ SqT K H a xs ∧ xs.length = is.length ∧ Q (setAll is xs σ) H
structure TgOk (X : Cx) (tg : Expr) (t : Tgt) : Prop where
  pg : PG X tg (gTgt X.K t)
theorem PG.imp {t t' : TG} (h : PG X tg t) (i : ∀ v σ H Q, t' v σ H Q → t v σ H Q) : PG X tg t' := ⟨fun pins s σ H v u Q I r q => h.run pins s σ H v u Q I r (i _ _ _ _ q)⟩
theorem tg_name (i : Nat) {x : Str} (hN : X.N.Nodup) (hi : X.N[i]? = some x := by rfl) (hx : Loc X.env.scope x := by first | exact Or.inl rfl | exact Or.inr rfl) (hf : X.fn x = true ∨ X.env.scope.names.lookup x = some .local := by first | exact .inl rfl | exact .inr rfl) : TgOk X (.Name x pos) (.name i) :=
  ⟨PG.imp (pg_name (i := i) hN hi hx hf) fun v σ H Q q => q⟩
/-- names, one behind the other -/
structure TgsOk (X : Cx) (es : List Expr) (is : List Nat) : Prop where
  pgs : ∃ t : TGs, PGs X es t ∧ ∀ vs σ H Q, vs.length = is.length → Q (setAll is vs σ) H → t vs σ H Q
theorem tgs_nil : TgsOk X [] [] := ⟨gNil, pgs_nil, fun vs σ H Q hl q => by
  cases vs with
  | nil => exact ⟨rfl, q⟩
  | cons v vs => cases hl⟩
theorem tgs_cons (i : Nat) {x : Str} {is : List Nat} (h : TgsOk X es is) (hN : X.N.Nodup) (hi : X.N[i]? = some x := by rfl) (hx : Loc X.env.scope x := by first | exact Or.inl rfl | exact Or.inr rfl) (hf : X.fn x = true ∨ X.env.scope.names.lookup x = some .local := by first | exact .inl rfl | exact .inr rfl)
    (hs : (assignEach (.Name x pos :: es) X.env).map (·.2) = assign (.Name x pos) X.env :: (assignEach es X.env).map (·.2) := by rfl) : TgsOk X (.Name x pos :: es) (i :: is) := by
  obtain ⟨t, h1, h2⟩ := h.pgs
  refine ⟨_, pgs_cons (pg_name (i := i) hN hi hx hf) h1 hs, fun vs σ H Q hl q => ?_⟩
  cases vs with
  | nil => cases hl
  | cons v vs => exact ⟨v, vs, rfl, h2 vs _ H Q (Nat.succ.inj hl) q⟩
theorem tg_tup {k : Nat} {is : List Nat} (hc : X.calm = true) (h : TgsOk X es is) (hn : (assignEach es X.env).length = is.length := by rfl) (hst : (assignEach es X.env).findIdx? (·.1) = none := by rfl) : TgOk X (.Tuple es k pos) (.tup is) := by
  obtain ⟨t, h1, h2⟩ := h.pgs
  exact ⟨PG.imp (pg_tup hc h1 hn hst) fun v σ H Q ⟨a, xs, e, hs, hl, q⟩ => ⟨a, xs, e, hs, hl, h2 xs σ H Q hl q⟩⟩
theorem setAll_len {α : Type} : ∀ (is : List Nat) (xs : List α) (σ : List (Option α)), (setAll is xs σ).length = σ.length
  | [], _, _ => rfl
  | _ :: _, [], _ => rfl
  | i :: is, x :: xs, σ => by
    show (setAll is xs (σ.set i (some x))).length = _
    rw [setAll_len is xs, List.length_set]
theorem setAll_ok {K : PySem.W.Frag} {H : Hp} : ∀ (is : List Nat) {ds : List D} {vs : List V} {ρ : Env} {σ : St}, Reps K H ds vs → EnvOk K H ρ σ → EnvOk K H (setAll is ds ρ) (setAll is vs σ)
  | [], ds, vs, _, _, _, en => by
    show EnvOk K H (setAll [] ds _) (setAll [] vs _)
    cases ds <;> cases vs <;> exact en
  | i :: is, [], vs, _, _, r, en => by rw [show vs = _ from r]; exact en
  | i :: is, d :: ds, vs, _, _, r, en => by
    obtain ⟨v, us, rfl, r1, r2⟩ := r
    exact setAll_ok is r2 (en.set r1)
theorem asg_ok {K : PySem.W.Frag} {H : Hp} {t : Tgt} {d : D} {v : V} {ρ : Env} {σ : St} {Qd : Env → Prop} {Q : L2.St → Hp → Prop} (r : Rep K H d v) (en : EnvOk K H ρ σ) (h : asgD t d ρ Qd) (k : ∀ ρ' σ', EnvOk K H ρ' σ' → Qd ρ' → Q σ' H) : gTgt K t v σ H Q := by
  cases t with
  | name i => exact k _ _ (en.set r) h
  | tup is =>
    cases d with
    | tup ds =>
      obtain ⟨a, vs, rfl, h1, h2⟩ := r
      obtain ⟨hl, h⟩ := h
      exact ⟨a, vs, rfl, h1, by rw [h2.len]; exact hl, k _ _ (setAll_ok is h2 en) h⟩
    | _ => exact h.elim
/-- target = e -/
def qAsg (t : Tgt) (q : QT) : QS := fun W D ρ S => q W ρ S fun d S1 => asgD t d ρ fun ρ' => D.nx ρ' S1
theorem qs_asg {t : Tgt} (he : QE X e qa) (hg : TgOk X tg t) (hs : swapsWithSole [tg] e pos.line X.env = pure false := by rfl) (hw : swappedStores [tg] e X.env = pure none := by rfl)
    (h1 : (assignEach [tg] X.env).map (·.2) = [assign tg X.env] := by rfl) : QSt X (.Assign [tg] e pos) (qAsg t qa) := ⟨fun W tk => PS.imp (ps_asg (he.pe W tk) hg.pg hs hw h1) fun D σ H ⟨ρ, S, Dd, s, en, q, kn, kr, kb, kc⟩ =>
  ⟨ρ, S, _, s, en, q, fun d S1 v H1 g1 s1 r1 q1 => asg_ok r1 (en.mono g1) q1 fun ρ' σ' en' q' => kn ρ' S1 σ' H1 g1 s1 en' q'⟩⟩
theorem qs_set (i : Nat) {x : Str} {pos' : Pos} (he : QE X e qa) (hN : X.N.Nodup) (hi : X.N[i]? = some x := by rfl) (hx : Loc X.env.scope x := by first | exact Or.inl rfl | exact Or.inr rfl) (hs : swapsWith e (some (.Name x pos')) pos.line X.env = pure false := by rfl)
    (hf : X.fn x = true ∨ X.env.scope.names.lookup x = some .local := by first | exact .inl rfl | exact .inr rfl) : QSt X (.Assign [.Name x pos'] e pos) (qAsg (.name i) qa) := ⟨fun W tk => PS.imp (ps_set (i := i) hN hi hx (he.pe W tk) hs hf) fun D σ H ⟨ρ, S, Dd, s, en, q, kn, kr, kb, kc⟩ =>
  ⟨ρ, S, _, s, en, q, fun d S1 v H1 g1 s1 r1 q1 => kn _ S1 _ H1 g1 s1 ((en.mono g1).set r1) q1⟩⟩
/-- a, b = x, y -/
def qPar (i j : Nat) (q : QA) : QS := fun W D ρ S => q W ρ S fun ds S1 => match ds with
  | [d, e] => D.nx ((ρ.set i (some d)).set j (some e)) S1
  | _ => False
theorem qs_par (i j : Nat) {x y : Str} {qs : QA} {px py pt : Pos} {kt k2 pt2} (hc : X.calm = true) (hN : X.N.Nodup) (ha : QArgs X [a, b] qs) (hi : X.N[i]? = some x := by rfl) (hj : X.N[j]? = some y := by rfl) (hij : i ≠ j := by decide)
    (hx : X.env.scope.names.lookup x = some .local := by rfl) (hy : X.env.scope.names.lookup y = some .local := by rfl)
    (hw : swappedStores [.Tuple [.Name x px, .Name y py] kt pt] (.Tuple [a, b] k2 pt2) X.env = pure (some [x, y]) := by rfl)
    (hs : swapsWithSole [.Tuple [.Name x px, .Name y py] kt pt] (.Tuple [a, b] k2 pt2) pos.line X.env = pure false := by rfl) :
    QSt X (.Assign [.Tuple [.Name x px, .Name y py] kt pt] (.Tuple [a, b] k2 pt2) pos) (qPar i j qs) := ⟨fun W tk => PS.imp (ps_par (i := i) (j := j) hc hN hi hj hij hx hy (ha.pa W tk) hw hs) fun D σ H ⟨ρ, S, Dd, s, en, q, kn, kr, kb, kc⟩ =>
  ⟨ρ, S, _, s, en, q, fun ds S1 vs H1 g1 s1 r1 q1 => by
    match ds, q1 with
    | [d, e], q1 =>
      obtain ⟨v, us, rfl, r2, u, ws, rfl, r3, r4⟩ := r1
      rw [show ws = _ from r4]
      exact ⟨v, u, rfl, kn _ S1 _ H1 g1 s1 (((en.mono g1).set r2).set r3) q1⟩⟩⟩
/-- x += e (ints), on a name -/
def qAug (i : Nat) (g : Int → Int → Int) (q : QT) : QS := fun W D ρ S => match ρ[i]? with
  | some (some (.int u)) => q W ρ S fun d S1 => match d with
    | .int v => D.nx (ρ.set i (some (.int (g u v)))) S1
    | _ => False
  | _ => False
theorem qs_aug (i : Nat) {x : Str} {op : Operator} {g : Int → Int → Int} {pos' : Pos} (hN : X.N.Nodup) (ho : PIp X op (ipI g)) (he : QE X e qa) (hi : X.N[i]? = some x := by rfl) (hx : Loc X.env.scope x := by first | exact Or.inl rfl | exact Or.inr rfl)
    (hf : X.fn x = true ∨ X.env.scope.names.lookup x = some .local := by first | exact .inl rfl | exact .inr rfl) : QSt X (.AugAssign (.Name x pos') op e pos) (qAug i g qa) := ⟨fun W tk => PS.imp (ps_aug (i := i) hN hi hx (he.pe W tk) ho hf) fun D σ H ⟨ρ, S, Dd, s, en, q, kn, kr, kb, kc⟩ => by
  unfold qAug at q
  split at q
  · rename_i u hu
    obtain ⟨v, h1, h2⟩ := en.2 i _ hu
    refine ⟨v, h1, ρ, S, _, s, en, q, fun d S1 w H1 g1 s1 r1 q1 => ?_⟩
    cases d with
    | int z => exact ⟨u, z, h2, r1, kn _ S1 _ H1 g1 s1 ((en.mono g1).set rInt) q1⟩
    | _ => exact q1.elim
  · exact q.elim⟩

/-! ### o[i] = e -/
/-- a list's item, a dict's entry (keys: ints, texts) -/
def keyD : D → Option Key
  | .int i => some (.inl i)
  | .str x => some (.inr x)
  | _ => none
def putKD (kvs : List (Key × D)) (k : Key) (d : D) : List (Key × D) := match kvs with
  | [] => [(k, d)]
  | (k', d') :: r => if k' = k then (k', d) :: r else (k', d') :: putKD r k d
def setD (o i v : D) (S : Sto) (Q : Sto → Prop) : Prop := match o with
  | .ref p => match S p with
    | some (.lst ds) => (match i with
      | .int k => (match ixN ds.length k with
        | some j => Q (put S p (.lst (ds.set j v)))
        | none => False)
      | _ => False)
    | _ => False
  | _ => False
def qSetI (qo qi qv : QT) : QS := fun W D ρ S => qv W ρ S fun v S1 => qo W ρ S1 fun o S2 => qi W ρ S2 fun i S3 => setD o i v S3 fun S4 => D.nx ρ S4
theorem qs_setL {i : Expr} {qi qv : QT} {tpos : Pos} (ho : QE X o qo) (hi : QE X i qi) (hv : QE X e qv) (hs : swapsWithSole [.Subscript o i tpos] e pos.line X.env = pure false := by rfl) (hw : swappedStores [.Subscript o i tpos] e X.env = pure none := by rfl)
    (h1 : (assignEach [.Subscript o i tpos] X.env).map (·.2) = [assign (.Subscript o i tpos) X.env] := by rfl)
    (ha : ∀ v, assign (.Subscript o i tpos) X.env v = (do
      let ov ← holding [v] (eval o X.env)
      let iv ← holding [v, ov] (eval i X.env)
      standAt tpos
      holding [v, ov, iv] (setItem ov iv v)
      release [v, ov, iv] []) := by intro _; rfl) : QSt X (.Assign [.Subscript o i tpos] e pos) (qSetI qo qi qv) :=
  ⟨fun W tk => PS.imp (ps_asg (hv.pe W tk) (pg_sub (ho.pe W tk) (hi.pe W tk) set_list ha) hs hw h1) fun D σ H ⟨ρ, S, Dd, s, en, q, kn, kr, kb, kc⟩ =>
    ⟨ρ, S, _, s, en, q, fun v S1 vv H1 g1 s1 r1 q1 => ⟨ρ, S1, _, s1, en.mono g1, q1, fun od S2 ov H2 g2 s2 r2 q2 => ⟨ρ, S2, _, s2, en.mono (g1.trans g2), q2, fun id S3 iv H3 g3 s3 r3 q3 => by
      unfold setD at q3
      split at q3
      · split at q3
        · rename_i ds ea
          split at q3
          · split at q3
            · rename_i j hj
              obtain ⟨xs, h1, h2⟩ := s3 _ _ ea
              have gw : Grow H3 (upd H3 _ (.lst (xs.set j vv))) := Grow.wr h1 (fun _ z => by cases z) (fun _ _ z => by cases z)
              refine ⟨_, xs, _, j, r2, r3, h1, by rw [h2.len]; exact hj, ?_⟩
              exact kn ρ _ σ _ (g1.trans (g2.trans (g3.trans gw))) (s3.put (mo := .lst (ds.set j v)) gw ⟨_, upd_same, Reps.mono gw _ _ (h2.set j (Rep.mono (g2.trans g3) _ _ r1))⟩) (en.mono (g1.trans (g2.trans (g3.trans gw)))) q3
            · exact q3.elim
          · exact q3.elim
        · exact q3.elim
      · exact q3.elim⟩⟩⟩⟩

/-! ### while -/
def whileN (t : QB) (body : QS) (W : WD) (D : EndsD) : Nat → Env → Sto → Prop
  | 0, _, _ => False
  | n + 1, ρ, S => t W ρ S fun b S1 => match b with
    | true => body W { D with nx := whileN t body W D n, ct := whileN t body W D n, bk := D.nx } ρ S1
    | false => D.nx ρ S1
def qWhile (t : QB) (body : QS) : QS := fun W D ρ S => ∃ n, whileN t body W D n ρ S
theorem qs_while {c : Expr} {sb : List Stmt} {t : QB} {body : QS} (hp : PassesOwn (model X.prog X.w) X.A X.env X.xe) (hc : QTst X c t) (hb : QSts X sb body) : QSt X (.While c sb [] pos) (qWhile t body) :=
  ⟨fun W tk => PS.imp (ps_while hp (hc.pt W tk) (hb.pss W tk)) fun D σ H ⟨ρ, S, Dd, s, en, ⟨n, q⟩, kn, kr, kb, kc⟩ => by
    refine ⟨fun m σ1 H1 => ∃ ρ1 S1, Grow H H1 ∧ Sim X.K S1 H1 ∧ EnvOk X.K H1 ρ1 σ1 ∧ whileN t body W Dd m ρ1 S1, ⟨n, ρ, S, Grow.refl H, s, en, q⟩, ?_⟩
    rintro m σ1 H1 ⟨ρ1, S1, g1, s1, en1, q1⟩
    cases m with
    | zero => exact q1.elim
    | succ m =>
      refine ⟨ρ1, S1, _, s1, en1, q1, fun w S2 H2 g2 s2 q2 => ?_⟩
      cases w with
      | true =>
        refine iteT ⟨fun σ' H' => ∃ ρ' S', Grow H H' ∧ Sim X.K S' H' ∧ EnvOk X.K H' ρ' σ' ∧ whileN t body W Dd m ρ' S', fun σ' H' h => ⟨m, Nat.lt_succ_self m, h⟩, ρ1, S2, _, s2, en1.mono g2, q2, ?_, ?_, ?_, ?_⟩
        · exact fun ρ' S' σ' H' g' s' en' q' => ⟨ρ', S', g1.trans (g2.trans g'), s', en', q'⟩
        · exact fun a b c d g => kr a b c d (g1.trans (g2.trans g))
        · exact fun a b c d g => kn a b c d (g1.trans (g2.trans g))
        · exact fun ρ' S' σ' H' g' s' en' q' => ⟨ρ', S', g1.trans (g2.trans g'), s', en', q'⟩
      | false => exact iteF (kn ρ1 S2 σ1 H2 (g1.trans g2) s2 (en1.mono g2) q2)⟩
end Q

set_option maxHeartbeats 1000000
/-! Q: rules, fifth part: what is walked, for, comprehensions. -/
namespace Q
open PySem PySem.Spec L2
variable {X : Cx} {a b c e o tg iter elt : Expr} {es ifs : List Expr} {qa qb qc qo qe : QT} {pos p apos : Pos} {x m f : Str}

/-! ### what is walked: the items, and what must hold at each turn -/
structure Wk where
  items : List D
  ok : Sto → Prop
structure WkOk (K : PySem.W.Frag) (H0 : Hp) (J : It) (w : Wk) : Prop where
  go : ∀ i H S, Grow H0 H → Sim K S H → w.ok S → i < w.items.length → J.go i H ∧ ∀ x H', J.yld i H x H' → ∃ d, w.items[i]? = some d ∧ Grow H H' ∧ Sim K S H' ∧ Rep K H' d x
  stop : ∀ i H S, Grow H0 H → Sim K S H → w.ok S → w.items.length ≤ i → J.stop i H
abbrev QW := WD → Env → Sto → (Wk → Sto → Prop) → Prop
def liftI (K : PySem.W.Frag) (q : QW) (W : WD) : TI := fun σ H R => ∃ ρ S Qd, Sim K S H ∧ EnvOk K H ρ σ ∧ q W ρ S Qd ∧ ∀ w S' H' J, Grow H H' → Sim K S' H' → WkOk K H' J w → Qd w S' → R J H'
structure QI (X : Cx) (tg iter : Expr) (q : QW) : Prop where
  pi : ∀ W, TakesD X W → PI X tg iter (liftI X.K q W)
theorem PI.imp {t t' : TI} (h : PI X tg iter t) (i : ∀ σ H Q, t' σ H Q → t σ H Q) : PI X tg iter t' := ⟨fun pins s σ H R I q => h.run pins s σ H R I (i _ _ _ q)⟩

/-- a list or a tuple -/
def qiSeq (q : QT) : QW := fun W ρ S Q => q W ρ S fun d S1 => match items S1 d with
  | some ds => Q ⟨ds, fun S' => items S' d = some ds⟩ S1
  | none => False
theorem wk_list {K : PySem.W.Frag} {H0 : Hp} {p : Addr} {d : D} {ds : List D} (h : ∀ H S, Grow H0 H → Sim K S H → items S d = some ds → ∃ vs, SqL K H p vs ∧ Reps K H ds vs) : WkOk K H0 (Itl K p) ⟨ds, fun S' => items S' d = some ds⟩ where
  go := fun i H S g s ok hi => by
    obtain ⟨vs, h1, h2⟩ := h H S g s ok
    obtain ⟨v, h3, h4⟩ := h2.get (List.getElem?_eq_getElem hi)
    exact ⟨⟨vs, v, h1, h3⟩, fun x H' ⟨e, y⟩ => by
      subst e
      have := y vs h1
      rw [h3] at this
      cases this
      exact ⟨_, List.getElem?_eq_getElem hi, Grow.refl _, s, h4⟩⟩
  stop := fun i H S g s ok hi => by
    obtain ⟨vs, h1, h2⟩ := h H S g s ok
    exact ⟨vs, h1, by rw [h2.len]; exact hi⟩
theorem wk_tup {K : PySem.W.Frag} {H0 : Hp} {p : Addr} {ds : List D} {vs : List V} (h1 : SqT K H0 p vs) (h2 : Reps K H0 ds vs) (ok : Sto → Prop) : WkOk K H0 (Itt K p) ⟨ds, ok⟩ where
  go := fun i H S g s ok hi => by
    obtain ⟨v, h3, h4⟩ := h2.get (List.getElem?_eq_getElem hi)
    exact ⟨⟨vs, v, g.sqT h1, h3⟩, fun x H' ⟨e, y⟩ => by
      subst e
      have := y vs (g.sqT h1)
      rw [h3] at this
      cases this
      exact ⟨_, List.getElem?_eq_getElem hi, Grow.refl _, s, Rep.mono g _ _ h4⟩⟩
  stop := fun i H S g s ok hi => ⟨vs, g.sqT h1, by rw [h2.len]; exact hi⟩
/-- a list (by the S-layer or frozen) -/
def qiL (q : QT) : QW := fun W ρ S Q => q W ρ S fun d S1 => match d with
  | .ref a => (match items S1 (.ref a) with
    | some ds => Q ⟨ds, fun S' => items S' (.ref a) = some ds⟩ S1
    | none => False)
  | .kl ds => Q ⟨ds, fun S' => items S' (.kl ds) = some ds⟩ S1
  | _ => False
theorem qi_list {l : Expr} (h : QE X l qa) : QI X tg l (qiL qa) := ⟨fun W tk => PI.imp (pi_list (h.pe W tk)) fun σ H R ⟨ρ, S, Qd, s, en, q, k⟩ =>
  ⟨ρ, S, _, s, en, q, fun d S1 v H1 g1 s1 r1 q1 => by
    cases d with
    | ref a =>
      cases r1
      cases e : items S1 (.ref a) with
      | none => (have q2 : (match items S1 (.ref a) with | some ds => Qd ⟨ds, fun S' => items S' (.ref a) = some ds⟩ S1 | none => False) := q1); rw [e] at q2; exact q2.elim
      | some ds =>
        have q2 : (match items S1 (.ref a) with | some ds => Qd ⟨ds, fun S' => items S' (.ref a) = some ds⟩ S1 | none => False) := q1
        rw [e] at q2
        obtain ⟨vs, h1, h2⟩ := s1 _ _ (items_ref e)
        exact ⟨a, rfl, ⟨vs, SqL.of h1⟩, k _ S1 H1 _ g1 s1 (wk_list fun H S g s ok => by
          obtain ⟨us, h3, h4⟩ := s _ _ (items_ref ok)
          exact ⟨us, SqL.of h3, h4⟩) q2⟩
    | kl ds =>
      obtain ⟨a, vs, rfl, h1, h2⟩ := r1
      exact ⟨a, rfl, ⟨vs, h1.sq⟩, k _ S1 H1 _ g1 s1 (wk_list fun H S g s ok => ⟨vs, SqF.sq (h1.elim (fun ⟨o, h⟩ => .inl ⟨o, g.frz _ _ _ h⟩) .inr), Reps.mono g _ _ h2⟩) q1⟩
    | _ => exact q1.elim⟩⟩
def qiT (q : QT) : QW := fun W ρ S Q => q W ρ S fun d S1 => match d with
  | .tup ds => Q ⟨ds, fun _ => True⟩ S1
  | _ => False
theorem qi_tup {l : Expr} (h : QE X l qa) : QI X tg l (qiT qa) := ⟨fun W tk => PI.imp (pi_tup (h.pe W tk)) fun σ H R ⟨ρ, S, Qd, s, en, q, k⟩ =>
  ⟨ρ, S, _, s, en, q, fun d S1 v H1 g1 s1 r1 q1 => by
    cases d with
    | tup ds =>
      obtain ⟨a, vs, rfl, h1, h2⟩ := r1
      exact ⟨a, rfl, ⟨vs, h1⟩, k _ S1 H1 _ g1 s1 (wk_tup h1 h2 _) q1⟩
    | _ => exact q1.elim⟩⟩
def rangeD (lo : Int) (n : Nat) : List D := (List.range n).map fun (i : Nat) => D.int (lo + (i : Int))
theorem wk_range {K : PySem.W.Frag} {H0 : Hp} {lo : Int} {n : Nat} : WkOk K H0 (Itr lo n) ⟨rangeD lo n, fun _ => True⟩ where
  go := fun i H S g s ok hi => by
    have hi' : i < n := by simpa [rangeD] using hi
    exact ⟨hi', fun x H' ⟨e, y⟩ => by
      subst e y
      exact ⟨.int (lo + i), by simp [rangeD, hi'], Grow.refl _, s, rInt⟩⟩
  stop := fun i H S g s ok hi => by
    have hi' : n ≤ i := by simpa [rangeD] using hi
    exact hi'
def qiR1 (q : QA) : QW := fun W ρ S Q => q W ρ S fun ds S1 => match ds with
  | [.int j] => -(2 ^ 62) ≤ j ∧ j < 2 ^ 62 ∧ Q ⟨rangeD 0 j.toNat, fun _ => True⟩ S1
  | _ => False
theorem qi_range1 {a : Expr} {q : QA} {p pos : Pos} (hm : X.mg "range" = none) (ha : QArgs X [a] q) (hg : Gl X "range" := by rfl) (hs : starEach [a] X.env = [(false, eval a X.env)] := by rfl) : QI X tg (.Call (.Name "range" p) [a] [] pos) (qiR1 q) :=
  ⟨fun W tk => PI.imp (pi_range1 hg hm (ha.pa W tk) hs) fun σ H R ⟨ρ, S, Qd, s, en, q, k⟩ => ⟨ρ, S, _, s, en, q, fun ds S1 vs H1 g1 s1 r1 q1 => by
    match ds, q1 with
    | [.int j], ⟨q2, q3, q1⟩ =>
      obtain ⟨v, us, rfl, r2, r3⟩ := r1
      rw [show us = _ from r3, show v = _ from r2]
      exact ⟨j, rfl, q2, q3, k _ S1 H1 _ g1 s1 wk_range q1⟩⟩⟩
def qiR2 (q : QA) : QW := fun W ρ S Q => q W ρ S fun ds S1 => match ds with
  | [.int i, .int j] => (-(2 ^ 62) ≤ i ∧ i < 2 ^ 62 ∧ -(2 ^ 62) ≤ j ∧ j < 2 ^ 62) ∧ Q ⟨rangeD i (j - i).toNat, fun _ => True⟩ S1
  | _ => False
theorem qi_range2 {a b : Expr} {q : QA} {p pos : Pos} (hm : X.mg "range" = none) (ha : QArgs X [a, b] q) (hg : Gl X "range" := by rfl) (hs : starEach [a, b] X.env = [(false, eval a X.env), (false, eval b X.env)] := by rfl) (hs2 : starEach [b] X.env = [(false, eval b X.env)] := by rfl) : QI X tg (.Call (.Name "range" p) [a, b] [] pos) (qiR2 q) :=
  ⟨fun W tk => PI.imp (pi_range2 hg hm (ha.pa W tk) hs hs2) fun σ H R ⟨ρ, S, Qd, s, en, q, k⟩ => ⟨ρ, S, _, s, en, q, fun ds S1 vs H1 g1 s1 r1 q1 => by
    match ds, q1 with
    | [.int i, .int j], ⟨q2, q1⟩ =>
      obtain ⟨v, us, rfl, r2, u, ws, rfl, r3, r4⟩ := r1
      rw [show ws = _ from r4, show v = _ from r2, show u = _ from r3]
      exact ⟨i, j, rfl, q2, k _ S1 H1 _ g1 s1 wk_range q1⟩⟩⟩

/-! ### for -/
def forW (ok : Sto → Prop) (t : Tgt) (body : QS) (W : WD) (D : EndsD) : List Q.D → Env → Sto → Prop
  | [], ρ, S => ok S ∧ D.nx ρ S
  | d :: ds, ρ, S => ok S ∧ asgD t d ρ fun ρ1 => body W { D with nx := forW ok t body W D ds, ct := forW ok t body W D ds, bk := D.nx } ρ1 S
def qFor (q : QW) (t : Tgt) (body : QS) : QS := fun W D ρ S => q W ρ S fun w S1 => forW w.ok t body W D w.items ρ S1
theorem qs_for {sb : List Stmt} {q : QW} {t : Tgt} {body : QS} {k : Nat} (h : Here X k) (hi : QI X tg iter q) (hg : TgOk X tg t) (hb : QSts X sb body) (hs : ∀ x, foldedSetIterable iter X.env x = pure x := by intro _; rfl) : QSt X (.For tg iter sb [] pos) (qFor q t body) :=
  ⟨fun W tk => PS.imp (ps_for h.po h.calm (hi.pi W tk) hg.pg (hb.pss W tk) hs) fun D σ H ⟨ρ, S, Dd, s, en, q, kn, kr, kb, kc⟩ =>
    ⟨ρ, S, _, s, en, q, fun w S1 H1 J g1 s1 wk q1 => by
      refine ⟨fun i m σ2 H2 => m = w.items.length - i ∧ i ≤ w.items.length ∧ ∃ ρ2 S2, Grow H1 H2 ∧ Sim X.K S2 H2 ∧ EnvOk X.K H2 ρ2 σ2 ∧ forW w.ok t body W Dd (w.items.drop i) ρ2 S2, ⟨w.items.length, by simp, Nat.zero_le _, ρ, S1, Grow.refl _, s1, en.mono g1, by simpa using q1⟩, ?_⟩
      rintro i m σ2 H2 ⟨rfl, hi, ρ2, S2, g2, s2, en2, q2⟩
      by_cases hlt : i < w.items.length
      · rw [List.drop_eq_getElem_cons hlt] at q2
        obtain ⟨ok, q2⟩ := q2
        obtain ⟨go, yld⟩ := wk.go i H2 S2 g2 s2 ok hlt
        refine .inr ⟨go, fun σ' H' => ∃ ρ' S', Grow H1 H' ∧ Sim X.K S' H' ∧ EnvOk X.K H' ρ' σ' ∧ forW w.ok t body W Dd (w.items.drop (i + 1)) ρ' S', fun σ' H' h => ⟨w.items.length - (i + 1), by omega, rfl, hlt, h⟩, fun xv H3 y => ?_⟩
        obtain ⟨d, hd, g3, s3, r3⟩ := yld xv H3 y
        rw [List.getElem?_eq_getElem hlt] at hd
        cases hd
        refine asg_ok r3 (en2.mono g3) q2 fun ρ4 σ4 en4 q4 => ⟨ρ4, S2, _, s3, en4, q4, ?_, ?_, ?_, ?_⟩
        · exact fun ρ' S' σ' H' g' s' en' q' => ⟨ρ', S', g2.trans (g3.trans g'), s', en', q'⟩
        · exact fun a b c d g => kr a b c d (g1.trans (g2.trans (g3.trans g)))
        · exact fun a b c d g => kn a b c d (g1.trans (g2.trans (g3.trans g)))
        · exact fun ρ' S' σ' H' g' s' en' q' => ⟨ρ', S', g2.trans (g3.trans g'), s', en', q'⟩
      · have e : i = w.items.length := by omega
        subst e
        rw [List.drop_length] at q2
        exact .inl ⟨wk.stop _ H2 S2 g2 s2 q2.1 (Nat.le_refl _), kn ρ2 S2 σ2 H2 (g1.trans g2) s2 en2 q2.2⟩⟩⟩

/-! ### comprehensions -/
def wipeD (ρ : Env) : List Nat → Env
  | [] => ρ
  | v :: vs => (wipeD ρ vs).set v none
theorem wipe_ok {K : PySem.W.Frag} {H : Hp} {ρ : Env} {σ : L2.St} (en : EnvOk K H ρ σ) : ∀ vs : List Nat, EnvOk K H (wipeD ρ vs) (wipe σ vs)
  | [] => en
  | v :: vs => (wipe_ok en vs).unset
/-- the targets' places are the block's own -/
def Tgt.within (t : Tgt) (vs : List Nat) : Bool := match t with
  | .name i => vs.contains i
  | .tup is => is.all vs.contains
theorem wipe_get {σ : L2.St} : ∀ {vs : List Nat} {i : Nat}, i ∈ vs → i < σ.length → (wipe σ vs)[i]? = some none
  | v :: vs, i, h, hl => by
    unfold wipe
    by_cases e : v = i
    · subst e
      rw [List.getElem?_set_self (by rw [wipe_length]; exact hl)]
    · rw [List.getElem?_set_ne e]
      rcases List.mem_cons.mp h with h | h
      · exact absurd h.symm e
      · exact wipe_get h hl
theorem wipe_out' {σ : L2.St} : ∀ {vs : List Nat} {i : Nat}, i ∉ vs → (wipe σ vs)[i]? = σ[i]?
  | [], _, _ => rfl
  | v :: vs, i, h => by
    unfold wipe
    have h1 : v ≠ i := fun e => h (by rw [e]; exact List.mem_cons_self)
    rw [List.getElem?_set_ne h1]
    exact wipe_out' fun q => h (List.mem_cons_of_mem _ q)
theorem wipe_eq {σ τ : L2.St} {vs : List Nat} (hl : σ.length = τ.length) (h : ∀ i, i ∉ vs → σ[i]? = τ[i]?) : wipe σ vs = wipe τ vs := by
  refine List.ext_getElem? fun i => ?_
  by_cases hi : i ∈ vs
  · by_cases hlt : i < σ.length
    · rw [wipe_get hi hlt, wipe_get hi (by rw [← hl]; exact hlt)]
    · rw [List.getElem?_eq_none (by rw [wipe_length]; omega), List.getElem?_eq_none (by rw [wipe_length]; omega)]
  · rw [wipe_out' hi, wipe_out' hi, h i hi]
theorem wipe_wipe {σ : L2.St} {vs : List Nat} : wipe (wipe σ vs) vs = wipe σ vs := wipe_eq (wipe_length σ vs) fun i hi => wipe_out' hi
theorem setAll_get {α : Type} : ∀ (is : List Nat) (xs : List α) (σ : List (Option α)) (i : Nat), i ∉ is → (setAll is xs σ)[i]? = σ[i]?
  | [], _, _, _, _ => rfl
  | _ :: _, [], _, _, _ => rfl
  | j :: is, x :: xs, σ, i, h => by
    show (setAll is xs (σ.set j (some x)))[i]? = _
    rw [setAll_get is xs _ i fun q => h (List.mem_cons_of_mem _ q), List.getElem?_set_ne fun e => h (by rw [e]; exact List.mem_cons_self)]
/-- a comprehension's target, with what it leaves alone -/
theorem asg_okW {K : PySem.W.Frag} {H : Hp} {t : Tgt} {d : D} {v : V} {ρ : Env} {σ : L2.St} {vs : List Nat} {Qd : Env → Prop} {Q : L2.St → Hp → Prop} (ht : t.within vs = true) (r : Rep K H d v) (en : EnvOk K H ρ σ) (h : asgD t d ρ Qd)
    (k : ∀ ρ' σ', wipe σ' vs = wipe σ vs → EnvOk K H ρ' σ' → Qd ρ' → Q σ' H) : gTgt K t v σ H Q := by
  cases t with
  | name i =>
    have hi : i ∈ vs := by simpa [Tgt.within] using ht
    exact k _ _ (wipe_eq (by rw [List.length_set]) fun j hj => List.getElem?_set_ne fun e => hj (by rw [← e]; exact hi)) (en.set r) h
  | tup is =>
    cases d with
    | tup ds =>
      obtain ⟨a, us, rfl, h1, h2⟩ := r
      obtain ⟨hl, h⟩ := h
      have hi : ∀ i ∈ is, i ∈ vs := fun i q => by
        have := List.all_eq_true.mp (show is.all vs.contains = true from ht) i q
        simpa using this
      exact ⟨a, us, rfl, h1, by rw [h2.len]; exact hl, k _ _ (wipe_eq (setAll_len is us σ) fun j hj => setAll_get is us σ j fun q => hj (hi j q)) (setAll_ok is h2 en) h⟩
    | _ => exact h.elim
def W0 : WD := fun _ _ _ => False
theorem takes0D {xe : Value → Shared → Prop} : TakesD X W0 := fun u s' ⟨_, _, _, _, _, _, _, _, _, _, _, _, _, _, _, _, ρ, S, ev, _, _, _, w⟩ => w.elim
structure QIfs (X : Cx) (ifs : List Expr) (q : QB) : Prop where
  pts : ∀ W, TakesD X W → PTs X ifs (liftB X.K q W)
def qYes : QB := fun _ _ S Q => Q true S
theorem PTs.imp {t t' : TT} (h : PTs X ifs t) (i : ∀ σ H Q, t' σ H Q → t σ H Q) : PTs X ifs t' := ⟨fun pins s σ H Q I q => h.run pins s σ H Q I (i _ _ _ q)⟩
theorem qi_nil : QIfs X [] qYes := ⟨fun W tk => PTs.imp pts_nil fun σ H Q ⟨ρ, S, Qd, s, en, q, k⟩ => k true S H (Grow.refl H) s q⟩
theorem qi_one {t : QB} (h : QTst X c t) : QIfs X [c] t := ⟨fun W tk => pts_one (h.pt W tk)⟩
/-- the turns of a comprehension: the list at p has acc -/
def lcW (ok : Sto → Prop) (t : Tgt) (ti : QB) (qe : QT) (ρ : Env) (p : Addr) (k : Sto → Prop) : List D → List D → Sto → Prop
  | [], acc, S => ok S ∧ S p = some (.lst acc) ∧ k S
  | d :: ds, acc, S => ok S ∧ asgD t d ρ fun ρ1 => ti W0 ρ1 S fun b S1 => match b with
    | true => qe W0 ρ1 S1 fun y S2 => S2 p = some (.lst acc) ∧ acc.length < sizeLine ∧ lcW ok t ti qe ρ p k ds (acc ++ [y]) (put S2 p (.lst (acc ++ [y])))
    | false => lcW ok t ti qe ρ p k ds acc S1
def qLc (qi : QW) (t : Tgt) (ti : QB) (qe : QT) (vs : List Nat) : QT := fun W ρ S Q => qi W ρ S fun w S1 => ∀ p, S1 p = none → lcW w.ok t ti qe (wipeD ρ vs) p (Q (.ref p)) w.items [] (put S1 p (.lst []))
theorem lift_lc {K : PySem.W.Frag} {qi : QW} {t : Tgt} {ti : QB} {qe : QT} {vs : List Nat} {W : WD} (ht : t.within vs = true) : ∀ σ H Q, liftE K (qLc qi t ti qe vs) W σ H Q → tLc (liftI K qi W) (gTgt K t) (liftB K ti W0) (liftE K qe W0) vs σ H Q := fun σ H Q ⟨ρ, S, Qd, s, en, q, k⟩ =>
  ⟨ρ, S, _, s, en, q, fun w S1 H1 J g1 s1 wk q1 => fun Dl hD => by
    have gn := Grow.new (o := .lst []) hD
    refine ⟨fun i m H2 => m = w.items.length - i ∧ i ≤ w.items.length ∧ ∃ acc S2, Grow H1 H2 ∧ Sim K S2 H2 ∧ lcW w.ok t ti qe (wipeD ρ vs) Dl (Qd (.ref Dl)) (w.items.drop i) acc S2,
      ⟨w.items.length, by simp, Nat.zero_le _, [], _, gn, sim_lst s1 hD .nil, by simpa using q1 Dl (s1.free hD)⟩, ?_⟩
    rintro i m H2 ⟨rfl, hi, acc, S2, g2, s2, q2⟩
    by_cases hlt : i < w.items.length
    · rw [List.drop_eq_getElem_cons hlt] at q2
      obtain ⟨ok, q2⟩ := q2
      obtain ⟨go, yld⟩ := wk.go i H2 S2 g2 s2 ok hlt
      refine .inr ⟨go, fun H' => ∃ acc' S', Grow H1 H' ∧ Sim K S' H' ∧ lcW w.ok t ti qe (wipeD ρ vs) Dl (Qd (.ref Dl)) (w.items.drop (i + 1)) acc' S', fun H' h => ⟨w.items.length - (i + 1), by omega, rfl, hlt, h⟩, fun xv H3 y => ?_⟩
      obtain ⟨d, hd, g3, s3, r3⟩ := yld xv H3 y
      rw [List.getElem?_eq_getElem hlt] at hd
      cases hd
      have en3 : EnvOk K H3 (wipeD ρ vs) (wipe σ vs) := wipe_ok (en.mono (g1.trans (g2.trans g3))) vs
      refine asg_okW ht r3 en3 q2 fun ρ4 σ4 hw en4 q4 => ⟨hw.trans wipe_wipe, ρ4, S2, _, s3, en4, q4, fun b S5 H5 g5 s5 q5 => ?_⟩
      cases b with
      | true =>
        refine iteT ⟨ρ4, S5, _, s5, en4.mono g5, q5, fun yd S6 yv H6 g6 s6 r6 ⟨hp, hl, q6⟩ => ?_⟩
        obtain ⟨xs, h7, h8⟩ := s6 _ _ hp
        have gw : Grow H6 (upd H6 Dl (.lst (xs ++ [yv]))) := Grow.wr h7 (fun _ z => by cases z) (fun _ _ z => by cases z)
        exact ⟨xs, h7, by rw [h8.len]; exact hl, _, _, g2.trans (g3.trans (g5.trans (g6.trans gw))), s6.put (mo := .lst (acc ++ [yd])) gw ⟨_, upd_same, Reps.mono gw _ _ (h8.append (.cons r6 .nil))⟩, q6⟩
      | false => exact iteF ⟨acc, S5, g2.trans (g3.trans g5), s5, q5⟩
    · have e : i = w.items.length := by omega
      subst e
      rw [List.drop_length] at q2
      exact .inl ⟨wk.stop _ H2 S2 g2 s2 q2.1 (Nat.le_refl _), k _ S2 _ H2 (g1.trans g2) s2 rRef q2.2.2⟩⟩
/-- the contexts of a comprehension's block -/
abbrev Blk (X : Cx) (scope : Scope) (Y : Cx) : Prop := ∃ (s : Shared) (H : Hp) (C : Addr) (cl : List (Str × Addr)) (fp : List Addr), Y = X.blk s H scope (compEnvC scope cl C X.env) fp
theorem qe_lc {scope : Scope} {own : List (Str × Nat)} {qi : QW} {t : Tgt} {ti : QB} {k : Nat} (h : Here X k) (hi : QI X tg iter qi) (ok : BlkOk X.N X.env.scope scope own)
    (hg : ∀ (s : Shared) (H : Hp) (C : Addr) (cl : List (Str × Addr)) (fp : List Addr), Here (X.blk s H scope (compEnvC scope cl C X.env) fp) k → TgOk (X.blk s H scope (compEnvC scope cl C X.env) fp) tg t) (ht : ∀ (s : Shared) (H : Hp) (C : Addr) (cl : List (Str × Addr)) (fp : List Addr), Here (X.blk s H scope (compEnvC scope cl C X.env) fp) k → QIfs (X.blk s H scope (compEnvC scope cl C X.env) fp) ifs ti)
    (he : ∀ (s : Shared) (H : Hp) (C : Addr) (cl : List (Str × Addr)) (fp : List Addr), Here (X.blk s H scope (compEnvC scope cl C X.env) fp) k → QE (X.blk s H scope (compEnvC scope cl C X.env) fp) elt qe) (hw : t.within (own.map (·.2)) = true := by rfl) (hs : ∀ x, foldedSetIterable iter X.env x = pure x := by intro _; rfl) :
    QE X (.ListComp elt [⟨tg, iter, ifs, 0⟩] scope pos) (qLc qi t ti qe (own.map (·.2))) :=
  ⟨fun W tk => PE.imp (pe_lc h.calm h.nd (hi.pi W tk) ok (fun s H C cl fp => (hg s H C cl fp ⟨h.calm, h.nd, PassesOwn.never, h.room⟩).pg) (fun s H C cl fp => (ht s H C cl fp ⟨h.calm, h.nd, PassesOwn.never, h.room⟩).pts W0 (takes0D (xe := fun _ _ => False)))
    (fun s H C cl fp => (he s H C cl fp ⟨h.calm, h.nd, PassesOwn.never, h.room⟩).pe W0 (takes0D (xe := fun _ _ => False))) hs) (lift_lc hw)⟩
/-- y = [..] -/
theorem qs_setLc (i : Nat) {y : Str} {py spos : Pos} {scope : Scope} {own : List (Str × Nat)} {qi : QW} {t : Tgt} {ti : QB} {k : Nat} (h : Here X k) (hi : QI X tg iter qi) (ok : BlkOk X.N X.env.scope scope own)
    (hg : ∀ (s : Shared) (H : Hp) (C : Addr) (cl : List (Str × Addr)) (fp : List Addr), Here (X.blk s H scope (compEnvC scope cl C X.env) fp) k → TgOk (X.blk s H scope (compEnvC scope cl C X.env) fp) tg t) (ht : ∀ (s : Shared) (H : Hp) (C : Addr) (cl : List (Str × Addr)) (fp : List Addr), Here (X.blk s H scope (compEnvC scope cl C X.env) fp) k → QIfs (X.blk s H scope (compEnvC scope cl C X.env) fp) ifs ti)
    (he : ∀ (s : Shared) (H : Hp) (C : Addr) (cl : List (Str × Addr)) (fp : List Addr), Here (X.blk s H scope (compEnvC scope cl C X.env) fp) k → QE (X.blk s H scope (compEnvC scope cl C X.env) fp) elt qe)
    (hsw : swapsWith (.ListComp elt [⟨tg, iter, ifs, 0⟩] scope pos) (some (.Name y py)) spos.line X.env = pure true) (hw : t.within (own.map (·.2)) = true := by rfl) (hy : X.N[i]? = some y := by rfl) (hyl : X.env.scope.names.lookup y = some .local := by rfl) (hs : ∀ x, foldedSetIterable iter X.env x = pure x := by intro _; rfl) :
    QSt X (.Assign [.Name y py] (.ListComp elt [⟨tg, iter, ifs, 0⟩] scope pos) spos) (qAsg (.name i) (qLc qi t ti qe (own.map (·.2)))) :=
  ⟨fun W tk => PS.imp (ps_setLc (i := i) h.calm h.nd hy hyl hsw (hi.pi W tk) ok (fun s H C cl fp => (hg s H C cl fp ⟨h.calm, h.nd, PassesOwn.never, h.room⟩).pg) (fun s H C cl fp => (ht s H C cl fp ⟨h.calm, h.nd, PassesOwn.never, h.room⟩).pts W0 (takes0D (xe := fun _ _ => False)))
    (fun s H C cl fp => (he s H C cl fp ⟨h.calm, h.nd, PassesOwn.never, h.room⟩).pe W0 (takes0D (xe := fun _ _ => False))) hs) fun D σ H ⟨ρ, S, Dd, s, en, q, kn, kr, kb, kc⟩ =>
      lift_lc hw σ H _ ⟨ρ, S, _, s, en, q, fun d S1 v H1 g1 s1 r1 q1 => kn _ S1 _ H1 g1 s1 ((en.mono g1).set r1) q1⟩⟩
end Q

set_option maxHeartbeats 1000000
/-! Q: rules, sixth part: built-ins by name, methods of built-in types. -/
namespace Q
open PySem PySem.Spec L2
variable {X : Cx} {a b c e o tg iter elt : Expr} {es ifs : List Expr} {qa qb qc qo qe : QT} {qs : QA} {pos p apos : Pos} {x m f : Str}

abbrev RCD := List D → Sto → QK → Prop
def CallD (K : PySem.W.Frag) (r : List V → Hp → VK → Prop) (rD : RCD) : Prop := ∀ (ds : List D) (vs : List V) (S : Sto) (H : Hp) (Q : VK) (Qd : QK), Sim K S H → Reps K H ds vs → rD ds S Qd →
  (∀ d' S' v H', Grow H H' → Sim K S' H' → Rep K H' d' v → Qd d' S' → Q v H') → r vs H Q
def qCB (rD : RCD) (qs : QA) : QT := fun W ρ S Q => qs W ρ S fun ds S1 => rD ds S1 Q
theorem lift_cb {K : PySem.W.Frag} {r : List V → Hp → VK → Prop} {rD : RCD} {W : WD} (hd : CallD K r rD) : ∀ σ H Q, liftE K (qCB rD qs) W σ H Q → tCB r (liftA K qs W) σ H Q := fun σ H Q ⟨ρ, S, Qd, s, en, q, k⟩ =>
  ⟨ρ, S, _, s, en, q, fun ds S1 vs H1 g1 s1 r1 q1 => hd ds vs S1 H1 Q Qd s1 r1 q1 fun d' S' v H' g => k d' S' v H' (g1.trans g)⟩
theorem qe_callB {id : String} {r : List V → Hp → VK → Prop} {rD : RCD} (hc : CallR X (.builtin id) r) (hd : CallD X.K r rD) (hm : X.mg x = none) (hv : bootBuiltins x = some (.builtin id)) (ha : QArgs X (e :: es) qs) (hg : Gl X x := by rfl) (hn : x ≠ "__name__" := by decide) (hdb : (x == ("__debug__" : Str)) = false := by decide)
    (he : starEach (e :: es) X.env = (false, eval e X.env) :: starEach es X.env := by rfl) (hpl : (backTo pos (starEach es X.env)).any (·.1) = false := by rfl) : QE X (.Call (.Name x p) (e :: es) [] pos) (qCB rD qs) :=
  ⟨fun W tk => PE.imp (pe_callB hc hg hm hv (ha.pa W tk) hn hdb he hpl) (lift_cb hd)⟩
theorem qe_callTy {T : String} {r : List V → Hp → VK → Prop} {rD : RCD} (hc : CallR X (.type T) r) (hd : CallD X.K r rD) (hm : X.mg x = none) (hv : bootBuiltins x = some (.type T)) (ha : QArgs X (e :: es) qs) (hg : Gl X x := by rfl) (hn : x ≠ "__name__" := by decide) (hdb : (x == ("__debug__" : Str)) = false := by decide)
    (he : starEach (e :: es) X.env = (false, eval e X.env) :: starEach es X.env := by rfl) (hpl : (backTo pos (starEach es X.env)).any (·.1) = false := by rfl) : QE X (.Call (.Name x p) (e :: es) [] pos) (qCB rD qs) :=
  ⟨fun W tk => PE.imp (pe_callTy hc hg hm hv (ha.pa W tk) hn hdb he hpl) (lift_cb hd)⟩
theorem reps1 {K : PySem.W.Frag} {H : Hp} {d : D} {vs : List V} (r : Reps K H [d] vs) : ∃ v, vs = [v] ∧ Rep K H d v := by
  obtain ⟨v, us, rfl, r1, r2⟩ := r
  exact ⟨v, by rw [show us = _ from r2], r1⟩
theorem reps2 {K : PySem.W.Frag} {H : Hp} {d e : D} {vs : List V} (r : Reps K H [d, e] vs) : ∃ v u, vs = [v, u] ∧ Rep K H d v ∧ Rep K H e u := by
  obtain ⟨v, us, rfl, r1, r2⟩ := r
  obtain ⟨u, rfl, r3⟩ := reps1 r2
  exact ⟨v, u, rfl, r1, r3⟩

/-! len -/
def lenD : RCD := fun ds S Q => match ds with
  | [.str z] => z.length ≤ sizeLine ∧ Q (.int z.length) S
  | [d] => (match items S d with
    | some xs => Q (.int xs.length) S
    | none => False)
  | _ => False
def rLenV (K : PySem.W.Frag) : List V → Hp → VK → Prop := fun xs H Q => (∃ z, xs = [.str z] ∧ z.length ≤ sizeLine ∧ Q (.int z.length) H) ∨ ∃ p ys, xs = [.ref p] ∧ (SqL K H p ys ∨ SqT K H p ys) ∧ Q (.int ys.length) H
theorem call_lenV : CallR X (.builtin "len") (rLenV X.K) := call_len_str.or call_len_seq
theorem cd_len {K : PySem.W.Frag} : CallD K (rLenV K) lenD := fun ds vs S H Q Qd s r q k => by
  unfold lenD at q
  split at q
  · obtain ⟨v, rfl, r1⟩ := reps1 r
    rw [show v = _ from r1]
    exact .inl ⟨_, rfl, q.1, k _ S _ H (Grow.refl H) s rInt q.2⟩
  · split at q
    · rename_i xs hx
      obtain ⟨v, rfl, r1⟩ := reps1 r
      obtain ⟨p, ys, rfl, h1, h2⟩ := items_rep s r1 hx
      refine .inr ⟨p, ys, rfl, h1, k _ S _ H (Grow.refl H) s rInt ?_⟩
      rw [h2.len]
      exact q
    · exact q.elim
  · exact q.elim
theorem qe_len (hm : X.mg "len" = none) (ha : QArgs X [e] qs) (hg : Gl X "len" := by rfl) (he : starEach [e] X.env = (false, eval e X.env) :: starEach [] X.env := by rfl) : QE X (.Call (.Name "len" p) [e] [] pos) (qCB lenD qs) := qe_callB call_lenV cd_len hm boot_len ha hg (by decide) (by decide) he

/-! abs, max, min -/
def absD : RCD := fun ds S Q => match ds with
  | [.int i] => Q (.int (if i < 0 then -i else i)) S
  | _ => False
theorem cd_abs {K : PySem.W.Frag} : CallD K (fun xs H Q => ∃ i, xs = [.int i] ∧ Q (.int (if i < 0 then -i else i)) H) absD := fun ds vs S H Q Qd s r q k => by
  unfold absD at q
  split at q
  · obtain ⟨v, rfl, r1⟩ := reps1 r
    rw [show v = _ from r1]
    exact ⟨_, rfl, k _ S _ H (Grow.refl H) s rInt q⟩
  · exact q.elim
theorem boot_abs : bootBuiltins "abs" = some (.builtin "abs") := by decide +kernel
theorem boot_isinst : bootBuiltins "isinstance" = some (.builtin "isinstance") := by decide +kernel
theorem boot_all' : bootBuiltins "all" = some (.builtin "all") := by decide +kernel
theorem boot_any' : bootBuiltins "any" = some (.builtin "any") := by decide +kernel
theorem boot_sum' : bootBuiltins "sum" = some (.builtin "sum") := by decide +kernel
theorem boot_max' : bootBuiltins "max" = some (.builtin "max") := by decide +kernel
theorem boot_min' : bootBuiltins "min" = some (.builtin "min") := by decide +kernel
theorem boot_int' : bootBuiltins "int" = some (.type "int") := by decide +kernel
theorem boot_str' : bootBuiltins "str" = some (.type "str") := by decide +kernel
theorem boot_tuple' : bootBuiltins "tuple" = some (.type "tuple") := by decide +kernel
theorem boot_list' : bootBuiltins "list" = some (.type "list") := by decide +kernel
theorem boot_dict' : bootBuiltins "dict" = some (.type "dict") := by decide +kernel
theorem boot_bool' : bootBuiltins "bool" = some (.type "bool") := by decide +kernel
theorem qe_abs (hm : X.mg "abs" = none) (ha : QArgs X [e] qs) (hg : Gl X "abs" := by rfl) (he : starEach [e] X.env = (false, eval e X.env) :: starEach [] X.env := by rfl) : QE X (.Call (.Name "abs" p) [e] [] pos) (qCB absD qs) := qe_callB call_abs cd_abs hm boot_abs ha hg (by decide) (by decide) he
def max2D : RCD := fun ds S Q => match ds with
  | [.int i, .int j] => Q (.int (if j > i then j else i)) S
  | _ => False
def min2D : RCD := fun ds S Q => match ds with
  | [.int i, .int j] => Q (.int (if j < i then j else i)) S
  | _ => False
theorem cd_max {K : PySem.W.Frag} : CallD K (fun xs H Q => ∃ i j, xs = [.int i, .int j] ∧ Q (.int (if j > i then j else i)) H) max2D := fun ds vs S H Q Qd s r q k => by
  unfold max2D at q
  split at q
  · obtain ⟨v, u, rfl, r1, r2⟩ := reps2 r
    rw [show v = _ from r1, show u = _ from r2]
    exact ⟨_, _, rfl, k _ S _ H (Grow.refl H) s rInt q⟩
  · exact q.elim
theorem cd_min {K : PySem.W.Frag} : CallD K (fun xs H Q => ∃ i j, xs = [.int i, .int j] ∧ Q (.int (if j < i then j else i)) H) min2D := fun ds vs S H Q Qd s r q k => by
  unfold min2D at q
  split at q
  · obtain ⟨v, u, rfl, r1, r2⟩ := reps2 r
    rw [show v = _ from r1, show u = _ from r2]
    exact ⟨_, _, rfl, k _ S _ H (Grow.refl H) s rInt q⟩
  · exact q.elim
theorem qe_max {k : Nat} (h : Here X k) (hm : X.mg "max" = none) (ha : QArgs X [a, b] qs) (hg : Gl X "max" := by rfl) (he : starEach [a, b] X.env = (false, eval a X.env) :: starEach [b] X.env := by rfl) (hpl : (backTo pos (starEach [b] X.env)).any (·.1) = false := by rfl) : QE X (.Call (.Name "max" p) [a, b] [] pos) (qCB max2D qs) := qe_callB (call_max2 h.calm) cd_max hm boot_max' ha hg (by decide) (by decide) he hpl
theorem qe_min {k : Nat} (h : Here X k) (hm : X.mg "min" = none) (ha : QArgs X [a, b] qs) (hg : Gl X "min" := by rfl) (he : starEach [a, b] X.env = (false, eval a X.env) :: starEach [b] X.env := by rfl) (hpl : (backTo pos (starEach [b] X.env)).any (·.1) = false := by rfl) : QE X (.Call (.Name "min" p) [a, b] [] pos) (qCB min2D qs) := qe_callB (call_min2 h.calm) cd_min hm boot_min' ha hg (by decide) (by decide) he hpl

/-! all, any, sum of a list -/
def blsOf : List D → Option (List Bool)
  | [] => some []
  | .bl b :: ds => (blsOf ds).map (b :: ·)
  | _ => none
theorem blsOf_eq : ∀ {ds : List D} {bs : List Bool}, blsOf ds = some bs → ds = bs.map D.bl
  | [], bs, h => by cases h; rfl
  | .bl b :: ds, bs, h => by
    have h' : (blsOf ds).map (b :: ·) = some bs := h
    cases e : blsOf ds with
    | none => rw [e] at h'; cases h'
    | some cs => rw [e] at h'; cases h'; rw [blsOf_eq e]; rfl
  | .non :: _, _, h => by cases h
  | .int _ :: _, _, h => by cases h
  | .str _ :: _, _, h => by cases h
  | .tup _ :: _, _, h => by cases h
  | .kl _ :: _, _, h => by cases h
  | .ref _ :: _, _, h => by cases h
  | .ty _ :: _, _, h => by cases h
theorem blsOf_map (bs : List Bool) : blsOf (bs.map D.bl) = some bs := by
  induction bs with
  | nil => rfl
  | cons b bs ih => show (blsOf (bs.map D.bl)).map (b :: ·) = _; rw [ih]; rfl
def intsOf : List D → Option (List Int)
  | [] => some []
  | .int b :: ds => (intsOf ds).map (b :: ·)
  | _ => none
theorem intsOf_eq : ∀ {ds : List D} {bs : List Int}, intsOf ds = some bs → ds = bs.map D.int
  | [], bs, h => by cases h; rfl
  | .int b :: ds, bs, h => by
    have h' : (intsOf ds).map (b :: ·) = some bs := h
    cases e : intsOf ds with
    | none => rw [e] at h'; cases h'
    | some cs => rw [e] at h'; cases h'; rw [intsOf_eq e]; rfl
  | .non :: _, _, h => by cases h
  | .bl _ :: _, _, h => by cases h
  | .str _ :: _, _, h => by cases h
  | .tup _ :: _, _, h => by cases h
  | .kl _ :: _, _, h => by cases h
  | .ref _ :: _, _, h => by cases h
  | .ty _ :: _, _, h => by cases h
theorem intsOf_map (bs : List Int) : intsOf (bs.map D.int) = some bs := by
  induction bs with
  | nil => rfl
  | cons b bs ih => show (intsOf (bs.map D.int)).map (b :: ·) = _; rw [ih]; rfl
def strsOf : List D → Option (List Str)
  | [] => some []
  | .str b :: ds => (strsOf ds).map (b :: ·)
  | _ => none
theorem strsOf_eq : ∀ {ds : List D} {bs : List Str}, strsOf ds = some bs → ds = bs.map D.str
  | [], bs, h => by cases h; rfl
  | .str b :: ds, bs, h => by
    have h' : (strsOf ds).map (b :: ·) = some bs := h
    cases e : strsOf ds with
    | none => rw [e] at h'; cases h'
    | some cs => rw [e] at h'; cases h'; rw [strsOf_eq e]; rfl
  | .non :: _, _, h => by cases h
  | .bl _ :: _, _, h => by cases h
  | .int _ :: _, _, h => by cases h
  | .tup _ :: _, _, h => by cases h
  | .kl _ :: _, _, h => by cases h
  | .ref _ :: _, _, h => by cases h
  | .ty _ :: _, _, h => by cases h
theorem strsOf_map (bs : List Str) : strsOf (bs.map D.str) = some bs := by
  induction bs with
  | nil => rfl
  | cons b bs ih => show (strsOf (bs.map D.str)).map (b :: ·) = _; rw [ih]; rfl
/-- the items of a list -/
def itemsL (S : Sto) : D → Option (List D)
  | .kl ds => some ds
  | .ref a => items S (.ref a)
  | _ => none
theorem itemsL_rep {K : PySem.W.Frag} {S : Sto} {H : Hp} {d : D} {v : V} {ds : List D} (s : Sim K S H) (r : Rep K H d v) (h : itemsL S d = some ds) : ∃ p vs, v = .ref p ∧ SqL K H p vs ∧ Reps K H ds vs := by
  cases d with
  | kl es =>
    cases h
    obtain ⟨p, vs, rfl, h1, h2⟩ := r
    exact ⟨p, vs, rfl, h1.sq, h2⟩
  | ref p =>
    obtain ⟨vs, h1, h2⟩ := s _ _ (items_ref (show items S (.ref p) = some ds from h))
    exact ⟨p, vs, r, SqL.of h1, h2⟩
  | _ => cases h
theorem itemsL_lst {S : Sto} {p : Addr} {ds : List D} (h : S p = some (.lst ds)) : itemsL S (.ref p) = some ds := items_lst h
def allD (g : List Bool → Bool) : RCD := fun ds S Q => match ds with
  | [d] => (match (itemsL S d).bind blsOf with
    | some bs => Q (.bl (g bs)) S
    | none => False)
  | _ => False
theorem cd_all {K : PySem.W.Frag} {g : List Bool → Bool} : CallD K (fun vs H Q => ∃ (a : Addr) (bs : List Bool), vs = [V.ref a] ∧ SqL K H a (bs.map V.bl) ∧ Q (.bl (g bs)) H) (allD g) := fun ds vs S H Q Qd s r q k => by
  unfold allD at q
  split at q
  · split at q
    · rename_i bs hb
      obtain ⟨xs, h1, h2⟩ := Option.bind_eq_some_iff.mp hb
      obtain ⟨v, rfl, r1⟩ := reps1 r
      obtain ⟨p, ys, rfl, h3, h4⟩ := itemsL_rep s r1 h1
      rw [blsOf_eq h2] at h4
      rw [h4.bls] at h3
      exact ⟨p, bs, rfl, h3, k _ S _ H (Grow.refl H) s rBl q⟩
    · exact q.elim
  · exact q.elim
theorem qe_all {k : Nat} (h : Here X k) (hm : X.mg "all" = none) (ha : QArgs X [e] qs) (hg : Gl X "all" := by rfl) (he : starEach [e] X.env = (false, eval e X.env) :: starEach [] X.env := by rfl) : QE X (.Call (.Name "all" p) [e] [] pos) (qCB (allD fun bs => bs.all id) qs) := qe_callB (cr_all h.calm) cd_all hm boot_all' ha hg (by decide) (by decide) he
theorem qe_any {k : Nat} (h : Here X k) (hm : X.mg "any" = none) (ha : QArgs X [e] qs) (hg : Gl X "any" := by rfl) (he : starEach [e] X.env = (false, eval e X.env) :: starEach [] X.env := by rfl) : QE X (.Call (.Name "any" p) [e] [] pos) (qCB (allD fun bs => bs.any id) qs) := qe_callB (cr_any h.calm) cd_all hm boot_any' ha hg (by decide) (by decide) he
def sumD : RCD := fun ds S Q => match ds with
  | [d] => (match (itemsL S d).bind intsOf with
    | some bs => Q (.int bs.sum) S
    | none => False)
  | _ => False
theorem cd_sum {K : PySem.W.Frag} : CallD K (rSum K) sumD := fun ds vs S H Q Qd s r q k => by
  unfold sumD at q
  split at q
  · split at q
    · rename_i bs hb
      obtain ⟨xs, h1, h2⟩ := Option.bind_eq_some_iff.mp hb
      obtain ⟨v, rfl, r1⟩ := reps1 r
      obtain ⟨p, ys, rfl, h3, h4⟩ := itemsL_rep s r1 h1
      rw [intsOf_eq h2] at h4
      rw [h4.ints] at h3
      exact ⟨p, bs, rfl, h3, k _ S _ H (Grow.refl H) s rInt q⟩
    · exact q.elim
  · exact q.elim
theorem qe_sum {k : Nat} (h : Here X k) (hm : X.mg "sum" = none) (ha : QArgs X [e] qs) (hg : Gl X "sum" := by rfl) (he : starEach [e] X.env = (false, eval e X.env) :: starEach [] X.env := by rfl) : QE X (.Call (.Name "sum" p) [e] [] pos) (qCB sumD qs) := qe_callB (cr_sum h.calm) cd_sum hm boot_sum' ha hg (by decide) (by decide) he

/-! int, str, tuple, list -/
def intD : RCD := fun ds S Q => match ds with
  | [.int i] => Q (.int i) S
  | [.bl b] => Q (.int (if b then 1 else 0)) S
  | [.str z] => z.length ≤ 640 ∧ (match PySem.intText? z with
    | some n => Q (.int n) S
    | none => False)
  | _ => False
theorem cd_int {K : PySem.W.Frag} : CallD K (fun xs H Q => ((∃ i, xs = [.int i] ∧ Q (.int i) H) ∨ ∃ k, xs = [.bl k] ∧ Q (.int (if k then 1 else 0)) H) ∨ ∃ a n, xs = [.str a] ∧ PySem.intText? a = some n ∧ a.length ≤ 640 ∧ Q (.int n) H) intD := fun ds vs S H Q Qd s r q k => by
  unfold intD at q
  split at q
  · obtain ⟨v, rfl, r1⟩ := reps1 r
    rw [show v = _ from r1]
    exact .inl (.inl ⟨_, rfl, k _ S _ H (Grow.refl H) s rInt q⟩)
  · obtain ⟨v, rfl, r1⟩ := reps1 r
    rw [show v = _ from r1]
    exact .inl (.inr ⟨_, rfl, k _ S _ H (Grow.refl H) s rInt q⟩)
  · obtain ⟨q0, q⟩ := q
    split at q
    · obtain ⟨v, rfl, r1⟩ := reps1 r
      rw [show v = _ from r1]
      exact .inr ⟨_, _, rfl, by assumption, q0, k _ S _ H (Grow.refl H) s rInt q⟩
    · exact q.elim
  · exact q.elim
theorem qe_int' (hm : X.mg "int" = none) (ha : QArgs X [e] qs) (hg : Gl X "int" := by rfl) (he : starEach [e] X.env = (false, eval e X.env) :: starEach [] X.env := by rfl) : QE X (.Call (.Name "int" p) [e] [] pos) (qCB intD qs) := qe_callTy (call_int1.or call_int_str) cd_int hm boot_int' ha hg (by decide) (by decide) he
def strD : RCD := fun ds S Q => match ds with
  | [.int i] => i.natAbs.log2 < 1920 ∧ Q (.str (toString i)) S
  | _ => False
theorem cd_str {K : PySem.W.Frag} : CallD K (fun xs H Q => ∃ i, xs = [.int i] ∧ i.natAbs.log2 < 1920 ∧ Q (.str (toString i)) H) strD := fun ds vs S H Q Qd s r q k => by
  unfold strD at q
  split at q
  · obtain ⟨v, rfl, r1⟩ := reps1 r
    rw [show v = _ from r1]
    exact ⟨_, rfl, q.1, k _ S _ H (Grow.refl H) s rStr q.2⟩
  · exact q.elim
theorem qe_str' (hm : X.mg "str" = none) (ha : QArgs X [e] qs) (hg : Gl X "str" := by rfl) (he : starEach [e] X.env = (false, eval e X.env) :: starEach [] X.env := by rfl) : QE X (.Call (.Name "str" p) [e] [] pos) (qCB strD qs) := qe_callTy call_str_int cd_str hm boot_str' ha hg (by decide) (by decide) he
def tupleD : RCD := fun ds S Q => match ds with
  | [d] => (match items S d with
    | some xs => Q (.tup xs) S
    | none => False)
  | _ => False
theorem cd_tuple {K : PySem.W.Frag} : CallD K (fun xs H Q => ∃ p ys, xs = [.ref p] ∧ ((SqL K H p ys ∧ ∀ l, H l = none → Q (.ref l) (upd H l (.tup ys))) ∨ (SqT K H p ys ∧ Q (.ref p) H))) tupleD := fun ds vs S H Q Qd s r q k => by
  unfold tupleD at q
  split at q
  · split at q
    · rename_i xs hx
      obtain ⟨v, rfl, r1⟩ := reps1 r
      obtain ⟨p, ys, rfl, h1, h2⟩ := items_rep s r1 hx
      refine ⟨p, ys, rfl, ?_⟩
      rcases h1 with h1 | h1
      · exact .inl ⟨h1, fun l hl => k _ S _ _ (Grow.new hl) (s.new hl) (rTup (SqT.of upd_same) (Reps.mono (Grow.new hl) _ _ h2)) q⟩
      · exact .inr ⟨h1, k _ S _ H (Grow.refl H) s (rTup h1 h2) q⟩
    · exact q.elim
  · exact q.elim
theorem qe_tuple (hm : X.mg "tuple" = none) (ha : QArgs X [e] qs) (hg : Gl X "tuple" := by rfl) (he : starEach [e] X.env = (false, eval e X.env) :: starEach [] X.env := by rfl) : QE X (.Call (.Name "tuple" p) [e] [] pos) (qCB tupleD qs) := qe_callTy call_tuple_of cd_tuple hm boot_tuple' ha hg (by decide) (by decide) he
def listD : RCD := fun ds S Q => match ds with
  | [d] => (match items S d with
    | some xs => ∀ p, S p = none → Q (.ref p) (put S p (.lst xs))
    | none => False)
  | _ => False
theorem cd_list {K : PySem.W.Frag} : CallD K (fun xs H Q => ∃ p ys, xs = [.ref p] ∧ (SqL K H p ys ∨ SqT K H p ys) ∧ ∀ l, H l = none → Q (.ref l) (upd H l (.lst ys))) listD := fun ds vs S H Q Qd s r q k => by
  unfold listD at q
  split at q
  · split at q
    · rename_i xs hx
      obtain ⟨v, rfl, r1⟩ := reps1 r
      obtain ⟨p, ys, rfl, h1, h2⟩ := items_rep s r1 hx
      exact ⟨p, ys, rfl, h1, fun l hl => k _ _ _ _ (Grow.new hl) (sim_lst s hl h2) rRef (q l (s.free hl))⟩
    · exact q.elim
  · exact q.elim
theorem qe_list (hm : X.mg "list" = none) (ha : QArgs X [e] qs) (hg : Gl X "list" := by rfl) (he : starEach [e] X.env = (false, eval e X.env) :: starEach [] X.env := by rfl) : QE X (.Call (.Name "list" p) [e] [] pos) (qCB listD qs) := qe_callTy call_list_of cd_list hm boot_list' ha hg (by decide) (by decide) he

/-! isinstance of a built-in type: str, int, bool, tuple, list, dict -/
def kindD (S : Sto) : D → Option String
  | .non => some "NoneType"
  | .bl _ => some "bool"
  | .int _ => some "int"
  | .str _ => some "str"
  | .tup _ => some "tuple"
  | .kl _ => some "list"
  | .ref a => match S a with
    | some (.lst _) => some "list"
    | some (.dS _) => some "dict"
    | _ => none
  | .ty _ => none
def isiD : RCD := fun ds S Q => match ds with
  | [d, .ty T] => (match (kindD S d).bind fun k => kitB k T with
    | some b => Q (.bl b) S
    | none => False)
  | _ => False
theorem kindD_ty {K : PySem.W.Frag} {S : Sto} {H : Hp} {d : D} {v : V} {k : String} (s : Sim K S H) (r : Rep K H d v) (h : kindD S d = some k) : TyX K H v (.type k) := by
  cases d with
  | non => cases h; rw [show v = _ from r]; exact .base .non
  | bl b => cases h; rw [show v = _ from r]; exact .base (.bl b)
  | int i => cases h; rw [show v = _ from r]; exact .base (.int i)
  | str z => cases h; rw [show v = _ from r]; exact .base (.str z)
  | tup ds =>
    cases h
    obtain ⟨a, vs, rfl, h1, _⟩ := r
    rcases h1 with (h1 | ⟨o, h1⟩) | ⟨o, its, n, h1, h2, _⟩
    · exact .base (.tup h1)
    · exact .fTuple h1
    · exact .kTuple h1 h2
  | kl ds =>
    cases h
    obtain ⟨a, vs, rfl, h1, _⟩ := r
    rcases h1 with ⟨o, h1⟩ | ⟨o, its, n, h1, h2, _⟩
    · exact .base (.frz h1)
    · exact .kList h1 h2
  | ref a =>
    rw [show v = _ from r]
    have h' : (match S a with
      | some (.lst _) => some "list"
      | some (.dS _) => some "dict"
      | _ => none) = some k := h
    cases ea : S a with
    | none => rw [ea] at h'; cases h'
    | some o =>
      rw [ea] at h'
      cases o with
      | lst ds =>
        cases h'
        obtain ⟨vs, h1, _⟩ := s _ _ ea
        exact .base (.lst h1)
      | dS ds =>
        cases h'
        obtain ⟨vs, h1, _⟩ := s _ _ ea
        exact .base (.dK h1)
      | ins _ _ => cases h'
      | xd _ => cases h'
  | ty n => cases h
theorem cd_isi {K : PySem.W.Frag} : CallD K (rIsi K) isiD := fun ds vs S H Q Qd s r q k => by
  unfold isiD at q
  split at q
  · rename_i d T
    split at q
    · rename_i b hb
      obtain ⟨kk, h1, h2⟩ := Option.bind_eq_some_iff.mp hb
      obtain ⟨v, u, rfl, r1, r2⟩ := reps2 r
      refine ⟨v, u, .type kk, .type T, b, rfl, ?_, kindD_ty s r1 h1, kit_ty h2, k _ S _ H (Grow.refl H) s rBl q⟩
      rw [show u = _ from r2]
      exact .ty T
    · exact q.elim
  · exact q.elim
end Q

set_option maxHeartbeats 1000000
/-! Q: a, *b = t. -/
namespace Q
open PySem PySem.Spec L2 PyProof.Rows
section
variable {prog : Program} {w : World} {A : Around} {E : Value → Shared → Prop} {s : Shared}
theorem star1 {l : Addr} {items : Array Value} {Q : List Value → Shared → Prop} (hh : A.handled = none) (hl : IsTup s.heap l items) (h1 : 1 ≤ items.size) (hz : items.size ≤ 16384)
    (h : ∀ (h' : Heap) (tk : Nat), (∀ b o, s.heap.get? b = some o → h'.get? b = some o) → Q (items.toList.take 1 ++ [.ref h'.objs.size]) { s with heap := h'.push { cls := .type "list", data := .seq (items.toList.drop 1).toArray }, toks := tk }) :
    wpAny (model prog w) A (unpackItems (.ref l) 2 (some 1)) Q E s := by
  have hlt : l ≠ s.heap.objs.size := by obtain ⟨o, ho, _⟩ := hl; exact Nat.ne_of_lt (Heap.lt_size ho)
  have hll : l < s.heap.objs.size := by obtain ⟨o, ho, _⟩ := hl; exact Heap.lt_size ho
  unfold unpackItems notIterableAtAll
  refine wpAny_bind (wpAny_bind (wpAny_specialOf hl.typeIs slot_tuple_iter.lookup (wpAny_pure ?_)))
  simp only [Bool.false_eq_true, if_false]
  refine wpAny_bind (wpAny_holding (iter_tuple hl ?_))
  refine wpAny_bind (wpAny_holding (draw_tuple hlt 1 0 _ _ ⟨_, Heap.get?_push_size _ rfl, rfl, rfl⟩ (hl.push _) (by omega) fun h₁ hit₁ hs₁ => ?_))
  have hl₁ : IsTup h₁ l items := (hl.push _).extBut hs₁.extBut hlt
  rw [Nat.zero_add] at hit₁
  obtain ⟨oi, hoi, _⟩ := id hit₁
  obtain ⟨ol, hol, _⟩ := id hl₁
  rw [List.drop_zero]
  have hfl : (items.toList.take 1).length = 1 := by rw [List.length_take, Array.length_toList]; omega
  rw [if_neg (show ¬ ((items.toList.take 1).length < 1) by rw [hfl]; omega)]
  refine wpAny_bind (wpAny_holding (PySem.W.kun_collect (s := { s with heap := h₁ }) (T := "tuple_iterator") (.inr (.inr (.inr rfl))) (Walks.tuple (A := A.in1) hh s.heap.objs.size l hlt items) (fun j u st => st.1.typeIs) (k := 1) (by omega) ⟨hit₁, hl₁⟩ (Heap.lt_size hoi) (Heap.lt_size hol) (fun h₂ tk hk => ?_) (by rw [sizeLine_eq]; omega)))
  have hrl : (items.toList.drop 1).length = items.size - 1 := by rw [List.length_drop, Array.length_toList]
  show wpAny _ _ (if (items.toList.drop 1).length < 2 - 1 - 1 then _ else _) _ _ _
  rw [if_neg (by omega)]
  show wpAny _ _ (newList ((items.toList.drop 1).take ((items.toList.drop 1).length - (2 - 1 - 1))) >>= fun d => pure (items.toList.take 1 ++ [d] ++ (items.toList.drop 1).drop ((items.toList.drop 1).length - (2 - 1 - 1)))) _ _ _
  have e0 : (items.toList.drop 1).length - (2 - 1 - 1) = (items.toList.drop 1).length := by omega
  rw [e0, List.take_length, List.drop_length]
  simp only [List.append_nil]
  have keep : ∀ b o, s.heap.get? b = some o → h₂.get? b = some o := fun b o e => by
    have hb : b ≠ s.heap.objs.size := Nat.ne_of_lt (Heap.lt_size e)
    exact hk b o hb (hs₁.extBut b o hb (Heap.get?_push_of_some _ e))
  refine wpAny_bind (wpAny_newObj_type (wpAny_pure (h h₂ tk keep)) ?_)
  show (items.toList.drop 1).length ≤ sizeLine
  rw [hrl, sizeLine_eq]
  omega
end
variable {X : Cx} {e e1 e2 : Expr} {pos : Pos}
/-- a, *b = t: the places i and j -/
def qStar (i j : Nat) (q : QT) : QS := fun W D ρ S => q W ρ S fun d S1 => match d with
  | .tup (x :: xs) => xs.length ≤ 16000 ∧ ∀ p, S1 p = none → D.nx ((ρ.set i (some x)).set j (some (.ref p))) (put S1 p (.lst xs))
  | _ => False
theorem qs_star (i j : Nat) {x y : Str} {p1 p2 p3 tp : Pos} {k : Nat} {q : QT} (hc : X.calm = true) (hN : X.N.Nodup) (he : QE X e q) (hi : X.N[i]? = some x := by rfl) (hj : X.N[j]? = some y := by rfl) (hx : Loc X.env.scope x := by first | exact Or.inl rfl | exact Or.inr rfl) (hy : Loc X.env.scope y := by first | exact Or.inl rfl | exact Or.inr rfl)
    (hfx : X.fn x = true ∨ X.env.scope.names.lookup x = some .local := by first | exact .inl rfl | exact .inr rfl) (hfy : X.fn y = true ∨ X.env.scope.names.lookup y = some .local := by first | exact .inl rfl | exact .inr rfl)
    (hs : swapsWithSole [.Tuple [.Name x p1, .Starred (.Name y p2) p3] k tp] e pos.line X.env = pure false := by rfl) (hw : swappedStores [.Tuple [.Name x p1, .Starred (.Name y p2) p3] k tp] e X.env = pure none := by rfl) :
    QSt X (.Assign [.Tuple [.Name x p1, .Starred (.Name y p2) p3] k tp] e pos) (qStar i j q) := by
  have hg : PG X (.Tuple [.Name x p1, .Starred (.Name y p2) p3] k tp) (fun v σ H Q => ∃ a z xs, v = .ref a ∧ SqT X.K H a (z :: xs) ∧ xs.length ≤ 16000 ∧ ∀ p, H p = none → Q ((σ.set i (some z)).set j (some (.ref p))) (upd H p (.lst xs))) := by
    refine ⟨fun pins s σ H v u Q I r ⟨a, z, xs, e, ht, hl, q⟩ => ?_⟩
    subst e
    cases r
    obtain ⟨its, rv, ht, hz⟩ := I.tuple ht
    cases rv with
    | @cons _ u0 _ us r0 rr =>
      rw [assign_Tuple]
      refine wpAny_bind (wpAny_standAt ?_)
      unfold unpack
      refine wpAny_bind (wpAny_holding (star1 (I.ok.hd hc) ht (by simp) (by have := rr.length; simp; omega) fun h' tk kp => ?_))
      have I1 : Inv X pins σ H { s with heap := h', toks := tk } := I.kept kp
      have hn := I1.hok.fresh (Nat.le_refl _)
      have I2 : Inv X pins σ (upd H h'.objs.size (.lst xs)) { s with heap := h'.push { cls := .type "list", data := .seq us.toArray }, toks := tk } :=
        I1.laid (t' := tk) (fun b o e => Heap.get?_push_of_some _ e) (Nat.le_refl _) ⟨by rw [sizeLine_eq]; omega, us, 0, rr, Heap.get?_push_size _ rfl⟩
      show wpAny _ _ (assignInOrder [assign (.Name x p1) X.env, assign (.Name y p2) X.env] [u0, .ref h'.objs.size]) _ _ _
      refine assignInOrder_cons (wpAny_assign_Name (store_ok I2 hN hi hx r0 (fun s2 I3 => ?_) hfx))
      exact assignInOrder_cons (wpAny_assign_Name (store_ok I3 hN hj hy (show RelV (.ref h'.objs.size) _ from rfl) (fun s3 I4 => assignInOrder_nil ⟨_, _, I4, q _ hn⟩) hfy))
  exact ⟨fun W tk => PS.imp (ps_asg (he.pe W tk) hg hs hw rfl) fun D σ H ⟨ρ, S, Dd, s, en, q, kn, kr, kb, kc⟩ => ⟨ρ, S, _, s, en, q, fun d S1 v H1 g1 s1 r1 q1 => by
    match d, q1 with
    | .tup (x :: xs), ⟨q2, q1⟩ =>
      obtain ⟨a, vs, rfl, h1, u, us, rfl, r2, r3⟩ := r1
      refine ⟨a, u, us, rfl, h1, by rw [r3.len]; exact q2, fun p hp => ?_⟩
      have gn := Grow.new (o := .lst us) hp
      exact kn _ _ _ _ (g1.trans gn) (sim_lst s1 hp r3) ((((en.mono g1).mono gn).set (Rep.mono gn _ _ r2)).set rRef) (q1 p (s1.free hp))⟩⟩
end Q

set_option maxHeartbeats 1000000
/-! Q: rules, seventh part: methods of built-in types, isinstance, new dicts, local defs, try .. finally. -/
namespace Q
open PySem PySem.Spec L2
variable {X : Cx} {a b c e o tg iter elt : Expr} {es ifs : List Expr} {qa qb qc qo qe : QT} {qs : QA} {pos p apos cpos : Pos} {x m f : Str}

/-! ### methods of built-in types -/
abbrev RMD := D → List D → Sto → QK → Prop
def MethD (K : PySem.W.Frag) (r : V → List V → Hp → VK → Prop) (rD : RMD) : Prop := ∀ (d : D) (ds : List D) (x : V) (vs : List V) (S : Sto) (H : Hp) (Q : VK) (Qd : QK), Sim K S H → Rep K H d x → Reps K H ds vs → rD d ds S Qd →
  (∀ d' S' v H', Grow H H' → Sim K S' H' → Rep K H' d' v → Qd d' S' → Q v H') → r x vs H Q
def tyD (T : String) (S : Sto) (d : D) : Prop := match d with
  | .str _ => T = "str"
  | .int _ => T = "int"
  | .kl _ => T = "list"
  | .ref a => (match S a with
    | some (.lst _) => T = "list"
    | some (.dS _) => T = "dict"
    | _ => False)
  | _ => False
theorem tyD_V {K : PySem.W.Frag} {S : Sto} {H : Hp} {T : String} {d : D} {v : V} (s : Sim K S H) (r : Rep K H d v) (h : tyD T S d) : tyV K T v H := by
  cases d with
  | str z => rw [show v = _ from r]; exact h
  | int z => rw [show v = _ from r]; exact h
  | kl ds =>
    obtain ⟨a, vs, rfl, h1, _⟩ := r
    exact .inl ⟨h, vs, h1.sq⟩
  | ref a =>
    rw [show v = _ from r]
    have h' : (match S a with
      | some (.lst _) => T = "list"
      | some (.dS _) => T = "dict"
      | _ => False) := h
    cases ea : S a with
    | none => rw [ea] at h'; exact h'.elim
    | some o =>
      rw [ea] at h'
      cases o with
      | lst ds =>
        obtain ⟨vs, h1, _⟩ := s _ _ ea
        exact .inl ⟨h', vs, SqL.of h1⟩
      | dS ds =>
        obtain ⟨vs, h1, _⟩ := s _ _ ea
        exact .inr (.inr (.inl ⟨h', .inl ⟨vs, h1⟩⟩))
      | _ => exact h'.elim
  | _ => exact h.elim
def qBM0 (T : String) (rD : RMD) (qo : QT) : QT := fun W ρ S Q => qo W ρ S fun d S1 => tyD T S1 d ∧ rD d [] S1 Q
def qBM (T : String) (rD : RMD) (qo : QT) (qs : QA) : QT := fun W ρ S Q => qo W ρ S fun d S1 => tyD T S1 d ∧ qs W ρ S1 fun ds S2 => rD d ds S2 Q
theorem qe_bm0 {T id : String} {r : V → List V → Hp → VK → Prop} {rD : RMD} (pa : PlainAttrs T) (slot : Slot T m id) (hty : typeOf (.builtin id) = pure (.type "method_descriptor")) (hm : MtR X id r) (hd : MethD X.K r rD) (ho : QE X o qo)
    (hbase : attributeBase o m X.env (eval o X.env) = eval o X.env := by rfl) (hline : (apos.endLine == cpos.line) = true := by rfl) : QE X (.Call (.Attribute o m apos) [] [] cpos) (qBM0 T rD qo) :=
  ⟨fun W tk => PE.imp (pe_bm0 pa slot hty hm (ho.pe W tk) hbase hline) fun σ H Q ⟨ρ, S, Qd, s, en, q, k⟩ =>
    ⟨ρ, S, _, s, en, q, fun d S1 v H1 g1 s1 r1 ⟨ty, q1⟩ => ⟨tyD_V s1 r1 ty, hd d [] v [] S1 H1 Q Qd s1 r1 rfl q1 fun d' S' v' H' g => k d' S' v' H' (g1.trans g)⟩⟩⟩
theorem qe_bm {T id : String} {r : V → List V → Hp → VK → Prop} {rD : RMD} (pa : PlainAttrs T) (slot : Slot T m id) (hty : typeOf (.builtin id) = pure (.type "method_descriptor")) (hm : MtR X id r) (hd : MethD X.K r rD) (ho : QE X o qo) (ha : QArgs X (e :: es) qs)
    (hbase : attributeBase o m X.env (eval o X.env) = eval o X.env := by rfl)
    (hfew : ((backTo cpos (starEach (e :: es) X.env)).all (fun x => !x.1) && (backToKw cpos (keywordEach [] X.env)).all (fun x => x.1.isSome)
      && decide ((e :: es).length + ([] : List Keyword).length + (if ([] : List Keyword).isEmpty then 0 else 1) < 30)) = true := by rfl)
    (hline : (apos.endLine == cpos.line) = true := by rfl) (hs : starEach (e :: es) X.env = (false, eval e X.env) :: starEach es X.env := by rfl) (hplain : (backTo cpos (starEach es X.env)).any (·.1) = false := by rfl) :
    QE X (.Call (.Attribute o m apos) (e :: es) [] cpos) (qBM T rD qo qs) :=
  ⟨fun W tk => PE.imp (pe_bm pa slot hty hm (ho.pe W tk) (ha.pa W tk) hbase hfew hline hs hplain) fun σ H Q ⟨ρ, S, Qd, s, en, q, k⟩ =>
    ⟨ρ, S, _, s, en, q, fun d S1 v H1 g1 s1 r1 ⟨ty, q1⟩ => ⟨tyD_V s1 r1 ty, ρ, S1, _, s1, en.mono g1, q1, fun ds S2 vs H2 g2 s2 r2 q2 => hd d ds v vs S2 H2 Q Qd s2 (Rep.mono g2 _ _ r1) r2 q2 fun d' S' v' H' g => k d' S' v' H' (g1.trans (g2.trans g))⟩⟩⟩

/-! lists -/
def lstAt (o : Option MO) (k : List D → Prop) : Prop := match o with
  | some (.lst ds) => k ds
  | _ => False
def lstOf (S : Sto) (d : D) (k : Addr → List D → Prop) : Prop := match d with
  | .ref a => lstAt (S a) (k a)
  | _ => False
theorem lstOf_at {S : Sto} {a : Addr} {ds : List D} {k : Addr → List D → Prop} (h : S a = some (.lst ds)) (q : k a ds) : lstOf S (.ref a) k := by
  show lstAt (S a) (k a)
  rw [h]
  exact q
theorem lstOf_of {S : Sto} {d : D} {k : Addr → List D → Prop} (h : lstOf S d k) : ∃ a ds, d = .ref a ∧ S a = some (.lst ds) ∧ k a ds := by
  cases d with
  | ref a =>
    have h' : lstAt (S a) (k a) := h
    cases e : S a with
    | none => rw [e] at h'; exact h'.elim
    | some o =>
      rw [e] at h'
      cases o with
      | lst ds => exact ⟨a, ds, rfl, e, h'⟩
      | _ => exact h'.elim
  | _ => exact h.elim
theorem sim_lset {K : PySem.W.Frag} {S : Sto} {H : Hp} {p : Addr} {ds : List D} {vs us : List V} (s : Sim K S H) (h : H p = some (.lst us)) (r : Reps K H ds vs) : Grow H (upd H p (.lst vs)) ∧ Sim K (put S p (.lst ds)) (upd H p (.lst vs)) := by
  have gw : Grow H (upd H p (.lst vs)) := Grow.wr h (fun _ z => by cases z) (fun _ _ z => by cases z)
  exact ⟨gw, s.put (mo := .lst ds) gw ⟨vs, upd_same, Reps.mono gw _ _ r⟩⟩
def appendD : RMD := fun d ds S Q => match ds with
  | [y] => lstOf S d fun a xs => xs.length < sizeLine ∧ Q .non (put S a (.lst (xs ++ [y])))
  | _ => False
theorem md_append {K : PySem.W.Frag} : MethD K rAppend appendD := fun d ds x vs S H Q Qd s rd rs q k => by
  unfold appendD at q
  split at q
  · obtain ⟨a, xs, rfl, ea, hl, q⟩ := lstOf_of q
    obtain ⟨y, rfl, ry⟩ := reps1 rs
    obtain ⟨us, h1, h2⟩ := s _ _ ea
    obtain ⟨gw, s'⟩ := sim_lset s h1 (h2.append (.cons ry .nil))
    exact ⟨a, us, y, rd, rfl, h1, by rw [h2.len]; exact hl, k _ _ _ _ gw s' rNon q⟩
  · exact q.elim
theorem qe_append (ho : QE X o qo) (ha : QArgs X [e] qs) (hbase : attributeBase o "append" X.env (eval o X.env) = eval o X.env := by rfl) (hline : (apos.endLine == cpos.line) = true := by rfl) (hs : starEach [e] X.env = (false, eval e X.env) :: starEach [] X.env := by rfl) :
    QE X (.Call (.Attribute o "append" apos) [e] [] cpos) (qBM "list" appendD qo qs) := qe_bm F.plainAttrs_list F.slot_list_append F.type_list_append mt_append md_append ho ha hbase (by rw [hs]; rfl) hline hs rfl
def extendD : RMD := fun d ds S Q => match ds with
  | [y] => lstOf S d fun a xs => lstOf S y fun _ ys => xs.length + ys.length ≤ sizeLine ∧ Q .non (put S a (.lst (xs ++ ys)))
  | _ => False
theorem md_extend {K : PySem.W.Frag} : MethD K rExtend extendD := fun d ds x vs S H Q Qd s rd rs q k => by
  unfold extendD at q
  split at q
  · obtain ⟨a, xs, rfl, ea, q⟩ := lstOf_of q
    obtain ⟨b, ys, rfl, eb, hl, q⟩ := lstOf_of q
    obtain ⟨y, rfl, ry⟩ := reps1 rs
    obtain ⟨us, h1, h2⟩ := s _ _ ea
    obtain ⟨ws, h3, h4⟩ := s _ _ eb
    obtain ⟨gw, s'⟩ := sim_lset s h1 (h2.append h4)
    rw [show y = _ from ry]
    exact ⟨a, b, us, ws, rd, rfl, h1, h3, by rw [h2.len, h4.len]; exact hl, k _ _ _ _ gw s' rNon q⟩
  · exact q.elim
theorem qe_extend (ho : QE X o qo) (ha : QArgs X [e] qs) (hbase : attributeBase o "extend" X.env (eval o X.env) = eval o X.env := by rfl) (hline : (apos.endLine == cpos.line) = true := by rfl) (hs : starEach [e] X.env = (false, eval e X.env) :: starEach [] X.env := by rfl) :
    QE X (.Call (.Attribute o "extend" apos) [e] [] cpos) (qBM "list" extendD qo qs) := qe_bm F.plainAttrs_list F.slot_list_extend F.type_list_extend mt_extend md_extend ho ha hbase (by rw [hs]; rfl) hline hs rfl
def popD : RMD := fun d ds S Q => match ds with
  | [] => lstOf S d fun a xs => (match xs[xs.length - 1]? with
    | some y => Q y (put S a (.lst xs.dropLast))
    | none => False)
  | _ => False
theorem reps_dropLast {K : PySem.W.Frag} {H : Hp} {ds : List D} {vs : List V} (r : Reps K H ds vs) : Reps K H ds.dropLast vs.dropLast := by
  rw [List.dropLast_eq_take, List.dropLast_eq_take, r.len]
  exact r.take _
theorem md_pop {K : PySem.W.Frag} : MethD K rPop popD := fun d ds x vs S H Q Qd s rd rs q k => by
  unfold popD at q
  split at q
  · obtain ⟨a, xs, rfl, ea, q⟩ := lstOf_of q
    split at q
    · rename_i y hy
      obtain ⟨us, h1, h2⟩ := s _ _ ea
      obtain ⟨v, h3, h4⟩ := h2.get hy
      rw [← h2.len] at h3
      obtain ⟨gw, s'⟩ := sim_lset s h1 (reps_dropLast h2)
      exact ⟨a, us, v, rd, (show vs = [] from rs), h1, h3, k _ _ _ _ gw s' (Rep.mono gw _ _ h4) q⟩
    · exact q.elim
  · exact q.elim
theorem qe_pop (ho : QE X o qo) (hbase : attributeBase o "pop" X.env (eval o X.env) = eval o X.env := by rfl) (hline : (apos.endLine == cpos.line) = true := by rfl) :
    QE X (.Call (.Attribute o "pop" apos) [] [] cpos) (qBM0 "list" popD qo) := qe_bm0 F.plainAttrs_list F.slot_list_pop F.type_list_pop mt_pop md_pop ho hbase hline

/-! texts -/
def joinD : RMD := fun d ds S Q => match d, ds with
  | .str z, [y] => (match (items S y).bind strsOf with
    | some ys => (ys.map (·.length)).sum + ys.length * z.length ≤ 16777216 ∧ Q (.str (Txt.join z ys)) S
    | none => False)
  | _, _ => False
theorem md_join {K : PySem.W.Frag} : MethD K (fun x xs H Q => ∃ a p, ∃ ys : List Str, x = .str a ∧ xs = [.ref p] ∧ (SqL K H p (ys.map V.str) ∨ SqT K H p (ys.map V.str)) ∧
    (ys.map (·.length)).sum + ys.length * a.length ≤ 16777216 ∧ Q (.str (Txt.join a ys)) H) joinD := fun d ds x vs S H Q Qd s rd rs q k => by
  unfold joinD at q
  split at q
  · split at q
    · rename_i ys hy
      obtain ⟨xs, h1, h2⟩ := Option.bind_eq_some_iff.mp hy
      obtain ⟨v, rfl, r1⟩ := reps1 rs
      obtain ⟨p, us, rfl, h3, h4⟩ := items_rep s r1 h1
      rw [strsOf_eq h2] at h4
      rw [h4.strs] at h3
      exact ⟨_, p, ys, rd, rfl, h3, q.1, k _ S _ H (Grow.refl H) s rStr q.2⟩
    · exact q.elim
  · exact q.elim
theorem qe_join (ho : QE X o qo) (ha : QArgs X [e] qs) (hbase : attributeBase o "join" X.env (eval o X.env) = eval o X.env := by rfl) (hline : (apos.endLine == cpos.line) = true := by rfl) (hs : starEach [e] X.env = (false, eval e X.env) :: starEach [] X.env := by rfl) :
    QE X (.Call (.Attribute o "join" apos) [e] [] cpos) (qBM "str" joinD qo qs) := qe_bm F.plainAttrs_str F.slot_str_join F.type_str_join mt_join md_join ho ha hbase (by rw [hs]; rfl) hline hs rfl
def splitD : RMD := fun d ds S Q => match d, ds with
  | .str z, [.str y] => (y.length == 0) = false ∧ z.length + 2 ≤ sizeLine ∧ ∀ p, S p = none → Q (.ref p) (put S p (.lst ((Txt.split z y).map D.str)))
  | _, _ => False
theorem md_split {K : PySem.W.Frag} : MethD K (fun x xs H Q => ∃ a b, x = .str a ∧ xs = [.str b] ∧ (b.length == 0) = false ∧ a.length + 2 ≤ sizeLine ∧ rNewStrs (Txt.split a b) H Q) splitD := fun d ds x vs S H Q Qd s rd rs q k => by
  unfold splitD at q
  split at q
  · obtain ⟨v, rfl, r1⟩ := reps1 rs
    rw [show v = _ from r1]
    exact ⟨_, _, rd, rfl, q.1, q.2.1, fun p hp => k _ _ _ _ (Grow.new hp) (sim_lst s hp (Reps.ofStrs _)) rRef (q.2.2 p (s.free hp))⟩
  · exact q.elim
theorem qe_split (ho : QE X o qo) (ha : QArgs X [e] qs) (hbase : attributeBase o "split" X.env (eval o X.env) = eval o X.env := by rfl) (hline : (apos.endLine == cpos.line) = true := by rfl) (hs : starEach [e] X.env = (false, eval e X.env) :: starEach [] X.env := by rfl) :
    QE X (.Call (.Attribute o "split" apos) [e] [] cpos) (qBM "str" splitD qo qs) := qe_bm F.plainAttrs_str F.slot_str_split F.type_str_split mt_split md_split ho ha hbase (by rw [hs]; rfl) hline hs rfl
def countD : RMD := fun d ds S Q => match d, ds with
  | .str z, [.str y] => Q (.int (Txt.count z y)) S
  | _, _ => False
theorem md_count {K : PySem.W.Frag} : MethD K (fun x xs H Q => ∃ a b, x = .str a ∧ xs = [.str b] ∧ Q (.int (Txt.count a b)) H) countD := fun d ds x vs S H Q Qd s rd rs q k => by
  unfold countD at q
  split at q
  · obtain ⟨v, rfl, r1⟩ := reps1 rs
    rw [show v = _ from r1]
    exact ⟨_, _, rd, rfl, k _ S _ H (Grow.refl H) s rInt q⟩
  · exact q.elim
theorem qe_count (ho : QE X o qo) (ha : QArgs X [e] qs) (hbase : attributeBase o "count" X.env (eval o X.env) = eval o X.env := by rfl) (hline : (apos.endLine == cpos.line) = true := by rfl) (hs : starEach [e] X.env = (false, eval e X.env) :: starEach [] X.env := by rfl) :
    QE X (.Call (.Attribute o "count" apos) [e] [] cpos) (qBM "str" countD qo qs) := qe_bm F.plainAttrs_str F.slot_str_count F.type_str_count mt_count md_count ho ha hbase (by rw [hs]; rfl) hline hs rfl

/-! ### isinstance -/
def isK (k T : String) : Bool := k == T || (k == "bool" && T == "int")
def kinds : List String := "NoneType" :: "bool" :: "int" :: "str" :: "tuple" :: "list" :: "dict" :: []
def tyNames : List String := "bool" :: "int" :: "str" :: "tuple" :: "list" :: "dict" :: []
theorem kit_all : ∀ k ∈ kinds, ∀ T ∈ tyNames, kitB k T = some (isK k T) := by decide +kernel
theorem kindD_mem {S : Sto} {d : D} {k : String} (h : kindD S d = some k) : k ∈ kinds := by
  cases d with
  | ref a =>
    have h' : (match S a with
      | some (.lst _) => some "list"
      | some (.dS _) => some "dict"
      | _ => none) = some k := h
    cases ea : S a with
    | none => rw [ea] at h'; cases h'
    | some o =>
      rw [ea] at h'
      cases o with
      | lst ds => cases h'; decide
      | dS ds => cases h'; decide
      | _ => cases h'
  | ty n => cases h
  | _ => cases h; decide
def isiT (T : String) : RCD := fun ds S Q => match ds with
  | [d, _] => (match kindD S d with
    | some k => Q (.bl (isK k T)) S
    | none => False)
  | _ => False
theorem cd_isiT {K : PySem.W.Frag} {T : String} (hT : T ∈ tyNames) : CallD K (rIsi K) (fun ds S Q => isiT T ds S Q ∧ ∃ d, ds = [d, .ty T]) := fun ds vs S H Q Qd s r q k => by
  obtain ⟨q, d, rfl⟩ := q
  refine cd_isi [d, .ty T] vs S H Q Qd s r ?_ k
  have q' : (match kindD S d with
    | some k => Qd (.bl (isK k T)) S
    | none => False) := q
  show (match (kindD S d).bind fun k => kitB k T with
    | some b => Qd (.bl b) S
    | none => False)
  cases hk : kindD S d with
  | none => rw [hk] at q'; exact q'.elim
  | some kk =>
    rw [hk] at q'
    show (match kitB kk T with
      | some b => Qd (.bl b) S
      | none => False)
    rw [kit_all kk (kindD_mem hk) T hT]
    exact q'
theorem qe_tyname {T : String} (hm : X.mg x = none) (hv : bootBuiltins x = some (.type T)) (hg : Gl X x := by rfl) (hn : x ≠ "__name__" := by decide) (hd : (x == ("__debug__" : Str)) = false := by decide) : QE X (.Name x pos) (qC (.ty T)) :=
  qe_c (pe_bltn hg hm hv (v := .ty T) rfl hn hd) fun _ => rfl
def qIsi (T : String) (qa : QT) : QT := fun W ρ S Q => qa W ρ S fun d S1 => match kindD S1 d with
  | some k => Q (.bl (isK k T)) S1
  | none => False
/-- isinstance(e, T) -/
theorem qe_isi {T : String} {pt : Pos} {tn : Str} (hm : X.mg "isinstance" = none) (hmt : X.mg tn = none) (ha : QE X a qa) (hT : T ∈ tyNames := by decide) (hv : bootBuiltins tn = some (.type T) := by decide +kernel) (hg : Gl X "isinstance" := by rfl) (hgt : Gl X tn := by rfl) (hn : tn ≠ "__name__" := by decide) (hd : (tn == ("__debug__" : Str)) = false := by decide)
    (hs : starEach [a, .Name tn pt] X.env = (false, eval a X.env) :: starEach [.Name tn pt] X.env := by rfl) (hs2 : starEach [.Name tn pt] X.env = (false, eval (.Name tn pt) X.env) :: starEach [] X.env := by rfl) (hpl : (backTo pos (starEach [.Name tn pt] X.env)).any (·.1) = false := by rfl) :
    QE X (.Call (.Name "isinstance" p) [a, .Name tn pt] [] pos) (qIsi T qa) :=
  ⟨fun W tk => PE.imp ((qe_callB call_isi (cd_isiT hT) hm boot_isinst (qa_cons ha (qa_cons (qe_tyname hmt hv hgt hn hd) qa_nil hs2) hs) hg (by decide) (by decide) hs hpl).pe W tk) fun σ H Q ⟨ρ, S, Qd, s, en, q, k⟩ =>
    ⟨ρ, S, Qd, s, en, (show qCB _ _ W ρ S Qd from (show qa W ρ S fun d S1 => _ from by
      refine cast (congrArg (qa W ρ S) ?_) q
      funext d S1
      refine propext ⟨fun h => ⟨h, d, rfl⟩, fun h => h.1⟩)), k⟩⟩

/-! ### {} -/
def qDict0 : QT := fun _ _ S Q => ∀ p, S p = none → Q (.ref p) (put S p (.dS []))
theorem qe_dict0 : QE X (.Dict [] [] pos) qDict0 := ⟨fun W tk => PE.imp pe_dnewK fun σ H Q ⟨ρ, S, Qd, s, en, q, k⟩ => fun p hp =>
  k _ _ _ _ (Grow.new hp) (s.put (mo := .dS []) (Grow.new hp) ⟨[], upd_same, .nil⟩) rRef (q p (s.free hp))⟩

/-! ### f(e, ..), f a local name that holds a def -/
structure FnA (P : Program) (w : World) (K : PySem.W.Frag) (mg : Str → Option Value) (base : Heap) (k : Nat) (f : Addr) (g : SpD) : Prop where
  ex : ∃ (fd : FuncData) (ps : List Str), FnOk P w K mg base (CX P w) k f fd ps (spOf K g) ∧ PySem.W.keepIn K (.ref f) = true ∧ Binds K fd ps []
def qCallL (i : Nat) (T : Addr → Option SpD) (qa : QA) : QT := fun W ρ S Q => match ρ[i]? with
  | some (some (.ref f)) => (match T f with
    | some g => qa W ρ S fun ds S1 => g ds S1 Q fun ev S2 => W ev ρ S2
    | none => False)
  | _ => False
theorem qe_callL (i : Nat) {j k : Nat} {T : Addr → Option SpD} {qa : QA} (h : Here X j) (A : ∀ f g, T f = some g → FnA X.prog X.w X.K X.mg X.base k f g) (ha : QArgs X (e :: es) qa) (hk : k ≤ j := by decide) (hN : X.N[i]? = some x := by rfl) (hv : Vis X.env.scope x := by first | exact Or.inl rfl | exact Or.inr (Or.inl rfl) | exact Or.inr (Or.inr rfl))
    (hdb : (x == ("__debug__" : Str)) = false := by decide) (hcd : (x == ("__classdict__" : Str)) = false := by decide)
    (he : starEach (e :: es) X.env = (false, eval e X.env) :: starEach es X.env := by rfl) (hpl : (backTo pos (starEach es X.env)).any (·.1) = false := by rfl) : QE X (.Call (.Name x p) (e :: es) [] pos) (qCallL i T qa) := by
  refine ⟨fun W tk => ⟨fun pins s σ H Q I ⟨ρ, S, Qd, sim, en, q, kk⟩ => ?_⟩⟩
  unfold qCallL at q
  split at q
  · rename_i f hf
    split at q
    · rename_i g hg
      obtain ⟨fd, ps, F, kp, hb⟩ := (A f g hg).ex
      obtain ⟨v0, hs, rv⟩ := en.2 i _ hf
      cases (show v0 = .ref f from rv)
      refine wpAny_Call_Name_kw (thn ((pe_var (pos := p) hN hv hdb hcd).run pins s σ H (fun v H1 => v = .ref f ∧ H1 = H) I ⟨.ref f, hs, rfl, rfl⟩) fun u s1 ⟨v, H1, I1, r1, q1⟩ => ?_)
      obtain ⟨rfl, rfl⟩ := q1
      cases r1
      refine PySem.W.callWith_K (h₀ := X.base) I.ok.mod.kin kp (thn ((ha.pa W tk).run pos pins s1 σ _ _ I1 ⟨ρ, S, _, sim, en, q, fun ds S1 vs H1 g1 s1 r1 q1 => (show (fun vs H1 => ∃ ds S1, Grow _ H1 ∧ Sim X.K S1 H1 ∧ Reps X.K H1 ds vs ∧ g ds S1 Qd fun ev S2 => W ev ρ S2) vs H1 from ⟨ds, S1, g1, s1, r1, q1⟩)⟩) fun us s2 ⟨vs, H2, I2, r, ds, S1, g1, sm1, r1, q1⟩ => ⟨I2.kIn, ?_⟩) he hpl
      exact run_fnD (dd := []) F (h.room.mono hk) hb .nil (fun _ => rfl) tk I2 r sm1 (en.mono g1) r1 (by rw [List.append_nil]; exact q1) fun d S' v H' g2 => kk d S' v H' (g1.trans g2)
    · exact q.elim
  · exact q.elim

/-! ### try .. finally -/
def tFin (tb : WX → TS) (tf tfs : TS) (Wout : WX) : TS := fun D σ H => tb (wFin tfs Wout) { nx := fun σ1 H1 => tf D σ1 H1, rt := fun _ _ => False } σ H
theorem ps_fin {body : List Stmt} {f₀ : Stmt} {fs : List Stmt} {tb : WX → TS} {tf tfs : TS} {Wout : WX} (hs : X.stack = X.env :: X.outer) (hf : X.env.frame = some X.env.locals) (hex : X.ex = []) (tk : Takes X Wout)
    (hb : ∀ (W : WX) (pn : List (Addr × Obj)) (xe : Value → Shared → Prop), Takes (X.tr pn xe) W → PassesOwn (model X.prog X.w) X.A X.env xe → PSs (X.tr pn xe) body (tb W))
    (hfin : PSs X.nox (f₀ :: fs) tf) (hsu : ∀ (a : Addr) (pn : List (Addr × Obj)), PSs (X.suite a pn) (f₀ :: fs) tfs) : PS X (.Try body [] [] (f₀ :: fs) pos) (tFin tb tf tfs Wout) := by
  refine ⟨fun pins s σ H D I h => ?_⟩
  have ok := I.ok
  refine wpAny_Try_finally ?_
  refine wpAny_mono ((hb (wFin tfs Wout) (X.pn ++ pins) (fun x s₁ => wpAny (model X.prog X.w) X.A (noteFrame x X.env) (fun _ s₂ => FinallyRaised X.prog X.w X.A X.xe X.env (f₀ :: fs) (SP X pins D) x s₂) (FinallyRaised X.prog X.w X.A X.xe X.env (f₀ :: fs) (SP X pins D)) s₁)
    (fun u s' xx => ?_) PassesOwn.looking).run [] s σ H { nx := fun σ1 H1 => tf D σ1 H1, rt := fun _ _ => False } (I.toTry _) h) (fun g s1 z => ?_) (fun x s1 hx => hx)
  · exact fin_exc hs hf hex ok tk hsu xx
  · cases g with
    | ret u =>
      obtain ⟨_, _, _, _, _, q⟩ := z
      exact False.elim q
    | brk =>
      obtain ⟨_, _, _, q⟩ := z
      exact False.elim q
    | cont =>
      obtain ⟨_, _, _, q⟩ := z
      exact False.elim q
    | next =>
      obtain ⟨σ1, H1, J1, q1⟩ := z
      refine wpAny_execs_nil ?_
      refine wpAny_mono (hfin.run pins s1 σ1 H1 D ((J1.ofTry ok).wish _) q1) (fun g2 s2 q2 => ?_) fun _ _ e => False.elim e
      have q3 : SP X pins D g2 s2 := q2.unwish
      cases g2 <;> exact q3
def qFin (qb qf : QS) : QS := fun W D ρ S => qb (fun ev ρ1 S1 => qf W0 { nx := fun ρ2 S2 => W ev ρ2 S2, rt := fun _ _ => False } ρ1 S1) { nx := fun ρ1 S1 => qf W0 D ρ1 S1, rt := fun _ _ => False } ρ S
theorem qs_fin {body : List Stmt} {f₀ : Stmt} {fs : List Stmt} {qb qf : QS} {k : Nat} (h : Here X k) (hb : ∀ (pn : List (Addr × Obj)) (xe : Value → Shared → Prop), Here (X.tr pn xe) k → QSts (X.tr pn xe) body qb)
    (hfin : QSts X.nox (f₀ :: fs) qf) (hsu : ∀ (a : Addr) (pn : List (Addr × Obj)), QSts (X.suite a pn) (f₀ :: fs) qf) (hs : X.stack = X.env :: X.outer := by rfl) (hf : X.env.frame = some X.env.locals := by rfl) (hex : X.ex = [] := by rfl) : QSt X (.Try body [] [] (f₀ :: fs) pos) (qFin qb qf) :=
  ⟨fun W tk => PS.imp (ps_fin (tf := liftS X.K qf W0) (tfs := liftS X.K qf W0) (Wout := liftW X.K W) (tb := fun W' => fun D σ H => ∃ Wd, (∀ c d σ H, liftW X.K Wd c d σ H → W' c d σ H) ∧ liftS X.K qb Wd D σ H) hs hf hex tk
    (fun W' pn xe tk' po => ⟨fun pins s σ H D I ⟨Wd, imp, h1⟩ => ((hb pn xe ⟨h.calm, h.nd, po, h.room⟩).pss Wd (tk'.imp imp)).run pins s σ H D I h1⟩) (hfin.pss W0 (takes0D (xe := fun _ _ => False))) (fun a pn => (hsu a pn).pss W0 (takes0D (xe := fun _ _ => False)))) fun D σ H ⟨ρ, S, Dd, s, en, q, kn, kr, kb, kc⟩ => by
      refine ⟨fun ev ρ1 S1 => qf W0 { nx := fun ρ2 S2 => W ev ρ2 S2, rt := fun _ _ => False } ρ1 S1, ?_, ρ, S, _, s, en, q, ?_, ?_, ?_, ?_⟩
      · rintro c d σ1 H1 ⟨ρ1, S1, ev, s1, en1, rx, w⟩
        exact ⟨ρ1, S1, _, s1, en1, w, fun ρ' S' σ' H' g s' en' q' => ⟨ρ', S', ev, s', en', rx, q'⟩, fun _ _ _ _ _ _ _ z => z.elim, fun _ _ _ _ _ _ _ z => z.elim, fun _ _ _ _ _ _ _ z => z.elim⟩
      · exact fun ρ1 S1 σ1 H1 g1 s1 en1 q1 => ⟨ρ1, S1, Dd, s1, en1, q1, fun a b c d g => kn a b c d (g1.trans g), fun a b c d g => kr a b c d (g1.trans g), fun a b c d g => kb a b c d (g1.trans g), fun a b c d g => kc a b c d (g1.trans g)⟩
      · exact fun _ _ _ _ _ _ _ z => z.elim
      · exact fun _ _ _ _ _ _ _ z => z.elim
      · exact fun _ _ _ _ _ _ _ z => z.elim⟩
end Q

set_option maxHeartbeats 1000000
/-! Q: the head: facts read by a Hook; what they give. -/
namespace Q
open PySem PySem.Spec L2
abbrev AlQ : Type := He.AlT × Bool
abbrev FxQ : Type := List (PySem.W.Frag → Bool)
def obsQ (fa : List He.Fa) (fn : List He.DefD) (ts : List He.Tab) (ex : FxQ) (K : PySem.W.Frag) : AlQ := (He.obsT fa fn ts K, ex.all fun f => f K)
def valQ (fn : List He.DefD) (ts : List He.Tab) (w : World) : AlQ := (He.valT fn ts w, true)
def obsQG (n : Nat) (fa : List He.Fa) (fn : List He.DefD) (ts : List He.Tab) (ex : FxQ) (g : Addr → Option Obj) : AlQ := obsQ fa fn ts ex (He.frG g (He.asD g n))
def SaysQ (fa : List He.Fa) (fn : List He.DefD) (ts : List He.Tab) (ex : FxQ) (w : World) (K : PySem.W.Frag) : Prop := obsQ fa fn ts ex K = valQ fn ts w
def hookQ (n : Nat) (fa : List He.Fa) (fn : List He.DefD) (ts : List He.Tab) (ex : FxQ) : PySem.W.Hook where
  α := AlQ
  obs := fun s => obsQG n fa fn ts ex s.heap.get?
  val := fun w => valQ fn ts w
  says := fun w h => ∃ K : PySem.W.Frag, K.In h ∧ SaysQ fa fn ts ex w K
  of := fun _ _ e => ⟨_, He.frG_in, e⟩
  keeps := fun _ _ _ ⟨K, hK, c⟩ k => ⟨K, PySem.W.Frag.In.keeps hK k, c⟩
theorem obsQG_eq {n : Nat} {fa : List He.Fa} {fn : List He.DefD} {ts : List He.Tab} {ex : FxQ} {g : Addr → Option Obj} {s : Shared} (h : ∀ a, g a = s.heap.get? a) : obsQG n fa fn ts ex g = (hookQ n fa fn ts ex).obs s := by
  have e : g = s.heap.get? := funext h
  rw [e] <;> rfl
/-- what the head gives -/
structure Tx (fa : List He.Fa) (fn : List He.DefD) (ts : List He.Tab) (ex : FxQ) (w : World) (K : PySem.W.Frag) (mg : Str → Option Value) : Prop where
  top : ∃ h : Heap, K.In h ∧ h.Ns mainGlobals mg
  says : SaysQ fa fn ts ex w K
section
variable {fa : List He.Fa} {fn : List He.DefD} {ts : List He.Tab} {ex : FxQ} {w : World} {K : PySem.W.Frag} {mg : Str → Option Value}
theorem Tx.t (T : Tx fa fn ts ex w K mg) : He.SaysT fa fn ts w K := congrArg (fun z : AlQ => z.1) T.says
theorem Tx.d (T : Tx fa fn ts ex w K mg) : He.SaysD fa fn K := T.t.d
theorem Tx.ft (T : Tx fa fn ts ex w K mg) (i : Nat) {f : He.Fa} (h : fa[i]? = some f := by rfl) : f.ok K = true := T.d.fact i h
theorem Tx.xf (T : Tx fa fn ts ex w K mg) (i : Nat) {f : PySem.W.Frag → Bool} (h : ex[i]? = some f := by rfl) : f K = true := by
  have e : ex.all (fun f => f K) = true := congrArg (fun z : AlQ => z.2) T.says
  exact List.all_eq_true.mp e f (List.mem_of_getElem? h)
theorem Tx.glo (T : Tx fa fn ts ex w K mg) {x : Str} (c : (He.Fa.glo x).ok K = true) : mg x = some (.ref (He.ga K x)) := by
  obtain ⟨h, X, G⟩ := T.top
  exact He.glo_ok X G c
theorem Tx.free (T : Tx fa fn ts ex w K mg) {x : Str} (c : (He.Fa.free x).ok K = true) : mg x = none := by
  obtain ⟨h, X, G⟩ := T.top
  exact He.free_ok X G c
/-- a module's constant -/
def Con (K : PySem.W.Frag) (mg : Str → Option Value) (x : Str) (d : D) : Prop := ∃ u v, mg x = some u ∧ RelV v u ∧ ∀ H, Rep K H d v
theorem Tx.cint (T : Tx fa fn ts ex w K mg) {x : Str} {i : Int} (c : (He.Fa.int x i).ok K = true) : Con K mg x (.int i) := by
  obtain ⟨h, X, G⟩ := T.top
  obtain ⟨t, e⟩ := He.int_ok X G c
  exact ⟨_, .int i, e, ⟨t, rfl⟩, fun _ => rfl⟩
theorem Tx.cstr (T : Tx fa fn ts ex w K mg) {x z : Str} (c : (He.Fa.str x z).ok K = true) : Con K mg x (.str z) := by
  obtain ⟨h, X, G⟩ := T.top
  obtain ⟨t, e⟩ := He.str_ok X G c
  exact ⟨_, .str z, e, ⟨t, rfl⟩, fun _ => rfl⟩
/-- a tuple of texts -/
theorem Tx.ctup (T : Tx fa fn ts ex w K mg) {x : Str} {zs : List Str} (c : (He.Fa.glo x).ok K = true) (h : He.tupB K x (zs.map He.Dv.str) = true) : Con K mg x (.tup (zs.map D.str)) :=
  ⟨_, .ref (He.ga K x), T.glo c, rfl, fun H => ⟨_, _, rfl, He.tupB_ok h H, by
    have e : (zs.map He.Dv.str).map (He.Dv.v K) = zs.map V.str := by rw [List.map_map]; rfl
    rw [e]
    exact Reps.ofStrs zs⟩⟩
end
section
variable {X : Cx} {x : Str} {pos : Pos}
theorem qe_con {d : D} (h : Con X.K X.mg x d) (hg : Gl X x := by rfl) (hd : (x == ("__debug__" : Str)) = false := by decide) : QE X (.Name x pos) (qC d) := by
  obtain ⟨u, v, hm, r, rd⟩ := h
  exact qe_glob hm r rd hg hd
end
/-! ### promises -/
section
variable {fa : List He.Fa} {fn : List He.DefD} {ts : List He.Tab} {ex : FxQ} {P : Program} {w : World} {K : PySem.W.Frag} {mg : Str → Option Value} {base : Heap}
/-- the defaults behind the written parameters: their values, and that a call without them binds them -/
structure BindD (K : PySem.W.Frag) (fd : FuncData) (ps : List Str) (dd : List D) : Prop where
  ex : ∃ (dvs : List V) (dss : List Value), Binds K fd ps dss ∧ Vals dvs dss ∧ ∀ H, Reps K H dd dvs
theorem BindD.none {fd : FuncData} {ps : List Str} (h : Binds K fd ps []) : BindD K fd ps [] := ⟨[], [], h, .nil, fun _ => rfl⟩
theorem BindD.of {fd : FuncData} {ps : List Str} {dd : List D} {dvs : List V} (h : ∃ ds, Vals dvs ds ∧ Binds K fd ps ds) (r : ∀ H, Reps K H dd dvs) : BindD K fd ps dd := by
  obtain ⟨ds, h1, h2⟩ := h
  exact ⟨dvs, ds, h2, h1, r⟩
theorem FnG.of {k : Nat} {x : Str} {dd : List D} {g : SpD} {f : Addr} {fd : FuncData} {ps : List Str} (F : FnOk P w K mg base (CX P w) k f fd ps (spOf K g)) (hm : mg x = some (.ref f)) (kp : PySem.W.keepIn K (.ref f) = true) (b : BindD K fd ps dd) : FnG P w K mg base k x dd g := by
  obtain ⟨dvs, dss, h1, h2, h3⟩ := b.ex
  exact ⟨f, fd, ps, dvs, dss, F, hm, kp, h1, h2, h3⟩
theorem MtG.of {k : Nat} {C : Addr} {m : Str} {dd : List D} {g : SpD} {f : Addr} {fd : FuncData} {ps : List Str} (F : FnOk P w K mg base (CX P w) k f fd ps (spOf K g)) (c : Cls K C) (hm : Meth K C m f) (b : BindD K fd ps dd) : MtG P w K mg base k C m dd g := by
  obtain ⟨dvs, dss, h1, h2, h3⟩ := b.ex
  exact ⟨f, fd, ps, dvs, dss, F, c, hm, h1, h2, h3⟩
theorem MkG.of {k : Nat} {x : Str} {C : Addr} {dd : List D} {g : SpD} {f : Addr} {fd : FuncData} {ps : List Str} (F : FnOk P w K mg base (CX P w) k f fd ps (spOf K g)) (m : Mk K C f) (hm : mg x = some (.ref C)) (b : BindD K fd ps dd) : MkG P w K mg base k x C dd g := by
  obtain ⟨dvs, dss, h1, h2, h3⟩ := b.ex
  exact ⟨f, fd, ps, dvs, dss, F, m, hm, h1, h2, h3⟩
end
abbrev cxF (P : Program) (w : World) (K : PySem.W.Frag) (mg : Str → Option Value) (base : Heap) (N : List Str) (qual : Str) (scope : Scope) (f : Addr) (cdv : Value) (A : Around) (outer : List PySem.Env) (s : Shared) (H : Hp) (E : XK) : Cx := cxOf (CX P w) P w K mg base N qual scope f cdv A outer s H E
end Q
namespace Q
open PySem PySem.Spec L2
def blkB (N : List Str) (sc scope : Scope) (own : List (Str × Nat)) : Bool := (scope.kind == .function) && (scope.names.all fun y => decide (scope.names.lookup y.1 = some y.2)) && (own.all fun p => decide (N[p.2]? = some p.1)) &&
  (scope.names.all fun y => !decide (y.2 = .free) || (decide (sc.names.lookup y.1 = some .cell) || decide (sc.names.lookup y.1 = some .free))) &&
  (scope.names.all fun y => !(decide (y.2 = .local) || decide (y.2 = .cell)) || (decide (y.1 ∈ own.map (·.1)) || !decide (y.1 ∈ N)))
theorem blkOk_of {N : List Str} {sc scope : Scope} {own : List (Str × Nat)} (h : blkB N sc scope own = true) : BlkOk N sc scope own := by
  unfold blkB at h
  simp only [Bool.and_eq_true, List.all_eq_true, decide_eq_true_eq, Bool.or_eq_true, Bool.not_eq_true', decide_eq_false_iff_not, beq_iff_eq] at h
  obtain ⟨⟨⟨⟨h1, h2⟩, h3⟩, h4⟩, h5⟩ := h
  refine ⟨h1, h2, h3, fun y hy e => ?_, fun y hy e => ?_⟩
  · rcases h4 y hy with z | z
    · exact absurd e z
    · exact z
  · rcases h5 y hy with z | z
    · rcases e with e | e
      · rw [e] at z; simp at z
      · rw [e] at z; simp at z
    · exact z
end Q

set_option maxHeartbeats 1000000
/-! Q: loops by invariants. -/
namespace Q
open PySem PySem.Spec L2
theorem while_ok {t : QB} {body : QS} {W : WD} {D : EndsD} (I : Nat → Env → Sto → Prop)
    (step : ∀ (m : Nat) (N : Env → Sto → Prop), (∀ m' ρ S, m' < m → I m' ρ S → N ρ S) → ∀ ρ S, I m ρ S → t W ρ S fun b S1 => match b with
      | true => body W { D with nx := N, ct := N, bk := D.nx } ρ S1
      | false => D.nx ρ S1) {m : Nat} {ρ : Env} {S : Sto} (h : I m ρ S) : qWhile t body W D ρ S := by
  have key : ∀ n m ρ S, m ≤ n → I m ρ S → whileN t body W D (n + 1) ρ S := by
    intro n
    induction n with
    | zero => exact fun m ρ S hm h => step m (whileN t body W D 0) (fun m' _ _ hlt _ => absurd hlt (by omega)) ρ S h
    | succ n ih => exact fun m ρ S hm h => step m (whileN t body W D (n + 1)) (fun m' ρ' S' hlt h' => ih m' ρ' S' (by omega) h') ρ S h
  exact ⟨m + 1, key m m ρ S (Nat.le_refl _) h⟩
theorem for_ok {ok : Sto → Prop} {t : Tgt} {body : QS} {W : WD} {E : EndsD} (I : List D → Env → Sto → Prop) (hok : ∀ ds ρ S, I ds ρ S → ok S) (done : ∀ ρ S, I [] ρ S → E.nx ρ S)
    (step : ∀ (d : D) (ds : List D) (N : Env → Sto → Prop), (∀ ρ S, I ds ρ S → N ρ S) → ∀ ρ S, I (d :: ds) ρ S → asgD t d ρ fun ρ1 => body W { E with nx := N, ct := N, bk := E.nx } ρ1 S) :
    ∀ (ds : List D) (ρ : Env) (S : Sto), I ds ρ S → forW ok t body W E ds ρ S
  | [], ρ, S, h => ⟨hok _ _ _ h, done _ _ h⟩
  | d :: ds, ρ, S, h => ⟨hok _ _ _ h, step d ds (forW ok t body W E ds) (for_ok I hok done step ds) ρ S h⟩
theorem lc_ok {ok : Sto → Prop} {t : Tgt} {ti : QB} {qe : QT} {ρ : Env} {p : Addr} {k : Sto → Prop} (I : List D → List D → Sto → Prop) (hok : ∀ ds acc S, I ds acc S → ok S ∧ S p = some (.lst acc)) (done : ∀ acc S, I [] acc S → k S)
    (step : ∀ (d : D) (ds acc : List D) (S : Sto) (N : List D → Sto → Prop), (∀ acc' S', I ds acc' S' → N acc' S') → I (d :: ds) acc S → asgD t d ρ fun ρ1 => ti W0 ρ1 S fun b S1 => match b with
      | true => qe W0 ρ1 S1 fun y S2 => S2 p = some (.lst acc) ∧ acc.length < sizeLine ∧ N (acc ++ [y]) (put S2 p (.lst (acc ++ [y])))
      | false => N acc S1) : ∀ (ds acc : List D) (S : Sto), I ds acc S → lcW ok t ti qe ρ p k ds acc S
  | [], acc, S, h => ⟨(hok _ _ _ h).1, (hok _ _ _ h).2, done _ _ h⟩
  | d :: ds, acc, S, h => ⟨(hok _ _ _ h).1, step d ds acc S (lcW ok t ti qe ρ p k ds) (lc_ok I hok done step ds) h⟩
/-- a comprehension with one name and no condition, elements by values alone -/
theorem lc_map {ok : Sto → Prop} {i : Nat} {qe : QT} {ρ : Env} {p : Addr} {k : Sto → Prop} {S : Sto} (g : D → D) (items : List D) (hl : items.length ≤ sizeLine) (hok : ∀ acc, ok (put S p (.lst acc)))
    (he : ∀ d ∈ items, ∀ (acc : List D) (Q : QK), Q (g d) (put S p (.lst acc)) → qe W0 (ρ.set i (some d)) (put S p (.lst acc)) Q) (hk : k (put S p (.lst (items.map g)))) : lcW ok (.name i) qYes qe ρ p k items [] (put S p (.lst [])) := by
  have main : ∀ (ds acc : List D), (∀ d ∈ ds, d ∈ items) → acc.length + ds.length ≤ sizeLine → acc ++ ds.map g = items.map g → lcW ok (.name i) qYes qe ρ p k ds acc (put S p (.lst acc)) := by
    intro ds
    induction ds with
    | nil =>
      intro acc _ _ e
      rw [List.map_nil, List.append_nil] at e
      exact ⟨hok _, put_same, by rw [e]; exact hk⟩
    | cons d ds ih =>
      intro acc hm hl e
      refine ⟨hok _, ?_⟩
      show qe W0 (ρ.set i (some d)) (put S p (.lst acc)) _
      refine he d (hm d List.mem_cons_self) acc _ ?_
      refine ⟨put_same, by rw [List.length_cons] at hl; omega, ?_⟩
      rw [put_put]
      refine ih (acc ++ [g d]) (fun x hx => hm x (List.mem_cons_of_mem _ hx)) ?_ ?_
      · rw [List.length_append, List.length_singleton]
        rw [List.length_cons] at hl
        omega
      · rw [← e, List.map_cons, List.append_assoc]
        rfl
  exact main items [] (fun _ h => h) (by simpa using hl) rfl
/-- .. with a condition -/
theorem lc_filter {ok : Sto → Prop} {i : Nat} {ti : QB} {qe : QT} {ρ : Env} {p : Addr} {k : Sto → Prop} {S : Sto} (c : D → Bool) (g : D → D) (items : List D) (hl : items.length ≤ sizeLine) (hok : ∀ acc, ok (put S p (.lst acc)))
    (ht : ∀ d ∈ items, ∀ (acc : List D) (Q : Bool → Sto → Prop), Q (c d) (put S p (.lst acc)) → ti W0 (ρ.set i (some d)) (put S p (.lst acc)) Q)
    (he : ∀ d ∈ items, c d = true → ∀ (acc : List D) (Q : QK), Q (g d) (put S p (.lst acc)) → qe W0 (ρ.set i (some d)) (put S p (.lst acc)) Q) (hk : k (put S p (.lst ((items.filter c).map g)))) : lcW ok (.name i) ti qe ρ p k items [] (put S p (.lst [])) := by
  have main : ∀ (ds acc : List D), (∀ d ∈ ds, d ∈ items) → acc.length + ds.length ≤ sizeLine → acc ++ (ds.filter c).map g = (items.filter c).map g → lcW ok (.name i) ti qe ρ p k ds acc (put S p (.lst acc)) := by
    intro ds
    induction ds with
    | nil =>
      intro acc _ _ e
      rw [List.filter_nil, List.map_nil, List.append_nil] at e
      exact ⟨hok _, put_same, by rw [e]; exact hk⟩
    | cons d ds ih =>
      intro acc hm hl e
      refine ⟨hok _, ?_⟩
      show ti W0 (ρ.set i (some d)) (put S p (.lst acc)) _
      refine ht d (hm d List.mem_cons_self) acc _ ?_
      rw [List.length_cons] at hl
      cases hc : c d with
      | true =>
        refine he d (hm d List.mem_cons_self) hc acc _ ?_
        refine ⟨put_same, by omega, ?_⟩
        rw [put_put]
        refine ih (acc ++ [g d]) (fun x hx => hm x (List.mem_cons_of_mem _ hx)) ?_ ?_
        · rw [List.length_append, List.length_singleton]
          omega
        · rw [← e, List.filter_cons_of_pos hc, List.map_cons, List.append_assoc]
          rfl
      | false =>
        refine ih acc (fun x hx => hm x (List.mem_cons_of_mem _ hx)) (by omega) ?_
        rw [← e, List.filter_cons_of_neg (by rw [hc]; exact Bool.false_ne_true)]
  exact main items [] (fun _ h => h) (by simpa using hl) rfl
end Q
namespace Q
open PySem PySem.Spec L2
/-- a def's reading keeps a promise -/
def Kp (N : List Str) (g : SpD) (b : QS) : Prop := ∀ (ds : List D) (S : Sto) (Q : QK) (E : XD), g ds S Q E → b (fun ev _ S => Fg (E ev) S) { nx := fun _ S => Fg (Q .non) S, rt := fun d S => Fg (Q d) S } (startD N ds) S
/-! ### readings of data -/
def tlS (s : Str) : List Nat := s.cps.toList
theorem len_tl (s : Str) : s.length = (tlS s).length := by simp [tlS, Str.length]
theorem tlS_ext {a b : Str} (h : tlS a = tlS b) : a = b := TL.ext_tl h
theorem tlS_app (a b : Str) : tlS (a ++ b) = tlS a ++ tlS b := Array.toList_append
theorem tlS_one (c : Nat) : tlS ⟨#[c]⟩ = [c] := rfl
theorem atI_n {α : Type} (l : List α) (i : Nat) : atI l (i : Int) = l[i]? := by
  unfold atI ixN
  by_cases h : i < l.length
  · simp [h]
  · simp [h]
theorem ix_str {w : Str} {i : Int} {c : Nat} {S : Sto} {Q : QK} (h : w.length ≤ sizeLine) (e : atI (tlS w) i = some c) (q : Q (.str ⟨#[c]⟩) S) : ixD (.str w) (.int i) S Q := by
  refine ⟨h, ?_⟩
  have e' : atI w.cps.toList i = some c := e
  rw [e']
  exact q
theorem ix_tup {ds : List D} {i : Int} {x : D} {S : Sto} {Q : QK} (e : atI ds i = some x) (q : Q x S) : ixD (.tup ds) (.int i) S Q := by
  show (match atI ds i with
    | some x => Q x S
    | none => False)
  rw [e]
  exact q
theorem ix_kl {ds : List D} {i : Int} {x : D} {S : Sto} {Q : QK} (e : atI ds i = some x) (q : Q x S) : ixD (.kl ds) (.int i) S Q := by
  show (match atI ds i with
    | some x => Q x S
    | none => False)
  rw [e]
  exact q
theorem ix_lst {a : Addr} {ds : List D} {i : Int} {x : D} {S : Sto} {Q : QK} (h : S a = some (.lst ds)) (e : atI ds i = some x) (q : Q x S) : ixD (.ref a) (.int i) S Q := by
  show (match items S (.ref a) with
    | some ds => (match atI ds i with
      | some x => Q x S
      | none => False)
    | none => False)
  rw [items_lst h]
  show (match atI ds i with
    | some x => Q x S
    | none => False)
  rw [e]
  exact q
theorem len_str {z : Str} {S : Sto} {Q : QK} (h : z.length ≤ sizeLine) (q : Q (.int (tlS z).length) S) : lenD [.str z] S Q := ⟨h, by rw [len_tl]; exact q⟩
theorem len_lst {a : Addr} {ds : List D} {S : Sto} {Q : QK} (h : S a = some (.lst ds)) (q : Q (.int ds.length) S) : lenD [.ref a] S Q := by
  show (match items S (.ref a) with
    | some xs => Q (.int xs.length) S
    | none => False)
  rw [items_lst h]
  exact q
theorem len_tup {ds : List D} {S : Sto} {Q : QK} (q : Q (.int ds.length) S) : lenD [.tup ds] S Q := q
theorem len_kl {ds : List D} {S : Sto} {Q : QK} (q : Q (.int ds.length) S) : lenD [.kl ds] S Q := q
theorem set_lst {a : Addr} {ds : List D} {i : Int} {j : Nat} {v : D} {S : Sto} {Q : Sto → Prop} (h : S a = some (.lst ds)) (e : ixN ds.length i = some j) (q : Q (put S a (.lst (ds.set j v)))) : setD (.ref a) (.int i) v S Q := by
  show (match S a with
    | some (.lst ds) => (match ixN ds.length i with
      | some j => Q (put S a (.lst (ds.set j v)))
      | none => False)
    | _ => False)
  rw [h]
  show (match ixN ds.length i with
      | some j => Q (put S a (.lst (ds.set j v)))
      | none => False)
  rw [e]
  exact q
theorem add_lst {a b : Addr} {xs ys : List D} {S : Sto} {Q : QK} (ha : S a = some (.lst xs)) (hb : S b = some (.lst ys)) (h : xs.length + ys.length ≤ sizeLine) (q : ∀ p, S p = none → Q (.ref p) (put S p (.lst (xs ++ ys)))) : addD (.ref a) (.ref b) S Q := by
  show (match S a, S b with
    | some (.lst xs), some (.lst ys) => xs.length + ys.length ≤ sizeLine ∧ ∀ p, S p = none → Q (.ref p) (put S p (.lst (xs ++ ys)))
    | _, _ => False)
  rw [ha, hb]
  exact ⟨h, q⟩
theorem join_ok {z : Str} {y : D} {ds : List D} {ys : List Str} {S : Sto} {Q : QK} (h : items S y = some ds) (h2 : strsOf ds = some ys) (hl : (ys.map (·.length)).sum + ys.length * z.length ≤ 16777216) (q : Q (.str (Txt.join z ys)) S) : joinD (.str z) [y] S Q := by
  show (match (items S y).bind strsOf with
    | some ys => (ys.map (·.length)).sum + ys.length * z.length ≤ 16777216 ∧ Q (.str (Txt.join z ys)) S
    | none => False)
  rw [h]
  show (match strsOf ds with
    | some ys => (ys.map (·.length)).sum + ys.length * z.length ≤ 16777216 ∧ Q (.str (Txt.join z ys)) S
    | none => False)
  rw [h2]
  exact ⟨hl, q⟩
theorem sz {n : Nat} (h : n ≤ 1000000 := by omega) : n ≤ sizeLine := by rw [sizeLine_eq]; omega
theorem clip_drop {α : Type} (l : List α) (a : Nat) : l.drop (min a l.length) = l.drop a := by
  by_cases h : a ≤ l.length
  · rw [Nat.min_eq_left h]
  · rw [Nat.min_eq_right (by omega), List.drop_of_length_le (Nat.le_refl _), List.drop_of_length_le (by omega)]
theorem clip_take {α : Type} (l : List α) (a b : Nat) : (l.drop a).take (min b l.length - min a l.length) = (l.drop a).take (b - a) := by
  by_cases ha : a ≤ l.length
  · rw [Nat.min_eq_left ha]
    by_cases hb : b ≤ l.length
    · rw [Nat.min_eq_left hb]
    · rw [Nat.min_eq_right (by omega), List.take_of_length_le (by rw [List.length_drop]; omega), List.take_of_length_le (by rw [List.length_drop]; omega)]
  · rw [List.drop_of_length_le (by omega)]
    simp
theorem tlS_cut (z : Str) (lo hi : Option Int) : tlS (cutS z lo hi) = cutL (tlS z) lo hi := by
  unfold cutS cutL tlS
  rw [show z.length = z.cps.toList.length by simp [Str.length]]
theorem cutL_nat {α : Type} (l : List α) (a b : Nat) : cutL l (some (a : Int)) (some (b : Int)) = (l.drop a).take (b - a) := by
  unfold cutL
  rw [HT.sIx_nat, HT.sIx_nat, clip_drop, clip_take]
theorem cutL_from {α : Type} (l : List α) (a : Nat) : cutL l (some (a : Int)) none = l.drop a := by
  unfold cutL
  rw [HT.sIx_nat, HT.sIx_none, clip_drop]
  have := clip_take l a l.length
  rw [Nat.min_self] at this
  rw [this, List.take_of_length_le (by rw [List.length_drop]; omega)]
theorem cutL_to {α : Type} (l : List α) (b : Nat) : cutL l none (some (b : Int)) = l.take b := by
  unfold cutL
  rw [HT.sIx_nat, HT.sIx_none, List.drop_zero, Nat.sub_zero]
  by_cases hb : b ≤ l.length
  · rw [Nat.min_eq_left hb]
  · rw [Nat.min_eq_right (by omega), List.take_of_length_le (Nat.le_refl _), List.take_of_length_le (by omega)]
theorem cutS_len (z : Str) (lo hi : Option Int) : (tlS (cutS z lo hi)).length ≤ (tlS z).length := by
  rw [← len_tl, ← len_tl]
  exact cutS_length z lo hi
end Q
namespace Q
open PySem PySem.Spec L2
/-! ### steps -/
section
variable {t : QB} {A B : QS} {W : WD} {E : EndsD} {ρ : Env} {S : Sto} {i : Nat} {w c : Str}
theorem ifS_false (h : ∀ Q : Bool → Sto → Prop, Q false S → t W ρ S Q) (k : B W E ρ S) : qIfS t A B W E ρ S := h _ k
theorem ifS_true (h : ∀ Q : Bool → Sto → Prop, Q true S → t W ρ S Q) (k : A W E ρ S) : qIfS t A B W E ρ S := h _ k
theorem eq_str (hv : ρ[i]? = some (some (.str w))) (Q : Bool → Sto → Prop) (q : Q (decide (w = c)) S) : qT (qOp (eqD false) (qVar i) (qC (.str c))) W ρ S Q := by
  show (match ρ[i]? with
    | some (some d) => (qC (.str c)) W ρ S fun e S2 => eqD false d e S2 fun d S1 => match d with
      | .bl b => Q b S1
      | _ => False
    | _ => False)
  rw [hv]
  show Q (false ^^ decide (w = c)) S
  rw [Bool.false_xor]
  exact q
theorem ifstr_ne (hv : ρ[i]? = some (some (.str w))) (h : w ≠ c) (k : B W E ρ S) : qIfS (qT (qOp (eqD false) (qVar i) (qC (.str c)))) A B W E ρ S := ifS_false (fun Q q => eq_str hv Q (by rw [decide_eq_false h]; exact q)) k
theorem ifstr_eq (hv : ρ[i]? = some (some (.str w))) (h : w = c) (k : A W E ρ S) : qIfS (qT (qOp (eqD false) (qVar i) (qC (.str c)))) A B W E ρ S := ifS_true (fun Q q => eq_str hv Q (by rw [decide_eq_true h]; exact q)) k
theorem fld_at {C : Addr} {f : Str} {q : QT} {a : Addr} {fs : List (Str × D)} {d : D} {Q : QK} (hq : ∀ Q : QK, Q (.ref a) S → q W ρ S Q) (ha : S a = some (.ins C fs)) (hl : fs.lookup f = some d) (k : Q d S) : qFld C f q W ρ S Q :=
  hq _ (insOf_at ha ⟨rfl, by rw [hl]; exact k⟩)
theorem set_at {C : Addr} {f : Str} {qo qv : QT} {a : Addr} {fs : List (Str × D)} (k : qv W ρ S fun y S1 => qo W ρ S1 fun d S2 => d = .ref a ∧ S2 a = some (.ins C fs) ∧ fs.length < 1000 ∧ E.nx ρ (put S2 a (.ins C (putFD f y fs)))) (mono : ∀ S1 (Q Q' : QK), (∀ d S2, Q d S2 → Q' d S2) → qo W ρ S1 Q → qo W ρ S1 Q') (monov : ∀ (Q Q' : QK), (∀ d S2, Q d S2 → Q' d S2) → qv W ρ S Q → qv W ρ S Q') : qSetF C f qo qv W E ρ S :=
  monov _ _ (fun y S1 h => mono S1 _ _ (fun d S2 ⟨e, h1, h2, h3⟩ => by subst e; exact insOf_at h1 ⟨rfl, h2, h3⟩) h) k
variable {U : QS}
theorem seq_ne (hv : ρ[i]? = some (some (.str w))) (h : w ≠ c) (k : U W E ρ S) : qSeq (qIfS (qT (qOp (eqD false) (qVar i) (qC (.str c)))) A qNext) U W E ρ S := ifstr_ne hv h k
theorem seq_eq (hv : ρ[i]? = some (some (.str w))) (h : w = c) (k : A W { E with nx := U W E } ρ S) : qSeq (qIfS (qT (qOp (eqD false) (qVar i) (qC (.str c)))) A qNext) U W E ρ S := ifstr_eq hv h k
theorem seq_if {t : QB} {B : QS} (h : t W ρ S fun b S1 => match b with
    | true => A W { E with nx := U W E } ρ S1
    | false => B W { E with nx := U W E } ρ S1) : qSeq (qIfS t A B) U W E ρ S := h
theorem seq_no {t : QB} (h : ∀ Q : Bool → Sto → Prop, Q false S → t W ρ S Q) (k : U W E ρ S) : qSeq (qIfS t A qNext) U W E ρ S := ifS_false h k
theorem seq_yes {t : QB} {B : QS} (h : ∀ Q : Bool → Sto → Prop, Q true S → t W ρ S Q) (k : A W { E with nx := U W E } ρ S) : qSeq (qIfS t A B) U W E ρ S := ifS_true h k
end
end Q

set_option maxHeartbeats 1000000
/-! Q: drawn things: a bag of three numbers, of which only bounds are kept. -/
namespace Q
open PySem PySem.Spec L2
def But (p : Addr) (S S' : Sto) : Prop := ∀ a o, a ≠ p → S a = some o → S' a = some o
theorem But.refl (p : Addr) (S : Sto) : But p S S := fun _ _ _ h => h
theorem But.trans {p : Addr} {S S1 S2 : Sto} (h : But p S S1) (k : But p S1 S2) : But p S S2 := fun a o n e => k a o n (h a o n e)
theorem But.wr {p : Addr} {S S' : Sto} {o : MO} (h : But p S S') : But p S (put S' p o) := fun a u hn e => by rw [put_ne hn]; exact h a u hn e
theorem But.new {p q : Addr} {S S' : Sto} {o : MO} (h : But p S S') (hq : S' q = none) : But p S (put S' q o) := fun a u hn e => by
  have e' := h a u hn e
  rw [put_ne (st_ne e' hq)]; exact e'
theorem But.pre {p q : Addr} {S S' : Sto} {o : MO} (h : But p (put S q o) S') (hq : S q = none) : But p S S' := fun a u hn e => h a u hn (by rw [put_ne (st_ne e hq)]; exact e)
theorem But.at_ {p a : Addr} {S S' : Sto} {o : MO} (h : But p S S') (e : S a = some o) (n : a ≠ p) : S' a = some o := h a o n e
def BagL (xs : List D) (n : Nat) : Prop := ∃ x y z : Int, xs = [.int x, .int y, .int z] ∧ 0 ≤ y ∧ y < 10 ^ 40 + 121 ∧ 0 ≤ z ∧ z ≤ n
def BagAt (S : Sto) (b : Addr) (n : Nat) : Prop := ∃ xs, S b = some (.lst xs) ∧ BagL xs n
theorem BagAt.new {S : Sto} {b p : Addr} {n : Nat} {o : MO} (h : BagAt S b n) (hp : S p = none) : BagAt (put S p o) b n := by
  obtain ⟨xs, h1, h2⟩ := h
  exact ⟨xs, by rw [put_ne (st_ne h1 hp)]; exact h1, h2⟩
theorem BagAt.more {S : Sto} {b : Addr} {n m : Nat} (h : BagAt S b n) (hm : n ≤ m) : BagAt S b m := by
  obtain ⟨xs, h1, x, y, z, e, a1, a2, a3, a4⟩ := h
  exact ⟨xs, h1, x, y, z, e, a1, a2, a3, by omega⟩
theorem BagAt.ne {S : Sto} {b p : Addr} {n : Nat} (h : BagAt S b n) (hp : S p = none) : b ≠ p := by
  obtain ⟨xs, h1, _⟩ := h
  exact st_ne h1 hp
theorem BagAt.neo {S : Sto} {b p : Addr} {n : Nat} {C : Addr} {fs : List (Str × D)} (h : BagAt S b n) (hp : S p = some (.ins C fs)) : p ≠ b := by
  obtain ⟨xs, h1, _⟩ := h
  intro e
  subst e
  rw [h1] at hp
  cases hp
/-- the most draws of a bag -/
abbrev most : Nat := 1000000
theorem CFd.of {i j : Int} (h0 : 0 < j) (h : j < 10 ^ 30) : CFd i j := by
  refine ⟨by omega, .inr ⟨h0, ?_⟩⟩
  have h1 : j.natAbs < 2 ^ 100 := by
    have : (10 : Int) ^ 30 ≤ 2 ^ 100 := by decide
    omega
  have := (Nat.log2_lt (n := j.natAbs) (k := 100) (by omega)).mpr h1
  omega
theorem CPw.of {i : Int} {j k : Nat} (h : i.natAbs < 2 ^ k) (hk : k * j ≤ 134217728) : CPw i j := by
  refine ⟨by omega, ?_⟩
  have h1 : Builtin.Int.intBits i ≤ k := PySem.intBits_le_iff.mpr h
  have h2 : Builtin.Int.intBits i * j ≤ k * j := Nat.mul_le_mul_right _ h1
  have h3 : ((Builtin.Int.intBits i * j : Nat) : Int) ≤ 134217728 := by omega
  have e : (2 : Int) ^ 27 = 134217728 := by decide
  rw [e]
  rw [Int.natCast_mul] at h3
  exact h3
theorem fmod_pos {i j : Int} (h : 0 < j) : 0 ≤ i.fmod j ∧ i.fmod j < j := by
  rw [Int.fmod_eq_emod_of_nonneg _ (by omega)]
  exact ⟨Int.emod_nonneg _ (by omega), Int.emod_lt_of_pos _ h⟩
/-- a draw -/
def gDraw : SpD := fun ds S Q _ => ∃ b many n, ds = [.ref b, .int many] ∧ BagAt S b n ∧ n + 1 ≤ most ∧ 1 ≤ many ∧ many < 10 ^ 30 ∧ ∀ (r : Int) S', 0 ≤ r → r < many → But b S S' → BagAt S' b (n + 1) → Q (.int r) S'
/-- a comprehension whose elements draw -/
theorem lc_bag {i : Nat} {qe : QT} {ρ : Env} {p b : Addr} {k : Sto → Prop} {S : Sto} {n c : Nat} {ok : Sto → Prop} (hok : ∀ S', ok S') (P : D → Prop) (items : List D) (hl : items.length ≤ sizeLine) (hb : BagAt S b n) (hp : S p = none) (hn : n + c * items.length ≤ most)
    (he : ∀ d ∈ items, ∀ (S1 : Sto) (m : Nat) (Q : QK), (∀ a o, a ≠ b → a ≠ p → S a = some o → S1 a = some o) → BagAt S1 b m → m + c ≤ most → (∀ r S2, P r → But b S1 S2 → BagAt S2 b (m + c) → Q r S2) → qe W0 (ρ.set i (some d)) S1 Q)
    (hk : ∀ rs S', (∀ r ∈ rs, P r) → rs.length = items.length → But b S S' → BagAt S' b (n + c * items.length) → S' p = some (.lst rs) → k S') : lcW ok (.name i) qYes qe ρ p k items [] (put S p (.lst [])) := by
  have hbp : b ≠ p := hb.ne hp
  refine lc_ok (fun ds acc S1 => ∃ pre, items = pre ++ ds ∧ acc.length = pre.length ∧ (∀ r ∈ acc, P r) ∧ (∀ a o, a ≠ b → a ≠ p → S a = some o → S1 a = some o) ∧ BagAt S1 b (n + c * pre.length) ∧ S1 p = some (.lst acc)) ?_ ?_ ?_ items [] (put S p (.lst [])) ⟨[], rfl, rfl, (fun _ h => by cases h), (fun a o _ h e => by rw [put_ne h]; exact e), by simpa using hb.new hp, put_same⟩
  · rintro ds acc S1 ⟨pre, _, _, _, _, _, e⟩
    exact ⟨hok _, e⟩
  · rintro acc S1 ⟨pre, e1, e2, e3, e4, e5, e6⟩
    rw [List.append_nil] at e1
    subst e1
    exact hk acc S1 e3 e2 (fun a o hn e => e4 a o hn (st_ne e hp) e) e5 e6
  · rintro d ds acc S1 N hN ⟨pre, e1, e2, e3, e4, e5, e6⟩
    have hlen : items.length = pre.length + (ds.length + 1) := by rw [e1, List.length_append, List.length_cons]
    have hc : c * items.length = c * pre.length + c + c * ds.length := by rw [hlen, Nat.mul_add, Nat.mul_add, Nat.mul_one]; omega
    show qe W0 (ρ.set i (some d)) S1 _
    refine he d (by rw [e1]; exact List.mem_append_right _ List.mem_cons_self) S1 _ _ e4 e5 (by omega) fun r S2 hr hB hG => ?_
    have h6 : S2 p = some (.lst acc) := hB.at_ e6 (Ne.symm hbp)
    refine ⟨h6, by omega, hN _ _ ⟨pre ++ [d], by rw [e1, List.append_assoc]; rfl, by rw [List.length_append, List.length_append, e2]; rfl, ?_, ?_, ?_, put_same⟩⟩
    · intro x hx
      rcases List.mem_append.mp hx with hx | hx
      · exact e3 x hx
      · rw [List.mem_singleton.mp hx]; exact hr
    · intro a o h1 h2 e
      rw [put_ne h2]
      exact hB a o h1 (e4 a o h1 h2 e)
    · obtain ⟨xs, g1, g2⟩ := hG
      refine ⟨xs, by rw [put_ne hbp]; exact g1, ?_⟩
      rw [List.length_append, List.length_singleton, Nat.mul_add, Nat.mul_one, ← Nat.add_assoc]
      exact g2
theorem range_len (lo : Int) (n : Nat) : (rangeD lo n).length = n := by simp [rangeD]
/-- texts of at most k signs each -/
theorem join_len (ys : List Str) : (Txt.join ("" : Str) ys).length = (ys.map (·.length)).sum := by
  rw [TL.join_eq, len_tl]
  show (TL.tl (Str.join "" ys)).length = _
  rw [TL.tl_join, show TL.tl ("" : Str) = [] from rfl]
  have key : ∀ ls : List (List Nat), (TL.joinL [] ls).length = (ls.map (·.length)).sum := by
    intro ls
    induction ls with
    | nil => rfl
    | cons l ls ih =>
      cases ls with
      | nil => simp [TL.joinL]
      | cons m ls =>
        have e : TL.joinL [] (l :: m :: ls) = l ++ ([] ++ TL.joinL [] (m :: ls)) := by simp [TL.joinL]
        rw [e, List.length_append, List.nil_append, ih]
        simp only [List.map_cons, List.sum_cons]
  rw [key, List.map_map]
  refine congrArg List.sum (List.map_congr_left fun y _ => ?_)
  exact (len_tl y).symm
theorem strs_of {k : Nat} : ∀ {rs : List D}, (∀ r ∈ rs, ∃ z, r = D.str z ∧ z.length ≤ k) → ∃ ys, strsOf rs = some ys ∧ ys.length = rs.length ∧ (ys.map (·.length)).sum ≤ k * rs.length
  | [], _ => ⟨[], rfl, rfl, by simp⟩
  | r :: rs, h => by
    obtain ⟨z, rfl, hz⟩ := h r List.mem_cons_self
    obtain ⟨ys, h1, h2, h3⟩ := strs_of (rs := rs) fun x hx => h x (List.mem_cons_of_mem _ hx)
    refine ⟨z :: ys, by show (strsOf rs).map (z :: ·) = _; rw [h1]; rfl, by rw [List.length_cons, List.length_cons, h2], ?_⟩
    rw [List.map_cons, List.sum_cons, List.length_cons, Nat.mul_add, Nat.mul_one]
    omega
theorem at_mem {ds : List D} {r : Int} (h0 : 0 ≤ r) (h1 : r < ds.length) : ∃ x, atI ds r = some x ∧ x ∈ ds := by
  obtain ⟨k, rfl⟩ := Int.eq_ofNat_of_zero_le h0
  have hk : k < ds.length := by omega
  exact ⟨ds[k], (atI_n ds k).trans (List.getElem?_eq_getElem hk), List.getElem_mem hk⟩
/-- texts of at most k signs -/
def strsLe (k : Nat) (ds : List D) : Bool := ds.all fun d => match d with
  | .str w => Nat.ble w.length k
  | _ => false
theorem strsLe_at {k : Nat} {ds : List D} (h : strsLe k ds = true) {d : D} (hd : d ∈ ds) : ∃ w, d = .str w ∧ w.length ≤ k := by
  have h1 := List.all_eq_true.mp h d hd
  cases d with
  | str w => exact ⟨w, rfl, Nat.le_of_ble_eq_true h1⟩
  | _ => cases h1
theorem ix_in {a : Addr} {ds : List D} {i : Int} {S : Sto} {Q : QK} (h : S a = some (.lst ds)) (h0 : 0 ≤ i) (h1 : i < ds.length) (q : ∀ x ∈ ds, Q x S) : ixD (.ref a) (.int i) S Q := by
  obtain ⟨x, e, hx⟩ := at_mem h0 h1
  exact ix_lst h e (q x hx)
theorem ix_in_str {w : Str} {i : Int} {S : Sto} {Q : QK} (hw : w.length ≤ sizeLine) (h0 : 0 ≤ i) (h1 : i < w.length) (q : ∀ c ∈ tlS w, Q (.str ⟨#[c]⟩) S) : ixD (.str w) (.int i) S Q := by
  obtain ⟨k, rfl⟩ := Int.eq_ofNat_of_zero_le h0
  have hk : k < (tlS w).length := by rw [len_tl] at h1; omega
  exact ix_str hw ((atI_n _ k).trans (List.getElem?_eq_getElem hk)) (q _ (List.getElem_mem hk))
/-- a text of at most k signs, n the draws, c more at most -/
def gDrawn (k c : Nat) : SpD := fun ds S Q _ => ∃ b n, ds = [.ref b] ∧ BagAt S b n ∧ n + c ≤ most ∧ ∀ w S', w.length ≤ k → But b S S' → BagAt S' b (n + c) → Q (.str w) S'
theorem ty_lst {S : Sto} {a : Addr} {ds : List D} (h : S a = some (.lst ds)) : tyD "list" S (.ref a) := by
  show (match S a with
    | some (.lst _) => "list" = "list"
    | some (.dS _) => "list" = "dict"
    | _ => False)
  rw [h]
theorem app_at {S : Sto} {a : Addr} {xs : List D} {y : D} {Q : QK} (h : S a = some (.lst xs)) (hl : xs.length < sizeLine) (q : Q .non (put S a (.lst (xs ++ [y])))) : appendD (.ref a) [y] S Q := by
  show lstOf S (.ref a) fun a xs => xs.length < sizeLine ∧ Q .non (put S a (.lst (xs ++ [y])))
  exact lstOf_at h ⟨hl, q⟩
theorem rangeD_drop (lo : Int) (n i : Nat) (h : i < n) : (rangeD lo n).drop i = D.int (lo + (i : Int)) :: (rangeD lo n).drop (i + 1) := by
  have hl : i < (rangeD lo n).length := by rw [range_len]; exact h
  rw [List.drop_eq_getElem_cons hl]
  congr 1
  simp [rangeD]
theorem forR_ok {body : QS} {W : WD} {E : EndsD} {v : Nat} {lo : Int} {ok : Sto → Prop} (hok : ∀ S, ok S) (n : Nat) (I : Nat → Env → Sto → Prop) (done : ∀ ρ S, I n ρ S → E.nx ρ S)
    (step : ∀ i, i < n → ∀ N : Env → Sto → Prop, (∀ ρ S, I (i + 1) ρ S → N ρ S) → ∀ ρ S, I i ρ S → body W { E with nx := N, ct := N, bk := E.nx } (ρ.set v (some (.int (lo + (i : Int))))) S) {ρ : Env} {S : Sto} (h : I 0 ρ S) : forW ok (.name v) body W E (rangeD lo n) ρ S := by
  refine for_ok (fun ds ρ S => ∃ i, i ≤ n ∧ ds = (rangeD lo n).drop i ∧ I i ρ S) (fun _ _ _ _ => hok _) ?_ ?_ _ ρ S ⟨0, Nat.zero_le _, rfl, h⟩
  · rintro ρ S ⟨i, hi, e, hI⟩
    have : n ≤ i := by
      have := congrArg List.length e
      rw [List.length_drop, range_len] at this
      simp at this
      omega
    have e2 : i = n := by omega
    subst e2
    exact done ρ S hI
  · rintro d ds N hN ρ S ⟨i, hi, e, hI⟩
    have hlt : i < n := by
      have := congrArg List.length e
      rw [List.length_drop, range_len, List.length_cons] at this
      omega
    rw [rangeD_drop lo n i hlt] at e
    injection e with e1 e2
    subst e1
    exact step i hlt N (fun ρ' S' h' => hN ρ' S' ⟨i + 1, hlt, e2, h'⟩) ρ S hI
theorem Sub.no {S S' : Sto} {p : Addr} (h : Sub S S') (hp : S' p = none) : S p = none := by
  cases e : S p with
  | none => rfl
  | some o => rw [h p o e] at hp; cases hp
theorem Sub.grow {S S' : Sto} {p : Addr} {o : MO} (h : Sub S S') (hp : S' p = none) : Sub S (put S' p o) := h.putR (h.no hp)
theorem sum_ok {S : Sto} {a : Addr} {ds : List D} {ns : List Int} {Q : QK} (h : S a = some (.lst ds)) (h2 : ds = ns.map D.int) (q : Q (.int ns.sum) S) : sumD [.ref a] S Q := by
  show (match (itemsL S (.ref a)).bind intsOf with
    | some bs => Q (.int bs.sum) S
    | none => False)
  rw [itemsL_lst h]
  show (match intsOf ds with
    | some bs => Q (.int bs.sum) S
    | none => False)
  rw [h2, intsOf_map]
  exact q
theorem sl_lst {S : Sto} {a : Addr} {ds : List D} {lo hi : Option Int} {Q : QK} (h : S a = some (.lst ds)) (q : ∀ p, S p = none → Q (.ref p) (put S p (.lst (cutL ds lo hi)))) : slD (.ref a) lo hi S Q := by
  show (match items S (.ref a) with
    | some ds => ∀ p, S p = none → Q (.ref p) (put S p (.lst (cutL ds lo hi)))
    | none => False)
  rw [items_lst h]
  exact q
theorem mul_lst {S : Sto} {a : Addr} {ds : List D} {n : Int} {Q : QK} (h : S a = some (.lst ds)) (hc : CRep ds.length n) (q : ∀ p, S p = none → Q (.ref p) (put S p (.lst (List.replicate n.toNat ds).flatten))) : mulD (.ref a) (.int n) S Q := by
  show (match S a with
    | some (.lst xs) => CRep xs.length n ∧ ∀ p, S p = none → Q (.ref p) (put S p (.lst (List.replicate n.toNat xs).flatten))
    | _ => False)
  rw [h]
  exact ⟨hc, q⟩
end Q

set_option maxHeartbeats 1000000
/-! Q: plain laws of texts: parts, what stands within. -/
namespace Q
open PySem PySem.Spec L2
theorem pre_take {S l : List Nat} (h : TL.pre S l = true) : l.take S.length = S := eq_of_beq h
theorem spl_free {S : List Nat} : ∀ (L acc : List Nat), (∀ k, TL.pre S (L.drop k) = false) → TL.spl S 0 acc L = [acc ++ L]
  | [], acc, _ => by rw [TL.spl_nil, List.append_nil]
  | c :: r, acc, h => by
    rw [TL.spl_miss (h 0), spl_free r (acc ++ [c]) (fun k => h (k + 1)), List.append_assoc]
    rfl
theorem kind_mono {x y : Str} (h : ∀ c ∈ tlS y, c ∈ tlS x) : Builtin.Str.strKind y ≤ Builtin.Str.strKind x := by
  unfold Builtin.Str.strKind
  rw [← Array.all_toList, ← Array.all_toList, ← Array.all_toList, ← Array.all_toList]
  have h1 : ∀ p : Nat → Bool, x.cps.toList.all p = true → y.cps.toList.all p = true := fun p hp => List.all_eq_true.mpr fun c hc => List.all_eq_true.mp hp c (h c hc)
  by_cases a : x.cps.toList.all (fun z => decide (z < 256)) = true
  · rw [if_pos a, if_pos (h1 _ a)]
    exact Nat.le_refl _
  · rw [if_neg a]
    by_cases b : x.cps.toList.all (fun z => decide (z < 65536)) = true
    · rw [if_pos b, if_pos (h1 _ b)]
      split <;> omega
    · rw [if_neg b]
      split
      · omega
      · split <;> omega
theorem split_any (x y : Str) (hy : tlS y ≠ []) : (Txt.split x y).map tlS = TL.spl (tlS y) 0 [] (tlS x) := by
  by_cases hk : Builtin.Str.strKind x < Builtin.Str.strKind y
  · have e : Txt.split x y = [x] := by
      unfold Txt.split
      rw [if_pos (by simp [hk])]
    rw [e, spl_free (tlS x) [] fun k => ?_]
    · rfl
    · cases hp : TL.pre (tlS y) ((tlS x).drop k) with
      | false => rfl
      | true =>
        have h1 := pre_take hp
        have h2 := kind_mono (x := x) (y := y) fun c hc => List.mem_of_mem_drop (List.mem_of_mem_take (by rw [h1]; exact hc))
        omega
  · exact TL.split_spl x y hy hk
theorem pre_app {S l m : List Nat} (h : TL.pre S l = true) : TL.pre S (l ++ m) = true := by
  have e := pre_take h
  have hl : S.length ≤ l.length := by
    have := congrArg List.length e
    rw [List.length_take] at this
    omega
  unfold TL.pre at h ⊢
  rw [List.take_append_of_le_length hl]
  exact h
/-- what the parts are: none holds the separator, put together they are the whole, and they are so long -/
theorem spl_spec {S : List Nat} (hS : S ≠ []) : ∀ (n : Nat) (L acc : List Nat), L.length ≤ n → (∀ k, k < acc.length → TL.pre S ((acc ++ L).drop k) = false) →
    (∀ p ∈ TL.spl S 0 acc L, ∀ k, TL.pre S (p.drop k) = false) ∧ TL.joinL S (TL.spl S 0 acc L) = acc ++ L ∧ TL.spl S 0 acc L ≠ [] ∧
      ((TL.spl S 0 acc L).map List.length).sum + ((TL.spl S 0 acc L).length - 1) * S.length = acc.length + L.length := by
  intro n
  induction n with
  | zero =>
    intro L acc hn h
    have : L = [] := List.length_eq_zero_iff.mp (by omega)
    subst this
    rw [TL.spl_nil]
    refine ⟨fun p hp k => ?_, by rw [List.append_nil]; rfl, List.cons_ne_nil _ _, by simp⟩
    rw [List.mem_singleton] at hp
    subst hp
    by_cases hk : k < p.length
    · have := h k hk
      rwa [List.append_nil] at this
    · rw [List.drop_of_length_le (by omega)]
      exact TL.pre_nil hS
  | succ n ih =>
    intro L acc hn h
    cases L with
    | nil => exact (show _ from by
        rw [TL.spl_nil]
        refine ⟨fun p hp k => ?_, by rw [List.append_nil]; rfl, List.cons_ne_nil _ _, by simp⟩
        rw [List.mem_singleton] at hp
        subst hp
        by_cases hk : k < p.length
        · have := h k hk
          rwa [List.append_nil] at this
        · rw [List.drop_of_length_le (by omega)]
          exact TL.pre_nil hS)
    | cons c r =>
      rw [List.length_cons] at hn
      have hl : 0 < S.length := List.length_pos_iff.mpr hS
      cases hp : TL.pre S (c :: r) with
      | true =>
        have e1 : TL.spl S 0 acc (c :: r) = acc :: TL.spl S 0 [] ((c :: r).drop S.length) := by
          have := TL.spl_at (L := c :: r) (c := 0) (acc := acc) hS hp
          rw [List.drop_zero, Nat.zero_add] at this
          exact this
        have hle : S.length ≤ (c :: r).length := by
          have := congrArg List.length (pre_take hp)
          rw [List.length_take] at this
          omega
        have hd : ((c :: r).drop S.length).length = (c :: r).length - S.length := List.length_drop
        rw [List.length_cons] at hd hle
        obtain ⟨i1, i2, i3, i4⟩ := ih ((c :: r).drop S.length) [] (by omega) (fun k hk => by simp at hk)
        rw [e1]
        refine ⟨fun p hp2 k => ?_, ?_, List.cons_ne_nil _ _, ?_⟩
        · rcases List.mem_cons.mp hp2 with hp2 | hp2
          · subst hp2
            by_cases hk : k < p.length
            · cases hq : TL.pre S (p.drop k) with
              | false => rfl
              | true =>
                have := pre_app (m := c :: r) hq
                rw [← List.drop_append_of_le_length (by omega), h k hk] at this
                cases this
            · rw [List.drop_of_length_le (by omega)]
              exact TL.pre_nil hS
          · exact i1 p hp2 k
        · cases q : TL.spl S 0 [] ((c :: r).drop S.length) with
          | nil => exact absurd q i3
          | cons a t =>
            rw [q] at i2
            show acc ++ (S ++ TL.joinL S (a :: t)) = _
            rw [i2, List.nil_append]
            have e2 : S ++ (c :: r).drop S.length = c :: r := by
              have := List.take_append_drop S.length (c :: r)
              rwa [pre_take hp] at this
            rw [e2]
        · have hpos : 0 < (TL.spl S 0 [] ((c :: r).drop S.length)).length := List.length_pos_iff.mpr i3
          rw [List.map_cons, List.sum_cons, List.length_cons, Nat.add_sub_cancel]
          rw [List.length_nil, Nat.zero_add, hd] at i4
          obtain ⟨j, hj⟩ : ∃ j, (TL.spl S 0 [] ((c :: r).drop S.length)).length = j + 1 := ⟨_, (Nat.succ_pred_eq_of_pos hpos).symm⟩
          rw [hj, Nat.add_sub_cancel] at i4
          rw [hj, Nat.add_mul, Nat.one_mul, List.length_cons]
          omega
      | false =>
        rw [TL.spl_miss hp]
        have hk2 : ∀ k, k < (acc ++ [c]).length → TL.pre S ((acc ++ [c] ++ r).drop k) = false := fun k hk => by
          rw [List.append_assoc]
          show TL.pre S ((acc ++ c :: r).drop k) = false
          rw [List.length_append, List.length_singleton] at hk
          by_cases hk2 : k < acc.length
          · exact h k hk2
          · have : k = acc.length := by omega
            rw [this, List.drop_left]
            exact hp
        obtain ⟨i1, i2, i3, i4⟩ := ih r (acc ++ [c]) (by omega) hk2
        refine ⟨i1, by rw [i2, List.append_assoc]; rfl, i3, ?_⟩
        rw [i4, List.length_append, List.length_singleton, List.length_cons]
        omega
/-- y stands within x -/
theorem inS_false {y x : Str} (hy : tlS y ≠ []) (h : ∀ k, TL.pre (tlS y) ((tlS x).drop k) = false) : inS y x = false := by
  unfold inS
  rcases StrLaws.occ_head x y 1 (Nat.le_refl _) with ⟨e, _⟩ | ⟨i, r, e, ha, _⟩
  · rw [e]; rfl
  · have := (TL.at_iff (x := x) (y := y) hy i).mp ha
    rw [show TL.pre (TL.tl y) ((TL.tl x).drop i) = false from h i] at this
    cases this
theorem inS_true {y x : Str} (hy : tlS y ≠ []) {k : Nat} (h : TL.pre (tlS y) ((tlS x).drop k) = true) : inS y x = true := by
  unfold inS
  rcases StrLaws.occ_head x y 1 (Nat.le_refl _) with ⟨_, hn⟩ | ⟨i, r, e, ha, _⟩
  · exact absurd ((TL.at_iff (x := x) (y := y) hy k).mpr h) (hn k)
  · rw [e]; rfl
theorem digitsVal_snoc (l : List Nat) (c : Nat) : NumText.digitsVal (l ++ [c]) = NumText.digitsVal l * 10 + (c - 48) := by
  unfold NumText.digitsVal
  rw [List.foldl_append]
  rfl
theorem digitsVal_lt (l : List Nat) (h : ∀ c ∈ l, 48 ≤ c ∧ c ≤ 57) : NumText.digitsVal l < 10 ^ l.length := by
  have key : ∀ r : List Nat, (∀ c ∈ r, 48 ≤ c ∧ c ≤ 57) → NumText.digitsVal r.reverse < 10 ^ r.length := by
    intro r
    induction r with
    | nil => intro _; decide
    | cons c r ih =>
      intro h
      have h1 := ih fun d hd => h d (List.mem_cons_of_mem _ hd)
      have h2 := h c List.mem_cons_self
      rw [List.reverse_cons, digitsVal_snoc, List.length_cons, Nat.pow_succ]
      omega
  have := key l.reverse fun c hc => h c (List.mem_reverse.mp hc)
  rwa [List.reverse_reverse, List.length_reverse] at this
end Q

set_option maxHeartbeats 1000000
/-! Q: the end of a law. -/
namespace Q
open PySem PySem.Spec L2
theorem cx_false {P : Program} {w : World} {H : Hp} {s s' : Shared} {e : Value} (h : CX P w [] H s (fun _ _ _ => False) e s') : False := by
  obtain ⟨_, _, _, _, _, _, _, _, _, _, _, _, z⟩ := h
  exact z
theorem walk_ofX {l : PySem.W.OpenLaw} {n k : Nat} {q : Program} {loose : List Str} {XP : (Str → Option Value) → Heap → Prop} {YP : World → Heap → Prop} {d : DefRec} {x : Str}
    (hn : l.most = some n) (hn2 : n ≤ sizeLine) (hdf : d.params.defaults = []) (hr : Room k callerA)
    (F : ∀ (w : World) (mg : Str → Option Value) (fa : Addr) (h : Heap), YP w h → h.Ns mainGlobals mg → mg d.name = some (.ref fa) →
      ∃ (K : PySem.W.Frag) (fd : FuncData) (g : SpD), K.In h ∧ (∀ (s : Shared) (u : Value), BindsTo s fd ⟨[u], []⟩ [(x, u)]) ∧
        (∀ ns : List Int, ns.length ≤ n → g [.kl (ns.map .int)] (fun _ => none) (fun v _ => v = .bl true) fun _ _ => False) ∧
        ∀ base : Heap, K.In base → base.Ns mainGlobals mg → FnOk l.prog w K mg base (CX l.prog w) k fa fd [x] (spOf K g)) :
    PySem.W.WalkO q loose XP YP l.row.toRowW d [] (fun f vs => PySem.call f vs) := by
  refine Att.attach_call hn hdf fun w s₀ s₁ mg mb fa o pm cd doc a vs ns G Y ho hd hcd hmg hobj hints hlen hg => ?_
  obtain ⟨K, fd, g, KX, hb, hsp, hF⟩ := F w mg fa _ Y G.T.g hmg
  refine law_call KX G.T.g G.T.b G.T.builtins G.T.nolimit hg hobj hints (Nat.le_trans hlen hn2) hr hF hb (fun H hO hS => ?_) fun H e s' => cx_false
  have hS2 : SqF K H a (ns.map V.int) := by
    rcases hS with (h | h) | h
    · rcases hO a with z | ⟨o, xs, z⟩
      · rw [z] at h; cases h
      · rw [z] at h; cases h
    · exact .inl h
    · exact .inr h
  refine ⟨[.kl (ns.map .int)], fun _ => none, _, _, (fun a o z => by cases z), .cons ⟨a, _, rfl, hS2, Reps.ofInts ns⟩ .nil, hsp ns hlen, fun d S' v H' _ _ r e => ?_, fun ev S' cls dd H' _ _ _ z => z.elim⟩
  subst e
  exact r
end Q

set_option maxHeartbeats 1000000

namespace G
open PySem PySem.Spec L2 Q
def top (i : Nat) : Stmt := PySem.Challenge.pw_stemkeep_k34_pieces_and_parts.main.body.getD i (.Pass ⟨0, 0, 0, 0⟩)
abbrev s_signs_ahead : Stmt := top 20
abbrev s_number_of : Stmt := top 21
abbrev s_number_text : Stmt := top 22
abbrev s_piece_of : Stmt := top 39
abbrev s_part_of : Stmt := top 40
abbrev s_of_worths : Stmt := top 41
abbrev s_not_too_long : Stmt := top 42
abbrev s_Arrays___init__ : Stmt := inClass (top 50) 0
abbrev s_Dealings___init__ : Stmt := inClass (top 53) 0
abbrev s_Scene___init__ : Stmt := inClass (top 43) 0
abbrev s_Scene_reckoned : Stmt := inClass (top 43) 5
abbrev s_Scene_reckon : Stmt := inClass (top 43) 3
abbrev s__law_cell_at : Stmt := top 55
abbrev s__law_bag : Stmt := top 56
abbrev s__law_draw : Stmt := top 57
abbrev s__law_key : Stmt := top 58
abbrev s__law_worth : Stmt := top 59
abbrev s__law_number : Stmt := top 60
abbrev s__law_piece : Stmt := top 61
abbrev s__law_text : Stmt := top 62
abbrev s__law_nth : Stmt := top 63
abbrev s__law_pieces_right : Stmt := top 64
abbrev s__law_part_right : Stmt := top 65
abbrev s_law : Stmt := top 66
def d_signs_ahead : He.DefD := ⟨("signs_ahead", none), "signs_ahead", "signs_ahead", defArgs s_signs_ahead, defBody s_signs_ahead, defScope s_signs_ahead, [], []⟩
def d_number_of : He.DefD := ⟨("number_of", none), "number_of", "number_of", defArgs s_number_of, defBody s_number_of, defScope s_number_of, [], []⟩
def d_number_text : He.DefD := ⟨("number_text", none), "number_text", "number_text", defArgs s_number_text, defBody s_number_text, defScope s_number_text, [], []⟩
def d_piece_of : He.DefD := ⟨("piece_of", none), "piece_of", "piece_of", defArgs s_piece_of, defBody s_piece_of, defScope s_piece_of, [], []⟩
def d_part_of : He.DefD := ⟨("part_of", none), "part_of", "part_of", defArgs s_part_of, defBody s_part_of, defScope s_part_of, [], []⟩
def d_of_worths : He.DefD := ⟨("of_worths", none), "of_worths", "of_worths", defArgs s_of_worths, defBody s_of_worths, defScope s_of_worths, [], []⟩
def d_not_too_long : He.DefD := ⟨("not_too_long", none), "not_too_long", "not_too_long", defArgs s_not_too_long, defBody s_not_too_long, defScope s_not_too_long, [], []⟩
def d_Arrays___init__ : He.DefD := ⟨("Arrays", some "__init__"), "__init__", "Arrays.__init__", defArgs s_Arrays___init__, defBody s_Arrays___init__, defScope s_Arrays___init__, [], []⟩
def d_Dealings___init__ : He.DefD := ⟨("Dealings", some "__init__"), "__init__", "Dealings.__init__", defArgs s_Dealings___init__, defBody s_Dealings___init__, defScope s_Dealings___init__, [], []⟩
def d_Scene___init__ : He.DefD := ⟨("Scene", some "__init__"), "__init__", "Scene.__init__", defArgs s_Scene___init__, defBody s_Scene___init__, defScope s_Scene___init__, [(.int (0))], []⟩
def d_Scene_reckoned : He.DefD := ⟨("Scene", some "reckoned"), "reckoned", "Scene.reckoned", defArgs s_Scene_reckoned, defBody s_Scene_reckoned, defScope s_Scene_reckoned, [], []⟩
def d_Scene_reckon : He.DefD := ⟨("Scene", some "reckon"), "reckon", "Scene.reckon", defArgs s_Scene_reckon, defBody s_Scene_reckon, defScope s_Scene_reckon, [], []⟩
def d__law_cell_at : He.DefD := ⟨("_law_cell_at", none), "_law_cell_at", "_law_cell_at", defArgs s__law_cell_at, defBody s__law_cell_at, defScope s__law_cell_at, [], []⟩
def d__law_bag : He.DefD := ⟨("_law_bag", none), "_law_bag", "_law_bag", defArgs s__law_bag, defBody s__law_bag, defScope s__law_bag, [], []⟩
def d__law_draw : He.DefD := ⟨("_law_draw", none), "_law_draw", "_law_draw", defArgs s__law_draw, defBody s__law_draw, defScope s__law_draw, [], []⟩
def d__law_key : He.DefD := ⟨("_law_key", none), "_law_key", "_law_key", defArgs s__law_key, defBody s__law_key, defScope s__law_key, [], []⟩
def d__law_worth : He.DefD := ⟨("_law_worth", none), "_law_worth", "_law_worth", defArgs s__law_worth, defBody s__law_worth, defScope s__law_worth, [], []⟩
def d__law_number : He.DefD := ⟨("_law_number", none), "_law_number", "_law_number", defArgs s__law_number, defBody s__law_number, defScope s__law_number, [], []⟩
def d__law_piece : He.DefD := ⟨("_law_piece", none), "_law_piece", "_law_piece", defArgs s__law_piece, defBody s__law_piece, defScope s__law_piece, [], []⟩
def d__law_text : He.DefD := ⟨("_law_text", none), "_law_text", "_law_text", defArgs s__law_text, defBody s__law_text, defScope s__law_text, [], []⟩
def d__law_nth : He.DefD := ⟨("_law_nth", none), "_law_nth", "_law_nth", defArgs s__law_nth, defBody s__law_nth, defScope s__law_nth, [], []⟩
def d__law_pieces_right : He.DefD := ⟨("_law_pieces_right", none), "_law_pieces_right", "_law_pieces_right", defArgs s__law_pieces_right, defBody s__law_pieces_right, defScope s__law_pieces_right, [], []⟩
def d__law_part_right : He.DefD := ⟨("_law_part_right", none), "_law_part_right", "_law_part_right", defArgs s__law_part_right, defBody s__law_part_right, defScope s__law_part_right, [], []⟩
def d_law : He.DefD := ⟨("law", none), "law", "law", defArgs s_law, defBody s_law, defScope s_law, [], []⟩
def fn : List He.DefD := d_signs_ahead :: d_number_of :: d_number_text :: d_piece_of :: d_part_of :: d_of_worths :: d_not_too_long :: d_Arrays___init__ :: d_Dealings___init__ :: d_Scene___init__ :: d_Scene_reckoned :: d_Scene_reckon :: d__law_cell_at :: d__law_bag :: d__law_draw :: d__law_key :: d__law_worth :: d__law_number :: d__law_piece :: d__law_text :: d__law_nth :: d__law_pieces_right :: d__law_part_right :: d_law :: []
def fa : List He.Fa := .glo "signs_ahead" :: .glo "number_of" :: .glo "number_text" :: .glo "piece_of" :: .glo "part_of" :: .glo "of_worths" :: .glo "not_too_long" :: .glo "Arrays" :: .cls "Arrays" :: .noat "Arrays" "nodes" :: .mkr "Arrays" :: .glo "Dealings" :: .cls "Dealings" :: .noat "Dealings" "begun" :: .noat "Dealings" "shelf" :: .noat "Dealings" "touches" :: .mkr "Dealings" :: .glo "Scene" :: .cls "Scene" :: .noat "Scene" "dealings" :: .noat "Scene" "job" :: .noat "Scene" "latest" :: .noat "Scene" "own" :: .mkr "Scene" :: .meth "Scene" "reckoned" :: .meth "Scene" "reckon" :: .glo "_law_cell_at" :: .glo "_law_bag" :: .glo "_law_draw" :: .glo "_law_key" :: .glo "_law_worth" :: .glo "_law_number" :: .glo "_law_piece" :: .glo "_law_text" :: .glo "_law_nth" :: .glo "_law_pieces_right" :: .glo "_law_part_right" :: .glo "law" :: .free "len" :: .free "int" :: .free "str" :: .free "max" :: .free "range" :: .free "isinstance" :: .free "sum" :: .free "min" :: .str "FIGURES" "0123456789" :: .int "MOST_LONG" 2000 :: .glo "PLACES" :: []
def ts : List He.Tab := []
def ex : FxQ := (fun K => He.tupB K "PLACES" ((("var" : PySem.Str) :: ("at" : PySem.Str) :: ("short" : PySem.Str) :: []).map He.Dv.str)) :: []
abbrev TT (w : World) (K : PySem.W.Frag) (mg : Str → Option Value) : Prop := Tx fa fn ts ex w K mg
abbrev R : PySem.W.OpenRow := PySem.W.OpenLaw.row PySem.Challenge.rw_stemkeep_k34_pieces_and_parts
abbrev P : Program := R.prog
section
variable {w : World} {K : PySem.W.Frag} {mg : Str → Option Value}
theorem gl_signs_ahead (T : TT w K mg) : mg "signs_ahead" = some (.ref (He.ga K "signs_ahead")) := T.glo (x := "signs_ahead") (T.ft (f := .glo "signs_ahead") 0)
theorem gl_number_of (T : TT w K mg) : mg "number_of" = some (.ref (He.ga K "number_of")) := T.glo (x := "number_of") (T.ft (f := .glo "number_of") 1)
theorem gl_number_text (T : TT w K mg) : mg "number_text" = some (.ref (He.ga K "number_text")) := T.glo (x := "number_text") (T.ft (f := .glo "number_text") 2)
theorem gl_piece_of (T : TT w K mg) : mg "piece_of" = some (.ref (He.ga K "piece_of")) := T.glo (x := "piece_of") (T.ft (f := .glo "piece_of") 3)
theorem gl_part_of (T : TT w K mg) : mg "part_of" = some (.ref (He.ga K "part_of")) := T.glo (x := "part_of") (T.ft (f := .glo "part_of") 4)
theorem gl_of_worths (T : TT w K mg) : mg "of_worths" = some (.ref (He.ga K "of_worths")) := T.glo (x := "of_worths") (T.ft (f := .glo "of_worths") 5)
theorem gl_not_too_long (T : TT w K mg) : mg "not_too_long" = some (.ref (He.ga K "not_too_long")) := T.glo (x := "not_too_long") (T.ft (f := .glo "not_too_long") 6)
theorem gl_Arrays (T : TT w K mg) : mg "Arrays" = some (.ref (He.ga K "Arrays")) := T.glo (x := "Arrays") (T.ft (f := .glo "Arrays") 7)
theorem cl_Arrays (T : TT w K mg) : Cls K (He.ga K "Arrays") := He.cls_ok (T.ft (f := .cls "Arrays") 8)
theorem at_Arrays_nodes (T : TT w K mg) : AtOk K (He.ga K "Arrays") "nodes" := ⟨cl_Arrays T, He.noat_ok (T.ft (f := .noat "Arrays" "nodes") 9)⟩
theorem mk_Arrays (T : TT w K mg) : Mk K (He.ga K "Arrays") (He.ma K (He.ga K "Arrays") "__init__") := He.mkr_ok (T.ft (f := .mkr "Arrays") 10)
theorem gl_Dealings (T : TT w K mg) : mg "Dealings" = some (.ref (He.ga K "Dealings")) := T.glo (x := "Dealings") (T.ft (f := .glo "Dealings") 11)
theorem cl_Dealings (T : TT w K mg) : Cls K (He.ga K "Dealings") := He.cls_ok (T.ft (f := .cls "Dealings") 12)
theorem at_Dealings_begun (T : TT w K mg) : AtOk K (He.ga K "Dealings") "begun" := ⟨cl_Dealings T, He.noat_ok (T.ft (f := .noat "Dealings" "begun") 13)⟩
theorem at_Dealings_shelf (T : TT w K mg) : AtOk K (He.ga K "Dealings") "shelf" := ⟨cl_Dealings T, He.noat_ok (T.ft (f := .noat "Dealings" "shelf") 14)⟩
theorem at_Dealings_touches (T : TT w K mg) : AtOk K (He.ga K "Dealings") "touches" := ⟨cl_Dealings T, He.noat_ok (T.ft (f := .noat "Dealings" "touches") 15)⟩
theorem mk_Dealings (T : TT w K mg) : Mk K (He.ga K "Dealings") (He.ma K (He.ga K "Dealings") "__init__") := He.mkr_ok (T.ft (f := .mkr "Dealings") 16)
theorem gl_Scene (T : TT w K mg) : mg "Scene" = some (.ref (He.ga K "Scene")) := T.glo (x := "Scene") (T.ft (f := .glo "Scene") 17)
theorem cl_Scene (T : TT w K mg) : Cls K (He.ga K "Scene") := He.cls_ok (T.ft (f := .cls "Scene") 18)
theorem at_Scene_dealings (T : TT w K mg) : AtOk K (He.ga K "Scene") "dealings" := ⟨cl_Scene T, He.noat_ok (T.ft (f := .noat "Scene" "dealings") 19)⟩
theorem at_Scene_job (T : TT w K mg) : AtOk K (He.ga K "Scene") "job" := ⟨cl_Scene T, He.noat_ok (T.ft (f := .noat "Scene" "job") 20)⟩
theorem at_Scene_latest (T : TT w K mg) : AtOk K (He.ga K "Scene") "latest" := ⟨cl_Scene T, He.noat_ok (T.ft (f := .noat "Scene" "latest") 21)⟩
theorem at_Scene_own (T : TT w K mg) : AtOk K (He.ga K "Scene") "own" := ⟨cl_Scene T, He.noat_ok (T.ft (f := .noat "Scene" "own") 22)⟩
theorem mk_Scene (T : TT w K mg) : Mk K (He.ga K "Scene") (He.ma K (He.ga K "Scene") "__init__") := He.mkr_ok (T.ft (f := .mkr "Scene") 23)
theorem me_Scene_reckoned (T : TT w K mg) : Meth K (He.ga K "Scene") "reckoned" (He.ma K (He.ga K "Scene") "reckoned") := He.meth_ok (T.ft (f := .meth "Scene" "reckoned") 24)
theorem me_Scene_reckon (T : TT w K mg) : Meth K (He.ga K "Scene") "reckon" (He.ma K (He.ga K "Scene") "reckon") := He.meth_ok (T.ft (f := .meth "Scene" "reckon") 25)
theorem gl__law_cell_at (T : TT w K mg) : mg "_law_cell_at" = some (.ref (He.ga K "_law_cell_at")) := T.glo (x := "_law_cell_at") (T.ft (f := .glo "_law_cell_at") 26)
theorem gl__law_bag (T : TT w K mg) : mg "_law_bag" = some (.ref (He.ga K "_law_bag")) := T.glo (x := "_law_bag") (T.ft (f := .glo "_law_bag") 27)
theorem gl__law_draw (T : TT w K mg) : mg "_law_draw" = some (.ref (He.ga K "_law_draw")) := T.glo (x := "_law_draw") (T.ft (f := .glo "_law_draw") 28)
theorem gl__law_key (T : TT w K mg) : mg "_law_key" = some (.ref (He.ga K "_law_key")) := T.glo (x := "_law_key") (T.ft (f := .glo "_law_key") 29)
theorem gl__law_worth (T : TT w K mg) : mg "_law_worth" = some (.ref (He.ga K "_law_worth")) := T.glo (x := "_law_worth") (T.ft (f := .glo "_law_worth") 30)
theorem gl__law_number (T : TT w K mg) : mg "_law_number" = some (.ref (He.ga K "_law_number")) := T.glo (x := "_law_number") (T.ft (f := .glo "_law_number") 31)
theorem gl__law_piece (T : TT w K mg) : mg "_law_piece" = some (.ref (He.ga K "_law_piece")) := T.glo (x := "_law_piece") (T.ft (f := .glo "_law_piece") 32)
theorem gl__law_text (T : TT w K mg) : mg "_law_text" = some (.ref (He.ga K "_law_text")) := T.glo (x := "_law_text") (T.ft (f := .glo "_law_text") 33)
theorem gl__law_nth (T : TT w K mg) : mg "_law_nth" = some (.ref (He.ga K "_law_nth")) := T.glo (x := "_law_nth") (T.ft (f := .glo "_law_nth") 34)
theorem gl__law_pieces_right (T : TT w K mg) : mg "_law_pieces_right" = some (.ref (He.ga K "_law_pieces_right")) := T.glo (x := "_law_pieces_right") (T.ft (f := .glo "_law_pieces_right") 35)
theorem gl__law_part_right (T : TT w K mg) : mg "_law_part_right" = some (.ref (He.ga K "_law_part_right")) := T.glo (x := "_law_part_right") (T.ft (f := .glo "_law_part_right") 36)
theorem gl_law (T : TT w K mg) : mg "law" = some (.ref (He.ga K "law")) := T.glo (x := "law") (T.ft (f := .glo "law") 37)
theorem n_len (T : TT w K mg) : mg "len" = none := T.free (x := "len") (T.ft (f := .free "len") 38)
theorem n_int (T : TT w K mg) : mg "int" = none := T.free (x := "int") (T.ft (f := .free "int") 39)
theorem n_str (T : TT w K mg) : mg "str" = none := T.free (x := "str") (T.ft (f := .free "str") 40)
theorem n_max (T : TT w K mg) : mg "max" = none := T.free (x := "max") (T.ft (f := .free "max") 41)
theorem n_range (T : TT w K mg) : mg "range" = none := T.free (x := "range") (T.ft (f := .free "range") 42)
theorem n_isinstance (T : TT w K mg) : mg "isinstance" = none := T.free (x := "isinstance") (T.ft (f := .free "isinstance") 43)
theorem n_sum (T : TT w K mg) : mg "sum" = none := T.free (x := "sum") (T.ft (f := .free "sum") 44)
theorem n_min (T : TT w K mg) : mg "min" = none := T.free (x := "min") (T.ft (f := .free "min") 45)
theorem c_FIGURES (T : TT w K mg) : Con K mg "FIGURES" (.str "0123456789") := T.cstr (x := "FIGURES") (z := "0123456789") (T.ft (f := .str "FIGURES" "0123456789") 46)
theorem c_MOST_LONG (T : TT w K mg) : Con K mg "MOST_LONG" (.int 2000) := T.cint (x := "MOST_LONG") (i := 2000) (T.ft (f := .int "MOST_LONG" 2000) 47)
theorem c_PLACES (T : TT w K mg) : Con K mg "PLACES" (.tup ((("var" : PySem.Str) :: ("at" : PySem.Str) :: ("short" : PySem.Str) :: []).map D.str)) := T.ctup (x := "PLACES") (T.ft (f := .glo "PLACES") 48) (T.xf (f := (fun K => He.tupB K "PLACES" ((("var" : PySem.Str) :: ("at" : PySem.Str) :: ("short" : PySem.Str) :: []).map He.Dv.str))) 0)
theorem fd_signs_ahead (T : TT w K mg) : ∃ fd, FunD K "signs_ahead" "signs_ahead" (defArgs s_signs_ahead) (defBody s_signs_ahead) (defScope s_signs_ahead) [] [] (He.fAd K d_signs_ahead.at_) fd := T.d.def_ 0 (d := d_signs_ahead) rfl
theorem fd_number_of (T : TT w K mg) : ∃ fd, FunD K "number_of" "number_of" (defArgs s_number_of) (defBody s_number_of) (defScope s_number_of) [] [] (He.fAd K d_number_of.at_) fd := T.d.def_ 1 (d := d_number_of) rfl
theorem fd_number_text (T : TT w K mg) : ∃ fd, FunD K "number_text" "number_text" (defArgs s_number_text) (defBody s_number_text) (defScope s_number_text) [] [] (He.fAd K d_number_text.at_) fd := T.d.def_ 2 (d := d_number_text) rfl
theorem fd_piece_of (T : TT w K mg) : ∃ fd, FunD K "piece_of" "piece_of" (defArgs s_piece_of) (defBody s_piece_of) (defScope s_piece_of) [] [] (He.fAd K d_piece_of.at_) fd := T.d.def_ 3 (d := d_piece_of) rfl
theorem fd_part_of (T : TT w K mg) : ∃ fd, FunD K "part_of" "part_of" (defArgs s_part_of) (defBody s_part_of) (defScope s_part_of) [] [] (He.fAd K d_part_of.at_) fd := T.d.def_ 4 (d := d_part_of) rfl
theorem fd_of_worths (T : TT w K mg) : ∃ fd, FunD K "of_worths" "of_worths" (defArgs s_of_worths) (defBody s_of_worths) (defScope s_of_worths) [] [] (He.fAd K d_of_worths.at_) fd := T.d.def_ 5 (d := d_of_worths) rfl
theorem fd_not_too_long (T : TT w K mg) : ∃ fd, FunD K "not_too_long" "not_too_long" (defArgs s_not_too_long) (defBody s_not_too_long) (defScope s_not_too_long) [] [] (He.fAd K d_not_too_long.at_) fd := T.d.def_ 6 (d := d_not_too_long) rfl
theorem fd_Arrays___init__ (T : TT w K mg) : ∃ fd, FunD K "__init__" "Arrays.__init__" (defArgs s_Arrays___init__) (defBody s_Arrays___init__) (defScope s_Arrays___init__) [] [] (He.fAd K d_Arrays___init__.at_) fd := T.d.def_ 7 (d := d_Arrays___init__) rfl
theorem fd_Dealings___init__ (T : TT w K mg) : ∃ fd, FunD K "__init__" "Dealings.__init__" (defArgs s_Dealings___init__) (defBody s_Dealings___init__) (defScope s_Dealings___init__) [] [] (He.fAd K d_Dealings___init__.at_) fd := T.d.def_ 8 (d := d_Dealings___init__) rfl
theorem fd_Scene___init__ (T : TT w K mg) : ∃ fd, FunD K "__init__" "Scene.__init__" (defArgs s_Scene___init__) (defBody s_Scene___init__) (defScope s_Scene___init__) [(.int (0))] [] (He.fAd K d_Scene___init__.at_) fd := T.d.def_ 9 (d := d_Scene___init__) rfl
theorem fd_Scene_reckoned (T : TT w K mg) : ∃ fd, FunD K "reckoned" "Scene.reckoned" (defArgs s_Scene_reckoned) (defBody s_Scene_reckoned) (defScope s_Scene_reckoned) [] [] (He.fAd K d_Scene_reckoned.at_) fd := T.d.def_ 10 (d := d_Scene_reckoned) rfl
theorem fd_Scene_reckon (T : TT w K mg) : ∃ fd, FunD K "reckon" "Scene.reckon" (defArgs s_Scene_reckon) (defBody s_Scene_reckon) (defScope s_Scene_reckon) [] [] (He.fAd K d_Scene_reckon.at_) fd := T.d.def_ 11 (d := d_Scene_reckon) rfl
theorem fd__law_cell_at (T : TT w K mg) : ∃ fd, FunD K "_law_cell_at" "_law_cell_at" (defArgs s__law_cell_at) (defBody s__law_cell_at) (defScope s__law_cell_at) [] [] (He.fAd K d__law_cell_at.at_) fd := T.d.def_ 12 (d := d__law_cell_at) rfl
theorem fd__law_bag (T : TT w K mg) : ∃ fd, FunD K "_law_bag" "_law_bag" (defArgs s__law_bag) (defBody s__law_bag) (defScope s__law_bag) [] [] (He.fAd K d__law_bag.at_) fd := T.d.def_ 13 (d := d__law_bag) rfl
theorem fd__law_draw (T : TT w K mg) : ∃ fd, FunD K "_law_draw" "_law_draw" (defArgs s__law_draw) (defBody s__law_draw) (defScope s__law_draw) [] [] (He.fAd K d__law_draw.at_) fd := T.d.def_ 14 (d := d__law_draw) rfl
theorem fd__law_key (T : TT w K mg) : ∃ fd, FunD K "_law_key" "_law_key" (defArgs s__law_key) (defBody s__law_key) (defScope s__law_key) [] [] (He.fAd K d__law_key.at_) fd := T.d.def_ 15 (d := d__law_key) rfl
theorem fd__law_worth (T : TT w K mg) : ∃ fd, FunD K "_law_worth" "_law_worth" (defArgs s__law_worth) (defBody s__law_worth) (defScope s__law_worth) [] [] (He.fAd K d__law_worth.at_) fd := T.d.def_ 16 (d := d__law_worth) rfl
theorem fd__law_number (T : TT w K mg) : ∃ fd, FunD K "_law_number" "_law_number" (defArgs s__law_number) (defBody s__law_number) (defScope s__law_number) [] [] (He.fAd K d__law_number.at_) fd := T.d.def_ 17 (d := d__law_number) rfl
theorem fd__law_piece (T : TT w K mg) : ∃ fd, FunD K "_law_piece" "_law_piece" (defArgs s__law_piece) (defBody s__law_piece) (defScope s__law_piece) [] [] (He.fAd K d__law_piece.at_) fd := T.d.def_ 18 (d := d__law_piece) rfl
theorem fd__law_text (T : TT w K mg) : ∃ fd, FunD K "_law_text" "_law_text" (defArgs s__law_text) (defBody s__law_text) (defScope s__law_text) [] [] (He.fAd K d__law_text.at_) fd := T.d.def_ 19 (d := d__law_text) rfl
theorem fd__law_nth (T : TT w K mg) : ∃ fd, FunD K "_law_nth" "_law_nth" (defArgs s__law_nth) (defBody s__law_nth) (defScope s__law_nth) [] [] (He.fAd K d__law_nth.at_) fd := T.d.def_ 20 (d := d__law_nth) rfl
theorem fd__law_pieces_right (T : TT w K mg) : ∃ fd, FunD K "_law_pieces_right" "_law_pieces_right" (defArgs s__law_pieces_right) (defBody s__law_pieces_right) (defScope s__law_pieces_right) [] [] (He.fAd K d__law_pieces_right.at_) fd := T.d.def_ 21 (d := d__law_pieces_right) rfl
theorem fd__law_part_right (T : TT w K mg) : ∃ fd, FunD K "_law_part_right" "_law_part_right" (defArgs s__law_part_right) (defBody s__law_part_right) (defScope s__law_part_right) [] [] (He.fAd K d__law_part_right.at_) fd := T.d.def_ 22 (d := d__law_part_right) rfl
theorem fd_law (T : TT w K mg) : ∃ fd, FunD K "law" "law" (defArgs s_law) (defBody s_law) (defScope s_law) [] [] (He.fAd K d_law.at_) fd := T.d.def_ 23 (d := d_law) rfl
end
end G

set_option maxHeartbeats 1000000
namespace G
open PySem PySem.Spec L2 Q
section
variable {w : World} {K : PySem.W.Frag} {mg : Str → Option Value} {base : Heap}
def N_signs_ahead : List PySem.Str := ["worth", "some", "many"]
def b_signs_ahead  : QS := (qSeq (qAsg (.name 2) (qC (.int 0)))
    (qSeq (qWhile (qAnd (qT (qOp ltD (qVar 2) (qCB lenD (qCons (qVar 0) qNil)))) (qT (qOp (inD false) (qOp ixD (qVar 0) (qVar 2)) (qVar 1)))) (qAug 2 (fun i j => i + j) (qC (.int 1))))
    (qRet (qVar 2))))
theorem q_signs_ahead (T : TT w K mg) {k : Nat} {f : Addr} {cdv : Value} {A : Around} {outer : List PySem.Env} {s : Shared} {H : Hp} {E : XK} (h : Here (cxF P w K mg base N_signs_ahead "signs_ahead" (defScope s_signs_ahead) f cdv A outer s H E) k) :
    QSts (cxF P w K mg base N_signs_ahead "signs_ahead" (defScope s_signs_ahead) f cdv A outer s H E) (defBody s_signs_ahead) (b_signs_ahead) :=
  (qss_cons (qs_set 2 qe_int h.nd)
    (qss_cons (qs_while h.po (qt_w (qw_and (qt_lt (qe_var 2) (qe_len (n_len T) (qa_cons (qe_var 0) qa_nil))) (qw_and1 (qt_in (qe_ix (qe_var 0) (qe_var 2)) (qe_var 1))))) (qss_one (qs_aug 2 h.nd ip_add qe_int)))
    (qss_one (qs_ret (qe_var 2)))))
theorem sc_signs_ahead : FnScope N_signs_ahead ["worth", "some"] (defScope s_signs_ahead) := ⟨rfl, rfl, rfl, by decide +kernel, rfl, by decide +kernel, by decide +kernel⟩
theorem ok_signs_ahead (T : TT w K mg) {k : Nat} {g : SpD} (hl : ∀ ds S Q E, g ds S Q E → ds.length = 2)
    (hd : Kp N_signs_ahead g (b_signs_ahead)) : FnG P w K mg base (k + 1) "signs_ahead" [] g := by
  obtain ⟨fd, F⟩ := fd_signs_ahead T
  exact FnG.of (fn_okD F sc_signs_ahead hl fun f cdv A outer s H E h => ⟨_, q_signs_ahead T h, hd⟩) (gl_signs_ahead T) F.kp (BindD.none (F.bindsN fun _ _ _ _ _ _ us hl => match us, hl with | [_, _], _ => rfl))
def N_number_of : List PySem.Str := ["worth", "marks", "figures", "number"]
def b_number_of (g_signs_ahead : SpD) : QS := (qSeq (qAsg (.name 1) (qCall g_signs_ahead [] (qCons (qVar 0) (qCons (qC (.str "+-")) qNil))))
    (qSeq (qAsg (.name 2) (qSl (qVar 0) (qPart (qVar 1)) (qPart (qOp addD (qVar 1) (qCall g_signs_ahead [] (qCons (qSl (qVar 0) (qPart (qVar 1)) qNoPart) (qCons (qC (.str "0123456789")) qNil)))))))
    (qSeq (qAsg (.name 3) (qIf (qT (qOp (eqD true) (qVar 2) (qC (.str "")))) (qCB intD (qCons (qVar 2) qNil)) (qC (.int 0))))
    (qRet (qIf (qT (qOp (eqD false) (qOp modD (qBM "str" countD (qSl (qVar 0) qNoPart (qPart (qVar 1))) (qCons (qC (.str "-")) qNil)) (qC (.int 2))) (qC (.int 1)))) (qOp subD (qC (.int 0)) (qVar 3)) (qVar 3))))))
theorem q_number_of (T : TT w K mg) {k : Nat} {k_signs_ahead : Nat} {g_signs_ahead : SpD} (F_signs_ahead : FnG P w K mg base k_signs_ahead "signs_ahead" [] g_signs_ahead) (hk_signs_ahead : k_signs_ahead ≤ k) {f : Addr} {cdv : Value} {A : Around} {outer : List PySem.Env} {s : Shared} {H : Hp} {E : XK} (h : Here (cxF P w K mg base N_number_of "number_of" (defScope s_number_of) f cdv A outer s H E) k) :
    QSts (cxF P w K mg base N_number_of "number_of" (defScope s_number_of) f cdv A outer s H E) (defBody s_number_of) (b_number_of g_signs_ahead) :=
  (qss_cons (qs_set 1 (qe_call h F_signs_ahead (qa_cons (qe_var 0) (qa_cons qe_str qa_nil)) hk_signs_ahead) h.nd)
    (qss_cons (qs_set 2 (qe_sl (qe_var 0) (qo_some (qe_var 1)) (qo_some (qe_add (qe_var 1) (qe_call h F_signs_ahead (qa_cons (qe_sl (qe_var 0) (qo_some (qe_var 1)) qo_none) (qa_cons (qe_con (c_FIGURES T)) qa_nil)) hk_signs_ahead)))) h.nd)
    (qss_cons (qs_set 3 (qe_ifExp (qt_ne h (qe_var 2) qe_str) (qe_int' (n_int T) (qa_cons (qe_var 2) qa_nil)) qe_int) h.nd)
    (qss_one (qs_ret (qe_ifExp (qt_eq h (qe_mod (qe_count (qe_sl (qe_var 0) qo_none (qo_some (qe_var 1))) (qa_cons qe_str qa_nil)) qe_int) qe_int) (qe_sub qe_int (qe_var 3)) (qe_var 3)))))))
theorem sc_number_of : FnScope N_number_of ["worth"] (defScope s_number_of) := ⟨rfl, rfl, rfl, by decide +kernel, rfl, by decide +kernel, by decide +kernel⟩
theorem ok_number_of (T : TT w K mg) {k : Nat} {k_signs_ahead : Nat} {g_signs_ahead : SpD} (F_signs_ahead : FnG P w K mg base k_signs_ahead "signs_ahead" [] g_signs_ahead) (hk_signs_ahead : k_signs_ahead ≤ k) {g : SpD} (hl : ∀ ds S Q E, g ds S Q E → ds.length = 1)
    (hd : Kp N_number_of g (b_number_of g_signs_ahead)) : FnG P w K mg base (k + 1) "number_of" [] g := by
  obtain ⟨fd, F⟩ := fd_number_of T
  exact FnG.of (fn_okD F sc_number_of hl fun f cdv A outer s H E h => ⟨_, q_number_of T F_signs_ahead hk_signs_ahead h, hd⟩) (gl_number_of T) F.kp (BindD.none (F.bindsN fun _ _ _ _ _ _ us hl => match us, hl with | [_], _ => rfl))
def N_number_text : List PySem.Str := ["number"]
def b_number_text  : QS := (qRet (qCB strD (qCons (qVar 0) qNil)))
theorem q_number_text (T : TT w K mg) {k : Nat} {f : Addr} {cdv : Value} {A : Around} {outer : List PySem.Env} {s : Shared} {H : Hp} {E : XK} (h : Here (cxF P w K mg base N_number_text "number_text" (defScope s_number_text) f cdv A outer s H E) k) :
    QSts (cxF P w K mg base N_number_text "number_text" (defScope s_number_text) f cdv A outer s H E) (defBody s_number_text) (b_number_text) :=
  (qss_one (qs_ret (qe_str' (n_str T) (qa_cons (qe_var 0) qa_nil))))
theorem sc_number_text : FnScope N_number_text ["number"] (defScope s_number_text) := ⟨rfl, rfl, rfl, by decide +kernel, rfl, by decide +kernel, by decide +kernel⟩
theorem ok_number_text (T : TT w K mg) {k : Nat} {g : SpD} (hl : ∀ ds S Q E, g ds S Q E → ds.length = 1)
    (hd : Kp N_number_text g (b_number_text)) : FnG P w K mg base (k + 1) "number_text" [] g := by
  obtain ⟨fd, F⟩ := fd_number_text T
  exact FnG.of (fn_okD F sc_number_text hl fun f cdv A outer s H E h => ⟨_, q_number_text T h, hd⟩) (gl_number_text T) F.kp (BindD.none (F.bindsN fun _ _ _ _ _ _ us hl => match us, hl with | [_], _ => rfl))
def N_piece_of : List PySem.Str := ["one", "other", "nth", "pieces"]
def b_piece_of  : QS := (qSeq (qAsg (.name 3) (qIf (qT (qOp (eqD false) (qVar 1) (qC (.str "")))) (qLst (qCons (qVar 0) qNil)) (qBM "str" splitD (qVar 0) (qCons (qVar 1) qNil))))
    (qRet (qIf (qT (qCh leD leD (qC (.int 1)) (qVar 2) (qCB lenD (qCons (qVar 3) qNil)))) (qOp ixD (qVar 3) (qOp subD (qVar 2) (qC (.int 1)))) (qC (.str "")))))
theorem q_piece_of (T : TT w K mg) {k : Nat} {f : Addr} {cdv : Value} {A : Around} {outer : List PySem.Env} {s : Shared} {H : Hp} {E : XK} (h : Here (cxF P w K mg base N_piece_of "piece_of" (defScope s_piece_of) f cdv A outer s H E) k) :
    QSts (cxF P w K mg base N_piece_of "piece_of" (defScope s_piece_of) f cdv A outer s H E) (defBody s_piece_of) (b_piece_of) :=
  (qss_cons (qs_set 3 (qe_ifExp (qt_eq h (qe_var 1) qe_str) (qe_lst (qa_cons (qe_var 0) qa_nil)) (qe_split (qe_var 0) (qa_cons (qe_var 1) qa_nil))) h.nd)
    (qss_one (qs_ret (qe_ifExp (qt_ch op_leV op_leV opd_cmp opd_cmp qe_int (qe_var 2) (qe_len (n_len T) (qa_cons (qe_var 3) qa_nil))) (qe_ix (qe_var 3) (qe_sub (qe_var 2) qe_int)) qe_str))))
theorem sc_piece_of : FnScope N_piece_of ["one", "other", "nth"] (defScope s_piece_of) := ⟨rfl, rfl, rfl, by decide +kernel, rfl, by decide +kernel, by decide +kernel⟩
theorem ok_piece_of (T : TT w K mg) {k : Nat} {g : SpD} (hl : ∀ ds S Q E, g ds S Q E → ds.length = 3)
    (hd : Kp N_piece_of g (b_piece_of)) : FnG P w K mg base (k + 1) "piece_of" [] g := by
  obtain ⟨fd, F⟩ := fd_piece_of T
  exact FnG.of (fn_okD F sc_piece_of hl fun f cdv A outer s H E h => ⟨_, q_piece_of T h, hd⟩) (gl_piece_of T) F.kp (BindD.none (F.bindsN fun _ _ _ _ _ _ us hl => match us, hl with | [_, _, _], _ => rfl))
def N_part_of : List PySem.Str := ["one", "first", "last", "begin"]
def b_part_of  : QS := (qSeq (qAsg (.name 3) (qCB max2D (qCons (qC (.int 1)) (qCons (qVar 1) qNil))))
    (qRet (qIf (qT (qOp geD (qVar 2) (qVar 3))) (qSl (qVar 0) (qPart (qOp subD (qVar 3) (qC (.int 1)))) (qPart (qVar 2))) (qC (.str "")))))
theorem q_part_of (T : TT w K mg) {k : Nat} {f : Addr} {cdv : Value} {A : Around} {outer : List PySem.Env} {s : Shared} {H : Hp} {E : XK} (h : Here (cxF P w K mg base N_part_of "part_of" (defScope s_part_of) f cdv A outer s H E) k) :
    QSts (cxF P w K mg base N_part_of "part_of" (defScope s_part_of) f cdv A outer s H E) (defBody s_part_of) (b_part_of) :=
  (qss_cons (qs_set 3 (qe_max h (n_max T) (qa_cons qe_int (qa_cons (qe_var 1) qa_nil))) h.nd)
    (qss_one (qs_ret (qe_ifExp (qt_ge (qe_var 2) (qe_var 3)) (qe_sl (qe_var 0) (qo_some (qe_sub (qe_var 3) qe_int)) (qo_some (qe_var 2))) qe_str))))
theorem sc_part_of : FnScope N_part_of ["one", "first", "last"] (defScope s_part_of) := ⟨rfl, rfl, rfl, by decide +kernel, rfl, by decide +kernel, by decide +kernel⟩
theorem ok_part_of (T : TT w K mg) {k : Nat} {g : SpD} (hl : ∀ ds S Q E, g ds S Q E → ds.length = 3)
    (hd : Kp N_part_of g (b_part_of)) : FnG P w K mg base (k + 1) "part_of" [] g := by
  obtain ⟨fd, F⟩ := fd_part_of T
  exact FnG.of (fn_okD F sc_part_of hl fun f cdv A outer s H E h => ⟨_, q_part_of T h, hd⟩) (gl_part_of T) F.kp (BindD.none (F.bindsN fun _ _ _ _ _ _ us hl => match us, hl with | [_, _, _], _ => rfl))
def N_of_worths : List PySem.Str := ["word", "worths"]
def b_of_worths (g_number_text : SpD) (g_number_of : SpD) (g_piece_of : SpD) (g_part_of : SpD) : QS := (qSeq (qIfS (qT (qOp (eqD false) (qVar 0) (qC (.str "not")))) (qRet qNever) qNext)
    (qSeq (qIfS (qT (qOp (eqD false) (qVar 0) (qC (.str "minus")))) (qRet (qCall g_number_text [] (qCons (qOp subD (qC (.int 0)) (qCall g_number_of [] (qCons (qOp ixD (qVar 1) (qC (.int 0))) qNil))) qNil))) qNext)
    (qSeq (qIfS (qT (qOp (eqD false) (qVar 0) (qC (.str "length")))) (qRet (qCall g_number_text [] (qCons (qCB lenD (qCons (qOp ixD (qVar 1) (qC (.int 0))) qNil)) qNil))) qNext)
    (qSeq (qIfS (qT (qOp (eqD false) (qVar 0) (qC (.str "piece")))) (qRet (qCall g_piece_of [] (qCons (qOp ixD (qVar 1) (qC (.int 0))) (qCons (qOp ixD (qVar 1) (qC (.int 1))) (qCons (qCall g_number_of [] (qCons (qOp ixD (qVar 1) (qC (.int 2))) qNil)) qNil))))) qNext)
    (qRet (qCall g_part_of [] (qCons (qOp ixD (qVar 1) (qC (.int 0))) (qCons (qCall g_number_of [] (qCons (qOp ixD (qVar 1) (qC (.int 1))) qNil)) (qCons (qCall g_number_of [] (qCons (qOp ixD (qVar 1) (qC (.int 2))) qNil)) qNil)))))))))
theorem q_of_worths (T : TT w K mg) {k : Nat} {k_number_text : Nat} {g_number_text : SpD} (F_number_text : FnG P w K mg base k_number_text "number_text" [] g_number_text) (hk_number_text : k_number_text ≤ k) {k_number_of : Nat} {g_number_of : SpD} (F_number_of : FnG P w K mg base k_number_of "number_of" [] g_number_of) (hk_number_of : k_number_of ≤ k) {k_piece_of : Nat} {g_piece_of : SpD} (F_piece_of : FnG P w K mg base k_piece_of "piece_of" [] g_piece_of) (hk_piece_of : k_piece_of ≤ k) {k_part_of : Nat} {g_part_of : SpD} (F_part_of : FnG P w K mg base k_part_of "part_of" [] g_part_of) (hk_part_of : k_part_of ≤ k) {f : Addr} {cdv : Value} {A : Around} {outer : List PySem.Env} {s : Shared} {H : Hp} {E : XK} (h : Here (cxF P w K mg base N_of_worths "of_worths" (defScope s_of_worths) f cdv A outer s H E) k) :
    QSts (cxF P w K mg base N_of_worths "of_worths" (defScope s_of_worths) f cdv A outer s H E) (defBody s_of_worths) (b_of_worths g_number_text g_number_of g_piece_of g_part_of) :=
  (qss_cons (qs_if (qt_eq h (qe_var 0) qe_str) (qss_one (qs_ret qe_never)) qss_nil)
    (qss_cons (qs_if (qt_eq h (qe_var 0) qe_str) (qss_one (qs_ret (qe_call h F_number_text (qa_cons (qe_sub qe_int (qe_call h F_number_of (qa_cons (qe_ix (qe_var 1) qe_int) qa_nil) hk_number_of)) qa_nil) hk_number_text))) qss_nil)
    (qss_cons (qs_if (qt_eq h (qe_var 0) qe_str) (qss_one (qs_ret (qe_call h F_number_text (qa_cons (qe_len (n_len T) (qa_cons (qe_ix (qe_var 1) qe_int) qa_nil)) qa_nil) hk_number_text))) qss_nil)
    (qss_cons (qs_if (qt_eq h (qe_var 0) qe_str) (qss_one (qs_ret (qe_call h F_piece_of (qa_cons (qe_ix (qe_var 1) qe_int) (qa_cons (qe_ix (qe_var 1) qe_int) (qa_cons (qe_call h F_number_of (qa_cons (qe_ix (qe_var 1) qe_int) qa_nil) hk_number_of) qa_nil))) hk_piece_of))) qss_nil)
    (qss_one (qs_ret (qe_call h F_part_of (qa_cons (qe_ix (qe_var 1) qe_int) (qa_cons (qe_call h F_number_of (qa_cons (qe_ix (qe_var 1) qe_int) qa_nil) hk_number_of) (qa_cons (qe_call h F_number_of (qa_cons (qe_ix (qe_var 1) qe_int) qa_nil) hk_number_of) qa_nil))) hk_part_of)))))))
theorem sc_of_worths : FnScope N_of_worths ["word", "worths"] (defScope s_of_worths) := ⟨rfl, rfl, rfl, by decide +kernel, rfl, by decide +kernel, by decide +kernel⟩
theorem ok_of_worths (T : TT w K mg) {k : Nat} {k_number_text : Nat} {g_number_text : SpD} (F_number_text : FnG P w K mg base k_number_text "number_text" [] g_number_text) (hk_number_text : k_number_text ≤ k) {k_number_of : Nat} {g_number_of : SpD} (F_number_of : FnG P w K mg base k_number_of "number_of" [] g_number_of) (hk_number_of : k_number_of ≤ k) {k_piece_of : Nat} {g_piece_of : SpD} (F_piece_of : FnG P w K mg base k_piece_of "piece_of" [] g_piece_of) (hk_piece_of : k_piece_of ≤ k) {k_part_of : Nat} {g_part_of : SpD} (F_part_of : FnG P w K mg base k_part_of "part_of" [] g_part_of) (hk_part_of : k_part_of ≤ k) {g : SpD} (hl : ∀ ds S Q E, g ds S Q E → ds.length = 2)
    (hd : Kp N_of_worths g (b_of_worths g_number_text g_number_of g_piece_of g_part_of)) : FnG P w K mg base (k + 1) "of_worths" [] g := by
  obtain ⟨fd, F⟩ := fd_of_worths T
  exact FnG.of (fn_okD F sc_of_worths hl fun f cdv A outer s H E h => ⟨_, q_of_worths T F_number_text hk_number_text F_number_of hk_number_of F_piece_of hk_piece_of F_part_of hk_part_of h, hd⟩) (gl_of_worths T) F.kp (BindD.none (F.bindsN fun _ _ _ _ _ _ us hl => match us, hl with | [_, _], _ => rfl))
def N_not_too_long : List PySem.Str := ["worth"]
def b_not_too_long  : QS := (qSeq (qIfS (qT (qOp gtD (qCB lenD (qCons (qVar 0) qNil)) (qC (.int 2000)))) qNeverS qNext)
    (qRet (qVar 0)))
theorem q_not_too_long (T : TT w K mg) {k : Nat} {f : Addr} {cdv : Value} {A : Around} {outer : List PySem.Env} {s : Shared} {H : Hp} {E : XK} (h : Here (cxF P w K mg base N_not_too_long "not_too_long" (defScope s_not_too_long) f cdv A outer s H E) k) :
    QSts (cxF P w K mg base N_not_too_long "not_too_long" (defScope s_not_too_long) f cdv A outer s H E) (defBody s_not_too_long) (b_not_too_long) :=
  (qss_cons (qs_if (qt_gt (qe_len (n_len T) (qa_cons (qe_var 0) qa_nil)) (qe_con (c_MOST_LONG T))) (qss_one qs_never) qss_nil)
    (qss_one (qs_ret (qe_var 0))))
theorem sc_not_too_long : FnScope N_not_too_long ["worth"] (defScope s_not_too_long) := ⟨rfl, rfl, rfl, by decide +kernel, rfl, by decide +kernel, by decide +kernel⟩
theorem ok_not_too_long (T : TT w K mg) {k : Nat} {g : SpD} (hl : ∀ ds S Q E, g ds S Q E → ds.length = 1)
    (hd : Kp N_not_too_long g (b_not_too_long)) : FnG P w K mg base (k + 1) "not_too_long" [] g := by
  obtain ⟨fd, F⟩ := fd_not_too_long T
  exact FnG.of (fn_okD F sc_not_too_long hl fun f cdv A outer s H E h => ⟨_, q_not_too_long T h, hd⟩) (gl_not_too_long T) F.kp (BindD.none (F.bindsN fun _ _ _ _ _ _ us hl => match us, hl with | [_], _ => rfl))
def N_Arrays___init__ : List PySem.Str := ["self"]
def b_Arrays___init__ (K : PySem.W.Frag)  : QS := (qSetF (He.ga K "Arrays") "nodes" (qVar 0) qDict0)
theorem q_Arrays___init__ (T : TT w K mg) {k : Nat} {f : Addr} {cdv : Value} {A : Around} {outer : List PySem.Env} {s : Shared} {H : Hp} {E : XK} (h : Here (cxF P w K mg base N_Arrays___init__ "Arrays.__init__" (defScope s_Arrays___init__) f cdv A outer s H E) k) :
    QSts (cxF P w K mg base N_Arrays___init__ "Arrays.__init__" (defScope s_Arrays___init__) f cdv A outer s H E) (defBody s_Arrays___init__) (b_Arrays___init__ K) :=
  (qss_one (qs_fld (at_Arrays_nodes T) (qe_var 0) qe_dict0))
theorem sc_Arrays___init__ : FnScope N_Arrays___init__ ["self"] (defScope s_Arrays___init__) := ⟨rfl, rfl, rfl, by decide +kernel, rfl, by decide +kernel, by decide +kernel⟩
theorem ok_Arrays___init__ (T : TT w K mg) {k : Nat} {g : SpD} (hl : ∀ ds S Q E, g ds S Q E → ds.length = 1)
    (hd : Kp N_Arrays___init__ g (b_Arrays___init__ K)) : MkG P w K mg base (k + 1) "Arrays" (He.ga K "Arrays") [] g := by
  obtain ⟨fd, F⟩ := fd_Arrays___init__ T
  exact MkG.of (fn_okD F sc_Arrays___init__ hl fun f cdv A outer s H E h => ⟨_, q_Arrays___init__ T h, hd⟩) (mk_Arrays T) (gl_Arrays T) (BindD.none (F.bindsN fun _ _ _ _ _ _ us hl => match us, hl with | [_], _ => rfl))
def N_Dealings___init__ : List PySem.Str := ["self", "arrays"]
def b_Dealings___init__ (K : PySem.W.Frag)  : QS := (qSeq (qSetF (He.ga K "Dealings") "shelf" (qVar 0) (qVar 1))
    (qSeq (qSetF (He.ga K "Dealings") "begun" (qVar 0) qDict0)
    (qSetF (He.ga K "Dealings") "touches" (qVar 0) qDict0)))
theorem q_Dealings___init__ (T : TT w K mg) {k : Nat} {f : Addr} {cdv : Value} {A : Around} {outer : List PySem.Env} {s : Shared} {H : Hp} {E : XK} (h : Here (cxF P w K mg base N_Dealings___init__ "Dealings.__init__" (defScope s_Dealings___init__) f cdv A outer s H E) k) :
    QSts (cxF P w K mg base N_Dealings___init__ "Dealings.__init__" (defScope s_Dealings___init__) f cdv A outer s H E) (defBody s_Dealings___init__) (b_Dealings___init__ K) :=
  (qss_cons (qs_fld (at_Dealings_shelf T) (qe_var 0) (qe_var 1))
    (qss_cons (qs_fld (at_Dealings_begun T) (qe_var 0) qe_dict0)
    (qss_one (qs_fld (at_Dealings_touches T) (qe_var 0) qe_dict0))))
theorem sc_Dealings___init__ : FnScope N_Dealings___init__ ["self", "arrays"] (defScope s_Dealings___init__) := ⟨rfl, rfl, rfl, by decide +kernel, rfl, by decide +kernel, by decide +kernel⟩
theorem ok_Dealings___init__ (T : TT w K mg) {k : Nat} {g : SpD} (hl : ∀ ds S Q E, g ds S Q E → ds.length = 2)
    (hd : Kp N_Dealings___init__ g (b_Dealings___init__ K)) : MkG P w K mg base (k + 1) "Dealings" (He.ga K "Dealings") [] g := by
  obtain ⟨fd, F⟩ := fd_Dealings___init__ T
  exact MkG.of (fn_okD F sc_Dealings___init__ hl fun f cdv A outer s H E h => ⟨_, q_Dealings___init__ T h, hd⟩) (mk_Dealings T) (gl_Dealings T) (BindD.none (F.bindsN fun _ _ _ _ _ _ us hl => match us, hl with | [_, _], _ => rfl))
def N_Scene___init__ : List PySem.Str := ["self", "own", "dealings", "job"]
def b_Scene___init__ (K : PySem.W.Frag)  : QS := (qSeq (qSetF (He.ga K "Scene") "own" (qVar 0) (qVar 1))
    (qSeq (qSetF (He.ga K "Scene") "dealings" (qVar 0) (qVar 2))
    (qSeq (qSetF (He.ga K "Scene") "job" (qVar 0) (qVar 3))
    (qSetF (He.ga K "Scene") "latest" (qVar 0) (qC .non)))))
theorem q_Scene___init__ (T : TT w K mg) {k : Nat} {f : Addr} {cdv : Value} {A : Around} {outer : List PySem.Env} {s : Shared} {H : Hp} {E : XK} (h : Here (cxF P w K mg base N_Scene___init__ "Scene.__init__" (defScope s_Scene___init__) f cdv A outer s H E) k) :
    QSts (cxF P w K mg base N_Scene___init__ "Scene.__init__" (defScope s_Scene___init__) f cdv A outer s H E) (defBody s_Scene___init__) (b_Scene___init__ K) :=
  (qss_cons (qs_fld (at_Scene_own T) (qe_var 0) (qe_var 1))
    (qss_cons (qs_fld (at_Scene_dealings T) (qe_var 0) (qe_var 2))
    (qss_cons (qs_fld (at_Scene_job T) (qe_var 0) (qe_var 3))
    (qss_one (qs_fld (at_Scene_latest T) (qe_var 0) qe_non)))))
theorem sc_Scene___init__ : FnScope N_Scene___init__ ["self", "own", "dealings", "job"] (defScope s_Scene___init__) := ⟨rfl, rfl, rfl, by decide +kernel, rfl, by decide +kernel, by decide +kernel⟩
theorem ok_Scene___init__ (T : TT w K mg) {k : Nat} {g : SpD} (hl : ∀ ds S Q E, g ds S Q E → ds.length = 4)
    (hd : Kp N_Scene___init__ g (b_Scene___init__ K)) : MkG P w K mg base (k + 1) "Scene" (He.ga K "Scene") [(.int (0))] g := by
  obtain ⟨fd, F⟩ := fd_Scene___init__ T
  exact MkG.of (fn_okD F sc_Scene___init__ hl fun f cdv A outer s H E h => ⟨_, q_Scene___init__ T h, hd⟩) (mk_Scene T) (gl_Scene T) (BindD.of (F.binds1 3 0 (List.cons_ne_nil _ _) rfl fun _ _ _ _ _ _ _ us its hl hi => match us, hl, its, hi with | [_, _, _], _, [_], _ => ⟨_, rfl, rfl⟩) (fun _ => ⟨_, _, rfl, rfl, rfl⟩))
def N_Scene_reckoned : List PySem.Str := ["self", "expression", "word", "rest", "found", "mine", "ref", "one", "sign", "first", "second"]
def b_Scene_reckoned (K : PySem.W.Frag) (g_number_text : SpD) (g_Scene_reckoned : SpD) (g_not_too_long : SpD) (g_of_worths : SpD) : QS := (qSeq (qStar 2 3 (qVar 1))
    (qSeq (qIfS (qT (qOp (eqD false) (qVar 2) (qC (.str "is")))) (qRet (qOp ixD (qVar 3) (qC (.int 0)))) qNext)
    (qSeq (qIfS (qT (qOp (inD false) (qVar 2) (qC (.tup ((("var" : PySem.Str) :: ("at" : PySem.Str) :: ("short" : PySem.Str) :: []).map D.str))))) (qSeq (qAsg (.name 4) qNever)
    (qSeq (qIfS (qT (qOp (isND false) (qVar 4) (qC .non))) qNeverS qNext)
    (qRet (qVar 4)))) qNext)
    (qSeq (qIfS (qT (qOp (inD false) (qVar 2) (qTup (qCons (qC (.str "order")) (qCons (qC (.str "back")) qNil))))) (qRet qNever) qNext)
    (qSeq (qIfS (qT (qOp (eqD false) (qVar 2) (qC (.str "data")))) (qSeq (qAsg (.tup [5, 6]) qNever)
    (qRet (qCall g_number_text [] (qCons (qIf (qT (qVar 5)) qNever qNever) qNil)))) qNext)
    (qSeq (qIfS (qT (qOp (eqD false) (qVar 2) (qC (.str "other")))) (qSeq (qAsg (.name 4) qNever)
    (qRet (qIf (qT (qOp (isND false) (qVar 4) (qC .non))) (qMeth (He.ga K "Scene") "reckoned" g_Scene_reckoned [] (qVar 0) (qCons (qOp ixD (qVar 3) (qC (.int 1))) qNil)) (qVar 4)))) qNext)
    (qSeq (qIfS (qT (qOp (eqD false) (qVar 2) (qC (.str "op")))) (qSeq (qAsg (.tup [8, 9, 10]) (qVar 3))
    (qSeq (qAsg (.name 7) (qMeth (He.ga K "Scene") "reckoned" g_Scene_reckoned [] (qVar 0) (qCons (qVar 9) qNil)))
    (qRet (qCall g_not_too_long [] (qCons qNever qNil))))) qNext)
    (qRet (qCall g_not_too_long [] (qCons (qCall g_of_worths [] (qCons (qVar 2) (qCons (qLc (qiL (qVar 3)) (.name 7) qYes (qMeth (He.ga K "Scene") "reckoned" g_Scene_reckoned [] (qVar 0) (qCons (qVar 7) qNil)) [7]) qNil))) qNil))))))))))
theorem q_Scene_reckoned (T : TT w K mg) {k : Nat} {k_number_text : Nat} {g_number_text : SpD} (F_number_text : FnG P w K mg base k_number_text "number_text" [] g_number_text) (hk_number_text : k_number_text ≤ k) {k_Scene_reckoned : Nat} {g_Scene_reckoned : SpD} (F_Scene_reckoned : MtG P w K mg base k_Scene_reckoned (He.ga K "Scene") "reckoned" [] g_Scene_reckoned) (hk_Scene_reckoned : k_Scene_reckoned ≤ k) {k_not_too_long : Nat} {g_not_too_long : SpD} (F_not_too_long : FnG P w K mg base k_not_too_long "not_too_long" [] g_not_too_long) (hk_not_too_long : k_not_too_long ≤ k) {k_of_worths : Nat} {g_of_worths : SpD} (F_of_worths : FnG P w K mg base k_of_worths "of_worths" [] g_of_worths) (hk_of_worths : k_of_worths ≤ k) {f : Addr} {cdv : Value} {A : Around} {outer : List PySem.Env} {s : Shared} {H : Hp} {E : XK} (h : Here (cxF P w K mg base N_Scene_reckoned "Scene.reckoned" (defScope s_Scene_reckoned) f cdv A outer s H E) k) :
    QSts (cxF P w K mg base N_Scene_reckoned "Scene.reckoned" (defScope s_Scene_reckoned) f cdv A outer s H E) (defBody s_Scene_reckoned) (b_Scene_reckoned K g_number_text g_Scene_reckoned g_not_too_long g_of_worths) :=
  (qss_cons (qs_star 2 3 h.calm h.nd (qe_var 1))
    (qss_cons (qs_if (qt_eq h (qe_var 2) qe_str) (qss_one (qs_ret (qe_ix (qe_var 3) qe_int))) qss_nil)
    (qss_cons (qs_if (qt_in (qe_var 2) (qe_con (c_PLACES T))) (qss_cons (qs_set 4 qe_never h.nd)
    (qss_cons (qs_if (qt_is (qe_var 4) qe_non) (qss_one qs_never) qss_nil)
    (qss_one (qs_ret (qe_var 4))))) qss_nil)
    (qss_cons (qs_if (qt_in (qe_var 2) (qe_tup (qa_cons qe_str (qa_cons qe_str qa_nil)))) (qss_one (qs_ret qe_never)) qss_nil)
    (qss_cons (qs_if (qt_eq h (qe_var 2) qe_str) (qss_cons (qs_asg qe_never (tg_tup h.calm (tgs_cons 5 (tgs_cons 6 tgs_nil h.nd) h.nd)))
    (qss_one (qs_ret (qe_call h F_number_text (qa_cons (qe_ifExp (qt_val (qe_var 5)) qe_never qe_never) qa_nil) hk_number_text)))) qss_nil)
    (qss_cons (qs_if (qt_eq h (qe_var 2) qe_str) (qss_cons (qs_set 4 qe_never h.nd)
    (qss_one (qs_ret (qe_ifExp (qt_is (qe_var 4) qe_non) (qe_meth h F_Scene_reckoned (qe_var 0) (qa_cons (qe_ix (qe_var 3) qe_int) qa_nil) hk_Scene_reckoned) (qe_var 4))))) qss_nil)
    (qss_cons (qs_if (qt_eq h (qe_var 2) qe_str) (qss_cons (qs_asg (qe_var 3) (tg_tup h.calm (tgs_cons 8 (tgs_cons 9 (tgs_cons 10 tgs_nil h.nd) h.nd) h.nd)))
    (qss_cons (qs_set 7 (qe_meth h F_Scene_reckoned (qe_var 0) (qa_cons (qe_var 9) qa_nil) hk_Scene_reckoned) h.nd)
    (qss_one (qs_ret (qe_call h F_not_too_long (qa_cons qe_never qa_nil) hk_not_too_long))))) qss_nil)
    (qss_one (qs_ret (qe_call h F_not_too_long (qa_cons (qe_call h F_of_worths (qa_cons (qe_var 2) (qa_cons (qe_lc (own := [("one", 7)]) h (qi_list (qe_var 3)) (blkOk_of rfl) (fun _ _ _ _ _ h1 => (tg_name 7 h1.nd)) (fun _ _ _ _ _ h1 => qi_nil) (fun _ _ _ _ _ h1 => (qe_meth h1 F_Scene_reckoned (qe_var 0) (qa_cons (qe_var 7) qa_nil) hk_Scene_reckoned))) qa_nil)) hk_of_worths) qa_nil) hk_not_too_long))))))))))
theorem sc_Scene_reckoned : FnScope N_Scene_reckoned ["self", "expression"] (defScope s_Scene_reckoned) := ⟨rfl, rfl, rfl, by decide +kernel, rfl, by decide +kernel, by decide +kernel⟩
theorem ok_Scene_reckoned (T : TT w K mg) {k : Nat} {k_number_text : Nat} {g_number_text : SpD} (F_number_text : FnG P w K mg base k_number_text "number_text" [] g_number_text) (hk_number_text : k_number_text ≤ k) {k_Scene_reckoned : Nat} {g_Scene_reckoned : SpD} (F_Scene_reckoned : MtG P w K mg base k_Scene_reckoned (He.ga K "Scene") "reckoned" [] g_Scene_reckoned) (hk_Scene_reckoned : k_Scene_reckoned ≤ k) {k_not_too_long : Nat} {g_not_too_long : SpD} (F_not_too_long : FnG P w K mg base k_not_too_long "not_too_long" [] g_not_too_long) (hk_not_too_long : k_not_too_long ≤ k) {k_of_worths : Nat} {g_of_worths : SpD} (F_of_worths : FnG P w K mg base k_of_worths "of_worths" [] g_of_worths) (hk_of_worths : k_of_worths ≤ k) {g : SpD} (hl : ∀ ds S Q E, g ds S Q E → ds.length = 2)
    (hd : Kp N_Scene_reckoned g (b_Scene_reckoned K g_number_text g_Scene_reckoned g_not_too_long g_of_worths)) : MtG P w K mg base (k + 1) (He.ga K "Scene") "reckoned" [] g := by
  obtain ⟨fd, F⟩ := fd_Scene_reckoned T
  exact MtG.of (fn_okD F sc_Scene_reckoned hl fun f cdv A outer s H E h => ⟨_, q_Scene_reckoned T F_number_text hk_number_text F_Scene_reckoned hk_Scene_reckoned F_not_too_long hk_not_too_long F_of_worths hk_of_worths h, hd⟩) (cl_Scene T) (me_Scene_reckoned T) (BindD.none (F.bindsN fun _ _ _ _ _ _ us hl => match us, hl with | [_, _], _ => rfl))
def N_Scene_reckon : List PySem.Str := ["self", "expression", "ahead", "found"]
def b_Scene_reckon (K : PySem.W.Frag) (g_Scene_reckoned : SpD) : QS := (qSeq (qAsg (.name 2) (qFld (He.ga K "Scene") "latest" (qVar 0)))
    (qSeq (qAsg (.name 3) (qC .non))
    (qSeq (qFin (qAsg (.name 3) (qMeth (He.ga K "Scene") "reckoned" g_Scene_reckoned [] (qVar 0) (qCons (qVar 1) qNil))) (qIfS (qT (qOp (isND false) (qVar 3) (qC .non))) (qSetF (He.ga K "Scene") "latest" (qVar 0) (qVar 2)) qNext))
    (qRet (qVar 3)))))
theorem q_Scene_reckon (T : TT w K mg) {k : Nat} {k_Scene_reckoned : Nat} {g_Scene_reckoned : SpD} (F_Scene_reckoned : MtG P w K mg base k_Scene_reckoned (He.ga K "Scene") "reckoned" [] g_Scene_reckoned) (hk_Scene_reckoned : k_Scene_reckoned ≤ k) {f : Addr} {cdv : Value} {A : Around} {outer : List PySem.Env} {s : Shared} {H : Hp} {E : XK} (h : Here (cxF P w K mg base N_Scene_reckon "Scene.reckon" (defScope s_Scene_reckon) f cdv A outer s H E) k) :
    QSts (cxF P w K mg base N_Scene_reckon "Scene.reckon" (defScope s_Scene_reckon) f cdv A outer s H E) (defBody s_Scene_reckon) (b_Scene_reckon K g_Scene_reckoned) :=
  (qss_cons (qs_set 2 (qe_fld (at_Scene_latest T) (qe_var 0)) h.nd)
    (qss_cons (qs_set 3 qe_non h.nd)
    (qss_cons (qs_fin h (fun _ _ h1 => (qss_one (qs_set 3 (qe_meth h1 F_Scene_reckoned (qe_var 0) (qa_cons (qe_var 1) qa_nil) hk_Scene_reckoned) h1.nd))) (qss_one (qs_if (qt_is (qe_var 3) qe_non) (qss_one (qs_fld (at_Scene_latest T) (qe_var 0) (qe_var 2))) qss_nil)) (fun _ _ => (qss_one (qs_if (qt_is (qe_var 3) qe_non) (qss_one (qs_fld (at_Scene_latest T) (qe_var 0) (qe_var 2))) qss_nil))))
    (qss_one (qs_ret (qe_var 3))))))
theorem sc_Scene_reckon : FnScope N_Scene_reckon ["self", "expression"] (defScope s_Scene_reckon) := ⟨rfl, rfl, rfl, by decide +kernel, rfl, by decide +kernel, by decide +kernel⟩
theorem ok_Scene_reckon (T : TT w K mg) {k : Nat} {k_Scene_reckoned : Nat} {g_Scene_reckoned : SpD} (F_Scene_reckoned : MtG P w K mg base k_Scene_reckoned (He.ga K "Scene") "reckoned" [] g_Scene_reckoned) (hk_Scene_reckoned : k_Scene_reckoned ≤ k) {g : SpD} (hl : ∀ ds S Q E, g ds S Q E → ds.length = 2)
    (hd : Kp N_Scene_reckon g (b_Scene_reckon K g_Scene_reckoned)) : MtG P w K mg base (k + 1) (He.ga K "Scene") "reckon" [] g := by
  obtain ⟨fd, F⟩ := fd_Scene_reckon T
  exact MtG.of (fn_okD F sc_Scene_reckon hl fun f cdv A outer s H E h => ⟨_, q_Scene_reckon T F_Scene_reckoned hk_Scene_reckoned h, hd⟩) (cl_Scene T) (me_Scene_reckon T) (BindD.none (F.bindsN fun _ _ _ _ _ _ us hl => match us, hl with | [_, _], _ => rfl))
def N__law_cell_at : List PySem.Str := ["script", "k"]
def b__law_cell_at  : QS := (qSeq (qIfS (qT (qOp ltD (qVar 1) (qCB lenD (qCons (qVar 0) qNil)))) (qRet (qOp ixD (qVar 0) (qVar 1))) qNext)
    (qRet (qC (.int 0))))
theorem q__law_cell_at (T : TT w K mg) {k : Nat} {f : Addr} {cdv : Value} {A : Around} {outer : List PySem.Env} {s : Shared} {H : Hp} {E : XK} (h : Here (cxF P w K mg base N__law_cell_at "_law_cell_at" (defScope s__law_cell_at) f cdv A outer s H E) k) :
    QSts (cxF P w K mg base N__law_cell_at "_law_cell_at" (defScope s__law_cell_at) f cdv A outer s H E) (defBody s__law_cell_at) (b__law_cell_at) :=
  (qss_cons (qs_if (qt_lt (qe_var 1) (qe_len (n_len T) (qa_cons (qe_var 0) qa_nil))) (qss_one (qs_ret (qe_ix (qe_var 0) (qe_var 1)))) qss_nil)
    (qss_one (qs_ret qe_int)))
theorem sc__law_cell_at : FnScope N__law_cell_at ["script", "k"] (defScope s__law_cell_at) := ⟨rfl, rfl, rfl, by decide +kernel, rfl, by decide +kernel, by decide +kernel⟩
theorem ok__law_cell_at (T : TT w K mg) {k : Nat} {g : SpD} (hl : ∀ ds S Q E, g ds S Q E → ds.length = 2)
    (hd : Kp N__law_cell_at g (b__law_cell_at)) : FnG P w K mg base (k + 1) "_law_cell_at" [] g := by
  obtain ⟨fd, F⟩ := fd__law_cell_at T
  exact FnG.of (fn_okD F sc__law_cell_at hl fun f cdv A outer s H E h => ⟨_, q__law_cell_at T h, hd⟩) (gl__law_cell_at T) F.kp (BindD.none (F.bindsN fun _ _ _ _ _ _ us hl => match us, hl with | [_, _], _ => rfl))
def N__law_bag : List PySem.Str := ["cell"]
def b__law_bag  : QS := (qRet (qLst (qCons (qCB max2D (qCons (qC (.int 1)) (qCons (qOp subD (qVar 0) (qOp powD (qC (.int 10)) (qC (.int 18)))) qNil))) (qCons (qOp modD (qVar 0) (qOp addD (qOp powD (qC (.int 10)) (qC (.int 40))) (qC (.int 121)))) (qCons (qC (.int 0)) qNil)))))
theorem q__law_bag (T : TT w K mg) {k : Nat} {f : Addr} {cdv : Value} {A : Around} {outer : List PySem.Env} {s : Shared} {H : Hp} {E : XK} (h : Here (cxF P w K mg base N__law_bag "_law_bag" (defScope s__law_bag) f cdv A outer s H E) k) :
    QSts (cxF P w K mg base N__law_bag "_law_bag" (defScope s__law_bag) f cdv A outer s H E) (defBody s__law_bag) (b__law_bag) :=
  (qss_one (qs_ret (qe_lst (qa_cons (qe_max h (n_max T) (qa_cons qe_int (qa_cons (qe_sub (qe_var 0) (qe_pow qe_int qe_int)) qa_nil))) (qa_cons (qe_mod (qe_var 0) (qe_add (qe_pow qe_int qe_int) qe_int)) (qa_cons qe_int qa_nil))))))
theorem sc__law_bag : FnScope N__law_bag ["cell"] (defScope s__law_bag) := ⟨rfl, rfl, rfl, by decide +kernel, rfl, by decide +kernel, by decide +kernel⟩
theorem ok__law_bag (T : TT w K mg) {k : Nat} {g : SpD} (hl : ∀ ds S Q E, g ds S Q E → ds.length = 1)
    (hd : Kp N__law_bag g (b__law_bag)) : FnG P w K mg base (k + 1) "_law_bag" [] g := by
  obtain ⟨fd, F⟩ := fd__law_bag T
  exact FnG.of (fn_okD F sc__law_bag hl fun f cdv A outer s H E h => ⟨_, q__law_bag T h, hd⟩) (gl__law_bag T) F.kp (BindD.none (F.bindsN fun _ _ _ _ _ _ us hl => match us, hl with | [_], _ => rfl))
def N__law_draw : List PySem.Str := ["bag", "many", "one"]
def b__law_draw  : QS := (qSeq (qIfS (qT (qOp gtD (qOp ixD (qVar 0) (qC (.int 0))) (qC (.int 1)))) (qSeq (qAsg (.name 2) (qOp modD (qOp ixD (qVar 0) (qC (.int 0))) (qVar 1)))
    (qSeq (qSetI (qVar 0) (qC (.int 0)) (qOp fdivD (qOp ixD (qVar 0) (qC (.int 0))) (qVar 1)))
    (qRet (qVar 2)))) qNext)
    (qSeq (qSetI (qVar 0) (qC (.int 2)) (qOp addD (qOp ixD (qVar 0) (qC (.int 2))) (qC (.int 1))))
    (qSeq (qAsg (.name 2) (qOp modD (qOp powD (qOp addD (qOp ixD (qVar 0) (qC (.int 1))) (qOp mulD (qOp ixD (qVar 0) (qC (.int 2))) (qC (.int 982451653)))) (qC (.int 5))) (qOp addD (qOp powD (qC (.int 10)) (qC (.int 39))) (qC (.int 3)))))
    (qSeq (qAsg (.name 2) (qOp modD (qOp powD (qOp addD (qVar 2) (qOp mulD (qOp ixD (qVar 0) (qC (.int 2))) (qC (.int 15485863)))) (qC (.int 3))) (qOp addD (qOp powD (qC (.int 10)) (qC (.int 36))) (qC (.int 67)))))
    (qRet (qOp modD (qOp fdivD (qVar 2) (qC (.int 1024))) (qVar 1)))))))
theorem q__law_draw (T : TT w K mg) {k : Nat} {f : Addr} {cdv : Value} {A : Around} {outer : List PySem.Env} {s : Shared} {H : Hp} {E : XK} (h : Here (cxF P w K mg base N__law_draw "_law_draw" (defScope s__law_draw) f cdv A outer s H E) k) :
    QSts (cxF P w K mg base N__law_draw "_law_draw" (defScope s__law_draw) f cdv A outer s H E) (defBody s__law_draw) (b__law_draw) :=
  (qss_cons (qs_if (qt_gt (qe_ix (qe_var 0) qe_int) qe_int) (qss_cons (qs_set 2 (qe_mod (qe_ix (qe_var 0) qe_int) (qe_var 1)) h.nd)
    (qss_cons (qs_setL (qe_var 0) qe_int (qe_fdiv (qe_ix (qe_var 0) qe_int) (qe_var 1)))
    (qss_one (qs_ret (qe_var 2))))) qss_nil)
    (qss_cons (qs_setL (qe_var 0) qe_int (qe_add (qe_ix (qe_var 0) qe_int) qe_int))
    (qss_cons (qs_set 2 (qe_mod (qe_pow (qe_add (qe_ix (qe_var 0) qe_int) (qe_mul (qe_ix (qe_var 0) qe_int) qe_int)) qe_int) (qe_add (qe_pow qe_int qe_int) qe_int)) h.nd)
    (qss_cons (qs_set 2 (qe_mod (qe_pow (qe_add (qe_var 2) (qe_mul (qe_ix (qe_var 0) qe_int) qe_int)) qe_int) (qe_add (qe_pow qe_int qe_int) qe_int)) h.nd)
    (qss_one (qs_ret (qe_mod (qe_fdiv (qe_var 2) qe_int) (qe_var 1))))))))
theorem sc__law_draw : FnScope N__law_draw ["bag", "many"] (defScope s__law_draw) := ⟨rfl, rfl, rfl, by decide +kernel, rfl, by decide +kernel, by decide +kernel⟩
theorem ok__law_draw (T : TT w K mg) {k : Nat} {g : SpD} (hl : ∀ ds S Q E, g ds S Q E → ds.length = 2)
    (hd : Kp N__law_draw g (b__law_draw)) : FnG P w K mg base (k + 1) "_law_draw" [] g := by
  obtain ⟨fd, F⟩ := fd__law_draw T
  exact FnG.of (fn_okD F sc__law_draw hl fun f cdv A outer s H E h => ⟨_, q__law_draw T h, hd⟩) (gl__law_draw T) F.kp (BindD.none (F.bindsN fun _ _ _ _ _ _ us hl => match us, hl with | [_, _], _ => rfl))
def N__law_key : List PySem.Str := ["bag", "some", "signs", "k"]
def b__law_key (g__law_draw : SpD) : QS := (qSeq (qAsg (.name 1) (qLst (qCons (qC (.str "1")) (qCons (qC (.str "2")) (qCons (qC (.str "10")) (qCons (qC (.str "-1")) (qCons (qC (.str "0")) (qCons (qC (.str "07")) (qCons (qC (.str "-0")) (qCons (qC (.str "+1")) (qCons (qC (.str "1a")) (qCons (qC (.str "a")) (qCons (qC (.str "ab")) (qCons (qC (.str "b")) (qCons (qC (.str "A")) (qCons (qC (.str " ")) (qCons (qC (.str "x y")) (qCons (qOp mulD (qC (.str "a")) (qC (.int 40))) (qCons (qOp mulD (qC (.str "9")) (qC (.int 20))) qNil)))))))))))))))))))
    (qSeq (qIfS (qT (qOp gtD (qCall g__law_draw [] (qCons (qVar 0) (qCons (qC (.int 3)) qNil))) (qC (.int 0)))) (qRet (qOp ixD (qVar 1) (qCall g__law_draw [] (qCons (qVar 0) (qCons (qC (.int 17)) qNil))))) qNext)
    (qSeq (qAsg (.name 2) (qC (.str " !\"#$&'()*+,-./0189:;<=>?@AZ[\\]^_`az{|}~")))
    (qRet (qBM "str" joinD (qC (.str "")) (qCons (qLc (qiR1 (qCons (qOp addD (qC (.int 1)) (qCall g__law_draw [] (qCons (qVar 0) (qCons (qC (.int 3)) qNil)))) qNil)) (.name 3) qYes (qOp ixD (qVar 2) (qCall g__law_draw [] (qCons (qVar 0) (qCons (qCB lenD (qCons (qVar 2) qNil)) qNil)))) [3]) qNil))))))
theorem q__law_key (T : TT w K mg) {k : Nat} {k__law_draw : Nat} {g__law_draw : SpD} (F__law_draw : FnG P w K mg base k__law_draw "_law_draw" [] g__law_draw) (hk__law_draw : k__law_draw ≤ k) {f : Addr} {cdv : Value} {A : Around} {outer : List PySem.Env} {s : Shared} {H : Hp} {E : XK} (h : Here (cxF P w K mg base N__law_key "_law_key" (defScope s__law_key) f cdv A outer s H E) k) :
    QSts (cxF P w K mg base N__law_key "_law_key" (defScope s__law_key) f cdv A outer s H E) (defBody s__law_key) (b__law_key g__law_draw) :=
  (qss_cons (qs_set 1 (qe_lst (qa_cons qe_str (qa_cons qe_str (qa_cons qe_str (qa_cons qe_str (qa_cons qe_str (qa_cons qe_str (qa_cons qe_str (qa_cons qe_str (qa_cons qe_str (qa_cons qe_str (qa_cons qe_str (qa_cons qe_str (qa_cons qe_str (qa_cons qe_str (qa_cons qe_str (qa_cons (qe_mul qe_str qe_int) (qa_cons (qe_mul qe_str qe_int) qa_nil)))))))))))))))))) h.nd)
    (qss_cons (qs_if (qt_gt (qe_call h F__law_draw (qa_cons (qe_var 0) (qa_cons qe_int qa_nil)) hk__law_draw) qe_int) (qss_one (qs_ret (qe_ix (qe_var 1) (qe_call h F__law_draw (qa_cons (qe_var 0) (qa_cons qe_int qa_nil)) hk__law_draw)))) qss_nil)
    (qss_cons (qs_set 2 qe_str h.nd)
    (qss_one (qs_ret (qe_join qe_str (qa_cons (qe_lc (own := [("k", 3)]) h (qi_range1 (n_range T) (qa_cons (qe_add qe_int (qe_call h F__law_draw (qa_cons (qe_var 0) (qa_cons qe_int qa_nil)) hk__law_draw)) qa_nil)) (blkOk_of rfl) (fun _ _ _ _ _ h1 => (tg_name 3 h1.nd)) (fun _ _ _ _ _ h1 => qi_nil) (fun _ _ _ _ _ h1 => (qe_ix (qe_var 2) (qe_call h1 F__law_draw (qa_cons (qe_var 0) (qa_cons (qe_len (n_len T) (qa_cons (qe_var 2) qa_nil)) qa_nil)) hk__law_draw)))) qa_nil)))))))
theorem sc__law_key : FnScope N__law_key ["bag"] (defScope s__law_key) := ⟨rfl, rfl, rfl, by decide +kernel, rfl, by decide +kernel, by decide +kernel⟩
theorem ok__law_key (T : TT w K mg) {k : Nat} {k__law_draw : Nat} {g__law_draw : SpD} (F__law_draw : FnG P w K mg base k__law_draw "_law_draw" [] g__law_draw) (hk__law_draw : k__law_draw ≤ k) {g : SpD} (hl : ∀ ds S Q E, g ds S Q E → ds.length = 1)
    (hd : Kp N__law_key g (b__law_key g__law_draw)) : FnG P w K mg base (k + 1) "_law_key" [] g := by
  obtain ⟨fd, F⟩ := fd__law_key T
  exact FnG.of (fn_okD F sc__law_key hl fun f cdv A outer s H E h => ⟨_, q__law_key T F__law_draw hk__law_draw h, hd⟩) (gl__law_key T) F.kp (BindD.none (F.bindsN fun _ _ _ _ _ _ us hl => match us, hl with | [_], _ => rfl))
def N__law_worth : List PySem.Str := ["bag", "some", "lot"]
def b__law_worth (g__law_draw : SpD) (g__law_key : SpD) : QS := (qSeq (qAsg (.name 1) (qLst (qCons (qC (.str "")) (qCons (qC (.str "0")) (qCons (qC (.str "1")) (qCons (qC (.str "5")) (qCons (qC (.str "-3")) (qCons (qC (.str "12")) (qCons (qC (.str "007")) (qCons (qC (.str "-0")) (qCons (qC (.str "+4x")) (qCons (qC (.str "--2")) (qCons (qC (.str "abc")) (qCons (qC (.str "a,b,,c")) (qCons (qC (.str "1e3")) (qCons (qC (.str " 1")) (qCons (qOp mulD (qC (.str "a")) (qC (.int 50))) (qCons (qC (.str "-")) qNil))))))))))))))))))
    (qSeq (qAsg (.name 2) (qCall g__law_draw [] (qCons (qVar 0) (qCons (qC (.int 4)) qNil))))
    (qSeq (qIfS (qT (qOp ltD (qVar 2) (qC (.int 2)))) (qRet (qOp ixD (qVar 1) (qCall g__law_draw [] (qCons (qVar 0) (qCons (qC (.int 16)) qNil))))) qNext)
    (qSeq (qIfS (qT (qOp (eqD false) (qVar 2) (qC (.int 2)))) (qRet (qCB strD (qCons (qOp subD (qCall g__law_draw [] (qCons (qVar 0) (qCons (qOp ixD (qLst (qCons (qC (.int 10)) (qCons (qOp powD (qC (.int 10)) (qC (.int 6))) (qCons (qOp powD (qC (.int 10)) (qC (.int 19))) qNil)))) (qCall g__law_draw [] (qCons (qVar 0) (qCons (qC (.int 3)) qNil)))) qNil))) (qC (.int 4))) qNil))) qNext)
    (qRet (qOp addD (qSl (qCall g__law_key [] (qCons (qVar 0) qNil)) qNoPart (qPart (qC (.int 40)))) (qCall g__law_key [] (qCons (qVar 0) qNil))))))))
theorem q__law_worth (T : TT w K mg) {k : Nat} {k__law_draw : Nat} {g__law_draw : SpD} (F__law_draw : FnG P w K mg base k__law_draw "_law_draw" [] g__law_draw) (hk__law_draw : k__law_draw ≤ k) {k__law_key : Nat} {g__law_key : SpD} (F__law_key : FnG P w K mg base k__law_key "_law_key" [] g__law_key) (hk__law_key : k__law_key ≤ k) {f : Addr} {cdv : Value} {A : Around} {outer : List PySem.Env} {s : Shared} {H : Hp} {E : XK} (h : Here (cxF P w K mg base N__law_worth "_law_worth" (defScope s__law_worth) f cdv A outer s H E) k) :
    QSts (cxF P w K mg base N__law_worth "_law_worth" (defScope s__law_worth) f cdv A outer s H E) (defBody s__law_worth) (b__law_worth g__law_draw g__law_key) :=
  (qss_cons (qs_set 1 (qe_lst (qa_cons qe_str (qa_cons qe_str (qa_cons qe_str (qa_cons qe_str (qa_cons qe_str (qa_cons qe_str (qa_cons qe_str (qa_cons qe_str (qa_cons qe_str (qa_cons qe_str (qa_cons qe_str (qa_cons qe_str (qa_cons qe_str (qa_cons qe_str (qa_cons (qe_mul qe_str qe_int) (qa_cons qe_str qa_nil))))))))))))))))) h.nd)
    (qss_cons (qs_set 2 (qe_call h F__law_draw (qa_cons (qe_var 0) (qa_cons qe_int qa_nil)) hk__law_draw) h.nd)
    (qss_cons (qs_if (qt_lt (qe_var 2) qe_int) (qss_one (qs_ret (qe_ix (qe_var 1) (qe_call h F__law_draw (qa_cons (qe_var 0) (qa_cons qe_int qa_nil)) hk__law_draw)))) qss_nil)
    (qss_cons (qs_if (qt_eq h (qe_var 2) qe_int) (qss_one (qs_ret (qe_str' (n_str T) (qa_cons (qe_sub (qe_call h F__law_draw (qa_cons (qe_var 0) (qa_cons (qe_ix (qe_lst (qa_cons qe_int (qa_cons (qe_pow qe_int qe_int) (qa_cons (qe_pow qe_int qe_int) qa_nil)))) (qe_call h F__law_draw (qa_cons (qe_var 0) (qa_cons qe_int qa_nil)) hk__law_draw)) qa_nil)) hk__law_draw) qe_int) qa_nil)))) qss_nil)
    (qss_one (qs_ret (qe_add (qe_sl (qe_call h F__law_key (qa_cons (qe_var 0) qa_nil) hk__law_key) qo_none (qo_some qe_int)) (qe_call h F__law_key (qa_cons (qe_var 0) qa_nil) hk__law_key))))))))
theorem sc__law_worth : FnScope N__law_worth ["bag"] (defScope s__law_worth) := ⟨rfl, rfl, rfl, by decide +kernel, rfl, by decide +kernel, by decide +kernel⟩
theorem ok__law_worth (T : TT w K mg) {k : Nat} {k__law_draw : Nat} {g__law_draw : SpD} (F__law_draw : FnG P w K mg base k__law_draw "_law_draw" [] g__law_draw) (hk__law_draw : k__law_draw ≤ k) {k__law_key : Nat} {g__law_key : SpD} (F__law_key : FnG P w K mg base k__law_key "_law_key" [] g__law_key) (hk__law_key : k__law_key ≤ k) {g : SpD} (hl : ∀ ds S Q E, g ds S Q E → ds.length = 1)
    (hd : Kp N__law_worth g (b__law_worth g__law_draw g__law_key)) : FnG P w K mg base (k + 1) "_law_worth" [] g := by
  obtain ⟨fd, F⟩ := fd__law_worth T
  exact FnG.of (fn_okD F sc__law_worth hl fun f cdv A outer s H E h => ⟨_, q__law_worth T F__law_draw hk__law_draw F__law_key hk__law_key h, hd⟩) (gl__law_worth T) F.kp (BindD.none (F.bindsN fun _ _ _ _ _ _ us hl => match us, hl with | [_], _ => rfl))
def N__law_number : List PySem.Str := ["worth", "k", "minus", "number"]
def b__law_number  : QS := (qSeq (qAsg (.name 1) (qC (.int 0)))
    (qSeq (qAsg (.name 2) (qC (.int 0)))
    (qSeq (qWhile (qAnd (qT (qOp ltD (qVar 1) (qCB lenD (qCons (qVar 0) qNil)))) (qT (qOp (inD false) (qOp ixD (qVar 0) (qVar 1)) (qC (.str "+-"))))) (qSeq (qAsg (.name 2) (qOp addD (qVar 2) (qCB intD (qCons (qOp (eqD false) (qOp ixD (qVar 0) (qVar 1)) (qC (.str "-"))) qNil))))
    (qAsg (.name 1) (qOp addD (qVar 1) (qC (.int 1))))))
    (qSeq (qAsg (.name 3) (qC (.int 0)))
    (qSeq (qWhile (qAnd (qT (qOp ltD (qVar 1) (qCB lenD (qCons (qVar 0) qNil)))) (qT (qOp (inD false) (qOp ixD (qVar 0) (qVar 1)) (qC (.str "0123456789"))))) (qSeq (qAsg (.name 3) (qOp addD (qOp mulD (qVar 3) (qC (.int 10))) (qCB intD (qCons (qOp ixD (qVar 0) (qVar 1)) qNil))))
    (qAsg (.name 1) (qOp addD (qVar 1) (qC (.int 1))))))
    (qRet (qOp mulD (qVar 3) (qOp ixD (qLst (qCons (qC (.int 1)) (qCons (qC (.int (-1))) qNil))) (qOp modD (qVar 2) (qC (.int 2)))))))))))
theorem q__law_number (T : TT w K mg) {k : Nat} {f : Addr} {cdv : Value} {A : Around} {outer : List PySem.Env} {s : Shared} {H : Hp} {E : XK} (h : Here (cxF P w K mg base N__law_number "_law_number" (defScope s__law_number) f cdv A outer s H E) k) :
    QSts (cxF P w K mg base N__law_number "_law_number" (defScope s__law_number) f cdv A outer s H E) (defBody s__law_number) (b__law_number) :=
  (qss_cons (qs_set 1 qe_int h.nd)
    (qss_cons (qs_set 2 qe_int h.nd)
    (qss_cons (qs_while h.po (qt_w (qw_and (qt_lt (qe_var 1) (qe_len (n_len T) (qa_cons (qe_var 0) qa_nil))) (qw_and1 (qt_in (qe_ix (qe_var 0) (qe_var 1)) qe_str)))) (qss_cons (qs_set 2 (qe_add (qe_var 2) (qe_int' (n_int T) (qa_cons (qe_eq h (qe_ix (qe_var 0) (qe_var 1)) qe_str) qa_nil))) h.nd)
    (qss_one (qs_set 1 (qe_add (qe_var 1) qe_int) h.nd))))
    (qss_cons (qs_set 3 qe_int h.nd)
    (qss_cons (qs_while h.po (qt_w (qw_and (qt_lt (qe_var 1) (qe_len (n_len T) (qa_cons (qe_var 0) qa_nil))) (qw_and1 (qt_in (qe_ix (qe_var 0) (qe_var 1)) qe_str)))) (qss_cons (qs_set 3 (qe_add (qe_mul (qe_var 3) qe_int) (qe_int' (n_int T) (qa_cons (qe_ix (qe_var 0) (qe_var 1)) qa_nil))) h.nd)
    (qss_one (qs_set 1 (qe_add (qe_var 1) qe_int) h.nd))))
    (qss_one (qs_ret (qe_mul (qe_var 3) (qe_ix (qe_lst (qa_cons qe_int (qa_cons qe_neg qa_nil))) (qe_mod (qe_var 2) qe_int))))))))))
theorem sc__law_number : FnScope N__law_number ["worth"] (defScope s__law_number) := ⟨rfl, rfl, rfl, by decide +kernel, rfl, by decide +kernel, by decide +kernel⟩
theorem ok__law_number (T : TT w K mg) {k : Nat} {g : SpD} (hl : ∀ ds S Q E, g ds S Q E → ds.length = 1)
    (hd : Kp N__law_number g (b__law_number)) : FnG P w K mg base (k + 1) "_law_number" [] g := by
  obtain ⟨fd, F⟩ := fd__law_number T
  exact FnG.of (fn_okD F sc__law_number hl fun f cdv A outer s H E h => ⟨_, q__law_number T h, hd⟩) (gl__law_number T) F.kp (BindD.none (F.bindsN fun _ _ _ _ _ _ us hl => match us, hl with | [_], _ => rfl))
def N__law_piece : List PySem.Str := ["one", "other", "nth", "found", "here", "k"]
def b__law_piece  : QS := (qSeq (qAsg (.name 3) (qLst qNil))
    (qSeq (qAsg (.name 4) (qC (.str "")))
    (qSeq (qAsg (.name 5) (qC (.int 0)))
    (qSeq (qWhile (qT (qOp ltD (qVar 5) (qCB lenD (qCons (qVar 0) qNil)))) (qIfS (qAnd (qT (qOp (eqD true) (qVar 1) (qC (.str "")))) (qT (qOp (eqD false) (qSl (qVar 0) (qPart (qVar 5)) (qPart (qOp addD (qVar 5) (qCB lenD (qCons (qVar 1) qNil))))) (qVar 1)))) (qSeq (qDrop (qBM "list" appendD (qVar 3) (qCons (qVar 4) qNil)))
    (qSeq (qAsg (.name 4) (qC (.str "")))
    (qAsg (.name 5) (qOp addD (qVar 5) (qCB lenD (qCons (qVar 1) qNil)))))) (qSeq (qAsg (.name 4) (qOp addD (qVar 4) (qOp ixD (qVar 0) (qVar 5))))
    (qAsg (.name 5) (qOp addD (qVar 5) (qC (.int 1)))))))
    (qSeq (qDrop (qBM "list" appendD (qVar 3) (qCons (qVar 4) qNil)))
    (qRet (qIf (qT (qCh leD leD (qC (.int 1)) (qVar 2) (qCB lenD (qCons (qVar 3) qNil)))) (qOp ixD (qVar 3) (qOp subD (qVar 2) (qC (.int 1)))) (qC (.str "")))))))))
theorem q__law_piece (T : TT w K mg) {k : Nat} {f : Addr} {cdv : Value} {A : Around} {outer : List PySem.Env} {s : Shared} {H : Hp} {E : XK} (h : Here (cxF P w K mg base N__law_piece "_law_piece" (defScope s__law_piece) f cdv A outer s H E) k) :
    QSts (cxF P w K mg base N__law_piece "_law_piece" (defScope s__law_piece) f cdv A outer s H E) (defBody s__law_piece) (b__law_piece) :=
  (qss_cons (qs_set 3 (qe_lst qa_nil) h.nd)
    (qss_cons (qs_set 4 qe_str h.nd)
    (qss_cons (qs_set 5 qe_int h.nd)
    (qss_cons (qs_while h.po (qt_lt (qe_var 5) (qe_len (n_len T) (qa_cons (qe_var 0) qa_nil))) (qss_one (qs_if (qt_w (qw_and (qt_ne h (qe_var 1) qe_str) (qw_and1 (qt_eq h (qe_sl (qe_var 0) (qo_some (qe_var 5)) (qo_some (qe_add (qe_var 5) (qe_len (n_len T) (qa_cons (qe_var 1) qa_nil))))) (qe_var 1))))) (qss_cons (qs_expr (qe_append (qe_var 3) (qa_cons (qe_var 4) qa_nil)))
    (qss_cons (qs_set 4 qe_str h.nd)
    (qss_one (qs_set 5 (qe_add (qe_var 5) (qe_len (n_len T) (qa_cons (qe_var 1) qa_nil))) h.nd)))) (qss_cons (qs_set 4 (qe_add (qe_var 4) (qe_ix (qe_var 0) (qe_var 5))) h.nd)
    (qss_one (qs_set 5 (qe_add (qe_var 5) qe_int) h.nd))))))
    (qss_cons (qs_expr (qe_append (qe_var 3) (qa_cons (qe_var 4) qa_nil)))
    (qss_one (qs_ret (qe_ifExp (qt_ch op_leV op_leV opd_cmp opd_cmp qe_int (qe_var 2) (qe_len (n_len T) (qa_cons (qe_var 3) qa_nil))) (qe_ix (qe_var 3) (qe_sub (qe_var 2) qe_int)) qe_str))))))))
theorem sc__law_piece : FnScope N__law_piece ["one", "other", "nth"] (defScope s__law_piece) := ⟨rfl, rfl, rfl, by decide +kernel, rfl, by decide +kernel, by decide +kernel⟩
theorem ok__law_piece (T : TT w K mg) {k : Nat} {g : SpD} (hl : ∀ ds S Q E, g ds S Q E → ds.length = 3)
    (hd : Kp N__law_piece g (b__law_piece)) : FnG P w K mg base (k + 1) "_law_piece" [] g := by
  obtain ⟨fd, F⟩ := fd__law_piece T
  exact FnG.of (fn_okD F sc__law_piece hl fun f cdv A outer s H E h => ⟨_, q__law_piece T h, hd⟩) (gl__law_piece T) F.kp (BindD.none (F.bindsN fun _ _ _ _ _ _ us hl => match us, hl with | [_, _, _], _ => rfl))
def N__law_text : List PySem.Str := ["bag", "few", "k"]
def b__law_text (g__law_draw : SpD) (g__law_worth : SpD) : QS := (qSeq (qAsg (.name 1) (qBM "str" joinD (qC (.str "")) (qCons (qLc (qiR1 (qCons (qCall g__law_draw [] (qCons (qVar 0) (qCons (qC (.int 13)) qNil))) qNil)) (.name 2) qYes (qOp ixD (qC (.str "ab,")) (qCall g__law_draw [] (qCons (qVar 0) (qCons (qC (.int 3)) qNil)))) [2]) qNil)))
    (qRet (qOp ixD (qLst (qCons (qVar 1) (qCons (qVar 1) (qCons (qCall g__law_worth [] (qCons (qVar 0) qNil)) (qCons (qC (.str "")) (qCons (qOp mulD (qC (.str "aab")) (qCall g__law_draw [] (qCons (qVar 0) (qCons (qC (.int 60)) qNil)))) qNil)))))) (qCall g__law_draw [] (qCons (qVar 0) (qCons (qC (.int 5)) qNil))))))
theorem q__law_text (T : TT w K mg) {k : Nat} {k__law_draw : Nat} {g__law_draw : SpD} (F__law_draw : FnG P w K mg base k__law_draw "_law_draw" [] g__law_draw) (hk__law_draw : k__law_draw ≤ k) {k__law_worth : Nat} {g__law_worth : SpD} (F__law_worth : FnG P w K mg base k__law_worth "_law_worth" [] g__law_worth) (hk__law_worth : k__law_worth ≤ k) {f : Addr} {cdv : Value} {A : Around} {outer : List PySem.Env} {s : Shared} {H : Hp} {E : XK} (h : Here (cxF P w K mg base N__law_text "_law_text" (defScope s__law_text) f cdv A outer s H E) k) :
    QSts (cxF P w K mg base N__law_text "_law_text" (defScope s__law_text) f cdv A outer s H E) (defBody s__law_text) (b__law_text g__law_draw g__law_worth) :=
  (qss_cons (qs_set 1 (qe_join qe_str (qa_cons (qe_lc (own := [("k", 2)]) h (qi_range1 (n_range T) (qa_cons (qe_call h F__law_draw (qa_cons (qe_var 0) (qa_cons qe_int qa_nil)) hk__law_draw) qa_nil)) (blkOk_of rfl) (fun _ _ _ _ _ h1 => (tg_name 2 h1.nd)) (fun _ _ _ _ _ h1 => qi_nil) (fun _ _ _ _ _ h1 => (qe_ix qe_str (qe_call h1 F__law_draw (qa_cons (qe_var 0) (qa_cons qe_int qa_nil)) hk__law_draw)))) qa_nil)) h.nd)
    (qss_one (qs_ret (qe_ix (qe_lst (qa_cons (qe_var 1) (qa_cons (qe_var 1) (qa_cons (qe_call h F__law_worth (qa_cons (qe_var 0) qa_nil) hk__law_worth) (qa_cons qe_str (qa_cons (qe_mul qe_str (qe_call h F__law_draw (qa_cons (qe_var 0) (qa_cons qe_int qa_nil)) hk__law_draw)) qa_nil)))))) (qe_call h F__law_draw (qa_cons (qe_var 0) (qa_cons qe_int qa_nil)) hk__law_draw)))))
theorem sc__law_text : FnScope N__law_text ["bag"] (defScope s__law_text) := ⟨rfl, rfl, rfl, by decide +kernel, rfl, by decide +kernel, by decide +kernel⟩
theorem ok__law_text (T : TT w K mg) {k : Nat} {k__law_draw : Nat} {g__law_draw : SpD} (F__law_draw : FnG P w K mg base k__law_draw "_law_draw" [] g__law_draw) (hk__law_draw : k__law_draw ≤ k) {k__law_worth : Nat} {g__law_worth : SpD} (F__law_worth : FnG P w K mg base k__law_worth "_law_worth" [] g__law_worth) (hk__law_worth : k__law_worth ≤ k) {g : SpD} (hl : ∀ ds S Q E, g ds S Q E → ds.length = 1)
    (hd : Kp N__law_text g (b__law_text g__law_draw g__law_worth)) : FnG P w K mg base (k + 1) "_law_text" [] g := by
  obtain ⟨fd, F⟩ := fd__law_text T
  exact FnG.of (fn_okD F sc__law_text hl fun f cdv A outer s H E h => ⟨_, q__law_text T F__law_draw hk__law_draw F__law_worth hk__law_worth h, hd⟩) (gl__law_text T) F.kp (BindD.none (F.bindsN fun _ _ _ _ _ _ us hl => match us, hl with | [_], _ => rfl))
def N__law_nth : List PySem.Str := ["bag", "most", "some"]
def b__law_nth (g__law_draw : SpD) : QS := (qSeq (qAsg (.name 2) (qLst (qCons (qCall g__law_draw [] (qCons (qVar 0) (qCons (qOp addD (qVar 1) (qC (.int 3))) qNil))) (qCons (qCall g__law_draw [] (qCons (qVar 0) (qCons (qC (.int 4)) qNil))) (qCons (qOp subD (qC (.int 0)) (qCall g__law_draw [] (qCons (qVar 0) (qCons (qC (.int 3)) qNil)))) (qCons (qVar 1) qNil))))))
    (qSeq (qDrop (qBM "list" appendD (qVar 2) (qCons (qOp addD (qOp addD (qVar 1) (qC (.int 1))) (qCall g__law_draw [] (qCons (qVar 0) (qCons (qOp powD (qC (.int 10)) (qC (.int 9))) qNil)))) qNil)))
    (qRet (qOp addD (qCB strD (qCons (qOp ixD (qVar 2) (qCall g__law_draw [] (qCons (qVar 0) (qCons (qC (.int 5)) qNil)))) qNil)) (qOp ixD (qLst (qCons (qC (.str "")) (qCons (qC (.str "")) (qCons (qC (.str "x")) (qCons (qC (.str " 2")) qNil))))) (qCall g__law_draw [] (qCons (qVar 0) (qCons (qC (.int 4)) qNil))))))))
theorem q__law_nth (T : TT w K mg) {k : Nat} {k__law_draw : Nat} {g__law_draw : SpD} (F__law_draw : FnG P w K mg base k__law_draw "_law_draw" [] g__law_draw) (hk__law_draw : k__law_draw ≤ k) {f : Addr} {cdv : Value} {A : Around} {outer : List PySem.Env} {s : Shared} {H : Hp} {E : XK} (h : Here (cxF P w K mg base N__law_nth "_law_nth" (defScope s__law_nth) f cdv A outer s H E) k) :
    QSts (cxF P w K mg base N__law_nth "_law_nth" (defScope s__law_nth) f cdv A outer s H E) (defBody s__law_nth) (b__law_nth g__law_draw) :=
  (qss_cons (qs_set 2 (qe_lst (qa_cons (qe_call h F__law_draw (qa_cons (qe_var 0) (qa_cons (qe_add (qe_var 1) qe_int) qa_nil)) hk__law_draw) (qa_cons (qe_call h F__law_draw (qa_cons (qe_var 0) (qa_cons qe_int qa_nil)) hk__law_draw) (qa_cons (qe_sub qe_int (qe_call h F__law_draw (qa_cons (qe_var 0) (qa_cons qe_int qa_nil)) hk__law_draw)) (qa_cons (qe_var 1) qa_nil))))) h.nd)
    (qss_cons (qs_expr (qe_append (qe_var 2) (qa_cons (qe_add (qe_add (qe_var 1) qe_int) (qe_call h F__law_draw (qa_cons (qe_var 0) (qa_cons (qe_pow qe_int qe_int) qa_nil)) hk__law_draw)) qa_nil)))
    (qss_one (qs_ret (qe_add (qe_str' (n_str T) (qa_cons (qe_ix (qe_var 2) (qe_call h F__law_draw (qa_cons (qe_var 0) (qa_cons qe_int qa_nil)) hk__law_draw)) qa_nil)) (qe_ix (qe_lst (qa_cons qe_str (qa_cons qe_str (qa_cons qe_str (qa_cons qe_str qa_nil))))) (qe_call h F__law_draw (qa_cons (qe_var 0) (qa_cons qe_int qa_nil)) hk__law_draw)))))))
theorem sc__law_nth : FnScope N__law_nth ["bag", "most"] (defScope s__law_nth) := ⟨rfl, rfl, rfl, by decide +kernel, rfl, by decide +kernel, by decide +kernel⟩
theorem ok__law_nth (T : TT w K mg) {k : Nat} {k__law_draw : Nat} {g__law_draw : SpD} (F__law_draw : FnG P w K mg base k__law_draw "_law_draw" [] g__law_draw) (hk__law_draw : k__law_draw ≤ k) {g : SpD} (hl : ∀ ds S Q E, g ds S Q E → ds.length = 2)
    (hd : Kp N__law_nth g (b__law_nth g__law_draw)) : FnG P w K mg base (k + 1) "_law_nth" [] g := by
  obtain ⟨fd, F⟩ := fd__law_nth T
  exact FnG.of (fn_okD F sc__law_nth hl fun f cdv A outer s H E h => ⟨_, q__law_nth T F__law_draw hk__law_draw h, hd⟩) (gl__law_nth T) F.kp (BindD.none (F.bindsN fun _ _ _ _ _ _ us hl => match us, hl with | [_, _], _ => rfl))
def N__law_pieces_right : List PySem.Str := ["scene", "one", "other", "nth", "due", "found", "k", "piece", "many"]
def b__law_pieces_right (K : PySem.W.Frag) (g__law_piece : SpD) (g__law_number : SpD) (g_Scene_reckon : SpD) : QS := (qSeq (qAsg (.name 4) (qCall g__law_piece [] (qCons (qVar 1) (qCons (qVar 2) (qCons (qCall g__law_number [] (qCons (qVar 3) qNil)) qNil)))))
    (qSeq (qIfS (qT (qOp (eqD true) (qMeth (He.ga K "Scene") "reckon" g_Scene_reckon [] (qVar 0) (qCons (qTup (qCons (qC (.str "piece")) (qCons (qTup (qCons (qC (.str "is")) (qCons (qVar 1) qNil))) (qCons (qTup (qCons (qC (.str "is")) (qCons (qVar 2) qNil))) (qCons (qTup (qCons (qC (.str "is")) (qCons (qVar 3) qNil))) qNil))))) qNil)) (qVar 4))) (qRet (qC (.bl false))) qNext)
    (qSeq (qIfS (qT (qOp (eqD false) (qVar 2) (qC (.str "")))) (qRet (qC (.bl true))) qNext)
    (qSeq (qAsg (.name 5) (qLst qNil))
    (qSeq (qFor (qiR1 (qCons (qOp addD (qCB lenD (qCons (qVar 1) qNil)) (qC (.int 1))) qNil)) (.name 6) (qSeq (qAsg (.name 7) (qMeth (He.ga K "Scene") "reckon" g_Scene_reckon [] (qVar 0) (qCons (qTup (qCons (qC (.str "piece")) (qCons (qTup (qCons (qC (.str "is")) (qCons (qVar 1) qNil))) (qCons (qTup (qCons (qC (.str "is")) (qCons (qVar 2) qNil))) (qCons (qTup (qCons (qC (.str "is")) (qCons (qCB strD (qCons (qOp addD (qVar 6) (qC (.int 1))) qNil)) qNil))) qNil))))) qNil)))
    (qSeq (qIfS (qOr (qNot (qT (qIsi "str" (qVar 7)))) (qT (qOp (inD false) (qVar 2) (qVar 7)))) (qRet (qC (.bl false))) qNext)
    (qDrop (qBM "list" appendD (qVar 5) (qCons (qVar 7) qNil))))))
    (qSeq (qAsg (.name 8) (qOp addD (qC (.int 1)) (qOp fdivD (qOp subD (qCB lenD (qCons (qVar 1) qNil)) (qCB sumD (qCons (qLc (qiL (qVar 5)) (.name 7) qYes (qCB lenD (qCons (qVar 7) qNil)) [7]) qNil))) (qCB lenD (qCons (qVar 2) qNil)))))
    (qRet (qAndV (qOp (eqD false) (qBM "str" joinD (qVar 2) (qCons (qSl (qVar 5) qNoPart (qPart (qVar 8))) qNil)) (qVar 1)) (qOp (eqD false) (qSl (qVar 5) (qPart (qVar 8)) qNoPart) (qOp mulD (qLst (qCons (qC (.str "")) qNil)) (qOp subD (qCB lenD (qCons (qVar 5) qNil)) (qVar 8))))))))))))
theorem q__law_pieces_right (T : TT w K mg) {k : Nat} {k__law_piece : Nat} {g__law_piece : SpD} (F__law_piece : FnG P w K mg base k__law_piece "_law_piece" [] g__law_piece) (hk__law_piece : k__law_piece ≤ k) {k__law_number : Nat} {g__law_number : SpD} (F__law_number : FnG P w K mg base k__law_number "_law_number" [] g__law_number) (hk__law_number : k__law_number ≤ k) {k_Scene_reckon : Nat} {g_Scene_reckon : SpD} (F_Scene_reckon : MtG P w K mg base k_Scene_reckon (He.ga K "Scene") "reckon" [] g_Scene_reckon) (hk_Scene_reckon : k_Scene_reckon ≤ k) {f : Addr} {cdv : Value} {A : Around} {outer : List PySem.Env} {s : Shared} {H : Hp} {E : XK} (h : Here (cxF P w K mg base N__law_pieces_right "_law_pieces_right" (defScope s__law_pieces_right) f cdv A outer s H E) k) :
    QSts (cxF P w K mg base N__law_pieces_right "_law_pieces_right" (defScope s__law_pieces_right) f cdv A outer s H E) (defBody s__law_pieces_right) (b__law_pieces_right K g__law_piece g__law_number g_Scene_reckon) :=
  (qss_cons (qs_set 4 (qe_call h F__law_piece (qa_cons (qe_var 1) (qa_cons (qe_var 2) (qa_cons (qe_call h F__law_number (qa_cons (qe_var 3) qa_nil) hk__law_number) qa_nil))) hk__law_piece) h.nd)
    (qss_cons (qs_if (qt_ne h (qe_meth h F_Scene_reckon (qe_var 0) (qa_cons (qe_tup (qa_cons qe_str (qa_cons (qe_tup (qa_cons qe_str (qa_cons (qe_var 1) qa_nil))) (qa_cons (qe_tup (qa_cons qe_str (qa_cons (qe_var 2) qa_nil))) (qa_cons (qe_tup (qa_cons qe_str (qa_cons (qe_var 3) qa_nil))) qa_nil))))) qa_nil) hk_Scene_reckon) (qe_var 4)) (qss_one (qs_ret qe_bl)) qss_nil)
    (qss_cons (qs_if (qt_eq h (qe_var 2) qe_str) (qss_one (qs_ret qe_bl)) qss_nil)
    (qss_cons (qs_set 5 (qe_lst qa_nil) h.nd)
    (qss_cons (qs_for h (qi_range1 (n_range T) (qa_cons (qe_add (qe_len (n_len T) (qa_cons (qe_var 1) qa_nil)) qe_int) qa_nil)) (tg_name 6 h.nd) (qss_cons (qs_set 7 (qe_meth h F_Scene_reckon (qe_var 0) (qa_cons (qe_tup (qa_cons qe_str (qa_cons (qe_tup (qa_cons qe_str (qa_cons (qe_var 1) qa_nil))) (qa_cons (qe_tup (qa_cons qe_str (qa_cons (qe_var 2) qa_nil))) (qa_cons (qe_tup (qa_cons qe_str (qa_cons (qe_str' (n_str T) (qa_cons (qe_add (qe_var 6) qe_int) qa_nil)) qa_nil))) qa_nil))))) qa_nil) hk_Scene_reckon) h.nd)
    (qss_cons (qs_if (qt_w (qw_or (qt_not (qt_val (qe_isi (T := "str") (n_isinstance T) (n_str T) (qe_var 7)))) (qw_or1 (qt_in (qe_var 2) (qe_var 7))))) (qss_one (qs_ret qe_bl)) qss_nil)
    (qss_one (qs_expr (qe_append (qe_var 5) (qa_cons (qe_var 7) qa_nil)))))))
    (qss_cons (qs_set 8 (qe_add qe_int (qe_fdiv (qe_sub (qe_len (n_len T) (qa_cons (qe_var 1) qa_nil)) (qe_sum h (n_sum T) (qa_cons (qe_lc (own := [("piece", 7)]) h (qi_list (qe_var 5)) (blkOk_of rfl) (fun _ _ _ _ _ h1 => (tg_name 7 h1.nd)) (fun _ _ _ _ _ h1 => qi_nil) (fun _ _ _ _ _ h1 => (qe_len (n_len T) (qa_cons (qe_var 7) qa_nil)))) qa_nil))) (qe_len (n_len T) (qa_cons (qe_var 2) qa_nil)))) h.nd)
    (qss_one (qs_ret (qe_and (qe_eq h (qe_join (qe_var 2) (qa_cons (qe_sl (qe_var 5) qo_none (qo_some (qe_var 8))) qa_nil)) (qe_var 1)) (qe_one (qe_eq h (qe_sl (qe_var 5) (qo_some (qe_var 8)) qo_none) (qe_mul (qe_lst (qa_cons qe_str qa_nil)) (qe_sub (qe_len (n_len T) (qa_cons (qe_var 5) qa_nil)) (qe_var 8))))))))))))))
theorem sc__law_pieces_right : FnScope N__law_pieces_right ["scene", "one", "other", "nth"] (defScope s__law_pieces_right) := ⟨rfl, rfl, rfl, by decide +kernel, rfl, by decide +kernel, by decide +kernel⟩
theorem ok__law_pieces_right (T : TT w K mg) {k : Nat} {k__law_piece : Nat} {g__law_piece : SpD} (F__law_piece : FnG P w K mg base k__law_piece "_law_piece" [] g__law_piece) (hk__law_piece : k__law_piece ≤ k) {k__law_number : Nat} {g__law_number : SpD} (F__law_number : FnG P w K mg base k__law_number "_law_number" [] g__law_number) (hk__law_number : k__law_number ≤ k) {k_Scene_reckon : Nat} {g_Scene_reckon : SpD} (F_Scene_reckon : MtG P w K mg base k_Scene_reckon (He.ga K "Scene") "reckon" [] g_Scene_reckon) (hk_Scene_reckon : k_Scene_reckon ≤ k) {g : SpD} (hl : ∀ ds S Q E, g ds S Q E → ds.length = 4)
    (hd : Kp N__law_pieces_right g (b__law_pieces_right K g__law_piece g__law_number g_Scene_reckon)) : FnG P w K mg base (k + 1) "_law_pieces_right" [] g := by
  obtain ⟨fd, F⟩ := fd__law_pieces_right T
  exact FnG.of (fn_okD F sc__law_pieces_right hl fun f cdv A outer s H E h => ⟨_, q__law_pieces_right T F__law_piece hk__law_piece F__law_number hk__law_number F_Scene_reckon hk_Scene_reckon h, hd⟩) (gl__law_pieces_right T) F.kp (BindD.none (F.bindsN fun _ _ _ _ _ _ us hl => match us, hl with | [_, _, _, _], _ => rfl))
def N__law_part_right : List PySem.Str := ["scene", "one", "first", "last", "begin", "end", "due", "k"]
def b__law_part_right (K : PySem.W.Frag) (g__law_number : SpD) (g_Scene_reckon : SpD) : QS := (qSeq (qAsg (.tup [4, 5]) (qTup (qCons (qCall g__law_number [] (qCons (qVar 2) qNil)) (qCons (qCall g__law_number [] (qCons (qVar 3) qNil)) qNil))))
    (qSeq (qAsg (.name 6) (qBM "str" joinD (qC (.str "")) (qCons (qLc (qiR1 (qCons (qCB lenD (qCons (qVar 1) qNil)) qNil)) (.name 7) (qT (qCh leD leD (qVar 4) (qOp addD (qVar 7) (qC (.int 1))) (qVar 5))) (qOp ixD (qVar 1) (qVar 7)) [7]) qNil)))
    (qRet (qOp (eqD false) (qMeth (He.ga K "Scene") "reckon" g_Scene_reckon [] (qVar 0) (qCons (qTup (qCons (qC (.str "part")) (qCons (qTup (qCons (qC (.str "is")) (qCons (qVar 1) qNil))) (qCons (qTup (qCons (qC (.str "is")) (qCons (qVar 2) qNil))) (qCons (qTup (qCons (qC (.str "is")) (qCons (qVar 3) qNil))) qNil))))) qNil)) (qVar 6)))))
theorem q__law_part_right (T : TT w K mg) {k : Nat} {k__law_number : Nat} {g__law_number : SpD} (F__law_number : FnG P w K mg base k__law_number "_law_number" [] g__law_number) (hk__law_number : k__law_number ≤ k) {k_Scene_reckon : Nat} {g_Scene_reckon : SpD} (F_Scene_reckon : MtG P w K mg base k_Scene_reckon (He.ga K "Scene") "reckon" [] g_Scene_reckon) (hk_Scene_reckon : k_Scene_reckon ≤ k) {f : Addr} {cdv : Value} {A : Around} {outer : List PySem.Env} {s : Shared} {H : Hp} {E : XK} (h : Here (cxF P w K mg base N__law_part_right "_law_part_right" (defScope s__law_part_right) f cdv A outer s H E) k) :
    QSts (cxF P w K mg base N__law_part_right "_law_part_right" (defScope s__law_part_right) f cdv A outer s H E) (defBody s__law_part_right) (b__law_part_right K g__law_number g_Scene_reckon) :=
  (qss_cons (qs_asg (qe_tup (qa_cons (qe_call h F__law_number (qa_cons (qe_var 2) qa_nil) hk__law_number) (qa_cons (qe_call h F__law_number (qa_cons (qe_var 3) qa_nil) hk__law_number) qa_nil))) (tg_tup h.calm (tgs_cons 4 (tgs_cons 5 tgs_nil h.nd) h.nd)))
    (qss_cons (qs_set 6 (qe_join qe_str (qa_cons (qe_lc (own := [("k", 7)]) h (qi_range1 (n_range T) (qa_cons (qe_len (n_len T) (qa_cons (qe_var 1) qa_nil)) qa_nil)) (blkOk_of rfl) (fun _ _ _ _ _ h1 => (tg_name 7 h1.nd)) (fun _ _ _ _ _ h1 => (qi_one (qt_ch op_leV op_leV opd_cmp opd_cmp (qe_var 4) (qe_add (qe_var 7) qe_int) (qe_var 5)))) (fun _ _ _ _ _ h1 => (qe_ix (qe_var 1) (qe_var 7)))) qa_nil)) h.nd)
    (qss_one (qs_ret (qe_eq h (qe_meth h F_Scene_reckon (qe_var 0) (qa_cons (qe_tup (qa_cons qe_str (qa_cons (qe_tup (qa_cons qe_str (qa_cons (qe_var 1) qa_nil))) (qa_cons (qe_tup (qa_cons qe_str (qa_cons (qe_var 2) qa_nil))) (qa_cons (qe_tup (qa_cons qe_str (qa_cons (qe_var 3) qa_nil))) qa_nil))))) qa_nil) hk_Scene_reckon) (qe_var 6))))))
theorem sc__law_part_right : FnScope N__law_part_right ["scene", "one", "first", "last"] (defScope s__law_part_right) := ⟨rfl, rfl, rfl, by decide +kernel, rfl, by decide +kernel, by decide +kernel⟩
theorem ok__law_part_right (T : TT w K mg) {k : Nat} {k__law_number : Nat} {g__law_number : SpD} (F__law_number : FnG P w K mg base k__law_number "_law_number" [] g__law_number) (hk__law_number : k__law_number ≤ k) {k_Scene_reckon : Nat} {g_Scene_reckon : SpD} (F_Scene_reckon : MtG P w K mg base k_Scene_reckon (He.ga K "Scene") "reckon" [] g_Scene_reckon) (hk_Scene_reckon : k_Scene_reckon ≤ k) {g : SpD} (hl : ∀ ds S Q E, g ds S Q E → ds.length = 4)
    (hd : Kp N__law_part_right g (b__law_part_right K g__law_number g_Scene_reckon)) : FnG P w K mg base (k + 1) "_law_part_right" [] g := by
  obtain ⟨fd, F⟩ := fd__law_part_right T
  exact FnG.of (fn_okD F sc__law_part_right hl fun f cdv A outer s H E h => ⟨_, q__law_part_right T F__law_number hk__law_number F_Scene_reckon hk_Scene_reckon h, hd⟩) (gl__law_part_right T) F.kp (BindD.none (F.bindsN fun _ _ _ _ _ _ us hl => match us, hl with | [_, _, _, _], _ => rfl))
def N_law : List PySem.Str := ["script", "scene", "k", "bag", "turn", "one", "other"]
def b_law (K : PySem.W.Frag) (g_Scene___init__ : SpD) (g_Dealings___init__ : SpD) (g_Arrays___init__ : SpD) (g__law_bag : SpD) (g__law_cell_at : SpD) (g__law_text : SpD) (g__law_draw : SpD) (g_Scene_reckon : SpD) (g__law_pieces_right : SpD) (g__law_nth : SpD) (g__law_part_right : SpD) : QS := (qSeq (qAsg (.name 1) (qMake (He.ga K "Scene") g_Scene___init__ [(.int (0))] (qCons (qMake (He.ga K "Arrays") g_Arrays___init__ [] qNil) (qCons (qMake (He.ga K "Dealings") g_Dealings___init__ [] (qCons (qMake (He.ga K "Arrays") g_Arrays___init__ [] qNil) qNil)) qNil))))
    (qSeq (qFor (qiR1 (qCons (qCB max2D (qCons (qC (.int 1)) (qCons (qCB min2D (qCons (qC (.int 6)) (qCons (qCB lenD (qCons (qVar 0) qNil)) qNil))) qNil))) qNil)) (.name 2) (qSeq (qAsg (.name 3) (qCall g__law_bag [] (qCons (qOp addD (qCall g__law_cell_at [] (qCons (qVar 0) (qCons (qVar 2) qNil))) (qC (.int 10))) qNil)))
    (qFor (qiR1 (qCons (qC (.int 8)) qNil)) (.name 4) (qSeq (qAsg (.name 5) (qSl (qCall g__law_text [] (qCons (qVar 3) qNil)) qNoPart (qPart (qC (.int 120)))))
    (qSeq (qAsg (.name 6) (qOp ixD (qLst (qCons (qC (.str "a")) (qCons (qC (.str "ab")) (qCons (qC (.str "aa")) (qCons (qC (.str ",")) (qCons (qVar 5) (qCons (qC (.str "")) (qCons (qC (.str "zz")) (qCons (qSl (qCall g__law_text [] (qCons (qVar 3) qNil)) qNoPart (qPart (qC (.int 3)))) qNil))))))))) (qCall g__law_draw [] (qCons (qVar 3) (qCons (qC (.int 8)) qNil)))))
    (qSeq (qIfS (qT (qOp (eqD true) (qMeth (He.ga K "Scene") "reckon" g_Scene_reckon [] (qVar 1) (qCons (qTup (qCons (qC (.str "length")) (qCons (qTup (qCons (qC (.str "is")) (qCons (qVar 5) qNil))) qNil))) qNil)) (qCB strD (qCons (qCB lenD (qCons (qVar 5) qNil)) qNil)))) (qRet (qC (.bl false))) qNext)
    (qSeq (qIfS (qAnd (qT (qOp (eqD false) (qCall g__law_draw [] (qCons (qVar 3) (qCons (qC (.int 3)) qNil))) (qC (.int 0)))) (qT (qOp gtD (qCB lenD (qCons (qVar 5) qNil)) (qC (.int 20))))) (qAsg (.name 5) (qSl (qVar 5) qNoPart (qPart (qC (.int 20))))) qNext)
    (qSeq (qIfS (qAnd (qT (qOp leD (qCB lenD (qCons (qVar 5) qNil)) (qC (.int 20)))) (qNot (qT (qCall g__law_pieces_right [] (qCons (qVar 1) (qCons (qVar 5) (qCons (qVar 6) (qCons (qCall g__law_nth [] (qCons (qVar 3) (qCons (qC (.int 5)) qNil))) qNil)))))))) (qRet (qC (.bl false))) qNext)
    (qIfS (qNot (qT (qCall g__law_part_right [] (qCons (qVar 1) (qCons (qVar 5) (qCons (qCall g__law_nth [] (qCons (qVar 3) (qCons (qCB lenD (qCons (qVar 5) qNil)) qNil))) (qCons (qCall g__law_nth [] (qCons (qVar 3) (qCons (qCB lenD (qCons (qVar 5) qNil)) qNil))) qNil))))))) (qRet (qC (.bl false))) qNext)))))))))
    (qRet (qOp (eqD false) (qMeth (He.ga K "Scene") "reckon" g_Scene_reckon [] (qVar 1) (qCons (qTup (qCons (qC (.str "piece")) (qCons (qTup (qCons (qC (.str "is")) (qCons (qC (.str "aaa")) qNil))) (qCons (qTup (qCons (qC (.str "is")) (qCons (qC (.str "aa")) qNil))) (qCons (qTup (qCons (qC (.str "is")) (qCons (qC (.str "2")) qNil))) qNil))))) qNil)) (qC (.str "a"))))))
theorem q_law (T : TT w K mg) {k : Nat} {k_Scene___init__ : Nat} {g_Scene___init__ : SpD} (F_Scene___init__ : MkG P w K mg base k_Scene___init__ "Scene" (He.ga K "Scene") [(.int (0))] g_Scene___init__) (hk_Scene___init__ : k_Scene___init__ + 1 ≤ k) {k_Dealings___init__ : Nat} {g_Dealings___init__ : SpD} (F_Dealings___init__ : MkG P w K mg base k_Dealings___init__ "Dealings" (He.ga K "Dealings") [] g_Dealings___init__) (hk_Dealings___init__ : k_Dealings___init__ + 1 ≤ k) {k_Arrays___init__ : Nat} {g_Arrays___init__ : SpD} (F_Arrays___init__ : MkG P w K mg base k_Arrays___init__ "Arrays" (He.ga K "Arrays") [] g_Arrays___init__) (hk_Arrays___init__ : k_Arrays___init__ + 1 ≤ k) {k__law_bag : Nat} {g__law_bag : SpD} (F__law_bag : FnG P w K mg base k__law_bag "_law_bag" [] g__law_bag) (hk__law_bag : k__law_bag ≤ k) {k__law_cell_at : Nat} {g__law_cell_at : SpD} (F__law_cell_at : FnG P w K mg base k__law_cell_at "_law_cell_at" [] g__law_cell_at) (hk__law_cell_at : k__law_cell_at ≤ k) {k__law_text : Nat} {g__law_text : SpD} (F__law_text : FnG P w K mg base k__law_text "_law_text" [] g__law_text) (hk__law_text : k__law_text ≤ k) {k__law_draw : Nat} {g__law_draw : SpD} (F__law_draw : FnG P w K mg base k__law_draw "_law_draw" [] g__law_draw) (hk__law_draw : k__law_draw ≤ k) {k_Scene_reckon : Nat} {g_Scene_reckon : SpD} (F_Scene_reckon : MtG P w K mg base k_Scene_reckon (He.ga K "Scene") "reckon" [] g_Scene_reckon) (hk_Scene_reckon : k_Scene_reckon ≤ k) {k__law_pieces_right : Nat} {g__law_pieces_right : SpD} (F__law_pieces_right : FnG P w K mg base k__law_pieces_right "_law_pieces_right" [] g__law_pieces_right) (hk__law_pieces_right : k__law_pieces_right ≤ k) {k__law_nth : Nat} {g__law_nth : SpD} (F__law_nth : FnG P w K mg base k__law_nth "_law_nth" [] g__law_nth) (hk__law_nth : k__law_nth ≤ k) {k__law_part_right : Nat} {g__law_part_right : SpD} (F__law_part_right : FnG P w K mg base k__law_part_right "_law_part_right" [] g__law_part_right) (hk__law_part_right : k__law_part_right ≤ k) {f : Addr} {cdv : Value} {A : Around} {outer : List PySem.Env} {s : Shared} {H : Hp} {E : XK} (h : Here (cxF P w K mg base N_law "law" (defScope s_law) f cdv A outer s H E) k) :
    QSts (cxF P w K mg base N_law "law" (defScope s_law) f cdv A outer s H E) (defBody s_law) (b_law K g_Scene___init__ g_Dealings___init__ g_Arrays___init__ g__law_bag g__law_cell_at g__law_text g__law_draw g_Scene_reckon g__law_pieces_right g__law_nth g__law_part_right) :=
  (qss_cons (qs_set 1 (qe_make h F_Scene___init__ (qa_cons (qe_make0 h F_Arrays___init__ hk_Arrays___init__) (qa_cons (qe_make h F_Dealings___init__ (qa_cons (qe_make0 h F_Arrays___init__ hk_Arrays___init__) qa_nil) hk_Dealings___init__) qa_nil)) hk_Scene___init__) h.nd)
    (qss_cons (qs_for h (qi_range1 (n_range T) (qa_cons (qe_max h (n_max T) (qa_cons qe_int (qa_cons (qe_min h (n_min T) (qa_cons qe_int (qa_cons (qe_len (n_len T) (qa_cons (qe_var 0) qa_nil)) qa_nil))) qa_nil))) qa_nil)) (tg_name 2 h.nd) (qss_cons (qs_set 3 (qe_call h F__law_bag (qa_cons (qe_add (qe_call h F__law_cell_at (qa_cons (qe_var 0) (qa_cons (qe_var 2) qa_nil)) hk__law_cell_at) qe_int) qa_nil) hk__law_bag) h.nd)
    (qss_one (qs_for h (qi_range1 (n_range T) (qa_cons qe_int qa_nil)) (tg_name 4 h.nd) (qss_cons (qs_set 5 (qe_sl (qe_call h F__law_text (qa_cons (qe_var 3) qa_nil) hk__law_text) qo_none (qo_some qe_int)) h.nd)
    (qss_cons (qs_set 6 (qe_ix (qe_lst (qa_cons qe_str (qa_cons qe_str (qa_cons qe_str (qa_cons qe_str (qa_cons (qe_var 5) (qa_cons qe_str (qa_cons qe_str (qa_cons (qe_sl (qe_call h F__law_text (qa_cons (qe_var 3) qa_nil) hk__law_text) qo_none (qo_some qe_int)) qa_nil))))))))) (qe_call h F__law_draw (qa_cons (qe_var 3) (qa_cons qe_int qa_nil)) hk__law_draw)) h.nd)
    (qss_cons (qs_if (qt_ne h (qe_meth h F_Scene_reckon (qe_var 1) (qa_cons (qe_tup (qa_cons qe_str (qa_cons (qe_tup (qa_cons qe_str (qa_cons (qe_var 5) qa_nil))) qa_nil))) qa_nil) hk_Scene_reckon) (qe_str' (n_str T) (qa_cons (qe_len (n_len T) (qa_cons (qe_var 5) qa_nil)) qa_nil))) (qss_one (qs_ret qe_bl)) qss_nil)
    (qss_cons (qs_if (qt_w (qw_and (qt_eq h (qe_call h F__law_draw (qa_cons (qe_var 3) (qa_cons qe_int qa_nil)) hk__law_draw) qe_int) (qw_and1 (qt_gt (qe_len (n_len T) (qa_cons (qe_var 5) qa_nil)) qe_int)))) (qss_one (qs_set 5 (qe_sl (qe_var 5) qo_none (qo_some qe_int)) h.nd)) qss_nil)
    (qss_cons (qs_if (qt_w (qw_and (qt_le (qe_len (n_len T) (qa_cons (qe_var 5) qa_nil)) qe_int) (qw_and1 (qt_not (qt_val (qe_call h F__law_pieces_right (qa_cons (qe_var 1) (qa_cons (qe_var 5) (qa_cons (qe_var 6) (qa_cons (qe_call h F__law_nth (qa_cons (qe_var 3) (qa_cons qe_int qa_nil)) hk__law_nth) qa_nil)))) hk__law_pieces_right)))))) (qss_one (qs_ret qe_bl)) qss_nil)
    (qss_one (qs_if (qt_not (qt_val (qe_call h F__law_part_right (qa_cons (qe_var 1) (qa_cons (qe_var 5) (qa_cons (qe_call h F__law_nth (qa_cons (qe_var 3) (qa_cons (qe_len (n_len T) (qa_cons (qe_var 5) qa_nil)) qa_nil)) hk__law_nth) (qa_cons (qe_call h F__law_nth (qa_cons (qe_var 3) (qa_cons (qe_len (n_len T) (qa_cons (qe_var 5) qa_nil)) qa_nil)) hk__law_nth) qa_nil)))) hk__law_part_right))) (qss_one (qs_ret qe_bl)) qss_nil)))))))))))
    (qss_one (qs_ret (qe_eq h (qe_meth h F_Scene_reckon (qe_var 1) (qa_cons (qe_tup (qa_cons qe_str (qa_cons (qe_tup (qa_cons qe_str (qa_cons qe_str qa_nil))) (qa_cons (qe_tup (qa_cons qe_str (qa_cons qe_str qa_nil))) (qa_cons (qe_tup (qa_cons qe_str (qa_cons qe_str qa_nil))) qa_nil))))) qa_nil) hk_Scene_reckon) qe_str)))))
theorem sc_law : FnScope N_law ["script"] (defScope s_law) := ⟨rfl, rfl, rfl, by decide +kernel, rfl, by decide +kernel, by decide +kernel⟩
theorem ok_law (T : TT w K mg) {k : Nat} {k_Scene___init__ : Nat} {g_Scene___init__ : SpD} (F_Scene___init__ : MkG P w K mg base k_Scene___init__ "Scene" (He.ga K "Scene") [(.int (0))] g_Scene___init__) (hk_Scene___init__ : k_Scene___init__ + 1 ≤ k) {k_Dealings___init__ : Nat} {g_Dealings___init__ : SpD} (F_Dealings___init__ : MkG P w K mg base k_Dealings___init__ "Dealings" (He.ga K "Dealings") [] g_Dealings___init__) (hk_Dealings___init__ : k_Dealings___init__ + 1 ≤ k) {k_Arrays___init__ : Nat} {g_Arrays___init__ : SpD} (F_Arrays___init__ : MkG P w K mg base k_Arrays___init__ "Arrays" (He.ga K "Arrays") [] g_Arrays___init__) (hk_Arrays___init__ : k_Arrays___init__ + 1 ≤ k) {k__law_bag : Nat} {g__law_bag : SpD} (F__law_bag : FnG P w K mg base k__law_bag "_law_bag" [] g__law_bag) (hk__law_bag : k__law_bag ≤ k) {k__law_cell_at : Nat} {g__law_cell_at : SpD} (F__law_cell_at : FnG P w K mg base k__law_cell_at "_law_cell_at" [] g__law_cell_at) (hk__law_cell_at : k__law_cell_at ≤ k) {k__law_text : Nat} {g__law_text : SpD} (F__law_text : FnG P w K mg base k__law_text "_law_text" [] g__law_text) (hk__law_text : k__law_text ≤ k) {k__law_draw : Nat} {g__law_draw : SpD} (F__law_draw : FnG P w K mg base k__law_draw "_law_draw" [] g__law_draw) (hk__law_draw : k__law_draw ≤ k) {k_Scene_reckon : Nat} {g_Scene_reckon : SpD} (F_Scene_reckon : MtG P w K mg base k_Scene_reckon (He.ga K "Scene") "reckon" [] g_Scene_reckon) (hk_Scene_reckon : k_Scene_reckon ≤ k) {k__law_pieces_right : Nat} {g__law_pieces_right : SpD} (F__law_pieces_right : FnG P w K mg base k__law_pieces_right "_law_pieces_right" [] g__law_pieces_right) (hk__law_pieces_right : k__law_pieces_right ≤ k) {k__law_nth : Nat} {g__law_nth : SpD} (F__law_nth : FnG P w K mg base k__law_nth "_law_nth" [] g__law_nth) (hk__law_nth : k__law_nth ≤ k) {k__law_part_right : Nat} {g__law_part_right : SpD} (F__law_part_right : FnG P w K mg base k__law_part_right "_law_part_right" [] g__law_part_right) (hk__law_part_right : k__law_part_right ≤ k) {g : SpD} (hl : ∀ ds S Q E, g ds S Q E → ds.length = 1)
    (hd : Kp N_law g (b_law K g_Scene___init__ g_Dealings___init__ g_Arrays___init__ g__law_bag g__law_cell_at g__law_text g__law_draw g_Scene_reckon g__law_pieces_right g__law_nth g__law_part_right)) : FnG P w K mg base (k + 1) "law" [] g := by
  obtain ⟨fd, F⟩ := fd_law T
  exact FnG.of (fn_okD F sc_law hl fun f cdv A outer s H E h => ⟨_, q_law T F_Scene___init__ hk_Scene___init__ F_Dealings___init__ hk_Dealings___init__ F_Arrays___init__ hk_Arrays___init__ F__law_bag hk__law_bag F__law_cell_at hk__law_cell_at F__law_text hk__law_text F__law_draw hk__law_draw F_Scene_reckon hk_Scene_reckon F__law_pieces_right hk__law_pieces_right F__law_nth hk__law_nth F__law_part_right hk__law_part_right h, hd⟩) (gl_law T) F.kp (BindD.none (F.bindsN fun _ _ _ _ _ _ us hl => match us, hl with | [_], _ => rfl))
end
end G

set_option maxHeartbeats 400000
namespace G
open PySem PySem.Spec L2 Q PySem.NumText
/-! ### numbers that texts begin with -/
def aheadN (p : Nat → Bool) : List Nat → Nat
  | [] => 0
  | c :: l => if p c then aheadN p l + 1 else 0
theorem aheadN_cons (p : Nat → Bool) (c : Nat) (l : List Nat) : aheadN p (c :: l) = if p c then aheadN p l + 1 else 0 := rfl
theorem aheadN_le (p : Nat → Bool) : ∀ l, aheadN p l ≤ l.length
  | [] => Nat.le_refl _
  | c :: l => by
    rw [aheadN_cons]
    split
    · exact Nat.succ_le_succ (aheadN_le p l)
    · exact Nat.zero_le _
theorem aheadN_all (p : Nat → Bool) : ∀ (l : List Nat), ∀ c ∈ l.take (aheadN p l), p c = true
  | [], c, h => by simp [aheadN] at h
  | d :: l, c, h => by
    rw [aheadN_cons] at h
    split at h
    · rename_i hd
      rw [List.take_succ_cons] at h
      rcases List.mem_cons.mp h with h | h
      · rw [h]; exact hd
      · exact aheadN_all p l c h
    · simp at h
theorem aheadN_stop (p : Nat → Bool) : ∀ (l : List Nat) (c : Nat), l[aheadN p l]? = some c → p c = false
  | [], c, h => by simp [aheadN] at h
  | d :: l, c, h => by
    rw [aheadN_cons] at h
    split at h
    · rw [List.getElem?_cons_succ] at h
      exact aheadN_stop p l c h
    · rename_i hd
      simp at h
      subst h
      simpa using hd
/-- the sign c stands within m -/
def inM (m : Str) (c : Nat) : Bool := inS ⟨#[c]⟩ m
theorem inM_is (m : Str) (c : Nat) : inM m c = decide (c ∈ tlS m) := StrLaws.found_one m c
def gAhead : SpD := fun ds S Q _ => ∃ w m, ds = [.str w, .str m] ∧ w.length ≤ 1000 ∧ Q (.int (aheadN (inM m) (tlS w))) S
theorem p_signs_ahead : Kp N_signs_ahead gAhead b_signs_ahead := by
  rintro ds S Q E ⟨w, m, rfl, hw, q⟩
  dsimp only [b_signs_ahead, N_signs_ahead, qSeq, qNext, qAsg, asgD, setAll, qRet, qRetN, qIfS, qDrop, qVar, qC, qOp, qT, qCB, qCons, qNil, qCall, qMeth, qMake, qFld, qSetF, qSetI, qAug, qTup, qLst, qIf, qAnd, qOr, qNot, qAndV, qOrV, qNotV, qCh, qSl, qPart, qNoPart, qBM, qBM0, qIsi, qDict0, qPar, qFin, qBreak, qLc, qFor, qiR1, qiR2, qYes, rII, rII0, subD, ltD, leD, gtD, geD, cmpD, fdivD, modD, powD, startD, List.map_cons, List.map_nil, List.length_cons, List.length_nil, List.replicate_succ, List.replicate_zero, List.cons_append, List.nil_append, List.append_nil, List.getElem?_cons_zero, List.getElem?_cons_succ, List.set_cons_zero, List.set_cons_succ, Nat.reduceAdd, Nat.reduceSub, Nat.reduceLT, Nat.reduceSubDiff, Nat.add_one_sub_one, wipeD]
  refine while_ok (fun n ρ S1 => S1 = S ∧ ∃ i : Nat, n = (tlS w).length - i ∧ i ≤ (tlS w).length ∧ aheadN (inM m) (tlS w) = i + aheadN (inM m) ((tlS w).drop i) ∧ ρ = [some (.str w), some (.str m), some (.int i)]) ?_ (m := (tlS w).length) ⟨rfl, 0, by simp, Nat.zero_le _, by simp, rfl⟩
  rintro n N hN ρ S1 ⟨rfl, i, rfl, hi, e, rfl⟩
  dsimp only [qSeq, qNext, qAsg, asgD, setAll, qRet, qRetN, qIfS, qDrop, qVar, qC, qOp, qT, qCB, qCons, qNil, qCall, qMeth, qMake, qFld, qSetF, qSetI, qAug, qTup, qLst, qIf, qAnd, qOr, qNot, qAndV, qOrV, qNotV, qCh, qSl, qPart, qNoPart, qBM, qBM0, qIsi, qDict0, qPar, qFin, qBreak, qLc, qFor, qiR1, qiR2, qYes, rII, rII0, subD, ltD, leD, gtD, geD, cmpD, fdivD, modD, powD, startD, List.map_cons, List.map_nil, List.length_cons, List.length_nil, List.replicate_succ, List.replicate_zero, List.cons_append, List.nil_append, List.append_nil, List.getElem?_cons_zero, List.getElem?_cons_succ, List.set_cons_zero, List.set_cons_succ, Nat.reduceAdd, Nat.reduceSub, Nat.reduceLT, Nat.reduceSubDiff, Nat.add_one_sub_one, wipeD, inD]
  refine len_str (sz (by omega)) ?_
  dsimp only []
  by_cases h : i < (tlS w).length
  · rw [decide_eq_true (by omega : (i : Int) < ((tlS w).length : Int))]
    refine ix_str (sz (by omega)) ((atI_n _ _).trans (List.getElem?_eq_getElem h)) ?_
    rw [List.drop_eq_getElem_cons h, aheadN_cons] at e
    dsimp only []
    cases hc : inS ⟨#[(tlS w)[i]]⟩ m with
    | true =>
      rw [show inM m (tlS w)[i] = true from hc, if_pos rfl] at e
      exact hN ((tlS w).length - (i + 1)) _ _ (by omega) ⟨rfl, i + 1, rfl, h, by omega, rfl⟩
    | false =>
      rw [show inM m (tlS w)[i] = false from hc, if_neg Bool.false_ne_true] at e
      rw [e] at q
      exact Fg.here (by simpa using q)
  · rw [decide_eq_false (by omega : ¬ (i : Int) < ((tlS w).length : Int))]
    have hi2 : i = (tlS w).length := by omega
    rw [hi2, List.drop_length] at e
    rw [e] at q
    rw [hi2]
    exact Fg.here (by simpa [aheadN] using q)
/-- the number that a text begins with -/
def isSg (c : Nat) : Bool := decide (c = 43 ∨ c = 45)
def isDg (c : Nat) : Bool := decide (48 ≤ c ∧ c ≤ 57)
def sgL (l : List Nat) : List Nat := l.take (aheadN isSg l)
def dgL (l : List Nat) : List Nat := (l.drop (aheadN isSg l)).take (aheadN isDg (l.drop (aheadN isSg l)))
def numL (l : List Nat) : Int := if (sgL l).count 45 % 2 = 1 then - ((digitsVal (dgL l) : Nat) : Int) else ((digitsVal (dgL l) : Nat) : Int)
theorem tl_sg : tlS ("+-" : Str) = [43, 45] := by decide +kernel
theorem tl_dg : tlS ("0123456789" : Str) = [48, 49, 50, 51, 52, 53, 54, 55, 56, 57] := by decide +kernel
theorem inM_sg : inM "+-" = isSg := by
  funext c
  rw [inM_is, tl_sg]
  unfold isSg
  simp
theorem inM_dg : inM "0123456789" = isDg := by
  funext c
  rw [inM_is, tl_dg]
  unfold isDg
  refine decide_eq_decide.mpr ?_
  simp
  omega
theorem cnt_eq (c : Nat) : ∀ l : List Nat, PyProof.Rows.cnt c l = ((l.count c : Nat) : Int) := by
  intro l
  induction l with
  | nil => rw [PyProof.Rows.cnt_nil]; rfl
  | cons d l ih =>
    rw [PyProof.Rows.cnt_cons, ih, List.count_cons]
    by_cases h : d = c
    · subst h; simp; omega
    · simp [h]
theorem count_one (x : Str) (c : Nat) : Txt.count x ⟨#[c]⟩ = (((tlS x).count c : Nat) : Int) := (PyProof.Rows.count_cnt x c).trans (cnt_eq c _)
def gNum : SpD := fun ds S Q _ => ∃ w, ds = [.str w] ∧ w.length ≤ 600 ∧ Q (.int (numL (tlS w))) S
theorem p_number_of : Kp N_number_of gNum (b_number_of gAhead) := by
  rintro ds S Q E ⟨w, rfl, hw, q⟩
  show b_number_of gAhead _ _ [some (.str w), none, none, none] S
  dsimp only [b_number_of, qSeq, qNext, qAsg, asgD, setAll, qRet, qRetN, qIfS, qDrop, qVar, qC, qOp, qT, qCB, qCons, qNil, qCall, qMeth, qMake, qFld, qSetF, qSetI, qAug, qTup, qLst, qIf, qAnd, qOr, qNot, qAndV, qOrV, qNotV, qCh, qSl, qPart, qNoPart, qBM, qBM0, qIsi, qDict0, qPar, qFin, qBreak, qLc, qFor, qiR1, qiR2, qYes, rII, rII0, subD, ltD, leD, gtD, geD, cmpD, fdivD, modD, powD, startD, List.map_cons, List.map_nil, List.length_cons, List.length_nil, List.replicate_succ, List.replicate_zero, List.cons_append, List.nil_append, List.append_nil, List.getElem?_cons_zero, List.getElem?_cons_succ, List.set_cons_zero, List.set_cons_succ, Nat.reduceAdd, Nat.reduceSub, Nat.reduceLT, Nat.reduceSubDiff, Nat.add_one_sub_one, wipeD]
  refine ⟨w, _, rfl, by omega, ?_⟩
  rw [inM_sg]
  dsimp only [slD, qSeq, qNext, qAsg, asgD, setAll, qRet, qRetN, qIfS, qDrop, qVar, qC, qOp, qT, qCB, qCons, qNil, qCall, qMeth, qMake, qFld, qSetF, qSetI, qAug, qTup, qLst, qIf, qAnd, qOr, qNot, qAndV, qOrV, qNotV, qCh, qSl, qPart, qNoPart, qBM, qBM0, qIsi, qDict0, qPar, qFin, qBreak, qLc, qFor, qiR1, qiR2, qYes, rII, rII0, subD, ltD, leD, gtD, geD, cmpD, fdivD, modD, powD, startD, List.map_cons, List.map_nil, List.length_cons, List.length_nil, List.replicate_succ, List.replicate_zero, List.cons_append, List.nil_append, List.append_nil, List.getElem?_cons_zero, List.getElem?_cons_succ, List.set_cons_zero, List.set_cons_succ, Nat.reduceAdd, Nat.reduceSub, Nat.reduceLT, Nat.reduceSubDiff, Nat.add_one_sub_one, wipeD]
  refine ⟨sz (by omega), _, _, rfl, ?_, ?_⟩
  · have := cutS_length w (some (aheadN isSg (tlS w))) none
    omega
  rw [inM_dg, tlS_cut, cutL_from]
  dsimp only [addD]
  have hf : tlS (cutS w (some ((aheadN isSg (tlS w) : Nat) : Int)) (some ((aheadN isSg (tlS w) : Nat) + (aheadN isDg ((tlS w).drop (aheadN isSg (tlS w))) : Nat) : Int))) = dgL (tlS w) := by
    rw [tlS_cut, ← Int.natCast_add, cutL_nat, Nat.add_sub_cancel_left]
    rfl
  have hl := cutS_len w (some ((aheadN isSg (tlS w) : Nat) : Int)) (some ((aheadN isSg (tlS w) : Nat) + (aheadN isDg ((tlS w).drop (aheadN isSg (tlS w))) : Nat) : Int))
  generalize cutS w (some ((aheadN isSg (tlS w) : Nat) : Int)) (some ((aheadN isSg (tlS w) : Nat) + (aheadN isDg ((tlS w).drop (aheadN isSg (tlS w))) : Nat) : Int)) = figs at hf hl
  refine ⟨sz (by omega), ?_⟩
  have hd : AllDigits (dgL (tlS w)) := fun c hc => by
    have := aheadN_all isDg _ c hc
    simpa [isDg] using this
  have hc : ((Txt.count (cutS w none (some ((aheadN isSg (tlS w) : Nat) : Int))) ("-" : Str)).fmod 2 = 1) ↔ (sgL (tlS w)).count 45 % 2 = 1 := by
    rw [show ("-" : Str) = ⟨#[45]⟩ from by decide +kernel, count_one, tlS_cut, cutL_to]
    show (((sgL (tlS w)).count 45 : Nat) : Int).fmod 2 = 1 ↔ _
    rw [Int.fmod_eq_emod_of_nonneg _ (by decide)]
    omega
  simp only [eqD, Bool.false_xor, Bool.true_xor, countD, qSeq, qNext, qAsg, asgD, setAll, qRet, qRetN, qIfS, qDrop, qVar, qC, qOp, qT, qCB, qCons, qNil, qCall, qMeth, qMake, qFld, qSetF, qSetI, qAug, qTup, qLst, qIf, qAnd, qOr, qNot, qAndV, qOrV, qNotV, qCh, qSl, qPart, qNoPart, qBM, qBM0, qIsi, qDict0, qPar, qFin, qBreak, qLc, qFor, qiR1, qiR2, qYes, rII, rII0, subD, ltD, leD, gtD, geD, cmpD, fdivD, modD, powD, startD, List.map_cons, List.map_nil, List.length_cons, List.length_nil, List.replicate_succ, List.replicate_zero, List.cons_append, List.nil_append, List.append_nil, List.getElem?_cons_zero, List.getElem?_cons_succ, List.set_cons_zero, List.set_cons_succ, Nat.reduceAdd, Nat.reduceSub, Nat.reduceLT, Nat.reduceSubDiff, Nat.add_one_sub_one, wipeD, hc]
  by_cases he : figs = ("" : Str)
  · have e0 : dgL (tlS w) = [] := by rw [← hf, he]; rfl
    have en : numL (tlS w) = 0 := by unfold numL; rw [e0]; simp [digitsVal]
    rw [en] at q
    rw [decide_eq_true he]
    refine ⟨sz (by omega), rfl, by decide, ?_⟩
    split <;> exact Fg.here q
  · rw [decide_eq_false he]
    refine ⟨by rw [len_tl] at hw ⊢; omega, ?_⟩
    have hne : figs.cps.toList ≠ [] := fun z => he (tlS_ext (show tlS figs = tlS "" from z))
    have hd2 : AllDigits figs.cps.toList := by
      have : figs.cps.toList = dgL (tlS w) := hf
      rw [this]; exact hd
    rw [intText_digits hd2 hne (by rw [len_tl] at hw ⊢; omega), show figs.cps.toList = dgL (tlS w) from hf]
    refine ⟨sz (by omega), rfl, by decide, ?_⟩
    unfold numL at q
    by_cases h1 : (sgL (tlS w)).count 45 % 2 = 1
    · rw [if_pos h1] at q
      rw [decide_eq_true h1]
      exact Fg.here (by simpa using q)
    · rw [if_neg h1] at q
      rw [decide_eq_false h1]
      exact Fg.here q
/-! ### texts of numbers -/
def gText : SpD := fun ds S Q _ => ∃ i : Int, ds = [.int i] ∧ i.natAbs.log2 < 1920 ∧ Q (.str (toString i)) S
theorem p_number_text : Kp N_number_text gText b_number_text := by
  rintro ds S Q E ⟨i, rfl, hi, q⟩
  exact ⟨hi, Fg.here q⟩
/-! ### pieces and parts -/
def pieceS (one other : Str) (n : Int) : Str := if other = "" then (if n = 1 then one else "") else (if 1 ≤ n ∧ n ≤ (Txt.split one other).length then (Txt.split one other).getD (n - 1).toNat "" else "")
def gPiece : SpD := fun ds S Q _ => ∃ one other n, ds = [.str one, .str other, .int n] ∧ one.length ≤ 1000 ∧ Q (.str (pieceS one other n)) S
theorem p_piece_of : Kp N_piece_of gPiece b_piece_of := by
  rintro ds S Q E ⟨one, other, n, rfl, h1, q⟩
  show b_piece_of _ _ [some (.str one), some (.str other), some (.int n), none] S
  have main : ∀ (p : Addr) (xs : List Str), S p = none → (∀ i : Nat, i < xs.length → n = i + 1 → pieceS one other n = xs.getD i "") → (¬ (1 ≤ n ∧ n ≤ xs.length) → pieceS one other n = "") →
      (qRet (qIf (qT (qCh leD leD (qC (.int 1)) (qVar 2) (qCB lenD (qCons (qVar 3) qNil)))) (qOp ixD (qVar 3) (qOp subD (qVar 2) (qC (.int 1)))) (qC (.str "")))) (fun ev _ S => Fg (E ev) S) { nx := fun _ S => Fg (Q .non) S, rt := fun d S => Fg (Q d) S } [some (.str one), some (.str other), some (.int n), some (.ref p)] (put S p (.lst (xs.map D.str))) := by
    intro p xs hp hx hy
    dsimp only [qSeq, qNext, qAsg, asgD, setAll, qRet, qRetN, qIfS, qDrop, qVar, qC, qOp, qT, qCB, qCons, qNil, qCall, qMeth, qMake, qFld, qSetF, qSetI, qAug, qTup, qLst, qIf, qAnd, qOr, qNot, qAndV, qOrV, qNotV, qCh, qSl, qPart, qNoPart, qBM, qBM0, qIsi, qDict0, qPar, qFin, qBreak, qLc, qFor, qiR1, qiR2, qYes, rII, rII0, subD, ltD, leD, gtD, geD, cmpD, fdivD, modD, powD, startD, List.map_cons, List.map_nil, List.length_cons, List.length_nil, List.replicate_succ, List.replicate_zero, List.cons_append, List.nil_append, List.append_nil, List.getElem?_cons_zero, List.getElem?_cons_succ, List.set_cons_zero, List.set_cons_succ, Nat.reduceAdd, Nat.reduceSub, Nat.reduceLT, Nat.reduceSubDiff, Nat.add_one_sub_one, wipeD]
    by_cases h1 : 1 ≤ n
    · rw [decide_eq_true h1]
      refine len_lst put_same ?_
      dsimp only []
      rw [List.length_map]
      by_cases h2 : n ≤ xs.length
      · rw [decide_eq_true h2]
        have hi : (n - 1).toNat < xs.length := by omega
        have hn : n - 1 = ((n - 1).toNat : Int) := by omega
        refine ix_lst (x := .str (xs.getD (n - 1).toNat "")) put_same (by rw [hn, atI_n, List.getElem?_map, Int.toNat_natCast, List.getD_eq_getElem?_getD, List.getElem?_eq_getElem hi]; rfl) ?_
        rw [hx _ hi (by omega)] at q
        exact ⟨S, Sub.new hp, q⟩
      · rw [decide_eq_false h2]
        rw [hy (by omega)] at q
        exact ⟨S, Sub.new hp, q⟩
    · rw [decide_eq_false h1]
      rw [hy (by omega)] at q
      exact ⟨S, Sub.new hp, q⟩
  dsimp only [b_piece_of, qSeq, qNext, qAsg, asgD, setAll, qRet, qRetN, qIfS, qDrop, qVar, qC, qOp, qT, qCB, qCons, qNil, qCall, qMeth, qMake, qFld, qSetF, qSetI, qAug, qTup, qLst, qIf, qAnd, qOr, qNot, qAndV, qOrV, qNotV, qCh, qSl, qPart, qNoPart, qBM, qBM0, qIsi, qDict0, qPar, qFin, qBreak, qLc, qFor, qiR1, qiR2, qYes, rII, rII0, subD, ltD, leD, gtD, geD, cmpD, fdivD, modD, powD, startD, List.map_cons, List.map_nil, List.length_cons, List.length_nil, List.replicate_succ, List.replicate_zero, List.cons_append, List.nil_append, List.append_nil, List.getElem?_cons_zero, List.getElem?_cons_succ, List.set_cons_zero, List.set_cons_succ, Nat.reduceAdd, Nat.reduceSub, Nat.reduceLT, Nat.reduceSubDiff, Nat.add_one_sub_one, wipeD, eqD, tyD, splitD]
  rw [Bool.false_xor]
  by_cases h : other = ("" : Str)
  · rw [decide_eq_true h]
    refine ⟨by rw [sizeLine_eq]; decide, fun p hp => ?_⟩
    refine main p [one] hp (fun i hi hn => ?_) fun hn => ?_
    · have : i = 0 := by simpa using hi
      subst this
      unfold pieceS
      rw [if_pos h, if_pos (by omega)]
      rfl
    · unfold pieceS
      rw [if_pos h, if_neg (by simp at hn; omega)]
  · rw [decide_eq_false h]
    have hne : (other.length == 0) = false := by
      cases e : other.length == 0 with
      | false => rfl
      | true =>
        exfalso
        apply h
        have e0 : other.length = 0 := beq_iff_eq.mp e
        rw [len_tl] at e0
        exact tlS_ext (List.length_eq_zero_iff.mp e0)
    refine ⟨rfl, hne, sz (by omega), fun p hp => main p (Txt.split one other) hp (fun i hi hn => ?_) fun hn => ?_⟩
    · unfold pieceS
      rw [if_neg h, if_pos (by omega), show (n - 1).toNat = i by omega]
    · unfold pieceS
      rw [if_neg h, if_neg hn]
def partS (one : Str) (first last : Int) : Str := if max 1 first ≤ last then cutS one (some (max 1 first - 1)) (some last) else ""
def gPart : SpD := fun ds S Q _ => ∃ one first last, ds = [.str one, .int first, .int last] ∧ one.length ≤ 1000 ∧ Q (.str (partS one first last)) S
theorem p_part_of : Kp N_part_of gPart b_part_of := by
  rintro ds S Q E ⟨one, first, last, rfl, h1, q⟩
  show b_part_of _ _ [some (.str one), some (.int first), some (.int last), none] S
  dsimp only [b_part_of, qSeq, qNext, qAsg, asgD, setAll, qRet, qRetN, qIfS, qDrop, qVar, qC, qOp, qT, qCB, qCons, qNil, qCall, qMeth, qMake, qFld, qSetF, qSetI, qAug, qTup, qLst, qIf, qAnd, qOr, qNot, qAndV, qOrV, qNotV, qCh, qSl, qPart, qNoPart, qBM, qBM0, qIsi, qDict0, qPar, qFin, qBreak, qLc, qFor, qiR1, qiR2, qYes, rII, rII0, subD, ltD, leD, gtD, geD, cmpD, fdivD, modD, powD, startD, List.map_cons, List.map_nil, List.length_cons, List.length_nil, List.replicate_succ, List.replicate_zero, List.cons_append, List.nil_append, List.append_nil, List.getElem?_cons_zero, List.getElem?_cons_succ, List.set_cons_zero, List.set_cons_succ, Nat.reduceAdd, Nat.reduceSub, Nat.reduceLT, Nat.reduceSubDiff, Nat.add_one_sub_one, wipeD, max2D, slD]
  have e : (if first > 1 then first else 1) = max 1 first := by
    rw [Int.max_def]
    split <;> split <;> omega
  rw [e]
  unfold partS at q
  by_cases h : max 1 first ≤ last
  · rw [if_pos h] at q
    rw [decide_eq_true h]
    exact ⟨sz (by omega), Fg.here q⟩
  · rw [if_neg h] at q
    rw [decide_eq_false h]
    exact Fg.here q
def gShort : SpD := fun ds S Q _ => ∃ z, ds = [.str z] ∧ z.length ≤ 2000 ∧ Q (.str z) S
theorem p_not_too_long : Kp N_not_too_long gShort b_not_too_long := by
  rintro ds S Q E ⟨z, rfl, h1, q⟩
  show b_not_too_long _ _ [some (.str z)] S
  dsimp only [b_not_too_long, qSeq, qNext, qAsg, asgD, setAll, qRet, qRetN, qIfS, qDrop, qVar, qC, qOp, qT, qCB, qCons, qNil, qCall, qMeth, qMake, qFld, qSetF, qSetI, qAug, qTup, qLst, qIf, qAnd, qOr, qNot, qAndV, qOrV, qNotV, qCh, qSl, qPart, qNoPart, qBM, qBM0, qIsi, qDict0, qPar, qFin, qBreak, qLc, qFor, qiR1, qiR2, qYes, rII, rII0, subD, ltD, leD, gtD, geD, cmpD, fdivD, modD, powD, startD, List.map_cons, List.map_nil, List.length_cons, List.length_nil, List.replicate_succ, List.replicate_zero, List.cons_append, List.nil_append, List.append_nil, List.getElem?_cons_zero, List.getElem?_cons_succ, List.set_cons_zero, List.set_cons_succ, Nat.reduceAdd, Nat.reduceSub, Nat.reduceLT, Nat.reduceSubDiff, Nat.add_one_sub_one, wipeD]
  refine len_str (sz (by omega)) ?_
  dsimp only []
  rw [len_tl] at h1
  rw [decide_eq_false (by omega)]
  exact Fg.here q
/-! ### words -/
theorem tl_ne {z : Str} (h : z ≠ ("" : Str)) : tlS z ≠ [] := fun e => h (tlS_ext (show tlS z = tlS "" from e))
theorem split_sum (one other : Str) (h : other ≠ ("" : Str)) : ((Txt.split one other).map (·.length)).sum + ((Txt.split one other).length - 1) * other.length = one.length ∧ Txt.split one other ≠ [] := by
  have hy := tl_ne h
  obtain ⟨_, _, h3, h4⟩ := spl_spec hy (tlS one).length (tlS one) [] (Nat.le_refl _) (fun k hk => by simp at hk)
  rw [← split_any one other hy] at h3 h4
  rw [List.map_map, List.length_map, List.length_nil, Nat.zero_add, ← len_tl, ← len_tl] at h4
  refine ⟨?_, fun z => h3 (by rw [z]; rfl)⟩
  rw [← h4]
  refine congrArg (fun n => n + _) (congrArg List.sum (List.map_congr_left fun y _ => len_tl y))
theorem sum_mem : ∀ {xs : List Str} {x : Str}, x ∈ xs → x.length ≤ (xs.map (·.length)).sum
  | y :: ys, x, h => by
    rw [List.map_cons, List.sum_cons]
    rcases List.mem_cons.mp h with h | h
    · rw [h]; omega
    · have := sum_mem h
      omega
theorem pieceS_len (one other : Str) (n : Int) (h : one.length ≤ 1000) : (pieceS one other n).length ≤ 1000 := by
  unfold pieceS
  by_cases e : other = ("" : Str)
  · rw [if_pos e]
    split
    · exact h
    · exact Nat.zero_le _
  · rw [if_neg e]
    by_cases h1 : 1 ≤ n ∧ n ≤ (Txt.split one other).length
    · rw [if_pos h1]
      have hi : (n - 1).toNat < (Txt.split one other).length := by omega
      rw [List.getD_eq_getElem?_getD, List.getElem?_eq_getElem hi]
      have h2 := sum_mem (List.getElem_mem hi)
      have h3 := (split_sum one other e).1
      show (Txt.split one other)[(n - 1).toNat].length ≤ 1000
      omega
    · rw [if_neg h1]
      exact Nat.zero_le _
theorem partS_len (one : Str) (a b : Int) (h : one.length ≤ 1000) : (partS one a b).length ≤ 1000 := by
  unfold partS
  split
  · exact Nat.le_trans (cutS_length _ _ _) h
  · exact Nat.zero_le _
inductive Word : Str → List D → Str → Prop
  | length {a : Str} (h : a.length ≤ 500) : Word "length" [.str a] (toString (a.length : Int))
  | piece {a b c : Str} (h : a.length ≤ 500) (hb : b.length ≤ 500) (hc : c.length ≤ 500) : Word "piece" [.str a, .str b, .str c] (pieceS a b (numL (tlS c)))
  | part {a b c : Str} (h : a.length ≤ 500) (hb : b.length ≤ 500) (hc : c.length ≤ 500) : Word "part" [.str a, .str b, .str c] (partS a (numL (tlS b)) (numL (tlS c)))
def gWord : SpD := fun ds S Q _ => ∃ w p xs r, ds = [.str w, .ref p] ∧ S p = some (.lst xs) ∧ Word w xs r ∧ Q (.str r) S
theorem log_small {n : Nat} (h : n ≤ 1000000) : ((n : Nat) : Int).natAbs.log2 < 1920 := by
  rw [Int.natAbs_natCast]
  have : n.log2 ≤ n := Nat.log2_le_self n
  by_cases h0 : n = 0
  · subst h0; decide
  · have := (Nat.log2_lt h0 (k := 20)).mpr (by omega)
    omega
theorem p_of_worths : Kp N_of_worths gWord (b_of_worths gText gNum gPiece gPart) := by
  rintro ds S Q E ⟨w, p, xs, r, rfl, hp, hw, q⟩
  show b_of_worths _ _ _ _ _ _ [some (.str w), some (.ref p)] S
  unfold b_of_worths
  cases hw with
  | @length a h =>
    refine seq_ne rfl (by decide +kernel) ?_
    refine seq_ne rfl (by decide +kernel) ?_
    refine seq_eq rfl rfl ?_
    dsimp only [qSeq, qNext, qAsg, asgD, setAll, qRet, qRetN, qIfS, qDrop, qVar, qC, qOp, qT, qCB, qCons, qNil, qCall, qMeth, qMake, qFld, qSetF, qSetI, qAug, qTup, qLst, qIf, qAnd, qOr, qNot, qAndV, qOrV, qNotV, qCh, qSl, qPart, qNoPart, qBM, qBM0, qIsi, qDict0, qPar, qFin, qBreak, qLc, qFor, qiR1, qiR2, qYes, rII, rII0, subD, ltD, leD, gtD, geD, cmpD, fdivD, modD, powD, startD, List.map_cons, List.map_nil, List.length_cons, List.length_nil, List.replicate_succ, List.replicate_zero, List.cons_append, List.nil_append, List.append_nil, List.getElem?_cons_zero, List.getElem?_cons_succ, List.set_cons_zero, List.set_cons_succ, Nat.reduceAdd, Nat.reduceSub, Nat.reduceLT, Nat.reduceSubDiff, Nat.add_one_sub_one, wipeD]
    refine ix_lst (x := .str a) hp rfl (len_str (sz (by omega)) ⟨_, rfl, ?_, ?_⟩)
    · rw [len_tl] at h
      exact log_small (by omega)
    · rw [len_tl] at q
      exact Fg.here q
  | @piece a b c h hb hc =>
    refine seq_ne rfl (by decide +kernel) ?_
    refine seq_ne rfl (by decide +kernel) ?_
    refine seq_ne rfl (by decide +kernel) ?_
    refine seq_eq rfl rfl ?_
    dsimp only [qSeq, qNext, qAsg, asgD, setAll, qRet, qRetN, qIfS, qDrop, qVar, qC, qOp, qT, qCB, qCons, qNil, qCall, qMeth, qMake, qFld, qSetF, qSetI, qAug, qTup, qLst, qIf, qAnd, qOr, qNot, qAndV, qOrV, qNotV, qCh, qSl, qPart, qNoPart, qBM, qBM0, qIsi, qDict0, qPar, qFin, qBreak, qLc, qFor, qiR1, qiR2, qYes, rII, rII0, subD, ltD, leD, gtD, geD, cmpD, fdivD, modD, powD, startD, List.map_cons, List.map_nil, List.length_cons, List.length_nil, List.replicate_succ, List.replicate_zero, List.cons_append, List.nil_append, List.append_nil, List.getElem?_cons_zero, List.getElem?_cons_succ, List.set_cons_zero, List.set_cons_succ, Nat.reduceAdd, Nat.reduceSub, Nat.reduceLT, Nat.reduceSubDiff, Nat.add_one_sub_one, wipeD]
    exact ix_lst (x := .str a) hp rfl (ix_lst (x := .str b) hp rfl (ix_lst (x := .str c) hp rfl ⟨c, rfl, by omega, _, _, _, rfl, by omega, Fg.here q⟩))
  | @part a b c h hb hc =>
    refine seq_ne rfl (by decide +kernel) ?_
    refine seq_ne rfl (by decide +kernel) ?_
    refine seq_ne rfl (by decide +kernel) ?_
    refine seq_ne rfl (by decide +kernel) ?_
    show (qRet _) _ _ _ _
    dsimp only [qSeq, qNext, qAsg, asgD, setAll, qRet, qRetN, qIfS, qDrop, qVar, qC, qOp, qT, qCB, qCons, qNil, qCall, qMeth, qMake, qFld, qSetF, qSetI, qAug, qTup, qLst, qIf, qAnd, qOr, qNot, qAndV, qOrV, qNotV, qCh, qSl, qPart, qNoPart, qBM, qBM0, qIsi, qDict0, qPar, qFin, qBreak, qLc, qFor, qiR1, qiR2, qYes, rII, rII0, subD, ltD, leD, gtD, geD, cmpD, fdivD, modD, powD, startD, List.map_cons, List.map_nil, List.length_cons, List.length_nil, List.replicate_succ, List.replicate_zero, List.cons_append, List.nil_append, List.append_nil, List.getElem?_cons_zero, List.getElem?_cons_succ, List.set_cons_zero, List.set_cons_succ, Nat.reduceAdd, Nat.reduceSub, Nat.reduceLT, Nat.reduceSubDiff, Nat.add_one_sub_one, wipeD]
    exact ix_lst (x := .str a) hp rfl (ix_lst (x := .str b) hp rfl ⟨b, rfl, by omega, ix_lst (x := .str c) hp rfl ⟨c, rfl, by omega, _, _, _, rfl, by omega, Fg.here q⟩⟩)
/-! ### the scene -/
section
variable (K : PySem.W.Frag)
abbrev CA : Addr := He.ga K "Arrays"
abbrev CD : Addr := He.ga K "Dealings"
abbrev CS : Addr := He.ga K "Scene"
def gInitA : SpD := fun ds S Q _ => ∃ p, ds = [.ref p] ∧ S p = some (.ins (CA K) []) ∧ ∀ S', But p S S' → Q .non S'
theorem p_Arrays_init : Kp N_Arrays___init__ (gInitA K) (b_Arrays___init__ K) := by
  rintro ds S Q E ⟨p, rfl, hp, q⟩
  show b_Arrays___init__ K _ _ [some (.ref p)] S
  dsimp only [b_Arrays___init__, qSeq, qNext, qAsg, asgD, setAll, qRet, qRetN, qIfS, qDrop, qVar, qC, qOp, qT, qCB, qCons, qNil, qCall, qMeth, qMake, qFld, qSetF, qSetI, qAug, qTup, qLst, qIf, qAnd, qOr, qNot, qAndV, qOrV, qNotV, qCh, qSl, qPart, qNoPart, qBM, qBM0, qIsi, qDict0, qPar, qFin, qBreak, qLc, qFor, qiR1, qiR2, qYes, rII, rII0, subD, ltD, leD, gtD, geD, cmpD, fdivD, modD, powD, startD, List.map_cons, List.map_nil, List.length_cons, List.length_nil, List.replicate_succ, List.replicate_zero, List.cons_append, List.nil_append, List.append_nil, List.getElem?_cons_zero, List.getElem?_cons_succ, List.set_cons_zero, List.set_cons_succ, Nat.reduceAdd, Nat.reduceSub, Nat.reduceLT, Nat.reduceSubDiff, Nat.add_one_sub_one, wipeD]
  intro d hd
  refine insOf_at ((put_ne (st_ne hp hd)).trans hp) ⟨rfl, of_decide_eq_true (by kernel_rfl), ?_⟩
  exact Fg.here (q _ (((But.refl p S).new hd).wr))
def gInitD : SpD := fun ds S Q _ => ∃ p a, ds = [.ref p, .ref a] ∧ S p = some (.ins (CD K) []) ∧ ∀ S', But p S S' → Q .non S'
theorem p_Dealings_init : Kp N_Dealings___init__ (gInitD K) (b_Dealings___init__ K) := by
  rintro ds S Q E ⟨p, a, rfl, hp, q⟩
  show b_Dealings___init__ K _ _ [some (.ref p), some (.ref a)] S
  dsimp only [b_Dealings___init__, qSeq, qNext, qAsg, asgD, setAll, qRet, qRetN, qIfS, qDrop, qVar, qC, qOp, qT, qCB, qCons, qNil, qCall, qMeth, qMake, qFld, qSetF, qSetI, qAug, qTup, qLst, qIf, qAnd, qOr, qNot, qAndV, qOrV, qNotV, qCh, qSl, qPart, qNoPart, qBM, qBM0, qIsi, qDict0, qPar, qFin, qBreak, qLc, qFor, qiR1, qiR2, qYes, rII, rII0, subD, ltD, leD, gtD, geD, cmpD, fdivD, modD, powD, startD, List.map_cons, List.map_nil, List.length_cons, List.length_nil, List.replicate_succ, List.replicate_zero, List.cons_append, List.nil_append, List.append_nil, List.getElem?_cons_zero, List.getElem?_cons_succ, List.set_cons_zero, List.set_cons_succ, Nat.reduceAdd, Nat.reduceSub, Nat.reduceLT, Nat.reduceSubDiff, Nat.add_one_sub_one, wipeD]
  refine insOf_at hp ⟨rfl, of_decide_eq_true (by kernel_rfl), ?_⟩
  intro d hd
  refine insOf_at ((put_ne (st_ne put_same hd)).trans put_same) ⟨rfl, of_decide_eq_true (by kernel_rfl), ?_⟩
  intro d2 hd2
  refine insOf_at ((put_ne (st_ne put_same hd2)).trans put_same) ⟨rfl, of_decide_eq_true (by kernel_rfl), ?_⟩
  exact Fg.here (q _ (((((But.refl p S).wr).new hd).wr).new hd2).wr)
def sceneF (o d l : D) : List (Str × D) := ("own", o) :: ("dealings", d) :: ("job", .int 0) :: ("latest", l) :: []
theorem sceneF_latest (o d l : D) : (sceneF o d l).lookup ("latest" : Str) = some l := by kernel_rfl
theorem sceneF_no {m : Str} (o d l : D) (h : decide (m ≠ "own" ∧ m ≠ "dealings" ∧ m ≠ "job" ∧ m ≠ "latest") = true := by decide +kernel) : (sceneF o d l).lookup m = none := by
  obtain ⟨h1, h2, h3, h4⟩ := of_decide_eq_true h
  have b1 : (m == ("own" : Str)) = false := beq_false_of_ne h1
  have b2 : (m == ("dealings" : Str)) = false := beq_false_of_ne h2
  have b3 : (m == ("job" : Str)) = false := beq_false_of_ne h3
  have b4 : (m == ("latest" : Str)) = false := beq_false_of_ne h4
  simp only [sceneF, List.lookup, b1, b2, b3, b4]
def gInitS : SpD := fun ds S Q _ => ∃ p a d, ds = [.ref p, .ref a, .ref d, .int 0] ∧ S p = some (.ins (CS K) []) ∧ ∀ S', But p S S' → S' p = some (.ins (CS K) (sceneF (.ref a) (.ref d) .non)) → Q .non S'
theorem p_Scene_init : Kp N_Scene___init__ (gInitS K) (b_Scene___init__ K) := by
  rintro ds S Q E ⟨p, a, d, rfl, hp, q⟩
  show b_Scene___init__ K _ _ [some (.ref p), some (.ref a), some (.ref d), some (.int 0)] S
  dsimp only [b_Scene___init__, qSeq, qNext, qAsg, asgD, setAll, qRet, qRetN, qIfS, qDrop, qVar, qC, qOp, qT, qCB, qCons, qNil, qCall, qMeth, qMake, qFld, qSetF, qSetI, qAug, qTup, qLst, qIf, qAnd, qOr, qNot, qAndV, qOrV, qNotV, qCh, qSl, qPart, qNoPart, qBM, qBM0, qIsi, qDict0, qPar, qFin, qBreak, qLc, qFor, qiR1, qiR2, qYes, rII, rII0, subD, ltD, leD, gtD, geD, cmpD, fdivD, modD, powD, startD, List.map_cons, List.map_nil, List.length_cons, List.length_nil, List.replicate_succ, List.replicate_zero, List.cons_append, List.nil_append, List.append_nil, List.getElem?_cons_zero, List.getElem?_cons_succ, List.set_cons_zero, List.set_cons_succ, Nat.reduceAdd, Nat.reduceSub, Nat.reduceLT, Nat.reduceSubDiff, Nat.add_one_sub_one, wipeD]
  refine insOf_at hp ⟨rfl, of_decide_eq_true (by kernel_rfl), ?_⟩
  refine insOf_at put_same ⟨rfl, of_decide_eq_true (by kernel_rfl), ?_⟩
  refine insOf_at put_same ⟨rfl, of_decide_eq_true (by kernel_rfl), ?_⟩
  refine insOf_at put_same ⟨rfl, of_decide_eq_true (by kernel_rfl), ?_⟩
  exact Fg.here (q _ ((((But.refl p S).wr).wr).wr).wr (put_same.trans (congrArg (fun fs => some (MO.ins (CS K) fs)) (by kernel_rfl))))
end
/-- an expression of a word and texts -/
def isX (z : Str) : D := .tup [.str "is", .str z]
inductive Xpr : List D → Str → Prop
  | is (z : Str) : Xpr [.str "is", .str z] z
  | word {w : Str} {zs : List Str} {r : Str} (h : Word w (zs.map D.str) r) : Xpr (.str w :: zs.map isX) r
inductive Xis : List D → Str → Prop
  | is (z : Str) : Xis [.str "is", .str z] z
def gIs (K : PySem.W.Frag) : SpD := fun ds S Q _ => ∃ sc xs r, ds = [.ref sc, .tup xs] ∧ Xis xs r ∧ Q (.str r) S
def gRec (K : PySem.W.Frag) : SpD := fun ds S Q _ => ∃ sc xs r o d l, ds = [.ref sc, .tup xs] ∧ S sc = some (.ins (CS K) (sceneF o d l)) ∧ Xpr xs r ∧ Q (.str r) S
theorem p_is (K : PySem.W.Frag) (g1 g2 g3 g4 : SpD) : Kp N_Scene_reckoned (gIs K) (b_Scene_reckoned K g1 g2 g3 g4) := by
  rintro ds S Q E ⟨sc, xs, r, rfl, hx, q⟩
  show b_Scene_reckoned K _ _ _ _ _ _ [some (.ref sc), some (.tup xs), none, none, none, none, none, none, none, none, none] S
  unfold b_Scene_reckoned
  cases hx with
  | is =>
    refine ⟨Nat.le_of_ble_eq_true rfl, fun p hp => ?_⟩
    dsimp only []
    refine seq_eq rfl rfl ?_
    dsimp only [qSeq, qNext, qAsg, asgD, setAll, qRet, qRetN, qIfS, qDrop, qVar, qC, qOp, qT, qCB, qCons, qNil, qCall, qMeth, qMake, qFld, qSetF, qSetI, qAug, qTup, qLst, qIf, qAnd, qOr, qNot, qAndV, qOrV, qNotV, qCh, qSl, qPart, qNoPart, qBM, qBM0, qIsi, qDict0, qPar, qFin, qBreak, qLc, qFor, qiR1, qiR2, qYes, rII, rII0, subD, ltD, leD, gtD, geD, cmpD, fdivD, modD, powD, startD, List.map_cons, List.map_nil, List.length_cons, List.length_nil, List.replicate_succ, List.replicate_zero, List.cons_append, List.nil_append, List.append_nil, List.getElem?_cons_zero, List.getElem?_cons_succ, List.set_cons_zero, List.set_cons_succ, Nat.reduceAdd, Nat.reduceSub, Nat.reduceLT, Nat.reduceSubDiff, Nat.add_one_sub_one, wipeD]
    exact ix_lst put_same rfl ⟨S, Sub.new hp, q⟩
theorem Word.len {w : Str} {xs : List D} {r : Str} (h : Word w xs r) : r.length ≤ 1000 := by
  cases h with
  | @length a h =>
    have h2 : ((a.length : Nat) : Int).natAbs < 10 ^ 20 := by
      have e1 : (10 : Nat) ^ 20 = 100000000000000000000 := by decide
      omega
    have := int_text_length_le10 (k := 20) (by decide) h2
    rw [ofString_length]
    omega
  | piece h _ _ => exact pieceS_len _ _ _ (by omega)
  | part h _ _ => exact partS_len _ _ _ (by omega)
theorem Word.ne {w : Str} {xs : List D} {r : Str} (h : Word w xs r) : w = "length" ∨ w = "piece" ∨ w = "part" := by
  cases h
  · exact .inl rfl
  · exact .inr (.inl rfl)
  · exact .inr (.inr rfl)
theorem Word.few {w : Str} {xs : List D} {r : Str} (h : Word w xs r) : xs.length ≤ 3 := by
  cases h <;> simp
theorem p_reckoned (K : PySem.W.Frag) (g1 : SpD) : Kp N_Scene_reckoned (gRec K) (b_Scene_reckoned K g1 (gIs K) gShort gWord) := by
  rintro ds S Q E ⟨sc, xs, r, o, d, l, rfl, hs, hx, q⟩
  cases hx with
  | is => exact p_is K _ _ _ _ _ _ _ _ ⟨sc, _, _, rfl, .is r, q⟩
  | @word w zs _ hw =>
    show b_Scene_reckoned K _ _ _ _ _ _ [some (.ref sc), some (.tup (.str w :: zs.map isX)), none, none, none, none, none, none, none, none, none] S
    unfold b_Scene_reckoned
    have hlen : zs.length ≤ 3 := by have := hw.few; simpa using this
    refine ⟨by rw [List.length_map]; omega, fun p hp => ?_⟩
    have hsp : (put S p (.lst (zs.map isX))) sc = some (.ins (CS K) (sceneF o d l)) := (put_ne (st_ne hs hp)).trans hs
    have h3 := hw.ne
    dsimp only []
    refine seq_ne rfl (by rcases h3 with h | h | h <;> (subst h; decide +kernel)) ?_
    refine seq_no (fun Q' q' => ?_) ?_
    · show flatD (.str w) = true ∧ _ ∧ Q' (false ^^ inF (.str w) _) _
      refine ⟨rfl, rfl, ?_⟩
      rw [show inF (.str w) ((("var" : Str) :: ("at" : Str) :: ("short" : Str) :: []).map D.str) = false from by rcases h3 with h | h | h <;> rw [h] <;> decide +kernel]
      exact q'
    refine seq_no (fun Q' q' => ?_) ?_
    · refine ⟨by rw [sizeLine_eq]; decide, ?_⟩
      show flatD (.str w) = true ∧ _ ∧ Q' (false ^^ inF (.str w) _) _
      refine ⟨rfl, rfl, ?_⟩
      rw [show inF (.str w) [.str "order", .str "back"] = false from by rcases h3 with h | h | h <;> rw [h] <;> decide +kernel]
      exact q'
    refine seq_ne rfl (by rcases h3 with h | h | h <;> (subst h; decide +kernel)) ?_
    refine seq_ne rfl (by rcases h3 with h | h | h <;> (subst h; decide +kernel)) ?_
    refine seq_ne rfl (by rcases h3 with h | h | h <;> (subst h; decide +kernel)) ?_
    dsimp only [qSeq, qNext, qAsg, asgD, setAll, qRet, qRetN, qIfS, qDrop, qVar, qC, qOp, qT, qCB, qCons, qNil, qCall, qMeth, qMake, qFld, qSetF, qSetI, qAug, qTup, qLst, qIf, qAnd, qOr, qNot, qAndV, qOrV, qNotV, qCh, qSl, qPart, qNoPart, qBM, qBM0, qIsi, qDict0, qPar, qFin, qBreak, qLc, qFor, qiR1, qiR2, qYes, rII, rII0, subD, ltD, leD, gtD, geD, cmpD, fdivD, modD, powD, startD, List.map_cons, List.map_nil, List.length_cons, List.length_nil, List.replicate_succ, List.replicate_zero, List.cons_append, List.nil_append, List.append_nil, List.getElem?_cons_zero, List.getElem?_cons_succ, List.set_cons_zero, List.set_cons_succ, Nat.reduceAdd, Nat.reduceSub, Nat.reduceLT, Nat.reduceSubDiff, Nat.add_one_sub_one, wipeD, qiL]
    rw [items_lst put_same]
    intro p2 hp2
    have hp2S : S p2 = none := by
      cases e : S p2 with
      | none => rfl
      | some u =>
        have : p2 ≠ p := st_ne e hp
        rw [put_ne this, e] at hp2
        cases hp2
    have hpp : p ≠ p2 := st_ne put_same hp2
    refine lc_map (g := fun x => match x with
      | .tup [_, y] => y
      | d => d) (zs.map isX) (sz (by rw [List.length_map]; omega)) (fun acc => items_lst ((put_ne hpp).trans put_same)) ?_ ?_
    · intro x hx acc Q' q'
      obtain ⟨z, hz, rfl⟩ := List.mem_map.mp hx
      dsimp only [qSeq, qNext, qAsg, asgD, setAll, qRet, qRetN, qIfS, qDrop, qVar, qC, qOp, qT, qCB, qCons, qNil, qCall, qMeth, qMake, qFld, qSetF, qSetI, qAug, qTup, qLst, qIf, qAnd, qOr, qNot, qAndV, qOrV, qNotV, qCh, qSl, qPart, qNoPart, qBM, qBM0, qIsi, qDict0, qPar, qFin, qBreak, qLc, qFor, qiR1, qiR2, qYes, rII, rII0, subD, ltD, leD, gtD, geD, cmpD, fdivD, modD, powD, startD, List.map_cons, List.map_nil, List.length_cons, List.length_nil, List.replicate_succ, List.replicate_zero, List.cons_append, List.nil_append, List.append_nil, List.getElem?_cons_zero, List.getElem?_cons_succ, List.set_cons_zero, List.set_cons_succ, Nat.reduceAdd, Nat.reduceSub, Nat.reduceLT, Nat.reduceSubDiff, Nat.add_one_sub_one, wipeD]
      refine insOf_at ((put_ne (st_ne hsp hp2)).trans hsp) ⟨rfl, sceneF_no o d l, ?_⟩
      exact ⟨sc, _, _, rfl, .is z, q'⟩
    · refine ⟨w, p2, _, r, rfl, put_same, ?_, ?_⟩
      · rw [List.map_map]
        exact hw
      · exact ⟨r, rfl, Nat.le_trans hw.len (by decide), ⟨S, (Sub.new hp).putR hp2S, q⟩⟩
theorem p_reckon (K : PySem.W.Frag) : Kp N_Scene_reckon (gRec K) (b_Scene_reckon K (gRec K)) := by
  rintro ds S Q E ⟨sc, xs, r, o, d, l, rfl, hs, hx, q⟩
  show b_Scene_reckon K _ _ _ [some (.ref sc), some (.tup xs), none, none] S
  dsimp only [b_Scene_reckon, qSeq, qNext, qAsg, asgD, setAll, qRet, qRetN, qIfS, qDrop, qVar, qC, qOp, qT, qCB, qCons, qNil, qCall, qMeth, qMake, qFld, qSetF, qSetI, qAug, qTup, qLst, qIf, qAnd, qOr, qNot, qAndV, qOrV, qNotV, qCh, qSl, qPart, qNoPart, qBM, qBM0, qIsi, qDict0, qPar, qFin, qBreak, qLc, qFor, qiR1, qiR2, qYes, rII, rII0, subD, ltD, leD, gtD, geD, cmpD, fdivD, modD, powD, startD, List.map_cons, List.map_nil, List.length_cons, List.length_nil, List.replicate_succ, List.replicate_zero, List.cons_append, List.nil_append, List.append_nil, List.getElem?_cons_zero, List.getElem?_cons_succ, List.set_cons_zero, List.set_cons_succ, Nat.reduceAdd, Nat.reduceSub, Nat.reduceLT, Nat.reduceSubDiff, Nat.add_one_sub_one, wipeD]
  refine insOf_at hs ⟨rfl, ?_⟩
  rw [sceneF_latest]
  dsimp only []
  refine insOf_at hs ⟨rfl, sceneF_no o d l, ?_⟩
  refine ⟨sc, xs, r, o, d, l, rfl, hs, hx, ?_⟩
  exact Fg.here q
/-! ### what is drawn -/
def gCell : SpD := fun ds S Q _ => ∃ (ns : List Int) (k : Nat), ds = [.kl (ns.map .int), .int k] ∧ ∀ z, Q (.int z) S
theorem p__law_cell_at : Kp N__law_cell_at gCell b__law_cell_at := by
  rintro ds S Q E ⟨ns, k, rfl, q⟩
  show b__law_cell_at _ _ [some (.kl (ns.map .int)), some (.int k)] S
  dsimp only [b__law_cell_at, qSeq, qNext, qAsg, asgD, setAll, qRet, qRetN, qIfS, qDrop, qVar, qC, qOp, qT, qCB, qCons, qNil, qCall, qMeth, qMake, qFld, qSetF, qSetI, qAug, qTup, qLst, qIf, qAnd, qOr, qNot, qAndV, qOrV, qNotV, qCh, qSl, qPart, qNoPart, qBM, qBM0, qIsi, qDict0, qPar, qFin, qBreak, qLc, qFor, qiR1, qiR2, qYes, rII, rII0, subD, ltD, leD, gtD, geD, cmpD, fdivD, modD, powD, startD, List.map_cons, List.map_nil, List.length_cons, List.length_nil, List.replicate_succ, List.replicate_zero, List.cons_append, List.nil_append, List.append_nil, List.getElem?_cons_zero, List.getElem?_cons_succ, List.set_cons_zero, List.set_cons_succ, Nat.reduceAdd, Nat.reduceSub, Nat.reduceLT, Nat.reduceSubDiff, Nat.add_one_sub_one, wipeD]
  refine len_kl ?_
  dsimp only []
  rw [List.length_map]
  by_cases h : k < ns.length
  · rw [decide_eq_true (by omega)]
    exact ix_kl (x := .int ns[k]) (by rw [atI_n, List.getElem?_map, List.getElem?_eq_getElem h]; rfl) (Fg.here (q _))
  · rw [decide_eq_false (by omega)]
    exact Fg.here (q _)
def gBag : SpD := fun ds S Q _ => ∃ c, ds = [.int c] ∧ ∀ b S', S b = none → But b S S' → BagAt S' b 0 → Q (.ref b) S'
theorem p__law_bag : Kp N__law_bag gBag b__law_bag := by
  rintro ds S Q E ⟨c, rfl, q⟩
  show b__law_bag _ _ [some (.int c)] S
  dsimp only [b__law_bag, qSeq, qNext, qAsg, asgD, setAll, qRet, qRetN, qIfS, qDrop, qVar, qC, qOp, qT, qCB, qCons, qNil, qCall, qMeth, qMake, qFld, qSetF, qSetI, qAug, qTup, qLst, qIf, qAnd, qOr, qNot, qAndV, qOrV, qNotV, qCh, qSl, qPart, qNoPart, qBM, qBM0, qIsi, qDict0, qPar, qFin, qBreak, qLc, qFor, qiR1, qiR2, qYes, rII, rII0, subD, ltD, leD, gtD, geD, cmpD, fdivD, modD, powD, startD, List.map_cons, List.map_nil, List.length_cons, List.length_nil, List.replicate_succ, List.replicate_zero, List.cons_append, List.nil_append, List.append_nil, List.getElem?_cons_zero, List.getElem?_cons_succ, List.set_cons_zero, List.set_cons_succ, Nat.reduceAdd, Nat.reduceSub, Nat.reduceLT, Nat.reduceSubDiff, Nat.add_one_sub_one, wipeD, addD, max2D]
  refine ⟨CPw.of (k := 4) (by decide) (by decide), CPw.of (k := 4) (by decide) (by decide), by decide, by rw [sizeLine_eq]; decide, fun b hb => ?_⟩
  have hp := fmod_pos (i := c) (j := 10 ^ (40 : Int).toNat + 121) (by decide)
  exact Fg.here (q b _ hb ((But.refl b S).wr) ⟨_, put_same, _, _, _, rfl, hp.1, hp.2, by decide, by decide⟩)
theorem p__law_draw : Kp N__law_draw gDraw b__law_draw := by
  rintro ds S Q E ⟨b, many, n, rfl, ⟨xs, hb, x, y, z, rfl, y0, y1, z0, z1⟩, hn, m0, m1, q⟩
  have hm : most = 1000000 := rfl
  show b__law_draw _ _ [some (.ref b), some (.int many), none] S
  dsimp only [b__law_draw, qSeq, qNext, qAsg, asgD, setAll, qRet, qRetN, qIfS, qDrop, qVar, qC, qOp, qT, qCB, qCons, qNil, qCall, qMeth, qMake, qFld, qSetF, qSetI, qAug, qTup, qLst, qIf, qAnd, qOr, qNot, qAndV, qOrV, qNotV, qCh, qSl, qPart, qNoPart, qBM, qBM0, qIsi, qDict0, qPar, qFin, qBreak, qLc, qFor, qiR1, qiR2, qYes, rII, rII0, subD, ltD, leD, gtD, geD, cmpD, fdivD, modD, powD, startD, List.map_cons, List.map_nil, List.length_cons, List.length_nil, List.replicate_succ, List.replicate_zero, List.cons_append, List.nil_append, List.append_nil, List.getElem?_cons_zero, List.getElem?_cons_succ, List.set_cons_zero, List.set_cons_succ, Nat.reduceAdd, Nat.reduceSub, Nat.reduceLT, Nat.reduceSubDiff, Nat.add_one_sub_one, wipeD, addD]
  refine ix_lst (x := .int x) hb rfl ?_
  dsimp only []
  by_cases h : 1 < x
  · rw [decide_eq_true h]
    refine ix_lst (x := .int x) hb rfl ⟨by omega, ix_lst (x := .int x) hb rfl ⟨CFd.of (by omega) m1, ?_⟩⟩
    refine set_lst (j := 0) hb rfl ?_
    have hp := fmod_pos (i := x) (j := many) (by omega)
    exact Fg.here (q _ _ hp.1 hp.2 ((But.refl b S).wr) ⟨_, put_same, _, _, _, rfl, y0, y1, z0, by omega⟩)
  · rw [decide_eq_false h]
    dsimp only []
    refine ix_lst (x := .int z) hb rfl ?_
    dsimp only []
    refine set_lst (j := 2) hb rfl ?_
    generalize hS : put S b (.lst ([D.int x, .int y, .int z].set 2 (.int (z + 1)))) = S1
    have h1 : S1 b = some (.lst [.int x, .int y, .int (z + 1)]) := by rw [← hS]; exact put_same
    refine ix_lst (x := .int y) h1 rfl (ix_lst (x := .int (z + 1)) h1 rfl ?_)
    have hz : (z + 1).natAbs < 2 ^ 30 := by
      have : (2 : Nat) ^ 30 = 1073741824 := by decide
      omega
    refine ⟨wide_mul (a := 30) (b := 30) hz (by decide) (by decide) (by decide) (by decide), ?_⟩
    dsimp only []
    have hs : (y + (z + 1) * 982451653).natAbs < 2 ^ 140 := by
      have e1 : (2 : Nat) ^ 140 = 1393796574908163946345982392040522594123776 := by decide
      have e2 : (10 : Int) ^ 40 = 10000000000000000000000000000000000000000 := by decide
      omega
    refine ⟨CPw.of hs (by decide), CPw.of (k := 4) (by decide) (by decide), by decide, ?_⟩
    have hp := fmod_pos (i := (y + (z + 1) * 982451653) ^ (5 : Int).toNat) (j := 10 ^ (39 : Int).toNat + 3) (by decide)
    generalize ((y + (z + 1) * 982451653) ^ (5 : Int).toNat).fmod (10 ^ (39 : Int).toNat + 3) = u at hp
    refine ix_lst (x := .int (z + 1)) h1 rfl ⟨wide_mul (a := 30) (b := 30) hz (by decide) (by decide) (by decide) (by decide), ?_⟩
    dsimp only []
    have hs2 : (u + (z + 1) * 15485863).natAbs < 2 ^ 140 := by
      have e1 : (2 : Nat) ^ 140 = 1393796574908163946345982392040522594123776 := by decide
      have e2 : (10 : Int) ^ (39 : Int).toNat = 1000000000000000000000000000000000000000 := by decide
      omega
    refine ⟨CPw.of hs2 (by decide), CPw.of (k := 4) (by decide) (by decide), by decide, CFd.of (by decide) (by decide), by omega, ?_⟩
    have hp2 := fmod_pos (i := (((u + (z + 1) * 15485863) ^ (3 : Int).toNat).fmod (10 ^ (36 : Int).toNat + 67)).fdiv 1024) (j := many) (by omega)
    refine Fg.here (q _ _ hp2.1 hp2.2 ?_ ⟨_, h1, _, _, _, rfl, y0, y1, by omega, by omega⟩)
    rw [← hS]
    exact (But.refl b S).wr
theorem p__law_key : Kp N__law_key (gDrawn 40 5) (b__law_key gDraw) := by
  rintro ds S Q E ⟨b, n, rfl, hb, hn, q⟩
  have hm : most = 1000000 := rfl
  show b__law_key _ _ _ [some (.ref b), none, none, none] S
  dsimp only [b__law_key, qSeq, qNext, qAsg, asgD, setAll, qRet, qRetN, qIfS, qDrop, qVar, qC, qOp, qT, qCB, qCons, qNil, qCall, qMeth, qMake, qFld, qSetF, qSetI, qAug, qTup, qLst, qIf, qAnd, qOr, qNot, qAndV, qOrV, qNotV, qCh, qSl, qPart, qNoPart, qBM, qBM0, qIsi, qDict0, qPar, qFin, qBreak, qLc, qFor, qiR1, qiR2, qYes, rII, rII0, subD, ltD, leD, gtD, geD, cmpD, fdivD, modD, powD, startD, List.map_cons, List.map_nil, List.length_cons, List.length_nil, List.replicate_succ, List.replicate_zero, List.cons_append, List.nil_append, List.append_nil, List.getElem?_cons_zero, List.getElem?_cons_succ, List.set_cons_zero, List.set_cons_succ, Nat.reduceAdd, Nat.reduceSub, Nat.reduceLT, Nat.reduceSubDiff, Nat.add_one_sub_one, wipeD, mulD, CRep]
  refine ⟨⟨by decide, by decide, by rw [sizeLine_eq]; decide⟩, ⟨by decide, by decide, by rw [sizeLine_eq]; decide⟩, by rw [sizeLine_eq]; decide, fun p hp => ?_⟩
  refine ⟨b, 3, n, rfl, hb.new hp, by omega, by decide, by decide, fun r S2 r0 r1 B2 G2 => ?_⟩
  dsimp only []
  by_cases h : 0 < r
  · rw [decide_eq_true h]
    refine ⟨b, 17, _, rfl, G2, by omega, by decide, by decide, fun r2 S3 s0 s1 B3 G3 => ?_⟩
    have h3 := (B2.trans B3).at_ put_same (Ne.symm (hb.ne hp))
    refine ix_in h3 s0 s1 fun x hx => ?_
    obtain ⟨w, rfl, hw⟩ := strsLe_at (k := 40) (by kernel_rfl) hx
    exact Fg.here (q w S3 hw ((B2.trans B3).pre hp) (G3.more (by omega)))
  · rw [decide_eq_false h]
    dsimp only []
    refine ⟨rfl, b, 3, _, rfl, G2, by omega, by decide, by decide, fun r2 S3 s0 s1 B3 G3 => ?_⟩
    dsimp only []
    refine ⟨by omega, by omega, fun p2 hp2 => ?_⟩
    refine lc_bag (c := 1) (fun _ => trivial) (fun d => ∃ z, d = .str z ∧ z.length ≤ 1) _ (sz (by rw [range_len]; omega)) G3 hp2 (by rw [range_len]; omega) ?_ ?_
    · intro d _ S4 m Q' hk hg hm' q'
      dsimp only [qSeq, qNext, qAsg, asgD, setAll, qRet, qRetN, qIfS, qDrop, qVar, qC, qOp, qT, qCB, qCons, qNil, qCall, qMeth, qMake, qFld, qSetF, qSetI, qAug, qTup, qLst, qIf, qAnd, qOr, qNot, qAndV, qOrV, qNotV, qCh, qSl, qPart, qNoPart, qBM, qBM0, qIsi, qDict0, qPar, qFin, qBreak, qLc, qFor, qiR1, qiR2, qYes, rII, rII0, subD, ltD, leD, gtD, geD, cmpD, fdivD, modD, powD, startD, List.map_cons, List.map_nil, List.length_cons, List.length_nil, List.replicate_succ, List.replicate_zero, List.cons_append, List.nil_append, List.append_nil, List.getElem?_cons_zero, List.getElem?_cons_succ, List.set_cons_zero, List.set_cons_succ, Nat.reduceAdd, Nat.reduceSub, Nat.reduceLT, Nat.reduceSubDiff, Nat.add_one_sub_one, wipeD]
      refine ⟨by rw [sizeLine_eq]; decide, b, _, m, rfl, hg, hm', by decide, by decide, fun r4 S5 t0 t1 B5 G5 => ?_⟩
      exact ix_in_str (by rw [sizeLine_eq]; decide) t0 t1 fun c _ => q' _ _ ⟨_, rfl, by simp [Str.length]⟩ B5 G5
    · intro rs S4 hrs hl B4 G4 h4
      obtain ⟨ys, y1, y2, y3⟩ := strs_of hrs
      rw [range_len] at hl G4
      refine join_ok (items_lst h4) y1 (by show _ + ys.length * 0 ≤ _; omega) ?_
      exact Fg.here (q _ S4 (by rw [join_len]; omega) (((B2.trans B3).trans B4).pre hp) (G4.more (by omega)))
theorem p__law_worth : Kp N__law_worth (gDrawn 80 20) (b__law_worth gDraw (gDrawn 40 5)) := by
  rintro ds S Q E ⟨b, n, rfl, hb, hn, q⟩
  have hm : most = 1000000 := rfl
  show b__law_worth _ _ _ _ [some (.ref b), none, none] S
  dsimp only [b__law_worth, qSeq, qNext, qAsg, asgD, setAll, qRet, qRetN, qIfS, qDrop, qVar, qC, qOp, qT, qCB, qCons, qNil, qCall, qMeth, qMake, qFld, qSetF, qSetI, qAug, qTup, qLst, qIf, qAnd, qOr, qNot, qAndV, qOrV, qNotV, qCh, qSl, qPart, qNoPart, qBM, qBM0, qIsi, qDict0, qPar, qFin, qBreak, qLc, qFor, qiR1, qiR2, qYes, rII, rII0, subD, ltD, leD, gtD, geD, cmpD, fdivD, modD, powD, startD, List.map_cons, List.map_nil, List.length_cons, List.length_nil, List.replicate_succ, List.replicate_zero, List.cons_append, List.nil_append, List.append_nil, List.getElem?_cons_zero, List.getElem?_cons_succ, List.set_cons_zero, List.set_cons_succ, Nat.reduceAdd, Nat.reduceSub, Nat.reduceLT, Nat.reduceSubDiff, Nat.add_one_sub_one, wipeD, mulD, CRep]
  refine ⟨⟨by decide, by decide, by rw [sizeLine_eq]; decide⟩, by rw [sizeLine_eq]; decide, fun p hp => ?_⟩
  refine ⟨b, 4, n, rfl, hb.new hp, by omega, by decide, by decide, fun r S2 r0 r1 B2 G2 => ?_⟩
  dsimp only []
  by_cases h : r < 2
  · rw [decide_eq_true h]
    refine ⟨b, 16, _, rfl, G2, by omega, by decide, by decide, fun r2 S3 s0 s1 B3 G3 => ?_⟩
    have h3 := (B2.trans B3).at_ put_same (Ne.symm (hb.ne hp))
    refine ix_in h3 s0 s1 fun x hx => ?_
    obtain ⟨w, rfl, hw⟩ := strsLe_at (k := 80) (by kernel_rfl) hx
    exact Fg.here (q w S3 hw ((B2.trans B3).pre hp) (G3.more (by omega)))
  · rw [decide_eq_false h]
    dsimp only [eqD]
    rw [Bool.false_xor]
    by_cases h2 : r = 2
    · rw [decide_eq_true h2]
      dsimp only []
      refine ⟨CPw.of (k := 4) (by decide) (by decide), CPw.of (k := 4) (by decide) (by decide), by rw [sizeLine_eq]; decide, fun p2 hp2 => ?_⟩
      refine ⟨b, 3, _, rfl, G2.new hp2, by omega, by decide, by decide, fun r2 S3 s0 s1 B3 G3 => ?_⟩
      have h3 := B3.at_ put_same (Ne.symm (G2.ne hp2))
      refine ix_in h3 s0 s1 fun x hx => ?_
      have hx2 : ∃ i : Int, x = .int i ∧ 1 ≤ i ∧ i ≤ 10 ^ 19 := by
        rcases List.mem_cons.mp hx with e | hx
        · exact ⟨_, e, by decide, by decide⟩
        · rcases List.mem_cons.mp hx with e | hx
          · exact ⟨_, e, by decide, by decide⟩
          · rw [List.mem_singleton] at hx
            exact ⟨_, hx, by decide, by decide⟩
      obtain ⟨i, rfl, i0, i1⟩ := hx2
      refine ⟨b, i, _, rfl, G3, by omega, i0, Int.lt_of_le_of_lt i1 (by decide), fun r3 S4 t0 t1 B4 G4 => ?_⟩
      dsimp only []
      have hr : (r3 - 4).natAbs < 10 ^ 20 := by
        have e1 : (10 : Nat) ^ 20 = 100000000000000000000 := by decide
        have e2 : (10 : Int) ^ 19 = 10000000000000000000 := by decide
        omega
      refine ⟨?_, Fg.here (q _ S4 ?_ (((B2.trans (B3.pre hp2)).trans B4).pre hp) (G4.more (by omega)))⟩
      · have e1 : (10 : Nat) ^ 20 ≤ 2 ^ 100 := by decide
        by_cases z : (r3 - 4).natAbs = 0
        · rw [z]; decide
        · exact Nat.lt_trans ((Nat.log2_lt z).mpr (Nat.lt_of_lt_of_le hr e1)) (by decide)
      · rw [ofString_length]
        exact Nat.le_trans (int_text_length_le10 (k := 20) (by decide) hr) (by decide)
    · rw [decide_eq_false h2]
      dsimp only [addD, slD]
      refine ⟨b, _, rfl, G2, by omega, fun w S3 hw B3 G3 => ?_⟩
      dsimp only []
      refine ⟨sz (by omega), b, _, rfl, G3, by omega, fun w2 S4 hw2 B4 G4 => ?_⟩
      have hc := cutS_length w none (some 40)
      refine ⟨sz (by omega), Fg.here (q _ S4 ?_ (((B2.trans B3).trans B4).pre hp) (G4.more (by omega)))⟩
      rw [len_tl, tlS_app, List.length_append, ← len_tl, ← len_tl]
      omega
theorem p__law_text : Kp N__law_text (gDrawn 200 60) (b__law_text gDraw (gDrawn 80 20)) := by
  rintro ds S Q E ⟨b, n, rfl, hb, hn, q⟩
  have hm : most = 1000000 := rfl
  show b__law_text _ _ _ _ [some (.ref b), none, none] S
  dsimp only [b__law_text, qSeq, qNext, qAsg, asgD, setAll, qRet, qRetN, qIfS, qDrop, qVar, qC, qOp, qT, qCB, qCons, qNil, qCall, qMeth, qMake, qFld, qSetF, qSetI, qAug, qTup, qLst, qIf, qAnd, qOr, qNot, qAndV, qOrV, qNotV, qCh, qSl, qPart, qNoPart, qBM, qBM0, qIsi, qDict0, qPar, qFin, qBreak, qLc, qFor, qiR1, qiR2, qYes, rII, rII0, subD, ltD, leD, gtD, geD, cmpD, fdivD, modD, powD, startD, List.map_cons, List.map_nil, List.length_cons, List.length_nil, List.replicate_succ, List.replicate_zero, List.cons_append, List.nil_append, List.append_nil, List.getElem?_cons_zero, List.getElem?_cons_succ, List.set_cons_zero, List.set_cons_succ, Nat.reduceAdd, Nat.reduceSub, Nat.reduceLT, Nat.reduceSubDiff, Nat.add_one_sub_one, wipeD]
  refine ⟨rfl, b, 13, n, rfl, hb, by omega, by decide, by decide, fun r S2 r0 r1 B2 G2 => ?_⟩
  dsimp only []
  refine ⟨by omega, by omega, fun p hp => ?_⟩
  refine lc_bag (c := 1) (fun _ => trivial) (fun d => ∃ z, d = .str z ∧ z.length ≤ 1) _ (sz (by rw [range_len]; omega)) G2 hp (by rw [range_len]; omega) ?_ ?_
  · intro d _ S4 m Q' hk hg hm' q'
    dsimp only [qSeq, qNext, qAsg, asgD, setAll, qRet, qRetN, qIfS, qDrop, qVar, qC, qOp, qT, qCB, qCons, qNil, qCall, qMeth, qMake, qFld, qSetF, qSetI, qAug, qTup, qLst, qIf, qAnd, qOr, qNot, qAndV, qOrV, qNotV, qCh, qSl, qPart, qNoPart, qBM, qBM0, qIsi, qDict0, qPar, qFin, qBreak, qLc, qFor, qiR1, qiR2, qYes, rII, rII0, subD, ltD, leD, gtD, geD, cmpD, fdivD, modD, powD, startD, List.map_cons, List.map_nil, List.length_cons, List.length_nil, List.replicate_succ, List.replicate_zero, List.cons_append, List.nil_append, List.append_nil, List.getElem?_cons_zero, List.getElem?_cons_succ, List.set_cons_zero, List.set_cons_succ, Nat.reduceAdd, Nat.reduceSub, Nat.reduceLT, Nat.reduceSubDiff, Nat.add_one_sub_one, wipeD]
    refine ⟨b, _, m, rfl, hg, hm', by decide, by decide, fun r4 S5 t0 t1 B5 G5 => ?_⟩
    exact ix_in_str (by rw [sizeLine_eq]; decide) t0 t1 fun c _ => q' _ _ ⟨_, rfl, by simp [Str.length]⟩ B5 G5
  · intro rs S4 hrs hl B4 G4 h4
    obtain ⟨ys, y1, y2, y3⟩ := strs_of hrs
    rw [range_len] at hl G4
    refine join_ok (items_lst h4) y1 (by show _ + ys.length * 0 ≤ _; omega) ?_
    have hf : (Txt.join ("" : Str) ys).length ≤ 13 := by rw [join_len]; omega
    generalize Txt.join ("" : Str) ys = few at hf
    refine ⟨b, _, rfl, G4, by omega, fun w S5 hw B5 G5 => ?_⟩
    refine ⟨b, 60, _, rfl, G5, by omega, by decide, by decide, fun r6 S6 u0 u1 B6 G6 => ?_⟩
    dsimp only [mulD, CRep]
    have h3 : (("aab" : Str).length : Nat) = 3 := by decide +kernel
    refine ⟨⟨by omega, by omega, by rw [h3, sizeLine_eq]; omega⟩, by rw [sizeLine_eq]; decide, fun p2 hp2 => ?_⟩
    refine ⟨b, 5, _, rfl, G6.new hp2, by omega, by decide, by decide, fun r7 S7 v0 v1 B7 G7 => ?_⟩
    have h7 := B7.at_ put_same (Ne.symm (G6.ne hp2))
    refine ix_in h7 v0 v1 fun x hx => ?_
    have hx2 : ∃ z, x = .str z ∧ z.length ≤ 200 := by
      have hrep : (repS ("aab" : Str) r6).length ≤ 200 := by
        rw [len_tl]
        show (List.replicate r6.toNat (tlS ("aab" : Str))).flatten.length ≤ 200
        rw [List.length_flatten, List.map_replicate, List.sum_replicate_nat, ← len_tl, h3]
        show r6.toNat * 3 ≤ 200
        omega
      simp only [List.mem_cons, List.mem_singleton, List.not_mem_nil, or_false] at hx
      rcases hx with e | e | e | e | e
      · exact ⟨few, e, by omega⟩
      · exact ⟨few, e, by omega⟩
      · exact ⟨w, e, by omega⟩
      · exact ⟨_, e, by decide⟩
      · exact ⟨_, e, hrep⟩
    obtain ⟨z, rfl, hz⟩ := hx2
    exact Fg.here (q z S7 hz ((((B2.trans B4).trans B5).trans B6).trans (B7.pre hp2)) (G7.more (by omega)))
def gNth : SpD := fun ds S Q _ => ∃ b m n, ds = [.ref b, .int m] ∧ 0 ≤ m ∧ m ≤ 1000 ∧ BagAt S b n ∧ n + 10 ≤ most ∧ ∀ w S', w.length ≤ 40 → But b S S' → BagAt S' b (n + 10) → Q (.str w) S'
theorem small_text {i : Int} (h : i.natAbs < 10 ^ 20) : i.natAbs.log2 < 1920 ∧ (Str.ofString (toString i)).length ≤ 21 := by
  constructor
  · have e1 : (10 : Nat) ^ 20 ≤ 2 ^ 100 := by decide
    by_cases z : i.natAbs = 0
    · rw [z]; decide
    · exact Nat.lt_trans ((Nat.log2_lt z).mpr (Nat.lt_of_lt_of_le h e1)) (by decide)
  · rw [ofString_length]
    exact int_text_length_le10 (k := 20) (by decide) h
theorem p__law_nth : Kp N__law_nth gNth (b__law_nth gDraw) := by
  rintro ds S Q E ⟨b, m, n, rfl, m0, m1, hb, hn, q⟩
  have hm : most = 1000000 := rfl
  have e20 : (10 : Nat) ^ 20 = 100000000000000000000 := by decide
  have e30 : (10 : Int) ^ 30 = 1000000000000000000000000000000 := by decide
  show b__law_nth _ _ _ [some (.ref b), some (.int m), none] S
  dsimp only [b__law_nth, qSeq, qNext, qAsg, asgD, setAll, qRet, qRetN, qIfS, qDrop, qVar, qC, qOp, qT, qCB, qCons, qNil, qCall, qMeth, qMake, qFld, qSetF, qSetI, qAug, qTup, qLst, qIf, qAnd, qOr, qNot, qAndV, qOrV, qNotV, qCh, qSl, qPart, qNoPart, qBM, qBM0, qIsi, qDict0, qPar, qFin, qBreak, qLc, qFor, qiR1, qiR2, qYes, rII, rII0, subD, ltD, leD, gtD, geD, cmpD, fdivD, modD, powD, startD, List.map_cons, List.map_nil, List.length_cons, List.length_nil, List.replicate_succ, List.replicate_zero, List.cons_append, List.nil_append, List.append_nil, List.getElem?_cons_zero, List.getElem?_cons_succ, List.set_cons_zero, List.set_cons_succ, Nat.reduceAdd, Nat.reduceSub, Nat.reduceLT, Nat.reduceSubDiff, Nat.add_one_sub_one, wipeD, addD]
  refine ⟨b, _, n, rfl, hb, by omega, by omega, by omega, fun r1 S1 a0 a1 B1 G1 => ?_⟩
  refine ⟨b, 4, _, rfl, G1, by omega, by decide, by decide, fun r2 S2 b0 b1 B2 G2 => ?_⟩
  refine ⟨b, 3, _, rfl, G2, by omega, by decide, by decide, fun r3 S3 c0 c1 B3 G3 => ?_⟩
  dsimp only []
  refine ⟨by rw [sizeLine_eq]; decide, fun p hp => ?_⟩
  have hbp := G3.ne hp
  refine ⟨ty_lst put_same, CPw.of (k := 4) (by decide) (by decide), b, 10 ^ (9 : Int).toNat, _, rfl, G3.new hp, by omega, by decide, by decide, fun r4 S4 d0 d1 B4 G4 => ?_⟩
  dsimp only []
  have h4 := B4.at_ put_same (Ne.symm hbp)
  have d2 : r4 < 1000000000 := Int.lt_of_lt_of_le d1 (by decide)
  refine app_at h4 (by rw [sizeLine_eq]; show 4 < _; decide) ?_
  generalize hS : put S4 p (.lst ([.int r1, .int r2, .int (0 - r3), .int m] ++ [.int (m + 1 + r4)])) = S5
  have h5 : S5 p = some (.lst [.int r1, .int r2, .int (0 - r3), .int m, .int (m + 1 + r4)]) := by rw [← hS]; exact put_same
  have G5 : BagAt S5 b (n + 1 + 1 + 1 + 1) := by
    obtain ⟨xs, g1, g2⟩ := G4
    exact ⟨xs, by rw [← hS, put_ne hbp]; exact g1, g2⟩
  have B5 : But b S3 S5 := fun a o h e => by
    have hap : a ≠ p := st_ne e hp
    rw [← hS, put_ne hap]
    exact (B4.pre hp) a o h e
  refine ⟨b, 5, _, rfl, G5, by omega, by decide, by decide, fun r6 S6 f0 f1 B6 G6 => ?_⟩
  refine ix_in (B6.at_ h5 (Ne.symm hbp)) f0 f1 fun x hx => ?_
  have hx2 : ∃ i : Int, x = .int i ∧ i.natAbs < 10 ^ 20 := by
    simp only [List.mem_cons, List.not_mem_nil, or_false] at hx
    rcases hx with e | e | e | e | e <;> exact ⟨_, e, by omega⟩
  obtain ⟨i, rfl, hi⟩ := hx2
  obtain ⟨t1, t2⟩ := small_text hi
  refine ⟨t1, ?_⟩
  dsimp only []
  refine ⟨by rw [sizeLine_eq]; decide, fun p2 hp2 => ?_⟩
  refine ⟨b, 4, _, rfl, G6.new hp2, by omega, by decide, by decide, fun r7 S7 g0 g1 B7 G7 => ?_⟩
  refine ix_in (B7.at_ put_same (Ne.symm (G6.ne hp2))) g0 g1 fun x hx => ?_
  obtain ⟨w, rfl, hw⟩ := strsLe_at (k := 2) (by kernel_rfl) hx
  dsimp only []
  refine ⟨sz (by omega), Fg.here (q _ S7 ?_ (((((B1.trans B2).trans B3).trans B5).trans B6).trans (B7.pre hp2)) (G7.more (by omega)))⟩
  rw [len_tl, tlS_app, List.length_append, ← len_tl, ← len_tl]
  omega
/-! ### the law's own reading of numbers -/
theorem numL_bound {w : Str} (h : w.length ≤ 600) : ((NumText.digitsVal (dgL (tlS w)) : Nat) : Int).natAbs < 2 ^ 3000 := by
  have hd : ∀ c ∈ dgL (tlS w), 48 ≤ c ∧ c ≤ 57 := fun c hc => by
    have := aheadN_all isDg _ c hc
    simpa [isDg] using this
  have h1 := digitsVal_lt _ hd
  have h2 : (dgL (tlS w)).length ≤ 600 := by
    unfold dgL
    rw [List.length_take, List.length_drop]
    rw [len_tl] at h
    omega
  rw [Int.natAbs_natCast]
  refine Nat.lt_of_lt_of_le h1 (Nat.le_trans (Nat.pow_le_pow_right (by decide) h2) ?_)
  rw [show (10 : Nat) = 10 from rfl, show 3000 = 5 * 600 from rfl, Nat.pow_mul]
  exact Nat.pow_le_pow_left (by decide) 600
theorem dig_pos {l : List Nat} {k : Nat} (hk : k < aheadN isDg l) : k < l.length := Nat.lt_of_lt_of_le hk (aheadN_le _ _)
theorem p__law_number : Kp N__law_number gNum b__law_number := by
  rintro ds S Q E ⟨w, rfl, hw, q⟩
  show b__law_number _ _ [some (.str w), none, none, none] S
  dsimp only [b__law_number, qSeq, qNext, qAsg, asgD, setAll, qRet, qRetN, qIfS, qDrop, qVar, qC, qOp, qT, qCB, qCons, qNil, qCall, qMeth, qMake, qFld, qSetF, qSetI, qAug, qTup, qLst, qIf, qAnd, qOr, qNot, qAndV, qOrV, qNotV, qCh, qSl, qPart, qNoPart, qBM, qBM0, qIsi, qDict0, qPar, qFin, qBreak, qLc, qFor, qiR1, qiR2, qYes, rII, rII0, subD, ltD, leD, gtD, geD, cmpD, fdivD, modD, powD, startD, List.map_cons, List.map_nil, List.length_cons, List.length_nil, List.replicate_succ, List.replicate_zero, List.cons_append, List.nil_append, List.append_nil, List.getElem?_cons_zero, List.getElem?_cons_succ, List.set_cons_zero, List.set_cons_succ, Nat.reduceAdd, Nat.reduceSub, Nat.reduceLT, Nat.reduceSubDiff, Nat.add_one_sub_one, wipeD]
  generalize hl : tlS w = l
  generalize hM : aheadN isSg l = m
  generalize hJ : aheadN isDg (l.drop m) = j
  have hll : w.length = l.length := by rw [len_tl, hl]
  have hm : m ≤ l.length := by rw [← hM]; exact aheadN_le _ _
  have hj : j ≤ l.length - m := by rw [← hJ, ← List.length_drop]; exact aheadN_le _ _
  refine while_ok (fun n ρ S1 => S1 = S ∧ ∃ k : Nat, n = m - k ∧ k ≤ m ∧ ρ = [some (.str w), some (.int k), some (.int ((l.take k).count 45 : Nat)), none]) ?_ (m := m) ⟨rfl, 0, rfl, Nat.zero_le _, rfl⟩
  rintro n N hN ρ S1 ⟨rfl, k, rfl, hk, rfl⟩
  dsimp only [qSeq, qNext, qAsg, asgD, setAll, qRet, qRetN, qIfS, qDrop, qVar, qC, qOp, qT, qCB, qCons, qNil, qCall, qMeth, qMake, qFld, qSetF, qSetI, qAug, qTup, qLst, qIf, qAnd, qOr, qNot, qAndV, qOrV, qNotV, qCh, qSl, qPart, qNoPart, qBM, qBM0, qIsi, qDict0, qPar, qFin, qBreak, qLc, qFor, qiR1, qiR2, qYes, rII, rII0, subD, ltD, leD, gtD, geD, cmpD, fdivD, modD, powD, startD, List.map_cons, List.map_nil, List.length_cons, List.length_nil, List.replicate_succ, List.replicate_zero, List.cons_append, List.nil_append, List.append_nil, List.getElem?_cons_zero, List.getElem?_cons_succ, List.set_cons_zero, List.set_cons_succ, Nat.reduceAdd, Nat.reduceSub, Nat.reduceLT, Nat.reduceSubDiff, Nat.add_one_sub_one, wipeD, inD]
  refine len_str (sz (by omega)) ?_
  dsimp only []
  rw [hl]
  -- the second loop
  have second : (qSeq (qAsg (.name 3) (qC (.int 0)))
    (qSeq (qWhile (qAnd (qT (qOp ltD (qVar 1) (qCB lenD (qCons (qVar 0) qNil)))) (qT (qOp (inD false) (qOp ixD (qVar 0) (qVar 1)) (qC (.str "0123456789"))))) (qSeq (qAsg (.name 3) (qOp addD (qOp mulD (qVar 3) (qC (.int 10))) (qCB intD (qCons (qOp ixD (qVar 0) (qVar 1)) qNil))))
    (qAsg (.name 1) (qOp addD (qVar 1) (qC (.int 1))))))
    (qRet (qOp mulD (qVar 3) (qOp ixD (qLst (qCons (qC (.int 1)) (qCons (qC (.int (-1))) qNil))) (qOp modD (qVar 2) (qC (.int 2)))))))) (fun ev _ S => Fg (E ev) S) { nx := fun _ S => Fg (Q .non) S, rt := fun d S => Fg (Q d) S } [some (.str w), some (.int m), some (.int ((l.take m).count 45 : Nat)), none] S1 := by
    dsimp only [qSeq, qNext, qAsg, asgD, setAll, qRet, qRetN, qIfS, qDrop, qVar, qC, qOp, qT, qCB, qCons, qNil, qCall, qMeth, qMake, qFld, qSetF, qSetI, qAug, qTup, qLst, qIf, qAnd, qOr, qNot, qAndV, qOrV, qNotV, qCh, qSl, qPart, qNoPart, qBM, qBM0, qIsi, qDict0, qPar, qFin, qBreak, qLc, qFor, qiR1, qiR2, qYes, rII, rII0, subD, ltD, leD, gtD, geD, cmpD, fdivD, modD, powD, startD, List.map_cons, List.map_nil, List.length_cons, List.length_nil, List.replicate_succ, List.replicate_zero, List.cons_append, List.nil_append, List.append_nil, List.getElem?_cons_zero, List.getElem?_cons_succ, List.set_cons_zero, List.set_cons_succ, Nat.reduceAdd, Nat.reduceSub, Nat.reduceLT, Nat.reduceSubDiff, Nat.add_one_sub_one, wipeD]
    refine while_ok (fun n ρ S2 => S2 = S1 ∧ ∃ i : Nat, n = j - i ∧ i ≤ j ∧ ρ = [some (.str w), some (.int ((m + i : Nat) : Int)), some (.int ((l.take m).count 45 : Nat)), some (.int ((NumText.digitsVal ((l.drop m).take i) : Nat) : Int))]) ?_ (m := j) ⟨rfl, 0, rfl, Nat.zero_le _, rfl⟩
    rintro n N hN ρ S2 ⟨rfl, i, rfl, hi, rfl⟩
    dsimp only [qSeq, qNext, qAsg, asgD, setAll, qRet, qRetN, qIfS, qDrop, qVar, qC, qOp, qT, qCB, qCons, qNil, qCall, qMeth, qMake, qFld, qSetF, qSetI, qAug, qTup, qLst, qIf, qAnd, qOr, qNot, qAndV, qOrV, qNotV, qCh, qSl, qPart, qNoPart, qBM, qBM0, qIsi, qDict0, qPar, qFin, qBreak, qLc, qFor, qiR1, qiR2, qYes, rII, rII0, subD, ltD, leD, gtD, geD, cmpD, fdivD, modD, powD, startD, List.map_cons, List.map_nil, List.length_cons, List.length_nil, List.replicate_succ, List.replicate_zero, List.cons_append, List.nil_append, List.append_nil, List.getElem?_cons_zero, List.getElem?_cons_succ, List.set_cons_zero, List.set_cons_succ, Nat.reduceAdd, Nat.reduceSub, Nat.reduceLT, Nat.reduceSubDiff, Nat.add_one_sub_one, wipeD, inD]
    refine len_str (sz (by omega)) ?_
    dsimp only []
    rw [hl]
    have fin : ∀ S', Sub S2 S' → i = j → (mulD (.int ((NumText.digitsVal ((l.drop m).take i) : Nat) : Int)) (.int (if (l.take m).count 45 % 2 = 1 then -1 else 1)) S' fun d S => Fg (Q d) S) := fun S' hS hij => by
      subst hij
      have hb := numL_bound hw
      rw [hl] at hb q
      unfold dgL at hb
      unfold numL sgL dgL at q
      rw [hM, hJ] at hb q
      refine ⟨?_, S2, hS, ?_⟩
      · split
        · exact wide_mul (a := 3000) (b := 3) hb (by decide) (by decide) (by decide) (by decide)
        · exact wide_mul (a := 3000) (b := 3) hb (by decide) (by decide) (by decide) (by decide)
      · split at q
        · rename_i hc
          rw [if_pos hc, Int.mul_neg, Int.mul_one]
          exact q
        · rename_i hc
          rw [if_neg hc, Int.mul_one]
          exact q
    have fin2 : i = j → (∀ p, S2 p = none → (modD (.int ((l.take m).count 45 : Nat)) (.int 2) (put S2 p (.lst [.int 1, .int (-1)])) fun e S => ixD (.ref p) e S fun e S => mulD (.int ((NumText.digitsVal ((l.drop m).take i) : Nat) : Int)) e S fun d S => Fg (Q d) S)) := fun hij p hp => by
      refine ⟨by omega, ?_⟩
      refine ix_lst (x := .int (if (l.take m).count 45 % 2 = 1 then -1 else 1)) put_same ?_ (fin _ (Sub.new hp) hij)
      rw [Int.fmod_eq_emod_of_nonneg _ (by decide)]
      have e : (((l.take m).count 45 : Nat) : Int) % 2 = (((l.take m).count 45 % 2 : Nat) : Int) := by omega
      rw [e, atI_n]
      rcases Nat.mod_two_eq_zero_or_one ((l.take m).count 45) with h | h
      · rw [h]; rfl
      · rw [h]; rfl
    by_cases hlt : m + i < l.length
    · rw [decide_eq_true (by omega)]
      refine ix_str (c := l[m + i]) (sz (by omega)) (by rw [hl, atI_n, List.getElem?_eq_getElem hlt]) ?_
      dsimp only []
      have hc : inS ⟨#[l[m + i]]⟩ ("0123456789" : Str) = isDg l[m + i] := congrFun inM_dg _
      have hd : (l.drop m)[i]? = some l[m + i] := by rw [List.getElem?_drop, List.getElem?_eq_getElem hlt]
      rw [hc]
      by_cases hij : i < j
      · have hdg : isDg l[m + i] = true := by
          refine aheadN_all isDg (l.drop m) _ ?_
          rw [hJ]
          exact List.mem_of_getElem? (i := i) (by rw [List.getElem?_take_of_lt hij]; exact hd)
        rw [hdg]
        have hdg2 : 48 ≤ l[m + i] ∧ l[m + i] ≤ 57 := by simpa [isDg] using hdg
        have htk : (l.drop m).take (i + 1) = (l.drop m).take i ++ [l[m + i]] := by
          rw [List.take_add_one, hd]
          rfl
        have hbd : ((NumText.digitsVal ((l.drop m).take i) : Nat) : Int).natAbs < 2 ^ 3000 := by
          have h1 := digitsVal_lt ((l.drop m).take i) fun c hc => by
            have h2 := aheadN_all isDg (l.drop m) c (by
              rw [hJ]
              exact List.take_subset_take_left _ hi hc)
            simpa [isDg] using h2
          have h2 : ((l.drop m).take i).length ≤ 600 := by
            rw [List.length_take, List.length_drop]
            omega
          rw [Int.natAbs_natCast]
          refine Nat.lt_of_lt_of_le h1 (Nat.le_trans (Nat.pow_le_pow_right (by decide) h2) ?_)
          rw [show 3000 = 5 * 600 from rfl, Nat.pow_mul]
          exact Nat.pow_le_pow_left (by decide) 600
        refine ⟨wide_mul (a := 3000) (b := 4) hbd (by decide) (by decide) (by decide) (by decide), ?_⟩
        refine ix_str (c := l[m + i]) (sz (by omega)) (by rw [hl, atI_n, List.getElem?_eq_getElem hlt]) ?_
        refine ⟨show (1 : Nat) ≤ 640 by decide, ?_⟩
        rw [intText_digits (x := ⟨#[l[m + i]]⟩) (fun c hc => by
          have : c = l[m + i] := List.mem_singleton.mp hc
          rw [this]; exact hdg2) (List.cons_ne_nil _ _) (show (1 : Nat) ≤ 4300 by decide)]
        refine hN (j - (i + 1)) _ _ (by omega) ⟨rfl, i + 1, rfl, hij, ?_⟩
        rw [htk, NumText.digitsVal_snoc]
        have e1 : digitsVal (({ cps := #[l[m + i]] } : Str).cps.toList) = l[m + i] - 48 := by
          show 0 * 10 + (l[m + i] - 48) = _
          omega
        rw [e1, show m + (i + 1) = m + i + 1 from rfl]
        simp only [Int.natCast_add, Int.natCast_mul, Int.cast_ofNat_Int]
      · have hij2 : i = j := by omega
        have hdg : isDg l[m + i] = false := aheadN_stop isDg (l.drop m) _ (by rw [hJ, ← hij2]; exact hd)
        rw [hdg]
        exact ⟨by rw [sizeLine_eq]; decide, fun p hp => fin2 hij2 p hp⟩
    · rw [decide_eq_false (by omega)]
      exact ⟨by rw [sizeLine_eq]; decide, fun p hp => fin2 (by omega) p hp⟩
  by_cases hlt : k < l.length
  · rw [decide_eq_true (by omega)]
    refine ix_str (c := l[k]) (sz (by omega)) (by rw [hl, atI_n, List.getElem?_eq_getElem hlt]) ?_
    dsimp only []
    have hc : inS ⟨#[l[k]]⟩ ("+-" : Str) = isSg l[k] := congrFun inM_sg _
    have hd : l[k]? = some l[k] := List.getElem?_eq_getElem hlt
    rw [hc]
    by_cases hkm : k < m
    · have hsg : isSg l[k] = true := by
        refine aheadN_all isSg l _ ?_
        rw [hM]
        exact List.mem_of_getElem? (i := k) (by rw [List.getElem?_take_of_lt hkm]; exact hd)
      rw [hsg]
      have htk : l.take (k + 1) = l.take k ++ [l[k]] := by
        rw [List.take_add_one, hd]
        rfl
      refine ix_str (c := l[k]) (sz (by omega)) (by rw [hl, atI_n, List.getElem?_eq_getElem hlt]) ?_
      dsimp only [eqD, intD, addD]
      rw [Bool.false_xor]
      refine hN (m - (k + 1)) _ _ (by omega) ⟨rfl, k + 1, rfl, hkm, ?_⟩
      rw [htk, List.count_append]
      have e2 : ((⟨#[l[k]]⟩ : Str) = ("-" : Str)) ↔ l[k] = 45 := by
        rw [show ("-" : Str) = ⟨#[45]⟩ from by decide +kernel]
        constructor
        · intro h
          have h1 : tlS ⟨#[l[k]]⟩ = tlS ⟨#[45]⟩ := by rw [h]
          exact (List.cons.inj h1).1
        · intro h
          rw [h]
      by_cases h45 : l[k] = 45
      · rw [decide_eq_true (e2.mpr h45), h45]
        simp
      · rw [decide_eq_false fun h => h45 (e2.mp h)]
        simp [h45]
    · have hkm2 : k = m := by omega
      have hsg : isSg l[k] = false := aheadN_stop isSg l _ (by rw [hM, ← hkm2]; exact hd)
      rw [hsg]
      subst hkm2
      exact second
  · rw [decide_eq_false (by omega)]
    have hkm2 : k = m := by omega
    subst hkm2
    exact second
/-! ### the law's own reading of pieces -/
theorem map_tlS_inj : ∀ {xs ys : List Str}, xs.map tlS = ys.map tlS → xs = ys
  | [], [], _ => rfl
  | [], _ :: _, h => by cases h
  | _ :: _, [], h => by cases h
  | x :: xs, y :: ys, h => by
    rw [List.map_cons, List.map_cons] at h
    injection h with h1 h2
    rw [tlS_ext h1, map_tlS_inj h2]
/-- the parts by lists of signs -/
def partsL (S L : List Nat) : List (List Nat) := if S = [] then [L] else TL.spl S 0 [] L
def restL (S acc L : List Nat) : List (List Nat) := if S = [] then [acc ++ L] else TL.spl S 0 acc L
theorem pieceS_of {one other : Str} {xs : List Str} (h : xs.map tlS = partsL (tlS other) (tlS one)) (n : Int) : (∀ i : Nat, i < xs.length → n = i + 1 → pieceS one other n = xs.getD i "") ∧ (¬ (1 ≤ n ∧ n ≤ xs.length) → pieceS one other n = "") := by
  unfold partsL at h
  by_cases e : other = ("" : Str)
  · have e0 : tlS other = [] := by rw [e]; rfl
    rw [if_pos e0] at h
    have hx : xs = [one] := map_tlS_inj h
    subst hx
    refine ⟨fun i hi hn => ?_, fun hn => ?_⟩
    · have : i = 0 := by simpa using hi
      subst this
      unfold pieceS
      rw [if_pos e, if_pos (by omega)]
      rfl
    · unfold pieceS
      rw [if_pos e, if_neg (by simp at hn; omega)]
  · have e0 := tl_ne e
    rw [if_neg e0, ← split_any one other e0] at h
    have hx : xs = Txt.split one other := map_tlS_inj h
    subst hx
    refine ⟨fun i hi hn => ?_, fun hn => ?_⟩
    · unfold pieceS
      rw [if_neg e, if_pos (by omega), show (n - 1).toNat = i by omega]
    · unfold pieceS
      rw [if_neg e, if_neg hn]
theorem restL_len {S : List Nat} : ∀ (n : Nat) (L acc : List Nat), L.length ≤ n → (restL S acc L).length ≤ L.length + 1 := by
  intro n
  induction n with
  | zero =>
    intro L acc h
    have : L = [] := List.length_eq_zero_iff.mp (by omega)
    subst this
    unfold restL
    split
    · simp
    · rw [TL.spl_nil]; simp
  | succ n ih =>
    intro L acc h
    unfold restL
    by_cases hS : S = []
    · rw [if_pos hS]; simp
    · rw [if_neg hS]
      cases L with
      | nil => rw [TL.spl_nil]; simp
      | cons c r =>
        rw [List.length_cons] at h
        cases hp : TL.pre S (c :: r) with
        | true =>
          have e1 : TL.spl S 0 acc (c :: r) = acc :: TL.spl S 0 [] ((c :: r).drop S.length) := by
            have := TL.spl_at (L := c :: r) (c := 0) (acc := acc) hS hp
            rw [List.drop_zero, Nat.zero_add] at this
            exact this
          have hl : 0 < S.length := List.length_pos_iff.mpr hS
          have hd : ((c :: r).drop S.length).length = (c :: r).length - S.length := List.length_drop
          rw [List.length_cons] at hd
          have := ih ((c :: r).drop S.length) [] (by omega)
          unfold restL at this
          rw [if_neg hS] at this
          rw [e1, List.length_cons, List.length_cons]
          omega
        | false =>
          rw [TL.spl_miss hp]
          have := ih r (acc ++ [c]) (by omega)
          unfold restL at this
          rw [if_neg hS] at this
          rw [List.length_cons]
          omega
def gPieceL : SpD := fun ds S Q _ => ∃ one other n, ds = [.str one, .str other, .int n] ∧ one.length ≤ 1000 ∧ other.length ≤ 1000 ∧ Q (.str (pieceS one other n)) S
theorem p__law_piece : Kp N__law_piece gPieceL b__law_piece := by
  rintro ds S Q E ⟨one, other, n, rfl, h1, h2, q⟩
  show b__law_piece _ _ [some (.str one), some (.str other), some (.int n), none, none, none] S
  dsimp only [b__law_piece, qSeq, qNext, qAsg, asgD, setAll, qRet, qRetN, qIfS, qDrop, qVar, qC, qOp, qT, qCB, qCons, qNil, qCall, qMeth, qMake, qFld, qSetF, qSetI, qAug, qTup, qLst, qIf, qAnd, qOr, qNot, qAndV, qOrV, qNotV, qCh, qSl, qPart, qNoPart, qBM, qBM0, qIsi, qDict0, qPar, qFin, qBreak, qLc, qFor, qiR1, qiR2, qYes, rII, rII0, subD, ltD, leD, gtD, geD, cmpD, fdivD, modD, powD, startD, List.map_cons, List.map_nil, List.length_cons, List.length_nil, List.replicate_succ, List.replicate_zero, List.cons_append, List.nil_append, List.append_nil, List.getElem?_cons_zero, List.getElem?_cons_succ, List.set_cons_zero, List.set_cons_succ, Nat.reduceAdd, Nat.reduceSub, Nat.reduceLT, Nat.reduceSubDiff, Nat.add_one_sub_one, wipeD]
  refine ⟨by rw [sizeLine_eq]; decide, fun p hp => ?_⟩
  have hl1 : one.length = (tlS one).length := len_tl one
  have hl2 : other.length = (tlS other).length := len_tl other
  refine while_ok (fun m ρ S1 => ∃ (k : Nat) (here : Str) (fnd : List Str), m = (tlS one).length - k ∧ k ≤ (tlS one).length ∧ (tlS here).length ≤ k ∧ ρ = [some (.str one), some (.str other), some (.int n), some (.ref p), some (.str here), some (.int k)] ∧ S1 = put S p (.lst (fnd.map D.str)) ∧
    fnd.length ≤ k ∧ fnd.map tlS ++ restL (tlS other) (tlS here) ((tlS one).drop k) = partsL (tlS other) (tlS one)) ?_ (m := (tlS one).length) ⟨0, "", [], rfl, Nat.zero_le _, Nat.le_refl _, rfl, rfl, Nat.le_refl _, rfl⟩
  rintro m N hN ρ S1 ⟨k, here, fnd, rfl, hk, hh, rfl, rfl, hf, hP⟩
  dsimp only [qSeq, qNext, qAsg, asgD, setAll, qRet, qRetN, qIfS, qDrop, qVar, qC, qOp, qT, qCB, qCons, qNil, qCall, qMeth, qMake, qFld, qSetF, qSetI, qAug, qTup, qLst, qIf, qAnd, qOr, qNot, qAndV, qOrV, qNotV, qCh, qSl, qPart, qNoPart, qBM, qBM0, qIsi, qDict0, qPar, qFin, qBreak, qLc, qFor, qiR1, qiR2, qYes, rII, rII0, subD, ltD, leD, gtD, geD, cmpD, fdivD, modD, powD, startD, List.map_cons, List.map_nil, List.length_cons, List.length_nil, List.replicate_succ, List.replicate_zero, List.cons_append, List.nil_append, List.append_nil, List.getElem?_cons_zero, List.getElem?_cons_succ, List.set_cons_zero, List.set_cons_succ, Nat.reduceAdd, Nat.reduceSub, Nat.reduceLT, Nat.reduceSubDiff, Nat.add_one_sub_one, wipeD]
  refine len_str (sz (by omega)) ?_
  dsimp only []
  by_cases hlt : k < (tlS one).length
  · rw [decide_eq_true (by omega)]
    dsimp only [eqD]
    rw [Bool.true_xor]
    have miss : ((tlS other) = [] ∨ TL.pre (tlS other) ((tlS one).drop k) = false) → ixD (.str one) (.int k) (put S p (.lst (fnd.map D.str))) (fun d S1 => addD (.str here) d S1 fun d S1 => addD (.int k) (.int 1) S1 fun d_1 S1 => N [some (.str one), some (.str other), some (.int n), some (.ref p), some d, some d_1] S1) := fun hm => by
      refine ix_str (c := (tlS one)[k]) (sz (by omega)) (by rw [atI_n, List.getElem?_eq_getElem hlt]) ⟨?_, ?_⟩
      · show here.length + 1 ≤ sizeLine
        rw [len_tl]
        exact sz (by omega)
      · refine hN ((tlS one).length - (k + 1)) _ _ (by omega) ⟨k + 1, here ++ ⟨#[(tlS one)[k]]⟩, fnd, rfl, hlt, ?_, rfl, rfl, by omega, ?_⟩
        · rw [tlS_app, List.length_append]
          show _ + 1 ≤ k + 1
          omega
        · rw [← hP, List.drop_eq_getElem_cons hlt, tlS_app, tlS_one]
          unfold restL
          by_cases e0 : tlS other = []
          · rw [if_pos e0, if_pos e0, List.append_assoc]; rfl
          · rw [if_neg e0, if_neg e0]
            rcases hm with hm | hm
            · exact absurd hm e0
            · rw [List.drop_eq_getElem_cons hlt] at hm
              rw [TL.spl_miss hm]
    by_cases e : other = ("" : Str)
    · rw [decide_eq_true e]
      have e0 : tlS other = [] := by rw [e]; rfl
      exact miss (.inl e0)
    · rw [decide_eq_false e]
      have e0 := tl_ne e
      show lenD [.str other] _ _
      refine len_str (sz (by omega)) ?_
      dsimp only [slD]
      refine ⟨sz (by omega), ?_⟩
      rw [Bool.false_xor]
      have hcut : tlS (cutS one (some (k : Int)) (some ((k : Int) + ((tlS other).length : Int)))) = ((tlS one).drop k).take (tlS other).length := by
        rw [tlS_cut, ← Int.natCast_add, cutL_nat, Nat.add_sub_cancel_left]
      cases hp2 : TL.pre (tlS other) ((tlS one).drop k) with
      | true =>
        have hle : k + (tlS other).length ≤ (tlS one).length := by
          have := congrArg List.length (pre_take hp2)
          rw [List.length_take, List.length_drop] at this
          omega
        have hlo : 0 < (tlS other).length := List.length_pos_iff.mpr e0
        rw [decide_eq_true (tlS_ext (hcut.trans (pre_take hp2)))]
        refine ⟨ty_lst put_same, app_at put_same (by rw [List.length_map]; exact Nat.lt_of_le_of_lt (show fnd.length ≤ 1000 by omega) (by rw [sizeLine_eq]; decide)) ?_⟩
        rw [put_put]
        refine len_str (sz (by omega)) ?_
        refine hN ((tlS one).length - (k + (tlS other).length)) _ _ (by omega) ⟨k + (tlS other).length, "", fnd ++ [here], rfl, hle, Nat.zero_le _, by rw [Int.natCast_add], by rw [List.map_append]; rfl, by rw [List.length_append, List.length_singleton]; omega, ?_⟩
        rw [← hP, List.map_append, List.append_assoc]
        unfold restL
        rw [if_neg e0, if_neg e0, TL.spl_at e0 hp2]
        rfl
      | false =>
        rw [decide_eq_false]
        · exact miss (.inr hp2)
        · intro z
          have hz : ((tlS one).drop k).take (tlS other).length = tlS other := by rw [← hcut, z]
          unfold TL.pre at hp2
          rw [hz] at hp2
          simp at hp2
  · rw [decide_eq_false (by omega)]
    have hk2 : k = (tlS one).length := by omega
    dsimp only []
    refine ⟨ty_lst put_same, app_at put_same (by rw [List.length_map]; exact Nat.lt_of_le_of_lt (show fnd.length ≤ 1000 by omega) (by rw [sizeLine_eq]; decide)) ?_⟩
    rw [put_put]
    have hx : (fnd ++ [here]).map tlS = partsL (tlS other) (tlS one) := by
      rw [← hP, hk2, List.drop_length, List.map_append]
      unfold restL
      split
      · rw [List.append_nil]; rfl
      · rw [TL.spl_nil]; rfl
    have hm : List.map D.str fnd ++ [D.str here] = (fnd ++ [here]).map D.str := by rw [List.map_append]; rfl
    rw [hm]
    have hlen : (fnd ++ [here]).length ≤ 2000 := by rw [List.length_append, List.length_singleton]; omega
    generalize fnd ++ [here] = xs at hx hlen
    obtain ⟨hy, hz⟩ := pieceS_of hx n
    by_cases h1 : 1 ≤ n
    · rw [decide_eq_true h1]
      refine len_lst put_same ?_
      dsimp only []
      rw [List.length_map]
      by_cases h2 : n ≤ xs.length
      · rw [decide_eq_true h2]
        have hi : (n - 1).toNat < xs.length := by omega
        have hn : n - 1 = ((n - 1).toNat : Int) := by omega
        refine ix_lst (x := .str (xs.getD (n - 1).toNat "")) put_same (by rw [hn, atI_n, List.getElem?_map, Int.toNat_natCast, List.getD_eq_getElem?_getD, List.getElem?_eq_getElem hi]; rfl) ?_
        rw [hy _ hi (by omega)] at q
        exact ⟨S, Sub.new hp, q⟩
      · rw [decide_eq_false h2]
        rw [hz (by omega)] at q
        exact ⟨S, Sub.new hp, q⟩
    · rw [decide_eq_false h1]
      rw [hz (by omega)] at q
      exact ⟨S, Sub.new hp, q⟩
/-! ### the law's looks -/
theorem numL_text (n : Nat) : numL (tlS (Str.ofString (toString ((n : Nat) : Int)))) = n := by
  have e : tlS (Str.ofString (toString ((n : Nat) : Int))) = TL.numL n := TL.tl_num n
  rw [e]
  have hd := TL.numL_digits n
  have hne := TL.numL_ne n
  have hv := TL.numL_val n
  generalize TL.numL n = l at hd hne hv
  cases l with
  | nil => exact absurd rfl hne
  | cons c r =>
    have hc := hd c List.mem_cons_self
    have h0 : aheadN isSg (c :: r) = 0 := by
      rw [aheadN_cons, if_neg]
      unfold isSg
      simp
      omega
    have hall : ∀ l : List Nat, (∀ d ∈ l, 48 ≤ d ∧ d ≤ 57) → aheadN isDg l = l.length := by
      intro l
      induction l with
      | nil => intro _; rfl
      | cons d l ih =>
        intro h
        rw [aheadN_cons, if_pos, ih fun x hx => h x (List.mem_cons_of_mem _ hx), List.length_cons]
        have := h d List.mem_cons_self
        unfold isDg
        simpa using this
    unfold numL sgL dgL
    rw [h0, List.take_zero, List.drop_zero, hall _ hd, List.take_length, hv]
    rfl
/-- the k-th piece, "" behind the end -/
def pcs (one other : Str) (k : Nat) : Str := pieceS one other ((k : Int) + 1)
theorem pcs_in {one other : Str} (h : other ≠ ("" : Str)) {k : Nat} (hk : k < (Txt.split one other).length) : pcs one other k = (Txt.split one other).getD k "" := by
  unfold pcs pieceS
  rw [if_neg h, if_pos (by omega), show ((k : Int) + 1 - 1).toNat = k by omega]
theorem pcs_out {one other : Str} (h : other ≠ ("" : Str)) {k : Nat} (hk : (Txt.split one other).length ≤ k) : pcs one other k = "" := by
  unfold pcs pieceS
  rw [if_neg h, if_neg (by omega)]
theorem pcs_free {one other : Str} (h : other ≠ ("" : Str)) (k : Nat) : inS other (pcs one other k) = false := by
  have hy := tl_ne h
  refine inS_false hy fun j => ?_
  by_cases hk : k < (Txt.split one other).length
  · rw [pcs_in h hk, List.getD_eq_getElem?_getD, List.getElem?_eq_getElem hk]
    obtain ⟨h1, _⟩ := spl_spec hy (tlS one).length (tlS one) [] (Nat.le_refl _) (fun k hk => by simp at hk)
    rw [← split_any one other hy] at h1
    exact h1 _ (List.mem_map_of_mem (List.getElem_mem hk)) j
  · rw [pcs_out h (by omega)]
    show TL.pre (tlS other) ([].drop j) = false
    rw [List.drop_nil]
    exact TL.pre_nil hy
theorem pcs_list {one other : Str} (h : other ≠ ("" : Str)) (m : Nat) (hm : (Txt.split one other).length ≤ m) : (List.range m).map (pcs one other) = Txt.split one other ++ List.replicate (m - (Txt.split one other).length) ("" : Str) := by
  refine List.ext_getElem? fun i => ?_
  rw [List.getElem?_map]
  by_cases hi : i < m
  · rw [List.getElem?_range hi]
    by_cases h2 : i < (Txt.split one other).length
    · rw [List.getElem?_append_left h2, List.getElem?_eq_getElem h2]
      show some (pcs one other i) = _
      rw [pcs_in h h2, List.getD_eq_getElem?_getD, List.getElem?_eq_getElem h2]
      rfl
    · rw [List.getElem?_append_right (by omega), List.getElem?_replicate, if_pos (by omega)]
      show some (pcs one other i) = _
      rw [pcs_out h (by omega)]
  · rw [List.getElem?_eq_none (by simp; omega), List.getElem?_eq_none (by simp; omega)]
    rfl
theorem split_join_back {one other : Str} (h : other ≠ ("" : Str)) : Txt.join other (Txt.split one other) = one := by
  have hy := tl_ne h
  obtain ⟨_, h2, _⟩ := spl_spec hy (tlS one).length (tlS one) [] (Nat.le_refl _) (fun k hk => by simp at hk)
  rw [← split_any one other hy, List.nil_append] at h2
  rw [TL.join_eq]
  refine tlS_ext ?_
  show TL.tl (Str.join other (Txt.split one other)) = _
  rw [TL.tl_join]
  exact h2
theorem split_few {one other : Str} (h : other ≠ ("" : Str)) : (Txt.split one other).length ≤ one.length + 1 := by
  have hy := tl_ne h
  have h1 := restL_len (S := tlS other) (tlS one).length (tlS one) [] (Nat.le_refl _)
  unfold restL at h1
  rw [if_neg hy, ← split_any one other hy, List.length_map, ← len_tl] at h1
  exact h1
theorem shaped_strs (n : Nat) : SeqAt.shaped (.list ((List.replicate n ("" : Str)).map PyData.str)) = true := by
  have h1 : ∀ n, PyData.canLayAll0 ((List.replicate n ("" : Str)).map PyData.str) = true := by
    intro n
    induction n with
    | zero => rfl
    | succ n ih => rw [List.replicate_succ, List.map_cons]; simp only [PyData.canLayAll0, ih, Bool.and_true]; decide +kernel
  have h2 : ∀ n, PyData.depthAll ((List.replicate n ("" : Str)).map PyData.str) = 0 := by
    intro n
    induction n with
    | zero => rfl
    | succ n ih => rw [List.replicate_succ, List.map_cons]; simp only [PyData.depthAll, ih]; rfl
  unfold SeqAt.shaped
  simp only [PyData.canLay0, PyData.depth, h1, h2]
  rfl
theorem pds_strs {S : Sto} : ∀ ys : List Str, Pds S (ys.map D.str) (ys.map PyData.str)
  | [] => .nil
  | y :: ys => .cons (.str y) (pds_strs ys)
theorem eq_strs {S : Sto} {a b : Addr} {n : Nat} {Q : QK} (ha : S a = some (.lst ((List.replicate n ("" : Str)).map D.str))) (hb : S b = some (.lst ((List.replicate n ("" : Str)).map D.str))) (q : Q (.bl true) S) : eqD false (.ref a) (.ref b) S Q := by
  refine ⟨_, _, .lst ha (pds_strs _), .lst hb (pds_strs _), shaped_strs n, shaped_strs n, ?_⟩
  rw [SeqAt.eqv_refl _ (SeqAt.canLay_of_shaped (shaped_strs n))]
  exact q
def gRight (K : PySem.W.Frag) : SpD := fun ds S Q _ => ∃ sc one other nth o d l, ds = [.ref sc, .str one, .str other, .str nth] ∧ S sc = some (.ins (CS K) (sceneF o d l)) ∧ one.length ≤ 500 ∧ other.length ≤ 500 ∧ nth.length ≤ 500 ∧ Q (.bl true) S
theorem xword {w : Str} {zs : List Str} {r : Str} {S : Sto} {K : PySem.W.Frag} {sc : Addr} {o d l : D} {Q : QK} {E : XD} (hs : S sc = some (.ins (CS K) (sceneF o d l))) (h : Word w (zs.map D.str) r) (q : Q (.str r) S) : gRec K (.ref sc :: ([.tup (.str w :: zs.map isX)] ++ [])) S Q E :=
  ⟨sc, _, r, o, d, l, rfl, hs, .word h, q⟩
theorem p__law_pieces_right (K : PySem.W.Frag) : Kp N__law_pieces_right (gRight K) (b__law_pieces_right K gPieceL gNum (gRec K)) := by
  rintro ds S Q E ⟨sc, one, other, nth, o, d, l, rfl, hs, h1, h2, h3, q⟩
  show b__law_pieces_right K _ _ _ _ _ [some (.ref sc), some (.str one), some (.str other), some (.str nth), none, none, none, none, none] S
  dsimp only [b__law_pieces_right, qSeq, qNext, qAsg, asgD, setAll, qRet, qRetN, qIfS, qDrop, qVar, qC, qOp, qT, qCB, qCons, qNil, qCall, qMeth, qMake, qFld, qSetF, qSetI, qAug, qTup, qLst, qIf, qAnd, qOr, qNot, qAndV, qOrV, qNotV, qCh, qSl, qPart, qNoPart, qBM, qBM0, qIsi, qDict0, qPar, qFin, qBreak, qLc, qFor, qiR1, qiR2, qYes, rII, rII0, subD, ltD, leD, gtD, geD, cmpD, fdivD, modD, powD, startD, List.map_cons, List.map_nil, List.length_cons, List.length_nil, List.replicate_succ, List.replicate_zero, List.cons_append, List.nil_append, List.append_nil, List.getElem?_cons_zero, List.getElem?_cons_succ, List.set_cons_zero, List.set_cons_succ, Nat.reduceAdd, Nat.reduceSub, Nat.reduceLT, Nat.reduceSubDiff, Nat.add_one_sub_one, wipeD]
  refine ⟨nth, rfl, by omega, one, other, _, rfl, by omega, by omega, ?_⟩
  dsimp only []
  refine insOf_at hs ⟨rfl, sceneF_no o d l, ?_⟩
  have z2 : 2 ≤ sizeLine := by rw [sizeLine_eq]; decide
  have z4 : 4 ≤ sizeLine := by rw [sizeLine_eq]; decide
  refine ⟨z2, z2, z2, z4, xword (zs := [one, other, nth]) hs (.piece h1 h2 h3) ?_⟩
  dsimp only [eqD]
  rw [decide_eq_true rfl, Bool.true_xor, Bool.false_xor]
  by_cases e : other = ("" : Str)
  · rw [decide_eq_true e]
    exact Fg.here q
  · rw [decide_eq_false e]
    refine ⟨Nat.zero_le _, fun p hp => ?_⟩
    have hp1 : (put S p (.lst [])) sc = some (.ins (CS K) (sceneF o d l)) := (put_ne (st_ne hs hp)).trans hs
    have hl1 := len_tl one
    have hl2 := len_tl other
    refine len_str (sz (by omega)) ⟨by omega, by omega, ?_⟩
    rw [show (((tlS one).length : Int) + 1).toNat = (tlS one).length + 1 by omega]
    refine forR_ok (fun _ => trivial) _ (fun i ρ S1 => i ≤ (tlS one).length + 1 ∧ (∃ x6 x7 x8, ρ = [some (.ref sc), some (.str one), some (.str other), some (.str nth), some (.str (pieceS one other (numL (tlS nth)))), some (.ref p), x6, x7, x8]) ∧ S1 = put S p (.lst (((List.range i).map (pcs one other)).map D.str))) ?_ ?_ ⟨Nat.zero_le _, ⟨_, _, _, rfl⟩, rfl⟩
    · rintro ρ S1 ⟨_, ⟨x6, x7, x8, rfl⟩, rfl⟩
      dsimp only [qSeq, qNext, qAsg, asgD, setAll, qRet, qRetN, qIfS, qDrop, qVar, qC, qOp, qT, qCB, qCons, qNil, qCall, qMeth, qMake, qFld, qSetF, qSetI, qAug, qTup, qLst, qIf, qAnd, qOr, qNot, qAndV, qOrV, qNotV, qCh, qSl, qPart, qNoPart, qBM, qBM0, qIsi, qDict0, qPar, qFin, qBreak, qLc, qFor, qiR1, qiR2, qYes, rII, rII0, subD, ltD, leD, gtD, geD, cmpD, fdivD, modD, powD, startD, List.map_cons, List.map_nil, List.length_cons, List.length_nil, List.replicate_succ, List.replicate_zero, List.cons_append, List.nil_append, List.append_nil, List.getElem?_cons_zero, List.getElem?_cons_succ, List.set_cons_zero, List.set_cons_succ, Nat.reduceAdd, Nat.reduceSub, Nat.reduceLT, Nat.reduceSubDiff, Nat.add_one_sub_one, wipeD, qiL]
      refine len_str (sz (by omega)) ?_
      rw [items_lst put_same]
      intro p1 hp1
      have hpp : p ≠ p1 := st_ne put_same hp1
      have hp1S : S p1 = none := by rwa [put_ne (Ne.symm hpp)] at hp1
      have hfew := split_few (one := one) e
      obtain ⟨hsum, hne⟩ := split_sum one other e
      have hk0 : 0 < (Txt.split one other).length := List.length_pos_iff.mpr hne
      have hm0 : 0 < other.length := by
        have := List.length_pos_iff.mpr (tl_ne e)
        omega
      have hback := split_join_back (one := one) e
      rw [pcs_list e _ (by omega)]
      generalize hX : Txt.split one other = X at hfew hsum hk0 hback
      have hmem : ∀ z ∈ X ++ List.replicate ((tlS one).length + 1 - X.length) ("" : Str), z.length ≤ 500 := fun z hz => by
        rcases List.mem_append.mp hz with hz | hz
        · have := sum_mem hz
          omega
        · rw [(List.mem_replicate.mp hz).2]
          exact Nat.zero_le _
      have hlen : (X ++ List.replicate ((tlS one).length + 1 - X.length) ("" : Str)).length = (tlS one).length + 1 := by
        rw [List.length_append, List.length_replicate]
        omega
      have htot : ((X ++ List.replicate ((tlS one).length + 1 - X.length) ("" : Str)).map fun z => ((tlS z).length : Int)).sum = ((X.map (·.length)).sum : Nat) := by
        rw [List.map_append, List.sum_append, List.map_replicate]
        have h1 : ∀ n : Nat, (List.replicate n (((tlS ("" : Str)).length : Nat) : Int)).sum = 0 := by
          intro n
          induction n with
          | zero => rfl
          | succ n ih => rw [List.replicate_succ, List.sum_cons, ih]; rfl
        have h2 : ∀ Y : List Str, (Y.map fun z => ((tlS z).length : Int)).sum = ((Y.map (·.length)).sum : Nat) := by
          intro Y
          induction Y with
          | nil => rfl
          | cons y Y ih => rw [List.map_cons, List.sum_cons, ih, List.map_cons, List.sum_cons, len_tl, Int.natCast_add]
        rw [h1, h2, Int.add_zero]
      generalize hY : X ++ List.replicate ((tlS one).length + 1 - X.length) ("" : Str) = Y at hmem hlen htot
      refine lc_map (g := fun d => match d with
        | .str z => .int ((tlS z).length : Int)
        | d => d) (Y.map D.str) (sz (by rw [List.length_map]; omega)) (fun acc => items_lst ((put_ne hpp).trans put_same)) ?_ ?_
      · intro x hx acc Q' q'
        obtain ⟨z, hz, rfl⟩ := List.mem_map.mp hx
        have := hmem z hz
        dsimp only [qSeq, qNext, qAsg, asgD, setAll, qRet, qRetN, qIfS, qDrop, qVar, qC, qOp, qT, qCB, qCons, qNil, qCall, qMeth, qMake, qFld, qSetF, qSetI, qAug, qTup, qLst, qIf, qAnd, qOr, qNot, qAndV, qOrV, qNotV, qCh, qSl, qPart, qNoPart, qBM, qBM0, qIsi, qDict0, qPar, qFin, qBreak, qLc, qFor, qiR1, qiR2, qYes, rII, rII0, subD, ltD, leD, gtD, geD, cmpD, fdivD, modD, powD, startD, List.map_cons, List.map_nil, List.length_cons, List.length_nil, List.replicate_succ, List.replicate_zero, List.cons_append, List.nil_append, List.append_nil, List.getElem?_cons_zero, List.getElem?_cons_succ, List.set_cons_zero, List.set_cons_succ, Nat.reduceAdd, Nat.reduceSub, Nat.reduceLT, Nat.reduceSubDiff, Nat.add_one_sub_one, wipeD]
        exact len_str (sz (by omega)) q'
      · refine sum_ok (ns := Y.map fun z => ((tlS z).length : Int)) put_same (by rw [List.map_map, List.map_map]; rfl) ?_
        rw [htot]
        dsimp only []
        refine len_str (sz (by omega)) ?_
        dsimp only []
        refine ⟨CFd.of (by omega) (Int.lt_of_le_of_lt (show ((tlS other).length : Int) ≤ 500 by omega) (by decide)), ?_⟩
        have hdiv : (((tlS one).length : Int) - (((X.map (·.length)).sum : Nat) : Int)).fdiv ((tlS other).length : Int) = (X.length : Int) - 1 := by
          have h1 : ((tlS one).length : Int) - (((X.map (·.length)).sum : Nat) : Int) = ((X.length : Int) - 1) * ((tlS other).length : Int) := by
            obtain ⟨j, hj⟩ : ∃ j, X.length = j + 1 := ⟨X.length - 1, by omega⟩
            rw [hj] at hsum ⊢
            rw [Nat.add_sub_cancel] at hsum
            rw [show (((j + 1 : Nat) : Int) - 1) = (j : Int) by omega, ← hl2, ← hl1, ← hsum]
            simp only [Int.natCast_add, Int.natCast_mul]
            omega
          rw [h1]
          exact Int.mul_fdiv_cancel _ (by omega)
        rw [hdiv]
        show tyD "str" _ _ ∧ _
        refine ⟨rfl, ?_⟩
        rw [show (1 : Int) + ((X.length : Int) - 1) = (X.length : Int) by omega]
        refine sl_lst ((put_ne hpp).trans put_same) fun p2 hp2 => ?_
        have hpp2 : p ≠ p2 := st_ne ((put_ne hpp).trans put_same) hp2
        have htake : cutL (Y.map D.str) none (some (X.length : Int)) = X.map D.str := by
          rw [cutL_to, ← List.map_take, ← hY, List.take_left]
        have hdrop : cutL (Y.map D.str) (some (X.length : Int)) none = (List.replicate ((tlS one).length + 1 - X.length) ("" : Str)).map D.str := by
          rw [cutL_from, ← List.map_drop, ← hY, List.drop_left]
        rw [htake]
        refine join_ok (items_lst put_same) (strsOf_map X) ?_ ?_
        · obtain ⟨j, hj⟩ : ∃ j, X.length = j + 1 := ⟨X.length - 1, by omega⟩
          rw [hj] at hsum ⊢
          rw [Nat.add_sub_cancel] at hsum
          rw [Nat.add_mul, Nat.one_mul]
          omega
        · rw [hback]
          show (match D.bl (false ^^ decide (one = one)) with | .bl true => _ | .bl false => _ | _ => False)
          rw [decide_eq_true rfl, Bool.false_xor]
          refine sl_lst ((put_ne hpp2).trans ((put_ne hpp).trans put_same)) fun p3 hp3 => ?_
          have hpp3 : p ≠ p3 := st_ne ((put_ne hpp2).trans ((put_ne hpp).trans put_same)) hp3
          refine ⟨by rw [sizeLine_eq]; decide, fun p4 hp4 => ?_⟩
          have hpp4 : p ≠ p4 := st_ne ((put_ne hpp3).trans ((put_ne hpp2).trans ((put_ne hpp).trans put_same))) hp4
          have h34 : p3 ≠ p4 := st_ne put_same hp4
          refine len_lst ((put_ne hpp4).trans ((put_ne hpp3).trans ((put_ne hpp2).trans ((put_ne hpp).trans put_same)))) ?_
          dsimp only []
          rw [List.length_map, hlen]
          refine mul_lst put_same ⟨by omega, by omega, by rw [sizeLine_eq]; show 1 * _ ≤ _; omega⟩ fun p5 hp5 => ?_
          have h35 : p3 ≠ p5 := st_ne ((put_ne h34).trans put_same) hp5
          refine eq_strs (n := (tlS one).length + 1 - X.length) ((put_ne h35).trans ((put_ne h34).trans (put_same.trans (by rw [hdrop])))) (put_same.trans ?_) ?_
          · rw [show (((((tlS one).length + 1 : Nat) : Int) - (X.length : Int)).toNat) = (tlS one).length + 1 - X.length by omega]
            congr 2
            rw [List.map_replicate]
            generalize (tlS one).length + 1 - X.length = n
            induction n with
            | zero => rfl
            | succ n ih => rw [List.replicate_succ, List.flatten_cons, ih, List.replicate_succ]; rfl
          · exact ⟨S, (((((Sub.new hp).grow ((put_ne (Ne.symm hpp)).trans hp1S)).grow hp2).grow hp3).grow hp4).grow hp5, q⟩
    · rintro i hi N hN ρ S1 ⟨hi2, ⟨x6, x7, x8, rfl⟩, rfl⟩
      rw [Int.zero_add]
      have hs1 : (put S p (.lst (((List.range i).map (pcs one other)).map D.str))) sc = some (.ins (CS K) (sceneF o d l)) := (put_ne (st_ne hs hp)).trans hs
      dsimp only [qSeq, qNext, qAsg, asgD, setAll, qRet, qRetN, qIfS, qDrop, qVar, qC, qOp, qT, qCB, qCons, qNil, qCall, qMeth, qMake, qFld, qSetF, qSetI, qAug, qTup, qLst, qIf, qAnd, qOr, qNot, qAndV, qOrV, qNotV, qCh, qSl, qPart, qNoPart, qBM, qBM0, qIsi, qDict0, qPar, qFin, qBreak, qLc, qFor, qiR1, qiR2, qYes, rII, rII0, subD, ltD, leD, gtD, geD, cmpD, fdivD, modD, powD, startD, List.map_cons, List.map_nil, List.length_cons, List.length_nil, List.replicate_succ, List.replicate_zero, List.cons_append, List.nil_append, List.append_nil, List.getElem?_cons_zero, List.getElem?_cons_succ, List.set_cons_zero, List.set_cons_succ, Nat.reduceAdd, Nat.reduceSub, Nat.reduceLT, Nat.reduceSubDiff, Nat.add_one_sub_one, wipeD]
      refine insOf_at hs1 ⟨rfl, sceneF_no o d l, ?_⟩
      have hbig : ((i : Int) + 1).natAbs < 10 ^ 20 := by
        have e1 : (10 : Nat) ^ 20 = 100000000000000000000 := by decide
        omega
      obtain ⟨t1, t2⟩ := small_text hbig
      refine ⟨z2, z2, t1, z2, z4, xword (zs := [one, other, Str.ofString (toString ((i : Int) + 1))]) hs1 (.piece h1 h2 (by omega)) ?_⟩
      rw [show (i : Int) + 1 = ((i + 1 : Nat) : Int) by omega, numL_text]
      dsimp only [kindD, isK, inD]
      rw [show pieceS one other ((i + 1 : Nat) : Int) = pcs one other i by unfold pcs; rw [Int.natCast_add]; rfl]
      rw [pcs_free e i]
      show tyD "list" _ _ ∧ appendD _ _ _ _
      refine ⟨ty_lst put_same, app_at put_same (by rw [List.length_map, List.length_map, List.length_range]; exact Nat.lt_of_le_of_lt (show i ≤ 1000 by omega) (by rw [sizeLine_eq]; decide)) ?_⟩
      rw [put_put]
      refine hN _ _ ⟨by omega, ⟨_, _, _, rfl⟩, ?_⟩
      rw [List.range_succ, List.map_append, List.map_append]
      rfl
theorem range_cut (L : List Nat) (lo hi : Nat) : ∀ n, n ≤ L.length → ((List.range n).filter fun k => decide (lo ≤ k) && decide (k < hi)).map (fun k => L.getD k 0) = ((L.take n).drop lo).take (hi - lo) := by
  intro n
  induction n with
  | zero => intro _; simp
  | succ n ih =>
    intro hn
    have hn2 : n < L.length := by omega
    rw [List.range_succ, List.filter_append, List.map_append, ih (by omega), List.take_add_one, List.getElem?_eq_getElem hn2]
    have hl : (L.take n).length = n := by rw [List.length_take]; omega
    have hg : L.getD n 0 = L[n] := by rw [List.getD_eq_getElem?_getD, List.getElem?_eq_getElem hn2]; rfl
    by_cases h1 : lo ≤ n
    · rw [show Option.toList (some L[n]) = [L[n]] from rfl, List.drop_append_of_le_length (by omega)]
      have hd : ((L.take n).drop lo).length = n - lo := by rw [List.length_drop, hl]
      by_cases h2 : n < hi
      · rw [List.filter_cons_of_pos (by simp [h1, h2]), List.filter_nil, List.map_cons, List.map_nil, hg]
        rw [List.take_of_length_le (show ((L.take n).drop lo).length ≤ hi - lo by omega), List.take_of_length_le (show ((L.take n).drop lo ++ [L[n]]).length ≤ hi - lo by rw [List.length_append, hd, List.length_singleton]; omega)]
      · rw [List.filter_cons_of_neg (by simp [h2]), List.filter_nil, List.map_nil, List.append_nil, List.take_append_of_le_length (by omega)]
    · rw [List.filter_cons_of_neg (by simp [h1]), List.filter_nil, List.map_nil, List.append_nil]
      rw [List.drop_of_length_le (by omega), List.drop_of_length_le (by rw [List.length_append, hl]; simp; omega)]
theorem partS_tl (one : Str) (b e : Int) : tlS (partS one b e) = ((tlS one).drop (max 1 b - 1).toNat).take (e.toNat - (max 1 b - 1).toNat) := by
  unfold partS
  by_cases h : max 1 b ≤ e
  · rw [if_pos h, tlS_cut]
    have h1 : max 1 b - 1 = ((max 1 b - 1).toNat : Int) := by omega
    have h2 : e = (e.toNat : Int) := by omega
    rw [h1, h2, cutL_nat]
    simp only [Int.toNat_natCast]
  · rw [if_neg h, show e.toNat - (max 1 b - 1).toNat = 0 by omega, List.take_zero]
    rfl
theorem join_chars (cs : List Nat) : tlS (Txt.join ("" : Str) (cs.map fun c => (⟨#[c]⟩ : Str))) = cs := by
  rw [TL.join_eq]
  show TL.tl (Str.join "" _) = _
  rw [TL.tl_join, show TL.tl ("" : Str) = [] from rfl, List.map_map]
  have key : ∀ cs : List Nat, TL.joinL [] (cs.map fun c => [c]) = cs := by
    intro cs
    induction cs with
    | nil => rfl
    | cons c cs ih =>
      cases cs with
      | nil => rfl
      | cons d cs =>
        have e : TL.joinL [] (List.map (fun c => [c]) (c :: d :: cs)) = [c] ++ ([] ++ TL.joinL [] (List.map (fun c => [c]) (d :: cs))) := rfl
        rw [e, ih]
        rfl
  exact key cs
theorem sum_ones (cs : List Nat) : (cs.map ((fun z : Str => z.length) ∘ fun c => (⟨#[c]⟩ : Str))).sum = cs.length := by
  induction cs with
  | nil => rfl
  | cons c cs ih =>
    rw [List.map_cons, List.sum_cons, ih, List.length_cons]
    show 1 + cs.length = _
    omega
def gPartR (K : PySem.W.Frag) : SpD := fun ds S Q _ => ∃ sc one a b o d l, ds = [.ref sc, .str one, .str a, .str b] ∧ S sc = some (.ins (CS K) (sceneF o d l)) ∧ one.length ≤ 500 ∧ a.length ≤ 500 ∧ b.length ≤ 500 ∧ Q (.bl true) S
theorem p__law_part_right (K : PySem.W.Frag) : Kp N__law_part_right (gPartR K) (b__law_part_right K gNum (gRec K)) := by
  rintro ds S Q E ⟨sc, one, a, b, o, d, l, rfl, hs, h1, h2, h3, q⟩
  show b__law_part_right K _ _ _ _ [some (.ref sc), some (.str one), some (.str a), some (.str b), none, none, none, none] S
  dsimp only [b__law_part_right, qSeq, qNext, qAsg, asgD, setAll, qRet, qRetN, qIfS, qDrop, qVar, qC, qOp, qT, qCB, qCons, qNil, qCall, qMeth, qMake, qFld, qSetF, qSetI, qAug, qTup, qLst, qIf, qAnd, qOr, qNot, qAndV, qOrV, qNotV, qCh, qSl, qPart, qNoPart, qBM, qBM0, qIsi, qDict0, qPar, qFin, qBreak, qLc, qFor, qiR1, qiR2, qYes, rII, rII0, subD, ltD, leD, gtD, geD, cmpD, fdivD, modD, powD, startD, List.map_cons, List.map_nil, List.length_cons, List.length_nil, List.replicate_succ, List.replicate_zero, List.cons_append, List.nil_append, List.append_nil, List.getElem?_cons_zero, List.getElem?_cons_succ, List.set_cons_zero, List.set_cons_succ, Nat.reduceAdd, Nat.reduceSub, Nat.reduceLT, Nat.reduceSubDiff, Nat.add_one_sub_one, wipeD]
  have z2 : 2 ≤ sizeLine := by rw [sizeLine_eq]; decide
  have z4 : 4 ≤ sizeLine := by rw [sizeLine_eq]; decide
  have hl1 := len_tl one
  refine ⟨a, rfl, by omega, b, rfl, by omega, z2, rfl, ?_⟩
  generalize hA : numL (tlS a) = u
  generalize hB : numL (tlS b) = v
  show tyD "str" _ _ ∧ lenD _ _ _
  refine ⟨rfl, len_str (sz (by omega)) ⟨by omega, by omega, fun p hp => ?_⟩⟩
  rw [Int.toNat_natCast]
  refine lc_filter (fun d => match d with
    | .int k => decide (u ≤ k + 1) && decide (k + 1 ≤ v)
    | _ => false) (fun d => match d with
    | .int k => .str ⟨#[(tlS one).getD k.toNat 0]⟩
    | d => d) _ (sz (by rw [range_len]; omega)) (fun _ => trivial) ?_ ?_ ?_
  · intro x hx acc Q' q'
    obtain ⟨i, _, rfl⟩ := List.mem_map.mp hx
    rw [Int.zero_add] at q' ⊢
    show (match D.bl (decide (u ≤ (i : Int) + 1)) with | .bl true => _ | .bl false => _ | _ => False)
    have q2 : Q' (decide (u ≤ (i : Int) + 1) && decide ((i : Int) + 1 ≤ v)) (put S p (.lst acc)) := q'
    by_cases h : u ≤ (i : Int) + 1
    · rw [decide_eq_true h] at q2 ⊢
      rw [Bool.true_and] at q2
      exact q2
    · rw [decide_eq_false h] at q2 ⊢
      rw [Bool.false_and] at q2
      exact q2
  · intro x hx hc acc Q' q'
    obtain ⟨i, hi, rfl⟩ := List.mem_map.mp hx
    have hi2 : i < (tlS one).length := List.mem_range.mp hi
    rw [Int.zero_add] at q' ⊢
    refine ix_str (c := (tlS one)[i]) (sz (by omega)) (by rw [atI_n, List.getElem?_eq_getElem hi2]) ?_
    have e : (tlS one).getD ((i : Int).toNat) 0 = (tlS one)[i] := by rw [Int.toNat_natCast, List.getD_eq_getElem?_getD, List.getElem?_eq_getElem hi2]; rfl
    rw [← e]
    exact q'
  · have hlist : (((rangeD 0 (tlS one).length).filter fun d => match d with
        | .int k => decide (u ≤ k + 1) && decide (k + 1 ≤ v)
        | _ => false).map fun d => match d with
        | .int k => .str ⟨#[(tlS one).getD k.toNat 0]⟩
        | d => d) = ((((tlS one).drop (max 1 u - 1).toNat).take (v.toNat - (max 1 u - 1).toNat)).map fun c => (⟨#[c]⟩ : Str)).map D.str := by
      have h := range_cut (tlS one) (max 1 u - 1).toNat v.toNat (tlS one).length (Nat.le_refl _)
      rw [List.take_length] at h
      rw [← h]
      unfold rangeD
      rw [List.filter_map, List.map_map, List.map_map, List.map_map]
      have hf : (List.range (tlS one).length).filter ((fun d => match d with
          | .int k => decide (u ≤ k + 1) && decide (k + 1 ≤ v)
          | _ => false) ∘ fun (i : Nat) => D.int (0 + (i : Int))) = (List.range (tlS one).length).filter fun k => decide ((max 1 u - 1).toNat ≤ k) && decide (k < v.toNat) := by
        refine List.filter_congr fun k _ => ?_
        show (decide (u ≤ 0 + (k : Int) + 1) && decide (0 + (k : Int) + 1 ≤ v)) = _
        congr 1
        · exact decide_eq_decide.mpr (by omega)
        · exact decide_eq_decide.mpr (by omega)
      rw [hf]
      refine List.map_congr_left fun k _ => ?_
      show D.str ⟨#[(tlS one).getD (0 + (k : Int)).toNat 0]⟩ = D.str ⟨#[(tlS one).getD k 0]⟩
      rw [Int.zero_add, Int.toNat_natCast]
    rw [hlist]
    have hcs := partS_tl one u v
    generalize ((tlS one).drop (max 1 u - 1).toNat).take (v.toNat - (max 1 u - 1).toNat) = cs at hcs
    have hle : cs.length ≤ 500 := by
      rw [← hcs]
      unfold partS
      split
      · have := cutS_len one (some (max 1 u - 1)) (some v)
        omega
      · exact Nat.zero_le _
    refine join_ok (items_lst put_same) (strsOf_map _) ?_ ?_
    · have h0 : ((cs.map fun c => (⟨#[c]⟩ : Str)).map (·.length)).sum = cs.length := by
        rw [List.map_map]
        exact sum_ones cs
      rw [h0]
      show _ + _ * 0 ≤ _
      omega
    · have hj : Txt.join ("" : Str) (cs.map fun c => (⟨#[c]⟩ : Str)) = partS one u v := tlS_ext ((join_chars cs).trans hcs.symm)
      rw [hj]
      have hs2 : (put S p (.lst ((cs.map fun c => (⟨#[c]⟩ : Str)).map D.str))) sc = some (.ins (CS K) (sceneF o d l)) := (put_ne (st_ne hs hp)).trans hs
      refine insOf_at hs2 ⟨rfl, sceneF_no o d l, ?_⟩
      refine ⟨z2, z2, z2, z4, xword (zs := [one, a, b]) hs2 (.part h1 h2 h3) ?_⟩
      rw [hA, hB]
      dsimp only [eqD]
      rw [decide_eq_true rfl, Bool.false_xor]
      exact ⟨S, Sub.new hp, q⟩
/-! ### the law -/
def gLaw : SpD := fun ds S Q _ => ∃ ns : List Int, ds = [.kl (ns.map .int)] ∧ ns.length ≤ 63 ∧ ∀ S', Q (.bl true) S'
theorem last_piece : pieceS ("aaa" : Str) ("aa" : Str) (numL (tlS ("2" : Str))) = ("a" : Str) := by decide +kernel
theorem law_rest (K : PySem.W.Frag) {W : WD} {E : EndsD} {x0 x2 x4 o d l : D} {sc b : Addr} {one other : Str} {m : Nat} {S : Sto} (hs : S sc = some (.ins (CS K) (sceneF o d l))) (hb : BagAt S b m) (hm : m + 30 ≤ most) (h1 : one.length ≤ 200) (h2 : other.length ≤ 200)
    (hN : ∀ S', S' sc = some (.ins (CS K) (sceneF o d l)) → BagAt S' b (m + 30) → E.nx [some x0, some (.ref sc), some x2, some (.ref b), some x4, some (.str one), some (.str other)] S') :
    (qSeq (qIfS (qAnd (qT (qOp leD (qCB lenD (qCons (qVar 5) qNil)) (qC (.int 20)))) (qNot (qT (qCall (gRight K) [] (qCons (qVar 1) (qCons (qVar 5) (qCons (qVar 6) (qCons (qCall gNth [] (qCons (qVar 3) (qCons (qC (.int 5)) qNil))) qNil)))))))) (qRet (qC (.bl false))) qNext)
    (qIfS (qNot (qT (qCall (gPartR K) [] (qCons (qVar 1) (qCons (qVar 5) (qCons (qCall gNth [] (qCons (qVar 3) (qCons (qCB lenD (qCons (qVar 5) qNil)) qNil))) (qCons (qCall gNth [] (qCons (qVar 3) (qCons (qCB lenD (qCons (qVar 5) qNil)) qNil))) qNil))))))) (qRet (qC (.bl false))) qNext)) W E [some x0, some (.ref sc), some x2, some (.ref b), some x4, some (.str one), some (.str other)] S := by
  have hl := len_tl one
  have part : ∀ S1, S1 sc = some (.ins (CS K) (sceneF o d l)) → BagAt S1 b (m + 10) → (qIfS (qNot (qT (qCall (gPartR K) [] (qCons (qVar 1) (qCons (qVar 5) (qCons (qCall gNth [] (qCons (qVar 3) (qCons (qCB lenD (qCons (qVar 5) qNil)) qNil))) (qCons (qCall gNth [] (qCons (qVar 3) (qCons (qCB lenD (qCons (qVar 5) qNil)) qNil))) qNil))))))) (qRet (qC (.bl false))) qNext) W E [some x0, some (.ref sc), some x2, some (.ref b), some x4, some (.str one), some (.str other)] S1 := fun S1 hs1 hb1 => by
    dsimp only [qSeq, qNext, qAsg, asgD, setAll, qRet, qRetN, qIfS, qDrop, qVar, qC, qOp, qT, qCB, qCons, qNil, qCall, qMeth, qMake, qFld, qSetF, qSetI, qAug, qTup, qLst, qIf, qAnd, qOr, qNot, qAndV, qOrV, qNotV, qCh, qSl, qPart, qNoPart, qBM, qBM0, qIsi, qDict0, qPar, qFin, qBreak, qLc, qFor, qiR1, qiR2, qYes, rII, rII0, subD, ltD, leD, gtD, geD, cmpD, fdivD, modD, powD, startD, List.map_cons, List.map_nil, List.length_cons, List.length_nil, List.replicate_succ, List.replicate_zero, List.cons_append, List.nil_append, List.append_nil, List.getElem?_cons_zero, List.getElem?_cons_succ, List.set_cons_zero, List.set_cons_succ, Nat.reduceAdd, Nat.reduceSub, Nat.reduceLT, Nat.reduceSubDiff, Nat.add_one_sub_one, wipeD]
    refine len_str (sz (by omega)) ⟨b, _, _, rfl, by omega, by omega, hb1, by omega, fun w S2 hw B2 G2 => ?_⟩
    refine len_str (sz (by omega)) ⟨b, _, _, rfl, by omega, by omega, G2, by omega, fun w2 S3 hw2 B3 G3 => ?_⟩
    have hs3 := (B2.trans B3).at_ hs1 (hb1.neo hs1)
    refine ⟨sc, one, w, w2, o, d, l, rfl, hs3, by omega, by omega, by omega, ?_⟩
    exact hN S3 hs3 (G3.more (by omega))
  dsimp only [qSeq, qIfS, qAnd, qNot, qT, qOp, qCB, qCall, qCons, qNil, qC, qVar, qRet, qNext, leD, cmpD, List.getElem?_cons_zero, List.getElem?_cons_succ]
  refine len_str (sz (by omega)) ?_
  dsimp only []
  by_cases h : ((tlS one).length : Int) ≤ 20
  · rw [decide_eq_true h]
    refine ⟨b, 5, _, rfl, by decide, by decide, hb, by omega, fun w S2 hw B2 G2 => ?_⟩
    have hs2 := B2.at_ hs (hb.neo hs)
    refine ⟨sc, one, other, w, o, d, l, rfl, hs2, by omega, by omega, by omega, ?_⟩
    exact part S2 hs2 G2
  · rw [decide_eq_false h]
    exact part S hs (hb.more (by omega))
theorem p_law (K : PySem.W.Frag) : Kp N_law gLaw (b_law K (gInitS K) (gInitD K) (gInitA K) gBag gCell (gDrawn 200 60) gDraw (gRec K) (gRight K) gNth (gPartR K)) := by
  rintro ds S Q E ⟨ns, rfl, hns, q⟩
  show b_law K _ _ _ _ _ _ _ _ _ _ _ _ _ [some (.kl (ns.map .int)), none, none, none, none, none, none] S
  have z2 : 2 ≤ sizeLine := by rw [sizeLine_eq]; decide
  have z4 : 4 ≤ sizeLine := by rw [sizeLine_eq]; decide
  dsimp only [b_law, qSeq, qNext, qAsg, asgD, setAll, qRet, qRetN, qIfS, qDrop, qVar, qC, qOp, qT, qCB, qCons, qNil, qCall, qMeth, qMake, qFld, qSetF, qSetI, qAug, qTup, qLst, qIf, qAnd, qOr, qNot, qAndV, qOrV, qNotV, qCh, qSl, qPart, qNoPart, qBM, qBM0, qIsi, qDict0, qPar, qFin, qBreak, qLc, qFor, qiR1, qiR2, qYes, rII, rII0, subD, ltD, leD, gtD, geD, cmpD, fdivD, modD, powD, startD, List.map_cons, List.map_nil, List.length_cons, List.length_nil, List.replicate_succ, List.replicate_zero, List.cons_append, List.nil_append, List.append_nil, List.getElem?_cons_zero, List.getElem?_cons_succ, List.set_cons_zero, List.set_cons_succ, Nat.reduceAdd, Nat.reduceSub, Nat.reduceLT, Nat.reduceSubDiff, Nat.add_one_sub_one, wipeD]
  intro pa ha
  refine ⟨pa, rfl, put_same, fun S1 B1 => ⟨rfl, ?_⟩⟩
  intro pa2 ha2
  refine ⟨pa2, rfl, put_same, fun S2 B2 => ⟨rfl, ?_⟩⟩
  intro pd hd
  refine ⟨pd, pa2, rfl, put_same, fun S3 B3 => ⟨rfl, ?_⟩⟩
  intro sc hsc
  refine ⟨sc, pa, pd, rfl, put_same, fun S4 B4 h4 => ⟨rfl, ?_⟩⟩
  refine len_kl ?_
  rw [List.length_map]
  show (let j := if (if (ns.length : Int) < 6 then (ns.length : Int) else 6) > 1 then (if (ns.length : Int) < 6 then (ns.length : Int) else 6) else 1; _)
  generalize hj : (if (if (ns.length : Int) < 6 then (ns.length : Int) else 6) > 1 then (if (ns.length : Int) < 6 then (ns.length : Int) else 6) else 1) = j
  have hj1 : 0 ≤ j ∧ j ≤ 6 := by
    rw [← hj]
    split <;> split <;> omega
  refine ⟨by omega, by omega, ?_⟩
  refine forR_ok (fun _ => trivial) _ (fun i ρ S5 => (∃ x2 x3 x4 x5 x6, ρ = [some (.kl (ns.map .int)), some (.ref sc), x2, x3, x4, x5, x6]) ∧ S5 sc = some (.ins (CS K) (sceneF (.ref pa) (.ref pd) .non))) ?_ ?_ ⟨⟨_, _, _, _, _, rfl⟩, h4⟩
  · rintro ρ S5 ⟨⟨x2, x3, x4, x5, x6, rfl⟩, h5⟩
    dsimp only [qSeq, qNext, qAsg, asgD, setAll, qRet, qRetN, qIfS, qDrop, qVar, qC, qOp, qT, qCB, qCons, qNil, qCall, qMeth, qMake, qFld, qSetF, qSetI, qAug, qTup, qLst, qIf, qAnd, qOr, qNot, qAndV, qOrV, qNotV, qCh, qSl, qPart, qNoPart, qBM, qBM0, qIsi, qDict0, qPar, qFin, qBreak, qLc, qFor, qiR1, qiR2, qYes, rII, rII0, subD, ltD, leD, gtD, geD, cmpD, fdivD, modD, powD, startD, List.map_cons, List.map_nil, List.length_cons, List.length_nil, List.replicate_succ, List.replicate_zero, List.cons_append, List.nil_append, List.append_nil, List.getElem?_cons_zero, List.getElem?_cons_succ, List.set_cons_zero, List.set_cons_succ, Nat.reduceAdd, Nat.reduceSub, Nat.reduceLT, Nat.reduceSubDiff, Nat.add_one_sub_one, wipeD]
    refine insOf_at h5 ⟨rfl, sceneF_no _ _ _, ?_⟩
    refine ⟨z2, z2, z2, z4, xword (zs := [("aaa" : Str), ("aa" : Str), ("2" : Str)]) h5 (.piece (by decide +kernel) (by decide +kernel) (by decide +kernel)) ?_⟩
    rw [last_piece]
    dsimp only [eqD]
    rw [decide_eq_true rfl, Bool.false_xor]
    exact Fg.here (q _)
  · rintro i hi N hN ρ S5 ⟨⟨x2, x3, x4, x5, x6, rfl⟩, h5⟩
    rw [Int.zero_add]
    dsimp only [qSeq, qNext, qAsg, asgD, setAll, qRet, qRetN, qIfS, qDrop, qVar, qC, qOp, qT, qCB, qCons, qNil, qCall, qMeth, qMake, qFld, qSetF, qSetI, qAug, qTup, qLst, qIf, qAnd, qOr, qNot, qAndV, qOrV, qNotV, qCh, qSl, qPart, qNoPart, qBM, qBM0, qIsi, qDict0, qPar, qFin, qBreak, qLc, qFor, qiR1, qiR2, qYes, rII, rII0, subD, ltD, leD, gtD, geD, cmpD, fdivD, modD, powD, startD, List.map_cons, List.map_nil, List.length_cons, List.length_nil, List.replicate_succ, List.replicate_zero, List.cons_append, List.nil_append, List.append_nil, List.getElem?_cons_zero, List.getElem?_cons_succ, List.set_cons_zero, List.set_cons_succ, Nat.reduceAdd, Nat.reduceSub, Nat.reduceLT, Nat.reduceSubDiff, Nat.add_one_sub_one, wipeD]
    refine ⟨ns, i, rfl, fun z => ?_⟩
    dsimp only [addD]
    refine ⟨z + 10, rfl, fun b S6 hb6 B6 G6 => ?_⟩
    have h6 := B6.at_ h5 (st_ne h5 hb6)
    refine ⟨by decide, by decide, ?_⟩
    refine forR_ok (fun _ => trivial) _ (fun t ρ S7 => t ≤ 8 ∧ (∃ x4 x5 x6, ρ = [some (.kl (ns.map .int)), some (.ref sc), some (.int i), some (.ref b), x4, x5, x6]) ∧ S7 sc = some (.ins (CS K) (sceneF (.ref pa) (.ref pd) .non)) ∧ BagAt S7 b (t * 200)) ?_ ?_ ⟨Nat.zero_le _, ⟨_, _, _, rfl⟩, h6, by rw [Nat.zero_mul]; exact G6⟩
    · rintro ρ S7 ⟨_, ⟨x4, x5, x6, rfl⟩, h7, _⟩
      exact hN _ _ ⟨⟨_, _, _, _, _, rfl⟩, h7⟩
    · rintro t ht M hM ρ S7 ⟨_, ⟨y4, y5, y6, rfl⟩, h7, G7⟩
      have hmo : most = 1000000 := rfl
      have ht8 : t < 8 := ht
      rw [Int.zero_add]
      dsimp only [qSeq, qAsg, asgD, qSl, qCall, qCons, qNil, qVar, qC, qPart, qNoPart, slD, qOp, qLst, List.getElem?_cons_zero, List.getElem?_cons_succ, List.set_cons_zero, List.set_cons_succ, List.append_nil]
      refine ⟨b, _, rfl, G7, by omega, fun w S8 hw B8 G8 => ?_⟩
      refine ⟨sz (by omega), ?_⟩
      refine ⟨b, _, rfl, G8, by omega, fun w2 S9 hw2 B9 G9 => ?_⟩
      refine ⟨sz (by omega), by rw [sizeLine_eq]; show 8 ≤ _; decide, fun p hp => ?_⟩
      have hone : (cutS w none (some 120)).length ≤ 120 := by
        rw [len_tl, tlS_cut, show (120 : Int) = ((120 : Nat) : Int) from rfl, cutL_to, List.length_take]
        omega
      have hoth := cutS_length w2 none (some 3)
      generalize cutS w none (some 120) = one at hone
      generalize cutS w2 none (some 3) = oth at hoth
      refine ⟨b, 8, _, rfl, G9.new hp, by omega, by decide, by decide, fun r S10 r0 r1 B10 G10 => ?_⟩
      refine ix_in (B10.at_ put_same (Ne.symm (G9.ne hp))) r0 r1 fun x hx => ?_
      have hx2 : ∃ z, x = .str z ∧ z.length ≤ 200 := by
        simp only [List.mem_cons, List.not_mem_nil, or_false] at hx
        rcases hx with e | e | e | e | e | e | e | e
        · exact ⟨_, e, by decide +kernel⟩
        · exact ⟨_, e, by decide +kernel⟩
        · exact ⟨_, e, by decide +kernel⟩
        · exact ⟨_, e, by decide +kernel⟩
        · exact ⟨_, e, by omega⟩
        · exact ⟨_, e, by decide +kernel⟩
        · exact ⟨_, e, by decide +kernel⟩
        · exact ⟨_, e, by omega⟩
      obtain ⟨other, rfl, hother⟩ := hx2
      have h10 := ((B8.trans B9).trans (B10.pre hp)).at_ h7 (G7.neo h7)
      have fin : ∀ one : Str, ∀ S', S' sc = some (.ins (CS K) (sceneF (.ref pa) (.ref pd) .non)) → BagAt S' b (t * 200 + 60 + 60 + 1 + 1 + 30) → M [some (.kl (ns.map .int)), some (.ref sc), some (.int i), some (.ref b), some (.int t), some (.str one), some (.str other)] S' := fun one S' hs' hb' =>
        hM _ _ ⟨ht8, ⟨_, _, _, rfl⟩, hs', hb'.more (by omega)⟩
      have hl := len_tl one
      refine ifS_false (fun Q' q' => ?_) ?_
      · dsimp only [qSeq, qNext, qAsg, asgD, setAll, qRet, qRetN, qIfS, qDrop, qVar, qC, qOp, qT, qCB, qCons, qNil, qCall, qMeth, qMake, qFld, qSetF, qSetI, qAug, qTup, qLst, qIf, qAnd, qOr, qNot, qAndV, qOrV, qNotV, qCh, qSl, qPart, qNoPart, qBM, qBM0, qIsi, qDict0, qPar, qFin, qBreak, qLc, qFor, qiR1, qiR2, qYes, rII, rII0, subD, ltD, leD, gtD, geD, cmpD, fdivD, modD, powD, startD, List.map_cons, List.map_nil, List.length_cons, List.length_nil, List.replicate_succ, List.replicate_zero, List.cons_append, List.nil_append, List.append_nil, List.getElem?_cons_zero, List.getElem?_cons_succ, List.set_cons_zero, List.set_cons_succ, Nat.reduceAdd, Nat.reduceSub, Nat.reduceLT, Nat.reduceSubDiff, Nat.add_one_sub_one, wipeD]
        refine insOf_at h10 ⟨rfl, sceneF_no _ _ _, ?_⟩
        refine ⟨z2, z2, xword (zs := [one]) h10 (.length (by omega)) ?_⟩
        refine len_str (sz (by omega)) ⟨log_small (by omega), ?_⟩
        dsimp only [eqD]
        rw [hl, decide_eq_true rfl, Bool.true_xor]
        exact q'
      · dsimp only [qNext]
        refine seq_if ?_
        dsimp only [qAnd, qT, qOp, qCall, qCons, qNil, qC, qVar, qCB, eqD, cmpD, List.getElem?_cons_zero, List.getElem?_cons_succ, List.append_nil]
        refine ⟨b, 3, _, rfl, G10, by omega, by decide, by decide, fun r2 S11 s0 s1 B11 G11 => ?_⟩
        have h11 := B11.at_ h10 (G10.neo h10)
        dsimp only []
        rw [Bool.false_xor]
        by_cases hr : r2 = 0
        · rw [decide_eq_true hr]
          dsimp only []
          refine len_str (sz (by omega)) ?_
          dsimp only []
          by_cases h20 : (20 : Int) < ((tlS one).length : Int)
          · rw [decide_eq_true h20]
            dsimp only [qAsg, asgD, qSl, qPart, qNoPart, slD, List.set_cons_zero, List.set_cons_succ]
            refine ⟨sz (by omega), ?_⟩
            have hc := cutS_length one none (some 20)
            exact law_rest K h11 G11 (by omega) (by omega) hother fun S' hs' hb' => fin _ S' hs' hb'
          · rw [decide_eq_false h20]
            exact law_rest K h11 G11 (by omega) (by omega) hother fun S' hs' hb' => fin _ S' hs' hb'
        · rw [decide_eq_false hr]
          exact law_rest K h11 G11 (by omega) (by omega) hother fun S' hs' hb' => fin _ S' hs' hb'
end G

set_option maxHeartbeats 0
namespace G
open PySem PySem.Spec L2 Q
def loose0 : List PySem.Str := "_wall" :: "__name__" :: "StemError" :: "NoRef" :: "NoWorth" :: "NoJob" :: "Held" :: "NoDealing" :: "Erring" :: "LETTERS" :: "FIGURES" :: "MOST_SIGNS" :: "MOST_LETTERS" :: "MOST_KEYS" :: "SIGNS" :: "is_worth" :: "is_name" :: "is_key" :: "is_reference" :: "signs_ahead" :: "number_of" :: "number_text" :: "is_number_text" :: "rank" :: "is_stem" :: "meet" :: "MOST_LONG" :: "PLACES" :: "truth_text" :: "quotient" :: "by_numbers" :: "are_one_text" :: "put_behind" :: "holds_other" :: "stands_behind" :: []
def loose1 : List PySem.Str := "BY_TEXTS" :: "of_two" :: "piece_of" :: "part_of" :: "of_worths" :: "not_too_long" :: "Scene" :: "need_reference" :: "need_worth" :: "need_ordered" :: "ranks" :: "walked" :: "Arrays" :: "need_job" :: "Dealings" :: "_law_cell_at" :: "_law_bag" :: "_law_draw" :: "_law_key" :: "_law_worth" :: "_law_number" :: "_law_piece" :: "_law_text" :: "_law_nth" :: "_law_pieces_right" :: "_law_part_right" :: []
def loose : List PySem.Str := loose0 ++ loose1
abbrev hk : PySem.W.Hook := hookQ 6 fa fn ts ex
def ob (s : PySem.W.SharedT) : AlQ := obsQG 6 fa fn ts ex (HandSHeadRun.getT s)
theorem ob_eq (s : PySem.W.SharedT) : ob s = hk.obs s.abs := obsQG_eq (HandSHeadRun.getT_eq s)
set_option maxHeartbeats 0 in
theorem run_f (w : World) : HandSHeadRun.RunEq R (PySem.W.view R.prog [66]) hk ob 6000 loose (w.withFollow "special-get-raises" false) := by
  intro os
  kernel_rfl
set_option maxHeartbeats 0 in
theorem run_t (w : World) : HandSHeadRun.RunEq R (PySem.W.view R.prog [66]) hk ob 6000 loose (w.withFollow "special-get-raises" true) := by
  intro os
  kernel_rfl
theorem run (w : World) : HandSHeadRun.RunEq R (PySem.W.view R.prog [66]) hk ob 6000 loose w := by
  refine PySem.W.byRow2 "special-get-raises" (P := fun w => HandSHeadRun.RunEq R (PySem.W.view R.prog [66]) hk ob 6000 loose w) (fun w => ?_) (fun w => ?_) w
  · exact run_f w
  · exact run_t w
end G

set_option maxHeartbeats 1000000
namespace G
open PySem PySem.Spec L2 Q
section
variable {w : World} {K : PySem.W.Frag} {mg : Str → Option Value} {base : Heap}
/-- a promise that is never taken -/
def gF : SpD := fun _ _ _ _ => False
theorem F_signs_ahead (T : TT w K mg) : FnG P w K mg base 1 "signs_ahead" [] gAhead := ok_signs_ahead T (k := 0) (fun ds S Q E h => by
    first
    | (obtain ⟨_, rfl, _⟩ := h; rfl)
    | (obtain ⟨_, _, rfl, _⟩ := h; rfl)
    | (obtain ⟨_, _, _, rfl, _⟩ := h; rfl)
    | (obtain ⟨_, _, _, _, rfl, _⟩ := h; rfl)
    | (obtain ⟨_, _, _, _, _, rfl, _⟩ := h; rfl)
    | (obtain ⟨_, _, _, _, _, _, rfl, _⟩ := h; rfl)
    | (obtain ⟨_, _, _, _, _, _, _, rfl, _⟩ := h; rfl)) p_signs_ahead
theorem F_number_of (T : TT w K mg) : FnG P w K mg base 2 "number_of" [] gNum := ok_number_of T (k := 1) (F_signs_ahead T) (by decide) (fun ds S Q E h => by
    first
    | (obtain ⟨_, rfl, _⟩ := h; rfl)
    | (obtain ⟨_, _, rfl, _⟩ := h; rfl)
    | (obtain ⟨_, _, _, rfl, _⟩ := h; rfl)
    | (obtain ⟨_, _, _, _, rfl, _⟩ := h; rfl)
    | (obtain ⟨_, _, _, _, _, rfl, _⟩ := h; rfl)
    | (obtain ⟨_, _, _, _, _, _, rfl, _⟩ := h; rfl)
    | (obtain ⟨_, _, _, _, _, _, _, rfl, _⟩ := h; rfl)) p_number_of
theorem F_number_text (T : TT w K mg) : FnG P w K mg base 1 "number_text" [] gText := ok_number_text T (k := 0) (fun ds S Q E h => by
    first
    | (obtain ⟨_, rfl, _⟩ := h; rfl)
    | (obtain ⟨_, _, rfl, _⟩ := h; rfl)
    | (obtain ⟨_, _, _, rfl, _⟩ := h; rfl)
    | (obtain ⟨_, _, _, _, rfl, _⟩ := h; rfl)
    | (obtain ⟨_, _, _, _, _, rfl, _⟩ := h; rfl)
    | (obtain ⟨_, _, _, _, _, _, rfl, _⟩ := h; rfl)
    | (obtain ⟨_, _, _, _, _, _, _, rfl, _⟩ := h; rfl)) p_number_text
theorem F_piece_of (T : TT w K mg) : FnG P w K mg base 1 "piece_of" [] gPiece := ok_piece_of T (k := 0) (fun ds S Q E h => by
    first
    | (obtain ⟨_, rfl, _⟩ := h; rfl)
    | (obtain ⟨_, _, rfl, _⟩ := h; rfl)
    | (obtain ⟨_, _, _, rfl, _⟩ := h; rfl)
    | (obtain ⟨_, _, _, _, rfl, _⟩ := h; rfl)
    | (obtain ⟨_, _, _, _, _, rfl, _⟩ := h; rfl)
    | (obtain ⟨_, _, _, _, _, _, rfl, _⟩ := h; rfl)
    | (obtain ⟨_, _, _, _, _, _, _, rfl, _⟩ := h; rfl)) p_piece_of
theorem F_part_of (T : TT w K mg) : FnG P w K mg base 1 "part_of" [] gPart := ok_part_of T (k := 0) (fun ds S Q E h => by
    first
    | (obtain ⟨_, rfl, _⟩ := h; rfl)
    | (obtain ⟨_, _, rfl, _⟩ := h; rfl)
    | (obtain ⟨_, _, _, rfl, _⟩ := h; rfl)
    | (obtain ⟨_, _, _, _, rfl, _⟩ := h; rfl)
    | (obtain ⟨_, _, _, _, _, rfl, _⟩ := h; rfl)
    | (obtain ⟨_, _, _, _, _, _, rfl, _⟩ := h; rfl)
    | (obtain ⟨_, _, _, _, _, _, _, rfl, _⟩ := h; rfl)) p_part_of
theorem F_of_worths (T : TT w K mg) : FnG P w K mg base 3 "of_worths" [] gWord := ok_of_worths T (k := 2) (F_number_text T) (by decide) (F_number_of T) (by decide) (F_piece_of T) (by decide) (F_part_of T) (by decide) (fun ds S Q E h => by
    first
    | (obtain ⟨_, rfl, _⟩ := h; rfl)
    | (obtain ⟨_, _, rfl, _⟩ := h; rfl)
    | (obtain ⟨_, _, _, rfl, _⟩ := h; rfl)
    | (obtain ⟨_, _, _, _, rfl, _⟩ := h; rfl)
    | (obtain ⟨_, _, _, _, _, rfl, _⟩ := h; rfl)
    | (obtain ⟨_, _, _, _, _, _, rfl, _⟩ := h; rfl)
    | (obtain ⟨_, _, _, _, _, _, _, rfl, _⟩ := h; rfl)) p_of_worths
theorem F_not_too_long (T : TT w K mg) : FnG P w K mg base 1 "not_too_long" [] gShort := ok_not_too_long T (k := 0) (fun ds S Q E h => by
    first
    | (obtain ⟨_, rfl, _⟩ := h; rfl)
    | (obtain ⟨_, _, rfl, _⟩ := h; rfl)
    | (obtain ⟨_, _, _, rfl, _⟩ := h; rfl)
    | (obtain ⟨_, _, _, _, rfl, _⟩ := h; rfl)
    | (obtain ⟨_, _, _, _, _, rfl, _⟩ := h; rfl)
    | (obtain ⟨_, _, _, _, _, _, rfl, _⟩ := h; rfl)
    | (obtain ⟨_, _, _, _, _, _, _, rfl, _⟩ := h; rfl)) p_not_too_long
theorem F_Arrays_init (T : TT w K mg) : MkG P w K mg base 1 "Arrays" (He.ga K "Arrays") [] (gInitA K) := ok_Arrays___init__ T (k := 0) (fun ds S Q E h => by
    first
    | (obtain ⟨_, rfl, _⟩ := h; rfl)
    | (obtain ⟨_, _, rfl, _⟩ := h; rfl)
    | (obtain ⟨_, _, _, rfl, _⟩ := h; rfl)
    | (obtain ⟨_, _, _, _, rfl, _⟩ := h; rfl)
    | (obtain ⟨_, _, _, _, _, rfl, _⟩ := h; rfl)
    | (obtain ⟨_, _, _, _, _, _, rfl, _⟩ := h; rfl)
    | (obtain ⟨_, _, _, _, _, _, _, rfl, _⟩ := h; rfl)) (p_Arrays_init K)
theorem F_Dealings_init (T : TT w K mg) : MkG P w K mg base 1 "Dealings" (He.ga K "Dealings") [] (gInitD K) := ok_Dealings___init__ T (k := 0) (fun ds S Q E h => by
    first
    | (obtain ⟨_, rfl, _⟩ := h; rfl)
    | (obtain ⟨_, _, rfl, _⟩ := h; rfl)
    | (obtain ⟨_, _, _, rfl, _⟩ := h; rfl)
    | (obtain ⟨_, _, _, _, rfl, _⟩ := h; rfl)
    | (obtain ⟨_, _, _, _, _, rfl, _⟩ := h; rfl)
    | (obtain ⟨_, _, _, _, _, _, rfl, _⟩ := h; rfl)
    | (obtain ⟨_, _, _, _, _, _, _, rfl, _⟩ := h; rfl)) (p_Dealings_init K)
theorem F_Scene_init (T : TT w K mg) : MkG P w K mg base 1 "Scene" (He.ga K "Scene") [(.int (0))] (gInitS K) := ok_Scene___init__ T (k := 0) (fun ds S Q E h => by
    first
    | (obtain ⟨_, rfl, _⟩ := h; rfl)
    | (obtain ⟨_, _, rfl, _⟩ := h; rfl)
    | (obtain ⟨_, _, _, rfl, _⟩ := h; rfl)
    | (obtain ⟨_, _, _, _, rfl, _⟩ := h; rfl)
    | (obtain ⟨_, _, _, _, _, rfl, _⟩ := h; rfl)
    | (obtain ⟨_, _, _, _, _, _, rfl, _⟩ := h; rfl)
    | (obtain ⟨_, _, _, _, _, _, _, rfl, _⟩ := h; rfl)) (p_Scene_init K)
theorem F_rec0 (T : TT w K mg) : MtG P w K mg base 1 (He.ga K "Scene") "reckoned" [] gF := by
  obtain ⟨fd, F⟩ := fd_Scene_reckoned T
  exact MtG.of (fn_okD F sc_Scene_reckoned (fun _ _ _ _ z => z.elim) fun f cdv A outer s H E h => ⟨qNeverS, qss_never, fun _ _ _ _ z => z.elim⟩) (cl_Scene T) (me_Scene_reckoned T) (BindD.none (F.bindsN fun _ _ _ _ _ _ us hl => match us, hl with | [_, _], _ => rfl))
theorem F_rec1 (T : TT w K mg) : MtG P w K mg base 4 (He.ga K "Scene") "reckoned" [] (gIs K) := ok_Scene_reckoned T (k := 3) (F_number_text T) (by decide) (F_rec0 T) (by decide) (F_not_too_long T) (by decide) (F_of_worths T) (by decide) (fun ds S Q E h => by
    first
    | (obtain ⟨_, rfl, _⟩ := h; rfl)
    | (obtain ⟨_, _, rfl, _⟩ := h; rfl)
    | (obtain ⟨_, _, _, rfl, _⟩ := h; rfl)
    | (obtain ⟨_, _, _, _, rfl, _⟩ := h; rfl)
    | (obtain ⟨_, _, _, _, _, rfl, _⟩ := h; rfl)
    | (obtain ⟨_, _, _, _, _, _, rfl, _⟩ := h; rfl)
    | (obtain ⟨_, _, _, _, _, _, _, rfl, _⟩ := h; rfl)) (p_is K _ _ _ _)
theorem F_rec2 (T : TT w K mg) : MtG P w K mg base 5 (He.ga K "Scene") "reckoned" [] (gRec K) := ok_Scene_reckoned T (k := 4) (F_number_text T) (by decide) (F_rec1 T) (by decide) (F_not_too_long T) (by decide) (F_of_worths T) (by decide) (fun ds S Q E h => by
    first
    | (obtain ⟨_, rfl, _⟩ := h; rfl)
    | (obtain ⟨_, _, rfl, _⟩ := h; rfl)
    | (obtain ⟨_, _, _, rfl, _⟩ := h; rfl)
    | (obtain ⟨_, _, _, _, rfl, _⟩ := h; rfl)
    | (obtain ⟨_, _, _, _, _, rfl, _⟩ := h; rfl)
    | (obtain ⟨_, _, _, _, _, _, rfl, _⟩ := h; rfl)
    | (obtain ⟨_, _, _, _, _, _, _, rfl, _⟩ := h; rfl)) (p_reckoned K _)
theorem F_reckon (T : TT w K mg) : MtG P w K mg base 6 (He.ga K "Scene") "reckon" [] (gRec K) := ok_Scene_reckon T (k := 5) (F_rec2 T) (by decide) (fun ds S Q E h => by
    first
    | (obtain ⟨_, rfl, _⟩ := h; rfl)
    | (obtain ⟨_, _, rfl, _⟩ := h; rfl)
    | (obtain ⟨_, _, _, rfl, _⟩ := h; rfl)
    | (obtain ⟨_, _, _, _, rfl, _⟩ := h; rfl)
    | (obtain ⟨_, _, _, _, _, rfl, _⟩ := h; rfl)
    | (obtain ⟨_, _, _, _, _, _, rfl, _⟩ := h; rfl)
    | (obtain ⟨_, _, _, _, _, _, _, rfl, _⟩ := h; rfl)) (p_reckon K)
theorem F_cell (T : TT w K mg) : FnG P w K mg base 1 "_law_cell_at" [] gCell := ok__law_cell_at T (k := 0) (fun ds S Q E h => by
    first
    | (obtain ⟨_, rfl, _⟩ := h; rfl)
    | (obtain ⟨_, _, rfl, _⟩ := h; rfl)
    | (obtain ⟨_, _, _, rfl, _⟩ := h; rfl)
    | (obtain ⟨_, _, _, _, rfl, _⟩ := h; rfl)
    | (obtain ⟨_, _, _, _, _, rfl, _⟩ := h; rfl)
    | (obtain ⟨_, _, _, _, _, _, rfl, _⟩ := h; rfl)
    | (obtain ⟨_, _, _, _, _, _, _, rfl, _⟩ := h; rfl)) p__law_cell_at
theorem F_bag (T : TT w K mg) : FnG P w K mg base 1 "_law_bag" [] gBag := ok__law_bag T (k := 0) (fun ds S Q E h => by
    first
    | (obtain ⟨_, rfl, _⟩ := h; rfl)
    | (obtain ⟨_, _, rfl, _⟩ := h; rfl)
    | (obtain ⟨_, _, _, rfl, _⟩ := h; rfl)
    | (obtain ⟨_, _, _, _, rfl, _⟩ := h; rfl)
    | (obtain ⟨_, _, _, _, _, rfl, _⟩ := h; rfl)
    | (obtain ⟨_, _, _, _, _, _, rfl, _⟩ := h; rfl)
    | (obtain ⟨_, _, _, _, _, _, _, rfl, _⟩ := h; rfl)) p__law_bag
theorem F_draw (T : TT w K mg) : FnG P w K mg base 1 "_law_draw" [] gDraw := ok__law_draw T (k := 0) (fun ds S Q E h => by
    first
    | (obtain ⟨_, rfl, _⟩ := h; rfl)
    | (obtain ⟨_, _, rfl, _⟩ := h; rfl)
    | (obtain ⟨_, _, _, rfl, _⟩ := h; rfl)
    | (obtain ⟨_, _, _, _, rfl, _⟩ := h; rfl)
    | (obtain ⟨_, _, _, _, _, rfl, _⟩ := h; rfl)
    | (obtain ⟨_, _, _, _, _, _, rfl, _⟩ := h; rfl)
    | (obtain ⟨_, _, _, _, _, _, _, rfl, _⟩ := h; rfl)) p__law_draw
theorem F_key (T : TT w K mg) : FnG P w K mg base 2 "_law_key" [] (gDrawn 40 5) := ok__law_key T (k := 1) (F_draw T) (by decide) (fun ds S Q E h => by
    first
    | (obtain ⟨_, rfl, _⟩ := h; rfl)
    | (obtain ⟨_, _, rfl, _⟩ := h; rfl)
    | (obtain ⟨_, _, _, rfl, _⟩ := h; rfl)
    | (obtain ⟨_, _, _, _, rfl, _⟩ := h; rfl)
    | (obtain ⟨_, _, _, _, _, rfl, _⟩ := h; rfl)
    | (obtain ⟨_, _, _, _, _, _, rfl, _⟩ := h; rfl)
    | (obtain ⟨_, _, _, _, _, _, _, rfl, _⟩ := h; rfl)) p__law_key
theorem F_worth (T : TT w K mg) : FnG P w K mg base 3 "_law_worth" [] (gDrawn 80 20) := ok__law_worth T (k := 2) (F_draw T) (by decide) (F_key T) (by decide) (fun ds S Q E h => by
    first
    | (obtain ⟨_, rfl, _⟩ := h; rfl)
    | (obtain ⟨_, _, rfl, _⟩ := h; rfl)
    | (obtain ⟨_, _, _, rfl, _⟩ := h; rfl)
    | (obtain ⟨_, _, _, _, rfl, _⟩ := h; rfl)
    | (obtain ⟨_, _, _, _, _, rfl, _⟩ := h; rfl)
    | (obtain ⟨_, _, _, _, _, _, rfl, _⟩ := h; rfl)
    | (obtain ⟨_, _, _, _, _, _, _, rfl, _⟩ := h; rfl)) p__law_worth
theorem F_lnum (T : TT w K mg) : FnG P w K mg base 1 "_law_number" [] gNum := ok__law_number T (k := 0) (fun ds S Q E h => by
    first
    | (obtain ⟨_, rfl, _⟩ := h; rfl)
    | (obtain ⟨_, _, rfl, _⟩ := h; rfl)
    | (obtain ⟨_, _, _, rfl, _⟩ := h; rfl)
    | (obtain ⟨_, _, _, _, rfl, _⟩ := h; rfl)
    | (obtain ⟨_, _, _, _, _, rfl, _⟩ := h; rfl)
    | (obtain ⟨_, _, _, _, _, _, rfl, _⟩ := h; rfl)
    | (obtain ⟨_, _, _, _, _, _, _, rfl, _⟩ := h; rfl)) p__law_number
theorem F_lpiece (T : TT w K mg) : FnG P w K mg base 1 "_law_piece" [] gPieceL := ok__law_piece T (k := 0) (fun ds S Q E h => by
    first
    | (obtain ⟨_, rfl, _⟩ := h; rfl)
    | (obtain ⟨_, _, rfl, _⟩ := h; rfl)
    | (obtain ⟨_, _, _, rfl, _⟩ := h; rfl)
    | (obtain ⟨_, _, _, _, rfl, _⟩ := h; rfl)
    | (obtain ⟨_, _, _, _, _, rfl, _⟩ := h; rfl)
    | (obtain ⟨_, _, _, _, _, _, rfl, _⟩ := h; rfl)
    | (obtain ⟨_, _, _, _, _, _, _, rfl, _⟩ := h; rfl)) p__law_piece
theorem F_text (T : TT w K mg) : FnG P w K mg base 4 "_law_text" [] (gDrawn 200 60) := ok__law_text T (k := 3) (F_draw T) (by decide) (F_worth T) (by decide) (fun ds S Q E h => by
    first
    | (obtain ⟨_, rfl, _⟩ := h; rfl)
    | (obtain ⟨_, _, rfl, _⟩ := h; rfl)
    | (obtain ⟨_, _, _, rfl, _⟩ := h; rfl)
    | (obtain ⟨_, _, _, _, rfl, _⟩ := h; rfl)
    | (obtain ⟨_, _, _, _, _, rfl, _⟩ := h; rfl)
    | (obtain ⟨_, _, _, _, _, _, rfl, _⟩ := h; rfl)
    | (obtain ⟨_, _, _, _, _, _, _, rfl, _⟩ := h; rfl)) p__law_text
theorem F_nth (T : TT w K mg) : FnG P w K mg base 2 "_law_nth" [] gNth := ok__law_nth T (k := 1) (F_draw T) (by decide) (fun ds S Q E h => by
    first
    | (obtain ⟨_, rfl, _⟩ := h; rfl)
    | (obtain ⟨_, _, rfl, _⟩ := h; rfl)
    | (obtain ⟨_, _, _, rfl, _⟩ := h; rfl)
    | (obtain ⟨_, _, _, _, rfl, _⟩ := h; rfl)
    | (obtain ⟨_, _, _, _, _, rfl, _⟩ := h; rfl)
    | (obtain ⟨_, _, _, _, _, _, rfl, _⟩ := h; rfl)
    | (obtain ⟨_, _, _, _, _, _, _, rfl, _⟩ := h; rfl)) p__law_nth
theorem F_right (T : TT w K mg) : FnG P w K mg base 7 "_law_pieces_right" [] (gRight K) := ok__law_pieces_right T (k := 6) (F_lpiece T) (by decide) (F_lnum T) (by decide) (F_reckon T) (by decide) (fun ds S Q E h => by
    first
    | (obtain ⟨_, rfl, _⟩ := h; rfl)
    | (obtain ⟨_, _, rfl, _⟩ := h; rfl)
    | (obtain ⟨_, _, _, rfl, _⟩ := h; rfl)
    | (obtain ⟨_, _, _, _, rfl, _⟩ := h; rfl)
    | (obtain ⟨_, _, _, _, _, rfl, _⟩ := h; rfl)
    | (obtain ⟨_, _, _, _, _, _, rfl, _⟩ := h; rfl)
    | (obtain ⟨_, _, _, _, _, _, _, rfl, _⟩ := h; rfl)) (p__law_pieces_right K)
theorem F_partR (T : TT w K mg) : FnG P w K mg base 7 "_law_part_right" [] (gPartR K) := ok__law_part_right T (k := 6) (F_lnum T) (by decide) (F_reckon T) (by decide) (fun ds S Q E h => by
    first
    | (obtain ⟨_, rfl, _⟩ := h; rfl)
    | (obtain ⟨_, _, rfl, _⟩ := h; rfl)
    | (obtain ⟨_, _, _, rfl, _⟩ := h; rfl)
    | (obtain ⟨_, _, _, _, rfl, _⟩ := h; rfl)
    | (obtain ⟨_, _, _, _, _, rfl, _⟩ := h; rfl)
    | (obtain ⟨_, _, _, _, _, _, rfl, _⟩ := h; rfl)
    | (obtain ⟨_, _, _, _, _, _, _, rfl, _⟩ := h; rfl)) (p__law_part_right K)
theorem F_law (T : TT w K mg) : FnG P w K mg base 8 "law" [] gLaw := ok_law T (k := 7) (F_Scene_init T) (by decide) (F_Dealings_init T) (by decide) (F_Arrays_init T) (by decide) (F_bag T) (by decide) (F_cell T) (by decide) (F_text T) (by decide) (F_draw T) (by decide) (F_reckon T) (by decide) (F_right T) (by decide) (F_nth T) (by decide) (F_partR T) (by decide) (fun ds S Q E h => by
    first
    | (obtain ⟨_, rfl, _⟩ := h; rfl)
    | (obtain ⟨_, _, rfl, _⟩ := h; rfl)
    | (obtain ⟨_, _, _, rfl, _⟩ := h; rfl)
    | (obtain ⟨_, _, _, _, rfl, _⟩ := h; rfl)
    | (obtain ⟨_, _, _, _, _, rfl, _⟩ := h; rfl)
    | (obtain ⟨_, _, _, _, _, _, rfl, _⟩ := h; rfl)
    | (obtain ⟨_, _, _, _, _, _, _, rfl, _⟩ := h; rfl)) (p_law K)
end
theorem fn_law {w : World} {K : PySem.W.Frag} {mg : Str → Option Value} {base : Heap} {fa : Addr} {fd : FuncData} (T : TT w K mg) (F : FunD K "law" "law" (defArgs s_law) (defBody s_law) (defScope s_law) [] [] fa fd) : FnOk P w K mg base (CX P w) 8 fa fd ["script"] (spOf K gLaw) :=
  fn_okD F sc_law (fun ds S Q E h => by
    first
    | (obtain ⟨_, rfl, _⟩ := h; rfl)
    | (obtain ⟨_, _, rfl, _⟩ := h; rfl)
    | (obtain ⟨_, _, _, rfl, _⟩ := h; rfl)
    | (obtain ⟨_, _, _, _, rfl, _⟩ := h; rfl)
    | (obtain ⟨_, _, _, _, _, rfl, _⟩ := h; rfl)
    | (obtain ⟨_, _, _, _, _, _, rfl, _⟩ := h; rfl)
    | (obtain ⟨_, _, _, _, _, _, _, rfl, _⟩ := h; rfl)) fun f cdv A outer s H E h => ⟨_, q_law T (F_Scene_init T) (by decide) (F_Dealings_init T) (by decide) (F_Arrays_init T) (by decide) (F_bag T) (by decide) (F_cell T) (by decide) (F_text T) (by decide) (F_draw T) (by decide) (F_reckon T) (by decide) (F_right T) (by decide) (F_nth T) (by decide) (F_partR T) (by decide) h, p_law K⟩
end G
open PySem PySem.W PySem.Calls PyProof.Rows
theorem PySem.Challenge.cw_stemkeep_k34_pieces_and_parts_holds : PySem.Challenge.rw_stemkeep_k34_pieces_and_parts.Holds := by
  w_on; o_law
  refine HandSHeadRun.head_any (r := OpenLaw.row PySem.Challenge.rw_stemkeep_k34_pieces_and_parts) (q := view (OpenLaw.row PySem.Challenge.rw_stemkeep_k34_pieces_and_parts).prog [66]) (H := G.hk) (ob := G.ob) (M := 6000) (loose := G.loose) (d := HandSHeadRun.topDef (OpenLaw.row PySem.Challenge.rw_stemkeep_k34_pieces_and_parts).prog 66) (kwd := []) G.ob_eq
    (by kernel_rfl) (fun s => by kernel_rfl) G.run (by kernel_rfl) (by kernel_rfl) (by kernel_rfl) (by rfl) (by first | assumption | decide +kernel) (by decide +kernel) ⟨rfl, rfl, rfl, rfl, rfl, by decide +kernel⟩ ?hw ?hc
  case hw => w_witness2
  case hc =>
    refine Q.walk_ofX (l := PySem.Challenge.rw_stemkeep_k34_pieces_and_parts) (n := 63) (k := 8) (x := "script") rfl (by decide) (by kernel_rfl) ⟨rfl, by decide, by decide⟩ ?F
    intro w mg fa h Y N hmg0
    obtain ⟨K, KX, c⟩ := Y
    have T : G.TT w K mg := ⟨⟨h, KX, N⟩, c⟩
    have hmg : mg ("law" : PySem.Str) = some (.ref fa) := by
      have e : (HandSHeadRun.topDef (OpenLaw.row PySem.Challenge.rw_stemkeep_k34_pieces_and_parts).prog 66).name = ("law" : PySem.Str) := by kernel_rfl
      rw [← e]
      exact hmg0
    obtain ⟨fd, F⟩ := G.fd_law T
    have e := hmg.symm.trans (G.gl_law T)
    cases e
    have b := L2.FunD.bindsA (ps := ["script"]) F fun _ _ _ _ _ _ us hl => match us, hl with | [_], _ => rfl
    exact ⟨K, fd, G.gLaw, KX, fun s v => b s [v] rfl, fun ns hl => ⟨ns, rfl, hl, fun _ => rfl⟩, fun base _ _ => G.fn_law T F⟩

