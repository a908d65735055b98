import PyProof.Rows.All
import Wide.All
import OpenK.AllK
import Wide.FinOn
import HandS.ForMost
import HandS.Exc
import HandS.TryOnly
import HandS.ExcOwn
import HandS.WordsExc
import HandS.ExcInit
import HandS.IsInst
import HandS.TupAny
import HandS.TupMul
import HandS.Wide
import HandS.Zip
import KE.DataMinMax
import HandS.Ends
import HandS.EndBits
import PyProof.FactsLen
import HandS.Style
import KE.KUnpackStar
import HandS.Conv
import HandS.NoneIn
import HandS.More
import HandS.TupLe
import KE.KRevSl
import PyProof.Rows.IntBool
import PyProof.StrLawsRepr
import PySem.Challenge.RW_gapgrades_k06_what_is_a_scale
set_option Elab.async false
set_option linter.all false
set_option maxRecDepth 100000
set_option maxHeartbeats 4000000
namespace G6
open PySem PySem.Spec L2

/-- pure data -/
inductive D where
  | non | bl (b : Bool) | int (i : Int) | str (s : Str)
  | lst (ds : List D) | tup (ds : List D)
  | dic (ks : List Key) (ds : List D) | dct (ks : List (List Key)) (ds : List D)
  | ins (c : Str) (fs : List Str) (ds : List D)
  | obj (n : Nat) | ty (n : String) | fn (x : Str) | scr (ns : List Int)
  deriving Inhabited

/-- the addresses of own classes and defs by name -/
structure Tab where
  cl : Str → Option Addr
  fn : Str → Option Addr

section
variable (K : PySem.W.Frag) (T : Tab) (r : List Addr) (Hi : Hp)
mutual
inductive Rep : V → D → Prop
  | non : Rep .non .non
  | bl (b : Bool) : Rep (.bl b) (.bl b)
  | int (i : Int) : Rep (.int i) (.int i)
  | str (s : Str) : Rep (.str s) (.str s)
  | lst {a : Addr} {xs : List V} {ds : List D} : Hi a = some (.lst xs) → RepAll xs ds → Rep (.ref a) (.lst ds)
  | tup {a : Addr} {xs : List V} {ds : List D} : SqT K Hi a xs → RepAll xs ds → Rep (.ref a) (.tup ds)
  | dic {a : Addr} {kvs : List (Key × V)} {ds : List D} : Hi a = some (.dK kvs) → RepAll (kvs.map (·.2)) ds → Rep (.ref a) (.dic (kvs.map (·.1)) ds)
  | dct {a : Addr} {kvs : List (List Key × V)} {ds : List D} : Hi a = some (.dT kvs) → RepAll (kvs.map (·.2)) ds → Rep (.ref a) (.dct (kvs.map (·.1)) ds)
  | ins {a c dx : Addr} {fs : List (Str × V)} {ds : List D} {x : Str} : Hi a = some (.ins c dx fs) → T.cl x = some c → RepAll (fs.map (·.2)) ds → Rep (.ref a) (.ins x (fs.map (·.1)) ds)
  | obj {n : Nat} {a : Addr} : r[n]? = some a → Rep (.ref a) (.obj n)
  | ty (n : String) : Rep (.ty n) (.ty n)
  | fn {x : Str} {a : Addr} : T.fn x = some a → Rep (.ref a) (.fn x)
  | scr {a : Addr} {ns : List Int} : SqL K Hi a (ns.map V.int) → Rep (.ref a) (.scr ns)
inductive RepAll : List V → List D → Prop
  | nil : RepAll [] []
  | cons {v : V} {vs : List V} {d : D} {ds : List D} : Rep v d → RepAll vs ds → RepAll (v :: vs) (d :: ds)
end
end

/-- more is known -/
structure Ge (r : List Addr) (Hi : Hp) (r' : List Addr) (Hi' : Hp) : Prop where
  r : r <+: r'
  h : ∀ a o, Hi a = some o → Hi' a = some o
theorem Ge.refl {r : List Addr} {Hi : Hp} : Ge r Hi r Hi := ⟨List.prefix_refl _, fun _ _ h => h⟩
theorem Ge.trans {r r1 r2 : List Addr} {Hi H1 H2 : Hp} (a : Ge r Hi r1 H1) (b : Ge r1 H1 r2 H2) : Ge r Hi r2 H2 := ⟨a.r.trans b.r, fun c o h => b.h c o (a.h c o h)⟩
theorem Ge.at {r r' : List Addr} {Hi Hi' : Hp} (g : Ge r Hi r' Hi') {n : Nat} {a : Addr} (h : r[n]? = some a) : r'[n]? = some a := by
  obtain ⟨t, rfl⟩ := g.r
  obtain ⟨hn, e⟩ := List.getElem?_eq_some_iff.mp h
  rw [List.getElem?_append_left hn]
  exact h
theorem SqT.mono {K : PySem.W.Frag} {H H' : Hp} {a : Addr} {xs : List V} (g : ∀ a o, H a = some o → H' a = some o) (h : SqT K H a xs) : SqT K H' a xs := by
  rcases h with (h | ⟨o, h⟩) | h
  · exact .inl (.inl (g _ _ h))
  · exact .inl (.inr ⟨o, g _ _ h⟩)
  · exact .inr h
theorem SqL.mono {K : PySem.W.Frag} {H H' : Hp} {a : Addr} {xs : List V} (g : ∀ a o, H a = some o → H' a = some o) (h : SqL K H a xs) : SqL K H' a xs := by
  rcases h with (h | ⟨o, h⟩) | h
  · exact .inl (.inl (g _ _ h))
  · exact .inl (.inr ⟨o, g _ _ h⟩)
  · exact .inr h
section
variable {K : PySem.W.Frag} {T : Tab} {r r' : List Addr} {Hi Hi' : Hp}
mutual
theorem Rep.mono (g : Ge r Hi r' Hi') : ∀ {v : V} {d : D}, Rep K T r Hi v d → Rep K T r' Hi' v d
  | _, _, .non => .non
  | _, _, .bl b => .bl b
  | _, _, .int i => .int i
  | _, _, .str s => .str s
  | _, _, .lst h a => .lst (g.h _ _ h) (RepAll.mono g a)
  | _, _, .tup h a => .tup (G6.SqT.mono g.h h) (RepAll.mono g a)
  | _, _, .dic h a => .dic (g.h _ _ h) (RepAll.mono g a)
  | _, _, .dct h a => .dct (g.h _ _ h) (RepAll.mono g a)
  | _, _, .ins h c a => .ins (g.h _ _ h) c (RepAll.mono g a)
  | _, _, .obj h => .obj (g.at h)
  | _, _, .ty n => .ty n
  | _, _, .fn h => .fn h
  | _, _, .scr h => .scr (G6.SqL.mono g.h h)
theorem RepAll.mono (g : Ge r Hi r' Hi') : ∀ {vs : List V} {ds : List D}, RepAll K T r Hi vs ds → RepAll K T r' Hi' vs ds
  | _, _, .nil => .nil
  | _, _, .cons h t => .cons (Rep.mono g h) (RepAll.mono g t)
end
theorem RepAll.length : ∀ {vs : List V} {ds : List D}, RepAll K T r Hi vs ds → vs.length = ds.length
  | _, _, .nil => rfl
  | _, _, .cons _ t => congrArg (· + 1) t.length
theorem RepAll.get : ∀ {vs : List V} {ds : List D} {i : Nat} {d : D}, RepAll K T r Hi vs ds → ds[i]? = some d → ∃ v, vs[i]? = some v ∧ Rep K T r Hi v d
  | _, _, _, _, .nil, e => by simp at e
  | _, _, 0, _, .cons h _, e => by simp at e; subst e; exact ⟨_, rfl, h⟩
  | _, _, i + 1, d, .cons _ t, e => by
    obtain ⟨v, h1, h2⟩ := RepAll.get (i := i) (d := d) t (by simpa using e)
    exact ⟨v, by simpa using h1, h2⟩
theorem RepAll.app : ∀ {vs ws : List V} {ds es : List D}, RepAll K T r Hi vs ds → RepAll K T r Hi ws es → RepAll K T r Hi (vs ++ ws) (ds ++ es)
  | _, _, _, _, .nil, s => s
  | _, _, _, _, .cons h t, s => .cons h (RepAll.app t s)
theorem RepAll.take : ∀ {vs : List V} {ds : List D} (n : Nat), RepAll K T r Hi vs ds → RepAll K T r Hi (vs.take n) (ds.take n)
  | _, _, 0, _ => .nil
  | _, _, _ + 1, .nil => .nil
  | _, _, n + 1, .cons h t => .cons h (RepAll.take n t)
theorem RepAll.drop : ∀ {vs : List V} {ds : List D} (n : Nat), RepAll K T r Hi vs ds → RepAll K T r Hi (vs.drop n) (ds.drop n)
  | _, _, 0, h => h
  | _, _, _ + 1, .nil => .nil
  | _, _, n + 1, .cons _ t => RepAll.drop n t
theorem RepAll.set {v : V} {d : D} (h : Rep K T r Hi v d) : ∀ {vs : List V} {ds : List D} (i : Nat), RepAll K T r Hi vs ds → RepAll K T r Hi (vs.set i v) (ds.set i d)
  | _, _, _, .nil => .nil
  | _, _, 0, .cons _ t => .cons h t
  | _, _, i + 1, .cons q t => .cons q (RepAll.set h i t)
theorem RepAll.ints : ∀ (ns : List Int), RepAll K T r Hi (ns.map V.int) (ns.map D.int)
  | [] => .nil
  | n :: r => .cons (.int n) (RepAll.ints r)
/-- the values of ints -/
theorem RepAll.ofInts : ∀ {vs : List V} {ns : List Int}, RepAll K T r Hi vs (ns.map D.int) → vs = ns.map V.int
  | [], [], _ => rfl
  | _, _ :: _, .cons (.int _) t => by rw [List.map_cons, RepAll.ofInts t]
theorem RepAll.ofBls : ∀ {vs : List V} {ns : List Bool}, RepAll K T r Hi vs (ns.map D.bl) → vs = ns.map V.bl
  | [], [], _ => rfl
  | _, _ :: _, .cons (.bl _) t => by rw [List.map_cons, RepAll.ofBls t]
theorem RepAll.ofStrs : ∀ {vs : List V} {ns : List Str}, RepAll K T r Hi vs (ns.map D.str) → vs = ns.map V.str
  | [], [], _ => rfl
  | _, _ :: _, .cons (.str _) t => by rw [List.map_cons, RepAll.ofStrs t]
theorem RepAll.rep {v : V} {d : D} (h : Rep K T r Hi v d) : ∀ n : Nat, RepAll K T r Hi (List.replicate n v) (List.replicate n d)
  | 0 => .nil
  | n + 1 => .cons h (RepAll.rep h n)
theorem RepAll.rev : ∀ {vs : List V} {ds : List D}, RepAll K T r Hi vs ds → RepAll K T r Hi vs.reverse ds.reverse
  | _, _, .nil => .nil
  | _, _, .cons h t => by
    rw [List.reverse_cons, List.reverse_cons]
    exact (RepAll.rev t).app (.cons h .nil)
end
end G6

namespace G6
open PySem PySem.Spec L2

/-- what is changed in place -/
inductive OV where
  | lst (ds : List D) | dic (kds : List (Key × D)) | dct (kds : List (List Key × D))
  deriving Inhabited
/-- a local's value -/
inductive LV where
  | un | dat (d : D) | own (o : OV)
  deriving Inhabited
/-- a shared object that is changed -/
inductive SO where
  | dic (kds : List (Key × D))
  | ins (c : Str) (fs : List (Str × D))
  deriving Inhabited
abbrev Ls := List LV
abbrev Gs := List SO
/-- an exception: its class, its own field -/
structure Exn where
  c : Str
  d : Option D
  deriving Inhabited

section
variable (K : PySem.W.Frag) (T : Tab) (r : List Addr) (Hi : Hp)
inductive PRep {κ : Type} : List (κ × V) → List (κ × D) → Prop
  | nil : PRep [] []
  | cons {k : κ} {v : V} {d : D} {vs : List (κ × V)} {ds : List (κ × D)} : Rep K T r Hi v d → PRep vs ds → PRep ((k, v) :: vs) ((k, d) :: ds)
inductive OwnRel : HO → OV → Prop
  | lst {xs ds} : RepAll K T r Hi xs ds → OwnRel (.lst xs) (.lst ds)
  | dic {kvs : List (Key × V)} {ds} : PRep K T r Hi kvs ds → OwnRel (.dK kvs) (.dic ds)
  | dct {kvs : List (List Key × V)} {ds} : PRep K T r Hi kvs ds → OwnRel (.dT kvs) (.dct ds)
inductive SORel : HO → SO → Prop
  | dic {kvs : List (Key × V)} {ds} : PRep K T r Hi kvs ds → SORel (.dK kvs) (.dic ds)
  | ins {c dx : Addr} {fs : List (Str × V)} {ds x} : T.cl x = some c → PRep K T r Hi fs ds → SORel (.ins c dx fs) (.ins x ds)
end
theorem PRep.mono {K T r r' Hi Hi'} {κ : Type} (g : Ge r Hi r' Hi') : ∀ {vs : List (κ × V)} {ds : List (κ × D)}, PRep K T r Hi vs ds → PRep K T r' Hi' vs ds
  | _, _, .nil => .nil
  | _, _, .cons h t => .cons (h.mono g) (PRep.mono g t)
theorem PRep.all {K T r Hi} {κ : Type} : ∀ {vs : List (κ × V)} {ds : List (κ × D)}, PRep K T r Hi vs ds → vs.map (·.1) = ds.map (·.1) ∧ RepAll K T r Hi (vs.map (·.2)) (ds.map (·.2))
  | _, _, .nil => ⟨rfl, .nil⟩
  | _, _, .cons h t => ⟨by rw [List.map_cons, List.map_cons, (PRep.all t).1], .cons h (PRep.all t).2⟩
theorem PRep.len {K T r Hi} {κ : Type} {vs : List (κ × V)} {ds : List (κ × D)} (h : PRep K T r Hi vs ds) : vs.length = ds.length := by
  have := congrArg List.length h.all.1
  rwa [List.length_map, List.length_map] at this
theorem OwnRel.mono {K T r r' Hi Hi' ho o} (g : Ge r Hi r' Hi') : OwnRel K T r Hi ho o → OwnRel K T r' Hi' ho o
  | .lst h => .lst (h.mono g)
  | .dic h => .dic (h.mono g)
  | .dct h => .dct (h.mono g)
theorem SORel.mono {K T r r' Hi Hi' ho o} (g : Ge r Hi r' Hi') : SORel K T r Hi ho o → SORel K T r' Hi' ho o
  | .dic h => .dic (h.mono g)
  | .ins c h => .ins c (h.mono g)

/-- a state to which others are held: the heap, what may be changed, the fixed part -/
structure Base where
  H0 : Hp
  f0 : Addr → Prop
  I0 : Hp
def Own (σ : St) (ls : Ls) (a : Addr) : Prop := ∃ (i : Nat) (o : OV), ls[i]? = some (.own o) ∧ σ[i]? = some (some (.ref a))

structure Rel (K : PySem.W.Frag) (T : Tab) (B : Base) (r : List Addr) (Hi H : Hp) (σ : St) (ls : Ls) (g : Gs) : Prop where
  sub : ∀ a o, Hi a = some o → H a = some o
  len : σ.length = ls.length
  loc : ∀ (i : Nat) (d : D), ls[i]? = some (.dat d) → ∃ v, σ[i]? = some (some v) ∧ Rep K T r Hi v d
  own : ∀ (i : Nat) (o : OV), ls[i]? = some (.own o) → ∃ a ho, σ[i]? = some (some (.ref a)) ∧ H a = some ho ∧ OwnRel K T r Hi ho o ∧ Hi a = none ∧ a ∉ r
  sep : ∀ (i j : Nat) (oi oj : OV) (a : Addr), ls[i]? = some (.own oi) → ls[j]? = some (.own oj) → σ[i]? = some (some (.ref a)) → σ[j]? = some (some (.ref a)) → i = j
  rlen : r.length = g.length
  rnd : r.Nodup
  sto : ∀ (n : Nat) (so : SO), g[n]? = some so → ∃ a ho, r[n]? = some a ∧ H a = some ho ∧ SORel K T r Hi ho so ∧ Hi a = none
  i0 : ∀ a o, B.I0 a = some o → Hi a = some o
  keep : ∀ a o, B.H0 a = some o → ¬ B.f0 a → H a = some o
  dom : ∀ a, B.H0 a ≠ none → H a ≠ none
  newO : ∀ a, Own σ ls a → B.f0 a ∨ B.H0 a = none
  newR : ∀ a, a ∈ r → B.f0 a ∨ B.H0 a = none
  newI : ∀ a, Hi a ≠ none → B.I0 a ≠ none ∨ B.f0 a ∨ B.H0 a = none

/-- this very state as a base, the locals aside -/
def Base.at (H : Hp) (r : List Addr) (Hi : Hp) : Base := ⟨H, fun a => a ∈ r, Hi⟩
/-- with the locals -/
def Base.all (H : Hp) (r : List Addr) (Hi : Hp) (σ : St) (ls : Ls) : Base := ⟨H, fun a => a ∈ r ∨ Own σ ls a, Hi⟩

section
variable {K : PySem.W.Frag} {T : Tab} {B : Base} {r r' : List Addr} {Hi Hi' H H' : Hp} {σ σ' : St} {ls ls' : Ls} {g g' : Gs}
theorem Rel.bare (h : Rel K T B r Hi H σ ls g) : Rel K T B r Hi H [] [] g :=
  ⟨h.sub, rfl, fun i d e => by simp at e, fun i d e => by simp at e, fun i j oi oj a e => by simp at e, h.rlen, h.rnd, h.sto, h.i0, h.keep, h.dom, fun a ⟨i, o, e, _⟩ => by simp at e, h.newR, h.newI⟩
theorem Rel.at (h : Rel K T B r Hi H σ ls g) : Rel K T (Base.at H r Hi) r Hi H [] [] g :=
  ⟨h.sub, rfl, fun i d e => by simp at e, fun i d e => by simp at e, fun i j oi oj a e => by simp at e, h.rlen, h.rnd, h.sto, fun _ _ e => e, fun _ _ e _ => e, fun _ e => e, fun a ⟨i, o, e, _⟩ => by simp at e, fun a e => .inl e, fun a e => .inl e⟩
theorem Rel.all (h : Rel K T B r Hi H σ ls g) : Rel K T (Base.all H r Hi σ ls) r Hi H σ ls g :=
  ⟨h.sub, h.len, h.loc, h.own, h.sep, h.rlen, h.rnd, h.sto, fun _ _ e => e, fun _ _ e _ => e, fun _ e => e, fun a e => .inl (.inr e), fun a e => .inl (.inl e), fun a e => .inl e⟩
theorem Rel.isOwn (h : Rel K T B r Hi H σ ls g) {a : Addr} (o : Own σ ls a) : Hi a = none ∧ a ∉ r ∧ H a ≠ none := by
  obtain ⟨i, o, e1, e2⟩ := o
  obtain ⟨b, ho, q1, q2, _, q3, q4⟩ := h.own i o e1
  rw [e2] at q1
  cases q1
  exact ⟨q3, q4, by rw [q2]; simp⟩
theorem Rel.inR (h : Rel K T B r Hi H σ ls g) {a : Addr} (e : a ∈ r) : Hi a = none ∧ H a ≠ none := by
  obtain ⟨n, hn, rfl⟩ := List.mem_iff_getElem.mp e
  have hg : n < g.length := by rw [← h.rlen]; exact hn
  obtain ⟨a, ho, q1, q2, _, q3⟩ := h.sto n g[n] (List.getElem?_eq_getElem hg)
  rw [List.getElem?_eq_getElem hn] at q1
  cases q1
  exact ⟨q3, by rw [q2]; simp⟩
/-- a call has run: the locals stand -/
theorem Rel.back (h : Rel K T B r Hi H σ ls g) (k : Rel K T (Base.at H r Hi) r' Hi' H' [] [] g') (ge : Ge r Hi r' Hi') : Rel K T B r' Hi' H' σ ls g' := by
  have own : ∀ a, Own σ ls a → Hi' a = none ∧ a ∉ r' ∧ ∀ o, H a = some o → H' a = some o := fun a o => by
    obtain ⟨q1, q2, q3⟩ := h.isOwn o
    refine ⟨?_, fun z => ?_, fun o e => k.keep a o e q2⟩
    · cases e : Hi' a with
      | none => rfl
      | some o =>
        rcases k.newI a (by rw [e]; simp) with z | z | z
        · exact absurd q1 z
        · exact absurd z q2
        · exact absurd z q3
    · rcases k.newR a z with z | z
      · exact q2 z
      · exact q3 z
  refine ⟨k.sub, h.len, fun i d e => ?_, fun i o e => ?_, h.sep, k.rlen, k.rnd, k.sto, fun a o e => k.i0 a o (h.i0 a o e), fun a o e n => ?_, fun a e => k.dom a (h.dom a e), h.newO, fun a e => ?_, fun a e => ?_⟩
  · obtain ⟨v, q, p⟩ := h.loc i d e
    exact ⟨v, q, p.mono ge⟩
  · obtain ⟨a, ho, q1, q2, q3, q4, q5⟩ := h.own i o e
    obtain ⟨p1, p2, p3⟩ := own a ⟨i, o, e, q1⟩
    exact ⟨a, ho, q1, p3 _ q2, q3.mono ge, p1, p2⟩
  · have q := h.keep a o e n
    refine k.keep a o q fun z => ?_
    rcases h.newR a z with w | w
    · exact n w
    · rw [w] at e; cases e
  · rcases k.newR a e with z | z
    · exact h.newR a z
    · right
      cases q : B.H0 a with
      | none => rfl
      | some o => exact absurd z (h.dom a (by rw [q]; simp))
  · rcases k.newI a e with z | z | z
    · exact h.newI a z
    · exact (h.newR a z).elim (fun w => .inr (.inl w)) fun w => .inr (.inr w)
    · right; right
      cases q : B.H0 a with
      | none => rfl
      | some o => exact absurd z (h.dom a (by rw [q]; simp))
/-- another base: what ran from this state on -/
theorem Rel.thru (h : Rel K T B r Hi H σ ls g) (k : Rel K T (Base.all H r Hi σ ls) r' Hi' H' σ' ls' g') : Rel K T B r' Hi' H' σ' ls' g' := by
  have nw : ∀ a, H a = none → B.H0 a = none := fun a z => by
    cases q : B.H0 a with
    | none => rfl
    | some o => exact absurd z (h.dom a (by rw [q]; simp))
  have old : ∀ a, (Base.all H r Hi σ ls).f0 a → B.f0 a ∨ B.H0 a = none := fun a z => z.elim (h.newR a) (h.newO a)
  refine ⟨k.sub, k.len, k.loc, k.own, k.sep, k.rlen, k.rnd, k.sto, fun a o e => k.i0 a o (h.i0 a o e), fun a o e n => ?_, fun a e => k.dom a (h.dom a e), fun a e => ?_, fun a e => ?_, fun a e => ?_⟩
  · refine k.keep a o (h.keep a o e n) fun z => ?_
    rcases old a z with w | w
    · exact n w
    · rw [w] at e; cases e
  · exact (k.newO a e).elim (old a) fun z => .inr (nw a z)
  · exact (k.newR a e).elim (old a) fun z => .inr (nw a z)
  · rcases k.newI a e with z | z | z
    · exact h.newI a z
    · exact .inr (old a z)
    · exact .inr (.inr (nw a z))
/-- a new object that is never changed -/
theorem Rel.fix (h : Rel K T B r Hi H σ ls g) {p : Addr} {o : HO} (hp : H p = none) : Rel K T B r (upd Hi p o) (upd H p o) σ ls g ∧ Ge r Hi r (upd Hi p o) := by
  have hip : Hi p = none := by
    cases e : Hi p with
    | none => rfl
    | some u => rw [h.sub p u e] at hp; cases hp
  have ge : Ge r Hi r (upd Hi p o) := ⟨List.prefix_refl _, fun a u e => by rw [upd_ne (ne_of_none e hip)]; exact e⟩
  have up : ∀ a u, H a = some u → upd H p o a = some u := fun a u e => by rw [upd_ne (ne_of_none e hp)]; exact e
  refine ⟨⟨fun a u e => ?_, h.len, fun i d e => ?_, fun i q e => ?_, h.sep, h.rlen, h.rnd, fun n so e => ?_, fun a u e => ge.h _ _ (h.i0 a u e), fun a u e n => up _ _ (h.keep a u e n), fun a e => ?_, h.newO, h.newR, fun a e => ?_⟩, ge⟩
  · by_cases z : a = p
    · subst z; rw [upd_same] at e; rw [upd_same]; exact e
    · rw [upd_ne z] at e; rw [upd_ne z]; exact h.sub a u e
  · obtain ⟨v, q, k⟩ := h.loc i d e
    exact ⟨v, q, k.mono ge⟩
  · obtain ⟨a, ho, q1, q2, q3, q4, q5⟩ := h.own i q e
    exact ⟨a, ho, q1, up _ _ q2, q3.mono ge, by rw [upd_ne (ne_of_none q2 hp)]; exact q4, q5⟩
  · obtain ⟨a, ho, q1, q2, q3, q4⟩ := h.sto n so e
    exact ⟨a, ho, q1, up _ _ q2, q3.mono ge, by rw [upd_ne (ne_of_none q2 hp)]; exact q4⟩
  · have q := h.dom a e
    cases e2 : H a with
    | none => exact absurd e2 q
    | some u => rw [up _ _ e2]; simp
  · by_cases z : a = p
    · subst z
      right; right
      cases q : B.H0 a with
      | none => rfl
      | some u => exact absurd hp (h.dom a (by rw [q]; simp))
    · rw [upd_ne z] at e
      exact h.newI a e
/-- an object that nobody looks at -/
theorem Rel.junk (h : Rel K T B r Hi H σ ls g) {p : Addr} {o : HO} (hp : H p = none) : Rel K T B r Hi (upd H p o) σ ls g := by
  have up : ∀ a u, H a = some u → upd H p o a = some u := fun a u e => by rw [upd_ne (ne_of_none e hp)]; exact e
  refine ⟨fun a u e => up _ _ (h.sub a u e), h.len, h.loc, fun i q e => ?_, h.sep, h.rlen, h.rnd, fun n so e => ?_, h.i0, fun a u e n => up _ _ (h.keep a u e n), fun a e => ?_, h.newO, h.newR, h.newI⟩
  · obtain ⟨a, ho, q1, q2, q3, q4, q5⟩ := h.own i q e
    exact ⟨a, ho, q1, up _ _ q2, q3, q4, q5⟩
  · obtain ⟨a, ho, q1, q2, q3, q4⟩ := h.sto n so e
    exact ⟨a, ho, q1, up _ _ q2, q3, q4⟩
  · have q := h.dom a e
    cases e2 : H a with
    | none => exact absurd e2 q
    | some u => rw [up _ _ e2]; simp
/-- a local gets data -/
theorem Rel.setD (h : Rel K T B r Hi H σ ls g) {i : Nat} {v : V} {d : D} (q : Rep K T r Hi v d) : Rel K T B r Hi H (σ.set i (some v)) (ls.set i (.dat d)) g := by
  have at_ : ∀ (j : Nat) (x : LV), (ls.set i (.dat d))[j]? = some x → (j = i ∧ x = .dat d ∧ j < ls.length) ∨ (j ≠ i ∧ ls[j]? = some x) := fun j x e => by
    by_cases z : j = i
    · subst z
      rw [List.getElem?_set_self'] at e
      cases e2 : ls[j]? with
      | none => rw [e2] at e; cases e
      | some y =>
        rw [e2] at e
        cases e
        exact .inl ⟨rfl, rfl, (List.getElem?_eq_some_iff.mp e2).1⟩
    · rw [List.getElem?_set_ne (Ne.symm z)] at e
      exact .inr ⟨z, e⟩
  have σat : ∀ j : Nat, j ≠ i → (σ.set i (some v))[j]? = σ[j]? := fun j z => List.getElem?_set_ne (Ne.symm z)
  have ow : ∀ (j : Nat) (o : OV), (ls.set i (.dat d))[j]? = some (.own o) → j ≠ i ∧ ls[j]? = some (.own o) := fun j o e => by
    rcases at_ j _ e with ⟨_, z, _⟩ | z
    · cases z
    · exact z
  refine ⟨h.sub, by simpa using h.len, fun j x e => ?_, fun j o e => ?_, fun j k oj ok a e1 e2 e3 e4 => ?_, h.rlen, h.rnd, h.sto, h.i0, h.keep, h.dom, fun a ⟨j, o, e1, e2⟩ => ?_, h.newR, h.newI⟩
  · rcases at_ j _ e with ⟨rfl, z, hl⟩ | ⟨z, e⟩
    · cases z
      exact ⟨v, by rw [List.getElem?_set_self (by rw [h.len]; exact hl)], q⟩
    · obtain ⟨w, p1, p2⟩ := h.loc j x e
      exact ⟨w, by rw [σat j z]; exact p1, p2⟩
  · obtain ⟨z, e⟩ := ow j o e
    rw [σat j z]
    exact h.own j o e
  · obtain ⟨z1, e1⟩ := ow j oj e1
    obtain ⟨z2, e2⟩ := ow k ok e2
    rw [σat j z1] at e3
    rw [σat k z2] at e4
    exact h.sep j k oj ok a e1 e2 e3 e4
  · obtain ⟨z, e1⟩ := ow j o e1
    rw [σat j z] at e2
    exact h.newO a ⟨j, o, e1, e2⟩
/-- a local gets a new object of its own -/
theorem Rel.setO (h : Rel K T B r Hi H σ ls g) {i : Nat} {p : Addr} {ho : HO} {o : OV} (hp : H p = some ho) (q : OwnRel K T r Hi ho o) (hi : Hi p = none) (hr : p ∉ r) (hn : B.f0 p ∨ B.H0 p = none) (hno : ¬ Own σ ls p) :
    Rel K T B r Hi H (σ.set i (some (.ref p))) (ls.set i (.own o)) g := by
  have at_ : ∀ (j : Nat) (x : LV), (ls.set i (.own o))[j]? = some x → (j = i ∧ x = .own o ∧ j < ls.length) ∨ (j ≠ i ∧ ls[j]? = some x) := fun j x e => by
    by_cases z : j = i
    · subst z
      rw [List.getElem?_set_self'] at e
      cases e2 : ls[j]? with
      | none => rw [e2] at e; cases e
      | some y =>
        rw [e2] at e
        cases e
        exact .inl ⟨rfl, rfl, (List.getElem?_eq_some_iff.mp e2).1⟩
    · rw [List.getElem?_set_ne (Ne.symm z)] at e
      exact .inr ⟨z, e⟩
  have σat : ∀ j : Nat, j ≠ i → (σ.set i (some (V.ref p)))[j]? = σ[j]? := fun j z => List.getElem?_set_ne (Ne.symm z)
  have σi : ∀ j : Nat, j < ls.length → (σ.set j (some (V.ref p)))[j]? = some (some (V.ref p)) := fun j hl => List.getElem?_set_self (by rw [h.len]; exact hl)
  refine ⟨h.sub, by simpa using h.len, fun j x e => ?_, fun j u e => ?_, fun j k oj ok a e1 e2 e3 e4 => ?_, h.rlen, h.rnd, h.sto, h.i0, h.keep, h.dom, fun a ⟨j, u, e1, e2⟩ => ?_, h.newR, h.newI⟩
  · rcases at_ j _ e with ⟨rfl, z, hl⟩ | ⟨z, e⟩
    · cases z
    · obtain ⟨w, p1, p2⟩ := h.loc j x e
      exact ⟨w, by rw [σat j z]; exact p1, p2⟩
  · rcases at_ j _ e with ⟨rfl, z, hl⟩ | ⟨z, e⟩
    · cases z
      exact ⟨p, ho, σi _ hl, hp, q, hi, hr⟩
    · rw [σat j z]
      exact h.own j u e
  · rcases at_ j _ e1 with ⟨z1, w1, l1⟩ | ⟨z1, e5⟩
    · rcases at_ k _ e2 with ⟨z2, w2, l2⟩ | ⟨z2, e6⟩
      · rw [z1, z2]
      · subst z1
        rw [σi _ l1] at e3
        rw [σat k z2] at e4
        cases e3
        exact absurd ⟨k, ok, e6, e4⟩ hno
    · rcases at_ k _ e2 with ⟨z2, w2, l2⟩ | ⟨z2, e6⟩
      · subst z2
        rw [σi _ l2] at e4
        rw [σat j z1] at e3
        cases e4
        exact absurd ⟨j, oj, e5, e3⟩ hno
      · rw [σat j z1] at e3
        rw [σat k z2] at e4
        exact h.sep j k oj ok a e5 e6 e3 e4
  · rcases at_ j _ e1 with ⟨z1, w1, l1⟩ | ⟨z1, e1⟩
    · subst z1
      rw [σi _ l1] at e2
      cases e2
      exact hn
    · rw [σat j z1] at e2
      exact h.newO a ⟨j, u, e1, e2⟩
/-- .. one just made -/
theorem Rel.newO' (h : Rel K T B r Hi H σ ls g) {i : Nat} {p : Addr} {ho : HO} {o : OV} (hp : H p = none) (q : OwnRel K T r Hi ho o) :
    Rel K T B r Hi (upd H p ho) (σ.set i (some (.ref p))) (ls.set i (.own o)) g := by
  have j := h.junk (o := ho) hp
  refine j.setO upd_same q ?_ (fun z => (h.inR z).2 hp) ?_ fun z => (h.isOwn z).2.2 hp
  · cases e : Hi p with
    | none => rfl
    | some u => rw [h.sub p u e] at hp; cases hp
  · right
    cases e : B.H0 p with
    | none => rfl
    | some u => exact absurd hp (h.dom p (by rw [e]; simp))
/-- an own object changes -/
theorem Rel.updO (h : Rel K T B r Hi H σ ls g) {i : Nat} {p : Addr} {ho : HO} {o o' : OV} (hl : ls[i]? = some (.own o)) (hs : σ[i]? = some (some (.ref p))) (q : OwnRel K T r Hi ho o') :
    Rel K T B r Hi (upd H p ho) σ (ls.set i (.own o')) g := by
  obtain ⟨q1, q2, q3⟩ := h.isOwn ⟨i, o, hl, hs⟩
  have hil : i < ls.length := (List.getElem?_eq_some_iff.mp hl).1
  have at_ : ∀ (j : Nat) (x : LV), (ls.set i (.own o'))[j]? = some x → (j = i ∧ x = .own o') ∨ (j ≠ i ∧ ls[j]? = some x) := fun j x e => by
    by_cases z : j = i
    · subst z
      rw [List.getElem?_set_self hil] at e
      cases e
      exact .inl ⟨rfl, rfl⟩
    · rw [List.getElem?_set_ne (Ne.symm z)] at e
      exact .inr ⟨z, e⟩
  have iso : ∀ (j : Nat) (u : OV), (ls.set i (.own o'))[j]? = some (.own u) → ∃ u', ls[j]? = some (.own u') := fun j u e => by
    rcases at_ j _ e with ⟨z, _⟩ | ⟨z, e⟩
    · exact ⟨o, z ▸ hl⟩
    · exact ⟨u, e⟩
  refine ⟨fun a u e => ?_, by simpa using h.len, fun j x e => ?_, fun j u e => ?_, fun j k oj ok a e1 e2 e3 e4 => ?_, h.rlen, h.rnd, fun n so e => ?_, h.i0, fun a u e n => ?_, fun a e => ?_, fun a ⟨j, u, e1, e2⟩ => ?_, h.newR, h.newI⟩
  · rw [upd_ne (fun z => by rw [z, q1] at e; cases e)]
    exact h.sub a u e
  · rcases at_ j _ e with ⟨_, z⟩ | ⟨z, e⟩
    · cases z
    · exact h.loc j x e
  · rcases at_ j _ e with ⟨z, w⟩ | ⟨z, e⟩
    · cases w
      subst z
      exact ⟨p, ho, hs, upd_same, q, q1, q2⟩
    · obtain ⟨a, h2, p1, p2, p3, p4, p5⟩ := h.own j u e
      refine ⟨a, h2, p1, ?_, p3, p4, p5⟩
      rw [upd_ne (fun (w : a = p) => z (h.sep j i u o p e hl (w ▸ p1) hs))]
      exact p2
  · obtain ⟨uj, e1⟩ := iso j oj e1
    obtain ⟨uk, e2⟩ := iso k ok e2
    exact h.sep j k uj uk a e1 e2 e3 e4
  · obtain ⟨a, h2, p1, p2, p3, p4⟩ := h.sto n so e
    refine ⟨a, h2, p1, ?_, p3, p4⟩
    rw [upd_ne (fun (z : a = p) => q2 (z ▸ List.mem_of_getElem? p1))]
    exact p2
  · have z := h.keep a u e n
    rw [upd_ne (fun w => ?_)]
    · exact z
    · subst w
      rcases h.newO a ⟨i, o, hl, hs⟩ with w | w
      · exact n w
      · rw [w] at e; cases e
  · by_cases z : a = p
    · subst z; rw [upd_same]; simp
    · rw [upd_ne z]; exact h.dom a e
  · obtain ⟨uj, e1⟩ := iso j u e1
    exact h.newO a ⟨j, uj, e1, e2⟩
/-- an own list is data from now on -/
def OV.d : OV → D
  | .lst ds => .lst ds
  | .dic ds => .dic (ds.map (·.1)) (ds.map (·.2))
  | .dct ds => .dct (ds.map (·.1)) (ds.map (·.2))
theorem OwnRel.rep {a : Addr} {ho : HO} {o : OV} (hh : Hi a = some ho) : OwnRel K T r Hi ho o → Rep K T r Hi (.ref a) o.d
  | .lst h => .lst hh h
  | .dic h => by
    show Rep K T r Hi (.ref a) (.dic _ _)
    rw [← h.all.1]
    exact .dic hh h.all.2
  | .dct h => by
    show Rep K T r Hi (.ref a) (.dct _ _)
    rw [← h.all.1]
    exact .dct hh h.all.2
theorem Rel.freeze (h : Rel K T B r Hi H σ ls g) {i : Nat} {o : OV} (hl : ls[i]? = some (.own o)) : ∃ Hi', Rel K T B r Hi' H σ (ls.set i (.dat o.d)) g ∧ Ge r Hi r Hi' := by
  obtain ⟨p, ho, hs, hp, q, hi, hr⟩ := h.own i o hl
  have hil : i < ls.length := (List.getElem?_eq_some_iff.mp hl).1
  have ge : Ge r Hi r (upd Hi p ho) := ⟨List.prefix_refl _, fun a u e => by rw [upd_ne (ne_of_none e hi)]; exact e⟩
  have at_ : ∀ (j : Nat) (x : LV), (ls.set i (.dat o.d))[j]? = some x → (j = i ∧ x = .dat o.d) ∨ (j ≠ i ∧ ls[j]? = some x) := fun j x e => by
    by_cases z : j = i
    · subst z
      rw [List.getElem?_set_self hil] at e
      cases e
      exact .inl ⟨rfl, rfl⟩
    · rw [List.getElem?_set_ne (Ne.symm z)] at e
      exact .inr ⟨z, e⟩
  have ow : ∀ (j : Nat) (u : OV), (ls.set i (.dat o.d))[j]? = some (.own u) → j ≠ i ∧ ls[j]? = some (.own u) := fun j u e => by
    rcases at_ j _ e with ⟨_, z⟩ | z
    · cases z
    · exact z
  refine ⟨upd Hi p ho, ⟨fun a u e => ?_, by simpa using h.len, fun j x e => ?_, fun j u e => ?_, fun j k oj ok a e1 e2 e3 e4 => ?_, h.rlen, h.rnd, fun n so e => ?_, fun a u e => ge.h _ _ (h.i0 a u e), h.keep, h.dom, fun a ⟨j, u, e1, e2⟩ => ?_, h.newR, fun a e => ?_⟩, ge⟩
  · by_cases z : a = p
    · subst z; rw [upd_same] at e; cases e; exact hp
    · rw [upd_ne z] at e; exact h.sub a u e
  · rcases at_ j _ e with ⟨z, w⟩ | ⟨z, e⟩
    · cases w
      subst z
      exact ⟨_, hs, (q.mono ge).rep upd_same⟩
    · obtain ⟨w, p1, p2⟩ := h.loc j x e
      exact ⟨w, p1, p2.mono ge⟩
  · obtain ⟨z, e⟩ := ow j u e
    obtain ⟨a, h2, p1, p2, p3, p4, p5⟩ := h.own j u e
    refine ⟨a, h2, p1, p2, p3.mono ge, ?_, p5⟩
    rw [upd_ne (fun (w : a = p) => z (h.sep j i u o p e hl (w ▸ p1) hs))]
    exact p4
  · obtain ⟨_, e1⟩ := ow j oj e1
    obtain ⟨_, e2⟩ := ow k ok e2
    exact h.sep j k oj ok a e1 e2 e3 e4
  · obtain ⟨a, h2, p1, p2, p3, p4⟩ := h.sto n so e
    refine ⟨a, h2, p1, p2, p3.mono ge, ?_⟩
    rw [upd_ne (fun (z : a = p) => hr (z ▸ List.mem_of_getElem? p1))]
    exact p4
  · obtain ⟨_, e1⟩ := ow j u e1
    exact h.newO a ⟨j, u, e1, e2⟩
  · by_cases z : a = p
    · subst z
      exact .inr (h.newO a ⟨i, o, hl, hs⟩)
    · rw [upd_ne z] at e
      exact h.newI a e
/-- a shared object changes -/
theorem Rel.updS (h : Rel K T B r Hi H σ ls g) {n : Nat} {p : Addr} {ho : HO} {so : SO} (hr : r[n]? = some p) (q : SORel K T r Hi ho so) : Rel K T B r Hi (upd H p ho) σ ls (g.set n so) := by
  have hm : p ∈ r := List.mem_of_getElem? hr
  obtain ⟨q1, q2⟩ := h.inR hm
  have hnl : n < g.length := by rw [← h.rlen]; exact (List.getElem?_eq_some_iff.mp hr).1
  refine ⟨fun a u e => ?_, h.len, h.loc, fun j u e => ?_, h.sep, by simpa using h.rlen, h.rnd, fun m s e => ?_, h.i0, fun a u e nf => ?_, fun a e => ?_, h.newO, h.newR, h.newI⟩
  · rw [upd_ne (fun z => by rw [z, q1] at e; cases e)]
    exact h.sub a u e
  · obtain ⟨a, h2, p1, p2, p3, p4, p5⟩ := h.own j u e
    refine ⟨a, h2, p1, ?_, p3, p4, p5⟩
    rw [upd_ne (fun (w : a = p) => p5 (w ▸ hm))]
    exact p2
  · by_cases z : m = n
    · subst z
      rw [List.getElem?_set_self hnl] at e
      cases e
      exact ⟨p, ho, hr, upd_same, q, q1⟩
    · rw [List.getElem?_set_ne (Ne.symm z)] at e
      obtain ⟨a, h2, p1, p2, p3, p4⟩ := h.sto m s e
      refine ⟨a, h2, p1, ?_, p3, p4⟩
      rw [upd_ne (fun w => z ?_)]
      · exact p2
      · subst w
        exact (List.getElem?_inj (List.getElem?_eq_some_iff.mp p1).1 h.rnd).mp (p1.trans hr.symm)
  · have z := h.keep a u e nf
    rw [upd_ne (fun w => ?_)]
    · exact z
    · subst w
      rcases h.newR a hm with w | w
      · exact nf w
      · rw [w] at e; cases e
  · by_cases z : a = p
    · subst z; rw [upd_same]; simp
    · rw [upd_ne z]; exact h.dom a e
/-- a new shared object -/
theorem Rel.newS (h : Rel K T B r Hi H σ ls g) {p : Addr} {ho : HO} {so : SO} (hp : H p = none) (q : SORel K T r Hi ho so) : Rel K T B (r ++ [p]) Hi (upd H p ho) σ ls (g ++ [so]) ∧ Ge r Hi (r ++ [p]) Hi := by
  have ge : Ge r Hi (r ++ [p]) Hi := ⟨⟨[p], rfl⟩, fun _ _ e => e⟩
  have hip : Hi p = none := by
    cases e : Hi p with
    | none => rfl
    | some u => rw [h.sub p u e] at hp; cases hp
  have up : ∀ a u, H a = some u → upd H p ho a = some u := fun a u e => by rw [upd_ne (ne_of_none e hp)]; exact e
  have hpr : p ∉ r := fun z => (h.inR z).2 hp
  have nw : B.H0 p = none := by
    cases e : B.H0 p with
    | none => rfl
    | some u => exact absurd hp (h.dom p (by rw [e]; simp))
  refine ⟨⟨fun a u e => up _ _ (h.sub a u e), h.len, fun i d e => ?_, fun j u e => ?_, h.sep, by simp [h.rlen], ?_, fun m s e => ?_, h.i0, fun a u e nf => up _ _ (h.keep a u e nf), fun a e => ?_, h.newO, fun a e => ?_, h.newI⟩, ge⟩
  · obtain ⟨v, p1, p2⟩ := h.loc i d e
    exact ⟨v, p1, p2.mono ge⟩
  · obtain ⟨a, h2, p1, p2, p3, p4, p5⟩ := h.own j u e
    refine ⟨a, h2, p1, up _ _ p2, p3.mono ge, p4, fun z => ?_⟩
    rcases List.mem_append.mp z with z | z
    · exact p5 z
    · rw [List.mem_singleton.mp z, hp] at p2; cases p2
  · rw [List.nodup_append]
    refine ⟨h.rnd, by simp, fun a ha b hb e => ?_⟩
    rw [List.mem_singleton.mp hb] at e
    exact hpr (e ▸ ha)
  · by_cases z : m < g.length
    · rw [List.getElem?_append_left z] at e
      obtain ⟨a, h2, p1, p2, p3, p4⟩ := h.sto m s e
      exact ⟨a, h2, ge.at p1, up _ _ p2, p3.mono ge, p4⟩
    · rw [List.getElem?_append_right (by omega)] at e
      have hm : m - g.length = 0 := by
        cases k : m - g.length with
        | zero => rfl
        | succ k' => rw [k] at e; simp at e
      rw [hm] at e
      cases e
      refine ⟨p, ho, ?_, upd_same, q.mono ge, hip⟩
      rw [List.getElem?_append_right (by rw [h.rlen]; omega), h.rlen, hm]
      rfl
  · have q := h.dom a e
    cases e2 : H a with
    | none => exact absurd e2 q
    | some u => rw [up _ _ e2]; simp
  · rcases List.mem_append.mp e with z | z
    · exact h.newR a z
    · rw [List.mem_singleton.mp z]; exact .inr nw
end
end G6

namespace G6
open PySem PySem.Spec L2

/-! ### the monad -/
abbrev Res (α : Type) := Option (Except Exn α × Gs)
abbrev M (α : Type) := Gs → Res α
def M.ret {α : Type} (a : α) : M α := fun g => some (.ok a, g)
def M.raise {α : Type} (x : Exn) : M α := fun g => some (.error x, g)
def M.opt {α : Type} (o : Option α) : M α := fun g => match o with
  | some a => some (.ok a, g)
  | none => none
def M.bind {α β : Type} (m : M α) (f : α → M β) : M β := fun g => match m g with
  | none => none
  | some (.ok a, g') => f a g'
  | some (.error e, g') => some (.error e, g')
theorem M.ret_bind {α β : Type} (a : α) (f : α → M β) : M.bind (M.ret a) f = f a := rfl
theorem M.bind_assoc {α β γ : Type} (m : M α) (f : α → M β) (k : β → M γ) : M.bind (M.bind m f) k = M.bind m fun a => M.bind (f a) k := by
  funext g
  unfold M.bind
  cases m g with
  | none => rfl
  | some p =>
    obtain ⟨a, g'⟩ := p
    cases a <;> rfl
theorem M.opt_some {α : Type} (a : α) : M.opt (some a) = M.ret a := rfl
theorem M.opt_bind {α β : Type} (a : α) (f : α → M β) : M.bind (M.opt (some a)) f = f a := rfl

/-- an exception as it lies: its class, its own dict -/
def ExnRep (K : PySem.W.Frag) (T : Tab) (r : List Addr) (Hi : Hp) (c : Value) (dx : Option Addr) (x : Exn) : Prop :=
  ∃ C, T.cl x.c = some C ∧ c = .ref C ∧ match x.d with
    | none => dx = none
    | some d => ∃ a n v, dx = some a ∧ Hi a = some (.xd [(n, v)]) ∧ Rep K T r Hi v d
abbrev XE := Value → Option Addr → L2.St → Hp → Prop
abbrev Pst (α : Type) := α → List Addr → Hp → Hp → Gs → Prop

def WpG {α : Type} (K : PySem.W.Frag) (T : Tab) (E : XE) (B : Base) (σ : L2.St) (ls : Ls) (r : List Addr) (Hi : Hp) (m : Res α) (P : Pst α) : Prop :=
  match m with
  | none => False
  | some (.ok a, g') => ∀ r' Hi' H', Rel K T B r' Hi' H' σ ls g' → Ge r Hi r' Hi' → P a r' Hi' H' g'
  | some (.error x, g') => ∀ r' Hi' H' c dx, Rel K T B r' Hi' H' σ ls g' → Ge r Hi r' Hi' → ExnRep K T r' Hi' c dx x → E c dx σ H'

section
variable {K : PySem.W.Frag} {T : Tab} {E : XE} {B : Base} {σ : L2.St} {ls : Ls} {r r' : List Addr} {Hi Hi' : Hp} {α β : Type} {H : Hp} {g : Gs}
theorem WpG.ge {m : Res α} {P : Pst α} (w : WpG K T E B σ ls r Hi m P) (ge : Ge r Hi r' Hi') : WpG K T E B σ ls r' Hi' m P := by
  unfold WpG at w ⊢
  cases m with
  | none => exact w
  | some p =>
    obtain ⟨a, g'⟩ := p
    cases a with
    | ok a => exact fun r2 Hi2 H2 R G => w r2 Hi2 H2 R (ge.trans G)
    | error x => exact fun r2 Hi2 H2 c dx R G => w r2 Hi2 H2 c dx R (ge.trans G)
theorem WpG.mono {m : Res α} {P P' : Pst α} (w : WpG K T E B σ ls r Hi m P) (k : ∀ a r' Hi' H' g', Rel K T B r' Hi' H' σ ls g' → Ge r Hi r' Hi' → P a r' Hi' H' g' → P' a r' Hi' H' g') : WpG K T E B σ ls r Hi m P' := by
  unfold WpG at w ⊢
  cases m with
  | none => exact w
  | some p =>
    obtain ⟨a, g'⟩ := p
    cases a with
    | ok a => exact fun r2 Hi2 H2 R G => k a r2 Hi2 H2 g' R G (w r2 Hi2 H2 R G)
    | error x => exact w
theorem WpG.bind {m : M α} {f : α → M β} {P : Pst β} (w : WpG K T E B σ ls r Hi (M.bind m f g) P) : WpG K T E B σ ls r Hi (m g) (fun a r1 Hi1 _ g1 => WpG K T E B σ ls r1 Hi1 (f a g1) P) := by
  unfold M.bind at w
  unfold WpG at w ⊢
  cases e : m g with
  | none => rw [e] at w; exact w
  | some p =>
    obtain ⟨a, g'⟩ := p
    rw [e] at w
    cases a with
    | ok a => exact fun r2 Hi2 H2 R G => WpG.ge w G
    | error x => exact w
theorem WpG.ret {a : α} {P : Pst α} (w : WpG K T E B σ ls r Hi (some (.ok a, g)) P) (R : Rel K T B r' Hi' H σ ls g) (ge : Ge r Hi r' Hi') : P a r' Hi' H g := w r' Hi' H R ge
theorem WpG.opt {o : Option α} {P : Pst α} (w : WpG K T E B σ ls r Hi (M.opt o g) P) : ∃ a, o = some a ∧ WpG K T E B σ ls r Hi (some (.ok a, g)) P := by
  cases o with
  | none => exact False.elim w
  | some a => exact ⟨a, rfl, w⟩
end

/-- what is wanted of data, of some data -/
def PD (K : PySem.W.Frag) (T : Tab) (Q : VK) : Pst D := fun d r' Hi' H' _ => ∀ v, Rep K T r' Hi' v d → Q v H'
def PB (Q : Bool → Hp → Prop) : Pst Bool := fun b _ _ H' _ => Q b H'
def PL (K : PySem.W.Frag) (T : Tab) (Q : List V → Hp → Prop) : Pst (List D) := fun ds r' Hi' H' _ => ∀ vs, RepAll K T r' Hi' vs ds → Q vs H'

def tF (K : PySem.W.Frag) (T : Tab) (E : XE) (f : Ls → M D) : TE := fun σ H Q => ∃ B r Hi ls g, Rel K T B r Hi H σ ls g ∧ WpG K T E B σ ls r Hi (f ls g) (PD K T Q)
def tG (K : PySem.W.Frag) (T : Tab) (E : XE) (f : Ls → M Bool) : TT := fun σ H Q => ∃ B r Hi ls g, Rel K T B r Hi H σ ls g ∧ WpG K T E B σ ls r Hi (f ls g) (PB Q)
def tL (K : PySem.W.Frag) (T : Tab) (E : XE) (f : Ls → M (List D)) : TA := fun σ H Q => ∃ B r Hi ls g, Rel K T B r Hi H σ ls g ∧ WpG K T E B σ ls r Hi (f ls g) (PL K T Q)
theorem _root_.L2.PE.imp {X : Cx} {e : Expr} {t t' : TE} (h : PE X e t) (k : ∀ σ H Q, t' σ H Q → t σ H Q) : PE X e t' := ⟨fun pins s σ H Q I q => h.run pins s σ H Q I (k _ _ _ q)⟩
theorem _root_.L2.PT.imp {X : Cx} {e : Expr} {t t' : TT} (h : PT X e t) (k : ∀ σ H Q, t' σ H Q → t σ H Q) : PT X e t' := ⟨fun pins s σ H Q I q => h.run pins s σ H Q I (k _ _ _ q)⟩
theorem _root_.L2.PW.imp {X : Cx} {e : Expr} {t t' : TT} (h : PW X e t) (k : ∀ σ H Q, t' σ H Q → t σ H Q) : PW X e t' := ⟨fun wh pins s σ H Q I q => h.run wh pins s σ H Q I (k _ _ _ q)⟩
theorem _root_.L2.PA.imp {X : Cx} {es : List Expr} {t t' : TA} (h : PA X es t) (k : ∀ σ H Q, t' σ H Q → t σ H Q) : PA X es t' := ⟨fun pos pins s σ H Q I q => h.run pos pins s σ H Q I (k _ _ _ q)⟩

abbrev FE (X : Cx) (T : Tab) (E : XE) (e : Expr) (f : Ls → M D) : Prop := PE X e (tF X.K T E f)
abbrev FT (X : Cx) (T : Tab) (E : XE) (e : Expr) (f : Ls → M Bool) : Prop := PT X e (tG X.K T E f)
abbrev FW (X : Cx) (T : Tab) (E : XE) (e : Expr) (f : Ls → M Bool) : Prop := PW X e (tG X.K T E f)
abbrev FA (X : Cx) (T : Tab) (E : XE) (es : List Expr) (f : Ls → M (List D)) : Prop := PA X es (tL X.K T E f)

/-! ### names, constants -/
def fVar (i : Nat) : Ls → M D := fun ls => match ls[i]? with
  | some (.dat d) => M.ret d
  | _ => M.opt none
def fC (d : D) : Ls → M D := fun _ => M.ret d
section
variable {X : Cx} {T : Tab} {E : XE} {pos : Pos}
theorem fe_var (i : Nat) {x : Str} (hN : X.N[i]? = some x := by rfl) (hv : Vis X.env.scope x := by first | exact Or.inl rfl | exact Or.inr (Or.inl rfl) | exact Or.inr (Or.inr rfl)) (hd : (x == ("__debug__" : Str)) = false := by decide)
    (hcd : (x == ("__classdict__" : Str)) = false := by decide) : FE X T E (.Name x pos) (fVar i) := by
  refine (pe_var hN hv hd hcd).imp fun σ H Q ⟨B, r, Hi, ls, g, R, w⟩ => ?_
  unfold fVar at w
  cases e : ls[i]? with
  | none => rw [e] at w; exact False.elim w
  | some l =>
    cases l with
    | un => rw [e] at w; exact False.elim w
    | own o => rw [e] at w; exact False.elim w
    | dat d =>
      rw [e] at w
      obtain ⟨v, h1, h2⟩ := R.loc i d e
      exact ⟨v, h1, w.ret R .refl v h2⟩
theorem fe_const {e : Expr} {v : V} {d : D} (h : PE X e (tC v)) (q : ∀ r Hi, Rep X.K T r Hi v d) : FE X T E e (fC d) := by
  refine h.imp fun σ H Q ⟨B, r, Hi, ls, g, R, w⟩ => ?_
  exact w.ret R .refl v (q _ _)
theorem fe_int {i j} : FE X T E (.Constant (.int i) j pos) (fC (.int i)) := fe_const pe_int fun _ _ => .int i
theorem fe_bl {b j} : FE X T E (.Constant (.bool b) j pos) (fC (.bl b)) := fe_const pe_bl fun _ _ => .bl b
theorem fe_non {j} : FE X T E (.Constant .none j pos) (fC .non) := fe_const pe_non fun _ _ => .non
theorem fe_str {x j} : FE X T E (.Constant (.str x) j pos) (fC (.str x)) := fe_const pe_str fun _ _ => .str x
/-- a module's constant -/
theorem fe_glob {x : Str} {v : V} {u : Value} {d : D} (hg : Gl X x) (hm : X.mg x = some u) (r : RelV v u) (q : ∀ r Hi, Rep X.K T r Hi v d) (hd : (x == ("__debug__" : Str)) = false := by decide) : FE X T E (.Name x pos) (fC d) :=
  fe_const (pe_glob hg hm r hd) q
theorem fe_bltn {x : Str} {t : String} (hg : Gl X x) (hm : X.mg x = none) (hv : bootBuiltins x = some (.type t)) (hn : x ≠ "__name__" := by decide) (hd : (x == ("__debug__" : Str)) = false := by decide) : FE X T E (.Name x pos) (fC (.ty t)) :=
  fe_const (pe_bltn (v := .ty t) hg hm hv rfl hn hd) fun _ _ => .ty t

/-! ### operations -/
/-- an operation over values does what o does over data -/
def OpS (X : Cx) (T : Tab) (rr : R2) (o : D → D → Option D) : Prop := ∀ (E : XE) (B : Base) (r : List Addr) (Hi H : Hp) (σ : L2.St) (ls : Ls) (g : Gs) (v u : V) (d e x : D) (Q : VK),
  Rel X.K T B r Hi H σ ls g → Rep X.K T r Hi v d → Rep X.K T r Hi u e → o d e = some x → WpG X.K T E B σ ls r Hi (some (.ok x, g)) (PD X.K T Q) → rr v u H Q
def fOp (o : D → D → Option D) (fa fb : Ls → M D) : Ls → M D := fun ls => M.bind (fa ls) fun d => M.bind (fb ls) fun e => M.opt (o d e)
variable {a b c : Expr} {fa fb fc : Ls → M D}
theorem tF_op {rr : R2} {o : D → D → Option D} (hs : OpS X T rr o) {σ : L2.St} {H : Hp} {Q : VK} (h : tF X.K T E (fOp o fa fb) σ H Q) : tOp rr (tF X.K T E fa) (tF X.K T E fb) σ H Q := by
  obtain ⟨B, r, Hi, ls, g, R, w⟩ := h
  refine ⟨B, r, Hi, ls, g, R, w.bind.mono fun d r1 Hi1 H1 g1 R1 G1 w1 v p1 => ⟨B, r1, Hi1, ls, g1, R1, w1.bind.mono fun e r2 Hi2 H2 g2 R2 G2 w2 u p2 => ?_⟩⟩
  obtain ⟨x, ex, w3⟩ := w2.opt
  exact hs E B r2 Hi2 H2 σ ls g2 v u d e x Q R2 (p1.mono G2) p2 ex w3
theorem fe_op {op : Operator} {rr : R2} {o : D → D → Option D} (ho : OpR X (binaryOp op) rr) (hs : OpS X T rr o) (ha : FE X T E a fa) (hb : FE X T E b fb) : FE X T E (.BinOp a op b pos) (fOp o fa fb) :=
  (pe_op ho ha hb).imp fun _ _ _ h => tF_op hs h
theorem fe_cmp {op : CmpOp} {rr : R2} {o : D → D → Option D} (ho : OpR X (compareOp op) rr) (hs : OpS X T rr o) (ha : FE X T E a fa) (hb : FE X T E b fb) (hm : behindInMarks op b = false) : FE X T E (.Compare a [op] [b] pos) (fOp o fa fb) :=
  (pe_cmpR ho ha hb hm).imp fun _ _ _ h => tF_op hs h
/-- a comparison that is a bool, as a test -/
def dBool : D → Option Bool
  | .bl b => some b
  | _ => none
def fTest (f : Ls → M D) : Ls → M Bool := fun ls => M.bind (f ls) fun d => M.opt (dBool d)
theorem tF_test {f : Ls → M D} {σ : L2.St} {H : Hp} {Q : Bool → Hp → Prop} (h : tG X.K T E (fTest f) σ H Q) : tF X.K T E f σ H (fun x H' => ∃ k, x = .bl k ∧ Q k H') := by
  obtain ⟨B, r, Hi, ls, g, R, w⟩ := h
  refine ⟨B, r, Hi, ls, g, R, w.bind.mono fun d r1 Hi1 H1 g1 R1 G1 w1 v p1 => ?_⟩
  obtain ⟨x, ex, w3⟩ := w1.opt
  cases p1 with
  | bl b =>
    cases ex
    exact ⟨_, rfl, w3.ret R1 .refl⟩
  | _ => cases ex
theorem ft_cmp {op : CmpOp} {rr : R2} {o : D → D → Option D} (ho : OpR X (compareOp op) rr) (hs : OpS X T rr o) (ha : FE X T E a fa) (hb : FE X T E b fb) (hm : behindInMarks op b = false) : FT X T E (.Compare a [op] [b] pos) (fTest (fOp o fa fb)) :=
  (pt_cmpR ho ha hb hm).imp fun _ _ _ h => by
    obtain ⟨B, r, Hi, ls, g, R, w⟩ := tF_test h
    exact tF_op hs ⟨B, r, Hi, ls, g, R, w⟩
/-- an expression whose value is a bool, as a test -/
theorem ft_val {e : Expr} {f : Ls → M D} (h : FE X T E e f) (he : ∀ whole, isTrue e X.env whole = (do let v ← whole; standAt e.pos; holding [v] (truthy v)) := by intro _; rfl) : FT X T E e (fTest f) :=
  (pt_val h he).imp fun _ _ _ h => tF_test h
/-- a op1 b op2 c -/
def fChain (o o' : D → D → Option D) (fa fb fc : Ls → M D) : Ls → M D := fun ls => M.bind (fa ls) fun d => M.bind (fb ls) fun e => M.bind (M.opt ((o d e).bind dBool)) fun k =>
  if k = true then M.bind (fc ls) fun f => M.opt (o' e f) else M.ret (.bl false)
theorem tF_chain {rr rr' : R2} {o o' : D → D → Option D} (hs : OpS X T rr o) (hs' : OpS X T rr' o') {σ : L2.St} {H : Hp} {Q : VK} (h : tF X.K T E (fChain o o' fa fb fc) σ H Q) : tChain rr rr' (tF X.K T E fa) (tF X.K T E fb) (tF X.K T E fc) σ H Q := by
  obtain ⟨B, r, Hi, ls, g, R, w⟩ := h
  refine ⟨B, r, Hi, ls, g, R, w.bind.mono fun d r1 Hi1 H1 g1 R1 G1 w1 v p1 => ⟨B, r1, Hi1, ls, g1, R1, w1.bind.mono fun e r2 Hi2 H2 g2 R2 G2 w2 u p2 => ?_⟩⟩
  obtain ⟨k, ek, w3⟩ := w2.bind.opt
  have w4 := w3.ret R2 .refl
  obtain ⟨x, ex, ek⟩ := Option.bind_eq_some_iff.mp ek
  refine hs E B r2 Hi2 H2 σ ls g2 v u d e x _ R2 (p1.mono G2) p2 ex fun r3 Hi3 H3 R3 G3 z p3 => ?_
  cases p3 with
  | bl b =>
    cases ek
    refine ⟨_, rfl, ?_⟩
    cases k with
    | true =>
      rw [if_pos rfl] at w4 ⊢
      refine ⟨B, r3, Hi3, ls, g2, R3, (w4.bind.ge G3).mono fun f r4 Hi4 H4 g4 R4 G4 w5 z p4 => ?_⟩
      obtain ⟨y, ey, w6⟩ := w5.opt
      exact hs' E B r4 Hi4 H4 σ ls g4 u z e f y Q R4 ((p2.mono G3).mono G4) p4 ey w6
    | false =>
      rw [if_neg Bool.false_ne_true] at w4 ⊢
      exact w4.ret R3 G3 _ (.bl false)
  | _ => cases ek
theorem fe_chain {op op' : CmpOp} {rr rr' : R2} {o o' : D → D → Option D} (ho : OpR X (compareOp op) rr) (ho' : OpR X (compareOp op') rr') (hs : OpS X T rr o) (hs' : OpS X T rr' o') (ha : FE X T E a fa) (hb : FE X T E b fb) (hc : FE X T E c fc)
    (hm : lastMarks [op, op'] [b, c] = false := by with_unfolding_all rfl) : FE X T E (.Compare a [op, op'] [b, c] pos) (fChain o o' fa fb fc) :=
  (pe_chain ho ho' ha hb hc hm).imp fun _ _ _ h => tF_chain hs hs' h
theorem ft_chain {op op' : CmpOp} {rr rr' : R2} {o o' : D → D → Option D} (ho : OpR X (compareOp op) rr) (ho' : OpR X (compareOp op') rr') (hs : OpS X T rr o) (hs' : OpS X T rr' o') (ha : FE X T E a fa) (hb : FE X T E b fb) (hc : FE X T E c fc)
    (hm : lastMarks [op, op'] [b, c] = false := by with_unfolding_all rfl) : FT X T E (.Compare a [op, op'] [b, c] pos) (fTest (fChain o o' fa fb fc)) :=
  (pt_chain ho ho' ha hb hc hm).imp fun _ _ _ h => by
    obtain ⟨B, r, Hi, ls, g, R, w⟩ := tF_test h
    exact tF_chain hs hs' ⟨B, r, Hi, ls, g, R, w⟩

/-! ### and, or, not, if -/
def gAnd (p q : Ls → M Bool) : Ls → M Bool := fun ls => M.bind (p ls) fun b => if b = true then q ls else M.ret false
def gOr (p q : Ls → M Bool) : Ls → M Bool := fun ls => M.bind (p ls) fun b => if b = true then M.ret true else q ls
def gNot (p : Ls → M Bool) : Ls → M Bool := fun ls => M.bind (p ls) fun b => M.ret (!b)
variable {p q : Ls → M Bool} {rest : List Expr}
theorem fw_and1 (h : FT X T E a p) : FW X T E (.BoolOp .And [a] pos) p := pw_and1 h
theorem fw_or1 (h : FT X T E a p) : FW X T E (.BoolOp .Or [a] pos) p := pw_or1 h
theorem fw_and (ha : FT X T E a p) (hb : FW X T E (.BoolOp .And (b :: rest) pos) q) : FW X T E (.BoolOp .And (a :: b :: rest) pos) (gAnd p q) :=
  (pw_and ha hb).imp fun σ H Q ⟨B, r, Hi, ls, g, R, w⟩ => ⟨B, r, Hi, ls, g, R, w.bind.mono fun k r1 Hi1 H1 g1 R1 G1 w1 => by
    show if k = true then _ else _
    cases k with
    | true => rw [if_pos rfl] at w1 ⊢; exact ⟨B, r1, Hi1, ls, g1, R1, w1⟩
    | false => rw [if_neg Bool.false_ne_true] at w1 ⊢; exact w1.ret R1 .refl⟩
theorem fw_or (ha : FT X T E a p) (hb : FW X T E (.BoolOp .Or (b :: rest) pos) q) : FW X T E (.BoolOp .Or (a :: b :: rest) pos) (gOr p q) :=
  (pw_or ha hb).imp fun σ H Q ⟨B, r, Hi, ls, g, R, w⟩ => ⟨B, r, Hi, ls, g, R, w.bind.mono fun k r1 Hi1 H1 g1 R1 G1 w1 => by
    show if k = true then _ else _
    cases k with
    | false => rw [if_neg Bool.false_ne_true] at w1 ⊢; exact ⟨B, r1, Hi1, ls, g1, R1, w1⟩
    | true => rw [if_pos rfl] at w1 ⊢; exact w1.ret R1 .refl⟩
theorem ft_not (ha : FT X T E a p) : FT X T E (.UnaryOp .Not a pos) (gNot p) :=
  (pt_not ha).imp fun σ H Q ⟨B, r, Hi, ls, g, R, w⟩ => ⟨B, r, Hi, ls, g, R, w.bind.mono fun k r1 Hi1 H1 g1 R1 G1 w1 => w1.ret R1 .refl⟩
/-- as values -/
def fAnd (fa fb : Ls → M D) : Ls → M D := fun ls => M.bind (fa ls) fun d => M.bind (M.opt (dBool d)) fun k => if k = true then fb ls else M.ret (.bl false)
def fOr (fa fb : Ls → M D) : Ls → M D := fun ls => M.bind (fa ls) fun d => M.bind (M.opt (dBool d)) fun k => if k = true then M.ret (.bl true) else fb ls
def fNot (fa : Ls → M D) : Ls → M D := fun ls => M.bind (fa ls) fun d => M.bind (M.opt (dBool d)) fun k => M.ret (.bl (!k))
theorem fe_one {op} (h : FE X T E a fa) : FE X T E (.BoolOp op [a] pos) fa := pe_one h
theorem fe_and (ha : FE X T E a fa) (hb : FE X T E (.BoolOp .And (b :: rest) pos) fb) : FE X T E (.BoolOp .And (a :: b :: rest) pos) (fAnd fa fb) :=
  (pe_and ha hb).imp fun σ H Q ⟨B, r, Hi, ls, g, R, w⟩ => ⟨B, r, Hi, ls, g, R, w.bind.mono fun d r1 Hi1 H1 g1 R1 G1 w1 v p1 => by
    obtain ⟨k, ek, w2⟩ := w1.bind.opt
    have w3 := w2.ret R1 .refl
    cases p1 with
    | bl b =>
      cases ek
      refine ⟨k, rfl, ?_⟩
      cases k with
      | true => rw [if_pos rfl] at w3 ⊢; exact ⟨B, r1, Hi1, ls, g1, R1, w3⟩
      | false => rw [if_neg Bool.false_ne_true] at w3 ⊢; exact w3.ret R1 .refl _ (.bl false)
    | _ => cases ek⟩
theorem fe_or (ha : FE X T E a fa) (hb : FE X T E (.BoolOp .Or (b :: rest) pos) fb) : FE X T E (.BoolOp .Or (a :: b :: rest) pos) (fOr fa fb) :=
  (pe_or ha hb).imp fun σ H Q ⟨B, r, Hi, ls, g, R, w⟩ => ⟨B, r, Hi, ls, g, R, w.bind.mono fun d r1 Hi1 H1 g1 R1 G1 w1 v p1 => by
    obtain ⟨k, ek, w2⟩ := w1.bind.opt
    have w3 := w2.ret R1 .refl
    cases p1 with
    | bl b =>
      cases ek
      refine ⟨k, rfl, ?_⟩
      cases k with
      | false => rw [if_neg Bool.false_ne_true] at w3 ⊢; exact ⟨B, r1, Hi1, ls, g1, R1, w3⟩
      | true => rw [if_pos rfl] at w3 ⊢; exact w3.ret R1 .refl _ (.bl true)
    | _ => cases ek⟩
theorem fe_not (ha : FE X T E a fa) : FE X T E (.UnaryOp .Not a pos) (fNot fa) :=
  (pe_not ha).imp fun σ H Q ⟨B, r, Hi, ls, g, R, w⟩ => ⟨B, r, Hi, ls, g, R, w.bind.mono fun d r1 Hi1 H1 g1 R1 G1 w1 v p1 => by
    obtain ⟨k, ek, w2⟩ := w1.bind.opt
    cases p1 with
    | bl b =>
      cases ek
      exact ⟨k, rfl, (w2.ret R1 .refl).ret R1 .refl _ (.bl _)⟩
    | _ => cases ek⟩
def fIf (p : Ls → M Bool) (fa fb : Ls → M D) : Ls → M D := fun ls => M.bind (p ls) fun k => if k = true then fa ls else fb ls
theorem fe_if (hc : FT X T E c p) (ha : FE X T E a fa) (hb : FE X T E b fb) : FE X T E (.IfExp c a b pos) (fIf p fa fb) :=
  (pe_ifExp hc ha hb).imp fun σ H Q ⟨B, r, Hi, ls, g, R, w⟩ => ⟨B, r, Hi, ls, g, R, w.bind.mono fun k r1 Hi1 H1 g1 R1 G1 w1 => by
    show if k = true then _ else _
    cases k with
    | true => rw [if_pos rfl] at w1 ⊢; exact ⟨B, r1, Hi1, ls, g1, R1, w1⟩
    | false => rw [if_neg Bool.false_ne_true] at w1 ⊢; exact ⟨B, r1, Hi1, ls, g1, R1, w1⟩⟩

/-! ### argument lists, displays -/
def lNil : Ls → M (List D) := fun _ => M.ret []
def lCons (f : Ls → M D) (l : Ls → M (List D)) : Ls → M (List D) := fun ls => M.bind (f ls) fun d => M.bind (l ls) fun ds => M.ret (d :: ds)
variable {es : List Expr} {l : Ls → M (List D)}
theorem fa_nil : FA X T E [] lNil := pa_nil.imp fun σ H Q ⟨B, r, Hi, ls, g, R, w⟩ => w.ret R .refl [] .nil
theorem fa_cons (ha : FE X T E a fa) (hl : FA X T E es l) (hs : starEach (a :: es) X.env = (false, eval a X.env) :: starEach es X.env := by rfl) : FA X T E (a :: es) (lCons fa l) :=
  (pa_cons ha hl hs).imp fun σ H Q ⟨B, r, Hi, ls, g, R, w⟩ => ⟨B, r, Hi, ls, g, R, w.bind.mono fun d r1 Hi1 H1 g1 R1 G1 w1 v p1 => ⟨B, r1, Hi1, ls, g1, R1, w1.bind.mono fun ds r2 Hi2 H2 g2 R2 G2 w2 vs p2 => w2.ret R2 .refl _ (.cons (p1.mono G2) p2)⟩⟩
/-- a new tuple, a new list of data -/
def dTup (ds : List D) : Option D := if ds.length ≤ sizeLine then some (.tup ds) else none
def dLst (ds : List D) : Option D := if ds.length ≤ sizeLine then some (.lst ds) else none
theorem dTup_some {ds : List D} {d : D} (h : dTup ds = some d) : ds.length ≤ sizeLine ∧ d = .tup ds := by
  unfold dTup at h
  split at h
  · exact ⟨by assumption, (Option.some.inj h).symm⟩
  · cases h
theorem dLst_some {ds : List D} {d : D} (h : dLst ds = some d) : ds.length ≤ sizeLine ∧ d = .lst ds := by
  unfold dLst at h
  split at h
  · exact ⟨by assumption, (Option.some.inj h).symm⟩
  · cases h
/-- a tuple, a list that is laid and never changed -/
theorem new_tup {B : Base} {r : List Addr} {Hi H : Hp} {σ : L2.St} {ls : Ls} {g : Gs} {ds : List D} {vs : List V} {Q : VK} (R : Rel X.K T B r Hi H σ ls g) (p : RepAll X.K T r Hi vs ds) (w : WpG X.K T E B σ ls r Hi (some (.ok (.tup ds), g)) (PD X.K T Q)) : ∀ a, H a = none → Q (.ref a) (upd H a (.tup vs)) := fun a ha => by
  obtain ⟨R', G'⟩ := R.fix (o := .tup vs) ha
  exact w.ret R' G' _ (.tup (L2.SqT.of upd_same) (p.mono G'))
theorem new_lst {B : Base} {r : List Addr} {Hi H : Hp} {σ : L2.St} {ls : Ls} {g : Gs} {ds : List D} {vs : List V} {Q : VK} (R : Rel X.K T B r Hi H σ ls g) (p : RepAll X.K T r Hi vs ds) (w : WpG X.K T E B σ ls r Hi (some (.ok (.lst ds), g)) (PD X.K T Q)) : ∀ a, H a = none → Q (.ref a) (upd H a (.lst vs)) := fun a ha => by
  obtain ⟨R', G'⟩ := R.fix (o := .lst vs) ha
  exact w.ret R' G' _ (.lst upd_same (p.mono G'))
def fTup (l : Ls → M (List D)) : Ls → M D := fun ls => M.bind (l ls) fun ds => M.opt (dTup ds)
def fLst (l : Ls → M (List D)) : Ls → M D := fun ls => M.bind (l ls) fun ds => M.opt (dLst ds)
theorem fe_tup {k} (hl : FA X T E es l) : FE X T E (.Tuple es k pos) (fTup l) :=
  (pe_tup hl).imp fun σ H Q ⟨B, r, Hi, ls, g, R, w⟩ => ⟨B, r, Hi, ls, g, R, w.bind.mono fun ds r1 Hi1 H1 g1 R1 G1 w1 vs p1 => by
    obtain ⟨d, ed, w2⟩ := w1.opt
    obtain ⟨hz, rfl⟩ := dTup_some ed
    exact ⟨by rw [p1.length]; exact hz, new_tup R1 p1 w2⟩⟩
theorem fe_lst (hl : FA X T E es l) : FE X T E (.List es pos) (fLst l) :=
  (pe_lst hl).imp fun σ H Q ⟨B, r, Hi, ls, g, R, w⟩ => ⟨B, r, Hi, ls, g, R, w.bind.mono fun ds r1 Hi1 H1 g1 R1 G1 w1 vs p1 => by
    obtain ⟨d, ed, w2⟩ := w1.opt
    obtain ⟨hz, rfl⟩ := dLst_some ed
    exact ⟨by rw [p1.length]; exact hz, new_lst R1 p1 w2⟩⟩

/-! ### calls of what is known: built-ins, by data -/
def CallS (X : Cx) (T : Tab) (rr : List V → Hp → VK → Prop) (o : List D → Option D) : Prop := ∀ (E : XE) (B : Base) (r : List Addr) (Hi H : Hp) (σ : L2.St) (ls : Ls) (g : Gs) (vs : List V) (ds : List D) (x : D) (Q : VK),
  Rel X.K T B r Hi H σ ls g → RepAll X.K T r Hi vs ds → o ds = some x → WpG X.K T E B σ ls r Hi (some (.ok x, g)) (PD X.K T Q) → rr vs H Q
def fCB (o : List D → Option D) (l : Ls → M (List D)) : Ls → M D := fun ls => M.bind (l ls) fun ds => M.opt (o ds)
variable {id : String} {rr : List V → Hp → VK → Prop} {o : List D → Option D} {x : Str} {pn : Pos}
theorem tF_cb (hs : CallS X T rr o) {σ : L2.St} {H : Hp} {Q : VK} (h : tF X.K T E (fCB o l) σ H Q) : tCB rr (tL X.K T E l) σ H Q := by
  obtain ⟨B, r, Hi, ls, g, R, w⟩ := h
  refine ⟨B, r, Hi, ls, g, R, w.bind.mono fun ds r1 Hi1 H1 g1 R1 G1 w1 vs p1 => ?_⟩
  obtain ⟨x, ex, w2⟩ := w1.opt
  exact hs E B r1 Hi1 H1 σ ls g1 vs ds x Q R1 p1 ex w2
theorem fe_callB (hc : CallR X (.builtin id) rr) (hs : CallS X T rr o) (hg : Gl X x) (hm : X.mg x = none) (hv : bootBuiltins x = some (.builtin id)) (ha : FA X T E (a :: es) l) (hn : x ≠ "__name__" := by decide) (hdb : (x == ("__debug__" : Str)) = false := by decide)
    (he : starEach (a :: es) X.env = (false, eval a X.env) :: starEach es X.env := by rfl) (hpl : (backTo pos (starEach es X.env)).any (·.1) = false := by rfl) : FE X T E (.Call (.Name x pn) (a :: es) [] pos) (fCB o l) :=
  (pe_callB hc hg hm hv ha hn hdb he hpl).imp fun _ _ _ h => tF_cb hs h
theorem fe_callTy (hc : CallR X (.type id) rr) (hs : CallS X T rr o) (hg : Gl X x) (hm : X.mg x = none) (hv : bootBuiltins x = some (.type id)) (ha : FA X T E (a :: es) l) (hn : x ≠ "__name__" := by decide) (hdb : (x == ("__debug__" : Str)) = false := by decide)
    (he : starEach (a :: es) X.env = (false, eval a X.env) :: starEach es X.env := by rfl) (hpl : (backTo pos (starEach es X.env)).any (·.1) = false := by rfl) : FE X T E (.Call (.Name x pn) (a :: es) [] pos) (fCB o l) :=
  (pe_callTy hc hg hm hv ha hn hdb he hpl).imp fun _ _ _ h => tF_cb hs h

/-! ### subscripts, slices -/
theorem fe_ix {rr : R2} {o : D → D → Option D} (hr : IxR X rr) (hs : OpS X T rr o) (ha : FE X T E a fa) (hb : FE X T E b fb) (hp : PlainIx b) : FE X T E (.Subscript a b pos) (fOp o fa fb) :=
  (pe_ix hr ha hb hp).imp fun _ _ _ h => tF_op hs h
def UnS (X : Cx) (T : Tab) (rr : V → Hp → VK → Prop) (o : D → Option D) : Prop := ∀ (E : XE) (B : Base) (r : List Addr) (Hi H : Hp) (σ : L2.St) (ls : Ls) (g : Gs) (v : V) (d x : D) (Q : VK),
  Rel X.K T B r Hi H σ ls g → Rep X.K T r Hi v d → o d = some x → WpG X.K T E B σ ls r Hi (some (.ok x, g)) (PD X.K T Q) → rr v H Q
def fUn (o : D → Option D) (fa : Ls → M D) : Ls → M D := fun ls => M.bind (fa ls) fun d => M.opt (o d)
theorem fe_un {op : UnaryOp} {rr : V → Hp → VK → Prop} {o : D → Option D} (ho : UnR X (unaryOp op) rr) (hs : UnS X T rr o) (ha : FE X T E a fa) : FE X T E (.UnaryOp op a pos) (fUn o fa) :=
  (pe_un ho ha).imp fun σ H Q ⟨B, r, Hi, ls, g, R, w⟩ => ⟨B, r, Hi, ls, g, R, w.bind.mono fun d r1 Hi1 H1 g1 R1 G1 w1 v p1 => by
    obtain ⟨x, ex, w2⟩ := w1.opt
    exact hs E B r1 Hi1 H1 σ ls g1 v d x Q R1 p1 ex w2⟩
end
end G6

namespace G6
open PySem PySem.Spec L2

/-! ### data as the library's data -/
def keyPy : Key → PyData
  | .inl i => .int i
  | .inr x => .str x
mutual
def D.py : D → Option PyData
  | .non => some .none
  | .bl b => some (.bool b)
  | .int i => some (.int i)
  | .str s => some (.str s)
  | .lst ds => (D.pys ds).map .list
  | .tup ds => (D.pys ds).map .tuple
  | .dic ks ds => (D.pys ds).map fun ps => .dict ((ks.map keyPy).zip ps)
  | _ => none
def D.pys : List D → Option (List PyData)
  | [] => some []
  | d :: ds => (D.py d).bind fun p => (D.pys ds).map fun ps => p :: ps
end
theorem D.pys_len : ∀ {ds : List D} {ps : List PyData}, D.pys ds = some ps → ps.length = ds.length
  | [], _, h => by
    cases h
    rfl
  | d :: ds, _, h => by
    unfold D.pys at h
    obtain ⟨p, e1, h⟩ := Option.bind_eq_some_iff.mp h
    obtain ⟨ps, e2, h⟩ := Option.map_eq_some_iff.mp h
    cases h
    rw [List.length_cons, List.length_cons, D.pys_len e2]
section
variable {K : PySem.W.Frag} {T : Tab} {r : List Addr} {Hi H : Hp}
mutual
theorem Rep.dp (sub : ∀ a o, Hi a = some o → H a = some o) : ∀ {v : V} {d : D} {p : PyData}, Rep K T r Hi v d → D.py d = some p → SeqAt.shaped p = true → p.canLay0 = true → Dp K H v p
  | _, _, _, .non, e, _, _ => by cases e; exact .non
  | _, _, _, .bl b, e, _, _ => by cases e; exact .bl b
  | _, _, _, .int i, e, _, _ => by cases e; exact .int i
  | _, _, _, .str s, e, _, _ => by cases e; exact .str s
  | _, _, _, .lst h ha, e, z, c => by
    unfold D.py at e
    obtain ⟨ps, e1, e⟩ := Option.map_eq_some_iff.mp e
    cases e
    exact .lst (L2.SqL.of (sub _ _ h)) (RepAll.dp sub ha e1 (by simpa [PyData.canLay0] using c))
  | _, _, _, .tup h ha, e, z, c => by
    unfold D.py at e
    obtain ⟨ps, e1, e⟩ := Option.map_eq_some_iff.mp e
    cases e
    exact .tup (G6.SqT.mono sub h) (RepAll.dp sub ha e1 (by simpa [PyData.canLay0] using c))
  | _, _, _, .dic h ha, e, z, c => by
    unfold D.py at e
    obtain ⟨ps, e1, e⟩ := Option.map_eq_some_iff.mp e
    cases e
    simp [PyData.canLay0] at c
  | _, _, _, .dct _ _, e, _, _ => by cases e
  | _, _, _, .ins _ _ _, e, _, _ => by cases e
  | _, _, _, .obj _, e, _, _ => by cases e
  | _, _, _, .ty _, e, _, _ => by cases e
  | _, _, _, .fn _, e, _, _ => by cases e
  | _, _, _, .scr _, e, _, _ => by cases e
theorem RepAll.dp (sub : ∀ a o, Hi a = some o → H a = some o) : ∀ {vs : List V} {ds : List D} {ps : List PyData}, RepAll K T r Hi vs ds → D.pys ds = some ps → PyData.canLayAll0 ps = true → DpAll K H vs ps
  | _, _, _, .nil, e, _ => by cases e; exact .nil
  | _, _, _, .cons h t, e, c => by
    unfold D.pys at e
    obtain ⟨p, e1, e⟩ := Option.bind_eq_some_iff.mp e
    obtain ⟨ps, e2, e⟩ := Option.map_eq_some_iff.mp e
    cases e
    have c' : p.canLay0 = true ∧ PyData.canLayAll0 ps = true := by simpa [PyData.canLayAll0] using c
    exact .cons (Rep.dp' sub h e1 c'.1) (RepAll.dp sub t e2 c'.2)
theorem Rep.dp' (sub : ∀ a o, Hi a = some o → H a = some o) : ∀ {v : V} {d : D} {p : PyData}, Rep K T r Hi v d → D.py d = some p → p.canLay0 = true → Dp K H v p
  | _, _, _, .non, e, _ => by cases e; exact .non
  | _, _, _, .bl b, e, _ => by cases e; exact .bl b
  | _, _, _, .int i, e, _ => by cases e; exact .int i
  | _, _, _, .str s, e, _ => by cases e; exact .str s
  | _, _, _, .lst h ha, e, c => by
    unfold D.py at e
    obtain ⟨ps, e1, e⟩ := Option.map_eq_some_iff.mp e
    cases e
    exact .lst (L2.SqL.of (sub _ _ h)) (RepAll.dp sub ha e1 (by simpa [PyData.canLay0] using c))
  | _, _, _, .tup h ha, e, c => by
    unfold D.py at e
    obtain ⟨ps, e1, e⟩ := Option.map_eq_some_iff.mp e
    cases e
    exact .tup (G6.SqT.mono sub h) (RepAll.dp sub ha e1 (by simpa [PyData.canLay0] using c))
  | _, _, _, .dic h ha, e, c => by
    unfold D.py at e
    obtain ⟨ps, e1, e⟩ := Option.map_eq_some_iff.mp e
    cases e
    simp [PyData.canLay0] at c
  | _, _, _, .dct _ _, e, _ => by cases e
  | _, _, _, .ins _ _ _, e, _ => by cases e
  | _, _, _, .obj _, e, _ => by cases e
  | _, _, _, .ty _, e, _ => by cases e
  | _, _, _, .fn _, e, _ => by cases e
  | _, _, _, .scr _, e, _ => by cases e
end
end

/-! ### the operations over data -/
def dEqS : D → D → Option Bool
  | .str a, .str b => some (a.cps.toList == b.cps.toList)
  | _, _ => none
def dEqv (d e : D) : Option Bool := match dEqS d e with
  | some k => some k
  | none => match D.py d, D.py e with
    | some a, some b => if SeqAt.shaped a = true ∧ SeqAt.shaped b = true then some (PyData.eqv a b) else none
    | _, _ => none
theorem dEqS_some {d e : D} {k : Bool} (h : dEqS d e = some k) : ∃ a b, d = .str a ∧ e = .str b ∧ k = (a.cps.toList == b.cps.toList) := by
  unfold dEqS at h
  split at h
  · cases h; exact ⟨_, _, rfl, rfl, rfl⟩
  · cases h
def rEqA (K : PySem.W.Frag) : R2 := fun x y H Q => (∃ a b : Str, x = .str a ∧ y = .str b ∧ Q (.bl (a.cps.toList == b.cps.toList)) H) ∨ rEqD K x y H Q
def rNeA (K : PySem.W.Frag) : R2 := fun x y H Q => (∃ a b : Str, x = .str a ∧ y = .str b ∧ Q (.bl (!(a.cps.toList == b.cps.toList))) H) ∨ rNeD K x y H Q
theorem op_eqA {X : Cx} (hu : X.A.units + 64 < cLine) : OpR X (compareOp .Eq) (rEqA X.K) := by
  intro pins s σ H x y v u Q I rx ry q
  rcases q with ⟨a, b, rfl, rfl, q⟩ | q
  · obtain ⟨t, rfl⟩ := rx
    obtain ⟨t', rfl⟩ := ry
    exact PySem.P.eq_str ⟨.bl _, H, I, rfl, q⟩
  · exact op_eqD hu pins s σ H x y v u Q I rx ry q
theorem op_neA {X : Cx} (hu : X.A.units + 64 < cLine) : OpR X (compareOp .NotEq) (rNeA X.K) := by
  intro pins s σ H x y v u Q I rx ry q
  rcases q with ⟨a, b, rfl, rfl, q⟩ | q
  · obtain ⟨t, rfl⟩ := rx
    obtain ⟨t', rfl⟩ := ry
    exact PySem.P.ne_str ⟨.bl _, H, I, rfl, q⟩
  · exact op_neD hu pins s σ H x y v u Q I rx ry q
def dEq (d e : D) : Option D := (dEqv d e).map .bl
def dNe (d e : D) : Option D := (dEqv d e).map fun b => .bl (!b)
def dIsN : D → D → Option D
  | .non, .non => some (.bl true)
  | .fn _, _ | .obj _, _ | .scr _, _ => none
  | _, .non => some (.bl false)
  | _, _ => none
def dIsNotN (d e : D) : Option D := (dIsN d e).bind fun x => match x with | .bl b => some (.bl (!b)) | _ => none
def dCmp (p : Int → Int → Bool) : D → D → Option D
  | .int i, .int j => some (.bl (p i j))
  | _, _ => none
abbrev dLt : D → D → Option D := dCmp fun i j => decide (i < j)
abbrev dLe : D → D → Option D := dCmp fun i j => decide (i ≤ j)
abbrev dGt : D → D → Option D := dCmp fun i j => decide (j < i)
abbrev dGe : D → D → Option D := dCmp fun i j => decide (j ≤ i)
def dAdd : D → D → Option D
  | .int i, .int j => some (.int (i + j))
  | .str a, .str b => if a.length + b.length ≤ sizeLine then some (.str (a ++ b)) else none
  | .lst a, .lst b => dLst (a ++ b)
  | .tup a, .tup b => dTup (a ++ b)
  | _, _ => none
def dSub : D → D → Option D
  | .int i, .int j => some (.int (i - j))
  | _, _ => none
def dMul : D → D → Option D
  | .int i, .int j => if i.natAbs.log2 + j.natAbs.log2 < 1000000 then some (.int (i * j)) else none
  | .lst a, .int k => if -(2 ^ 63) ≤ k ∧ k < 2 ^ 63 ∧ a.length * k.toNat ≤ sizeLine then some (.lst (List.replicate k.toNat a).flatten) else none
  | .tup a, .int k => if k = 1 then some (.tup a) else if a ≠ [] ∧ 2 ≤ k ∧ k ≤ 1000 ∧ a.length ≤ 1000 then some (.tup (List.replicate k.toNat a).flatten) else none
  | _, _ => none
def dMod : D → D → Option D
  | .int i, .int j => if 0 < j then some (.int (i % j)) else none
  | _, _ => none
def dFdiv : D → D → Option D
  | .int i, .int j => if 0 < j ∧ j.natAbs.log2 < 9000 then some (.int (i / j)) else none
  | _, _ => none
def dPow : D → D → Option D
  | .int i, .int j => if 0 ≤ j ∧ j ≤ 1000000 ∧ i.natAbs < 2 ^ 64 then some (.int (i ^ j.toNat)) else none
  | _, _ => none
def dNeg : D → Option D
  | .int i => some (.int (-i))
  | _ => none
def dIx : D → D → Option D
  | .lst ds, .int i => atI ds i
  | .tup ds, .int i => atI ds i
  | .str z, .int i => if z.length ≤ sizeLine then (atI z.cps.toList i).map fun c => .str ⟨#[c]⟩ else none
  | _, _ => none
def cutD {α : Type} (xs : List α) (lo hi : Option Int) : List α := (xs.drop (HT.sIx xs.length 0 lo)).take (HT.sIx xs.length xs.length hi - HT.sIx xs.length 0 lo)
def dCut (d : D) (lo hi : Option Int) : Option D := match d with
  | .lst ds => some (.lst (cutD ds lo hi))
  | .tup ds => some (.tup (cutD ds lo hi))
  | .str z => if z.length ≤ sizeLine then some (.str (cutS z lo hi)) else none
  | .scr ns => some (.lst ((cutD ns lo hi).map .int))
  | _ => none
def dFlat : D → Bool
  | .non | .bl _ | .int _ | .str _ => true
  | _ => false
def dFeq : D → D → Bool
  | .non, .non => true
  | .bl a, .bl b => a == b
  | .bl a, .int b => (if a then 1 else 0) == b
  | .int a, .bl b => a == (if b then 1 else 0)
  | .int a, .int b => a == b
  | .str a, .str b => a == b
  | _, _ => false
def dInL (d : D) (ds : List D) : Option Bool := if dFlat d = true ∧ ds.all dFlat = true then some (ds.any fun e => dFeq e d) else none
def dInS (d : D) (j : Str) : Option Bool := match d with
  | .str i => some (!(Builtin.Str.occurrences j i 0 j.length 1).isEmpty)
  | _ => none
def dInB (d e : D) : Option Bool := match e with
  | .str j => dInS d j
  | .lst ds => dInL d ds
  | .tup ds => dInL d ds
  | _ => none
def dIn (d e : D) : Option D := (dInB d e).map .bl
def dNotIn (d e : D) : Option D := (dInB d e).map fun b => .bl (!b)
def dLen : List D → Option D
  | [.lst ds] => some (.int ds.length)
  | [.tup ds] => some (.int ds.length)
  | [.scr ns] => some (.int ns.length)
  | [.str z] => if z.length ≤ sizeLine then some (.int z.length) else none
  | _ => none
def dAbs : List D → Option D
  | [.int i] => some (.int (if i < 0 then -i else i))
  | _ => none
def dMin2 : List D → Option D
  | [.int i, .int j] => some (.int (if j < i then j else i))
  | _ => none
def dMax2 : List D → Option D
  | [.int i, .int j] => some (.int (if j > i then j else i))
  | _ => none
def asBls : List D → Option (List Bool)
  | [] => some []
  | .bl b :: ds => (asBls ds).map (b :: ·)
  | _ => none
def asInts : List D → Option (List Int)
  | [] => some []
  | .int i :: ds => (asInts ds).map (i :: ·)
  | _ => none
def dAll : List D → Option D
  | [.lst ds] => (asBls ds).map fun bs => .bl (bs.all id)
  | _ => none
def dAny : List D → Option D
  | [.lst ds] => (asBls ds).map fun bs => .bl (bs.any id)
  | _ => none
def dSum : List D → Option D
  | [.lst ds] => (asInts ds).map fun ns => .int ns.sum
  | _ => none
def dTuple : List D → Option D
  | [.lst ds] => some (.tup ds)
  | [.tup ds] => some (.tup ds)
  | _ => none
def dList : List D → Option D
  | [.lst ds] => some (.lst ds)
  | [.tup ds] => some (.lst ds)
  | _ => none
def dStrI : List D → Option D
  | [.int i] => if i.natAbs.log2 < 1920 then some (.str (toString i)) else none
  | _ => none
/-- the name of a type -/
def dTy : D → Option String
  | .non => some "NoneType"
  | .bl _ => some "bool"
  | .int _ => some "int"
  | .str _ => some "str"
  | .lst _ => some "list"
  | .tup _ => some "tuple"
  | .dic _ _ => some "dict"
  | .dct _ _ => some "dict"
  | _ => none
def tyIs (a b : String) : Option Bool := if ["NoneType", "bool", "int", "str", "list", "tuple", "dict"].contains a = true ∧ ["bool", "int", "str", "list", "tuple", "dict"].contains b = true then some (a == b || (a == "bool" && b == "int")) else none
def tyAny (a : String) : List D → Option Bool
  | [] => some false
  | .ty b :: r => (tyIs a b).bind fun k => (tyAny a r).map fun m => k || m
  | _ => none
def dIsi : List D → Option D
  | [d, .ty b] => (dTy d).bind fun a => (tyIs a b).map .bl
  | [d, .tup cs] => (dTy d).bind fun a => (tyAny a cs).map .bl
  | _ => none

theorem tyIs_kit {a b : String} {k : Bool} (h : tyIs a b = some k) : kitB a b = some k := by
  unfold tyIs at h
  split at h
  · rename_i hc
    obtain ⟨h1, h2⟩ := hc
    simp only [List.contains_cons, List.contains_nil, Bool.or_false, Bool.or_eq_true, beq_iff_eq] at h1 h2
    rcases h1 with rfl | rfl | rfl | rfl | rfl | rfl | rfl <;> rcases h2 with rfl | rfl | rfl | rfl | rfl | rfl <;> (rw [← h]; decide +kernel)
  · cases h

section
variable {X : Cx} {T : Tab}
theorem Rep.none_iff {K : PySem.W.Frag} {r : List Addr} {Hi : Hp} {v : V} {d x : D} (h : Rep K T r Hi v d) (e : dIsN d .non = some x) : x = .bl (decide (v = .non)) := by
  cases h <;> cases e <;> rfl
theorem os_isN : OpS X T (fun x y H Q => y = .non ∧ Q (.bl (decide (x = .non))) H) dIsN := by
  intro E B r Hi H σ ls g v u d e x Q R p q ex w
  have he : e = .non := by
    cases d <;> cases e <;> first | rfl | cases ex
  subst he
  cases q
  have := p.none_iff ex
  subst this
  exact ⟨rfl, w.ret R .refl _ (.bl _)⟩
theorem os_notN : OpS X T (fun x y H Q => y = .non ∧ Q (.bl (!decide (x = .non))) H) dIsNotN := by
  intro E B r Hi H σ ls g v u d e x Q R p q ex w
  unfold dIsNotN at ex
  obtain ⟨y, ey, ex⟩ := Option.bind_eq_some_iff.mp ex
  have he : e = .non := by
    cases d <;> cases e <;> first | rfl | cases ey
  subst he
  cases q
  have := p.none_iff ey
  subst this
  cases ex
  exact ⟨rfl, w.ret R .refl _ (.bl _)⟩
theorem os_eq : OpS X T (rEqA X.K) dEq := by
  intro E B r Hi H σ ls g v u d e x Q R p q ex w
  unfold dEq at ex
  obtain ⟨k, ek, ex⟩ := Option.map_eq_some_iff.mp ex
  subst ex
  unfold dEqv at ek
  split at ek
  · rename_i k' e'
    cases ek
    obtain ⟨a, b, rfl, rfl, rfl⟩ := dEqS_some e'
    cases p
    cases q
    exact .inl ⟨a, b, rfl, rfl, w.ret R .refl _ (.bl _)⟩
  split at ek
  · rename_i a b ha hb
    split at ek
    · rename_i hs
      cases ek
      exact .inr ⟨a, b, p.dp' R.sub ha (SeqAt.canLay_of_shaped hs.1), q.dp' R.sub hb (SeqAt.canLay_of_shaped hs.2), hs.1, hs.2, w.ret R .refl _ (.bl _)⟩
    · cases ek
  · cases ek
theorem os_ne : OpS X T (rNeA X.K) dNe := by
  intro E B r Hi H σ ls g v u d e x Q R p q ex w
  unfold dNe at ex
  obtain ⟨k, ek, ex⟩ := Option.map_eq_some_iff.mp ex
  subst ex
  unfold dEqv at ek
  split at ek
  · rename_i k' e'
    cases ek
    obtain ⟨a, b, rfl, rfl, rfl⟩ := dEqS_some e'
    cases p
    cases q
    exact .inl ⟨a, b, rfl, rfl, w.ret R .refl _ (.bl _)⟩
  split at ek
  · rename_i a b ha hb
    split at ek
    · rename_i hs
      cases ek
      exact .inr ⟨a, b, p.dp' R.sub ha (SeqAt.canLay_of_shaped hs.1), q.dp' R.sub hb (SeqAt.canLay_of_shaped hs.2), hs.1, hs.2, w.ret R .refl _ (.bl _)⟩
    · cases ek
  · cases ek
theorem os_cmp {p : Int → Int → Bool} : OpS X T (rI0 fun i j => .bl (p i j)) (dCmp p) := by
  intro E B r Hi H σ ls g v u d e x Q R p q ex w
  cases p with
  | int i =>
    cases q with
    | int j => cases ex; exact ⟨i, j, rfl, rfl, w.ret R .refl _ (.bl _)⟩
    | _ => cases ex
  | _ => cases ex
theorem os_int {p : Int → Int → Int} {o : D → D → Option D} (h : ∀ d e x, o d e = some x → ∃ i j, d = .int i ∧ e = .int j ∧ x = .int (p i j)) : OpS X T (rI0 fun i j => .int (p i j)) o := by
  intro E B r Hi H σ ls g v u d e x Q R p q ex w
  obtain ⟨i, j, rfl, rfl, rfl⟩ := h d e x ex
  cases p
  cases q
  exact ⟨i, j, rfl, rfl, w.ret R .refl _ (.int _)⟩
theorem os_intC {C : Int → Int → Prop} {p : Int → Int → Int} {o : D → D → Option D} (h : ∀ d e x, o d e = some x → ∃ i j, d = .int i ∧ e = .int j ∧ C i j ∧ x = .int (p i j)) : OpS X T (rI C fun i j => .int (p i j)) o := by
  intro E B r Hi H σ ls g v u d e x Q R p q ex w
  obtain ⟨i, j, rfl, rfl, hc, rfl⟩ := h d e x ex
  cases p
  cases q
  exact ⟨i, j, rfl, rfl, hc, w.ret R .refl _ (.int _)⟩
theorem os_sub : OpS X T (rI0 fun i j => .int (i - j)) dSub := os_int fun d e x h => by
  cases d with
  | int i =>
    cases e with
    | int j => cases h; exact ⟨_, _, rfl, rfl, rfl⟩
    | _ => cases h
  | _ => cases h
theorem os_mod : OpS X T (rI (fun _ j => 0 < j) fun i j => .int (i % j)) dMod := os_intC fun d e x h => by
  cases d with
  | int i =>
    cases e with
    | int j =>
      unfold dMod at h
      dsimp only at h
      split at h
      · cases h; exact ⟨_, _, rfl, rfl, by assumption, rfl⟩
      · cases h
    | _ => cases h
  | _ => cases h
theorem os_fdiv : OpS X T (rI CDivW fun i j => .int (i / j)) dFdiv := os_intC fun d e x h => by
  cases d with
  | int i =>
    cases e with
    | int j =>
      unfold dFdiv at h
      dsimp only at h
      split at h
      · cases h; exact ⟨_, _, rfl, rfl, by assumption, rfl⟩
      · cases h
    | _ => cases h
  | _ => cases h
theorem os_pow : OpS X T (rI CPow fun i j => .int (i ^ j.toNat)) dPow := os_intC fun d e x h => by
  cases d with
  | int i =>
    cases e with
    | int j =>
      unfold dPow at h
      dsimp only at h
      split at h
      · cases h; exact ⟨_, _, rfl, rfl, by assumption, rfl⟩
      · cases h
    | _ => cases h
  | _ => cases h
def rAddA (K : PySem.W.Frag) : R2 := fun x y H Q => (rI0 (fun i j => .int (i + j)) x y H Q ∨ (∃ i j, x = .str i ∧ y = .str j ∧ i.length + j.length ≤ sizeLine ∧ Q (.str (i ++ j)) H)) ∨ (rCat x y H Q ∨ rCatA K x y H Q)
theorem op_addA : OpR X (binaryOp .Add) (rAddA X.K) := (op_add.or op_add_str).or (op_cat.or op_catA)
theorem sizes {xs : List V} {ds : List D} {K r Hi} (h : RepAll K T r Hi xs ds) : xs.length = ds.length := h.length
theorem os_add : OpS X T (rAddA X.K) dAdd := by
  intro E B r Hi H σ ls g v u d e x Q R p q ex w
  cases p with
  | int i =>
    cases q with
    | int j => cases ex; exact .inl (.inl ⟨i, j, rfl, rfl, w.ret R .refl _ (.int _)⟩)
    | _ => cases ex
  | str a =>
    cases q with
    | str b =>
      unfold dAdd at ex
      dsimp only at ex
      split at ex
      · cases ex; exact .inl (.inr ⟨a, b, rfl, rfl, by assumption, w.ret R .refl _ (.str _)⟩)
      · cases ex
    | _ => cases ex
  | lst h1 a1 =>
    cases q with
    | lst h2 a2 =>
      obtain ⟨hz, rfl⟩ := dLst_some ex
      refine .inr (.inl ⟨_, _, _, _, rfl, rfl, R.sub _ _ h1, R.sub _ _ h2, ?_, new_lst R (a1.app a2) w⟩)
      rw [a1.length, a2.length]
      simpa using hz
    | _ => cases ex
  | tup h1 a1 =>
    cases q with
    | tup h2 a2 =>
      rename_i ds _ xs _ es
      obtain ⟨hz, rfl⟩ := dTup_some ex
      refine .inr (.inr ⟨_, _, _, _, rfl, rfl, G6.SqT.mono R.sub h1, G6.SqT.mono R.sub h2, ?_, fun z => ?_, fun _ z => ?_, fun _ _ => new_tup R (a1.app a2) w⟩)
      · rw [a1.length, a2.length]
        simpa using hz
      · subst z
        cases a1
        exact w.ret R .refl _ (.tup h2 a2)
      · subst z
        cases a2
        have := w.ret R .refl _ (.tup h1 (by rw [List.append_nil]; exact a1))
        exact this
    | _ => cases ex
  | _ => cases ex
theorem tuple_mul1 (l : Addr) (items : Array Value) (n : Nat) (dd : Option Addr) (sl : Array (Option Value)) (u : Tok) :
    Meets (Builtin.«tuple.__mul__» ⟨[.ref l, .int 1 u], []⟩) (fun _ R s => s.heap.get? l = some { cls := .type "tuple", dict := dd, data := .seq items n, slots := sl } ∧ R (.ok (.ret (Value.ref l))) s) :=
  .of_wp fun prog w A R s h => by
    obtain ⟨hp, g, d, tk, os⟩ := s
    obtain ⟨hl, h⟩ := h
    have f1 := AutoSeq1.idx_int
    have c0 : (decide ((1 : Int) < -(2 ^ 63)) || decide ((1 : Int) ≥ 2 ^ 63)) = false := by decide
    have c1 : (items.isEmpty || (1 : Int) == 1) = true := by simp
    wp_walk using wpAny_loadPart' hl
    repeat (first
      | (refine wpAny_ite_false (decide_eq_false (by rw [c0]; exact Bool.false_ne_true)) ?_; wp_walk using wpAny_loadPart' hl)
      | (refine wpAny_ite_true (decide_eq_true (by rw [c1])) ?_; wp_walk using wpAny_loadPart' hl))
    exact ⟨_, rfl, h⟩
def rRep1 (K : PySem.W.Frag) : R2 := fun x y H Q => ∃ l xs, x = .ref l ∧ y = .int 1 ∧ SqT K H l xs ∧ Q (.ref l) H
theorem op_rep1 : OpR X (binaryOp .Mult) (rRep1 X.K) := by
  intro pins s σ H x y v u Q I rx ry h
  obtain ⟨l, xs, rfl, rfl, hT, q⟩ := h
  cases rx
  obtain ⟨t, rfl⟩ := ry
  obtain ⟨its, r, ⟨⟨cls, dd, data, sl⟩, ho, hc, n, hd⟩, hs⟩ := I.tuple hT
  simp only at hc hd
  subst hc hd
  exact wpAny_binaryOp_repeat_ref (T := "tuple") (U := "int") (by decide) ⟨_, ho, rfl⟩ (fun s' => typeIs_int s' 1 t) noFill_tuple_mul F.fills_int_mul F.slot_int_rmul repeat_tuple F.slot_int_index.lookup
    (call_meets F.slot_int_rmul (typeIs_int s 1 t) F.entry_int_rmul (F.args_int_rmul_2 _ _) (int_rmul_tuple 1 t l its.toArray n dd sl)
      ⟨ho, rfl, ⟨_, ho, rfl⟩, call_meets F.slot_tuple_mul ⟨_, ho, rfl⟩ F.entry_tuple_mul (F.args_tuple_mul_2 _ _) (tuple_mul1 l its.toArray n dd sl t) ⟨ho, ⟨.ref l, H, I, rfl, q⟩⟩⟩)
def rMulA (K : PySem.W.Frag) : R2 := fun x y H Q => rI CMulW (fun i j => .int (i * j)) x y H Q ∨ (rRep x y H Q ∨ (rRepT K x y H Q ∨ rRep1 K x y H Q))
theorem op_mulA : OpR X (binaryOp .Mult) (rMulA X.K) := op_mulW.or (op_rep.or (op_repT.or op_rep1))
theorem RepAll.reps {K : PySem.W.Frag} {r : List Addr} {Hi : Hp} {vs : List V} {ds : List D} (h : RepAll K T r Hi vs ds) : ∀ n : Nat, RepAll K T r Hi (List.replicate n vs).flatten (List.replicate n ds).flatten
  | 0 => .nil
  | n + 1 => by
    rw [List.replicate_succ, List.replicate_succ, List.flatten_cons, List.flatten_cons]
    exact h.app (RepAll.reps h n)
theorem os_mul : OpS X T (rMulA X.K) dMul := by
  intro E B r Hi H σ ls g v u d e x Q R p q ex w
  cases p with
  | int i =>
    cases q with
    | int j =>
      unfold dMul at ex
      dsimp only at ex
      split at ex
      · cases ex; exact .inl ⟨i, j, rfl, rfl, by assumption, w.ret R .refl _ (.int _)⟩
      · cases ex
    | _ => cases ex
  | lst h1 a1 =>
    cases q with
    | int k =>
      unfold dMul at ex
      dsimp only at ex
      split at ex
      · rename_i hc
        cases ex
        exact .inr (.inl ⟨_, _, _, rfl, rfl, R.sub _ _ h1, hc.1, hc.2.1, by rw [a1.length]; exact hc.2.2, new_lst R (a1.reps _) w⟩)
      · cases ex
    | _ => cases ex
  | tup h1 a1 =>
    cases q with
    | int k =>
      unfold dMul at ex
      dsimp only at ex
      split at ex
      · rename_i hc
        subst hc
        cases ex
        exact .inr (.inr (.inr ⟨_, _, rfl, rfl, G6.SqT.mono R.sub h1, w.ret R .refl _ (.tup h1 a1)⟩))
      split at ex
      · rename_i hc
        cases ex
        exact .inr (.inr (.inl ⟨_, _, _, rfl, rfl, G6.SqT.mono R.sub h1, fun z => hc.1 (by subst z; cases a1; rfl), hc.2.1, hc.2.2.1, by rw [a1.length]; exact hc.2.2.2, new_tup R (a1.reps _) w⟩))
      · cases ex
    | _ => cases ex
  | _ => cases ex
theorem us_neg : UnS X T (rU fun i => .int (-i)) dNeg := by
  intro E B r Hi H σ ls g v d x Q R p ex w
  cases p with
  | int i => cases ex; exact ⟨i, rfl, w.ret R .refl _ (.int _)⟩
  | _ => cases ex
theorem RepAll.atI {K : PySem.W.Frag} {r : List Addr} {Hi : Hp} {vs : List V} {ds : List D} {i : Int} {x : D} (h : RepAll K T r Hi vs ds) (e : atI ds i = some x) : ∃ v, L2.atI vs i = some v ∧ Rep K T r Hi v x := by
  unfold L2.atI at e ⊢
  obtain ⟨j, e1, e2⟩ := Option.bind_eq_some_iff.mp e
  obtain ⟨v, e3, p⟩ := h.get e2
  exact ⟨v, by rw [h.length, e1]; exact e3, p⟩
theorem os_ix : OpS X T (rIx X.K) dIx := by
  intro E B r Hi H σ ls g v u d e x Q R p q ex w
  cases q with
  | int i =>
    cases p with
    | lst h1 a1 =>
      obtain ⟨v, e1, p⟩ := a1.atI ex
      exact .inl ⟨_, _, i, v, rfl, rfl, L2.SqL.of (R.sub _ _ h1), e1, w.ret R .refl _ p⟩
    | tup h1 a1 =>
      obtain ⟨v, e1, p⟩ := a1.atI ex
      exact .inr (.inl ⟨_, _, i, v, rfl, rfl, G6.SqT.mono R.sub h1, e1, w.ret R .refl _ p⟩)
    | str z =>
      unfold dIx at ex
      dsimp only at ex
      split at ex
      · obtain ⟨c, e1, e2⟩ := Option.map_eq_some_iff.mp ex
        subst e2
        exact .inr (.inr ⟨z, i, c, rfl, rfl, by assumption, e1, w.ret R .refl _ (.str _)⟩)
      · cases ex
    | _ => cases ex
  | _ => cases p <;> cases ex
/-! slices -/
def fPart (f : Ls → M D) : Ls → M (Option Int) := fun ls => M.bind (f ls) fun d => match d with
  | .int i => M.ret (some i)
  | _ => M.opt none
def fNoPart : Ls → M (Option Int) := fun _ => M.ret none
def tO (K : PySem.W.Frag) (T : Tab) (E : XE) (f : Ls → M (Option Int)) : TO := fun σ H Q => ∃ B r Hi ls g, Rel K T B r Hi H σ ls g ∧ WpG K T E B σ ls r Hi (f ls g) (fun o _ _ H' _ => Q o H')
abbrev FO (X : Cx) (T : Tab) (E : XE) (e : Option Expr) (f : Ls → M (Option Int)) : Prop := PO X e (tO X.K T E f)
theorem _root_.L2.PO.imp {X : Cx} {e : Option Expr} {t t' : TO} (h : PO X e t) (k : ∀ σ H Q, t' σ H Q → t σ H Q) : PO X e t' := ⟨fun pins s σ H Q I q => h.run pins s σ H Q I (k _ _ _ q)⟩
variable {E : XE} {a b : Expr} {fa fb : Ls → M D} {pos p2 : Pos}
theorem fo_none : FO X T E none fNoPart := po_none.imp fun σ H Q ⟨B, r, Hi, ls, g, R, w⟩ => w.ret R .refl
theorem fo_some (h : FE X T E a fa) : FO X T E (some a) (fPart fa) := (po_some h).imp fun σ H Q ⟨B, r, Hi, ls, g, R, w⟩ => ⟨B, r, Hi, ls, g, R, w.bind.mono fun d r1 Hi1 H1 g1 R1 G1 w1 v p1 => by
  cases p1 with
  | int i => exact ⟨i, rfl, w1.ret R1 .refl⟩
  | _ => exact False.elim w1⟩
def fCut (f : Ls → M D) (lo hi : Ls → M (Option Int)) : Ls → M D := fun ls => M.bind (f ls) fun d => M.bind (lo ls) fun l => M.bind (hi ls) fun h => M.opt (dCut d l h)
theorem RepAll.cut {K : PySem.W.Frag} {r : List Addr} {Hi : Hp} {vs : List V} {ds : List D} (h : RepAll K T r Hi vs ds) (lo hi : Option Int) : RepAll K T r Hi (cutV vs lo hi) (cutD ds lo hi) := by
  unfold cutV cutD
  rw [h.length]
  exact (h.drop _).take _
theorem cut_all {α : Type} {xs : List α} {lo hi : Option Int} (h : HT.sIx xs.length 0 lo = 0 ∧ HT.sIx xs.length xs.length hi = xs.length) : cutD xs lo hi = xs := by
  unfold cutD
  rw [h.1, h.2, Nat.sub_zero, List.drop_zero, List.take_length]
def rSlX (K : PySem.W.Frag) : V → Option Int → Option Int → Hp → VK → Prop := fun x lo hi H Q => rSlL K x lo hi H Q ∨ (rSlA K x lo hi H Q ∨ rSlS x lo hi H Q)
theorem fe_cut {e : Expr} {lo hi : Option Expr} {f : Ls → M D} {fl fh : Ls → M (Option Int)} (he : FE X T E e f) (hl : FO X T E lo fl) (hh : FO X T E hi fh) : FE X T E (.Subscript e (.Slice lo hi none p2) pos) (fCut f fl fh) :=
  (pe_slice (r := rSlX X.K) (sl_list.or (sl_tupA.or sl_str)) he hl hh).imp fun σ H Q ⟨B, r, Hi, ls, g, R, w⟩ => ⟨B, r, Hi, ls, g, R, w.bind.mono fun d r1 Hi1 H1 g1 R1 G1 w1 v p1 => ⟨B, r1, Hi1, ls, g1, R1, w1.bind.mono fun l r2 Hi2 H2 g2 R2 G2 w2 => ⟨B, r2, Hi2, ls, g2, R2, w2.bind.mono fun h r3 Hi3 H3 g3 R3 G3 w3 => by
    obtain ⟨x, ex, w4⟩ := w3.opt
    have p3 := (p1.mono G2).mono G3
    cases p3 with
    | lst h1 a1 =>
      cases ex
      exact .inl ⟨_, _, rfl, L2.SqL.of (R3.sub _ _ h1), new_lst R3 (a1.cut l h) w4⟩
    | scr h1 =>
      rename_i a ns
      cases ex
      refine .inl ⟨_, _, rfl, G6.SqL.mono R3.sub h1, ?_⟩
      have e : cutV (ns.map V.int) l h = (cutD ns l h).map V.int := by
        unfold cutV cutD
        rw [List.length_map, List.map_take, List.map_drop]
      rw [e]
      exact new_lst R3 (RepAll.ints _) w4
    | tup h1 a1 =>
      cases ex
      refine .inr (.inl ⟨_, _, rfl, G6.SqT.mono R3.sub h1, fun z => ?_, fun _ => new_tup R3 (a1.cut l h) w4⟩)
      rw [a1.length] at z
      have w5 := w4.ret R3 .refl
      rw [cut_all z] at w5
      exact w5 _ (.tup h1 a1)
    | str z =>
      unfold dCut at ex
      dsimp only at ex
      split at ex
      · cases ex
        exact .inr (.inr ⟨z, rfl, by assumption, w4.ret R3 .refl _ (.str _)⟩)
      · cases ex
    | _ => cases ex⟩⟩⟩
/-! in -/
theorem Rep.flat {K : PySem.W.Frag} {r : List Addr} {Hi : Hp} {v : V} {d : D} (h : Rep K T r Hi v d) (f : dFlat d = true) : flatV v = true ∧ ∀ {u : V} {e : D}, Rep K T r Hi u e → dFlat e = true → eqV u v = dFeq e d := by
  cases h with
  | non => exact ⟨rfl, fun p f => by cases p <;> first | rfl | cases f⟩
  | bl b => exact ⟨rfl, fun p f => by cases p <;> first | rfl | cases f⟩
  | int i => exact ⟨rfl, fun p f => by cases p <;> first | rfl | cases f⟩
  | str s => exact ⟨rfl, fun p f => by cases p <;> first | rfl | cases f⟩
  | _ => cases f
theorem RepAll.flat {K : PySem.W.Frag} {r : List Addr} {Hi : Hp} {v : V} {d : D} (hv : Rep K T r Hi v d) (f : dFlat d = true) : ∀ {vs : List V} {ds : List D}, RepAll K T r Hi vs ds → ds.all dFlat = true → vs.all flatV = true ∧ inV v vs = ds.any fun e => dFeq e d
  | _, _, .nil, _ => ⟨rfl, rfl⟩
  | _, _, .cons h t, g => by
    rw [List.all_cons, Bool.and_eq_true] at g
    obtain ⟨q1, q2⟩ := RepAll.flat hv f t g.2
    refine ⟨by rw [List.all_cons, (h.flat g.1).1, q1]; rfl, ?_⟩
    unfold inV at q2 ⊢
    rw [List.any_cons, List.any_cons, q2, (hv.flat f).2 h g.1]
def rInA (K : PySem.W.Frag) : R2 := fun x y H Q => (∃ i j, x = .str i ∧ y = .str j ∧ Q (.bl (!(Builtin.Str.occurrences j i 0 j.length 1).isEmpty)) H) ∨ rIn K false x y H Q
def rNotInA (K : PySem.W.Frag) : R2 := fun x y H Q => (∃ i j, x = .str i ∧ y = .str j ∧ Q (.bl (!(!(Builtin.Str.occurrences j i 0 j.length 1).isEmpty))) H) ∨ rIn K true x y H Q
theorem op_inA : OpR X (compareOp .In) (rInA X.K) := op_in_str.or op_in_seq
theorem op_notInA : OpR X (compareOp .NotIn) (rNotInA X.K) := op_notin_str.or op_notIn_seq
theorem in_seq {B : Base} {r : List Addr} {Hi H : Hp} {σ : L2.St} {ls : Ls} {g : Gs} {v u : V} {d e : D} {k : Bool} {Q : VK} {neg : Bool} (R : Rel X.K T B r Hi H σ ls g) (p : Rep X.K T r Hi v d) (q : Rep X.K T r Hi u e) (ek : dInB d e = some k)
    (hs : ∀ s, e ≠ .str s) (w : Q (.bl (if neg then !k else k)) H) : rIn X.K neg v u H Q := by
  cases q with
  | lst h1 a1 =>
    have ek' : dInL _ _ = some k := ek
    unfold dInL at ek'
    split at ek'
    · rename_i hc
      cases ek'
      obtain ⟨q1, q2⟩ := RepAll.flat p hc.1 a1 hc.2
      exact ⟨_, _, rfl, .inl (L2.SqL.of (R.sub _ _ h1)), (p.flat hc.1).1, q1, by rw [q2]; exact w⟩
    · cases ek'
  | tup h1 a1 =>
    have ek' : dInL _ _ = some k := ek
    unfold dInL at ek'
    split at ek'
    · rename_i hc
      cases ek'
      obtain ⟨q1, q2⟩ := RepAll.flat p hc.1 a1 hc.2
      exact ⟨_, _, rfl, .inr (G6.SqT.mono R.sub h1), (p.flat hc.1).1, q1, by rw [q2]; exact w⟩
    · cases ek'
  | str s => exact absurd rfl (hs s)
  | _ => cases ek
theorem os_in : OpS X T (rInA X.K) dIn := by
  intro E B r Hi H σ ls g v u d e x Q R p q ex w
  unfold dIn at ex
  obtain ⟨k, ek, ex⟩ := Option.map_eq_some_iff.mp ex
  subst ex
  by_cases hs : ∃ s, e = .str s
  · obtain ⟨s, rfl⟩ := hs
    cases q
    cases p with
    | str i => cases ek; exact .inl ⟨i, s, rfl, rfl, w.ret R .refl _ (.bl _)⟩
    | _ => cases ek
  · exact .inr (in_seq R p q ek (fun s z => hs ⟨s, z⟩) (w.ret R .refl _ (.bl _)))
theorem os_notIn : OpS X T (rNotInA X.K) dNotIn := by
  intro E B r Hi H σ ls g v u d e x Q R p q ex w
  unfold dNotIn at ex
  obtain ⟨k, ek, ex⟩ := Option.map_eq_some_iff.mp ex
  subst ex
  by_cases hs : ∃ s, e = .str s
  · obtain ⟨s, rfl⟩ := hs
    cases q
    cases p with
    | str i => cases ek; exact .inl ⟨i, s, rfl, rfl, w.ret R .refl _ (.bl _)⟩
    | _ => cases ek
  · exact .inr (in_seq R p q ek (fun s z => hs ⟨s, z⟩) (w.ret R .refl _ (.bl _)))

/-! ### built-ins -/
theorem cs_len : CallS X T (fun xs H Q => ∃ x n, xs = [x] ∧ LenV X.K x H n ∧ Q (.int n) H) dLen := by
  intro E B r Hi H σ ls g vs ds x Q R p ex w
  cases p with
  | nil => cases ex
  | cons h t =>
    cases t with
    | cons _ _ => cases h <;> cases ex
    | nil =>
      cases h with
      | lst h1 a1 => cases ex; exact ⟨_, _, rfl, .inl ⟨_, L2.SqL.of (R.sub _ _ h1), a1.length.symm⟩, w.ret R .refl _ (.int _)⟩
      | tup h1 a1 => cases ex; exact ⟨_, _, rfl, .inr ⟨_, G6.SqT.mono R.sub h1, a1.length.symm⟩, w.ret R .refl _ (.int _)⟩
      | scr h1 => cases ex; exact ⟨_, _, rfl, .inl ⟨_, G6.SqL.mono R.sub h1, (List.length_map _).symm⟩, w.ret R .refl _ (.int _)⟩
      | str z =>
        unfold dLen at ex
        dsimp only at ex
        split at ex
        · cases ex; exact ⟨_, _, rfl, ⟨by assumption, rfl⟩, w.ret R .refl _ (.int _)⟩
        · cases ex
      | _ => cases ex
theorem cs_abs : CallS X T (fun xs H Q => ∃ i, xs = [.int i] ∧ Q (.int (if i < 0 then -i else i)) H) dAbs := by
  intro E B r Hi H σ ls g vs ds x Q R p ex w
  cases p with
  | nil => cases ex
  | cons h t =>
    cases t with
    | cons _ _ => cases h <;> cases ex
    | nil =>
      cases h with
      | int i => cases ex; exact ⟨_, rfl, w.ret R .refl _ (.int _)⟩
      | _ => cases ex
theorem cs_min2 : CallS X T (fun xs H Q => ∃ i j, xs = [.int i, .int j] ∧ Q (.int (if j < i then j else i)) H) dMin2 := by
  intro E B r Hi H σ ls g vs ds x Q R p ex w
  cases p with
  | nil => cases ex
  | cons h t =>
    cases t with
    | nil => cases h <;> cases ex
    | cons h2 t =>
      cases t with
      | cons _ _ => cases h <;> cases h2 <;> cases ex
      | nil =>
        cases h with
        | int i =>
          cases h2 with
          | int j => cases ex; exact ⟨_, _, rfl, w.ret R .refl _ (.int _)⟩
          | _ => cases ex
        | _ => cases h2 <;> cases ex
theorem cs_max2 : CallS X T (fun xs H Q => ∃ i j, xs = [.int i, .int j] ∧ Q (.int (if j > i then j else i)) H) dMax2 := by
  intro E B r Hi H σ ls g vs ds x Q R p ex w
  cases p with
  | nil => cases ex
  | cons h t =>
    cases t with
    | nil => cases h <;> cases ex
    | cons h2 t =>
      cases t with
      | cons _ _ => cases h <;> cases h2 <;> cases ex
      | nil =>
        cases h with
        | int i =>
          cases h2 with
          | int j => cases ex; exact ⟨_, _, rfl, w.ret R .refl _ (.int _)⟩
          | _ => cases ex
        | _ => cases h2 <;> cases ex
theorem asBls_eq : ∀ {ds : List D} {bs : List Bool}, asBls ds = some bs → ds = bs.map .bl
  | [], _, h => by cases h; rfl
  | d :: ds, bs, h => by
    cases d with
    | bl b =>
      unfold asBls at h
      obtain ⟨cs, e, h⟩ := Option.map_eq_some_iff.mp h
      subst h
      rw [List.map_cons, asBls_eq e]
    | _ => cases h
theorem asInts_eq : ∀ {ds : List D} {bs : List Int}, asInts ds = some bs → ds = bs.map .int
  | [], _, h => by cases h; rfl
  | d :: ds, bs, h => by
    cases d with
    | int b =>
      unfold asInts at h
      obtain ⟨cs, e, h⟩ := Option.map_eq_some_iff.mp h
      subst h
      rw [List.map_cons, asInts_eq e]
    | _ => cases h
theorem asBls_map (bs : List Bool) : asBls (bs.map .bl) = some bs := by
  induction bs with
  | nil => rfl
  | cons b bs ih => rw [List.map_cons, asBls, ih]; rfl
theorem asInts_map (bs : List Int) : asInts (bs.map .int) = some bs := by
  induction bs with
  | nil => rfl
  | cons b bs ih => rw [List.map_cons, asInts, ih]; rfl
theorem cs_all : CallS X T (rAll X.K) dAll := by
  intro E B r Hi H σ ls g vs ds x Q R p ex w
  cases p with
  | nil => cases ex
  | cons h t =>
    cases t with
    | cons _ _ => cases h <;> cases ex
    | nil =>
      cases h with
      | lst h1 a1 =>
        obtain ⟨bs, e1, e2⟩ := Option.map_eq_some_iff.mp ex
        subst e2
        rw [asBls_eq e1] at a1
        have := a1.ofBls
        subst this
        exact ⟨_, bs, rfl, L2.SqL.of (R.sub _ _ h1), w.ret R .refl _ (.bl _)⟩
      | _ => cases ex
theorem cs_any : CallS X T (rAny X.K) dAny := by
  intro E B r Hi H σ ls g vs ds x Q R p ex w
  cases p with
  | nil => cases ex
  | cons h t =>
    cases t with
    | cons _ _ => cases h <;> cases ex
    | nil =>
      cases h with
      | lst h1 a1 =>
        obtain ⟨bs, e1, e2⟩ := Option.map_eq_some_iff.mp ex
        subst e2
        rw [asBls_eq e1] at a1
        have := a1.ofBls
        subst this
        exact ⟨_, bs, rfl, L2.SqL.of (R.sub _ _ h1), w.ret R .refl _ (.bl _)⟩
      | _ => cases ex
theorem cs_sum : CallS X T (rSum X.K) dSum := by
  intro E B r Hi H σ ls g vs ds x Q R p ex w
  cases p with
  | nil => cases ex
  | cons h t =>
    cases t with
    | cons _ _ => cases h <;> cases ex
    | nil =>
      cases h with
      | lst h1 a1 =>
        obtain ⟨bs, e1, e2⟩ := Option.map_eq_some_iff.mp ex
        subst e2
        rw [asInts_eq e1] at a1
        have := a1.ofInts
        subst this
        exact ⟨_, bs, rfl, L2.SqL.of (R.sub _ _ h1), w.ret R .refl _ (.int _)⟩
      | _ => cases ex
theorem cs_tuple : CallS X T (fun xs H Q => ∃ p ys, xs = [.ref p] ∧ ((SqL X.K H p ys ∧ ∀ l, H l = none → Q (.ref l) (upd H l (.tup ys))) ∨ (SqT X.K H p ys ∧ Q (.ref p) H))) dTuple := by
  intro E B r Hi H σ ls g vs ds x Q R p ex w
  cases p with
  | nil => cases ex
  | cons h t =>
    cases t with
    | cons _ _ => cases h <;> cases ex
    | nil =>
      cases h with
      | lst h1 a1 => cases ex; exact ⟨_, _, rfl, .inl ⟨L2.SqL.of (R.sub _ _ h1), new_tup R a1 w⟩⟩
      | tup h1 a1 => cases ex; exact ⟨_, _, rfl, .inr ⟨G6.SqT.mono R.sub h1, w.ret R .refl _ (.tup h1 a1)⟩⟩
      | _ => cases ex
theorem cs_list : CallS X T (fun xs H Q => ∃ p ys, xs = [.ref p] ∧ (SqL X.K H p ys ∨ SqT X.K H p ys) ∧ ∀ l, H l = none → Q (.ref l) (upd H l (.lst ys))) dList := by
  intro E B r Hi H σ ls g vs ds x Q R p ex w
  cases p with
  | nil => cases ex
  | cons h t =>
    cases t with
    | cons _ _ => cases h <;> cases ex
    | nil =>
      cases h with
      | lst h1 a1 => cases ex; exact ⟨_, _, rfl, .inl (L2.SqL.of (R.sub _ _ h1)), new_lst R a1 w⟩
      | tup h1 a1 => cases ex; exact ⟨_, _, rfl, .inr (G6.SqT.mono R.sub h1), new_lst R a1 w⟩
      | _ => cases ex
theorem cs_strI : CallS X T (fun xs H Q => ∃ i, xs = [.int i] ∧ i.natAbs.log2 < 1920 ∧ Q (.str (toString i)) H) dStrI := by
  intro E B r Hi H σ ls g vs ds x Q R p ex w
  cases p with
  | nil => cases ex
  | cons h t =>
    cases t with
    | cons _ _ => cases h <;> cases ex
    | nil =>
      cases h with
      | int i =>
        unfold dStrI at ex
        dsimp only at ex
        split at ex
        · cases ex; exact ⟨_, rfl, by assumption, w.ret R .refl _ (.str _)⟩
        · cases ex
      | _ => cases ex
/-! isinstance -/
theorem Rep.tyx {r : List Addr} {Hi H : Hp} {v : V} {d : D} {t : String} (sub : ∀ a o, Hi a = some o → H a = some o) (h : Rep X.K T r Hi v d) (e : dTy d = some t) : TyX X.K H v (.type t) := by
  cases h with
  | non => cases e; exact .base .non
  | bl b => cases e; exact .base (.bl b)
  | int i => cases e; exact .base (.int i)
  | str s => cases e; exact .base (.str s)
  | lst h1 _ => cases e; exact .base (.lst (sub _ _ h1))
  | tup h1 _ =>
    cases e
    rcases h1 with (h1 | ⟨o, h1⟩) | ⟨o, its, n, h1, h2, _⟩
    · exact .base (.tup (sub _ _ h1))
    · exact .fTuple (sub _ _ h1)
    · exact .kTuple h1 h2
  | dic h1 _ => cases e; exact .base (.dK (sub _ _ h1))
  | dct h1 _ => cases e; exact .base (.dT (sub _ _ h1))
  | _ => cases e
def rIsA (K : PySem.W.Frag) : List V → Hp → VK → Prop := fun xs H Q => ∃ x c t b, xs = [x, c] ∧ TyX K H x t ∧ ((∃ u, ClsV c u ∧ PySem.W.kitOne K t u = some b) ∨ (∃ tp cs us, c = .ref tp ∧ SqT K H tp cs ∧ Paired ClsV cs us ∧ PySem.W.kitAny K t us = some b)) ∧ Q (.bl b) H
theorem call_isA : CallR X (.builtin "isinstance") (rIsA X.K) := by
  intro pins s σ H xs us Q I rv h
  obtain ⟨x, c, t, b, rfl, ty, h, q⟩ := h
  obtain ⟨u1, u2, rfl, r1, r2⟩ := vals2 rv
  obtain ⟨P, Z, p, hx⟩ := kit_of I r1 ty
  rcases h with ⟨u, k, e⟩ | ⟨tp, cs, ws, rfl, hT, k, e⟩
  · have e2 := k.eq r2
    subst e2
    exact PySem.W.kia_one Z I.kIn p e hx fun tk => ⟨.bl b, H, I.tok tk, rfl, q⟩
  · cases (show u2 = Value.ref tp from r2)
    obtain ⟨its, rv, ⟨o, h1, h2, n, h3⟩, _⟩ := I.tuple hT
    have e3 := ClsV.all k rv
    subst e3
    obtain ⟨oc, od, dt, sl⟩ := o
    simp only at h2 h3
    subst h2 h3
    exact PySem.W.kia_tup Z I.kIn p h1 e hx fun tk => ⟨.bl b, H, I.tok tk, rfl, q⟩
theorem tyAny_kit {K : PySem.W.Frag} {r : List Addr} {Hi : Hp} {a : String} : ∀ {vs : List V} {cs : List D} {b : Bool}, RepAll K T r Hi vs cs → tyAny a cs = some b → ∃ us, Paired ClsV vs us ∧ PySem.W.kitAny K (.type a) us = some b
  | _, _, b, .nil, e => by
    cases e
    exact ⟨[], .nil, rfl⟩
  | _, _, b, .cons h t, e => by
    cases h with
    | ty n =>
      unfold tyAny at e
      obtain ⟨k, ek, e⟩ := Option.bind_eq_some_iff.mp e
      obtain ⟨m, em, e⟩ := Option.map_eq_some_iff.mp e
      have hk := kit_ty (K := K) (tyIs_kit ek)
      obtain ⟨us, p, q⟩ := tyAny_kit t em
      refine ⟨.type n :: us, .cons (.ty n) p, kitAny_cons hk (fun z => ?_) fun z => ?_⟩
      · rw [q, ← e, z]; rfl
      · rw [← e, z]; rfl
    | _ => cases e
theorem cs_isi : CallS X T (rIsA X.K) dIsi := by
  intro E B r Hi H σ ls g vs ds x Q R p ex w
  cases p with
  | nil => cases ex
  | cons h t =>
    cases t with
    | nil => cases ex
    | cons h2 t =>
      cases t with
      | cons _ _ => cases h2 <;> cases ex
      | nil =>
        cases h2 with
        | ty n =>
          unfold dIsi at ex
          dsimp only at ex
          obtain ⟨a, ea, ex⟩ := Option.bind_eq_some_iff.mp ex
          obtain ⟨k, ek, ex⟩ := Option.map_eq_some_iff.mp ex
          subst ex
          exact ⟨_, _, _, k, rfl, h.tyx R.sub ea, .inl ⟨_, .ty n, kit_ty (tyIs_kit ek)⟩, w.ret R .refl _ (.bl _)⟩
        | tup h1 a1 =>
          unfold dIsi at ex
          dsimp only at ex
          obtain ⟨a, ea, ex⟩ := Option.bind_eq_some_iff.mp ex
          obtain ⟨k, ek, ex⟩ := Option.map_eq_some_iff.mp ex
          subst ex
          obtain ⟨us, pu, q⟩ := tyAny_kit (K := X.K) a1 ek
          exact ⟨_, _, _, k, rfl, h.tyx R.sub ea, .inr ⟨_, _, us, rfl, G6.SqT.mono R.sub h1, pu, q⟩, w.ret R .refl _ (.bl _)⟩
        | _ => cases ex
end
end G6

namespace G6
open PySem PySem.Spec L2

/-! ### more about states -/
section
variable {K : PySem.W.Frag} {T : Tab} {B : Base} {r r' : List Addr} {Hi Hi' H H' : Hp} {σ σ' : L2.St} {ls ls' : Ls} {g g' : Gs}
theorem Rel.setU (h : Rel K T B r Hi H σ ls g) (i : Nat) (o : Option V) : Rel K T B r Hi H (σ.set i o) (ls.set i .un) g := by
  have at_ : ∀ (j : Nat) (x : LV), x ≠ .un → (ls.set i .un)[j]? = some x → j ≠ i ∧ ls[j]? = some x := fun j x n e => by
    by_cases z : j = i
    · subst z
      rw [List.getElem?_set_self'] at e
      cases e2 : ls[j]? with
      | none => rw [e2] at e; cases e
      | some y => rw [e2] at e; cases e; exact absurd rfl n
    · rw [List.getElem?_set_ne (Ne.symm z)] at e
      exact ⟨z, e⟩
  have σat : ∀ j : Nat, j ≠ i → (σ.set i o)[j]? = σ[j]? := fun j z => List.getElem?_set_ne (Ne.symm z)
  refine ⟨h.sub, by simpa using h.len, fun j x e => ?_, fun j q e => ?_, fun j k oj ok a e1 e2 e3 e4 => ?_, h.rlen, h.rnd, h.sto, h.i0, h.keep, h.dom, fun a ⟨j, q, e1, e2⟩ => ?_, h.newR, h.newI⟩
  · obtain ⟨z, e⟩ := at_ j (.dat x) (fun z => nomatch z) e
    rw [σat j z]
    exact h.loc j x e
  · obtain ⟨z, e⟩ := at_ j (.own q) (fun z => nomatch z) e
    rw [σat j z]
    exact h.own j q e
  · obtain ⟨z1, e5⟩ := at_ j (.own oj) (fun z => nomatch z) e1
    obtain ⟨z2, e6⟩ := at_ k (.own ok) (fun z => nomatch z) e2
    rw [σat j z1] at e3
    rw [σat k z2] at e4
    exact h.sep j k oj ok a e5 e6 e3 e4
  · obtain ⟨z, e5⟩ := at_ j (.own q) (fun z => nomatch z) e1
    rw [σat j z] at e2
    exact h.newO a ⟨j, q, e5, e2⟩
def wipeL (ls : Ls) : List Nat → Ls
  | [] => ls
  | v :: vs => (wipeL ls vs).set v .un
theorem Rel.wipe (h : Rel K T B r Hi H σ ls g) : ∀ vs : List Nat, Rel K T B r Hi H (L2.wipe σ vs) (wipeL ls vs) g
  | [] => h
  | v :: vs => (Rel.wipe h vs).setU v none
theorem wipe_set {σ : L2.St} {i : Nat} {x : Option V} : ∀ {vs : List Nat}, i ∈ vs → L2.wipe (σ.set i x) vs = L2.wipe σ vs
  | v :: vs, h => by
    unfold L2.wipe
    by_cases hm : i ∈ vs
    · rw [wipe_set hm]
    · have hv : i = v := by
        rcases List.mem_cons.mp h with z | z
        · exact z
        · exact absurd z hm
      subst hv
      have com : ∀ ws : List Nat, i ∉ ws → L2.wipe (σ.set i x) ws = (L2.wipe σ ws).set i x := by
        intro ws
        induction ws with
        | nil => intro _; rfl
        | cons w ws ih =>
          intro hw
          rw [List.mem_cons, not_or] at hw
          unfold L2.wipe
          rw [ih hw.2, List.set_comm _ _ hw.1]
      rw [com vs hm, List.set_set]
theorem wipeL_set {ls : Ls} {i : Nat} {x : LV} : ∀ {vs : List Nat}, i ∈ vs → wipeL (ls.set i x) vs = wipeL ls vs
  | v :: vs, h => by
    unfold wipeL
    by_cases hm : i ∈ vs
    · rw [wipeL_set hm]
    · have hv : i = v := by
        rcases List.mem_cons.mp h with z | z
        · exact z
        · exact absurd z hm
      subst hv
      have com : ∀ ws : List Nat, i ∉ ws → wipeL (ls.set i x) ws = (wipeL ls ws).set i x := by
        intro ws
        induction ws with
        | nil => intro _; rfl
        | cons w ws ih =>
          intro hw
          rw [List.mem_cons, not_or] at hw
          unfold wipeL
          rw [ih hw.2, List.set_comm _ _ hw.1]
      rw [com vs hm, List.set_set]
/-- an object of nobody's, made since the base -/
structure Loose (B : Base) (r : List Addr) (Hi H : Hp) (σ : L2.St) (ls : Ls) (p : Addr) : Prop where
  hi : Hi p = none
  hr : p ∉ r
  ho : ¬ Own σ ls p
  hb : B.f0 p ∨ B.H0 p = none
theorem Rel.loose (h : Rel K T B r Hi H σ ls g) {p : Addr} (hp : H p = none) : Loose B r Hi H σ ls p := by
  refine ⟨?_, fun z => (h.inR z).2 hp, fun z => (h.isOwn z).2.2 hp, .inr ?_⟩
  · cases e : Hi p with
    | none => rfl
    | some u => rw [h.sub p u e] at hp; cases hp
  · cases e : B.H0 p with
    | none => rfl
    | some u => exact absurd hp (h.dom p (by rw [e]; simp))
theorem Rel.upJ (h : Rel K T B r Hi H σ ls g) {p : Addr} {o : HO} (l : Loose B r Hi H σ ls p) : Rel K T B r Hi (upd H p o) σ ls g := by
  refine ⟨fun a u e => ?_, h.len, h.loc, fun i q e => ?_, h.sep, h.rlen, h.rnd, fun n so e => ?_, h.i0, fun a u e n => ?_, fun a e => ?_, h.newO, h.newR, h.newI⟩
  · rw [upd_ne (fun (z : a = p) => by rw [z, l.hi] at e; cases e)]
    exact h.sub a u e
  · obtain ⟨a, ho, q1, q2, q3, q4, q5⟩ := h.own i q e
    refine ⟨a, ho, q1, ?_, q3, q4, q5⟩
    rw [upd_ne (fun (z : a = p) => l.ho ⟨i, q, e, z ▸ q1⟩)]
    exact q2
  · obtain ⟨a, ho, q1, q2, q3, q4⟩ := h.sto n so e
    refine ⟨a, ho, q1, ?_, q3, q4⟩
    rw [upd_ne (fun (z : a = p) => l.hr (z ▸ List.mem_of_getElem? q1))]
    exact q2
  · rw [upd_ne (fun (z : a = p) => ?_)]
    · exact h.keep a u e n
    · subst z
      rcases l.hb with z | z
      · exact n z
      · rw [z] at e; cases e
  · by_cases z : a = p
    · subst z; rw [upd_same]; simp
    · rw [upd_ne z]; exact h.dom a e
/-- such an object is fixed from now on -/
theorem Rel.fixL (h : Rel K T B r Hi H σ ls g) {p : Addr} {ho : HO} (l : Loose B r Hi H σ ls p) (hp : H p = some ho) : Rel K T B r (upd Hi p ho) H σ ls g ∧ Ge r Hi r (upd Hi p ho) := by
  have ge : Ge r Hi r (upd Hi p ho) := ⟨List.prefix_refl _, fun a u e => by rw [upd_ne (ne_of_none e l.hi)]; exact e⟩
  refine ⟨⟨fun a u e => ?_, h.len, fun i d e => ?_, fun i q e => ?_, h.sep, h.rlen, h.rnd, fun n so e => ?_, fun a u e => ge.h _ _ (h.i0 a u e), h.keep, h.dom, h.newO, h.newR, fun a e => ?_⟩, ge⟩
  · by_cases z : a = p
    · subst z; rw [upd_same] at e; cases e; exact hp
    · rw [upd_ne z] at e; exact h.sub a u e
  · obtain ⟨v, q, k⟩ := h.loc i d e
    exact ⟨v, q, k.mono ge⟩
  · obtain ⟨a, ho, q1, q2, q3, q4, q5⟩ := h.own i q e
    refine ⟨a, ho, q1, q2, q3.mono ge, ?_, q5⟩
    rw [upd_ne (fun (z : a = p) => l.ho ⟨i, q, e, z ▸ q1⟩)]
    exact q4
  · obtain ⟨a, ho, q1, q2, q3, q4⟩ := h.sto n so e
    refine ⟨a, ho, q1, q2, q3.mono ge, ?_⟩
    rw [upd_ne (fun (z : a = p) => l.hr (z ▸ List.mem_of_getElem? q1))]
    exact q4
  · by_cases z : a = p
    · subst z
      exact .inr l.hb
    · rw [upd_ne z] at e
      exact h.newI a e
theorem Rel.setL (h : Rel K T B r Hi H σ ls g) {i : Nat} {p : Addr} {ho : HO} {o : OV} (l : Loose B r Hi H σ ls p) (hp : H p = some ho) (q : OwnRel K T r Hi ho o) : Rel K T B r Hi H (σ.set i (some (.ref p))) (ls.set i (.own o)) g :=
  h.setO hp q l.hi l.hr l.hb l.ho
end

/-! ### new objects of one's own -/
def PO_ (K : PySem.W.Frag) (T : Tab) (B : Base) (σ : L2.St) (ls : Ls) (Q : VK) : Pst OV := fun o r' Hi' H' g' => ∀ p ho H2, Rel K T B r' Hi' H2 σ ls g' → Loose B r' Hi' H2 σ ls p → H2 p = some ho → OwnRel K T r' Hi' ho o → Q (.ref p) H2
def tFO (K : PySem.W.Frag) (T : Tab) (E : XE) (f : Ls → M OV) : TE := fun σ H Q => ∃ B r Hi ls g, Rel K T B r Hi H σ ls g ∧ WpG K T E B σ ls r Hi (f ls g) (PO_ K T B σ ls Q)
abbrev FEO (X : Cx) (T : Tab) (E : XE) (e : Expr) (f : Ls → M OV) : Prop := PE X e (tFO X.K T E f)
def fD (f : Ls → M OV) : Ls → M D := fun ls => M.bind (f ls) fun o => M.ret o.d
theorem tF_ofO {K : PySem.W.Frag} {T : Tab} {E : XE} {f : Ls → M OV} {σ : L2.St} {H : Hp} {Q : VK} (h : tF K T E (fD f) σ H Q) : tFO K T E f σ H Q := by
  obtain ⟨B, r, Hi, ls, g, R, w⟩ := h
  refine ⟨B, r, Hi, ls, g, R, w.bind.mono fun o r1 Hi1 H1 g1 R1 G1 w1 p ho H2 R2 l hp q => ?_⟩
  obtain ⟨R3, G3⟩ := R2.fixL l hp
  exact w1.ret R3 G3 _ ((q.mono G3).rep upd_same)
section
variable {X : Cx} {T : Tab} {E : XE} {pos pn p2 : Pos} {e a : Expr} {es : List Expr}
/-- .. as data -/
theorem fe_ofO {f : Ls → M OV} (h : FEO X T E e f) : FE X T E e (fD f) := h.imp fun _ _ _ q => tF_ofO q
theorem po_new {K : PySem.W.Frag} {B : Base} {r : List Addr} {Hi H : Hp} {σ : L2.St} {ls : Ls} {g : Gs} {o : OV} {ho : HO} {Q : VK} (R : Rel K T B r Hi H σ ls g) (q : OwnRel K T r Hi ho o) (w : WpG K T E B σ ls r Hi (some (.ok o, g)) (PO_ K T B σ ls Q)) :
    ∀ a, H a = none → Q (.ref a) (upd H a ho) := fun a ha => w.ret R .refl a ho _ (R.junk ha) (let l := R.loose ha; ⟨l.hi, l.hr, l.ho, l.hb⟩) upd_same q
def oLst (ds : List D) : Option OV := if ds.length ≤ sizeLine then some (.lst ds) else none
def foLst (l : Ls → M (List D)) : Ls → M OV := fun ls => M.bind (l ls) fun ds => M.opt (oLst ds)
theorem feo_lst {l : Ls → M (List D)} (hl : FA X T E es l) : FEO X T E (.List es pos) (foLst l) :=
  (pe_lst hl).imp fun σ H Q ⟨B, r, Hi, ls, g, R, w⟩ => ⟨B, r, Hi, ls, g, R, w.bind.mono fun ds r1 Hi1 H1 g1 R1 G1 w1 vs p1 => by
    obtain ⟨o, eo, w2⟩ := w1.opt
    unfold oLst at eo
    split at eo
    · cases eo
      exact ⟨by rw [p1.length]; assumption, po_new R1 (.lst p1) w2⟩
    · cases eo⟩
def oList : List D → Option OV
  | [.lst ds] => some (.lst ds)
  | [.tup ds] => some (.lst ds)
  | _ => none
def foList (l : Ls → M (List D)) : Ls → M OV := fun ls => M.bind (l ls) fun ds => M.opt (oList ds)
theorem feo_list {l : Ls → M (List D)} {x : Str} (hg : Gl X x) (hm : X.mg x = none) (hv : bootBuiltins x = some (.type "list")) (ha : FA X T E (a :: es) l) (hn : x ≠ "__name__" := by decide) (hdb : (x == ("__debug__" : Str)) = false := by decide)
    (he : starEach (a :: es) X.env = (false, eval a X.env) :: starEach es X.env := by rfl) (hpl : (backTo pos (starEach es X.env)).any (·.1) = false := by rfl) : FEO X T E (.Call (.Name x pn) (a :: es) [] pos) (foList l) :=
  (pe_callTy call_list_of hg hm hv ha hn hdb he hpl).imp fun σ H Q ⟨B, r, Hi, ls, g, R, w⟩ => ⟨B, r, Hi, ls, g, R, w.bind.mono fun ds r1 Hi1 H1 g1 R1 G1 w1 vs p1 => by
    obtain ⟨o, eo, w2⟩ := w1.opt
    cases p1 with
    | nil => cases eo
    | cons h t =>
      cases t with
      | cons _ _ => cases h <;> cases eo
      | nil =>
        cases h with
        | lst h1 a1 => cases eo; exact ⟨_, _, rfl, .inl (L2.SqL.of (R1.sub _ _ h1)), po_new R1 (.lst a1) w2⟩
        | tup h1 a1 => cases eo; exact ⟨_, _, rfl, .inr (G6.SqT.mono R1.sub h1), po_new R1 (.lst a1) w2⟩
        | _ => cases eo⟩
end

/-! ### targets -/
def TgS (X : Cx) (T : Tab) (t : TG) (is : List Nat) (f : D → Ls → Option Ls) : Prop := ∀ (B : Base) (r : List Addr) (Hi H : Hp) (σ : L2.St) (ls ls' : Ls) (g : Gs) (v : V) (d : D) (Q : L2.St → Hp → Prop),
  Rel X.K T B r Hi H σ ls g → Rep X.K T r Hi v d → f d ls = some ls' → (∀ σ', Rel X.K T B r Hi H σ' ls' g → (∀ vs : List Nat, (∀ i ∈ is, i ∈ vs) → L2.wipe σ' vs = L2.wipe σ vs) → (∀ a, Own σ' ls' a → Own σ ls a) → Q σ' H) → t v σ H Q
def TgW (is : List Nat) (f : D → Ls → Option Ls) : Prop := ∀ (d : D) (ls ls' : Ls), f d ls = some ls' → ∀ vs : List Nat, (∀ i ∈ is, i ∈ vs) → wipeL ls' vs = wipeL ls vs
structure FG (X : Cx) (T : Tab) (e : Expr) (t : TG) (is : List Nat) (f : D → Ls → Option Ls) : Prop where
  pg : PG X e t
  ts : TgS X T t is f
  wl : TgW is f
def gSet (i : Nat) (d : D) (ls : Ls) : Option Ls := some (ls.set i (.dat d))
def TgsS (X : Cx) (T : Tab) (t : TGs) (is : List Nat) (f : List D → Ls → Option Ls) : Prop := ∀ (B : Base) (r : List Addr) (Hi H : Hp) (σ : L2.St) (ls ls' : Ls) (g : Gs) (vs : List V) (ds : List D) (Q : L2.St → Hp → Prop),
  Rel X.K T B r Hi H σ ls g → RepAll X.K T r Hi vs ds → f ds ls = some ls' → (∀ σ', Rel X.K T B r Hi H σ' ls' g → (∀ vs : List Nat, (∀ i ∈ is, i ∈ vs) → L2.wipe σ' vs = L2.wipe σ vs) → (∀ a, Own σ' ls' a → Own σ ls a) → Q σ' H) → t vs σ H Q
structure FGs (X : Cx) (T : Tab) (es : List Expr) (t : TGs) (is : List Nat) (f : List D → Ls → Option Ls) : Prop where
  pg : PGs X es t
  ts : TgsS X T t is f
  wl : ∀ (d : List D) (ls ls' : Ls), f d ls = some ls' → ∀ vs : List Nat, (∀ i ∈ is, i ∈ vs) → wipeL ls' vs = wipeL ls vs
def gsNil : List D → Ls → Option Ls
  | [], ls => some ls
  | _, _ => none
def gsCons (f : D → Ls → Option Ls) (k : List D → Ls → Option Ls) : List D → Ls → Option Ls
  | d :: ds, ls => (f d ls).bind (k ds)
  | [], _ => none
/-- (a, b, ..) = d -/
def gTupD (n : Nat) (k : List D → Ls → Option Ls) : D → Ls → Option Ls
  | .tup ds, ls => if ds.length = n then k ds ls else none
  | _, _ => none
section
variable {X : Cx} {T : Tab} {E : XE} {pos : Pos}
theorem own_set {σ : L2.St} {ls : Ls} {i : Nat} {v : Option V} {d : D} {a : Addr} (h : Own (σ.set i v) (ls.set i (.dat d)) a) : Own σ ls a := by
  obtain ⟨j, o, e1, e2⟩ := h
  by_cases z : j = i
  · subst z
    rw [List.getElem?_set_self'] at e1
    cases e : ls[j]? with
    | none => rw [e] at e1; cases e1
    | some y => rw [e] at e1; cases e1
  · rw [List.getElem?_set_ne (Ne.symm z)] at e1 e2
    exact ⟨j, o, e1, e2⟩
theorem fg_name {i : Nat} {x : Str} (hN : X.N.Nodup) (hi : X.N[i]? = some x) (hx : Loc X.env.scope x) (hf : X.fn x = true ∨ X.env.scope.names.lookup x = some .local := by first | exact .inl rfl | exact .inr rfl | assumption) : FG X T (.Name x pos) (gName i) [i] (gSet i) :=
  ⟨pg_name hN hi hx hf, by
    intro B r Hi H σ ls ls' g v d Q R p e q
    cases e
    exact q _ (R.setD p) (fun vs h => wipe_set (h i (by simp))) fun _ h => own_set h, fun d ls ls' e vs h => by
    cases e
    exact wipeL_set (h i (by simp))⟩
theorem fgs_nil : FGs X T [] gNil [] gsNil where
  pg := pgs_nil
  ts := by
    intro B r Hi H σ ls ls' g vs ds Q R p e q
    cases p with
    | nil => cases e; exact ⟨rfl, q _ R (fun _ _ => rfl) fun _ h => h⟩
    | cons _ _ => cases e
  wl := by
    intro d ls ls' e vs h
    cases d with
    | nil => cases e; rfl
    | cons _ _ => cases e
theorem fgs_cons {e : Expr} {es : List Expr} {t1 : TG} {t2 : TGs} {is js : List Nat} {f : D → Ls → Option Ls} {k : List D → Ls → Option Ls} (h1 : FG X T e t1 is f) (h2 : FGs X T es t2 js k)
    (hs : (assignEach (e :: es) X.env).map (·.2) = assign e X.env :: (assignEach es X.env).map (·.2) := by rfl) : FGs X T (e :: es) (gCons t1 t2) (is ++ js) (gsCons f k) := by
  refine ⟨pgs_cons h1.pg h2.pg hs, ?_, fun d ls ls' e vs hv => ?_⟩
  · intro B r Hi H σ ls ls' g vs ds Q R p e q
    cases p with
    | nil => cases e
    | cons h t =>
      obtain ⟨ls1, e1, e2⟩ := Option.bind_eq_some_iff.mp e
      refine ⟨_, _, rfl, h1.ts B r Hi H σ ls ls1 g _ _ _ R h e1 fun σ' R1 w1 o1 => h2.ts B r Hi H σ' ls1 ls' g _ _ _ R1 t e2 fun σ2 R2 w2 o2 => q σ2 R2 (fun vs hv => ?_) fun a z => o1 a (o2 a z)⟩
      rw [w2 vs fun i hi => hv i (List.mem_append_right _ hi), w1 vs fun i hi => hv i (List.mem_append_left _ hi)]
  · cases d with
    | nil => cases e
    | cons d ds =>
      obtain ⟨ls1, e1, e2⟩ := Option.bind_eq_some_iff.mp e
      rw [h2.wl _ _ _ e2 vs fun i hi => hv i (List.mem_append_right _ hi), h1.wl _ _ _ e1 vs fun i hi => hv i (List.mem_append_left _ hi)]
theorem fg_tup {es : List Expr} {k n : Nat} {t : TGs} {is : List Nat} {f : List D → Ls → Option Ls} (hc : X.calm = true) (h : FGs X T es t is f)
    (hn : (assignEach es X.env).length = n := by rfl) (hst : (assignEach es X.env).findIdx? (·.1) = none := by rfl) : FG X T (.Tuple es k pos) (gTup X.K n t) is (gTupD n f) := by
  refine ⟨pg_tup hc h.pg hn hst, ?_, fun d ls ls' e vs hv => ?_⟩
  · intro B r Hi H σ ls ls' g v d Q R p e q
    cases p with
    | tup h1 a1 =>
      unfold gTupD at e
      dsimp only at e
      split at e
      · rename_i hl
        exact ⟨_, _, rfl, G6.SqT.mono R.sub h1, by rw [a1.length]; exact hl, h.ts B r Hi H σ ls ls' g _ _ Q R a1 e q⟩
      · cases e
    | _ => cases e
  · cases d with
    | tup ds =>
      unfold gTupD at e
      dsimp only at e
      split at e
      · exact h.wl _ _ _ e vs hv
      · cases e
    | _ => cases e
end

/-! ### what is walked -/
/-- the iterator yields just these -/
structure ItOk (K : PySem.W.Frag) (T : Tab) (J : It) (ds : List D) (r : List Addr) (Hi : Hp) : Prop where
  go : ∀ (i : Nat) (H : Hp), (∀ a o, Hi a = some o → H a = some o) → i < ds.length → J.go i H
  stop : ∀ (H : Hp), (∀ a o, Hi a = some o → H a = some o) → J.stop ds.length H
  yld : ∀ (i : Nat) (d : D) (H : Hp) (x : V) (H' : Hp), ds[i]? = some d → (∀ a o, Hi a = some o → H a = some o) → J.yld i H x H' →
    (H' = H ∧ Rep K T r Hi x d) ∨ ∃ p vs es, x = .ref p ∧ H p = none ∧ H' = upd H p (.tup vs) ∧ d = .tup es ∧ RepAll K T r Hi vs es
def tI (K : PySem.W.Frag) (T : Tab) (E : XE) (f : Ls → M (List D)) : TI := fun σ H R => ∃ B r Hi ls g, Rel K T B r Hi H σ ls g ∧ WpG K T E B σ ls r Hi (f ls g) (fun ds r' Hi' H' _ => ∀ J, ItOk K T J ds r' Hi' → R J H')
abbrev FI (X : Cx) (T : Tab) (E : XE) (tg e : Expr) (f : Ls → M (List D)) : Prop := PI X tg e (tI X.K T E f)
theorem _root_.L2.PI.imp {X : Cx} {tg e : Expr} {t t' : TI} (h : PI X tg e t) (k : ∀ σ H R, t' σ H R → t σ H R) : PI X tg e t' := ⟨fun pins s σ H R I q => h.run pins s σ H R I (k _ _ _ q)⟩
theorem yielded {K : PySem.W.Frag} {T : Tab} {J : It} {ds : List D} {r r0 : List Addr} {Hi Hi0 H H' : Hp} {B : Base} {σ : L2.St} {ls : Ls} {g : Gs} {i : Nat} {d : D} {x : V} (ok : ItOk K T J ds r0 Hi0) (R : Rel K T B r Hi H σ ls g) (ge : Ge r0 Hi0 r Hi) (hd : ds[i]? = some d) (y : J.yld i H x H') :
    ∃ Hi', Rel K T B r Hi' H' σ ls g ∧ Ge r Hi r Hi' ∧ Rep K T r Hi' x d ∧ ∀ a, H a ≠ none → Hi' a = Hi a ∧ H' a = H a := by
  rcases ok.yld i d H x H' hd (fun a o e => R.sub a o (ge.h a o e)) y with ⟨rfl, p⟩ | ⟨p, vs, es, rfl, hp, rfl, rfl, q⟩
  · exact ⟨Hi, R, .refl, p.mono ge, fun _ _ => ⟨rfl, rfl⟩⟩
  · obtain ⟨R', G'⟩ := R.fix (o := .tup vs) hp
    refine ⟨_, R', G', .tup (L2.SqT.of upd_same) ((q.mono ge).mono G'), fun a ha => ?_⟩
    have n : a ≠ p := fun z => ha (z ▸ hp)
    exact ⟨upd_ne n, upd_ne n⟩
section
variable {X : Cx} {T : Tab} {E : XE} {pos pn tpos : Pos} {e e2 tg : Expr} {f : Ls → M D}
def dItems : D → Option (List D)
  | .lst ds => some ds
  | _ => none
def dItemsT : D → Option (List D)
  | .tup ds => some ds
  | _ => none
def iItems (f : Ls → M D) : Ls → M (List D) := fun ls => M.bind (f ls) fun d => M.opt (dItems d)
def iItemsT (f : Ls → M D) : Ls → M (List D) := fun ls => M.bind (f ls) fun d => M.opt (dItemsT d)
theorem itl_ok {K : PySem.W.Frag} {r : List Addr} {Hi : Hp} {a : Addr} {xs : List V} {ds : List D} (h : Hi a = some (.lst xs)) (p : RepAll K T r Hi xs ds) : ItOk K T (Itl K a) ds r Hi where
  go := fun i H sub hi => ⟨xs, xs[i]'(by rw [p.length]; exact hi), L2.SqL.of (sub _ _ h), List.getElem?_eq_getElem _⟩
  stop := fun H sub => ⟨xs, L2.SqL.of (sub _ _ h), by rw [p.length]; exact Nat.le_refl _⟩
  yld := fun i d H x H' hd sub y => by
    obtain ⟨rfl, y⟩ := y
    have e := y xs (L2.SqL.of (sub _ _ h))
    obtain ⟨v, e1, q⟩ := p.get hd
    rw [e] at e1
    cases e1
    exact .inl ⟨rfl, q⟩
theorem itt_ok {K : PySem.W.Frag} {r : List Addr} {Hi : Hp} {a : Addr} {xs : List V} {ds : List D} (h : SqT K Hi a xs) (p : RepAll K T r Hi xs ds) : ItOk K T (Itt K a) ds r Hi where
  go := fun i H sub hi => ⟨xs, xs[i]'(by rw [p.length]; exact hi), G6.SqT.mono sub h, List.getElem?_eq_getElem _⟩
  stop := fun H sub => ⟨xs, G6.SqT.mono sub h, by rw [p.length]; exact Nat.le_refl _⟩
  yld := fun i d H x H' hd sub y => by
    obtain ⟨rfl, y⟩ := y
    have e := y xs (G6.SqT.mono sub h)
    obtain ⟨v, e1, q⟩ := p.get hd
    rw [e] at e1
    cases e1
    exact .inl ⟨rfl, q⟩
theorem fi_list (h : FE X T E e f) : FI X T E tg e (iItems f) := (pi_list h).imp fun σ H R ⟨B, r, Hi, ls, g, Rl, w⟩ => ⟨B, r, Hi, ls, g, Rl, w.bind.mono fun d r1 Hi1 H1 g1 R1 G1 w1 v p1 => by
  obtain ⟨ds, eds, w2⟩ := w1.opt
  cases p1 with
  | lst h1 a1 => cases eds; exact ⟨_, rfl, ⟨_, L2.SqL.of (R1.sub _ _ h1)⟩, w2.ret R1 .refl _ (itl_ok h1 a1)⟩
  | _ => cases eds⟩
theorem fi_tup (h : FE X T E e f) : FI X T E tg e (iItemsT f) := (pi_tup h).imp fun σ H R ⟨B, r, Hi, ls, g, Rl, w⟩ => ⟨B, r, Hi, ls, g, Rl, w.bind.mono fun d r1 Hi1 H1 g1 R1 G1 w1 v p1 => by
  obtain ⟨ds, eds, w2⟩ := w1.opt
  cases p1 with
  | tup h1 a1 => cases eds; exact ⟨_, rfl, ⟨_, G6.SqT.mono R1.sub h1⟩, w2.ret R1 .refl _ (itt_ok h1 a1)⟩
  | _ => cases eds⟩
/-- range -/
def rangeD (lo : Int) (n : Nat) : List D := (List.range n).map fun (i : Nat) => .int (lo + i)
theorem itr_ok {K : PySem.W.Frag} {r : List Addr} {Hi : Hp} (lo : Int) (n : Nat) : ItOk K T (Itr lo n) (rangeD lo n) r Hi where
  go := fun i H _ hi => by
    unfold rangeD at hi
    rw [List.length_map, List.length_range] at hi
    exact hi
  stop := fun H _ => by
    show n ≤ (rangeD lo n).length
    unfold rangeD
    rw [List.length_map, List.length_range]
    exact Nat.le_refl _
  yld := fun i d H x H' hd _ y => by
    obtain ⟨rfl, rfl⟩ := y
    unfold rangeD at hd
    rw [List.getElem?_map] at hd
    obtain ⟨j, e, hd⟩ := Option.map_eq_some_iff.mp hd
    obtain ⟨h1, h2⟩ := List.getElem?_eq_some_iff.mp e
    rw [List.getElem_range] at h2
    subst h2 hd
    exact .inl ⟨rfl, .int _⟩
def dRange1 : List D → Option (List D)
  | [.int j] => if -(2 ^ 62) ≤ j ∧ j < 2 ^ 62 then some (rangeD 0 j.toNat) else none
  | _ => none
def dRange2 : List D → Option (List D)
  | [.int i, .int j] => if -(2 ^ 62) ≤ i ∧ i < 2 ^ 62 ∧ -(2 ^ 62) ≤ j ∧ j < 2 ^ 62 then some (rangeD i (j - i).toNat) else none
  | _ => none
def iArgs (o : List D → Option (List D)) (l : Ls → M (List D)) : Ls → M (List D) := fun ls => M.bind (l ls) fun ds => M.opt (o ds)
variable {l : Ls → M (List D)}
theorem fi_range1 (hg : Gl X "range") (hm : X.mg "range" = none) (ha : FA X T E [e] l) (hs : starEach [e] X.env = [(false, eval e X.env)] := by rfl) : FI X T E tg (.Call (.Name "range" pn) [e] [] pos) (iArgs dRange1 l) :=
  (pi_range1 hg hm ha hs).imp fun σ H R ⟨B, r, Hi, ls, g, Rl, w⟩ => ⟨B, r, Hi, ls, g, Rl, w.bind.mono fun ds r1 Hi1 H1 g1 R1 G1 w1 vs p1 => by
    obtain ⟨xs, ex, w2⟩ := w1.opt
    cases p1 with
    | nil => cases ex
    | cons h t =>
      cases t with
      | cons _ _ => cases h <;> cases ex
      | nil =>
        cases h with
        | int j =>
          unfold dRange1 at ex
          dsimp only at ex
          split at ex
          · rename_i hc
            cases ex
            exact ⟨j, rfl, hc.1, hc.2, w2.ret R1 .refl _ (itr_ok 0 j.toNat)⟩
          · cases ex
        | _ => cases ex⟩
theorem fi_range2 (hg : Gl X "range") (hm : X.mg "range" = none) (ha : FA X T E [e, e2] l) (hs : starEach [e, e2] X.env = [(false, eval e X.env), (false, eval e2 X.env)] := by rfl) (hs2 : starEach [e2] X.env = [(false, eval e2 X.env)] := by rfl) : FI X T E tg (.Call (.Name "range" pn) [e, e2] [] pos) (iArgs dRange2 l) :=
  (pi_range2 hg hm ha hs hs2).imp fun σ H R ⟨B, r, Hi, ls, g, Rl, w⟩ => ⟨B, r, Hi, ls, g, Rl, w.bind.mono fun ds r1 Hi1 H1 g1 R1 G1 w1 vs p1 => by
    obtain ⟨xs, ex, w2⟩ := w1.opt
    cases p1 with
    | nil => cases ex
    | cons h t =>
      cases t with
      | nil => cases h <;> cases ex
      | cons h2 t =>
        cases t with
        | cons _ _ => cases h <;> cases h2 <;> cases ex
        | nil =>
          cases h with
          | int i =>
            cases h2 with
            | int j =>
              unfold dRange2 at ex
              dsimp only at ex
              split at ex
              · rename_i hc
                cases ex
                exact ⟨i, j, rfl, hc, w2.ret R1 .refl _ (itr_ok i _)⟩
              · cases ex
            | _ => cases ex
          | _ => cases h2 <;> cases ex⟩
/-- enumerate -/
def enumD (ds : List D) : List D := (List.range ds.length).map fun (i : Nat) => .tup [.int i, ds.getD i .non]
theorem enumD_len (ds : List D) : (enumD ds).length = ds.length := by
  unfold enumD
  rw [List.length_map, List.length_range]
theorem ite_ok {K : PySem.W.Frag} {r : List Addr} {Hi : Hp} {a : Addr} {xs : List V} {ds : List D} (h : Hi a = some (.lst xs)) (p : RepAll K T r Hi xs ds) : ItOk K T (Ite K a) (enumD ds) r Hi where
  go := fun i H sub hi => by
    rw [enumD_len] at hi
    exact ⟨xs, xs[i]'(by rw [p.length]; exact hi), L2.SqL.of (sub _ _ h), List.getElem?_eq_getElem _⟩
  stop := fun H sub => ⟨xs, L2.SqL.of (sub _ _ h), by rw [enumD_len, p.length]; exact Nat.le_refl _⟩
  yld := fun i d H x H' hd sub y => by
    obtain ⟨q, z, rfl, hq, rfl, y⟩ := y
    have e := y xs (L2.SqL.of (sub _ _ h))
    unfold enumD at hd
    rw [List.getElem?_map] at hd
    obtain ⟨j, ej, hd⟩ := Option.map_eq_some_iff.mp hd
    obtain ⟨h1, h2⟩ := List.getElem?_eq_some_iff.mp ej
    rw [List.getElem_range] at h2
    subst h2 hd
    rw [List.length_range] at h1
    obtain ⟨v, e1, q1⟩ := p.get (List.getElem?_eq_getElem h1)
    rw [e] at e1
    cases e1
    refine .inr ⟨_, _, _, rfl, hq, rfl, rfl, .cons (.int _) (.cons ?_ .nil)⟩
    rw [List.getD_eq_getElem?_getD, List.getElem?_eq_getElem h1]
    exact q1
def dEnum : List D → Option (List D)
  | [.lst ds] => some (enumD ds)
  | _ => none
theorem fi_enum {elts : List Expr} {kk : Nat} (hg : Gl X "enumerate") (hm : X.mg "enumerate" = none) (ha : FA X T E [e] l) (hs : starEach [e] X.env = [(false, eval e X.env)] := by rfl) : FI X T E (.Tuple elts kk tpos) (.Call (.Name "enumerate" pn) [e] [] pos) (iArgs dEnum l) :=
  (pi_enum hg hm ha hs).imp fun σ H R ⟨B, r, Hi, ls, g, Rl, w⟩ => ⟨B, r, Hi, ls, g, Rl, w.bind.mono fun ds r1 Hi1 H1 g1 R1 G1 w1 vs p1 => by
    obtain ⟨xs, ex, w2⟩ := w1.opt
    cases p1 with
    | nil => cases ex
    | cons h t =>
      cases t with
      | cons _ _ => cases h <;> cases ex
      | nil =>
        cases h with
        | lst h1 a1 => cases ex; exact ⟨_, _, rfl, L2.SqL.of (R1.sub _ _ h1), w2.ret R1 .refl _ (ite_ok h1 a1)⟩
        | _ => cases ex⟩
/-- zip -/
def zipD : List D → List D → List D
  | a :: as, b :: bs => .tup [a, b] :: zipD as bs
  | _, _ => []
theorem zipD_get : ∀ {as bs : List D} {i : Nat} {d : D}, (zipD as bs)[i]? = some d → ∃ a b, as[i]? = some a ∧ bs[i]? = some b ∧ d = .tup [a, b]
  | [], _, _, _, h => by simp [zipD] at h
  | _ :: _, [], _, _, h => by simp [zipD] at h
  | a :: as, b :: bs, 0, d, h => by
    simp [zipD] at h
    exact ⟨a, b, rfl, rfl, h.symm⟩
  | a :: as, b :: bs, i + 1, d, h => by
    have h' : (zipD as bs)[i]? = some d := by simpa [zipD] using h
    obtain ⟨x, y, e1, e2, e3⟩ := zipD_get h'
    exact ⟨x, y, by simpa using e1, by simpa using e2, e3⟩
theorem zipD_len : ∀ (as bs : List D), (zipD as bs).length = min as.length bs.length
  | [], _ => by simp [zipD]
  | _ :: _, [] => by simp [zipD]
  | a :: as, b :: bs => by
    show (zipD as bs).length + 1 = min (as.length + 1) (bs.length + 1)
    rw [zipD_len as bs]
    omega
theorem itz_ok {K : PySem.W.Frag} {r : List Addr} {Hi : Hp} {a b : Addr} {xs ys : List V} {ds es : List D} (h : Hi a = some (.lst xs)) (p : RepAll K T r Hi xs ds) (h' : Hi b = some (.lst ys)) (p' : RepAll K T r Hi ys es) : ItOk K T (Itz K a b) (zipD ds es) r Hi where
  go := fun i H sub hi => by
    rw [zipD_len] at hi
    exact ⟨xs, ys, xs[i]'(by rw [p.length]; omega), ys[i]'(by rw [p'.length]; omega), L2.SqL.of (sub _ _ h), L2.SqL.of (sub _ _ h'), List.getElem?_eq_getElem _, List.getElem?_eq_getElem _⟩
  stop := fun H sub => ⟨xs, ys, L2.SqL.of (sub _ _ h), L2.SqL.of (sub _ _ h'), by rw [zipD_len, p.length, p'.length]; omega⟩
  yld := fun i d H x H' hd sub y => by
    obtain ⟨q, z, z', rfl, hq, rfl, y, y'⟩ := y
    have e := y xs (L2.SqL.of (sub _ _ h))
    have e' := y' ys (L2.SqL.of (sub _ _ h'))
    obtain ⟨d1, d2, e1, e2, rfl⟩ := zipD_get hd
    obtain ⟨v1, f1, q1⟩ := p.get e1
    obtain ⟨v2, f2, q2⟩ := p'.get e2
    rw [e] at f1
    rw [e'] at f2
    cases f1
    cases f2
    exact .inr ⟨_, _, _, rfl, hq, rfl, rfl, .cons q1 (.cons q2 .nil)⟩
theorem itzT_ok {K : PySem.W.Frag} {r : List Addr} {Hi : Hp} {a b : Addr} {xs ys : List V} {ds es : List D} (h : SqT K Hi a xs) (p : RepAll K T r Hi xs ds) (h' : SqT K Hi b ys) (p' : RepAll K T r Hi ys es) : ItOk K T (RZ.ItzT K a b) (zipD ds es) r Hi where
  go := fun i H sub hi => by
    rw [zipD_len] at hi
    exact ⟨xs, ys, xs[i]'(by rw [p.length]; omega), ys[i]'(by rw [p'.length]; omega), G6.SqT.mono sub h, G6.SqT.mono sub h', List.getElem?_eq_getElem _, List.getElem?_eq_getElem _⟩
  stop := fun H sub => ⟨xs, ys, G6.SqT.mono sub h, G6.SqT.mono sub h', by rw [zipD_len, p.length, p'.length]; omega⟩
  yld := fun i d H x H' hd sub y => by
    obtain ⟨q, z, z', rfl, hq, rfl, y, y'⟩ := y
    have e := y xs (G6.SqT.mono sub h)
    have e' := y' ys (G6.SqT.mono sub h')
    obtain ⟨d1, d2, e1, e2, rfl⟩ := zipD_get hd
    obtain ⟨v1, f1, q1⟩ := p.get e1
    obtain ⟨v2, f2, q2⟩ := p'.get e2
    rw [e] at f1
    rw [e'] at f2
    cases f1
    cases f2
    exact .inr ⟨_, _, _, rfl, hq, rfl, rfl, .cons q1 (.cons q2 .nil)⟩
def dZip : List D → Option (List D)
  | [.lst ds, .lst es] => some (zipD ds es)
  | [.tup ds, .tup es] => some (zipD ds es)
  | _ => none
theorem fi_zip {elts : List Expr} {kk : Nat} (hg : Gl X "zip") (hm : X.mg "zip" = none) (ha : FA X T E [e, e2] l) (hs : starEach [e, e2] X.env = (false, eval e X.env) :: starEach [e2] X.env := by rfl) (hpl : (backTo pos (starEach [e2] X.env)).any (·.1) = false := by rfl) : FI X T E (.Tuple elts kk tpos) (.Call (.Name "zip" pn) [e, e2] [] pos) (iArgs dZip l) :=
  (RZ.pi_zipA hg hm ha hs hpl).imp fun σ H R ⟨B, r, Hi, ls, g, Rl, w⟩ => ⟨B, r, Hi, ls, g, Rl, w.bind.mono fun ds r1 Hi1 H1 g1 R1 G1 w1 vs p1 => by
    obtain ⟨xs, ex, w2⟩ := w1.opt
    cases p1 with
    | nil => cases ex
    | cons h t =>
      cases t with
      | nil => cases h <;> cases ex
      | cons h2 t =>
        cases t with
        | cons _ _ => cases h <;> cases h2 <;> cases ex
        | nil =>
          cases h with
          | lst h1 a1 =>
            cases h2 with
            | lst h3 a3 => cases ex; exact ⟨_, _, _, _, rfl, .inl ⟨L2.SqL.of (R1.sub _ _ h1), L2.SqL.of (R1.sub _ _ h3), w2.ret R1 .refl _ (itz_ok h1 a1 h3 a3)⟩⟩
            | _ => cases ex
          | tup h1 a1 =>
            cases h2 with
            | tup h3 a3 => cases ex; exact ⟨_, _, _, _, rfl, .inr ⟨G6.SqT.mono R1.sub h1, G6.SqT.mono R1.sub h3, w2.ret R1 .refl _ (itzT_ok h1 a1 h3 a3)⟩⟩
            | _ => cases ex
          | _ => cases h2 <;> cases ex⟩
/-- a text, sign by sign -/
def signsD (x : Str) : List D := x.cps.toList.map fun c => .str ⟨#[c]⟩
def dSigns : D → Option (List D)
  | .str x => some (signsD x)
  | _ => none
def iSigns (f : Ls → M D) : Ls → M (List D) := fun ls => M.bind (f ls) fun d => M.opt (dSigns d)
theorem its_ok {K : PySem.W.Frag} {r : List Addr} {Hi : Hp} (x : Str) : ItOk K T (Its x) (signsD x) r Hi where
  go := fun i H _ hi => by
    unfold signsD at hi
    rw [List.length_map, Array.length_toList] at hi
    exact hi
  stop := fun H _ => by
    show x.cps.size ≤ (signsD x).length
    unfold signsD
    rw [List.length_map, Array.length_toList]
    exact Nat.le_refl _
  yld := fun i d H v H' hd _ y => by
    obtain ⟨rfl, c, hc, rfl⟩ := y
    unfold signsD at hd
    rw [List.getElem?_map, Array.getElem?_toList, hc] at hd
    cases hd
    exact .inl ⟨rfl, .str _⟩
theorem fi_str (h : FE X T E e f) : FI X T E tg e (iSigns f) := (pi_str h).imp fun σ H R ⟨B, r, Hi, ls, g, Rl, w⟩ => ⟨B, r, Hi, ls, g, Rl, w.bind.mono fun d r1 Hi1 H1 g1 R1 G1 w1 v p1 => by
  obtain ⟨ds, eds, w2⟩ := w1.opt
  cases p1 with
  | str x => cases eds; exact ⟨_, rfl, w2.ret R1 .refl _ (its_ok x)⟩
  | _ => cases eds⟩
end
end G6

namespace G6
open PySem PySem.Spec L2

/-! ### comprehensions -/
theorem wipe_sub {σ : L2.St} {vs : List Nat} : ∀ {ws : List Nat}, (∀ i ∈ ws, i ∈ vs) → L2.wipe (L2.wipe σ ws) vs = L2.wipe σ vs
  | [], _ => rfl
  | w :: ws, h => by
    show L2.wipe ((L2.wipe σ ws).set w none) vs = _
    rw [wipe_set (h w (by simp)), wipe_sub fun i hi => h i (List.mem_cons_of_mem _ hi)]
theorem wipeL_sub {ls : Ls} {vs : List Nat} : ∀ {ws : List Nat}, (∀ i ∈ ws, i ∈ vs) → wipeL (wipeL ls ws) vs = wipeL ls vs
  | [], _ => rfl
  | w :: ws, h => by
    show wipeL ((wipeL ls ws).set w .un) vs = _
    rw [wipeL_set (h w (by simp)), wipeL_sub fun i hi => h i (List.mem_cons_of_mem _ hi)]
theorem wipe_at {σ : L2.St} {i : Nat} : ∀ {vs : List Nat}, i ∉ vs → (L2.wipe σ vs)[i]? = σ[i]?
  | [], _ => rfl
  | v :: vs, h => by
    rw [List.mem_cons, not_or] at h
    show ((L2.wipe σ vs).set v none)[i]? = _
    rw [List.getElem?_set_ne (Ne.symm h.1), wipe_at h.2]
theorem wipeL_at {ls : Ls} {i : Nat} : ∀ {vs : List Nat}, i ∉ vs → (wipeL ls vs)[i]? = ls[i]?
  | [], _ => rfl
  | v :: vs, h => by
    rw [List.mem_cons, not_or] at h
    show ((wipeL ls vs).set v .un)[i]? = _
    rw [List.getElem?_set_ne (Ne.symm h.1), wipeL_at h.2]
theorem wipeL_in {ls : Ls} {i : Nat} {x : LV} : ∀ {vs : List Nat}, i ∈ vs → (wipeL ls vs)[i]? = some x → x = .un
  | v :: vs, h, e => by
    have e : ((wipeL ls vs).set v .un)[i]? = some x := e
    by_cases z : i = v
    · subst z
      rw [List.getElem?_set_self'] at e
      cases e2 : (wipeL ls vs)[i]? with
      | none => rw [e2] at e; cases e
      | some y => rw [e2] at e; cases e; rfl
    · rw [List.getElem?_set_ne (Ne.symm z)] at e
      exact wipeL_in ((List.mem_cons.mp h).resolve_left z) e
def noOwn (ls : Ls) (vs : List Nat) : Bool := vs.all fun i => match ls[i]? with
  | some (.own _) => false
  | _ => true
theorem noOwn_at {ls : Ls} {vs : List Nat} (h : noOwn ls vs = true) {i : Nat} {o : OV} (e : ls[i]? = some (.own o)) : i ∉ vs := fun hi => by
  have := List.all_eq_true.mp h i hi
  rw [e] at this
  exact absurd this Bool.false_ne_true
section
variable {K : PySem.W.Frag} {T : Tab} {B : Base} {r r' : List Addr} {Hi Hi' H H' : Hp} {σ σ' : L2.St} {ls ls' : Ls} {g g' : Gs} {vs : List Nat}
theorem own_wipe (h : noOwn ls vs = true) {a : Addr} : Own (L2.wipe σ vs) (wipeL ls vs) a ↔ Own σ ls a := by
  constructor
  · rintro ⟨i, o, e1, e2⟩
    have hi : i ∉ vs := fun z => by cases wipeL_in z e1
    rw [wipeL_at hi] at e1
    rw [wipe_at hi] at e2
    exact ⟨i, o, e1, e2⟩
  · rintro ⟨i, o, e1, e2⟩
    have hi := noOwn_at h e1
    exact ⟨i, o, by rw [wipeL_at hi]; exact e1, by rw [wipe_at hi]; exact e2⟩
theorem Rel.unwipe (h : Rel K T B r Hi H σ ls g) (k : Rel K T B r' Hi' H' (L2.wipe σ vs) (wipeL ls vs) g') (ge : Ge r Hi r' Hi') (no : noOwn ls vs = true) : Rel K T B r' Hi' H' σ ls g' := by
  refine ⟨k.sub, h.len, fun i d e => ?_, fun i o e => ?_, h.sep, k.rlen, k.rnd, k.sto, k.i0, k.keep, k.dom, fun a o => k.newO a ((own_wipe no).mpr o), k.newR, k.newI⟩
  · obtain ⟨v, q, p⟩ := h.loc i d e
    exact ⟨v, q, p.mono ge⟩
  · have hi := noOwn_at no e
    obtain ⟨a, ho, q1, q2⟩ := k.own i o (by rw [wipeL_at hi]; exact e)
    rw [wipe_at hi] at q1
    exact ⟨a, ho, q1, q2⟩
end
def noX {α : Type} (m : M α) : M α := fun g => match m g with
  | some (.ok a, g') => some (.ok a, g')
  | _ => none
theorem noX_ok {α : Type} {m : M α} {g g' : Gs} {a : α} (h : m g = some (.ok a, g')) : noX m g = some (.ok a, g') := by
  unfold noX
  rw [h]
theorem noX_some {α : Type} {m : M α} {g : Gs} {p : Except Exn α × Gs} (h : noX m g = some p) : ∃ a, p.1 = .ok a ∧ m g = some (.ok a, p.2) := by
  unfold noX at h
  cases e : m g with
  | none => rw [e] at h; cases h
  | some q =>
    obtain ⟨x, g'⟩ := q
    rw [e] at h
    cases x with
    | ok a => cases h; exact ⟨a, rfl, rfl⟩
    | error x => cases h
def lcGo (tg : D → Ls → Option Ls) (tt : Ls → M Bool) (fe : Ls → M D) (lw : Ls) : List D → M (List D)
  | [] => M.ret []
  | d :: rs => M.bind (M.opt (tg d lw)) fun ls1 => M.bind (noX (tt ls1)) fun b => if b = true then M.bind (noX (fe ls1)) fun x => M.bind (lcGo tg tt fe lw rs) fun xs => M.ret (x :: xs) else lcGo tg tt fe lw rs
theorem lcGo_cons {tg : D → Ls → Option Ls} {tt : Ls → M Bool} {fe : Ls → M D} {lw : Ls} {d : D} {rs : List D} : lcGo tg tt fe lw (d :: rs) = M.bind (M.opt (tg d lw)) fun ls1 => M.bind (noX (tt ls1)) fun b => if b = true then M.bind (noX (fe ls1)) fun x => M.bind (lcGo tg tt fe lw rs) fun xs => M.ret (x :: xs) else lcGo tg tt fe lw rs := rfl
theorem M.bind_ok {α β : Type} {m : M α} {f : α → M β} {g g' : Gs} {b : β} (h : M.bind m f g = some (.ok b, g')) : ∃ a g1, m g = some (.ok a, g1) ∧ f a g1 = some (.ok b, g') := by
  unfold M.bind at h
  cases e : m g with
  | none => rw [e] at h; cases h
  | some p =>
    obtain ⟨x, g1⟩ := p
    rw [e] at h
    cases x with
    | ok a => exact ⟨a, g1, rfl, h⟩
    | error x => cases h
theorem M.opt_ok {α : Type} {o : Option α} {g g' : Gs} {a : α} (h : M.opt o g = some (.ok a, g')) : o = some a ∧ g' = g := by
  cases o with
  | none => cases h
  | some b => cases h; exact ⟨rfl, rfl⟩
theorem lcGo_ok {tg : D → Ls → Option Ls} {tt : Ls → M Bool} {fe : Ls → M D} {lw : Ls} : ∀ {ds : List D} {g : Gs} {p : Except Exn (List D) × Gs}, lcGo tg tt fe lw ds g = some p → ∃ xs, p.1 = .ok xs
  | [], g, p, h => by cases h; exact ⟨[], rfl⟩
  | d :: rs, g, p, h => by
    unfold lcGo at h
    cases e1 : tg d lw with
    | none => rw [e1] at h; cases h
    | some ls1 =>
      rw [e1, M.opt_bind] at h
      unfold M.bind at h
      cases e2 : noX (tt ls1) g with
      | none => rw [e2] at h; cases h
      | some q =>
        obtain ⟨b, e3, _⟩ := noX_some e2
        obtain ⟨qb, g1⟩ := q
        cases e3
        rw [e2] at h
        dsimp only at h
        cases b with
        | false => rw [if_neg Bool.false_ne_true] at h; exact lcGo_ok h
        | true =>
          rw [if_pos rfl] at h
          cases e4 : noX (fe ls1) g1 with
          | none => rw [e4] at h; cases h
          | some q =>
            obtain ⟨x, e5, _⟩ := noX_some e4
            obtain ⟨qx, g2⟩ := q
            cases e5
            rw [e4] at h
            dsimp only at h
            cases e6 : lcGo tg tt fe lw rs g2 with
            | none => rw [e6] at h; cases h
            | some q =>
              obtain ⟨xs, e7⟩ := lcGo_ok e6
              obtain ⟨qx, g3⟩ := q
              cases e7
              rw [e6] at h
              cases h
              exact ⟨_, rfl⟩
def chk (b : Bool) : Option Unit := if b = true then some () else none
theorem chk_some {b : Bool} {u : Unit} (h : chk b = some u) : b = true := by
  unfold chk at h
  split at h
  · assumption
  · cases h
def foLc (fi : Ls → M (List D)) (vs : List Nat) (tg : D → Ls → Option Ls) (tt : Ls → M Bool) (fe : Ls → M D) : Ls → M OV := fun ls =>
  M.bind (fi ls) fun ds => M.bind (M.opt (chk (decide (ds.length ≤ sizeLine) && noOwn ls vs))) fun _ => M.bind (lcGo tg tt fe (wipeL ls vs) ds) fun xs => M.ret (.lst xs)
abbrev E00 : XE := fun _ _ _ _ => False
abbrev FTs (X : Cx) (T : Tab) (E : XE) (ifs : List Expr) (f : Ls → M Bool) : Prop := PTs X ifs (tG X.K T E f)
theorem _root_.L2.PTs.imp {X : Cx} {e : List Expr} {t t' : TT} (h : PTs X e t) (k : ∀ σ H Q, t' σ H Q → t σ H Q) : PTs X e t' := ⟨fun pins s σ H Q I q => h.run pins s σ H Q I (k _ _ _ q)⟩
section
variable {X : Cx} {T : Tab} {E : XE}
def gYes : Ls → M Bool := fun _ => M.ret true
theorem fts_nil : FTs X T E [] gYes := pts_nil.imp fun σ H Q ⟨B, r, Hi, ls, g, R, w⟩ => w.ret R .refl
theorem fts_one {c : Expr} {p : Ls → M Bool} (h : FT X T E c p) : FTs X T E [c] p := pts_one h
variable {elt tg iter : Expr} {ifs : List Expr} {scope : Scope} {own : List (Str × Nat)} {pos : Pos} {fi : Ls → M (List D)} {t : TG} {is : List Nat} {ft : D → Ls → Option Ls} {tt : Ls → M Bool} {fe : Ls → M D}
theorem lc_sound {σ : L2.St} {H : Hp} {Q : VK} {vs : List Nat} (hg : TgS X T t is ft) (hw : TgW is ft) (his : ∀ i ∈ is, i ∈ vs) (h : tFO X.K T E (foLc fi vs ft tt fe) σ H Q) :
    tLc (tI X.K T E fi) t (tG X.K T E00 tt) (tF X.K T E00 fe) vs σ H Q := by
  obtain ⟨B, r, Hi, ls, g, R, w⟩ := h
  refine ⟨B, r, Hi, ls, g, R, w.bind.mono fun ds r1 Hi1 H1 g1 R1 G1 w1 J ok D hD => ?_⟩
  obtain ⟨_, ec, w2⟩ := w1.bind.opt
  have hc := chk_some ec
  rw [Bool.and_eq_true, decide_eq_true_eq] at hc
  obtain ⟨hz, no⟩ := hc
  have w3 := w2.ret R1 .refl
  have w4 := w3.bind
  -- what the whole gives
  have fin : ∃ xs g3, lcGo ft tt fe (wipeL ls vs) ds g1 = some (.ok xs, g3) ∧ WpG X.K T E B σ ls r1 Hi1 (some (.ok (.lst xs), g3)) (PO_ X.K T B σ ls Q) := by
    unfold M.bind at w3
    cases e : lcGo ft tt fe (wipeL ls vs) ds g1 with
    | none => rw [e] at w3; exact False.elim w3
    | some p =>
      obtain ⟨xs, ep⟩ := lcGo_ok e
      obtain ⟨q, g3⟩ := p
      cases ep
      rw [e] at w3
      exact ⟨xs, g3, rfl, w3⟩
  obtain ⟨xs0, g0, e0, w5⟩ := fin
  have lD := R1.loose hD
  refine ⟨fun i m H => m = ds.length - i ∧ i ≤ ds.length ∧ ∃ r2 Hi2 g2 acc accD xs, Rel X.K T B r2 Hi2 H (L2.wipe σ vs) (wipeL ls vs) g2 ∧ Ge r1 Hi1 r2 Hi2 ∧ Loose B r2 Hi2 H (L2.wipe σ vs) (wipeL ls vs) D ∧ H D = some (.lst acc) ∧ RepAll X.K T r2 Hi2 acc accD ∧ accD.length ≤ i ∧
      lcGo ft tt fe (wipeL ls vs) (ds.drop i) g2 = some (.ok xs, g0) ∧ accD ++ xs = xs0, ⟨ds.length, by simp, Nat.zero_le _, r1, Hi1, g1, [], [], xs0, (R1.junk hD).wipe vs, .refl, ⟨lD.hi, lD.hr, fun z => lD.ho ((own_wipe no).mp z), lD.hb⟩, upd_same, .nil, Nat.zero_le _, e0, rfl⟩, ?_⟩
  rintro i m H2 ⟨rfl, hi, r2, Hi2, g2, acc, accD, xs, R2, G2, l2, hD2, p2, hl2, e2, ex⟩
  by_cases hlt : i < ds.length
  · refine .inr ⟨ok.go i H2 (fun a o e => R2.sub a o (G2.h a o e)) hlt, fun H' => (i + 1 ≤ ds.length ∧ ∃ r2 Hi2 g2 acc accD xs, Rel X.K T B r2 Hi2 H' (L2.wipe σ vs) (wipeL ls vs) g2 ∧ Ge r1 Hi1 r2 Hi2 ∧ Loose B r2 Hi2 H' (L2.wipe σ vs) (wipeL ls vs) D ∧ H' D = some (.lst acc) ∧ RepAll X.K T r2 Hi2 acc accD ∧ accD.length ≤ i + 1 ∧
      lcGo ft tt fe (wipeL ls vs) (ds.drop (i + 1)) g2 = some (.ok xs, g0) ∧ accD ++ xs = xs0), fun H' h => ⟨ds.length - (i + 1), by omega, rfl, h⟩, fun x H3 y => ?_⟩
    obtain ⟨Hi3, R3, G3, px, old⟩ := yielded ok R2 G2 (List.getElem?_eq_getElem hlt) y
    obtain ⟨oI, oH⟩ := old D (by rw [hD2]; simp)
    have hD3 : H3 D = some (.lst acc) := oH.trans hD2
    have hi3 : Hi3 D = none := oI.trans l2.hi
    rw [← List.getElem_cons_drop hlt, lcGo_cons] at e2
    obtain ⟨ls1, g3, q1, f2⟩ := M.bind_ok e2
    obtain ⟨et, rfl⟩ := M.opt_ok q1
    obtain ⟨b, g4, q2, f3⟩ := M.bind_ok f2
    obtain ⟨b', eb, q3⟩ := noX_some q2
    cases eb
    refine hg B r2 Hi3 H3 _ (wipeL ls vs) ls1 g3 x _ _ R3 px et fun σ2 R4 ws os => ?_
    have hws : L2.wipe σ2 vs = L2.wipe σ vs := (ws vs his).trans (wipe_sub fun _ h => h)
    have hwl : wipeL ls1 vs = wipeL ls vs := (hw _ _ _ et vs his).trans (wipeL_sub fun _ h => h)
    -- D stands through what is evaluated
    have nD : ¬ (Base.all H3 r2 Hi3 σ2 ls1).f0 D := fun z => z.elim l2.hr fun z => l2.ho (os D z)
    have stay : ∀ {r5 : List Addr} {Hi5 H5 : Hp} {g5 : Gs}, Rel X.K T (Base.all H3 r2 Hi3 σ2 ls1) r5 Hi5 H5 σ2 ls1 g5 → H5 D = some (.lst acc) ∧ Loose B r5 Hi5 H5 (L2.wipe σ vs) (wipeL ls vs) D ∧ Rel X.K T B r5 Hi5 H5 (L2.wipe σ vs) (wipeL ls vs) g5 := fun {r5 Hi5 H5 g5} R5 => by
      refine ⟨R5.keep D _ hD3 nD, ⟨?_, fun z => ?_, l2.ho, l2.hb⟩, ?_⟩
      · cases e : Hi5 D with
        | none => rfl
        | some u =>
          rcases R5.newI D (by rw [e]; simp) with z | z | z
          · exact absurd hi3 z
          · exact absurd z nD
          · rw [show (Base.all H3 r2 Hi3 σ2 ls1).H0 D = H3 D from rfl, hD3] at z; cases z
      · rcases R5.newR D z with z | z
        · exact nD z
        · rw [show (Base.all H3 r2 Hi3 σ2 ls1).H0 D = H3 D from rfl, hD3] at z; cases z
      · have := (R4.thru R5).wipe vs
        rw [hws, hwl] at this
        exact this
    refine ⟨hws, Base.all H3 r2 Hi3 σ2 ls1, r2, Hi3, ls1, g3, R4.all, ?_⟩
    rw [q3]
    intro r5 Hi5 H5 R5 G5
    show if b = true then _ else _
    cases b with
    | false =>
      rw [if_neg Bool.false_ne_true] at f3 ⊢
      obtain ⟨s1, s2, s3⟩ := stay R5
      exact ⟨hlt, r5, Hi5, _, acc, accD, xs, s3, (G2.trans G3).trans G5, s2, s1, (p2.mono G3).mono G5, Nat.le_succ_of_le hl2, f3, ex⟩
    | true =>
      rw [if_pos rfl] at f3 ⊢
      obtain ⟨y', g6, q4, f4⟩ := M.bind_ok f3
      obtain ⟨y2, ey, q5⟩ := noX_some q4
      cases ey
      obtain ⟨ys, g7, q6, f5⟩ := M.bind_ok f4
      cases f5
      refine ⟨_, r5, Hi5, ls1, _, R5, ?_⟩
      rw [q5]
      intro r6 Hi6 H6 R6 G6 v pv
      obtain ⟨s1, s2, s3⟩ := stay R6
      refine ⟨acc, s1, ?_, hlt, r6, Hi6, _, acc ++ [v], accD ++ [y'], ys, s3.upJ s2, ((G2.trans G3).trans G5).trans G6, ⟨s2.hi, s2.hr, s2.ho, s2.hb⟩, upd_same, (((p2.mono G3).mono G5).mono G6).app (.cons pv .nil), ?_, q6, ?_⟩
      · rw [p2.length]; omega
      · rw [List.length_append]
        show accD.length + 1 ≤ i + 1
        omega
      · rw [← ex, List.append_assoc]; rfl
  · have ei : i = ds.length := by omega
    subst ei
    rw [List.drop_length] at e2
    cases e2
    refine .inl ⟨ok.stop H2 fun a o e => R2.sub a o (G2.h a o e), ?_⟩
    rw [List.append_nil] at ex
    subst ex
    have R6 := R1.unwipe R2 G2 no
    exact w5.ret R6 G2 D _ H2 R6 ⟨l2.hi, l2.hr, fun z => l2.ho ((own_wipe no).mpr z), l2.hb⟩ hD2 (.lst p2)
/-- .. as a new list of one's own -/
theorem feo_lc (hc : X.calm = true) (hN : X.N.Nodup) (hi : FI X T E tg iter fi) (ok : BlkOk X.N X.env.scope scope own)
    (hg : ∀ (s : Shared) (H : Hp) (C : Addr) (cl : List (Str × Addr)) (fp : List Addr), FG (X.blk s H scope (compEnvC scope cl C X.env) fp) T tg t is ft)
    (ht : ∀ (s : Shared) (H : Hp) (C : Addr) (cl : List (Str × Addr)) (fp : List Addr), FTs (X.blk s H scope (compEnvC scope cl C X.env) fp) T E00 ifs tt)
    (he : ∀ (s : Shared) (H : Hp) (C : Addr) (cl : List (Str × Addr)) (fp : List Addr), FE (X.blk s H scope (compEnvC scope cl C X.env) fp) T E00 elt fe)
    (his : ∀ i ∈ is, i ∈ own.map (·.2)) (hts : TgS X T t is ft) (htw : TgW is ft) (hs : ∀ x, foldedSetIterable iter X.env x = pure x := by intro _; rfl) : FEO X T E (.ListComp elt [⟨tg, iter, ifs, 0⟩] scope pos) (foLc fi (own.map (·.2)) ft tt fe) :=
  (pe_lc hc hN hi ok (fun s H C cl fp => (hg s H C cl fp).pg) ht he hs).imp fun σ H Q h => lc_sound hts htw his h
end
end G6

namespace G6
open PySem PySem.Spec L2

/-! ### statements -/
inductive RV where
  | dat (d : D) | own (o : OV)
  deriving Inhabited
def RV.d : RV → D
  | .dat d => d
  | .own o => o.d
inductive Fl where
  | nx (ls : Ls) | rt (v : RV) | bk (ls : Ls) | ct (ls : Ls) | xc (x : Exn) (ls : Ls)
abbrev S := Ls → Gs → Option (Fl × Gs)
def RVRel (K : PySem.W.Frag) (T : Tab) (B : Base) (r : List Addr) (Hi H : Hp) (v : V) : RV → Prop
  | .dat d => Rep K T r Hi v d
  | .own o => ∃ a ho, v = .ref a ∧ H a = some ho ∧ OwnRel K T r Hi ho o ∧ Hi a = none ∧ a ∉ r ∧ (B.f0 a ∨ B.H0 a = none)
def WpS (K : PySem.W.Frag) (T : Tab) (E : XE) (B : Base) (r : List Addr) (Hi : Hp) (m : Option (Fl × Gs)) (D : Ends) : Prop :=
  match m with
  | none => False
  | some (.nx ls', g') => ∀ σ' r' Hi' H', Rel K T B r' Hi' H' σ' ls' g' → Ge r Hi r' Hi' → D.nx σ' H'
  | some (.bk ls', g') => ∀ σ' r' Hi' H', Rel K T B r' Hi' H' σ' ls' g' → Ge r Hi r' Hi' → D.bk σ' H'
  | some (.ct ls', g') => ∀ σ' r' Hi' H', Rel K T B r' Hi' H' σ' ls' g' → Ge r Hi r' Hi' → D.ct σ' H'
  | some (.rt rv, g') => ∀ v r' Hi' H', Rel K T B r' Hi' H' [] [] g' → Ge r Hi r' Hi' → RVRel K T B r' Hi' H' v rv → D.rt v H'
  | some (.xc x ls', g') => ∀ σ' r' Hi' H' c dx, Rel K T B r' Hi' H' σ' ls' g' → Ge r Hi r' Hi' → ExnRep K T r' Hi' c dx x → E c dx σ' H'
section
variable {K : PySem.W.Frag} {T : Tab} {E : XE} {B : Base} {r r' : List Addr} {Hi Hi' : Hp} {De De' : Ends}
theorem WpS.ge {m : Option (Fl × Gs)} (w : WpS K T E B r Hi m De) (ge : Ge r Hi r' Hi') : WpS K T E B r' Hi' m De := by
  unfold WpS at w ⊢
  cases m with
  | none => exact w
  | some p =>
    obtain ⟨a, g'⟩ := p
    cases a with
    | nx ls => exact fun σ r2 Hi2 H2 R G => w σ r2 Hi2 H2 R (ge.trans G)
    | bk ls => exact fun σ r2 Hi2 H2 R G => w σ r2 Hi2 H2 R (ge.trans G)
    | ct ls => exact fun σ r2 Hi2 H2 R G => w σ r2 Hi2 H2 R (ge.trans G)
    | rt v => exact fun v r2 Hi2 H2 R G => w v r2 Hi2 H2 R (ge.trans G)
    | xc x ls => exact fun σ r2 Hi2 H2 c dx R G => w σ r2 Hi2 H2 c dx R (ge.trans G)
end
def tS (K : PySem.W.Frag) (T : Tab) (E : XE) (f : S) : TS := fun De σ H => ∃ B r Hi ls g, Rel K T B r Hi H σ ls g ∧ WpS K T E B r Hi (f ls g) De
theorem _root_.L2.PS.imp {X : Cx} {s : Stmt} {t t' : TS} (h : PS X s t) (k : ∀ D σ H, t' D σ H → t D σ H) : PS X s t' := ⟨fun pins s σ H D I q => h.run pins s σ H D I (k _ _ _ q)⟩
theorem _root_.L2.PSs.imp {X : Cx} {s : List Stmt} {t t' : TS} (h : PSs X s t) (k : ∀ D σ H, t' D σ H → t D σ H) : PSs X s t' := ⟨fun pins s σ H D I q => h.run pins s σ H D I (k _ _ _ q)⟩
abbrev FS (X : Cx) (T : Tab) (E : XE) (s : Stmt) (f : S) : Prop := PS X s (tS X.K T E f)
abbrev FSs (X : Cx) (T : Tab) (E : XE) (s : List Stmt) (f : S) : Prop := PSs X s (tS X.K T E f)
/-- an expression, then a statement's rest -/
def sB {α : Type} (f : Ls → M α) (k : α → S) : S := fun ls g => match f ls g with
  | none => none
  | some (.ok a, g') => k a ls g'
  | some (.error x, g') => some (.xc x ls, g')
theorem WpS.bind {K : PySem.W.Frag} {T : Tab} {E : XE} {B : Base} {r : List Addr} {Hi : Hp} {De : Ends} {α : Type} {f : Ls → M α} {k : α → S} {σ : L2.St} {ls : Ls} {g : Gs} (w : WpS K T E B r Hi (sB f k ls g) De) :
    WpG K T E B σ ls r Hi (f ls g) (fun a r1 Hi1 _ g1 => WpS K T E B r1 Hi1 (k a ls g1) De) := by
  unfold sB at w
  unfold WpG
  cases e : f ls g with
  | none => rw [e] at w; exact w
  | some p =>
    obtain ⟨a, g'⟩ := p
    rw [e] at w
    cases a with
    | ok a => exact fun r2 Hi2 H2 R G => WpS.ge w G
    | error x => exact fun r2 Hi2 H2 c dx R G q => w σ r2 Hi2 H2 c dx R G q
def sNx : S := fun ls g => some (.nx ls, g)
def sBk : S := fun ls g => some (.bk ls, g)
def sCt : S := fun ls g => some (.ct ls, g)
def sSeq (s t : S) : S := fun ls g => match s ls g with
  | some (.nx ls', g') => t ls' g'
  | m => m
def sSet (i : Nat) (f : Ls → M D) : S := sB f fun d ls g => some (.nx (ls.set i (.dat d)), g)
def sSetO (i : Nat) (f : Ls → M OV) : S := sB f fun o ls g => some (.nx (ls.set i (.own o)), g)
def sTg (f : Ls → M D) (t : D → Ls → Option Ls) : S := sB f fun d ls g => match t d ls with
  | some ls' => some (.nx ls', g)
  | none => none
def sRet (f : Ls → M D) : S := sB f fun d _ g => some (.rt (.dat d), g)
def sRetO (f : Ls → M OV) : S := sB f fun o _ g => some (.rt (.own o), g)
def sRetN : S := fun _ g => some (.rt (.dat .non), g)
def sDrop (f : Ls → M D) : S := sB f fun _ ls g => some (.nx ls, g)
def sIf (p : Ls → M Bool) (a b : S) : S := sB p fun k => if k = true then a else b
/-- the own object at slot i is data from here on -/
def sFrz (i : Nat) (s : S) : S := fun ls g => match ls[i]? with
  | some (.own o) => s (ls.set i (.dat o.d)) g
  | _ => s ls g
section
variable {X : Cx} {T : Tab} {E : XE} {pos : Pos} {e : Expr} {st : Stmt} {rest : List Stmt} {f f' : S} {fa : Ls → M D} {fo : Ls → M OV}
theorem fss_nil : FSs X T E [] sNx := pss_nil.imp fun De σ H ⟨B, r, Hi, ls, g, R, w⟩ => w σ r Hi H R .refl
theorem seq_imp {De : Ends} {σ : L2.St} {H : Hp} {g1 g2 : S} {K : PySem.W.Frag} (h : tS K T E (sSeq g1 g2) De σ H) : tSeq (tS K T E g1) (tS K T E g2) De σ H := by
  obtain ⟨B, r, Hi, ls, g, R, w⟩ := h
  refine ⟨B, r, Hi, ls, g, R, ?_⟩
  unfold sSeq at w
  unfold WpS
  cases q : g1 ls g with
  | none => rw [q] at w; exact w
  | some p =>
    obtain ⟨a, g'⟩ := p
    rw [q] at w
    cases a with
    | nx ls' => exact fun σ' r' Hi' H' R' G' => ⟨B, r', Hi', ls', g', R', w.ge G'⟩
    | bk ls' => exact w
    | ct ls' => exact w
    | rt v => exact w
    | xc x ls' => exact w
theorem fss_cons (h : FS X T E st f) (k : FSs X T E rest f') : FSs X T E (st :: rest) (sSeq f f') := (pss_cons h k).imp fun _ _ _ h => seq_imp h
theorem fss_one (h : FS X T E st f) : FSs X T E [st] f := pss_one h
theorem fs_pass : FS X T E (.Pass pos) sNx := ps_pass.imp fun De σ H ⟨B, r, Hi, ls, g, R, w⟩ => w σ r Hi H R .refl
theorem fs_break : FS X T E (.Break pos) sBk := ps_break.imp fun De σ H ⟨B, r, Hi, ls, g, R, w⟩ => w σ r Hi H R .refl
theorem fs_continue : FS X T E (.Continue pos) sCt := ps_continue.imp fun De σ H ⟨B, r, Hi, ls, g, R, w⟩ => w σ r Hi H R .refl
theorem fs_doc {x j p2} : FS X T E (.Expr (.Constant (.str x) j pos) p2) sNx := ps_doc.imp fun De σ H ⟨B, r, Hi, ls, g, R, w⟩ => w σ r Hi H R .refl
theorem fs_expr (he : FE X T E e fa) (hs : swapsWith e none pos.line X.env = pure false := by rfl) : FS X T E (.Expr e pos) (sDrop fa) :=
  (ps_expr he hs).imp fun De σ H ⟨B, r, Hi, ls, g, R, w⟩ => ⟨B, r, Hi, ls, g, R, w.bind.mono fun d r1 Hi1 H1 g1 R1 G1 w1 v p1 => w1 σ r1 Hi1 H1 R1 .refl⟩
theorem fs_ret (he : FE X T E e fa) : FS X T E (.Return (some e) pos) (sRet fa) :=
  (ps_ret he).imp fun De σ H ⟨B, r, Hi, ls, g, R, w⟩ => ⟨B, r, Hi, ls, g, R, w.bind.mono fun d r1 Hi1 H1 g1 R1 G1 w1 v p1 => w1 v r1 Hi1 H1 R1.bare .refl p1⟩
theorem fs_retO (he : FEO X T E e fo) : FS X T E (.Return (some e) pos) (sRetO fo) :=
  (ps_ret he).imp fun De σ H ⟨B, r, Hi, ls, g, R, w⟩ => ⟨B, r, Hi, ls, g, R, w.bind.mono fun o r1 Hi1 H1 g1 R1 G1 w1 p ho H2 R2 l hp q => w1 _ r1 Hi1 H2 R2.bare .refl ⟨p, ho, rfl, hp, q, l.hi, l.hr, l.hb⟩⟩
theorem fs_retN : FS X T E (.Return none pos) sRetN := ps_retN.imp fun De σ H ⟨B, r, Hi, ls, g, R, w⟩ => w .non r Hi H R.bare .refl .non
theorem fs_if {c : Expr} {a b : List Stmt} {p : Ls → M Bool} (hc : FT X T E c p) (ha : FSs X T E a f) (hb : FSs X T E b f') : FS X T E (.If c a b pos) (sIf p f f') :=
  (ps_if hc ha hb).imp fun De σ H ⟨B, r, Hi, ls, g, R, w⟩ => ⟨B, r, Hi, ls, g, R, w.bind.mono fun k r1 Hi1 H1 g1 R1 G1 w1 => by
    show if k = true then _ else _
    cases k with
    | true => rw [if_pos rfl] at w1 ⊢; exact ⟨B, r1, Hi1, ls, g1, R1, w1⟩
    | false => rw [if_neg Bool.false_ne_true] at w1 ⊢; exact ⟨B, r1, Hi1, ls, g1, R1, w1⟩⟩
theorem fs_set (i : Nat) {x : Str} {pos' : Pos} (hN : X.N.Nodup) (hi : X.N[i]? = some x) (hx : Loc X.env.scope x) (he : FE X T E e fa) (hs : swapsWith e (some (.Name x pos')) pos.line X.env = pure false := by rfl) (hf : X.fn x = true ∨ X.env.scope.names.lookup x = some .local := by first | exact .inl rfl | exact .inr rfl | assumption) :
    FS X T E (.Assign [.Name x pos'] e pos) (sSet i fa) :=
  (ps_set hN hi hx he hs hf).imp fun De σ H ⟨B, r, Hi, ls, g, R, w⟩ => ⟨B, r, Hi, ls, g, R, w.bind.mono fun d r1 Hi1 H1 g1 R1 G1 w1 v p1 => w1 _ r1 Hi1 H1 (R1.setD p1) .refl⟩
theorem fs_setO (i : Nat) {x : Str} {pos' : Pos} (hN : X.N.Nodup) (hi : X.N[i]? = some x) (hx : Loc X.env.scope x) (he : FEO X T E e fo) (hs : swapsWith e (some (.Name x pos')) pos.line X.env = pure false := by rfl) (hf : X.fn x = true ∨ X.env.scope.names.lookup x = some .local := by first | exact .inl rfl | exact .inr rfl | assumption) :
    FS X T E (.Assign [.Name x pos'] e pos) (sSetO i fo) :=
  (ps_set hN hi hx he hs hf).imp fun De σ H ⟨B, r, Hi, ls, g, R, w⟩ => ⟨B, r, Hi, ls, g, R, w.bind.mono fun o r1 Hi1 H1 g1 R1 G1 w1 p ho H2 R2 l hp q => w1 _ r1 Hi1 H2 (R2.setL l hp q) .refl⟩
/-- (a, b, ..) = e -/
theorem fs_tg {tg : Expr} {t : TG} {is : List Nat} {ft : D → Ls → Option Ls} (he : FE X T E e fa) (hg : FG X T tg t is ft) (hs : swapsWithSole [tg] e pos.line X.env = pure false := by rfl) (hw : swappedStores [tg] e X.env = pure none := by rfl)
    (h1 : (assignEach [tg] X.env).map (·.2) = [assign tg X.env] := by rfl) : FS X T E (.Assign [tg] e pos) (sTg fa ft) :=
  (ps_asg he hg.pg hs hw h1).imp fun De σ H ⟨B, r, Hi, ls, g, R, w⟩ => ⟨B, r, Hi, ls, g, R, w.bind.mono fun d r1 Hi1 H1 g1 R1 G1 w1 v p1 => by
    cases et : ft d ls with
    | none => rw [et] at w1; exact False.elim w1
    | some ls' =>
      rw [et] at w1
      exact hg.ts B r1 Hi1 H1 σ ls ls' g1 v d _ R1 p1 et fun σ' R2 _ _ => w1 σ' r1 Hi1 H1 R2 .refl⟩
/-- a, b = e1, e2 -/
def sPar (i j : Nat) (l : Ls → M (List D)) : S := sB l fun ds ls g => match ds with
  | [a, b] => some (.nx ((ls.set i (.dat a)).set j (.dat b)), g)
  | _ => none
theorem fs_par (i j : Nat) {x y : Str} {a b : Expr} {l : Ls → M (List D)} {px py pt : Pos} {kt k2 pt2} (hc : X.calm = true) (hN : X.N.Nodup) (hi : X.N[i]? = some x) (hj : X.N[j]? = some y) (hij : i ≠ j)
    (hx : X.env.scope.names.lookup x = some .local) (hy : X.env.scope.names.lookup y = some .local) (ha : FA X T E [a, b] l)
    (hw : swappedStores [.Tuple [.Name x px, .Name y py] kt pt] (.Tuple [a, b] k2 pt2) X.env = pure (some [x, y]))
    (hs : swapsWithSole [.Tuple [.Name x px, .Name y py] kt pt] (.Tuple [a, b] k2 pt2) pos.line X.env = pure false := by rfl) :
    FS X T E (.Assign [.Tuple [.Name x px, .Name y py] kt pt] (.Tuple [a, b] k2 pt2) pos) (sPar i j l) :=
  (ps_par hc hN hi hj hij hx hy ha hw hs).imp fun De σ H ⟨B, r, Hi, ls, g, R, w⟩ => ⟨B, r, Hi, ls, g, R, w.bind.mono fun ds r1 Hi1 H1 g1 R1 G1 w1 vs p1 => by
    cases p1 with
    | nil => exact False.elim w1
    | cons h t =>
      cases t with
      | nil => exact False.elim w1
      | cons h2 t =>
        cases t with
        | cons _ _ => exact False.elim w1
        | nil => exact ⟨_, _, rfl, w1 _ r1 Hi1 H1 ((R1.setD h).setD h2) .refl⟩⟩
/-- x op= e -/
def sAug (i : Nat) (o : D → D → Option D) (f : Ls → M D) : S := sB (fOp o (fVar i) f) fun d ls g => some (.nx (ls.set i (.dat d)), g)
theorem fs_aug (i : Nat) {x : Str} {op : Operator} {rr : R2} {o : D → D → Option D} {pos' : Pos} (hN : X.N.Nodup) (hi : X.N[i]? = some x) (hx : Loc X.env.scope x) (he : FE X T E e fa) (ho : OpR X (inplaceOp op) rr) (hs : OpS X T rr o) (hf : X.fn x = true ∨ X.env.scope.names.lookup x = some .local := by first | exact .inl rfl | exact .inr rfl | assumption) :
    FS X T E (.AugAssign (.Name x pos') op e pos) (sAug i o fa) :=
  (ps_aug hN hi hx he (ti := rr) ho hf).imp fun De σ H ⟨B, r, Hi, ls, g, R, w⟩ => by
    have w1 := w.bind (σ := σ)
    unfold fOp fVar at w1
    cases el : ls[i]? with
    | none => rw [el] at w1; exact False.elim w1
    | some l =>
      cases l with
      | un => rw [el] at w1; exact False.elim w1
      | own o => rw [el] at w1; exact False.elim w1
      | dat d =>
        rw [el] at w1
        obtain ⟨v, h1, h2⟩ := R.loc i d el
        have w2 := w1.bind.ret R .refl
        refine ⟨v, h1, B, r, Hi, ls, g, R, w2.bind.mono fun e' r1 Hi1 H1 g1 R1 G1 w3 u p1 => ?_⟩
        obtain ⟨y, ey, w4⟩ := w3.opt
        refine hs E B r1 Hi1 H1 σ ls g1 v u d e' y _ R1 (h2.mono G1) p1 ey fun r2 Hi2 H2 R2 G2 v' p2 => ?_
        exact (w4 r1 Hi1 H1 R1 .refl).ge G2 |> fun w5 => w5 _ r2 Hi2 H2 (R2.setD p2) .refl
/-- ahead of a statement an own object may be frozen -/
theorem fs_frz (i : Nat) (h : FS X T E st f) : FS X T E st (sFrz i f) := h.imp fun De σ H ⟨B, r, Hi, ls, g, R, w⟩ => by
  unfold sFrz at w
  cases e : ls[i]? with
  | none => rw [e] at w; exact ⟨B, r, Hi, ls, g, R, w⟩
  | some l =>
    rw [e] at w
    cases l with
    | un => exact ⟨B, r, Hi, ls, g, R, w⟩
    | dat d => exact ⟨B, r, Hi, ls, g, R, w⟩
    | own o =>
      obtain ⟨Hi', R', G'⟩ := R.freeze e
      exact ⟨B, r, Hi', _, g, R', w.ge G'⟩
/-- x.append(e), x an own list -/
def ownL (ls : Ls) (i : Nat) : Option (List D) := match ls[i]? with
  | some (.own (.lst ds)) => some ds
  | _ => none
theorem ownL_some {ls : Ls} {i : Nat} {ds : List D} (h : ownL ls i = some ds) : ls[i]? = some (.own (.lst ds)) := by
  unfold ownL at h
  split at h
  · rename_i e; cases h; exact e
  · cases h
def sApp (i : Nat) (f : Ls → M D) : S := fun ls g => match ownL ls i with
  | some ds => sB f (fun d ls g => if ds.length < sizeLine then some (.nx (ls.set i (.own (.lst (ds ++ [d])))), g) else none) ls g
  | none => none
theorem fs_app (i : Nat) {x : Str} {pn apos cpos : Pos} {a : Expr} (hN : X.N[i]? = some x := by rfl) (hv : Vis X.env.scope x := by first | exact Or.inl rfl | exact Or.inr (Or.inl rfl) | exact Or.inr (Or.inr rfl)) (ha : FE X T E a fa) (hd : (x == ("__debug__" : Str)) = false := by decide)
    (hcd : (x == ("__classdict__" : Str)) = false := by decide)
    (hs : swapsWith (.Call (.Attribute (.Name x pn) "append" apos) [a] [] cpos) none pos.line X.env = pure false := by rfl)
    (hbase : attributeBase (.Name x pn) "append" X.env (eval (.Name x pn) X.env) = eval (.Name x pn) X.env := by rfl)
    (hfew : ((backTo cpos (starEach [a] X.env)).all (fun x => !x.1) && (backToKw cpos (keywordEach [] X.env)).all (fun x => x.1.isSome) && decide ([a].length + ([] : List Keyword).length + (if ([] : List Keyword).isEmpty then 0 else 1) < 30)) = true := by rfl)
    (hline : (apos.endLine == cpos.line) = true := by rfl) (hst : starEach [a] X.env = (false, eval a X.env) :: starEach [] X.env := by rfl) (hplain : (backTo cpos (starEach [] X.env)).any (·.1) = false := by rfl) :
    FS X T E (.Expr (.Call (.Attribute (.Name x pn) "append" apos) [a] [] cpos) pos) (sApp i fa) :=
  (ps_expr (pe_bm PySem.F.plainAttrs_list PySem.F.slot_list_append PySem.F.type_list_append mt_append (pe_var hN hv hd hcd) (pa_cons ha pa_nil hst) hbase hfew hline hst hplain) hs).imp fun De σ H ⟨B, r, Hi, ls, g, R, w⟩ => by
    unfold sApp at w
    cases e : ownL ls i with
    | none => rw [e] at w; exact False.elim w
    | some ds =>
      rw [e] at w
      have el := ownL_some e
      obtain ⟨p, ho, h1, h2, h3, h4, h5⟩ := R.own i _ el
      cases h3 with
      | lst a1 =>
        refine ⟨.ref p, h1, .inl ⟨rfl, _, L2.SqL.of h2⟩, B, r, Hi, ls, g, R, w.bind.mono fun d r1 Hi1 H1 g1 R1 G1 w1 v p1 => ?_⟩
        obtain ⟨p', ho', k1, k2, k3, k4, k5⟩ := R1.own i _ el
        rw [h1] at k1
        cases k1
        cases k3 with
        | lst a2 =>
          have w2 : WpS X.K T E B r1 Hi1 (if ds.length < sizeLine then some (.nx (ls.set i (.own (.lst (ds ++ [d])))), g1) else none) De := w1
          split at w2
          · rename_i hz
            exact ⟨p, _, v, rfl, rfl, k2, by rw [a2.length]; exact hz, w2 _ r1 Hi1 _ (R1.updO el h1 (.lst (a2.app (.cons p1 .nil)))) .refl⟩
          · exact False.elim w2
/-! ### for -/
def forGo (tg : D → Ls → Option Ls) (body : S) : List D → S
  | [] => sNx
  | d :: rs => fun ls g => match tg d ls with
    | none => none
    | some ls1 => match body ls1 g with
      | none => none
      | some (.nx ls2, g2) => forGo tg body rs ls2 g2
      | some (.ct ls2, g2) => forGo tg body rs ls2 g2
      | some (.bk ls2, g2) => some (.nx ls2, g2)
      | some (.rt v, g2) => some (.rt v, g2)
      | some (.xc x ls2, g2) => some (.xc x ls2, g2)
def sFor (fi : Ls → M (List D)) (tg : D → Ls → Option Ls) (body : S) : S := sB fi fun ds => forGo tg body ds
theorem fs_for {iter tg : Expr} {body : List Stmt} {fi : Ls → M (List D)} {t : TG} {is : List Nat} {ft : D → Ls → Option Ls} (hp : PassesOwn (model X.prog X.w) X.A X.env X.xe) (hc : X.calm = true) (hi : FI X T E tg iter fi) (hg : FG X T tg t is ft) (hb : FSs X T E body f)
    (hs : ∀ x, foldedSetIterable iter X.env x = pure x := by intro _; rfl) : FS X T E (.For tg iter body [] pos) (sFor fi ft f) :=
  (ps_for hp hc hi hg.pg hb hs).imp fun De σ H ⟨B, r, Hi, ls, g, R, w⟩ => ⟨B, r, Hi, ls, g, R, w.bind.mono fun ds r1 Hi1 H1 g1 R1 G1 w1 J ok => by
    refine ⟨fun i m σ H => m = ds.length - i ∧ i ≤ ds.length ∧ ∃ r2 Hi2 ls2 g2, Rel X.K T B r2 Hi2 H σ ls2 g2 ∧ Ge r1 Hi1 r2 Hi2 ∧ WpS X.K T E B r2 Hi2 (forGo ft f (ds.drop i) ls2 g2) De, ⟨ds.length, by simp, Nat.zero_le _, r1, Hi1, ls, g1, R1, .refl, w1⟩, ?_⟩
    rintro i m σ2 H2 ⟨rfl, hi, r2, Hi2, ls2, g2, R2, G2, w2⟩
    by_cases hlt : i < ds.length
    · refine .inr ⟨ok.go i H2 (fun a o e => R2.sub a o (G2.h a o e)) hlt, fun σ' H' => (i + 1 ≤ ds.length ∧ ∃ r2 Hi2 ls2 g2, Rel X.K T B r2 Hi2 H' σ' ls2 g2 ∧ Ge r1 Hi1 r2 Hi2 ∧ WpS X.K T E B r2 Hi2 (forGo ft f (ds.drop (i + 1)) ls2 g2) De), fun σ' H' h => ⟨ds.length - (i + 1), by omega, rfl, h⟩, fun x H3 y => ?_⟩
      obtain ⟨Hi3, R3, G3, px, _⟩ := yielded ok R2 G2 (List.getElem?_eq_getElem hlt) y
      rw [← List.getElem_cons_drop hlt] at w2
      unfold forGo at w2
      cases et : ft ds[i] ls2 with
      | none => rw [et] at w2; exact False.elim w2
      | some ls3 =>
        rw [et] at w2
        dsimp only at w2
        refine hg.ts B r2 Hi3 H3 σ2 ls2 ls3 g2 x _ _ R3 px et fun σ4 R4 _ _ => ⟨B, r2, Hi3, ls3, g2, R4, ?_⟩
        unfold WpS
        cases eb : f ls3 g2 with
        | none => rw [eb] at w2; exact False.elim w2
        | some p =>
          obtain ⟨a, g5⟩ := p
          rw [eb] at w2
          cases a with
          | nx ls5 => exact fun σ' r' Hi' H' R' G' => ⟨hlt, r', Hi', ls5, g5, R', (G2.trans G3).trans G', w2.ge (G3.trans G')⟩
          | ct ls5 => exact fun σ' r' Hi' H' R' G' => ⟨hlt, r', Hi', ls5, g5, R', (G2.trans G3).trans G', w2.ge (G3.trans G')⟩
          | bk ls5 => exact fun σ' r' Hi' H' R' G' => w2 σ' r' Hi' H' R' (G3.trans G')
          | rt v => exact fun v' r' Hi' H' R' G' => w2 v' r' Hi' H' R' (G3.trans G')
          | xc x ls5 => exact fun σ' r' Hi' H' c dx R' G' => w2 σ' r' Hi' H' c dx R' (G3.trans G')
    · have ei : i = ds.length := by omega
      subst ei
      rw [List.drop_length] at w2
      exact .inl ⟨ok.stop H2 fun a o e => R2.sub a o (G2.h a o e), w2 σ2 r2 Hi2 H2 R2 .refl⟩⟩
/-! ### while -/
def whGo (p : Ls → M Bool) (body : S) : Nat → S
  | 0 => fun _ _ => none
  | n + 1 => sB p fun k => if k = true then (fun ls g => match body ls g with
      | none => none
      | some (.nx ls2, g2) => whGo p body n ls2 g2
      | some (.ct ls2, g2) => whGo p body n ls2 g2
      | some (.bk ls2, g2) => some (.nx ls2, g2)
      | some (.rt v, g2) => some (.rt v, g2)
      | some (.xc x ls2, g2) => some (.xc x ls2, g2)) else sNx
theorem fs_while (n : Nat) {c : Expr} {body : List Stmt} {p : Ls → M Bool} (hp : PassesOwn (model X.prog X.w) X.A X.env X.xe) (hc : FT X T E c p) (hb : FSs X T E body f) : FS X T E (.While c body [] pos) (whGo p f n) :=
  (ps_while hp hc hb).imp fun De σ H ⟨B, r, Hi, ls, g, R, w⟩ => by
    refine ⟨fun m σ H => ∃ r2 Hi2 ls2 g2, Rel X.K T B r2 Hi2 H σ ls2 g2 ∧ Ge r Hi r2 Hi2 ∧ WpS X.K T E B r2 Hi2 (whGo p f m ls2 g2) De, ⟨n, r, Hi, ls, g, R, .refl, w⟩, ?_⟩
    rintro m σ2 H2 ⟨r2, Hi2, ls2, g2, R2, G2, w2⟩
    cases m with
    | zero => exact False.elim w2
    | succ m =>
      refine ⟨B, r2, Hi2, ls2, g2, R2, w2.bind.mono fun k r3 Hi3 H3 g3 R3 G3 w3 => ?_⟩
      show if k = true then _ else _
      cases k with
      | false => rw [if_neg Bool.false_ne_true] at w3 ⊢; exact w3 σ2 r3 Hi3 H3 R3 .refl
      | true =>
        rw [if_pos rfl] at w3 ⊢
        refine ⟨fun σ' H' => ∃ r2 Hi2 ls2 g2, Rel X.K T B r2 Hi2 H' σ' ls2 g2 ∧ Ge r Hi r2 Hi2 ∧ WpS X.K T E B r2 Hi2 (whGo p f m ls2 g2) De, fun σ' H' h => ⟨m, Nat.lt_succ_self m, h⟩, B, r3, Hi3, ls2, g3, R3, ?_⟩
        unfold WpS
        cases eb : f ls2 g3 with
        | none => rw [eb] at w3; exact False.elim w3
        | some q =>
          obtain ⟨a, g5⟩ := q
          rw [eb] at w3
          cases a with
          | nx ls5 => exact fun σ' r' Hi' H' R' G' => ⟨r', Hi', ls5, g5, R', (G2.trans G3).trans G', w3.ge G'⟩
          | ct ls5 => exact fun σ' r' Hi' H' R' G' => ⟨r', Hi', ls5, g5, R', (G2.trans G3).trans G', w3.ge G'⟩
          | bk ls5 => exact fun σ' r' Hi' H' R' G' => w3 σ' r' Hi' H' R' G'
          | rt v => exact fun v' r' Hi' H' R' G' => w3 v' r' Hi' H' R' G'
          | xc x ls5 => exact fun σ' r' Hi' H' c dx R' G' => w3 σ' r' Hi' H' c dx R' G'
end
end G6

namespace G6
open PySem PySem.Spec L2
open PyProof.Rows (envOfC)

/-! ### defs: as L2.FnOk, where nothing is being shown -/
structure FnG (P : Program) (w : World) (K : PySem.W.Frag) (mg : Str → Option Value) (base : Heap) (k : Nat) (f : Addr) (fd : FuncData) (ps : List Str) (sp : Sp) : Prop where
  len : ∀ vs H Q E, sp vs H Q E → vs.length = ps.length
  run : ∀ (A : Around) (outer : List Env) (s : Shared) (H : Hp) (args : Args) (us : List Value) (vs : List V) (Q : VK) (E : XK), Room k A → A.guards = some [] → Env0 P w K mg base A outer s H → BindsTo s fd args (ps.zip us) → Vals vs us → sp vs H Q E →
    codeAny (model P w) A (.call (.ref f) args) (CR (L2.CX P w) outer P w H s Q E) s
theorem FnG.mono {P : Program} {w : World} {K : PySem.W.Frag} {mg : Str → Option Value} {base : Heap} {j k : Nat} {f : Addr} {fd : FuncData} {ps : List Str} {sp : Sp} (F : FnG P w K mg base j f fd ps sp) (h : j ≤ k) : FnG P w K mg base k f fd ps sp :=
  ⟨F.len, fun A outer s H args us vs Q E hr => F.run A outer s H args us vs Q E (hr.mono h)⟩
section
variable {P : Program} {w : World} {K : PySem.W.Frag} {mg : Str → Option Value} {base : Heap}
theorem fn_ofG {k : Nat} {f : Addr} {name qual : Str} {params : Arguments} {body : List Stmt} {scope : Scope} {dV kV doc pm cdv ct oc : Value} {an od : Option Addr}
    {osl : Array (Option Value)} {N ps : List Str} {sp : Sp} (lk : K.lookup f = some ⟨oc, od, .func (PySem.W.fnOf name qual params body scope dV kV doc pm an cdv ct), osl⟩) (hcd : PySem.W.codeIn K cdv qual = true) (S : FnScope N ps scope)
    (len : ∀ vs H Q E, sp vs H Q E → vs.length = ps.length)
    (hbody : ∀ (A : Around) (outer : List Env) (s : Shared) (H : Hp) (vs : List V) (Q : VK) (E : XK), Room k (A.deeper (envOfC qual scope s.heap.objs.size f cdv)) → (A.deeper (envOfC qual scope s.heap.objs.size f cdv)).guards = some [] → sp vs H Q E →
      ∃ t, PSs (cxOf (L2.CX P w) P w K mg base N qual scope f cdv A outer s H E) body t ∧ t { nx := fun _ H' => Q .non H', rt := Q } (L2.start N vs) H) :
    FnG P w K mg base (k + 1) f (PySem.W.fnOf name qual params body scope dV kV doc pm an cdv ct) ps sp := by
  refine ⟨len, fun A outer s H args us vs Q E hr hgd e0 hb r hsp => ?_⟩
  have hl := len _ _ _ _ hsp
  have KX : K.In s.heap := e0.mod.kin.keeps fun b o e => (e0.bs b o e).1
  have lim : s.heap.NoLimit := e0.mod.nolimit.keeps fun b o e => (e0.bs b o e).1
  have hkind : ∀ y ∈ ps.zip us, scope.names.lookup y.1 = some .local ∨ (scope.names.lookup y.1 = some .cell ∧ ((cellsFrom (s.heap.objs.size + 1) scope.names []).lookup y.1).isSome = true) := fun ⟨n, v⟩ hy => by
    rcases S.par n (List.of_mem_zip hy).1 with q | q
    · exact .inl q
    · exact .inr ⟨q, PySem.W.cellsFrom_some _ _ _ (.inl q)⟩
  refine codeAny_call_function hr.depth (KX _ _ lk) rfl S.co S.gen rfl (PySem.W.codeRec_of KX hcd) (hb _ _ _ _ ?_)
  refine wpAny_newFunctionEnv_cells S.kind hkind fun env he s1 x => ?_
  subst he
  refine ⟨lim.keeps x.toInCall.keep, codeAny_func ?_⟩
  obtain ⟨t, ht, hq⟩ := hbody A outer s H vs Q E (hr.deeper _) hgd hsp
  have I : Inv (cxOf (L2.CX P w) P w K mg base N qual scope f cdv A outer s H E) [] (L2.start N vs) H s1 := inv_start S hr.hd e0 hl r x
  refine wpAny_mono (ht.run [] s1 (L2.start N vs) H _ I hq) (fun fl s' hs => ?_) fun e s' hs => hs
  have fin : ∀ {σ' : L2.St} {H' : Hp} {v : V} {u : Value}, Inv (cxOf (L2.CX P w) P w K mg base N qual scope f cdv A outer s H E) [] σ' H' s' → RelV v u → Q v H' → CE outer P w H s Q u s' :=
    fun {σ' H' v u} J rv q => ⟨v, H', J.os, J.bare, J.base, J.hok, rv, q⟩
  cases fl with
  | ret u =>
    obtain ⟨v, σ', H', J, rv, q⟩ := hs
    exact fin J rv q
  | next =>
    obtain ⟨σ', H', J, q⟩ := hs
    exact fin (v := V.non) (u := Value.none) J rfl q
  | brk =>
    obtain ⟨_, _, _, q⟩ := hs
    exact False.elim q
  | cont =>
    obtain ⟨_, _, _, q⟩ := hs
    exact False.elim q
end

/-! ### what a Lean function promises -/
abbrev Fn := List D → M RV
def PRV (K : PySem.W.Frag) (T : Tab) (B : Base) (Q : VK) : Pst RV := fun rv r' Hi' H' _ => ∀ v, RVRel K T B r' Hi' H' v rv → Q v H'
def spF (K : PySem.W.Frag) (T : Tab) (n : Nat) (F : Fn) : Sp := fun vs H Q E => ∃ r Hi g ds, Rel K T (Base.at H r Hi) r Hi H [] [] g ∧ RepAll K T r Hi vs ds ∧ ds.length = n ∧
  WpG K T (fun c dx _ H' => E c dx H') (Base.at H r Hi) [] [] r Hi (F ds g) (PRV K T (Base.at H r Hi) Q)
def startL (n : Nat) (ds : List D) : Ls := ds.map .dat ++ List.replicate (n - ds.length) .un
def endF (m : Option (Fl × Gs)) : Res RV := match m with
  | some (.nx _, g') => some (.ok (.dat .non), g')
  | some (.rt rv, g') => some (.ok rv, g')
  | some (.xc x _, g') => some (.error x, g')
  | _ => none
def fnF (n : Nat) (body : S) : Fn := fun ds g => endF (body (startL n ds) g)
section
variable {P : Program} {w : World} {K : PySem.W.Frag} {mg : Str → Option Value} {base : Heap} {T : Tab}
theorem rel_start {r : List Addr} {Hi H : Hp} {g : Gs} {B : Base} {vs : List V} {ds : List D} {N : List Str} (R : Rel K T B r Hi H [] [] g) (p : RepAll K T r Hi vs ds) : Rel K T B r Hi H (L2.start N vs) (startL N.length ds) g := by
  have e : vs.length = ds.length := p.length
  have no : ∀ (i : Nat) (o : OV), (startL N.length ds)[i]? ≠ some (.own o) := fun i o h => by
    unfold startL at h
    by_cases hi : i < (ds.map LV.dat).length
    · rw [List.getElem?_append_left hi, List.getElem?_map] at h
      obtain ⟨d, _, z⟩ := Option.map_eq_some_iff.mp h
      cases z
    · rw [List.getElem?_append_right (by omega), List.getElem?_replicate] at h
      split at h <;> cases h
  refine ⟨R.sub, ?_, fun i d h => ?_, fun i o h => absurd h (no i o), fun i j oi oj a h => absurd h (no i oi), R.rlen, R.rnd, R.sto, R.i0, R.keep, R.dom, fun a ⟨i, o, h, _⟩ => absurd h (no i o), R.newR, R.newI⟩
  · unfold L2.start startL
    simp [e]
  · unfold startL at h
    by_cases hi : i < (ds.map LV.dat).length
    · rw [List.getElem?_append_left hi, List.getElem?_map] at h
      obtain ⟨d', h1, z⟩ := Option.map_eq_some_iff.mp h
      cases z
      obtain ⟨v, h2, q⟩ := p.get h1
      refine ⟨v, ?_, q⟩
      unfold L2.start
      rw [List.getElem?_append_left (by rw [List.length_map] at hi ⊢; omega), List.getElem?_map, h2]
      rfl
    · rw [List.getElem?_append_right (by omega), List.getElem?_replicate] at h
      split at h <;> cases h
/-- a def's body, as a Lean function -/
theorem fn_ok {x qual : Str} {st : Stmt} {f : Addr} {fd : FuncData} {N ps : List Str} {k n : Nat} {body : S} (F : Fun K x qual st f fd) (Sc : FnScope N ps (defScope st)) (hn : N.length = n)
    (hbody : ∀ (cdv : Value) (A : Around) (outer : List Env) (s : Shared) (H : Hp) (E : XK), Room k (A.deeper (envOfC qual (defScope st) s.heap.objs.size f cdv)) → (A.deeper (envOfC qual (defScope st) s.heap.objs.size f cdv)).guards = some [] →
      FSs (cxOf (L2.CX P w) P w K mg base N qual (defScope st) f cdv A outer s H E) T (fun c dx _ H' => E c dx H') (defBody st) body) :
    FnG P w K mg base (k + 1) f fd ps (spF K T ps.length (fnF n body)) := by
  obtain ⟨oc, od, kV, doc, pm, an, cdv, ct, osl, rfl, lk, hcd⟩ := F.ex
  refine fn_ofG lk hcd Sc (fun vs H Q E ⟨r, Hi, g, ds, R, p, hl, _⟩ => p.length.trans hl) fun A outer s H vs Q E hr hgd ⟨r, Hi, g, ds, R, p, hl, wp⟩ => ?_
  refine ⟨_, hbody cdv A outer s H E hr hgd, Base.at H r Hi, r, Hi, _, g, rel_start R p, ?_⟩
  unfold fnF at wp
  rw [hn]
  unfold WpS
  cases e : body (startL n ds) g with
  | none => rw [e] at wp; exact wp
  | some q =>
    obtain ⟨a, g'⟩ := q
    rw [e] at wp
    cases a with
    | nx ls' => exact fun σ' r' Hi' H' R' G' => wp r' Hi' H' R'.bare G' .non .non
    | rt rv => exact fun v r' Hi' H' R' G' q => wp r' Hi' H' R' G' v q
    | xc x ls' => exact fun σ' r' Hi' H' c dx R' G' q => wp r' Hi' H' c dx R'.bare G' q
    | bk ls' => exact False.elim wp
    | ct ls' => exact False.elim wp
theorem fn_none {f : Addr} {fd : FuncData} {ps : List Str} {k n : Nat} {F : Fn} (h : ∀ ds g, F ds g = none) : FnG P w K mg base k f fd ps (spF K T n F) :=
  ⟨fun vs H Q E ⟨r, Hi, g, ds, _, _, _, wp⟩ => by rw [h] at wp; exact wp.elim, fun A outer s H args us vs Q E _ _ _ _ _ ⟨r, Hi, g, ds, _, _, _, wp⟩ => by rw [h] at wp; exact wp.elim⟩
end

/-! ### calls -/
theorem rv_data {K : PySem.W.Frag} {T : Tab} {B : Base} {r : List Addr} {Hi H : Hp} {g : Gs} {v : V} {rv : RV} (R : Rel K T B r Hi H [] [] g) (q : RVRel K T B r Hi H v rv) : ∃ Hi', Rel K T B r Hi' H [] [] g ∧ Ge r Hi r Hi' ∧ Rep K T r Hi' v rv.d := by
  cases rv with
  | dat d => exact ⟨Hi, R, .refl, q⟩
  | own o =>
    obtain ⟨a, ho, rfl, h1, h2, h3, h4, h5⟩ := q
    obtain ⟨R', G'⟩ := R.fixL (p := a) ⟨h3, h4, fun ⟨i, o, e, _⟩ => by simp at e, h5⟩ h1
    exact ⟨_, R', G', (h2.mono G').rep upd_same⟩
def fCall (F : Fn) (l : Ls → M (List D)) : Ls → M D := fun ls => M.bind (l ls) fun ds => M.bind (F ds) fun rv => M.ret rv.d
def foCall (F : Fn) (l : Ls → M (List D)) : Ls → M OV := fun ls => M.bind (l ls) fun ds => M.bind (F ds) fun rv => match rv with
  | .own o => M.ret o
  | .dat _ => M.opt none
section
variable {X : Cx} {T : Tab} {E : XE} {k n : Nat} {f : Addr} {fd : FuncData} {ps : List Str} {F : Fn} {x : Str} {p pos : Pos} {e : Expr} {es : List Expr} {l : Ls → M (List D)}
/-- the callee runs -/
theorem run_F {pins : List (Addr × Obj)} {σ : L2.St} {H : Hp} {s : Shared} {us : List Value} {vs : List V} {ds : List D} {B : Base} {r : List Addr} {Hi : Hp} {ls : Ls} {g : Gs} {Q : VK} {Pr : Pst RV}
    (FG : FnG X.prog X.w X.K X.mg X.base k f fd ps (spF X.K T n F)) (hr : Room k X.A) (hgd : X.A.guards = some []) (hb : Binds X.K fd ps []) (hn : ps.length = n) (tk : Takes X E)
    (I : Inv X pins σ H s) (rv : Vals vs us) (R : Rel X.K T B r Hi H σ ls g) (q : RepAll X.K T r Hi vs ds) (hl : ds.length = n) (wp : WpG X.K T E B σ ls r Hi (F ds g) Pr)
    (fin : ∀ rv r' Hi' H' g', Rel X.K T B r' Hi' H' σ ls g' → Ge r Hi r' Hi' → Rel X.K T (Base.at H r Hi) r' Hi' H' [] [] g' → Pr rv r' Hi' H' g' → ∀ v, RVRel X.K T (Base.at H r Hi) r' Hi' H' v rv → Q v H') :
    wpAny (model X.prog X.w) X.A (call (.ref f) us) (EP X pins σ Q) X.xe s := by
  have hlen : us.length = ps.length := by rw [← rv.length, q.length, hl, hn]
  refine wpAny_call (codeAny_mono (FG.run X.A X.stack s H ⟨us, []⟩ us vs Q (fun c dx H' => E c dx σ H') hr hgd I.env0 ?_ rv ⟨r, Hi, g, ds, R.at, q, hl, ?_⟩) fun res s' hq => ?_)
  · have := hb s us I.kIn (by rw [List.append_nil]; exact hlen)
    rw [List.append_nil] at this
    exact this
  · unfold WpG at wp ⊢
    cases eF : F ds g with
    | none => rw [eF] at wp; exact wp
    | some m =>
      obtain ⟨a, g'⟩ := m
      rw [eF] at wp
      cases a with
      | ok rv => exact fun r' Hi' H' R' G' => fun v z => fin rv r' Hi' H' g' (R.back R' G') G' R' (wp r' Hi' H' (R.back R' G') G') v z
      | error x => exact fun r' Hi' H' c dx R' G' z => wp r' Hi' H' c dx (R.back R' G') G' z
  · cases res with
    | error u => exact tk u s' (L2.XE.of_call I (fun _ _ _ h => h) hq)
    | ok fl =>
      cases fl with
      | ret u => exact I.after hq
      | next => exact False.elim hq
      | brk => exact False.elim hq
      | cont => exact False.elim hq
/-- f(e, ..), as data -/
theorem fe_call (FG : FnG X.prog X.w X.K X.mg X.base k f fd ps (spF X.K T n F)) (hr : Room k X.A) (hgd : X.A.guards = some []) (hg : Gl X x) (hm : X.mg x = some (.ref f)) (hk : PySem.W.keepIn X.K (.ref f) = true) (hb : Binds X.K fd ps []) (hn : ps.length = n) (tk : Takes X E)
    (ha : FA X T E (e :: es) l) (hc : ∀ ls g ds g', l ls g = some (.ok ds, g') → ds.length = n) (hdb : (x == ("__debug__" : Str)) = false := by decide) (he : starEach (e :: es) X.env = (false, eval e X.env) :: starEach es X.env := by rfl) (hpl : (backTo pos (starEach es X.env)).any (·.1) = false := by rfl) :
    FE X T E (.Call (.Name x p) (e :: es) [] pos) (fCall F l) := by
  refine ⟨fun pins s σ H Q I ⟨B, r, Hi, ls, g, R, w⟩ => ?_⟩
  refine wpAny_Call_Name_kw (ld_glob I hg hm ?_ hdb)
  refine PySem.W.callWith_K (h₀ := X.base) I.ok.mod.kin hk (thn (ha.run pos pins s σ H (fun vs H1 => ∃ r1 Hi1 ds g1, Rel X.K T B r1 Hi1 H1 σ ls g1 ∧ RepAll X.K T r1 Hi1 vs ds ∧ ds.length = n ∧ WpG X.K T E B σ ls r1 Hi1 (M.bind (F ds) (fun rv => M.ret rv.d) g1) (PD X.K T Q)) I ⟨B, r, Hi, ls, g, R, ?_⟩) fun us s1 ⟨vs, H1, I1, rv, r1, Hi1, ds, g1, R1, q1, hl, w1⟩ => ⟨I1.kIn, ?_⟩) he hpl
  · unfold fCall M.bind at w
    unfold WpG at w ⊢
    cases q : l ls g with
    | none => rw [q] at w; exact w
    | some m =>
      obtain ⟨a, g'⟩ := m
      rw [q] at w
      cases a with
      | ok ds => exact fun r' Hi' H' R' G' vs pv => ⟨r', Hi', ds, g', R', pv, hc ls g ds g' q, WpG.ge w G'⟩
      | error x => exact w
  · exact run_F FG hr hgd hb hn tk I1 rv R1 q1 hl w1.bind fun rv' r' Hi' H' g' R' G' Rb h v z => by
      obtain ⟨Hi2, R2, G2, p2⟩ := rv_data Rb z
      exact WpG.ret h (R1.back R2 (G'.trans G2)) G2 v p2
/-- .. as an object of one's own -/
theorem feo_call (FG : FnG X.prog X.w X.K X.mg X.base k f fd ps (spF X.K T n F)) (hr : Room k X.A) (hgd : X.A.guards = some []) (hg : Gl X x) (hm : X.mg x = some (.ref f)) (hk : PySem.W.keepIn X.K (.ref f) = true) (hb : Binds X.K fd ps []) (hn : ps.length = n) (tk : Takes X E)
    (ha : FA X T E (e :: es) l) (hc : ∀ ls g ds g', l ls g = some (.ok ds, g') → ds.length = n) (hdb : (x == ("__debug__" : Str)) = false := by decide) (he : starEach (e :: es) X.env = (false, eval e X.env) :: starEach es X.env := by rfl) (hpl : (backTo pos (starEach es X.env)).any (·.1) = false := by rfl) :
    FEO X T E (.Call (.Name x p) (e :: es) [] pos) (foCall F l) := by
  refine ⟨fun pins s σ H Q I ⟨B, r, Hi, ls, g, R, w⟩ => ?_⟩
  refine wpAny_Call_Name_kw (ld_glob I hg hm ?_ hdb)
  refine PySem.W.callWith_K (h₀ := X.base) I.ok.mod.kin hk (thn (ha.run pos pins s σ H (fun vs H1 => ∃ r1 Hi1 ds g1, Rel X.K T B r1 Hi1 H1 σ ls g1 ∧ RepAll X.K T r1 Hi1 vs ds ∧ ds.length = n ∧ WpG X.K T E B σ ls r1 Hi1 (M.bind (F ds) (fun rv => match rv with | .own o => M.ret o | .dat _ => M.opt none) g1) (PO_ X.K T B σ ls Q)) I ⟨B, r, Hi, ls, g, R, ?_⟩) fun us s1 ⟨vs, H1, I1, rv, r1, Hi1, ds, g1, R1, q1, hl, w1⟩ => ⟨I1.kIn, ?_⟩) he hpl
  · unfold foCall M.bind at w
    unfold WpG at w ⊢
    cases q : l ls g with
    | none => rw [q] at w; exact w
    | some m =>
      obtain ⟨a, g'⟩ := m
      rw [q] at w
      cases a with
      | ok ds => exact fun r' Hi' H' R' G' vs pv => ⟨r', Hi', ds, g', R', pv, hc ls g ds g' q, WpG.ge w G'⟩
      | error x => exact w
  · exact run_F FG hr hgd hb hn tk I1 rv R1 q1 hl w1.bind fun rv' r' Hi' H' g' R' G' Rb h v z => by
      cases rv' with
      | dat d => exact False.elim h
      | own o =>
        obtain ⟨a, ho, rfl, h1, h2, h3, h4, h5⟩ := z
        refine WpG.ret h R' .refl a ho H' R' ⟨h3, h4, fun z => ?_, ?_⟩ h1 h2
        · obtain ⟨z1, z2, z3⟩ := R1.isOwn z
          rcases h5 with h5 | h5
          · exact z2 h5
          · exact z3 h5
        · rcases h5 with h5 | h5
          · exact R1.newR a h5
          · right
            cases q : B.H0 a with
            | none => rfl
            | some o => exact absurd h5 (R1.dom a (by rw [q]; simp))
end
end G6

namespace G6
open PySem PySem.Spec L2

/-! ### repr of data -/
mutual
inductive RdX (h : Heap) : Value → PyData → Prop
  | none : RdX h .none .none
  | bool (b) : RdX h (.bool b) (.bool b)
  | int (i t) : RdX h (.int i t) (.int i)
  | str (x t) : RdX h (.str x t) (.str x)
  | list {a o vs n xs} : h.get? a = some o → o.cls = .type "list" → o.data = .seq vs n → RdXAll h vs.toList xs → RdX h (.ref a) (.list xs)
  | tuple {a o vs n xs} : h.get? a = some o → o.cls = .type "tuple" → o.data = .seq vs n → RdXAll h vs.toList xs → RdX h (.ref a) (.tuple xs)
  | dict {a o es n kvs} : h.get? a = some o → o.cls = .type "dict" → o.data = .dict es n → (a == sysModules) = false → RdXAll h (es.toList.map (·.key)) (kvs.map (·.1)) → RdXAll h (es.toList.map (·.val)) (kvs.map (·.2)) → RdX h (.ref a) (.dict kvs)
inductive RdXAll (h : Heap) : List Value → List PyData → Prop
  | nil : RdXAll h [] []
  | cons {v vs d ds} : RdX h v d → RdXAll h vs ds → RdXAll h (v :: vs) (d :: ds)
end
section
variable {h : Heap}
mutual
theorem RdX.reads : ∀ {v : Value} {d : PyData}, RdX h v d → ∃ as, Reads h v d as
  | _, _, .none => ⟨_, .none⟩
  | _, _, .bool b => ⟨_, .bool b⟩
  | _, _, .int i t => ⟨_, .int i t⟩
  | _, _, .str x t => ⟨_, .str x t⟩
  | _, _, .list h1 h2 h3 h4 => let ⟨_, r⟩ := h4.reads; ⟨_, .list h1 h2 h3 r⟩
  | _, _, .tuple h1 h2 h3 h4 => let ⟨_, r⟩ := h4.reads; ⟨_, .tuple h1 h2 h3 r⟩
  | _, _, .dict h1 h2 h3 _ h4 h5 => let ⟨_, r⟩ := h4.reads; let ⟨_, q⟩ := h5.reads; ⟨_, .dict h1 h2 h3 r q⟩
theorem RdXAll.reads : ∀ {vs : List Value} {ds : List PyData}, RdXAll h vs ds → ∃ as, ReadsAll h vs ds as
  | _, _, .nil => ⟨_, .nil⟩
  | _, _, .cons a b => let ⟨_, r⟩ := a.reads; let ⟨_, q⟩ := b.reads; ⟨_, .cons r q⟩
end
variable {prog : Program} {w : World}
mutual
theorem RdX.reprK : ∀ {v : Value} {d : PyData}, RdX h v d → d.showable = true → d.shown.length ≤ sizeLine → ∃ bs, ReadAtMost h d.depth bs ∧ ReprK prog w bs h d.depth v d.shown
  | _, _, .none, _, _ => ⟨[], (fun _ h => nomatch h), by simp only [PyData.shown]; exact .of_is ReprIs.none _ _ _⟩
  | _, _, .bool b, _, _ => ⟨[], (fun _ h => nomatch h), by simp only [PyData.shown]; exact .of_is (ReprIs.bool b) _ _ _⟩
  | _, _, .int i t, hs, _ => ⟨[], (fun _ h => nomatch h), by simp only [PyData.shown]; exact .of_is (ReprIs.int t (by simpa [PyData.showable] using hs)) _ _ _⟩
  | _, _, .str x t, _, hz => ⟨[], (fun _ h => nomatch h), by simp only [PyData.shown]; exact .of_is (ReprIs.str x t (by simpa only [PyData.shown] using hz)) _ _ _⟩
  | _, _, .list (a := a) (vs := vs) (xs := xs) h1 h2 h3 h4, hs, hz => by
    have hz' : (listText (PyData.shownAll xs)).length ≤ sizeLine := by simpa only [PyData.shown] using hz
    obtain ⟨bs, hb, hk⟩ := RdXAll.reprK h4 (by simpa [PyData.showable] using hs) (fun t ht => Nat.le_trans (listText_mem_le ht) hz')
    obtain ⟨as, r⟩ := (RdX.list h1 h2 h3 h4).reads
    have hna : a ∉ bs := not_mem_of_deeper r (by simp only [PyData.depth]; omega) hb
    refine ⟨a :: bs, ReadAtMost.cons r (by simp only [PyData.depth]; omega) hb, ?_⟩
    simp only [PyData.depth, PyData.shown]
    obtain ⟨l⟩ := vs
    cases l with
    | nil =>
      have h4' : RdXAll h [] xs := h4
      cases h4'
      simp only [PyData.shownAll, listText_nil]
      exact ReprK.listEmpty h1 h2 h3
    | cons x l => exact ReprK.list h1 h2 h3 hna (by simpa using hk.length_eq) (fun i y e => hk.item i y (by simpa using e))
  | _, _, .tuple (a := a) (xs := xs) h1 h2 h3 h4, hs, hz => by
    have hz' : (tupleText (PyData.shownAll xs)).length ≤ sizeLine := by simpa only [PyData.shown] using hz
    obtain ⟨bs, hb, hk⟩ := RdXAll.reprK h4 (by simpa [PyData.showable] using hs) (fun t ht => Nat.le_trans (tupleText_mem_le ht) hz')
    obtain ⟨as, r⟩ := (RdX.tuple h1 h2 h3 h4).reads
    have hna : a ∉ bs := not_mem_of_deeper r (by simp only [PyData.depth]; omega) hb
    refine ⟨a :: bs, ReadAtMost.cons r (by simp only [PyData.depth]; omega) hb, ?_⟩
    simp only [PyData.depth, PyData.shown]
    exact ReprK.tuple h1 h2 h3 hna hk
  | _, _, .dict (a := a) (es := es) (kvs := kvs) h1 h2 h3 hsys h4 h5, hs, hz => by
    have hz' : (dictText (PyData.shownKv kvs)).length ≤ sizeLine := by simpa only [PyData.shown] using hz
    obtain ⟨hs1, hs2⟩ := PyData.showableKv_split kvs (by simpa [PyData.showable] using hs)
    obtain ⟨b1, hb1, k1⟩ := RdXAll.reprK h4 hs1 (fun t ht => let ⟨p, hp, hl⟩ := PyData.shownKv_key_le kvs t ht; Nat.le_trans hl (Nat.le_trans (dictText_mem_le hp) hz'))
    obtain ⟨b2, hb2, k2⟩ := RdXAll.reprK h5 hs2 (fun t ht => let ⟨p, hp, hl⟩ := PyData.shownKv_val_le kvs t ht; Nat.le_trans hl (Nat.le_trans (dictText_mem_le hp) hz'))
    obtain ⟨as, r⟩ := (RdX.dict h1 h2 h3 hsys h4 h5).reads
    have hb : ReadAtMost h (PyData.depthKv kvs) (b1 ++ b2) := (hb1.mono (PyData.depthAll_keys_le kvs)).append (hb2.mono (PyData.depthAll_vals_le kvs))
    have hna : a ∉ b1 ++ b2 := not_mem_of_deeper r (by simp only [PyData.depth]; omega) hb
    refine ⟨a :: (b1 ++ b2), ReadAtMost.cons r (by simp only [PyData.depth]; omega) hb, ?_⟩
    simp only [PyData.depth, PyData.shown, PyData.shownKv_eq]
    exact ReprK.dict h1 h2 h3 hsys hna (ReprEntriesK.of_two es.toList _ _
      (k1.more_le (fun b hb => List.mem_append_left _ hb) (PyData.depthAll_keys_le kvs)) (k2.more_le (fun b hb => List.mem_append_right _ hb) (PyData.depthAll_vals_le kvs)))
theorem RdXAll.reprK : ∀ {vs : List Value} {ds : List PyData}, RdXAll h vs ds → PyData.showableAll ds = true → (∀ t ∈ PyData.shownAll ds, t.length ≤ sizeLine) →
    ∃ bs, ReadAtMost h (PyData.depthAll ds) bs ∧ ReprAllK prog w bs h (PyData.depthAll ds) vs (PyData.shownAll ds)
  | _, _, .nil, _, _ => ⟨[], (fun _ h => nomatch h), by simp only [PyData.shownAll]; exact .nil⟩
  | _, _, .cons (d := d) (ds := ds) r rs, hs, hz => by
    have hs' : d.showable = true ∧ PyData.showableAll ds = true := by simpa [PyData.showableAll] using hs
    obtain ⟨b1, hb1, k1⟩ := RdX.reprK r hs'.1 (hz _ (by simp only [PyData.shownAll]; exact List.mem_cons_self ..))
    obtain ⟨b2, hb2, k2⟩ := RdXAll.reprK rs hs'.2 (fun t ht => hz t (by simp only [PyData.shownAll]; exact List.mem_cons_of_mem _ ht))
    refine ⟨b1 ++ b2, ?_, ?_⟩
    · intro b hm
      simp only [PyData.depthAll]
      rcases List.mem_append.mp hm with hm | hm
      · obtain ⟨d', as', r', hd'⟩ := hb1 b hm
        exact ⟨d', as', r', Nat.le_trans hd' (Nat.le_max_left _ _)⟩
      · obtain ⟨d', as', r', hd'⟩ := hb2 b hm
        exact ⟨d', as', r', Nat.le_trans hd' (Nat.le_max_right _ _)⟩
    · simp only [PyData.depthAll, PyData.shownAll]
      exact .cons ((k1.more fun b hb => List.mem_append_left _ hb).level_le (Nat.le_max_left _ _)) (k2.more_le (fun b hb => List.mem_append_right _ hb) (Nat.le_max_right _ _))
end
variable {A : Around} {E : Value → Shared → Prop} {s : Shared} {Q : Value → Shared → Prop}
theorem repr_rdx {v : Value} {d : PyData} (r : RdX s.heap v d) (hs : d.showable = true) (hg : A.guards = some []) (hu : A.units + (d.depth + 1) < cLine)
    (hQ : ∀ h' u tk, (∀ b o, s.heap.get? b = some o → h'.get? b = some o) → Q (.str d.shown u) { s with heap := h', toks := tk }) (hsz : d.shown.length ≤ sizeLine) : wpAny (model prog w) A (call (.builtin "repr") [v]) Q E s := by
  cases r with
  | none => simp only [PyData.shown] at hQ; exact P.repr_of_none (hQ s.heap _ _ fun _ _ e => e)
  | bool b => simp only [PyData.shown] at hQ; exact P.repr_of_bool (hQ s.heap _ _ fun _ _ e => e)
  | int i t => simp only [PyData.shown] at hQ; exact P.repr_of_int (by simpa [PyData.showable] using hs) (hQ s.heap _ _ fun _ _ e => e)
  | str x t => simp only [PyData.shown] at hQ hsz; exact P.repr_of_str (hQ s.heap _ _ fun _ _ e => e) hsz
  | @list a o vs n xs h1 h2 h3 h4 =>
    have hz' : (listText (PyData.shownAll xs)).length ≤ sizeLine := by simpa only [PyData.shown] using hsz
    obtain ⟨bs, hb, hk⟩ := RdXAll.reprK (prog := prog) (w := w) h4 (by simpa [PyData.showable] using hs) (fun t ht => Nat.le_trans (listText_mem_le ht) hz')
    obtain ⟨as, r⟩ := (RdX.list h1 h2 h3 h4).reads
    have hna : a ∉ bs := not_mem_of_deeper r (by simp only [PyData.depth]; omega) hb
    simp only [PyData.depth] at hu
    simp only [PyData.shown] at hQ
    obtain ⟨l⟩ := vs
    cases l with
    | nil =>
      have h4' : RdXAll s.heap [] xs := h4
      cases h4'
      simp only [PyData.shownAll, listText_nil] at hQ
      exact call_repr_slot (by omega) ⟨o, h1, h2⟩ F.slot_list_repr.toG (call_list_repr_empty ⟨o, h1, h2⟩ h1 h3 ⟨_, _, rfl, hQ s.heap _ _ fun _ _ e => e⟩)
    | cons x l =>
      exact call_repr_slot (by omega) ⟨o, h1, h2⟩ F.slot_list_repr.toG (call_list_reprK h1 h2 h3 hna (by simpa using hk.length_eq) (fun i y e => hk.item i y (by simpa using e)) hg (fun b _ => Clear.nil b) (by show A.units + 1 + _ < cLine; omega) (fun _ _ e => e) (fun h' u tk hk' => ⟨_, _, rfl, hQ h' u tk hk'⟩) hz')
  | @tuple a o vs n xs h1 h2 h3 h4 =>
    have hz' : (tupleText (PyData.shownAll xs)).length ≤ sizeLine := by simpa only [PyData.shown] using hsz
    obtain ⟨bs, hb, hk⟩ := RdXAll.reprK (prog := prog) (w := w) h4 (by simpa [PyData.showable] using hs) (fun t ht => Nat.le_trans (tupleText_mem_le ht) hz')
    obtain ⟨as, r⟩ := (RdX.tuple h1 h2 h3 h4).reads
    have hna : a ∉ bs := not_mem_of_deeper r (by simp only [PyData.depth]; omega) hb
    simp only [PyData.depth] at hu
    simp only [PyData.shown] at hQ
    exact call_repr_slot (by omega) ⟨o, h1, h2⟩ F.slot_tuple_repr (call_tuple_reprK h1 h2 h3 hna hk hg (fun b _ => Clear.nil b) (by show A.units + 1 + _ < cLine; omega) (fun _ _ e => e) (fun h' u tk hk' => ⟨_, _, rfl, hQ h' u tk hk'⟩) hz')
  | @dict a o es n kvs h1 h2 h3 hsys h4 h5 =>
    have hz' : (dictText (PyData.shownKv kvs)).length ≤ sizeLine := by simpa only [PyData.shown] using hsz
    obtain ⟨hs1, hs2⟩ := PyData.showableKv_split kvs (by simpa [PyData.showable] using hs)
    obtain ⟨b1, hb1, k1⟩ := RdXAll.reprK (prog := prog) (w := w) h4 hs1 (fun t ht => let ⟨p, hp, hl⟩ := PyData.shownKv_key_le kvs t ht; Nat.le_trans hl (Nat.le_trans (dictText_mem_le hp) hz'))
    obtain ⟨b2, hb2, k2⟩ := RdXAll.reprK (prog := prog) (w := w) h5 hs2 (fun t ht => let ⟨p, hp, hl⟩ := PyData.shownKv_val_le kvs t ht; Nat.le_trans hl (Nat.le_trans (dictText_mem_le hp) hz'))
    obtain ⟨as, r⟩ := (RdX.dict h1 h2 h3 hsys h4 h5).reads
    have hb : ReadAtMost s.heap (PyData.depthKv kvs) (b1 ++ b2) := (hb1.mono (PyData.depthAll_keys_le kvs)).append (hb2.mono (PyData.depthAll_vals_le kvs))
    have hna : a ∉ b1 ++ b2 := not_mem_of_deeper r (by simp only [PyData.depth]; omega) hb
    simp only [PyData.depth] at hu
    simp only [PyData.shown, PyData.shownKv_eq] at hQ
    exact call_repr_slot (by omega) ⟨o, h1, h2⟩ F.slot_dict_repr (call_dict_reprK h1 h2 h3 hsys hna (ReprEntriesK.of_two es.toList _ _
      (k1.more_le (fun b hb => List.mem_append_left _ hb) (PyData.depthAll_keys_le kvs)) (k2.more_le (fun b hb => List.mem_append_right _ hb) (PyData.depthAll_vals_le kvs))) hg (fun b _ => Clear.nil b) (by show A.units + 1 + _ < cLine; omega) (fun _ _ e => e) (fun h' u tk hk' => ⟨_, _, rfl, hQ h' u tk hk'⟩) (by rw [← PyData.shownKv_eq]; exact hz'))
end
end G6

namespace G6
open PySem PySem.Spec L2

/-! ### data is read -/
section
variable {X : Cx} {T : Tab} {pins : List (Addr × Obj)} {σ : L2.St} {H Hi : Hp} {s : Shared} {r : List Addr}
theorem rdx_keys {prog : Program} {w : World} {h : Heap} : ∀ {es : List DictEntry} {vs : List (Key × Value)} {kvs : List (Key × V)}, Pairs (mixKind prog w) es vs → KV kvs vs → RdXAll h (es.map (·.key)) (kvs.map fun kv => keyPy kv.1)
  | _, _, _, .nil, q => by cases q; exact .nil
  | _, _, _, .cons (e := e) (kv := kv) hk hv t, q => by
    cases q with
    | cons q1 q2 =>
      rename_i p kvs'
      refine .cons ?_ (rdx_keys t q2)
      have hk' : keyIs kv.1 e.key = true := hk
      show RdX h e.key (keyPy p.1)
      rw [q1.1]
      rcases keyIs_shape hk' with ⟨i, tk, e1, e2⟩ | ⟨x, tk, e1, e2⟩
      · rw [e1, e2]; exact .int i tk
      · rw [e1, e2]; exact .str x tk
theorem pairs_vals {prog : Program} {w : World} : ∀ {es : List DictEntry} {vs : List (Key × Value)}, Pairs (mixKind prog w) es vs → es.map (·.val) = vs.map (·.2)
  | _, _, .nil => rfl
  | _, _, .cons _ hv t => by rw [List.map_cons, List.map_cons, hv, pairs_vals t]
theorem kv_vals : ∀ {kvs : List (Key × V)} {vs : List (Key × Value)}, KV kvs vs → Vals (kvs.map (·.2)) (vs.map (·.2))
  | _, _, .nil => .nil
  | _, _, .cons h t => .cons h.2 (kv_vals t)
theorem zip_fst {α β : Type} : ∀ {as : List α} {bs : List β}, as.length = bs.length → (as.zip bs).map (·.1) = as ∧ (as.zip bs).map (·.2) = bs
  | [], [], _ => ⟨rfl, rfl⟩
  | a :: as, b :: bs, h => by
    obtain ⟨h1, h2⟩ := zip_fst (as := as) (bs := bs) (by simpa using h)
    exact ⟨by rw [List.zip_cons_cons, List.map_cons, h1], by rw [List.zip_cons_cons, List.map_cons, h2]⟩
mutual
theorem Rep.rdx (I : Inv X pins σ H s) (sub : ∀ a o, Hi a = some o → H a = some o) : ∀ {v : V} {d : D} {p : PyData} {u : Value}, Rep X.K T r Hi v d → D.py d = some p → RelV v u → RdX s.heap u p
  | _, _, _, _, .non, e, q => by cases e; cases q; exact .none
  | _, _, _, _, .bl b, e, q => by cases e; cases q; exact .bool b
  | _, _, _, _, .int i, e, q => by cases e; obtain ⟨t, rfl⟩ := q; exact .int i t
  | _, _, _, _, .str x, e, q => by cases e; obtain ⟨t, rfl⟩ := q; exact .str x t
  | _, _, _, _, .lst h a, e, q => by
    unfold D.py at e
    obtain ⟨ps, e1, e⟩ := Option.map_eq_some_iff.mp e
    cases e
    cases q
    obtain ⟨its, rv, ⟨o, n, ho, hc, _, hd⟩, _⟩ := I.list (L2.SqL.of (sub _ _ h))
    exact .list ho hc hd (RepAll.rdx I sub a e1 rv)
  | _, _, _, _, .tup h a, e, q => by
    unfold D.py at e
    obtain ⟨ps, e1, e⟩ := Option.map_eq_some_iff.mp e
    cases e
    cases q
    obtain ⟨its, rv, ⟨o, ho, hc, n, hd⟩, _⟩ := I.tuple (G6.SqT.mono sub h)
    exact .tuple ho hc hd (RepAll.rdx I sub a e1 rv)
  | _, _, _, _, .dic (kvs := kvs) h a, e, q => by
    unfold D.py at e
    obtain ⟨ps, e1, e⟩ := Option.map_eq_some_iff.mp e
    cases e
    cases q
    obtain ⟨_, hsys, vs, rk, o, es, ep, ho, hx, hd, _, pr, _⟩ := I.hok _ _ (sub _ _ h)
    have hl : ((kvs.map (·.1)).map keyPy).length = ps.length := by
      rw [List.length_map, List.length_map, D.pys_len e1, ← a.length, List.length_map]
    obtain ⟨z1, z2⟩ := zip_fst hl
    refine .dict ho hx.1 hd hsys ?_ ?_
    · rw [z1]
      have := rdx_keys (h := s.heap) pr rk
      rw [List.map_map]
      exact this
    · rw [z2, pairs_vals pr]
      exact RepAll.rdx I sub a e1 (kv_vals rk)
  | _, _, _, _, .dct _ _, e, _ => by cases e
  | _, _, _, _, .ins _ _ _, e, _ => by cases e
  | _, _, _, _, .obj _, e, _ => by cases e
  | _, _, _, _, .ty _, e, _ => by cases e
  | _, _, _, _, .fn _, e, _ => by cases e
  | _, _, _, _, .scr _, e, _ => by cases e
theorem RepAll.rdx (I : Inv X pins σ H s) (sub : ∀ a o, Hi a = some o → H a = some o) : ∀ {vs : List V} {ds : List D} {ps : List PyData} {us : List Value}, RepAll X.K T r Hi vs ds → D.pys ds = some ps → Vals vs us → RdXAll s.heap us ps
  | _, _, _, _, .nil, e, q => by cases e; cases q; exact .nil
  | _, _, _, _, .cons h t, e, q => by
    unfold D.pys at e
    obtain ⟨p, e1, e⟩ := Option.bind_eq_some_iff.mp e
    obtain ⟨ps, e2, e⟩ := Option.map_eq_some_iff.mp e
    cases e
    cases q with
    | cons q1 q2 => exact .cons (Rep.rdx I sub h e1 q1) (RepAll.rdx I sub t e2 q2)
end
end
/-! ### repr -/
def shows (p : PyData) : Bool := p.showable && decide (p.depth ≤ 60) && decide (p.shown.length ≤ sizeLine)
def dRepr : List D → Option D
  | [d] => (D.py d).bind fun p => if shows p = true then some (.str p.shown) else none
  | _ => none
def rRepr (K : PySem.W.Frag) (T : Tab) : List V → Hp → VK → Prop := fun xs H Q => ∃ v d p r Hi, xs = [v] ∧ (∀ a o, Hi a = some o → H a = some o) ∧ Rep K T r Hi v d ∧ D.py d = some p ∧ shows p = true ∧ Q (.str p.shown) H
section
variable {X : Cx} {T : Tab} {E : XE}
theorem call_repr (hg : X.A.guards = some []) (hu : X.A.units + 64 < cLine) : CallR X (.builtin "repr") (rRepr X.K T) := by
  intro pins s σ H xs us Q I rv h
  obtain ⟨v, d, p, r, Hi, rfl, sub, hr, e, hs, q⟩ := h
  obtain ⟨u, rfl, ru⟩ := vals1 rv
  unfold shows at hs
  rw [Bool.and_eq_true, Bool.and_eq_true, decide_eq_true_eq, decide_eq_true_eq] at hs
  exact repr_rdx (Rep.rdx I sub hr e ru) hs.1.1 hg (by have := hs.1.2; omega) (fun h' u' tk hk => ⟨.str _, H, I.kept hk, ⟨_, rfl⟩, q⟩) hs.2
theorem cs_repr : CallS X T (rRepr X.K T) dRepr := by
  intro E B r Hi H σ ls g vs ds x Q R p ex w
  cases p with
  | nil => cases ex
  | cons h t =>
    cases t with
    | cons _ _ => cases ex
    | nil =>
      unfold dRepr at ex
      dsimp only at ex
      obtain ⟨p, ep, ex⟩ := Option.bind_eq_some_iff.mp ex
      split at ex
      · cases ex
        exact ⟨_, _, p, r, Hi, rfl, R.sub, h, ep, by assumption, w.ret R .refl _ (.str _)⟩
      · cases ex
/-! ### max, min of ints in a list, a tuple -/
def maxI : List Int → Int
  | [] => 0
  | x :: xs => xs.foldl max x
def minI : List Int → Int
  | [] => 0
  | x :: xs => xs.foldl min x
def rExt (K : PySem.W.Frag) (f : List Int → Int) : List V → Hp → VK → Prop := fun vs H Q => ∃ (a : Addr) (ns : List Int), vs = [V.ref a] ∧ (SqL K H a (ns.map V.int) ∨ SqT K H a (ns.map V.int)) ∧ ns ≠ [] ∧ Q (.int (f ns)) H
theorem reads_ints {h : Heap} : ∀ {its : List Value} {ns : List Int}, Vals (ns.map V.int) its → ReadsAll h its (ns.map PyData.int) []
  | _, [], q => by cases q; exact .nil
  | _, n :: ns, q => by
    cases q with
    | cons q1 q2 =>
      obtain ⟨t, rfl⟩ := q1
      exact .cons (as := []) (.int n t) (reads_ints q2)
theorem depth_ints : ∀ ns : List Int, PyData.depthAll (ns.map PyData.int) = 0
  | [] => by simp [PyData.depthAll]
  | n :: ns => by simp [PyData.depthAll, PyData.depth, depth_ints ns]
theorem alike_ints (ns : List Int) : PySem.W.AlikeAll (ns.map PyData.int) := by
  refine ⟨fun x hx y hy => ?_, fun x hx => ?_⟩
  · obtain ⟨i, _, rfl⟩ := List.mem_map.mp hx
    obtain ⟨j, _, rfl⟩ := List.mem_map.mp hy
    first | rfl | simp [PySem.W.alike]
  · obtain ⟨i, _, rfl⟩ := List.mem_map.mp hx
    exact fun z => nomatch z
theorem cr_maxA (hc : X.calm = true) (hu : X.A.units + 64 < cLine) : CallR X (.builtin "max") (rExt X.K maxI) := by
  intro pins s σ H vs us Q I rv h
  obtain ⟨a, ns, rfl, hs, hne, q⟩ := h
  rw [Vals.ref1 rv]
  cases ns with
  | nil => exact absurd rfl hne
  | cons n ns =>
    have hd : X.A.units + 1 + PyData.depthAll (PyData.int n :: ns.map PyData.int) < cLine := by
      have := depth_ints (n :: ns)
      rw [List.map_cons] at this
      rw [this]; omega
    have fin : ∀ (i : Nat) v h' tk bs, Reads h' v (PySem.W.maxD (.int n) (ns.map PyData.int)) bs → (∀ b o, s.heap.get? b = some o → h'.get? b = some o) → EP X pins σ Q v { s with heap := h', toks := tk } := fun i v h' tk bs r hk => by
      rw [PySem.W.maxD_ints] at r
      cases r
      exact ⟨.int _, H, I.kept hk, ⟨_, rfl⟩, q⟩
    rcases hs with hs | hs
    · obtain ⟨its, rv, hl, _⟩ := I.list hs
      exact PySem.W.max_list_data (x := .int n) (xs := ns.map PyData.int) (I.ok.hd hc) hl.isList (by simpa using reads_ints rv) (alike_ints (n :: ns)) hd fun i v h' tk bs _ r hk => fin i v h' tk bs r hk
    · obtain ⟨its, rv, hl, _⟩ := I.tuple hs
      exact PySem.W.max_tuple_data (x := .int n) (xs := ns.map PyData.int) (I.ok.hd hc) hl (by simpa using reads_ints rv) (alike_ints (n :: ns)) hd fun i v h' tk bs _ r hk => fin i v h' tk bs r hk
theorem cr_minA (hc : X.calm = true) (hu : X.A.units + 64 < cLine) : CallR X (.builtin "min") (rExt X.K minI) := by
  intro pins s σ H vs us Q I rv h
  obtain ⟨a, ns, rfl, hs, hne, q⟩ := h
  rw [Vals.ref1 rv]
  cases ns with
  | nil => exact absurd rfl hne
  | cons n ns =>
    have hd : X.A.units + 1 + PyData.depthAll (PyData.int n :: ns.map PyData.int) < cLine := by
      have := depth_ints (n :: ns)
      rw [List.map_cons] at this
      rw [this]; omega
    have fin : ∀ (i : Nat) v h' tk bs, Reads h' v (PySem.W.minD (.int n) (ns.map PyData.int)) bs → (∀ b o, s.heap.get? b = some o → h'.get? b = some o) → EP X pins σ Q v { s with heap := h', toks := tk } := fun i v h' tk bs r hk => by
      rw [PySem.W.minD_ints] at r
      cases r
      exact ⟨.int _, H, I.kept hk, ⟨_, rfl⟩, q⟩
    rcases hs with hs | hs
    · obtain ⟨its, rv, hl, _⟩ := I.list hs
      exact PySem.W.min_list_data (x := .int n) (xs := ns.map PyData.int) (I.ok.hd hc) hl.isList (by simpa using reads_ints rv) (alike_ints (n :: ns)) hd fun i v h' tk bs _ r hk => fin i v h' tk bs r hk
    · obtain ⟨its, rv, hl, _⟩ := I.tuple hs
      exact PySem.W.min_tuple_data (x := .int n) (xs := ns.map PyData.int) (I.ok.hd hc) hl (by simpa using reads_ints rv) (alike_ints (n :: ns)) hd fun i v h' tk bs _ r hk => fin i v h' tk bs r hk
def dExt (f : List Int → Int) : List D → Option D
  | [.lst ds] => (asInts ds).bind fun ns => if ns ≠ [] then some (.int (f ns)) else none
  | [.tup ds] => (asInts ds).bind fun ns => if ns ≠ [] then some (.int (f ns)) else none
  | _ => none
theorem cs_ext {f : List Int → Int} : CallS X T (rExt X.K f) (dExt f) := by
  intro E B r Hi H σ ls g vs ds x Q R p ex w
  cases p with
  | nil => cases ex
  | cons h t =>
    cases t with
    | cons _ _ => cases h <;> cases ex
    | nil =>
      cases h with
      | lst h1 a1 =>
        obtain ⟨ns, e1, e2⟩ := Option.bind_eq_some_iff.mp ex
        split at e2
        · cases e2
          rw [asInts_eq e1] at a1
          have := a1.ofInts
          subst this
          exact ⟨_, ns, rfl, .inl (L2.SqL.of (R.sub _ _ h1)), by assumption, w.ret R .refl _ (.int _)⟩
        · cases e2
      | tup h1 a1 =>
        obtain ⟨ns, e1, e2⟩ := Option.bind_eq_some_iff.mp ex
        split at e2
        · cases e2
          rw [asInts_eq e1] at a1
          have := a1.ofInts
          subst this
          exact ⟨_, ns, rfl, .inr (G6.SqT.mono R.sub h1), by assumption, w.ret R .refl _ (.int _)⟩
        · cases e2
      | _ => cases ex
end
end G6

namespace G6
open PySem PySem.Spec L2

/-! ### dicts -/
section
variable {κ : Type} [DecidableEq κ]
def dLook : List (κ × D) → κ → Option D
  | [], _ => none
  | (k', d) :: r, k => if k' = k then some d else dLook r k
def dRep : List (κ × D) → κ → D → List (κ × D)
  | [], _, _ => []
  | (k', e) :: r, k, d => (k', if k' = k then d else e) :: dRep r k d
def dPut (kds : List (κ × D)) (k : κ) (d : D) : List (κ × D) := if (dLook kds k).isSome = true then dRep kds k d else kds ++ [(k, d)]
def dMerge (kds more : List (κ × D)) : List (κ × D) := more.foldl (fun acc kd => dPut acc kd.1 kd.2) kds
variable {K : PySem.W.Frag} {T : Tab} {r : List Addr} {Hi : Hp}
theorem PRep.look {k : κ} : ∀ {vs : List (κ × V)} {ds : List (κ × D)}, PRep K T r Hi vs ds → (∀ d, dLook ds k = some d → ∃ v, valV vs k = some v ∧ Rep K T r Hi v d) ∧ (dLook ds k = none → valV vs k = none)
  | _, _, .nil => ⟨fun d h => (by cases h), fun _ => rfl⟩
  | _, _, .cons (k := k') h t => by
    obtain ⟨h1, h2⟩ := PRep.look (k := k) t
    by_cases e : k' = k
    · refine ⟨fun d q => ?_, fun q => ?_⟩
      · rw [dLook, if_pos e] at q
        cases q
        exact ⟨_, valV_pos e, h⟩
      · rw [dLook, if_pos e] at q
        cases q
    · refine ⟨fun d q => ?_, fun q => ?_⟩
      · rw [dLook, if_neg e] at q
        rw [valV_neg (p := (k', _)) e]
        exact h1 d q
      · rw [dLook, if_neg e] at q
        rw [valV_neg (p := (k', _)) e]
        exact h2 q
theorem PRep.any {k : κ} {vs : List (κ × V)} {ds : List (κ × D)} (p : PRep K T r Hi vs ds) : (vs.any fun kv => decide (kv.1 = k)) = (dLook ds k).isSome := by
  rw [valV_any]
  cases e : dLook ds k with
  | none => rw [p.look.2 e]; rfl
  | some d => obtain ⟨v, q, _⟩ := p.look.1 d e; rw [q]; rfl
theorem PRep.app {vs ws : List (κ × V)} {ds es : List (κ × D)} (p : PRep K T r Hi vs ds) (q : PRep K T r Hi ws es) : PRep K T r Hi (vs ++ ws) (ds ++ es) := by
  induction p with
  | nil => exact q
  | cons h _ ih => exact .cons h ih
theorem PRep.put {k : κ} {v : V} {d : D} {vs : List (κ × V)} {ds : List (κ × D)} (p : PRep K T r Hi vs ds) (h : Rep K T r Hi v d) : PRep K T r Hi (putK vs k v) (dPut ds k d) := by
  unfold putK dPut
  rw [p.any]
  have rep : PRep K T r Hi (vs.map fun kv => if kv.1 = k then (kv.1, v) else kv) (dRep ds k d) := by
    induction p with
    | nil => exact .nil
    | @cons k' v' d' vs' ds' q _ ih =>
      rw [List.map_cons, dRep]
      by_cases e : k' = k
      · rw [if_pos e, if_pos e]; exact .cons h ih
      · rw [if_neg e, if_neg e]; exact .cons q ih
  split
  · exact rep
  · exact p.app (.cons h .nil)
end
theorem PRep.merge {K : PySem.W.Frag} {T : Tab} {r : List Addr} {Hi : Hp} {more : List (Key × V)} {mds : List (Key × D)} (q : PRep K T r Hi more mds) : ∀ {vs : List (Key × V)} {ds : List (Key × D)}, PRep K T r Hi vs ds → PRep K T r Hi (mergeK vs more) (dMerge ds mds) := by
  induction q with
  | nil => exact fun p => p
  | cons h _ ih => exact fun p => ih (p.put h)
def dKey : D → Option Key
  | .int i => some (.inl i)
  | .str x => some (.inr x)
  | _ => none
theorem Rep.key {K : PySem.W.Frag} {T : Tab} {r : List Addr} {Hi : Hp} {v : V} {d : D} {k : Key} (h : Rep K T r Hi v d) (e : dKey d = some k) : v = kV k := by
  cases h <;> cases e <;> rfl
/-- a shared dict's entries -/
def soDic (g : Gs) (d : D) : Option (Nat × List (Key × D)) := match d with
  | .obj n => match g[n]? with
    | some (.dic kds) => some (n, kds)
    | _ => none
  | _ => none
theorem soDic_some {g : Gs} {d : D} {n : Nat} {kds : List (Key × D)} (h : soDic g d = some (n, kds)) : d = .obj n ∧ g[n]? = some (.dic kds) := by
  unfold soDic at h
  split at h
  · split at h
    · rename_i e
      cases h
      exact ⟨rfl, e⟩
    · cases h
  · cases h
def mGet (o k : D) : M D := fun g => M.opt ((soDic g o).bind fun p => (dKey k).bind fun key => dLook p.2 key) g
def mPut (o k d : D) : M Unit := fun g => match soDic g o, dKey k with
  | some (n, kds), some key => if kds.length < sizeLine then some (.ok (), g.set n (.dic (dPut kds key d))) else none
  | _, _ => none
theorem Rel.dic {K : PySem.W.Frag} {T : Tab} {B : Base} {r : List Addr} {Hi H : Hp} {σ : L2.St} {ls : Ls} {g : Gs} {v : V} {n : Nat} {kds : List (Key × D)} (R : Rel K T B r Hi H σ ls g) (p : Rep K T r Hi v (.obj n)) (e : g[n]? = some (.dic kds)) :
    ∃ a kvs, v = .ref a ∧ r[n]? = some a ∧ H a = some (.dK kvs) ∧ PRep K T r Hi kvs kds := by
  cases p with
  | obj hr =>
    obtain ⟨a, ho, q1, q2, q3, _⟩ := R.sto n _ e
    rw [hr] at q1
    cases q1
    cases q3 with
    | dic pr => exact ⟨_, _, rfl, hr, q2, pr⟩
section
variable {X : Cx} {T : Tab} {E : XE} {o i e : Expr} {pos pos' : Pos} {fo fk fv : Ls → M D}
def fGet (fo fk : Ls → M D) : Ls → M D := fun ls => M.bind (fo ls) fun o => M.bind (fk ls) fun k => mGet o k
theorem fe_get (hu : X.A.units + 1 < cLine) (ho : FE X T E o fo) (hi : FE X T E i fk) (hs : NoSl i) : FE X T E (.Subscript o i pos) (fGet fo fk) :=
  (pe_dget hu ho hi hs).imp fun σ H Q ⟨B, r, Hi, ls, g, R, w⟩ => ⟨B, r, Hi, ls, g, R, w.bind.mono fun d r1 Hi1 H1 g1 R1 G1 w1 v p1 => ⟨B, r1, Hi1, ls, g1, R1, w1.bind.mono fun k r2 Hi2 H2 g2 R2 G2 w2 y p2 => by
    obtain ⟨x, ex0, w3⟩ := WpG.opt w2
    obtain ⟨⟨n, kds⟩, e1, ex1⟩ := Option.bind_eq_some_iff.mp ex0
    obtain ⟨key, e2, ex⟩ := Option.bind_eq_some_iff.mp ex1
    obtain ⟨rfl, e3⟩ := soDic_some e1
    obtain ⟨a, kvs, rfl, _, h1, pr⟩ := R2.dic (p1.mono G2) e3
    obtain ⟨z, h2, p3⟩ := pr.look.1 x ex
    have hy := p2.key e2
    subst hy
    refine ⟨a, z, rfl, ?_, w3.ret R2 .refl _ p3⟩
    have := DGet.k (k := key) h1
    rw [h2] at this
    exact this⟩⟩
/-- o[i] = e -/
def sPut (fo fk fv : Ls → M D) : S := sB (fun ls => M.bind (fv ls) fun d => M.bind (fo ls) fun o => M.bind (fk ls) fun k => mPut o k d) fun _ ls g => some (.nx ls, g)
theorem fs_put (hu : X.A.units + 1 < cLine) (ho : FE X T E o fo) (hi : FE X T E i fk) (hv : FE X T E e fv) (hs : swapsWith e (some (.Subscript o i pos')) pos.line X.env = pure false := by rfl) : FS X T E (.Assign [.Subscript o i pos'] e pos) (sPut fo fk fv) :=
  (ps_dput hu ho hi hv hs).imp fun De σ H ⟨B, r, Hi, ls, g, R, w⟩ => by
    have w0 := w.bind (σ := σ)
    refine ⟨B, r, Hi, ls, g, R, w0.bind.mono fun d r1 Hi1 H1 g1 R1 G1 w1 v p1 => ⟨B, r1, Hi1, ls, g1, R1, w1.bind.mono fun o r2 Hi2 H2 g2 R2 G2 w2 u p2 => ⟨B, r2, Hi2, ls, g2, R2, w2.bind.mono fun k r3 Hi3 H3 g3 R3 G3 w3 y p3 => ?_⟩⟩⟩
    unfold mPut WpG at w3
    cases e1 : soDic g3 o with
    | none => rw [e1] at w3; exact False.elim w3
    | some p =>
      obtain ⟨n, kds⟩ := p
      rw [e1] at w3
      cases e2 : dKey k with
      | none => rw [e2] at w3; exact False.elim w3
      | some key =>
        rw [e2] at w3
        dsimp only at w3
        by_cases hz : kds.length < sizeLine
        · rw [if_pos hz] at w3
          obtain ⟨rfl, e3⟩ := soDic_some e1
          obtain ⟨a, kvs, rfl, hr, h1, pr⟩ := R3.dic (p2.mono G3) e3
          have hy := p3.key e2
          subst hy
          have R4 := R3.updS hr (.dic (pr.put (k := key) ((p1.mono G2).mono G3)))
          exact ⟨a, _, rfl, DPut.k h1 (by rw [pr.len]; exact hz), w3 r3 Hi3 _ R4 .refl _ _ _ _ R4 .refl⟩
        · rw [if_neg hz] at w3; exact False.elim w3
/-! a display -/
def tP (K : PySem.W.Frag) (T : Tab) (E : XE) (fs : List ((Ls → M D) × (Ls → M D))) : List (TE × TE) := fs.map fun p => (tF K T E p.1, tF K T E p.2)
abbrev FP (X : Cx) (T : Tab) (E : XE) (pos : Pos) (keys : List (Option Expr)) (values : List Expr) (fs : List ((Ls → M D) × (Ls → M D))) : Prop := PPs X pos keys values (tP X.K T E fs)
theorem fp_nil : FP X T E pos [] [] [] := pps_nil
theorem fp_cons {k v : Expr} {ks : List (Option Expr)} {vs : List Expr} {fs : List ((Ls → M D) × (Ls → M D))} (hk : FE X T E k fk) (hv : FE X T E v fv) (hr : FP X T E pos ks vs fs) : FP X T E pos (some k :: ks) (v :: vs) ((fk, fv) :: fs) := pps_cons hk hv hr
def lPairs : List ((Ls → M D) × (Ls → M D)) → Ls → M (List (Key × D))
  | [], _ => M.ret []
  | (fk, fv) :: r, ls => M.bind (fk ls) fun k => M.bind (M.opt (dKey k)) fun key => M.bind (fv ls) fun v => M.bind (lPairs r ls) fun ps => M.ret ((key, v) :: ps)
theorem pairs_imp {K : PySem.W.Frag} {σ : L2.St} {B : Base} {ls : Ls} : ∀ {fs : List ((Ls → M D) × (Ls → M D))} {H : Hp} {r : List Addr} {Hi : Hp} {g : Gs} {Q : List (V × V) → Hp → Prop}, Rel K T B r Hi H σ ls g →
    WpG K T E B σ ls r Hi (lPairs fs ls g) (fun kds r' Hi' H' g' => ∀ kvs : List (Key × V), PRep K T r' Hi' kvs kds → Q (kvs.map fun kv => (kV kv.1, kv.2)) H') → tPairs (tP K T E fs) σ H Q
  | [], H, r, Hi, g, Q, R, w => w.ret R .refl [] .nil
  | (fk, fv) :: fs, H, r, Hi, g, Q, R, w => ⟨B, r, Hi, ls, g, R, w.bind.mono fun k r1 Hi1 H1 g1 R1 G1 w1 x p1 => by
      obtain ⟨key, ek, w2⟩ := w1.bind.opt
      have w3 := w2.ret R1 .refl
      have hx := p1.key ek
      subst hx
      refine ⟨B, r1, Hi1, ls, g1, R1, w3.bind.mono fun v r2 Hi2 H2 g2 R2 G2 w4 y p2 => ?_⟩
      exact pairs_imp R2 (w4.bind.mono fun ps r3 Hi3 H3 g3 R3 G3 w5 kvs p3 => w5.ret R3 .refl ((key, y) :: kvs) (.cons (p2.mono G3) p3))⟩
/-- the object of a display, behind its pairs -/
theorem disp_imp {K : PySem.W.Frag} {σ : L2.St} {B : Base} {ls : Ls} {fs : List ((Ls → M D) × (Ls → M D))} {H : Hp} {r : List Addr} {Hi : Hp} {g : Gs} {Q : VK} (R : Rel K T B r Hi H σ ls g) (h15 : fs.length ≤ 15)
    (w : WpG K T E B σ ls r Hi (lPairs fs ls g) (fun kds r' Hi' H' g' => ∀ p H2 kvs, Rel K T B r' Hi' H2 σ ls g' → Loose B r' Hi' H2 σ ls p → H2 p = some (.dK kvs) → PRep K T r' Hi' kvs (dMerge [] kds) → Q (.ref p) H2)) :
    tDisp (tP K T E fs) σ H Q := by
  intro p hp
  have l := R.loose hp
  have R0 : Rel K T B r Hi (upd H p (.dK [])) σ ls g := R.junk hp
  have hp0 : upd H p (HO.dK []) p = some (.dK []) := upd_same
  have nf : ¬ (Base.all (upd H p (.dK [])) r Hi σ ls).f0 p := fun z => z.elim l.hr l.ho
  have stay : ∀ {r1 : List Addr} {Hi1 H1 : Hp} {g1 : Gs}, Rel K T (Base.all (upd H p (.dK [])) r Hi σ ls) r1 Hi1 H1 σ ls g1 → H1 p = some (.dK []) ∧ Loose B r1 Hi1 H1 σ ls p := fun {r1 Hi1 H1 g1} R1 => by
    refine ⟨R1.keep p _ hp0 nf, ⟨?_, fun z => ?_, l.ho, l.hb⟩⟩
    · cases e : Hi1 p with
      | none => rfl
      | some u =>
        rcases R1.newI p (by rw [e]; simp) with z | z | z
        · exact absurd l.hi z
        · exact absurd z nf
        · rw [show (Base.all (upd H p (.dK [])) r Hi σ ls).H0 p = upd H p (HO.dK []) p from rfl, hp0] at z; cases z
    · rcases R1.newR p z with z | z
      · exact nf z
      · rw [show (Base.all (upd H p (.dK [])) r Hi σ ls).H0 p = upd H p (HO.dK []) p from rfl, hp0] at z; cases z
  refine pairs_imp (B := Base.all (upd H p (.dK [])) r Hi σ ls) R0.all ?_
  -- the same run, held to this state
  unfold WpG at w ⊢
  cases e : lPairs fs ls g with
  | none => rw [e] at w; exact w
  | some q =>
    obtain ⟨a, g'⟩ := q
    rw [e] at w
    cases a with
    | error x => exact fun r1 Hi1 H1 c dx R1 G1 z => w r1 Hi1 H1 c dx (R0.thru R1) G1 z
    | ok kds =>
      intro r1 Hi1 H1 R1 G1 kvs pr
      obtain ⟨s1, s2⟩ := stay R1
      have hl : kvs.length ≤ 15 := by
        rw [pr.len]
        have : ∀ (fs : List ((Ls → M D) × (Ls → M D))) (g g' : Gs) (kds : List (Key × D)), lPairs fs ls g = some (.ok kds, g') → kds.length = fs.length := by
          intro fs
          induction fs with
          | nil => intro g g' kds h; cases h; rfl
          | cons f fs ih =>
            intro g g' kds h
            obtain ⟨fk, fv⟩ := f
            unfold lPairs at h
            obtain ⟨k, g1, _, h1⟩ := M.bind_ok h
            obtain ⟨key, g2, _, h2⟩ := M.bind_ok h1
            obtain ⟨v, g3, _, h3⟩ := M.bind_ok h2
            obtain ⟨ps, g4, h4, h5⟩ := M.bind_ok h3
            cases h5
            rw [List.length_cons, List.length_cons, ih _ _ _ h4]
        rw [this fs g g' kds e]
        exact h15
      have Rb := R0.thru R1
      exact ⟨s1, kvs, rfl, hl, w r1 Hi1 H1 Rb G1 p _ (mergeK [] kvs) (Rb.upJ s2) ⟨s2.hi, s2.hr, s2.ho, s2.hb⟩ upd_same (PRep.merge pr .nil)⟩
/-- an object of nobody's becomes a shared one -/
theorem Rel.addS {K : PySem.W.Frag} {σ : L2.St} {B : Base} {ls : Ls} {H : Hp} {r : List Addr} {Hi : Hp} {g : Gs} {p : Addr} {ho : HO} {so : SO} (h : Rel K T B r Hi H σ ls g) (l : Loose B r Hi H σ ls p) (hp : H p = some ho) (q : SORel K T r Hi ho so) :
    Rel K T B (r ++ [p]) Hi H σ ls (g ++ [so]) ∧ Ge r Hi (r ++ [p]) Hi := by
  have ge : Ge r Hi (r ++ [p]) Hi := ⟨⟨[p], rfl⟩, fun _ _ e => e⟩
  refine ⟨⟨h.sub, h.len, fun i d e => ?_, fun j u e => ?_, h.sep, by simp [h.rlen], ?_, fun m s e => ?_, h.i0, h.keep, h.dom, h.newO, fun a e => ?_, h.newI⟩, ge⟩
  · obtain ⟨v, p1, p2⟩ := h.loc i d e
    exact ⟨v, p1, p2.mono ge⟩
  · obtain ⟨a, h2, p1, p2, p3, p4, p5⟩ := h.own j u e
    refine ⟨a, h2, p1, p2, p3.mono ge, p4, fun z => ?_⟩
    rcases List.mem_append.mp z with z | z
    · exact p5 z
    · exact l.ho ⟨j, u, e, by rw [← List.mem_singleton.mp z]; exact p1⟩
  · rw [List.nodup_append]
    refine ⟨h.rnd, by simp, fun a ha b hb e => ?_⟩
    rw [List.mem_singleton.mp hb] at e
    exact l.hr (e ▸ ha)
  · by_cases z : m < g.length
    · rw [List.getElem?_append_left z] at e
      obtain ⟨a, h2, p1, p2, p3, p4⟩ := h.sto m s e
      exact ⟨a, h2, ge.at p1, p2, p3.mono ge, p4⟩
    · rw [List.getElem?_append_right (by omega)] at e
      have hm : m - g.length = 0 := by
        cases k : m - g.length with
        | zero => rfl
        | succ k' => rw [k] at e; simp at e
      rw [hm] at e
      cases e
      refine ⟨p, ho, ?_, hp, q.mono ge, l.hi⟩
      rw [List.getElem?_append_right (by rw [h.rlen]; omega), h.rlen, hm]
      rfl
  · rcases List.mem_append.mp e with z | z
    · exact h.newR a z
    · rw [List.mem_singleton.mp z]; exact l.hb
/-- {k: v, ..} as a shared object -/
def fDispS (fs : List ((Ls → M D) × (Ls → M D))) : Ls → M D := fun ls => M.bind (lPairs fs ls) fun kds => fun g => some (.ok (.obj g.length), g ++ [.dic (dMerge [] kds)])
theorem fe_dispS {keys : List (Option Expr)} {values : List Expr} {fs : List ((Ls → M D) × (Ls → M D))} (h : FP X T E pos keys values fs) (hall : keys.all (·.isSome) = true := by rfl) (hl : keys.length = values.length := by rfl) (h0 : keys ≠ [] := by intro z; cases z) (h15 : keys.length ≤ 15 := by decide) (h16 : fs.length ≤ 15 := by decide) :
    FE X T E (.Dict keys values pos) (fDispS fs) :=
  (pe_disp h hall hl h0 h15).imp fun σ H Q ⟨B, r, Hi, ls, g, R, w⟩ => disp_imp R h16 (w.bind.mono fun kds r1 Hi1 H1 g1 R1 G1 w1 p H2 kvs R2 l2 hp pr => by
    obtain ⟨R3, G3⟩ := Rel.addS R2 l2 hp (.dic pr)
    exact w1 _ Hi1 H2 R3 G3 _ (.obj (by
      rw [List.getElem?_append_right (by rw [R2.rlen]; exact Nat.le_refl _), R2.rlen, Nat.sub_self]
      rfl)))
/-- .. as an object of one's own -/
def foDisp (fs : List ((Ls → M D) × (Ls → M D))) : Ls → M OV := fun ls => M.bind (lPairs fs ls) fun kds => M.ret (.dic (dMerge [] kds))
theorem feo_disp {keys : List (Option Expr)} {values : List Expr} {fs : List ((Ls → M D) × (Ls → M D))} (h : FP X T E pos keys values fs) (hall : keys.all (·.isSome) = true := by rfl) (hl : keys.length = values.length := by rfl) (h0 : keys ≠ [] := by intro z; cases z) (h15 : keys.length ≤ 15 := by decide) (h16 : fs.length ≤ 15 := by decide) :
    FEO X T E (.Dict keys values pos) (foDisp fs) :=
  (pe_disp h hall hl h0 h15).imp fun σ H Q ⟨B, r, Hi, ls, g, R, w⟩ => disp_imp R h16 (w.bind.mono fun kds r1 Hi1 H1 g1 R1 G1 w1 p H2 kvs R2 l2 hp pr => w1.ret R1 .refl p _ H2 R2 l2 hp (.dic pr))
/-- {} -/
def foDisp0 : Ls → M OV := fun _ => M.ret (.dic [])
theorem feo_disp0 : FEO X T E (.Dict [] [] pos) foDisp0 := pe_dnewK.imp fun σ H Q ⟨B, r, Hi, ls, g, R, w⟩ => po_new R (.dic .nil) w
end
end G6

namespace G6
open PySem PySem.Spec L2 PyProof.Rows

/-! ### the law's call -/
theorem rel_zero {K : PySem.W.Frag} {T : Tab} (H : Hp) : Rel K T (Base.at H [] H) [] H H [] [] [] where
  sub := fun _ _ e => e
  len := rfl
  loc := fun i d e => by simp at e
  own := fun i o e => by simp at e
  sep := fun i j oi oj a e => by simp at e
  rlen := rfl
  rnd := List.nodup_nil
  sto := fun n so e => by simp at e
  i0 := fun _ _ e => e
  keep := fun _ _ e _ => e
  dom := fun _ e => e
  newO := fun a ⟨i, o, e, _⟩ => by simp at e
  newR := fun a e => by cases e
  newI := fun a e => .inl e
theorem rel_true {K : PySem.W.Frag} {T : Tab} {B : Base} {r : List Addr} {Hi H : Hp} {v : V} (q : RVRel K T B r Hi H v (.dat (.bl true))) : v = .bl true := by
  have q' : Rep K T r Hi v (.bl true) := q
  cases q'
  rfl
theorem lawG {P : Program} {w : World} {K : PySem.W.Frag} {T : Tab} {mg mb : Str → Option Value} {k : Nat} {fa a : Addr} {fd : FuncData} {x : Str} {Fl : Fn} {s₁ : Shared} {vs : List Value} {ns : List Int}
    (KX : K.In s₁.heap) (hns : s₁.heap.Ns mainGlobals mg) (hb : s₁.heap.Ns builtinsNs mb) (hbb : ∀ x : Str, x ≠ "__name__" → mb x = bootBuiltins x) (hlim : s₁.heap.NoLimit) (hg : s₁.gens = #[])
    (ha : s₁.heap.get? a = some { cls := .type "list", data := .seq vs.toArray }) (hi : IntsAre vs ns) (hl : ns.length ≤ sizeLine) (hr : Room k callerA)
    (F : ∀ base : Heap, K.In base → base.Ns mainGlobals mg → FnG P w K mg base k fa fd [x] (spF K T 1 Fl)) (hbind : ∀ (s : Shared) (u : Value), BindsTo s fd ⟨[u], []⟩ [(x, u)])
    (hF : ∃ g', Fl [.scr ns] [] = some (.ok (.dat (.bl true)), g')) :
    codeAny (model P w) callerA (.call (.ref fa) ⟨[.ref a], []⟩) (fun r s' => r = .ok (.ret (.bool true)) ∧ OldK s₁.heap s'.heap ∧ s'.os = s₁.os ∧ AllBare s'.gens) s₁ := by
  have rv := vals_ints hi
  have lenV := hi.length
  have core : ∀ H : Hp, Only H → SqL K H a (ns.map V.int) → HOk P w H s₁.heap → (∀ b, H b ≠ none → b = a) → (H a ≠ none → K.lookup a = none) →
      codeAny (model P w) callerA (.call (.ref fa) ⟨[.ref a], []⟩) (fun r s' => r = .ok (.ret (.bool true)) ∧ OldK s₁.heap s'.heap ∧ s'.os = s₁.os ∧ AllBare s'.gens) s₁ := by
    intro H hO hS hok hA hK
    have only : ∀ {b : Addr} {u : HO}, H b = some u → b = a := fun e => hA _ (by rw [e]; exact Option.some_ne_none _)
    have noK : ∀ {b : Addr} {o : Obj}, K.lookup b = some o → H b = none := fun {b o} e => by
      cases q : H b with
      | none => rfl
      | some u =>
        obtain rfl := only q
        rw [hK (by rw [q]; exact Option.some_ne_none _)] at e
        cases e
    have noD : ∀ {b : Addr} {o : Obj} {es : Array DictEntry} {ep : Nat}, s₁.heap.get? b = some o → o.data = .dict es ep → H b = none := fun {b o es ep} e d => by
      cases q : H b with
      | none => rfl
      | some u =>
        obtain rfl := only q
        rw [ha] at e
        cases e
        exact nomatch (show Data.seq vs.toArray _ = Data.dict es ep from d)
    have nsK : ∀ {b : Addr} {m : Str → Option Value}, s₁.heap.Ns b m → (hidT s₁.heap H).Ns b m := fun {b m} ⟨o, es, ep, e, d, r⟩ => ⟨o, es, ep, hidT_get e (noD e d), d, r⟩
    have hKb : K.In (hidT s₁.heap H) := fun b o e => hidT_get (KX b o e) (noK e)
    have hM : Mod K mg (hidT s₁.heap H) := ⟨hKb, nsK hns, ⟨mb, nsK hb, hbb⟩, let ⟨mc, h1, h2⟩ := hlim; ⟨mc, nsK h1, h2⟩⟩
    have e0 : Env0 P w K mg (hidT s₁.heap H) callerA [] s₁ H := ⟨rfl, hM, fun b o e => of_hidT e, Nat.le_of_eq (hidT_size _ _), trivial, fun b hb => (List.not_mem_nil hb).elim, hok, .of_eq hg⟩
    have sp : spF K T 1 Fl [.ref a] H (fun v _ => v = .bl true) (fun _ _ _ => False) := by
      obtain ⟨g', hg'⟩ := hF
      refine ⟨[], H, [], [.scr ns], rel_zero H, .cons (.scr hS) .nil, rfl, ?_⟩
      rw [hg']
      exact fun r' Hi' H' R' G' v q => rel_true q
    refine codeAny_mono ((F _ hKb (nsK hns)).run callerA [] s₁ H ⟨[.ref a], []⟩ [.ref a] [.ref a] _ _ hr rfl e0 (hbind s₁ (.ref a)) (.cons rfl .nil) sp) fun r s' h => ?_
    cases r with
    | error e =>
      obtain ⟨_, _, _, _, _, _, _, _, _, _, _, _, z⟩ := (show L2.CX P w [] H s₁ (fun _ _ _ => False) e s' from h)
      exact (z : False).elim
    | ok fl =>
      cases fl with
      | ret u =>
        obtain ⟨v, H', os, bare, un, hok', r', q⟩ := h
        have q' : v = .bl true := q
        subst q'
        obtain rfl : u = Value.bool true := r'
        refine ⟨rfl, OldK.of_keep fun b o e => ?_, os, bare⟩
        cases q : H b with
        | none => exact un.keep b o e q (fun z => (List.not_mem_nil (show b ∈ ([] : List Addr) from z)).elim) (by simp)
        | some u =>
          obtain z | ⟨ob, xs, z⟩ := hO b
          · exact nomatch q.symm.trans z
          · have g1 := (hok b _ z).1
            have g2 := (hok' b _ (un.frzs b ob _ z)).1
            rw [e] at g1
            cases g1
            exact g2
      | next => exact False.elim h
      | brk => exact False.elim h
      | cont => exact False.elim h
  cases hk : K.lookup a with
  | some o =>
    have e := KX a o hk
    rw [ha] at e
    cases e
    exact core (fun _ => none) (fun _ => .inl rfl) (.inr ⟨_, vs.toArray, _, hk, rfl, rfl, rfl, by rw [List.size_toArray, lenV]; exact hl, rv⟩) (fun b u z => nomatch (show (none : Option HO) = some u from z)) (fun b z => (z rfl).elim) fun z => (z rfl).elim
  | none =>
    have at1 : ∀ {b : Addr}, b = a → (if b = a then some (HO.frz { cls := .type "list", data := .seq vs.toArray } (.lst (ns.map V.int))) else none) = some (HO.frz { cls := .type "list", data := .seq vs.toArray } (.lst (ns.map V.int))) := fun e => if_pos e
    refine core (fun b => if b = a then some (.frz { cls := .type "list", data := .seq vs.toArray } (.lst (ns.map V.int))) else none) (fun b => ?_) (.inl (.inr ⟨_, at1 rfl⟩)) (fun b u z => ?_) (fun b z => ?_) fun _ => hk
    · exact (Decidable.em (b = a)).elim (fun e => .inr ⟨_, _, at1 e⟩) fun e => .inl (if_neg e)
    · by_cases e : b = a
      · subst e
        cases (at1 rfl).symm.trans z
        exact ⟨ha, by rw [List.length_map]; exact hl, vs, _, rv, ha⟩
      · exact nomatch (if_neg e).symm.trans z
    · exact Decidable.byContradiction fun e => z (if_neg e)
theorem walkG {l : PySem.W.OpenLaw} {n k : Nat} {q : Program} {loose : List Str} {XP : (Str → Option Value) → Heap → Prop} {YP : World → Heap → Prop} {d : DefRec} {K : Params → PySem.W.Frag} {x : Str} {Fl : Fn}
    (hn : l.most = some n) (hn2 : n ≤ sizeLine) (hdf : d.params.defaults = []) (hr : Room k callerA) (hY : ∀ (w : World) (h : Heap), YP w h → (K w.params).In h)
    (F : ∀ (w : World) (mg : Str → Option Value) (fa : Addr) (h : Heap), (K w.params).In h → h.Ns mainGlobals mg → mg d.name = some (.ref fa) →
      ∃ (fd : FuncData) (T : Tab), (∀ (s : Shared) (u : Value), BindsTo s fd ⟨[u], []⟩ [(x, u)]) ∧ ∀ base : Heap, (K w.params).In base → base.Ns mainGlobals mg → FnG l.prog w (K w.params) mg base k fa fd [x] (spF (K w.params) T 1 Fl))
    (hF : ∀ ns : List Int, ns.length ≤ n → (∀ z ∈ ns, Builtin.Int.intBits z ≤ 1048576) → ∃ g', Fl [.scr ns] [] = some (.ok (.dat (.bl true)), g')) :
    PySem.W.WalkO q loose XP YP l.row.toRowW d [] (fun f vs => PySem.call f vs) := by
  refine Att.attach_callB hn hdf fun w s₀ s₁ mg mb fa o pm cd doc a vs ns G Y ho hd hcd hmg hobj hints hlen hbits hg => ?_
  have KX := hY w _ Y
  obtain ⟨fd, T, hb, hFn⟩ := F w mg fa _ KX G.T.g hmg
  exact lawG KX G.T.g G.T.b G.T.builtins G.T.nolimit hg hobj hints (Nat.le_trans hlen hn2) hr hFn hb (hF ns hlen hbits)
end G6

namespace G6
open PySem PySem.Spec L2
open PyProof.Rows (envOfC)

/-! ### rules in short -/
def LL (n : Nat) (l : Ls → M (List D)) : Prop := ∀ (ls : Ls) (g : Gs) (ds : List D) (g' : Gs), l ls g = some (.ok ds, g') → ds.length = n
theorem ll_nil : LL 0 lNil := fun ls g ds g' h => by cases h; rfl
theorem ll_cons {n : Nat} {f : Ls → M D} {l : Ls → M (List D)} (h : LL n l) : LL (n + 1) (lCons f l) := fun ls g ds g' q => by
  unfold lCons at q
  obtain ⟨d, g1, _, q⟩ := M.bind_ok q
  obtain ⟨es, g2, q2, q⟩ := M.bind_ok q
  cases q
  rw [List.length_cons, h _ _ _ _ q2]
theorem takes_no {X : Cx} : Takes X E00 := fun u s' ⟨_, _, _, _, _, _, _, _, _, _, _, _, _, _, _, _, h⟩ => h.elim
theorem bt_abs : bootBuiltins "abs" = some (.builtin "abs") := by decide +kernel
theorem bt_min : bootBuiltins "min" = some (.builtin "min") := by decide +kernel
theorem bt_max : bootBuiltins "max" = some (.builtin "max") := by decide +kernel
theorem bt_all : bootBuiltins "all" = some (.builtin "all") := by decide +kernel
theorem bt_any : bootBuiltins "any" = some (.builtin "any") := by decide +kernel
theorem bt_sum : bootBuiltins "sum" = some (.builtin "sum") := by decide +kernel
theorem bt_repr : bootBuiltins "repr" = some (.builtin "repr") := by decide +kernel
theorem bt_isi : bootBuiltins "isinstance" = some (.builtin "isinstance") := by decide +kernel
theorem bt_tuple : bootBuiltins "tuple" = some (.type "tuple") := by decide +kernel
theorem bt_list : bootBuiltins "list" = some (.type "list") := by decide +kernel
theorem bt_str : bootBuiltins "str" = some (.type "str") := by decide +kernel
theorem _root_.L2.Room.u64 {k : Nat} {A : Around} (hr : Room k A) : A.units + 64 < cLine := hr.units
section
variable {X : Cx} {T : Tab} {E : XE} {pos pn : Pos} {a b c : Expr} {fa fb fc : Ls → M D} {es : List Expr} {l : Ls → M (List D)} {p q : Ls → M Bool}
theorem d_add (ha : FE X T E a fa) (hb : FE X T E b fb) : FE X T E (.BinOp a .Add b pos) (fOp dAdd fa fb) := fe_op op_addA os_add ha hb
theorem d_sub (ha : FE X T E a fa) (hb : FE X T E b fb) : FE X T E (.BinOp a .Sub b pos) (fOp dSub fa fb) := fe_op op_sub os_sub ha hb
theorem d_mul (ha : FE X T E a fa) (hb : FE X T E b fb) : FE X T E (.BinOp a .Mult b pos) (fOp dMul fa fb) := fe_op op_mulA os_mul ha hb
theorem d_mod (ha : FE X T E a fa) (hb : FE X T E b fb) : FE X T E (.BinOp a .Mod b pos) (fOp dMod fa fb) := fe_op op_mod os_mod ha hb
theorem d_fdiv (ha : FE X T E a fa) (hb : FE X T E b fb) : FE X T E (.BinOp a .FloorDiv b pos) (fOp dFdiv fa fb) := fe_op op_fdivW os_fdiv ha hb
theorem d_pow (ha : FE X T E a fa) (hb : FE X T E b fb) : FE X T E (.BinOp a .Pow b pos) (fOp dPow fa fb) := fe_op op_pow os_pow ha hb
theorem d_neg (ha : FE X T E a fa) : FE X T E (.UnaryOp .USub a pos) (fUn dNeg fa) := fe_un un_neg us_neg ha
theorem d_lt (ha : FE X T E a fa) (hb : FE X T E b fb) : FE X T E (.Compare a [.Lt] [b] pos) (fOp dLt fa fb) := fe_cmp op_lt os_cmp ha hb (nomark _)
theorem d_le (ha : FE X T E a fa) (hb : FE X T E b fb) : FE X T E (.Compare a [.LtE] [b] pos) (fOp dLe fa fb) := fe_cmp op_le os_cmp ha hb (nomark _)
theorem d_gt (ha : FE X T E a fa) (hb : FE X T E b fb) : FE X T E (.Compare a [.Gt] [b] pos) (fOp dGt fa fb) := fe_cmp op_gt os_cmp ha hb (nomark _)
theorem d_ge (ha : FE X T E a fa) (hb : FE X T E b fb) : FE X T E (.Compare a [.GtE] [b] pos) (fOp dGe fa fb) := fe_cmp op_ge os_cmp ha hb (nomark _)
theorem d_eq (hu : X.A.units + 64 < cLine) (ha : FE X T E a fa) (hb : FE X T E b fb) : FE X T E (.Compare a [.Eq] [b] pos) (fOp dEq fa fb) := fe_cmp (op_eqA hu) os_eq ha hb (nomark _)
theorem d_ne (hu : X.A.units + 64 < cLine) (ha : FE X T E a fa) (hb : FE X T E b fb) : FE X T E (.Compare a [.NotEq] [b] pos) (fOp dNe fa fb) := fe_cmp (op_neA hu) os_ne ha hb (nomark _)
theorem d_is (ha : FE X T E a fa) (hb : FE X T E b fb) : FE X T E (.Compare a [.Is] [b] pos) (fOp dIsN fa fb) := fe_cmp op_isN os_isN ha hb (nomark _)
theorem d_isnot (ha : FE X T E a fa) (hb : FE X T E b fb) : FE X T E (.Compare a [.IsNot] [b] pos) (fOp dIsNotN fa fb) := fe_cmp op_notN os_notN ha hb (nomark _)
theorem d_in (ha : FE X T E a fa) (hb : FE X T E b fb) (hm : behindInMarks .In b = false) : FE X T E (.Compare a [.In] [b] pos) (fOp dIn fa fb) := fe_cmp op_inA os_in ha hb hm
theorem d_notin (ha : FE X T E a fa) (hb : FE X T E b fb) (hm : behindInMarks .NotIn b = false) : FE X T E (.Compare a [.NotIn] [b] pos) (fOp dNotIn fa fb) := fe_cmp op_notInA os_notIn ha hb hm
theorem t_lt (ha : FE X T E a fa) (hb : FE X T E b fb) : FT X T E (.Compare a [.Lt] [b] pos) (fTest (fOp dLt fa fb)) := ft_cmp op_lt os_cmp ha hb (nomark _)
theorem t_le (ha : FE X T E a fa) (hb : FE X T E b fb) : FT X T E (.Compare a [.LtE] [b] pos) (fTest (fOp dLe fa fb)) := ft_cmp op_le os_cmp ha hb (nomark _)
theorem t_gt (ha : FE X T E a fa) (hb : FE X T E b fb) : FT X T E (.Compare a [.Gt] [b] pos) (fTest (fOp dGt fa fb)) := ft_cmp op_gt os_cmp ha hb (nomark _)
theorem t_ge (ha : FE X T E a fa) (hb : FE X T E b fb) : FT X T E (.Compare a [.GtE] [b] pos) (fTest (fOp dGe fa fb)) := ft_cmp op_ge os_cmp ha hb (nomark _)
theorem t_eq (hu : X.A.units + 64 < cLine) (ha : FE X T E a fa) (hb : FE X T E b fb) : FT X T E (.Compare a [.Eq] [b] pos) (fTest (fOp dEq fa fb)) := ft_cmp (op_eqA hu) os_eq ha hb (nomark _)
theorem t_ne (hu : X.A.units + 64 < cLine) (ha : FE X T E a fa) (hb : FE X T E b fb) : FT X T E (.Compare a [.NotEq] [b] pos) (fTest (fOp dNe fa fb)) := ft_cmp (op_neA hu) os_ne ha hb (nomark _)
theorem t_is (ha : FE X T E a fa) (hb : FE X T E b fb) : FT X T E (.Compare a [.Is] [b] pos) (fTest (fOp dIsN fa fb)) := ft_cmp op_isN os_isN ha hb (nomark _)
theorem t_isnot (ha : FE X T E a fa) (hb : FE X T E b fb) : FT X T E (.Compare a [.IsNot] [b] pos) (fTest (fOp dIsNotN fa fb)) := ft_cmp op_notN os_notN ha hb (nomark _)
theorem t_in (ha : FE X T E a fa) (hb : FE X T E b fb) (hm : behindInMarks .In b = false) : FT X T E (.Compare a [.In] [b] pos) (fTest (fOp dIn fa fb)) := ft_cmp op_inA os_in ha hb hm
theorem t_notin (ha : FE X T E a fa) (hb : FE X T E b fb) (hm : behindInMarks .NotIn b = false) : FT X T E (.Compare a [.NotIn] [b] pos) (fTest (fOp dNotIn fa fb)) := ft_cmp op_notInA os_notIn ha hb hm
theorem t_and (h : FW X T E (.BoolOp .And es pos) p) : FT X T E (.BoolOp .And es pos) p := h.pt
theorem t_or (h : FW X T E (.BoolOp .Or es pos) p) : FT X T E (.BoolOp .Or es pos) p := h.pt
theorem d_ix (ha : FE X T E a fa) (hb : FE X T E b fb) (hp : PlainIx b) : FE X T E (.Subscript a b pos) (fOp dIx fa fb) := fe_ix ix_seq os_ix ha hb hp
theorem d_get (hu : X.A.units + 64 < cLine) (ho : FE X T E a fa) (hi : FE X T E b fb) (hs : NoSl b) : FE X T E (.Subscript a b pos) (fGet fa fb) := fe_get (by omega) ho hi hs
theorem s_put {e : Expr} {pos' : Pos} {fv : Ls → M D} (hu : X.A.units + 64 < cLine) (ho : FE X T E a fa) (hi : FE X T E b fb) (hv : FE X T E e fv) (hs : swapsWith e (some (.Subscript a b pos')) pos.line X.env = pure false) : FS X T E (.Assign [.Subscript a b pos'] e pos) (sPut fa fb fv) := fs_put (by omega) ho hi hv hs
theorem c_len (hm : X.mg "len" = none) (ha : FA X T E [a] l) (hg : Gl X "len") (he : starEach [a] X.env = (false, eval a X.env) :: starEach [] X.env) (hpl : (backTo pos (starEach [] X.env)).any (·.1) = false) : FE X T E (.Call (.Name "len" pn) [a] [] pos) (fCB dLen l) := fe_callB call_len cs_len hg hm PySem.boot_len ha (by decide) (by decide) he hpl
theorem c_abs (hm : X.mg "abs" = none) (ha : FA X T E [a] l) (hg : Gl X "abs") (he : starEach [a] X.env = (false, eval a X.env) :: starEach [] X.env) (hpl : (backTo pos (starEach [] X.env)).any (·.1) = false) : FE X T E (.Call (.Name "abs" pn) [a] [] pos) (fCB dAbs l) := fe_callB call_abs cs_abs hg hm bt_abs ha (by decide) (by decide) he hpl
theorem c_min2 (hc : X.calm = true) (hm : X.mg "min" = none) (ha : FA X T E [a, b] l) (hg : Gl X "min") (he : starEach [a, b] X.env = (false, eval a X.env) :: starEach [b] X.env) (hpl : (backTo pos (starEach [b] X.env)).any (·.1) = false) : FE X T E (.Call (.Name "min" pn) [a, b] [] pos) (fCB dMin2 l) := fe_callB (call_min2 hc) cs_min2 hg hm bt_min ha (by decide) (by decide) he hpl
theorem c_max2 (hc : X.calm = true) (hm : X.mg "max" = none) (ha : FA X T E [a, b] l) (hg : Gl X "max") (he : starEach [a, b] X.env = (false, eval a X.env) :: starEach [b] X.env) (hpl : (backTo pos (starEach [b] X.env)).any (·.1) = false) : FE X T E (.Call (.Name "max" pn) [a, b] [] pos) (fCB dMax2 l) := fe_callB (call_max2 hc) cs_max2 hg hm bt_max ha (by decide) (by decide) he hpl
theorem c_minL (hc : X.calm = true) (hu : X.A.units + 64 < cLine) (hm : X.mg "min" = none) (ha : FA X T E [a] l) (hg : Gl X "min") (he : starEach [a] X.env = (false, eval a X.env) :: starEach [] X.env) (hpl : (backTo pos (starEach [] X.env)).any (·.1) = false) : FE X T E (.Call (.Name "min" pn) [a] [] pos) (fCB (dExt minI) l) := fe_callB (cr_minA hc hu) cs_ext hg hm bt_min ha (by decide) (by decide) he hpl
theorem c_maxL (hc : X.calm = true) (hu : X.A.units + 64 < cLine) (hm : X.mg "max" = none) (ha : FA X T E [a] l) (hg : Gl X "max") (he : starEach [a] X.env = (false, eval a X.env) :: starEach [] X.env) (hpl : (backTo pos (starEach [] X.env)).any (·.1) = false) : FE X T E (.Call (.Name "max" pn) [a] [] pos) (fCB (dExt maxI) l) := fe_callB (cr_maxA hc hu) cs_ext hg hm bt_max ha (by decide) (by decide) he hpl
theorem c_all (hc : X.calm = true) (hm : X.mg "all" = none) (ha : FA X T E [a] l) (hg : Gl X "all") (he : starEach [a] X.env = (false, eval a X.env) :: starEach [] X.env) (hpl : (backTo pos (starEach [] X.env)).any (·.1) = false) : FE X T E (.Call (.Name "all" pn) [a] [] pos) (fCB dAll l) := fe_callB (cr_all hc) cs_all hg hm bt_all ha (by decide) (by decide) he hpl
theorem c_any (hc : X.calm = true) (hm : X.mg "any" = none) (ha : FA X T E [a] l) (hg : Gl X "any") (he : starEach [a] X.env = (false, eval a X.env) :: starEach [] X.env) (hpl : (backTo pos (starEach [] X.env)).any (·.1) = false) : FE X T E (.Call (.Name "any" pn) [a] [] pos) (fCB dAny l) := fe_callB (cr_any hc) cs_any hg hm bt_any ha (by decide) (by decide) he hpl
theorem c_sum (hc : X.calm = true) (hm : X.mg "sum" = none) (ha : FA X T E [a] l) (hg : Gl X "sum") (he : starEach [a] X.env = (false, eval a X.env) :: starEach [] X.env) (hpl : (backTo pos (starEach [] X.env)).any (·.1) = false) : FE X T E (.Call (.Name "sum" pn) [a] [] pos) (fCB dSum l) := fe_callB (cr_sum hc) cs_sum hg hm bt_sum ha (by decide) (by decide) he hpl
theorem c_repr (hgd : X.A.guards = some []) (hu : X.A.units + 64 < cLine) (hm : X.mg "repr" = none) (ha : FA X T E [a] l) (hg : Gl X "repr") (he : starEach [a] X.env = (false, eval a X.env) :: starEach [] X.env) (hpl : (backTo pos (starEach [] X.env)).any (·.1) = false) : FE X T E (.Call (.Name "repr" pn) [a] [] pos) (fCB dRepr l) := fe_callB (call_repr hgd hu) cs_repr hg hm bt_repr ha (by decide) (by decide) he hpl
theorem c_tuple (hm : X.mg "tuple" = none) (ha : FA X T E [a] l) (hg : Gl X "tuple") (he : starEach [a] X.env = (false, eval a X.env) :: starEach [] X.env) (hpl : (backTo pos (starEach [] X.env)).any (·.1) = false) : FE X T E (.Call (.Name "tuple" pn) [a] [] pos) (fCB dTuple l) := fe_callTy call_tuple_of cs_tuple hg hm bt_tuple ha (by decide) (by decide) he hpl
theorem c_list (hm : X.mg "list" = none) (ha : FA X T E [a] l) (hg : Gl X "list") (he : starEach [a] X.env = (false, eval a X.env) :: starEach [] X.env) (hpl : (backTo pos (starEach [] X.env)).any (·.1) = false) : FE X T E (.Call (.Name "list" pn) [a] [] pos) (fCB dList l) := fe_callTy call_list_of cs_list hg hm bt_list ha (by decide) (by decide) he hpl
theorem c_isi (hm : X.mg "isinstance" = none) (ha : FA X T E [a, b] l) (hg : Gl X "isinstance") (he : starEach [a, b] X.env = (false, eval a X.env) :: starEach [b] X.env) (hpl : (backTo pos (starEach [b] X.env)).any (·.1) = false) : FE X T E (.Call (.Name "isinstance" pn) [a, b] [] pos) (fCB dIsi l) := fe_callB call_isA cs_isi hg hm bt_isi ha (by decide) (by decide) he hpl
theorem d_ty {x : Str} {t : String} (hm : X.mg x = none) (hv : bootBuiltins x = some (.type t) := by decide +kernel) (hg : Gl X x := by rfl) (hn : x ≠ "__name__" := by decide) (hd : (x == ("__debug__" : Str)) = false := by decide) : FE X T E (.Name x pos) (fC (.ty t)) := fe_bltn hg hm hv hn hd

/-! the rules with every side told (no auto-parameter: what is expected goes down at once) -/
theorem x_cons (ha : FE X T E a fa) (hl : FA X T E es l) (hs : starEach (a :: es) X.env = (false, eval a X.env) :: starEach es X.env) : FA X T E (a :: es) (lCons fa l) := fa_cons ha hl hs
theorem x_chain {op op' : CmpOp} {rr rr' : R2} {o o' : D → D → Option D} (ho : OpR X (compareOp op) rr) (ho' : OpR X (compareOp op') rr') (hs : OpS X T rr o) (hs' : OpS X T rr' o') (ha : FE X T E a fa) (hb : FE X T E b fb) (hc : FE X T E c fc)
    (hm : lastMarks [op, op'] [b, c] = false) : FE X T E (.Compare a [op, op'] [b, c] pos) (fChain o o' fa fb fc) := fe_chain ho ho' hs hs' ha hb hc hm
theorem x_chainT {op op' : CmpOp} {rr rr' : R2} {o o' : D → D → Option D} (ho : OpR X (compareOp op) rr) (ho' : OpR X (compareOp op') rr') (hs : OpS X T rr o) (hs' : OpS X T rr' o') (ha : FE X T E a fa) (hb : FE X T E b fb) (hc : FE X T E c fc)
    (hm : lastMarks [op, op'] [b, c] = false) : FT X T E (.Compare a [op, op'] [b, c] pos) (fTest (fChain o o' fa fb fc)) := ft_chain ho ho' hs hs' ha hb hc hm
theorem x_val (h : FE X T E a fa) (he : ∀ whole, isTrue a X.env whole = (do let v ← whole; standAt a.pos; holding [v] (truthy v))) : FT X T E a (fTest fa) := ft_val h he
theorem x_call {k n : Nat} {f : Addr} {fd : FuncData} {ps : List Str} {F : Fn} {x : Str} {p : Pos} (FG : FnG X.prog X.w X.K X.mg X.base k f fd ps (spF X.K T n F)) (hr : Room k X.A) (hgd : X.A.guards = some []) (hg : Gl X x) (hm : X.mg x = some (.ref f)) (hk : PySem.W.keepIn X.K (.ref f) = true) (hb : Binds X.K fd ps []) (hn : ps.length = n) (tk : Takes X E)
    (ha : FA X T E (a :: es) l) (hc : LL n l) (hdb : (x == ("__debug__" : Str)) = false) (he : starEach (a :: es) X.env = (false, eval a X.env) :: starEach es X.env) (hpl : (backTo pos (starEach es X.env)).any (·.1) = false) :
    FE X T E (.Call (.Name x p) (a :: es) [] pos) (fCall F l) := fe_call FG hr hgd hg hm hk hb hn tk ha hc hdb he hpl
theorem x_callO {k n : Nat} {f : Addr} {fd : FuncData} {ps : List Str} {F : Fn} {x : Str} {p : Pos} (FG : FnG X.prog X.w X.K X.mg X.base k f fd ps (spF X.K T n F)) (hr : Room k X.A) (hgd : X.A.guards = some []) (hg : Gl X x) (hm : X.mg x = some (.ref f)) (hk : PySem.W.keepIn X.K (.ref f) = true) (hb : Binds X.K fd ps []) (hn : ps.length = n) (tk : Takes X E)
    (ha : FA X T E (a :: es) l) (hc : LL n l) (hdb : (x == ("__debug__" : Str)) = false) (he : starEach (a :: es) X.env = (false, eval a X.env) :: starEach es X.env) (hpl : (backTo pos (starEach es X.env)).any (·.1) = false) :
    FEO X T E (.Call (.Name x p) (a :: es) [] pos) (foCall F l) := feo_call FG hr hgd hg hm hk hb hn tk ha hc hdb he hpl
theorem x_gname {i : Nat} {x : Str} (hN : X.N.Nodup) (hi : X.N[i]? = some x) (hx : Loc X.env.scope x) (hf : X.fn x = true ∨ X.env.scope.names.lookup x = some .local) : FG X T (.Name x pos) (gName i) [i] (gSet i) := fg_name hN hi hx hf
theorem x_gcons {e : Expr} {es : List Expr} {t1 : TG} {t2 : TGs} {is js : List Nat} {f : D → Ls → Option Ls} {k : List D → Ls → Option Ls} (h1 : FG X T e t1 is f) (h2 : FGs X T es t2 js k)
    (hs : (assignEach (e :: es) X.env).map (·.2) = assign e X.env :: (assignEach es X.env).map (·.2)) : FGs X T (e :: es) (gCons t1 t2) (is ++ js) (gsCons f k) := fgs_cons h1 h2 hs
theorem x_gtup {es : List Expr} {k n : Nat} {t : TGs} {is : List Nat} {f : List D → Ls → Option Ls} (hc : X.calm = true) (h : FGs X T es t is f)
    (hn : (assignEach es X.env).length = n) (hst : (assignEach es X.env).findIdx? (·.1) = none) : FG X T (.Tuple es k pos) (gTup X.K n t) is (gTupD n f) := fg_tup hc h hn hst
theorem x_gtupB {s : Shared} {H : Hp} {scope : Scope} {env : Env} {fp : List Addr} {es : List Expr} {k n : Nat} {t : TGs} {is : List Nat} {f : List D → Ls → Option Ls} (hc : (X.blk s H scope env fp).calm = true) (h : FGs (X.blk s H scope env fp) T es t is f)
    (hn : (assignEach es (X.blk s H scope env fp).env).length = n) (hst : (assignEach es (X.blk s H scope env fp).env).findIdx? (·.1) = none) : FG (X.blk s H scope env fp) T (.Tuple es k pos) (gTup X.K n t) is (gTupD n f) := fg_tup hc h hn hst
theorem x_range1 {tg e : Expr} (hg : Gl X "range") (hm : X.mg "range" = none) (ha : FA X T E [e] l) (hs : starEach [e] X.env = [(false, eval e X.env)]) : FI X T E tg (.Call (.Name "range" pn) [e] [] pos) (iArgs dRange1 l) := fi_range1 hg hm ha hs
theorem x_range2 {tg e e2 : Expr} (hg : Gl X "range") (hm : X.mg "range" = none) (ha : FA X T E [e, e2] l) (hs : starEach [e, e2] X.env = [(false, eval e X.env), (false, eval e2 X.env)]) (hs2 : starEach [e2] X.env = [(false, eval e2 X.env)]) : FI X T E tg (.Call (.Name "range" pn) [e, e2] [] pos) (iArgs dRange2 l) := fi_range2 hg hm ha hs hs2
theorem x_enum {elts : List Expr} {kk : Nat} {e : Expr} {tpos : Pos} (hg : Gl X "enumerate") (hm : X.mg "enumerate" = none) (ha : FA X T E [e] l) (hs : starEach [e] X.env = [(false, eval e X.env)]) : FI X T E (.Tuple elts kk tpos) (.Call (.Name "enumerate" pn) [e] [] pos) (iArgs dEnum l) := fi_enum hg hm ha hs
theorem x_zip {elts : List Expr} {kk : Nat} {e e2 : Expr} {tpos : Pos} (hg : Gl X "zip") (hm : X.mg "zip" = none) (ha : FA X T E [e, e2] l) (hs : starEach [e, e2] X.env = (false, eval e X.env) :: starEach [e2] X.env) (hpl : (backTo pos (starEach [e2] X.env)).any (·.1) = false) : FI X T E (.Tuple elts kk tpos) (.Call (.Name "zip" pn) [e, e2] [] pos) (iArgs dZip l) := fi_zip hg hm ha hs hpl
theorem x_list {x : Str} (hg : Gl X x) (hm : X.mg x = none) (hv : bootBuiltins x = some (.type "list")) (ha : FA X T E (a :: es) l) (hn : x ≠ "__name__") (hdb : (x == ("__debug__" : Str)) = false)
    (he : starEach (a :: es) X.env = (false, eval a X.env) :: starEach es X.env) (hpl : (backTo pos (starEach es X.env)).any (·.1) = false) : FEO X T E (.Call (.Name x pn) (a :: es) [] pos) (foList l) := feo_list hg hm hv ha hn hdb he hpl
theorem x_dispS {keys : List (Option Expr)} {values : List Expr} {fs : List ((Ls → M D) × (Ls → M D))} (h : FP X T E pos keys values fs) (hall : keys.all (·.isSome) = true) (hl : keys.length = values.length) (h0 : keys ≠ []) (h15 : keys.length ≤ 15) (h16 : fs.length ≤ 15) : FE X T E (.Dict keys values pos) (fDispS fs) := fe_dispS h hall hl h0 h15 h16
theorem x_disp {keys : List (Option Expr)} {values : List Expr} {fs : List ((Ls → M D) × (Ls → M D))} (h : FP X T E pos keys values fs) (hall : keys.all (·.isSome) = true) (hl : keys.length = values.length) (h0 : keys ≠ []) (h15 : keys.length ≤ 15) (h16 : fs.length ≤ 15) : FEO X T E (.Dict keys values pos) (foDisp fs) := feo_disp h hall hl h0 h15 h16
theorem x_expr {e : Expr} {f : Ls → M D} (he : FE X T E e f) (hs : swapsWith e none pos.line X.env = pure false) : FS X T E (.Expr e pos) (sDrop f) := fs_expr he hs
theorem x_set (i : Nat) {x : Str} {e : Expr} {f : Ls → M D} {pos' : Pos} (hN : X.N.Nodup) (hi : X.N[i]? = some x) (hx : Loc X.env.scope x) (he : FE X T E e f) (hs : swapsWith e (some (.Name x pos')) pos.line X.env = pure false) (hf : X.fn x = true ∨ X.env.scope.names.lookup x = some .local) : FS X T E (.Assign [.Name x pos'] e pos) (sSet i f) := fs_set i hN hi hx he hs hf
theorem x_setO (i : Nat) {x : Str} {e : Expr} {f : Ls → M OV} {pos' : Pos} (hN : X.N.Nodup) (hi : X.N[i]? = some x) (hx : Loc X.env.scope x) (he : FEO X T E e f) (hs : swapsWith e (some (.Name x pos')) pos.line X.env = pure false) (hf : X.fn x = true ∨ X.env.scope.names.lookup x = some .local) : FS X T E (.Assign [.Name x pos'] e pos) (sSetO i f) := fs_setO i hN hi hx he hs hf
theorem x_tg {tg e : Expr} {f : Ls → M D} {t : TG} {is : List Nat} {ft : D → Ls → Option Ls} (he : FE X T E e f) (hg : FG X T tg t is ft) (hs : swapsWithSole [tg] e pos.line X.env = pure false) (hw : swappedStores [tg] e X.env = pure none)
    (h1 : (assignEach [tg] X.env).map (·.2) = [assign tg X.env]) : FS X T E (.Assign [tg] e pos) (sTg f ft) := fs_tg he hg hs hw h1
theorem x_par (i j : Nat) {x y : Str} {px py pt : Pos} {kt k2 pt2} (hc : X.calm = true) (hN : X.N.Nodup) (hi : X.N[i]? = some x) (hj : X.N[j]? = some y) (hij : i ≠ j)
    (hx : X.env.scope.names.lookup x = some .local) (hy : X.env.scope.names.lookup y = some .local) (ha : FA X T E [a, b] l)
    (hw : swappedStores [.Tuple [.Name x px, .Name y py] kt pt] (.Tuple [a, b] k2 pt2) X.env = pure (some [x, y]))
    (hs : swapsWithSole [.Tuple [.Name x px, .Name y py] kt pt] (.Tuple [a, b] k2 pt2) pos.line X.env = pure false) :
    FS X T E (.Assign [.Tuple [.Name x px, .Name y py] kt pt] (.Tuple [a, b] k2 pt2) pos) (sPar i j l) := fs_par i j hc hN hi hj hij hx hy ha hw hs
theorem x_aug (i : Nat) {x : Str} {op : Operator} {rr : R2} {o : D → D → Option D} {pos' : Pos} {e : Expr} {f : Ls → M D} (hN : X.N.Nodup) (hi : X.N[i]? = some x) (hx : Loc X.env.scope x) (he : FE X T E e f) (ho : OpR X (inplaceOp op) rr) (hs : OpS X T rr o) (hf : X.fn x = true ∨ X.env.scope.names.lookup x = some .local) :
    FS X T E (.AugAssign (.Name x pos') op e pos) (sAug i o f) := fs_aug i hN hi hx he ho hs hf
theorem x_app (i : Nat) {x : Str} {apos cpos : Pos} (hN : X.N[i]? = some x) (hv : Vis X.env.scope x) (ha : FE X T E a fa) (hd : (x == ("__debug__" : Str)) = false)
    (hcd : (x == ("__classdict__" : Str)) = false)
    (hs : swapsWith (.Call (.Attribute (.Name x pn) "append" apos) [a] [] cpos) none pos.line X.env = pure false)
    (hbase : attributeBase (.Name x pn) "append" X.env (eval (.Name x pn) X.env) = eval (.Name x pn) X.env)
    (hfew : ((backTo cpos (starEach [a] X.env)).all (fun x => !x.1) && (backToKw cpos (keywordEach [] X.env)).all (fun x => x.1.isSome) && decide ([a].length + ([] : List Keyword).length + (if ([] : List Keyword).isEmpty then 0 else 1) < 30)) = true)
    (hline : (apos.endLine == cpos.line) = true) (hst : starEach [a] X.env = (false, eval a X.env) :: starEach [] X.env) (hplain : (backTo cpos (starEach [] X.env)).any (·.1) = false) :
    FS X T E (.Expr (.Call (.Attribute (.Name x pn) "append" apos) [a] [] cpos) pos) (sApp i fa) := fs_app i hN hv ha hd hcd hs hbase hfew hline hst hplain
theorem x_for {body : List Stmt} {f : S} (hp : PassesOwn (model X.prog X.w) X.A X.env X.xe) (hc : X.calm = true) {iter tg : Expr} {fi : Ls → M (List D)} {t : TG} {is : List Nat} {ft : D → Ls → Option Ls} (hi : FI X T E tg iter fi) (hg : FG X T tg t is ft) (hb : FSs X T E body f)
    (hs : ∀ x, foldedSetIterable iter X.env x = pure x) : FS X T E (.For tg iter body [] pos) (sFor fi ft f) := fs_for hp hc hi hg hb hs
/-! ### y = [.. for ..] -/
variable {elt tg iter : Expr} {ifs : List Expr} {scope : Scope} {own : List (Str × Nat)} {spos py : Pos} {fi : Ls → M (List D)} {t : TG} {is : List Nat} {ft : D → Ls → Option Ls} {tt : Ls → M Bool} {fe : Ls → M D} {y : Str}
/-- the comprehension as a list of one's own -/
theorem o_lc (hc : X.calm = true) (hN : X.N.Nodup) (hi : FI X T E tg iter fi)
    (hg : ∀ (s : Shared) (H : Hp) (C : Addr) (cl : List (Str × Addr)) (fp : List Addr), FG (X.blk s H scope (compEnvC scope cl C X.env) fp) T tg t is ft)
    (ht : ∀ (s : Shared) (H : Hp) (C : Addr) (cl : List (Str × Addr)) (fp : List Addr), FTs (X.blk s H scope (compEnvC scope cl C X.env) fp) T E00 ifs tt)
    (he : ∀ (s : Shared) (H : Hp) (C : Addr) (cl : List (Str × Addr)) (fp : List Addr), FE (X.blk s H scope (compEnvC scope cl C X.env) fp) T E00 elt fe)
    (vs : List Nat) (ok : blkC X.N X.env.scope scope own = true) (hv : own.map (·.2) = vs) (his : (is.all fun i => vs.contains i) = true) (hs : ∀ x, foldedSetIterable iter X.env x = pure x) : FEO X T E (.ListComp elt [⟨tg, iter, ifs, 0⟩] scope pos) (foLc fi vs ft tt fe) := by
  subst hv
  exact feo_lc hc hN hi (blkOk_by ok) hg ht he (fun i hi => List.contains_iff_mem.mp (List.all_eq_true.mp his i hi)) (hg X.s_0 X.H_0 0 [] []).ts (hg X.s_0 X.H_0 0 [] []).wl hs
theorem d_lc (hc : X.calm = true) (hN : X.N.Nodup) (hi : FI X T E tg iter fi)
    (hg : ∀ (s : Shared) (H : Hp) (C : Addr) (cl : List (Str × Addr)) (fp : List Addr), FG (X.blk s H scope (compEnvC scope cl C X.env) fp) T tg t is ft)
    (ht : ∀ (s : Shared) (H : Hp) (C : Addr) (cl : List (Str × Addr)) (fp : List Addr), FTs (X.blk s H scope (compEnvC scope cl C X.env) fp) T E00 ifs tt)
    (he : ∀ (s : Shared) (H : Hp) (C : Addr) (cl : List (Str × Addr)) (fp : List Addr), FE (X.blk s H scope (compEnvC scope cl C X.env) fp) T E00 elt fe)
    (vs : List Nat) (ok : blkC X.N X.env.scope scope own = true) (hv : own.map (·.2) = vs) (his : (is.all fun i => vs.contains i) = true) (hs : ∀ x, foldedSetIterable iter X.env x = pure x) : FE X T E (.ListComp elt [⟨tg, iter, ifs, 0⟩] scope pos) (fD (foLc fi vs ft tt fe)) :=
  fe_ofO (o_lc hc hN hi hg ht he vs ok hv his hs)
theorem so_imp {i : Nat} {fo : Ls → M OV} {De : Ends} {σ : L2.St} {H : Hp} (h : tS X.K T E (sSetO i fo) De σ H) : tFO X.K T E fo σ H (fun x H1 => gName i x σ H1 De.nx) := by
  obtain ⟨B, r, Hi, ls, g, R, w⟩ := h
  exact ⟨B, r, Hi, ls, g, R, w.bind.mono fun o r1 Hi1 H1 g1 R1 G1 w1 p ho H2 R2 l hp q => w1 _ r1 Hi1 H2 (R2.setL l hp q) .refl⟩
theorem sd_imp {i : Nat} {fo : Ls → M OV} {De : Ends} {σ : L2.St} {H : Hp} (h : tS X.K T E (sSet i (fD fo)) De σ H) : tFO X.K T E fo σ H (fun x H1 => gName i x σ H1 De.nx) := by
  refine tF_ofO ?_
  obtain ⟨B, r, Hi, ls, g, R, w⟩ := h
  exact ⟨B, r, Hi, ls, g, R, w.bind.mono fun d r1 Hi1 H1 g1 R1 G1 w1 v p1 => w1 _ r1 Hi1 H1 (R1.setD p1) .refl⟩
theorem s_lcO (i : Nat) (hc : X.calm = true) (hN : X.N.Nodup) (hy : X.N[i]? = some y) (hyl : X.env.scope.names.lookup y = some .local) (hk : X.env.scope.kind = .function) (hi : FI X T E tg iter fi)
    (hg : ∀ (s : Shared) (H : Hp) (C : Addr) (cl : List (Str × Addr)) (fp : List Addr), FG (X.blk s H scope (compEnvC scope cl C X.env) fp) T tg t is ft)
    (ht : ∀ (s : Shared) (H : Hp) (C : Addr) (cl : List (Str × Addr)) (fp : List Addr), FTs (X.blk s H scope (compEnvC scope cl C X.env) fp) T E00 ifs tt)
    (he : ∀ (s : Shared) (H : Hp) (C : Addr) (cl : List (Str × Addr)) (fp : List Addr), FE (X.blk s H scope (compEnvC scope cl C X.env) fp) T E00 elt fe)
    (vs : List Nat) (ok : blkC X.N X.env.scope scope own = true) (hv : own.map (·.2) = vs) (his : (is.all fun i => vs.contains i) = true) (hs : ∀ x, foldedSetIterable iter X.env x = pure x)
    (hl : (py.line == pos.line) = true) (hb : (scope.names.any fun (n, k) => n == y && (k == .local || k == .cell)) = false) : FS X T E (.Assign [.Name y py] (.ListComp elt [⟨tg, iter, ifs, 0⟩] scope pos) spos) (sSetO i (foLc fi vs ft tt fe)) := by
  subst hv
  exact (ps_setLc hc hN hy hyl (sw_true hk hyl hl hb) hi (blkOk_by ok) (fun s H C cl fp => (hg s H C cl fp).pg) ht he hs).imp fun De σ H h => lc_sound (hg X.s_0 X.H_0 0 [] []).ts (hg X.s_0 X.H_0 0 [] []).wl (fun i hi => List.contains_iff_mem.mp (List.all_eq_true.mp his i hi)) (so_imp h)
theorem s_lcD (i : Nat) (hc : X.calm = true) (hN : X.N.Nodup) (hy : X.N[i]? = some y) (hyl : X.env.scope.names.lookup y = some .local) (hk : X.env.scope.kind = .function) (hi : FI X T E tg iter fi)
    (hg : ∀ (s : Shared) (H : Hp) (C : Addr) (cl : List (Str × Addr)) (fp : List Addr), FG (X.blk s H scope (compEnvC scope cl C X.env) fp) T tg t is ft)
    (ht : ∀ (s : Shared) (H : Hp) (C : Addr) (cl : List (Str × Addr)) (fp : List Addr), FTs (X.blk s H scope (compEnvC scope cl C X.env) fp) T E00 ifs tt)
    (he : ∀ (s : Shared) (H : Hp) (C : Addr) (cl : List (Str × Addr)) (fp : List Addr), FE (X.blk s H scope (compEnvC scope cl C X.env) fp) T E00 elt fe)
    (vs : List Nat) (ok : blkC X.N X.env.scope scope own = true) (hv : own.map (·.2) = vs) (his : (is.all fun i => vs.contains i) = true) (hs : ∀ x, foldedSetIterable iter X.env x = pure x)
    (hl : (py.line == pos.line) = true) (hb : (scope.names.any fun (n, k) => n == y && (k == .local || k == .cell)) = false) : FS X T E (.Assign [.Name y py] (.ListComp elt [⟨tg, iter, ifs, 0⟩] scope pos) spos) (sSet i (fD (foLc fi vs ft tt fe))) := by
  subst hv
  exact (ps_setLc hc hN hy hyl (sw_true hk hyl hl hb) hi (blkOk_by ok) (fun s H C cl fp => (hg s H C cl fp).pg) ht he hs).imp fun De σ H h => lc_sound (hg X.s_0 X.H_0 0 [] []).ts (hg X.s_0 X.H_0 0 [] []).wl (fun i hi => List.contains_iff_mem.mp (List.all_eq_true.mp his i hi)) (sd_imp h)
/-! ### a list or a tuple is walked -/
def dItemsA : D → Option (List D)
  | .lst ds => some ds
  | .tup ds => some ds
  | _ => none
def iItemsA (f : Ls → M D) : Ls → M (List D) := fun ls => M.bind (f ls) fun d => M.opt (dItemsA d)
theorem fi_seq {tg e : Expr} {f : Ls → M D} (h : FE X T E e f) : FI X T E tg e (iItemsA f) := ⟨fun pins s σ H R I ⟨B, r, Hi, ls, g, Rl, w⟩ => by
  have key : WpG X.K T E B σ ls r Hi (iItems f ls g) (fun ds r' Hi' H' _ => ∀ J, ItOk X.K T J ds r' Hi' → R J H') ∨ WpG X.K T E B σ ls r Hi (iItemsT f ls g) (fun ds r' Hi' H' _ => ∀ J, ItOk X.K T J ds r' Hi' → R J H') := by
    unfold iItemsA M.bind at w
    unfold iItems iItemsT M.bind
    cases q : f ls g with
    | none => rw [q] at w; exact w.elim
    | some p =>
      obtain ⟨a, g'⟩ := p
      rw [q] at w
      cases a with
      | error x => exact .inl w
      | ok d =>
        cases d with
        | lst ds => exact .inl w
        | tup ds => exact .inr w
        | _ => exact w.elim
  rcases key with w | w
  · exact (fi_list h).run pins s σ H R I ⟨B, r, Hi, ls, g, Rl, w⟩
  · exact (fi_tup h).run pins s σ H R I ⟨B, r, Hi, ls, g, Rl, w⟩⟩
/-- a, b, c = e1, e2, e3 -/
def sPar3 (i j k : Nat) (l : Ls → M (List D)) : S := sB l fun ds ls g => match ds with
  | [a, b, c] => some (.nx (((ls.set i (.dat a)).set j (.dat b)).set k (.dat c)), g)
  | _ => none
theorem fs_par3 (i j k : Nat) {x y z : Str} {a b c : Expr} {l : Ls → M (List D)} {px py pz pt : Pos} {kt k2 pt2} (hc : X.calm = true) (hN : X.N.Nodup) (hi : X.N[i]? = some x) (hj : X.N[j]? = some y) (hk : X.N[k]? = some z) (hij : i ≠ j) (hik : i ≠ k) (hjk : j ≠ k)
    (hx : X.env.scope.names.lookup x = some .local) (hy : X.env.scope.names.lookup y = some .local) (hz : X.env.scope.names.lookup z = some .local) (ha : FA X T E [a, b, c] l)
    (hw : swappedStores [.Tuple [.Name x px, .Name y py, .Name z pz] kt pt] (.Tuple [a, b, c] k2 pt2) X.env = pure (some [x, y, z]))
    (hs : swapsWithSole [.Tuple [.Name x px, .Name y py, .Name z pz] kt pt] (.Tuple [a, b, c] k2 pt2) pos.line X.env = pure false) :
    FS X T E (.Assign [.Tuple [.Name x px, .Name y py, .Name z pz] kt pt] (.Tuple [a, b, c] k2 pt2) pos) (sPar3 i j k l) :=
  (ps_par3 hc hN hi hj hk hij hik hjk hx hy hz ha hw hs).imp fun De σ H ⟨B, r, Hi, ls, g, R, w⟩ => ⟨B, r, Hi, ls, g, R, w.bind.mono fun ds r1 Hi1 H1 g1 R1 G1 w1 vs p1 => by
    cases p1 with
    | nil => exact False.elim w1
    | cons h t =>
      cases t with
      | nil => exact False.elim w1
      | cons h2 t =>
        cases t with
        | nil => exact False.elim w1
        | cons h3 t =>
          cases t with
          | cons _ _ => exact False.elim w1
          | nil => exact ⟨_, _, _, rfl, w1 _ r1 Hi1 H1 (((R1.setD h).setD h2).setD h3) .refl⟩⟩
end
end G6

namespace G6
section
open PySem PySem.Spec PySem.Calls PyProof.Rows PySem.W
theorem star_unp {prog : Program} {w : World} {A : Around} {E : Value → Shared → Prop} {s : Shared} {l : Addr} {x : Value} {its : List Value} {Q : List Value → Shared → Prop} (hl : IsTup s.heap l (x :: its).toArray) (hh : A.handled = none) (hz : its.length ≤ 16383)
    (h : ∀ (h' : Heap) tk, (∀ b o, s.heap.get? b = some o → h'.get? b = some o) → Q [x, .ref h'.objs.size] { s with heap := h'.push { cls := .type "list", data := .seq its.toArray }, toks := tk }) : wpAny (model prog w) A (unpackItems (.ref l) 2 (some 1)) Q E s := by
  have hsz : (x :: its).toArray.size = its.length + 1 := by simp
  have hlt : l ≠ s.heap.objs.size := by obtain ⟨o, ho, _⟩ := hl; exact Nat.ne_of_lt (Heap.lt_size ho)
  unfold unpackItems
  refine wpAny_bind ?_
  unfold notIterableAtAll
  refine wpAny_bind (wpAny_specialOf hl.typeIs slot_tuple_iter.lookup ?_)
  refine wpAny_pure ?_
  simp only [Bool.false_eq_true, if_false]
  refine wpAny_bind (wpAny_holding (iter_tuple hl ?_))
  refine wpAny_bind (wpAny_holding (draw_tuple hlt 1 0 _ _ ⟨_, Heap.get?_push_size _ rfl, rfl, rfl⟩ (hl.push _) (by omega) fun h₁ hit₁ hs₁ => ?_))
  have hl₁ : IsTup h₁ l (x :: its).toArray := (hl.push _).extBut hs₁.extBut hlt
  rw [Nat.zero_add] at hit₁
  have hit₁' := hit₁
  obtain ⟨oi, hoi, _⟩ := hit₁'
  have hl₁' := hl₁
  obtain ⟨ol, hol, _⟩ := hl₁'
  have e1 : ((x :: its).toArray.toList.drop 0).take 1 = [x] := rfl
  rw [e1, if_neg (show ¬ ([x].length < 1) by simp)]
  refine wpAny_bind (wpAny_holding (kun_collect (s := { s with heap := h₁ }) (T := "tuple_iterator") (.inr (.inr (.inr rfl))) (Walks.tuple (A := A.in1) hh s.heap.objs.size l hlt (x :: its).toArray) (fun j u st => st.1.typeIs) (k := 1) (by omega) ⟨hit₁, hl₁⟩ (Heap.lt_size hoi) (Heap.lt_size hol) (fun h₂ tk hk => ?_) (by rw [sizeLine_eq]; omega)))
  have e2 : (x :: its).toArray.toList.drop 1 = its := rfl
  rw [e2]
  show wpAny _ _ (if its.length < 2 - 1 - 1 then _ else _) _ _ _
  rw [if_neg (by omega)]
  show wpAny _ _ (newList (its.take (its.length - (2 - 1 - 1))) >>= fun d => pure ([x] ++ [d] ++ its.drop (its.length - (2 - 1 - 1)))) _ _ _
  rw [show its.length - (2 - 1 - 1) = its.length by omega, List.take_length, List.drop_length]
  have he : ∀ b o, s.heap.get? b = some o → h₂.get? b = some o := fun b o e => hk b o (Nat.ne_of_lt (Heap.lt_size e)) (hs₁.extBut b o (Nat.ne_of_lt (Heap.lt_size e)) (Heap.get?_push_of_some _ e))
  refine wpAny_bind (wpAny_newList (wpAny_pure (h h₂ tk he)) (by rw [sizeLine_eq]; omega))
end
open PySem PySem.Spec L2
section
variable {X : Cx} {T : Tab} {E : XE} {pos : Pos}
def gStr (K : PySem.W.Frag) (t u : TG) : TG := fun v σ H Q => ∃ a x xs, v = .ref a ∧ SqT K H a (x :: xs) ∧ xs.length ≤ 16383 ∧ ∀ p, H p = none → t x σ (upd H p (.lst xs)) fun σ' H' => u (.ref p) σ' H' Q
theorem pg_star {a b : Expr} {k : Nat} {t u : TG} {ps : Pos} (hc : X.calm = true) (h1 : PG X a t) (h2 : PG X b u) (hn : assignEach [a, .Starred b ps] X.env = [(false, assign a X.env), (true, assign b X.env)]) : PG X (.Tuple [a, .Starred b ps] k pos) (gStr X.K t u) := by
  refine ⟨fun pins s σ H v w Q I r hw => ?_⟩
  obtain ⟨l, x, xs, e1, hq, hl, hw⟩ := hw
  subst e1
  cases r
  obtain ⟨its0, rv, ht, hz⟩ := I.tuple hq
  cases rv with
  | @cons _ x' _ its rx rr =>
    rw [PyProof.Rows.assign_Tuple]
    refine wpAny_bind (wpAny_standAt ?_)
    unfold unpack
    rw [hn]
    refine wpAny_bind (wpAny_holding (star_unp ht (I.ok.hd hc) (by rw [← rr.length]; exact hl) fun h' tk hk => ?_))
    have I1 : Inv X pins σ H { s with heap := h', toks := tk } := I.kept (t' := tk) hk
    have hf := I1.hok.fresh (Nat.le_refl _)
    have I2 : Inv X pins σ (upd H h'.objs.size (.lst xs)) { s with heap := h'.push { cls := .type "list", data := .seq its.toArray }, toks := tk } :=
      I1.laid (t' := tk) (fun c o e => Heap.get?_push_of_some _ e) (Nat.le_refl _) (show ObjOk X.prog X.w _ _ _ (.lst xs) from ⟨by rw [sizeLine_eq]; omega, its, 0, rr, Heap.get?_push_size _ rfl⟩)
    have hw2 := hw _ hf
    refine PyProof.Rows.assignInOrder_cons (thn (h1.run pins _ σ _ _ _ _ I2 rx hw2) fun _ s1 ⟨σ1, H1, I3, q1⟩ => ?_)
    refine PyProof.Rows.assignInOrder_cons (thn (h2.run pins s1 σ1 H1 (.ref _) _ Q I3 (show RelV (.ref _) (.ref _) from rfl) q1) fun _ s2 ⟨σ2, H2, I4, q2⟩ => ?_)
    exact PyProof.Rows.assignInOrder_nil ⟨σ2, H2, I4, q2⟩

def sStar (i j : Nat) (f : Ls → M D) : S := sB f fun d ls g => match d with
  | .tup (x :: xs) => if xs.length ≤ 16383 then some (.nx ((ls.set i (.dat x)).set j (.dat (.lst xs))), g) else none
  | _ => none
theorem x_star (i j : Nat) {x y : Str} {e : Expr} {fa : Ls → M D} {k : Nat} {px py ps pt : Pos} (hc : X.calm = true) (hN : X.N.Nodup) (hi : X.N[i]? = some x) (hj : X.N[j]? = some y) (hx : Loc X.env.scope x) (hy : Loc X.env.scope y) (fx : X.fn x = true ∨ X.env.scope.names.lookup x = some .local) (fy : X.fn y = true ∨ X.env.scope.names.lookup y = some .local)
    (he : FE X T E e fa) (hn : assignEach [.Name x px, .Starred (.Name y py) ps] X.env = [(false, assign (.Name x px) X.env), (true, assign (.Name y py) X.env)])
    (hs : swapsWithSole [.Tuple [.Name x px, .Starred (.Name y py) ps] k pt] e pos.line X.env = pure false) (hw : swappedStores [.Tuple [.Name x px, .Starred (.Name y py) ps] k pt] e X.env = pure none)
    (h1 : (assignEach [.Tuple [.Name x px, .Starred (.Name y py) ps] k pt] X.env).map (·.2) = [assign (.Tuple [.Name x px, .Starred (.Name y py) ps] k pt) X.env]) :
    FS X T E (.Assign [.Tuple [.Name x px, .Starred (.Name y py) ps] k pt] e pos) (sStar i j fa) :=
  (ps_asg he (pg_star hc (pg_name hN hi hx fx) (pg_name hN hj hy fy) hn) hs hw h1).imp fun De σ H ⟨B, r, Hi, ls, g, R, w⟩ => ⟨B, r, Hi, ls, g, R, w.bind.mono fun d r1 Hi1 H1 g1 R1 G1 w1 v p1 => by
    cases p1 with
    | tup h a =>
      cases a with
      | nil => exact w1.elim
      | @cons vx vs dx ds hx hr =>
        have w2 : WpS X.K T E B r1 Hi1 (if ds.length ≤ 16383 then some (.nx ((ls.set i (.dat dx)).set j (.dat (.lst ds))), g1) else none) De := w1
        split at w2
        · rename_i hz
          refine ⟨_, vx, vs, rfl, G6.SqT.mono R1.sub h, by rw [hr.length]; exact hz, fun p hp => ?_⟩
          obtain ⟨R2, G2⟩ := R1.fix (o := .lst vs) hp
          exact (w2.ge G2) _ r1 _ _ ((R2.setD (hx.mono G2)).setD (.lst upd_same (hr.mono G2))) .refl
        · exact w2.elim
    | _ => exact w1.elim⟩
/-! ### (a, b, ..) = a list or a tuple -/
def gSeqD (n : Nat) (k : List D → Ls → Option Ls) : D → Ls → Option Ls
  | .tup ds, ls => if ds.length = n then k ds ls else none
  | .lst ds, ls => if ds.length = n then k ds ls else none
  | _, _ => none
def gTL (K : PySem.W.Frag) (n : Nat) (t : TGs) : TG := fun v σ H Q => gTup K n t v σ H Q ∨ gUnl K n t v σ H Q
theorem pg_seq {es : List Expr} {k : Nat} {t : TGs} {n : Nat} (hc : X.calm = true) (h : PGs X es t) (hn : (assignEach es X.env).length = n) (hst : (assignEach es X.env).findIdx? (·.1) = none) : PG X (.Tuple es k pos) (gTL X.K n t) :=
  ⟨fun pins s σ H v u Q I r hw => hw.elim (fun q => (pg_tup hc h hn hst).run pins s σ H v u Q I r q) fun q => (pg_unl hc h hn hst).run pins s σ H v u Q I r q⟩
theorem fg_seq {es : List Expr} {k n : Nat} {t : TGs} {is : List Nat} {f : List D → Ls → Option Ls} (hc : X.calm = true) (h : FGs X T es t is f)
    (hn : (assignEach es X.env).length = n) (hst : (assignEach es X.env).findIdx? (·.1) = none) : FG X T (.Tuple es k pos) (gTL X.K n t) is (gSeqD n f) := by
  refine ⟨pg_seq hc h.pg hn hst, ?_, fun d ls ls' e vs hv => ?_⟩
  · intro B r Hi H σ ls ls' g v d Q R p e q
    cases p with
    | tup h1 a1 =>
      unfold gSeqD at e
      dsimp only at e
      split at e
      · rename_i hl
        exact .inl ⟨_, _, rfl, G6.SqT.mono R.sub h1, by rw [a1.length]; exact hl, h.ts B r Hi H σ ls ls' g _ _ Q R a1 e q⟩
      · cases e
    | lst h1 a1 =>
      unfold gSeqD at e
      dsimp only at e
      split at e
      · rename_i hl
        exact .inr ⟨_, _, rfl, L2.SqL.of (R.sub _ _ h1), by rw [a1.length]; exact hl, h.ts B r Hi H σ ls ls' g _ _ Q R a1 e q⟩
      · cases e
    | _ => cases e
  · cases d with
    | tup ds =>
      unfold gSeqD at e
      dsimp only at e
      split at e
      · exact h.wl _ _ _ e vs hv
      · cases e
    | lst ds =>
      unfold gSeqD at e
      dsimp only at e
      split at e
      · exact h.wl _ _ _ e vs hv
      · cases e
    | _ => cases e
/-! ### a module's dict of defs -/
def tblLook (tbl : List (Str × Str)) (z : Str) : Option Str := (tbl.find? fun p => p.1 == z).map (·.2)
structure FnTbl (K : PySem.W.Frag) (w : World) (T : Tab) (d : Addr) (tbl : List (Str × Str)) : Prop where
  kd : ∃ es n, KDict K w d es n
  look : ∀ z : Str, ∃ r, PySem.W.nsIn K d z = some r ∧ match tblLook tbl z with
    | none => r = none
    | some nm => ∃ a, r = some (.ref a) ∧ T.fn nm = some a
def strD (d : D) : Option Str := match d with
  | .str z => some z
  | _ => none
def fInTbl (tbl : List (Str × Str)) (f : Ls → M D) : Ls → M D := fun ls => M.bind (f ls) fun d => M.opt ((strD d).map fun z => .bl (tblLook tbl z).isSome)
def fAtTbl (tbl : List (Str × Str)) (f : Ls → M D) : Ls → M D := fun ls => M.bind (f ls) fun d => M.opt ((strD d).bind fun z => (tblLook tbl z).map .fn)
theorem strD_some {d : D} {z : Str} (h : strD d = some z) : d = .str z := by
  unfold strD at h
  split at h
  · cases h; rfl
  · cases h
variable {a b : Expr} {fa : Ls → M D} {x : Str} {d : Addr} {tbl : List (Str × Str)}
theorem in_tbl_imp {σ : L2.St} {H : Hp} {Q : VK} (F : FnTbl X.K X.w T d tbl) (h : tF X.K T E (fInTbl tbl fa) σ H Q) :
    tOp (fun x y H Q => ∃ (z : Str) (r : Option Value), x = .str z ∧ y = .ref d ∧ PySem.W.nsIn X.K d z = some r ∧ Q (.bl r.isSome) H) (tF X.K T E fa) (tC (.ref d)) σ H Q := by
  obtain ⟨B, r, Hi, ls, g, R, w⟩ := h
  refine ⟨B, r, Hi, ls, g, R, w.bind.mono fun d' r1 Hi1 H1 g1 R1 G1 w1 v p1 => ?_⟩
  obtain ⟨y, ey, w2⟩ := w1.opt
  obtain ⟨z, ez, rfl⟩ := Option.map_eq_some_iff.mp ey
  obtain rfl := strD_some ez
  cases p1
  obtain ⟨rr, h1, h2⟩ := F.look z
  refine ⟨z, rr, rfl, rfl, h1, ?_⟩
  have : rr.isSome = (tblLook tbl z).isSome := by
    split at h2
    · rename_i e; rw [h2, e]; rfl
    · rename_i e; obtain ⟨_, h3, _⟩ := h2; rw [h3, e]; rfl
  rw [this]
  exact w2.ret R1 .refl _ (.bl _)
theorem d_intbl {p : Pos} (F : FnTbl X.K X.w T d tbl) (ha : FE X T E a fa) (hg : Gl X x) (hm : X.mg x = some (.ref d)) (hd : (x == ("__debug__" : Str)) = false) (hb : behindInMarks .In (.Name x p) = false) : FE X T E (.Compare a [.In] [.Name x p] pos) (fInTbl tbl fa) := by
  obtain ⟨es, n, D⟩ := F.kd
  exact (pe_cmpR (op_in_kd D) ha (pe_glob (v := .ref d) hg hm (show RelV (.ref d) (.ref d) from rfl) hd) hb).imp fun _ _ _ h => in_tbl_imp F h
theorem t_intbl {p : Pos} (F : FnTbl X.K X.w T d tbl) (ha : FE X T E a fa) (hg : Gl X x) (hm : X.mg x = some (.ref d)) (hd : (x == ("__debug__" : Str)) = false) (hb : behindInMarks .In (.Name x p) = false) : FT X T E (.Compare a [.In] [.Name x p] pos) (fTest (fInTbl tbl fa)) := by
  obtain ⟨es, n, D⟩ := F.kd
  exact (pt_cmpR (op_in_kd D) ha (pe_glob (v := .ref d) hg hm (show RelV (.ref d) (.ref d) from rfl) hd) hb).imp fun _ _ _ h => by
    obtain ⟨B, r, Hi, ls, g, R, w⟩ := tF_test h
    exact in_tbl_imp F ⟨B, r, Hi, ls, g, R, w⟩
theorem x_attbl {p : Pos} (F : FnTbl X.K X.w T d tbl) (ha : FE X T E a fa) (hg : Gl X x) (hm : X.mg x = some (.ref d)) (hd : (x == ("__debug__" : Str)) = false) (hp : PlainIx a) : FE X T E (.Subscript (.Name x p) a pos) (fAtTbl tbl fa) :=
  (pe_ix ix_kdict (pe_glob (v := .ref d) hg hm (show RelV (.ref d) (.ref d) from rfl) hd) ha hp).imp fun σ H Q ⟨B, r, Hi, ls, g, R, w⟩ => by
    refine ⟨B, r, Hi, ls, g, R, w.bind.mono fun d' r1 Hi1 H1 g1 R1 G1 w1 v p1 => ?_⟩
    obtain ⟨y, ey, w2⟩ := w1.opt
    obtain ⟨z, ez, ey⟩ := Option.bind_eq_some_iff.mp ey
    obtain ⟨nm, en, rfl⟩ := Option.map_eq_some_iff.mp ey
    obtain rfl := strD_some ez
    cases p1
    obtain ⟨rr, h1, h2⟩ := F.look z
    rw [en] at h2
    obtain ⟨f, rfl, hf⟩ := h2
    obtain ⟨es, n, D⟩ := F.kd
    exact ⟨d, z, .ref f, rfl, rfl, ⟨es, n, .ref f, D.at_, D.lit, h1, rfl⟩, w2.ret R1 .refl _ (.fn hf)⟩
/-- x(e, ..), the local x holds a def -/
def fnD (o : Option LV) : Option Str := match o with
  | some (.dat (.fn nm)) => some nm
  | _ => none
def fCallV (i : Nat) (FT : Str → Fn) (l : Ls → M (List D)) : Ls → M D := fun ls => M.bind (M.opt (fnD ls[i]?)) fun nm => fCall (FT nm) l ls
theorem fnD_some {o : Option LV} {nm : Str} (h : fnD o = some nm) : o = some (.dat (.fn nm)) := by
  unfold fnD at h
  split at h
  · cases h; rfl
  · cases h
theorem x_callV {k n : Nat} (i : Nat) {FT : Str → Fn} {l : Ls → M (List D)} {e : Expr} {es : List Expr} {p : Pos} (hF : ∀ nm f, T.fn nm = some f → ∃ (fd : FuncData) (ps : List Str), FnG X.prog X.w X.K X.mg X.base k f fd ps (spF X.K T n (FT nm)) ∧ PySem.W.keepIn X.K (.ref f) = true ∧ Binds X.K fd ps [] ∧ ps.length = n) (hr : Room k X.A) (hgd : X.A.guards = some [])
    (hN : X.N[i]? = some x) (hv : Vis X.env.scope x) (tk : Takes X E)
    (ha : FA X T E (e :: es) l) (hc : LL n l) (hd : (x == ("__debug__" : Str)) = false) (hcd : (x == ("__classdict__" : Str)) = false) (he : starEach (e :: es) X.env = (false, eval e X.env) :: starEach es X.env) (hpl : (backTo pos (starEach es X.env)).any (·.1) = false) :
    FE X T E (.Call (.Name x p) (e :: es) [] pos) (fCallV i FT l) := by
  refine ⟨fun pins s σ H Q I ⟨B, r, Hi, ls, g, R, w⟩ => ?_⟩
  obtain ⟨nm, en, w0⟩ := w.bind.opt
  have w1 := w0.ret R .refl
  have el := fnD_some en
  obtain ⟨v0, hs0, p0⟩ := R.loc i _ el
  cases p0 with
  | @fn _ f hf =>
    obtain ⟨fd, ps, FG, hk, hb, hn⟩ := hF nm f hf
    refine wpAny_Call_Name_kw (thn ((pe_var (pos := p) hN hv hd hcd).run pins s σ H (fun v H1 => v = .ref f ∧ H1 = H) I ⟨.ref f, hs0, rfl, rfl⟩) fun u s0 ⟨v, H0, I0, r0, q0⟩ => ?_)
    obtain ⟨rfl, rfl⟩ := q0
    cases r0
    refine PySem.W.callWith_K (h₀ := X.base) I0.ok.mod.kin hk (thn (ha.run pos pins s0 σ _ (fun vs H1 => ∃ r1 Hi1 ds g1, Rel X.K T B r1 Hi1 H1 σ ls g1 ∧ RepAll X.K T r1 Hi1 vs ds ∧ ds.length = n ∧ WpG X.K T E B σ ls r1 Hi1 (M.bind (FT nm ds) (fun rv => M.ret rv.d) g1) (PD X.K T Q)) I0 ⟨B, r, Hi, ls, g, R, ?_⟩) fun us s1 ⟨vs, H1, I1, rv, r1, Hi1, ds, g1, R1, q1, hl, w1⟩ => ⟨I1.kIn, ?_⟩) he hpl
    · unfold fCall M.bind at w1
      unfold WpG at w1 ⊢
      cases q : l ls g with
      | none => rw [q] at w1; exact w1
      | some m =>
        obtain ⟨a, g'⟩ := m
        rw [q] at w1
        cases a with
        | ok ds => exact fun r' Hi' H' R' G' vs pv => ⟨r', Hi', ds, g', R', pv, hc ls g ds g' q, WpG.ge w1 G'⟩
        | error x => exact w1
    · exact run_F FG hr hgd hb hn tk I1 rv R1 q1 hl w1.bind fun rv' r' Hi' H' g' R' G' Rb h v z => by
        obtain ⟨Hi2, R2, G2, p2⟩ := rv_data Rb z
        exact WpG.ret h (R1.back R2 (G'.trans G2)) G2 v p2
/-! ### more operations -/
def dMulS : D → D → Option D
  | .int i, .int j => if (-(2 ^ 64) < j ∧ j < 2 ^ 64) then some (.int (i * j)) else none
  | _, _ => none
theorem os_mulS : OpS X T (rI CMul fun i j => .int (i * j)) dMulS := by
  intro E B r Hi H σ ls g v u d e x Q R p q ex w
  unfold dMulS at ex
  split at ex
  · split at ex
    · cases ex
      cases p
      cases q
      exact ⟨_, _, rfl, rfl, .inr (by assumption), w.ret R .refl _ (.int _)⟩
    · cases ex
  · cases ex
def dInt1 : List D → Option D
  | [.int i] => some (.int i)
  | [.bl k] => some (.int (if k then 1 else 0))
  | _ => none
theorem cs_int1 : CallS X T (fun xs H Q => (∃ i, xs = [.int i] ∧ Q (.int i) H) ∨ ∃ k, xs = [.bl k] ∧ Q (.int (if k then 1 else 0)) H) dInt1 := by
  intro E B r Hi H σ ls g vs ds x Q R p ex w
  unfold dInt1 at ex
  split at ex
  · cases ex
    cases p with
    | cons h t =>
      cases t
      cases h
      exact .inl ⟨_, rfl, w.ret R .refl _ (.int _)⟩
  · cases ex
    cases p with
    | cons h t =>
      cases t
      cases h
      exact .inr ⟨_, rfl, w.ret R .refl _ (.int _)⟩
  · cases ex
theorem c_int {l : Ls → M (List D)} {pn : Pos} (hm : X.mg "int" = none) (ha : FA X T E [a] l) (hg : Gl X "int") (he : starEach [a] X.env = (false, eval a X.env) :: starEach [] X.env) (hpl : (backTo pos (starEach [] X.env)).any (·.1) = false) : FE X T E (.Call (.Name "int" pn) [a] [] pos) (fCB dInt1 l) := fe_callTy call_int1 cs_int1 hg hm (by decide +kernel) ha (by decide) (by decide) he hpl
/-- tuple(range(n)), list(range(n)) -/
def fTupRg (f : Ls → M D) : Ls → M D := fun ls => M.bind (f ls) fun d => M.opt (match d with
  | .int j => if -(2 ^ 62) ≤ j ∧ j < 16777216 then some (.tup (rangeD 0 j.toNat)) else none
  | _ => none)
theorem rep_rg {K : PySem.W.Frag} {r : List Addr} {Hi : Hp} (j : Int) : RepAll K T r Hi (rgV 0 j) (rangeD 0 j.toNat) := by
  unfold rgV rangeD
  rw [show (j - 0).toNat = j.toNat by omega]
  generalize List.range j.toNat = xs
  induction xs with
  | nil => exact .nil
  | cons x xs ih => exact .cons (.int _) ih
theorem x_tupRg {p2 p1 pos2 : Pos} (hc : X.calm = true) (ht : X.mg "tuple" = none) (hr : X.mg "range" = none) (ha : FE X T E a fa) (hg : Gl X "tuple") (hg2 : Gl X "range") (na : starEach [a] X.env = (false, eval a X.env) :: starEach [] X.env) (nb : starEach [.Call (.Name "range" p1) [a] [] pos2] X.env = (false, eval (.Call (.Name "range" p1) [a] [] pos2) X.env) :: starEach [] X.env) :
    FE X T E (.Call (.Name "tuple" p2) [.Call (.Name "range" p1) [a] [] pos2] [] pos) (fTupRg fa) :=
  (pe_tupRg hc hg ht (prg_1 hg2 hr ha na) nb).imp fun σ H Q ⟨B, r, Hi, ls, g, R, w⟩ => ⟨B, r, Hi, ls, g, R, w.bind.mono fun d r1 Hi1 H1 g1 R1 G1 w1 v p1 => by
    obtain ⟨y, ey, w2⟩ := w1.opt
    cases p1 with
    | int j =>
      dsimp only at ey
      split at ey
      · rename_i hj
        cases ey
        exact ⟨j, rfl, ⟨by omega, by omega, by omega, by omega, by omega⟩, new_tup R1 (rep_rg j) w2⟩
      · cases ey
    | _ => cases ey⟩
end

inductive TblEnt (T : Tab) : List DictEntry → List (Str × Str) → Prop
  | nil : TblEnt T [] []
  | cons {k nm : Str} {t : Tok} {hs : Int} {a : Addr} {es : List DictEntry} {tbl : List (Str × Str)} : T.fn nm = some a → TblEnt T es tbl → TblEnt T (⟨hs, .str k t, .ref a⟩ :: es) ((k, nm) :: tbl)
theorem TblEnt.find {T : Tab} {z : Str} : ∀ {es : List DictEntry} {tbl : List (Str × Str)}, TblEnt T es tbl → es.any (·.refKey) = false ∧ match tblLook tbl z with
    | none => es.find? (·.key.isStr z) = none
    | some nm => ∃ e a, es.find? (·.key.isStr z) = some e ∧ e.val = .ref a ∧ T.fn nm = some a
  | _, _, .nil => ⟨rfl, rfl⟩
  | _, _, .cons (k := k) (nm := nm) (t := t) (hs := hs) (a := a) (es := es) (tbl := tbl) h r => by
    obtain ⟨h1, h2⟩ := TblEnt.find (z := z) r
    refine ⟨by rw [List.any_cons, h1]; rfl, ?_⟩
    have e0 : (Value.str k t).isStr z = (k == z) := rfl
    by_cases e : k = z
    · subst e
      have e1 : tblLook ((k, nm) :: tbl) k = some nm := by unfold tblLook; rw [List.find?_cons_of_pos (by simp)]; rfl
      rw [e1]
      exact ⟨_, a, List.find?_cons_of_pos (by rw [e0]; simp), rfl, h⟩
    · have e1 : tblLook ((k, nm) :: tbl) z = tblLook tbl z := by unfold tblLook; rw [List.find?_cons_of_neg (by simpa using e)]
      rw [e1, List.find?_cons_of_neg (by rw [e0]; simpa using e)]
      exact h2
theorem fnTbl_of {K : PySem.W.Frag} {w : World} {T : Tab} {d : Addr} {es : List DictEntry} {n : Nat} {tbl : List (Str × Str)} (tl : K.lookup d = some ⟨.type "dict", none, .dict es.toArray n, #[]⟩) (tk : PySem.W.KeysLit w.params es) (lo : (d == sysModules) = false) (h : TblEnt T es tbl) : FnTbl K w T d tbl := by
  refine ⟨⟨_, n, tl, tk, lo⟩, fun z => ?_⟩
  obtain ⟨h1, h2⟩ := h.find (z := z)
  unfold PySem.W.nsIn
  rw [tl]
  dsimp only
  split at h2
  · rename_i e
    rw [h2]
    exact ⟨none, by rw [h1]; rfl, rfl⟩
  · rename_i nm e
    obtain ⟨en, a, h3, h4, h5⟩ := h2
    rw [h3]
    exact ⟨some (.ref a), by rw [← h4], ⟨a, rfl, h5⟩⟩
end G6

namespace G6
open PySem PySem.Spec L2

/-! ### a, b = data or objects of one's own -/
def lvR : RV → LV
  | .dat d => .dat d
  | .own o => .own o
def PR_ (K : PySem.W.Frag) (T : Tab) (B : Base) (σ : L2.St) (ls : Ls) (Q : VK) : Pst RV := fun rv r' Hi' H' g' => match rv with
  | .dat d => ∀ v, Rep K T r' Hi' v d → Q v H'
  | .own o => ∀ p ho H2, Rel K T B r' Hi' H2 σ ls g' → Loose B r' Hi' H2 σ ls p → H2 p = some ho → OwnRel K T r' Hi' ho o → Q (.ref p) H2
def tR (K : PySem.W.Frag) (T : Tab) (E : XE) (f : Ls → M RV) : TE := fun σ H Q => ∃ B r Hi ls g, Rel K T B r Hi H σ ls g ∧ WpG K T E B σ ls r Hi (f ls g) (PR_ K T B σ ls Q)
abbrev FR (X : Cx) (T : Tab) (E : XE) (e : Expr) (f : Ls → M RV) : Prop := PE X e (tR X.K T E f)
def rD (f : Ls → M D) : Ls → M RV := fun ls => M.bind (f ls) fun d => M.ret (.dat d)
def rO (f : Ls → M OV) : Ls → M RV := fun ls => M.bind (f ls) fun o => M.ret (.own o)
section
variable {X : Cx} {T : Tab} {E : XE} {pos : Pos}
theorem fr_d {e : Expr} {f : Ls → M D} (h : FE X T E e f) : FR X T E e (rD f) := h.imp fun σ H Q ⟨B, r, Hi, ls, g, R, w⟩ => ⟨B, r, Hi, ls, g, R, w.bind.mono fun d r1 Hi1 H1 g1 R1 G1 w1 v p => WpG.ret w1 R1 .refl v p⟩
theorem fr_o {e : Expr} {f : Ls → M OV} (h : FEO X T E e f) : FR X T E e (rO f) := h.imp fun σ H Q ⟨B, r, Hi, ls, g, R, w⟩ => ⟨B, r, Hi, ls, g, R, w.bind.mono fun o r1 Hi1 H1 g1 R1 G1 w1 p ho H2 R2 l hp q => WpG.ret w1 R1 .refl p ho H2 R2 l hp q⟩
def sParR (i j : Nat) (f1 f2 : Ls → M RV) : S := sB f1 fun a ls g => match noX (f2 ls) g with
  | some (.ok b, g') => some (.nx ((ls.set i (lvR a)).set j (lvR b)), g')
  | _ => none
theorem own_setO {σ : L2.St} {ls : Ls} {i : Nat} {p : Addr} {o : OV} {a : Addr} (h : Own (σ.set i (some (.ref p))) (ls.set i (.own o)) a) : a = p ∨ Own σ ls a := by
  obtain ⟨j, u, e1, e2⟩ := h
  by_cases z : j = i
  · subst z
    left
    rw [List.getElem?_set_self'] at e2
    cases q : σ[j]? with
    | none => rw [q] at e2; cases e2
    | some y => rw [q] at e2; cases e2; rfl
  · rw [List.getElem?_set_ne (Ne.symm z)] at e1 e2
    exact .inr ⟨j, u, e1, e2⟩
theorem fs_parR (i j : Nat) {x y : Str} {a b : Expr} {f1 f2 : Ls → M RV} {px py pt : Pos} {kt k2 pt2} (hc : X.calm = true) (hN : X.N.Nodup) (hi : X.N[i]? = some x) (hj : X.N[j]? = some y) (hij : i ≠ j)
    (hx : X.env.scope.names.lookup x = some .local) (hy : X.env.scope.names.lookup y = some .local) (h1 : FR X T E a f1) (h2 : FR X T E00 b f2) (ha : starEach [a, b] X.env = (false, eval a X.env) :: starEach [b] X.env) (hb : starEach [b] X.env = (false, eval b X.env) :: starEach [] X.env)
    (hw : swappedStores [.Tuple [.Name x px, .Name y py] kt pt] (.Tuple [a, b] k2 pt2) X.env = pure (some [x, y]))
    (hs : swapsWithSole [.Tuple [.Name x px, .Name y py] kt pt] (.Tuple [a, b] k2 pt2) pos.line X.env = pure false) :
    FS X T E (.Assign [.Tuple [.Name x px, .Name y py] kt pt] (.Tuple [a, b] k2 pt2) pos) (sParR i j f1 f2) :=
  (ps_par hc hN hi hj hij hx hy (pa_cons h1 (pa_cons h2 pa_nil hb) ha) hw hs).imp fun De σ H ⟨B, r, Hi, ls, g, R, w⟩ => ⟨B, r, Hi, ls, g, R, w.bind.mono fun rv r1 Hi1 H1 g1 R1 G1 w1 => by
    have w1 : WpS X.K T E B r1 Hi1 (match noX (f2 ls) g1 with
      | some (.ok b, g') => some (.nx ((ls.set i (lvR rv)).set j (lvR b)), g')
      | _ => none) De := w1
    cases en : noX (f2 ls) g1 with
    | none => rw [en] at w1; exact w1.elim
    | some q =>
      obtain ⟨bb, eb, e2⟩ := noX_some en
      obtain ⟨qb, g2⟩ := q
      cases eb
      rw [en] at w1
      have w2 : ∀ σ' r' Hi' H', Rel X.K T B r' Hi' H' σ' ((ls.set i (lvR rv)).set j (lvR bb)) g2 → Ge r1 Hi1 r' Hi' → De.nx σ' H' := w1
      cases rv with
      | dat d1 =>
        intro v1 p1
        refine ⟨B, r1, Hi1, ls, g1, R1, ?_⟩
        rw [e2]
        intro r2 Hi2 H2 R2 G2
        cases bb with
        | dat d2 => exact fun v2 p2 => ⟨v1, v2, rfl, w2 _ r2 Hi2 H2 ((R2.setD (p1.mono G2)).setD p2) G2⟩
        | own o2 => exact fun p ho H3 R3 l hp q => ⟨v1, .ref p, rfl, w2 _ r2 Hi2 H3 ((R3.setD (p1.mono G2)).setL ⟨l.hi, l.hr, fun z => l.ho (own_set z), l.hb⟩ hp q) G2⟩
      | own o1 =>
        intro p1 ho1 H2 R2 l1 hp1 q1
        refine ⟨Base.all H2 r1 Hi1 σ ls, r1, Hi1, ls, g1, R2.all, ?_⟩
        rw [e2]
        have nf : ¬ (Base.all H2 r1 Hi1 σ ls).f0 p1 := fun z => z.elim l1.hr l1.ho
        have stay : ∀ {r5 : List Addr} {Hi5 H5 : Hp} {g5 : Gs}, Rel X.K T (Base.all H2 r1 Hi1 σ ls) r5 Hi5 H5 σ ls g5 → H5 p1 = some ho1 ∧ Loose B r5 Hi5 H5 σ ls p1 ∧ Rel X.K T B r5 Hi5 H5 σ ls g5 := fun {r5 Hi5 H5 g5} R5 => by
          refine ⟨R5.keep p1 ho1 hp1 nf, ⟨?_, fun z => ?_, l1.ho, l1.hb⟩, R2.thru R5⟩
          · cases e : Hi5 p1 with
            | none => rfl
            | some u =>
              rcases R5.newI p1 (by rw [e]; simp) with z | z | z
              · exact absurd l1.hi z
              · exact absurd z nf
              · rw [show (Base.all H2 r1 Hi1 σ ls).H0 p1 = H2 p1 from rfl, hp1] at z; cases z
          · rcases R5.newR p1 z with z | z
            · exact nf z
            · rw [show (Base.all H2 r1 Hi1 σ ls).H0 p1 = H2 p1 from rfl, hp1] at z; cases z
        intro r3 Hi3 H3 R3 G3
        cases bb with
        | dat d2 =>
          intro v2 p2
          obtain ⟨s1, s2, s3⟩ := stay R3
          exact ⟨.ref p1, v2, rfl, w2 _ r3 Hi3 H3 ((s3.setL s2 s1 (q1.mono G3)).setD p2) G3⟩
        | own o2 =>
          intro p ho H4 R4 l hp q
          obtain ⟨s1, s2, s3⟩ := stay R4
          have ne : p ≠ p1 := fun z => by
            subst z
            rcases l.hb with h | h
            · exact nf h
            · rw [show (Base.all H2 r1 Hi1 σ ls).H0 p = H2 p from rfl, hp1] at h; cases h
          have hb2 : B.f0 p ∨ B.H0 p = none := by
            rcases l.hb with h | h
            · rcases h with h | h
              · exact R2.newR p h
              · exact R2.newO p h
            · right
              cases z : B.H0 p with
              | none => rfl
              | some u => exact absurd h (R2.dom p (by rw [z]; simp))
          have l2 : Loose B r3 Hi3 H4 (σ.set i (some (.ref p1))) (ls.set i (.own o1)) p := ⟨l.hi, l.hr, fun z => (own_setO z).elim ne l.ho, hb2⟩
          exact ⟨.ref p1, .ref p, rfl, w2 _ r3 Hi3 H4 ((s3.setL s2 s1 (q1.mono G3)).setL l2 hp q) G3⟩⟩

/-! ### x is True -/
def dIsBl : D → D → Option D
  | .bl a, .bl b => some (.bl (decide (a = b)))
  | _, _ => none
def dIsntBl : D → D → Option D
  | .bl a, .bl b => some (.bl (!decide (a = b)))
  | _, _ => none
theorem os_isBl : OpS X T (fun x y H Q => ∃ a b, x = .bl a ∧ y = .bl b ∧ Q (.bl (decide (a = b))) H) dIsBl := by
  intro E B r Hi H σ ls g v u d e x Q R p q ex w
  unfold dIsBl at ex
  split at ex
  · cases ex; cases p; cases q; exact ⟨_, _, rfl, rfl, w.ret R .refl _ (.bl _)⟩
  · cases ex
theorem os_isntBl : OpS X T (fun x y H Q => ∃ a b, x = .bl a ∧ y = .bl b ∧ Q (.bl (!decide (a = b))) H) dIsntBl := by
  intro E B r Hi H σ ls g v u d e x Q R p q ex w
  unfold dIsntBl at ex
  split at ex
  · cases ex; cases p; cases q; exact ⟨_, _, rfl, rfl, w.ret R .refl _ (.bl _)⟩
  · cases ex
section
variable {a b : Expr} {fa fb : Ls → M D}
theorem d_isbl (ha : FE X T E a fa) (hb : FE X T E b fb) : FE X T E (.Compare a [.Is] [b] pos) (fOp dIsBl fa fb) := fe_cmp op_is_bl os_isBl ha hb (nomark _)
theorem d_isntbl (ha : FE X T E a fa) (hb : FE X T E b fb) : FE X T E (.Compare a [.IsNot] [b] pos) (fOp dIsntBl fa fb) := fe_cmp op_isnot_bl os_isntBl ha hb (nomark _)
theorem t_isbl (ha : FE X T E a fa) (hb : FE X T E b fb) : FT X T E (.Compare a [.Is] [b] pos) (fTest (fOp dIsBl fa fb)) := ft_cmp op_is_bl os_isBl ha hb (nomark _)
theorem t_isntbl (ha : FE X T E a fa) (hb : FE X T E b fb) : FT X T E (.Compare a [.IsNot] [b] pos) (fTest (fOp dIsntBl fa fb)) := ft_cmp op_isnot_bl os_isntBl ha hb (nomark _)
end
/-! ### an own list beside [] -/
def gOwn (k : Bool) (i : Nat) : Ls → M Bool := fun ls => M.opt ((ownL ls i).bind fun ds => (D.pys ds).bind fun ps => if SeqAt.shaped (.list ps) = true then some (k == ps.isEmpty) else none)
theorem gOwn_inv {k : Bool} {i : Nat} {ls : Ls} {b : Bool} (h : ((ownL ls i).bind fun ds => (D.pys ds).bind fun ps => if SeqAt.shaped (.list ps) = true then some (k == ps.isEmpty) else none) = some b) :
    ∃ ds ps, ls[i]? = some (.own (.lst ds)) ∧ D.pys ds = some ps ∧ SeqAt.shaped (.list ps) = true ∧ b = (k == ps.isEmpty) := by
  obtain ⟨ds, e1, h⟩ := Option.bind_eq_some_iff.mp h
  obtain ⟨ps, e2, h⟩ := Option.bind_eq_some_iff.mp h
  split at h
  · rename_i hs; cases h; exact ⟨ds, ps, ownL_some e1, e2, hs, rfl⟩
  · cases h
theorem eqv_nil {ps : List PyData} : PyData.eqv (.list ps) (.list []) = ps.isEmpty := by
  cases ps <;> rfl
section
variable {x : Str} {p1 p2 : Pos} {i : Nat}
theorem own_dp {K : PySem.W.Frag} {B : Base} {r : List Addr} {Hi H : Hp} {σ : L2.St} {ls : Ls} {g : Gs} {ds : List D} {ps : List PyData} (R : Rel K T B r Hi H σ ls g) (e1 : ls[i]? = some (.own (.lst ds))) (e2 : D.pys ds = some ps) (e3 : SeqAt.shaped (.list ps) = true) :
    ∃ a, σ[i]? = some (some (.ref a)) ∧ ∀ p, H p = none → Dp K (upd H p (.lst [])) (.ref a) (.list ps) ∧ Dp K (upd H p (.lst [])) (.ref p) (.list []) := by
  obtain ⟨a, ho, h1, h2, h3, h4, h5⟩ := R.own i _ e1
  cases h3 with
  | lst al =>
    refine ⟨a, h1, fun p hp => ⟨.lst (L2.SqL.of (by rw [upd_ne (fun z => by rw [z, hp] at h2; cases h2)]; exact h2)) (RepAll.dp (fun b o e => ?_) al e2 (by
      have := SeqAt.canLay_of_shaped e3
      simpa [PyData.canLay0] using this)), .lst (L2.SqL.of upd_same) .nil⟩⟩
    have := R.sub b o e
    rw [upd_ne (fun z => by rw [z, hp] at this; cases this)]
    exact this
theorem t_ownNe (hu : X.A.units + 64 < cLine) (hN : X.N[i]? = some x) (hv : Vis X.env.scope x) (hd : (x == ("__debug__" : Str)) = false) (hcd : (x == ("__classdict__" : Str)) = false) : FT X T E (.Compare (.Name x p1) [.NotEq] [.List [] p2] pos) (gOwn false i) :=
  (pt_cmpR (op_neD hu) (pe_var hN hv hd hcd) (pe_lst pa_nil) (nomark _)).imp fun σ H Q ⟨B, r, Hi, ls, g, R, w⟩ => by
    obtain ⟨b, eb, w2⟩ := w.opt
    obtain ⟨ds, ps, e1, e2, e3, rfl⟩ := gOwn_inv eb
    obtain ⟨a, h1, h2⟩ := own_dp R e1 e2 e3
    refine ⟨.ref a, h1, Nat.zero_le _, fun p hp => ?_⟩
    obtain ⟨k1, k2⟩ := h2 p hp
    refine ⟨_, _, k1, k2, e3, rfl, _, rfl, ?_⟩
    rw [eqv_nil]
    have w3 := w2 r Hi _ (R.junk (o := .lst []) hp) .refl
    have : (false == ps.isEmpty) = !ps.isEmpty := by cases ps.isEmpty <;> rfl
    rw [this] at w3
    exact w3
theorem t_ownEq (hu : X.A.units + 64 < cLine) (hN : X.N[i]? = some x) (hv : Vis X.env.scope x) (hd : (x == ("__debug__" : Str)) = false) (hcd : (x == ("__classdict__" : Str)) = false) : FT X T E (.Compare (.Name x p1) [.Eq] [.List [] p2] pos) (gOwn true i) :=
  (pt_cmpR (op_eqD hu) (pe_var hN hv hd hcd) (pe_lst pa_nil) (nomark _)).imp fun σ H Q ⟨B, r, Hi, ls, g, R, w⟩ => by
    obtain ⟨b, eb, w2⟩ := w.opt
    obtain ⟨ds, ps, e1, e2, e3, rfl⟩ := gOwn_inv eb
    obtain ⟨a, h1, h2⟩ := own_dp R e1 e2 e3
    refine ⟨.ref a, h1, Nat.zero_le _, fun p hp => ?_⟩
    obtain ⟨k1, k2⟩ := h2 p hp
    refine ⟨_, _, k1, k2, e3, rfl, _, rfl, ?_⟩
    rw [eqv_nil]
    have w3 := w2 r Hi _ (R.junk (o := .lst []) hp) .refl
    have : (true == ps.isEmpty) = ps.isEmpty := by cases ps.isEmpty <;> rfl
    rw [this] at w3
    exact w3
end
/-! ### y.append(x.pop(e)), len of an own list -/
def fLenV (i : Nat) : Ls → M D := fun ls => match ownL ls i with
  | some ds => M.ret (.int ds.length)
  | none => fCB dLen (lCons (fVar i) lNil) ls
theorem c_lenV (i : Nat) {x : Str} {pn p1 : Pos} (hm : X.mg "len" = none) (hN : X.N[i]? = some x) (hv : Vis X.env.scope x) (hd : (x == ("__debug__" : Str)) = false) (hcd : (x == ("__classdict__" : Str)) = false) (hg : Gl X "len") (he : starEach [.Name x p1] X.env = (false, eval (.Name x p1) X.env) :: starEach [] X.env) (hpl : (backTo pos (starEach [] X.env)).any (·.1) = false) :
    FE X T E (.Call (.Name "len" pn) [.Name x p1] [] pos) (fLenV i) :=
  (pe_callB call_len hg hm PySem.boot_len (pa_cons (pe_var hN hv hd hcd) pa_nil he) (by decide) (by decide) he hpl).imp fun σ H Q ⟨B, r, Hi, ls, g, R, w⟩ => by
    unfold fLenV at w
    cases e : ownL ls i with
    | some ds =>
      rw [e] at w
      obtain ⟨a, ho, h1, h2, h3, h4, h5⟩ := R.own i _ (ownL_some e)
      cases h3 with
      | lst al => exact ⟨.ref a, h1, _, _, rfl, .inl ⟨_, L2.SqL.of h2, al.length.symm⟩, WpG.ret w R .refl _ (.int _)⟩
    | none =>
      rw [e] at w
      have w2 : WpG X.K T E B σ ls r Hi (fCB dLen (lCons (fVar i) lNil) ls g) (PD X.K T Q) := w
      have w3 := tF_cb (X := X) (T := T) (E := E) cs_len (σ := σ) (H := H) (Q := Q) ⟨B, r, Hi, ls, g, R, w2⟩
      unfold fCB lCons lNil fVar at w2
      cases el : ls[i]? with
      | none => simp only [el] at w2; exact w2.elim
      | some l =>
        cases l with
        | un => simp only [el] at w2; exact w2.elim
        | own o => simp only [el] at w2; exact w2.elim
        | dat d =>
          obtain ⟨v, k1, k2⟩ := R.loc i d el
          simp only [el] at w2
          refine ⟨v, k1, ?_⟩
          have w4 : WpG X.K T E B σ ls r Hi (M.opt (dLen [d]) g) (PD X.K T Q) := w2
          obtain ⟨y, ey, w5⟩ := WpG.opt w4
          exact cs_len E B r Hi H σ ls g [v] [d] y Q R (.cons k2 .nil) ey w5
def sAppPop (j i : Nat) (f : Ls → M D) : S := fun ls g => match ownL ls i with
  | some xs => match ownL ls j with
    | some ys => sB f (fun d ls g => match d with
      | .int k => match xs[k.toNat]? with
        | some z => if 0 ≤ k ∧ xs.length ≤ 16777216 ∧ ys.length < sizeLine then some (.nx ((ls.set i (.own (.lst (xs.eraseIdx k.toNat)))).set j (.own (.lst (ys ++ [z])))), g) else none
        | none => none
      | _ => none) ls g
    | none => none
  | none => none
theorem RepAll.erase {K : PySem.W.Frag} {r : List Addr} {Hi : Hp} : ∀ {vs : List V} {ds : List D} (k : Nat), RepAll K T r Hi vs ds → RepAll K T r Hi (vs.eraseIdx k) (ds.eraseIdx k)
  | _, _, _, .nil => .nil
  | _, _, 0, .cons _ t => t
  | _, _, k + 1, .cons h t => .cons h (RepAll.erase k t)
theorem fs_appPop (j i : Nat) {x y : Str} {fa : Ls → M D} {pn pm apos cpos ap2 cp2 : Pos} {a : Expr} (hij : i ≠ j) (hN : X.N[i]? = some x) (hM : X.N[j]? = some y) (hv : Vis X.env.scope x) (hv2 : Vis X.env.scope y) (ha : FE X T E a fa) (hd : (x == ("__debug__" : Str)) = false)
    (hcd : (x == ("__classdict__" : Str)) = false) (hd2 : (y == ("__debug__" : Str)) = false) (hcd2 : (y == ("__classdict__" : Str)) = false)
    (hs : swapsWith (.Call (.Attribute (.Name y pm) "append" ap2) [.Call (.Attribute (.Name x pn) "pop" apos) [a] [] cpos] [] cp2) none pos.line X.env = pure false)
    (hbase : attributeBase (.Name x pn) "pop" X.env (eval (.Name x pn) X.env) = eval (.Name x pn) X.env) (hbase2 : attributeBase (.Name y pm) "append" X.env (eval (.Name y pm) X.env) = eval (.Name y pm) X.env)
    (hfew : ((backTo cpos (starEach [a] X.env)).all (fun x => !x.1) && (backToKw cpos (keywordEach [] X.env)).all (fun x => x.1.isSome) && decide ([a].length + ([] : List Keyword).length + (if ([] : List Keyword).isEmpty then 0 else 1) < 30)) = true)
    (hfew2 : ((backTo cp2 (starEach [.Call (.Attribute (.Name x pn) "pop" apos) [a] [] cpos] X.env)).all (fun x => !x.1) && (backToKw cp2 (keywordEach [] X.env)).all (fun x => x.1.isSome) && decide ([Expr.Call (.Attribute (.Name x pn) "pop" apos) [a] [] cpos].length + ([] : List Keyword).length + (if ([] : List Keyword).isEmpty then 0 else 1) < 30)) = true)
    (hline : (apos.endLine == cpos.line) = true) (hline2 : (ap2.endLine == cp2.line) = true) (hst : starEach [a] X.env = (false, eval a X.env) :: starEach [] X.env)
    (hst2 : starEach [.Call (.Attribute (.Name x pn) "pop" apos) [a] [] cpos] X.env = (false, eval (.Call (.Attribute (.Name x pn) "pop" apos) [a] [] cpos) X.env) :: starEach [] X.env) (hpl : (backTo cpos (starEach [] X.env)).any (·.1) = false) (hpl2 : (backTo cp2 (starEach [] X.env)).any (·.1) = false) :
    FS X T E (.Expr (.Call (.Attribute (.Name y pm) "append" ap2) [.Call (.Attribute (.Name x pn) "pop" apos) [a] [] cpos] [] cp2) pos) (sAppPop j i fa) :=
  (ps_expr (pe_bm PySem.F.plainAttrs_list PySem.F.slot_list_append PySem.F.type_list_append mt_append (pe_var hM hv2 hd2 hcd2)
    (pa_cons (pe_bm PySem.F.plainAttrs_list PySem.F.slot_list_pop PySem.F.type_list_pop mt_popAt (pe_var hN hv hd hcd) (pa_cons ha pa_nil hst) hbase hfew hline hst hpl) pa_nil hst2) hbase2 hfew2 hline2 hst2 hpl2) hs).imp fun De σ H ⟨B, r, Hi, ls, g, R, w⟩ => by
    unfold sAppPop at w
    cases e : ownL ls i with
    | none => rw [e] at w; exact w.elim
    | some xs =>
    cases e' : ownL ls j with
    | none => rw [e, e'] at w; exact w.elim
    | some ys =>
    rw [e, e'] at w
    have el := ownL_some e
    have el' := ownL_some e'
    obtain ⟨px, hox, x1, x2, x3, x4, x5⟩ := R.own i _ el
    obtain ⟨py, hoy, y1, y2, y3, y4, y5⟩ := R.own j _ el'
    cases x3 with
    | lst ax =>
    cases y3 with
    | lst ay =>
    refine ⟨.ref py, y1, .inl ⟨rfl, _, L2.SqL.of y2⟩, .ref px, x1, .inl ⟨rfl, _, L2.SqL.of x2⟩, B, r, Hi, ls, g, R, w.bind.mono fun d r1 Hi1 H1 g1 R1 G1 w1 v p1 => ?_⟩
    cases p1 with
    | int k =>
      cases ez : xs[k.toNat]? with
      | none =>
        have w1 : WpS X.K T E B r1 Hi1 (match xs[k.toNat]? with
          | some z => if 0 ≤ k ∧ xs.length ≤ 16777216 ∧ ys.length < sizeLine then some (.nx ((ls.set i (.own (.lst (xs.eraseIdx k.toNat)))).set j (.own (.lst (ys ++ [z])))), g1) else none
          | none => none) De := w1
        rw [ez] at w1
        exact w1.elim
      | some z =>
        have w1 : WpS X.K T E B r1 Hi1 (match xs[k.toNat]? with
          | some z => if 0 ≤ k ∧ xs.length ≤ 16777216 ∧ ys.length < sizeLine then some (.nx ((ls.set i (.own (.lst (xs.eraseIdx k.toNat)))).set j (.own (.lst (ys ++ [z])))), g1) else none
          | none => none) De := w1
        rw [ez] at w1
        dsimp only at w1
        split at w1
        · rename_i hc
          obtain ⟨k0, kl, ky⟩ := hc
          obtain ⟨px', hox', a1, a2, a3, a4, a5⟩ := R1.own i _ el
          obtain ⟨py', hoy', b1, b2, b3, b4, b5⟩ := R1.own j _ el'
          rw [x1] at a1
          cases a1
          rw [y1] at b1
          cases b1
          cases a3 with
          | @lst vx _ ax1 =>
          cases b3 with
          | @lst vy _ ay1 =>
          have hk : k.toNat < xs.length := (List.getElem?_eq_some_iff.mp ez).1
          obtain ⟨vz, hz, pz⟩ := ax1.get ez
          have hlx : vx.length = xs.length := ax1.length
          have ne : px ≠ py := fun z => by
            subst z
            exact hij (R1.sep i j _ _ px el el' x1 y1)
          refine ⟨px, vx, k, k.toNat, vz, rfl, rfl, a2, by omega, by omega, ?_, hz, ?_⟩
          · have h0 := (ixN_seq (n := vx.length) (i := k) (j := k.toNat) (by unfold ixN; rw [if_pos k0, if_pos (by omega)])).1
            exact h0
          · refine ⟨py, vy, vz, rfl, rfl, by rw [upd_ne (Ne.symm ne)]; exact b2, by rw [ay1.length]; exact ky, ?_⟩
            have R2 := R1.updO el x1 (.lst (RepAll.erase k.toNat ax1))
            have R3 := R2.updO (i := j) (p := py) (o := .lst ys) (by rw [List.getElem?_set_ne hij]; exact el') y1 (.lst (ay1.app (.cons pz .nil)))
            exact w1 _ r1 Hi1 _ R3 .refl
        · exact w1.elim
    | _ => exact w1.elim
end
end G6

namespace G6
open PySem PySem.Spec L2

/-! ### x[k] = e, x an own list -/
def sSetAt (i : Nat) (fk fv : Ls → M D) : S := fun ls g => match ownL ls i with
  | some xs => sB fv (fun d => sB fk fun k ls g => match k with
    | .int j => match ixN xs.length j with
      | some n => some (.nx (ls.set i (.own (.lst (xs.set n d)))), g)
      | none => none
    | _ => none) ls g
  | none => none
section
variable {X : Cx} {T : Tab} {E : XE} {pos : Pos}
theorem x_setAt (i : Nat) {x : Str} {px ps : Pos} {ek ev : Expr} {fk fv : Ls → M D} (hN : X.N[i]? = some x) (hv : Vis X.env.scope x) (hd : (x == ("__debug__" : Str)) = false) (hcd : (x == ("__classdict__" : Str)) = false) (hk : FE X T E ek fk) (he : FE X T E ev fv)
    (hA : ∀ v, assign (.Subscript (.Name x px) ek ps) X.env v = (do
      let ov ← holding [v] (eval (.Name x px) X.env)
      let iv ← holding [v, ov] (eval ek X.env)
      standAt ps
      holding [v, ov, iv] (setItem ov iv v)
      release [v, ov, iv] []))
    (hs : swapsWithSole [.Subscript (.Name x px) ek ps] ev pos.line X.env = pure false) (hw : swappedStores [.Subscript (.Name x px) ek ps] ev X.env = pure none) (h1 : (assignEach [.Subscript (.Name x px) ek ps] X.env).map (·.2) = [assign (.Subscript (.Name x px) ek ps) X.env]) :
    FS X T E (.Assign [.Subscript (.Name x px) ek ps] ev pos) (sSetAt i fk fv) :=
  (ps_asg he (pg_sub (pe_var hN hv hd hcd) hk set_list hA) hs hw h1).imp fun De σ H ⟨B, r, Hi, ls, g, R, w⟩ => by
    unfold sSetAt at w
    cases e : ownL ls i with
    | none => rw [e] at w; exact w.elim
    | some xs =>
    rw [e] at w
    have el := ownL_some e
    refine ⟨B, r, Hi, ls, g, R, w.bind.mono fun d r1 Hi1 H1 g1 R1 G1 w1 v pv => ?_⟩
    obtain ⟨p, ho, a1, a2, a3, a4, a5⟩ := R1.own i _ el
    refine ⟨.ref p, a1, B, r1, Hi1, ls, g1, R1, (WpS.bind w1).mono fun k r2 Hi2 H2 g2 R2 G2 w2 kv pk => ?_⟩
    cases pk with
    | int j =>
      cases ej : ixN xs.length j with
      | none =>
        have w2 : WpS X.K T E B r2 Hi2 (match ixN xs.length j with
          | some n => some (.nx (ls.set i (.own (.lst (xs.set n d)))), g2)
          | none => none) De := w2
        rw [ej] at w2
        exact w2.elim
      | some n =>
        have w2 : WpS X.K T E B r2 Hi2 (match ixN xs.length j with
          | some n => some (.nx (ls.set i (.own (.lst (xs.set n d)))), g2)
          | none => none) De := w2
        rw [ej] at w2
        obtain ⟨p', ho', b1, b2, b3, b4, b5⟩ := R2.own i _ el
        rw [a1] at b1
        cases b1
        cases b3 with
        | @lst vx _ ax =>
        exact ⟨p, vx, j, n, rfl, rfl, b2, by rw [ax.length]; exact ej, w2 _ r2 Hi2 _ (R2.updO el a1 (.lst (RepAll.set (pv.mono G2) n ax))) .refl⟩
    | _ => exact w2.elim
end
end G6

namespace G6
open PySem PySem.Spec L2

/-! ### what a mirror comes to -/
def OkD {α : Type} (m : Res α) (P : α → Gs → Prop) (E : Exn → Gs → Prop) : Prop := match m with
  | none => False
  | some (.ok a, g) => P a g
  | some (.error x, g) => E x g
def SOkD (m : Option (Fl × Gs)) (P : Fl → Gs → Prop) : Prop := match m with
  | none => False
  | some (fl, g) => P fl g
def OpD {α : Type} (o : Option α) (P : α → Prop) : Prop := match o with
  | none => False
  | some a => P a
/- structures, so that nothing unfolds them -/
structure Ok {α : Type} (m : Res α) (P : α → Gs → Prop) (E : Exn → Gs → Prop) : Prop where
  get : OkD m P E
structure SOk (m : Option (Fl × Gs)) (P : Fl → Gs → Prop) : Prop where
  get : SOkD m P
structure Op {α : Type} (o : Option α) (P : α → Prop) : Prop where
  get : OpD o P
theorem Ok_eq {α : Type} {m : Res α} {P : α → Gs → Prop} {E : Exn → Gs → Prop} : Ok m P E = OkD m P E := propext ⟨Ok.get, Ok.mk⟩
theorem SOk_eq {m : Option (Fl × Gs)} {P : Fl → Gs → Prop} : SOk m P = SOkD m P := propext ⟨SOk.get, SOk.mk⟩
theorem Op_eq {α : Type} {o : Option α} {P : α → Prop} : Op o P = OpD o P := propext ⟨Op.get, Op.mk⟩
abbrev noE : Exn → Gs → Prop := fun _ _ => False
section
variable {α β : Type} {P : α → Gs → Prop} {Q : β → Gs → Prop} {E E' : Exn → Gs → Prop} {g : Gs}
theorem Ok.mono {m : Res α} {P' : α → Gs → Prop} (h : Ok m P E) (k : ∀ a g, P a g → P' a g) (kE : ∀ x g, E x g → E' x g) : Ok m P' E' := by
  rw [Ok_eq] at h ⊢; unfold OkD at h ⊢
  split at h
  · exact h
  · exact k _ _ h
  · exact kE _ _ h
theorem Ok.post {m : Res α} {P' : α → Gs → Prop} (h : Ok m P noE) (k : ∀ a g, P a g → P' a g) : Ok m P' E := h.mono k fun _ _ h => h.elim
theorem SOk.mono {m : Option (Fl × Gs)} {P P' : Fl → Gs → Prop} (h : SOk m P) (k : ∀ a g, P a g → P' a g) : SOk m P' := by
  rw [SOk_eq] at h ⊢; unfold SOkD at h ⊢
  split at h
  · exact h
  · exact k _ _ h
theorem ok_ex {m : Res α} (h : Ok m P noE) : ∃ a g', m = some (.ok a, g') ∧ P a g' := by
  rw [Ok_eq] at h; unfold OkD at h
  split at h
  · exact h.elim
  · exact ⟨_, _, rfl, h⟩
  · exact h.elim
theorem op_some {P : α → Prop} {a : α} : Op (some a) P = P a := by simp only [Ok_eq, SOk_eq, Op_eq]; rfl
theorem op_none {P : α → Prop} : Op (none : Option α) P = False := by simp only [Ok_eq, SOk_eq, Op_eq]; rfl
theorem op_ite {P : α → Prop} {c : Prop} [Decidable c] {o : Option α} : Op (if c then o else none) P = (c ∧ Op o P) := by
  by_cases h : c
  · simp [h]
  · simp [h, Op_eq, OpD]
theorem op_map {P : β → Prop} {f : α → β} {o : Option α} : Op (o.map f) P = Op o fun a => P (f a) := by simp only [Ok_eq, SOk_eq, Op_eq]; cases o <;> rfl
theorem op_bind {P : β → Prop} {f : α → Option β} {o : Option α} : Op (o.bind f) P = Op o fun a => Op (f a) P := by simp only [Ok_eq, SOk_eq, Op_eq]; cases o <;> rfl
theorem ok_ret {a : α} : Ok (M.ret a g) P E = P a g := by simp only [Ok_eq, SOk_eq, Op_eq]; rfl
theorem ok_some {a : α} : Ok (some (.ok a, g)) P E = P a g := by simp only [Ok_eq, SOk_eq, Op_eq]; rfl
theorem ok_opt {o : Option α} : Ok (M.opt o g) P E = Op o fun a => P a g := by simp only [Ok_eq, SOk_eq, Op_eq]; cases o <;> rfl
theorem ok_bind {m : M α} {f : α → M β} : Ok (M.bind m f g) Q E = Ok (m g) (fun a g1 => Ok (f a g1) Q E) E := by
  unfold M.bind
  cases e : m g with
  | none => simp only [Ok_eq, SOk_eq, Op_eq]; rfl
  | some p =>
    obtain ⟨a, g'⟩ := p
    simp only [Ok_eq, SOk_eq, Op_eq]; cases a <;> rfl
theorem ok_noX {m : M α} : Ok (noX m g) P E = Ok (m g) P noE := by
  unfold noX
  cases e : m g with
  | none => simp only [Ok_eq, SOk_eq, Op_eq]; rfl
  | some p =>
    obtain ⟨a, g'⟩ := p
    simp only [Ok_eq, SOk_eq, Op_eq]; cases a <;> rfl
theorem ok_ite {c : Prop} [Decidable c] {m m' : Res α} : Ok (if c then m else m') P E = ((c → Ok m P E) ∧ (¬ c → Ok m' P E)) := by
  by_cases h : c <;> simp [h]
theorem sok_ite {c : Prop} [Decidable c] {m m' : Option (Fl × Gs)} {P : Fl → Gs → Prop} : SOk (if c then m else m') P = ((c → SOk m P) ∧ (¬ c → SOk m' P)) := by
  by_cases h : c <;> simp [h]
theorem ite_g {α : Type} {c : Prop} [Decidable c] {m m' : M α} {g : Gs} : (if c then m else m') g = if c then m g else m' g := by split <;> rfl
theorem ite_s {c : Prop} [Decidable c] {m m' : S} {ls : Ls} {g : Gs} : (if c then m else m') ls g = if c then m ls g else m' ls g := by split <;> rfl
theorem ite_l {α : Type} {c : Prop} [Decidable c] {m m' : Ls → M α} {ls : Ls} : (if c then m else m') ls = if c then m ls else m' ls := by split <;> rfl
end
section
variable {ls : Ls} {g : Gs} {E : Exn → Gs → Prop} {fa fb fc fo fk fv : Ls → M D} {l : Ls → M (List D)} {p q : Ls → M Bool}
def lvD (o : Option LV) : Option D := match o with
  | some (.dat d) => some d
  | _ => none
theorem lvD_dat {d : D} : lvD (some (.dat d)) = some d := Eq.trans rfl rfl
theorem w_var {i : Nat} {P : D → Gs → Prop} : Ok (fVar i ls g) P E = Op (lvD ls[i]?) fun d => P d g := by
  unfold fVar lvD
  cases ls[i]? with
  | none => simp only [Ok_eq, SOk_eq, Op_eq]; rfl
  | some x => simp only [Ok_eq, SOk_eq, Op_eq]; cases x <;> rfl
theorem w_c {d : D} {P : D → Gs → Prop} : Ok (fC d ls g) P E = P d g := by simp only [Ok_eq, SOk_eq, Op_eq]; rfl
theorem w_op {o : D → D → Option D} {P : D → Gs → Prop} : Ok (fOp o fa fb ls g) P E = Ok (fa ls g) (fun d g1 => Ok (fb ls g1) (fun e g2 => Op (o d e) fun x => P x g2) E) E := by unfold fOp; simp only [ok_bind, ok_opt]
theorem w_un {o : D → Option D} {P : D → Gs → Prop} : Ok (fUn o fa ls g) P E = Ok (fa ls g) (fun d g1 => Op (o d) fun x => P x g1) E := by unfold fUn; simp only [ok_bind, ok_opt]
theorem w_test {P : Bool → Gs → Prop} : Ok (fTest fa ls g) P E = Ok (fa ls g) (fun d g1 => Op (dBool d) fun x => P x g1) E := by unfold fTest; simp only [ok_bind, ok_opt]
theorem w_chain {o o' : D → D → Option D} {P : D → Gs → Prop} : Ok (fChain o o' fa fb fc ls g) P E = Ok (fChain o o' fa fb fc ls g) P E := rfl
theorem w_gand {P : Bool → Gs → Prop} : Ok (gAnd p q ls g) P E = Ok (p ls g) (fun k g1 => (k = true → Ok (q ls g1) P E) ∧ (k = false → P false g1)) E := by
  unfold gAnd; simp only [ok_bind, ok_ret, ite_g, ok_ite, Bool.not_eq_true]
theorem w_gor {P : Bool → Gs → Prop} : Ok (gOr p q ls g) P E = Ok (p ls g) (fun k g1 => (k = true → P true g1) ∧ (k = false → Ok (q ls g1) P E)) E := by
  unfold gOr; simp only [ok_bind, ok_ret, ite_g, ok_ite, Bool.not_eq_true]
theorem w_gnot {P : Bool → Gs → Prop} : Ok (gNot p ls g) P E = Ok (p ls g) (fun k g1 => P (!k) g1) E := by unfold gNot; simp only [ok_bind, ok_ret]
theorem w_gyes {P : Bool → Gs → Prop} : Ok (gYes ls g) P E = P true g := by simp only [Ok_eq, SOk_eq, Op_eq]; rfl
theorem w_and {P : D → Gs → Prop} : Ok (fAnd fa fb ls g) P E = Ok (fa ls g) (fun d g1 => Op (dBool d) fun k => (k = true → Ok (fb ls g1) P E) ∧ (k = false → P (.bl false) g1)) E := by
  unfold fAnd; simp only [ok_bind, ok_opt, ok_ret, ite_g, ok_ite, Bool.not_eq_true]
theorem w_or {P : D → Gs → Prop} : Ok (fOr fa fb ls g) P E = Ok (fa ls g) (fun d g1 => Op (dBool d) fun k => (k = true → P (.bl true) g1) ∧ (k = false → Ok (fb ls g1) P E)) E := by
  unfold fOr; simp only [ok_bind, ok_opt, ok_ret, ite_g, ok_ite, Bool.not_eq_true]
theorem w_not {P : D → Gs → Prop} : Ok (fNot fa ls g) P E = Ok (fa ls g) (fun d g1 => Op (dBool d) fun k => P (.bl (!k)) g1) E := by unfold fNot; simp only [ok_bind, ok_opt, ok_ret]
theorem w_if {P : D → Gs → Prop} : Ok (fIf p fa fb ls g) P E = Ok (p ls g) (fun k g1 => (k = true → Ok (fa ls g1) P E) ∧ (k = false → Ok (fb ls g1) P E)) E := by
  unfold fIf; simp only [ok_bind, ite_g, ok_ite, Bool.not_eq_true]
theorem w_nil {P : List D → Gs → Prop} : Ok (lNil ls g) P E = P [] g := by simp only [Ok_eq, SOk_eq, Op_eq]; rfl
theorem w_cons {P : List D → Gs → Prop} : Ok (lCons fa l ls g) P E = Ok (fa ls g) (fun d g1 => Ok (l ls g1) (fun ds g2 => P (d :: ds) g2) E) E := by unfold lCons; simp only [ok_bind, ok_ret]
theorem w_tup {P : D → Gs → Prop} : Ok (fTup l ls g) P E = Ok (l ls g) (fun ds g1 => ds.length ≤ sizeLine ∧ P (.tup ds) g1) E := by unfold fTup dTup; simp only [ok_bind, ok_opt, op_ite, op_some]
theorem w_lst {P : D → Gs → Prop} : Ok (fLst l ls g) P E = Ok (l ls g) (fun ds g1 => ds.length ≤ sizeLine ∧ P (.lst ds) g1) E := by unfold fLst dLst; simp only [ok_bind, ok_opt, op_ite, op_some]
theorem w_folst {P : OV → Gs → Prop} : Ok (foLst l ls g) P E = Ok (l ls g) (fun ds g1 => ds.length ≤ sizeLine ∧ P (.lst ds) g1) E := by unfold foLst oLst; simp only [ok_bind, ok_opt, op_ite, op_some]
theorem w_folist {P : OV → Gs → Prop} : Ok (foList l ls g) P E = Ok (l ls g) (fun ds g1 => Op (oList ds) fun o => P o g1) E := by unfold foList; simp only [ok_bind, ok_opt]
theorem w_cb {o : List D → Option D} {P : D → Gs → Prop} : Ok (fCB o l ls g) P E = Ok (l ls g) (fun ds g1 => Op (o ds) fun x => P x g1) E := by unfold fCB; simp only [ok_bind, ok_opt]
theorem w_fd {fo : Ls → M OV} {P : D → Gs → Prop} : Ok (fD fo ls g) P E = Ok (fo ls g) (fun o g1 => P o.d g1) E := by unfold fD; simp only [ok_bind, ok_ret]
theorem w_call {F : Fn} {P : D → Gs → Prop} : Ok (fCall F l ls g) P E = Ok (l ls g) (fun ds g1 => Ok (F ds g1) (fun rv g2 => P rv.d g2) E) E := by unfold fCall; simp only [ok_bind, ok_ret]
def ovO (rv : RV) : Option OV := match rv with
  | .own o => some o
  | .dat _ => none
theorem ovO_own {o : OV} : ovO (.own o) = some o := Eq.trans rfl rfl
theorem w_ocall {F : Fn} {P : OV → Gs → Prop} : Ok (foCall F l ls g) P E = Ok (l ls g) (fun ds g1 => Ok (F ds g1) (fun rv g2 => Op (ovO rv) fun o => P o g2) E) E := by
  unfold foCall
  simp only [ok_bind]
  congr 1; funext a g1; congr 1; funext rv g2
  simp only [Ok_eq, SOk_eq, Op_eq]; cases rv <;> rfl
theorem w_get {P : D → Gs → Prop} : Ok (fGet fo fk ls g) P E = Ok (fo ls g) (fun o g1 => Ok (fk ls g1) (fun k g2 => Op ((soDic g2 o).bind fun p => (dKey k).bind fun key => dLook p.2 key) fun d => P d g2) E) E := by
  unfold fGet; simp only [ok_bind, mGet, ok_opt]
theorem w_args {o : List D → Option (List D)} {P : List D → Gs → Prop} : Ok (iArgs o l ls g) P E = Ok (l ls g) (fun ds g1 => Op (o ds) fun x => P x g1) E := by unfold iArgs; simp only [ok_bind, ok_opt]
theorem w_items {P : List D → Gs → Prop} : Ok (iItemsA fa ls g) P E = Ok (fa ls g) (fun d g1 => Op (dItemsA d) fun x => P x g1) E := by unfold iItemsA; simp only [ok_bind, ok_opt]
theorem w_signs {P : List D → Gs → Prop} : Ok (iSigns fa ls g) P E = Ok (fa ls g) (fun d g1 => Op (dSigns d) fun x => P x g1) E := by unfold iSigns; simp only [ok_bind, ok_opt]
def intO (d : D) : Option Int := match d with
  | .int i => some i
  | _ => none
theorem intO_int {i : Int} : intO (.int i) = some i := Eq.trans rfl rfl
theorem w_part {P : Option Int → Gs → Prop} : Ok (fPart fa ls g) P E = Ok (fa ls g) (fun d g1 => Op (intO d) fun i => P (some i) g1) E := by
  unfold fPart
  simp only [ok_bind]
  congr 1; funext d g1
  simp only [Ok_eq, SOk_eq, Op_eq]; cases d <;> rfl
theorem w_nopart {P : Option Int → Gs → Prop} : Ok (fNoPart ls g) P E = P none g := by simp only [Ok_eq, SOk_eq, Op_eq]; rfl
theorem w_cut {lo hi : Ls → M (Option Int)} {P : D → Gs → Prop} : Ok (fCut fa lo hi ls g) P E = Ok (fa ls g) (fun d g1 => Ok (lo ls g1) (fun a g2 => Ok (hi ls g2) (fun b g3 => Op (dCut d a b) fun x => P x g3) E) E) E := by unfold fCut; simp only [ok_bind, ok_opt]
theorem w_folc {fi : Ls → M (List D)} {vs : List Nat} {tg : D → Ls → Option Ls} {tt : Ls → M Bool} {fe : Ls → M D} {P : OV → Gs → Prop} :
    Ok (foLc fi vs tg tt fe ls g) P E = Ok (fi ls g) (fun ds g1 => (ds.length ≤ sizeLine ∧ noOwn ls vs = true) ∧ Ok (lcGo tg tt fe (wipeL ls vs) ds g1) (fun xs g2 => P (.lst xs) g2) E) E := by
  unfold foLc chk
  simp only [ok_bind, ok_opt, ok_ret, op_ite, op_some, Bool.and_eq_true, decide_eq_true_eq]
theorem w_lpn {P : List (Key × D) → Gs → Prop} : Ok (lPairs [] ls g) P E = P [] g := by simp only [Ok_eq, SOk_eq, Op_eq]; rfl
/-! statements -/
variable {P : Fl → Gs → Prop}
def seqP (t : S) (P : Fl → Gs → Prop) (fl : Fl) (g : Gs) : Prop := match fl with
  | .nx ls => SOk (t ls g) P
  | fl => P fl g
theorem seqP_nx {t : S} : seqP t P (.nx ls) g = SOk (t ls g) P := Eq.trans rfl rfl
theorem seqP_rt {t : S} {v : RV} : seqP t P (.rt v) g = P (.rt v) g := Eq.trans rfl rfl
theorem seqP_bk {t : S} : seqP t P (.bk ls) g = P (.bk ls) g := Eq.trans rfl rfl
theorem seqP_ct {t : S} : seqP t P (.ct ls) g = P (.ct ls) g := Eq.trans rfl rfl
theorem seqP_xc {t : S} {x : Exn} : seqP t P (.xc x ls) g = P (.xc x ls) g := Eq.trans rfl rfl
theorem q_seq {s t : S} : SOk (sSeq s t ls g) P = SOk (s ls g) (seqP t P) := by
  unfold sSeq
  cases e : s ls g with
  | none => simp only [Ok_eq, SOk_eq, Op_eq]; rfl
  | some p =>
    obtain ⟨a, g'⟩ := p
    cases a with
    | nx ls1 =>
      show SOk (t ls1 g') P = _
      rw [SOk_eq (m := some (Fl.nx ls1, g'))]; rfl
    | _ => simp only [SOk_eq]; rfl
theorem q_B {α : Type} {f : Ls → M α} {k : α → S} : SOk (sB f k ls g) P = Ok (f ls g) (fun a g1 => SOk (k a ls g1) P) (fun x g1 => P (.xc x ls) g1) := by
  unfold sB
  cases e : f ls g with
  | none => simp only [Ok_eq, SOk_eq, Op_eq]; rfl
  | some p =>
    obtain ⟨a, g'⟩ := p
    simp only [Ok_eq, SOk_eq, Op_eq]; cases a <;> rfl
theorem q_nx : SOk (sNx ls g) P = P (.nx ls) g := by simp only [Ok_eq, SOk_eq, Op_eq]; rfl
theorem q_bk : SOk (sBk ls g) P = P (.bk ls) g := by simp only [Ok_eq, SOk_eq, Op_eq]; rfl
theorem q_ct : SOk (sCt ls g) P = P (.ct ls) g := by simp only [Ok_eq, SOk_eq, Op_eq]; rfl
theorem q_set {i : Nat} : SOk (sSet i fa ls g) P = Ok (fa ls g) (fun d g1 => P (.nx (ls.set i (.dat d))) g1) (fun x g1 => P (.xc x ls) g1) := by unfold sSet; rw [q_B]; simp only [Ok_eq, SOk_eq, Op_eq]; rfl
theorem q_setO {i : Nat} {fo : Ls → M OV} : SOk (sSetO i fo ls g) P = Ok (fo ls g) (fun d g1 => P (.nx (ls.set i (.own d))) g1) (fun x g1 => P (.xc x ls) g1) := by unfold sSetO; rw [q_B]; simp only [Ok_eq, SOk_eq, Op_eq]; rfl
theorem q_tg {t : D → Ls → Option Ls} : SOk (sTg fa t ls g) P = Ok (fa ls g) (fun d g1 => Op (t d ls) fun ls' => P (.nx ls') g1) (fun x g1 => P (.xc x ls) g1) := by
  unfold sTg; rw [q_B]
  congr 1; funext d g1
  simp only [Ok_eq, SOk_eq, Op_eq]; cases t d ls <;> rfl
theorem q_ret : SOk (sRet fa ls g) P = Ok (fa ls g) (fun d g1 => P (.rt (.dat d)) g1) (fun x g1 => P (.xc x ls) g1) := by unfold sRet; rw [q_B]; simp only [Ok_eq, SOk_eq, Op_eq]; rfl
theorem q_retO {fo : Ls → M OV} : SOk (sRetO fo ls g) P = Ok (fo ls g) (fun d g1 => P (.rt (.own d)) g1) (fun x g1 => P (.xc x ls) g1) := by unfold sRetO; rw [q_B]; simp only [Ok_eq, SOk_eq, Op_eq]; rfl
theorem q_retN : SOk (sRetN ls g) P = P (.rt (.dat .non)) g := by simp only [Ok_eq, SOk_eq, Op_eq]; rfl
theorem q_drop : SOk (sDrop fa ls g) P = Ok (fa ls g) (fun d g1 => P (.nx ls) g1) (fun x g1 => P (.xc x ls) g1) := by unfold sDrop; rw [q_B]; simp only [Ok_eq, SOk_eq, Op_eq]; rfl
theorem q_if {a b : S} : SOk (sIf p a b ls g) P = Ok (p ls g) (fun k g1 => (k = true → SOk (a ls g1) P) ∧ (k = false → SOk (b ls g1) P)) (fun x g1 => P (.xc x ls) g1) := by
  unfold sIf; rw [q_B]; simp only [ite_s, sok_ite, Bool.not_eq_true]
def twoO (ds : List D) : Option (D × D) := match ds with
  | [a, b] => some (a, b)
  | _ => none
theorem twoO_two {a b : D} : twoO [a, b] = some (a, b) := Eq.trans rfl rfl
theorem q_par {i j : Nat} : SOk (sPar i j l ls g) P = Ok (l ls g) (fun ds g1 => Op (twoO ds) fun p => P (.nx ((ls.set i (.dat p.1)).set j (.dat p.2))) g1) (fun x g1 => P (.xc x ls) g1) := by
  unfold sPar; rw [q_B]
  congr 1; funext ds g1
  match ds with
  | [] => simp only [Ok_eq, SOk_eq, Op_eq]; rfl
  | [_] => simp only [Ok_eq, SOk_eq, Op_eq]; rfl
  | [_, _] => simp only [Ok_eq, SOk_eq, Op_eq]; rfl
  | _ :: _ :: _ :: _ => simp only [Ok_eq, SOk_eq, Op_eq]; rfl
def triO (ds : List D) : Option (D × D × D) := match ds with
  | [a, b, c] => some (a, b, c)
  | _ => none
theorem triO_tri {a b c : D} : triO [a, b, c] = some (a, b, c) := Eq.trans rfl rfl
theorem q_par3 {i j k : Nat} : SOk (sPar3 i j k l ls g) P = Ok (l ls g) (fun ds g1 => Op (triO ds) fun p => P (.nx (((ls.set i (.dat p.1)).set j (.dat p.2.1)).set k (.dat p.2.2))) g1) (fun x g1 => P (.xc x ls) g1) := by
  unfold sPar3; rw [q_B]
  congr 1; funext ds g1
  match ds with
  | [] => simp only [Ok_eq, SOk_eq, Op_eq]; rfl
  | [_] => simp only [Ok_eq, SOk_eq, Op_eq]; rfl
  | [_, _] => simp only [Ok_eq, SOk_eq, Op_eq]; rfl
  | [_, _, _] => simp only [Ok_eq, SOk_eq, Op_eq]; rfl
  | _ :: _ :: _ :: _ :: _ => simp only [Ok_eq, SOk_eq, Op_eq]; rfl
theorem q_put : SOk (sPut fo fk fv ls g) P = Ok (fv ls g) (fun d g1 => Ok (fo ls g1) (fun o g2 => Ok (fk ls g2) (fun k g3 => Op (soDic g3 o) fun p => Op (dKey k) fun key => p.2.length < sizeLine ∧ P (.nx ls) (g3.set p.1 (.dic (dPut p.2 key d)))) fun x g1 => P (.xc x ls) g1) fun x g1 => P (.xc x ls) g1) (fun x g1 => P (.xc x ls) g1) := by
  unfold sPut; rw [q_B]
  simp only [ok_bind]
  congr 1; funext d g1; congr 1; funext o g2; congr 1; funext k g3
  unfold mPut
  cases soDic g3 o with
  | none => simp only [Ok_eq, SOk_eq, Op_eq]; rfl
  | some p =>
    cases dKey k with
    | none => simp only [Ok_eq, SOk_eq, Op_eq]; rfl
    | some key =>
      obtain ⟨n, kds⟩ := p
      simp only [op_some]
      by_cases h : kds.length < sizeLine
      · simp only [h, if_true, true_and, SOk_eq, Ok_eq]; rfl
      · simp only [h, if_false, false_and, SOk_eq, Ok_eq]; rfl
theorem q_app {i : Nat} : SOk (sApp i fa ls g) P = Op (ownL ls i) fun ds => Ok (fa ls g) (fun d g1 => ds.length < sizeLine ∧ P (.nx (ls.set i (.own (.lst (ds ++ [d]))))) g1) (fun x g1 => P (.xc x ls) g1) := by
  unfold sApp
  cases ownL ls i with
  | none => simp only [Ok_eq, SOk_eq, Op_eq]; rfl
  | some ds =>
    rw [op_some]
    dsimp only
    rw [q_B]
    congr 1; funext d g1
    by_cases h : ds.length < sizeLine
    · simp only [h, if_true, true_and, SOk_eq, Ok_eq]; rfl
    · simp only [h, if_false, false_and, SOk_eq, Ok_eq]; rfl
theorem q_frzO {i : Nat} {s : S} {o : OV} (h : ls[i]? = some (.own o)) : SOk (sFrz i s ls g) P = SOk (s (ls.set i (.dat o.d)) g) P := by
  unfold sFrz
  rw [h]
theorem q_frzD {i : Nat} {s : S} {d : D} (h : ls[i]? = some (.dat d)) : SOk (sFrz i s ls g) P = SOk (s ls g) P := by
  unfold sFrz
  rw [h]
theorem q_for {fi : Ls → M (List D)} {tg : D → Ls → Option Ls} {body : S} : SOk (sFor fi tg body ls g) P = Ok (fi ls g) (fun ds g1 => SOk (forGo tg body ds ls g1) P) (fun x g1 => P (.xc x ls) g1) := by unfold sFor; rw [q_B]
theorem strD_str {z : Str} : strD (.str z) = some z := Eq.trans rfl rfl
theorem w_intbl {tbl : List (Str × Str)} {P : D → Gs → Prop} : Ok (fInTbl tbl fa ls g) P E = Ok (fa ls g) (fun d g1 => Op (strD d) fun z => P (.bl (tblLook tbl z).isSome) g1) E := by unfold fInTbl; simp only [ok_bind, ok_opt, op_map]
theorem w_attbl {tbl : List (Str × Str)} {P : D → Gs → Prop} : Ok (fAtTbl tbl fa ls g) P E = Ok (fa ls g) (fun d g1 => Op (strD d) fun z => Op (tblLook tbl z) fun nm => P (.fn nm) g1) E := by unfold fAtTbl; simp only [ok_bind, ok_opt, op_bind, op_map]
theorem fnD_fn {nm : Str} : fnD (some (.dat (.fn nm))) = some nm := Eq.trans rfl rfl
theorem w_callv {i : Nat} {FT : Str → Fn} {P : D → Gs → Prop} : Ok (fCallV i FT l ls g) P E = Op (fnD ls[i]?) fun nm => Ok (l ls g) (fun ds g1 => Ok (FT nm ds g1) (fun rv g2 => P rv.d g2) E) E := by
  unfold fCallV
  rw [ok_bind, ok_opt]
  simp only [w_call]
def rgO (d : D) : Option D := match d with
  | .int j => if -(2 ^ 62) ≤ j ∧ j < 16777216 then some (.tup (rangeD 0 j.toNat)) else none
  | _ => none
theorem rgO_int {j : Int} : rgO (.int j) = if -(2 ^ 62) ≤ j ∧ j < 16777216 then some (.tup (rangeD 0 j.toNat)) else none := Eq.trans rfl rfl
theorem w_tuprg {P : D → Gs → Prop} : Ok (fTupRg fa ls g) P E = Ok (fa ls g) (fun d g1 => Op (rgO d) fun x => P x g1) E := by
  unfold fTupRg
  simp only [ok_bind, ok_opt]
  simp only [Ok_eq, SOk_eq, Op_eq]; rfl
def starO (d : D) : Option (D × List D) := match d with
  | .tup (x :: xs) => some (x, xs)
  | _ => none
theorem starO_c {x : D} {xs : List D} : starO (.tup (x :: xs)) = some (x, xs) := Eq.trans rfl rfl
theorem q_star {i j : Nat} {P : Fl → Gs → Prop} : SOk (sStar i j fa ls g) P = Ok (fa ls g) (fun d g1 => Op (starO d) fun p => p.2.length ≤ 16383 ∧ P (.nx ((ls.set i (.dat p.1)).set j (.dat (.lst p.2)))) g1) (fun x g1 => P (.xc x ls) g1) := by
  unfold sStar; rw [q_B]
  congr 1; funext d g1
  unfold starO
  cases d with
  | tup ds =>
    cases ds with
    | nil => simp only [Ok_eq, SOk_eq, Op_eq]; rfl
    | cons x xs =>
      simp only [op_some]
      by_cases h : xs.length ≤ 16383
      · simp only [h, if_true, true_and, SOk_eq, Ok_eq]; rfl
      · simp only [h, if_false, false_and, SOk_eq, Ok_eq]; rfl
  | _ => simp only [Ok_eq, SOk_eq, Op_eq]; rfl
theorem q_aug {i : Nat} {o : D → D → Option D} {P : Fl → Gs → Prop} : SOk (sAug i o fa ls g) P = Op (lvD ls[i]?) fun d => Ok (fa ls g) (fun e g1 => Op (o d e) fun x => P (.nx (ls.set i (.dat x))) g1) (fun x g1 => P (.xc x ls) g1) := by
  unfold sAug; rw [q_B, w_op, w_var]; simp only [SOk_eq]; rfl
theorem m_mulS {i j : Int} : dMulS (.int i) (.int j) = if (-(2 ^ 64) < j ∧ j < 2 ^ 64) then some (.int (i * j)) else none := Eq.trans rfl rfl
theorem m_int1i {i : Int} : dInt1 [.int i] = some (.int i) := Eq.trans rfl rfl
theorem m_int1b {k : Bool} : dInt1 [.bl k] = some (.int (if k then 1 else 0)) := Eq.trans rfl rfl
theorem m_gseqT {n : Nat} {k : List D → Ls → Option Ls} {ds : List D} : gSeqD n k (.tup ds) ls = if ds.length = n then k ds ls else none := Eq.trans rfl rfl
theorem m_gseqL {n : Nat} {k : List D → Ls → Option Ls} {ds : List D} : gSeqD n k (.lst ds) ls = if ds.length = n then k ds ls else none := Eq.trans rfl rfl
theorem w_rD {P : RV → Gs → Prop} : Ok (rD fa ls g) P E = Ok (fa ls g) (fun d g1 => P (.dat d) g1) E := by unfold rD; simp only [ok_bind, ok_ret]
theorem w_rO {fo : Ls → M OV} {P : RV → Gs → Prop} : Ok (rO fo ls g) P E = Ok (fo ls g) (fun d g1 => P (.own d) g1) E := by unfold rO; simp only [ok_bind, ok_ret]
theorem lvR_d {d : D} : lvR (.dat d) = .dat d := Eq.trans rfl rfl
theorem lvR_o {o : OV} : lvR (.own o) = .own o := Eq.trans rfl rfl
theorem q_parR {i j : Nat} {f1 f2 : Ls → M RV} {P : Fl → Gs → Prop} : SOk (sParR i j f1 f2 ls g) P = Ok (f1 ls g) (fun a g1 => Ok (f2 ls g1) (fun b g2 => P (.nx ((ls.set i (lvR a)).set j (lvR b))) g2) noE) (fun x g1 => P (.xc x ls) g1) := by
  unfold sParR; rw [q_B]
  congr 1; funext a g1
  rw [← ok_noX (E := noE)]
  cases e : noX (f2 ls) g1 with
  | none => simp only [Ok_eq, SOk_eq]; rfl
  | some p =>
    obtain ⟨b, eb, _⟩ := noX_some e
    obtain ⟨q, g2⟩ := p
    cases eb
    simp only [Ok_eq, SOk_eq]; rfl
theorem w_gown {k : Bool} {i : Nat} {P : Bool → Gs → Prop} : Ok (gOwn k i ls g) P E = Op (ownL ls i) fun ds => Op (D.pys ds) fun ps => SeqAt.shaped (.list ps) = true ∧ P (k == ps.isEmpty) g := by
  unfold gOwn; simp only [ok_opt, op_bind, op_ite, op_some]
def lstO (o : Option LV) : Option (List D) := match o with
  | some (.own (.lst ds)) => some ds
  | _ => none
theorem ownL_at {i : Nat} : ownL ls i = lstO ls[i]? := Eq.trans rfl rfl
theorem lstO_l {ds : List D} : lstO (some (.own (.lst ds))) = some ds := Eq.trans rfl rfl
def lenO (o : Option LV) : Option Int := match o with
  | some (.own (.lst ds)) => some ds.length
  | some (.dat (.lst ds)) => some ds.length
  | some (.dat (.tup ds)) => some ds.length
  | some (.dat (.scr ns)) => some ns.length
  | some (.dat (.str z)) => if z.length ≤ sizeLine then some z.length else none
  | _ => none
theorem w_lenv {i : Nat} {P : D → Gs → Prop} : Ok (fLenV i ls g) P E = Op (lenO ls[i]?) fun n => P (.int n) g := by
  unfold fLenV
  cases e : ownL ls i with
  | some ds =>
    have := ownL_some e
    rw [this]
    simp only [Ok_eq, Op_eq]; rfl
  | none =>
    dsimp only
    rw [w_cb, w_cons, w_var]
    unfold ownL at e
    cases el : ls[i]? with
    | none => simp only [Op_eq]; rfl
    | some l =>
      cases l with
      | un => simp only [Op_eq]; rfl
      | own o =>
        rw [el] at e
        cases o with
        | lst ds => cases e
        | _ => simp only [Op_eq]; rfl
      | dat d =>
        rw [show lvD (some (.dat d)) = some d from rfl, op_some]
        rw [w_nil]
        cases d with
        | str z =>
          show Op (if z.length ≤ sizeLine then some (D.int z.length) else none) (fun x => P x g) = Op (if z.length ≤ sizeLine then some (z.length : Int) else none) fun n => P (.int n) g
          simp only [op_ite, op_some]
        | _ => simp only [Op_eq]; rfl
theorem lenO_o {ds : List D} : lenO (some (.own (.lst ds))) = some (ds.length : Int) := Eq.trans rfl rfl
theorem lenO_l {ds : List D} : lenO (some (.dat (.lst ds))) = some (ds.length : Int) := Eq.trans rfl rfl
theorem lenO_t {ds : List D} : lenO (some (.dat (.tup ds))) = some (ds.length : Int) := Eq.trans rfl rfl
theorem q_setAt {i : Nat} {P : Fl → Gs → Prop} : SOk (sSetAt i fk fv ls g) P = Op (ownL ls i) fun xs => Ok (fv ls g) (fun d g1 => Ok (fk ls g1) (fun k g2 => Op (intO k) fun j => Op (ixN xs.length j) fun n => P (.nx (ls.set i (.own (.lst (xs.set n d))))) g2) (fun x g1 => P (.xc x ls) g1)) (fun x g1 => P (.xc x ls) g1) := by
  unfold sSetAt
  cases ownL ls i with
  | none => simp only [SOk_eq, Op_eq]; rfl
  | some xs =>
    rw [op_some]
    dsimp only
    rw [q_B]
    congr 1; funext d g1
    rw [q_B]
    congr 1; funext k g2
    cases k with
    | int j =>
      simp only [intO_int, op_some]
      cases ixN xs.length j with
      | none => simp only [SOk_eq, Op_eq]; rfl
      | some n => simp only [SOk_eq, op_some]; rfl
    | _ => simp only [SOk_eq, Op_eq]; rfl
theorem m_oListL {ds : List D} : oList [.lst ds] = some (.lst ds) := Eq.trans rfl rfl
theorem m_oListT {ds : List D} : oList [.tup ds] = some (.lst ds) := Eq.trans rfl rfl
theorem q_appPop {i j : Nat} {P : Fl → Gs → Prop} : SOk (sAppPop j i fa ls g) P = Op (ownL ls i) fun xs => Op (ownL ls j) fun ys => Ok (fa ls g) (fun d g1 => Op (intO d) fun k => Op xs[k.toNat]? fun z => (0 ≤ k ∧ xs.length ≤ 16777216 ∧ ys.length < sizeLine) ∧ P (.nx ((ls.set i (.own (.lst (xs.eraseIdx k.toNat)))).set j (.own (.lst (ys ++ [z]))))) g1) (fun x g1 => P (.xc x ls) g1) := by
  unfold sAppPop
  cases ownL ls i with
  | none => simp only [SOk_eq, Op_eq]; rfl
  | some xs =>
    cases ownL ls j with
    | none => simp only [SOk_eq, op_some]; rw [Op_eq]; rfl
    | some ys =>
      simp only [op_some]
      rw [q_B]
      congr 1; funext d g1
      cases d with
      | int k =>
        simp only [intO_int, op_some]
        cases xs[k.toNat]? with
        | none => simp only [SOk_eq, Op_eq]; rfl
        | some z =>
          simp only [op_some]
          by_cases h : 0 ≤ k ∧ xs.length ≤ 16777216 ∧ ys.length < sizeLine
          · simp only [h, if_true, true_and, SOk_eq]; rfl
          · simp only [h, if_false, false_and, SOk_eq]; rfl
      | _ => simp only [SOk_eq, Op_eq]; rfl
/-- a def's end -/
def fnP (P : RV → Gs → Prop) (E : Exn → Gs → Prop) (fl : Fl) (g : Gs) : Prop := match fl with
  | .nx _ => P (.dat .non) g
  | .rt v => P v g
  | .xc x _ => E x g
  | _ => False
theorem fnP_nx {P : RV → Gs → Prop} : fnP P E (.nx ls) g = P (.dat .non) g := Eq.trans rfl rfl
theorem fnP_rt {P : RV → Gs → Prop} {v : RV} : fnP P E (.rt v) g = P v g := Eq.trans rfl rfl
theorem fnP_xc {P : RV → Gs → Prop} {x : Exn} : fnP P E (.xc x ls) g = E x g := Eq.trans rfl rfl
theorem w_fn {P : RV → Gs → Prop} {n : Nat} {b : S} {ds : List D} : Ok (fnF n b ds g) P E = SOk (b (startL n ds) g) (fnP P E) := by
  unfold fnF endF
  cases b (startL n ds) g with
  | none => simp only [Ok_eq, SOk_eq, Op_eq]; rfl
  | some p =>
    obtain ⟨a, g'⟩ := p
    simp only [Ok_eq, SOk_eq, Op_eq]; cases a <;> rfl
/-- what stands between two statements -/
def midP (M : Ls → Gs → Prop) (P : Fl → Gs → Prop) (fl : Fl) (g : Gs) : Prop := match fl with
  | .nx ls => M ls g
  | fl => P fl g
theorem midP_nx {M : Ls → Gs → Prop} : midP M P (.nx ls) g = M ls g := Eq.trans rfl rfl
theorem midP_rt {M : Ls → Gs → Prop} {v : RV} : midP M P (.rt v) g = P (.rt v) g := Eq.trans rfl rfl
theorem midP_bk {M : Ls → Gs → Prop} : midP M P (.bk ls) g = P (.bk ls) g := Eq.trans rfl rfl
theorem midP_ct {M : Ls → Gs → Prop} : midP M P (.ct ls) g = P (.ct ls) g := Eq.trans rfl rfl
theorem midP_xc {M : Ls → Gs → Prop} {x : Exn} : midP M P (.xc x ls) g = P (.xc x ls) g := Eq.trans rfl rfl
theorem seq_mid {s t : S} (M : Ls → Gs → Prop) (h : SOk (s ls g) (midP M P)) (k : ∀ ls g, M ls g → SOk (t ls g) P) : SOk (sSeq s t ls g) P := by
  rw [q_seq]
  refine h.mono fun fl g1 h1 => ?_
  cases fl with
  | nx ls1 => exact k ls1 g1 h1
  | _ => exact h1
/-! loops -/
/-- what stands behind a round -/
def rdP (I : Ls → Gs → Prop) (P : Fl → Gs → Prop) (fl : Fl) (g : Gs) : Prop := match fl with
  | .nx ls => I ls g
  | .ct ls => I ls g
  | .bk ls => P (.nx ls) g
  | fl => P fl g
theorem rdP_nx {I : Ls → Gs → Prop} : rdP I P (.nx ls) g = I ls g := Eq.trans rfl rfl
theorem rdP_ct {I : Ls → Gs → Prop} : rdP I P (.ct ls) g = I ls g := Eq.trans rfl rfl
theorem rdP_bk {I : Ls → Gs → Prop} : rdP I P (.bk ls) g = P (.nx ls) g := Eq.trans rfl rfl
theorem rdP_rt {I : Ls → Gs → Prop} {v : RV} : rdP I P (.rt v) g = P (.rt v) g := Eq.trans rfl rfl
theorem rdP_xc {I : Ls → Gs → Prop} {x : Exn} : rdP I P (.xc x ls) g = P (.xc x ls) g := Eq.trans rfl rfl
theorem q_while {p : Ls → M Bool} {b : S} {n : Nat} {P : Fl → Gs → Prop} : SOk (whGo p b (n + 1) ls g) P = Ok (p ls g) (fun k g1 => (k = true → SOk (b ls g1) (rdP (fun ls g => SOk (whGo p b n ls g) P) P)) ∧ (k = false → P (.nx ls) g1)) (fun x g1 => P (.xc x ls) g1) := by
  show SOk (sB p (fun k => if k = true then _ else sNx) ls g) P = _
  rw [q_B]
  congr 1; funext k g1
  cases k with
  | false => simp only [Bool.false_eq_true, if_false, false_implies, true_and, forall_const]; rw [q_nx]
  | true =>
    simp only [if_true, forall_const, reduceCtorEq, false_implies, and_true]
    cases e : b ls g1 with
    | none => simp only [SOk_eq]; rfl
    | some q =>
      obtain ⟨a, g2⟩ := q
      cases a with
      | nx l2 => rw [SOk_eq (m := some (Fl.nx l2, g2))]; rfl
      | ct l2 => rw [SOk_eq (m := some (Fl.ct l2, g2))]; rfl
      | _ => simp only [SOk_eq]; rfl
theorem for_go {tg : D → Ls → Option Ls} {body : S} (I : Nat → Ls → Gs → Prop) : ∀ {ds pre all : List D} {ls : Ls} {g : Gs}, all = pre ++ ds → I pre.length ls g →
    (∀ (i : Nat) (d : D) (ls : Ls) (g : Gs), all[i]? = some d → I i ls g → Op (tg d ls) fun ls1 => SOk (body ls1 g) (rdP (I (i + 1)) P)) →
    (∀ ls g, I all.length ls g → P (.nx ls) g) → SOk (forGo tg body ds ls g) P
  | [], pre, all, ls, g, e, h, _, fin => by
    rw [List.append_nil] at e
    subst e
    exact SOk.mk (fin ls g h)
  | d :: rs, pre, all, ls, g, e, h, k, fin => by
    have hd : all[pre.length]? = some d := by rw [e]; simp
    have k1 := k _ d ls g hd h
    unfold forGo
    cases et : tg d ls with
    | none => rw [et] at k1; exact (op_none ▸ k1 : False).elim
    | some ls1 =>
      rw [et, op_some] at k1
      have k2 : SOk (body ls1 g) (rdP (I (pre.length + 1)) P) := k1
      dsimp only
      have nxt : ∀ ls2 g2, I (pre.length + 1) ls2 g2 → SOk (forGo tg body rs ls2 g2) P := fun ls2 g2 hi => for_go I (pre := pre ++ [d]) (all := all) (by rw [e]; simp) (by rw [List.length_append]; exact hi) k fin
      cases eb : body ls1 g with
      | none => rw [eb] at k2; exact k2.get.elim
      | some p =>
        obtain ⟨a, g2⟩ := p
        rw [eb] at k2
        cases a with
        | nx ls2 => exact nxt ls2 g2 k2.get
        | ct ls2 => exact nxt ls2 g2 k2.get
        | bk ls2 => exact SOk.mk k2.get
        | rt v => exact SOk.mk k2.get
        | xc x ls2 => exact SOk.mk k2.get
theorem for_ok {tg : D → Ls → Option Ls} {body : S} {ds : List D} (I : Nat → Ls → Gs → Prop) (h0 : I 0 ls g)
    (step : ∀ (i : Nat) (d : D) (ls : Ls) (g : Gs), ds[i]? = some d → I i ls g → Op (tg d ls) fun ls1 => SOk (body ls1 g) (rdP (I (i + 1)) P))
    (fin : ∀ ls g, I ds.length ls g → P (.nx ls) g) : SOk (forGo tg body ds ls g) P := for_go I (pre := []) rfl h0 step fin
theorem lc_go {tg : D → Ls → Option Ls} {tt : Ls → M Bool} {fe : Ls → M D} {lw : Ls} {P : List D → Gs → Prop} (I : Nat → List D → Gs → Prop) : ∀ {ds pre all acc : List D} {g : Gs}, all = pre ++ ds → I pre.length acc g →
    (∀ (i : Nat) (d : D) (acc : List D) (g : Gs), all[i]? = some d → I i acc g → Op (tg d lw) fun ls1 => Ok (tt ls1 g) (fun b g1 => (b = true → Ok (fe ls1 g1) (fun x g2 => I (i + 1) (acc ++ [x]) g2) noE) ∧ (b = false → I (i + 1) acc g1)) noE) →
    (∀ xs g, I all.length xs g → P xs g) → Ok (lcGo tg tt fe lw ds g) (fun xs g' => P (acc ++ xs) g') E
  | [], pre, all, acc, g, e, h, _, fin => by
    rw [List.append_nil] at e
    subst e
    refine Ok.mk ?_
    show P (acc ++ []) g
    rw [List.append_nil]
    exact fin _ _ h
  | d :: rs, pre, all, acc, g, e, h, k, fin => by
    have hd : all[pre.length]? = some d := by rw [e]; simp
    have k1 := k _ d acc g hd h
    rw [lcGo_cons, ok_bind, ok_opt]
    cases et : tg d lw with
    | none => rw [et] at k1; exact (op_none ▸ k1 : False).elim
    | some ls1 =>
      rw [et] at k1
      rw [op_some] at k1 ⊢
      rw [ok_bind, ok_noX]
      refine k1.mono (fun b g1 hb => ?_) fun _ _ h => h
      cases b with
      | true =>
        rw [if_pos rfl, ok_bind, ok_noX]
        refine (hb.1 rfl).mono (fun x g2 hx => ?_) fun _ _ h => h
        rw [ok_bind]
        refine (lc_go I (pre := pre ++ [d]) (all := all) (acc := acc ++ [x]) (by rw [e]; simp) (by rw [List.length_append]; exact hx) k fin).mono (fun xs g3 h3 => ?_) fun _ _ h => h
        rw [ok_ret]
        rw [List.append_assoc] at h3
        exact h3
      | false =>
        rw [if_neg Bool.false_ne_true]
        exact lc_go I (pre := pre ++ [d]) (all := all) (acc := acc) (by rw [e]; simp) (by rw [List.length_append]; exact hb.2 rfl) k fin
theorem lc_ok {tg : D → Ls → Option Ls} {tt : Ls → M Bool} {fe : Ls → M D} {lw : Ls} {ds : List D} {P : List D → Gs → Prop} (I : Nat → List D → Gs → Prop) (h0 : I 0 [] g)
    (step : ∀ (i : Nat) (d : D) (acc : List D) (g : Gs), ds[i]? = some d → I i acc g → Op (tg d lw) fun ls1 => Ok (tt ls1 g) (fun b g1 => (b = true → Ok (fe ls1 g1) (fun x g2 => I (i + 1) (acc ++ [x]) g2) noE) ∧ (b = false → I (i + 1) acc g1)) noE)
    (fin : ∀ xs g, I ds.length xs g → P xs g) : Ok (lcGo tg tt fe lw ds g) P E := lc_go I (pre := []) (acc := []) (P := P) rfl h0 step fin
/-- each is drawn anew: no filter, the store changes -/
theorem lc_all {tg : D → Ls → Option Ls} {fe : Ls → M D} {lw : Ls} {ds : List D} {P : List D → Gs → Prop} (I : Nat → Gs → Prop) (R : Nat → D → Prop) (h0 : I 0 g)
    (step : ∀ (i : Nat) (d : D) (g : Gs), ds[i]? = some d → I i g → Op (tg d lw) fun ls1 => Ok (fe ls1 g) (fun x g2 => R i x ∧ I (i + 1) g2) noE)
    (fin : ∀ xs g, xs.length = ds.length → (∀ i x, xs[i]? = some x → R i x) → I ds.length g → P xs g) : Ok (lcGo tg gYes fe lw ds g) P E := by
  refine lc_ok (fun i acc g => I i g ∧ acc.length = i ∧ ∀ j x, acc[j]? = some x → R j x) ⟨h0, rfl, fun j x e => by simp at e⟩ (fun i d acc g hd ⟨hi, hl, ha⟩ => ?_) fun xs g ⟨hi, hl, ha⟩ => fin xs g hl ha hi
  have := step i d g hd hi
  cases et : tg d lw with
  | none => rw [et] at this; exact (op_none ▸ this : False).elim
  | some ls1 =>
    rw [et] at this
    rw [op_some] at this ⊢
    rw [w_gyes]
    refine ⟨fun _ => this.mono (fun x g2 ⟨hx, h2⟩ => ⟨h2, by rw [List.length_append, hl]; rfl, fun j y e => ?_⟩) fun _ _ h => h, fun h => by cases h⟩
    by_cases hj : j < acc.length
    · rw [List.getElem?_append_left hj] at e
      exact ha j y e
    · rw [List.getElem?_append_right (by omega)] at e
      obtain ⟨h1, h7⟩ := List.getElem?_eq_some_iff.mp e
      have : j = i := by rw [List.length_singleton] at h1; omega
      subst this
      rw [List.getElem_singleton] at h7
      subst h7
      exact hx
/-- a pure comprehension -/
theorem lc_pure {τ : Type} {tg : D → Ls → Option Ls} {tt : Ls → M Bool} {fe : Ls → M D} {lw : Ls} {xs : List τ} {k h : τ → D} {f : τ → Bool} {P : List D → Gs → Prop}
    (step : ∀ x ∈ xs, Op (tg (k x) lw) fun ls1 => Ok (tt ls1 g) (fun b g1 => b = f x ∧ g1 = g) noE ∧ (f x = true → Ok (fe ls1 g) (fun d g1 => d = h x ∧ g1 = g) noE))
    (fin : P ((xs.filter f).map h) g) : Ok (lcGo tg tt fe lw (xs.map k) g) P E := by
  induction xs generalizing P with
  | nil => exact Ok.mk fin
  | cons x xs ih =>
    have s1 := step x (by simp)
    rw [List.map_cons, lcGo_cons, ok_bind, ok_opt]
    cases et : tg (k x) lw with
    | none => rw [et] at s1; exact (op_none ▸ s1 : False).elim
    | some ls1 =>
      rw [et] at s1
      rw [op_some] at s1 ⊢
      rw [ok_bind, ok_noX]
      refine s1.1.mono (fun b g1 ⟨hb, hg⟩ => ?_) fun _ _ h => h
      subst hb hg
      cases hf : f x with
      | true =>
        rw [if_pos rfl, ok_bind, ok_noX]
        refine (s1.2 hf).mono (fun d g2 ⟨hd, hg⟩ => ?_) fun _ _ h => h
        subst hd hg
        rw [ok_bind]
        refine ih (fun y hy => step y (List.mem_cons_of_mem _ hy)) ?_
        rw [ok_ret]
        rw [List.filter_cons, if_pos hf, List.map_cons] at fin
        exact fin
      | false =>
        rw [if_neg Bool.false_ne_true]
        refine ih (fun y hy => step y (List.mem_cons_of_mem _ hy)) ?_
        rw [List.filter_cons, if_neg (by rw [hf]; exact Bool.false_ne_true)] at fin
        exact fin
/-- .. without a filter -/
theorem lc_map {τ : Type} {tg : D → Ls → Option Ls} {fe : Ls → M D} {lw : Ls} {xs : List τ} {k h : τ → D} {P : List D → Gs → Prop}
    (step : ∀ x ∈ xs, Op (tg (k x) lw) fun ls1 => Ok (fe ls1 g) (fun d g1 => d = h x ∧ g1 = g) noE)
    (fin : P (xs.map h) g) : Ok (lcGo tg gYes fe lw (xs.map k) g) P E :=
  lc_pure (f := fun _ => true) (fun x hx => by
    have := step x hx
    cases et : tg (k x) lw with
    | none => rw [et] at this; exact (op_none ▸ this : False).elim
    | some ls1 => rw [et, op_some] at this; rw [op_some]; exact ⟨by rw [w_gyes]; exact ⟨rfl, rfl⟩, fun _ => this⟩) (by rw [List.filter_eq_self.mpr fun _ _ => rfl]; exact fin)
end
end G6

namespace G6
open PySem PySem.Spec L2

/-! ### data operations at given data -/
section
variable {i j : Int} {ds es : List D}
theorem m_lt : dLt (.int i) (.int j) = some (.bl (decide (i < j))) := Eq.trans rfl rfl
theorem m_le : dLe (.int i) (.int j) = some (.bl (decide (i ≤ j))) := Eq.trans rfl rfl
theorem m_gt : dGt (.int i) (.int j) = some (.bl (decide (j < i))) := Eq.trans rfl rfl
theorem m_ge : dGe (.int i) (.int j) = some (.bl (decide (j ≤ i))) := Eq.trans rfl rfl
theorem m_add : dAdd (.int i) (.int j) = some (.int (i + j)) := Eq.trans rfl rfl
theorem m_addT : dAdd (.tup ds) (.tup es) = if (ds ++ es).length ≤ sizeLine then some (.tup (ds ++ es)) else none := Eq.trans rfl rfl
theorem m_addL : dAdd (.lst ds) (.lst es) = if (ds ++ es).length ≤ sizeLine then some (.lst (ds ++ es)) else none := Eq.trans rfl rfl
theorem m_sub : dSub (.int i) (.int j) = some (.int (i - j)) := Eq.trans rfl rfl
theorem m_mulI : dMul (.int i) (.int j) = if i.natAbs.log2 + j.natAbs.log2 < 1000000 then some (.int (i * j)) else none := Eq.trans rfl rfl
theorem m_mod : dMod (.int i) (.int j) = if 0 < j then some (.int (i % j)) else none := Eq.trans rfl rfl
theorem m_fdiv : dFdiv (.int i) (.int j) = if 0 < j ∧ j.natAbs.log2 < 9000 then some (.int (i / j)) else none := Eq.trans rfl rfl
theorem m_pow : dPow (.int i) (.int j) = if 0 ≤ j ∧ j ≤ 1000000 ∧ i.natAbs < 2 ^ 64 then some (.int (i ^ j.toNat)) else none := Eq.trans rfl rfl
theorem m_neg : dNeg (.int i) = some (.int (-i)) := Eq.trans rfl rfl
theorem m_bool {b : Bool} : dBool (.bl b) = some b := Eq.trans rfl rfl
theorem m_abs : dAbs [.int i] = some (.int (if i < 0 then -i else i)) := Eq.trans rfl rfl
theorem m_min2 : dMin2 [.int i, .int j] = some (.int (if j < i then j else i)) := Eq.trans rfl rfl
theorem m_max2 : dMax2 [.int i, .int j] = some (.int (if j > i then j else i)) := Eq.trans rfl rfl
theorem m_lenL : dLen [.lst ds] = some (.int ds.length) := Eq.trans rfl rfl
theorem m_lenT : dLen [.tup ds] = some (.int ds.length) := Eq.trans rfl rfl
theorem m_lenI {ns : List Int} : dLen [.scr ns] = some (.int ns.length) := Eq.trans rfl rfl
theorem m_tupL : dTuple [.lst ds] = some (.tup ds) := Eq.trans rfl rfl
theorem m_tupT : dTuple [.tup ds] = some (.tup ds) := Eq.trans rfl rfl
theorem m_lstL : dList [.lst ds] = some (.lst ds) := Eq.trans rfl rfl
theorem m_lstT : dList [.tup ds] = some (.lst ds) := Eq.trans rfl rfl
theorem m_rv1 {d : D} : RV.d (.dat d) = d := Eq.trans rfl rfl
theorem m_rv2 {o : OV} : RV.d (.own o) = o.d := Eq.trans rfl rfl
theorem m_ov : OV.d (.lst ds) = .lst ds := Eq.trans rfl rfl
theorem m_key {x : Str} : dKey (.str x) = some (.inr x) := Eq.trans rfl rfl
theorem m_rng1 : dRange1 [.int j] = if -(2 ^ 62) ≤ j ∧ j < 2 ^ 62 then some (rangeD 0 j.toNat) else none := Eq.trans rfl rfl
theorem m_gset {n : Nat} {d : D} {ls : Ls} : gSet n d ls = some (ls.set n (.dat d)) := Eq.trans rfl rfl
theorem m_gtup {n : Nat} {k : List D → Ls → Option Ls} {ls : Ls} : gTupD n k (.tup ds) ls = if ds.length = n then k ds ls else none := Eq.trans rfl rfl
theorem m_gsc {f : D → Ls → Option Ls} {k : List D → Ls → Option Ls} {d : D} {ls : Ls} : gsCons f k (d :: ds) ls = (f d ls).bind (k ds) := Eq.trans rfl rfl
theorem m_gsn {ls : Ls} : gsNil [] ls = some ls := Eq.trans rfl rfl
theorem m_zipL : dZip [.lst ds, .lst es] = some (zipD ds es) := Eq.trans rfl rfl
theorem m_zipT : dZip [.tup ds, .tup es] = some (zipD ds es) := Eq.trans rfl rfl
theorem m_itL : dItemsA (.lst ds) = some ds := Eq.trans rfl rfl
theorem m_itT : dItemsA (.tup ds) = some ds := Eq.trans rfl rfl
theorem m_line : sizeLine = 16777216 := Eq.trans rfl rfl
end
def notOwn (o : Option LV) : Bool := match o with
  | some (.own _) => false
  | _ => true
theorem no_nil {ls : Ls} : noOwn ls [] = true := Eq.trans rfl rfl
theorem no_cons {ls : Ls} {v : Nat} {vs : List Nat} : noOwn ls (v :: vs) = (notOwn ls[v]? && noOwn ls vs) := Eq.trans rfl rfl
theorem no_un : notOwn (some .un) = true := Eq.trans rfl rfl
theorem no_dat {d : D} : notOwn (some (.dat d)) = true := Eq.trans rfl rfl
theorem wi_nil {ls : Ls} : wipeL ls [] = ls := Eq.trans rfl rfl
theorem wi_cons {ls : Ls} {v : Nat} {vs : List Nat} : wipeL ls (v :: vs) = (wipeL ls vs).set v .un := Eq.trans rfl rfl
theorem lg_lt {n k : Nat} (h : n < 2 ^ k) (hk : 0 < k) : n.log2 < k := by
  by_cases e : n = 0
  · subst e; exact hk
  · exact (Nat.log2_lt e).mpr h
theorem lgI {x : Int} {k : Nat} (h0 : 0 ≤ x) (h : x < 2 ^ k) (hk : 0 < k) : x.natAbs.log2 < k := by
  refine lg_lt ?_ hk
  have : (x.natAbs : Int) < ((2 ^ k : Nat) : Int) := by
    rw [Int.natAbs_of_nonneg h0]
    simpa using h
  exact Int.ofNat_lt.mp this
theorem m_fdivS {i j : Int} (h : 0 < j) (h2 : j < 9223372036854775808) : dFdiv (.int i) (.int j) = some (.int (i / j)) := by
  rw [m_fdiv, if_pos ⟨h, Nat.lt_trans (lgI (k := 63) (by omega) h2 (by decide)) (by decide)⟩]
theorem m_powS {i j : Int} (h : 0 ≤ j) (h2 : j ≤ 1000000) (h3 : -18446744073709551616 < i) (h4 : i < 18446744073709551616) : dPow (.int i) (.int j) = some (.int (i ^ j.toNat)) := by
  rw [m_pow, if_pos ⟨h, h2, by omega⟩]
theorem eq_I {a b : Int} : dEq (.int a) (.int b) = some (.bl (a == b)) := Eq.trans rfl rfl
theorem ne_I {a b : Int} : dNe (.int a) (.int b) = some (.bl (!(a == b))) := Eq.trans rfl rfl
theorem m_cutI {ns : List Int} {a b : Option Int} : dCut (.scr ns) a b = some (.lst ((cutD ns a b).map .int)) := Eq.trans rfl rfl
theorem m_cutT {ds : List D} {a b : Option Int} : dCut (.tup ds) a b = some (.tup (cutD ds a b)) := Eq.trans rfl rfl
theorem m_cutL {ds : List D} {a b : Option Int} : dCut (.lst ds) a b = some (.lst (cutD ds a b)) := Eq.trans rfl rfl
/-! ### the pen -/
def penCap : Nat := 2 ^ 300000
def penD (cs : List Int) (t r : Int) : List (Key × D) := [(.inr ("cells" : String), .lst (cs.map .int)), (.inr ("turn" : String), .int t), (.inr ("rest" : String), .int r)]
theorem pen_cells {cs : List Int} {t r : Int} : dLook (penD cs t r) (.inr ("cells" : String)) = some (.lst (cs.map .int)) := Eq.trans rfl rfl
theorem pen_turn {cs : List Int} {t r : Int} : dLook (penD cs t r) (.inr ("turn" : String)) = some (.int t) := Eq.trans rfl rfl
theorem pen_rest {cs : List Int} {t r : Int} : dLook (penD cs t r) (.inr ("rest" : String)) = some (.int r) := Eq.trans rfl rfl
theorem pen_turn' {cs : List Int} {t r x : Int} : dPut (penD cs t r) (.inr ("turn" : String)) (.int x) = penD cs x r := Eq.trans rfl rfl
theorem pen_rest' {cs : List Int} {t r x : Int} : dPut (penD cs t r) (.inr ("rest" : String)) (.int x) = penD cs t x := Eq.trans rfl rfl
theorem m_kds {cs : List Int} {t r : Int} : (penD cs t r).length = 3 := Eq.trans rfl rfl
theorem m_so {kds : List (Key × D)} {gs : Gs} : soDic (.dic kds :: gs) (.obj 0) = some (0, kds) := Eq.trans rfl rfl
/-- the pen, and how many draws it can bear -/
def Pen (k : Nat) (g : Gs) : Prop := ∃ (cs : List Int) (t r : Int), g = [.dic (penD cs t r)] ∧ cs.length ≤ 63 ∧ 0 ≤ t ∧ t.toNat + k ≤ penCap
theorem Pen.less {k k' : Nat} {g : Gs} (h : Pen k g) (l : k' ≤ k) : Pen k' g := by
  obtain ⟨cs, t, r, h1, h2, h3, h4⟩ := h
  exact ⟨cs, t, r, h1, h2, h3, by omega⟩
def primesL : Ls → M D := fLst (lCons (fC (.int 2147483647)) (lCons (fC (.int 2147483629)) (lCons (fC (.int 2147483587)) (lCons (fC (.int 2147483579)) (lCons (fC (.int 2147483563)) (lNil))))))
def g_tail2 : S := (sSeq (sSet 5 primesL)
      (sSeq (sSet 6 (fOp dIx (fVar 5) (fOp dMod (fVar 3) (fC (.int 5)))))
      (sSeq (sSet 7 (fOp dMod (fOp dAdd (fOp dAdd (fOp dMul (fOp dMod (fVar 4) (fVar 6)) (fC (.int 69621))) (fOp dMul (fOp dMul (fC (.int 40692)) (fVar 3)) (fVar 3))) (fC (.int 11))) (fVar 6)))
      (sSeq (sSet 7 (fOp dMod (fOp dMul (fVar 7) (fOp dAdd (fVar 7) (fC (.int 48271)))) (fOp dIx (fVar 5) (fOp dMod (fOp dAdd (fVar 3) (fC (.int 3))) (fC (.int 5))))))
      (sRet (fOp dMod (fOp dFdiv (fOp dMod (fOp dMul (fVar 7) (fVar 7)) (fC (.int 2147483549))) (fC (.int 64))) (fVar 1)))))))
def g_tail1 : S := (sSeq (sIf (gAnd (fTest (fOp dLt (fVar 3) (fCB dLen (lCons (fGet (fVar 0) (fC (.str "cells"))) (lNil))))) (fTest (fOp dGe (fCB dAbs (lCons (fVar 4) (lNil))) (fOp dPow (fC (.int 10)) (fC (.int 18)))))) (sSeq (sPut (fVar 0) (fC (.str "rest")) (fOp dFdiv (fOp dSub (fCB dAbs (lCons (fVar 4) (lNil))) (fOp dPow (fC (.int 10)) (fC (.int 18)))) (fVar 1)))
      (sRet (fOp dMod (fOp dSub (fCB dAbs (lCons (fVar 4) (lNil))) (fOp dPow (fC (.int 10)) (fC (.int 18)))) (fVar 1)))) (sNx)) g_tail2)
def g_cell : S := (sIf (fTest (fOp dNe (fGet (fVar 0) (fC (.str "cells"))) (fLst (lNil)))) (sSet 4 (fOp dIx (fGet (fVar 0) (fC (.str "cells"))) (fOp dMod (fVar 3) (fCB dLen (lCons (fGet (fVar 0) (fC (.str "cells"))) (lNil)))))) (sNx))
def g_draw : Fn := fnF 8 (
    sSeq (sIf (fTest (fOp dGt (fGet (fVar 0) (fC (.str "rest"))) (fC (.int 0)))) (sSeq (sSet 2 (fOp dMod (fGet (fVar 0) (fC (.str "rest"))) (fVar 1)))
      (sSeq (sPut (fVar 0) (fC (.str "rest")) (fOp dFdiv (fGet (fVar 0) (fC (.str "rest"))) (fVar 1)))
      (sRet (fVar 2)))) (sNx))
      (sSeq (sSet 3 (fGet (fVar 0) (fC (.str "turn"))))
      (sSeq (sPut (fVar 0) (fC (.str "turn")) (fOp dAdd (fVar 3) (fC (.int 1))))
      (sSeq (sSet 4 (fOp dAdd (fOp dMul (fC (.int 31)) (fVar 3)) (fC (.int 5))))
      (sSeq g_cell g_tail1)))))
theorem pys_ints : ∀ cs : List Int, D.pys (cs.map .int) = some (cs.map .int)
  | [] => rfl
  | c :: cs => by
    show (D.py (.int c)).bind _ = _
    rw [pys_ints cs]; rfl
theorem canLay_ints : ∀ cs : List Int, PyData.canLayAll0 (cs.map .int) = true
  | [] => rfl
  | c :: cs => by
    rw [List.map_cons, PyData.canLayAll0, canLay_ints cs]; rfl
theorem depthInts : ∀ cs : List Int, PyData.depthAll (cs.map .int) = 0
  | [] => rfl
  | c :: cs => by
    rw [List.map_cons, PyData.depthAll, depthInts cs]; rfl
theorem ne_nil (cs : List Int) : dNe (.lst (cs.map .int)) (.lst []) = some (.bl (decide (cs ≠ []))) := by
  have e : D.py (.lst (cs.map .int)) = some (.list (cs.map .int)) := by
    show (D.pys _).map _ = _
    rw [pys_ints]; rfl
  have s : SeqAt.shaped (.list (cs.map .int)) = true := by
    unfold SeqAt.shaped
    rw [PyData.canLay0, canLay_ints, PyData.depth, depthInts]; rfl
  show (match D.py (.lst (cs.map .int)), D.py (.lst []) with
    | some a, some b => if SeqAt.shaped a = true ∧ SeqAt.shaped b = true then some (PyData.eqv a b) else none
    | _, _ => none).map (fun b => D.bl (!b)) = _
  rw [e, show D.py (.lst []) = some (.list []) from rfl]
  dsimp only
  rw [if_pos ⟨s, rfl⟩]
  cases cs with
  | nil => rfl
  | cons c cs => rfl
theorem ix_int {cs : List Int} {i : Int} (h0 : 0 ≤ i) (h : i < cs.length) : dIx (.lst (cs.map .int)) (.int i) = some (.int (cs.getD i.toNat 0)) := by
  show atI _ i = _
  unfold atI ixN
  rw [if_pos h0, if_pos (by rw [List.length_map]; exact h)]
  show (cs.map D.int)[i.toNat]? = _
  rw [List.getElem?_map, List.getElem?_eq_getElem (by omega)]
  show some (D.int _) = _
  rw [List.getD_eq_getElem?_getD, List.getElem?_eq_getElem (by omega)]
  rfl
theorem prime_ix (t : Int) : ∃ p : Int, dIx (.lst [.int 2147483647, .int 2147483629, .int 2147483587, .int 2147483579, .int 2147483563]) (.int (t % 5)) = some (.int p) ∧ 0 < p ∧ p < 2 ^ 31 := by
  have h1 : 0 ≤ t % 5 := Int.emod_nonneg _ (by decide)
  have h2 : t % 5 < 5 := Int.emod_lt_of_pos _ (by decide)
  have := ix_int (cs := [2147483647, 2147483629, 2147483587, 2147483579, 2147483563]) h1 h2
  refine ⟨_, this, ?_⟩
  have h3 : (t % 5).toNat = 0 ∨ (t % 5).toNat = 1 ∨ (t % 5).toNat = 2 ∨ (t % 5).toNat = 3 ∨ (t % 5).toNat = 4 := by omega
  rcases h3 with h | h | h | h | h <;> rw [h] <;> decide
theorem tail2_ok {t c many : Int} {P : RV → Gs → Prop} {E : Exn → Gs → Prop} {g : Gs} {o x2 x5 x6 x7 : LV} (ht : 0 ≤ t) (hk : t.toNat < penCap) (h0 : 0 < many) (hm : many < 9223372036854775808)
    (fin : ∀ i, 0 ≤ i → i < many → P (.dat (.int i)) g) : SOk (g_tail2 [o, .dat (.int many), x2, .dat (.int t), .dat (.int c), x5, x6, x7] g) (fnP P E) := by
  obtain ⟨p, hp, p0, p1⟩ := prime_ix t
  obtain ⟨q, hq, q0, q1⟩ := prime_ix (t + 3)
  have md : ∀ x m : Int, 0 < m → 0 ≤ x % m ∧ x % m < m := fun x m h => ⟨Int.emod_nonneg _ (by omega), Int.emod_lt_of_pos _ h⟩
  have lt : t.natAbs.log2 < 300000 := by
    unfold penCap at hk
    refine lg_lt ?_ (by decide)
    rwa [show t.toNat = t.natAbs by omega] at hk
  have l31 : ∀ x m : Int, 0 < m → m < 2 ^ 31 → (x % m).natAbs.log2 < 31 := fun x m h h' => lgI (md x m h).1 (Int.lt_trans (md x m h).2 h') (by decide)
  have l4 : (40692 * t).natAbs.log2 < 300020 := by
    refine lg_lt ?_ (by decide)
    rw [Int.natAbs_mul]
    have : t.natAbs < 2 ^ 300000 := by
      unfold penCap at hk
      rwa [show t.toNat = t.natAbs by omega] at hk
    calc (40692 : Int).natAbs * t.natAbs < 2 ^ 20 * 2 ^ 300000 := Nat.mul_lt_mul_of_lt_of_lt (by decide) this
      _ = 2 ^ 300020 := by rw [← Nat.pow_add]
  unfold g_tail2 primesL
  simp only [w_var, lvD_dat, List.getElem?_cons_zero, List.getElem?_cons_succ, w_c, w_op, w_un, w_test, w_gand, w_gor, w_gnot, w_gyes, w_and, w_or, w_not, w_if, w_nil, w_cons, w_tup, w_lst, w_folst, w_folist, w_cb, w_fd, w_call, w_ocall, ovO_own, w_get, w_args, w_items, w_part, intO_int, w_nopart, w_cut, w_folc, q_seq, q_nx, q_bk, q_ct, q_set, q_setO, q_tg, q_ret, q_retO, q_retN, q_drop, q_if, q_par, q_par3, q_put, q_app, q_for, twoO_two, triO_tri, w_rD, w_rO, lvR_d, lvR_o, q_parR, q_setAt, w_lenv, lenO_o, lenO_l, lenO_t, w_gown, ownL_at, lstO_l, m_oListL, m_oListT, q_appPop, w_intbl, w_attbl, w_callv, fnD_fn, w_tuprg, q_star, q_aug, strD_str, starO_c, rgO_int, m_mulS, m_int1i, m_int1b, m_gseqT, m_gseqL, seqP_nx, seqP_rt, seqP_bk, seqP_ct, seqP_xc, midP_nx, midP_rt, midP_bk, midP_ct, midP_xc, fnP_nx, fnP_rt, fnP_xc, rdP_nx, rdP_ct, rdP_bk, rdP_rt, rdP_xc, op_some, op_none, op_ite, op_map, op_bind, ok_ret, ok_some, m_lt, m_le, m_gt, m_ge, m_add, m_addT, m_addL, m_sub, m_mulI, m_mod, m_fdivS, m_powS, m_neg, m_bool, m_abs, m_min2, m_max2, m_lenL, m_lenT, m_lenI, m_tupL, m_tupT, m_lstL, m_lstT, m_rv1, m_rv2, m_ov, m_key, m_kds, m_so, m_rng1, m_gset, m_gtup, m_gsc, m_gsn, m_zipL, m_zipT, m_itL, m_itT, m_cutT, m_cutL, eq_I, ne_I, no_nil, no_cons, no_un, no_dat, wi_nil, wi_cons, Bool.and_true, Bool.true_and, Bool.and_self, and_self, List.set_cons_zero, List.set_cons_succ, List.length_cons, List.length_nil, m_line, Nat.reduceAdd, Nat.reduceLeDiff, Nat.reduceLT, Int.reduceLE, Int.reduceLT, Int.reduceToNat, Int.reducePow, Nat.reducePow, Int.reduceNeg, Int.reduceMul, Int.reduceAdd, Int.reduceSub, Nat.reduceMul, Nat.reduceSub, Int.reduceMod, Int.reduceDiv, Nat.zero_add, true_and, and_true, if_true, if_false, reduceCtorEq, false_implies, forall_const, true_implies, implies_true, decide_eq_true_eq, decide_eq_false_iff_not, beq_iff_eq, beq_eq_false_iff_ne, ne_eq, Bool.not_eq_true, List.append_eq, List.cons_append, List.nil_append, hp, hq, p0, q0, h0, hm]
  refine ⟨?_, ?_, ?_, ?_, ?_, ?_⟩
  · have := l31 c p p0 p1; have e : (Int.natAbs 69621).log2 = 16 := by decide +kernel
    omega
  · have e : (Int.natAbs 40692).log2 = 15 := by decide +kernel
    omega
  · omega
  · generalize (c % p * 69621 + 40692 * t * t + 11) = y
    have h1 := l31 y p p0 p1
    have h2 : (y % p + 48271).natAbs.log2 < 32 := lgI (by have := (md y p p0).1; omega) (by have := (md y p p0).2; omega) (by decide)
    omega
  · generalize ((c % p * 69621 + 40692 * t * t + 11) % p * ((c % p * 69621 + 40692 * t * t + 11) % p + 48271)) = y
    have h1 := l31 y q q0 q1
    omega
  · exact fin _ (md _ _ h0).1 (md _ _ h0).2
theorem draw_ok {k : Nat} {many : Int} {g : Gs} {P : RV → Gs → Prop} {E : Exn → Gs → Prop} (hp : Pen (k + 1) g) (h0 : 0 < many) (hm : many < 9223372036854775808)
    (fin : ∀ i g', 0 ≤ i → i < many → Pen k g' → P (.dat (.int i)) g') : Ok (g_draw [.obj 0, .int many] g) P E := by
  obtain ⟨cs, t, r, rfl, hc, ht, hk⟩ := hp
  have md : ∀ x : Int, 0 ≤ x % many ∧ x % many < many := fun x => ⟨Int.emod_nonneg _ (by omega), Int.emod_lt_of_pos _ h0⟩
  have p1 : ∀ r' : Int, Pen k [.dic (penD cs (t + 1) r')] := fun r' => ⟨cs, t + 1, r', rfl, hc, by omega, by omega⟩
  have tail1 : ∀ c : Int, SOk (g_tail1 [.dat (.obj 0), .dat (.int many), .un, .dat (.int t), .dat (.int c), .un, .un, .un] [.dic (penD cs (t + 1) r)]) (fnP P E) := fun c => by
    have t2 : SOk (g_tail2 [.dat (.obj 0), .dat (.int many), .un, .dat (.int t), .dat (.int c), .un, .un, .un] [.dic (penD cs (t + 1) r)]) (fnP P E) := tail2_ok ht (by omega) h0 hm fun i a b => fin i _ a b (p1 r)
    unfold g_tail1
    simp only [w_var, lvD_dat, List.getElem?_cons_zero, List.getElem?_cons_succ, w_c, w_op, w_un, w_test, w_gand, w_gor, w_gnot, w_gyes, w_and, w_or, w_not, w_if, w_nil, w_cons, w_tup, w_lst, w_folst, w_folist, w_cb, w_fd, w_call, w_ocall, ovO_own, w_get, w_args, w_items, w_part, intO_int, w_nopart, w_cut, w_folc, q_seq, q_nx, q_bk, q_ct, q_set, q_setO, q_tg, q_ret, q_retO, q_retN, q_drop, q_if, q_par, q_par3, q_put, q_app, q_for, twoO_two, triO_tri, w_rD, w_rO, lvR_d, lvR_o, q_parR, q_setAt, w_lenv, lenO_o, lenO_l, lenO_t, w_gown, ownL_at, lstO_l, m_oListL, m_oListT, q_appPop, w_intbl, w_attbl, w_callv, fnD_fn, w_tuprg, q_star, q_aug, strD_str, starO_c, rgO_int, m_mulS, m_int1i, m_int1b, m_gseqT, m_gseqL, seqP_nx, seqP_rt, seqP_bk, seqP_ct, seqP_xc, midP_nx, midP_rt, midP_bk, midP_ct, midP_xc, fnP_nx, fnP_rt, fnP_xc, rdP_nx, rdP_ct, rdP_bk, rdP_rt, rdP_xc, op_some, op_none, op_ite, op_map, op_bind, ok_ret, ok_some, m_lt, m_le, m_gt, m_ge, m_add, m_addT, m_addL, m_sub, m_mulI, m_mod, m_fdivS, m_powS, m_neg, m_bool, m_abs, m_min2, m_max2, m_lenL, m_lenT, m_lenI, m_tupL, m_tupT, m_lstL, m_lstT, m_rv1, m_rv2, m_ov, m_key, m_kds, m_so, m_rng1, m_gset, m_gtup, m_gsc, m_gsn, m_zipL, m_zipT, m_itL, m_itT, m_cutT, m_cutL, eq_I, ne_I, no_nil, no_cons, no_un, no_dat, wi_nil, wi_cons, Bool.and_true, Bool.true_and, Bool.and_self, and_self, List.set_cons_zero, List.set_cons_succ, List.length_cons, List.length_nil, m_line, Nat.reduceAdd, Nat.reduceLeDiff, Nat.reduceLT, Int.reduceLE, Int.reduceLT, Int.reduceToNat, Int.reducePow, Nat.reducePow, Int.reduceNeg, Int.reduceMul, Int.reduceAdd, Int.reduceSub, Nat.reduceMul, Nat.reduceSub, Int.reduceMod, Int.reduceDiv, Nat.zero_add, true_and, and_true, if_true, if_false, reduceCtorEq, false_implies, forall_const, true_implies, implies_true, decide_eq_true_eq, decide_eq_false_iff_not, beq_iff_eq, beq_eq_false_iff_ne, ne_eq, Bool.not_eq_true, List.append_eq, List.cons_append, List.nil_append, pen_rest, pen_turn, pen_cells, pen_turn', pen_rest', h0, hm, t2]
    exact fun _ _ => fin _ _ (md _).1 (md _).2 (p1 _)
  have lt : t.natAbs.log2 < 300000 := by
    refine lg_lt ?_ (by decide)
    unfold penCap at hk
    rw [show t.toNat = t.natAbs by omega] at hk
    exact Nat.lt_of_succ_le (Nat.le_trans (by omega) hk)
  have e31 : (Int.natAbs 31).log2 = 4 := by decide +kernel
  have l31 : (Int.natAbs 31).log2 + t.natAbs.log2 < 1000000 := by omega
  unfold g_draw g_cell
  rw [w_fn]
  show SOk (sSeq _ _ [.dat (.obj 0), .dat (.int many), .un, .un, .un, .un, .un, .un] _) _
  rw [q_seq]
  simp only [w_var, lvD_dat, List.getElem?_cons_zero, List.getElem?_cons_succ, w_c, w_op, w_un, w_test, w_gand, w_gor, w_gnot, w_gyes, w_and, w_or, w_not, w_if, w_nil, w_cons, w_tup, w_lst, w_folst, w_folist, w_cb, w_fd, w_call, w_ocall, ovO_own, w_get, w_args, w_items, w_part, intO_int, w_nopart, w_cut, w_folc, q_seq, q_nx, q_bk, q_ct, q_set, q_setO, q_tg, q_ret, q_retO, q_retN, q_drop, q_if, q_par, q_par3, q_put, q_app, q_for, twoO_two, triO_tri, w_rD, w_rO, lvR_d, lvR_o, q_parR, q_setAt, w_lenv, lenO_o, lenO_l, lenO_t, w_gown, ownL_at, lstO_l, m_oListL, m_oListT, q_appPop, w_intbl, w_attbl, w_callv, fnD_fn, w_tuprg, q_star, q_aug, strD_str, starO_c, rgO_int, m_mulS, m_int1i, m_int1b, m_gseqT, m_gseqL, seqP_nx, seqP_rt, seqP_bk, seqP_ct, seqP_xc, midP_nx, midP_rt, midP_bk, midP_ct, midP_xc, fnP_nx, fnP_rt, fnP_xc, rdP_nx, rdP_ct, rdP_bk, rdP_rt, rdP_xc, op_some, op_none, op_ite, op_map, op_bind, ok_ret, ok_some, m_lt, m_le, m_gt, m_ge, m_add, m_addT, m_addL, m_sub, m_mulI, m_mod, m_fdivS, m_powS, m_neg, m_bool, m_abs, m_min2, m_max2, m_lenL, m_lenT, m_lenI, m_tupL, m_tupT, m_lstL, m_lstT, m_rv1, m_rv2, m_ov, m_key, m_kds, m_so, m_rng1, m_gset, m_gtup, m_gsc, m_gsn, m_zipL, m_zipT, m_itL, m_itT, m_cutT, m_cutL, eq_I, ne_I, no_nil, no_cons, no_un, no_dat, wi_nil, wi_cons, Bool.and_true, Bool.true_and, Bool.and_self, and_self, List.set_cons_zero, List.set_cons_succ, List.length_cons, List.length_nil, m_line, Nat.reduceAdd, Nat.reduceLeDiff, Nat.reduceLT, Int.reduceLE, Int.reduceLT, Int.reduceToNat, Int.reducePow, Nat.reducePow, Int.reduceNeg, Int.reduceMul, Int.reduceAdd, Int.reduceSub, Nat.reduceMul, Nat.reduceSub, Int.reduceMod, Int.reduceDiv, Nat.zero_add, true_and, and_true, if_true, if_false, reduceCtorEq, false_implies, forall_const, true_implies, implies_true, decide_eq_true_eq, decide_eq_false_iff_not, beq_iff_eq, beq_eq_false_iff_ne, ne_eq, Bool.not_eq_true, List.append_eq, List.cons_append, List.nil_append, pen_rest, pen_turn, pen_cells, pen_turn', pen_rest', h0, hm, ne_nil, List.length_map]
  refine ⟨fun _ => fin _ _ (md _).1 (md _).2 ⟨cs, t, _, rfl, hc, ht, by omega⟩, fun _ => ⟨l31, fun hne => ?_, fun _ => tail1 _⟩⟩
  have hpos : 0 < (cs.length : Int) := by
    have : cs.length ≠ 0 := fun z => hne (List.eq_nil_of_length_eq_zero z)
    omega
  refine ⟨hpos, ?_⟩
  rw [ix_int (Int.emod_nonneg _ (by omega)) (Int.emod_lt_of_pos _ hpos), op_some]
  exact tail1 _

theorem w_lpc {fk fv : Ls → M D} {r : List ((Ls → M D) × (Ls → M D))} {ls : Ls} {g : Gs} {P : List (Key × D) → Gs → Prop} {E : Exn → Gs → Prop} :
    Ok (lPairs ((fk, fv) :: r) ls g) P E = Ok (fk ls g) (fun k g1 => Op (dKey k) fun key => Ok (fv ls g1) (fun v g2 => Ok (lPairs r ls g2) (fun ps g3 => P ((key, v) :: ps) g3) E) E) E := by
  unfold lPairs; simp only [ok_bind, ok_opt, ok_ret]; 
  congr 1; funext k g1; congr 1; funext key; congr 1; funext v g2
  cases r <;> rfl
theorem w_dispS {fs : List ((Ls → M D) × (Ls → M D))} {ls : Ls} {g : Gs} {P : D → Gs → Prop} {E : Exn → Gs → Prop} :
    Ok (fDispS fs ls g) P E = Ok (lPairs fs ls g) (fun kds g1 => P (.obj g1.length) (g1 ++ [.dic (dMerge [] kds)])) E := by
  unfold fDispS; rw [ok_bind]; simp only [Ok_eq]; rfl
def g_pen : Fn := fnF 1 (
    sRet (fDispS [(fC (.str "cells"), fCB dList (lCons (fCut (fVar 0) (fNoPart) (fPart (fC (.int 63)))) (lNil))), (fC (.str "turn"), fC (.int 0)), (fC (.str "rest"), fC (.int 0))]))
theorem cut_len {α : Type} (xs : List α) (n : Nat) : (cutD xs none (some (n : Int))).length ≤ n := by
  unfold cutD
  rw [HT.sIx_nat, HT.sIx_none, List.length_take]
  omega
theorem penM {cs : List Int} {t r : Int} : dMerge [] [(Sum.inr (("cells" : String) : Str), D.lst (cs.map .int)), (Sum.inr (("turn" : String) : Str), .int t), (Sum.inr (("rest" : String) : Str), .int r)] = penD cs t r := Eq.trans rfl rfl
theorem pen_ok {ns : List Int} {P : RV → Gs → Prop} {E : Exn → Gs → Prop} (fin : ∀ g, Pen penCap g → P (.dat (.obj 0)) g) : Ok (g_pen [.scr ns] []) P E := by
  unfold g_pen
  rw [w_fn]
  show SOk (sRet _ [.dat (.scr ns)] []) _
  simp only [w_var, lvD_dat, List.getElem?_cons_zero, List.getElem?_cons_succ, w_c, w_op, w_un, w_test, w_gand, w_gor, w_gnot, w_gyes, w_and, w_or, w_not, w_if, w_nil, w_cons, w_tup, w_lst, w_folst, w_folist, w_cb, w_fd, w_call, w_ocall, ovO_own, w_get, w_args, w_items, w_part, intO_int, w_nopart, w_cut, w_folc, q_seq, q_nx, q_bk, q_ct, q_set, q_setO, q_tg, q_ret, q_retO, q_retN, q_drop, q_if, q_par, q_par3, q_put, q_app, q_for, twoO_two, triO_tri, w_rD, w_rO, lvR_d, lvR_o, q_parR, q_setAt, w_lenv, lenO_o, lenO_l, lenO_t, w_gown, ownL_at, lstO_l, m_oListL, m_oListT, q_appPop, w_intbl, w_attbl, w_callv, fnD_fn, w_tuprg, q_star, q_aug, strD_str, starO_c, rgO_int, m_mulS, m_int1i, m_int1b, m_gseqT, m_gseqL, seqP_nx, seqP_rt, seqP_bk, seqP_ct, seqP_xc, midP_nx, midP_rt, midP_bk, midP_ct, midP_xc, fnP_nx, fnP_rt, fnP_xc, rdP_nx, rdP_ct, rdP_bk, rdP_rt, rdP_xc, op_some, op_none, op_ite, op_map, op_bind, ok_ret, ok_some, m_lt, m_le, m_gt, m_ge, m_add, m_addT, m_addL, m_sub, m_mulI, m_mod, m_fdivS, m_powS, m_neg, m_bool, m_abs, m_min2, m_max2, m_lenL, m_lenT, m_lenI, m_tupL, m_tupT, m_lstL, m_lstT, m_rv1, m_rv2, m_ov, m_key, m_kds, m_so, m_rng1, m_gset, m_gtup, m_gsc, m_gsn, m_zipL, m_zipT, m_itL, m_itT, m_cutT, m_cutL, eq_I, ne_I, no_nil, no_cons, no_un, no_dat, wi_nil, wi_cons, Bool.and_true, Bool.true_and, Bool.and_self, and_self, List.set_cons_zero, List.set_cons_succ, List.length_cons, List.length_nil, m_line, Nat.reduceAdd, Nat.reduceLeDiff, Nat.reduceLT, Int.reduceLE, Int.reduceLT, Int.reduceToNat, Int.reducePow, Nat.reducePow, Int.reduceNeg, Int.reduceMul, Int.reduceAdd, Int.reduceSub, Nat.reduceMul, Nat.reduceSub, Int.reduceMod, Int.reduceDiv, Nat.zero_add, true_and, and_true, if_true, if_false, reduceCtorEq, false_implies, forall_const, true_implies, implies_true, decide_eq_true_eq, decide_eq_false_iff_not, beq_iff_eq, beq_eq_false_iff_ne, ne_eq, Bool.not_eq_true, List.append_eq, List.cons_append, List.nil_append, w_dispS, w_lpc, w_lpn, m_cutI, penM]
  exact fin _ ⟨_, 0, 0, rfl, cut_len ns 63, Int.le_refl _, by simp⟩
def g_pick : Fn := fnF 2 (
    sRet (fOp dIx (fVar 1) (fCall g_draw (lCons (fVar 0) (lCons (fCB dLen (lCons (fVar 1) (lNil))) (lNil))))))
theorem ix_any {ds : List D} {i : Int} (h0 : 0 ≤ i) (h : i < ds.length) : dIx (.lst ds) (.int i) = some (ds.getD i.toNat .non) := by
  show atI _ i = _
  unfold atI ixN
  rw [if_pos h0, if_pos h]
  show ds[i.toNat]? = _
  rw [List.getElem?_eq_getElem (by omega), List.getD_eq_getElem?_getD, List.getElem?_eq_getElem (by omega)]
  rfl
theorem ix_anyT {ds : List D} {i : Int} (h0 : 0 ≤ i) (h : i < ds.length) : dIx (.tup ds) (.int i) = some (ds.getD i.toNat .non) := ix_any h0 h
theorem pick_ok {k : Nat} {ds : List D} {g : Gs} {P : RV → Gs → Prop} {E : Exn → Gs → Prop} (hp : Pen (k + 1) g) (h0 : 0 < ds.length) (hm : ds.length < 9223372036854775808)
    (fin : ∀ d g', d ∈ ds → Pen k g' → P (.dat d) g') : Ok (g_pick [.obj 0, .lst ds] g) P E := by
  unfold g_pick
  rw [w_fn]
  show SOk (sRet _ [.dat (.obj 0), .dat (.lst ds)] _) _
  simp only [w_var, lvD_dat, List.getElem?_cons_zero, List.getElem?_cons_succ, w_c, w_op, w_un, w_test, w_gand, w_gor, w_gnot, w_gyes, w_and, w_or, w_not, w_if, w_nil, w_cons, w_tup, w_lst, w_folst, w_folist, w_cb, w_fd, w_call, w_ocall, ovO_own, w_get, w_args, w_items, w_part, intO_int, w_nopart, w_cut, w_folc, q_seq, q_nx, q_bk, q_ct, q_set, q_setO, q_tg, q_ret, q_retO, q_retN, q_drop, q_if, q_par, q_par3, q_put, q_app, q_for, twoO_two, triO_tri, w_rD, w_rO, lvR_d, lvR_o, q_parR, q_setAt, w_lenv, lenO_o, lenO_l, lenO_t, w_gown, ownL_at, lstO_l, m_oListL, m_oListT, q_appPop, w_intbl, w_attbl, w_callv, fnD_fn, w_tuprg, q_star, q_aug, strD_str, starO_c, rgO_int, m_mulS, m_int1i, m_int1b, m_gseqT, m_gseqL, seqP_nx, seqP_rt, seqP_bk, seqP_ct, seqP_xc, midP_nx, midP_rt, midP_bk, midP_ct, midP_xc, fnP_nx, fnP_rt, fnP_xc, rdP_nx, rdP_ct, rdP_bk, rdP_rt, rdP_xc, op_some, op_none, op_ite, op_map, op_bind, ok_ret, ok_some, m_lt, m_le, m_gt, m_ge, m_add, m_addT, m_addL, m_sub, m_mulI, m_mod, m_fdivS, m_powS, m_neg, m_bool, m_abs, m_min2, m_max2, m_lenL, m_lenT, m_lenI, m_tupL, m_tupT, m_lstL, m_lstT, m_rv1, m_rv2, m_ov, m_key, m_kds, m_so, m_rng1, m_gset, m_gtup, m_gsc, m_gsn, m_zipL, m_zipT, m_itL, m_itT, m_cutT, m_cutL, eq_I, ne_I, no_nil, no_cons, no_un, no_dat, wi_nil, wi_cons, Bool.and_true, Bool.true_and, Bool.and_self, and_self, List.set_cons_zero, List.set_cons_succ, List.length_cons, List.length_nil, m_line, Nat.reduceAdd, Nat.reduceLeDiff, Nat.reduceLT, Int.reduceLE, Int.reduceLT, Int.reduceToNat, Int.reducePow, Nat.reducePow, Int.reduceNeg, Int.reduceMul, Int.reduceAdd, Int.reduceSub, Nat.reduceMul, Nat.reduceSub, Int.reduceMod, Int.reduceDiv, Nat.zero_add, true_and, and_true, if_true, if_false, reduceCtorEq, false_implies, forall_const, true_implies, implies_true, decide_eq_true_eq, decide_eq_false_iff_not, beq_iff_eq, beq_eq_false_iff_ne, ne_eq, Bool.not_eq_true, List.append_eq, List.cons_append, List.nil_append]
  refine draw_ok hp (by omega) (by omega) fun i g' i0 i1 hp' => ?_
  rw [m_rv1, ix_any i0 i1, op_some]
  refine fin _ _ ?_ hp'
  rw [List.getD_eq_getElem?_getD, List.getElem?_eq_getElem (by omega)]
  exact List.getElem_mem _
theorem pick_int {k : Nat} {cs : List Int} {g : Gs} {P : RV → Gs → Prop} {E : Exn → Gs → Prop} (hp : Pen (k + 1) g) (h0 : 0 < cs.length) (hm : cs.length < 9223372036854775808)
    (fin : ∀ i g', i ∈ cs → Pen k g' → P (.dat (.int i)) g') : Ok (g_pick [.obj 0, .lst (cs.map .int)] g) P E :=
  pick_ok hp (by simpa using h0) (by simpa using hm) fun d g' hd hp' => by
    obtain ⟨i, hi, rfl⟩ := List.mem_map.mp hd
    exact fin i g' hi hp'
def g_far : Fn := fnF 3 (
    sSeq (sSet 2 (fOp dAdd (fOp dMul (fCall g_draw (lCons (fVar 0) (lCons (fC (.int 63245)) (lNil)))) (fC (.int 63247))) (fCall g_draw (lCons (fVar 0) (lCons (fC (.int 63247)) (lNil))))))
      (sRet (fOp dIx (fLst (lCons (fOp dMod (fVar 2) (fOp dAdd (fVar 1) (fC (.int 1)))) (lCons (fC (.int 0)) (lCons (fC (.int 1)) (lCons (fC (.int 9)) (lCons (fC (.int 10)) (lCons (fC (.int 99)) (lCons (fC (.int 100)) (lCons (fOp dSub (fVar 1) (fC (.int 1))) (lCons (fVar 1) (lNil))))))))))) (fOp dFdiv (fCall g_draw (lCons (fVar 0) (lCons (fC (.int 18)) (lNil)))) (fC (.int 2))))))
theorem far_ok {k : Nat} {upto : Int} {g : Gs} {P : RV → Gs → Prop} {E : Exn → Gs → Prop} (hp : Pen (k + 3) g) (h0 : 100 ≤ upto)
    (fin : ∀ i g', 0 ≤ i → i ≤ upto → Pen k g' → P (.dat (.int i)) g') : Ok (g_far [.obj 0, .int upto] g) P E := by
  unfold g_far
  rw [w_fn]
  show SOk (sSeq _ _ [.dat (.obj 0), .dat (.int upto), .un] _) _
  simp only [w_var, lvD_dat, List.getElem?_cons_zero, List.getElem?_cons_succ, w_c, w_op, w_un, w_test, w_gand, w_gor, w_gnot, w_gyes, w_and, w_or, w_not, w_if, w_nil, w_cons, w_tup, w_lst, w_folst, w_folist, w_cb, w_fd, w_call, w_ocall, ovO_own, w_get, w_args, w_items, w_part, intO_int, w_nopart, w_cut, w_folc, q_seq, q_nx, q_bk, q_ct, q_set, q_setO, q_tg, q_ret, q_retO, q_retN, q_drop, q_if, q_par, q_par3, q_put, q_app, q_for, twoO_two, triO_tri, w_rD, w_rO, lvR_d, lvR_o, q_parR, q_setAt, w_lenv, lenO_o, lenO_l, lenO_t, w_gown, ownL_at, lstO_l, m_oListL, m_oListT, q_appPop, w_intbl, w_attbl, w_callv, fnD_fn, w_tuprg, q_star, q_aug, strD_str, starO_c, rgO_int, m_mulS, m_int1i, m_int1b, m_gseqT, m_gseqL, seqP_nx, seqP_rt, seqP_bk, seqP_ct, seqP_xc, midP_nx, midP_rt, midP_bk, midP_ct, midP_xc, fnP_nx, fnP_rt, fnP_xc, rdP_nx, rdP_ct, rdP_bk, rdP_rt, rdP_xc, op_some, op_none, op_ite, op_map, op_bind, ok_ret, ok_some, m_lt, m_le, m_gt, m_ge, m_add, m_addT, m_addL, m_sub, m_mulI, m_mod, m_fdivS, m_powS, m_neg, m_bool, m_abs, m_min2, m_max2, m_lenL, m_lenT, m_lenI, m_tupL, m_tupT, m_lstL, m_lstT, m_rv1, m_rv2, m_ov, m_key, m_kds, m_so, m_rng1, m_gset, m_gtup, m_gsc, m_gsn, m_zipL, m_zipT, m_itL, m_itT, m_cutT, m_cutL, eq_I, ne_I, no_nil, no_cons, no_un, no_dat, wi_nil, wi_cons, Bool.and_true, Bool.true_and, Bool.and_self, and_self, List.set_cons_zero, List.set_cons_succ, List.length_cons, List.length_nil, m_line, Nat.reduceAdd, Nat.reduceLeDiff, Nat.reduceLT, Int.reduceLE, Int.reduceLT, Int.reduceToNat, Int.reducePow, Nat.reducePow, Int.reduceNeg, Int.reduceMul, Int.reduceAdd, Int.reduceSub, Nat.reduceMul, Nat.reduceSub, Int.reduceMod, Int.reduceDiv, Nat.zero_add, true_and, and_true, if_true, if_false, reduceCtorEq, false_implies, forall_const, true_implies, implies_true, decide_eq_true_eq, decide_eq_false_iff_not, beq_iff_eq, beq_eq_false_iff_ne, ne_eq, Bool.not_eq_true, List.append_eq, List.cons_append, List.nil_append]
  refine draw_ok hp (by decide) (by decide) fun i g1 i0 i1 p1 => ?_
  rw [m_rv1]
  simp only [w_var, lvD_dat, List.getElem?_cons_zero, List.getElem?_cons_succ, w_c, w_op, w_un, w_test, w_gand, w_gor, w_gnot, w_gyes, w_and, w_or, w_not, w_if, w_nil, w_cons, w_tup, w_lst, w_folst, w_folist, w_cb, w_fd, w_call, w_ocall, ovO_own, w_get, w_args, w_items, w_part, intO_int, w_nopart, w_cut, w_folc, q_seq, q_nx, q_bk, q_ct, q_set, q_setO, q_tg, q_ret, q_retO, q_retN, q_drop, q_if, q_par, q_par3, q_put, q_app, q_for, twoO_two, triO_tri, w_rD, w_rO, lvR_d, lvR_o, q_parR, q_setAt, w_lenv, lenO_o, lenO_l, lenO_t, w_gown, ownL_at, lstO_l, m_oListL, m_oListT, q_appPop, w_intbl, w_attbl, w_callv, fnD_fn, w_tuprg, q_star, q_aug, strD_str, starO_c, rgO_int, m_mulS, m_int1i, m_int1b, m_gseqT, m_gseqL, seqP_nx, seqP_rt, seqP_bk, seqP_ct, seqP_xc, midP_nx, midP_rt, midP_bk, midP_ct, midP_xc, fnP_nx, fnP_rt, fnP_xc, rdP_nx, rdP_ct, rdP_bk, rdP_rt, rdP_xc, op_some, op_none, op_ite, op_map, op_bind, ok_ret, ok_some, m_lt, m_le, m_gt, m_ge, m_add, m_addT, m_addL, m_sub, m_mulI, m_mod, m_fdivS, m_powS, m_neg, m_bool, m_abs, m_min2, m_max2, m_lenL, m_lenT, m_lenI, m_tupL, m_tupT, m_lstL, m_lstT, m_rv1, m_rv2, m_ov, m_key, m_kds, m_so, m_rng1, m_gset, m_gtup, m_gsc, m_gsn, m_zipL, m_zipT, m_itL, m_itT, m_cutT, m_cutL, eq_I, ne_I, no_nil, no_cons, no_un, no_dat, wi_nil, wi_cons, Bool.and_true, Bool.true_and, Bool.and_self, and_self, List.set_cons_zero, List.set_cons_succ, List.length_cons, List.length_nil, m_line, Nat.reduceAdd, Nat.reduceLeDiff, Nat.reduceLT, Int.reduceLE, Int.reduceLT, Int.reduceToNat, Int.reducePow, Nat.reducePow, Int.reduceNeg, Int.reduceMul, Int.reduceAdd, Int.reduceSub, Nat.reduceMul, Nat.reduceSub, Int.reduceMod, Int.reduceDiv, Nat.zero_add, true_and, and_true, if_true, if_false, reduceCtorEq, false_implies, forall_const, true_implies, implies_true, decide_eq_true_eq, decide_eq_false_iff_not, beq_iff_eq, beq_eq_false_iff_ne, ne_eq, Bool.not_eq_true, List.append_eq, List.cons_append, List.nil_append]
  refine ⟨?_, draw_ok p1 (by decide) (by decide) fun j g2 j0 j1 p2 => ?_⟩
  · have h1 : i.natAbs.log2 < 16 := lgI i0 (by omega) (by decide)
    have h2 : (Int.natAbs 63247).log2 = 15 := by decide +kernel
    omega
  rw [m_rv1]
  simp only [w_var, lvD_dat, List.getElem?_cons_zero, List.getElem?_cons_succ, w_c, w_op, w_un, w_test, w_gand, w_gor, w_gnot, w_gyes, w_and, w_or, w_not, w_if, w_nil, w_cons, w_tup, w_lst, w_folst, w_folist, w_cb, w_fd, w_call, w_ocall, ovO_own, w_get, w_args, w_items, w_part, intO_int, w_nopart, w_cut, w_folc, q_seq, q_nx, q_bk, q_ct, q_set, q_setO, q_tg, q_ret, q_retO, q_retN, q_drop, q_if, q_par, q_par3, q_put, q_app, q_for, twoO_two, triO_tri, w_rD, w_rO, lvR_d, lvR_o, q_parR, q_setAt, w_lenv, lenO_o, lenO_l, lenO_t, w_gown, ownL_at, lstO_l, m_oListL, m_oListT, q_appPop, w_intbl, w_attbl, w_callv, fnD_fn, w_tuprg, q_star, q_aug, strD_str, starO_c, rgO_int, m_mulS, m_int1i, m_int1b, m_gseqT, m_gseqL, seqP_nx, seqP_rt, seqP_bk, seqP_ct, seqP_xc, midP_nx, midP_rt, midP_bk, midP_ct, midP_xc, fnP_nx, fnP_rt, fnP_xc, rdP_nx, rdP_ct, rdP_bk, rdP_rt, rdP_xc, op_some, op_none, op_ite, op_map, op_bind, ok_ret, ok_some, m_lt, m_le, m_gt, m_ge, m_add, m_addT, m_addL, m_sub, m_mulI, m_mod, m_fdivS, m_powS, m_neg, m_bool, m_abs, m_min2, m_max2, m_lenL, m_lenT, m_lenI, m_tupL, m_tupT, m_lstL, m_lstT, m_rv1, m_rv2, m_ov, m_key, m_kds, m_so, m_rng1, m_gset, m_gtup, m_gsc, m_gsn, m_zipL, m_zipT, m_itL, m_itT, m_cutT, m_cutL, eq_I, ne_I, no_nil, no_cons, no_un, no_dat, wi_nil, wi_cons, Bool.and_true, Bool.true_and, Bool.and_self, and_self, List.set_cons_zero, List.set_cons_succ, List.length_cons, List.length_nil, m_line, Nat.reduceAdd, Nat.reduceLeDiff, Nat.reduceLT, Int.reduceLE, Int.reduceLT, Int.reduceToNat, Int.reducePow, Nat.reducePow, Int.reduceNeg, Int.reduceMul, Int.reduceAdd, Int.reduceSub, Nat.reduceMul, Nat.reduceSub, Int.reduceMod, Int.reduceDiv, Nat.zero_add, true_and, and_true, if_true, if_false, reduceCtorEq, false_implies, forall_const, true_implies, implies_true, decide_eq_true_eq, decide_eq_false_iff_not, beq_iff_eq, beq_eq_false_iff_ne, ne_eq, Bool.not_eq_true, List.append_eq, List.cons_append, List.nil_append]
  refine ⟨by omega, draw_ok p2 (by decide) (by decide) fun l g3 l0 l1 p3 => ?_⟩
  rw [m_rv1]
  simp only [w_var, lvD_dat, List.getElem?_cons_zero, List.getElem?_cons_succ, w_c, w_op, w_un, w_test, w_gand, w_gor, w_gnot, w_gyes, w_and, w_or, w_not, w_if, w_nil, w_cons, w_tup, w_lst, w_folst, w_folist, w_cb, w_fd, w_call, w_ocall, ovO_own, w_get, w_args, w_items, w_part, intO_int, w_nopart, w_cut, w_folc, q_seq, q_nx, q_bk, q_ct, q_set, q_setO, q_tg, q_ret, q_retO, q_retN, q_drop, q_if, q_par, q_par3, q_put, q_app, q_for, twoO_two, triO_tri, w_rD, w_rO, lvR_d, lvR_o, q_parR, q_setAt, w_lenv, lenO_o, lenO_l, lenO_t, w_gown, ownL_at, lstO_l, m_oListL, m_oListT, q_appPop, w_intbl, w_attbl, w_callv, fnD_fn, w_tuprg, q_star, q_aug, strD_str, starO_c, rgO_int, m_mulS, m_int1i, m_int1b, m_gseqT, m_gseqL, seqP_nx, seqP_rt, seqP_bk, seqP_ct, seqP_xc, midP_nx, midP_rt, midP_bk, midP_ct, midP_xc, fnP_nx, fnP_rt, fnP_xc, rdP_nx, rdP_ct, rdP_bk, rdP_rt, rdP_xc, op_some, op_none, op_ite, op_map, op_bind, ok_ret, ok_some, m_lt, m_le, m_gt, m_ge, m_add, m_addT, m_addL, m_sub, m_mulI, m_mod, m_fdivS, m_powS, m_neg, m_bool, m_abs, m_min2, m_max2, m_lenL, m_lenT, m_lenI, m_tupL, m_tupT, m_lstL, m_lstT, m_rv1, m_rv2, m_ov, m_key, m_kds, m_so, m_rng1, m_gset, m_gtup, m_gsc, m_gsn, m_zipL, m_zipT, m_itL, m_itT, m_cutT, m_cutL, eq_I, ne_I, no_nil, no_cons, no_un, no_dat, wi_nil, wi_cons, Bool.and_true, Bool.true_and, Bool.and_self, and_self, List.set_cons_zero, List.set_cons_succ, List.length_cons, List.length_nil, m_line, Nat.reduceAdd, Nat.reduceLeDiff, Nat.reduceLT, Int.reduceLE, Int.reduceLT, Int.reduceToNat, Int.reducePow, Nat.reducePow, Int.reduceNeg, Int.reduceMul, Int.reduceAdd, Int.reduceSub, Nat.reduceMul, Nat.reduceSub, Int.reduceMod, Int.reduceDiv, Nat.zero_add, true_and, and_true, if_true, if_false, reduceCtorEq, false_implies, forall_const, true_implies, implies_true, decide_eq_true_eq, decide_eq_false_iff_not, beq_iff_eq, beq_eq_false_iff_ne, ne_eq, Bool.not_eq_true, List.append_eq, List.cons_append, List.nil_append]
  rw [show ([D.int ((i * 63247 + j) % (upto + 1)), D.int 0, D.int 1, D.int 9, D.int 10, D.int 99, D.int 100, D.int (upto - 1), D.int upto]) = [(i * 63247 + j) % (upto + 1), 0, 1, 9, 10, 99, 100, upto - 1, upto].map D.int from rfl]
  have q0 : 0 ≤ l / 2 := by omega
  have q1 : l / 2 < 9 := by omega
  rw [ix_int q0 (by simpa using q1), op_some]
  have m0 := Int.emod_nonneg (i * 63247 + j) (show upto + 1 ≠ 0 by omega)
  have m1 := Int.emod_lt_of_pos (i * 63247 + j) (show 0 < upto + 1 by omega)
  have h3 : (l / 2).toNat = 0 ∨ (l / 2).toNat = 1 ∨ (l / 2).toNat = 2 ∨ (l / 2).toNat = 3 ∨ (l / 2).toNat = 4 ∨ (l / 2).toNat = 5 ∨ (l / 2).toNat = 6 ∨ (l / 2).toNat = 7 ∨ (l / 2).toNat = 8 := by omega
  rcases h3 with h | h | h | h | h | h | h | h | h <;> rw [h] <;> refine fin _ _ ?_ ?_ p3 <;> simp <;> omega
def g_step : Fn := fnF 1 (
    sRet (fCall g_pick (lCons (fVar 0) (lCons (fLst (lCons (fC (.int 1)) (lCons (fC (.int 1)) (lCons (fC (.int 1)) (lCons (fC (.int 2)) (lCons (fC (.int 10)) (lCons (fC (.int 100000000)) (lNil)))))))) (lNil)))))
theorem step_ok {k : Nat} {g : Gs} {P : RV → Gs → Prop} {E : Exn → Gs → Prop} (hp : Pen (k + 1) g)
    (fin : ∀ i g', 1 ≤ i → i ≤ 100000000 → Pen k g' → P (.dat (.int i)) g') : Ok (g_step [.obj 0] g) P E := by
  unfold g_step
  rw [w_fn]
  show SOk (sRet _ [.dat (.obj 0)] _) _
  simp only [w_var, lvD_dat, List.getElem?_cons_zero, List.getElem?_cons_succ, w_c, w_op, w_un, w_test, w_gand, w_gor, w_gnot, w_gyes, w_and, w_or, w_not, w_if, w_nil, w_cons, w_tup, w_lst, w_folst, w_folist, w_cb, w_fd, w_call, w_ocall, ovO_own, w_get, w_args, w_items, w_part, intO_int, w_nopart, w_cut, w_folc, q_seq, q_nx, q_bk, q_ct, q_set, q_setO, q_tg, q_ret, q_retO, q_retN, q_drop, q_if, q_par, q_par3, q_put, q_app, q_for, twoO_two, triO_tri, w_rD, w_rO, lvR_d, lvR_o, q_parR, q_setAt, w_lenv, lenO_o, lenO_l, lenO_t, w_gown, ownL_at, lstO_l, m_oListL, m_oListT, q_appPop, w_intbl, w_attbl, w_callv, fnD_fn, w_tuprg, q_star, q_aug, strD_str, starO_c, rgO_int, m_mulS, m_int1i, m_int1b, m_gseqT, m_gseqL, seqP_nx, seqP_rt, seqP_bk, seqP_ct, seqP_xc, midP_nx, midP_rt, midP_bk, midP_ct, midP_xc, fnP_nx, fnP_rt, fnP_xc, rdP_nx, rdP_ct, rdP_bk, rdP_rt, rdP_xc, op_some, op_none, op_ite, op_map, op_bind, ok_ret, ok_some, m_lt, m_le, m_gt, m_ge, m_add, m_addT, m_addL, m_sub, m_mulI, m_mod, m_fdivS, m_powS, m_neg, m_bool, m_abs, m_min2, m_max2, m_lenL, m_lenT, m_lenI, m_tupL, m_tupT, m_lstL, m_lstT, m_rv1, m_rv2, m_ov, m_key, m_kds, m_so, m_rng1, m_gset, m_gtup, m_gsc, m_gsn, m_zipL, m_zipT, m_itL, m_itT, m_cutT, m_cutL, eq_I, ne_I, no_nil, no_cons, no_un, no_dat, wi_nil, wi_cons, Bool.and_true, Bool.true_and, Bool.and_self, and_self, List.set_cons_zero, List.set_cons_succ, List.length_cons, List.length_nil, m_line, Nat.reduceAdd, Nat.reduceLeDiff, Nat.reduceLT, Int.reduceLE, Int.reduceLT, Int.reduceToNat, Int.reducePow, Nat.reducePow, Int.reduceNeg, Int.reduceMul, Int.reduceAdd, Int.reduceSub, Nat.reduceMul, Nat.reduceSub, Int.reduceMod, Int.reduceDiv, Nat.zero_add, true_and, and_true, if_true, if_false, reduceCtorEq, false_implies, forall_const, true_implies, implies_true, decide_eq_true_eq, decide_eq_false_iff_not, beq_iff_eq, beq_eq_false_iff_ne, ne_eq, Bool.not_eq_true, List.append_eq, List.cons_append, List.nil_append]
  refine pick_int (cs := [1, 1, 1, 2, 10, 100000000]) hp (by decide) (by decide) fun i g' hi hp' => ?_
  refine fin i g' ?_ ?_ hp' <;> simp at hi <;> omega
def g_thing : Fn := fnF 5 (
    sRet (fCB dTuple (lCons (fD (foLc (iArgs dRange1 (lCons (fVar 1) (lNil))) [4] (gSet 4) (gYes) (fOp dMul (fVar 3) (fCall g_draw (lCons (fVar 0) (lCons (fOp dAdd (fVar 2) (fC (.int 1))) (lNil))))))) (lNil))))
theorem range_get {lo : Int} {n i : Nat} {d : D} (h : (rangeD lo n)[i]? = some d) : i < n ∧ d = .int (lo + i) := by
  unfold rangeD at h
  rw [List.getElem?_map] at h
  obtain ⟨j, hj, rfl⟩ := Option.map_eq_some_iff.mp h
  obtain ⟨h1, h2⟩ := List.getElem?_eq_some_iff.mp hj
  rw [List.length_range] at h1
  rw [List.getElem_range] at h2
  subst h2
  exact ⟨h1, rfl⟩
theorem range_len {lo : Int} {n : Nat} : (rangeD lo n).length = n := by
  unfold rangeD
  rw [List.length_map, List.length_range]
/-- ints in a list that was made -/
theorem ints_of {xs : List D} {R : Int → Prop} (h : ∀ (i : Nat) (x : D), xs[i]? = some x → ∃ j, x = D.int j ∧ R j) : ∃ js : List Int, xs = js.map D.int ∧ ∀ j ∈ js, R j := by
  induction xs with
  | nil => exact ⟨[], rfl, fun j z => by cases z⟩
  | cons x xs ih =>
    obtain ⟨js, rfl, h2⟩ := ih fun i y e => h (i + 1) y (by rw [List.getElem?_cons_succ]; exact e)
    obtain ⟨j, rfl, h3⟩ := h 0 x rfl
    exact ⟨j :: js, rfl, fun z hz => by
      rcases List.mem_cons.mp hz with rfl | hz
      · exact h3
      · exact h2 z hz⟩
theorem thing_ok {k : Nat} {many upto by_ : Int} {g : Gs} {P : RV → Gs → Prop} {E : Exn → Gs → Prop} (hp : Pen (k + many.toNat) g) (h0 : 0 ≤ many) (h1 : many ≤ 1000) (h2 : 0 ≤ upto) (h3 : upto ≤ 1000000000000000000) (b0 : 0 ≤ by_) (b1 : by_ ≤ 1000000000000000000)
    (fin : ∀ (js : List Int) (g' : Gs), js.length = many.toNat → (∀ j ∈ js, 0 ≤ j ∧ j ≤ by_ * upto) → Pen k g' → P (.dat (.tup (js.map .int))) g') : Ok (g_thing [.obj 0, .int many, .int upto, .int by_] g) P E := by
  unfold g_thing
  rw [w_fn]
  show SOk (sRet _ [.dat (.obj 0), .dat (.int many), .dat (.int upto), .dat (.int by_), .un] _) _
  simp only [w_var, lvD_dat, List.getElem?_cons_zero, List.getElem?_cons_succ, w_c, w_op, w_un, w_test, w_gand, w_gor, w_gnot, w_gyes, w_and, w_or, w_not, w_if, w_nil, w_cons, w_tup, w_lst, w_folst, w_folist, w_cb, w_fd, w_call, w_ocall, ovO_own, w_get, w_args, w_items, w_part, intO_int, w_nopart, w_cut, w_folc, q_seq, q_nx, q_bk, q_ct, q_set, q_setO, q_tg, q_ret, q_retO, q_retN, q_drop, q_if, q_par, q_par3, q_put, q_app, q_for, twoO_two, triO_tri, w_rD, w_rO, lvR_d, lvR_o, q_parR, q_setAt, w_lenv, lenO_o, lenO_l, lenO_t, w_gown, ownL_at, lstO_l, m_oListL, m_oListT, q_appPop, w_intbl, w_attbl, w_callv, fnD_fn, w_tuprg, q_star, q_aug, strD_str, starO_c, rgO_int, m_mulS, m_int1i, m_int1b, m_gseqT, m_gseqL, seqP_nx, seqP_rt, seqP_bk, seqP_ct, seqP_xc, midP_nx, midP_rt, midP_bk, midP_ct, midP_xc, fnP_nx, fnP_rt, fnP_xc, rdP_nx, rdP_ct, rdP_bk, rdP_rt, rdP_xc, op_some, op_none, op_ite, op_map, op_bind, ok_ret, ok_some, m_lt, m_le, m_gt, m_ge, m_add, m_addT, m_addL, m_sub, m_mulI, m_mod, m_fdivS, m_powS, m_neg, m_bool, m_abs, m_min2, m_max2, m_lenL, m_lenT, m_lenI, m_tupL, m_tupT, m_lstL, m_lstT, m_rv1, m_rv2, m_ov, m_key, m_kds, m_so, m_rng1, m_gset, m_gtup, m_gsc, m_gsn, m_zipL, m_zipT, m_itL, m_itT, m_cutT, m_cutL, eq_I, ne_I, no_nil, no_cons, no_un, no_dat, wi_nil, wi_cons, Bool.and_true, Bool.true_and, Bool.and_self, and_self, List.set_cons_zero, List.set_cons_succ, List.length_cons, List.length_nil, m_line, Nat.reduceAdd, Nat.reduceLeDiff, Nat.reduceLT, Int.reduceLE, Int.reduceLT, Int.reduceToNat, Int.reducePow, Nat.reducePow, Int.reduceNeg, Int.reduceMul, Int.reduceAdd, Int.reduceSub, Nat.reduceMul, Nat.reduceSub, Int.reduceMod, Int.reduceDiv, Nat.zero_add, true_and, and_true, if_true, if_false, reduceCtorEq, false_implies, forall_const, true_implies, implies_true, decide_eq_true_eq, decide_eq_false_iff_not, beq_iff_eq, beq_eq_false_iff_ne, ne_eq, Bool.not_eq_true, List.append_eq, List.cons_append, List.nil_append, range_len]
  refine ⟨by omega, by omega, ?_⟩
  refine lc_all (fun i g => Pen (k + (many.toNat - i)) g) (fun _ x => ∃ j, x = D.int j ∧ 0 ≤ j ∧ j ≤ by_ * upto) hp (fun i d g hd hi => ?_) fun xs g hl hx hi => ?_
  · obtain ⟨hi1, rfl⟩ := range_get hd
    simp only [w_var, lvD_dat, List.getElem?_cons_zero, List.getElem?_cons_succ, w_c, w_op, w_un, w_test, w_gand, w_gor, w_gnot, w_gyes, w_and, w_or, w_not, w_if, w_nil, w_cons, w_tup, w_lst, w_folst, w_folist, w_cb, w_fd, w_call, w_ocall, ovO_own, w_get, w_args, w_items, w_part, intO_int, w_nopart, w_cut, w_folc, q_seq, q_nx, q_bk, q_ct, q_set, q_setO, q_tg, q_ret, q_retO, q_retN, q_drop, q_if, q_par, q_par3, q_put, q_app, q_for, twoO_two, triO_tri, w_rD, w_rO, lvR_d, lvR_o, q_parR, q_setAt, w_lenv, lenO_o, lenO_l, lenO_t, w_gown, ownL_at, lstO_l, m_oListL, m_oListT, q_appPop, w_intbl, w_attbl, w_callv, fnD_fn, w_tuprg, q_star, q_aug, strD_str, starO_c, rgO_int, m_mulS, m_int1i, m_int1b, m_gseqT, m_gseqL, seqP_nx, seqP_rt, seqP_bk, seqP_ct, seqP_xc, midP_nx, midP_rt, midP_bk, midP_ct, midP_xc, fnP_nx, fnP_rt, fnP_xc, rdP_nx, rdP_ct, rdP_bk, rdP_rt, rdP_xc, op_some, op_none, op_ite, op_map, op_bind, ok_ret, ok_some, m_lt, m_le, m_gt, m_ge, m_add, m_addT, m_addL, m_sub, m_mulI, m_mod, m_fdivS, m_powS, m_neg, m_bool, m_abs, m_min2, m_max2, m_lenL, m_lenT, m_lenI, m_tupL, m_tupT, m_lstL, m_lstT, m_rv1, m_rv2, m_ov, m_key, m_kds, m_so, m_rng1, m_gset, m_gtup, m_gsc, m_gsn, m_zipL, m_zipT, m_itL, m_itT, m_cutT, m_cutL, eq_I, ne_I, no_nil, no_cons, no_un, no_dat, wi_nil, wi_cons, Bool.and_true, Bool.true_and, Bool.and_self, and_self, List.set_cons_zero, List.set_cons_succ, List.length_cons, List.length_nil, m_line, Nat.reduceAdd, Nat.reduceLeDiff, Nat.reduceLT, Int.reduceLE, Int.reduceLT, Int.reduceToNat, Int.reducePow, Nat.reducePow, Int.reduceNeg, Int.reduceMul, Int.reduceAdd, Int.reduceSub, Nat.reduceMul, Nat.reduceSub, Int.reduceMod, Int.reduceDiv, Nat.zero_add, true_and, and_true, if_true, if_false, reduceCtorEq, false_implies, forall_const, true_implies, implies_true, decide_eq_true_eq, decide_eq_false_iff_not, beq_iff_eq, beq_eq_false_iff_ne, ne_eq, Bool.not_eq_true, List.append_eq, List.cons_append, List.nil_append]
    refine draw_ok (k := k + (many.toNat - (i + 1))) (hi.less (by omega)) (by omega) (by omega) fun x g' x0 x1 hp' => ?_
    rw [m_rv1]
    simp only [w_var, lvD_dat, List.getElem?_cons_zero, List.getElem?_cons_succ, w_c, w_op, w_un, w_test, w_gand, w_gor, w_gnot, w_gyes, w_and, w_or, w_not, w_if, w_nil, w_cons, w_tup, w_lst, w_folst, w_folist, w_cb, w_fd, w_call, w_ocall, ovO_own, w_get, w_args, w_items, w_part, intO_int, w_nopart, w_cut, w_folc, q_seq, q_nx, q_bk, q_ct, q_set, q_setO, q_tg, q_ret, q_retO, q_retN, q_drop, q_if, q_par, q_par3, q_put, q_app, q_for, twoO_two, triO_tri, w_rD, w_rO, lvR_d, lvR_o, q_parR, q_setAt, w_lenv, lenO_o, lenO_l, lenO_t, w_gown, ownL_at, lstO_l, m_oListL, m_oListT, q_appPop, w_intbl, w_attbl, w_callv, fnD_fn, w_tuprg, q_star, q_aug, strD_str, starO_c, rgO_int, m_mulS, m_int1i, m_int1b, m_gseqT, m_gseqL, seqP_nx, seqP_rt, seqP_bk, seqP_ct, seqP_xc, midP_nx, midP_rt, midP_bk, midP_ct, midP_xc, fnP_nx, fnP_rt, fnP_xc, rdP_nx, rdP_ct, rdP_bk, rdP_rt, rdP_xc, op_some, op_none, op_ite, op_map, op_bind, ok_ret, ok_some, m_lt, m_le, m_gt, m_ge, m_add, m_addT, m_addL, m_sub, m_mulI, m_mod, m_fdivS, m_powS, m_neg, m_bool, m_abs, m_min2, m_max2, m_lenL, m_lenT, m_lenI, m_tupL, m_tupT, m_lstL, m_lstT, m_rv1, m_rv2, m_ov, m_key, m_kds, m_so, m_rng1, m_gset, m_gtup, m_gsc, m_gsn, m_zipL, m_zipT, m_itL, m_itT, m_cutT, m_cutL, eq_I, ne_I, no_nil, no_cons, no_un, no_dat, wi_nil, wi_cons, Bool.and_true, Bool.true_and, Bool.and_self, and_self, List.set_cons_zero, List.set_cons_succ, List.length_cons, List.length_nil, m_line, Nat.reduceAdd, Nat.reduceLeDiff, Nat.reduceLT, Int.reduceLE, Int.reduceLT, Int.reduceToNat, Int.reducePow, Nat.reducePow, Int.reduceNeg, Int.reduceMul, Int.reduceAdd, Int.reduceSub, Nat.reduceMul, Nat.reduceSub, Int.reduceMod, Int.reduceDiv, Nat.zero_add, true_and, and_true, if_true, if_false, reduceCtorEq, false_implies, forall_const, true_implies, implies_true, decide_eq_true_eq, decide_eq_false_iff_not, beq_iff_eq, beq_eq_false_iff_ne, ne_eq, Bool.not_eq_true, List.append_eq, List.cons_append, List.nil_append]
    refine ⟨?_, ⟨_, rfl, Int.mul_nonneg b0 x0, Int.mul_le_mul_of_nonneg_left (by omega) b0⟩, hp'⟩
    have a1 : by_.natAbs.log2 < 60 := lgI b0 (by omega) (by decide)
    have a2 : x.natAbs.log2 < 60 := lgI x0 (by omega) (by decide)
    omega
  · rw [range_len] at hi hl
    obtain ⟨js, rfl, hj⟩ := ints_of hx
    exact fin js g (by simpa using hl) hj (hi.less (by omega))

/-! ### data that repr shows -/
structure ShP (dep len : Nat) (p : PyData) : Prop where
  sh : p.showable = true
  dp : p.depth ≤ dep
  ln : p.shown.length ≤ len
  cl : p.canLay0 = true
def SH (dep len : Nat) (d : D) : Prop := ∃ p, D.py d = some p ∧ ShP dep len p
def reprS (d : D) : Str := match D.py d with
  | some p => p.shown
  | none => ""
theorem SH.mono {a b a' b' : Nat} {d : D} (h : SH a b d) (ha : a ≤ a') (hb : b ≤ b') : SH a' b' d := by
  obtain ⟨p, e, h⟩ := h
  exact ⟨p, e, h.sh, Nat.le_trans h.dp ha, Nat.le_trans h.ln hb, h.cl⟩
theorem SH.repr {a b : Nat} {d : D} (h : SH a b d) (ha : a ≤ 60) (hb : b ≤ 16777216) : dRepr [d] = some (.str (reprS d)) := by
  obtain ⟨p, e, h⟩ := h
  show (D.py d).bind (fun p => if shows p = true then some (D.str p.shown) else none) = _
  unfold reprS
  rw [e]
  show (if _ then _ else _) = _
  rw [if_pos]
  unfold shows
  rw [Bool.and_eq_true, Bool.and_eq_true, decide_eq_true_eq, decide_eq_true_eq]
  exact ⟨⟨h.sh, Nat.le_trans h.dp ha⟩, Nat.le_trans h.ln hb⟩
theorem SH.int {i : Int} (k : Nat) (h : i.natAbs < 10 ^ k) (hk : 0 < k) (hk2 : k ≤ 500) : SH 0 (k + 1) (.int i) := by
  refine ⟨.int i, rfl, ?_, Nat.le_refl _, ?_, rfl⟩
  · have h2 : i.natAbs < 2 ^ 1919 := Nat.lt_trans (Nat.lt_of_lt_of_le h (Nat.pow_le_pow_right (by decide) hk2)) (by decide +kernel)
    have := lg_lt h2 (by decide)
    show decide _ = true
    rw [decide_eq_true_eq]
    omega
  · show (Str.ofString (toString i)).length ≤ _
    rw [ofString_length]
    exact int_text_length_le10 hk h
theorem SH.bl {b : Bool} : SH 0 5 (.bl b) := ⟨.bool b, rfl, rfl, Nat.le_refl _, by cases b <;> decide, rfl⟩
theorem SH.non : SH 0 4 .non := ⟨.none, rfl, rfl, Nat.le_refl _, by decide, rfl⟩
theorem shs {a l : Nat} : ∀ {ds : List D}, (∀ d ∈ ds, SH a l d) → ∃ ps, D.pys ds = some ps ∧ ps.length = ds.length ∧ PyData.showableAll ps = true ∧ PyData.depthAll ps ≤ a ∧ ((PyData.shownAll ps).map (·.length)).sum ≤ ds.length * l ∧ PyData.canLayAll0 ps = true
  | [], _ => ⟨[], rfl, rfl, rfl, Nat.zero_le _, by simp [PyData.shownAll], rfl⟩
  | d :: ds, h => by
    obtain ⟨p, e, hp⟩ := h d (by simp)
    obtain ⟨ps, e2, h1, h2, h3, h4, h5⟩ := shs (ds := ds) fun x hx => h x (List.mem_cons_of_mem _ hx)
    refine ⟨p :: ps, ?_, by simp [h1], ?_, ?_, ?_, by rw [PyData.canLayAll0, hp.cl, h5]; rfl⟩
    · show (D.py d).bind _ = _
      rw [e, e2]; rfl
    · rw [PyData.showableAll, hp.sh, h2]; rfl
    · rw [PyData.depthAll]; exact Nat.max_le.mpr ⟨hp.dp, h3⟩
    · rw [PyData.shownAll, List.map_cons, List.sum_cons, List.length_cons, Nat.succ_mul]
      have := hp.ln
      omega
theorem shown_n : ∀ ps : List PyData, (PyData.shownAll ps).length = ps.length
  | [] => rfl
  | p :: ps => by rw [PyData.shownAll, List.length_cons, List.length_cons, shown_n ps]
theorem SH.tup {a l : Nat} {ds : List D} (h : ∀ d ∈ ds, SH a l d) : SH (a + 1) (ds.length * (l + 2) + 3) (.tup ds) := by
  obtain ⟨ps, e, h1, h2, h3, h4, h5⟩ := shs h
  refine ⟨.tuple ps, ?_, by rw [PyData.showable]; exact h2, by rw [PyData.depth]; omega, ?_, by rw [PyData.canLay0]; exact h5⟩
  · show (D.pys ds).map _ = _
    rw [e]; rfl
  · rw [PyData.shown]
    have := tupleText_len_le (PyData.shownAll ps)
    rw [shown_n, h1] at this
    rw [Nat.mul_add]
    omega
theorem SH.lst {a l : Nat} {ds : List D} (h : ∀ d ∈ ds, SH a l d) : SH (a + 1) (ds.length * (l + 2) + 3) (.lst ds) := by
  obtain ⟨ps, e, h1, h2, h3, h4, h5⟩ := shs h
  refine ⟨.list ps, ?_, by rw [PyData.showable]; exact h2, by rw [PyData.depth]; omega, ?_, by rw [PyData.canLay0]; exact h5⟩
  · show (D.pys ds).map _ = _
    rw [e]; rfl
  · rw [PyData.shown]
    have := listText_len_le (PyData.shownAll ps)
    rw [shown_n, h1] at this
    rw [Nat.mul_add]
    omega
theorem m_neS {x : Str} : dNe (.str x) (.str x) = some (.bl false) := by
  unfold dNe dEqv dEqS
  simp
theorem m_eqS {x y : Str} : dEq (.str x) (.str y) = some (.bl (x.cps.toList == y.cps.toList)) := Eq.trans rfl rfl
theorem eqv_ints : ∀ a b : List Int, PyData.eqvAll (a.map .int) (b.map .int) = decide (a = b)
  | [], [] => rfl
  | [], _ :: _ => rfl
  | _ :: _, [] => rfl
  | x :: a, y :: b => by
    rw [List.map_cons, List.map_cons, PyData.eqvAll, eqv_ints a b, PyData.eqv]
    by_cases h : x = y
    · subst h; simp
    · simp [h]
theorem py_intsL {a : List Int} : D.py (.lst (a.map .int)) = some (.list (a.map .int)) := by
  show (D.pys _).map _ = _
  rw [pys_ints]; rfl
theorem py_intsT {a : List Int} : D.py (.tup (a.map .int)) = some (.tuple (a.map .int)) := by
  show (D.pys _).map _ = _
  rw [pys_ints]; rfl
theorem shaped_intsL {a : List Int} : SeqAt.shaped (.list (a.map .int)) = true := by
  unfold SeqAt.shaped
  rw [PyData.canLay0, canLay_ints, PyData.depth, depthInts]; rfl
theorem shaped_intsT {a : List Int} : SeqAt.shaped (.tuple (a.map .int)) = true := by
  unfold SeqAt.shaped
  rw [PyData.canLay0, canLay_ints, PyData.depth, depthInts]; rfl
theorem eqv_L {a b : List Int} : dEqv (.lst (a.map .int)) (.lst (b.map .int)) = some (decide (a = b)) := by
  show (match D.py (.lst (a.map .int)), D.py (.lst (b.map .int)) with
    | some a, some b => if SeqAt.shaped a = true ∧ SeqAt.shaped b = true then some (PyData.eqv a b) else none
    | _, _ => none) = _
  rw [py_intsL, py_intsL]
  dsimp only
  rw [if_pos ⟨shaped_intsL, shaped_intsL⟩, PyData.eqv, eqv_ints]
theorem eqv_T {a b : List Int} : dEqv (.tup (a.map .int)) (.tup (b.map .int)) = some (decide (a = b)) := by
  show (match D.py (.tup (a.map .int)), D.py (.tup (b.map .int)) with
    | some a, some b => if SeqAt.shaped a = true ∧ SeqAt.shaped b = true then some (PyData.eqv a b) else none
    | _, _ => none) = _
  rw [py_intsT, py_intsT]
  dsimp only
  rw [if_pos ⟨shaped_intsT, shaped_intsT⟩, PyData.eqv, eqv_ints]
theorem eq_L {a b : List Int} : dEq (.lst (a.map .int)) (.lst (b.map .int)) = some (.bl (decide (a = b))) := by unfold dEq; rw [eqv_L]; rfl
theorem eq_T {a b : List Int} : dEq (.tup (a.map .int)) (.tup (b.map .int)) = some (.bl (decide (a = b))) := by unfold dEq; rw [eqv_T]; rfl
theorem ne_L {a b : List Int} : dNe (.lst (a.map .int)) (.lst (b.map .int)) = some (.bl (!decide (a = b))) := by unfold dNe; rw [eqv_L]; rfl
theorem ne_T {a b : List Int} : dNe (.tup (a.map .int)) (.tup (b.map .int)) = some (.bl (!decide (a = b))) := by unfold dNe; rw [eqv_T]; rfl
theorem SH.intsT {a : List Int} (k : Nat) (h : ∀ i ∈ a, i.natAbs < 10 ^ k) (hk : 0 < k) (hk2 : k ≤ 500) : SH 1 (a.length * (k + 3) + 3) (.tup (a.map .int)) := by
  have := SH.tup (a := 0) (l := k + 1) (ds := a.map D.int) fun d hd => by
    obtain ⟨i, hi, rfl⟩ := List.mem_map.mp hd
    exact SH.int k (h i hi) hk hk2
  rw [List.length_map] at this
  exact this
theorem SH.intsL {a : List Int} (k : Nat) (h : ∀ i ∈ a, i.natAbs < 10 ^ k) (hk : 0 < k) (hk2 : k ≤ 500) : SH 1 (a.length * (k + 3) + 3) (.lst (a.map .int)) := by
  have := SH.lst (a := 0) (l := k + 1) (ds := a.map D.int) fun d hd => by
    obtain ⟨i, hi, rfl⟩ := List.mem_map.mp hd
    exact SH.int k (h i hi) hk hk2
  rw [List.length_map] at this
  exact this
theorem sIx_pos {n d : Nat} {i : Int} (h : 0 ≤ i) : HT.sIx n d (some i) = min i.toNat n := by
  show (if i < 0 then _ else _) = _
  rw [if_neg (by omega)]
theorem cut_to {α : Type} {xs : List α} {i : Int} (h : 0 ≤ i) (h2 : i ≤ xs.length) : cutD xs none (some i) = xs.take i.toNat := by
  unfold cutD
  rw [HT.sIx_none, sIx_pos h, List.drop_zero]
  congr 1
  omega
theorem cut_from {α : Type} {xs : List α} {i : Int} (h : 0 ≤ i) (h2 : i ≤ xs.length) : cutD xs (some i) none = xs.drop i.toNat := by
  unfold cutD
  rw [HT.sIx_none, sIx_pos h, show min i.toNat xs.length = i.toNat by omega]
  exact List.take_of_length_le (by rw [List.length_drop]; omega)
theorem cut_last {α : Type} {xs : List α} : cutD xs none (some (-1)) = xs.take (xs.length - 1) := by
  unfold cutD
  rw [HT.sIx_none, List.drop_zero]
  congr 1
  have e : HT.sIx xs.length xs.length (some (-1)) = ((-1 : Int) + (xs.length : Int)).toNat := rfl
  rw [e]
  omega
theorem ix_intI {cs : List Int} {i : Int} (h0 : 0 ≤ i) (h : i < cs.length) : dIx (.tup (cs.map .int)) (.int i) = some (.int (cs.getD i.toNat 0)) := ix_int h0 h
theorem ix_last {cs : List Int} (h : cs ≠ []) : dIx (.tup (cs.map .int)) (.int (-1)) = some (.int (cs.getD (cs.length - 1) 0)) := by
  have hl : 0 < cs.length := List.length_pos_iff.mpr h
  show atI _ (-1) = _
  unfold atI ixN
  rw [if_neg (by decide), if_pos (by rw [List.length_map]; omega)]
  show (cs.map D.int)[((-1 : Int) + ((cs.map D.int).length : Int)).toNat]? = _
  rw [List.length_map, show ((-1 : Int) + (cs.length : Int)).toNat = cs.length - 1 by omega, List.getElem?_map, List.getElem?_eq_getElem (by omega), List.getD_eq_getElem?_getD, List.getElem?_eq_getElem (by omega)]
  rfl
theorem getI_mem {cs : List Int} {i : Nat} (h : i < cs.length) : cs.getD i 0 ∈ cs := by
  rw [List.getD_eq_getElem?_getD, List.getElem?_eq_getElem h]
  exact List.getElem_mem _
theorem zip_ints : ∀ a b : List Int, zipD (a.map .int) (b.map .int) = (a.zip b).map fun p => .tup [.int p.1, .int p.2]
  | [], _ => by cases ‹List Int› <;> rfl
  | _ :: _, [] => rfl
  | x :: a, y :: b => by
    rw [List.map_cons, List.map_cons, zipD, zip_ints a b]; rfl
theorem as_bls {α : Type} {f : α → Bool} : ∀ xs : List α, asBls (xs.map fun x => .bl (f x)) = some (xs.map f)
  | [] => rfl
  | x :: xs => by
    rw [List.map_cons, asBls, as_bls xs]; rfl
theorem as_ints : ∀ xs : List Int, asInts (xs.map .int) = some xs
  | [] => rfl
  | x :: xs => by
    rw [List.map_cons, asInts, as_ints xs]; rfl
theorem pen_big : 1000000 ≤ penCap := by
  unfold penCap
  exact Nat.le_trans (by decide +kernel : 1000000 ≤ 2 ^ 20) (Nat.pow_le_pow_right (by decide) (by decide))
theorem ix_intT {cs : List Int} {i : Nat} (h : i < cs.length) : dIx (.tup (cs.map .int)) (.int (0 + (i : Int))) = some (.int (cs.getD i 0)) := by
  have := ix_int (cs := cs) (i := 0 + (i : Int)) (by omega) (by omega)
  rw [show (0 + (i : Int)).toNat = i by omega] at this
  exact this
theorem due_eq (f : Int × Int → Int) : ∀ a b : List Int, a.length = b.length → (List.range a.length).map (fun i => D.int (f (a.getD i 0, b.getD i 0))) = ((a.zip b).map f).map D.int
  | [], [], _ => rfl
  | x :: a, y :: b, h => by
    have ih := due_eq f a b (by simpa using h)
    rw [List.length_cons, List.range_succ_eq_map, List.map_cons, List.map_map, List.zip_cons_cons, List.map_cons, List.map_cons, ← ih]
    rfl
theorem ext_T {f : List Int → Int} {t : List Int} (h : t ≠ []) : dExt f [.tup (t.map .int)] = some (.int (f t)) := by
  show (asInts _).bind (fun ns => if ns ≠ [] then some (D.int (f ns)) else none) = _
  rw [as_ints]
  show (if t ≠ [] then _ else _) = _
  rw [if_pos h]
theorem ext_L {f : List Int → Int} {t : List Int} (h : t ≠ []) : dExt f [.lst (t.map .int)] = some (.int (f t)) := by
  show (asInts _).bind (fun ns => if ns ≠ [] then some (D.int (f ns)) else none) = _
  rw [as_ints]
  show (if t ≠ [] then _ else _) = _
  rw [if_pos h]
theorem sum_L {t : List Int} : dSum [.lst (t.map .int)] = some (.int t.sum) := by
  show (asInts _).map _ = _
  rw [as_ints]; rfl
end G6

namespace G6
section
open PySem PySem.Spec PyProof.Rows L2 HT
variable {prog : Program} {w : World} {A : Around} {E : Value → Shared → Prop} {s : Shared}
theorem adjust_rev (n : Nat) : Builtin.Slice.sliceAdjust none none (-1) (n : Int) = ((n : Int) - 1, -1) := by
  unfold Builtin.Slice.sliceAdjust
  simp
theorem places_rev (n : Nat) : Builtin.Slice.slicePlaces ((n : Int) - 1) (-1) (-1) = n := by
  unfold Builtin.Slice.slicePlaces
  have h1 : ¬ ((-1 : Int) > 0) := by omega
  simp only [h1, if_false]
  split
  · rw [show (-(-1) : Int) = 1 by decide, Int.ediv_one]; omega
  · omega
theorem applied_rev {sl : Addr} {vl vu : Value} {t : Tok} {n : Nat} {Q : Int × Int × Nat → Shared → Prop} (hs : s.heap.IsSliceOf sl vl vu (.int (-1) t)) (pl : IsPart vl none) (pu : IsPart vu none)
    (h : Q ((n : Int) - 1, -1, n) s) : wpAny (model prog w) A (Builtin.Slice.sliceApplied (.ref sl) (pure (n : Int))) Q E s := by
  obtain ⟨os, hos, hcs, hds⟩ := id hs
  unfold Builtin.Slice.sliceApplied Builtin.Slice.sliceFields
  refine wpAny_bind (wpAny_bind (wpAny_field hos hds (x := vl) rfl (wpAny_bind (wpAny_field hos hds (x := vu) rfl (wpAny_bind (wpAny_field hos hds (x := .int (-1) t) rfl (wpAny_pure ?_)))))))
  refine wpAny_bind (slicePart_int ?_)
  show wpAny _ _ (if ((-1 : Int) == 0) = true then _ else _) _ _ s
  rw [if_neg (by decide)]
  refine wpAny_bind (slicePart_ pl (wpAny_bind (slicePart_ pu (wpAny_bind (wpAny_pure ?_)))))
  show wpAny _ _ (match Builtin.Slice.sliceAdjust none none (-1) (n : Int) with | (lo, hi) => pure (lo, (-1 : Int), Builtin.Slice.slicePlaces lo hi (-1))) _ _ s
  rw [adjust_rev n]
  show wpAny _ _ (pure ((n : Int) - 1, (-1 : Int), Builtin.Slice.slicePlaces ((n : Int) - 1) (-1) (-1))) _ _ s
  rw [places_rev]
  exact wpAny_pure h
theorem fm_congr {α β : Type} {f g : α → Option β} : ∀ xs : List α, (∀ x ∈ xs, f x = g x) → xs.filterMap f = xs.filterMap g
  | [], _ => rfl
  | x :: xs, h => by
    rw [List.filterMap_cons, List.filterMap_cons, h x (by simp), fm_congr xs fun y hy => h y (List.mem_cons_of_mem _ hy)]
theorem pick_rev (xs : Array Value) : ((List.range xs.size).filterMap fun (m : Nat) => xs[(((xs.size : Int) - 1) + (m : Int) * (-1)).toNat]?).toArray = xs.toList.reverse.toArray := by
  congr 1
  have e : ((List.range xs.size).filterMap fun (m : Nat) => xs[(((xs.size : Int) - 1) + (m : Int) * (-1)).toNat]?) = ((List.range xs.size).map fun m => xs.size - 1 - m).filterMap (xs[·]?) := by
    rw [List.filterMap_map]
    refine fm_congr _ fun m hm => ?_
    have := List.mem_range.mp hm
    show xs[_]? = xs[xs.size - 1 - m]?
    congr 1
    omega
  rw [e, PySem.W.krv_range, List.filterMap_reverse, PySem.W.krv_all]
theorem getItem_tuple_rev {t sl : Addr} {items : Array Value} {vl vu : Value} {tk : Tok} {Q : Value → Shared → Prop} (ht : IsTup s.heap t items) (hs : s.heap.IsSliceOf sl vl vu (.int (-1) tk)) (pl : IsPart vl none) (pu : IsPart vu none)
    (h : Q (.ref s.heap.objs.size) { s with heap := s.heap.push { cls := .type "tuple", data := .seq items.toList.reverse.toArray } })
    (hsz : items.size ≤ sizeLine) : wpAny (model prog w) A (getItem (.ref t) (.ref sl)) Q E s := by
  have htake : sizeOk (.seq items.toList.reverse.toArray) := by
    show items.toList.reverse.toArray.size ≤ sizeLine
    rw [List.size_toArray, List.length_reverse, Array.length_toList]
    exact hsz
  obtain ⟨os, hos, hcs, hds⟩ := id hs
  have hTs : s.TypeIs (.ref sl) "slice" := ⟨os, hos, hcs⟩
  unfold getItem
  try with_reducible refine wpAny_holding ?_
  first | refine wpAny_bind (wpAny_pure ?_) | skip
  refine wpAny_bind (wpAny_sequenceKey ht.typeIs (by decide) ?_)
  refine wpAny_bind (wpAny_callSpecial?_slot (name := Str.ofString "__getitem__") ht.typeIs PyProof.Rows.slot_tuple_getitem
    (wpAny_call_entry PyProof.Rows.slot_tuple_getitem ht.typeIs entry_tuple_getitem ?_ (args_tuple_getitem _ _)))
  show wpAny _ _ (Builtin.Tuple.tupleItemsOf (.ref t) >>= _) _ _ s
  refine wpAny_bind (tupleItemsOf_ ht ?_)
  refine wpAny_bind (wpAny_typeOf hTs ?_)
  rw [if_pos (by decide)]
  refine wpAny_bind (applied_rev hs pl pu ?_)
  have hno : ¬ ((((items.size : Int) - 1) == 0 && (-1 : Int) == 1 && items.size == items.size) = true) := by
    intro q
    rw [Bool.and_eq_true, Bool.and_eq_true] at q
    exact absurd q.1.2 (by decide)
  show wpAny _ _ (if (((items.size : Int) - 1) == 0 && (-1 : Int) == 1 && items.size == items.size) = true then _ else _) _ _ s
  rw [if_neg hno, pick_rev]
  first
    | exact wpAny_bind (m := Builtin.Tuple.tupleExact _) (wpAny_newObj_type (wpAny_pure ⟨_, rfl, wpAny_pure h⟩) htake)
    | exact wpAny_bind (m := Builtin.Tuple.tupleExact _) (wpAny_newObj_type (wpAny_bind (wpAny_pure (wpAny_pure ⟨_, rfl, wpAny_pure h⟩))) htake)
    | exact wpAny_bind (wpAny_bind (m := Builtin.Tuple.tupleExact _) (wpAny_newObj_type (wpAny_pure (wpAny_pure ⟨_, rfl, wpAny_pure h⟩)) htake))
    | exact wpAny_bind (wpAny_bind (m := Builtin.Tuple.tupleExact _) (wpAny_newObj_type (wpAny_pure ⟨_, rfl, wpAny_pure h⟩) htake))
end

/-! ### e[::-1] -/
section
open PySem PySem.Spec PyProof.Rows L2 HT
variable {X : Cx} {T : Tab} {E : XE} {a : Expr} {fa : Ls → M D}
def dRev : D → Option D
  | .lst ds => some (.lst ds.reverse)
  | .tup ds => some (.tup ds.reverse)
  | _ => none
def tRevA (K : PySem.W.Frag) (te : TE) : TE := fun σ H Q => te σ H fun x H1 => ∃ a xs, x = .ref a ∧ ((SqL K H1 a xs ∧ ∀ p, H1 p = none → Q (.ref p) (upd H1 p (.lst xs.reverse))) ∨ (SqT K H1 a xs ∧ ∀ p, H1 p = none → Q (.ref p) (upd H1 p (.tup xs.reverse))))
theorem pe_revA {e : Expr} {te : TE} {k : Nat} {p1 p2 p3 pos : Pos} (he : PE X e te) : PE X (.Subscript e (.Slice none none (some (.UnaryOp .USub (.Constant (.int 1) k p1) p2)) p3) pos) (tRevA X.K te) := by
  refine ⟨fun pins s σ H Q I h => ?_⟩
  refine Subscript_ (thn (he.run pins s σ H _ I h) fun v s1 ⟨x, H1, I1, r1, q1⟩ => ?_)
  obtain ⟨a, xs, ex, hq⟩ := q1
  subst ex
  cases r1
  have hst : PO X (some (.UnaryOp .USub (.Constant (.int 1) k p1) p2)) (tPart (tUn (rU fun i => .int (-i)) (tC (.int 1)))) := po_some (pe_un un_neg pe_int)
  refine wpAny_Slice (thn (po_none.run pins s1 σ H1 (fun o H2 => o = none ∧ H2 = H1) I1 ⟨rfl, rfl⟩) fun vl s2 ⟨l, H2, I2, pl, el, e2⟩ => ?_)
  subst el e2
  refine thn (po_none.run pins s2 σ H2 (fun o H3 => o = none ∧ H3 = H2) I2 ⟨rfl, rfl⟩) fun vu s3 ⟨u, H3, I3, pu, eu, e3⟩ => ?_
  subst eu e3
  refine thn (hst.run pins s3 σ H3 (fun o H4 => o = some (-1) ∧ H4 = H3) I3 ⟨1, rfl, -1, rfl, rfl, rfl⟩) fun vs s4 ⟨o, H4, I4, ps, eo, e4⟩ => ?_
  subst eo e4
  have I5 : Inv X pins σ H4 { s4 with heap := s4.heap.push { cls := .type "slice", data := .fields #[vl, vu, vs] } } := I4.kept (t' := s4.toks) fun b ob q => Heap.get?_push_of_some _ q
  show wpAny (model X.prog X.w) X.A (subscriptTail e (.Slice none none (some (.UnaryOp .USub (.Constant (.int 1) k p1) p2)) p3) (.ref a) (.ref s4.heap.objs.size)) (EP X pins σ Q) X.xe { s4 with heap := s4.heap.push { cls := .type "slice", data := .fields #[vl, vu, vs] } }
  rcases hq with ⟨hx, q⟩ | ⟨hx, q⟩
  · obtain ⟨its, r, ht, hz⟩ := I5.list hx
    have hlen := r.length
    refine tail_any (ops := [.ref a, .ref s4.heap.objs.size]) ht.isList.typeIs (PySem.slot_list_getitem.lookup) ?_ (by with_unfolding_all rfl)
    refine wpAny_getItem_list_slice ht.isList (Heap.IsSliceOf.new _ vl vu vs) pl pu ps (by decide) ?_ (by rw [List.size_toArray]; omega)
    rw [PySem.W.krv_pick]
    refine ⟨.ref _, _, I5.laid (t' := s4.toks) (o := .lst xs.reverse) (fun b ob q => Heap.get?_push_of_some _ q) (Nat.le_refl _) ?_, rfl, q _ (I5.hok.fresh (Nat.le_refl _))⟩
    exact ⟨by rw [List.length_reverse]; exact hz, _, 0, r.reverse, Heap.get?_push_size _ rfl⟩
  · obtain ⟨its, r, ht, hz⟩ := I5.tuple hx
    have hlen := r.length
    obtain ⟨tk, rfl⟩ : ∃ tk, vs = .int (-1) tk := by cases ps; exact ⟨_, rfl⟩
    refine tail_any (ops := [.ref a, .ref s4.heap.objs.size]) ht.typeIs (PyProof.Rows.slot_tuple_getitem.lookup) ?_ (by with_unfolding_all rfl)
    refine getItem_tuple_rev ht (Heap.IsSliceOf.new _ vl vu _) pl pu ?_ (by rw [List.size_toArray]; omega)
    refine ⟨.ref _, _, I5.laid (t' := s4.toks) (o := .tup xs.reverse) (fun b ob q => Heap.get?_push_of_some _ q) (Nat.le_refl _) ?_, rfl, q _ (I5.hok.fresh (Nat.le_refl _))⟩
    exact ⟨by rw [List.length_reverse]; exact hz, _, r.reverse, IsTup.new _ _⟩
theorem x_rev {k : Nat} {p1 p2 p3 pos : Pos} (ha : FE X T E a fa) : FE X T E (.Subscript a (.Slice none none (some (.UnaryOp .USub (.Constant (.int 1) k p1) p2)) p3) pos) (fUn dRev fa) :=
  (pe_revA ha).imp fun σ H Q ⟨B, r, Hi, ls, g, R, w⟩ => ⟨B, r, Hi, ls, g, R, w.bind.mono fun d r1 Hi1 H1 g1 R1 G1 w1 v p1 => by
    obtain ⟨x, ex, w2⟩ := w1.opt
    cases p1 with
    | lst h1 a1 => cases ex; exact ⟨_, _, rfl, .inl ⟨L2.SqL.of (R1.sub _ _ h1), new_lst R1 a1.rev w2⟩⟩
    | tup h1 a1 => cases ex; exact ⟨_, _, rfl, .inr ⟨G6.SqT.mono R1.sub h1, new_tup R1 a1.rev w2⟩⟩
    | _ => cases ex⟩
/-! ### e == [], e == () -/
def dEqN : D → D → Option D
  | .lst ds, .lst [] => some (.bl ds.isEmpty)
  | .tup ds, .tup [] => some (.bl ds.isEmpty)
  | _, _ => none
def rEqN (K : PySem.W.Frag) : R2 := fun x y H Q => ∃ a b xs, x = .ref a ∧ y = .ref b ∧ ((SqL K H a xs ∧ SqL K H b []) ∨ (SqT K H a xs ∧ SqT K H b [])) ∧ Q (.bl xs.isEmpty) H
theorem op_eqN (hu : X.A.units + 64 < cLine) : OpR X (compareOp .Eq) (rEqN X.K) := by
  intro pins s σ H x y v u Q I rx ry h
  obtain ⟨a, b, xs, rfl, rfl, hq, q⟩ := h
  cases rx
  cases ry
  rcases hq with ⟨h1, h2⟩ | ⟨h1, h2⟩
  · obtain ⟨its, r1, p1, _⟩ := I.list h1
    obtain ⟨its2, r2, p2, _⟩ := I.list h2
    cases r2
    cases r1 with
    | nil => exact SeqAt.eq_listAt (e := fun _ => true) p1.isList p2.isList rfl (by omega) (fun j z => by simp at z) ⟨.bl _, H, I, rfl, q⟩
    | cons _ _ => exact SeqAt.eq_list_lengthsAt p1.isList p2.isList (by simp) (by omega) ⟨.bl _, H, I, rfl, q⟩
  · obtain ⟨its, r1, p1, _⟩ := I.tuple h1
    obtain ⟨its2, r2, p2, _⟩ := I.tuple h2
    cases r2
    refine SeqAt.eq_tupleAt (e := fun _ => true) p1 p2 (by omega) (fun j z z2 => by simp at z2) ?_
    cases r1 with
    | nil => exact ⟨.bl _, H, I, rfl, q⟩
    | cons _ _ => exact ⟨.bl false, H, I, by simp; exact rfl, q⟩
theorem os_eqN : OpS X T (rEqN X.K) dEqN := by
  intro E B r Hi H σ ls g v u d e x Q R p q ex w
  cases p with
  | lst h1 a1 =>
    cases q with
    | lst h2 a2 =>
      cases a2 with
      | cons _ _ => cases ex
      | nil =>
        cases ex
        refine ⟨_, _, _, rfl, rfl, .inl ⟨L2.SqL.of (R.sub _ _ h1), L2.SqL.of (R.sub _ _ h2)⟩, ?_⟩
        cases a1 with
        | nil => exact w.ret R .refl _ (.bl _)
        | cons _ _ => exact w.ret R .refl _ (.bl _)
    | _ => cases ex
  | tup h1 a1 =>
    cases q with
    | tup h2 a2 =>
      cases a2 with
      | cons _ _ => cases ex
      | nil =>
        cases ex
        refine ⟨_, _, _, rfl, rfl, .inr ⟨G6.SqT.mono R.sub h1, G6.SqT.mono R.sub h2⟩, ?_⟩
        cases a1 with
        | nil => exact w.ret R .refl _ (.bl _)
        | cons _ _ => exact w.ret R .refl _ (.bl _)
    | _ => cases ex
  | _ => cases ex
variable {b : Expr} {fb : Ls → M D} {pos : Pos}
theorem d_eqN (hu : X.A.units + 64 < cLine) (ha : FE X T E a fa) (hb : FE X T E b fb) (hm : behindInMarks .Eq b = false) : FE X T E (.Compare a [.Eq] [b] pos) (fOp dEqN fa fb) := fe_cmp (op_eqN hu) os_eqN ha hb hm
theorem t_eqN (hu : X.A.units + 64 < cLine) (ha : FE X T E a fa) (hb : FE X T E b fb) (hm : behindInMarks .Eq b = false) : FT X T E (.Compare a [.Eq] [b] pos) (fTest (fOp dEqN fa fb)) := ft_cmp (op_eqN hu) os_eqN ha hb hm
/-! ### reading an own list's item -/
def fIxV (i : Nat) (fb : Ls → M D) : Ls → M D := fun ls => match ownL ls i with
  | some ds => M.bind (fb ls) fun e => M.opt (dIx (.lst ds) e)
  | none => fOp dIx (fVar i) fb ls
theorem x_ixV (i : Nat) {x : Str} {p1 : Pos} (hN : X.N[i]? = some x) (hv : Vis X.env.scope x) (hd : (x == ("__debug__" : Str)) = false) (hcd : (x == ("__classdict__" : Str)) = false) (hb : FE X T E b fb) (hp : PlainIx b) : FE X T E (.Subscript (.Name x p1) b pos) (fIxV i fb) :=
  (pe_ix ix_seq (pe_var hN hv hd hcd) hb hp).imp fun σ H Q ⟨B, r, Hi, ls, g, R, w⟩ => by
    unfold fIxV at w
    cases e : ownL ls i with
    | some ds =>
      rw [e] at w
      obtain ⟨p, ho, h1, h2, h3, h4, h5⟩ := R.own i _ (ownL_some e)
      have w' : WpG X.K T E B σ ls r Hi (M.bind (fb ls) (fun e => M.opt (dIx (.lst ds) e)) g) (PD X.K T Q) := w
      refine ⟨.ref p, h1, B, r, Hi, ls, g, R, w'.bind.mono fun d r1 Hi1 H1 g1 R1 G1 w1 v p1 => ?_⟩
      obtain ⟨y, ey, w2⟩ := w1.opt
      obtain ⟨p', ho', k1, k2, k3, k4, k5⟩ := R1.own i _ (ownL_some e)
      rw [h1] at k1
      cases k1
      cases k3 with
      | lst al =>
        cases p1 with
        | int j =>
          obtain ⟨v, e1, pv⟩ := al.atI ey
          exact .inl ⟨_, _, j, v, rfl, rfl, L2.SqL.of k2, e1, w2.ret R1 .refl _ pv⟩
        | _ => cases ey
    | none =>
      rw [e] at w
      have w2 : WpG X.K T E B σ ls r Hi (fOp dIx (fVar i) fb ls g) (PD X.K T Q) := w
      unfold fOp fVar at w2
      cases el : ls[i]? with
      | none => simp only [el] at w2; exact w2.elim
      | some l =>
        cases l with
        | un => simp only [el] at w2; exact w2.elim
        | own o => simp only [el] at w2; exact w2.elim
        | dat d =>
          obtain ⟨v, k1, k2⟩ := R.loc i d el
          simp only [el] at w2
          refine ⟨v, k1, B, r, Hi, ls, g, R, ?_⟩
          have w3 : WpG X.K T E B σ ls r Hi (M.bind (fb ls) (fun e => M.opt (dIx d e)) g) (PD X.K T Q) := w2
          refine w3.bind.mono fun d2 r1 Hi1 H1 g1 R1 G1 w1 v1 p1 => ?_
          obtain ⟨y, ey, w4⟩ := w1.opt
          exact os_ix E B r1 Hi1 H1 σ ls g1 v v1 d d2 y Q R1 (k2.mono G1) p1 ey w4
/-! ### a list of one's own from a + b -/
def oCat : D → D → Option OV
  | .lst a, .lst b => if (a ++ b).length ≤ sizeLine then some (.lst (a ++ b)) else none
  | _, _ => none
def foCat (fa fb : Ls → M D) : Ls → M OV := fun ls => M.bind (fa ls) fun d => M.bind (fb ls) fun e => M.opt (oCat d e)
theorem feo_cat (ha : FE X T E a fa) (hb : FE X T E b fb) : FEO X T E (.BinOp a .Add b pos) (foCat fa fb) :=
  (pe_op op_cat ha hb).imp fun σ H Q ⟨B, r, Hi, ls, g, R, w⟩ => ⟨B, r, Hi, ls, g, R, w.bind.mono fun d r1 Hi1 H1 g1 R1 G1 w1 v p1 => ⟨B, r1, Hi1, ls, g1, R1, w1.bind.mono fun e r2 Hi2 H2 g2 R2 G2 w2 u p2 => by
    obtain ⟨o, eo, w3⟩ := w2.opt
    have p1 := p1.mono G2
    cases p1 with
    | lst h1 a1 =>
      cases p2 with
      | lst h2 a2 =>
        unfold oCat at eo
        dsimp only at eo
        split at eo
        · rename_i hz
          cases eo
          refine ⟨_, _, _, _, rfl, rfl, R2.sub _ _ h1, R2.sub _ _ h2, ?_, po_new R2 (.lst (a1.app a2)) w3⟩
          rw [a1.length, a2.length]
          simpa using hz
        · cases eo
      | _ => cases eo
    | _ => cases eo⟩⟩
/-! ### arithmetic of truths -/
abbrev b2I (b : Bool) : Int := if b = true then 1 else 0
def dAddX : D → D → Option D
  | .bl b, .int j => some (.int (b2I b + j))
  | d, e => dAdd d e
def dSubX : D → D → Option D
  | .bl b, .int j => some (.int (b2I b - j))
  | d, e => dSub d e
def dMulX : D → D → Option D
  | .bl b, .int j => some (.int (b2I b * j))
  | d, e => dMul d e
def dNegX : D → Option D
  | .bl b => some (.int (-(b2I b)))
  | d => dNeg d
def dStrX : List D → Option D
  | [.bl b] => some (.str (if b then "True" else "False"))
  | ds => dStrI ds
def rBX (f : Bool → Int → Int) (rr : R2) : R2 := fun x y H Q => (∃ b j, x = .bl b ∧ y = .int j ∧ Q (.int (f b j)) H) ∨ rr x y H Q
theorem op_bx {op : Operator} {f : Bool → Int → Int} {rr : R2} (hb : ∀ {s : Shared} {Q : Value → Shared → Prop} (b : Bool) (j : Int) (u : Tok), (Q (.int (f b j) s.toks) { s with toks := s.toks + 1 }) → wpAny (model X.prog X.w) X.A (binaryOp op (.bool b) (.int j u)) Q X.xe s)
    (h : OpR X (binaryOp op) rr) : OpR X (binaryOp op) (rBX f rr) := by
  intro pins s σ H x y v u Q I rx ry q
  rcases q with ⟨b, j, rfl, rfl, q⟩ | q
  · cases rx
    obtain ⟨t, rfl⟩ := ry
    exact hb b j t ⟨.int _, H, I.tok _, ⟨_, rfl⟩, q⟩
  · exact h pins s σ H x y v u Q I rx ry q
theorem os_bx {f : Bool → Int → Int} {rr : R2} {o o' : D → D → Option D} (h : OpS X T rr o) (e1 : ∀ b j, o' (.bl b) (.int j) = some (.int (f b j))) (e2 : ∀ d e, (∀ b j, ¬ (d = .bl b ∧ e = .int j)) → o' d e = o d e) : OpS X T (rBX f rr) o' := by
  intro E B r Hi H σ ls g v u d e x Q R p q ex w
  by_cases hc : ∃ b j, d = .bl b ∧ e = .int j
  · obtain ⟨b, j, rfl, rfl⟩ := hc
    cases p
    cases q
    rw [e1] at ex
    cases ex
    exact .inl ⟨b, j, rfl, rfl, w.ret R .refl _ (.int _)⟩
  · rw [e2 d e fun b j z => hc ⟨b, j, z⟩] at ex
    exact .inr (h E B r Hi H σ ls g v u d e x Q R p q ex w)
theorem d_addX (ha : FE X T E a fa) (hb : FE X T E b fb) : FE X T E (.BinOp a .Add b pos) (fOp dAddX fa fb) :=
  fe_op (op_bx (f := fun b j => b2I b + j) (fun b j u h => PySem.IntBool.add_bool_int h) op_addA) (os_bx os_add (fun _ _ => rfl) fun d e h => by cases d <;> first | rfl | (cases e <;> first | rfl | exact absurd ⟨rfl, rfl⟩ (h _ _))) ha hb
theorem d_subX (ha : FE X T E a fa) (hb : FE X T E b fb) : FE X T E (.BinOp a .Sub b pos) (fOp dSubX fa fb) :=
  fe_op (op_bx (f := fun b j => b2I b - j) (fun b j u h => PySem.IntBool.sub_bool_int h) op_sub) (os_bx os_sub (fun _ _ => rfl) fun d e h => by cases d <;> first | rfl | (cases e <;> first | rfl | exact absurd ⟨rfl, rfl⟩ (h _ _))) ha hb
theorem d_mulX (ha : FE X T E a fa) (hb : FE X T E b fb) : FE X T E (.BinOp a .Mult b pos) (fOp dMulX fa fb) :=
  fe_op (op_bx (f := fun b j => b2I b * j) (fun b j u h => PySem.IntBool.mul_bool_int h) op_mulA) (os_bx os_mul (fun _ _ => rfl) fun d e h => by cases d <;> first | rfl | (cases e <;> first | rfl | exact absurd ⟨rfl, rfl⟩ (h _ _))) ha hb
theorem gives_bool_neg (b : Bool) : Gives (Builtin.«int.__neg__» ⟨[.bool b], []⟩) (.int (-(b2I b))) := .of_eq (by cases b <;> rfl)
theorem un_negX : UnR X (unaryOp .USub) (fun x H Q => (∃ b, x = .bl b ∧ Q (.int (-(b2I b))) H) ∨ rU (fun i => .int (-i)) x H Q) := by
  intro pins s σ H x v Q I rx q
  rcases q with ⟨b, rfl, q⟩ | q
  · cases rx
    exact unaryOp_gives (op := .USub) (PySem.typeIs_bool s b) rfl F.slot_bool_neg F.entry_int_neg (F.args_int_neg_1 _) (gives_bool_neg b) ⟨.int _, H, I.tok _, ⟨_, rfl⟩, q⟩
  · exact un_neg pins s σ H x v Q I rx q
theorem us_negX : UnS X T (fun x H Q => (∃ b, x = .bl b ∧ Q (.int (-(b2I b))) H) ∨ rU (fun i => .int (-i)) x H Q) dNegX := by
  intro E B r Hi H σ ls g v d x Q R p ex w
  cases p with
  | bl b => cases ex; exact .inl ⟨b, rfl, w.ret R .refl _ (.int _)⟩
  | int i => cases ex; exact .inr ⟨i, rfl, w.ret R .refl _ (.int _)⟩
  | _ => cases ex
theorem d_negX (ha : FE X T E a fa) : FE X T E (.UnaryOp .USub a pos) (fUn dNegX fa) := fe_un un_negX us_negX ha
theorem str_of_bool {prog : Program} {w : World} {A : Around} {E : Value → Shared → Prop} {s : Shared} {b : Bool} {Q : Value → Shared → Prop} (h : Q (.str (if b then "True" else "False") s.toks) { s with toks := s.toks + 1 }) : wpAny (model prog w) A (call (.type "str") [.bool b]) Q E s :=
  PySem.callType_new F.called_str (by decide) (F.typeCall_str_1 _) (F.newCall_str_1 _) (fun obj => F.args_object_init_2 obj _) F.entry_str_new
    (PySem.meets_str_new (S := fun _ R s => R (.ok (.ret (.str (if b then "True" else "False") s.toks))) { s with toks := s.toks + 1 }) fun _ _ _ _ s hq =>
      wpAny_strOf_gives rfl (PySem.typeIs_bool s b) F.slot_bool_str F.slot_bool_repr F.entry_bool_repr (F.args_bool_repr_1 _) (PySem.gives_bool_repr b) hq (hsz := by cases b <;> decide)) ⟨typeIs_str _ _ _, h⟩
def rStrX : List V → Hp → VK → Prop := fun xs H Q => (∃ b : Bool, xs = [.bl b] ∧ Q (.str (if b then "True" else "False")) H) ∨ ∃ i, xs = [.int i] ∧ i.natAbs.log2 < 1920 ∧ Q (.str (toString i)) H
theorem call_strX : CallR X (.type "str") rStrX := by
  intro pins s σ H xs us Q I r h
  rcases h with ⟨b, rfl, q⟩ | h
  · obtain ⟨u, rfl, r1⟩ := vals1 r
    cases r1
    exact str_of_bool ⟨.str _, H, I.tok _, ⟨_, rfl⟩, q⟩
  · exact call_str_int pins s σ H xs us Q I r h
theorem cs_strX : CallS X T rStrX dStrX := by
  intro E B r Hi H σ ls g vs ds x Q R p ex w
  cases p with
  | nil => cases ex
  | cons h t =>
    cases t with
    | cons _ _ => cases h <;> cases ex
    | nil =>
      cases h with
      | bl b => cases ex; exact .inl ⟨b, rfl, w.ret R .refl _ (.str _)⟩
      | int i => exact .inr (cs_strI E B r Hi H σ ls g _ _ x Q R (.cons (.int i) .nil) ex w)
      | _ => cases ex
theorem c_str {l : Ls → M (List D)} {pn : Pos} (hm : X.mg "str" = none) (ha : FA X T E [a] l) (hg : Gl X "str") (he : starEach [a] X.env = (false, eval a X.env) :: starEach [] X.env) (hpl : (backTo pos (starEach [] X.env)).any (·.1) = false) : FE X T E (.Call (.Name "str" pn) [a] [] pos) (fCB dStrX l) :=
  fe_callTy call_strX cs_strX hg hm bt_str ha (by decide) (by decide) he hpl
/-! ### a module's constants -/
def KInt (mg : Str → Option Value) (x : Str) (i : Int) : Prop := ∃ t, mg x = some (.int i t)
def KStr (mg : Str → Option Value) (x : Str) (z : Str) : Prop := ∃ t, mg x = some (.str z t)
def KTup (K : PySem.W.Frag) (mg : Str → Option Value) (x : Str) (ds : List D) : Prop := ∃ a xs, mg x = some (.ref a) ∧ (∀ H, SqT K H a xs) ∧ ∀ T r Hi, RepAll K T r Hi xs ds
theorem x_kint {x : Str} {i : Int} (h : KInt X.mg x i) (hg : Gl X x) (hd : (x == ("__debug__" : Str)) = false) : FE X T E (.Name x pos) (fC (.int i)) := by
  obtain ⟨t, h⟩ := h
  exact fe_glob hg h (v := .int i) ⟨t, rfl⟩ (fun _ _ => .int i) hd
theorem x_kstr {x z : Str} (h : KStr X.mg x z) (hg : Gl X x) (hd : (x == ("__debug__" : Str)) = false) : FE X T E (.Name x pos) (fC (.str z)) := by
  obtain ⟨t, h⟩ := h
  exact fe_glob hg h (v := .str z) ⟨t, rfl⟩ (fun _ _ => .str z) hd
theorem x_ktup {x : Str} {ds : List D} (h : KTup X.K X.mg x ds) (hg : Gl X x) (hd : (x == ("__debug__" : Str)) = false) : FE X T E (.Name x pos) (fC (.tup ds)) := by
  obtain ⟨a, xs, h, h2, h3⟩ := h
  exact fe_glob hg h (v := .ref a) rfl (fun r Hi => .tup (h2 Hi) (h3 T r Hi)) hd
inductive KVal : List Value → List D → Prop
  | nil : KVal [] []
  | int {i t vs ds} : KVal vs ds → KVal (.int i t :: vs) (.int i :: ds)
  | str {i t vs ds} : KVal vs ds → KVal (.str i t :: vs) (.str i :: ds)
theorem KVal.out {K : PySem.W.Frag} : ∀ {us : List Value} {ds : List D}, KVal us ds → ∃ xs, Vals xs us ∧ ∀ T r Hi, RepAll K T r Hi xs ds
  | _, _, .nil => ⟨[], .nil, fun _ _ _ => .nil⟩
  | _, _, .int (i := i) (t := t) h => let ⟨xs, a, b⟩ := KVal.out h; ⟨.int i :: xs, .cons ⟨t, rfl⟩ a, fun T r Hi => .cons (.int i) (b T r Hi)⟩
  | _, _, .str (i := i) (t := t) h => let ⟨xs, a, b⟩ := KVal.out h; ⟨.str i :: xs, .cons ⟨t, rfl⟩ a, fun T r Hi => .cons (.str i) (b T r Hi)⟩
theorem ktup_of {K : PySem.W.Frag} {mg : Str → Option Value} {x : Str} {a : Addr} {od : Option Addr} {us : List Value} {n : Nat} {sl : Array (Option Value)} {ds : List D} (hm : mg x = some (.ref a)) (hl : K.lookup a = some ⟨.type "tuple", od, .seq us.toArray n, sl⟩) (h : KVal us ds) (hz : us.length ≤ 16777216) : KTup K mg x ds := by
  obtain ⟨xs, h1, h2⟩ := h.out (K := K)
  exact ⟨a, xs, hm, fun H => .inr ⟨_, us.toArray, n, hl, rfl, rfl, by simpa [sizeLine] using hz, by simpa using h1⟩, h2⟩
end
end G6

namespace G6
open PySem PySem.Spec L2

/-! ### the calculus for GU's operations -/
section
variable {ls : Ls} {g : Gs} {E : Exn → Gs → Prop} {fa fb : Ls → M D} {ds es : List D} {i j : Int}
def lsO (o : Option LV) : Option D := match o with
  | some (.own (.lst ds)) => some (.lst ds)
  | some (.dat d) => some d
  | _ => none
theorem lsO_o : lsO (some (.own (.lst ds))) = some (.lst ds) := Eq.trans rfl rfl
theorem lsO_d {d : D} : lsO (some (.dat d)) = some d := Eq.trans rfl rfl
theorem w_ixv {k : Nat} {P : D → Gs → Prop} : Ok (fIxV k fb ls g) P E = Op (lsO ls[k]?) fun d => Ok (fb ls g) (fun e g1 => Op (dIx d e) fun x => P x g1) E := by
  unfold fIxV
  cases e : ownL ls k with
  | some ds =>
    rw [ownL_some e, lsO_o, op_some]
    dsimp only
    simp only [ok_bind, ok_opt]
  | none =>
    dsimp only
    rw [w_op, w_var]
    unfold ownL at e
    cases el : ls[k]? with
    | none => simp only [Op_eq]; rfl
    | some l =>
      cases l with
      | un => simp only [Op_eq]; rfl
      | own o =>
        rw [el] at e
        cases o with
        | lst ds => cases e
        | _ => simp only [Op_eq]; rfl
      | dat d => rw [lsO_d, lvD_dat]
theorem w_chn {fc : Ls → M D} {o o' : D → D → Option D} {P : D → Gs → Prop} : Ok (fChain o o' fa fb fc ls g) P E = Ok (fa ls g) (fun d g1 => Ok (fb ls g1) (fun e g2 => Op (o d e) fun x => Op (dBool x) fun k => (k = true → Ok (fc ls g2) (fun f g3 => Op (o' e f) fun x => P x g3) E) ∧ (k = false → P (.bl false) g2)) E) E := by
  unfold fChain; simp only [ok_bind, ok_opt, ok_ret, ite_g, ok_ite, Bool.not_eq_true, op_bind]
theorem lc_pureD {tg : D → Ls → Option Ls} {tt : Ls → M Bool} {fe : Ls → M D} {lw : Ls} {ds : List D} {h : D → D} {f : D → Bool} {P : List D → Gs → Prop}
    (step : ∀ x ∈ ds, Op (tg x lw) fun ls1 => Ok (tt ls1 g) (fun b g1 => b = f x ∧ g1 = g) noE ∧ (f x = true → Ok (fe ls1 g) (fun d g1 => d = h x ∧ g1 = g) noE))
    (fin : P ((ds.filter f).map h) g) : Ok (lcGo tg tt fe lw ds g) P E := by
  have := lc_pure (E := E) (P := P) (g := g) (tg := tg) (tt := tt) (fe := fe) (lw := lw) (xs := ds) (k := id) (h := h) (f := f) step fin
  rwa [List.map_id] at this
theorem lc_mapD {tg : D → Ls → Option Ls} {fe : Ls → M D} {lw : Ls} {ds : List D} {h : D → D} {P : List D → Gs → Prop}
    (step : ∀ x ∈ ds, Op (tg x lw) fun ls1 => Ok (fe ls1 g) (fun d g1 => d = h x ∧ g1 = g) noE)
    (fin : P (ds.map h) g) : Ok (lcGo tg gYes fe lw ds g) P E := by
  have := lc_map (E := E) (P := P) (g := g) (tg := tg) (fe := fe) (lw := lw) (xs := ds) (k := id) (h := h) step fin
  rwa [List.map_id] at this
theorem w_focat {P : OV → Gs → Prop} : Ok (foCat fa fb ls g) P E = Ok (fa ls g) (fun d g1 => Ok (fb ls g1) (fun e g2 => Op (oCat d e) fun o => P o g2) E) E := by unfold foCat; simp only [ok_bind, ok_opt]
theorem m_ocat : oCat (.lst ds) (.lst es) = if (ds ++ es).length ≤ sizeLine then some (.lst (ds ++ es)) else none := Eq.trans rfl rfl
theorem m_eqnL : dEqN (.lst ds) (.lst []) = some (.bl ds.isEmpty) := Eq.trans rfl rfl
theorem m_eqnT : dEqN (.tup ds) (.tup []) = some (.bl ds.isEmpty) := Eq.trans rfl rfl
theorem w_disp0 {P : OV → Gs → Prop} : Ok (foDisp0 ls g) P E = P (.dic []) g := by simp only [Ok_eq]; rfl
theorem m_ovd {kds : List (Key × D)} : OV.d (.dic kds) = .dic (kds.map (·.1)) (kds.map (·.2)) := Eq.trans rfl rfl
def frzO (o : Option LV) (i : Nat) (ls : Ls) : Ls := match o with
  | some (.own o) => ls.set i (.dat o.d)
  | _ => ls
theorem frzO_o {o : OV} {k : Nat} : frzO (some (.own o)) k ls = ls.set k (.dat o.d) := Eq.trans rfl rfl
theorem frzO_d {d : D} {k : Nat} : frzO (some (.dat d)) k ls = ls := Eq.trans rfl rfl
theorem q_frz {k : Nat} {s : S} {P : Fl → Gs → Prop} : SOk (sFrz k s ls g) P = SOk (s (frzO ls[k]? k ls) g) P := by
  unfold sFrz frzO
  cases ls[k]? with
  | none => rfl
  | some l => cases l <;> rfl
theorem m_revL : dRev (.lst ds) = some (.lst ds.reverse) := Eq.trans rfl rfl
theorem m_revT : dRev (.tup ds) = some (.tup ds.reverse) := Eq.trans rfl rfl
theorem m_addXi : dAddX (.int i) (.int j) = some (.int (i + j)) := Eq.trans rfl rfl
theorem m_addXb {b : Bool} : dAddX (.bl b) (.int j) = some (.int (b2I b + j)) := Eq.trans rfl rfl
theorem m_subXi : dSubX (.int i) (.int j) = some (.int (i - j)) := Eq.trans rfl rfl
theorem m_subXb {b : Bool} : dSubX (.bl b) (.int j) = some (.int (b2I b - j)) := Eq.trans rfl rfl
theorem m_mulXi : dMulX (.int i) (.int j) = if i.natAbs.log2 + j.natAbs.log2 < 1000000 then some (.int (i * j)) else none := Eq.trans rfl rfl
theorem m_mulXb {b : Bool} : dMulX (.bl b) (.int j) = some (.int (b2I b * j)) := Eq.trans rfl rfl
theorem m_negXi : dNegX (.int i) = some (.int (-i)) := Eq.trans rfl rfl
theorem m_negXb {b : Bool} : dNegX (.bl b) = some (.int (-(b2I b))) := Eq.trans rfl rfl
theorem m_strXb {b : Bool} : dStrX [.bl b] = some (.str (if b then "True" else "False")) := Eq.trans rfl rfl
theorem m_strXi (h : i.natAbs.log2 < 1920) : dStrX [.int i] = some (.str (toString i)) := by
  show (if i.natAbs.log2 < 1920 then some (D.str (toString i)) else none) = _
  rw [if_pos h]
theorem m_addS {a b : Str} : dAdd (.str a) (.str b) = if a.length + b.length ≤ sizeLine then some (.str (a ++ b)) else none := Eq.trans rfl rfl
theorem m_cutS {z : Str} {a b : Option Int} : dCut (.str z) a b = if z.length ≤ sizeLine then some (.str (cutS z a b)) else none := Eq.trans rfl rfl
theorem m_lenS {z : Str} (h : z.length ≤ 16777216) : dLen [.str z] = some (.int z.length) := by
  show (if z.length ≤ 16777216 then some (D.int z.length) else none) = _
  rw [if_pos h]
end

/-! ### any small data -/
def sGood (k : Nat) (z : Str) : Prop := z.length ≤ 200 + k ∧ ∀ c ∈ z.cps.toList, c < 16 ^ 8
inductive Bk (k : Nat) : Nat → D → Prop
  | non {n} : Bk k n .non
  | bl {n b} : Bk k n (.bl b)
  | int {n i} : i.natAbs < 10 ^ (100 + k) → Bk k n (.int i)
  | str {n z} : sGood k z → Bk k n (.str z)
  | dic {n} : Bk k (n + 1) (.dic [] [])
  | lst {n ds} : ds.length ≤ 1000 + k → (∀ d ∈ ds, Bk k n d) → Bk k (n + 1) (.lst ds)
  | tup {n ds} : ds.length ≤ 1000 + k → (∀ d ∈ ds, Bk k n d) → Bk k (n + 1) (.tup ds)
mutual
def wt : D → Nat
  | .str z => 10 * z.length + 2
  | .lst ds => wts ds + 3
  | .tup ds => wts ds + 3
  | _ => 200
def wts : List D → Nat
  | [] => 0
  | d :: ds => wt d + 2 + wts ds
end
theorem wts_app : ∀ a b : List D, wts (a ++ b) = wts a + wts b
  | [], b => by simp [wts]
  | x :: a, b => by
    rw [List.cons_append, wts, wts, wts_app a b]; omega
theorem wts_rev : ∀ a : List D, wts a.reverse = wts a
  | [] => rfl
  | x :: a => by
    rw [List.reverse_cons, wts_app, wts_rev a, wts, wts, wts]; omega
theorem wts_mem : ∀ {ds : List D} {d : D}, d ∈ ds → wt d ≤ wts ds
  | x :: ds, d, h => by
    rw [wts]
    rcases List.mem_cons.mp h with rfl | h
    · omega
    · have := wts_mem h; omega
theorem wts_len : ∀ ds : List D, 2 * ds.length ≤ wts ds
  | [] => Nat.zero_le _
  | x :: ds => by
    have := wts_len ds
    rw [wts, List.length_cons]; omega
theorem wts_split {ds : List D} {i : Nat} (h : i < ds.length) : wts ds = wts (ds.take i) + (wt (ds.getD i .non) + 2) + wts (ds.drop (i + 1)) := by
  have e : ds = ds.take i ++ (ds.getD i .non :: ds.drop (i + 1)) := by
    rw [List.getD_eq_getElem?_getD, List.getElem?_eq_getElem h]
    show ds = ds.take i ++ (ds[i] :: ds.drop (i + 1))
    rw [List.getElem_cons_drop, List.take_append_drop]
  have := congrArg wts e
  rw [wts_app, wts] at this
  omega
theorem sGood.mono {k k' : Nat} {z : Str} (h : sGood k z) (l : k ≤ k') : sGood k' z := ⟨Nat.le_trans h.1 (by omega), h.2⟩
theorem powK_up {i k k' : Nat} (h : i < 10 ^ (100 + k)) (l : k ≤ k') : i < 10 ^ (100 + k') := Nat.lt_of_lt_of_le h (Nat.pow_le_pow_right (by decide) (by omega))
theorem Bk.mono {k k' n : Nat} {d : D} (h : Bk k n d) : ∀ {n' : Nat}, k ≤ k' → n ≤ n' → Bk k' n' d := by
  induction h with
  | non => exact fun _ _ => .non
  | bl => exact fun _ _ => .bl
  | int h => exact fun l _ => .int (powK_up h l)
  | str h => exact fun l _ => .str (h.mono l)
  | dic =>
    intro n' l m
    obtain ⟨m', rfl⟩ : ∃ m', n' = m' + 1 := ⟨n' - 1, by omega⟩
    exact .dic
  | lst z _ ih =>
    intro n' l m
    obtain ⟨m', rfl⟩ : ∃ m', n' = m' + 1 := ⟨n' - 1, by omega⟩
    exact .lst (by omega) fun d hd => ih d hd l (by omega)
  | tup z _ ih =>
    intro n' l m
    obtain ⟨m', rfl⟩ : ∃ m', n' = m' + 1 := ⟨n' - 1, by omega⟩
    exact .tup (by omega) fun d hd => ih d hd l (by omega)
/-! repr of it -/
def SR (dep len : Nat) (d : D) : Prop := ∃ p, D.py d = some p ∧ p.showable = true ∧ p.depth ≤ dep ∧ p.shown.length ≤ len
theorem SR.repr {a b : Nat} {d : D} (h : SR a b d) (ha : a ≤ 60) (hb : b ≤ 16777216) : dRepr [d] = some (.str (reprS d)) := by
  obtain ⟨p, e, h1, h2, h3⟩ := h
  show (D.py d).bind (fun p => if shows p = true then some (D.str p.shown) else none) = _
  unfold reprS
  rw [e]
  show (if _ then _ else _) = _
  rw [if_pos]
  unfold shows
  rw [Bool.and_eq_true, Bool.and_eq_true, decide_eq_true_eq, decide_eq_true_eq]
  exact ⟨⟨h1, Nat.le_trans h2 ha⟩, Nat.le_trans h3 hb⟩
theorem srs {a : Nat} : ∀ {ds : List D}, (∀ d ∈ ds, SR a (wt d) d) → ∃ ps, D.pys ds = some ps ∧ PyData.showableAll ps = true ∧ PyData.depthAll ps ≤ a ∧ ((PyData.shownAll ps).map (·.length)).sum + 2 * (PyData.shownAll ps).length ≤ wts ds
  | [], _ => ⟨[], rfl, rfl, Nat.zero_le _, by simp [PyData.shownAll, wts]⟩
  | d :: ds, h => by
    obtain ⟨p, e, p1, p2, p3⟩ := h d (by simp)
    obtain ⟨ps, e2, h2, h3, h4⟩ := srs (ds := ds) fun x hx => h x (List.mem_cons_of_mem _ hx)
    refine ⟨p :: ps, ?_, ?_, ?_, ?_⟩
    · show (D.py d).bind _ = _
      rw [e, e2]; rfl
    · rw [PyData.showableAll, p1, h2]; rfl
    · rw [PyData.depthAll]; exact Nat.max_le.mpr ⟨p2, h3⟩
    · rw [PyData.shownAll, List.map_cons, List.sum_cons, List.length_cons, wts]
      omega
theorem Bk.sr {k n : Nat} {d : D} (h : Bk k n d) (hk : k ≤ 80) : SR n (wt d) d := by
  induction h with
  | non => exact ⟨.none, rfl, rfl, Nat.zero_le _, by decide⟩
  | @bl n b => exact ⟨.bool b, rfl, rfl, Nat.zero_le _, by cases b <;> decide⟩
  | @int n i h =>
    have h' : i.natAbs < 10 ^ 199 := Nat.lt_of_lt_of_le h (Nat.pow_le_pow_right (by decide) (by omega))
    obtain ⟨p, e, q⟩ := SH.int 199 h' (by decide) (by decide)
    exact ⟨p, e, q.sh, Nat.le_trans q.dp (Nat.zero_le _), q.ln⟩
  | @str n z h =>
    refine ⟨.str z, rfl, rfl, Nat.zero_le _, ?_⟩
    rw [PyData.shown]
    exact StrLaws.reprText_len z h.2
  | dic => exact ⟨.dict [], rfl, rfl, by simp [PyData.depth, PyData.depthKv], by decide⟩
  | @lst n ds _ _ ih =>
    obtain ⟨ps, e, h1, h2, h3⟩ := srs ih
    refine ⟨.list ps, ?_, by rw [PyData.showable]; exact h1, by rw [PyData.depth]; omega, ?_⟩
    · show (D.pys ds).map _ = _
      rw [e]; rfl
    · rw [PyData.shown, wt]
      have := listText_len_le (PyData.shownAll ps)
      omega
  | @tup n ds _ _ ih =>
    obtain ⟨ps, e, h1, h2, h3⟩ := srs ih
    refine ⟨.tuple ps, ?_, by rw [PyData.showable]; exact h1, by rw [PyData.depth]; omega, ?_⟩
    · show (D.pys ds).map _ = _
      rw [e]; rfl
    · rw [PyData.shown, wt]
      have := tupleText_len_le (PyData.shownAll ps)
      omega
theorem Bk.repr {k n : Nat} {d : D} (h : Bk k n d) (hk : k ≤ 80) (hn : n ≤ 60) (hw : wt d ≤ 16777216) : dRepr [d] = some (.str (reprS d)) := (h.sr hk).repr hn hw
/-! kinds -/
def kTup : D → Bool
  | .tup _ => true
  | _ => false
def kLst : D → Bool
  | .lst _ => true
  | _ => false
def kStr : D → Bool
  | .str _ => true
  | _ => false
def kBl : D → Bool
  | .bl _ => true
  | _ => false
def kInt : D → Bool
  | .int _ => true
  | _ => false
theorem Bk.isTup {k n : Nat} {d : D} (h : Bk k n d) : dIsi [d, .ty "tuple"] = some (.bl (kTup d)) := by
  cases h <;> kernel_rfl
theorem Bk.isLst {k n : Nat} {d : D} (h : Bk k n d) : dIsi [d, .ty "list"] = some (.bl (kLst d)) := by
  cases h <;> kernel_rfl
theorem Bk.isStr {k n : Nat} {d : D} (h : Bk k n d) : dIsi [d, .ty "str"] = some (.bl (kStr d)) := by
  cases h <;> kernel_rfl
theorem Bk.isBl {k n : Nat} {d : D} (h : Bk k n d) : dIsi [d, .ty "bool"] = some (.bl (kBl d)) := by
  cases h <;> kernel_rfl
theorem Bk.isInt {k n : Nat} {d : D} (h : Bk k n d) : dIsi [d, .ty "int"] = some (.bl (kInt d || kBl d)) := by
  cases h <;> kernel_rfl
theorem Bk.isSeq {k n : Nat} {d : D} (h : Bk k n d) : dIsi [d, .tup [.ty "tuple", .ty "list"]] = some (.bl (kTup d || kLst d)) := by
  cases h <;> kernel_rfl
end G6

namespace G6
open PySem PySem.Spec L2

/-! ### the shared mirrors -/
def g_odd : Fn := fnF 2 (
    sSeq (sSetO 1 (foLst (lCons (fC .non) (lCons (fC (.bl true)) (lCons (fC (.bl false)) (lCons (fC (.int 0)) (lCons (fC (.int 1)) (lCons (fUn dNeg (fC (.int 1))) (lCons (fOp dPow (fC (.int 10)) (fC (.int 9))) (lCons (fOp dAdd (fOp dPow (fC (.int 10)) (fC (.int 9))) (fC (.int 1))) (lCons (fOp dMul (fC (.int 4)) (fOp dPow (fC (.int 10)) (fC (.int 9)))) (lCons (fOp dAdd (fOp dMul (fC (.int 4)) (fOp dPow (fC (.int 10)) (fC (.int 9)))) (fC (.int 1))) (lCons (fC (.str "")) (lCons (fC (.str "a")) (lCons (fC (.str "A")) (lNil))))))))))))))))
      (sSeq (sFrz 1 (sSetO 1 (foCat (fVar 1) (fLst (lCons (fOp dAdd (fOp dMul (fOp dPow (fC (.int 10)) (fC (.int 60))) (fOp dPow (fC (.int 10)) (fC (.int 15)))) (fC (.int 1))) (lCons (fC (.str "abcdefgh")) (lCons (fC (.str "abcdefghi")) (lCons (fC (.str "a1")) (lCons (fC (.str "1")) (lCons (fTup (lNil)) (lCons (fTup (lCons (fC (.int 0)) (lNil))) (lCons (fTup (lCons (fC (.int 0)) (lCons (fC (.int 0)) (lNil)))) (lCons (fTup (lCons (fC (.bl true)) (lNil))) (lCons (fTup (lCons (fC (.int 0)) (lCons (fC .non) (lNil)))) (lNil)))))))))))))))
      (sSeq (sFrz 1 (sSetO 1 (foCat (fVar 1) (fLst (lCons (fTup (lCons (fC (.str "low")) (lNil))) (lCons (fTup (lCons (fC (.str "sum")) (lNil))) (lCons (fLst (lNil)) (lCons (fD foDisp0) (lCons (fLst (lCons (fC (.int 0)) (lNil))) (lCons (fTup (lCons (fC (.str "sum")) (lCons (fTup (lNil)) (lNil)))) (lCons (fTup (lCons (fC (.str "all")) (lNil))) (lCons (fTup (lCons (fC (.str "any")) (lNil))) (lCons (fTup (lCons (fC (.str "size")) (lCons (fC (.int 0)) (lNil)))) (lCons (fTup (lCons (fC (.str "size")) (lCons (fC (.int 0)) (lCons (fC (.int 0)) (lNil))))) (lCons (fC (.str "low")) (lNil))))))))))))))))
      (sSeq (sApp 1 (fTup (lCons (fC (.str "worth")) (lCons (fTup (lCons (fC (.str "low")) (lNil))) (lCons (fC (.int 0)) (lNil))))))
      (sFrz 1 (sRet (fCall g_pick (lCons (fVar 0) (lCons (fVar 1) (lNil))))))))))
def b_last : S := sRet (fCall g_odd (lCons (fVar 0) (lNil)))
def b_ints : S := sSeq (sIf (gAnd (fTest (fCB dIsi (lCons (fVar 1) (lCons (fC (.ty "int")) (lNil))))) (fTest (fOp dGt (fCall g_draw (lCons (fVar 0) (lCons (fC (.int 5)) (lNil)))) (fC (.int 0))))) (sRet (fCall g_pick (lCons (fVar 0) (lCons (fLst (lCons (fOp dAddX (fVar 1) (fC (.int 1))) (lCons (fOp dSubX (fVar 1) (fC (.int 1))) (lCons (fUn dNegX (fVar 1)) (lCons (fCB dStrX (lCons (fVar 1) (lNil))) (lCons (fOp dEq (fVar 1) (fC (.int 1))) (lCons (fOp dMulX (fVar 1) (fC (.int 10))) (lCons (fOp dPow (fC (.int 10)) (fC (.int 9))) (lCons (fC (.int 1000)) (lCons (fC (.int 1001)) (lNil))))))))))) (lNil))))) (sNx)) b_last
def b_strs : S := sSeq (sIf (gAnd (fTest (fCB dIsi (lCons (fVar 1) (lCons (fC (.ty "str")) (lNil))))) (fTest (fOp dGt (fCall g_draw (lCons (fVar 0) (lCons (fC (.int 5)) (lNil)))) (fC (.int 0))))) (sSeq (sPar 2 6 (lCons (fCall g_draw (lCons (fVar 0) (lCons (fOp dAdd (fCB dLen (lCons (fVar 1) (lNil))) (fC (.int 1))) (lNil)))) (lCons (fCall g_pick (lCons (fVar 0) (lCons (fC (.str "abcdefghijklmnopqrstuvwxyzA0 _")) (lNil)))) (lNil))))
      (sRet (fCall g_pick (lCons (fVar 0) (lCons (fLst (lCons (fOp dAdd (fOp dAdd (fCut (fVar 1) (fNoPart) (fPart (fVar 2))) (fVar 6)) (fCut (fVar 1) (fPart (fVar 2)) (fNoPart))) (lCons (fOp dAdd (fOp dAdd (fCut (fVar 1) (fNoPart) (fPart (fVar 2))) (fVar 6)) (fCut (fVar 1) (fPart (fOp dAdd (fVar 2) (fC (.int 1)))) (fNoPart))) (lCons (fCut (fVar 1) (fNoPart) (fPart (fVar 2))) (lNil))))) (lNil)))))) (sNx)) b_ints
def b_bent (ff : Fn) : S :=
    sSeq (sIf (gAnd (fTest (fCB dIsi (lCons (fVar 1) (lCons (fTup (lCons (fC (.ty "tuple")) (lCons (fC (.ty "list")) (lNil)))) (lNil))))) (gAnd (fTest (fOp dGt (fCB dLen (lCons (fVar 1) (lNil))) (fC (.int 0)))) (fTest (fOp dGt (fCall g_draw (lCons (fVar 0) (lCons (fC (.int 6)) (lNil)))) (fC (.int 0)))))) (sSeq (sPar 2 3 (lCons (fCall g_draw (lCons (fVar 0) (lCons (fCB dLen (lCons (fVar 1) (lNil))) (lNil)))) (lCons (fCall g_draw (lCons (fVar 0) (lCons (fC (.int 8)) (lNil)))) (lNil))))
      (sSeq (sSet 4 (fIf (fTest (fOp dLt (fVar 3) (fC (.int 4)))) (fLst (lCons (fCall ff (lCons (fVar 0) (lCons (fOp dIx (fVar 1) (fVar 2)) (lNil)))) (lNil))) (fLst (lNil))))
      (sSeq (sIf (fTest (fCB dIsi (lCons (fVar 1) (lCons (fC (.ty "tuple")) (lNil))))) (sSet 4 (fCB dTuple (lCons (fVar 4) (lNil)))) (sNx))
      (sSeq (sIf (fTest (fOp dLt (fVar 3) (fC (.int 4)))) (sRet (fOp dAdd (fOp dAdd (fCut (fVar 1) (fNoPart) (fPart (fVar 2))) (fVar 4)) (fCut (fVar 1) (fPart (fOp dAdd (fVar 2) (fC (.int 1)))) (fNoPart)))) (sNx))
      (sSeq (sSet 5 (fLst (lCons (fOp dAdd (fCut (fVar 1) (fNoPart) (fPart (fVar 2))) (fCut (fVar 1) (fPart (fOp dAdd (fVar 2) (fC (.int 1)))) (fNoPart))) (lCons (fOp dAdd (fCut (fVar 1) (fNoPart) (fPart (fOp dAdd (fVar 2) (fC (.int 1))))) (fCut (fVar 1) (fPart (fVar 2)) (fNoPart))) (lCons (fUn dRev (fVar 1)) (lNil))))))
      (sRet (fOp dIx (fOp dAdd (fVar 5) (fLst (lCons (fIf (fTest (fCB dIsi (lCons (fVar 1) (lCons (fC (.ty "list")) (lNil))))) (fCB dTuple (lCons (fVar 1) (lNil))) (fCB dList (lCons (fVar 1) (lNil)))) (lNil)))) (fOp dSub (fVar 3) (fC (.int 4)))))))))) (sNx)) b_strs
def g_bent : Nat → Fn
  | 0 => fun _ _ => none
  | kk + 1 => fnF 7 (b_bent (g_bent kk))
theorem bkInt {k n : Nat} {i : Int} (h : i.natAbs < 10 ^ 100) : Bk k n (.int i) := .int (Nat.lt_of_lt_of_le h (Nat.pow_le_pow_right (by decide) (by omega)))
theorem bkStr {k n : Nat} {z : Str} (h : z.length ≤ 200) (h2 : (z.cps.toList.all fun c => decide (c < 16 ^ 8)) = true) : Bk k n (.str z) := .str ⟨by omega, fun c hc => by simpa using List.all_eq_true.mp h2 c hc⟩
theorem odd_ok {K kk : Nat} {g : Gs} {P : RV → Gs → Prop} {E : Exn → Gs → Prop} (hp : Pen (K + 1) g) (fin : ∀ d g', Bk kk 2 d → wt d ≤ 1000 → Pen K g' → P (.dat d) g') : Ok (g_odd [.obj 0] g) P E := by
  unfold g_odd
  rw [w_fn]
  show SOk (sSeq _ _ [.dat (.obj 0), .un] _) _
  rw [q_seq]
  simp only [w_var, lvD_dat, List.getElem?_cons_zero, List.getElem?_cons_succ, w_c, w_op, w_un, w_test, w_gand, w_gor, w_gnot, w_gyes, w_and, w_or, w_not, w_if, w_nil, w_cons, w_tup, w_lst, w_folst, w_folist, w_cb, w_fd, w_call, w_ocall, ovO_own, w_get, w_args, w_items, w_part, intO_int, w_nopart, w_cut, w_folc, q_seq, q_nx, q_bk, q_ct, q_set, q_setO, q_tg, q_ret, q_retO, q_retN, q_drop, q_if, q_par, q_par3, q_put, q_app, q_for, twoO_two, triO_tri, w_rD, w_rO, lvR_d, lvR_o, q_parR, q_setAt, w_lenv, lenO_o, lenO_l, lenO_t, w_gown, ownL_at, lstO_l, m_oListL, m_oListT, q_appPop, w_intbl, w_attbl, w_callv, fnD_fn, w_tuprg, q_star, q_aug, strD_str, starO_c, rgO_int, m_mulS, m_int1i, m_int1b, m_gseqT, m_gseqL, seqP_nx, seqP_rt, seqP_bk, seqP_ct, seqP_xc, midP_nx, midP_rt, midP_bk, midP_ct, midP_xc, fnP_nx, fnP_rt, fnP_xc, rdP_nx, rdP_ct, rdP_bk, rdP_rt, rdP_xc, op_some, op_none, op_ite, op_map, op_bind, ok_ret, ok_some, m_lt, m_le, m_gt, m_ge, m_add, m_addT, m_addL, m_sub, m_mulI, m_mod, m_fdivS, m_powS, m_neg, m_bool, m_abs, m_min2, m_max2, m_lenL, m_lenT, m_lenI, m_tupL, m_tupT, m_lstL, m_lstT, m_rv1, m_rv2, m_ov, m_key, m_kds, m_so, m_rng1, m_gset, m_gtup, m_gsc, m_gsn, m_zipL, m_zipT, m_itL, m_itT, m_cutT, m_cutL, eq_I, ne_I, no_nil, no_cons, no_un, no_dat, wi_nil, wi_cons, Bool.and_true, Bool.true_and, Bool.and_self, and_self, List.set_cons_zero, List.set_cons_succ, List.length_cons, List.length_nil, m_line, Nat.reduceAdd, Nat.reduceLeDiff, Nat.reduceLT, Int.reduceLE, Int.reduceLT, Int.reduceToNat, Int.reducePow, Nat.reducePow, Int.reduceNeg, Int.reduceMul, Int.reduceAdd, Int.reduceSub, Nat.reduceMul, Nat.reduceSub, Int.reduceMod, Int.reduceDiv, Nat.zero_add, true_and, and_true, if_true, if_false, reduceCtorEq, false_implies, forall_const, true_implies, implies_true, decide_eq_true_eq, decide_eq_false_iff_not, beq_iff_eq, beq_eq_false_iff_ne, ne_eq, Bool.not_eq_true, List.append_eq, List.cons_append, List.nil_append, w_chn, w_ixv, lsO_o, lsO_d, w_focat, m_ocat, m_eqnL, m_eqnT, w_disp0, m_ovd, q_frz, frzO_o, frzO_d, m_revL, m_revT, m_addXi, m_addXb, m_subXi, m_subXb, m_mulXi, m_mulXb, m_negXi, m_negXb, m_strXb, m_addS, m_cutS, List.map_nil, List.isEmpty_nil, List.isEmpty_cons]
  refine ⟨by decide +kernel, by decide +kernel, by decide +kernel, ?_⟩
  refine pick_ok hp ?_ ?_ fun d g' hd hp' => fin d g' ?_ ?_ hp'
  · decide
  · decide
  · revert d
    (repeat' first | exact Bk.non | exact Bk.bl | exact bkInt (by decide +kernel) | exact bkStr (by decide +kernel) (by decide +kernel) | exact Bk.dic | refine Bk.tup (by simp only [List.length_cons, List.length_nil]; omega) ?_ | refine Bk.lst (by simp only [List.length_cons, List.length_nil]; omega) ?_ | exact List.forall_mem_nil _ | refine List.forall_mem_cons.mpr ⟨?_, ?_⟩)
  · revert d
    repeat' first | exact List.forall_mem_nil _ | refine List.forall_mem_cons.mpr ⟨by decide +kernel, ?_⟩

section
variable {K kk n : Nat} {g : Gs} {P : RV → Gs → Prop} {E : Exn → Gs → Prop} {d : D} {x2 x3 x4 x5 x6 : LV}
theorem last_ok (hp : Pen (K + 1) g) (fin : ∀ d g', Bk kk 2 d → wt d ≤ 1000 → Pen K g' → P (.dat d) g') : SOk (b_last [.dat (.obj 0), .dat d, x2, x3, x4, x5, x6] g) (fnP P E) := by
  unfold b_last
  simp only [w_var, lvD_dat, List.getElem?_cons_zero, List.getElem?_cons_succ, w_c, w_op, w_un, w_test, w_gand, w_gor, w_gnot, w_gyes, w_and, w_or, w_not, w_if, w_nil, w_cons, w_tup, w_lst, w_folst, w_folist, w_cb, w_fd, w_call, w_ocall, ovO_own, w_get, w_args, w_items, w_part, intO_int, w_nopart, w_cut, w_folc, q_seq, q_nx, q_bk, q_ct, q_set, q_setO, q_tg, q_ret, q_retO, q_retN, q_drop, q_if, q_par, q_par3, q_put, q_app, q_for, twoO_two, triO_tri, w_rD, w_rO, lvR_d, lvR_o, q_parR, q_setAt, w_lenv, lenO_o, lenO_l, lenO_t, w_gown, ownL_at, lstO_l, m_oListL, m_oListT, q_appPop, w_intbl, w_attbl, w_callv, fnD_fn, w_tuprg, q_star, q_aug, strD_str, starO_c, rgO_int, m_mulS, m_int1i, m_int1b, m_gseqT, m_gseqL, seqP_nx, seqP_rt, seqP_bk, seqP_ct, seqP_xc, midP_nx, midP_rt, midP_bk, midP_ct, midP_xc, fnP_nx, fnP_rt, fnP_xc, rdP_nx, rdP_ct, rdP_bk, rdP_rt, rdP_xc, op_some, op_none, op_ite, op_map, op_bind, ok_ret, ok_some, m_lt, m_le, m_gt, m_ge, m_add, m_addT, m_addL, m_sub, m_mulI, m_mod, m_fdivS, m_powS, m_neg, m_bool, m_abs, m_min2, m_max2, m_lenL, m_lenT, m_lenI, m_tupL, m_tupT, m_lstL, m_lstT, m_rv1, m_rv2, m_ov, m_key, m_kds, m_so, m_rng1, m_gset, m_gtup, m_gsc, m_gsn, m_zipL, m_zipT, m_itL, m_itT, m_cutT, m_cutL, eq_I, ne_I, no_nil, no_cons, no_un, no_dat, wi_nil, wi_cons, Bool.and_true, Bool.true_and, Bool.and_self, and_self, List.set_cons_zero, List.set_cons_succ, List.length_cons, List.length_nil, m_line, Nat.reduceAdd, Nat.reduceLeDiff, Nat.reduceLT, Int.reduceLE, Int.reduceLT, Int.reduceToNat, Int.reducePow, Nat.reducePow, Int.reduceNeg, Int.reduceMul, Int.reduceAdd, Int.reduceSub, Nat.reduceMul, Nat.reduceSub, Int.reduceMod, Int.reduceDiv, Nat.zero_add, true_and, and_true, if_true, if_false, reduceCtorEq, false_implies, forall_const, true_implies, implies_true, decide_eq_true_eq, decide_eq_false_iff_not, beq_iff_eq, beq_eq_false_iff_ne, ne_eq, Bool.not_eq_true, List.append_eq, List.cons_append, List.nil_append, w_chn, w_ixv, lsO_o, lsO_d, w_focat, m_ocat, m_eqnL, m_eqnT, w_disp0, m_ovd, q_frz, frzO_o, frzO_d, m_revL, m_revT, m_addXi, m_addXb, m_subXi, m_subXb, m_mulXi, m_mulXb, m_negXi, m_negXb, m_strXb, m_addS, m_cutS, List.map_nil, List.isEmpty_nil, List.isEmpty_cons]
  exact odd_ok hp fin
theorem wt_int {i : Int} : wt (.int i) = 200 := rfl
theorem wt_bl {b : Bool} : wt (.bl b) = 200 := rfl
theorem wt_str {z : Str} : wt (.str z) = 10 * z.length + 2 := rfl
theorem wt_lst {ds : List D} : wt (.lst ds) = wts ds + 3 := rfl
theorem wt_tup {ds : List D} : wt (.tup ds) = wts ds + 3 := rfl
theorem eq_bl {b : Bool} : dEq (.bl b) (.int 1) = some (.bl b) := by cases b <;> rfl
theorem lgKP {i : Int} {k : Nat} (h : i.natAbs < 10 ^ (100 + k)) (hk : k ≤ 80) : i.natAbs.log2 < 1920 :=
  lg_lt (Nat.lt_trans (Nat.lt_of_lt_of_le h (Nat.pow_le_pow_right (by decide) (by omega : 100 + k ≤ 180))) (by decide +kernel)) (by decide)
theorem cps_ofString (s : String) : ∀ c ∈ (Str.ofString s).cps.toList, c < 16 ^ 8 := by
  intro c hc
  rw [Str.ofString_eq_toList] at hc
  simp only [List.mem_map] at hc
  obtain ⟨ch, _, rfl⟩ := hc
  show ch.val.toNat < 16 ^ 8
  exact Nat.lt_of_lt_of_le ch.val.toNat_lt (by decide)
theorem ints_ok (hd : Bk kk n d) (hk : kk ≤ 80) (hp : Pen (K + 3) g) (fin : ∀ d' g', Bk (kk + 1) (n + 2) d' → wt d' ≤ 2 * wt d + 2000 → Pen K g' → P (.dat d') g') : SOk (b_ints [.dat (.obj 0), .dat d, x2, x3, x4, x5, x6] g) (fnP P E) := by
  have last : ∀ g, Pen (K + 1) g → SOk (b_last [.dat (.obj 0), .dat d, x2, x3, x4, x5, x6] g) (fnP P E) := fun g hp => last_ok (kk := kk) hp fun d' g' h1 h2 h3 => fin d' g' (h1.mono (by omega) (by omega)) (by omega) h3
  unfold b_ints
  rw [q_seq]
  have hI := hd.isInt
  cases hd with
  | @int _ i hi =>
    have hs : (Str.ofString (toString i)).length ≤ 101 + kk := by
      rw [ofString_length]
      exact Nat.le_trans (int_text_length_le10 (by omega) hi) (by omega)
    have hl := lgKP hi hk
    have up : ∀ j : Int, j.natAbs ≤ i.natAbs * 10 + 1 → Bk (kk + 1) (n + 2) (.int j) := fun j hj => .int (by
      have e : 10 ^ (100 + (kk + 1)) = 10 ^ (100 + kk) * 10 := by rw [← Nat.add_assoc, Nat.pow_succ]
      rw [e]
      omega)
    simp only [w_var, lvD_dat, List.getElem?_cons_zero, List.getElem?_cons_succ, w_c, w_op, w_un, w_test, w_gand, w_gor, w_gnot, w_gyes, w_and, w_or, w_not, w_if, w_nil, w_cons, w_tup, w_lst, w_folst, w_folist, w_cb, w_fd, w_call, w_ocall, ovO_own, w_get, w_args, w_items, w_part, intO_int, w_nopart, w_cut, w_folc, q_seq, q_nx, q_bk, q_ct, q_set, q_setO, q_tg, q_ret, q_retO, q_retN, q_drop, q_if, q_par, q_par3, q_put, q_app, q_for, twoO_two, triO_tri, w_rD, w_rO, lvR_d, lvR_o, q_parR, q_setAt, w_lenv, lenO_o, lenO_l, lenO_t, w_gown, ownL_at, lstO_l, m_oListL, m_oListT, q_appPop, w_intbl, w_attbl, w_callv, fnD_fn, w_tuprg, q_star, q_aug, strD_str, starO_c, rgO_int, m_mulS, m_int1i, m_int1b, m_gseqT, m_gseqL, seqP_nx, seqP_rt, seqP_bk, seqP_ct, seqP_xc, midP_nx, midP_rt, midP_bk, midP_ct, midP_xc, fnP_nx, fnP_rt, fnP_xc, rdP_nx, rdP_ct, rdP_bk, rdP_rt, rdP_xc, op_some, op_none, op_ite, op_map, op_bind, ok_ret, ok_some, m_lt, m_le, m_gt, m_ge, m_add, m_addT, m_addL, m_sub, m_mulI, m_mod, m_fdivS, m_powS, m_neg, m_bool, m_abs, m_min2, m_max2, m_lenL, m_lenT, m_lenI, m_tupL, m_tupT, m_lstL, m_lstT, m_rv1, m_rv2, m_ov, m_key, m_kds, m_so, m_rng1, m_gset, m_gtup, m_gsc, m_gsn, m_zipL, m_zipT, m_itL, m_itT, m_cutT, m_cutL, eq_I, ne_I, no_nil, no_cons, no_un, no_dat, wi_nil, wi_cons, Bool.and_true, Bool.true_and, Bool.and_self, and_self, List.set_cons_zero, List.set_cons_succ, List.length_cons, List.length_nil, m_line, Nat.reduceAdd, Nat.reduceLeDiff, Nat.reduceLT, Int.reduceLE, Int.reduceLT, Int.reduceToNat, Int.reducePow, Nat.reducePow, Int.reduceNeg, Int.reduceMul, Int.reduceAdd, Int.reduceSub, Nat.reduceMul, Nat.reduceSub, Int.reduceMod, Int.reduceDiv, Nat.zero_add, true_and, and_true, if_true, if_false, reduceCtorEq, false_implies, forall_const, true_implies, implies_true, decide_eq_true_eq, decide_eq_false_iff_not, beq_iff_eq, beq_eq_false_iff_ne, ne_eq, Bool.not_eq_true, List.append_eq, List.cons_append, List.nil_append, w_chn, w_ixv, lsO_o, lsO_d, w_focat, m_ocat, m_eqnL, m_eqnT, w_disp0, m_ovd, q_frz, frzO_o, frzO_d, m_revL, m_revT, m_addXi, m_addXb, m_subXi, m_subXb, m_mulXi, m_mulXb, m_negXi, m_negXb, m_strXb, m_addS, m_cutS, List.map_nil, List.isEmpty_nil, List.isEmpty_cons, hI, kInt, kBl, Bool.or_false, Bool.or_true]
    refine draw_ok hp (by decide) (by decide) fun j g1 j0 j1 p1 => ?_
    rw [m_rv1]
    simp only [w_var, lvD_dat, List.getElem?_cons_zero, List.getElem?_cons_succ, w_c, w_op, w_un, w_test, w_gand, w_gor, w_gnot, w_gyes, w_and, w_or, w_not, w_if, w_nil, w_cons, w_tup, w_lst, w_folst, w_folist, w_cb, w_fd, w_call, w_ocall, ovO_own, w_get, w_args, w_items, w_part, intO_int, w_nopart, w_cut, w_folc, q_seq, q_nx, q_bk, q_ct, q_set, q_setO, q_tg, q_ret, q_retO, q_retN, q_drop, q_if, q_par, q_par3, q_put, q_app, q_for, twoO_two, triO_tri, w_rD, w_rO, lvR_d, lvR_o, q_parR, q_setAt, w_lenv, lenO_o, lenO_l, lenO_t, w_gown, ownL_at, lstO_l, m_oListL, m_oListT, q_appPop, w_intbl, w_attbl, w_callv, fnD_fn, w_tuprg, q_star, q_aug, strD_str, starO_c, rgO_int, m_mulS, m_int1i, m_int1b, m_gseqT, m_gseqL, seqP_nx, seqP_rt, seqP_bk, seqP_ct, seqP_xc, midP_nx, midP_rt, midP_bk, midP_ct, midP_xc, fnP_nx, fnP_rt, fnP_xc, rdP_nx, rdP_ct, rdP_bk, rdP_rt, rdP_xc, op_some, op_none, op_ite, op_map, op_bind, ok_ret, ok_some, m_lt, m_le, m_gt, m_ge, m_add, m_addT, m_addL, m_sub, m_mulI, m_mod, m_fdivS, m_powS, m_neg, m_bool, m_abs, m_min2, m_max2, m_lenL, m_lenT, m_lenI, m_tupL, m_tupT, m_lstL, m_lstT, m_rv1, m_rv2, m_ov, m_key, m_kds, m_so, m_rng1, m_gset, m_gtup, m_gsc, m_gsn, m_zipL, m_zipT, m_itL, m_itT, m_cutT, m_cutL, eq_I, ne_I, no_nil, no_cons, no_un, no_dat, wi_nil, wi_cons, Bool.and_true, Bool.true_and, Bool.and_self, and_self, List.set_cons_zero, List.set_cons_succ, List.length_cons, List.length_nil, m_line, Nat.reduceAdd, Nat.reduceLeDiff, Nat.reduceLT, Int.reduceLE, Int.reduceLT, Int.reduceToNat, Int.reducePow, Nat.reducePow, Int.reduceNeg, Int.reduceMul, Int.reduceAdd, Int.reduceSub, Nat.reduceMul, Nat.reduceSub, Int.reduceMod, Int.reduceDiv, Nat.zero_add, true_and, and_true, if_true, if_false, reduceCtorEq, false_implies, forall_const, true_implies, implies_true, decide_eq_true_eq, decide_eq_false_iff_not, beq_iff_eq, beq_eq_false_iff_ne, ne_eq, Bool.not_eq_true, List.append_eq, List.cons_append, List.nil_append, w_chn, w_ixv, lsO_o, lsO_d, w_focat, m_ocat, m_eqnL, m_eqnT, w_disp0, m_ovd, q_frz, frzO_o, frzO_d, m_revL, m_revT, m_addXi, m_addXb, m_subXi, m_subXb, m_mulXi, m_mulXb, m_negXi, m_negXb, m_strXb, m_addS, m_cutS, List.map_nil, List.isEmpty_nil, List.isEmpty_cons]
    refine ⟨fun _ => ?_, fun _ => last _ (p1.less (by omega))⟩
    simp only [w_var, lvD_dat, List.getElem?_cons_zero, List.getElem?_cons_succ, w_c, w_op, w_un, w_test, w_gand, w_gor, w_gnot, w_gyes, w_and, w_or, w_not, w_if, w_nil, w_cons, w_tup, w_lst, w_folst, w_folist, w_cb, w_fd, w_call, w_ocall, ovO_own, w_get, w_args, w_items, w_part, intO_int, w_nopart, w_cut, w_folc, q_seq, q_nx, q_bk, q_ct, q_set, q_setO, q_tg, q_ret, q_retO, q_retN, q_drop, q_if, q_par, q_par3, q_put, q_app, q_for, twoO_two, triO_tri, w_rD, w_rO, lvR_d, lvR_o, q_parR, q_setAt, w_lenv, lenO_o, lenO_l, lenO_t, w_gown, ownL_at, lstO_l, m_oListL, m_oListT, q_appPop, w_intbl, w_attbl, w_callv, fnD_fn, w_tuprg, q_star, q_aug, strD_str, starO_c, rgO_int, m_mulS, m_int1i, m_int1b, m_gseqT, m_gseqL, seqP_nx, seqP_rt, seqP_bk, seqP_ct, seqP_xc, midP_nx, midP_rt, midP_bk, midP_ct, midP_xc, fnP_nx, fnP_rt, fnP_xc, rdP_nx, rdP_ct, rdP_bk, rdP_rt, rdP_xc, op_some, op_none, op_ite, op_map, op_bind, ok_ret, ok_some, m_lt, m_le, m_gt, m_ge, m_add, m_addT, m_addL, m_sub, m_mulI, m_mod, m_fdivS, m_powS, m_neg, m_bool, m_abs, m_min2, m_max2, m_lenL, m_lenT, m_lenI, m_tupL, m_tupT, m_lstL, m_lstT, m_rv1, m_rv2, m_ov, m_key, m_kds, m_so, m_rng1, m_gset, m_gtup, m_gsc, m_gsn, m_zipL, m_zipT, m_itL, m_itT, m_cutT, m_cutL, eq_I, ne_I, no_nil, no_cons, no_un, no_dat, wi_nil, wi_cons, Bool.and_true, Bool.true_and, Bool.and_self, and_self, List.set_cons_zero, List.set_cons_succ, List.length_cons, List.length_nil, m_line, Nat.reduceAdd, Nat.reduceLeDiff, Nat.reduceLT, Int.reduceLE, Int.reduceLT, Int.reduceToNat, Int.reducePow, Nat.reducePow, Int.reduceNeg, Int.reduceMul, Int.reduceAdd, Int.reduceSub, Nat.reduceMul, Nat.reduceSub, Int.reduceMod, Int.reduceDiv, Nat.zero_add, true_and, and_true, if_true, if_false, reduceCtorEq, false_implies, forall_const, true_implies, implies_true, decide_eq_true_eq, decide_eq_false_iff_not, beq_iff_eq, beq_eq_false_iff_ne, ne_eq, Bool.not_eq_true, List.append_eq, List.cons_append, List.nil_append, w_chn, w_ixv, lsO_o, lsO_d, w_focat, m_ocat, m_eqnL, m_eqnT, w_disp0, m_ovd, q_frz, frzO_o, frzO_d, m_revL, m_revT, m_addXi, m_addXb, m_subXi, m_subXb, m_mulXi, m_mulXb, m_negXi, m_negXb, m_strXb, m_addS, m_cutS, List.map_nil, List.isEmpty_nil, List.isEmpty_cons, m_strXi hl]
    refine ⟨?_, ?_⟩
    · have : (Int.natAbs 10).log2 = 3 := by decide +kernel
      omega
    refine pick_ok (p1.less (by omega) : Pen (K + 1) g1) ?_ ?_ fun d' g' hd' hp' => ?_
    · simp only [List.length_cons, List.length_nil]; decide
    · simp only [List.length_cons, List.length_nil]; decide
    simp only [List.mem_cons, List.not_mem_nil, or_false] at hd'
    rcases hd' with rfl | rfl | rfl | rfl | rfl | rfl | rfl | rfl | rfl
    · exact fin (.int _) _ (up _ (by omega)) (by rw [wt_int, wt_int]; omega) hp'
    · exact fin (.int _) _ (up _ (by omega)) (by rw [wt_int, wt_int]; omega) hp'
    · exact fin (.int _) _ (up _ (by omega)) (by rw [wt_int, wt_int]; omega) hp'
    · exact fin (.str _) _ (.str ⟨by omega, cps_ofString _⟩) (by rw [wt_str, wt_int]; omega) hp'
    · exact fin (.bl _) _ .bl (by rw [wt_bl, wt_int]; omega) hp'
    · exact fin (.int _) _ (up _ (by omega)) (by rw [wt_int, wt_int]; omega) hp'
    · exact fin (.int _) _ (bkInt (by decide +kernel)) (by rw [wt_int, wt_int]; omega) hp'
    · exact fin (.int _) _ (bkInt (by decide +kernel)) (by rw [wt_int, wt_int]; omega) hp'
    · exact fin (.int _) _ (bkInt (by decide +kernel)) (by rw [wt_int, wt_int]; omega) hp'
  | @bl _ b =>
    simp only [w_var, lvD_dat, List.getElem?_cons_zero, List.getElem?_cons_succ, w_c, w_op, w_un, w_test, w_gand, w_gor, w_gnot, w_gyes, w_and, w_or, w_not, w_if, w_nil, w_cons, w_tup, w_lst, w_folst, w_folist, w_cb, w_fd, w_call, w_ocall, ovO_own, w_get, w_args, w_items, w_part, intO_int, w_nopart, w_cut, w_folc, q_seq, q_nx, q_bk, q_ct, q_set, q_setO, q_tg, q_ret, q_retO, q_retN, q_drop, q_if, q_par, q_par3, q_put, q_app, q_for, twoO_two, triO_tri, w_rD, w_rO, lvR_d, lvR_o, q_parR, q_setAt, w_lenv, lenO_o, lenO_l, lenO_t, w_gown, ownL_at, lstO_l, m_oListL, m_oListT, q_appPop, w_intbl, w_attbl, w_callv, fnD_fn, w_tuprg, q_star, q_aug, strD_str, starO_c, rgO_int, m_mulS, m_int1i, m_int1b, m_gseqT, m_gseqL, seqP_nx, seqP_rt, seqP_bk, seqP_ct, seqP_xc, midP_nx, midP_rt, midP_bk, midP_ct, midP_xc, fnP_nx, fnP_rt, fnP_xc, rdP_nx, rdP_ct, rdP_bk, rdP_rt, rdP_xc, op_some, op_none, op_ite, op_map, op_bind, ok_ret, ok_some, m_lt, m_le, m_gt, m_ge, m_add, m_addT, m_addL, m_sub, m_mulI, m_mod, m_fdivS, m_powS, m_neg, m_bool, m_abs, m_min2, m_max2, m_lenL, m_lenT, m_lenI, m_tupL, m_tupT, m_lstL, m_lstT, m_rv1, m_rv2, m_ov, m_key, m_kds, m_so, m_rng1, m_gset, m_gtup, m_gsc, m_gsn, m_zipL, m_zipT, m_itL, m_itT, m_cutT, m_cutL, eq_I, ne_I, no_nil, no_cons, no_un, no_dat, wi_nil, wi_cons, Bool.and_true, Bool.true_and, Bool.and_self, and_self, List.set_cons_zero, List.set_cons_succ, List.length_cons, List.length_nil, m_line, Nat.reduceAdd, Nat.reduceLeDiff, Nat.reduceLT, Int.reduceLE, Int.reduceLT, Int.reduceToNat, Int.reducePow, Nat.reducePow, Int.reduceNeg, Int.reduceMul, Int.reduceAdd, Int.reduceSub, Nat.reduceMul, Nat.reduceSub, Int.reduceMod, Int.reduceDiv, Nat.zero_add, true_and, and_true, if_true, if_false, reduceCtorEq, false_implies, forall_const, true_implies, implies_true, decide_eq_true_eq, decide_eq_false_iff_not, beq_iff_eq, beq_eq_false_iff_ne, ne_eq, Bool.not_eq_true, List.append_eq, List.cons_append, List.nil_append, w_chn, w_ixv, lsO_o, lsO_d, w_focat, m_ocat, m_eqnL, m_eqnT, w_disp0, m_ovd, q_frz, frzO_o, frzO_d, m_revL, m_revT, m_addXi, m_addXb, m_subXi, m_subXb, m_mulXi, m_mulXb, m_negXi, m_negXb, m_strXb, m_addS, m_cutS, List.map_nil, List.isEmpty_nil, List.isEmpty_cons, hI, kInt, kBl, Bool.or_false, Bool.or_true]
    refine draw_ok hp (by decide) (by decide) fun j g1 j0 j1 p1 => ?_
    rw [m_rv1]
    simp only [w_var, lvD_dat, List.getElem?_cons_zero, List.getElem?_cons_succ, w_c, w_op, w_un, w_test, w_gand, w_gor, w_gnot, w_gyes, w_and, w_or, w_not, w_if, w_nil, w_cons, w_tup, w_lst, w_folst, w_folist, w_cb, w_fd, w_call, w_ocall, ovO_own, w_get, w_args, w_items, w_part, intO_int, w_nopart, w_cut, w_folc, q_seq, q_nx, q_bk, q_ct, q_set, q_setO, q_tg, q_ret, q_retO, q_retN, q_drop, q_if, q_par, q_par3, q_put, q_app, q_for, twoO_two, triO_tri, w_rD, w_rO, lvR_d, lvR_o, q_parR, q_setAt, w_lenv, lenO_o, lenO_l, lenO_t, w_gown, ownL_at, lstO_l, m_oListL, m_oListT, q_appPop, w_intbl, w_attbl, w_callv, fnD_fn, w_tuprg, q_star, q_aug, strD_str, starO_c, rgO_int, m_mulS, m_int1i, m_int1b, m_gseqT, m_gseqL, seqP_nx, seqP_rt, seqP_bk, seqP_ct, seqP_xc, midP_nx, midP_rt, midP_bk, midP_ct, midP_xc, fnP_nx, fnP_rt, fnP_xc, rdP_nx, rdP_ct, rdP_bk, rdP_rt, rdP_xc, op_some, op_none, op_ite, op_map, op_bind, ok_ret, ok_some, m_lt, m_le, m_gt, m_ge, m_add, m_addT, m_addL, m_sub, m_mulI, m_mod, m_fdivS, m_powS, m_neg, m_bool, m_abs, m_min2, m_max2, m_lenL, m_lenT, m_lenI, m_tupL, m_tupT, m_lstL, m_lstT, m_rv1, m_rv2, m_ov, m_key, m_kds, m_so, m_rng1, m_gset, m_gtup, m_gsc, m_gsn, m_zipL, m_zipT, m_itL, m_itT, m_cutT, m_cutL, eq_I, ne_I, no_nil, no_cons, no_un, no_dat, wi_nil, wi_cons, Bool.and_true, Bool.true_and, Bool.and_self, and_self, List.set_cons_zero, List.set_cons_succ, List.length_cons, List.length_nil, m_line, Nat.reduceAdd, Nat.reduceLeDiff, Nat.reduceLT, Int.reduceLE, Int.reduceLT, Int.reduceToNat, Int.reducePow, Nat.reducePow, Int.reduceNeg, Int.reduceMul, Int.reduceAdd, Int.reduceSub, Nat.reduceMul, Nat.reduceSub, Int.reduceMod, Int.reduceDiv, Nat.zero_add, true_and, and_true, if_true, if_false, reduceCtorEq, false_implies, forall_const, true_implies, implies_true, decide_eq_true_eq, decide_eq_false_iff_not, beq_iff_eq, beq_eq_false_iff_ne, ne_eq, Bool.not_eq_true, List.append_eq, List.cons_append, List.nil_append, w_chn, w_ixv, lsO_o, lsO_d, w_focat, m_ocat, m_eqnL, m_eqnT, w_disp0, m_ovd, q_frz, frzO_o, frzO_d, m_revL, m_revT, m_addXi, m_addXb, m_subXi, m_subXb, m_mulXi, m_mulXb, m_negXi, m_negXb, m_strXb, m_addS, m_cutS, List.map_nil, List.isEmpty_nil, List.isEmpty_cons]
    refine ⟨fun _ => ?_, fun _ => last _ (p1.less (by omega))⟩
    simp only [w_var, lvD_dat, List.getElem?_cons_zero, List.getElem?_cons_succ, w_c, w_op, w_un, w_test, w_gand, w_gor, w_gnot, w_gyes, w_and, w_or, w_not, w_if, w_nil, w_cons, w_tup, w_lst, w_folst, w_folist, w_cb, w_fd, w_call, w_ocall, ovO_own, w_get, w_args, w_items, w_part, intO_int, w_nopart, w_cut, w_folc, q_seq, q_nx, q_bk, q_ct, q_set, q_setO, q_tg, q_ret, q_retO, q_retN, q_drop, q_if, q_par, q_par3, q_put, q_app, q_for, twoO_two, triO_tri, w_rD, w_rO, lvR_d, lvR_o, q_parR, q_setAt, w_lenv, lenO_o, lenO_l, lenO_t, w_gown, ownL_at, lstO_l, m_oListL, m_oListT, q_appPop, w_intbl, w_attbl, w_callv, fnD_fn, w_tuprg, q_star, q_aug, strD_str, starO_c, rgO_int, m_mulS, m_int1i, m_int1b, m_gseqT, m_gseqL, seqP_nx, seqP_rt, seqP_bk, seqP_ct, seqP_xc, midP_nx, midP_rt, midP_bk, midP_ct, midP_xc, fnP_nx, fnP_rt, fnP_xc, rdP_nx, rdP_ct, rdP_bk, rdP_rt, rdP_xc, op_some, op_none, op_ite, op_map, op_bind, ok_ret, ok_some, m_lt, m_le, m_gt, m_ge, m_add, m_addT, m_addL, m_sub, m_mulI, m_mod, m_fdivS, m_powS, m_neg, m_bool, m_abs, m_min2, m_max2, m_lenL, m_lenT, m_lenI, m_tupL, m_tupT, m_lstL, m_lstT, m_rv1, m_rv2, m_ov, m_key, m_kds, m_so, m_rng1, m_gset, m_gtup, m_gsc, m_gsn, m_zipL, m_zipT, m_itL, m_itT, m_cutT, m_cutL, eq_I, ne_I, no_nil, no_cons, no_un, no_dat, wi_nil, wi_cons, Bool.and_true, Bool.true_and, Bool.and_self, and_self, List.set_cons_zero, List.set_cons_succ, List.length_cons, List.length_nil, m_line, Nat.reduceAdd, Nat.reduceLeDiff, Nat.reduceLT, Int.reduceLE, Int.reduceLT, Int.reduceToNat, Int.reducePow, Nat.reducePow, Int.reduceNeg, Int.reduceMul, Int.reduceAdd, Int.reduceSub, Nat.reduceMul, Nat.reduceSub, Int.reduceMod, Int.reduceDiv, Nat.zero_add, true_and, and_true, if_true, if_false, reduceCtorEq, false_implies, forall_const, true_implies, implies_true, decide_eq_true_eq, decide_eq_false_iff_not, beq_iff_eq, beq_eq_false_iff_ne, ne_eq, Bool.not_eq_true, List.append_eq, List.cons_append, List.nil_append, w_chn, w_ixv, lsO_o, lsO_d, w_focat, m_ocat, m_eqnL, m_eqnT, w_disp0, m_ovd, q_frz, frzO_o, frzO_d, m_revL, m_revT, m_addXi, m_addXb, m_subXi, m_subXb, m_mulXi, m_mulXb, m_negXi, m_negXb, m_strXb, m_addS, m_cutS, List.map_nil, List.isEmpty_nil, List.isEmpty_cons, eq_bl]
    refine pick_ok (p1.less (by omega) : Pen (K + 1) g1) ?_ ?_ fun d' g' hd' hp' => ?_
    · simp only [List.length_cons, List.length_nil]; decide
    · simp only [List.length_cons, List.length_nil]; decide
    refine fin d' g' ?_ ?_ hp'
    · clear hp' last hI fin
      revert d'
      cases b <;> (repeat' first | exact Bk.non | exact Bk.bl | exact bkInt (by decide +kernel) | exact bkStr (by decide +kernel) (by decide +kernel) | exact Bk.dic | refine Bk.tup (by simp only [List.length_cons, List.length_nil]; omega) ?_ | refine Bk.lst (by simp only [List.length_cons, List.length_nil]; omega) ?_ | exact List.forall_mem_nil _ | refine List.forall_mem_cons.mpr ⟨?_, ?_⟩)
    · clear hp' last hI fin
      revert d'
      cases b <;> (rw [wt_bl]; repeat' first | exact List.forall_mem_nil _ | refine List.forall_mem_cons.mpr ⟨by decide +kernel, ?_⟩)
  | non => simp only [w_var, lvD_dat, List.getElem?_cons_zero, List.getElem?_cons_succ, w_c, w_op, w_un, w_test, w_gand, w_gor, w_gnot, w_gyes, w_and, w_or, w_not, w_if, w_nil, w_cons, w_tup, w_lst, w_folst, w_folist, w_cb, w_fd, w_call, w_ocall, ovO_own, w_get, w_args, w_items, w_part, intO_int, w_nopart, w_cut, w_folc, q_seq, q_nx, q_bk, q_ct, q_set, q_setO, q_tg, q_ret, q_retO, q_retN, q_drop, q_if, q_par, q_par3, q_put, q_app, q_for, twoO_two, triO_tri, w_rD, w_rO, lvR_d, lvR_o, q_parR, q_setAt, w_lenv, lenO_o, lenO_l, lenO_t, w_gown, ownL_at, lstO_l, m_oListL, m_oListT, q_appPop, w_intbl, w_attbl, w_callv, fnD_fn, w_tuprg, q_star, q_aug, strD_str, starO_c, rgO_int, m_mulS, m_int1i, m_int1b, m_gseqT, m_gseqL, seqP_nx, seqP_rt, seqP_bk, seqP_ct, seqP_xc, midP_nx, midP_rt, midP_bk, midP_ct, midP_xc, fnP_nx, fnP_rt, fnP_xc, rdP_nx, rdP_ct, rdP_bk, rdP_rt, rdP_xc, op_some, op_none, op_ite, op_map, op_bind, ok_ret, ok_some, m_lt, m_le, m_gt, m_ge, m_add, m_addT, m_addL, m_sub, m_mulI, m_mod, m_fdivS, m_powS, m_neg, m_bool, m_abs, m_min2, m_max2, m_lenL, m_lenT, m_lenI, m_tupL, m_tupT, m_lstL, m_lstT, m_rv1, m_rv2, m_ov, m_key, m_kds, m_so, m_rng1, m_gset, m_gtup, m_gsc, m_gsn, m_zipL, m_zipT, m_itL, m_itT, m_cutT, m_cutL, eq_I, ne_I, no_nil, no_cons, no_un, no_dat, wi_nil, wi_cons, Bool.and_true, Bool.true_and, Bool.and_self, and_self, List.set_cons_zero, List.set_cons_succ, List.length_cons, List.length_nil, m_line, Nat.reduceAdd, Nat.reduceLeDiff, Nat.reduceLT, Int.reduceLE, Int.reduceLT, Int.reduceToNat, Int.reducePow, Nat.reducePow, Int.reduceNeg, Int.reduceMul, Int.reduceAdd, Int.reduceSub, Nat.reduceMul, Nat.reduceSub, Int.reduceMod, Int.reduceDiv, Nat.zero_add, true_and, and_true, if_true, if_false, reduceCtorEq, false_implies, forall_const, true_implies, implies_true, decide_eq_true_eq, decide_eq_false_iff_not, beq_iff_eq, beq_eq_false_iff_ne, ne_eq, Bool.not_eq_true, List.append_eq, List.cons_append, List.nil_append, w_chn, w_ixv, lsO_o, lsO_d, w_focat, m_ocat, m_eqnL, m_eqnT, w_disp0, m_ovd, q_frz, frzO_o, frzO_d, m_revL, m_revT, m_addXi, m_addXb, m_subXi, m_subXb, m_mulXi, m_mulXb, m_negXi, m_negXb, m_strXb, m_addS, m_cutS, List.map_nil, List.isEmpty_nil, List.isEmpty_cons, hI, kInt, kBl, Bool.or_false]; exact last _ (hp.less (by omega))
  | str _ => simp only [w_var, lvD_dat, List.getElem?_cons_zero, List.getElem?_cons_succ, w_c, w_op, w_un, w_test, w_gand, w_gor, w_gnot, w_gyes, w_and, w_or, w_not, w_if, w_nil, w_cons, w_tup, w_lst, w_folst, w_folist, w_cb, w_fd, w_call, w_ocall, ovO_own, w_get, w_args, w_items, w_part, intO_int, w_nopart, w_cut, w_folc, q_seq, q_nx, q_bk, q_ct, q_set, q_setO, q_tg, q_ret, q_retO, q_retN, q_drop, q_if, q_par, q_par3, q_put, q_app, q_for, twoO_two, triO_tri, w_rD, w_rO, lvR_d, lvR_o, q_parR, q_setAt, w_lenv, lenO_o, lenO_l, lenO_t, w_gown, ownL_at, lstO_l, m_oListL, m_oListT, q_appPop, w_intbl, w_attbl, w_callv, fnD_fn, w_tuprg, q_star, q_aug, strD_str, starO_c, rgO_int, m_mulS, m_int1i, m_int1b, m_gseqT, m_gseqL, seqP_nx, seqP_rt, seqP_bk, seqP_ct, seqP_xc, midP_nx, midP_rt, midP_bk, midP_ct, midP_xc, fnP_nx, fnP_rt, fnP_xc, rdP_nx, rdP_ct, rdP_bk, rdP_rt, rdP_xc, op_some, op_none, op_ite, op_map, op_bind, ok_ret, ok_some, m_lt, m_le, m_gt, m_ge, m_add, m_addT, m_addL, m_sub, m_mulI, m_mod, m_fdivS, m_powS, m_neg, m_bool, m_abs, m_min2, m_max2, m_lenL, m_lenT, m_lenI, m_tupL, m_tupT, m_lstL, m_lstT, m_rv1, m_rv2, m_ov, m_key, m_kds, m_so, m_rng1, m_gset, m_gtup, m_gsc, m_gsn, m_zipL, m_zipT, m_itL, m_itT, m_cutT, m_cutL, eq_I, ne_I, no_nil, no_cons, no_un, no_dat, wi_nil, wi_cons, Bool.and_true, Bool.true_and, Bool.and_self, and_self, List.set_cons_zero, List.set_cons_succ, List.length_cons, List.length_nil, m_line, Nat.reduceAdd, Nat.reduceLeDiff, Nat.reduceLT, Int.reduceLE, Int.reduceLT, Int.reduceToNat, Int.reducePow, Nat.reducePow, Int.reduceNeg, Int.reduceMul, Int.reduceAdd, Int.reduceSub, Nat.reduceMul, Nat.reduceSub, Int.reduceMod, Int.reduceDiv, Nat.zero_add, true_and, and_true, if_true, if_false, reduceCtorEq, false_implies, forall_const, true_implies, implies_true, decide_eq_true_eq, decide_eq_false_iff_not, beq_iff_eq, beq_eq_false_iff_ne, ne_eq, Bool.not_eq_true, List.append_eq, List.cons_append, List.nil_append, w_chn, w_ixv, lsO_o, lsO_d, w_focat, m_ocat, m_eqnL, m_eqnT, w_disp0, m_ovd, q_frz, frzO_o, frzO_d, m_revL, m_revT, m_addXi, m_addXb, m_subXi, m_subXb, m_mulXi, m_mulXb, m_negXi, m_negXb, m_strXb, m_addS, m_cutS, List.map_nil, List.isEmpty_nil, List.isEmpty_cons, hI, kInt, kBl, Bool.or_false]; exact last _ (hp.less (by omega))
  | dic => simp only [w_var, lvD_dat, List.getElem?_cons_zero, List.getElem?_cons_succ, w_c, w_op, w_un, w_test, w_gand, w_gor, w_gnot, w_gyes, w_and, w_or, w_not, w_if, w_nil, w_cons, w_tup, w_lst, w_folst, w_folist, w_cb, w_fd, w_call, w_ocall, ovO_own, w_get, w_args, w_items, w_part, intO_int, w_nopart, w_cut, w_folc, q_seq, q_nx, q_bk, q_ct, q_set, q_setO, q_tg, q_ret, q_retO, q_retN, q_drop, q_if, q_par, q_par3, q_put, q_app, q_for, twoO_two, triO_tri, w_rD, w_rO, lvR_d, lvR_o, q_parR, q_setAt, w_lenv, lenO_o, lenO_l, lenO_t, w_gown, ownL_at, lstO_l, m_oListL, m_oListT, q_appPop, w_intbl, w_attbl, w_callv, fnD_fn, w_tuprg, q_star, q_aug, strD_str, starO_c, rgO_int, m_mulS, m_int1i, m_int1b, m_gseqT, m_gseqL, seqP_nx, seqP_rt, seqP_bk, seqP_ct, seqP_xc, midP_nx, midP_rt, midP_bk, midP_ct, midP_xc, fnP_nx, fnP_rt, fnP_xc, rdP_nx, rdP_ct, rdP_bk, rdP_rt, rdP_xc, op_some, op_none, op_ite, op_map, op_bind, ok_ret, ok_some, m_lt, m_le, m_gt, m_ge, m_add, m_addT, m_addL, m_sub, m_mulI, m_mod, m_fdivS, m_powS, m_neg, m_bool, m_abs, m_min2, m_max2, m_lenL, m_lenT, m_lenI, m_tupL, m_tupT, m_lstL, m_lstT, m_rv1, m_rv2, m_ov, m_key, m_kds, m_so, m_rng1, m_gset, m_gtup, m_gsc, m_gsn, m_zipL, m_zipT, m_itL, m_itT, m_cutT, m_cutL, eq_I, ne_I, no_nil, no_cons, no_un, no_dat, wi_nil, wi_cons, Bool.and_true, Bool.true_and, Bool.and_self, and_self, List.set_cons_zero, List.set_cons_succ, List.length_cons, List.length_nil, m_line, Nat.reduceAdd, Nat.reduceLeDiff, Nat.reduceLT, Int.reduceLE, Int.reduceLT, Int.reduceToNat, Int.reducePow, Nat.reducePow, Int.reduceNeg, Int.reduceMul, Int.reduceAdd, Int.reduceSub, Nat.reduceMul, Nat.reduceSub, Int.reduceMod, Int.reduceDiv, Nat.zero_add, true_and, and_true, if_true, if_false, reduceCtorEq, false_implies, forall_const, true_implies, implies_true, decide_eq_true_eq, decide_eq_false_iff_not, beq_iff_eq, beq_eq_false_iff_ne, ne_eq, Bool.not_eq_true, List.append_eq, List.cons_append, List.nil_append, w_chn, w_ixv, lsO_o, lsO_d, w_focat, m_ocat, m_eqnL, m_eqnT, w_disp0, m_ovd, q_frz, frzO_o, frzO_d, m_revL, m_revT, m_addXi, m_addXb, m_subXi, m_subXb, m_mulXi, m_mulXb, m_negXi, m_negXb, m_strXb, m_addS, m_cutS, List.map_nil, List.isEmpty_nil, List.isEmpty_cons, hI, kInt, kBl, Bool.or_false]; exact last _ (hp.less (by omega))
  | lst _ _ => simp only [w_var, lvD_dat, List.getElem?_cons_zero, List.getElem?_cons_succ, w_c, w_op, w_un, w_test, w_gand, w_gor, w_gnot, w_gyes, w_and, w_or, w_not, w_if, w_nil, w_cons, w_tup, w_lst, w_folst, w_folist, w_cb, w_fd, w_call, w_ocall, ovO_own, w_get, w_args, w_items, w_part, intO_int, w_nopart, w_cut, w_folc, q_seq, q_nx, q_bk, q_ct, q_set, q_setO, q_tg, q_ret, q_retO, q_retN, q_drop, q_if, q_par, q_par3, q_put, q_app, q_for, twoO_two, triO_tri, w_rD, w_rO, lvR_d, lvR_o, q_parR, q_setAt, w_lenv, lenO_o, lenO_l, lenO_t, w_gown, ownL_at, lstO_l, m_oListL, m_oListT, q_appPop, w_intbl, w_attbl, w_callv, fnD_fn, w_tuprg, q_star, q_aug, strD_str, starO_c, rgO_int, m_mulS, m_int1i, m_int1b, m_gseqT, m_gseqL, seqP_nx, seqP_rt, seqP_bk, seqP_ct, seqP_xc, midP_nx, midP_rt, midP_bk, midP_ct, midP_xc, fnP_nx, fnP_rt, fnP_xc, rdP_nx, rdP_ct, rdP_bk, rdP_rt, rdP_xc, op_some, op_none, op_ite, op_map, op_bind, ok_ret, ok_some, m_lt, m_le, m_gt, m_ge, m_add, m_addT, m_addL, m_sub, m_mulI, m_mod, m_fdivS, m_powS, m_neg, m_bool, m_abs, m_min2, m_max2, m_lenL, m_lenT, m_lenI, m_tupL, m_tupT, m_lstL, m_lstT, m_rv1, m_rv2, m_ov, m_key, m_kds, m_so, m_rng1, m_gset, m_gtup, m_gsc, m_gsn, m_zipL, m_zipT, m_itL, m_itT, m_cutT, m_cutL, eq_I, ne_I, no_nil, no_cons, no_un, no_dat, wi_nil, wi_cons, Bool.and_true, Bool.true_and, Bool.and_self, and_self, List.set_cons_zero, List.set_cons_succ, List.length_cons, List.length_nil, m_line, Nat.reduceAdd, Nat.reduceLeDiff, Nat.reduceLT, Int.reduceLE, Int.reduceLT, Int.reduceToNat, Int.reducePow, Nat.reducePow, Int.reduceNeg, Int.reduceMul, Int.reduceAdd, Int.reduceSub, Nat.reduceMul, Nat.reduceSub, Int.reduceMod, Int.reduceDiv, Nat.zero_add, true_and, and_true, if_true, if_false, reduceCtorEq, false_implies, forall_const, true_implies, implies_true, decide_eq_true_eq, decide_eq_false_iff_not, beq_iff_eq, beq_eq_false_iff_ne, ne_eq, Bool.not_eq_true, List.append_eq, List.cons_append, List.nil_append, w_chn, w_ixv, lsO_o, lsO_d, w_focat, m_ocat, m_eqnL, m_eqnT, w_disp0, m_ovd, q_frz, frzO_o, frzO_d, m_revL, m_revT, m_addXi, m_addXb, m_subXi, m_subXb, m_mulXi, m_mulXb, m_negXi, m_negXb, m_strXb, m_addS, m_cutS, List.map_nil, List.isEmpty_nil, List.isEmpty_cons, hI, kInt, kBl, Bool.or_false]; exact last _ (hp.less (by omega))
  | tup _ _ => simp only [w_var, lvD_dat, List.getElem?_cons_zero, List.getElem?_cons_succ, w_c, w_op, w_un, w_test, w_gand, w_gor, w_gnot, w_gyes, w_and, w_or, w_not, w_if, w_nil, w_cons, w_tup, w_lst, w_folst, w_folist, w_cb, w_fd, w_call, w_ocall, ovO_own, w_get, w_args, w_items, w_part, intO_int, w_nopart, w_cut, w_folc, q_seq, q_nx, q_bk, q_ct, q_set, q_setO, q_tg, q_ret, q_retO, q_retN, q_drop, q_if, q_par, q_par3, q_put, q_app, q_for, twoO_two, triO_tri, w_rD, w_rO, lvR_d, lvR_o, q_parR, q_setAt, w_lenv, lenO_o, lenO_l, lenO_t, w_gown, ownL_at, lstO_l, m_oListL, m_oListT, q_appPop, w_intbl, w_attbl, w_callv, fnD_fn, w_tuprg, q_star, q_aug, strD_str, starO_c, rgO_int, m_mulS, m_int1i, m_int1b, m_gseqT, m_gseqL, seqP_nx, seqP_rt, seqP_bk, seqP_ct, seqP_xc, midP_nx, midP_rt, midP_bk, midP_ct, midP_xc, fnP_nx, fnP_rt, fnP_xc, rdP_nx, rdP_ct, rdP_bk, rdP_rt, rdP_xc, op_some, op_none, op_ite, op_map, op_bind, ok_ret, ok_some, m_lt, m_le, m_gt, m_ge, m_add, m_addT, m_addL, m_sub, m_mulI, m_mod, m_fdivS, m_powS, m_neg, m_bool, m_abs, m_min2, m_max2, m_lenL, m_lenT, m_lenI, m_tupL, m_tupT, m_lstL, m_lstT, m_rv1, m_rv2, m_ov, m_key, m_kds, m_so, m_rng1, m_gset, m_gtup, m_gsc, m_gsn, m_zipL, m_zipT, m_itL, m_itT, m_cutT, m_cutL, eq_I, ne_I, no_nil, no_cons, no_un, no_dat, wi_nil, wi_cons, Bool.and_true, Bool.true_and, Bool.and_self, and_self, List.set_cons_zero, List.set_cons_succ, List.length_cons, List.length_nil, m_line, Nat.reduceAdd, Nat.reduceLeDiff, Nat.reduceLT, Int.reduceLE, Int.reduceLT, Int.reduceToNat, Int.reducePow, Nat.reducePow, Int.reduceNeg, Int.reduceMul, Int.reduceAdd, Int.reduceSub, Nat.reduceMul, Nat.reduceSub, Int.reduceMod, Int.reduceDiv, Nat.zero_add, true_and, and_true, if_true, if_false, reduceCtorEq, false_implies, forall_const, true_implies, implies_true, decide_eq_true_eq, decide_eq_false_iff_not, beq_iff_eq, beq_eq_false_iff_ne, ne_eq, Bool.not_eq_true, List.append_eq, List.cons_append, List.nil_append, w_chn, w_ixv, lsO_o, lsO_d, w_focat, m_ocat, m_eqnL, m_eqnT, w_disp0, m_ovd, q_frz, frzO_o, frzO_d, m_revL, m_revT, m_addXi, m_addXb, m_subXi, m_subXb, m_mulXi, m_mulXb, m_negXi, m_negXb, m_strXb, m_addS, m_cutS, List.map_nil, List.isEmpty_nil, List.isEmpty_cons, hI, kInt, kBl, Bool.or_false]; exact last _ (hp.less (by omega))
/-! texts -/
theorem cutS_to {z : Str} {i : Int} (h : 0 ≤ i) (h2 : i ≤ z.length) : cutS z none (some i) = ⟨(z.cps.toList.take i.toNat).toArray⟩ := by
  have := cut_to (xs := z.cps.toList) h h2
  unfold cutD at this
  unfold cutS
  exact congrArg (fun l => (⟨l.toArray⟩ : Str)) this
theorem cutS_from {z : Str} {i : Int} (h : 0 ≤ i) (h2 : i ≤ z.length) : cutS z (some i) none = ⟨(z.cps.toList.drop i.toNat).toArray⟩ := by
  have := cut_from (xs := z.cps.toList) h h2
  unfold cutD at this
  unfold cutS
  exact congrArg (fun l => (⟨l.toArray⟩ : Str)) this
theorem cutS_len {z : Str} {a b : Option Int} : (cutS z a b).length ≤ z.length := by
  unfold cutS
  show (List.toArray _).size ≤ z.cps.size
  rw [List.size_toArray, List.length_take, List.length_drop, Array.length_toList]
  omega
theorem cutS_good {z : Str} {a b : Option Int} (h : ∀ c ∈ z.cps.toList, c < 16 ^ 8) : ∀ c ∈ (cutS z a b).cps.toList, c < 16 ^ 8 := by
  intro c hc
  unfold cutS at hc
  exact h c (List.mem_of_mem_drop (List.mem_of_mem_take (by simpa using hc)))
theorem cutS_two {z : Str} {i j : Int} (h : 0 ≤ i) (hj : i ≤ j) : (cutS z none (some i)).length + (cutS z (some j) none).length ≤ z.length := by
  have e1 : (cutS z none (some i)).length = min (HT.sIx z.length z.length (some i) - HT.sIx z.length 0 none) (z.length - HT.sIx z.length 0 none) := by
    unfold cutS
    show (List.toArray _).size = _
    rw [List.size_toArray, List.length_take, List.length_drop, Array.length_toList]; rfl
  have e2 : (cutS z (some j) none).length = min (HT.sIx z.length z.length none - HT.sIx z.length 0 (some j)) (z.length - HT.sIx z.length 0 (some j)) := by
    unfold cutS
    show (List.toArray _).size = _
    rw [List.size_toArray, List.length_take, List.length_drop, Array.length_toList]; rfl
  rw [e1, e2, HT.sIx_none, HT.sIx_none, sIx_pos h, sIx_pos (by omega : 0 ≤ j)]
  omega
theorem app_good {a b : Str} (ha : ∀ c ∈ a.cps.toList, c < 16 ^ 8) (hb : ∀ c ∈ b.cps.toList, c < 16 ^ 8) : ∀ c ∈ (a ++ b).cps.toList, c < 16 ^ 8 := by
  intro c hc
  have : (a ++ b).cps = a.cps ++ b.cps := rfl
  rw [this, Array.toList_append, List.mem_append] at hc
  exact hc.elim (ha c) (hb c)
theorem pick_str {k : Nat} {z : Str} {g : Gs} {P : RV → Gs → Prop} {E : Exn → Gs → Prop} (hp : Pen (k + 1) g) (h0 : 0 < z.length) (hm : z.length ≤ 16777216)
    (fin : ∀ c g', c ∈ z.cps.toList → Pen k g' → P (.dat (.str ⟨#[c]⟩)) g') : Ok (g_pick [.obj 0, .str z] g) P E := by
  unfold g_pick
  rw [w_fn]
  show SOk (sRet _ [.dat (.obj 0), .dat (.str z)] _) _
  simp only [w_var, lvD_dat, List.getElem?_cons_zero, List.getElem?_cons_succ, w_c, w_op, w_un, w_test, w_gand, w_gor, w_gnot, w_gyes, w_and, w_or, w_not, w_if, w_nil, w_cons, w_tup, w_lst, w_folst, w_folist, w_cb, w_fd, w_call, w_ocall, ovO_own, w_get, w_args, w_items, w_part, intO_int, w_nopart, w_cut, w_folc, q_seq, q_nx, q_bk, q_ct, q_set, q_setO, q_tg, q_ret, q_retO, q_retN, q_drop, q_if, q_par, q_par3, q_put, q_app, q_for, twoO_two, triO_tri, w_rD, w_rO, lvR_d, lvR_o, q_parR, q_setAt, w_lenv, lenO_o, lenO_l, lenO_t, w_gown, ownL_at, lstO_l, m_oListL, m_oListT, q_appPop, w_intbl, w_attbl, w_callv, fnD_fn, w_tuprg, q_star, q_aug, strD_str, starO_c, rgO_int, m_mulS, m_int1i, m_int1b, m_gseqT, m_gseqL, seqP_nx, seqP_rt, seqP_bk, seqP_ct, seqP_xc, midP_nx, midP_rt, midP_bk, midP_ct, midP_xc, fnP_nx, fnP_rt, fnP_xc, rdP_nx, rdP_ct, rdP_bk, rdP_rt, rdP_xc, op_some, op_none, op_ite, op_map, op_bind, ok_ret, ok_some, m_lt, m_le, m_gt, m_ge, m_add, m_addT, m_addL, m_sub, m_mulI, m_mod, m_fdivS, m_powS, m_neg, m_bool, m_abs, m_min2, m_max2, m_lenL, m_lenT, m_lenI, m_tupL, m_tupT, m_lstL, m_lstT, m_rv1, m_rv2, m_ov, m_key, m_kds, m_so, m_rng1, m_gset, m_gtup, m_gsc, m_gsn, m_zipL, m_zipT, m_itL, m_itT, m_cutT, m_cutL, eq_I, ne_I, no_nil, no_cons, no_un, no_dat, wi_nil, wi_cons, Bool.and_true, Bool.true_and, Bool.and_self, and_self, List.set_cons_zero, List.set_cons_succ, List.length_cons, List.length_nil, m_line, Nat.reduceAdd, Nat.reduceLeDiff, Nat.reduceLT, Int.reduceLE, Int.reduceLT, Int.reduceToNat, Int.reducePow, Nat.reducePow, Int.reduceNeg, Int.reduceMul, Int.reduceAdd, Int.reduceSub, Nat.reduceMul, Nat.reduceSub, Int.reduceMod, Int.reduceDiv, Nat.zero_add, true_and, and_true, if_true, if_false, reduceCtorEq, false_implies, forall_const, true_implies, implies_true, decide_eq_true_eq, decide_eq_false_iff_not, beq_iff_eq, beq_eq_false_iff_ne, ne_eq, Bool.not_eq_true, List.append_eq, List.cons_append, List.nil_append, w_chn, w_ixv, lsO_o, lsO_d, w_focat, m_ocat, m_eqnL, m_eqnT, w_disp0, m_ovd, q_frz, frzO_o, frzO_d, m_revL, m_revT, m_addXi, m_addXb, m_subXi, m_subXb, m_mulXi, m_mulXb, m_negXi, m_negXb, m_strXb, m_addS, m_cutS, List.map_nil, List.isEmpty_nil, List.isEmpty_cons, m_lenS hm]
  refine draw_ok hp (by omega) (by omega) fun i g' i0 i1 hp' => ?_
  rw [m_rv1]
  have hl : i.toNat < z.cps.toList.length := by
    rw [Array.length_toList]
    show i.toNat < z.length
    omega
  have e : dIx (.str z) (.int i) = some (.str ⟨#[z.cps.toList[i.toNat]]⟩) := by
    show (if z.length ≤ sizeLine then (atI z.cps.toList i).map (fun c => D.str ⟨#[c]⟩) else none) = _
    rw [if_pos (show z.length ≤ sizeLine from hm)]
    unfold atI ixN
    rw [if_pos i0, if_pos (by omega)]
    show (z.cps.toList[i.toNat]?).map _ = _
    rw [List.getElem?_eq_getElem hl]; rfl
  rw [e, op_some]
  exact fin _ _ (List.getElem_mem _) hp'
theorem strs_ok (hd : Bk kk n d) (hk : kk ≤ 80) (hp : Pen (K + 4) g) (fin : ∀ d' g', Bk (kk + 1) (n + 2) d' → wt d' ≤ 2 * wt d + 2000 → Pen K g' → P (.dat d') g') : SOk (b_strs [.dat (.obj 0), .dat d, x2, x3, x4, x5, x6] g) (fnP P E) := by
  have nxt : ∀ g, Pen (K + 3) g → SOk (b_ints [.dat (.obj 0), .dat d, x2, x3, x4, x5, x6] g) (fnP P E) := fun g hp => ints_ok hd hk hp fin
  have hI := hd.isStr
  unfold b_strs
  rw [q_seq]
  cases hd with
  | @str _ z hz =>
    have hz2 := hz.1
    have hz3 := hz.2
    have hl : z.length ≤ 16777216 := by omega
    simp only [w_var, lvD_dat, List.getElem?_cons_zero, List.getElem?_cons_succ, w_c, w_op, w_un, w_test, w_gand, w_gor, w_gnot, w_gyes, w_and, w_or, w_not, w_if, w_nil, w_cons, w_tup, w_lst, w_folst, w_folist, w_cb, w_fd, w_call, w_ocall, ovO_own, w_get, w_args, w_items, w_part, intO_int, w_nopart, w_cut, w_folc, q_seq, q_nx, q_bk, q_ct, q_set, q_setO, q_tg, q_ret, q_retO, q_retN, q_drop, q_if, q_par, q_par3, q_put, q_app, q_for, twoO_two, triO_tri, w_rD, w_rO, lvR_d, lvR_o, q_parR, q_setAt, w_lenv, lenO_o, lenO_l, lenO_t, w_gown, ownL_at, lstO_l, m_oListL, m_oListT, q_appPop, w_intbl, w_attbl, w_callv, fnD_fn, w_tuprg, q_star, q_aug, strD_str, starO_c, rgO_int, m_mulS, m_int1i, m_int1b, m_gseqT, m_gseqL, seqP_nx, seqP_rt, seqP_bk, seqP_ct, seqP_xc, midP_nx, midP_rt, midP_bk, midP_ct, midP_xc, fnP_nx, fnP_rt, fnP_xc, rdP_nx, rdP_ct, rdP_bk, rdP_rt, rdP_xc, op_some, op_none, op_ite, op_map, op_bind, ok_ret, ok_some, m_lt, m_le, m_gt, m_ge, m_add, m_addT, m_addL, m_sub, m_mulI, m_mod, m_fdivS, m_powS, m_neg, m_bool, m_abs, m_min2, m_max2, m_lenL, m_lenT, m_lenI, m_tupL, m_tupT, m_lstL, m_lstT, m_rv1, m_rv2, m_ov, m_key, m_kds, m_so, m_rng1, m_gset, m_gtup, m_gsc, m_gsn, m_zipL, m_zipT, m_itL, m_itT, m_cutT, m_cutL, eq_I, ne_I, no_nil, no_cons, no_un, no_dat, wi_nil, wi_cons, Bool.and_true, Bool.true_and, Bool.and_self, and_self, List.set_cons_zero, List.set_cons_succ, List.length_cons, List.length_nil, m_line, Nat.reduceAdd, Nat.reduceLeDiff, Nat.reduceLT, Int.reduceLE, Int.reduceLT, Int.reduceToNat, Int.reducePow, Nat.reducePow, Int.reduceNeg, Int.reduceMul, Int.reduceAdd, Int.reduceSub, Nat.reduceMul, Nat.reduceSub, Int.reduceMod, Int.reduceDiv, Nat.zero_add, true_and, and_true, if_true, if_false, reduceCtorEq, false_implies, forall_const, true_implies, implies_true, decide_eq_true_eq, decide_eq_false_iff_not, beq_iff_eq, beq_eq_false_iff_ne, ne_eq, Bool.not_eq_true, List.append_eq, List.cons_append, List.nil_append, w_chn, w_ixv, lsO_o, lsO_d, w_focat, m_ocat, m_eqnL, m_eqnT, w_disp0, m_ovd, q_frz, frzO_o, frzO_d, m_revL, m_revT, m_addXi, m_addXb, m_subXi, m_subXb, m_mulXi, m_mulXb, m_negXi, m_negXb, m_strXb, m_addS, m_cutS, List.map_nil, List.isEmpty_nil, List.isEmpty_cons, hI, kStr]
    refine draw_ok hp (by decide) (by decide) fun j g1 j0 j1 p1 => ?_
    rw [m_rv1]
    simp only [w_var, lvD_dat, List.getElem?_cons_zero, List.getElem?_cons_succ, w_c, w_op, w_un, w_test, w_gand, w_gor, w_gnot, w_gyes, w_and, w_or, w_not, w_if, w_nil, w_cons, w_tup, w_lst, w_folst, w_folist, w_cb, w_fd, w_call, w_ocall, ovO_own, w_get, w_args, w_items, w_part, intO_int, w_nopart, w_cut, w_folc, q_seq, q_nx, q_bk, q_ct, q_set, q_setO, q_tg, q_ret, q_retO, q_retN, q_drop, q_if, q_par, q_par3, q_put, q_app, q_for, twoO_two, triO_tri, w_rD, w_rO, lvR_d, lvR_o, q_parR, q_setAt, w_lenv, lenO_o, lenO_l, lenO_t, w_gown, ownL_at, lstO_l, m_oListL, m_oListT, q_appPop, w_intbl, w_attbl, w_callv, fnD_fn, w_tuprg, q_star, q_aug, strD_str, starO_c, rgO_int, m_mulS, m_int1i, m_int1b, m_gseqT, m_gseqL, seqP_nx, seqP_rt, seqP_bk, seqP_ct, seqP_xc, midP_nx, midP_rt, midP_bk, midP_ct, midP_xc, fnP_nx, fnP_rt, fnP_xc, rdP_nx, rdP_ct, rdP_bk, rdP_rt, rdP_xc, op_some, op_none, op_ite, op_map, op_bind, ok_ret, ok_some, m_lt, m_le, m_gt, m_ge, m_add, m_addT, m_addL, m_sub, m_mulI, m_mod, m_fdivS, m_powS, m_neg, m_bool, m_abs, m_min2, m_max2, m_lenL, m_lenT, m_lenI, m_tupL, m_tupT, m_lstL, m_lstT, m_rv1, m_rv2, m_ov, m_key, m_kds, m_so, m_rng1, m_gset, m_gtup, m_gsc, m_gsn, m_zipL, m_zipT, m_itL, m_itT, m_cutT, m_cutL, eq_I, ne_I, no_nil, no_cons, no_un, no_dat, wi_nil, wi_cons, Bool.and_true, Bool.true_and, Bool.and_self, and_self, List.set_cons_zero, List.set_cons_succ, List.length_cons, List.length_nil, m_line, Nat.reduceAdd, Nat.reduceLeDiff, Nat.reduceLT, Int.reduceLE, Int.reduceLT, Int.reduceToNat, Int.reducePow, Nat.reducePow, Int.reduceNeg, Int.reduceMul, Int.reduceAdd, Int.reduceSub, Nat.reduceMul, Nat.reduceSub, Int.reduceMod, Int.reduceDiv, Nat.zero_add, true_and, and_true, if_true, if_false, reduceCtorEq, false_implies, forall_const, true_implies, implies_true, decide_eq_true_eq, decide_eq_false_iff_not, beq_iff_eq, beq_eq_false_iff_ne, ne_eq, Bool.not_eq_true, List.append_eq, List.cons_append, List.nil_append, w_chn, w_ixv, lsO_o, lsO_d, w_focat, m_ocat, m_eqnL, m_eqnT, w_disp0, m_ovd, q_frz, frzO_o, frzO_d, m_revL, m_revT, m_addXi, m_addXb, m_subXi, m_subXb, m_mulXi, m_mulXb, m_negXi, m_negXb, m_strXb, m_addS, m_cutS, List.map_nil, List.isEmpty_nil, List.isEmpty_cons]
    refine ⟨fun _ => ?_, fun _ => nxt _ (p1.less (by omega))⟩
    simp only [w_var, lvD_dat, List.getElem?_cons_zero, List.getElem?_cons_succ, w_c, w_op, w_un, w_test, w_gand, w_gor, w_gnot, w_gyes, w_and, w_or, w_not, w_if, w_nil, w_cons, w_tup, w_lst, w_folst, w_folist, w_cb, w_fd, w_call, w_ocall, ovO_own, w_get, w_args, w_items, w_part, intO_int, w_nopart, w_cut, w_folc, q_seq, q_nx, q_bk, q_ct, q_set, q_setO, q_tg, q_ret, q_retO, q_retN, q_drop, q_if, q_par, q_par3, q_put, q_app, q_for, twoO_two, triO_tri, w_rD, w_rO, lvR_d, lvR_o, q_parR, q_setAt, w_lenv, lenO_o, lenO_l, lenO_t, w_gown, ownL_at, lstO_l, m_oListL, m_oListT, q_appPop, w_intbl, w_attbl, w_callv, fnD_fn, w_tuprg, q_star, q_aug, strD_str, starO_c, rgO_int, m_mulS, m_int1i, m_int1b, m_gseqT, m_gseqL, seqP_nx, seqP_rt, seqP_bk, seqP_ct, seqP_xc, midP_nx, midP_rt, midP_bk, midP_ct, midP_xc, fnP_nx, fnP_rt, fnP_xc, rdP_nx, rdP_ct, rdP_bk, rdP_rt, rdP_xc, op_some, op_none, op_ite, op_map, op_bind, ok_ret, ok_some, m_lt, m_le, m_gt, m_ge, m_add, m_addT, m_addL, m_sub, m_mulI, m_mod, m_fdivS, m_powS, m_neg, m_bool, m_abs, m_min2, m_max2, m_lenL, m_lenT, m_lenI, m_tupL, m_tupT, m_lstL, m_lstT, m_rv1, m_rv2, m_ov, m_key, m_kds, m_so, m_rng1, m_gset, m_gtup, m_gsc, m_gsn, m_zipL, m_zipT, m_itL, m_itT, m_cutT, m_cutL, eq_I, ne_I, no_nil, no_cons, no_un, no_dat, wi_nil, wi_cons, Bool.and_true, Bool.true_and, Bool.and_self, and_self, List.set_cons_zero, List.set_cons_succ, List.length_cons, List.length_nil, m_line, Nat.reduceAdd, Nat.reduceLeDiff, Nat.reduceLT, Int.reduceLE, Int.reduceLT, Int.reduceToNat, Int.reducePow, Nat.reducePow, Int.reduceNeg, Int.reduceMul, Int.reduceAdd, Int.reduceSub, Nat.reduceMul, Nat.reduceSub, Int.reduceMod, Int.reduceDiv, Nat.zero_add, true_and, and_true, if_true, if_false, reduceCtorEq, false_implies, forall_const, true_implies, implies_true, decide_eq_true_eq, decide_eq_false_iff_not, beq_iff_eq, beq_eq_false_iff_ne, ne_eq, Bool.not_eq_true, List.append_eq, List.cons_append, List.nil_append, w_chn, w_ixv, lsO_o, lsO_d, w_focat, m_ocat, m_eqnL, m_eqnT, w_disp0, m_ovd, q_frz, frzO_o, frzO_d, m_revL, m_revT, m_addXi, m_addXb, m_subXi, m_subXb, m_mulXi, m_mulXb, m_negXi, m_negXb, m_strXb, m_addS, m_cutS, List.map_nil, List.isEmpty_nil, List.isEmpty_cons, m_lenS hl]
    refine draw_ok p1 (by omega) (by omega) fun at_ g2 a0 a1 p2 => ?_
    rw [m_rv1]
    simp only [w_var, lvD_dat, List.getElem?_cons_zero, List.getElem?_cons_succ, w_c, w_op, w_un, w_test, w_gand, w_gor, w_gnot, w_gyes, w_and, w_or, w_not, w_if, w_nil, w_cons, w_tup, w_lst, w_folst, w_folist, w_cb, w_fd, w_call, w_ocall, ovO_own, w_get, w_args, w_items, w_part, intO_int, w_nopart, w_cut, w_folc, q_seq, q_nx, q_bk, q_ct, q_set, q_setO, q_tg, q_ret, q_retO, q_retN, q_drop, q_if, q_par, q_par3, q_put, q_app, q_for, twoO_two, triO_tri, w_rD, w_rO, lvR_d, lvR_o, q_parR, q_setAt, w_lenv, lenO_o, lenO_l, lenO_t, w_gown, ownL_at, lstO_l, m_oListL, m_oListT, q_appPop, w_intbl, w_attbl, w_callv, fnD_fn, w_tuprg, q_star, q_aug, strD_str, starO_c, rgO_int, m_mulS, m_int1i, m_int1b, m_gseqT, m_gseqL, seqP_nx, seqP_rt, seqP_bk, seqP_ct, seqP_xc, midP_nx, midP_rt, midP_bk, midP_ct, midP_xc, fnP_nx, fnP_rt, fnP_xc, rdP_nx, rdP_ct, rdP_bk, rdP_rt, rdP_xc, op_some, op_none, op_ite, op_map, op_bind, ok_ret, ok_some, m_lt, m_le, m_gt, m_ge, m_add, m_addT, m_addL, m_sub, m_mulI, m_mod, m_fdivS, m_powS, m_neg, m_bool, m_abs, m_min2, m_max2, m_lenL, m_lenT, m_lenI, m_tupL, m_tupT, m_lstL, m_lstT, m_rv1, m_rv2, m_ov, m_key, m_kds, m_so, m_rng1, m_gset, m_gtup, m_gsc, m_gsn, m_zipL, m_zipT, m_itL, m_itT, m_cutT, m_cutL, eq_I, ne_I, no_nil, no_cons, no_un, no_dat, wi_nil, wi_cons, Bool.and_true, Bool.true_and, Bool.and_self, and_self, List.set_cons_zero, List.set_cons_succ, List.length_cons, List.length_nil, m_line, Nat.reduceAdd, Nat.reduceLeDiff, Nat.reduceLT, Int.reduceLE, Int.reduceLT, Int.reduceToNat, Int.reducePow, Nat.reducePow, Int.reduceNeg, Int.reduceMul, Int.reduceAdd, Int.reduceSub, Nat.reduceMul, Nat.reduceSub, Int.reduceMod, Int.reduceDiv, Nat.zero_add, true_and, and_true, if_true, if_false, reduceCtorEq, false_implies, forall_const, true_implies, implies_true, decide_eq_true_eq, decide_eq_false_iff_not, beq_iff_eq, beq_eq_false_iff_ne, ne_eq, Bool.not_eq_true, List.append_eq, List.cons_append, List.nil_append, w_chn, w_ixv, lsO_o, lsO_d, w_focat, m_ocat, m_eqnL, m_eqnT, w_disp0, m_ovd, q_frz, frzO_o, frzO_d, m_revL, m_revT, m_addXi, m_addXb, m_subXi, m_subXb, m_mulXi, m_mulXb, m_negXi, m_negXb, m_strXb, m_addS, m_cutS, List.map_nil, List.isEmpty_nil, List.isEmpty_cons]
    refine pick_str p2 (by decide +kernel) (by decide +kernel) fun c g3 hc p3 => ?_
    rw [m_rv1]
    have hc2 : c < 16 ^ 8 := by
      have := List.all_eq_true.mp (show ((Str.ofString "abcdefghijklmnopqrstuvwxyzA0 _").cps.toList.all fun c => decide (c < 16 ^ 8)) = true by decide +kernel) c hc
      simpa using this
    have sg : ∀ c' ∈ (⟨#[c]⟩ : Str).cps.toList, c' < 16 ^ 8 := by
      intro c' h
      have : c' = c := by simpa using h
      rw [this]; exact hc2
    have lc : (⟨#[c]⟩ : Str).length = 1 := rfl
    have la : ∀ a b : Str, (a ++ b).length = a.length + b.length := strLen_append
    simp only [w_var, lvD_dat, List.getElem?_cons_zero, List.getElem?_cons_succ, w_c, w_op, w_un, w_test, w_gand, w_gor, w_gnot, w_gyes, w_and, w_or, w_not, w_if, w_nil, w_cons, w_tup, w_lst, w_folst, w_folist, w_cb, w_fd, w_call, w_ocall, ovO_own, w_get, w_args, w_items, w_part, intO_int, w_nopart, w_cut, w_folc, q_seq, q_nx, q_bk, q_ct, q_set, q_setO, q_tg, q_ret, q_retO, q_retN, q_drop, q_if, q_par, q_par3, q_put, q_app, q_for, twoO_two, triO_tri, w_rD, w_rO, lvR_d, lvR_o, q_parR, q_setAt, w_lenv, lenO_o, lenO_l, lenO_t, w_gown, ownL_at, lstO_l, m_oListL, m_oListT, q_appPop, w_intbl, w_attbl, w_callv, fnD_fn, w_tuprg, q_star, q_aug, strD_str, starO_c, rgO_int, m_mulS, m_int1i, m_int1b, m_gseqT, m_gseqL, seqP_nx, seqP_rt, seqP_bk, seqP_ct, seqP_xc, midP_nx, midP_rt, midP_bk, midP_ct, midP_xc, fnP_nx, fnP_rt, fnP_xc, rdP_nx, rdP_ct, rdP_bk, rdP_rt, rdP_xc, op_some, op_none, op_ite, op_map, op_bind, ok_ret, ok_some, m_lt, m_le, m_gt, m_ge, m_add, m_addT, m_addL, m_sub, m_mulI, m_mod, m_fdivS, m_powS, m_neg, m_bool, m_abs, m_min2, m_max2, m_lenL, m_lenT, m_lenI, m_tupL, m_tupT, m_lstL, m_lstT, m_rv1, m_rv2, m_ov, m_key, m_kds, m_so, m_rng1, m_gset, m_gtup, m_gsc, m_gsn, m_zipL, m_zipT, m_itL, m_itT, m_cutT, m_cutL, eq_I, ne_I, no_nil, no_cons, no_un, no_dat, wi_nil, wi_cons, Bool.and_true, Bool.true_and, Bool.and_self, and_self, List.set_cons_zero, List.set_cons_succ, List.length_cons, List.length_nil, m_line, Nat.reduceAdd, Nat.reduceLeDiff, Nat.reduceLT, Int.reduceLE, Int.reduceLT, Int.reduceToNat, Int.reducePow, Nat.reducePow, Int.reduceNeg, Int.reduceMul, Int.reduceAdd, Int.reduceSub, Nat.reduceMul, Nat.reduceSub, Int.reduceMod, Int.reduceDiv, Nat.zero_add, true_and, and_true, if_true, if_false, reduceCtorEq, false_implies, forall_const, true_implies, implies_true, decide_eq_true_eq, decide_eq_false_iff_not, beq_iff_eq, beq_eq_false_iff_ne, ne_eq, Bool.not_eq_true, List.append_eq, List.cons_append, List.nil_append, w_chn, w_ixv, lsO_o, lsO_d, w_focat, m_ocat, m_eqnL, m_eqnT, w_disp0, m_ovd, q_frz, frzO_o, frzO_d, m_revL, m_revT, m_addXi, m_addXb, m_subXi, m_subXb, m_mulXi, m_mulXb, m_negXi, m_negXb, m_strXb, m_addS, m_cutS, List.map_nil, List.isEmpty_nil, List.isEmpty_cons, m_lenS hl]
    have k1 := cutS_two (z := z) (i := at_) (j := at_) a0 (by omega)
    have k2 := cutS_two (z := z) (i := at_) (j := at_ + 1) a0 (by omega)
    have k3 := cutS_len (z := z) (a := none) (b := some at_)
    rw [la, lc]
    refine ⟨hl, by omega, hl, by omega, hl, by omega, hl, by omega, hl, ?_⟩
    refine pick_ok (p3.less (by omega) : Pen (K + 1) g3) ?_ ?_ fun d' g' hd' hp' => ?_
    · simp only [List.length_cons, List.length_nil]; decide
    · simp only [List.length_cons, List.length_nil]; decide
    simp only [List.mem_cons, List.not_mem_nil, or_false] at hd'
    rcases hd' with rfl | rfl | rfl
    · exact fin (.str _) _ (.str ⟨by rw [la, la, lc]; omega, app_good (app_good (cutS_good hz3) sg) (cutS_good hz3)⟩) (by rw [wt_str, wt_str, la, la, lc]; omega) hp'
    · exact fin (.str _) _ (.str ⟨by rw [la, la, lc]; omega, app_good (app_good (cutS_good hz3) sg) (cutS_good hz3)⟩) (by rw [wt_str, wt_str, la, la, lc]; omega) hp'
    · exact fin (.str _) _ (.str ⟨by omega, cutS_good hz3⟩) (by rw [wt_str, wt_str]; omega) hp'
  | bl => simp only [w_var, lvD_dat, List.getElem?_cons_zero, List.getElem?_cons_succ, w_c, w_op, w_un, w_test, w_gand, w_gor, w_gnot, w_gyes, w_and, w_or, w_not, w_if, w_nil, w_cons, w_tup, w_lst, w_folst, w_folist, w_cb, w_fd, w_call, w_ocall, ovO_own, w_get, w_args, w_items, w_part, intO_int, w_nopart, w_cut, w_folc, q_seq, q_nx, q_bk, q_ct, q_set, q_setO, q_tg, q_ret, q_retO, q_retN, q_drop, q_if, q_par, q_par3, q_put, q_app, q_for, twoO_two, triO_tri, w_rD, w_rO, lvR_d, lvR_o, q_parR, q_setAt, w_lenv, lenO_o, lenO_l, lenO_t, w_gown, ownL_at, lstO_l, m_oListL, m_oListT, q_appPop, w_intbl, w_attbl, w_callv, fnD_fn, w_tuprg, q_star, q_aug, strD_str, starO_c, rgO_int, m_mulS, m_int1i, m_int1b, m_gseqT, m_gseqL, seqP_nx, seqP_rt, seqP_bk, seqP_ct, seqP_xc, midP_nx, midP_rt, midP_bk, midP_ct, midP_xc, fnP_nx, fnP_rt, fnP_xc, rdP_nx, rdP_ct, rdP_bk, rdP_rt, rdP_xc, op_some, op_none, op_ite, op_map, op_bind, ok_ret, ok_some, m_lt, m_le, m_gt, m_ge, m_add, m_addT, m_addL, m_sub, m_mulI, m_mod, m_fdivS, m_powS, m_neg, m_bool, m_abs, m_min2, m_max2, m_lenL, m_lenT, m_lenI, m_tupL, m_tupT, m_lstL, m_lstT, m_rv1, m_rv2, m_ov, m_key, m_kds, m_so, m_rng1, m_gset, m_gtup, m_gsc, m_gsn, m_zipL, m_zipT, m_itL, m_itT, m_cutT, m_cutL, eq_I, ne_I, no_nil, no_cons, no_un, no_dat, wi_nil, wi_cons, Bool.and_true, Bool.true_and, Bool.and_self, and_self, List.set_cons_zero, List.set_cons_succ, List.length_cons, List.length_nil, m_line, Nat.reduceAdd, Nat.reduceLeDiff, Nat.reduceLT, Int.reduceLE, Int.reduceLT, Int.reduceToNat, Int.reducePow, Nat.reducePow, Int.reduceNeg, Int.reduceMul, Int.reduceAdd, Int.reduceSub, Nat.reduceMul, Nat.reduceSub, Int.reduceMod, Int.reduceDiv, Nat.zero_add, true_and, and_true, if_true, if_false, reduceCtorEq, false_implies, forall_const, true_implies, implies_true, decide_eq_true_eq, decide_eq_false_iff_not, beq_iff_eq, beq_eq_false_iff_ne, ne_eq, Bool.not_eq_true, List.append_eq, List.cons_append, List.nil_append, w_chn, w_ixv, lsO_o, lsO_d, w_focat, m_ocat, m_eqnL, m_eqnT, w_disp0, m_ovd, q_frz, frzO_o, frzO_d, m_revL, m_revT, m_addXi, m_addXb, m_subXi, m_subXb, m_mulXi, m_mulXb, m_negXi, m_negXb, m_strXb, m_addS, m_cutS, List.map_nil, List.isEmpty_nil, List.isEmpty_cons, hI, kStr]; exact nxt _ (hp.less (by omega))
  | int _ => simp only [w_var, lvD_dat, List.getElem?_cons_zero, List.getElem?_cons_succ, w_c, w_op, w_un, w_test, w_gand, w_gor, w_gnot, w_gyes, w_and, w_or, w_not, w_if, w_nil, w_cons, w_tup, w_lst, w_folst, w_folist, w_cb, w_fd, w_call, w_ocall, ovO_own, w_get, w_args, w_items, w_part, intO_int, w_nopart, w_cut, w_folc, q_seq, q_nx, q_bk, q_ct, q_set, q_setO, q_tg, q_ret, q_retO, q_retN, q_drop, q_if, q_par, q_par3, q_put, q_app, q_for, twoO_two, triO_tri, w_rD, w_rO, lvR_d, lvR_o, q_parR, q_setAt, w_lenv, lenO_o, lenO_l, lenO_t, w_gown, ownL_at, lstO_l, m_oListL, m_oListT, q_appPop, w_intbl, w_attbl, w_callv, fnD_fn, w_tuprg, q_star, q_aug, strD_str, starO_c, rgO_int, m_mulS, m_int1i, m_int1b, m_gseqT, m_gseqL, seqP_nx, seqP_rt, seqP_bk, seqP_ct, seqP_xc, midP_nx, midP_rt, midP_bk, midP_ct, midP_xc, fnP_nx, fnP_rt, fnP_xc, rdP_nx, rdP_ct, rdP_bk, rdP_rt, rdP_xc, op_some, op_none, op_ite, op_map, op_bind, ok_ret, ok_some, m_lt, m_le, m_gt, m_ge, m_add, m_addT, m_addL, m_sub, m_mulI, m_mod, m_fdivS, m_powS, m_neg, m_bool, m_abs, m_min2, m_max2, m_lenL, m_lenT, m_lenI, m_tupL, m_tupT, m_lstL, m_lstT, m_rv1, m_rv2, m_ov, m_key, m_kds, m_so, m_rng1, m_gset, m_gtup, m_gsc, m_gsn, m_zipL, m_zipT, m_itL, m_itT, m_cutT, m_cutL, eq_I, ne_I, no_nil, no_cons, no_un, no_dat, wi_nil, wi_cons, Bool.and_true, Bool.true_and, Bool.and_self, and_self, List.set_cons_zero, List.set_cons_succ, List.length_cons, List.length_nil, m_line, Nat.reduceAdd, Nat.reduceLeDiff, Nat.reduceLT, Int.reduceLE, Int.reduceLT, Int.reduceToNat, Int.reducePow, Nat.reducePow, Int.reduceNeg, Int.reduceMul, Int.reduceAdd, Int.reduceSub, Nat.reduceMul, Nat.reduceSub, Int.reduceMod, Int.reduceDiv, Nat.zero_add, true_and, and_true, if_true, if_false, reduceCtorEq, false_implies, forall_const, true_implies, implies_true, decide_eq_true_eq, decide_eq_false_iff_not, beq_iff_eq, beq_eq_false_iff_ne, ne_eq, Bool.not_eq_true, List.append_eq, List.cons_append, List.nil_append, w_chn, w_ixv, lsO_o, lsO_d, w_focat, m_ocat, m_eqnL, m_eqnT, w_disp0, m_ovd, q_frz, frzO_o, frzO_d, m_revL, m_revT, m_addXi, m_addXb, m_subXi, m_subXb, m_mulXi, m_mulXb, m_negXi, m_negXb, m_strXb, m_addS, m_cutS, List.map_nil, List.isEmpty_nil, List.isEmpty_cons, hI, kStr]; exact nxt _ (hp.less (by omega))
  | non => simp only [w_var, lvD_dat, List.getElem?_cons_zero, List.getElem?_cons_succ, w_c, w_op, w_un, w_test, w_gand, w_gor, w_gnot, w_gyes, w_and, w_or, w_not, w_if, w_nil, w_cons, w_tup, w_lst, w_folst, w_folist, w_cb, w_fd, w_call, w_ocall, ovO_own, w_get, w_args, w_items, w_part, intO_int, w_nopart, w_cut, w_folc, q_seq, q_nx, q_bk, q_ct, q_set, q_setO, q_tg, q_ret, q_retO, q_retN, q_drop, q_if, q_par, q_par3, q_put, q_app, q_for, twoO_two, triO_tri, w_rD, w_rO, lvR_d, lvR_o, q_parR, q_setAt, w_lenv, lenO_o, lenO_l, lenO_t, w_gown, ownL_at, lstO_l, m_oListL, m_oListT, q_appPop, w_intbl, w_attbl, w_callv, fnD_fn, w_tuprg, q_star, q_aug, strD_str, starO_c, rgO_int, m_mulS, m_int1i, m_int1b, m_gseqT, m_gseqL, seqP_nx, seqP_rt, seqP_bk, seqP_ct, seqP_xc, midP_nx, midP_rt, midP_bk, midP_ct, midP_xc, fnP_nx, fnP_rt, fnP_xc, rdP_nx, rdP_ct, rdP_bk, rdP_rt, rdP_xc, op_some, op_none, op_ite, op_map, op_bind, ok_ret, ok_some, m_lt, m_le, m_gt, m_ge, m_add, m_addT, m_addL, m_sub, m_mulI, m_mod, m_fdivS, m_powS, m_neg, m_bool, m_abs, m_min2, m_max2, m_lenL, m_lenT, m_lenI, m_tupL, m_tupT, m_lstL, m_lstT, m_rv1, m_rv2, m_ov, m_key, m_kds, m_so, m_rng1, m_gset, m_gtup, m_gsc, m_gsn, m_zipL, m_zipT, m_itL, m_itT, m_cutT, m_cutL, eq_I, ne_I, no_nil, no_cons, no_un, no_dat, wi_nil, wi_cons, Bool.and_true, Bool.true_and, Bool.and_self, and_self, List.set_cons_zero, List.set_cons_succ, List.length_cons, List.length_nil, m_line, Nat.reduceAdd, Nat.reduceLeDiff, Nat.reduceLT, Int.reduceLE, Int.reduceLT, Int.reduceToNat, Int.reducePow, Nat.reducePow, Int.reduceNeg, Int.reduceMul, Int.reduceAdd, Int.reduceSub, Nat.reduceMul, Nat.reduceSub, Int.reduceMod, Int.reduceDiv, Nat.zero_add, true_and, and_true, if_true, if_false, reduceCtorEq, false_implies, forall_const, true_implies, implies_true, decide_eq_true_eq, decide_eq_false_iff_not, beq_iff_eq, beq_eq_false_iff_ne, ne_eq, Bool.not_eq_true, List.append_eq, List.cons_append, List.nil_append, w_chn, w_ixv, lsO_o, lsO_d, w_focat, m_ocat, m_eqnL, m_eqnT, w_disp0, m_ovd, q_frz, frzO_o, frzO_d, m_revL, m_revT, m_addXi, m_addXb, m_subXi, m_subXb, m_mulXi, m_mulXb, m_negXi, m_negXb, m_strXb, m_addS, m_cutS, List.map_nil, List.isEmpty_nil, List.isEmpty_cons, hI, kStr]; exact nxt _ (hp.less (by omega))
  | dic => simp only [w_var, lvD_dat, List.getElem?_cons_zero, List.getElem?_cons_succ, w_c, w_op, w_un, w_test, w_gand, w_gor, w_gnot, w_gyes, w_and, w_or, w_not, w_if, w_nil, w_cons, w_tup, w_lst, w_folst, w_folist, w_cb, w_fd, w_call, w_ocall, ovO_own, w_get, w_args, w_items, w_part, intO_int, w_nopart, w_cut, w_folc, q_seq, q_nx, q_bk, q_ct, q_set, q_setO, q_tg, q_ret, q_retO, q_retN, q_drop, q_if, q_par, q_par3, q_put, q_app, q_for, twoO_two, triO_tri, w_rD, w_rO, lvR_d, lvR_o, q_parR, q_setAt, w_lenv, lenO_o, lenO_l, lenO_t, w_gown, ownL_at, lstO_l, m_oListL, m_oListT, q_appPop, w_intbl, w_attbl, w_callv, fnD_fn, w_tuprg, q_star, q_aug, strD_str, starO_c, rgO_int, m_mulS, m_int1i, m_int1b, m_gseqT, m_gseqL, seqP_nx, seqP_rt, seqP_bk, seqP_ct, seqP_xc, midP_nx, midP_rt, midP_bk, midP_ct, midP_xc, fnP_nx, fnP_rt, fnP_xc, rdP_nx, rdP_ct, rdP_bk, rdP_rt, rdP_xc, op_some, op_none, op_ite, op_map, op_bind, ok_ret, ok_some, m_lt, m_le, m_gt, m_ge, m_add, m_addT, m_addL, m_sub, m_mulI, m_mod, m_fdivS, m_powS, m_neg, m_bool, m_abs, m_min2, m_max2, m_lenL, m_lenT, m_lenI, m_tupL, m_tupT, m_lstL, m_lstT, m_rv1, m_rv2, m_ov, m_key, m_kds, m_so, m_rng1, m_gset, m_gtup, m_gsc, m_gsn, m_zipL, m_zipT, m_itL, m_itT, m_cutT, m_cutL, eq_I, ne_I, no_nil, no_cons, no_un, no_dat, wi_nil, wi_cons, Bool.and_true, Bool.true_and, Bool.and_self, and_self, List.set_cons_zero, List.set_cons_succ, List.length_cons, List.length_nil, m_line, Nat.reduceAdd, Nat.reduceLeDiff, Nat.reduceLT, Int.reduceLE, Int.reduceLT, Int.reduceToNat, Int.reducePow, Nat.reducePow, Int.reduceNeg, Int.reduceMul, Int.reduceAdd, Int.reduceSub, Nat.reduceMul, Nat.reduceSub, Int.reduceMod, Int.reduceDiv, Nat.zero_add, true_and, and_true, if_true, if_false, reduceCtorEq, false_implies, forall_const, true_implies, implies_true, decide_eq_true_eq, decide_eq_false_iff_not, beq_iff_eq, beq_eq_false_iff_ne, ne_eq, Bool.not_eq_true, List.append_eq, List.cons_append, List.nil_append, w_chn, w_ixv, lsO_o, lsO_d, w_focat, m_ocat, m_eqnL, m_eqnT, w_disp0, m_ovd, q_frz, frzO_o, frzO_d, m_revL, m_revT, m_addXi, m_addXb, m_subXi, m_subXb, m_mulXi, m_mulXb, m_negXi, m_negXb, m_strXb, m_addS, m_cutS, List.map_nil, List.isEmpty_nil, List.isEmpty_cons, hI, kStr]; exact nxt _ (hp.less (by omega))
  | lst _ _ => simp only [w_var, lvD_dat, List.getElem?_cons_zero, List.getElem?_cons_succ, w_c, w_op, w_un, w_test, w_gand, w_gor, w_gnot, w_gyes, w_and, w_or, w_not, w_if, w_nil, w_cons, w_tup, w_lst, w_folst, w_folist, w_cb, w_fd, w_call, w_ocall, ovO_own, w_get, w_args, w_items, w_part, intO_int, w_nopart, w_cut, w_folc, q_seq, q_nx, q_bk, q_ct, q_set, q_setO, q_tg, q_ret, q_retO, q_retN, q_drop, q_if, q_par, q_par3, q_put, q_app, q_for, twoO_two, triO_tri, w_rD, w_rO, lvR_d, lvR_o, q_parR, q_setAt, w_lenv, lenO_o, lenO_l, lenO_t, w_gown, ownL_at, lstO_l, m_oListL, m_oListT, q_appPop, w_intbl, w_attbl, w_callv, fnD_fn, w_tuprg, q_star, q_aug, strD_str, starO_c, rgO_int, m_mulS, m_int1i, m_int1b, m_gseqT, m_gseqL, seqP_nx, seqP_rt, seqP_bk, seqP_ct, seqP_xc, midP_nx, midP_rt, midP_bk, midP_ct, midP_xc, fnP_nx, fnP_rt, fnP_xc, rdP_nx, rdP_ct, rdP_bk, rdP_rt, rdP_xc, op_some, op_none, op_ite, op_map, op_bind, ok_ret, ok_some, m_lt, m_le, m_gt, m_ge, m_add, m_addT, m_addL, m_sub, m_mulI, m_mod, m_fdivS, m_powS, m_neg, m_bool, m_abs, m_min2, m_max2, m_lenL, m_lenT, m_lenI, m_tupL, m_tupT, m_lstL, m_lstT, m_rv1, m_rv2, m_ov, m_key, m_kds, m_so, m_rng1, m_gset, m_gtup, m_gsc, m_gsn, m_zipL, m_zipT, m_itL, m_itT, m_cutT, m_cutL, eq_I, ne_I, no_nil, no_cons, no_un, no_dat, wi_nil, wi_cons, Bool.and_true, Bool.true_and, Bool.and_self, and_self, List.set_cons_zero, List.set_cons_succ, List.length_cons, List.length_nil, m_line, Nat.reduceAdd, Nat.reduceLeDiff, Nat.reduceLT, Int.reduceLE, Int.reduceLT, Int.reduceToNat, Int.reducePow, Nat.reducePow, Int.reduceNeg, Int.reduceMul, Int.reduceAdd, Int.reduceSub, Nat.reduceMul, Nat.reduceSub, Int.reduceMod, Int.reduceDiv, Nat.zero_add, true_and, and_true, if_true, if_false, reduceCtorEq, false_implies, forall_const, true_implies, implies_true, decide_eq_true_eq, decide_eq_false_iff_not, beq_iff_eq, beq_eq_false_iff_ne, ne_eq, Bool.not_eq_true, List.append_eq, List.cons_append, List.nil_append, w_chn, w_ixv, lsO_o, lsO_d, w_focat, m_ocat, m_eqnL, m_eqnT, w_disp0, m_ovd, q_frz, frzO_o, frzO_d, m_revL, m_revT, m_addXi, m_addXb, m_subXi, m_subXb, m_mulXi, m_mulXb, m_negXi, m_negXb, m_strXb, m_addS, m_cutS, List.map_nil, List.isEmpty_nil, List.isEmpty_cons, hI, kStr]; exact nxt _ (hp.less (by omega))
  | tup _ _ => simp only [w_var, lvD_dat, List.getElem?_cons_zero, List.getElem?_cons_succ, w_c, w_op, w_un, w_test, w_gand, w_gor, w_gnot, w_gyes, w_and, w_or, w_not, w_if, w_nil, w_cons, w_tup, w_lst, w_folst, w_folist, w_cb, w_fd, w_call, w_ocall, ovO_own, w_get, w_args, w_items, w_part, intO_int, w_nopart, w_cut, w_folc, q_seq, q_nx, q_bk, q_ct, q_set, q_setO, q_tg, q_ret, q_retO, q_retN, q_drop, q_if, q_par, q_par3, q_put, q_app, q_for, twoO_two, triO_tri, w_rD, w_rO, lvR_d, lvR_o, q_parR, q_setAt, w_lenv, lenO_o, lenO_l, lenO_t, w_gown, ownL_at, lstO_l, m_oListL, m_oListT, q_appPop, w_intbl, w_attbl, w_callv, fnD_fn, w_tuprg, q_star, q_aug, strD_str, starO_c, rgO_int, m_mulS, m_int1i, m_int1b, m_gseqT, m_gseqL, seqP_nx, seqP_rt, seqP_bk, seqP_ct, seqP_xc, midP_nx, midP_rt, midP_bk, midP_ct, midP_xc, fnP_nx, fnP_rt, fnP_xc, rdP_nx, rdP_ct, rdP_bk, rdP_rt, rdP_xc, op_some, op_none, op_ite, op_map, op_bind, ok_ret, ok_some, m_lt, m_le, m_gt, m_ge, m_add, m_addT, m_addL, m_sub, m_mulI, m_mod, m_fdivS, m_powS, m_neg, m_bool, m_abs, m_min2, m_max2, m_lenL, m_lenT, m_lenI, m_tupL, m_tupT, m_lstL, m_lstT, m_rv1, m_rv2, m_ov, m_key, m_kds, m_so, m_rng1, m_gset, m_gtup, m_gsc, m_gsn, m_zipL, m_zipT, m_itL, m_itT, m_cutT, m_cutL, eq_I, ne_I, no_nil, no_cons, no_un, no_dat, wi_nil, wi_cons, Bool.and_true, Bool.true_and, Bool.and_self, and_self, List.set_cons_zero, List.set_cons_succ, List.length_cons, List.length_nil, m_line, Nat.reduceAdd, Nat.reduceLeDiff, Nat.reduceLT, Int.reduceLE, Int.reduceLT, Int.reduceToNat, Int.reducePow, Nat.reducePow, Int.reduceNeg, Int.reduceMul, Int.reduceAdd, Int.reduceSub, Nat.reduceMul, Nat.reduceSub, Int.reduceMod, Int.reduceDiv, Nat.zero_add, true_and, and_true, if_true, if_false, reduceCtorEq, false_implies, forall_const, true_implies, implies_true, decide_eq_true_eq, decide_eq_false_iff_not, beq_iff_eq, beq_eq_false_iff_ne, ne_eq, Bool.not_eq_true, List.append_eq, List.cons_append, List.nil_append, w_chn, w_ixv, lsO_o, lsO_d, w_focat, m_ocat, m_eqnL, m_eqnT, w_disp0, m_ovd, q_frz, frzO_o, frzO_d, m_revL, m_revT, m_addXi, m_addXb, m_subXi, m_subXb, m_mulXi, m_mulXb, m_negXi, m_negXb, m_strXb, m_addS, m_cutS, List.map_nil, List.isEmpty_nil, List.isEmpty_cons, hI, kStr]; exact nxt _ (hp.less (by omega))
/-! tuples, lists -/
theorem bent_tup {ff : Fn} {C m : Nat} {ds : List D} (hn : ds.length ≤ 1000 + kk) (hb : ∀ d ∈ ds, Bk kk m d) (hk : kk ≤ 80) (hz : wts ds ≤ 4000000) (hp : Pen (K + C + 5) g)
    (ih : ∀ d ∈ ds, ∀ (g : Gs) (P' : RV → Gs → Prop) (E' : Exn → Gs → Prop), Pen (K + C) g → (∀ d' g', Bk (kk + 1) (m + 2) d' → wt d' ≤ 2 * wt d + 2000 → Pen K g' → P' (.dat d') g') → Ok (ff [.obj 0, d] g) P' E')
    (fin : ∀ d' g', Bk (kk + 1) (m + 3) d' → wt d' ≤ 2 * wt (.tup ds) + 2000 → Pen K g' → P (.dat d') g') : SOk (b_bent ff [.dat (.obj 0), .dat (.tup ds), .un, .un, .un, .un, .un] g) (fnP P E) := by
  have hl := wts_len ds
  have hB : Bk kk (m + 1) (.tup ds) := .tup hn hb
  have nxt : ∀ g, Pen (K + 4) g → SOk (b_strs [.dat (.obj 0), .dat (.tup ds), .un, .un, .un, .un, .un] g) (fnP P E) := fun g hp => strs_ok hB hk hp fin
  have hI := hB.isSeq
  have hT := hB.isTup
  have hL := hB.isLst
  unfold b_bent
  rw [q_seq]
  simp only [w_var, lvD_dat, List.getElem?_cons_zero, List.getElem?_cons_succ, w_c, w_op, w_un, w_test, w_gand, w_gor, w_gnot, w_gyes, w_and, w_or, w_not, w_if, w_nil, w_cons, w_tup, w_lst, w_folst, w_folist, w_cb, w_fd, w_call, w_ocall, ovO_own, w_get, w_args, w_items, w_part, intO_int, w_nopart, w_cut, w_folc, q_seq, q_nx, q_bk, q_ct, q_set, q_setO, q_tg, q_ret, q_retO, q_retN, q_drop, q_if, q_par, q_par3, q_put, q_app, q_for, twoO_two, triO_tri, w_rD, w_rO, lvR_d, lvR_o, q_parR, q_setAt, w_lenv, lenO_o, lenO_l, lenO_t, w_gown, ownL_at, lstO_l, m_oListL, m_oListT, q_appPop, w_intbl, w_attbl, w_callv, fnD_fn, w_tuprg, q_star, q_aug, strD_str, starO_c, rgO_int, m_mulS, m_int1i, m_int1b, m_gseqT, m_gseqL, seqP_nx, seqP_rt, seqP_bk, seqP_ct, seqP_xc, midP_nx, midP_rt, midP_bk, midP_ct, midP_xc, fnP_nx, fnP_rt, fnP_xc, rdP_nx, rdP_ct, rdP_bk, rdP_rt, rdP_xc, op_some, op_none, op_ite, op_map, op_bind, ok_ret, ok_some, m_lt, m_le, m_gt, m_ge, m_add, m_addT, m_addL, m_sub, m_mulI, m_mod, m_fdivS, m_powS, m_neg, m_bool, m_abs, m_min2, m_max2, m_lenL, m_lenT, m_lenI, m_tupL, m_tupT, m_lstL, m_lstT, m_rv1, m_rv2, m_ov, m_key, m_kds, m_so, m_rng1, m_gset, m_gtup, m_gsc, m_gsn, m_zipL, m_zipT, m_itL, m_itT, m_cutT, m_cutL, eq_I, ne_I, no_nil, no_cons, no_un, no_dat, wi_nil, wi_cons, Bool.and_true, Bool.true_and, Bool.and_self, and_self, List.set_cons_zero, List.set_cons_succ, List.length_cons, List.length_nil, m_line, Nat.reduceAdd, Nat.reduceLeDiff, Nat.reduceLT, Int.reduceLE, Int.reduceLT, Int.reduceToNat, Int.reducePow, Nat.reducePow, Int.reduceNeg, Int.reduceMul, Int.reduceAdd, Int.reduceSub, Nat.reduceMul, Nat.reduceSub, Int.reduceMod, Int.reduceDiv, Nat.zero_add, true_and, and_true, if_true, if_false, reduceCtorEq, false_implies, forall_const, true_implies, implies_true, decide_eq_true_eq, decide_eq_false_iff_not, beq_iff_eq, beq_eq_false_iff_ne, ne_eq, Bool.not_eq_true, List.append_eq, List.cons_append, List.nil_append, w_chn, w_ixv, lsO_o, lsO_d, w_focat, m_ocat, m_eqnL, m_eqnT, w_disp0, m_ovd, q_frz, frzO_o, frzO_d, m_revL, m_revT, m_addXi, m_addXb, m_subXi, m_subXb, m_mulXi, m_mulXb, m_negXi, m_negXb, m_strXb, m_addS, m_cutS, List.map_nil, List.isEmpty_nil, List.isEmpty_cons, hI, hT, hL, kTup, kLst, Bool.true_or, Bool.or_true, Bool.or_false]
  refine ⟨fun hpos => ?_, fun _ => nxt _ (hp.less (by omega))⟩
  refine draw_ok (k := K + C + 4) hp (by decide) (by decide) fun j g1 j0 j1 p1 => ?_
  rw [m_rv1]
  simp only [w_var, lvD_dat, List.getElem?_cons_zero, List.getElem?_cons_succ, w_c, w_op, w_un, w_test, w_gand, w_gor, w_gnot, w_gyes, w_and, w_or, w_not, w_if, w_nil, w_cons, w_tup, w_lst, w_folst, w_folist, w_cb, w_fd, w_call, w_ocall, ovO_own, w_get, w_args, w_items, w_part, intO_int, w_nopart, w_cut, w_folc, q_seq, q_nx, q_bk, q_ct, q_set, q_setO, q_tg, q_ret, q_retO, q_retN, q_drop, q_if, q_par, q_par3, q_put, q_app, q_for, twoO_two, triO_tri, w_rD, w_rO, lvR_d, lvR_o, q_parR, q_setAt, w_lenv, lenO_o, lenO_l, lenO_t, w_gown, ownL_at, lstO_l, m_oListL, m_oListT, q_appPop, w_intbl, w_attbl, w_callv, fnD_fn, w_tuprg, q_star, q_aug, strD_str, starO_c, rgO_int, m_mulS, m_int1i, m_int1b, m_gseqT, m_gseqL, seqP_nx, seqP_rt, seqP_bk, seqP_ct, seqP_xc, midP_nx, midP_rt, midP_bk, midP_ct, midP_xc, fnP_nx, fnP_rt, fnP_xc, rdP_nx, rdP_ct, rdP_bk, rdP_rt, rdP_xc, op_some, op_none, op_ite, op_map, op_bind, ok_ret, ok_some, m_lt, m_le, m_gt, m_ge, m_add, m_addT, m_addL, m_sub, m_mulI, m_mod, m_fdivS, m_powS, m_neg, m_bool, m_abs, m_min2, m_max2, m_lenL, m_lenT, m_lenI, m_tupL, m_tupT, m_lstL, m_lstT, m_rv1, m_rv2, m_ov, m_key, m_kds, m_so, m_rng1, m_gset, m_gtup, m_gsc, m_gsn, m_zipL, m_zipT, m_itL, m_itT, m_cutT, m_cutL, eq_I, ne_I, no_nil, no_cons, no_un, no_dat, wi_nil, wi_cons, Bool.and_true, Bool.true_and, Bool.and_self, and_self, List.set_cons_zero, List.set_cons_succ, List.length_cons, List.length_nil, m_line, Nat.reduceAdd, Nat.reduceLeDiff, Nat.reduceLT, Int.reduceLE, Int.reduceLT, Int.reduceToNat, Int.reducePow, Nat.reducePow, Int.reduceNeg, Int.reduceMul, Int.reduceAdd, Int.reduceSub, Nat.reduceMul, Nat.reduceSub, Int.reduceMod, Int.reduceDiv, Nat.zero_add, true_and, and_true, if_true, if_false, reduceCtorEq, false_implies, forall_const, true_implies, implies_true, decide_eq_true_eq, decide_eq_false_iff_not, beq_iff_eq, beq_eq_false_iff_ne, ne_eq, Bool.not_eq_true, List.append_eq, List.cons_append, List.nil_append, w_chn, w_ixv, lsO_o, lsO_d, w_focat, m_ocat, m_eqnL, m_eqnT, w_disp0, m_ovd, q_frz, frzO_o, frzO_d, m_revL, m_revT, m_addXi, m_addXb, m_subXi, m_subXb, m_mulXi, m_mulXb, m_negXi, m_negXb, m_strXb, m_addS, m_cutS, List.map_nil, List.isEmpty_nil, List.isEmpty_cons]
  refine ⟨fun _ => ?_, fun _ => nxt _ (p1.less (by omega))⟩
  refine draw_ok (k := K + C + 3) p1 (by omega) (by omega) fun at_ g2 a0 a1 p2 => ?_
  rw [m_rv1]
  refine draw_ok (k := K + C + 2) p2 (by decide) (by decide) fun way g3 w0 w1 p3 => ?_
  rw [m_rv1]
  have hat : at_.toNat < ds.length := by omega
  have ec1 : cutD ds none (some at_) = ds.take at_.toNat := cut_to a0 (by omega)
  have ec2 : cutD ds (some (at_ + 1)) none = ds.drop (at_.toNat + 1) := by rw [cut_from (by omega) (by omega)]; congr 1; omega
  have ec3 : cutD ds none (some (at_ + 1)) = ds.take (at_.toNat + 1) := by rw [cut_to (by omega) (by omega)]; congr 1; omega
  have ec4 : cutD ds (some at_) none = ds.drop at_.toNat := cut_from a0 (by omega)
  have eix : dIx (.tup ds) (.int at_) = some (ds.getD at_.toNat .non) := ix_anyT a0 (by omega)
  have hmem : ds.getD at_.toNat .non ∈ ds := by
    rw [List.getD_eq_getElem?_getD, List.getElem?_eq_getElem hat]
    exact List.getElem_mem _
  have sp := wts_split hat
  have up : ∀ d ∈ ds, Bk (kk + 1) (m + 2) d := fun d hd => (hb d hd).mono (by omega) (by omega)
  have upT : ∀ i, ∀ d ∈ ds.take i, Bk (kk + 1) (m + 2) d := fun i d hd => up d (List.mem_of_mem_take hd)
  have upD : ∀ i, ∀ d ∈ ds.drop i, Bk (kk + 1) (m + 2) d := fun i d hd => up d (List.mem_of_mem_drop hd)
  have app : ∀ {a b : List D}, (∀ d ∈ a, Bk (kk + 1) (m + 2) d) → (∀ d ∈ b, Bk (kk + 1) (m + 2) d) → ∀ d ∈ a ++ b, Bk (kk + 1) (m + 2) d := fun ha hb d hd => (List.mem_append.mp hd).elim (ha d) (hb d)
  have lt : ∀ i, (ds.take i).length ≤ ds.length := fun i => by rw [List.length_take]; omega
  have ld : ∀ i, (ds.drop i).length ≤ ds.length := fun i => by rw [List.length_drop]; omega
  have wa : ∀ i, wts (ds.take i) + wts (ds.drop i) = wts ds := fun i => by rw [← wts_app, List.take_append_drop]
  have wa1 := wa at_.toNat
  have wa2 := wa (at_.toNat + 1)
  have l1 := lt at_.toNat
  have l2 := lt (at_.toNat + 1)
  have l3 := ld at_.toNat
  have l4 := ld (at_.toNat + 1)
  by_cases hw : way < 4
  · simp only [w_var, lvD_dat, List.getElem?_cons_zero, List.getElem?_cons_succ, w_c, w_op, w_un, w_test, w_gand, w_gor, w_gnot, w_gyes, w_and, w_or, w_not, w_if, w_nil, w_cons, w_tup, w_lst, w_folst, w_folist, w_cb, w_fd, w_call, w_ocall, ovO_own, w_get, w_args, w_items, w_part, intO_int, w_nopart, w_cut, w_folc, q_seq, q_nx, q_bk, q_ct, q_set, q_setO, q_tg, q_ret, q_retO, q_retN, q_drop, q_if, q_par, q_par3, q_put, q_app, q_for, twoO_two, triO_tri, w_rD, w_rO, lvR_d, lvR_o, q_parR, q_setAt, w_lenv, lenO_o, lenO_l, lenO_t, w_gown, ownL_at, lstO_l, m_oListL, m_oListT, q_appPop, w_intbl, w_attbl, w_callv, fnD_fn, w_tuprg, q_star, q_aug, strD_str, starO_c, rgO_int, m_mulS, m_int1i, m_int1b, m_gseqT, m_gseqL, seqP_nx, seqP_rt, seqP_bk, seqP_ct, seqP_xc, midP_nx, midP_rt, midP_bk, midP_ct, midP_xc, fnP_nx, fnP_rt, fnP_xc, rdP_nx, rdP_ct, rdP_bk, rdP_rt, rdP_xc, op_some, op_none, op_ite, op_map, op_bind, ok_ret, ok_some, m_lt, m_le, m_gt, m_ge, m_add, m_addT, m_addL, m_sub, m_mulI, m_mod, m_fdivS, m_powS, m_neg, m_bool, m_abs, m_min2, m_max2, m_lenL, m_lenT, m_lenI, m_tupL, m_tupT, m_lstL, m_lstT, m_rv1, m_rv2, m_ov, m_key, m_kds, m_so, m_rng1, m_gset, m_gtup, m_gsc, m_gsn, m_zipL, m_zipT, m_itL, m_itT, m_cutT, m_cutL, eq_I, ne_I, no_nil, no_cons, no_un, no_dat, wi_nil, wi_cons, Bool.and_true, Bool.true_and, Bool.and_self, and_self, List.set_cons_zero, List.set_cons_succ, List.length_cons, List.length_nil, m_line, Nat.reduceAdd, Nat.reduceLeDiff, Nat.reduceLT, Int.reduceLE, Int.reduceLT, Int.reduceToNat, Int.reducePow, Nat.reducePow, Int.reduceNeg, Int.reduceMul, Int.reduceAdd, Int.reduceSub, Nat.reduceMul, Nat.reduceSub, Int.reduceMod, Int.reduceDiv, Nat.zero_add, true_and, and_true, if_true, if_false, reduceCtorEq, false_implies, forall_const, true_implies, implies_true, decide_eq_true_eq, decide_eq_false_iff_not, beq_iff_eq, beq_eq_false_iff_ne, ne_eq, Bool.not_eq_true, List.append_eq, List.cons_append, List.nil_append, w_chn, w_ixv, lsO_o, lsO_d, w_focat, m_ocat, m_eqnL, m_eqnT, w_disp0, m_ovd, q_frz, frzO_o, frzO_d, m_revL, m_revT, m_addXi, m_addXb, m_subXi, m_subXb, m_mulXi, m_mulXb, m_negXi, m_negXb, m_strXb, m_addS, m_cutS, List.map_nil, List.isEmpty_nil, List.isEmpty_cons, hw, eix, not_true_eq_false, false_implies, and_true]
    refine ih _ hmem _ _ _ (p3.less (by omega)) fun d' g4 q1 q2 p4 => ?_
    rw [m_rv1]
    simp only [w_var, lvD_dat, List.getElem?_cons_zero, List.getElem?_cons_succ, w_c, w_op, w_un, w_test, w_gand, w_gor, w_gnot, w_gyes, w_and, w_or, w_not, w_if, w_nil, w_cons, w_tup, w_lst, w_folst, w_folist, w_cb, w_fd, w_call, w_ocall, ovO_own, w_get, w_args, w_items, w_part, intO_int, w_nopart, w_cut, w_folc, q_seq, q_nx, q_bk, q_ct, q_set, q_setO, q_tg, q_ret, q_retO, q_retN, q_drop, q_if, q_par, q_par3, q_put, q_app, q_for, twoO_two, triO_tri, w_rD, w_rO, lvR_d, lvR_o, q_parR, q_setAt, w_lenv, lenO_o, lenO_l, lenO_t, w_gown, ownL_at, lstO_l, m_oListL, m_oListT, q_appPop, w_intbl, w_attbl, w_callv, fnD_fn, w_tuprg, q_star, q_aug, strD_str, starO_c, rgO_int, m_mulS, m_int1i, m_int1b, m_gseqT, m_gseqL, seqP_nx, seqP_rt, seqP_bk, seqP_ct, seqP_xc, midP_nx, midP_rt, midP_bk, midP_ct, midP_xc, fnP_nx, fnP_rt, fnP_xc, rdP_nx, rdP_ct, rdP_bk, rdP_rt, rdP_xc, op_some, op_none, op_ite, op_map, op_bind, ok_ret, ok_some, m_lt, m_le, m_gt, m_ge, m_add, m_addT, m_addL, m_sub, m_mulI, m_mod, m_fdivS, m_powS, m_neg, m_bool, m_abs, m_min2, m_max2, m_lenL, m_lenT, m_lenI, m_tupL, m_tupT, m_lstL, m_lstT, m_rv1, m_rv2, m_ov, m_key, m_kds, m_so, m_rng1, m_gset, m_gtup, m_gsc, m_gsn, m_zipL, m_zipT, m_itL, m_itT, m_cutT, m_cutL, eq_I, ne_I, no_nil, no_cons, no_un, no_dat, wi_nil, wi_cons, Bool.and_true, Bool.true_and, Bool.and_self, and_self, List.set_cons_zero, List.set_cons_succ, List.length_cons, List.length_nil, m_line, Nat.reduceAdd, Nat.reduceLeDiff, Nat.reduceLT, Int.reduceLE, Int.reduceLT, Int.reduceToNat, Int.reducePow, Nat.reducePow, Int.reduceNeg, Int.reduceMul, Int.reduceAdd, Int.reduceSub, Nat.reduceMul, Nat.reduceSub, Int.reduceMod, Int.reduceDiv, Nat.zero_add, true_and, and_true, if_true, if_false, reduceCtorEq, false_implies, forall_const, true_implies, implies_true, decide_eq_true_eq, decide_eq_false_iff_not, beq_iff_eq, beq_eq_false_iff_ne, ne_eq, Bool.not_eq_true, List.append_eq, List.cons_append, List.nil_append, w_chn, w_ixv, lsO_o, lsO_d, w_focat, m_ocat, m_eqnL, m_eqnT, w_disp0, m_ovd, q_frz, frzO_o, frzO_d, m_revL, m_revT, m_addXi, m_addXb, m_subXi, m_subXb, m_mulXi, m_mulXb, m_negXi, m_negXb, m_strXb, m_addS, m_cutS, List.map_nil, List.isEmpty_nil, List.isEmpty_cons, hw, ec1, ec2, List.length_append]
    refine ⟨by omega, by omega, fin _ _ (.tup (by simp only [List.length_append, List.length_cons, List.length_nil, List.length_take, List.length_drop]; omega) (app (app (upT _) (fun d hd => ?_)) (upD _))) ?_ p4⟩
    · rw [List.mem_singleton.mp hd]; exact q1
    · rw [wt_tup, wt_tup, wts_app, wts_app, wts, wts]; omega
  · simp only [w_var, lvD_dat, List.getElem?_cons_zero, List.getElem?_cons_succ, w_c, w_op, w_un, w_test, w_gand, w_gor, w_gnot, w_gyes, w_and, w_or, w_not, w_if, w_nil, w_cons, w_tup, w_lst, w_folst, w_folist, w_cb, w_fd, w_call, w_ocall, ovO_own, w_get, w_args, w_items, w_part, intO_int, w_nopart, w_cut, w_folc, q_seq, q_nx, q_bk, q_ct, q_set, q_setO, q_tg, q_ret, q_retO, q_retN, q_drop, q_if, q_par, q_par3, q_put, q_app, q_for, twoO_two, triO_tri, w_rD, w_rO, lvR_d, lvR_o, q_parR, q_setAt, w_lenv, lenO_o, lenO_l, lenO_t, w_gown, ownL_at, lstO_l, m_oListL, m_oListT, q_appPop, w_intbl, w_attbl, w_callv, fnD_fn, w_tuprg, q_star, q_aug, strD_str, starO_c, rgO_int, m_mulS, m_int1i, m_int1b, m_gseqT, m_gseqL, seqP_nx, seqP_rt, seqP_bk, seqP_ct, seqP_xc, midP_nx, midP_rt, midP_bk, midP_ct, midP_xc, fnP_nx, fnP_rt, fnP_xc, rdP_nx, rdP_ct, rdP_bk, rdP_rt, rdP_xc, op_some, op_none, op_ite, op_map, op_bind, ok_ret, ok_some, m_lt, m_le, m_gt, m_ge, m_add, m_addT, m_addL, m_sub, m_mulI, m_mod, m_fdivS, m_powS, m_neg, m_bool, m_abs, m_min2, m_max2, m_lenL, m_lenT, m_lenI, m_tupL, m_tupT, m_lstL, m_lstT, m_rv1, m_rv2, m_ov, m_key, m_kds, m_so, m_rng1, m_gset, m_gtup, m_gsc, m_gsn, m_zipL, m_zipT, m_itL, m_itT, m_cutT, m_cutL, eq_I, ne_I, no_nil, no_cons, no_un, no_dat, wi_nil, wi_cons, Bool.and_true, Bool.true_and, Bool.and_self, and_self, List.set_cons_zero, List.set_cons_succ, List.length_cons, List.length_nil, m_line, Nat.reduceAdd, Nat.reduceLeDiff, Nat.reduceLT, Int.reduceLE, Int.reduceLT, Int.reduceToNat, Int.reducePow, Nat.reducePow, Int.reduceNeg, Int.reduceMul, Int.reduceAdd, Int.reduceSub, Nat.reduceMul, Nat.reduceSub, Int.reduceMod, Int.reduceDiv, Nat.zero_add, true_and, and_true, if_true, if_false, reduceCtorEq, false_implies, forall_const, true_implies, implies_true, decide_eq_true_eq, decide_eq_false_iff_not, beq_iff_eq, beq_eq_false_iff_ne, ne_eq, Bool.not_eq_true, List.append_eq, List.cons_append, List.nil_append, w_chn, w_ixv, lsO_o, lsO_d, w_focat, m_ocat, m_eqnL, m_eqnT, w_disp0, m_ovd, q_frz, frzO_o, frzO_d, m_revL, m_revT, m_addXi, m_addXb, m_subXi, m_subXb, m_mulXi, m_mulXb, m_negXi, m_negXb, m_strXb, m_addS, m_cutS, List.map_nil, List.isEmpty_nil, List.isEmpty_cons, hw, ec1, ec2, ec3, ec4, List.length_append, not_false_eq_true, true_implies]
    refine ⟨by omega, by omega, ?_⟩
    have e := ix_any (ds := [D.tup (ds.take at_.toNat ++ ds.drop (at_.toNat + 1)), D.tup (ds.take (at_.toNat + 1) ++ ds.drop at_.toNat), D.tup ds.reverse, D.lst ds]) (i := way - 4) (by omega) (by simp only [List.length_cons, List.length_nil]; omega)
    rw [e, op_some]
    have key : ∀ x ∈ [D.tup (ds.take at_.toNat ++ ds.drop (at_.toNat + 1)), D.tup (ds.take (at_.toNat + 1) ++ ds.drop at_.toNat), D.tup ds.reverse, D.lst ds], Bk (kk + 1) (m + 3) x ∧ wt x ≤ 2 * wt (.tup ds) + 2000 := by
      refine List.forall_mem_cons.mpr ⟨⟨.tup (by simp only [List.length_append, List.length_take, List.length_drop]; omega) (app (upT _) (upD _)), ?_⟩, List.forall_mem_cons.mpr ⟨⟨.tup (by simp only [List.length_append, List.length_take, List.length_drop]; omega) (app (upT _) (upD _)), ?_⟩, List.forall_mem_cons.mpr ⟨⟨.tup (by rw [List.length_reverse]; omega) fun d hd => up d (List.mem_reverse.mp hd), ?_⟩, List.forall_mem_cons.mpr ⟨⟨.lst (by omega) up, ?_⟩, List.forall_mem_nil _⟩⟩⟩⟩
      · rw [wt_tup, wt_tup, wts_app]; omega
      · rw [wt_tup, wt_tup, wts_app]; omega
      · rw [wt_tup, wt_tup, wts_rev]; omega
      · rw [wt_tup, wt_lst]; omega
    have hm : ∀ (L : List D), (way - 4).toNat < L.length → L.getD (way - 4).toNat .non ∈ L := fun L h => by
      rw [List.getD_eq_getElem?_getD, List.getElem?_eq_getElem h]
      exact List.getElem_mem _
    obtain ⟨k1, k2⟩ := key _ (hm _ (by simp only [List.length_cons, List.length_nil]; omega))
    exact fin _ _ k1 k2 (p3.less (by omega))
theorem bent_lst {ff : Fn} {C m : Nat} {ds : List D} (hn : ds.length ≤ 1000 + kk) (hb : ∀ d ∈ ds, Bk kk m d) (hk : kk ≤ 80) (hz : wts ds ≤ 4000000) (hp : Pen (K + C + 5) g)
    (ih : ∀ d ∈ ds, ∀ (g : Gs) (P' : RV → Gs → Prop) (E' : Exn → Gs → Prop), Pen (K + C) g → (∀ d' g', Bk (kk + 1) (m + 2) d' → wt d' ≤ 2 * wt d + 2000 → Pen K g' → P' (.dat d') g') → Ok (ff [.obj 0, d] g) P' E')
    (fin : ∀ d' g', Bk (kk + 1) (m + 3) d' → wt d' ≤ 2 * wt (.lst ds) + 2000 → Pen K g' → P (.dat d') g') : SOk (b_bent ff [.dat (.obj 0), .dat (.lst ds), .un, .un, .un, .un, .un] g) (fnP P E) := by
  have hl := wts_len ds
  have hB : Bk kk (m + 1) (.lst ds) := .lst hn hb
  have nxt : ∀ g, Pen (K + 4) g → SOk (b_strs [.dat (.obj 0), .dat (.lst ds), .un, .un, .un, .un, .un] g) (fnP P E) := fun g hp => strs_ok hB hk hp fin
  have hI := hB.isSeq
  have hT := hB.isTup
  have hL := hB.isLst
  unfold b_bent
  rw [q_seq]
  simp only [w_var, lvD_dat, List.getElem?_cons_zero, List.getElem?_cons_succ, w_c, w_op, w_un, w_test, w_gand, w_gor, w_gnot, w_gyes, w_and, w_or, w_not, w_if, w_nil, w_cons, w_tup, w_lst, w_folst, w_folist, w_cb, w_fd, w_call, w_ocall, ovO_own, w_get, w_args, w_items, w_part, intO_int, w_nopart, w_cut, w_folc, q_seq, q_nx, q_bk, q_ct, q_set, q_setO, q_tg, q_ret, q_retO, q_retN, q_drop, q_if, q_par, q_par3, q_put, q_app, q_for, twoO_two, triO_tri, w_rD, w_rO, lvR_d, lvR_o, q_parR, q_setAt, w_lenv, lenO_o, lenO_l, lenO_t, w_gown, ownL_at, lstO_l, m_oListL, m_oListT, q_appPop, w_intbl, w_attbl, w_callv, fnD_fn, w_tuprg, q_star, q_aug, strD_str, starO_c, rgO_int, m_mulS, m_int1i, m_int1b, m_gseqT, m_gseqL, seqP_nx, seqP_rt, seqP_bk, seqP_ct, seqP_xc, midP_nx, midP_rt, midP_bk, midP_ct, midP_xc, fnP_nx, fnP_rt, fnP_xc, rdP_nx, rdP_ct, rdP_bk, rdP_rt, rdP_xc, op_some, op_none, op_ite, op_map, op_bind, ok_ret, ok_some, m_lt, m_le, m_gt, m_ge, m_add, m_addT, m_addL, m_sub, m_mulI, m_mod, m_fdivS, m_powS, m_neg, m_bool, m_abs, m_min2, m_max2, m_lenL, m_lenT, m_lenI, m_tupL, m_tupT, m_lstL, m_lstT, m_rv1, m_rv2, m_ov, m_key, m_kds, m_so, m_rng1, m_gset, m_gtup, m_gsc, m_gsn, m_zipL, m_zipT, m_itL, m_itT, m_cutT, m_cutL, eq_I, ne_I, no_nil, no_cons, no_un, no_dat, wi_nil, wi_cons, Bool.and_true, Bool.true_and, Bool.and_self, and_self, List.set_cons_zero, List.set_cons_succ, List.length_cons, List.length_nil, m_line, Nat.reduceAdd, Nat.reduceLeDiff, Nat.reduceLT, Int.reduceLE, Int.reduceLT, Int.reduceToNat, Int.reducePow, Nat.reducePow, Int.reduceNeg, Int.reduceMul, Int.reduceAdd, Int.reduceSub, Nat.reduceMul, Nat.reduceSub, Int.reduceMod, Int.reduceDiv, Nat.zero_add, true_and, and_true, if_true, if_false, reduceCtorEq, false_implies, forall_const, true_implies, implies_true, decide_eq_true_eq, decide_eq_false_iff_not, beq_iff_eq, beq_eq_false_iff_ne, ne_eq, Bool.not_eq_true, List.append_eq, List.cons_append, List.nil_append, w_chn, w_ixv, lsO_o, lsO_d, w_focat, m_ocat, m_eqnL, m_eqnT, w_disp0, m_ovd, q_frz, frzO_o, frzO_d, m_revL, m_revT, m_addXi, m_addXb, m_subXi, m_subXb, m_mulXi, m_mulXb, m_negXi, m_negXb, m_strXb, m_addS, m_cutS, List.map_nil, List.isEmpty_nil, List.isEmpty_cons, hI, hT, hL, kTup, kLst, Bool.true_or, Bool.or_true, Bool.or_false]
  refine ⟨fun hpos => ?_, fun _ => nxt _ (hp.less (by omega))⟩
  refine draw_ok (k := K + C + 4) hp (by decide) (by decide) fun j g1 j0 j1 p1 => ?_
  rw [m_rv1]
  simp only [w_var, lvD_dat, List.getElem?_cons_zero, List.getElem?_cons_succ, w_c, w_op, w_un, w_test, w_gand, w_gor, w_gnot, w_gyes, w_and, w_or, w_not, w_if, w_nil, w_cons, w_tup, w_lst, w_folst, w_folist, w_cb, w_fd, w_call, w_ocall, ovO_own, w_get, w_args, w_items, w_part, intO_int, w_nopart, w_cut, w_folc, q_seq, q_nx, q_bk, q_ct, q_set, q_setO, q_tg, q_ret, q_retO, q_retN, q_drop, q_if, q_par, q_par3, q_put, q_app, q_for, twoO_two, triO_tri, w_rD, w_rO, lvR_d, lvR_o, q_parR, q_setAt, w_lenv, lenO_o, lenO_l, lenO_t, w_gown, ownL_at, lstO_l, m_oListL, m_oListT, q_appPop, w_intbl, w_attbl, w_callv, fnD_fn, w_tuprg, q_star, q_aug, strD_str, starO_c, rgO_int, m_mulS, m_int1i, m_int1b, m_gseqT, m_gseqL, seqP_nx, seqP_rt, seqP_bk, seqP_ct, seqP_xc, midP_nx, midP_rt, midP_bk, midP_ct, midP_xc, fnP_nx, fnP_rt, fnP_xc, rdP_nx, rdP_ct, rdP_bk, rdP_rt, rdP_xc, op_some, op_none, op_ite, op_map, op_bind, ok_ret, ok_some, m_lt, m_le, m_gt, m_ge, m_add, m_addT, m_addL, m_sub, m_mulI, m_mod, m_fdivS, m_powS, m_neg, m_bool, m_abs, m_min2, m_max2, m_lenL, m_lenT, m_lenI, m_tupL, m_tupT, m_lstL, m_lstT, m_rv1, m_rv2, m_ov, m_key, m_kds, m_so, m_rng1, m_gset, m_gtup, m_gsc, m_gsn, m_zipL, m_zipT, m_itL, m_itT, m_cutT, m_cutL, eq_I, ne_I, no_nil, no_cons, no_un, no_dat, wi_nil, wi_cons, Bool.and_true, Bool.true_and, Bool.and_self, and_self, List.set_cons_zero, List.set_cons_succ, List.length_cons, List.length_nil, m_line, Nat.reduceAdd, Nat.reduceLeDiff, Nat.reduceLT, Int.reduceLE, Int.reduceLT, Int.reduceToNat, Int.reducePow, Nat.reducePow, Int.reduceNeg, Int.reduceMul, Int.reduceAdd, Int.reduceSub, Nat.reduceMul, Nat.reduceSub, Int.reduceMod, Int.reduceDiv, Nat.zero_add, true_and, and_true, if_true, if_false, reduceCtorEq, false_implies, forall_const, true_implies, implies_true, decide_eq_true_eq, decide_eq_false_iff_not, beq_iff_eq, beq_eq_false_iff_ne, ne_eq, Bool.not_eq_true, List.append_eq, List.cons_append, List.nil_append, w_chn, w_ixv, lsO_o, lsO_d, w_focat, m_ocat, m_eqnL, m_eqnT, w_disp0, m_ovd, q_frz, frzO_o, frzO_d, m_revL, m_revT, m_addXi, m_addXb, m_subXi, m_subXb, m_mulXi, m_mulXb, m_negXi, m_negXb, m_strXb, m_addS, m_cutS, List.map_nil, List.isEmpty_nil, List.isEmpty_cons]
  refine ⟨fun _ => ?_, fun _ => nxt _ (p1.less (by omega))⟩
  refine draw_ok (k := K + C + 3) p1 (by omega) (by omega) fun at_ g2 a0 a1 p2 => ?_
  rw [m_rv1]
  refine draw_ok (k := K + C + 2) p2 (by decide) (by decide) fun way g3 w0 w1 p3 => ?_
  rw [m_rv1]
  have hat : at_.toNat < ds.length := by omega
  have ec1 : cutD ds none (some at_) = ds.take at_.toNat := cut_to a0 (by omega)
  have ec2 : cutD ds (some (at_ + 1)) none = ds.drop (at_.toNat + 1) := by rw [cut_from (by omega) (by omega)]; congr 1; omega
  have ec3 : cutD ds none (some (at_ + 1)) = ds.take (at_.toNat + 1) := by rw [cut_to (by omega) (by omega)]; congr 1; omega
  have ec4 : cutD ds (some at_) none = ds.drop at_.toNat := cut_from a0 (by omega)
  have eix : dIx (.lst ds) (.int at_) = some (ds.getD at_.toNat .non) := ix_any a0 (by omega)
  have hmem : ds.getD at_.toNat .non ∈ ds := by
    rw [List.getD_eq_getElem?_getD, List.getElem?_eq_getElem hat]
    exact List.getElem_mem _
  have sp := wts_split hat
  have up : ∀ d ∈ ds, Bk (kk + 1) (m + 2) d := fun d hd => (hb d hd).mono (by omega) (by omega)
  have upT : ∀ i, ∀ d ∈ ds.take i, Bk (kk + 1) (m + 2) d := fun i d hd => up d (List.mem_of_mem_take hd)
  have upD : ∀ i, ∀ d ∈ ds.drop i, Bk (kk + 1) (m + 2) d := fun i d hd => up d (List.mem_of_mem_drop hd)
  have app : ∀ {a b : List D}, (∀ d ∈ a, Bk (kk + 1) (m + 2) d) → (∀ d ∈ b, Bk (kk + 1) (m + 2) d) → ∀ d ∈ a ++ b, Bk (kk + 1) (m + 2) d := fun ha hb d hd => (List.mem_append.mp hd).elim (ha d) (hb d)
  have lt : ∀ i, (ds.take i).length ≤ ds.length := fun i => by rw [List.length_take]; omega
  have ld : ∀ i, (ds.drop i).length ≤ ds.length := fun i => by rw [List.length_drop]; omega
  have wa : ∀ i, wts (ds.take i) + wts (ds.drop i) = wts ds := fun i => by rw [← wts_app, List.take_append_drop]
  have wa1 := wa at_.toNat
  have wa2 := wa (at_.toNat + 1)
  have l1 := lt at_.toNat
  have l2 := lt (at_.toNat + 1)
  have l3 := ld at_.toNat
  have l4 := ld (at_.toNat + 1)
  by_cases hw : way < 4
  · simp only [w_var, lvD_dat, List.getElem?_cons_zero, List.getElem?_cons_succ, w_c, w_op, w_un, w_test, w_gand, w_gor, w_gnot, w_gyes, w_and, w_or, w_not, w_if, w_nil, w_cons, w_tup, w_lst, w_folst, w_folist, w_cb, w_fd, w_call, w_ocall, ovO_own, w_get, w_args, w_items, w_part, intO_int, w_nopart, w_cut, w_folc, q_seq, q_nx, q_bk, q_ct, q_set, q_setO, q_tg, q_ret, q_retO, q_retN, q_drop, q_if, q_par, q_par3, q_put, q_app, q_for, twoO_two, triO_tri, w_rD, w_rO, lvR_d, lvR_o, q_parR, q_setAt, w_lenv, lenO_o, lenO_l, lenO_t, w_gown, ownL_at, lstO_l, m_oListL, m_oListT, q_appPop, w_intbl, w_attbl, w_callv, fnD_fn, w_tuprg, q_star, q_aug, strD_str, starO_c, rgO_int, m_mulS, m_int1i, m_int1b, m_gseqT, m_gseqL, seqP_nx, seqP_rt, seqP_bk, seqP_ct, seqP_xc, midP_nx, midP_rt, midP_bk, midP_ct, midP_xc, fnP_nx, fnP_rt, fnP_xc, rdP_nx, rdP_ct, rdP_bk, rdP_rt, rdP_xc, op_some, op_none, op_ite, op_map, op_bind, ok_ret, ok_some, m_lt, m_le, m_gt, m_ge, m_add, m_addT, m_addL, m_sub, m_mulI, m_mod, m_fdivS, m_powS, m_neg, m_bool, m_abs, m_min2, m_max2, m_lenL, m_lenT, m_lenI, m_tupL, m_tupT, m_lstL, m_lstT, m_rv1, m_rv2, m_ov, m_key, m_kds, m_so, m_rng1, m_gset, m_gtup, m_gsc, m_gsn, m_zipL, m_zipT, m_itL, m_itT, m_cutT, m_cutL, eq_I, ne_I, no_nil, no_cons, no_un, no_dat, wi_nil, wi_cons, Bool.and_true, Bool.true_and, Bool.and_self, and_self, List.set_cons_zero, List.set_cons_succ, List.length_cons, List.length_nil, m_line, Nat.reduceAdd, Nat.reduceLeDiff, Nat.reduceLT, Int.reduceLE, Int.reduceLT, Int.reduceToNat, Int.reducePow, Nat.reducePow, Int.reduceNeg, Int.reduceMul, Int.reduceAdd, Int.reduceSub, Nat.reduceMul, Nat.reduceSub, Int.reduceMod, Int.reduceDiv, Nat.zero_add, true_and, and_true, if_true, if_false, reduceCtorEq, false_implies, forall_const, true_implies, implies_true, decide_eq_true_eq, decide_eq_false_iff_not, beq_iff_eq, beq_eq_false_iff_ne, ne_eq, Bool.not_eq_true, List.append_eq, List.cons_append, List.nil_append, w_chn, w_ixv, lsO_o, lsO_d, w_focat, m_ocat, m_eqnL, m_eqnT, w_disp0, m_ovd, q_frz, frzO_o, frzO_d, m_revL, m_revT, m_addXi, m_addXb, m_subXi, m_subXb, m_mulXi, m_mulXb, m_negXi, m_negXb, m_strXb, m_addS, m_cutS, List.map_nil, List.isEmpty_nil, List.isEmpty_cons, hw, eix, not_true_eq_false, false_implies, and_true]
    refine ih _ hmem _ _ _ (p3.less (by omega)) fun d' g4 q1 q2 p4 => ?_
    rw [m_rv1]
    simp only [w_var, lvD_dat, List.getElem?_cons_zero, List.getElem?_cons_succ, w_c, w_op, w_un, w_test, w_gand, w_gor, w_gnot, w_gyes, w_and, w_or, w_not, w_if, w_nil, w_cons, w_tup, w_lst, w_folst, w_folist, w_cb, w_fd, w_call, w_ocall, ovO_own, w_get, w_args, w_items, w_part, intO_int, w_nopart, w_cut, w_folc, q_seq, q_nx, q_bk, q_ct, q_set, q_setO, q_tg, q_ret, q_retO, q_retN, q_drop, q_if, q_par, q_par3, q_put, q_app, q_for, twoO_two, triO_tri, w_rD, w_rO, lvR_d, lvR_o, q_parR, q_setAt, w_lenv, lenO_o, lenO_l, lenO_t, w_gown, ownL_at, lstO_l, m_oListL, m_oListT, q_appPop, w_intbl, w_attbl, w_callv, fnD_fn, w_tuprg, q_star, q_aug, strD_str, starO_c, rgO_int, m_mulS, m_int1i, m_int1b, m_gseqT, m_gseqL, seqP_nx, seqP_rt, seqP_bk, seqP_ct, seqP_xc, midP_nx, midP_rt, midP_bk, midP_ct, midP_xc, fnP_nx, fnP_rt, fnP_xc, rdP_nx, rdP_ct, rdP_bk, rdP_rt, rdP_xc, op_some, op_none, op_ite, op_map, op_bind, ok_ret, ok_some, m_lt, m_le, m_gt, m_ge, m_add, m_addT, m_addL, m_sub, m_mulI, m_mod, m_fdivS, m_powS, m_neg, m_bool, m_abs, m_min2, m_max2, m_lenL, m_lenT, m_lenI, m_tupL, m_tupT, m_lstL, m_lstT, m_rv1, m_rv2, m_ov, m_key, m_kds, m_so, m_rng1, m_gset, m_gtup, m_gsc, m_gsn, m_zipL, m_zipT, m_itL, m_itT, m_cutT, m_cutL, eq_I, ne_I, no_nil, no_cons, no_un, no_dat, wi_nil, wi_cons, Bool.and_true, Bool.true_and, Bool.and_self, and_self, List.set_cons_zero, List.set_cons_succ, List.length_cons, List.length_nil, m_line, Nat.reduceAdd, Nat.reduceLeDiff, Nat.reduceLT, Int.reduceLE, Int.reduceLT, Int.reduceToNat, Int.reducePow, Nat.reducePow, Int.reduceNeg, Int.reduceMul, Int.reduceAdd, Int.reduceSub, Nat.reduceMul, Nat.reduceSub, Int.reduceMod, Int.reduceDiv, Nat.zero_add, true_and, and_true, if_true, if_false, reduceCtorEq, false_implies, forall_const, true_implies, implies_true, decide_eq_true_eq, decide_eq_false_iff_not, beq_iff_eq, beq_eq_false_iff_ne, ne_eq, Bool.not_eq_true, List.append_eq, List.cons_append, List.nil_append, w_chn, w_ixv, lsO_o, lsO_d, w_focat, m_ocat, m_eqnL, m_eqnT, w_disp0, m_ovd, q_frz, frzO_o, frzO_d, m_revL, m_revT, m_addXi, m_addXb, m_subXi, m_subXb, m_mulXi, m_mulXb, m_negXi, m_negXb, m_strXb, m_addS, m_cutS, List.map_nil, List.isEmpty_nil, List.isEmpty_cons, hw, ec1, ec2, List.length_append]
    refine ⟨by omega, by omega, fin _ _ (.lst (by simp only [List.length_append, List.length_cons, List.length_nil, List.length_take, List.length_drop]; omega) (app (app (upT _) (fun d hd => ?_)) (upD _))) ?_ p4⟩
    · rw [List.mem_singleton.mp hd]; exact q1
    · rw [wt_lst, wt_lst, wts_app, wts_app, wts, wts]; omega
  · simp only [w_var, lvD_dat, List.getElem?_cons_zero, List.getElem?_cons_succ, w_c, w_op, w_un, w_test, w_gand, w_gor, w_gnot, w_gyes, w_and, w_or, w_not, w_if, w_nil, w_cons, w_tup, w_lst, w_folst, w_folist, w_cb, w_fd, w_call, w_ocall, ovO_own, w_get, w_args, w_items, w_part, intO_int, w_nopart, w_cut, w_folc, q_seq, q_nx, q_bk, q_ct, q_set, q_setO, q_tg, q_ret, q_retO, q_retN, q_drop, q_if, q_par, q_par3, q_put, q_app, q_for, twoO_two, triO_tri, w_rD, w_rO, lvR_d, lvR_o, q_parR, q_setAt, w_lenv, lenO_o, lenO_l, lenO_t, w_gown, ownL_at, lstO_l, m_oListL, m_oListT, q_appPop, w_intbl, w_attbl, w_callv, fnD_fn, w_tuprg, q_star, q_aug, strD_str, starO_c, rgO_int, m_mulS, m_int1i, m_int1b, m_gseqT, m_gseqL, seqP_nx, seqP_rt, seqP_bk, seqP_ct, seqP_xc, midP_nx, midP_rt, midP_bk, midP_ct, midP_xc, fnP_nx, fnP_rt, fnP_xc, rdP_nx, rdP_ct, rdP_bk, rdP_rt, rdP_xc, op_some, op_none, op_ite, op_map, op_bind, ok_ret, ok_some, m_lt, m_le, m_gt, m_ge, m_add, m_addT, m_addL, m_sub, m_mulI, m_mod, m_fdivS, m_powS, m_neg, m_bool, m_abs, m_min2, m_max2, m_lenL, m_lenT, m_lenI, m_tupL, m_tupT, m_lstL, m_lstT, m_rv1, m_rv2, m_ov, m_key, m_kds, m_so, m_rng1, m_gset, m_gtup, m_gsc, m_gsn, m_zipL, m_zipT, m_itL, m_itT, m_cutT, m_cutL, eq_I, ne_I, no_nil, no_cons, no_un, no_dat, wi_nil, wi_cons, Bool.and_true, Bool.true_and, Bool.and_self, and_self, List.set_cons_zero, List.set_cons_succ, List.length_cons, List.length_nil, m_line, Nat.reduceAdd, Nat.reduceLeDiff, Nat.reduceLT, Int.reduceLE, Int.reduceLT, Int.reduceToNat, Int.reducePow, Nat.reducePow, Int.reduceNeg, Int.reduceMul, Int.reduceAdd, Int.reduceSub, Nat.reduceMul, Nat.reduceSub, Int.reduceMod, Int.reduceDiv, Nat.zero_add, true_and, and_true, if_true, if_false, reduceCtorEq, false_implies, forall_const, true_implies, implies_true, decide_eq_true_eq, decide_eq_false_iff_not, beq_iff_eq, beq_eq_false_iff_ne, ne_eq, Bool.not_eq_true, List.append_eq, List.cons_append, List.nil_append, w_chn, w_ixv, lsO_o, lsO_d, w_focat, m_ocat, m_eqnL, m_eqnT, w_disp0, m_ovd, q_frz, frzO_o, frzO_d, m_revL, m_revT, m_addXi, m_addXb, m_subXi, m_subXb, m_mulXi, m_mulXb, m_negXi, m_negXb, m_strXb, m_addS, m_cutS, List.map_nil, List.isEmpty_nil, List.isEmpty_cons, hw, ec1, ec2, ec3, ec4, List.length_append, not_false_eq_true, true_implies]
    refine ⟨by omega, by omega, ?_⟩
    have e := ix_any (ds := [D.lst (ds.take at_.toNat ++ ds.drop (at_.toNat + 1)), D.lst (ds.take (at_.toNat + 1) ++ ds.drop at_.toNat), D.lst ds.reverse, D.tup ds]) (i := way - 4) (by omega) (by simp only [List.length_cons, List.length_nil]; omega)
    rw [e, op_some]
    have key : ∀ x ∈ [D.lst (ds.take at_.toNat ++ ds.drop (at_.toNat + 1)), D.lst (ds.take (at_.toNat + 1) ++ ds.drop at_.toNat), D.lst ds.reverse, D.tup ds], Bk (kk + 1) (m + 3) x ∧ wt x ≤ 2 * wt (.lst ds) + 2000 := by
      refine List.forall_mem_cons.mpr ⟨⟨.lst (by simp only [List.length_append, List.length_take, List.length_drop]; omega) (app (upT _) (upD _)), ?_⟩, List.forall_mem_cons.mpr ⟨⟨.lst (by simp only [List.length_append, List.length_take, List.length_drop]; omega) (app (upT _) (upD _)), ?_⟩, List.forall_mem_cons.mpr ⟨⟨.lst (by rw [List.length_reverse]; omega) fun d hd => up d (List.mem_reverse.mp hd), ?_⟩, List.forall_mem_cons.mpr ⟨⟨.tup (by omega) up, ?_⟩, List.forall_mem_nil _⟩⟩⟩⟩
      · rw [wt_lst, wt_lst, wts_app]; omega
      · rw [wt_lst, wt_lst, wts_app]; omega
      · rw [wt_lst, wt_lst, wts_rev]; omega
      · rw [wt_tup, wt_lst]; omega
    have hm : ∀ (L : List D), (way - 4).toNat < L.length → L.getD (way - 4).toNat .non ∈ L := fun L h => by
      rw [List.getD_eq_getElem?_getD, List.getElem?_eq_getElem h]
      exact List.getElem_mem _
    obtain ⟨k1, k2⟩ := key _ (hm _ (by simp only [List.length_cons, List.length_nil]; omega))
    exact fin _ _ k1 k2 (p3.less (by omega))
end
theorem bent_ok {kk : Nat} (hk : kk ≤ 80) : ∀ (f n : Nat) {d : D} {K : Nat} {g : Gs} {P : RV → Gs → Prop} {E : Exn → Gs → Prop}, Bk kk n d → n < f → wt d ≤ 4000000 → Pen (K + 6 * f) g →
    (∀ d' g', Bk (kk + 1) (n + 2) d' → wt d' ≤ 2 * wt d + 2000 → Pen K g' → P (.dat d') g') → Ok (g_bent f [.obj 0, d] g) P E
  | 0, _, _, _, _, _, _, _, h, _, _, _ => absurd h (by omega)
  | f + 1, n, d, K, g, P, E, hd, hn, hw, hp, fin => by
    rw [show g_bent (f + 1) = fnF 7 (b_bent (g_bent f)) from rfl, w_fn]
    show SOk (b_bent (g_bent f) [.dat (.obj 0), .dat d, .un, .un, .un, .un, .un] g) _
    have hI := hd.isSeq
    have hS := hd
    cases hd with
    | tup hq hb => exact bent_tup (C := 6 * f) hq hb hk (by rw [wt_tup] at hw; omega) (hp.less (by omega)) (fun d hd g P' E' hp fin => bent_ok hk f _ (hb d hd) (by omega) (by have := wts_mem hd; rw [wt_tup] at hw; omega) hp fin) fin
    | lst hq hb => exact bent_lst (C := 6 * f) hq hb hk (by rw [wt_lst] at hw; omega) (hp.less (by omega)) (fun d hd g P' E' hp fin => bent_ok hk f _ (hb d hd) (by omega) (by have := wts_mem hd; rw [wt_lst] at hw; omega) hp fin) fin
    | non => unfold b_bent; rw [q_seq]; simp only [w_var, lvD_dat, List.getElem?_cons_zero, List.getElem?_cons_succ, w_c, w_op, w_un, w_test, w_gand, w_gor, w_gnot, w_gyes, w_and, w_or, w_not, w_if, w_nil, w_cons, w_tup, w_lst, w_folst, w_folist, w_cb, w_fd, w_call, w_ocall, ovO_own, w_get, w_args, w_items, w_part, intO_int, w_nopart, w_cut, w_folc, q_seq, q_nx, q_bk, q_ct, q_set, q_setO, q_tg, q_ret, q_retO, q_retN, q_drop, q_if, q_par, q_par3, q_put, q_app, q_for, twoO_two, triO_tri, w_rD, w_rO, lvR_d, lvR_o, q_parR, q_setAt, w_lenv, lenO_o, lenO_l, lenO_t, w_gown, ownL_at, lstO_l, m_oListL, m_oListT, q_appPop, w_intbl, w_attbl, w_callv, fnD_fn, w_tuprg, q_star, q_aug, strD_str, starO_c, rgO_int, m_mulS, m_int1i, m_int1b, m_gseqT, m_gseqL, seqP_nx, seqP_rt, seqP_bk, seqP_ct, seqP_xc, midP_nx, midP_rt, midP_bk, midP_ct, midP_xc, fnP_nx, fnP_rt, fnP_xc, rdP_nx, rdP_ct, rdP_bk, rdP_rt, rdP_xc, op_some, op_none, op_ite, op_map, op_bind, ok_ret, ok_some, m_lt, m_le, m_gt, m_ge, m_add, m_addT, m_addL, m_sub, m_mulI, m_mod, m_fdivS, m_powS, m_neg, m_bool, m_abs, m_min2, m_max2, m_lenL, m_lenT, m_lenI, m_tupL, m_tupT, m_lstL, m_lstT, m_rv1, m_rv2, m_ov, m_key, m_kds, m_so, m_rng1, m_gset, m_gtup, m_gsc, m_gsn, m_zipL, m_zipT, m_itL, m_itT, m_cutT, m_cutL, eq_I, ne_I, no_nil, no_cons, no_un, no_dat, wi_nil, wi_cons, Bool.and_true, Bool.true_and, Bool.and_self, and_self, List.set_cons_zero, List.set_cons_succ, List.length_cons, List.length_nil, m_line, Nat.reduceAdd, Nat.reduceLeDiff, Nat.reduceLT, Int.reduceLE, Int.reduceLT, Int.reduceToNat, Int.reducePow, Nat.reducePow, Int.reduceNeg, Int.reduceMul, Int.reduceAdd, Int.reduceSub, Nat.reduceMul, Nat.reduceSub, Int.reduceMod, Int.reduceDiv, Nat.zero_add, true_and, and_true, if_true, if_false, reduceCtorEq, false_implies, forall_const, true_implies, implies_true, decide_eq_true_eq, decide_eq_false_iff_not, beq_iff_eq, beq_eq_false_iff_ne, ne_eq, Bool.not_eq_true, List.append_eq, List.cons_append, List.nil_append, w_chn, w_ixv, lsO_o, lsO_d, w_focat, m_ocat, m_eqnL, m_eqnT, w_disp0, m_ovd, q_frz, frzO_o, frzO_d, m_revL, m_revT, m_addXi, m_addXb, m_subXi, m_subXb, m_mulXi, m_mulXb, m_negXi, m_negXb, m_strXb, m_addS, m_cutS, List.map_nil, List.isEmpty_nil, List.isEmpty_cons, hI, kTup, kLst, Bool.or_false]; exact strs_ok hS hk (hp.less (by omega)) fin
    | bl => unfold b_bent; rw [q_seq]; simp only [w_var, lvD_dat, List.getElem?_cons_zero, List.getElem?_cons_succ, w_c, w_op, w_un, w_test, w_gand, w_gor, w_gnot, w_gyes, w_and, w_or, w_not, w_if, w_nil, w_cons, w_tup, w_lst, w_folst, w_folist, w_cb, w_fd, w_call, w_ocall, ovO_own, w_get, w_args, w_items, w_part, intO_int, w_nopart, w_cut, w_folc, q_seq, q_nx, q_bk, q_ct, q_set, q_setO, q_tg, q_ret, q_retO, q_retN, q_drop, q_if, q_par, q_par3, q_put, q_app, q_for, twoO_two, triO_tri, w_rD, w_rO, lvR_d, lvR_o, q_parR, q_setAt, w_lenv, lenO_o, lenO_l, lenO_t, w_gown, ownL_at, lstO_l, m_oListL, m_oListT, q_appPop, w_intbl, w_attbl, w_callv, fnD_fn, w_tuprg, q_star, q_aug, strD_str, starO_c, rgO_int, m_mulS, m_int1i, m_int1b, m_gseqT, m_gseqL, seqP_nx, seqP_rt, seqP_bk, seqP_ct, seqP_xc, midP_nx, midP_rt, midP_bk, midP_ct, midP_xc, fnP_nx, fnP_rt, fnP_xc, rdP_nx, rdP_ct, rdP_bk, rdP_rt, rdP_xc, op_some, op_none, op_ite, op_map, op_bind, ok_ret, ok_some, m_lt, m_le, m_gt, m_ge, m_add, m_addT, m_addL, m_sub, m_mulI, m_mod, m_fdivS, m_powS, m_neg, m_bool, m_abs, m_min2, m_max2, m_lenL, m_lenT, m_lenI, m_tupL, m_tupT, m_lstL, m_lstT, m_rv1, m_rv2, m_ov, m_key, m_kds, m_so, m_rng1, m_gset, m_gtup, m_gsc, m_gsn, m_zipL, m_zipT, m_itL, m_itT, m_cutT, m_cutL, eq_I, ne_I, no_nil, no_cons, no_un, no_dat, wi_nil, wi_cons, Bool.and_true, Bool.true_and, Bool.and_self, and_self, List.set_cons_zero, List.set_cons_succ, List.length_cons, List.length_nil, m_line, Nat.reduceAdd, Nat.reduceLeDiff, Nat.reduceLT, Int.reduceLE, Int.reduceLT, Int.reduceToNat, Int.reducePow, Nat.reducePow, Int.reduceNeg, Int.reduceMul, Int.reduceAdd, Int.reduceSub, Nat.reduceMul, Nat.reduceSub, Int.reduceMod, Int.reduceDiv, Nat.zero_add, true_and, and_true, if_true, if_false, reduceCtorEq, false_implies, forall_const, true_implies, implies_true, decide_eq_true_eq, decide_eq_false_iff_not, beq_iff_eq, beq_eq_false_iff_ne, ne_eq, Bool.not_eq_true, List.append_eq, List.cons_append, List.nil_append, w_chn, w_ixv, lsO_o, lsO_d, w_focat, m_ocat, m_eqnL, m_eqnT, w_disp0, m_ovd, q_frz, frzO_o, frzO_d, m_revL, m_revT, m_addXi, m_addXb, m_subXi, m_subXb, m_mulXi, m_mulXb, m_negXi, m_negXb, m_strXb, m_addS, m_cutS, List.map_nil, List.isEmpty_nil, List.isEmpty_cons, hI, kTup, kLst, Bool.or_false]; exact strs_ok hS hk (hp.less (by omega)) fin
    | int _ => unfold b_bent; rw [q_seq]; simp only [w_var, lvD_dat, List.getElem?_cons_zero, List.getElem?_cons_succ, w_c, w_op, w_un, w_test, w_gand, w_gor, w_gnot, w_gyes, w_and, w_or, w_not, w_if, w_nil, w_cons, w_tup, w_lst, w_folst, w_folist, w_cb, w_fd, w_call, w_ocall, ovO_own, w_get, w_args, w_items, w_part, intO_int, w_nopart, w_cut, w_folc, q_seq, q_nx, q_bk, q_ct, q_set, q_setO, q_tg, q_ret, q_retO, q_retN, q_drop, q_if, q_par, q_par3, q_put, q_app, q_for, twoO_two, triO_tri, w_rD, w_rO, lvR_d, lvR_o, q_parR, q_setAt, w_lenv, lenO_o, lenO_l, lenO_t, w_gown, ownL_at, lstO_l, m_oListL, m_oListT, q_appPop, w_intbl, w_attbl, w_callv, fnD_fn, w_tuprg, q_star, q_aug, strD_str, starO_c, rgO_int, m_mulS, m_int1i, m_int1b, m_gseqT, m_gseqL, seqP_nx, seqP_rt, seqP_bk, seqP_ct, seqP_xc, midP_nx, midP_rt, midP_bk, midP_ct, midP_xc, fnP_nx, fnP_rt, fnP_xc, rdP_nx, rdP_ct, rdP_bk, rdP_rt, rdP_xc, op_some, op_none, op_ite, op_map, op_bind, ok_ret, ok_some, m_lt, m_le, m_gt, m_ge, m_add, m_addT, m_addL, m_sub, m_mulI, m_mod, m_fdivS, m_powS, m_neg, m_bool, m_abs, m_min2, m_max2, m_lenL, m_lenT, m_lenI, m_tupL, m_tupT, m_lstL, m_lstT, m_rv1, m_rv2, m_ov, m_key, m_kds, m_so, m_rng1, m_gset, m_gtup, m_gsc, m_gsn, m_zipL, m_zipT, m_itL, m_itT, m_cutT, m_cutL, eq_I, ne_I, no_nil, no_cons, no_un, no_dat, wi_nil, wi_cons, Bool.and_true, Bool.true_and, Bool.and_self, and_self, List.set_cons_zero, List.set_cons_succ, List.length_cons, List.length_nil, m_line, Nat.reduceAdd, Nat.reduceLeDiff, Nat.reduceLT, Int.reduceLE, Int.reduceLT, Int.reduceToNat, Int.reducePow, Nat.reducePow, Int.reduceNeg, Int.reduceMul, Int.reduceAdd, Int.reduceSub, Nat.reduceMul, Nat.reduceSub, Int.reduceMod, Int.reduceDiv, Nat.zero_add, true_and, and_true, if_true, if_false, reduceCtorEq, false_implies, forall_const, true_implies, implies_true, decide_eq_true_eq, decide_eq_false_iff_not, beq_iff_eq, beq_eq_false_iff_ne, ne_eq, Bool.not_eq_true, List.append_eq, List.cons_append, List.nil_append, w_chn, w_ixv, lsO_o, lsO_d, w_focat, m_ocat, m_eqnL, m_eqnT, w_disp0, m_ovd, q_frz, frzO_o, frzO_d, m_revL, m_revT, m_addXi, m_addXb, m_subXi, m_subXb, m_mulXi, m_mulXb, m_negXi, m_negXb, m_strXb, m_addS, m_cutS, List.map_nil, List.isEmpty_nil, List.isEmpty_cons, hI, kTup, kLst, Bool.or_false]; exact strs_ok hS hk (hp.less (by omega)) fin
    | str _ => unfold b_bent; rw [q_seq]; simp only [w_var, lvD_dat, List.getElem?_cons_zero, List.getElem?_cons_succ, w_c, w_op, w_un, w_test, w_gand, w_gor, w_gnot, w_gyes, w_and, w_or, w_not, w_if, w_nil, w_cons, w_tup, w_lst, w_folst, w_folist, w_cb, w_fd, w_call, w_ocall, ovO_own, w_get, w_args, w_items, w_part, intO_int, w_nopart, w_cut, w_folc, q_seq, q_nx, q_bk, q_ct, q_set, q_setO, q_tg, q_ret, q_retO, q_retN, q_drop, q_if, q_par, q_par3, q_put, q_app, q_for, twoO_two, triO_tri, w_rD, w_rO, lvR_d, lvR_o, q_parR, q_setAt, w_lenv, lenO_o, lenO_l, lenO_t, w_gown, ownL_at, lstO_l, m_oListL, m_oListT, q_appPop, w_intbl, w_attbl, w_callv, fnD_fn, w_tuprg, q_star, q_aug, strD_str, starO_c, rgO_int, m_mulS, m_int1i, m_int1b, m_gseqT, m_gseqL, seqP_nx, seqP_rt, seqP_bk, seqP_ct, seqP_xc, midP_nx, midP_rt, midP_bk, midP_ct, midP_xc, fnP_nx, fnP_rt, fnP_xc, rdP_nx, rdP_ct, rdP_bk, rdP_rt, rdP_xc, op_some, op_none, op_ite, op_map, op_bind, ok_ret, ok_some, m_lt, m_le, m_gt, m_ge, m_add, m_addT, m_addL, m_sub, m_mulI, m_mod, m_fdivS, m_powS, m_neg, m_bool, m_abs, m_min2, m_max2, m_lenL, m_lenT, m_lenI, m_tupL, m_tupT, m_lstL, m_lstT, m_rv1, m_rv2, m_ov, m_key, m_kds, m_so, m_rng1, m_gset, m_gtup, m_gsc, m_gsn, m_zipL, m_zipT, m_itL, m_itT, m_cutT, m_cutL, eq_I, ne_I, no_nil, no_cons, no_un, no_dat, wi_nil, wi_cons, Bool.and_true, Bool.true_and, Bool.and_self, and_self, List.set_cons_zero, List.set_cons_succ, List.length_cons, List.length_nil, m_line, Nat.reduceAdd, Nat.reduceLeDiff, Nat.reduceLT, Int.reduceLE, Int.reduceLT, Int.reduceToNat, Int.reducePow, Nat.reducePow, Int.reduceNeg, Int.reduceMul, Int.reduceAdd, Int.reduceSub, Nat.reduceMul, Nat.reduceSub, Int.reduceMod, Int.reduceDiv, Nat.zero_add, true_and, and_true, if_true, if_false, reduceCtorEq, false_implies, forall_const, true_implies, implies_true, decide_eq_true_eq, decide_eq_false_iff_not, beq_iff_eq, beq_eq_false_iff_ne, ne_eq, Bool.not_eq_true, List.append_eq, List.cons_append, List.nil_append, w_chn, w_ixv, lsO_o, lsO_d, w_focat, m_ocat, m_eqnL, m_eqnT, w_disp0, m_ovd, q_frz, frzO_o, frzO_d, m_revL, m_revT, m_addXi, m_addXb, m_subXi, m_subXb, m_mulXi, m_mulXb, m_negXi, m_negXb, m_strXb, m_addS, m_cutS, List.map_nil, List.isEmpty_nil, List.isEmpty_cons, hI, kTup, kLst, Bool.or_false]; exact strs_ok hS hk (hp.less (by omega)) fin
    | dic => unfold b_bent; rw [q_seq]; simp only [w_var, lvD_dat, List.getElem?_cons_zero, List.getElem?_cons_succ, w_c, w_op, w_un, w_test, w_gand, w_gor, w_gnot, w_gyes, w_and, w_or, w_not, w_if, w_nil, w_cons, w_tup, w_lst, w_folst, w_folist, w_cb, w_fd, w_call, w_ocall, ovO_own, w_get, w_args, w_items, w_part, intO_int, w_nopart, w_cut, w_folc, q_seq, q_nx, q_bk, q_ct, q_set, q_setO, q_tg, q_ret, q_retO, q_retN, q_drop, q_if, q_par, q_par3, q_put, q_app, q_for, twoO_two, triO_tri, w_rD, w_rO, lvR_d, lvR_o, q_parR, q_setAt, w_lenv, lenO_o, lenO_l, lenO_t, w_gown, ownL_at, lstO_l, m_oListL, m_oListT, q_appPop, w_intbl, w_attbl, w_callv, fnD_fn, w_tuprg, q_star, q_aug, strD_str, starO_c, rgO_int, m_mulS, m_int1i, m_int1b, m_gseqT, m_gseqL, seqP_nx, seqP_rt, seqP_bk, seqP_ct, seqP_xc, midP_nx, midP_rt, midP_bk, midP_ct, midP_xc, fnP_nx, fnP_rt, fnP_xc, rdP_nx, rdP_ct, rdP_bk, rdP_rt, rdP_xc, op_some, op_none, op_ite, op_map, op_bind, ok_ret, ok_some, m_lt, m_le, m_gt, m_ge, m_add, m_addT, m_addL, m_sub, m_mulI, m_mod, m_fdivS, m_powS, m_neg, m_bool, m_abs, m_min2, m_max2, m_lenL, m_lenT, m_lenI, m_tupL, m_tupT, m_lstL, m_lstT, m_rv1, m_rv2, m_ov, m_key, m_kds, m_so, m_rng1, m_gset, m_gtup, m_gsc, m_gsn, m_zipL, m_zipT, m_itL, m_itT, m_cutT, m_cutL, eq_I, ne_I, no_nil, no_cons, no_un, no_dat, wi_nil, wi_cons, Bool.and_true, Bool.true_and, Bool.and_self, and_self, List.set_cons_zero, List.set_cons_succ, List.length_cons, List.length_nil, m_line, Nat.reduceAdd, Nat.reduceLeDiff, Nat.reduceLT, Int.reduceLE, Int.reduceLT, Int.reduceToNat, Int.reducePow, Nat.reducePow, Int.reduceNeg, Int.reduceMul, Int.reduceAdd, Int.reduceSub, Nat.reduceMul, Nat.reduceSub, Int.reduceMod, Int.reduceDiv, Nat.zero_add, true_and, and_true, if_true, if_false, reduceCtorEq, false_implies, forall_const, true_implies, implies_true, decide_eq_true_eq, decide_eq_false_iff_not, beq_iff_eq, beq_eq_false_iff_ne, ne_eq, Bool.not_eq_true, List.append_eq, List.cons_append, List.nil_append, w_chn, w_ixv, lsO_o, lsO_d, w_focat, m_ocat, m_eqnL, m_eqnT, w_disp0, m_ovd, q_frz, frzO_o, frzO_d, m_revL, m_revT, m_addXi, m_addXb, m_subXi, m_subXb, m_mulXi, m_mulXb, m_negXi, m_negXb, m_strXb, m_addS, m_cutS, List.map_nil, List.isEmpty_nil, List.isEmpty_cons, hI, kTup, kLst, Bool.or_false]; exact strs_ok hS hk (hp.less (by omega)) fin
end G6

namespace G6
open PySem PySem.Spec L2

/-! ### whole numbers, measures -/
def g_whole : Fn := fnF 1 (
    sRet (fAnd (fCB dIsi (lCons (fVar 0) (lCons (fC (.ty "int")) (lNil)))) (fNot (fCB dIsi (lCons (fVar 0) (lCons (fC (.ty "bool")) (lNil)))))))
def g_isfrom : Fn := fnF 3 (
    sRet (fAnd (fCall g_whole (lCons (fVar 0) (lNil))) (fChain dLe dLe (fVar 1) (fVar 0) (fVar 2))))
def g_lisfrom : Fn := fnF 3 (
    sRet (fAnd (fCB dIsi (lCons (fVar 0) (lCons (fC (.ty "int")) (lNil)))) (fAnd (fNot (fCB dIsi (lCons (fVar 0) (lCons (fC (.ty "bool")) (lNil))))) (fChain dLe dLe (fVar 1) (fVar 0) (fVar 2)))))
def g_meas : Fn := fnF 3 (
    sSeq (sIf (gOr (gNot (fTest (fCB dIsi (lCons (fVar 0) (lCons (fC (.ty "tuple")) (lNil)))))) (gNot (fTest (fChain dLe dLe (fC (.int 1)) (fCB dLen (lCons (fVar 0) (lNil))) (fC (.int 8)))))) (sRet (fC (.bl false))) (sNx))
      (sRet (fCB dAll (lCons (fD (foLc (iItemsA (fVar 0)) [2] (gSet 2) (gYes) (fCall g_isfrom (lCons (fVar 2) (lCons (fC (.int 0)) (lCons (fVar 1) (lNil))))))) (lNil)))))
def g_lmeas : Fn := fnF 3 (
    sSeq (sIf (gOr (gNot (fTest (fCB dIsi (lCons (fVar 0) (lCons (fC (.ty "tuple")) (lNil)))))) (gNot (fTest (fChain dLe dLe (fC (.int 1)) (fCB dLen (lCons (fVar 0) (lNil))) (fC (.int 8)))))) (sRet (fC (.bl false))) (sNx))
      (sRet (fOp dEqN (fD (foLc (iItemsA (fVar 0)) [2] (gSet 2) (gNot (fTest (fCall g_lisfrom (lCons (fVar 2) (lCons (fC (.int 0)) (lCons (fVar 1) (lNil))))))) (fVar 2))) (fLst (lNil)))))
def okF (lo hi : Int) : D → Bool
  | .int i => decide (lo ≤ i) && decide (i ≤ hi)
  | _ => false
section
variable {k n : Nat} {d : D} {lo hi : Int} {g : Gs} {P : RV → Gs → Prop} {E : Exn → Gs → Prop}
theorem whole_ok (h : Bk k n d) (fin : P (.dat (.bl (kInt d))) g) : Ok (g_whole [d] g) P E := by
  unfold g_whole
  rw [w_fn]
  show SOk (sRet _ [.dat d] _) _
  have h1 := h.isInt
  have h2 := h.isBl
  simp only [w_var, lvD_dat, List.getElem?_cons_zero, List.getElem?_cons_succ, w_c, w_op, w_un, w_test, w_gand, w_gor, w_gnot, w_gyes, w_and, w_or, w_not, w_if, w_nil, w_cons, w_tup, w_lst, w_folst, w_folist, w_cb, w_fd, w_call, w_ocall, ovO_own, w_get, w_args, w_items, w_part, intO_int, w_nopart, w_cut, w_folc, q_seq, q_nx, q_bk, q_ct, q_set, q_setO, q_tg, q_ret, q_retO, q_retN, q_drop, q_if, q_par, q_par3, q_put, q_app, q_for, twoO_two, triO_tri, w_rD, w_rO, lvR_d, lvR_o, q_parR, q_setAt, w_lenv, lenO_o, lenO_l, lenO_t, w_gown, ownL_at, lstO_l, m_oListL, m_oListT, q_appPop, w_intbl, w_attbl, w_callv, fnD_fn, w_tuprg, q_star, q_aug, strD_str, starO_c, rgO_int, m_mulS, m_int1i, m_int1b, m_gseqT, m_gseqL, seqP_nx, seqP_rt, seqP_bk, seqP_ct, seqP_xc, midP_nx, midP_rt, midP_bk, midP_ct, midP_xc, fnP_nx, fnP_rt, fnP_xc, rdP_nx, rdP_ct, rdP_bk, rdP_rt, rdP_xc, op_some, op_none, op_ite, op_map, op_bind, ok_ret, ok_some, m_lt, m_le, m_gt, m_ge, m_add, m_addT, m_addL, m_sub, m_mulI, m_mod, m_fdivS, m_powS, m_neg, m_bool, m_abs, m_min2, m_max2, m_lenL, m_lenT, m_lenI, m_tupL, m_tupT, m_lstL, m_lstT, m_rv1, m_rv2, m_ov, m_key, m_kds, m_so, m_rng1, m_gset, m_gtup, m_gsc, m_gsn, m_zipL, m_zipT, m_itL, m_itT, m_cutT, m_cutL, eq_I, ne_I, no_nil, no_cons, no_un, no_dat, wi_nil, wi_cons, Bool.and_true, Bool.true_and, Bool.and_self, and_self, List.set_cons_zero, List.set_cons_succ, List.length_cons, List.length_nil, m_line, Nat.reduceAdd, Nat.reduceLeDiff, Nat.reduceLT, Int.reduceLE, Int.reduceLT, Int.reduceToNat, Int.reducePow, Nat.reducePow, Int.reduceNeg, Int.reduceMul, Int.reduceAdd, Int.reduceSub, Nat.reduceMul, Nat.reduceSub, Int.reduceMod, Int.reduceDiv, Nat.zero_add, true_and, and_true, if_true, if_false, reduceCtorEq, false_implies, forall_const, true_implies, implies_true, decide_eq_true_eq, decide_eq_false_iff_not, beq_iff_eq, beq_eq_false_iff_ne, ne_eq, Bool.not_eq_true, List.append_eq, List.cons_append, List.nil_append, w_chn, w_ixv, lsO_o, lsO_d, w_focat, m_ocat, m_eqnL, m_eqnT, w_disp0, m_ovd, q_frz, frzO_o, frzO_d, m_revL, m_revT, m_addXi, m_addXb, m_subXi, m_subXb, m_mulXi, m_mulXb, m_negXi, m_negXb, m_strXb, m_addS, m_cutS, List.map_nil, List.isEmpty_nil, List.isEmpty_cons, h1, h2]
  cases h <;> simp only [kInt, kBl, Bool.or_self, Bool.or_true, Bool.true_or, Bool.or_false, Bool.not_true, Bool.not_false, true_implies, reduceCtorEq, false_implies, and_true, true_and] <;> exact fin
theorem okF_int {i : Int} : okF lo hi (.int i) = (decide (lo ≤ i) && decide (i ≤ hi)) := rfl
theorem chain_ok {ls : Ls} {a b c : Nat} {i : Int} {P : D → Gs → Prop} {E : Exn → Gs → Prop} (ha : lvD ls[a]? = some (.int lo)) (hb : lvD ls[b]? = some (.int i)) (hc : lvD ls[c]? = some (.int hi)) (fin : P (.bl (okF lo hi (.int i))) g) :
    Ok (fChain dLe dLe (fVar a) (fVar b) (fVar c) ls g) P E := by
  simp only [w_var, lvD_dat, List.getElem?_cons_zero, List.getElem?_cons_succ, w_c, w_op, w_un, w_test, w_gand, w_gor, w_gnot, w_gyes, w_and, w_or, w_not, w_if, w_nil, w_cons, w_tup, w_lst, w_folst, w_folist, w_cb, w_fd, w_call, w_ocall, ovO_own, w_get, w_args, w_items, w_part, intO_int, w_nopart, w_cut, w_folc, q_seq, q_nx, q_bk, q_ct, q_set, q_setO, q_tg, q_ret, q_retO, q_retN, q_drop, q_if, q_par, q_par3, q_put, q_app, q_for, twoO_two, triO_tri, w_rD, w_rO, lvR_d, lvR_o, q_parR, q_setAt, w_lenv, lenO_o, lenO_l, lenO_t, w_gown, ownL_at, lstO_l, m_oListL, m_oListT, q_appPop, w_intbl, w_attbl, w_callv, fnD_fn, w_tuprg, q_star, q_aug, strD_str, starO_c, rgO_int, m_mulS, m_int1i, m_int1b, m_gseqT, m_gseqL, seqP_nx, seqP_rt, seqP_bk, seqP_ct, seqP_xc, midP_nx, midP_rt, midP_bk, midP_ct, midP_xc, fnP_nx, fnP_rt, fnP_xc, rdP_nx, rdP_ct, rdP_bk, rdP_rt, rdP_xc, op_some, op_none, op_ite, op_map, op_bind, ok_ret, ok_some, m_lt, m_le, m_gt, m_ge, m_add, m_addT, m_addL, m_sub, m_mulI, m_mod, m_fdivS, m_powS, m_neg, m_bool, m_abs, m_min2, m_max2, m_lenL, m_lenT, m_lenI, m_tupL, m_tupT, m_lstL, m_lstT, m_rv1, m_rv2, m_ov, m_key, m_kds, m_so, m_rng1, m_gset, m_gtup, m_gsc, m_gsn, m_zipL, m_zipT, m_itL, m_itT, m_cutT, m_cutL, eq_I, ne_I, no_nil, no_cons, no_un, no_dat, wi_nil, wi_cons, Bool.and_true, Bool.true_and, Bool.and_self, and_self, List.set_cons_zero, List.set_cons_succ, List.length_cons, List.length_nil, m_line, Nat.reduceAdd, Nat.reduceLeDiff, Nat.reduceLT, Int.reduceLE, Int.reduceLT, Int.reduceToNat, Int.reducePow, Nat.reducePow, Int.reduceNeg, Int.reduceMul, Int.reduceAdd, Int.reduceSub, Nat.reduceMul, Nat.reduceSub, Int.reduceMod, Int.reduceDiv, Nat.zero_add, true_and, and_true, if_true, if_false, reduceCtorEq, false_implies, forall_const, true_implies, implies_true, decide_eq_true_eq, decide_eq_false_iff_not, beq_iff_eq, beq_eq_false_iff_ne, ne_eq, Bool.not_eq_true, List.append_eq, List.cons_append, List.nil_append, w_chn, w_ixv, lsO_o, lsO_d, w_focat, m_ocat, m_eqnL, m_eqnT, w_disp0, m_ovd, q_frz, frzO_o, frzO_d, m_revL, m_revT, m_addXi, m_addXb, m_subXi, m_subXb, m_mulXi, m_mulXb, m_negXi, m_negXb, m_strXb, m_addS, m_cutS, List.map_nil, List.isEmpty_nil, List.isEmpty_cons, ha, hb, hc]
  rw [okF_int] at fin
  refine ⟨fun h => ?_, fun h => ?_⟩
  · have e : decide (lo ≤ i) = true := by simpa using h
    rwa [e, Bool.true_and] at fin
  · have e : decide (lo ≤ i) = false := by simpa using h
    rwa [e, Bool.false_and] at fin
theorem isfrom_ok (h : Bk k n d) (fin : P (.dat (.bl (okF lo hi d))) g) : Ok (g_isfrom [d, .int lo, .int hi] g) P E := by
  unfold g_isfrom
  rw [w_fn]
  show SOk (sRet _ [.dat d, .dat (.int lo), .dat (.int hi)] _) _
  rw [q_ret, w_and, w_call]
  simp only [w_cons, w_nil, w_var, lvD_dat, List.getElem?_cons_zero, op_some]
  refine whole_ok h ?_
  rw [m_rv1, m_bool, op_some]
  cases h with
  | int _ => exact ⟨fun _ => chain_ok rfl rfl rfl fin, fun z => by cases z⟩
  | _ => exact ⟨fun z => (by cases z), fun _ => fin⟩
theorem lisfrom_ok (h : Bk k n d) (fin : P (.dat (.bl (okF lo hi d))) g) : Ok (g_lisfrom [d, .int lo, .int hi] g) P E := by
  unfold g_lisfrom
  rw [w_fn]
  show SOk (sRet _ [.dat d, .dat (.int lo), .dat (.int hi)] _) _
  have h1 := h.isInt
  have h2 := h.isBl
  rw [q_ret, w_and, w_cb]
  simp only [w_cons, w_nil, w_var, w_c, lvD_dat, List.getElem?_cons_zero, op_some, h1, m_bool, w_and, w_not, w_cb, h2]
  cases h with
  | int _ => exact ⟨fun _ => ⟨fun _ => chain_ok rfl rfl rfl fin, fun z => by cases z⟩, fun z => by cases z⟩
  | bl => exact ⟨fun _ => ⟨fun z => (by cases z), fun _ => fin⟩, fun z => by cases z⟩
  | _ => exact ⟨fun z => (by cases z), fun _ => fin⟩
/-- one to eight whole numbers from 0 on -/
def okM (hi : Int) : D → Bool
  | .tup ds => decide (1 ≤ ds.length) && decide (ds.length ≤ 8) && ds.all (okF 0 hi)
  | _ => false
theorem okM_tup {hi : Int} {ds : List D} : okM hi (.tup ds) = (decide (1 ≤ ds.length) && decide (ds.length ≤ 8) && ds.all (okF 0 hi)) := rfl
theorem filter_nil {α : Type} (p : α → Bool) : ∀ xs : List α, (xs.filter fun x => !p x).isEmpty = xs.all p
  | [] => rfl
  | x :: xs => by
    rw [List.filter_cons, List.all_cons]
    cases e : p x with
    | true => simpa using filter_nil p xs
    | false => rfl
theorem meas_ok (h : Bk k n d) (hw : wt d ≤ 30000000) (fin : P (.dat (.bl (okM hi d))) g) : Ok (g_meas [d, .int hi] g) P E := by
  unfold g_meas
  rw [w_fn]
  show SOk (sSeq _ _ [.dat d, .dat (.int hi), .un] _) _
  have hT := h.isTup
  rw [q_seq, q_if, w_gor, w_gnot]
  simp only [w_test, w_cb, w_cons, w_nil, w_var, w_c, lvD_dat, List.getElem?_cons_zero, op_some, hT, m_bool]
  cases h with
  | @tup m ds _ hb =>
    have hl := wts_len ds
    rw [wt_tup] at hw
    refine ⟨fun z => (by cases z), fun _ => ?_⟩
    simp only [w_var, lvD_dat, List.getElem?_cons_zero, List.getElem?_cons_succ, w_c, w_op, w_un, w_test, w_gand, w_gor, w_gnot, w_gyes, w_and, w_or, w_not, w_if, w_nil, w_cons, w_tup, w_lst, w_folst, w_folist, w_cb, w_fd, w_call, w_ocall, ovO_own, w_get, w_args, w_items, w_part, intO_int, w_nopart, w_cut, w_folc, q_seq, q_nx, q_bk, q_ct, q_set, q_setO, q_tg, q_ret, q_retO, q_retN, q_drop, q_if, q_par, q_par3, q_put, q_app, q_for, twoO_two, triO_tri, w_rD, w_rO, lvR_d, lvR_o, q_parR, q_setAt, w_lenv, lenO_o, lenO_l, lenO_t, w_gown, ownL_at, lstO_l, m_oListL, m_oListT, q_appPop, w_intbl, w_attbl, w_callv, fnD_fn, w_tuprg, q_star, q_aug, strD_str, starO_c, rgO_int, m_mulS, m_int1i, m_int1b, m_gseqT, m_gseqL, seqP_nx, seqP_rt, seqP_bk, seqP_ct, seqP_xc, midP_nx, midP_rt, midP_bk, midP_ct, midP_xc, fnP_nx, fnP_rt, fnP_xc, rdP_nx, rdP_ct, rdP_bk, rdP_rt, rdP_xc, op_some, op_none, op_ite, op_map, op_bind, ok_ret, ok_some, m_lt, m_le, m_gt, m_ge, m_add, m_addT, m_addL, m_sub, m_mulI, m_mod, m_fdivS, m_powS, m_neg, m_bool, m_abs, m_min2, m_max2, m_lenL, m_lenT, m_lenI, m_tupL, m_tupT, m_lstL, m_lstT, m_rv1, m_rv2, m_ov, m_key, m_kds, m_so, m_rng1, m_gset, m_gtup, m_gsc, m_gsn, m_zipL, m_zipT, m_itL, m_itT, m_cutT, m_cutL, eq_I, ne_I, no_nil, no_cons, no_un, no_dat, wi_nil, wi_cons, Bool.and_true, Bool.true_and, Bool.and_self, and_self, List.set_cons_zero, List.set_cons_succ, List.length_cons, List.length_nil, m_line, Nat.reduceAdd, Nat.reduceLeDiff, Nat.reduceLT, Int.reduceLE, Int.reduceLT, Int.reduceToNat, Int.reducePow, Nat.reducePow, Int.reduceNeg, Int.reduceMul, Int.reduceAdd, Int.reduceSub, Nat.reduceMul, Nat.reduceSub, Int.reduceMod, Int.reduceDiv, Nat.zero_add, true_and, and_true, if_true, if_false, reduceCtorEq, false_implies, forall_const, true_implies, implies_true, decide_eq_true_eq, decide_eq_false_iff_not, beq_iff_eq, beq_eq_false_iff_ne, ne_eq, Bool.not_eq_true, List.append_eq, List.cons_append, List.nil_append, w_chn, w_ixv, lsO_o, lsO_d, w_focat, m_ocat, m_eqnL, m_eqnT, w_disp0, m_ovd, q_frz, frzO_o, frzO_d, m_revL, m_revT, m_addXi, m_addXb, m_subXi, m_subXb, m_mulXi, m_mulXb, m_negXi, m_negXb, m_strXb, m_addS, m_cutS, List.map_nil, List.isEmpty_nil, List.isEmpty_cons]
    have go : decide (1 ≤ ds.length) = true → decide (ds.length ≤ 8) = true → Ok (lcGo (gSet 2) gYes (fCall g_isfrom (lCons (fVar 2) (lCons (fC (D.int 0)) (lCons (fVar 1) lNil)))) [LV.dat (D.tup ds), LV.dat (D.int hi), LV.un] ds g) (fun xs g2 => Op (dAll [D.lst xs]) fun x => P (RV.dat x) g2) fun x g1 => E x g1 := fun e1 e2 => by
      refine lc_mapD (h := fun d => .bl (okF 0 hi d)) (fun x hx => ?_) ?_
      · simp only [w_var, lvD_dat, List.getElem?_cons_zero, List.getElem?_cons_succ, w_c, w_op, w_un, w_test, w_gand, w_gor, w_gnot, w_gyes, w_and, w_or, w_not, w_if, w_nil, w_cons, w_tup, w_lst, w_folst, w_folist, w_cb, w_fd, w_call, w_ocall, ovO_own, w_get, w_args, w_items, w_part, intO_int, w_nopart, w_cut, w_folc, q_seq, q_nx, q_bk, q_ct, q_set, q_setO, q_tg, q_ret, q_retO, q_retN, q_drop, q_if, q_par, q_par3, q_put, q_app, q_for, twoO_two, triO_tri, w_rD, w_rO, lvR_d, lvR_o, q_parR, q_setAt, w_lenv, lenO_o, lenO_l, lenO_t, w_gown, ownL_at, lstO_l, m_oListL, m_oListT, q_appPop, w_intbl, w_attbl, w_callv, fnD_fn, w_tuprg, q_star, q_aug, strD_str, starO_c, rgO_int, m_mulS, m_int1i, m_int1b, m_gseqT, m_gseqL, seqP_nx, seqP_rt, seqP_bk, seqP_ct, seqP_xc, midP_nx, midP_rt, midP_bk, midP_ct, midP_xc, fnP_nx, fnP_rt, fnP_xc, rdP_nx, rdP_ct, rdP_bk, rdP_rt, rdP_xc, op_some, op_none, op_ite, op_map, op_bind, ok_ret, ok_some, m_lt, m_le, m_gt, m_ge, m_add, m_addT, m_addL, m_sub, m_mulI, m_mod, m_fdivS, m_powS, m_neg, m_bool, m_abs, m_min2, m_max2, m_lenL, m_lenT, m_lenI, m_tupL, m_tupT, m_lstL, m_lstT, m_rv1, m_rv2, m_ov, m_key, m_kds, m_so, m_rng1, m_gset, m_gtup, m_gsc, m_gsn, m_zipL, m_zipT, m_itL, m_itT, m_cutT, m_cutL, eq_I, ne_I, no_nil, no_cons, no_un, no_dat, wi_nil, wi_cons, Bool.and_true, Bool.true_and, Bool.and_self, and_self, List.set_cons_zero, List.set_cons_succ, List.length_cons, List.length_nil, m_line, Nat.reduceAdd, Nat.reduceLeDiff, Nat.reduceLT, Int.reduceLE, Int.reduceLT, Int.reduceToNat, Int.reducePow, Nat.reducePow, Int.reduceNeg, Int.reduceMul, Int.reduceAdd, Int.reduceSub, Nat.reduceMul, Nat.reduceSub, Int.reduceMod, Int.reduceDiv, Nat.zero_add, true_and, and_true, if_true, if_false, reduceCtorEq, false_implies, forall_const, true_implies, implies_true, decide_eq_true_eq, decide_eq_false_iff_not, beq_iff_eq, beq_eq_false_iff_ne, ne_eq, Bool.not_eq_true, List.append_eq, List.cons_append, List.nil_append, w_chn, w_ixv, lsO_o, lsO_d, w_focat, m_ocat, m_eqnL, m_eqnT, w_disp0, m_ovd, q_frz, frzO_o, frzO_d, m_revL, m_revT, m_addXi, m_addXb, m_subXi, m_subXb, m_mulXi, m_mulXb, m_negXi, m_negXb, m_strXb, m_addS, m_cutS, List.map_nil, List.isEmpty_nil, List.isEmpty_cons]
        exact isfrom_ok (hb x hx) ⟨rfl, rfl⟩
      · show Op ((asBls _).map _) _
        rw [as_bls]
        show Op (some _) _
        rw [op_some]
        show P (.dat (.bl ((ds.map (okF 0 hi)).all id))) g
        rw [List.all_map]
        show P (.dat (.bl (ds.all (okF 0 hi)))) g
        rw [okM_tup] at fin
        rw [e1, e2, Bool.true_and, Bool.true_and] at fin
        exact fin
    have no : (decide (1 ≤ ds.length) && decide (ds.length ≤ 8)) = false → P (.dat (.bl false)) g := fun e => by
      rw [okM_tup] at fin
      rw [e, Bool.false_and] at fin
      exact fin
    refine ⟨fun h1 => ⟨fun h2 => no ?_, fun h2 => ⟨by omega, go ?_ ?_⟩⟩, fun h1 => ⟨fun _ => no ?_, fun h2 => (by cases h2)⟩⟩
    · have h3 : 8 < (ds.length : Int) := by simpa using h2
      have : ¬ (ds.length ≤ 8) := by omega
      simp [this]
    · have : 1 ≤ ds.length := by omega
      simpa using this
    · have h3 : (ds.length : Int) ≤ 8 := by simpa using h2
      have : ds.length ≤ 8 := by omega
      simpa using this
    · have : ¬ (1 ≤ ds.length) := by omega
      simp [this]
  | _ => exact ⟨fun _ => (by simp only [w_var, lvD_dat, List.getElem?_cons_zero, List.getElem?_cons_succ, w_c, w_op, w_un, w_test, w_gand, w_gor, w_gnot, w_gyes, w_and, w_or, w_not, w_if, w_nil, w_cons, w_tup, w_lst, w_folst, w_folist, w_cb, w_fd, w_call, w_ocall, ovO_own, w_get, w_args, w_items, w_part, intO_int, w_nopart, w_cut, w_folc, q_seq, q_nx, q_bk, q_ct, q_set, q_setO, q_tg, q_ret, q_retO, q_retN, q_drop, q_if, q_par, q_par3, q_put, q_app, q_for, twoO_two, triO_tri, w_rD, w_rO, lvR_d, lvR_o, q_parR, q_setAt, w_lenv, lenO_o, lenO_l, lenO_t, w_gown, ownL_at, lstO_l, m_oListL, m_oListT, q_appPop, w_intbl, w_attbl, w_callv, fnD_fn, w_tuprg, q_star, q_aug, strD_str, starO_c, rgO_int, m_mulS, m_int1i, m_int1b, m_gseqT, m_gseqL, seqP_nx, seqP_rt, seqP_bk, seqP_ct, seqP_xc, midP_nx, midP_rt, midP_bk, midP_ct, midP_xc, fnP_nx, fnP_rt, fnP_xc, rdP_nx, rdP_ct, rdP_bk, rdP_rt, rdP_xc, op_some, op_none, op_ite, op_map, op_bind, ok_ret, ok_some, m_lt, m_le, m_gt, m_ge, m_add, m_addT, m_addL, m_sub, m_mulI, m_mod, m_fdivS, m_powS, m_neg, m_bool, m_abs, m_min2, m_max2, m_lenL, m_lenT, m_lenI, m_tupL, m_tupT, m_lstL, m_lstT, m_rv1, m_rv2, m_ov, m_key, m_kds, m_so, m_rng1, m_gset, m_gtup, m_gsc, m_gsn, m_zipL, m_zipT, m_itL, m_itT, m_cutT, m_cutL, eq_I, ne_I, no_nil, no_cons, no_un, no_dat, wi_nil, wi_cons, Bool.and_true, Bool.true_and, Bool.and_self, and_self, List.set_cons_zero, List.set_cons_succ, List.length_cons, List.length_nil, m_line, Nat.reduceAdd, Nat.reduceLeDiff, Nat.reduceLT, Int.reduceLE, Int.reduceLT, Int.reduceToNat, Int.reducePow, Nat.reducePow, Int.reduceNeg, Int.reduceMul, Int.reduceAdd, Int.reduceSub, Nat.reduceMul, Nat.reduceSub, Int.reduceMod, Int.reduceDiv, Nat.zero_add, true_and, and_true, if_true, if_false, reduceCtorEq, false_implies, forall_const, true_implies, implies_true, decide_eq_true_eq, decide_eq_false_iff_not, beq_iff_eq, beq_eq_false_iff_ne, ne_eq, Bool.not_eq_true, List.append_eq, List.cons_append, List.nil_append, w_chn, w_ixv, lsO_o, lsO_d, w_focat, m_ocat, m_eqnL, m_eqnT, w_disp0, m_ovd, q_frz, frzO_o, frzO_d, m_revL, m_revT, m_addXi, m_addXb, m_subXi, m_subXb, m_mulXi, m_mulXb, m_negXi, m_negXb, m_strXb, m_addS, m_cutS, List.map_nil, List.isEmpty_nil, List.isEmpty_cons]; exact fin), fun z => by cases z⟩
theorem lmeas_ok (h : Bk k n d) (hw : wt d ≤ 30000000) (fin : P (.dat (.bl (okM hi d))) g) : Ok (g_lmeas [d, .int hi] g) P E := by
  unfold g_lmeas
  rw [w_fn]
  show SOk (sSeq _ _ [.dat d, .dat (.int hi), .un] _) _
  have hT := h.isTup
  rw [q_seq, q_if, w_gor, w_gnot]
  simp only [w_test, w_cb, w_cons, w_nil, w_var, w_c, lvD_dat, List.getElem?_cons_zero, op_some, hT, m_bool]
  cases h with
  | @tup m ds _ hb =>
    have hl := wts_len ds
    rw [wt_tup] at hw
    refine ⟨fun z => (by cases z), fun _ => ?_⟩
    simp only [w_var, lvD_dat, List.getElem?_cons_zero, List.getElem?_cons_succ, w_c, w_op, w_un, w_test, w_gand, w_gor, w_gnot, w_gyes, w_and, w_or, w_not, w_if, w_nil, w_cons, w_tup, w_lst, w_folst, w_folist, w_cb, w_fd, w_call, w_ocall, ovO_own, w_get, w_args, w_items, w_part, intO_int, w_nopart, w_cut, w_folc, q_seq, q_nx, q_bk, q_ct, q_set, q_setO, q_tg, q_ret, q_retO, q_retN, q_drop, q_if, q_par, q_par3, q_put, q_app, q_for, twoO_two, triO_tri, w_rD, w_rO, lvR_d, lvR_o, q_parR, q_setAt, w_lenv, lenO_o, lenO_l, lenO_t, w_gown, ownL_at, lstO_l, m_oListL, m_oListT, q_appPop, w_intbl, w_attbl, w_callv, fnD_fn, w_tuprg, q_star, q_aug, strD_str, starO_c, rgO_int, m_mulS, m_int1i, m_int1b, m_gseqT, m_gseqL, seqP_nx, seqP_rt, seqP_bk, seqP_ct, seqP_xc, midP_nx, midP_rt, midP_bk, midP_ct, midP_xc, fnP_nx, fnP_rt, fnP_xc, rdP_nx, rdP_ct, rdP_bk, rdP_rt, rdP_xc, op_some, op_none, op_ite, op_map, op_bind, ok_ret, ok_some, m_lt, m_le, m_gt, m_ge, m_add, m_addT, m_addL, m_sub, m_mulI, m_mod, m_fdivS, m_powS, m_neg, m_bool, m_abs, m_min2, m_max2, m_lenL, m_lenT, m_lenI, m_tupL, m_tupT, m_lstL, m_lstT, m_rv1, m_rv2, m_ov, m_key, m_kds, m_so, m_rng1, m_gset, m_gtup, m_gsc, m_gsn, m_zipL, m_zipT, m_itL, m_itT, m_cutT, m_cutL, eq_I, ne_I, no_nil, no_cons, no_un, no_dat, wi_nil, wi_cons, Bool.and_true, Bool.true_and, Bool.and_self, and_self, List.set_cons_zero, List.set_cons_succ, List.length_cons, List.length_nil, m_line, Nat.reduceAdd, Nat.reduceLeDiff, Nat.reduceLT, Int.reduceLE, Int.reduceLT, Int.reduceToNat, Int.reducePow, Nat.reducePow, Int.reduceNeg, Int.reduceMul, Int.reduceAdd, Int.reduceSub, Nat.reduceMul, Nat.reduceSub, Int.reduceMod, Int.reduceDiv, Nat.zero_add, true_and, and_true, if_true, if_false, reduceCtorEq, false_implies, forall_const, true_implies, implies_true, decide_eq_true_eq, decide_eq_false_iff_not, beq_iff_eq, beq_eq_false_iff_ne, ne_eq, Bool.not_eq_true, List.append_eq, List.cons_append, List.nil_append, w_chn, w_ixv, lsO_o, lsO_d, w_focat, m_ocat, m_eqnL, m_eqnT, w_disp0, m_ovd, q_frz, frzO_o, frzO_d, m_revL, m_revT, m_addXi, m_addXb, m_subXi, m_subXb, m_mulXi, m_mulXb, m_negXi, m_negXb, m_strXb, m_addS, m_cutS, List.map_nil, List.isEmpty_nil, List.isEmpty_cons]
    have go : decide (1 ≤ ds.length) = true → decide (ds.length ≤ 8) = true → Ok (lcGo (gSet 2) (gNot (fTest (fCall g_lisfrom (lCons (fVar 2) (lCons (fC (D.int 0)) (lCons (fVar 1) lNil)))))) (fVar 2) [LV.dat (D.tup ds), LV.dat (D.int hi), LV.un] ds g) (fun xs g2 => P (RV.dat (.bl xs.isEmpty)) g2) fun x g1 => E x g1 := fun e1 e2 => by
      refine lc_pureD (h := id) (f := fun d => !okF 0 hi d) (fun x hx => ?_) ?_
      · simp only [w_var, lvD_dat, List.getElem?_cons_zero, List.getElem?_cons_succ, w_c, w_op, w_un, w_test, w_gand, w_gor, w_gnot, w_gyes, w_and, w_or, w_not, w_if, w_nil, w_cons, w_tup, w_lst, w_folst, w_folist, w_cb, w_fd, w_call, w_ocall, ovO_own, w_get, w_args, w_items, w_part, intO_int, w_nopart, w_cut, w_folc, q_seq, q_nx, q_bk, q_ct, q_set, q_setO, q_tg, q_ret, q_retO, q_retN, q_drop, q_if, q_par, q_par3, q_put, q_app, q_for, twoO_two, triO_tri, w_rD, w_rO, lvR_d, lvR_o, q_parR, q_setAt, w_lenv, lenO_o, lenO_l, lenO_t, w_gown, ownL_at, lstO_l, m_oListL, m_oListT, q_appPop, w_intbl, w_attbl, w_callv, fnD_fn, w_tuprg, q_star, q_aug, strD_str, starO_c, rgO_int, m_mulS, m_int1i, m_int1b, m_gseqT, m_gseqL, seqP_nx, seqP_rt, seqP_bk, seqP_ct, seqP_xc, midP_nx, midP_rt, midP_bk, midP_ct, midP_xc, fnP_nx, fnP_rt, fnP_xc, rdP_nx, rdP_ct, rdP_bk, rdP_rt, rdP_xc, op_some, op_none, op_ite, op_map, op_bind, ok_ret, ok_some, m_lt, m_le, m_gt, m_ge, m_add, m_addT, m_addL, m_sub, m_mulI, m_mod, m_fdivS, m_powS, m_neg, m_bool, m_abs, m_min2, m_max2, m_lenL, m_lenT, m_lenI, m_tupL, m_tupT, m_lstL, m_lstT, m_rv1, m_rv2, m_ov, m_key, m_kds, m_so, m_rng1, m_gset, m_gtup, m_gsc, m_gsn, m_zipL, m_zipT, m_itL, m_itT, m_cutT, m_cutL, eq_I, ne_I, no_nil, no_cons, no_un, no_dat, wi_nil, wi_cons, Bool.and_true, Bool.true_and, Bool.and_self, and_self, List.set_cons_zero, List.set_cons_succ, List.length_cons, List.length_nil, m_line, Nat.reduceAdd, Nat.reduceLeDiff, Nat.reduceLT, Int.reduceLE, Int.reduceLT, Int.reduceToNat, Int.reducePow, Nat.reducePow, Int.reduceNeg, Int.reduceMul, Int.reduceAdd, Int.reduceSub, Nat.reduceMul, Nat.reduceSub, Int.reduceMod, Int.reduceDiv, Nat.zero_add, true_and, and_true, if_true, if_false, reduceCtorEq, false_implies, forall_const, true_implies, implies_true, decide_eq_true_eq, decide_eq_false_iff_not, beq_iff_eq, beq_eq_false_iff_ne, ne_eq, Bool.not_eq_true, List.append_eq, List.cons_append, List.nil_append, w_chn, w_ixv, lsO_o, lsO_d, w_focat, m_ocat, m_eqnL, m_eqnT, w_disp0, m_ovd, q_frz, frzO_o, frzO_d, m_revL, m_revT, m_addXi, m_addXb, m_subXi, m_subXb, m_mulXi, m_mulXb, m_negXi, m_negXb, m_strXb, m_addS, m_cutS, List.map_nil, List.isEmpty_nil, List.isEmpty_cons]
        refine ⟨lisfrom_ok (hb x hx) ?_, fun _ => rfl⟩
        rw [m_rv1, m_bool, op_some]
        exact ⟨rfl, rfl⟩
      · rw [List.map_id, filter_nil]
        rw [okM_tup] at fin
        rw [e1, e2, Bool.true_and, Bool.true_and] at fin
        exact fin
    have no : (decide (1 ≤ ds.length) && decide (ds.length ≤ 8)) = false → P (.dat (.bl false)) g := fun e => by
      rw [okM_tup] at fin
      rw [e, Bool.false_and] at fin
      exact fin
    refine ⟨fun h1 => ⟨fun h2 => no ?_, fun h2 => ⟨by omega, go ?_ ?_⟩⟩, fun h1 => ⟨fun _ => no ?_, fun h2 => (by cases h2)⟩⟩
    · have h3 : 8 < (ds.length : Int) := by simpa using h2
      have : ¬ (ds.length ≤ 8) := by omega
      simp [this]
    · have : 1 ≤ ds.length := by omega
      simpa using this
    · have h3 : (ds.length : Int) ≤ 8 := by simpa using h2
      have : ds.length ≤ 8 := by omega
      simpa using this
    · have : ¬ (1 ≤ ds.length) := by omega
      simp [this]
  | _ => exact ⟨fun _ => (by simp only [w_var, lvD_dat, List.getElem?_cons_zero, List.getElem?_cons_succ, w_c, w_op, w_un, w_test, w_gand, w_gor, w_gnot, w_gyes, w_and, w_or, w_not, w_if, w_nil, w_cons, w_tup, w_lst, w_folst, w_folist, w_cb, w_fd, w_call, w_ocall, ovO_own, w_get, w_args, w_items, w_part, intO_int, w_nopart, w_cut, w_folc, q_seq, q_nx, q_bk, q_ct, q_set, q_setO, q_tg, q_ret, q_retO, q_retN, q_drop, q_if, q_par, q_par3, q_put, q_app, q_for, twoO_two, triO_tri, w_rD, w_rO, lvR_d, lvR_o, q_parR, q_setAt, w_lenv, lenO_o, lenO_l, lenO_t, w_gown, ownL_at, lstO_l, m_oListL, m_oListT, q_appPop, w_intbl, w_attbl, w_callv, fnD_fn, w_tuprg, q_star, q_aug, strD_str, starO_c, rgO_int, m_mulS, m_int1i, m_int1b, m_gseqT, m_gseqL, seqP_nx, seqP_rt, seqP_bk, seqP_ct, seqP_xc, midP_nx, midP_rt, midP_bk, midP_ct, midP_xc, fnP_nx, fnP_rt, fnP_xc, rdP_nx, rdP_ct, rdP_bk, rdP_rt, rdP_xc, op_some, op_none, op_ite, op_map, op_bind, ok_ret, ok_some, m_lt, m_le, m_gt, m_ge, m_add, m_addT, m_addL, m_sub, m_mulI, m_mod, m_fdivS, m_powS, m_neg, m_bool, m_abs, m_min2, m_max2, m_lenL, m_lenT, m_lenI, m_tupL, m_tupT, m_lstL, m_lstT, m_rv1, m_rv2, m_ov, m_key, m_kds, m_so, m_rng1, m_gset, m_gtup, m_gsc, m_gsn, m_zipL, m_zipT, m_itL, m_itT, m_cutT, m_cutL, eq_I, ne_I, no_nil, no_cons, no_un, no_dat, wi_nil, wi_cons, Bool.and_true, Bool.true_and, Bool.and_self, and_self, List.set_cons_zero, List.set_cons_succ, List.length_cons, List.length_nil, m_line, Nat.reduceAdd, Nat.reduceLeDiff, Nat.reduceLT, Int.reduceLE, Int.reduceLT, Int.reduceToNat, Int.reducePow, Nat.reducePow, Int.reduceNeg, Int.reduceMul, Int.reduceAdd, Int.reduceSub, Nat.reduceMul, Nat.reduceSub, Int.reduceMod, Int.reduceDiv, Nat.zero_add, true_and, and_true, if_true, if_false, reduceCtorEq, false_implies, forall_const, true_implies, implies_true, decide_eq_true_eq, decide_eq_false_iff_not, beq_iff_eq, beq_eq_false_iff_ne, ne_eq, Bool.not_eq_true, List.append_eq, List.cons_append, List.nil_append, w_chn, w_ixv, lsO_o, lsO_d, w_focat, m_ocat, m_eqnL, m_eqnT, w_disp0, m_ovd, q_frz, frzO_o, frzO_d, m_revL, m_revT, m_addXi, m_addXb, m_subXi, m_subXb, m_mulXi, m_mulXb, m_negXi, m_negXb, m_strXb, m_addS, m_cutS, List.map_nil, List.isEmpty_nil, List.isEmpty_cons]; exact fin), fun z => by cases z⟩
end
end G6

namespace G6
open PySem PySem.Spec L2

/-! ### scales -/
def g_product : Fn := fnF 3 (
    sSeq (sSet 1 (fC (.int 1)))
      (sSeq (sFor (iItemsA (fVar 0)) (gSet 2) (sAug 1 dMulS (fVar 2)))
      (sRet (fVar 1))))
def g_least : Fn := fnF 1 (
    sRet (fCB (dExt minI) (lCons (fVar 0) (lNil))))
def g_greatest : Fn := fnF 1 (
    sRet (fCB (dExt maxI) (lCons (fVar 0) (lNil))))
def g_tb : List (Str × Str) := [("times", "product_of"), ("low", "least_measure"), ("high", "greatest_measure")]
def g_tab (nm : Str) : Fn := if nm = "product_of" then g_product else if nm = "least_measure" then g_least else if nm = "greatest_measure" then g_greatest else fun _ _ => none
def gb_lworth (ff : Fn) : S :=
    sSeq (sIf (fTest (fOp dEq (fOp dIx (fVar 0) (fC (.int 0))) (fC (.str "sum")))) (sRet (fCB dSum (lCons (fD (foLc (iArgs dRange1 (lCons (fCB dLen (lCons (fVar 1) (lNil))) (lNil))) [5] (gSet 5) (gYes) (fOp dMul (fOp dIx (fOp dIx (fVar 0) (fC (.int 1))) (fVar 5)) (fOp dIx (fVar 1) (fVar 5))))) (lNil)))) (sNx))
      (sSeq (sIf (fTest (fOp dEq (fOp dIx (fVar 0) (fC (.int 0))) (fC (.str "times")))) (sSeq (sSet 2 (fC (.int 1)))
      (sSeq (sFor (iItemsA (fVar 1)) (gSet 3) (sSet 2 (fOp dMul (fVar 2) (fVar 3))))
      (sRet (fVar 2)))) (sNx))
      (sSeq (sIf (fTest (fOp dIn (fOp dIx (fVar 0) (fC (.int 0))) (fTup (lCons (fC (.str "low")) (lCons (fC (.str "high")) (lNil)))))) (sRet (fIf (fTest (fOp dEq (fOp dIx (fVar 0) (fC (.int 0))) (fC (.str "low")))) (fCB (dExt minI) (lCons (fVar 1) (lNil))) (fCB (dExt maxI) (lCons (fVar 1) (lNil))))) (sNx))
      (sSeq (sSet 4 (fLst (lCons (fCall ff (lCons (fOp dIx (fVar 0) (fC (.int 1))) (lCons (fVar 1) (lNil)))) (lCons (fCall ff (lCons (fOp dIx (fVar 0) (fC (.int 2))) (lCons (fVar 1) (lNil)))) (lNil)))))
      (sSeq (sIf (fTest (fOp dEq (fOp dIx (fVar 0) (fC (.int 0))) (fC (.str "add")))) (sRet (fCB dSum (lCons (fVar 4) (lNil)))) (sNx))
      (sRet (fIf (fTest (fOp dEq (fOp dIx (fVar 0) (fC (.int 0))) (fC (.str "lesser")))) (fCB (dExt minI) (lCons (fVar 4) (lNil))) (fCB (dExt maxI) (lCons (fVar 4) (lNil)))))))))
def g_lworth : Nat → Fn
  | 0 => fun _ _ => none
  | kk + 1 => fnF 6 (gb_lworth (g_lworth kk))
def gb_worth (ff : Fn) : S :=
    sSeq (sStar 2 3 (fVar 0))
      (sSeq (sIf (fTest (fInTbl g_tb (fVar 2))) (sSeq (sSet 4 (fAtTbl g_tb (fVar 2)))
      (sRet (fCallV 4 g_tab (lCons (fVar 1) (lNil))))) (sNx))
      (sSeq (sIf (fTest (fOp dEq (fVar 2) (fC (.str "sum")))) (sRet (fCB dSum (lCons (fD (foLc (iArgs dZip (lCons (fOp dIx (fVar 3) (fC (.int 0))) (lCons (fVar 1) (lNil)))) [7, 8] (gTupD 2 (gsCons (gSet 7) (gsCons (gSet 8) (gsNil)))) (gYes) (fOp dMul (fVar 7) (fVar 8)))) (lNil)))) (sNx))
      (sSeq (sTg (fD (foLc (iItemsA (fVar 3)) [9] (gSet 9) (gYes) (fCall ff (lCons (fVar 9) (lCons (fVar 1) (lNil)))))) (gSeqD 2 (gsCons (gSet 5) (gsCons (gSet 6) (gsNil)))))
      (sSeq (sIf (fTest (fOp dEq (fVar 2) (fC (.str "add")))) (sRet (fOp dAdd (fVar 5) (fVar 6))) (sNx))
      (sRet (fIf (fTest (fOp dEq (fVar 2) (fC (.str "lesser")))) (fCB dMin2 (lCons (fVar 5) (lCons (fVar 6) (lNil)))) (fCB dMax2 (lCons (fVar 5) (lCons (fVar 6) (lNil))))))))))
def g_worth : Nat → Fn
  | 0 => fun _ _ => none
  | kk + 1 => fnF 10 (gb_worth (g_worth kk))
def gb_scale (ff : Fn) : S :=
    sSeq (sSet 3 (fCall g_draw (lCons (fVar 0) (lCons (fOp dIx (fLst (lCons (fC (.int 5)) (lCons (fC (.int 8)) (lNil)))) (fCB dInt1 (lCons (fOp dGt (fVar 2) (fC (.int 1))) (lNil)))) (lNil)))))
      (sSeq (sIf (fTest (fOp dGt (fVar 3) (fC (.int 4)))) (sSeq (sSet 4 (fOp dIx (fLst (lCons (fC (.str "add")) (lCons (fC (.str "lesser")) (lCons (fC (.str "greater")) (lNil))))) (fOp dSub (fVar 3) (fC (.int 5)))))
      (sRet (fTup (lCons (fVar 4) (lCons (fCall ff (lCons (fVar 0) (lCons (fVar 1) (lCons (fOp dSub (fVar 2) (fC (.int 1))) (lNil))))) (lCons (fCall ff (lCons (fVar 0) (lCons (fVar 1) (lCons (fOp dSub (fVar 2) (fC (.int 1))) (lNil))))) (lNil))))))) (sNx))
      (sSeq (sIf (fTest (fOp dGt (fVar 3) (fC (.int 1)))) (sRet (fOp dIx (fLst (lCons (fTup (lCons (fC (.str "times")) (lNil))) (lCons (fTup (lCons (fC (.str "low")) (lNil))) (lCons (fTup (lCons (fC (.str "high")) (lNil))) (lNil))))) (fOp dSub (fVar 3) (fC (.int 2))))) (sNx))
      (sRet (fTup (lCons (fC (.str "sum")) (lCons (fCB dTuple (lCons (fD (foLc (iArgs dRange1 (lCons (fVar 1) (lNil))) [5] (gSet 5) (gYes) (fCall g_pick (lCons (fVar 0) (lCons (fLst (lCons (fC (.int 0)) (lCons (fC (.int 1)) (lCons (fC (.int 1)) (lCons (fC (.int 2)) (lCons (fC (.int 3)) (lCons (fC (.int 10)) (lCons (fC (.int 999)) (lCons (fC (.int 1000)) (lNil)))))))))) (lNil)))))) (lNil))) (lNil)))))))
def g_scale : Nat → Fn
  | 0 => fun _ _ => none
  | kk + 1 => fnF 6 (gb_scale (g_scale kk))
abbrev iT (a : List Int) : D := .tup (a.map .int)
inductive Sc where
  | sum (ws : List Int) | times | low | high | add (a b : Sc) | lesser (a b : Sc) | greater (a b : Sc)
def Sc.d : Sc → D
  | .sum ws => .tup [.str "sum", iT ws]
  | .times => .tup [.str "times"]
  | .low => .tup [.str "low"]
  | .high => .tup [.str "high"]
  | .add a b => .tup [.str "add", a.d, b.d]
  | .lesser a b => .tup [.str "lesser", a.d, b.d]
  | .greater a b => .tup [.str "greater", a.d, b.d]
def Sc.val : Sc → List Int → Int
  | .sum ws, t => ((ws.zip t).map fun p => p.1 * p.2).sum
  | .times, t => t.foldl (· * ·) 1
  | .low, t => minI t
  | .high, t => maxI t
  | .add a b, t => a.val t + b.val t
  | .lesser a b, t => if b.val t < a.val t then b.val t else a.val t
  | .greater a b, t => if b.val t > a.val t then b.val t else a.val t
def Sc.dep : Sc → Nat
  | .add a b | .lesser a b | .greater a b => max a.dep b.dep + 1
  | _ => 1
def Sc.Okn (n : Nat) : Sc → Prop
  | .sum ws => ws.length = n ∧ ∀ w ∈ ws, 0 ≤ w ∧ w ≤ 1000
  | .add a b | .lesser a b | .greater a b => a.Okn n ∧ b.Okn n
  | _ => True
/-- a thing of n measures -/
structure Thg (n : Nat) (t : List Int) : Prop where
  len : t.length = n
  pos : 1 ≤ n
  few : n ≤ 8
  bd : ∀ i ∈ t, 0 ≤ i ∧ i ≤ 1000000000
theorem Thg.ne {n : Nat} {t : List Int} (h : Thg n t) : t ≠ [] := fun z => by
  have := h.len; have := h.pos; rw [z] at *; simp at *; omega
theorem prod_bd : ∀ (t : List Int) (acc : Int), 0 ≤ acc → (∀ i ∈ t, 0 ≤ i ∧ i ≤ 1000000000) → 0 ≤ t.foldl (· * ·) acc ∧ t.foldl (· * ·) acc ≤ acc * 1000000000 ^ t.length
  | [], acc, h, _ => ⟨h, by simp⟩
  | x :: t, acc, h, hb => by
    obtain ⟨x0, x1⟩ := hb x (by simp)
    obtain ⟨h1, h2⟩ := prod_bd t (acc * x) (Int.mul_nonneg h x0) fun i hi => hb i (List.mem_cons_of_mem _ hi)
    refine ⟨h1, Int.le_trans h2 ?_⟩
    rw [List.length_cons, Int.pow_succ, Int.mul_comm (1000000000 ^ t.length), ← Int.mul_assoc]
    exact Int.mul_le_mul_of_nonneg_right (Int.mul_le_mul_of_nonneg_left x1 h) (Int.pow_nonneg (by decide))
theorem product_ok {n : Nat} {t : List Int} {g : Gs} {P : RV → Gs → Prop} {E : Exn → Gs → Prop} (ht : Thg n t) (fin : P (.dat (.int (t.foldl (· * ·) 1))) g) : Ok (g_product [iT t] g) P E := by
  unfold g_product
  rw [w_fn]
  show SOk (sSeq _ _ [.dat (.tup (t.map .int)), .un, .un] _) _
  simp only [w_var, lvD_dat, List.getElem?_cons_zero, List.getElem?_cons_succ, w_c, w_op, w_un, w_test, w_gand, w_gor, w_gnot, w_gyes, w_and, w_or, w_not, w_if, w_nil, w_cons, w_tup, w_lst, w_folst, w_folist, w_cb, w_fd, w_call, w_ocall, ovO_own, w_get, w_args, w_items, w_part, intO_int, w_nopart, w_cut, w_folc, q_seq, q_nx, q_bk, q_ct, q_set, q_setO, q_tg, q_ret, q_retO, q_retN, q_drop, q_if, q_par, q_par3, q_put, q_app, q_for, twoO_two, triO_tri, w_rD, w_rO, lvR_d, lvR_o, q_parR, q_setAt, w_lenv, lenO_o, lenO_l, lenO_t, w_gown, ownL_at, lstO_l, m_oListL, m_oListT, q_appPop, w_intbl, w_attbl, w_callv, fnD_fn, w_tuprg, q_star, q_aug, strD_str, starO_c, rgO_int, m_mulS, m_int1i, m_int1b, m_gseqT, m_gseqL, seqP_nx, seqP_rt, seqP_bk, seqP_ct, seqP_xc, midP_nx, midP_rt, midP_bk, midP_ct, midP_xc, fnP_nx, fnP_rt, fnP_xc, rdP_nx, rdP_ct, rdP_bk, rdP_rt, rdP_xc, op_some, op_none, op_ite, op_map, op_bind, ok_ret, ok_some, m_lt, m_le, m_gt, m_ge, m_add, m_addT, m_addL, m_sub, m_mulI, m_mod, m_fdivS, m_powS, m_neg, m_bool, m_abs, m_min2, m_max2, m_lenL, m_lenT, m_lenI, m_tupL, m_tupT, m_lstL, m_lstT, m_rv1, m_rv2, m_ov, m_key, m_kds, m_so, m_rng1, m_gset, m_gtup, m_gsc, m_gsn, m_zipL, m_zipT, m_itL, m_itT, m_cutT, m_cutL, eq_I, ne_I, no_nil, no_cons, no_un, no_dat, wi_nil, wi_cons, Bool.and_true, Bool.true_and, Bool.and_self, and_self, List.set_cons_zero, List.set_cons_succ, List.length_cons, List.length_nil, m_line, Nat.reduceAdd, Nat.reduceLeDiff, Nat.reduceLT, Int.reduceLE, Int.reduceLT, Int.reduceToNat, Int.reducePow, Nat.reducePow, Int.reduceNeg, Int.reduceMul, Int.reduceAdd, Int.reduceSub, Nat.reduceMul, Nat.reduceSub, Int.reduceMod, Int.reduceDiv, Nat.zero_add, true_and, and_true, if_true, if_false, reduceCtorEq, false_implies, forall_const, true_implies, implies_true, decide_eq_true_eq, decide_eq_false_iff_not, beq_iff_eq, beq_eq_false_iff_ne, ne_eq, Bool.not_eq_true, List.append_eq, List.cons_append, List.nil_append]
  refine for_ok (fun i ls g' => ∃ x, g' = g ∧ ls = [.dat (.tup (t.map .int)), .dat (.int ((t.take i).foldl (· * ·) 1)), x]) ⟨_, rfl, rfl⟩ ?_ ?_
  · rintro i d ls g' hd ⟨x, rfl, rfl⟩
    rw [List.getElem?_map] at hd
    obtain ⟨m, hm, rfl⟩ := Option.map_eq_some_iff.mp hd
    obtain ⟨hi, rfl⟩ := List.getElem?_eq_some_iff.mp hm
    have hb := ht.bd _ (List.getElem_mem hi)
    simp only [w_var, lvD_dat, List.getElem?_cons_zero, List.getElem?_cons_succ, w_c, w_op, w_un, w_test, w_gand, w_gor, w_gnot, w_gyes, w_and, w_or, w_not, w_if, w_nil, w_cons, w_tup, w_lst, w_folst, w_folist, w_cb, w_fd, w_call, w_ocall, ovO_own, w_get, w_args, w_items, w_part, intO_int, w_nopart, w_cut, w_folc, q_seq, q_nx, q_bk, q_ct, q_set, q_setO, q_tg, q_ret, q_retO, q_retN, q_drop, q_if, q_par, q_par3, q_put, q_app, q_for, twoO_two, triO_tri, w_rD, w_rO, lvR_d, lvR_o, q_parR, q_setAt, w_lenv, lenO_o, lenO_l, lenO_t, w_gown, ownL_at, lstO_l, m_oListL, m_oListT, q_appPop, w_intbl, w_attbl, w_callv, fnD_fn, w_tuprg, q_star, q_aug, strD_str, starO_c, rgO_int, m_mulS, m_int1i, m_int1b, m_gseqT, m_gseqL, seqP_nx, seqP_rt, seqP_bk, seqP_ct, seqP_xc, midP_nx, midP_rt, midP_bk, midP_ct, midP_xc, fnP_nx, fnP_rt, fnP_xc, rdP_nx, rdP_ct, rdP_bk, rdP_rt, rdP_xc, op_some, op_none, op_ite, op_map, op_bind, ok_ret, ok_some, m_lt, m_le, m_gt, m_ge, m_add, m_addT, m_addL, m_sub, m_mulI, m_mod, m_fdivS, m_powS, m_neg, m_bool, m_abs, m_min2, m_max2, m_lenL, m_lenT, m_lenI, m_tupL, m_tupT, m_lstL, m_lstT, m_rv1, m_rv2, m_ov, m_key, m_kds, m_so, m_rng1, m_gset, m_gtup, m_gsc, m_gsn, m_zipL, m_zipT, m_itL, m_itT, m_cutT, m_cutL, eq_I, ne_I, no_nil, no_cons, no_un, no_dat, wi_nil, wi_cons, Bool.and_true, Bool.true_and, Bool.and_self, and_self, List.set_cons_zero, List.set_cons_succ, List.length_cons, List.length_nil, m_line, Nat.reduceAdd, Nat.reduceLeDiff, Nat.reduceLT, Int.reduceLE, Int.reduceLT, Int.reduceToNat, Int.reducePow, Nat.reducePow, Int.reduceNeg, Int.reduceMul, Int.reduceAdd, Int.reduceSub, Nat.reduceMul, Nat.reduceSub, Int.reduceMod, Int.reduceDiv, Nat.zero_add, true_and, and_true, if_true, if_false, reduceCtorEq, false_implies, forall_const, true_implies, implies_true, decide_eq_true_eq, decide_eq_false_iff_not, beq_iff_eq, beq_eq_false_iff_ne, ne_eq, Bool.not_eq_true, List.append_eq, List.cons_append, List.nil_append]
    refine ⟨by omega, .dat (.int t[i]), ?_⟩
    rw [List.take_succ_eq_append_getElem hi, List.foldl_append]
    rfl
  · rintro ls g' ⟨x, rfl, rfl⟩
    rw [List.length_map, List.take_length]
    simp only [w_var, lvD_dat, List.getElem?_cons_zero, List.getElem?_cons_succ, w_c, w_op, w_un, w_test, w_gand, w_gor, w_gnot, w_gyes, w_and, w_or, w_not, w_if, w_nil, w_cons, w_tup, w_lst, w_folst, w_folist, w_cb, w_fd, w_call, w_ocall, ovO_own, w_get, w_args, w_items, w_part, intO_int, w_nopart, w_cut, w_folc, q_seq, q_nx, q_bk, q_ct, q_set, q_setO, q_tg, q_ret, q_retO, q_retN, q_drop, q_if, q_par, q_par3, q_put, q_app, q_for, twoO_two, triO_tri, w_rD, w_rO, lvR_d, lvR_o, q_parR, q_setAt, w_lenv, lenO_o, lenO_l, lenO_t, w_gown, ownL_at, lstO_l, m_oListL, m_oListT, q_appPop, w_intbl, w_attbl, w_callv, fnD_fn, w_tuprg, q_star, q_aug, strD_str, starO_c, rgO_int, m_mulS, m_int1i, m_int1b, m_gseqT, m_gseqL, seqP_nx, seqP_rt, seqP_bk, seqP_ct, seqP_xc, midP_nx, midP_rt, midP_bk, midP_ct, midP_xc, fnP_nx, fnP_rt, fnP_xc, rdP_nx, rdP_ct, rdP_bk, rdP_rt, rdP_xc, op_some, op_none, op_ite, op_map, op_bind, ok_ret, ok_some, m_lt, m_le, m_gt, m_ge, m_add, m_addT, m_addL, m_sub, m_mulI, m_mod, m_fdivS, m_powS, m_neg, m_bool, m_abs, m_min2, m_max2, m_lenL, m_lenT, m_lenI, m_tupL, m_tupT, m_lstL, m_lstT, m_rv1, m_rv2, m_ov, m_key, m_kds, m_so, m_rng1, m_gset, m_gtup, m_gsc, m_gsn, m_zipL, m_zipT, m_itL, m_itT, m_cutT, m_cutL, eq_I, ne_I, no_nil, no_cons, no_un, no_dat, wi_nil, wi_cons, Bool.and_true, Bool.true_and, Bool.and_self, and_self, List.set_cons_zero, List.set_cons_succ, List.length_cons, List.length_nil, m_line, Nat.reduceAdd, Nat.reduceLeDiff, Nat.reduceLT, Int.reduceLE, Int.reduceLT, Int.reduceToNat, Int.reducePow, Nat.reducePow, Int.reduceNeg, Int.reduceMul, Int.reduceAdd, Int.reduceSub, Nat.reduceMul, Nat.reduceSub, Int.reduceMod, Int.reduceDiv, Nat.zero_add, true_and, and_true, if_true, if_false, reduceCtorEq, false_implies, forall_const, true_implies, implies_true, decide_eq_true_eq, decide_eq_false_iff_not, beq_iff_eq, beq_eq_false_iff_ne, ne_eq, Bool.not_eq_true, List.append_eq, List.cons_append, List.nil_append]
    exact fin
theorem least_ok {n : Nat} {t : List Int} {g : Gs} {P : RV → Gs → Prop} {E : Exn → Gs → Prop} (ht : Thg n t) (fin : P (.dat (.int (minI t))) g) : Ok (g_least [iT t] g) P E := by
  unfold g_least
  rw [w_fn]
  show SOk (sRet _ [.dat (.tup (t.map .int))] _) _
  simp only [w_var, lvD_dat, List.getElem?_cons_zero, List.getElem?_cons_succ, w_c, w_op, w_un, w_test, w_gand, w_gor, w_gnot, w_gyes, w_and, w_or, w_not, w_if, w_nil, w_cons, w_tup, w_lst, w_folst, w_folist, w_cb, w_fd, w_call, w_ocall, ovO_own, w_get, w_args, w_items, w_part, intO_int, w_nopart, w_cut, w_folc, q_seq, q_nx, q_bk, q_ct, q_set, q_setO, q_tg, q_ret, q_retO, q_retN, q_drop, q_if, q_par, q_par3, q_put, q_app, q_for, twoO_two, triO_tri, w_rD, w_rO, lvR_d, lvR_o, q_parR, q_setAt, w_lenv, lenO_o, lenO_l, lenO_t, w_gown, ownL_at, lstO_l, m_oListL, m_oListT, q_appPop, w_intbl, w_attbl, w_callv, fnD_fn, w_tuprg, q_star, q_aug, strD_str, starO_c, rgO_int, m_mulS, m_int1i, m_int1b, m_gseqT, m_gseqL, seqP_nx, seqP_rt, seqP_bk, seqP_ct, seqP_xc, midP_nx, midP_rt, midP_bk, midP_ct, midP_xc, fnP_nx, fnP_rt, fnP_xc, rdP_nx, rdP_ct, rdP_bk, rdP_rt, rdP_xc, op_some, op_none, op_ite, op_map, op_bind, ok_ret, ok_some, m_lt, m_le, m_gt, m_ge, m_add, m_addT, m_addL, m_sub, m_mulI, m_mod, m_fdivS, m_powS, m_neg, m_bool, m_abs, m_min2, m_max2, m_lenL, m_lenT, m_lenI, m_tupL, m_tupT, m_lstL, m_lstT, m_rv1, m_rv2, m_ov, m_key, m_kds, m_so, m_rng1, m_gset, m_gtup, m_gsc, m_gsn, m_zipL, m_zipT, m_itL, m_itT, m_cutT, m_cutL, eq_I, ne_I, no_nil, no_cons, no_un, no_dat, wi_nil, wi_cons, Bool.and_true, Bool.true_and, Bool.and_self, and_self, List.set_cons_zero, List.set_cons_succ, List.length_cons, List.length_nil, m_line, Nat.reduceAdd, Nat.reduceLeDiff, Nat.reduceLT, Int.reduceLE, Int.reduceLT, Int.reduceToNat, Int.reducePow, Nat.reducePow, Int.reduceNeg, Int.reduceMul, Int.reduceAdd, Int.reduceSub, Nat.reduceMul, Nat.reduceSub, Int.reduceMod, Int.reduceDiv, Nat.zero_add, true_and, and_true, if_true, if_false, reduceCtorEq, false_implies, forall_const, true_implies, implies_true, decide_eq_true_eq, decide_eq_false_iff_not, beq_iff_eq, beq_eq_false_iff_ne, ne_eq, Bool.not_eq_true, List.append_eq, List.cons_append, List.nil_append, ext_T ht.ne]
  exact fin
theorem greatest_ok {n : Nat} {t : List Int} {g : Gs} {P : RV → Gs → Prop} {E : Exn → Gs → Prop} (ht : Thg n t) (fin : P (.dat (.int (maxI t))) g) : Ok (g_greatest [iT t] g) P E := by
  unfold g_greatest
  rw [w_fn]
  show SOk (sRet _ [.dat (.tup (t.map .int))] _) _
  simp only [w_var, lvD_dat, List.getElem?_cons_zero, List.getElem?_cons_succ, w_c, w_op, w_un, w_test, w_gand, w_gor, w_gnot, w_gyes, w_and, w_or, w_not, w_if, w_nil, w_cons, w_tup, w_lst, w_folst, w_folist, w_cb, w_fd, w_call, w_ocall, ovO_own, w_get, w_args, w_items, w_part, intO_int, w_nopart, w_cut, w_folc, q_seq, q_nx, q_bk, q_ct, q_set, q_setO, q_tg, q_ret, q_retO, q_retN, q_drop, q_if, q_par, q_par3, q_put, q_app, q_for, twoO_two, triO_tri, w_rD, w_rO, lvR_d, lvR_o, q_parR, q_setAt, w_lenv, lenO_o, lenO_l, lenO_t, w_gown, ownL_at, lstO_l, m_oListL, m_oListT, q_appPop, w_intbl, w_attbl, w_callv, fnD_fn, w_tuprg, q_star, q_aug, strD_str, starO_c, rgO_int, m_mulS, m_int1i, m_int1b, m_gseqT, m_gseqL, seqP_nx, seqP_rt, seqP_bk, seqP_ct, seqP_xc, midP_nx, midP_rt, midP_bk, midP_ct, midP_xc, fnP_nx, fnP_rt, fnP_xc, rdP_nx, rdP_ct, rdP_bk, rdP_rt, rdP_xc, op_some, op_none, op_ite, op_map, op_bind, ok_ret, ok_some, m_lt, m_le, m_gt, m_ge, m_add, m_addT, m_addL, m_sub, m_mulI, m_mod, m_fdivS, m_powS, m_neg, m_bool, m_abs, m_min2, m_max2, m_lenL, m_lenT, m_lenI, m_tupL, m_tupT, m_lstL, m_lstT, m_rv1, m_rv2, m_ov, m_key, m_kds, m_so, m_rng1, m_gset, m_gtup, m_gsc, m_gsn, m_zipL, m_zipT, m_itL, m_itT, m_cutT, m_cutL, eq_I, ne_I, no_nil, no_cons, no_un, no_dat, wi_nil, wi_cons, Bool.and_true, Bool.true_and, Bool.and_self, and_self, List.set_cons_zero, List.set_cons_succ, List.length_cons, List.length_nil, m_line, Nat.reduceAdd, Nat.reduceLeDiff, Nat.reduceLT, Int.reduceLE, Int.reduceLT, Int.reduceToNat, Int.reducePow, Nat.reducePow, Int.reduceNeg, Int.reduceMul, Int.reduceAdd, Int.reduceSub, Nat.reduceMul, Nat.reduceSub, Int.reduceMod, Int.reduceDiv, Nat.zero_add, true_and, and_true, if_true, if_false, reduceCtorEq, false_implies, forall_const, true_implies, implies_true, decide_eq_true_eq, decide_eq_false_iff_not, beq_iff_eq, beq_eq_false_iff_ne, ne_eq, Bool.not_eq_true, List.append_eq, List.cons_append, List.nil_append, ext_T ht.ne]
  exact fin
theorem qe_times_sum : dEq (.str (Str.ofString "times")) (.str (Str.ofString "sum")) = some (.bl false) := congrArg (fun k => some (D.bl k)) (by decide +kernel)
theorem qe_low_sum : dEq (.str (Str.ofString "low")) (.str (Str.ofString "sum")) = some (.bl false) := congrArg (fun k => some (D.bl k)) (by decide +kernel)
theorem qe_high_sum : dEq (.str (Str.ofString "high")) (.str (Str.ofString "sum")) = some (.bl false) := congrArg (fun k => some (D.bl k)) (by decide +kernel)
theorem qe_sum_sum : dEq (.str (Str.ofString "sum")) (.str (Str.ofString "sum")) = some (.bl true) := congrArg (fun k => some (D.bl k)) (by decide +kernel)
theorem qe_add_sum : dEq (.str (Str.ofString "add")) (.str (Str.ofString "sum")) = some (.bl false) := congrArg (fun k => some (D.bl k)) (by decide +kernel)
theorem qe_lesser_sum : dEq (.str (Str.ofString "lesser")) (.str (Str.ofString "sum")) = some (.bl false) := congrArg (fun k => some (D.bl k)) (by decide +kernel)
theorem qe_greater_sum : dEq (.str (Str.ofString "greater")) (.str (Str.ofString "sum")) = some (.bl false) := congrArg (fun k => some (D.bl k)) (by decide +kernel)
theorem qe_times_add : dEq (.str (Str.ofString "times")) (.str (Str.ofString "add")) = some (.bl false) := congrArg (fun k => some (D.bl k)) (by decide +kernel)
theorem qe_low_add : dEq (.str (Str.ofString "low")) (.str (Str.ofString "add")) = some (.bl false) := congrArg (fun k => some (D.bl k)) (by decide +kernel)
theorem qe_high_add : dEq (.str (Str.ofString "high")) (.str (Str.ofString "add")) = some (.bl false) := congrArg (fun k => some (D.bl k)) (by decide +kernel)
theorem qe_sum_add : dEq (.str (Str.ofString "sum")) (.str (Str.ofString "add")) = some (.bl false) := congrArg (fun k => some (D.bl k)) (by decide +kernel)
theorem qe_add_add : dEq (.str (Str.ofString "add")) (.str (Str.ofString "add")) = some (.bl true) := congrArg (fun k => some (D.bl k)) (by decide +kernel)
theorem qe_lesser_add : dEq (.str (Str.ofString "lesser")) (.str (Str.ofString "add")) = some (.bl false) := congrArg (fun k => some (D.bl k)) (by decide +kernel)
theorem qe_greater_add : dEq (.str (Str.ofString "greater")) (.str (Str.ofString "add")) = some (.bl false) := congrArg (fun k => some (D.bl k)) (by decide +kernel)
theorem qe_times_lesser : dEq (.str (Str.ofString "times")) (.str (Str.ofString "lesser")) = some (.bl false) := congrArg (fun k => some (D.bl k)) (by decide +kernel)
theorem qe_low_lesser : dEq (.str (Str.ofString "low")) (.str (Str.ofString "lesser")) = some (.bl false) := congrArg (fun k => some (D.bl k)) (by decide +kernel)
theorem qe_high_lesser : dEq (.str (Str.ofString "high")) (.str (Str.ofString "lesser")) = some (.bl false) := congrArg (fun k => some (D.bl k)) (by decide +kernel)
theorem qe_sum_lesser : dEq (.str (Str.ofString "sum")) (.str (Str.ofString "lesser")) = some (.bl false) := congrArg (fun k => some (D.bl k)) (by decide +kernel)
theorem qe_add_lesser : dEq (.str (Str.ofString "add")) (.str (Str.ofString "lesser")) = some (.bl false) := congrArg (fun k => some (D.bl k)) (by decide +kernel)
theorem qe_lesser_lesser : dEq (.str (Str.ofString "lesser")) (.str (Str.ofString "lesser")) = some (.bl true) := congrArg (fun k => some (D.bl k)) (by decide +kernel)
theorem qe_greater_lesser : dEq (.str (Str.ofString "greater")) (.str (Str.ofString "lesser")) = some (.bl false) := congrArg (fun k => some (D.bl k)) (by decide +kernel)
theorem qe_times_times : dEq (.str (Str.ofString "times")) (.str (Str.ofString "times")) = some (.bl true) := congrArg (fun k => some (D.bl k)) (by decide +kernel)
theorem qe_low_times : dEq (.str (Str.ofString "low")) (.str (Str.ofString "times")) = some (.bl false) := congrArg (fun k => some (D.bl k)) (by decide +kernel)
theorem qe_high_times : dEq (.str (Str.ofString "high")) (.str (Str.ofString "times")) = some (.bl false) := congrArg (fun k => some (D.bl k)) (by decide +kernel)
theorem qe_sum_times : dEq (.str (Str.ofString "sum")) (.str (Str.ofString "times")) = some (.bl false) := congrArg (fun k => some (D.bl k)) (by decide +kernel)
theorem qe_add_times : dEq (.str (Str.ofString "add")) (.str (Str.ofString "times")) = some (.bl false) := congrArg (fun k => some (D.bl k)) (by decide +kernel)
theorem qe_lesser_times : dEq (.str (Str.ofString "lesser")) (.str (Str.ofString "times")) = some (.bl false) := congrArg (fun k => some (D.bl k)) (by decide +kernel)
theorem qe_greater_times : dEq (.str (Str.ofString "greater")) (.str (Str.ofString "times")) = some (.bl false) := congrArg (fun k => some (D.bl k)) (by decide +kernel)
theorem qe_times_low : dEq (.str (Str.ofString "times")) (.str (Str.ofString "low")) = some (.bl false) := congrArg (fun k => some (D.bl k)) (by decide +kernel)
theorem qe_low_low : dEq (.str (Str.ofString "low")) (.str (Str.ofString "low")) = some (.bl true) := congrArg (fun k => some (D.bl k)) (by decide +kernel)
theorem qe_high_low : dEq (.str (Str.ofString "high")) (.str (Str.ofString "low")) = some (.bl false) := congrArg (fun k => some (D.bl k)) (by decide +kernel)
theorem qe_sum_low : dEq (.str (Str.ofString "sum")) (.str (Str.ofString "low")) = some (.bl false) := congrArg (fun k => some (D.bl k)) (by decide +kernel)
theorem qe_add_low : dEq (.str (Str.ofString "add")) (.str (Str.ofString "low")) = some (.bl false) := congrArg (fun k => some (D.bl k)) (by decide +kernel)
theorem qe_lesser_low : dEq (.str (Str.ofString "lesser")) (.str (Str.ofString "low")) = some (.bl false) := congrArg (fun k => some (D.bl k)) (by decide +kernel)
theorem qe_greater_low : dEq (.str (Str.ofString "greater")) (.str (Str.ofString "low")) = some (.bl false) := congrArg (fun k => some (D.bl k)) (by decide +kernel)
theorem qi_times : dIn (.str (Str.ofString "times")) (.tup [.str (Str.ofString "low"), .str (Str.ofString "high")]) = some (.bl false) := rfl
theorem qi_low : dIn (.str (Str.ofString "low")) (.tup [.str (Str.ofString "low"), .str (Str.ofString "high")]) = some (.bl true) := rfl
theorem qi_high : dIn (.str (Str.ofString "high")) (.tup [.str (Str.ofString "low"), .str (Str.ofString "high")]) = some (.bl true) := rfl
theorem qi_sum : dIn (.str (Str.ofString "sum")) (.tup [.str (Str.ofString "low"), .str (Str.ofString "high")]) = some (.bl false) := rfl
theorem qi_add : dIn (.str (Str.ofString "add")) (.tup [.str (Str.ofString "low"), .str (Str.ofString "high")]) = some (.bl false) := rfl
theorem qi_lesser : dIn (.str (Str.ofString "lesser")) (.tup [.str (Str.ofString "low"), .str (Str.ofString "high")]) = some (.bl false) := rfl
theorem qi_greater : dIn (.str (Str.ofString "greater")) (.tup [.str (Str.ofString "low"), .str (Str.ofString "high")]) = some (.bl false) := rfl
theorem ix0 {d : D} {ds : List D} : dIx (.lst (d :: ds)) (.int 0) = some d := by
  show atI (d :: ds) 0 = _
  unfold atI ixN
  rw [if_pos (by decide), if_pos (by simp only [List.length_cons]; omega)]
  rfl
theorem ix0T {d : D} {ds : List D} : dIx (.tup (d :: ds)) (.int 0) = some d := by
  show atI (d :: ds) 0 = _
  unfold atI ixN
  rw [if_pos (by decide), if_pos (by simp only [List.length_cons]; omega)]
  rfl
theorem ix1T {d e : D} {ds : List D} : dIx (.tup (d :: e :: ds)) (.int 1) = some e := by
  show atI (d :: e :: ds) 1 = _
  unfold atI ixN
  rw [if_pos (by decide), if_pos (by simp only [List.length_cons]; omega)]
  rfl
theorem ix2T {d e f : D} {ds : List D} : dIx (.tup (d :: e :: f :: ds)) (.int 2) = some f := by
  show atI (d :: e :: f :: ds) 2 = _
  unfold atI ixN
  rw [if_pos (by decide), if_pos (by simp only [List.length_cons]; omega)]
  rfl
theorem ix1 {d e : D} {ds : List D} : dIx (.lst (d :: e :: ds)) (.int 1) = some e := by
  show atI (d :: e :: ds) 1 = _
  unfold atI ixN
  rw [if_pos (by decide), if_pos (by simp only [List.length_cons]; omega)]
  rfl
theorem lk1 : tblLook g_tb (Str.ofString "times") = some (Str.ofString "product_of") := rfl
theorem lk2 : tblLook g_tb (Str.ofString "low") = some (Str.ofString "least_measure") := rfl
theorem lk3 : tblLook g_tb (Str.ofString "high") = some (Str.ofString "greatest_measure") := rfl
theorem lk4 : tblLook g_tb (Str.ofString "sum") = none := rfl
theorem lk5 : tblLook g_tb (Str.ofString "add") = none := rfl
theorem lk6 : tblLook g_tb (Str.ofString "lesser") = none := rfl
theorem lk7 : tblLook g_tb (Str.ofString "greater") = none := rfl
theorem tab1 : g_tab (Str.ofString "product_of") = g_product := rfl
theorem tab2 : g_tab (Str.ofString "least_measure") = g_least := by unfold g_tab; rw [if_neg (by decide), if_pos rfl]
theorem tab3 : g_tab (Str.ofString "greatest_measure") = g_greatest := by unfold g_tab; rw [if_neg (by decide), if_neg (by decide), if_pos rfl]
theorem worth_ok {n : Nat} {t : List Int} (ht : Thg n t) : ∀ (k : Nat) (s : Sc) {g : Gs} {P : RV → Gs → Prop} {E : Exn → Gs → Prop}, s.dep ≤ k → s.Okn n → P (.dat (.int (s.val t))) g → Ok (g_worth k [s.d, iT t] g) P E
  | 0, s, g, P, E, hk, _, _ => by cases s <;> simp [Sc.dep] at hk
  | k + 1, s, g, P, E, hk, hs, fin => by
    show Ok (fnF 10 (gb_worth (g_worth k)) _ _) _ _
    rw [w_fn]
    unfold gb_worth
    have st : ∀ (w : Str) (xs : List D) (Q : Fl → Gs → Prop), xs.length ≤ 16383 → Q (.nx [.dat (.tup (.str w :: xs)), .dat (iT t), .dat (.str w), .dat (.lst xs), .un, .un, .un, .un, .un, .un]) g → SOk (sStar 2 3 (fVar 0) [.dat (.tup (.str w :: xs)), .dat (iT t), .un, .un, .un, .un, .un, .un, .un, .un] g) Q := fun w xs Q hl h => by
      simp only [w_var, lvD_dat, List.getElem?_cons_zero, List.getElem?_cons_succ, w_c, w_op, w_un, w_test, w_gand, w_gor, w_gnot, w_gyes, w_and, w_or, w_not, w_if, w_nil, w_cons, w_tup, w_lst, w_folst, w_folist, w_cb, w_fd, w_call, w_ocall, ovO_own, w_get, w_args, w_items, w_part, intO_int, w_nopart, w_cut, w_folc, q_seq, q_nx, q_bk, q_ct, q_set, q_setO, q_tg, q_ret, q_retO, q_retN, q_drop, q_if, q_par, q_par3, q_put, q_app, q_for, twoO_two, triO_tri, w_rD, w_rO, lvR_d, lvR_o, q_parR, q_setAt, w_lenv, lenO_o, lenO_l, lenO_t, w_gown, ownL_at, lstO_l, m_oListL, m_oListT, q_appPop, w_intbl, w_attbl, w_callv, fnD_fn, w_tuprg, q_star, q_aug, strD_str, starO_c, rgO_int, m_mulS, m_int1i, m_int1b, m_gseqT, m_gseqL, seqP_nx, seqP_rt, seqP_bk, seqP_ct, seqP_xc, midP_nx, midP_rt, midP_bk, midP_ct, midP_xc, fnP_nx, fnP_rt, fnP_xc, rdP_nx, rdP_ct, rdP_bk, rdP_rt, rdP_xc, op_some, op_none, op_ite, op_map, op_bind, ok_ret, ok_some, m_lt, m_le, m_gt, m_ge, m_add, m_addT, m_addL, m_sub, m_mulI, m_mod, m_fdivS, m_powS, m_neg, m_bool, m_abs, m_min2, m_max2, m_lenL, m_lenT, m_lenI, m_tupL, m_tupT, m_lstL, m_lstT, m_rv1, m_rv2, m_ov, m_key, m_kds, m_so, m_rng1, m_gset, m_gtup, m_gsc, m_gsn, m_zipL, m_zipT, m_itL, m_itT, m_cutT, m_cutL, eq_I, ne_I, no_nil, no_cons, no_un, no_dat, wi_nil, wi_cons, Bool.and_true, Bool.true_and, Bool.and_self, and_self, List.set_cons_zero, List.set_cons_succ, List.length_cons, List.length_nil, m_line, Nat.reduceAdd, Nat.reduceLeDiff, Nat.reduceLT, Int.reduceLE, Int.reduceLT, Int.reduceToNat, Int.reducePow, Nat.reducePow, Int.reduceNeg, Int.reduceMul, Int.reduceAdd, Int.reduceSub, Nat.reduceMul, Nat.reduceSub, Int.reduceMod, Int.reduceDiv, Nat.zero_add, true_and, and_true, if_true, if_false, reduceCtorEq, false_implies, forall_const, true_implies, implies_true, decide_eq_true_eq, decide_eq_false_iff_not, beq_iff_eq, beq_eq_false_iff_ne, ne_eq, Bool.not_eq_true, List.append_eq, List.cons_append, List.nil_append]
      exact ⟨hl, h⟩
    have two : ∀ (w : String) (a b : Sc) (v : Int), max a.dep b.dep + 1 ≤ k + 1 → a.Okn n → b.Okn n → tblLook g_tb (Str.ofString w) = none → dEq (.str (Str.ofString w)) (.str (Str.ofString "sum")) = some (.bl false) →
        SOk (sSeq (sIf (fTest (fOp dEq (fVar 2) (fC (.str "add")))) (sRet (fOp dAdd (fVar 5) (fVar 6))) (sNx))
          (sRet (fIf (fTest (fOp dEq (fVar 2) (fC (.str "lesser")))) (fCB dMin2 (lCons (fVar 5) (lCons (fVar 6) (lNil)))) (fCB dMax2 (lCons (fVar 5) (lCons (fVar 6) (lNil))))))
          [.dat (.tup [.str (Str.ofString w), a.d, b.d]), .dat (iT t), .dat (.str (Str.ofString w)), .dat (.lst [a.d, b.d]), .un, .dat (.int (a.val t)), .dat (.int (b.val t)), .un, .un, .un] g) (fnP P E) →
        Ok (g_worth (k + 1) [.tup [.str (Str.ofString w), a.d, b.d], iT t] g) P E := fun w a b v hd oa ob h1 h2 h3 => by
      show Ok (fnF 10 (gb_worth (g_worth k)) _ _) _ _
      rw [w_fn]
      unfold gb_worth
      rw [q_seq]
      refine st _ [a.d, b.d] _ (by simp) ?_
      rw [seqP_nx, q_seq]
      simp only [w_var, lvD_dat, List.getElem?_cons_zero, List.getElem?_cons_succ, w_c, w_op, w_un, w_test, w_gand, w_gor, w_gnot, w_gyes, w_and, w_or, w_not, w_if, w_nil, w_cons, w_tup, w_lst, w_folst, w_folist, w_cb, w_fd, w_call, w_ocall, ovO_own, w_get, w_args, w_items, w_part, intO_int, w_nopart, w_cut, w_folc, q_nx, q_bk, q_ct, q_set, q_setO, q_tg, q_ret, q_retO, q_retN, q_drop, q_if, q_par, q_par3, q_put, q_app, q_for, twoO_two, triO_tri, w_rD, w_rO, lvR_d, lvR_o, q_parR, q_setAt, w_lenv, lenO_o, lenO_l, lenO_t, w_gown, ownL_at, lstO_l, m_oListL, m_oListT, q_appPop, w_intbl, w_attbl, w_callv, fnD_fn, w_tuprg, q_star, q_aug, strD_str, starO_c, rgO_int, m_mulS, m_int1i, m_int1b, m_gseqT, m_gseqL, seqP_rt, seqP_bk, seqP_ct, seqP_xc, midP_nx, midP_rt, midP_bk, midP_ct, midP_xc, fnP_nx, fnP_rt, fnP_xc, rdP_nx, rdP_ct, rdP_bk, rdP_rt, rdP_xc, op_some, op_none, op_ite, op_map, op_bind, ok_ret, ok_some, m_lt, m_le, m_gt, m_ge, m_add, m_addT, m_addL, m_sub, m_mulI, m_mod, m_fdivS, m_powS, m_neg, m_bool, m_abs, m_min2, m_max2, m_lenL, m_lenT, m_lenI, m_tupL, m_tupT, m_lstL, m_lstT, m_rv1, m_rv2, m_ov, m_key, m_kds, m_so, m_rng1, m_gset, m_gtup, m_gsc, m_gsn, m_zipL, m_zipT, m_itL, m_itT, m_cutT, m_cutL, eq_I, ne_I, no_nil, no_cons, no_un, no_dat, wi_nil, wi_cons, Bool.and_true, Bool.true_and, Bool.and_self, and_self, List.set_cons_zero, List.set_cons_succ, List.length_cons, List.length_nil, m_line, Nat.reduceAdd, Nat.reduceLeDiff, Nat.reduceLT, Int.reduceLE, Int.reduceLT, Int.reduceToNat, Int.reducePow, Nat.reducePow, Int.reduceNeg, Int.reduceMul, Int.reduceAdd, Int.reduceSub, Nat.reduceMul, Nat.reduceSub, Int.reduceMod, Int.reduceDiv, Nat.zero_add, true_and, and_true, if_true, if_false, reduceCtorEq, false_implies, forall_const, true_implies, implies_true, decide_eq_true_eq, decide_eq_false_iff_not, beq_iff_eq, beq_eq_false_iff_ne, ne_eq, Bool.not_eq_true, List.append_eq, List.cons_append, List.nil_append, h1, Option.isSome_none]
      rw [seqP_nx, q_seq]
      simp only [w_var, lvD_dat, List.getElem?_cons_zero, List.getElem?_cons_succ, w_c, w_op, w_un, w_test, w_gand, w_gor, w_gnot, w_gyes, w_and, w_or, w_not, w_if, w_nil, w_cons, w_tup, w_lst, w_folst, w_folist, w_cb, w_fd, w_call, w_ocall, ovO_own, w_get, w_args, w_items, w_part, intO_int, w_nopart, w_cut, w_folc, q_nx, q_bk, q_ct, q_set, q_setO, q_tg, q_ret, q_retO, q_retN, q_drop, q_if, q_par, q_par3, q_put, q_app, q_for, twoO_two, triO_tri, w_rD, w_rO, lvR_d, lvR_o, q_parR, q_setAt, w_lenv, lenO_o, lenO_l, lenO_t, w_gown, ownL_at, lstO_l, m_oListL, m_oListT, q_appPop, w_intbl, w_attbl, w_callv, fnD_fn, w_tuprg, q_star, q_aug, strD_str, starO_c, rgO_int, m_mulS, m_int1i, m_int1b, m_gseqT, m_gseqL, seqP_rt, seqP_bk, seqP_ct, seqP_xc, midP_nx, midP_rt, midP_bk, midP_ct, midP_xc, fnP_nx, fnP_rt, fnP_xc, rdP_nx, rdP_ct, rdP_bk, rdP_rt, rdP_xc, op_some, op_none, op_ite, op_map, op_bind, ok_ret, ok_some, m_lt, m_le, m_gt, m_ge, m_add, m_addT, m_addL, m_sub, m_mulI, m_mod, m_fdivS, m_powS, m_neg, m_bool, m_abs, m_min2, m_max2, m_lenL, m_lenT, m_lenI, m_tupL, m_tupT, m_lstL, m_lstT, m_rv1, m_rv2, m_ov, m_key, m_kds, m_so, m_rng1, m_gset, m_gtup, m_gsc, m_gsn, m_zipL, m_zipT, m_itL, m_itT, m_cutT, m_cutL, eq_I, ne_I, no_nil, no_cons, no_un, no_dat, wi_nil, wi_cons, Bool.and_true, Bool.true_and, Bool.and_self, and_self, List.set_cons_zero, List.set_cons_succ, List.length_cons, List.length_nil, m_line, Nat.reduceAdd, Nat.reduceLeDiff, Nat.reduceLT, Int.reduceLE, Int.reduceLT, Int.reduceToNat, Int.reducePow, Nat.reducePow, Int.reduceNeg, Int.reduceMul, Int.reduceAdd, Int.reduceSub, Nat.reduceMul, Nat.reduceSub, Int.reduceMod, Int.reduceDiv, Nat.zero_add, true_and, and_true, if_true, if_false, reduceCtorEq, false_implies, forall_const, true_implies, implies_true, decide_eq_true_eq, decide_eq_false_iff_not, beq_iff_eq, beq_eq_false_iff_ne, ne_eq, Bool.not_eq_true, List.append_eq, List.cons_append, List.nil_append, h2]
      rw [seqP_nx, q_seq]
      simp only [w_var, lvD_dat, List.getElem?_cons_zero, List.getElem?_cons_succ, w_c, w_op, w_un, w_test, w_gand, w_gor, w_gnot, w_gyes, w_and, w_or, w_not, w_if, w_nil, w_cons, w_tup, w_lst, w_folst, w_folist, w_cb, w_fd, w_call, w_ocall, ovO_own, w_get, w_args, w_items, w_part, intO_int, w_nopart, w_cut, w_folc, q_nx, q_bk, q_ct, q_set, q_setO, q_tg, q_ret, q_retO, q_retN, q_drop, q_if, q_par, q_par3, q_put, q_app, q_for, twoO_two, triO_tri, w_rD, w_rO, lvR_d, lvR_o, q_parR, q_setAt, w_lenv, lenO_o, lenO_l, lenO_t, w_gown, ownL_at, lstO_l, m_oListL, m_oListT, q_appPop, w_intbl, w_attbl, w_callv, fnD_fn, w_tuprg, q_star, q_aug, strD_str, starO_c, rgO_int, m_mulS, m_int1i, m_int1b, m_gseqT, m_gseqL, seqP_rt, seqP_bk, seqP_ct, seqP_xc, midP_nx, midP_rt, midP_bk, midP_ct, midP_xc, fnP_nx, fnP_rt, fnP_xc, rdP_nx, rdP_ct, rdP_bk, rdP_rt, rdP_xc, op_some, op_none, op_ite, op_map, op_bind, ok_ret, ok_some, m_lt, m_le, m_gt, m_ge, m_add, m_addT, m_addL, m_sub, m_mulI, m_mod, m_fdivS, m_powS, m_neg, m_bool, m_abs, m_min2, m_max2, m_lenL, m_lenT, m_lenI, m_tupL, m_tupT, m_lstL, m_lstT, m_rv1, m_rv2, m_ov, m_key, m_kds, m_so, m_rng1, m_gset, m_gtup, m_gsc, m_gsn, m_zipL, m_zipT, m_itL, m_itT, m_cutT, m_cutL, eq_I, ne_I, no_nil, no_cons, no_un, no_dat, wi_nil, wi_cons, Bool.and_true, Bool.true_and, Bool.and_self, and_self, List.set_cons_zero, List.set_cons_succ, List.length_cons, List.length_nil, m_line, Nat.reduceAdd, Nat.reduceLeDiff, Nat.reduceLT, Int.reduceLE, Int.reduceLT, Int.reduceToNat, Int.reducePow, Nat.reducePow, Int.reduceNeg, Int.reduceMul, Int.reduceAdd, Int.reduceSub, Nat.reduceMul, Nat.reduceSub, Int.reduceMod, Int.reduceDiv, Nat.zero_add, true_and, and_true, if_true, if_false, reduceCtorEq, false_implies, forall_const, true_implies, implies_true, decide_eq_true_eq, decide_eq_false_iff_not, beq_iff_eq, beq_eq_false_iff_ne, ne_eq, Bool.not_eq_true, List.append_eq, List.cons_append, List.nil_append]
      refine lc_map (xs := [a, b]) (k := Sc.d) (h := fun s => .int (s.val t)) (fun x hx => ?_) ?_
      · simp only [w_var, lvD_dat, List.getElem?_cons_zero, List.getElem?_cons_succ, w_c, w_op, w_un, w_test, w_gand, w_gor, w_gnot, w_gyes, w_and, w_or, w_not, w_if, w_nil, w_cons, w_tup, w_lst, w_folst, w_folist, w_cb, w_fd, w_call, w_ocall, ovO_own, w_get, w_args, w_items, w_part, intO_int, w_nopart, w_cut, w_folc, q_seq, q_nx, q_bk, q_ct, q_set, q_setO, q_tg, q_ret, q_retO, q_retN, q_drop, q_if, q_par, q_par3, q_put, q_app, q_for, twoO_two, triO_tri, w_rD, w_rO, lvR_d, lvR_o, q_parR, q_setAt, w_lenv, lenO_o, lenO_l, lenO_t, w_gown, ownL_at, lstO_l, m_oListL, m_oListT, q_appPop, w_intbl, w_attbl, w_callv, fnD_fn, w_tuprg, q_star, q_aug, strD_str, starO_c, rgO_int, m_mulS, m_int1i, m_int1b, m_gseqT, m_gseqL, seqP_nx, seqP_rt, seqP_bk, seqP_ct, seqP_xc, midP_nx, midP_rt, midP_bk, midP_ct, midP_xc, fnP_nx, fnP_rt, fnP_xc, rdP_nx, rdP_ct, rdP_bk, rdP_rt, rdP_xc, op_some, op_none, op_ite, op_map, op_bind, ok_ret, ok_some, m_lt, m_le, m_gt, m_ge, m_add, m_addT, m_addL, m_sub, m_mulI, m_mod, m_fdivS, m_powS, m_neg, m_bool, m_abs, m_min2, m_max2, m_lenL, m_lenT, m_lenI, m_tupL, m_tupT, m_lstL, m_lstT, m_rv1, m_rv2, m_ov, m_key, m_kds, m_so, m_rng1, m_gset, m_gtup, m_gsc, m_gsn, m_zipL, m_zipT, m_itL, m_itT, m_cutT, m_cutL, eq_I, ne_I, no_nil, no_cons, no_un, no_dat, wi_nil, wi_cons, Bool.and_true, Bool.true_and, Bool.and_self, and_self, List.set_cons_zero, List.set_cons_succ, List.length_cons, List.length_nil, m_line, Nat.reduceAdd, Nat.reduceLeDiff, Nat.reduceLT, Int.reduceLE, Int.reduceLT, Int.reduceToNat, Int.reducePow, Nat.reducePow, Int.reduceNeg, Int.reduceMul, Int.reduceAdd, Int.reduceSub, Nat.reduceMul, Nat.reduceSub, Int.reduceMod, Int.reduceDiv, Nat.zero_add, true_and, and_true, if_true, if_false, reduceCtorEq, false_implies, forall_const, true_implies, implies_true, decide_eq_true_eq, decide_eq_false_iff_not, beq_iff_eq, beq_eq_false_iff_ne, ne_eq, Bool.not_eq_true, List.append_eq, List.cons_append, List.nil_append]
        refine worth_ok ht k x ?_ ?_ ⟨rfl, rfl⟩
        · simp only [List.mem_cons, List.not_mem_nil, or_false] at hx
          rcases hx with rfl | rfl <;> omega
        · simp only [List.mem_cons, List.not_mem_nil, or_false] at hx
          rcases hx with rfl | rfl
          · exact oa
          · exact ob
      · simp only [w_var, lvD_dat, List.getElem?_cons_zero, List.getElem?_cons_succ, w_c, w_op, w_un, w_test, w_gand, w_gor, w_gnot, w_gyes, w_and, w_or, w_not, w_if, w_nil, w_cons, w_tup, w_lst, w_folst, w_folist, w_cb, w_fd, w_call, w_ocall, ovO_own, w_get, w_args, w_items, w_part, intO_int, w_nopart, w_cut, w_folc, q_nx, q_bk, q_ct, q_set, q_setO, q_tg, q_ret, q_retO, q_retN, q_drop, q_if, q_par, q_par3, q_put, q_app, q_for, twoO_two, triO_tri, w_rD, w_rO, lvR_d, lvR_o, q_parR, q_setAt, w_lenv, lenO_o, lenO_l, lenO_t, w_gown, ownL_at, lstO_l, m_oListL, m_oListT, q_appPop, w_intbl, w_attbl, w_callv, fnD_fn, w_tuprg, q_star, q_aug, strD_str, starO_c, rgO_int, m_mulS, m_int1i, m_int1b, m_gseqT, m_gseqL, seqP_rt, seqP_bk, seqP_ct, seqP_xc, midP_nx, midP_rt, midP_bk, midP_ct, midP_xc, fnP_nx, fnP_rt, fnP_xc, rdP_nx, rdP_ct, rdP_bk, rdP_rt, rdP_xc, op_some, op_none, op_ite, op_map, op_bind, ok_ret, ok_some, m_lt, m_le, m_gt, m_ge, m_add, m_addT, m_addL, m_sub, m_mulI, m_mod, m_fdivS, m_powS, m_neg, m_bool, m_abs, m_min2, m_max2, m_lenL, m_lenT, m_lenI, m_tupL, m_tupT, m_lstL, m_lstT, m_rv1, m_rv2, m_ov, m_key, m_kds, m_so, m_rng1, m_gset, m_gtup, m_gsc, m_gsn, m_zipL, m_zipT, m_itL, m_itT, m_cutT, m_cutL, eq_I, ne_I, no_nil, no_cons, no_un, no_dat, wi_nil, wi_cons, Bool.and_true, Bool.true_and, Bool.and_self, and_self, List.set_cons_zero, List.set_cons_succ, List.length_cons, List.length_nil, m_line, Nat.reduceAdd, Nat.reduceLeDiff, Nat.reduceLT, Int.reduceLE, Int.reduceLT, Int.reduceToNat, Int.reducePow, Nat.reducePow, Int.reduceNeg, Int.reduceMul, Int.reduceAdd, Int.reduceSub, Nat.reduceMul, Nat.reduceSub, Int.reduceMod, Int.reduceDiv, Nat.zero_add, true_and, and_true, if_true, if_false, reduceCtorEq, false_implies, forall_const, true_implies, implies_true, decide_eq_true_eq, decide_eq_false_iff_not, beq_iff_eq, beq_eq_false_iff_ne, ne_eq, Bool.not_eq_true, List.append_eq, List.cons_append, List.nil_append, List.map_cons, List.map_nil]
        rw [seqP_nx]
        exact h3
    rw [q_seq]
    cases s with
    | times =>
      refine st _ [] _ (by decide) ?_
      rw [seqP_nx, q_seq]
      simp only [w_var, lvD_dat, List.getElem?_cons_zero, List.getElem?_cons_succ, w_c, w_op, w_un, w_test, w_gand, w_gor, w_gnot, w_gyes, w_and, w_or, w_not, w_if, w_nil, w_cons, w_tup, w_lst, w_folst, w_folist, w_cb, w_fd, w_call, w_ocall, ovO_own, w_get, w_args, w_items, w_part, intO_int, w_nopart, w_cut, w_folc, q_seq, q_nx, q_bk, q_ct, q_set, q_setO, q_tg, q_ret, q_retO, q_retN, q_drop, q_if, q_par, q_par3, q_put, q_app, q_for, twoO_two, triO_tri, w_rD, w_rO, lvR_d, lvR_o, q_parR, q_setAt, w_lenv, lenO_o, lenO_l, lenO_t, w_gown, ownL_at, lstO_l, m_oListL, m_oListT, q_appPop, w_intbl, w_attbl, w_callv, fnD_fn, w_tuprg, q_star, q_aug, strD_str, starO_c, rgO_int, m_mulS, m_int1i, m_int1b, m_gseqT, m_gseqL, seqP_nx, seqP_rt, seqP_bk, seqP_ct, seqP_xc, midP_nx, midP_rt, midP_bk, midP_ct, midP_xc, fnP_nx, fnP_rt, fnP_xc, rdP_nx, rdP_ct, rdP_bk, rdP_rt, rdP_xc, op_some, op_none, op_ite, op_map, op_bind, ok_ret, ok_some, m_lt, m_le, m_gt, m_ge, m_add, m_addT, m_addL, m_sub, m_mulI, m_mod, m_fdivS, m_powS, m_neg, m_bool, m_abs, m_min2, m_max2, m_lenL, m_lenT, m_lenI, m_tupL, m_tupT, m_lstL, m_lstT, m_rv1, m_rv2, m_ov, m_key, m_kds, m_so, m_rng1, m_gset, m_gtup, m_gsc, m_gsn, m_zipL, m_zipT, m_itL, m_itT, m_cutT, m_cutL, eq_I, ne_I, no_nil, no_cons, no_un, no_dat, wi_nil, wi_cons, Bool.and_true, Bool.true_and, Bool.and_self, and_self, List.set_cons_zero, List.set_cons_succ, List.length_cons, List.length_nil, m_line, Nat.reduceAdd, Nat.reduceLeDiff, Nat.reduceLT, Int.reduceLE, Int.reduceLT, Int.reduceToNat, Int.reducePow, Nat.reducePow, Int.reduceNeg, Int.reduceMul, Int.reduceAdd, Int.reduceSub, Nat.reduceMul, Nat.reduceSub, Int.reduceMod, Int.reduceDiv, Nat.zero_add, true_and, and_true, if_true, if_false, reduceCtorEq, false_implies, forall_const, true_implies, implies_true, decide_eq_true_eq, decide_eq_false_iff_not, beq_iff_eq, beq_eq_false_iff_ne, ne_eq, Bool.not_eq_true, List.append_eq, List.cons_append, List.nil_append, lk1, Option.isSome_some, tab1]
      exact product_ok ht fin
    | low =>
      refine st _ [] _ (by decide) ?_
      rw [seqP_nx, q_seq]
      simp only [w_var, lvD_dat, List.getElem?_cons_zero, List.getElem?_cons_succ, w_c, w_op, w_un, w_test, w_gand, w_gor, w_gnot, w_gyes, w_and, w_or, w_not, w_if, w_nil, w_cons, w_tup, w_lst, w_folst, w_folist, w_cb, w_fd, w_call, w_ocall, ovO_own, w_get, w_args, w_items, w_part, intO_int, w_nopart, w_cut, w_folc, q_seq, q_nx, q_bk, q_ct, q_set, q_setO, q_tg, q_ret, q_retO, q_retN, q_drop, q_if, q_par, q_par3, q_put, q_app, q_for, twoO_two, triO_tri, w_rD, w_rO, lvR_d, lvR_o, q_parR, q_setAt, w_lenv, lenO_o, lenO_l, lenO_t, w_gown, ownL_at, lstO_l, m_oListL, m_oListT, q_appPop, w_intbl, w_attbl, w_callv, fnD_fn, w_tuprg, q_star, q_aug, strD_str, starO_c, rgO_int, m_mulS, m_int1i, m_int1b, m_gseqT, m_gseqL, seqP_nx, seqP_rt, seqP_bk, seqP_ct, seqP_xc, midP_nx, midP_rt, midP_bk, midP_ct, midP_xc, fnP_nx, fnP_rt, fnP_xc, rdP_nx, rdP_ct, rdP_bk, rdP_rt, rdP_xc, op_some, op_none, op_ite, op_map, op_bind, ok_ret, ok_some, m_lt, m_le, m_gt, m_ge, m_add, m_addT, m_addL, m_sub, m_mulI, m_mod, m_fdivS, m_powS, m_neg, m_bool, m_abs, m_min2, m_max2, m_lenL, m_lenT, m_lenI, m_tupL, m_tupT, m_lstL, m_lstT, m_rv1, m_rv2, m_ov, m_key, m_kds, m_so, m_rng1, m_gset, m_gtup, m_gsc, m_gsn, m_zipL, m_zipT, m_itL, m_itT, m_cutT, m_cutL, eq_I, ne_I, no_nil, no_cons, no_un, no_dat, wi_nil, wi_cons, Bool.and_true, Bool.true_and, Bool.and_self, and_self, List.set_cons_zero, List.set_cons_succ, List.length_cons, List.length_nil, m_line, Nat.reduceAdd, Nat.reduceLeDiff, Nat.reduceLT, Int.reduceLE, Int.reduceLT, Int.reduceToNat, Int.reducePow, Nat.reducePow, Int.reduceNeg, Int.reduceMul, Int.reduceAdd, Int.reduceSub, Nat.reduceMul, Nat.reduceSub, Int.reduceMod, Int.reduceDiv, Nat.zero_add, true_and, and_true, if_true, if_false, reduceCtorEq, false_implies, forall_const, true_implies, implies_true, decide_eq_true_eq, decide_eq_false_iff_not, beq_iff_eq, beq_eq_false_iff_ne, ne_eq, Bool.not_eq_true, List.append_eq, List.cons_append, List.nil_append, lk2, Option.isSome_some, tab2]
      exact least_ok ht fin
    | high =>
      refine st _ [] _ (by decide) ?_
      rw [seqP_nx, q_seq]
      simp only [w_var, lvD_dat, List.getElem?_cons_zero, List.getElem?_cons_succ, w_c, w_op, w_un, w_test, w_gand, w_gor, w_gnot, w_gyes, w_and, w_or, w_not, w_if, w_nil, w_cons, w_tup, w_lst, w_folst, w_folist, w_cb, w_fd, w_call, w_ocall, ovO_own, w_get, w_args, w_items, w_part, intO_int, w_nopart, w_cut, w_folc, q_seq, q_nx, q_bk, q_ct, q_set, q_setO, q_tg, q_ret, q_retO, q_retN, q_drop, q_if, q_par, q_par3, q_put, q_app, q_for, twoO_two, triO_tri, w_rD, w_rO, lvR_d, lvR_o, q_parR, q_setAt, w_lenv, lenO_o, lenO_l, lenO_t, w_gown, ownL_at, lstO_l, m_oListL, m_oListT, q_appPop, w_intbl, w_attbl, w_callv, fnD_fn, w_tuprg, q_star, q_aug, strD_str, starO_c, rgO_int, m_mulS, m_int1i, m_int1b, m_gseqT, m_gseqL, seqP_nx, seqP_rt, seqP_bk, seqP_ct, seqP_xc, midP_nx, midP_rt, midP_bk, midP_ct, midP_xc, fnP_nx, fnP_rt, fnP_xc, rdP_nx, rdP_ct, rdP_bk, rdP_rt, rdP_xc, op_some, op_none, op_ite, op_map, op_bind, ok_ret, ok_some, m_lt, m_le, m_gt, m_ge, m_add, m_addT, m_addL, m_sub, m_mulI, m_mod, m_fdivS, m_powS, m_neg, m_bool, m_abs, m_min2, m_max2, m_lenL, m_lenT, m_lenI, m_tupL, m_tupT, m_lstL, m_lstT, m_rv1, m_rv2, m_ov, m_key, m_kds, m_so, m_rng1, m_gset, m_gtup, m_gsc, m_gsn, m_zipL, m_zipT, m_itL, m_itT, m_cutT, m_cutL, eq_I, ne_I, no_nil, no_cons, no_un, no_dat, wi_nil, wi_cons, Bool.and_true, Bool.true_and, Bool.and_self, and_self, List.set_cons_zero, List.set_cons_succ, List.length_cons, List.length_nil, m_line, Nat.reduceAdd, Nat.reduceLeDiff, Nat.reduceLT, Int.reduceLE, Int.reduceLT, Int.reduceToNat, Int.reducePow, Nat.reducePow, Int.reduceNeg, Int.reduceMul, Int.reduceAdd, Int.reduceSub, Nat.reduceMul, Nat.reduceSub, Int.reduceMod, Int.reduceDiv, Nat.zero_add, true_and, and_true, if_true, if_false, reduceCtorEq, false_implies, forall_const, true_implies, implies_true, decide_eq_true_eq, decide_eq_false_iff_not, beq_iff_eq, beq_eq_false_iff_ne, ne_eq, Bool.not_eq_true, List.append_eq, List.cons_append, List.nil_append, lk3, Option.isSome_some, tab3]
      exact greatest_ok ht fin
    | sum ws =>
      obtain ⟨h1, h2⟩ := hs
      refine st _ [iT ws] _ (by simp) ?_
      rw [seqP_nx, q_seq]
      simp only [w_var, lvD_dat, List.getElem?_cons_zero, List.getElem?_cons_succ, w_c, w_op, w_un, w_test, w_gand, w_gor, w_gnot, w_gyes, w_and, w_or, w_not, w_if, w_nil, w_cons, w_tup, w_lst, w_folst, w_folist, w_cb, w_fd, w_call, w_ocall, ovO_own, w_get, w_args, w_items, w_part, intO_int, w_nopart, w_cut, w_folc, q_seq, q_nx, q_bk, q_ct, q_set, q_setO, q_tg, q_ret, q_retO, q_retN, q_drop, q_if, q_par, q_par3, q_put, q_app, q_for, twoO_two, triO_tri, w_rD, w_rO, lvR_d, lvR_o, q_parR, q_setAt, w_lenv, lenO_o, lenO_l, lenO_t, w_gown, ownL_at, lstO_l, m_oListL, m_oListT, q_appPop, w_intbl, w_attbl, w_callv, fnD_fn, w_tuprg, q_star, q_aug, strD_str, starO_c, rgO_int, m_mulS, m_int1i, m_int1b, m_gseqT, m_gseqL, seqP_nx, seqP_rt, seqP_bk, seqP_ct, seqP_xc, midP_nx, midP_rt, midP_bk, midP_ct, midP_xc, fnP_nx, fnP_rt, fnP_xc, rdP_nx, rdP_ct, rdP_bk, rdP_rt, rdP_xc, op_some, op_none, op_ite, op_map, op_bind, ok_ret, ok_some, m_lt, m_le, m_gt, m_ge, m_add, m_addT, m_addL, m_sub, m_mulI, m_mod, m_fdivS, m_powS, m_neg, m_bool, m_abs, m_min2, m_max2, m_lenL, m_lenT, m_lenI, m_tupL, m_tupT, m_lstL, m_lstT, m_rv1, m_rv2, m_ov, m_key, m_kds, m_so, m_rng1, m_gset, m_gtup, m_gsc, m_gsn, m_zipL, m_zipT, m_itL, m_itT, m_cutT, m_cutL, eq_I, ne_I, no_nil, no_cons, no_un, no_dat, wi_nil, wi_cons, Bool.and_true, Bool.true_and, Bool.and_self, and_self, List.set_cons_zero, List.set_cons_succ, List.length_cons, List.length_nil, m_line, Nat.reduceAdd, Nat.reduceLeDiff, Nat.reduceLT, Int.reduceLE, Int.reduceLT, Int.reduceToNat, Int.reducePow, Nat.reducePow, Int.reduceNeg, Int.reduceMul, Int.reduceAdd, Int.reduceSub, Nat.reduceMul, Nat.reduceSub, Int.reduceMod, Int.reduceDiv, Nat.zero_add, true_and, and_true, if_true, if_false, reduceCtorEq, false_implies, forall_const, true_implies, implies_true, decide_eq_true_eq, decide_eq_false_iff_not, beq_iff_eq, beq_eq_false_iff_ne, ne_eq, Bool.not_eq_true, List.append_eq, List.cons_append, List.nil_append, lk4, Option.isSome_none, qe_sum_sum, ix0]
      refine ⟨by rw [zip_ints, List.length_map, List.length_zip]; have := ht.few; have := ht.len; omega, ?_⟩
      rw [zip_ints]
      refine lc_map (h := fun p => .int (p.1 * p.2)) (fun p hp => ?_) ?_
      · obtain ⟨q1, q2⟩ := List.of_mem_zip (show (p.1, p.2) ∈ ws.zip t from hp)
        have b1 := h2 _ q1
        have b2 := ht.bd _ q2
        simp only [w_var, lvD_dat, List.getElem?_cons_zero, List.getElem?_cons_succ, w_c, w_op, w_un, w_test, w_gand, w_gor, w_gnot, w_gyes, w_and, w_or, w_not, w_if, w_nil, w_cons, w_tup, w_lst, w_folst, w_folist, w_cb, w_fd, w_call, w_ocall, ovO_own, w_get, w_args, w_items, w_part, intO_int, w_nopart, w_cut, w_folc, q_seq, q_nx, q_bk, q_ct, q_set, q_setO, q_tg, q_ret, q_retO, q_retN, q_drop, q_if, q_par, q_par3, q_put, q_app, q_for, twoO_two, triO_tri, w_rD, w_rO, lvR_d, lvR_o, q_parR, q_setAt, w_lenv, lenO_o, lenO_l, lenO_t, w_gown, ownL_at, lstO_l, m_oListL, m_oListT, q_appPop, w_intbl, w_attbl, w_callv, fnD_fn, w_tuprg, q_star, q_aug, strD_str, starO_c, rgO_int, m_mulS, m_int1i, m_int1b, m_gseqT, m_gseqL, seqP_nx, seqP_rt, seqP_bk, seqP_ct, seqP_xc, midP_nx, midP_rt, midP_bk, midP_ct, midP_xc, fnP_nx, fnP_rt, fnP_xc, rdP_nx, rdP_ct, rdP_bk, rdP_rt, rdP_xc, op_some, op_none, op_ite, op_map, op_bind, ok_ret, ok_some, m_lt, m_le, m_gt, m_ge, m_add, m_addT, m_addL, m_sub, m_mulI, m_mod, m_fdivS, m_powS, m_neg, m_bool, m_abs, m_min2, m_max2, m_lenL, m_lenT, m_lenI, m_tupL, m_tupT, m_lstL, m_lstT, m_rv1, m_rv2, m_ov, m_key, m_kds, m_so, m_rng1, m_gset, m_gtup, m_gsc, m_gsn, m_zipL, m_zipT, m_itL, m_itT, m_cutT, m_cutL, eq_I, ne_I, no_nil, no_cons, no_un, no_dat, wi_nil, wi_cons, Bool.and_true, Bool.true_and, Bool.and_self, and_self, List.set_cons_zero, List.set_cons_succ, List.length_cons, List.length_nil, m_line, Nat.reduceAdd, Nat.reduceLeDiff, Nat.reduceLT, Int.reduceLE, Int.reduceLT, Int.reduceToNat, Int.reducePow, Nat.reducePow, Int.reduceNeg, Int.reduceMul, Int.reduceAdd, Int.reduceSub, Nat.reduceMul, Nat.reduceSub, Int.reduceMod, Int.reduceDiv, Nat.zero_add, true_and, and_true, if_true, if_false, reduceCtorEq, false_implies, forall_const, true_implies, implies_true, decide_eq_true_eq, decide_eq_false_iff_not, beq_iff_eq, beq_eq_false_iff_ne, ne_eq, Bool.not_eq_true, List.append_eq, List.cons_append, List.nil_append]
        have a1 : p.1.natAbs.log2 < 20 := lgI b1.1 (by omega) (by decide)
        have a2 : p.2.natAbs.log2 < 40 := lgI b2.1 (by omega) (by decide)
        omega
      · rw [show ((ws.zip t).map fun p => D.int (p.1 * p.2)) = ((ws.zip t).map fun p => p.1 * p.2).map D.int from by rw [List.map_map]; rfl, sum_L, op_some]
        exact fin
    | add a b =>
      rw [← q_seq, ← w_fn]
      refine two "add" a b 0 hk hs.1 hs.2 lk5 qe_add_sum ?_
      simp only [w_var, lvD_dat, List.getElem?_cons_zero, List.getElem?_cons_succ, w_c, w_op, w_un, w_test, w_gand, w_gor, w_gnot, w_gyes, w_and, w_or, w_not, w_if, w_nil, w_cons, w_tup, w_lst, w_folst, w_folist, w_cb, w_fd, w_call, w_ocall, ovO_own, w_get, w_args, w_items, w_part, intO_int, w_nopart, w_cut, w_folc, q_seq, q_nx, q_bk, q_ct, q_set, q_setO, q_tg, q_ret, q_retO, q_retN, q_drop, q_if, q_par, q_par3, q_put, q_app, q_for, twoO_two, triO_tri, w_rD, w_rO, lvR_d, lvR_o, q_parR, q_setAt, w_lenv, lenO_o, lenO_l, lenO_t, w_gown, ownL_at, lstO_l, m_oListL, m_oListT, q_appPop, w_intbl, w_attbl, w_callv, fnD_fn, w_tuprg, q_star, q_aug, strD_str, starO_c, rgO_int, m_mulS, m_int1i, m_int1b, m_gseqT, m_gseqL, seqP_nx, seqP_rt, seqP_bk, seqP_ct, seqP_xc, midP_nx, midP_rt, midP_bk, midP_ct, midP_xc, fnP_nx, fnP_rt, fnP_xc, rdP_nx, rdP_ct, rdP_bk, rdP_rt, rdP_xc, op_some, op_none, op_ite, op_map, op_bind, ok_ret, ok_some, m_lt, m_le, m_gt, m_ge, m_add, m_addT, m_addL, m_sub, m_mulI, m_mod, m_fdivS, m_powS, m_neg, m_bool, m_abs, m_min2, m_max2, m_lenL, m_lenT, m_lenI, m_tupL, m_tupT, m_lstL, m_lstT, m_rv1, m_rv2, m_ov, m_key, m_kds, m_so, m_rng1, m_gset, m_gtup, m_gsc, m_gsn, m_zipL, m_zipT, m_itL, m_itT, m_cutT, m_cutL, eq_I, ne_I, no_nil, no_cons, no_un, no_dat, wi_nil, wi_cons, Bool.and_true, Bool.true_and, Bool.and_self, and_self, List.set_cons_zero, List.set_cons_succ, List.length_cons, List.length_nil, m_line, Nat.reduceAdd, Nat.reduceLeDiff, Nat.reduceLT, Int.reduceLE, Int.reduceLT, Int.reduceToNat, Int.reducePow, Nat.reducePow, Int.reduceNeg, Int.reduceMul, Int.reduceAdd, Int.reduceSub, Nat.reduceMul, Nat.reduceSub, Int.reduceMod, Int.reduceDiv, Nat.zero_add, true_and, and_true, if_true, if_false, reduceCtorEq, false_implies, forall_const, true_implies, implies_true, decide_eq_true_eq, decide_eq_false_iff_not, beq_iff_eq, beq_eq_false_iff_ne, ne_eq, Bool.not_eq_true, List.append_eq, List.cons_append, List.nil_append, qe_add_add]
      exact fin
    | lesser a b =>
      rw [← q_seq, ← w_fn]
      refine two "lesser" a b 0 hk hs.1 hs.2 lk6 qe_lesser_sum ?_
      simp only [w_var, lvD_dat, List.getElem?_cons_zero, List.getElem?_cons_succ, w_c, w_op, w_un, w_test, w_gand, w_gor, w_gnot, w_gyes, w_and, w_or, w_not, w_if, w_nil, w_cons, w_tup, w_lst, w_folst, w_folist, w_cb, w_fd, w_call, w_ocall, ovO_own, w_get, w_args, w_items, w_part, intO_int, w_nopart, w_cut, w_folc, q_seq, q_nx, q_bk, q_ct, q_set, q_setO, q_tg, q_ret, q_retO, q_retN, q_drop, q_if, q_par, q_par3, q_put, q_app, q_for, twoO_two, triO_tri, w_rD, w_rO, lvR_d, lvR_o, q_parR, q_setAt, w_lenv, lenO_o, lenO_l, lenO_t, w_gown, ownL_at, lstO_l, m_oListL, m_oListT, q_appPop, w_intbl, w_attbl, w_callv, fnD_fn, w_tuprg, q_star, q_aug, strD_str, starO_c, rgO_int, m_mulS, m_int1i, m_int1b, m_gseqT, m_gseqL, seqP_nx, seqP_rt, seqP_bk, seqP_ct, seqP_xc, midP_nx, midP_rt, midP_bk, midP_ct, midP_xc, fnP_nx, fnP_rt, fnP_xc, rdP_nx, rdP_ct, rdP_bk, rdP_rt, rdP_xc, op_some, op_none, op_ite, op_map, op_bind, ok_ret, ok_some, m_lt, m_le, m_gt, m_ge, m_add, m_addT, m_addL, m_sub, m_mulI, m_mod, m_fdivS, m_powS, m_neg, m_bool, m_abs, m_min2, m_max2, m_lenL, m_lenT, m_lenI, m_tupL, m_tupT, m_lstL, m_lstT, m_rv1, m_rv2, m_ov, m_key, m_kds, m_so, m_rng1, m_gset, m_gtup, m_gsc, m_gsn, m_zipL, m_zipT, m_itL, m_itT, m_cutT, m_cutL, eq_I, ne_I, no_nil, no_cons, no_un, no_dat, wi_nil, wi_cons, Bool.and_true, Bool.true_and, Bool.and_self, and_self, List.set_cons_zero, List.set_cons_succ, List.length_cons, List.length_nil, m_line, Nat.reduceAdd, Nat.reduceLeDiff, Nat.reduceLT, Int.reduceLE, Int.reduceLT, Int.reduceToNat, Int.reducePow, Nat.reducePow, Int.reduceNeg, Int.reduceMul, Int.reduceAdd, Int.reduceSub, Nat.reduceMul, Nat.reduceSub, Int.reduceMod, Int.reduceDiv, Nat.zero_add, true_and, and_true, if_true, if_false, reduceCtorEq, false_implies, forall_const, true_implies, implies_true, decide_eq_true_eq, decide_eq_false_iff_not, beq_iff_eq, beq_eq_false_iff_ne, ne_eq, Bool.not_eq_true, List.append_eq, List.cons_append, List.nil_append, qe_lesser_add, qe_lesser_lesser]
      exact fin
    | greater a b =>
      rw [← q_seq, ← w_fn]
      refine two "greater" a b 0 hk hs.1 hs.2 lk7 qe_greater_sum ?_
      simp only [w_var, lvD_dat, List.getElem?_cons_zero, List.getElem?_cons_succ, w_c, w_op, w_un, w_test, w_gand, w_gor, w_gnot, w_gyes, w_and, w_or, w_not, w_if, w_nil, w_cons, w_tup, w_lst, w_folst, w_folist, w_cb, w_fd, w_call, w_ocall, ovO_own, w_get, w_args, w_items, w_part, intO_int, w_nopart, w_cut, w_folc, q_seq, q_nx, q_bk, q_ct, q_set, q_setO, q_tg, q_ret, q_retO, q_retN, q_drop, q_if, q_par, q_par3, q_put, q_app, q_for, twoO_two, triO_tri, w_rD, w_rO, lvR_d, lvR_o, q_parR, q_setAt, w_lenv, lenO_o, lenO_l, lenO_t, w_gown, ownL_at, lstO_l, m_oListL, m_oListT, q_appPop, w_intbl, w_attbl, w_callv, fnD_fn, w_tuprg, q_star, q_aug, strD_str, starO_c, rgO_int, m_mulS, m_int1i, m_int1b, m_gseqT, m_gseqL, seqP_nx, seqP_rt, seqP_bk, seqP_ct, seqP_xc, midP_nx, midP_rt, midP_bk, midP_ct, midP_xc, fnP_nx, fnP_rt, fnP_xc, rdP_nx, rdP_ct, rdP_bk, rdP_rt, rdP_xc, op_some, op_none, op_ite, op_map, op_bind, ok_ret, ok_some, m_lt, m_le, m_gt, m_ge, m_add, m_addT, m_addL, m_sub, m_mulI, m_mod, m_fdivS, m_powS, m_neg, m_bool, m_abs, m_min2, m_max2, m_lenL, m_lenT, m_lenI, m_tupL, m_tupT, m_lstL, m_lstT, m_rv1, m_rv2, m_ov, m_key, m_kds, m_so, m_rng1, m_gset, m_gtup, m_gsc, m_gsn, m_zipL, m_zipT, m_itL, m_itT, m_cutT, m_cutL, eq_I, ne_I, no_nil, no_cons, no_un, no_dat, wi_nil, wi_cons, Bool.and_true, Bool.true_and, Bool.and_self, and_self, List.set_cons_zero, List.set_cons_succ, List.length_cons, List.length_nil, m_line, Nat.reduceAdd, Nat.reduceLeDiff, Nat.reduceLT, Int.reduceLE, Int.reduceLT, Int.reduceToNat, Int.reducePow, Nat.reducePow, Int.reduceNeg, Int.reduceMul, Int.reduceAdd, Int.reduceSub, Nat.reduceMul, Nat.reduceSub, Int.reduceMod, Int.reduceDiv, Nat.zero_add, true_and, and_true, if_true, if_false, reduceCtorEq, false_implies, forall_const, true_implies, implies_true, decide_eq_true_eq, decide_eq_false_iff_not, beq_iff_eq, beq_eq_false_iff_ne, ne_eq, Bool.not_eq_true, List.append_eq, List.cons_append, List.nil_append, qe_greater_add, qe_greater_lesser]
      exact fin

theorem pow_up {i j : Nat} (h : i ≤ j) : (1000000000 : Int) ^ i ≤ 1000000000 ^ j := by
  have h1 : (1000000000 : Nat) ^ i ≤ 1000000000 ^ j := Nat.pow_le_pow_right (by decide) h
  have h2 : (((1000000000 : Nat) ^ i : Nat) : Int) ≤ (((1000000000 : Nat) ^ j : Nat) : Int) := Int.ofNat_le.mpr h1
  simpa using h2
theorem lgP {x : Int} {k : Nat} (h0 : 0 ≤ x) (h : x ≤ 1000000000 ^ k) (hk : 0 < k) : x.natAbs.log2 < 30 * k := by
  refine lg_lt ?_ (by omega)
  have h1 : x.natAbs ≤ 1000000000 ^ k := by
    have : (x.natAbs : Int) ≤ ((1000000000 ^ k : Nat) : Int) := by
      rw [Int.natAbs_of_nonneg h0]
      simpa using h
    exact Int.ofNat_le.mp this
  rw [Nat.pow_mul]
  exact Nat.lt_of_le_of_lt h1 (Nat.pow_lt_pow_left (by decide) (by omega))
theorem lworth_sum {n : Nat} {t : List Int} (ht : Thg n t) {ff : Fn} {ws : List Int} (h1 : ws.length = n) (h2 : ∀ w ∈ ws, 0 ≤ w ∧ w ≤ 1000) {g : Gs} {v : Int} {P : RV → Gs → Prop} {E : Exn → Gs → Prop} (hv : v = ((ws.zip t).map fun p => p.1 * p.2).sum) (fin : P (.dat (.int v)) g) : Ok (fnF 6 (gb_lworth ff) [(Sc.sum ws).d, iT t] g) P E := by
  subst hv
  rw [w_fn]
  show SOk (gb_lworth ff [.dat (.tup [.str (Str.ofString "sum"), iT ws]), .dat (.tup (t.map .int)), .un, .un, .un, .un] g) _
  unfold gb_lworth
  rw [q_seq]
  simp only [w_var, lvD_dat, List.getElem?_cons_zero, List.getElem?_cons_succ, w_c, w_op, w_un, w_test, w_gand, w_gor, w_gnot, w_gyes, w_and, w_or, w_not, w_if, w_nil, w_cons, w_tup, w_lst, w_folst, w_folist, w_cb, w_fd, w_call, w_ocall, ovO_own, w_get, w_args, w_items, w_part, intO_int, w_nopart, w_cut, w_folc, q_nx, q_bk, q_ct, q_set, q_setO, q_tg, q_ret, q_retO, q_retN, q_drop, q_if, q_par, q_par3, q_put, q_app, q_for, twoO_two, triO_tri, w_rD, w_rO, lvR_d, lvR_o, q_parR, q_setAt, w_lenv, lenO_o, lenO_l, lenO_t, w_gown, ownL_at, lstO_l, m_oListL, m_oListT, q_appPop, w_intbl, w_attbl, w_callv, fnD_fn, w_tuprg, q_star, q_aug, strD_str, starO_c, rgO_int, m_mulS, m_int1i, m_int1b, m_gseqT, m_gseqL, seqP_rt, seqP_bk, seqP_ct, seqP_xc, midP_nx, midP_rt, midP_bk, midP_ct, midP_xc, fnP_nx, fnP_rt, fnP_xc, rdP_nx, rdP_ct, rdP_bk, rdP_rt, rdP_xc, op_some, op_none, op_ite, op_map, op_bind, ok_ret, ok_some, m_lt, m_le, m_gt, m_ge, m_add, m_addT, m_addL, m_sub, m_mulI, m_mod, m_fdivS, m_powS, m_neg, m_bool, m_abs, m_min2, m_max2, m_lenL, m_lenT, m_lenI, m_tupL, m_tupT, m_lstL, m_lstT, m_rv1, m_rv2, m_ov, m_key, m_kds, m_so, m_rng1, m_gset, m_gtup, m_gsc, m_gsn, m_zipL, m_zipT, m_itL, m_itT, m_cutT, m_cutL, eq_I, ne_I, no_nil, no_cons, no_un, no_dat, wi_nil, wi_cons, Bool.and_true, Bool.true_and, Bool.and_self, and_self, List.set_cons_zero, List.set_cons_succ, List.length_cons, List.length_nil, m_line, Nat.reduceAdd, Nat.reduceLeDiff, Nat.reduceLT, Int.reduceLE, Int.reduceLT, Int.reduceToNat, Int.reducePow, Nat.reducePow, Int.reduceNeg, Int.reduceMul, Int.reduceAdd, Int.reduceSub, Nat.reduceMul, Nat.reduceSub, Int.reduceMod, Int.reduceDiv, Nat.zero_add, true_and, and_true, if_true, if_false, reduceCtorEq, false_implies, forall_const, true_implies, implies_true, decide_eq_true_eq, decide_eq_false_iff_not, beq_iff_eq, beq_eq_false_iff_ne, ne_eq, Bool.not_eq_true, List.append_eq, List.cons_append, List.nil_append, ix0T, qe_sum_sum, range_len, List.length_map, Int.toNat_natCast]
  have hl := ht.len
  have hf := ht.few
  refine ⟨⟨by omega, by omega⟩, by omega, ?_⟩
  unfold rangeD
  refine lc_map (h := fun i => .int (ws.getD i 0 * t.getD i 0)) (fun j hj => ?_) ?_
  · have hj := List.mem_range.mp hj
    simp only [w_var, lvD_dat, List.getElem?_cons_zero, List.getElem?_cons_succ, w_c, w_op, w_un, w_test, w_gand, w_gor, w_gnot, w_gyes, w_and, w_or, w_not, w_if, w_nil, w_cons, w_tup, w_lst, w_folst, w_folist, w_cb, w_fd, w_call, w_ocall, ovO_own, w_get, w_args, w_items, w_part, intO_int, w_nopart, w_cut, w_folc, q_nx, q_bk, q_ct, q_set, q_setO, q_tg, q_ret, q_retO, q_retN, q_drop, q_if, q_par, q_par3, q_put, q_app, q_for, twoO_two, triO_tri, w_rD, w_rO, lvR_d, lvR_o, q_parR, q_setAt, w_lenv, lenO_o, lenO_l, lenO_t, w_gown, ownL_at, lstO_l, m_oListL, m_oListT, q_appPop, w_intbl, w_attbl, w_callv, fnD_fn, w_tuprg, q_star, q_aug, strD_str, starO_c, rgO_int, m_mulS, m_int1i, m_int1b, m_gseqT, m_gseqL, seqP_rt, seqP_bk, seqP_ct, seqP_xc, midP_nx, midP_rt, midP_bk, midP_ct, midP_xc, fnP_nx, fnP_rt, fnP_xc, rdP_nx, rdP_ct, rdP_bk, rdP_rt, rdP_xc, op_some, op_none, op_ite, op_map, op_bind, ok_ret, ok_some, m_lt, m_le, m_gt, m_ge, m_add, m_addT, m_addL, m_sub, m_mulI, m_mod, m_fdivS, m_powS, m_neg, m_bool, m_abs, m_min2, m_max2, m_lenL, m_lenT, m_lenI, m_tupL, m_tupT, m_lstL, m_lstT, m_rv1, m_rv2, m_ov, m_key, m_kds, m_so, m_rng1, m_gset, m_gtup, m_gsc, m_gsn, m_zipL, m_zipT, m_itL, m_itT, m_cutT, m_cutL, eq_I, ne_I, no_nil, no_cons, no_un, no_dat, wi_nil, wi_cons, Bool.and_true, Bool.true_and, Bool.and_self, and_self, List.set_cons_zero, List.set_cons_succ, List.length_cons, List.length_nil, m_line, Nat.reduceAdd, Nat.reduceLeDiff, Nat.reduceLT, Int.reduceLE, Int.reduceLT, Int.reduceToNat, Int.reducePow, Nat.reducePow, Int.reduceNeg, Int.reduceMul, Int.reduceAdd, Int.reduceSub, Nat.reduceMul, Nat.reduceSub, Int.reduceMod, Int.reduceDiv, Nat.zero_add, true_and, and_true, if_true, if_false, reduceCtorEq, false_implies, forall_const, true_implies, implies_true, decide_eq_true_eq, decide_eq_false_iff_not, beq_iff_eq, beq_eq_false_iff_ne, ne_eq, Bool.not_eq_true, List.append_eq, List.cons_append, List.nil_append]
    rw [ix1T, ix_intT (by omega)]
    simp only [w_var, lvD_dat, List.getElem?_cons_zero, List.getElem?_cons_succ, w_c, w_op, w_un, w_test, w_gand, w_gor, w_gnot, w_gyes, w_and, w_or, w_not, w_if, w_nil, w_cons, w_tup, w_lst, w_folst, w_folist, w_cb, w_fd, w_call, w_ocall, ovO_own, w_get, w_args, w_items, w_part, intO_int, w_nopart, w_cut, w_folc, q_nx, q_bk, q_ct, q_set, q_setO, q_tg, q_ret, q_retO, q_retN, q_drop, q_if, q_par, q_par3, q_put, q_app, q_for, twoO_two, triO_tri, w_rD, w_rO, lvR_d, lvR_o, q_parR, q_setAt, w_lenv, lenO_o, lenO_l, lenO_t, w_gown, ownL_at, lstO_l, m_oListL, m_oListT, q_appPop, w_intbl, w_attbl, w_callv, fnD_fn, w_tuprg, q_star, q_aug, strD_str, starO_c, rgO_int, m_mulS, m_int1i, m_int1b, m_gseqT, m_gseqL, seqP_rt, seqP_bk, seqP_ct, seqP_xc, midP_nx, midP_rt, midP_bk, midP_ct, midP_xc, fnP_nx, fnP_rt, fnP_xc, rdP_nx, rdP_ct, rdP_bk, rdP_rt, rdP_xc, op_some, op_none, op_ite, op_map, op_bind, ok_ret, ok_some, m_lt, m_le, m_gt, m_ge, m_add, m_addT, m_addL, m_sub, m_mulI, m_mod, m_fdivS, m_powS, m_neg, m_bool, m_abs, m_min2, m_max2, m_lenL, m_lenT, m_lenI, m_tupL, m_tupT, m_lstL, m_lstT, m_rv1, m_rv2, m_ov, m_key, m_kds, m_so, m_rng1, m_gset, m_gtup, m_gsc, m_gsn, m_zipL, m_zipT, m_itL, m_itT, m_cutT, m_cutL, eq_I, ne_I, no_nil, no_cons, no_un, no_dat, wi_nil, wi_cons, Bool.and_true, Bool.true_and, Bool.and_self, and_self, List.set_cons_zero, List.set_cons_succ, List.length_cons, List.length_nil, m_line, Nat.reduceAdd, Nat.reduceLeDiff, Nat.reduceLT, Int.reduceLE, Int.reduceLT, Int.reduceToNat, Int.reducePow, Nat.reducePow, Int.reduceNeg, Int.reduceMul, Int.reduceAdd, Int.reduceSub, Nat.reduceMul, Nat.reduceSub, Int.reduceMod, Int.reduceDiv, Nat.zero_add, true_and, and_true, if_true, if_false, reduceCtorEq, false_implies, forall_const, true_implies, implies_true, decide_eq_true_eq, decide_eq_false_iff_not, beq_iff_eq, beq_eq_false_iff_ne, ne_eq, Bool.not_eq_true, List.append_eq, List.cons_append, List.nil_append]
    rw [ix_intT (by omega)]
    simp only [w_var, lvD_dat, List.getElem?_cons_zero, List.getElem?_cons_succ, w_c, w_op, w_un, w_test, w_gand, w_gor, w_gnot, w_gyes, w_and, w_or, w_not, w_if, w_nil, w_cons, w_tup, w_lst, w_folst, w_folist, w_cb, w_fd, w_call, w_ocall, ovO_own, w_get, w_args, w_items, w_part, intO_int, w_nopart, w_cut, w_folc, q_nx, q_bk, q_ct, q_set, q_setO, q_tg, q_ret, q_retO, q_retN, q_drop, q_if, q_par, q_par3, q_put, q_app, q_for, twoO_two, triO_tri, w_rD, w_rO, lvR_d, lvR_o, q_parR, q_setAt, w_lenv, lenO_o, lenO_l, lenO_t, w_gown, ownL_at, lstO_l, m_oListL, m_oListT, q_appPop, w_intbl, w_attbl, w_callv, fnD_fn, w_tuprg, q_star, q_aug, strD_str, starO_c, rgO_int, m_mulS, m_int1i, m_int1b, m_gseqT, m_gseqL, seqP_rt, seqP_bk, seqP_ct, seqP_xc, midP_nx, midP_rt, midP_bk, midP_ct, midP_xc, fnP_nx, fnP_rt, fnP_xc, rdP_nx, rdP_ct, rdP_bk, rdP_rt, rdP_xc, op_some, op_none, op_ite, op_map, op_bind, ok_ret, ok_some, m_lt, m_le, m_gt, m_ge, m_add, m_addT, m_addL, m_sub, m_mulI, m_mod, m_fdivS, m_powS, m_neg, m_bool, m_abs, m_min2, m_max2, m_lenL, m_lenT, m_lenI, m_tupL, m_tupT, m_lstL, m_lstT, m_rv1, m_rv2, m_ov, m_key, m_kds, m_so, m_rng1, m_gset, m_gtup, m_gsc, m_gsn, m_zipL, m_zipT, m_itL, m_itT, m_cutT, m_cutL, eq_I, ne_I, no_nil, no_cons, no_un, no_dat, wi_nil, wi_cons, Bool.and_true, Bool.true_and, Bool.and_self, and_self, List.set_cons_zero, List.set_cons_succ, List.length_cons, List.length_nil, m_line, Nat.reduceAdd, Nat.reduceLeDiff, Nat.reduceLT, Int.reduceLE, Int.reduceLT, Int.reduceToNat, Int.reducePow, Nat.reducePow, Int.reduceNeg, Int.reduceMul, Int.reduceAdd, Int.reduceSub, Nat.reduceMul, Nat.reduceSub, Int.reduceMod, Int.reduceDiv, Nat.zero_add, true_and, and_true, if_true, if_false, reduceCtorEq, false_implies, forall_const, true_implies, implies_true, decide_eq_true_eq, decide_eq_false_iff_not, beq_iff_eq, beq_eq_false_iff_ne, ne_eq, Bool.not_eq_true, List.append_eq, List.cons_append, List.nil_append]
    have b1 := h2 _ (getI_mem (show j < ws.length by omega))
    have b2 := ht.bd _ (getI_mem (show j < t.length by omega))
    have a1 : (ws.getD j 0).natAbs.log2 < 20 := lgI b1.1 (by omega) (by decide)
    have a2 : (t.getD j 0).natAbs.log2 < 40 := lgI b2.1 (by omega) (by decide)
    omega
  · rw [show t.length = ws.length by omega, due_eq (fun p => p.1 * p.2) ws t (by omega), sum_L, op_some]
    exact fin
theorem lworth_times {n : Nat} {t : List Int} (ht : Thg n t) {ff : Fn} {g : Gs} {P : RV → Gs → Prop} {E : Exn → Gs → Prop} (fin : P (.dat (.int (Sc.times.val t))) g) : Ok (fnF 6 (gb_lworth ff) [Sc.times.d, iT t] g) P E := by
  rw [w_fn]
  show SOk (gb_lworth ff [.dat (.tup [.str (Str.ofString "times")]), .dat (.tup (t.map .int)), .un, .un, .un, .un] g) _
  unfold gb_lworth
  rw [q_seq]
  simp only [w_var, lvD_dat, List.getElem?_cons_zero, List.getElem?_cons_succ, w_c, w_op, w_un, w_test, w_gand, w_gor, w_gnot, w_gyes, w_and, w_or, w_not, w_if, w_nil, w_cons, w_tup, w_lst, w_folst, w_folist, w_cb, w_fd, w_call, w_ocall, ovO_own, w_get, w_args, w_items, w_part, intO_int, w_nopart, w_cut, w_folc, q_nx, q_bk, q_ct, q_set, q_setO, q_tg, q_ret, q_retO, q_retN, q_drop, q_if, q_par, q_par3, q_put, q_app, q_for, twoO_two, triO_tri, w_rD, w_rO, lvR_d, lvR_o, q_parR, q_setAt, w_lenv, lenO_o, lenO_l, lenO_t, w_gown, ownL_at, lstO_l, m_oListL, m_oListT, q_appPop, w_intbl, w_attbl, w_callv, fnD_fn, w_tuprg, q_star, q_aug, strD_str, starO_c, rgO_int, m_mulS, m_int1i, m_int1b, m_gseqT, m_gseqL, seqP_rt, seqP_bk, seqP_ct, seqP_xc, midP_nx, midP_rt, midP_bk, midP_ct, midP_xc, fnP_nx, fnP_rt, fnP_xc, rdP_nx, rdP_ct, rdP_bk, rdP_rt, rdP_xc, op_some, op_none, op_ite, op_map, op_bind, ok_ret, ok_some, m_lt, m_le, m_gt, m_ge, m_add, m_addT, m_addL, m_sub, m_mulI, m_mod, m_fdivS, m_powS, m_neg, m_bool, m_abs, m_min2, m_max2, m_lenL, m_lenT, m_lenI, m_tupL, m_tupT, m_lstL, m_lstT, m_rv1, m_rv2, m_ov, m_key, m_kds, m_so, m_rng1, m_gset, m_gtup, m_gsc, m_gsn, m_zipL, m_zipT, m_itL, m_itT, m_cutT, m_cutL, eq_I, ne_I, no_nil, no_cons, no_un, no_dat, wi_nil, wi_cons, Bool.and_true, Bool.true_and, Bool.and_self, and_self, List.set_cons_zero, List.set_cons_succ, List.length_cons, List.length_nil, m_line, Nat.reduceAdd, Nat.reduceLeDiff, Nat.reduceLT, Int.reduceLE, Int.reduceLT, Int.reduceToNat, Int.reducePow, Nat.reducePow, Int.reduceNeg, Int.reduceMul, Int.reduceAdd, Int.reduceSub, Nat.reduceMul, Nat.reduceSub, Int.reduceMod, Int.reduceDiv, Nat.zero_add, true_and, and_true, if_true, if_false, reduceCtorEq, false_implies, forall_const, true_implies, implies_true, decide_eq_true_eq, decide_eq_false_iff_not, beq_iff_eq, beq_eq_false_iff_ne, ne_eq, Bool.not_eq_true, List.append_eq, List.cons_append, List.nil_append, ix0T, qe_times_sum]
  rw [seqP_nx, q_seq]
  simp only [w_var, lvD_dat, List.getElem?_cons_zero, List.getElem?_cons_succ, w_c, w_op, w_un, w_test, w_gand, w_gor, w_gnot, w_gyes, w_and, w_or, w_not, w_if, w_nil, w_cons, w_tup, w_lst, w_folst, w_folist, w_cb, w_fd, w_call, w_ocall, ovO_own, w_get, w_args, w_items, w_part, intO_int, w_nopart, w_cut, w_folc, q_nx, q_bk, q_ct, q_set, q_setO, q_tg, q_ret, q_retO, q_retN, q_drop, q_if, q_par, q_par3, q_put, q_app, q_for, twoO_two, triO_tri, w_rD, w_rO, lvR_d, lvR_o, q_parR, q_setAt, w_lenv, lenO_o, lenO_l, lenO_t, w_gown, ownL_at, lstO_l, m_oListL, m_oListT, q_appPop, w_intbl, w_attbl, w_callv, fnD_fn, w_tuprg, q_star, q_aug, strD_str, starO_c, rgO_int, m_mulS, m_int1i, m_int1b, m_gseqT, m_gseqL, seqP_rt, seqP_bk, seqP_ct, seqP_xc, midP_nx, midP_rt, midP_bk, midP_ct, midP_xc, fnP_nx, fnP_rt, fnP_xc, rdP_nx, rdP_ct, rdP_bk, rdP_rt, rdP_xc, op_some, op_none, op_ite, op_map, op_bind, ok_ret, ok_some, m_lt, m_le, m_gt, m_ge, m_add, m_addT, m_addL, m_sub, m_mulI, m_mod, m_fdivS, m_powS, m_neg, m_bool, m_abs, m_min2, m_max2, m_lenL, m_lenT, m_lenI, m_tupL, m_tupT, m_lstL, m_lstT, m_rv1, m_rv2, m_ov, m_key, m_kds, m_so, m_rng1, m_gset, m_gtup, m_gsc, m_gsn, m_zipL, m_zipT, m_itL, m_itT, m_cutT, m_cutL, eq_I, ne_I, no_nil, no_cons, no_un, no_dat, wi_nil, wi_cons, Bool.and_true, Bool.true_and, Bool.and_self, and_self, List.set_cons_zero, List.set_cons_succ, List.length_cons, List.length_nil, m_line, Nat.reduceAdd, Nat.reduceLeDiff, Nat.reduceLT, Int.reduceLE, Int.reduceLT, Int.reduceToNat, Int.reducePow, Nat.reducePow, Int.reduceNeg, Int.reduceMul, Int.reduceAdd, Int.reduceSub, Nat.reduceMul, Nat.reduceSub, Int.reduceMod, Int.reduceDiv, Nat.zero_add, true_and, and_true, if_true, if_false, reduceCtorEq, false_implies, forall_const, true_implies, implies_true, decide_eq_true_eq, decide_eq_false_iff_not, beq_iff_eq, beq_eq_false_iff_ne, ne_eq, Bool.not_eq_true, List.append_eq, List.cons_append, List.nil_append, ix0T, qe_times_times]
  rw [q_seq]
  simp only [w_var, lvD_dat, List.getElem?_cons_zero, List.getElem?_cons_succ, w_c, w_op, w_un, w_test, w_gand, w_gor, w_gnot, w_gyes, w_and, w_or, w_not, w_if, w_nil, w_cons, w_tup, w_lst, w_folst, w_folist, w_cb, w_fd, w_call, w_ocall, ovO_own, w_get, w_args, w_items, w_part, intO_int, w_nopart, w_cut, w_folc, q_nx, q_bk, q_ct, q_set, q_setO, q_tg, q_ret, q_retO, q_retN, q_drop, q_if, q_par, q_par3, q_put, q_app, q_for, twoO_two, triO_tri, w_rD, w_rO, lvR_d, lvR_o, q_parR, q_setAt, w_lenv, lenO_o, lenO_l, lenO_t, w_gown, ownL_at, lstO_l, m_oListL, m_oListT, q_appPop, w_intbl, w_attbl, w_callv, fnD_fn, w_tuprg, q_star, q_aug, strD_str, starO_c, rgO_int, m_mulS, m_int1i, m_int1b, m_gseqT, m_gseqL, seqP_rt, seqP_bk, seqP_ct, seqP_xc, midP_nx, midP_rt, midP_bk, midP_ct, midP_xc, fnP_nx, fnP_rt, fnP_xc, rdP_nx, rdP_ct, rdP_bk, rdP_rt, rdP_xc, op_some, op_none, op_ite, op_map, op_bind, ok_ret, ok_some, m_lt, m_le, m_gt, m_ge, m_add, m_addT, m_addL, m_sub, m_mulI, m_mod, m_fdivS, m_powS, m_neg, m_bool, m_abs, m_min2, m_max2, m_lenL, m_lenT, m_lenI, m_tupL, m_tupT, m_lstL, m_lstT, m_rv1, m_rv2, m_ov, m_key, m_kds, m_so, m_rng1, m_gset, m_gtup, m_gsc, m_gsn, m_zipL, m_zipT, m_itL, m_itT, m_cutT, m_cutL, eq_I, ne_I, no_nil, no_cons, no_un, no_dat, wi_nil, wi_cons, Bool.and_true, Bool.true_and, Bool.and_self, and_self, List.set_cons_zero, List.set_cons_succ, List.length_cons, List.length_nil, m_line, Nat.reduceAdd, Nat.reduceLeDiff, Nat.reduceLT, Int.reduceLE, Int.reduceLT, Int.reduceToNat, Int.reducePow, Nat.reducePow, Int.reduceNeg, Int.reduceMul, Int.reduceAdd, Int.reduceSub, Nat.reduceMul, Nat.reduceSub, Int.reduceMod, Int.reduceDiv, Nat.zero_add, true_and, and_true, if_true, if_false, reduceCtorEq, false_implies, forall_const, true_implies, implies_true, decide_eq_true_eq, decide_eq_false_iff_not, beq_iff_eq, beq_eq_false_iff_ne, ne_eq, Bool.not_eq_true, List.append_eq, List.cons_append, List.nil_append]
  rw [seqP_nx, q_seq]
  simp only [w_var, lvD_dat, List.getElem?_cons_zero, List.getElem?_cons_succ, w_c, w_op, w_un, w_test, w_gand, w_gor, w_gnot, w_gyes, w_and, w_or, w_not, w_if, w_nil, w_cons, w_tup, w_lst, w_folst, w_folist, w_cb, w_fd, w_call, w_ocall, ovO_own, w_get, w_args, w_items, w_part, intO_int, w_nopart, w_cut, w_folc, q_nx, q_bk, q_ct, q_set, q_setO, q_tg, q_ret, q_retO, q_retN, q_drop, q_if, q_par, q_par3, q_put, q_app, q_for, twoO_two, triO_tri, w_rD, w_rO, lvR_d, lvR_o, q_parR, q_setAt, w_lenv, lenO_o, lenO_l, lenO_t, w_gown, ownL_at, lstO_l, m_oListL, m_oListT, q_appPop, w_intbl, w_attbl, w_callv, fnD_fn, w_tuprg, q_star, q_aug, strD_str, starO_c, rgO_int, m_mulS, m_int1i, m_int1b, m_gseqT, m_gseqL, seqP_rt, seqP_bk, seqP_ct, seqP_xc, midP_nx, midP_rt, midP_bk, midP_ct, midP_xc, fnP_nx, fnP_rt, fnP_xc, rdP_nx, rdP_ct, rdP_bk, rdP_rt, rdP_xc, op_some, op_none, op_ite, op_map, op_bind, ok_ret, ok_some, m_lt, m_le, m_gt, m_ge, m_add, m_addT, m_addL, m_sub, m_mulI, m_mod, m_fdivS, m_powS, m_neg, m_bool, m_abs, m_min2, m_max2, m_lenL, m_lenT, m_lenI, m_tupL, m_tupT, m_lstL, m_lstT, m_rv1, m_rv2, m_ov, m_key, m_kds, m_so, m_rng1, m_gset, m_gtup, m_gsc, m_gsn, m_zipL, m_zipT, m_itL, m_itT, m_cutT, m_cutL, eq_I, ne_I, no_nil, no_cons, no_un, no_dat, wi_nil, wi_cons, Bool.and_true, Bool.true_and, Bool.and_self, and_self, List.set_cons_zero, List.set_cons_succ, List.length_cons, List.length_nil, m_line, Nat.reduceAdd, Nat.reduceLeDiff, Nat.reduceLT, Int.reduceLE, Int.reduceLT, Int.reduceToNat, Int.reducePow, Nat.reducePow, Int.reduceNeg, Int.reduceMul, Int.reduceAdd, Int.reduceSub, Nat.reduceMul, Nat.reduceSub, Int.reduceMod, Int.reduceDiv, Nat.zero_add, true_and, and_true, if_true, if_false, reduceCtorEq, false_implies, forall_const, true_implies, implies_true, decide_eq_true_eq, decide_eq_false_iff_not, beq_iff_eq, beq_eq_false_iff_ne, ne_eq, Bool.not_eq_true, List.append_eq, List.cons_append, List.nil_append]
  refine for_ok (fun i ls g' => ∃ x, g' = g ∧ ls = [.dat (.tup [.str (Str.ofString "times")]), .dat (.tup (t.map .int)), .dat (.int ((t.take i).foldl (· * ·) 1)), x, .un, .un]) ⟨_, rfl, rfl⟩ ?_ ?_
  · rintro i d ls g' hd ⟨x, rfl, rfl⟩
    rw [List.getElem?_map] at hd
    obtain ⟨m, hm, rfl⟩ := Option.map_eq_some_iff.mp hd
    obtain ⟨hi, rfl⟩ := List.getElem?_eq_some_iff.mp hm
    have hb := ht.bd _ (List.getElem_mem hi)
    have hl := ht.len
    have hf := ht.few
    obtain ⟨p0, p1⟩ := prod_bd (t.take i) 1 (by decide) fun j hj => ht.bd j (List.mem_of_mem_take hj)
    have q1 : ((t.take i).foldl (· * ·) 1).natAbs.log2 < 30 * 9 := lgP p0 (by
      refine Int.le_trans p1 ?_
      rw [Int.one_mul, List.length_take]
      exact pow_up (by omega)) (by decide)
    have q2 : (t[i]).natAbs.log2 < 40 := lgI hb.1 (by omega) (by decide)
    simp only [w_var, lvD_dat, List.getElem?_cons_zero, List.getElem?_cons_succ, w_c, w_op, w_un, w_test, w_gand, w_gor, w_gnot, w_gyes, w_and, w_or, w_not, w_if, w_nil, w_cons, w_tup, w_lst, w_folst, w_folist, w_cb, w_fd, w_call, w_ocall, ovO_own, w_get, w_args, w_items, w_part, intO_int, w_nopart, w_cut, w_folc, q_seq, q_nx, q_bk, q_ct, q_set, q_setO, q_tg, q_ret, q_retO, q_retN, q_drop, q_if, q_par, q_par3, q_put, q_app, q_for, twoO_two, triO_tri, w_rD, w_rO, lvR_d, lvR_o, q_parR, q_setAt, w_lenv, lenO_o, lenO_l, lenO_t, w_gown, ownL_at, lstO_l, m_oListL, m_oListT, q_appPop, w_intbl, w_attbl, w_callv, fnD_fn, w_tuprg, q_star, q_aug, strD_str, starO_c, rgO_int, m_mulS, m_int1i, m_int1b, m_gseqT, m_gseqL, seqP_nx, seqP_rt, seqP_bk, seqP_ct, seqP_xc, midP_nx, midP_rt, midP_bk, midP_ct, midP_xc, fnP_nx, fnP_rt, fnP_xc, rdP_nx, rdP_ct, rdP_bk, rdP_rt, rdP_xc, op_some, op_none, op_ite, op_map, op_bind, ok_ret, ok_some, m_lt, m_le, m_gt, m_ge, m_add, m_addT, m_addL, m_sub, m_mulI, m_mod, m_fdivS, m_powS, m_neg, m_bool, m_abs, m_min2, m_max2, m_lenL, m_lenT, m_lenI, m_tupL, m_tupT, m_lstL, m_lstT, m_rv1, m_rv2, m_ov, m_key, m_kds, m_so, m_rng1, m_gset, m_gtup, m_gsc, m_gsn, m_zipL, m_zipT, m_itL, m_itT, m_cutT, m_cutL, eq_I, ne_I, no_nil, no_cons, no_un, no_dat, wi_nil, wi_cons, Bool.and_true, Bool.true_and, Bool.and_self, and_self, List.set_cons_zero, List.set_cons_succ, List.length_cons, List.length_nil, m_line, Nat.reduceAdd, Nat.reduceLeDiff, Nat.reduceLT, Int.reduceLE, Int.reduceLT, Int.reduceToNat, Int.reducePow, Nat.reducePow, Int.reduceNeg, Int.reduceMul, Int.reduceAdd, Int.reduceSub, Nat.reduceMul, Nat.reduceSub, Int.reduceMod, Int.reduceDiv, Nat.zero_add, true_and, and_true, if_true, if_false, reduceCtorEq, false_implies, forall_const, true_implies, implies_true, decide_eq_true_eq, decide_eq_false_iff_not, beq_iff_eq, beq_eq_false_iff_ne, ne_eq, Bool.not_eq_true, List.append_eq, List.cons_append, List.nil_append]
    refine ⟨by omega, .dat (.int t[i]), ?_⟩
    rw [List.take_succ_eq_append_getElem hi, List.foldl_append]
    rfl
  · rintro ls g' ⟨x, rfl, rfl⟩
    rw [List.length_map, List.take_length]
    simp only [w_var, lvD_dat, List.getElem?_cons_zero, List.getElem?_cons_succ, w_c, w_op, w_un, w_test, w_gand, w_gor, w_gnot, w_gyes, w_and, w_or, w_not, w_if, w_nil, w_cons, w_tup, w_lst, w_folst, w_folist, w_cb, w_fd, w_call, w_ocall, ovO_own, w_get, w_args, w_items, w_part, intO_int, w_nopart, w_cut, w_folc, q_seq, q_nx, q_bk, q_ct, q_set, q_setO, q_tg, q_ret, q_retO, q_retN, q_drop, q_if, q_par, q_par3, q_put, q_app, q_for, twoO_two, triO_tri, w_rD, w_rO, lvR_d, lvR_o, q_parR, q_setAt, w_lenv, lenO_o, lenO_l, lenO_t, w_gown, ownL_at, lstO_l, m_oListL, m_oListT, q_appPop, w_intbl, w_attbl, w_callv, fnD_fn, w_tuprg, q_star, q_aug, strD_str, starO_c, rgO_int, m_mulS, m_int1i, m_int1b, m_gseqT, m_gseqL, seqP_nx, seqP_rt, seqP_bk, seqP_ct, seqP_xc, midP_nx, midP_rt, midP_bk, midP_ct, midP_xc, fnP_nx, fnP_rt, fnP_xc, rdP_nx, rdP_ct, rdP_bk, rdP_rt, rdP_xc, op_some, op_none, op_ite, op_map, op_bind, ok_ret, ok_some, m_lt, m_le, m_gt, m_ge, m_add, m_addT, m_addL, m_sub, m_mulI, m_mod, m_fdivS, m_powS, m_neg, m_bool, m_abs, m_min2, m_max2, m_lenL, m_lenT, m_lenI, m_tupL, m_tupT, m_lstL, m_lstT, m_rv1, m_rv2, m_ov, m_key, m_kds, m_so, m_rng1, m_gset, m_gtup, m_gsc, m_gsn, m_zipL, m_zipT, m_itL, m_itT, m_cutT, m_cutL, eq_I, ne_I, no_nil, no_cons, no_un, no_dat, wi_nil, wi_cons, Bool.and_true, Bool.true_and, Bool.and_self, and_self, List.set_cons_zero, List.set_cons_succ, List.length_cons, List.length_nil, m_line, Nat.reduceAdd, Nat.reduceLeDiff, Nat.reduceLT, Int.reduceLE, Int.reduceLT, Int.reduceToNat, Int.reducePow, Nat.reducePow, Int.reduceNeg, Int.reduceMul, Int.reduceAdd, Int.reduceSub, Nat.reduceMul, Nat.reduceSub, Int.reduceMod, Int.reduceDiv, Nat.zero_add, true_and, and_true, if_true, if_false, reduceCtorEq, false_implies, forall_const, true_implies, implies_true, decide_eq_true_eq, decide_eq_false_iff_not, beq_iff_eq, beq_eq_false_iff_ne, ne_eq, Bool.not_eq_true, List.append_eq, List.cons_append, List.nil_append]
    exact fin
theorem lworth_low {n : Nat} {t : List Int} (ht : Thg n t) {ff : Fn} {g : Gs} {P : RV → Gs → Prop} {E : Exn → Gs → Prop} (fin : P (.dat (.int (Sc.low.val t))) g) : Ok (fnF 6 (gb_lworth ff) [Sc.low.d, iT t] g) P E := by
  rw [w_fn]
  show SOk (gb_lworth ff [.dat (.tup [.str (Str.ofString "low")]), .dat (.tup (t.map .int)), .un, .un, .un, .un] g) _
  unfold gb_lworth
  simp only [w_var, lvD_dat, List.getElem?_cons_zero, List.getElem?_cons_succ, w_c, w_op, w_un, w_test, w_gand, w_gor, w_gnot, w_gyes, w_and, w_or, w_not, w_if, w_nil, w_cons, w_tup, w_lst, w_folst, w_folist, w_cb, w_fd, w_call, w_ocall, ovO_own, w_get, w_args, w_items, w_part, intO_int, w_nopart, w_cut, w_folc, q_seq, q_nx, q_bk, q_ct, q_set, q_setO, q_tg, q_ret, q_retO, q_retN, q_drop, q_if, q_par, q_par3, q_put, q_app, q_for, twoO_two, triO_tri, w_rD, w_rO, lvR_d, lvR_o, q_parR, q_setAt, w_lenv, lenO_o, lenO_l, lenO_t, w_gown, ownL_at, lstO_l, m_oListL, m_oListT, q_appPop, w_intbl, w_attbl, w_callv, fnD_fn, w_tuprg, q_star, q_aug, strD_str, starO_c, rgO_int, m_mulS, m_int1i, m_int1b, m_gseqT, m_gseqL, seqP_nx, seqP_rt, seqP_bk, seqP_ct, seqP_xc, midP_nx, midP_rt, midP_bk, midP_ct, midP_xc, fnP_nx, fnP_rt, fnP_xc, rdP_nx, rdP_ct, rdP_bk, rdP_rt, rdP_xc, op_some, op_none, op_ite, op_map, op_bind, ok_ret, ok_some, m_lt, m_le, m_gt, m_ge, m_add, m_addT, m_addL, m_sub, m_mulI, m_mod, m_fdivS, m_powS, m_neg, m_bool, m_abs, m_min2, m_max2, m_lenL, m_lenT, m_lenI, m_tupL, m_tupT, m_lstL, m_lstT, m_rv1, m_rv2, m_ov, m_key, m_kds, m_so, m_rng1, m_gset, m_gtup, m_gsc, m_gsn, m_zipL, m_zipT, m_itL, m_itT, m_cutT, m_cutL, eq_I, ne_I, no_nil, no_cons, no_un, no_dat, wi_nil, wi_cons, Bool.and_true, Bool.true_and, Bool.and_self, and_self, List.set_cons_zero, List.set_cons_succ, List.length_cons, List.length_nil, m_line, Nat.reduceAdd, Nat.reduceLeDiff, Nat.reduceLT, Int.reduceLE, Int.reduceLT, Int.reduceToNat, Int.reducePow, Nat.reducePow, Int.reduceNeg, Int.reduceMul, Int.reduceAdd, Int.reduceSub, Nat.reduceMul, Nat.reduceSub, Int.reduceMod, Int.reduceDiv, Nat.zero_add, true_and, and_true, if_true, if_false, reduceCtorEq, false_implies, forall_const, true_implies, implies_true, decide_eq_true_eq, decide_eq_false_iff_not, beq_iff_eq, beq_eq_false_iff_ne, ne_eq, Bool.not_eq_true, List.append_eq, List.cons_append, List.nil_append, ix0T, qe_low_sum, qe_low_times, qi_low, qe_low_low, ext_T ht.ne]
  exact fin
theorem lworth_high {n : Nat} {t : List Int} (ht : Thg n t) {ff : Fn} {g : Gs} {P : RV → Gs → Prop} {E : Exn → Gs → Prop} (fin : P (.dat (.int (Sc.high.val t))) g) : Ok (fnF 6 (gb_lworth ff) [Sc.high.d, iT t] g) P E := by
  rw [w_fn]
  show SOk (gb_lworth ff [.dat (.tup [.str (Str.ofString "high")]), .dat (.tup (t.map .int)), .un, .un, .un, .un] g) _
  unfold gb_lworth
  simp only [w_var, lvD_dat, List.getElem?_cons_zero, List.getElem?_cons_succ, w_c, w_op, w_un, w_test, w_gand, w_gor, w_gnot, w_gyes, w_and, w_or, w_not, w_if, w_nil, w_cons, w_tup, w_lst, w_folst, w_folist, w_cb, w_fd, w_call, w_ocall, ovO_own, w_get, w_args, w_items, w_part, intO_int, w_nopart, w_cut, w_folc, q_seq, q_nx, q_bk, q_ct, q_set, q_setO, q_tg, q_ret, q_retO, q_retN, q_drop, q_if, q_par, q_par3, q_put, q_app, q_for, twoO_two, triO_tri, w_rD, w_rO, lvR_d, lvR_o, q_parR, q_setAt, w_lenv, lenO_o, lenO_l, lenO_t, w_gown, ownL_at, lstO_l, m_oListL, m_oListT, q_appPop, w_intbl, w_attbl, w_callv, fnD_fn, w_tuprg, q_star, q_aug, strD_str, starO_c, rgO_int, m_mulS, m_int1i, m_int1b, m_gseqT, m_gseqL, seqP_nx, seqP_rt, seqP_bk, seqP_ct, seqP_xc, midP_nx, midP_rt, midP_bk, midP_ct, midP_xc, fnP_nx, fnP_rt, fnP_xc, rdP_nx, rdP_ct, rdP_bk, rdP_rt, rdP_xc, op_some, op_none, op_ite, op_map, op_bind, ok_ret, ok_some, m_lt, m_le, m_gt, m_ge, m_add, m_addT, m_addL, m_sub, m_mulI, m_mod, m_fdivS, m_powS, m_neg, m_bool, m_abs, m_min2, m_max2, m_lenL, m_lenT, m_lenI, m_tupL, m_tupT, m_lstL, m_lstT, m_rv1, m_rv2, m_ov, m_key, m_kds, m_so, m_rng1, m_gset, m_gtup, m_gsc, m_gsn, m_zipL, m_zipT, m_itL, m_itT, m_cutT, m_cutL, eq_I, ne_I, no_nil, no_cons, no_un, no_dat, wi_nil, wi_cons, Bool.and_true, Bool.true_and, Bool.and_self, and_self, List.set_cons_zero, List.set_cons_succ, List.length_cons, List.length_nil, m_line, Nat.reduceAdd, Nat.reduceLeDiff, Nat.reduceLT, Int.reduceLE, Int.reduceLT, Int.reduceToNat, Int.reducePow, Nat.reducePow, Int.reduceNeg, Int.reduceMul, Int.reduceAdd, Int.reduceSub, Nat.reduceMul, Nat.reduceSub, Int.reduceMod, Int.reduceDiv, Nat.zero_add, true_and, and_true, if_true, if_false, reduceCtorEq, false_implies, forall_const, true_implies, implies_true, decide_eq_true_eq, decide_eq_false_iff_not, beq_iff_eq, beq_eq_false_iff_ne, ne_eq, Bool.not_eq_true, List.append_eq, List.cons_append, List.nil_append, ix0T, qe_high_sum, qe_high_times, qi_high, qe_high_low, ext_T ht.ne]
  exact fin
def IsW (ff : Fn) (a : Sc) (t : List Int) (g : Gs) : Prop := ∀ (P : RV → Gs → Prop) (E : Exn → Gs → Prop), P (.dat (.int (a.val t))) g → Ok (ff [a.d, iT t] g) P E
theorem lworth_two {t : List Int} {ff : Fn} {g : Gs} {P : RV → Gs → Prop} {E : Exn → Gs → Prop} (w : String) (a b : Sc) (ha : IsW ff a t g) (hb : IsW ff b t g) (h1 : dEq (.str (Str.ofString w)) (.str (Str.ofString "sum")) = some (.bl false)) (h2 : dEq (.str (Str.ofString w)) (.str (Str.ofString "times")) = some (.bl false)) (h3 : dIn (.str (Str.ofString w)) (.tup [.str (Str.ofString "low"), .str (Str.ofString "high")]) = some (.bl false))
    (h4 : SOk (sSeq (sIf (fTest (fOp dEq (fOp dIx (fVar 0) (fC (.int 0))) (fC (.str "add")))) (sRet (fCB dSum (lCons (fVar 4) (lNil)))) (sNx))
          (sRet (fIf (fTest (fOp dEq (fOp dIx (fVar 0) (fC (.int 0))) (fC (.str "lesser")))) (fCB (dExt minI) (lCons (fVar 4) (lNil))) (fCB (dExt maxI) (lCons (fVar 4) (lNil)))))
          [.dat (.tup [.str (Str.ofString w), a.d, b.d]), .dat (iT t), .un, .un, .dat (.lst ([a.val t, b.val t].map .int)), .un] g) (fnP P E)) :
    Ok (fnF 6 (gb_lworth ff) [.tup [.str (Str.ofString w), a.d, b.d], iT t] g) P E := by
  rw [w_fn]
  show SOk (gb_lworth ff [.dat (.tup [.str (Str.ofString w), a.d, b.d]), .dat (iT t), .un, .un, .un, .un] g) _
  unfold gb_lworth
  rw [q_seq]
  simp only [w_var, lvD_dat, List.getElem?_cons_zero, List.getElem?_cons_succ, w_c, w_op, w_un, w_test, w_gand, w_gor, w_gnot, w_gyes, w_and, w_or, w_not, w_if, w_nil, w_cons, w_tup, w_lst, w_folst, w_folist, w_cb, w_fd, w_call, w_ocall, ovO_own, w_get, w_args, w_items, w_part, intO_int, w_nopart, w_cut, w_folc, q_nx, q_bk, q_ct, q_set, q_setO, q_tg, q_ret, q_retO, q_retN, q_drop, q_if, q_par, q_par3, q_put, q_app, q_for, twoO_two, triO_tri, w_rD, w_rO, lvR_d, lvR_o, q_parR, q_setAt, w_lenv, lenO_o, lenO_l, lenO_t, w_gown, ownL_at, lstO_l, m_oListL, m_oListT, q_appPop, w_intbl, w_attbl, w_callv, fnD_fn, w_tuprg, q_star, q_aug, strD_str, starO_c, rgO_int, m_mulS, m_int1i, m_int1b, m_gseqT, m_gseqL, seqP_rt, seqP_bk, seqP_ct, seqP_xc, midP_nx, midP_rt, midP_bk, midP_ct, midP_xc, fnP_nx, fnP_rt, fnP_xc, rdP_nx, rdP_ct, rdP_bk, rdP_rt, rdP_xc, op_some, op_none, op_ite, op_map, op_bind, ok_ret, ok_some, m_lt, m_le, m_gt, m_ge, m_add, m_addT, m_addL, m_sub, m_mulI, m_mod, m_fdivS, m_powS, m_neg, m_bool, m_abs, m_min2, m_max2, m_lenL, m_lenT, m_lenI, m_tupL, m_tupT, m_lstL, m_lstT, m_rv1, m_rv2, m_ov, m_key, m_kds, m_so, m_rng1, m_gset, m_gtup, m_gsc, m_gsn, m_zipL, m_zipT, m_itL, m_itT, m_cutT, m_cutL, eq_I, ne_I, no_nil, no_cons, no_un, no_dat, wi_nil, wi_cons, Bool.and_true, Bool.true_and, Bool.and_self, and_self, List.set_cons_zero, List.set_cons_succ, List.length_cons, List.length_nil, m_line, Nat.reduceAdd, Nat.reduceLeDiff, Nat.reduceLT, Int.reduceLE, Int.reduceLT, Int.reduceToNat, Int.reducePow, Nat.reducePow, Int.reduceNeg, Int.reduceMul, Int.reduceAdd, Int.reduceSub, Nat.reduceMul, Nat.reduceSub, Int.reduceMod, Int.reduceDiv, Nat.zero_add, true_and, and_true, if_true, if_false, reduceCtorEq, false_implies, forall_const, true_implies, implies_true, decide_eq_true_eq, decide_eq_false_iff_not, beq_iff_eq, beq_eq_false_iff_ne, ne_eq, Bool.not_eq_true, List.append_eq, List.cons_append, List.nil_append, ix0T, h1]
  rw [seqP_nx, q_seq]
  simp only [w_var, lvD_dat, List.getElem?_cons_zero, List.getElem?_cons_succ, w_c, w_op, w_un, w_test, w_gand, w_gor, w_gnot, w_gyes, w_and, w_or, w_not, w_if, w_nil, w_cons, w_tup, w_lst, w_folst, w_folist, w_cb, w_fd, w_call, w_ocall, ovO_own, w_get, w_args, w_items, w_part, intO_int, w_nopart, w_cut, w_folc, q_nx, q_bk, q_ct, q_set, q_setO, q_tg, q_ret, q_retO, q_retN, q_drop, q_if, q_par, q_par3, q_put, q_app, q_for, twoO_two, triO_tri, w_rD, w_rO, lvR_d, lvR_o, q_parR, q_setAt, w_lenv, lenO_o, lenO_l, lenO_t, w_gown, ownL_at, lstO_l, m_oListL, m_oListT, q_appPop, w_intbl, w_attbl, w_callv, fnD_fn, w_tuprg, q_star, q_aug, strD_str, starO_c, rgO_int, m_mulS, m_int1i, m_int1b, m_gseqT, m_gseqL, seqP_rt, seqP_bk, seqP_ct, seqP_xc, midP_nx, midP_rt, midP_bk, midP_ct, midP_xc, fnP_nx, fnP_rt, fnP_xc, rdP_nx, rdP_ct, rdP_bk, rdP_rt, rdP_xc, op_some, op_none, op_ite, op_map, op_bind, ok_ret, ok_some, m_lt, m_le, m_gt, m_ge, m_add, m_addT, m_addL, m_sub, m_mulI, m_mod, m_fdivS, m_powS, m_neg, m_bool, m_abs, m_min2, m_max2, m_lenL, m_lenT, m_lenI, m_tupL, m_tupT, m_lstL, m_lstT, m_rv1, m_rv2, m_ov, m_key, m_kds, m_so, m_rng1, m_gset, m_gtup, m_gsc, m_gsn, m_zipL, m_zipT, m_itL, m_itT, m_cutT, m_cutL, eq_I, ne_I, no_nil, no_cons, no_un, no_dat, wi_nil, wi_cons, Bool.and_true, Bool.true_and, Bool.and_self, and_self, List.set_cons_zero, List.set_cons_succ, List.length_cons, List.length_nil, m_line, Nat.reduceAdd, Nat.reduceLeDiff, Nat.reduceLT, Int.reduceLE, Int.reduceLT, Int.reduceToNat, Int.reducePow, Nat.reducePow, Int.reduceNeg, Int.reduceMul, Int.reduceAdd, Int.reduceSub, Nat.reduceMul, Nat.reduceSub, Int.reduceMod, Int.reduceDiv, Nat.zero_add, true_and, and_true, if_true, if_false, reduceCtorEq, false_implies, forall_const, true_implies, implies_true, decide_eq_true_eq, decide_eq_false_iff_not, beq_iff_eq, beq_eq_false_iff_ne, ne_eq, Bool.not_eq_true, List.append_eq, List.cons_append, List.nil_append, ix0T, h2]
  rw [seqP_nx, q_seq]
  simp only [w_var, lvD_dat, List.getElem?_cons_zero, List.getElem?_cons_succ, w_c, w_op, w_un, w_test, w_gand, w_gor, w_gnot, w_gyes, w_and, w_or, w_not, w_if, w_nil, w_cons, w_tup, w_lst, w_folst, w_folist, w_cb, w_fd, w_call, w_ocall, ovO_own, w_get, w_args, w_items, w_part, intO_int, w_nopart, w_cut, w_folc, q_nx, q_bk, q_ct, q_set, q_setO, q_tg, q_ret, q_retO, q_retN, q_drop, q_if, q_par, q_par3, q_put, q_app, q_for, twoO_two, triO_tri, w_rD, w_rO, lvR_d, lvR_o, q_parR, q_setAt, w_lenv, lenO_o, lenO_l, lenO_t, w_gown, ownL_at, lstO_l, m_oListL, m_oListT, q_appPop, w_intbl, w_attbl, w_callv, fnD_fn, w_tuprg, q_star, q_aug, strD_str, starO_c, rgO_int, m_mulS, m_int1i, m_int1b, m_gseqT, m_gseqL, seqP_rt, seqP_bk, seqP_ct, seqP_xc, midP_nx, midP_rt, midP_bk, midP_ct, midP_xc, fnP_nx, fnP_rt, fnP_xc, rdP_nx, rdP_ct, rdP_bk, rdP_rt, rdP_xc, op_some, op_none, op_ite, op_map, op_bind, ok_ret, ok_some, m_lt, m_le, m_gt, m_ge, m_add, m_addT, m_addL, m_sub, m_mulI, m_mod, m_fdivS, m_powS, m_neg, m_bool, m_abs, m_min2, m_max2, m_lenL, m_lenT, m_lenI, m_tupL, m_tupT, m_lstL, m_lstT, m_rv1, m_rv2, m_ov, m_key, m_kds, m_so, m_rng1, m_gset, m_gtup, m_gsc, m_gsn, m_zipL, m_zipT, m_itL, m_itT, m_cutT, m_cutL, eq_I, ne_I, no_nil, no_cons, no_un, no_dat, wi_nil, wi_cons, Bool.and_true, Bool.true_and, Bool.and_self, and_self, List.set_cons_zero, List.set_cons_succ, List.length_cons, List.length_nil, m_line, Nat.reduceAdd, Nat.reduceLeDiff, Nat.reduceLT, Int.reduceLE, Int.reduceLT, Int.reduceToNat, Int.reducePow, Nat.reducePow, Int.reduceNeg, Int.reduceMul, Int.reduceAdd, Int.reduceSub, Nat.reduceMul, Nat.reduceSub, Int.reduceMod, Int.reduceDiv, Nat.zero_add, true_and, and_true, if_true, if_false, reduceCtorEq, false_implies, forall_const, true_implies, implies_true, decide_eq_true_eq, decide_eq_false_iff_not, beq_iff_eq, beq_eq_false_iff_ne, ne_eq, Bool.not_eq_true, List.append_eq, List.cons_append, List.nil_append, ix0T, h3]
  rw [seqP_nx, q_seq]
  simp only [w_var, lvD_dat, List.getElem?_cons_zero, List.getElem?_cons_succ, w_c, w_op, w_un, w_test, w_gand, w_gor, w_gnot, w_gyes, w_and, w_or, w_not, w_if, w_nil, w_cons, w_tup, w_lst, w_folst, w_folist, w_cb, w_fd, w_call, w_ocall, ovO_own, w_get, w_args, w_items, w_part, intO_int, w_nopart, w_cut, w_folc, q_nx, q_bk, q_ct, q_set, q_setO, q_tg, q_ret, q_retO, q_retN, q_drop, q_if, q_par, q_par3, q_put, q_app, q_for, twoO_two, triO_tri, w_rD, w_rO, lvR_d, lvR_o, q_parR, q_setAt, w_lenv, lenO_o, lenO_l, lenO_t, w_gown, ownL_at, lstO_l, m_oListL, m_oListT, q_appPop, w_intbl, w_attbl, w_callv, fnD_fn, w_tuprg, q_star, q_aug, strD_str, starO_c, rgO_int, m_mulS, m_int1i, m_int1b, m_gseqT, m_gseqL, seqP_rt, seqP_bk, seqP_ct, seqP_xc, midP_nx, midP_rt, midP_bk, midP_ct, midP_xc, fnP_nx, fnP_rt, fnP_xc, rdP_nx, rdP_ct, rdP_bk, rdP_rt, rdP_xc, op_some, op_none, op_ite, op_map, op_bind, ok_ret, ok_some, m_lt, m_le, m_gt, m_ge, m_add, m_addT, m_addL, m_sub, m_mulI, m_mod, m_fdivS, m_powS, m_neg, m_bool, m_abs, m_min2, m_max2, m_lenL, m_lenT, m_lenI, m_tupL, m_tupT, m_lstL, m_lstT, m_rv1, m_rv2, m_ov, m_key, m_kds, m_so, m_rng1, m_gset, m_gtup, m_gsc, m_gsn, m_zipL, m_zipT, m_itL, m_itT, m_cutT, m_cutL, eq_I, ne_I, no_nil, no_cons, no_un, no_dat, wi_nil, wi_cons, Bool.and_true, Bool.true_and, Bool.and_self, and_self, List.set_cons_zero, List.set_cons_succ, List.length_cons, List.length_nil, m_line, Nat.reduceAdd, Nat.reduceLeDiff, Nat.reduceLT, Int.reduceLE, Int.reduceLT, Int.reduceToNat, Int.reducePow, Nat.reducePow, Int.reduceNeg, Int.reduceMul, Int.reduceAdd, Int.reduceSub, Nat.reduceMul, Nat.reduceSub, Int.reduceMod, Int.reduceDiv, Nat.zero_add, true_and, and_true, if_true, if_false, reduceCtorEq, false_implies, forall_const, true_implies, implies_true, decide_eq_true_eq, decide_eq_false_iff_not, beq_iff_eq, beq_eq_false_iff_ne, ne_eq, Bool.not_eq_true, List.append_eq, List.cons_append, List.nil_append, ix1T, ix2T]
  refine ha _ _ ?_
  rw [m_rv1]
  refine hb _ _ ?_
  rw [m_rv1]
  try simp only [w_var, lvD_dat, List.getElem?_cons_zero, List.getElem?_cons_succ, w_c, w_op, w_un, w_test, w_gand, w_gor, w_gnot, w_gyes, w_and, w_or, w_not, w_if, w_nil, w_cons, w_tup, w_lst, w_folst, w_folist, w_cb, w_fd, w_call, w_ocall, ovO_own, w_get, w_args, w_items, w_part, intO_int, w_nopart, w_cut, w_folc, q_nx, q_bk, q_ct, q_set, q_setO, q_tg, q_ret, q_retO, q_retN, q_drop, q_if, q_par, q_par3, q_put, q_app, q_for, twoO_two, triO_tri, w_rD, w_rO, lvR_d, lvR_o, q_parR, q_setAt, w_lenv, lenO_o, lenO_l, lenO_t, w_gown, ownL_at, lstO_l, m_oListL, m_oListT, q_appPop, w_intbl, w_attbl, w_callv, fnD_fn, w_tuprg, q_star, q_aug, strD_str, starO_c, rgO_int, m_mulS, m_int1i, m_int1b, m_gseqT, m_gseqL, seqP_rt, seqP_bk, seqP_ct, seqP_xc, midP_nx, midP_rt, midP_bk, midP_ct, midP_xc, fnP_nx, fnP_rt, fnP_xc, rdP_nx, rdP_ct, rdP_bk, rdP_rt, rdP_xc, op_some, op_none, op_ite, op_map, op_bind, ok_ret, ok_some, m_lt, m_le, m_gt, m_ge, m_add, m_addT, m_addL, m_sub, m_mulI, m_mod, m_fdivS, m_powS, m_neg, m_bool, m_abs, m_min2, m_max2, m_lenL, m_lenT, m_lenI, m_tupL, m_tupT, m_lstL, m_lstT, m_rv1, m_rv2, m_ov, m_key, m_kds, m_so, m_rng1, m_gset, m_gtup, m_gsc, m_gsn, m_zipL, m_zipT, m_itL, m_itT, m_cutT, m_cutL, eq_I, ne_I, no_nil, no_cons, no_un, no_dat, wi_nil, wi_cons, Bool.and_true, Bool.true_and, Bool.and_self, and_self, List.set_cons_zero, List.set_cons_succ, List.length_cons, List.length_nil, m_line, Nat.reduceAdd, Nat.reduceLeDiff, Nat.reduceLT, Int.reduceLE, Int.reduceLT, Int.reduceToNat, Int.reducePow, Nat.reducePow, Int.reduceNeg, Int.reduceMul, Int.reduceAdd, Int.reduceSub, Nat.reduceMul, Nat.reduceSub, Int.reduceMod, Int.reduceDiv, Nat.zero_add, true_and, and_true, if_true, if_false, reduceCtorEq, false_implies, forall_const, true_implies, implies_true, decide_eq_true_eq, decide_eq_false_iff_not, beq_iff_eq, beq_eq_false_iff_ne, ne_eq, Bool.not_eq_true, List.append_eq, List.cons_append, List.nil_append]
  rw [seqP_nx]
  exact h4
theorem lworth_add {t : List Int} {ff : Fn} {a b : Sc} {g : Gs} {P : RV → Gs → Prop} {E : Exn → Gs → Prop} (ha : IsW ff a t g) (hb : IsW ff b t g) (fin : P (.dat (.int ((Sc.add a b).val t))) g) : Ok (fnF 6 (gb_lworth ff) [(Sc.add a b).d, iT t] g) P E := by
  refine lworth_two "add" a b ha hb qe_add_sum qe_add_times qi_add ?_
  simp only [w_var, lvD_dat, List.getElem?_cons_zero, List.getElem?_cons_succ, w_c, w_op, w_un, w_test, w_gand, w_gor, w_gnot, w_gyes, w_and, w_or, w_not, w_if, w_nil, w_cons, w_tup, w_lst, w_folst, w_folist, w_cb, w_fd, w_call, w_ocall, ovO_own, w_get, w_args, w_items, w_part, intO_int, w_nopart, w_cut, w_folc, q_seq, q_nx, q_bk, q_ct, q_set, q_setO, q_tg, q_ret, q_retO, q_retN, q_drop, q_if, q_par, q_par3, q_put, q_app, q_for, twoO_two, triO_tri, w_rD, w_rO, lvR_d, lvR_o, q_parR, q_setAt, w_lenv, lenO_o, lenO_l, lenO_t, w_gown, ownL_at, lstO_l, m_oListL, m_oListT, q_appPop, w_intbl, w_attbl, w_callv, fnD_fn, w_tuprg, q_star, q_aug, strD_str, starO_c, rgO_int, m_mulS, m_int1i, m_int1b, m_gseqT, m_gseqL, seqP_nx, seqP_rt, seqP_bk, seqP_ct, seqP_xc, midP_nx, midP_rt, midP_bk, midP_ct, midP_xc, fnP_nx, fnP_rt, fnP_xc, rdP_nx, rdP_ct, rdP_bk, rdP_rt, rdP_xc, op_some, op_none, op_ite, op_map, op_bind, ok_ret, ok_some, m_lt, m_le, m_gt, m_ge, m_add, m_addT, m_addL, m_sub, m_mulI, m_mod, m_fdivS, m_powS, m_neg, m_bool, m_abs, m_min2, m_max2, m_lenL, m_lenT, m_lenI, m_tupL, m_tupT, m_lstL, m_lstT, m_rv1, m_rv2, m_ov, m_key, m_kds, m_so, m_rng1, m_gset, m_gtup, m_gsc, m_gsn, m_zipL, m_zipT, m_itL, m_itT, m_cutT, m_cutL, eq_I, ne_I, no_nil, no_cons, no_un, no_dat, wi_nil, wi_cons, Bool.and_true, Bool.true_and, Bool.and_self, and_self, List.set_cons_zero, List.set_cons_succ, List.length_cons, List.length_nil, m_line, Nat.reduceAdd, Nat.reduceLeDiff, Nat.reduceLT, Int.reduceLE, Int.reduceLT, Int.reduceToNat, Int.reducePow, Nat.reducePow, Int.reduceNeg, Int.reduceMul, Int.reduceAdd, Int.reduceSub, Nat.reduceMul, Nat.reduceSub, Int.reduceMod, Int.reduceDiv, Nat.zero_add, true_and, and_true, if_true, if_false, reduceCtorEq, false_implies, forall_const, true_implies, implies_true, decide_eq_true_eq, decide_eq_false_iff_not, beq_iff_eq, beq_eq_false_iff_ne, ne_eq, Bool.not_eq_true, List.append_eq, List.cons_append, List.nil_append, ix0T, qe_add_add, sum_L]
  rw [List.sum_cons, List.sum_cons, List.sum_nil, Int.add_zero]
  exact fin
theorem lworth_lesser {t : List Int} {ff : Fn} {a b : Sc} {g : Gs} {P : RV → Gs → Prop} {E : Exn → Gs → Prop} (ha : IsW ff a t g) (hb : IsW ff b t g) (fin : P (.dat (.int ((Sc.lesser a b).val t))) g) : Ok (fnF 6 (gb_lworth ff) [(Sc.lesser a b).d, iT t] g) P E := by
  refine lworth_two "lesser" a b ha hb qe_lesser_sum qe_lesser_times qi_lesser ?_
  simp only [w_var, lvD_dat, List.getElem?_cons_zero, List.getElem?_cons_succ, w_c, w_op, w_un, w_test, w_gand, w_gor, w_gnot, w_gyes, w_and, w_or, w_not, w_if, w_nil, w_cons, w_tup, w_lst, w_folst, w_folist, w_cb, w_fd, w_call, w_ocall, ovO_own, w_get, w_args, w_items, w_part, intO_int, w_nopart, w_cut, w_folc, q_seq, q_nx, q_bk, q_ct, q_set, q_setO, q_tg, q_ret, q_retO, q_retN, q_drop, q_if, q_par, q_par3, q_put, q_app, q_for, twoO_two, triO_tri, w_rD, w_rO, lvR_d, lvR_o, q_parR, q_setAt, w_lenv, lenO_o, lenO_l, lenO_t, w_gown, ownL_at, lstO_l, m_oListL, m_oListT, q_appPop, w_intbl, w_attbl, w_callv, fnD_fn, w_tuprg, q_star, q_aug, strD_str, starO_c, rgO_int, m_mulS, m_int1i, m_int1b, m_gseqT, m_gseqL, seqP_nx, seqP_rt, seqP_bk, seqP_ct, seqP_xc, midP_nx, midP_rt, midP_bk, midP_ct, midP_xc, fnP_nx, fnP_rt, fnP_xc, rdP_nx, rdP_ct, rdP_bk, rdP_rt, rdP_xc, op_some, op_none, op_ite, op_map, op_bind, ok_ret, ok_some, m_lt, m_le, m_gt, m_ge, m_add, m_addT, m_addL, m_sub, m_mulI, m_mod, m_fdivS, m_powS, m_neg, m_bool, m_abs, m_min2, m_max2, m_lenL, m_lenT, m_lenI, m_tupL, m_tupT, m_lstL, m_lstT, m_rv1, m_rv2, m_ov, m_key, m_kds, m_so, m_rng1, m_gset, m_gtup, m_gsc, m_gsn, m_zipL, m_zipT, m_itL, m_itT, m_cutT, m_cutL, eq_I, ne_I, no_nil, no_cons, no_un, no_dat, wi_nil, wi_cons, Bool.and_true, Bool.true_and, Bool.and_self, and_self, List.set_cons_zero, List.set_cons_succ, List.length_cons, List.length_nil, m_line, Nat.reduceAdd, Nat.reduceLeDiff, Nat.reduceLT, Int.reduceLE, Int.reduceLT, Int.reduceToNat, Int.reducePow, Nat.reducePow, Int.reduceNeg, Int.reduceMul, Int.reduceAdd, Int.reduceSub, Nat.reduceMul, Nat.reduceSub, Int.reduceMod, Int.reduceDiv, Nat.zero_add, true_and, and_true, if_true, if_false, reduceCtorEq, false_implies, forall_const, true_implies, implies_true, decide_eq_true_eq, decide_eq_false_iff_not, beq_iff_eq, beq_eq_false_iff_ne, ne_eq, Bool.not_eq_true, List.append_eq, List.cons_append, List.nil_append, ix0T, qe_lesser_add, qe_lesser_lesser, ext_L (t := [a.val t, b.val t]) (by simp)]
  have : minI [a.val t, b.val t] = Sc.val (.lesser a b) t := by
    show min (a.val t) (b.val t) = if b.val t < a.val t then b.val t else a.val t
    split <;> omega
  rw [this]
  exact fin
theorem lworth_greater {t : List Int} {ff : Fn} {a b : Sc} {g : Gs} {P : RV → Gs → Prop} {E : Exn → Gs → Prop} (ha : IsW ff a t g) (hb : IsW ff b t g) (fin : P (.dat (.int ((Sc.greater a b).val t))) g) : Ok (fnF 6 (gb_lworth ff) [(Sc.greater a b).d, iT t] g) P E := by
  refine lworth_two "greater" a b ha hb qe_greater_sum qe_greater_times qi_greater ?_
  simp only [w_var, lvD_dat, List.getElem?_cons_zero, List.getElem?_cons_succ, w_c, w_op, w_un, w_test, w_gand, w_gor, w_gnot, w_gyes, w_and, w_or, w_not, w_if, w_nil, w_cons, w_tup, w_lst, w_folst, w_folist, w_cb, w_fd, w_call, w_ocall, ovO_own, w_get, w_args, w_items, w_part, intO_int, w_nopart, w_cut, w_folc, q_seq, q_nx, q_bk, q_ct, q_set, q_setO, q_tg, q_ret, q_retO, q_retN, q_drop, q_if, q_par, q_par3, q_put, q_app, q_for, twoO_two, triO_tri, w_rD, w_rO, lvR_d, lvR_o, q_parR, q_setAt, w_lenv, lenO_o, lenO_l, lenO_t, w_gown, ownL_at, lstO_l, m_oListL, m_oListT, q_appPop, w_intbl, w_attbl, w_callv, fnD_fn, w_tuprg, q_star, q_aug, strD_str, starO_c, rgO_int, m_mulS, m_int1i, m_int1b, m_gseqT, m_gseqL, seqP_nx, seqP_rt, seqP_bk, seqP_ct, seqP_xc, midP_nx, midP_rt, midP_bk, midP_ct, midP_xc, fnP_nx, fnP_rt, fnP_xc, rdP_nx, rdP_ct, rdP_bk, rdP_rt, rdP_xc, op_some, op_none, op_ite, op_map, op_bind, ok_ret, ok_some, m_lt, m_le, m_gt, m_ge, m_add, m_addT, m_addL, m_sub, m_mulI, m_mod, m_fdivS, m_powS, m_neg, m_bool, m_abs, m_min2, m_max2, m_lenL, m_lenT, m_lenI, m_tupL, m_tupT, m_lstL, m_lstT, m_rv1, m_rv2, m_ov, m_key, m_kds, m_so, m_rng1, m_gset, m_gtup, m_gsc, m_gsn, m_zipL, m_zipT, m_itL, m_itT, m_cutT, m_cutL, eq_I, ne_I, no_nil, no_cons, no_un, no_dat, wi_nil, wi_cons, Bool.and_true, Bool.true_and, Bool.and_self, and_self, List.set_cons_zero, List.set_cons_succ, List.length_cons, List.length_nil, m_line, Nat.reduceAdd, Nat.reduceLeDiff, Nat.reduceLT, Int.reduceLE, Int.reduceLT, Int.reduceToNat, Int.reducePow, Nat.reducePow, Int.reduceNeg, Int.reduceMul, Int.reduceAdd, Int.reduceSub, Nat.reduceMul, Nat.reduceSub, Int.reduceMod, Int.reduceDiv, Nat.zero_add, true_and, and_true, if_true, if_false, reduceCtorEq, false_implies, forall_const, true_implies, implies_true, decide_eq_true_eq, decide_eq_false_iff_not, beq_iff_eq, beq_eq_false_iff_ne, ne_eq, Bool.not_eq_true, List.append_eq, List.cons_append, List.nil_append, ix0T, qe_greater_add, qe_greater_lesser, ext_L (t := [a.val t, b.val t]) (by simp)]
  have : maxI [a.val t, b.val t] = Sc.val (.greater a b) t := by
    show max (a.val t) (b.val t) = if b.val t > a.val t then b.val t else a.val t
    split <;> omega
  rw [this]
  exact fin
theorem lworth_ok {n : Nat} {t : List Int} (ht : Thg n t) : ∀ (k : Nat) (s : Sc) {g : Gs} {P : RV → Gs → Prop} {E : Exn → Gs → Prop}, s.dep ≤ k → s.Okn n → P (.dat (.int (s.val t))) g → Ok (g_lworth k [s.d, iT t] g) P E
  | 0, s, g, P, E, hk, _, _ => by cases s <;> simp [Sc.dep] at hk
  | k + 1, .sum ws, g, P, E, hk, hs, fin => lworth_sum ht hs.1 hs.2 (v := (Sc.sum ws).val t) rfl fin
  | k + 1, .times, g, P, E, hk, hs, fin => lworth_times ht fin
  | k + 1, .low, g, P, E, hk, hs, fin => lworth_low ht fin
  | k + 1, .high, g, P, E, hk, hs, fin => lworth_high ht fin
  | k + 1, .add a b, g, P, E, hk, hs, fin => lworth_add (fun P E f => lworth_ok ht k a (Nat.le_trans (Nat.le_max_left _ _) (Nat.le_of_succ_le_succ hk)) hs.1 f) (fun P E f => lworth_ok ht k b (Nat.le_trans (Nat.le_max_right _ _) (Nat.le_of_succ_le_succ hk)) hs.2 f) fin
  | k + 1, .lesser a b, g, P, E, hk, hs, fin => lworth_lesser (fun P E f => lworth_ok ht k a (Nat.le_trans (Nat.le_max_left _ _) (Nat.le_of_succ_le_succ hk)) hs.1 f) (fun P E f => lworth_ok ht k b (Nat.le_trans (Nat.le_max_right _ _) (Nat.le_of_succ_le_succ hk)) hs.2 f) fin
  | k + 1, .greater a b, g, P, E, hk, hs, fin => lworth_greater (fun P E f => lworth_ok ht k a (Nat.le_trans (Nat.le_max_left _ _) (Nat.le_of_succ_le_succ hk)) hs.1 f) (fun P E f => lworth_ok ht k b (Nat.le_trans (Nat.le_max_right _ _) (Nat.le_of_succ_le_succ hk)) hs.2 f) fin
/-! ### a scale drawn -/
def cost : Nat → Nat
  | 0 => 10
  | d + 1 => 2 * cost d + 12
theorem cost_ge : ∀ d : Nat, 10 ≤ cost d
  | 0 => Nat.le_refl _
  | d + 1 => by have := cost_ge d; show 10 ≤ 2 * cost d + 12; omega
theorem scale_ok {many : Int} (m1 : 1 ≤ many) (m8 : many ≤ 8) : ∀ (k : Nat) (deep : Int) {c : Nat} {g : Gs} {P : RV → Gs → Prop} {E : Exn → Gs → Prop}, 1 ≤ deep → deep ≤ (k : Int) → Pen (c + cost k) g →
    (∀ (s : Sc) g', (s.dep : Int) ≤ deep → s.Okn many.toNat → Pen c g' → P (.dat s.d) g') → Ok (g_scale k [.obj 0, .int many, .int deep] g) P E
  | 0, deep, c, g, P, E, h1, h2, _, _ => by omega
  | k + 1, deep, c, g, P, E, h1, h2, hp, fin => by
    have hc : cost (k + 1) = 2 * cost k + 12 := rfl
    have hck := cost_ge k
    rw [hc] at hp
    show Ok (fnF 6 (gb_scale (g_scale k)) _ _) _ _
    rw [w_fn]
    show SOk (gb_scale (g_scale k) [.dat (.obj 0), .dat (.int many), .dat (.int deep), .un, .un, .un] g) _
    unfold gb_scale
    rw [q_seq]
    simp only [w_var, lvD_dat, List.getElem?_cons_zero, List.getElem?_cons_succ, w_c, w_op, w_un, w_test, w_gand, w_gor, w_gnot, w_gyes, w_and, w_or, w_not, w_if, w_nil, w_cons, w_tup, w_lst, w_folst, w_folist, w_cb, w_fd, w_call, w_ocall, ovO_own, w_get, w_args, w_items, w_part, intO_int, w_nopart, w_cut, w_folc, q_nx, q_bk, q_ct, q_set, q_setO, q_tg, q_ret, q_retO, q_retN, q_drop, q_if, q_par, q_par3, q_put, q_app, q_for, twoO_two, triO_tri, w_rD, w_rO, lvR_d, lvR_o, q_parR, q_setAt, w_lenv, lenO_o, lenO_l, lenO_t, w_gown, ownL_at, lstO_l, m_oListL, m_oListT, q_appPop, w_intbl, w_attbl, w_callv, fnD_fn, w_tuprg, q_star, q_aug, strD_str, starO_c, rgO_int, m_mulS, m_int1i, m_int1b, m_gseqT, m_gseqL, seqP_rt, seqP_bk, seqP_ct, seqP_xc, midP_nx, midP_rt, midP_bk, midP_ct, midP_xc, fnP_nx, fnP_rt, fnP_xc, rdP_nx, rdP_ct, rdP_bk, rdP_rt, rdP_xc, op_some, op_none, op_ite, op_map, op_bind, ok_ret, ok_some, m_lt, m_le, m_gt, m_ge, m_add, m_addT, m_addL, m_sub, m_mulI, m_mod, m_fdivS, m_powS, m_neg, m_bool, m_abs, m_min2, m_max2, m_lenL, m_lenT, m_lenI, m_tupL, m_tupT, m_lstL, m_lstT, m_rv1, m_rv2, m_ov, m_key, m_kds, m_so, m_rng1, m_gset, m_gtup, m_gsc, m_gsn, m_zipL, m_zipT, m_itL, m_itT, m_cutT, m_cutL, eq_I, ne_I, no_nil, no_cons, no_un, no_dat, wi_nil, wi_cons, Bool.and_true, Bool.true_and, Bool.and_self, and_self, List.set_cons_zero, List.set_cons_succ, List.length_cons, List.length_nil, m_line, Nat.reduceAdd, Nat.reduceLeDiff, Nat.reduceLT, Int.reduceLE, Int.reduceLT, Int.reduceToNat, Int.reducePow, Nat.reducePow, Int.reduceNeg, Int.reduceMul, Int.reduceAdd, Int.reduceSub, Nat.reduceMul, Nat.reduceSub, Int.reduceMod, Int.reduceDiv, Nat.zero_add, true_and, and_true, if_true, if_false, reduceCtorEq, false_implies, forall_const, true_implies, implies_true, decide_eq_true_eq, decide_eq_false_iff_not, beq_iff_eq, beq_eq_false_iff_ne, ne_eq, Bool.not_eq_true, List.append_eq, List.cons_append, List.nil_append]
    -- how many ways
    have leaf : ∀ (way : Int) g, 0 ≤ way → way < 5 → Pen (c + 2 * cost k + 10) g → SOk (sSeq (sIf (fTest (fOp dGt (fVar 3) (fC (.int 1)))) (sRet (fOp dIx (fLst (lCons (fTup (lCons (fC (.str "times")) (lNil))) (lCons (fTup (lCons (fC (.str "low")) (lNil))) (lCons (fTup (lCons (fC (.str "high")) (lNil))) (lNil))))) (fOp dSub (fVar 3) (fC (.int 2))))) (sNx))
      (sRet (fTup (lCons (fC (.str "sum")) (lCons (fCB dTuple (lCons (fD (foLc (iArgs dRange1 (lCons (fVar 1) (lNil))) [5] (gSet 5) (gYes) (fCall g_pick (lCons (fVar 0) (lCons (fLst (lCons (fC (.int 0)) (lCons (fC (.int 1)) (lCons (fC (.int 1)) (lCons (fC (.int 2)) (lCons (fC (.int 3)) (lCons (fC (.int 10)) (lCons (fC (.int 999)) (lCons (fC (.int 1000)) (lNil)))))))))) (lNil)))))) (lNil))) (lNil))))) [.dat (.obj 0), .dat (.int many), .dat (.int deep), .dat (.int way), .un, .un] g) (fnP P E) := fun way g w0 w5 hp => by
      rw [q_seq]
      simp only [w_var, lvD_dat, List.getElem?_cons_zero, List.getElem?_cons_succ, w_c, w_op, w_un, w_test, w_gand, w_gor, w_gnot, w_gyes, w_and, w_or, w_not, w_if, w_nil, w_cons, w_tup, w_lst, w_folst, w_folist, w_cb, w_fd, w_call, w_ocall, ovO_own, w_get, w_args, w_items, w_part, intO_int, w_nopart, w_cut, w_folc, q_nx, q_bk, q_ct, q_set, q_setO, q_tg, q_ret, q_retO, q_retN, q_drop, q_if, q_par, q_par3, q_put, q_app, q_for, twoO_two, triO_tri, w_rD, w_rO, lvR_d, lvR_o, q_parR, q_setAt, w_lenv, lenO_o, lenO_l, lenO_t, w_gown, ownL_at, lstO_l, m_oListL, m_oListT, q_appPop, w_intbl, w_attbl, w_callv, fnD_fn, w_tuprg, q_star, q_aug, strD_str, starO_c, rgO_int, m_mulS, m_int1i, m_int1b, m_gseqT, m_gseqL, seqP_rt, seqP_bk, seqP_ct, seqP_xc, midP_nx, midP_rt, midP_bk, midP_ct, midP_xc, fnP_nx, fnP_rt, fnP_xc, rdP_nx, rdP_ct, rdP_bk, rdP_rt, rdP_xc, op_some, op_none, op_ite, op_map, op_bind, ok_ret, ok_some, m_lt, m_le, m_gt, m_ge, m_add, m_addT, m_addL, m_sub, m_mulI, m_mod, m_fdivS, m_powS, m_neg, m_bool, m_abs, m_min2, m_max2, m_lenL, m_lenT, m_lenI, m_tupL, m_tupT, m_lstL, m_lstT, m_rv1, m_rv2, m_ov, m_key, m_kds, m_so, m_rng1, m_gset, m_gtup, m_gsc, m_gsn, m_zipL, m_zipT, m_itL, m_itT, m_cutT, m_cutL, eq_I, ne_I, no_nil, no_cons, no_un, no_dat, wi_nil, wi_cons, Bool.and_true, Bool.true_and, Bool.and_self, and_self, List.set_cons_zero, List.set_cons_succ, List.length_cons, List.length_nil, m_line, Nat.reduceAdd, Nat.reduceLeDiff, Nat.reduceLT, Int.reduceLE, Int.reduceLT, Int.reduceToNat, Int.reducePow, Nat.reducePow, Int.reduceNeg, Int.reduceMul, Int.reduceAdd, Int.reduceSub, Nat.reduceMul, Nat.reduceSub, Int.reduceMod, Int.reduceDiv, Nat.zero_add, true_and, and_true, if_true, if_false, reduceCtorEq, false_implies, forall_const, true_implies, implies_true, decide_eq_true_eq, decide_eq_false_iff_not, beq_iff_eq, beq_eq_false_iff_ne, ne_eq, Bool.not_eq_true, List.append_eq, List.cons_append, List.nil_append]
      refine ⟨fun hw => ?_, fun hw => ?_⟩
      · have e : ∃ s : Sc, dIx (.lst [.tup [.str (Str.ofString "times")], .tup [.str (Str.ofString "low")], .tup [.str (Str.ofString "high")]]) (.int (way - 2)) = some s.d ∧ s.dep = 1 ∧ s.Okn many.toNat := by
          have h3 : way - 2 = 0 ∨ way - 2 = 1 ∨ way - 2 = 2 := by omega
          rcases h3 with h | h | h <;> rw [h]
          · exact ⟨.times, rfl, rfl, trivial⟩
          · exact ⟨.low, rfl, rfl, trivial⟩
          · exact ⟨.high, rfl, rfl, trivial⟩
        obtain ⟨s, e1, e2, e3⟩ := e
        rw [e1, op_some]
        exact fin s g (by omega) e3 (hp.less (by omega))
      · rw [seqP_nx]
        simp only [w_var, lvD_dat, List.getElem?_cons_zero, List.getElem?_cons_succ, w_c, w_op, w_un, w_test, w_gand, w_gor, w_gnot, w_gyes, w_and, w_or, w_not, w_if, w_nil, w_cons, w_tup, w_lst, w_folst, w_folist, w_cb, w_fd, w_call, w_ocall, ovO_own, w_get, w_args, w_items, w_part, intO_int, w_nopart, w_cut, w_folc, q_nx, q_bk, q_ct, q_set, q_setO, q_tg, q_ret, q_retO, q_retN, q_drop, q_if, q_par, q_par3, q_put, q_app, q_for, twoO_two, triO_tri, w_rD, w_rO, lvR_d, lvR_o, q_parR, q_setAt, w_lenv, lenO_o, lenO_l, lenO_t, w_gown, ownL_at, lstO_l, m_oListL, m_oListT, q_appPop, w_intbl, w_attbl, w_callv, fnD_fn, w_tuprg, q_star, q_aug, strD_str, starO_c, rgO_int, m_mulS, m_int1i, m_int1b, m_gseqT, m_gseqL, seqP_rt, seqP_bk, seqP_ct, seqP_xc, midP_nx, midP_rt, midP_bk, midP_ct, midP_xc, fnP_nx, fnP_rt, fnP_xc, rdP_nx, rdP_ct, rdP_bk, rdP_rt, rdP_xc, op_some, op_none, op_ite, op_map, op_bind, ok_ret, ok_some, m_lt, m_le, m_gt, m_ge, m_add, m_addT, m_addL, m_sub, m_mulI, m_mod, m_fdivS, m_powS, m_neg, m_bool, m_abs, m_min2, m_max2, m_lenL, m_lenT, m_lenI, m_tupL, m_tupT, m_lstL, m_lstT, m_rv1, m_rv2, m_ov, m_key, m_kds, m_so, m_rng1, m_gset, m_gtup, m_gsc, m_gsn, m_zipL, m_zipT, m_itL, m_itT, m_cutT, m_cutL, eq_I, ne_I, no_nil, no_cons, no_un, no_dat, wi_nil, wi_cons, Bool.and_true, Bool.true_and, Bool.and_self, and_self, List.set_cons_zero, List.set_cons_succ, List.length_cons, List.length_nil, m_line, Nat.reduceAdd, Nat.reduceLeDiff, Nat.reduceLT, Int.reduceLE, Int.reduceLT, Int.reduceToNat, Int.reducePow, Nat.reducePow, Int.reduceNeg, Int.reduceMul, Int.reduceAdd, Int.reduceSub, Nat.reduceMul, Nat.reduceSub, Int.reduceMod, Int.reduceDiv, Nat.zero_add, true_and, and_true, if_true, if_false, reduceCtorEq, false_implies, forall_const, true_implies, implies_true, decide_eq_true_eq, decide_eq_false_iff_not, beq_iff_eq, beq_eq_false_iff_ne, ne_eq, Bool.not_eq_true, List.append_eq, List.cons_append, List.nil_append]
        rw [range_len]
        refine ⟨⟨by omega, by omega⟩, by omega, ?_⟩
        refine lc_all (fun i g => Pen (c + (8 - i)) g) (fun _ x => ∃ j, x = D.int j ∧ 0 ≤ j ∧ j ≤ 1000) (hp.less (by omega)) (fun i d g hd hi => ?_) fun xs g hl hx hi => ?_
        · obtain ⟨hi1, rfl⟩ := range_get hd
          simp only [w_var, lvD_dat, List.getElem?_cons_zero, List.getElem?_cons_succ, w_c, w_op, w_un, w_test, w_gand, w_gor, w_gnot, w_gyes, w_and, w_or, w_not, w_if, w_nil, w_cons, w_tup, w_lst, w_folst, w_folist, w_cb, w_fd, w_call, w_ocall, ovO_own, w_get, w_args, w_items, w_part, intO_int, w_nopart, w_cut, w_folc, q_nx, q_bk, q_ct, q_set, q_setO, q_tg, q_ret, q_retO, q_retN, q_drop, q_if, q_par, q_par3, q_put, q_app, q_for, twoO_two, triO_tri, w_rD, w_rO, lvR_d, lvR_o, q_parR, q_setAt, w_lenv, lenO_o, lenO_l, lenO_t, w_gown, ownL_at, lstO_l, m_oListL, m_oListT, q_appPop, w_intbl, w_attbl, w_callv, fnD_fn, w_tuprg, q_star, q_aug, strD_str, starO_c, rgO_int, m_mulS, m_int1i, m_int1b, m_gseqT, m_gseqL, seqP_rt, seqP_bk, seqP_ct, seqP_xc, midP_nx, midP_rt, midP_bk, midP_ct, midP_xc, fnP_nx, fnP_rt, fnP_xc, rdP_nx, rdP_ct, rdP_bk, rdP_rt, rdP_xc, op_some, op_none, op_ite, op_map, op_bind, ok_ret, ok_some, m_lt, m_le, m_gt, m_ge, m_add, m_addT, m_addL, m_sub, m_mulI, m_mod, m_fdivS, m_powS, m_neg, m_bool, m_abs, m_min2, m_max2, m_lenL, m_lenT, m_lenI, m_tupL, m_tupT, m_lstL, m_lstT, m_rv1, m_rv2, m_ov, m_key, m_kds, m_so, m_rng1, m_gset, m_gtup, m_gsc, m_gsn, m_zipL, m_zipT, m_itL, m_itT, m_cutT, m_cutL, eq_I, ne_I, no_nil, no_cons, no_un, no_dat, wi_nil, wi_cons, Bool.and_true, Bool.true_and, Bool.and_self, and_self, List.set_cons_zero, List.set_cons_succ, List.length_cons, List.length_nil, m_line, Nat.reduceAdd, Nat.reduceLeDiff, Nat.reduceLT, Int.reduceLE, Int.reduceLT, Int.reduceToNat, Int.reducePow, Nat.reducePow, Int.reduceNeg, Int.reduceMul, Int.reduceAdd, Int.reduceSub, Nat.reduceMul, Nat.reduceSub, Int.reduceMod, Int.reduceDiv, Nat.zero_add, true_and, and_true, if_true, if_false, reduceCtorEq, false_implies, forall_const, true_implies, implies_true, decide_eq_true_eq, decide_eq_false_iff_not, beq_iff_eq, beq_eq_false_iff_ne, ne_eq, Bool.not_eq_true, List.append_eq, List.cons_append, List.nil_append]
          refine pick_int (k := c + (8 - (i + 1))) (cs := [0, 1, 1, 2, 3, 10, 999, 1000]) (hi.less (by omega)) (by decide) (by decide) fun x g' hx hp' => ?_
          refine ⟨⟨x, rfl, ?_⟩, hp'⟩
          simp at hx
          omega
        · rw [range_len] at hi hl
          obtain ⟨ws, rfl, hw⟩ := ints_of hx
          try simp only [w_var, lvD_dat, List.getElem?_cons_zero, List.getElem?_cons_succ, w_c, w_op, w_un, w_test, w_gand, w_gor, w_gnot, w_gyes, w_and, w_or, w_not, w_if, w_nil, w_cons, w_tup, w_lst, w_folst, w_folist, w_cb, w_fd, w_call, w_ocall, ovO_own, w_get, w_args, w_items, w_part, intO_int, w_nopart, w_cut, w_folc, q_nx, q_bk, q_ct, q_set, q_setO, q_tg, q_ret, q_retO, q_retN, q_drop, q_if, q_par, q_par3, q_put, q_app, q_for, twoO_two, triO_tri, w_rD, w_rO, lvR_d, lvR_o, q_parR, q_setAt, w_lenv, lenO_o, lenO_l, lenO_t, w_gown, ownL_at, lstO_l, m_oListL, m_oListT, q_appPop, w_intbl, w_attbl, w_callv, fnD_fn, w_tuprg, q_star, q_aug, strD_str, starO_c, rgO_int, m_mulS, m_int1i, m_int1b, m_gseqT, m_gseqL, seqP_rt, seqP_bk, seqP_ct, seqP_xc, midP_nx, midP_rt, midP_bk, midP_ct, midP_xc, fnP_nx, fnP_rt, fnP_xc, rdP_nx, rdP_ct, rdP_bk, rdP_rt, rdP_xc, op_some, op_none, op_ite, op_map, op_bind, ok_ret, ok_some, m_lt, m_le, m_gt, m_ge, m_add, m_addT, m_addL, m_sub, m_mulI, m_mod, m_fdivS, m_powS, m_neg, m_bool, m_abs, m_min2, m_max2, m_lenL, m_lenT, m_lenI, m_tupL, m_tupT, m_lstL, m_lstT, m_rv1, m_rv2, m_ov, m_key, m_kds, m_so, m_rng1, m_gset, m_gtup, m_gsc, m_gsn, m_zipL, m_zipT, m_itL, m_itT, m_cutT, m_cutL, eq_I, ne_I, no_nil, no_cons, no_un, no_dat, wi_nil, wi_cons, Bool.and_true, Bool.true_and, Bool.and_self, and_self, List.set_cons_zero, List.set_cons_succ, List.length_cons, List.length_nil, m_line, Nat.reduceAdd, Nat.reduceLeDiff, Nat.reduceLT, Int.reduceLE, Int.reduceLT, Int.reduceToNat, Int.reducePow, Nat.reducePow, Int.reduceNeg, Int.reduceMul, Int.reduceAdd, Int.reduceSub, Nat.reduceMul, Nat.reduceSub, Int.reduceMod, Int.reduceDiv, Nat.zero_add, true_and, and_true, if_true, if_false, reduceCtorEq, false_implies, forall_const, true_implies, implies_true, decide_eq_true_eq, decide_eq_false_iff_not, beq_iff_eq, beq_eq_false_iff_ne, ne_eq, Bool.not_eq_true, List.append_eq, List.cons_append, List.nil_append]
          exact fin (.sum ws) g (by show ((1 : Nat) : Int) ≤ deep; omega) ⟨by simpa using hl, hw⟩ (hi.less (by omega))
    have rest : ∀ (way : Int) g, 0 ≤ way → (way < 5 ∨ (way < 8 ∧ 1 < deep)) → Pen (c + 2 * cost k + 11) g → SOk (sSeq (sIf (fTest (fOp dGt (fVar 3) (fC (.int 4)))) (sSeq (sSet 4 (fOp dIx (fLst (lCons (fC (.str "add")) (lCons (fC (.str "lesser")) (lCons (fC (.str "greater")) (lNil))))) (fOp dSub (fVar 3) (fC (.int 5)))))
      (sRet (fTup (lCons (fVar 4) (lCons (fCall (g_scale k) (lCons (fVar 0) (lCons (fVar 1) (lCons (fOp dSub (fVar 2) (fC (.int 1))) (lNil))))) (lCons (fCall (g_scale k) (lCons (fVar 0) (lCons (fVar 1) (lCons (fOp dSub (fVar 2) (fC (.int 1))) (lNil))))) (lNil))))))) (sNx)) (sSeq (sIf (fTest (fOp dGt (fVar 3) (fC (.int 1)))) (sRet (fOp dIx (fLst (lCons (fTup (lCons (fC (.str "times")) (lNil))) (lCons (fTup (lCons (fC (.str "low")) (lNil))) (lCons (fTup (lCons (fC (.str "high")) (lNil))) (lNil))))) (fOp dSub (fVar 3) (fC (.int 2))))) (sNx))
      (sRet (fTup (lCons (fC (.str "sum")) (lCons (fCB dTuple (lCons (fD (foLc (iArgs dRange1 (lCons (fVar 1) (lNil))) [5] (gSet 5) (gYes) (fCall g_pick (lCons (fVar 0) (lCons (fLst (lCons (fC (.int 0)) (lCons (fC (.int 1)) (lCons (fC (.int 1)) (lCons (fC (.int 2)) (lCons (fC (.int 3)) (lCons (fC (.int 10)) (lCons (fC (.int 999)) (lCons (fC (.int 1000)) (lNil)))))))))) (lNil)))))) (lNil))) (lNil)))))) [.dat (.obj 0), .dat (.int many), .dat (.int deep), .dat (.int way), .un, .un] g) (fnP P E) := fun way g w0 w5 hp => by
      rw [q_seq]
      simp only [w_var, lvD_dat, List.getElem?_cons_zero, List.getElem?_cons_succ, w_c, w_op, w_un, w_test, w_gand, w_gor, w_gnot, w_gyes, w_and, w_or, w_not, w_if, w_nil, w_cons, w_tup, w_lst, w_folst, w_folist, w_cb, w_fd, w_call, w_ocall, ovO_own, w_get, w_args, w_items, w_part, intO_int, w_nopart, w_cut, w_folc, q_nx, q_bk, q_ct, q_set, q_setO, q_tg, q_ret, q_retO, q_retN, q_drop, q_if, q_par, q_par3, q_put, q_app, q_for, twoO_two, triO_tri, w_rD, w_rO, lvR_d, lvR_o, q_parR, q_setAt, w_lenv, lenO_o, lenO_l, lenO_t, w_gown, ownL_at, lstO_l, m_oListL, m_oListT, q_appPop, w_intbl, w_attbl, w_callv, fnD_fn, w_tuprg, q_star, q_aug, strD_str, starO_c, rgO_int, m_mulS, m_int1i, m_int1b, m_gseqT, m_gseqL, seqP_rt, seqP_bk, seqP_ct, seqP_xc, midP_nx, midP_rt, midP_bk, midP_ct, midP_xc, fnP_nx, fnP_rt, fnP_xc, rdP_nx, rdP_ct, rdP_bk, rdP_rt, rdP_xc, op_some, op_none, op_ite, op_map, op_bind, ok_ret, ok_some, m_lt, m_le, m_gt, m_ge, m_add, m_addT, m_addL, m_sub, m_mulI, m_mod, m_fdivS, m_powS, m_neg, m_bool, m_abs, m_min2, m_max2, m_lenL, m_lenT, m_lenI, m_tupL, m_tupT, m_lstL, m_lstT, m_rv1, m_rv2, m_ov, m_key, m_kds, m_so, m_rng1, m_gset, m_gtup, m_gsc, m_gsn, m_zipL, m_zipT, m_itL, m_itT, m_cutT, m_cutL, eq_I, ne_I, no_nil, no_cons, no_un, no_dat, wi_nil, wi_cons, Bool.and_true, Bool.true_and, Bool.and_self, and_self, List.set_cons_zero, List.set_cons_succ, List.length_cons, List.length_nil, m_line, Nat.reduceAdd, Nat.reduceLeDiff, Nat.reduceLT, Int.reduceLE, Int.reduceLT, Int.reduceToNat, Int.reducePow, Nat.reducePow, Int.reduceNeg, Int.reduceMul, Int.reduceAdd, Int.reduceSub, Nat.reduceMul, Nat.reduceSub, Int.reduceMod, Int.reduceDiv, Nat.zero_add, true_and, and_true, if_true, if_false, reduceCtorEq, false_implies, forall_const, true_implies, implies_true, decide_eq_true_eq, decide_eq_false_iff_not, beq_iff_eq, beq_eq_false_iff_ne, ne_eq, Bool.not_eq_true, List.append_eq, List.cons_append, List.nil_append]
      refine ⟨fun hw => ?_, fun hw => ?_⟩
      · rw [q_seq]
        simp only [w_var, lvD_dat, List.getElem?_cons_zero, List.getElem?_cons_succ, w_c, w_op, w_un, w_test, w_gand, w_gor, w_gnot, w_gyes, w_and, w_or, w_not, w_if, w_nil, w_cons, w_tup, w_lst, w_folst, w_folist, w_cb, w_fd, w_call, w_ocall, ovO_own, w_get, w_args, w_items, w_part, intO_int, w_nopart, w_cut, w_folc, q_nx, q_bk, q_ct, q_set, q_setO, q_tg, q_ret, q_retO, q_retN, q_drop, q_if, q_par, q_par3, q_put, q_app, q_for, twoO_two, triO_tri, w_rD, w_rO, lvR_d, lvR_o, q_parR, q_setAt, w_lenv, lenO_o, lenO_l, lenO_t, w_gown, ownL_at, lstO_l, m_oListL, m_oListT, q_appPop, w_intbl, w_attbl, w_callv, fnD_fn, w_tuprg, q_star, q_aug, strD_str, starO_c, rgO_int, m_mulS, m_int1i, m_int1b, m_gseqT, m_gseqL, seqP_rt, seqP_bk, seqP_ct, seqP_xc, midP_nx, midP_rt, midP_bk, midP_ct, midP_xc, fnP_nx, fnP_rt, fnP_xc, rdP_nx, rdP_ct, rdP_bk, rdP_rt, rdP_xc, op_some, op_none, op_ite, op_map, op_bind, ok_ret, ok_some, m_lt, m_le, m_gt, m_ge, m_add, m_addT, m_addL, m_sub, m_mulI, m_mod, m_fdivS, m_powS, m_neg, m_bool, m_abs, m_min2, m_max2, m_lenL, m_lenT, m_lenI, m_tupL, m_tupT, m_lstL, m_lstT, m_rv1, m_rv2, m_ov, m_key, m_kds, m_so, m_rng1, m_gset, m_gtup, m_gsc, m_gsn, m_zipL, m_zipT, m_itL, m_itT, m_cutT, m_cutL, eq_I, ne_I, no_nil, no_cons, no_un, no_dat, wi_nil, wi_cons, Bool.and_true, Bool.true_and, Bool.and_self, and_self, List.set_cons_zero, List.set_cons_succ, List.length_cons, List.length_nil, m_line, Nat.reduceAdd, Nat.reduceLeDiff, Nat.reduceLT, Int.reduceLE, Int.reduceLT, Int.reduceToNat, Int.reducePow, Nat.reducePow, Int.reduceNeg, Int.reduceMul, Int.reduceAdd, Int.reduceSub, Nat.reduceMul, Nat.reduceSub, Int.reduceMod, Int.reduceDiv, Nat.zero_add, true_and, and_true, if_true, if_false, reduceCtorEq, false_implies, forall_const, true_implies, implies_true, decide_eq_true_eq, decide_eq_false_iff_not, beq_iff_eq, beq_eq_false_iff_ne, ne_eq, Bool.not_eq_true, List.append_eq, List.cons_append, List.nil_append]
        have e : ∃ w : String, dIx (.lst [.str (Str.ofString "add"), .str (Str.ofString "lesser"), .str (Str.ofString "greater")]) (.int (way - 5)) = some (.str (Str.ofString w)) ∧ ∀ a b : Sc, (a.dep : Int) ≤ deep - 1 → (b.dep : Int) ≤ deep - 1 → a.Okn many.toNat → b.Okn many.toNat → ∃ s : Sc, s.d = .tup [.str (Str.ofString w), a.d, b.d] ∧ (s.dep : Int) ≤ deep ∧ s.Okn many.toNat := by
          have h3 : way - 5 = 0 ∨ way - 5 = 1 ∨ way - 5 = 2 := by omega
          rcases h3 with h | h | h <;> rw [h]
          · exact ⟨"add", rfl, fun a b ha hb oa ob => ⟨.add a b, rfl, by show ((max a.dep b.dep + 1 : Nat) : Int) ≤ deep; omega, oa, ob⟩⟩
          · exact ⟨"lesser", rfl, fun a b ha hb oa ob => ⟨.lesser a b, rfl, by show ((max a.dep b.dep + 1 : Nat) : Int) ≤ deep; omega, oa, ob⟩⟩
          · exact ⟨"greater", rfl, fun a b ha hb oa ob => ⟨.greater a b, rfl, by show ((max a.dep b.dep + 1 : Nat) : Int) ≤ deep; omega, oa, ob⟩⟩
        obtain ⟨w, e1, e2⟩ := e
        rw [e1, op_some, seqP_nx]
        simp only [w_var, lvD_dat, List.getElem?_cons_zero, List.getElem?_cons_succ, w_c, w_op, w_un, w_test, w_gand, w_gor, w_gnot, w_gyes, w_and, w_or, w_not, w_if, w_nil, w_cons, w_tup, w_lst, w_folst, w_folist, w_cb, w_fd, w_call, w_ocall, ovO_own, w_get, w_args, w_items, w_part, intO_int, w_nopart, w_cut, w_folc, q_nx, q_bk, q_ct, q_set, q_setO, q_tg, q_ret, q_retO, q_retN, q_drop, q_if, q_par, q_par3, q_put, q_app, q_for, twoO_two, triO_tri, w_rD, w_rO, lvR_d, lvR_o, q_parR, q_setAt, w_lenv, lenO_o, lenO_l, lenO_t, w_gown, ownL_at, lstO_l, m_oListL, m_oListT, q_appPop, w_intbl, w_attbl, w_callv, fnD_fn, w_tuprg, q_star, q_aug, strD_str, starO_c, rgO_int, m_mulS, m_int1i, m_int1b, m_gseqT, m_gseqL, seqP_rt, seqP_bk, seqP_ct, seqP_xc, midP_nx, midP_rt, midP_bk, midP_ct, midP_xc, fnP_nx, fnP_rt, fnP_xc, rdP_nx, rdP_ct, rdP_bk, rdP_rt, rdP_xc, op_some, op_none, op_ite, op_map, op_bind, ok_ret, ok_some, m_lt, m_le, m_gt, m_ge, m_add, m_addT, m_addL, m_sub, m_mulI, m_mod, m_fdivS, m_powS, m_neg, m_bool, m_abs, m_min2, m_max2, m_lenL, m_lenT, m_lenI, m_tupL, m_tupT, m_lstL, m_lstT, m_rv1, m_rv2, m_ov, m_key, m_kds, m_so, m_rng1, m_gset, m_gtup, m_gsc, m_gsn, m_zipL, m_zipT, m_itL, m_itT, m_cutT, m_cutL, eq_I, ne_I, no_nil, no_cons, no_un, no_dat, wi_nil, wi_cons, Bool.and_true, Bool.true_and, Bool.and_self, and_self, List.set_cons_zero, List.set_cons_succ, List.length_cons, List.length_nil, m_line, Nat.reduceAdd, Nat.reduceLeDiff, Nat.reduceLT, Int.reduceLE, Int.reduceLT, Int.reduceToNat, Int.reducePow, Nat.reducePow, Int.reduceNeg, Int.reduceMul, Int.reduceAdd, Int.reduceSub, Nat.reduceMul, Nat.reduceSub, Int.reduceMod, Int.reduceDiv, Nat.zero_add, true_and, and_true, if_true, if_false, reduceCtorEq, false_implies, forall_const, true_implies, implies_true, decide_eq_true_eq, decide_eq_false_iff_not, beq_iff_eq, beq_eq_false_iff_ne, ne_eq, Bool.not_eq_true, List.append_eq, List.cons_append, List.nil_append]
        refine scale_ok m1 m8 k (deep - 1) (c := c + cost k) (by omega) (by omega) (hp.less (by omega)) fun a g ha oa hp => ?_
        rw [m_rv1]
        refine scale_ok m1 m8 k (deep - 1) (c := c) (by omega) (by omega) hp fun b g hb ob hp => ?_
        rw [m_rv1]
        try simp only [w_var, lvD_dat, List.getElem?_cons_zero, List.getElem?_cons_succ, w_c, w_op, w_un, w_test, w_gand, w_gor, w_gnot, w_gyes, w_and, w_or, w_not, w_if, w_nil, w_cons, w_tup, w_lst, w_folst, w_folist, w_cb, w_fd, w_call, w_ocall, ovO_own, w_get, w_args, w_items, w_part, intO_int, w_nopart, w_cut, w_folc, q_nx, q_bk, q_ct, q_set, q_setO, q_tg, q_ret, q_retO, q_retN, q_drop, q_if, q_par, q_par3, q_put, q_app, q_for, twoO_two, triO_tri, w_rD, w_rO, lvR_d, lvR_o, q_parR, q_setAt, w_lenv, lenO_o, lenO_l, lenO_t, w_gown, ownL_at, lstO_l, m_oListL, m_oListT, q_appPop, w_intbl, w_attbl, w_callv, fnD_fn, w_tuprg, q_star, q_aug, strD_str, starO_c, rgO_int, m_mulS, m_int1i, m_int1b, m_gseqT, m_gseqL, seqP_rt, seqP_bk, seqP_ct, seqP_xc, midP_nx, midP_rt, midP_bk, midP_ct, midP_xc, fnP_nx, fnP_rt, fnP_xc, rdP_nx, rdP_ct, rdP_bk, rdP_rt, rdP_xc, op_some, op_none, op_ite, op_map, op_bind, ok_ret, ok_some, m_lt, m_le, m_gt, m_ge, m_add, m_addT, m_addL, m_sub, m_mulI, m_mod, m_fdivS, m_powS, m_neg, m_bool, m_abs, m_min2, m_max2, m_lenL, m_lenT, m_lenI, m_tupL, m_tupT, m_lstL, m_lstT, m_rv1, m_rv2, m_ov, m_key, m_kds, m_so, m_rng1, m_gset, m_gtup, m_gsc, m_gsn, m_zipL, m_zipT, m_itL, m_itT, m_cutT, m_cutL, eq_I, ne_I, no_nil, no_cons, no_un, no_dat, wi_nil, wi_cons, Bool.and_true, Bool.true_and, Bool.and_self, and_self, List.set_cons_zero, List.set_cons_succ, List.length_cons, List.length_nil, m_line, Nat.reduceAdd, Nat.reduceLeDiff, Nat.reduceLT, Int.reduceLE, Int.reduceLT, Int.reduceToNat, Int.reducePow, Nat.reducePow, Int.reduceNeg, Int.reduceMul, Int.reduceAdd, Int.reduceSub, Nat.reduceMul, Nat.reduceSub, Int.reduceMod, Int.reduceDiv, Nat.zero_add, true_and, and_true, if_true, if_false, reduceCtorEq, false_implies, forall_const, true_implies, implies_true, decide_eq_true_eq, decide_eq_false_iff_not, beq_iff_eq, beq_eq_false_iff_ne, ne_eq, Bool.not_eq_true, List.append_eq, List.cons_append, List.nil_append]
        obtain ⟨s, e3, e4, e5⟩ := e2 a b ha hb oa ob
        rw [← e3]
        exact fin s g e4 e5 hp
      · rw [seqP_nx]
        exact leaf way g w0 (by omega) (hp.less (by omega))
    by_cases hd : 1 < deep
    · simp only [w_var, lvD_dat, List.getElem?_cons_zero, List.getElem?_cons_succ, w_c, w_op, w_un, w_test, w_gand, w_gor, w_gnot, w_gyes, w_and, w_or, w_not, w_if, w_nil, w_cons, w_tup, w_lst, w_folst, w_folist, w_cb, w_fd, w_call, w_ocall, ovO_own, w_get, w_args, w_items, w_part, intO_int, w_nopart, w_cut, w_folc, q_nx, q_bk, q_ct, q_set, q_setO, q_tg, q_ret, q_retO, q_retN, q_drop, q_if, q_par, q_par3, q_put, q_app, q_for, twoO_two, triO_tri, w_rD, w_rO, lvR_d, lvR_o, q_parR, q_setAt, w_lenv, lenO_o, lenO_l, lenO_t, w_gown, ownL_at, lstO_l, m_oListL, m_oListT, q_appPop, w_intbl, w_attbl, w_callv, fnD_fn, w_tuprg, q_star, q_aug, strD_str, starO_c, rgO_int, m_mulS, m_int1i, m_int1b, m_gseqT, m_gseqL, seqP_rt, seqP_bk, seqP_ct, seqP_xc, midP_nx, midP_rt, midP_bk, midP_ct, midP_xc, fnP_nx, fnP_rt, fnP_xc, rdP_nx, rdP_ct, rdP_bk, rdP_rt, rdP_xc, op_some, op_none, op_ite, op_map, op_bind, ok_ret, ok_some, m_lt, m_le, m_gt, m_ge, m_add, m_addT, m_addL, m_sub, m_mulI, m_mod, m_fdivS, m_powS, m_neg, m_bool, m_abs, m_min2, m_max2, m_lenL, m_lenT, m_lenI, m_tupL, m_tupT, m_lstL, m_lstT, m_rv1, m_rv2, m_ov, m_key, m_kds, m_so, m_rng1, m_gset, m_gtup, m_gsc, m_gsn, m_zipL, m_zipT, m_itL, m_itT, m_cutT, m_cutL, eq_I, ne_I, no_nil, no_cons, no_un, no_dat, wi_nil, wi_cons, Bool.and_true, Bool.true_and, Bool.and_self, and_self, List.set_cons_zero, List.set_cons_succ, List.length_cons, List.length_nil, m_line, Nat.reduceAdd, Nat.reduceLeDiff, Nat.reduceLT, Int.reduceLE, Int.reduceLT, Int.reduceToNat, Int.reducePow, Nat.reducePow, Int.reduceNeg, Int.reduceMul, Int.reduceAdd, Int.reduceSub, Nat.reduceMul, Nat.reduceSub, Int.reduceMod, Int.reduceDiv, Nat.zero_add, true_and, and_true, if_true, if_false, reduceCtorEq, false_implies, forall_const, true_implies, implies_true, decide_eq_true_eq, decide_eq_false_iff_not, beq_iff_eq, beq_eq_false_iff_ne, ne_eq, Bool.not_eq_true, List.append_eq, List.cons_append, List.nil_append, hd, decide_true, ix1]
      refine draw_ok (k := c + 2 * cost k + 11) hp (by decide) (by decide) fun way g w0 w1 hp => ?_
      rw [m_rv1, seqP_nx]
      exact rest way g w0 (.inr ⟨w1, hd⟩) hp
    · simp only [w_var, lvD_dat, List.getElem?_cons_zero, List.getElem?_cons_succ, w_c, w_op, w_un, w_test, w_gand, w_gor, w_gnot, w_gyes, w_and, w_or, w_not, w_if, w_nil, w_cons, w_tup, w_lst, w_folst, w_folist, w_cb, w_fd, w_call, w_ocall, ovO_own, w_get, w_args, w_items, w_part, intO_int, w_nopart, w_cut, w_folc, q_nx, q_bk, q_ct, q_set, q_setO, q_tg, q_ret, q_retO, q_retN, q_drop, q_if, q_par, q_par3, q_put, q_app, q_for, twoO_two, triO_tri, w_rD, w_rO, lvR_d, lvR_o, q_parR, q_setAt, w_lenv, lenO_o, lenO_l, lenO_t, w_gown, ownL_at, lstO_l, m_oListL, m_oListT, q_appPop, w_intbl, w_attbl, w_callv, fnD_fn, w_tuprg, q_star, q_aug, strD_str, starO_c, rgO_int, m_mulS, m_int1i, m_int1b, m_gseqT, m_gseqL, seqP_rt, seqP_bk, seqP_ct, seqP_xc, midP_nx, midP_rt, midP_bk, midP_ct, midP_xc, fnP_nx, fnP_rt, fnP_xc, rdP_nx, rdP_ct, rdP_bk, rdP_rt, rdP_xc, op_some, op_none, op_ite, op_map, op_bind, ok_ret, ok_some, m_lt, m_le, m_gt, m_ge, m_add, m_addT, m_addL, m_sub, m_mulI, m_mod, m_fdivS, m_powS, m_neg, m_bool, m_abs, m_min2, m_max2, m_lenL, m_lenT, m_lenI, m_tupL, m_tupT, m_lstL, m_lstT, m_rv1, m_rv2, m_ov, m_key, m_kds, m_so, m_rng1, m_gset, m_gtup, m_gsc, m_gsn, m_zipL, m_zipT, m_itL, m_itT, m_cutT, m_cutL, eq_I, ne_I, no_nil, no_cons, no_un, no_dat, wi_nil, wi_cons, Bool.and_true, Bool.true_and, Bool.and_self, and_self, List.set_cons_zero, List.set_cons_succ, List.length_cons, List.length_nil, m_line, Nat.reduceAdd, Nat.reduceLeDiff, Nat.reduceLT, Int.reduceLE, Int.reduceLT, Int.reduceToNat, Int.reducePow, Nat.reducePow, Int.reduceNeg, Int.reduceMul, Int.reduceAdd, Int.reduceSub, Nat.reduceMul, Nat.reduceSub, Int.reduceMod, Int.reduceDiv, Nat.zero_add, true_and, and_true, if_true, if_false, reduceCtorEq, false_implies, forall_const, true_implies, implies_true, decide_eq_true_eq, decide_eq_false_iff_not, beq_iff_eq, beq_eq_false_iff_ne, ne_eq, Bool.not_eq_true, List.append_eq, List.cons_append, List.nil_append, hd, decide_false, ix0]
      refine draw_ok (k := c + 2 * cost k + 11) hp (by decide) (by decide) fun way g w0 w1 hp => ?_
      rw [m_rv1, seqP_nx]
      exact rest way g w0 (.inl w1) hp

/-! ### how long their texts are, how great a worth is -/
theorem SH.word (w : String) (h : (reprText (Str.ofString w)).length ≤ 20 := by decide +kernel) (h2 : PyData.strOk (Str.ofString w) = true := by decide +kernel) : SH 0 20 (.str (Str.ofString w)) := ⟨.str (Str.ofString w), rfl, rfl, Nat.le_refl _, h, h2⟩
def scLen : Nat → Nat
  | 0 => 200
  | d + 1 => 3 * (scLen d + 2) + 3
theorem scLen_ge : ∀ d : Nat, 200 ≤ scLen d
  | 0 => Nat.le_refl _
  | d + 1 => by have := scLen_ge d; show 200 ≤ 3 * (scLen d + 2) + 3; omega
theorem scLen_mono {a b : Nat} (h : a ≤ b) : scLen a ≤ scLen b := by
  induction b with
  | zero => rw [Nat.le_zero.mp h]; exact Nat.le_refl _
  | succ b ih =>
    rcases Nat.lt_or_ge a (b + 1) with h1 | h1
    · have := ih (by omega)
      show scLen a ≤ 3 * (scLen b + 2) + 3
      omega
    · rw [show a = b + 1 by omega]; exact Nat.le_refl _
theorem Sc.two_sh {w : String} {a b : Sc} {m : Nat} (hw : SH 0 20 (.str (Str.ofString w))) (ha : SH (a.dep + 1) (scLen a.dep) a.d) (hb : SH (b.dep + 1) (scLen b.dep) b.d) : SH (max a.dep b.dep + 1 + 1) (scLen (max a.dep b.dep + 1)) (.tup [.str (Str.ofString w), a.d, b.d]) := by
  have := SH.tup (a := max a.dep b.dep + 1) (l := scLen (max a.dep b.dep)) (ds := [.str (Str.ofString w), a.d, b.d]) fun d hd => by
    simp only [List.mem_cons, List.not_mem_nil, or_false] at hd
    rcases hd with rfl | rfl | rfl
    · exact hw.mono (by omega) (by have := scLen_ge (max a.dep b.dep); omega)
    · exact ha.mono (by omega) (scLen_mono (by omega))
    · exact hb.mono (by omega) (scLen_mono (by omega))
  exact this
theorem Sc.sh {n : Nat} (hn : n ≤ 8) : ∀ (s : Sc), s.Okn n → SH (s.dep + 1) (scLen s.dep) s.d
  | .sum ws, ⟨h1, h2⟩ => by
    have t := SH.intsT (a := ws) 4 (fun i hi => by have := h2 i hi; omega) (by decide) (by decide)
    have := SH.tup (a := 1) (l := 70) (ds := [.str (Str.ofString "sum"), iT ws]) fun d hd => by
      simp only [List.mem_cons, List.not_mem_nil, or_false] at hd
      rcases hd with rfl | rfl
      · exact (SH.word "sum").mono (by decide) (by decide)
      · exact t.mono (Nat.le_refl _) (by omega)
    exact this.mono (Nat.le_refl _) (by show 2 * (70 + 2) + 3 ≤ 3 * (200 + 2) + 3; decide)
  | .times, _ => (SH.tup (a := 0) (l := 20) (ds := [.str (Str.ofString "times")]) fun d hd => by rw [List.mem_singleton.mp hd]; exact SH.word "times").mono (by show 1 ≤ 2; decide) (by show 1 * (20 + 2) + 3 ≤ 3 * (200 + 2) + 3; decide)
  | .low, _ => (SH.tup (a := 0) (l := 20) (ds := [.str (Str.ofString "low")]) fun d hd => by rw [List.mem_singleton.mp hd]; exact SH.word "low").mono (by show 1 ≤ 2; decide) (by show 1 * (20 + 2) + 3 ≤ 3 * (200 + 2) + 3; decide)
  | .high, _ => (SH.tup (a := 0) (l := 20) (ds := [.str (Str.ofString "high")]) fun d hd => by rw [List.mem_singleton.mp hd]; exact SH.word "high").mono (by show 1 ≤ 2; decide) (by show 1 * (20 + 2) + 3 ≤ 3 * (200 + 2) + 3; decide)
  | .add a b, ⟨h1, h2⟩ => Sc.two_sh (m := 0) (SH.word "add") (Sc.sh hn a h1) (Sc.sh hn b h2)
  | .lesser a b, ⟨h1, h2⟩ => Sc.two_sh (m := 0) (SH.word "lesser") (Sc.sh hn a h1) (Sc.sh hn b h2)
  | .greater a b, ⟨h1, h2⟩ => Sc.two_sh (m := 0) (SH.word "greater") (Sc.sh hn a h1) (Sc.sh hn b h2)
theorem fold_mem {f : Int → Int → Int} (hf : ∀ a b, f a b = a ∨ f a b = b) : ∀ (xs : List Int) (a : Int), xs.foldl f a = a ∨ xs.foldl f a ∈ xs
  | [], a => .inl rfl
  | x :: xs, a => by
    rcases fold_mem hf xs (f a x) with h | h
    · rcases hf a x with e | e
      · left; rw [List.foldl_cons, h, e]
      · right; rw [List.foldl_cons, h, e]; exact List.mem_cons_self
    · right; exact List.mem_cons_of_mem _ h
theorem min_mem {t : List Int} (h : t ≠ []) : minI t ∈ t := by
  cases t with
  | nil => exact absurd rfl h
  | cons x t =>
    show t.foldl min x ∈ x :: t
    rcases fold_mem (f := min) (fun a b => by omega) t x with e | e
    · rw [e]; exact List.mem_cons_self
    · exact List.mem_cons_of_mem _ e
theorem max_mem {t : List Int} (h : t ≠ []) : maxI t ∈ t := by
  cases t with
  | nil => exact absurd rfl h
  | cons x t =>
    show t.foldl max x ∈ x :: t
    rcases fold_mem (f := max) (fun a b => by omega) t x with e | e
    · rw [e]; exact List.mem_cons_self
    · exact List.mem_cons_of_mem _ e
theorem sum_bd {B : Int} : ∀ (xs : List Int), (∀ x ∈ xs, 0 ≤ x ∧ x ≤ B) → 0 ≤ xs.sum ∧ xs.sum ≤ xs.length * B
  | [], _ => by simp
  | x :: xs, h => by
    obtain ⟨h1, h2⟩ := sum_bd xs fun y hy => h y (List.mem_cons_of_mem _ hy)
    obtain ⟨h3, h4⟩ := h x (by simp)
    rw [List.sum_cons, List.length_cons]
    refine ⟨by omega, ?_⟩
    have : ((xs.length + 1 : Nat) : Int) * B = xs.length * B + B := by rw [Int.natCast_add, Int.add_mul]; simp
    omega
def scTop : Nat → Int
  | 0 => 1000000000 ^ 8
  | d + 1 => 2 * scTop d
theorem scTop_ge : ∀ d : Nat, 1000000000 ^ 8 ≤ scTop d
  | 0 => Int.le_refl _
  | d + 1 => by have := scTop_ge d; show 1000000000 ^ 8 ≤ 2 * scTop d; omega
theorem scTop_mono {a b : Nat} (h : a ≤ b) : scTop a ≤ scTop b := by
  induction b with
  | zero => rw [Nat.le_zero.mp h]; exact Int.le_refl _
  | succ b ih =>
    rcases Nat.lt_or_ge a (b + 1) with h1 | h1
    · have := ih (by omega)
      have := scTop_ge b
      show scTop a ≤ 2 * scTop b
      omega
    · rw [show a = b + 1 by omega]; exact Int.le_refl _
theorem Sc.val_bd {n : Nat} {t : List Int} (ht : Thg n t) : ∀ (s : Sc), s.Okn n → 0 ≤ s.val t ∧ s.val t ≤ scTop s.dep
  | .sum ws, ⟨h1, h2⟩ => by
    obtain ⟨b1, b2⟩ := sum_bd (B := 1000 * 1000000000) ((ws.zip t).map fun p => p.1 * p.2) fun x hx => by
      obtain ⟨p, hp, rfl⟩ := List.mem_map.mp hx
      obtain ⟨q1, q2⟩ := List.of_mem_zip (show (p.1, p.2) ∈ ws.zip t from hp)
      have c1 := h2 _ q1
      have c2 := ht.bd _ q2
      exact ⟨Int.mul_nonneg c1.1 c2.1, Int.mul_le_mul c1.2 c2.2 c2.1 (by decide)⟩
    refine ⟨b1, Int.le_trans b2 ?_⟩
    have hl : ((ws.zip t).map fun p => p.1 * p.2).length ≤ 8 := by rw [List.length_map, List.length_zip]; have := ht.few; omega
    refine Int.le_trans (Int.mul_le_mul_of_nonneg_right (Int.ofNat_le.mpr hl) (by decide)) ?_
    show (8 : Int) * (1000 * 1000000000) ≤ 2 * 1000000000 ^ 8
    decide
  | .times, _ => by
    obtain ⟨b1, b2⟩ := prod_bd t 1 (by decide) ht.bd
    refine ⟨b1, Int.le_trans b2 ?_⟩
    rw [Int.one_mul]
    refine Int.le_trans (pow_up (j := 8) (by rw [ht.len]; exact ht.few)) ?_
    show (1000000000 : Int) ^ 8 ≤ 2 * 1000000000 ^ 8
    decide
  | .low, _ => by
    have := ht.bd _ (min_mem ht.ne)
    refine ⟨this.1, Int.le_trans this.2 ?_⟩
    show (1000000000 : Int) ≤ 2 * 1000000000 ^ 8
    decide
  | .high, _ => by
    have := ht.bd _ (max_mem ht.ne)
    refine ⟨this.1, Int.le_trans this.2 ?_⟩
    show (1000000000 : Int) ≤ 2 * 1000000000 ^ 8
    decide
  | .add a b, ⟨h1, h2⟩ => by
    obtain ⟨a1, a2⟩ := Sc.val_bd ht a h1
    obtain ⟨b1, b2⟩ := Sc.val_bd ht b h2
    have m1 := scTop_mono (Nat.le_max_left a.dep b.dep)
    have m2 := scTop_mono (Nat.le_max_right a.dep b.dep)
    show 0 ≤ a.val t + b.val t ∧ a.val t + b.val t ≤ 2 * scTop (max a.dep b.dep)
    omega
  | .lesser a b, ⟨h1, h2⟩ => by
    obtain ⟨a1, a2⟩ := Sc.val_bd ht a h1
    obtain ⟨b1, b2⟩ := Sc.val_bd ht b h2
    have m1 := scTop_mono (Nat.le_max_left a.dep b.dep)
    have m2 := scTop_mono (Nat.le_max_right a.dep b.dep)
    have m3 := scTop_ge (max a.dep b.dep)
    show 0 ≤ (if b.val t < a.val t then b.val t else a.val t) ∧ (if b.val t < a.val t then b.val t else a.val t) ≤ 2 * scTop (max a.dep b.dep)
    split <;> omega
  | .greater a b, ⟨h1, h2⟩ => by
    obtain ⟨a1, a2⟩ := Sc.val_bd ht a h1
    obtain ⟨b1, b2⟩ := Sc.val_bd ht b h2
    have m1 := scTop_mono (Nat.le_max_left a.dep b.dep)
    have m2 := scTop_mono (Nat.le_max_right a.dep b.dep)
    have m3 := scTop_ge (max a.dep b.dep)
    show 0 ≤ (if b.val t > a.val t then b.val t else a.val t) ∧ (if b.val t > a.val t then b.val t else a.val t) ≤ 2 * scTop (max a.dep b.dep)
    split <;> omega
theorem Sc.val_sh {n : Nat} {t : List Int} (ht : Thg n t) (s : Sc) (hs : s.Okn n) (hd : s.dep ≤ 10) : SH 0 101 (.int (s.val t)) := by
  obtain ⟨h1, h2⟩ := s.val_bd ht hs
  have h3 := scTop_mono hd
  have h4 : scTop 10 < 10 ^ 100 := by decide
  exact SH.int 100 (by omega) (by decide) (by decide)
theorem rep_T {v m : Int} {c : Nat} (h : m.toNat = c) (h1 : 1 ≤ c) (h2 : c ≤ 1000) : dMul (.tup [.int v]) (.int m) = some (iT (List.replicate c v)) := by
  show (if m = 1 then some (D.tup [.int v]) else if [D.int v] ≠ [] ∧ 2 ≤ m ∧ m ≤ 1000 ∧ [D.int v].length ≤ 1000 then some (D.tup (List.replicate m.toNat [D.int v]).flatten) else none) = _
  by_cases e : m = 1
  · rw [if_pos e]
    subst e
    rw [← h]
    rfl
  · rw [if_neg e, if_pos ⟨by simp, by omega, by omega, by simp⟩, h]
    congr 2
    clear h h1 h2
    induction c with
    | zero => rfl
    | succ c ih => rw [List.replicate_succ, List.flatten_cons, ih, List.replicate_succ]; rfl
def rgI (c : Nat) : List Int := (List.range c).map fun (i : Nat) => (0 + (i : Int))
theorem rg_iT (c : Nat) : rangeD 0 c = (rgI c).map D.int := by
  unfold rangeD rgI
  rw [List.map_map]
  rfl
theorem Thg.rep {c : Nat} {v : Int} (h1 : 1 ≤ c) (h2 : c ≤ 8) (h3 : 0 ≤ v) (h4 : v ≤ 1000000000) : Thg c (List.replicate c v) := ⟨List.length_replicate, h1, h2, fun i hi => by rw [List.eq_of_mem_replicate hi]; exact ⟨h3, h4⟩⟩
theorem Thg.rg {c : Nat} (h1 : 1 ≤ c) (h2 : c ≤ 8) : Thg c (rgI c) := ⟨by unfold rgI; simp, h1, h2, fun i hi => by
  obtain ⟨j, hj, rfl⟩ := List.mem_map.mp hi
  have := List.mem_range.mp hj
  omega⟩
theorem Thg.sh {c : Nat} {t : List Int} (h : Thg c t) : SH 1 200 (iT t) :=
  (SH.intsT 10 (fun i hi => by have := h.bd i hi; omega) (by decide) (by decide)).mono (Nat.le_refl _) (by have := h.len; have := h.few; omega)
end G6

namespace G6
open PySem PySem.Spec L2

/-! ### what is a scale, of any small data -/
def g_weights : Fn := fnF 3 (
    sSeq (sIf (gOr (gNot (fTest (fCB dIsi (lCons (fVar 0) (lCons (fC (.ty "tuple")) (lNil)))))) (fTest (fOp dNe (fCB dLen (lCons (fVar 0) (lNil))) (fVar 1)))) (sRet (fC (.bl false))) (sNx))
      (sRet (fCB dAll (lCons (fD (foLc (iItemsA (fVar 0)) [2] (gSet 2) (gYes) (fCall g_isfrom (lCons (fVar 2) (lCons (fC (.int 0)) (lCons (fC (.int 1000)) (lNil))))))) (lNil)))))
def b_isc (ff : Fn) : S :=
    sSeq (sIf (gOr (fTest (fOp dLt (fVar 2) (fC (.int 1)))) (gOr (gNot (fTest (fCB dIsi (lCons (fVar 0) (lCons (fC (.ty "tuple")) (lNil)))))) (gOr (fTest (fOp dEqN (fVar 0) (fTup (lNil)))) (gNot (fTest (fCB dIsi (lCons (fOp dIx (fVar 0) (fC (.int 0))) (lCons (fC (.ty "str")) (lNil))))))))) (sRet (fC (.bl false))) (sNx))
      (sSeq (sStar 3 4 (fVar 0))
      (sSeq (sIf (fTest (fOp dEq (fVar 3) (fC (.str "sum")))) (sRet (fAnd (fOp dEq (fCB dLen (lCons (fVar 4) (lNil))) (fC (.int 1))) (fCall g_weights (lCons (fOp dIx (fVar 4) (fC (.int 0))) (lCons (fVar 1) (lNil)))))) (sNx))
      (sSeq (sIf (fTest (fOp dIn (fVar 3) (fC (.tup [D.str "add", D.str "lesser", D.str "greater"])))) (sRet (fAnd (fOp dEq (fCB dLen (lCons (fVar 4) (lNil))) (fC (.int 2))) (fCB dAll (lCons (fD (foLc (iItemsA (fVar 4)) [5] (gSet 5) (gYes) (fCall ff (lCons (fVar 5) (lCons (fVar 1) (lCons (fOp dSub (fVar 2) (fC (.int 1))) (lNil))))))) (lNil))))) (sNx))
      (sRet (fAnd (fOp dIn (fVar 3) (fC (.tup [D.str "times", D.str "low", D.str "high"]))) (fOp dEqN (fVar 4) (fLst (lNil))))))))
def g_isc : Nat → Fn
  | 0 => fun _ _ => none
  | kk + 1 => fnF 6 (b_isc (g_isc kk))
def g_isscale : Fn := fnF 2 (
    sRet (fCall (g_isc 10) (lCons (fVar 0) (lCons (fVar 1) (lCons (fC (.int 4)) (lNil))))))
def b_lsc (ff : Fn) : S :=
    sSeq (sIf (gOr (fTest (fOp dEq (fVar 2) (fC (.int 0)))) (gOr (gNot (fTest (fCB dIsi (lCons (fVar 0) (lCons (fC (.ty "tuple")) (lNil)))))) (gOr (fTest (fOp dEqN (fVar 0) (fTup (lNil)))) (gNot (fTest (fCB dIsi (lCons (fOp dIx (fVar 0) (fC (.int 0))) (lCons (fC (.ty "str")) (lNil))))))))) (sRet (fC (.bl false))) (sNx))
      (sSeq (sIf (fTest (fOp dIn (fOp dIx (fVar 0) (fC (.int 0))) (fTup (lCons (fC (.str "times")) (lCons (fC (.str "low")) (lCons (fC (.str "high")) (lNil))))))) (sRet (fOp dEq (fCB dLen (lCons (fVar 0) (lNil))) (fC (.int 1)))) (sNx))
      (sSeq (sIf (fTest (fOp dIn (fOp dIx (fVar 0) (fC (.int 0))) (fTup (lCons (fC (.str "add")) (lCons (fC (.str "lesser")) (lCons (fC (.str "greater")) (lNil))))))) (sSeq (sSet 3 (fD (foLc (iItemsA (fCut (fVar 0) (fPart (fC (.int 1))) (fNoPart))) [4] (gSet 4) (gNot (fTest (fCall ff (lCons (fVar 4) (lCons (fVar 1) (lCons (fOp dSub (fVar 2) (fC (.int 1))) (lNil))))))) (fVar 4))))
      (sRet (fAnd (fOp dEq (fCB dLen (lCons (fVar 0) (lNil))) (fC (.int 3))) (fOp dEqN (fVar 3) (fLst (lNil)))))) (sNx))
      (sSeq (sIf (gOr (fTest (fOp dNe (fOp dIx (fVar 0) (fC (.int 0))) (fC (.str "sum")))) (gOr (fTest (fOp dNe (fCB dLen (lCons (fVar 0) (lNil))) (fC (.int 2)))) (gOr (gNot (fTest (fCB dIsi (lCons (fOp dIx (fVar 0) (fC (.int 1))) (lCons (fC (.ty "tuple")) (lNil)))))) (fTest (fOp dNe (fCB dLen (lCons (fOp dIx (fVar 0) (fC (.int 1))) (lNil))) (fVar 1)))))) (sRet (fC (.bl false))) (sNx))
      (sRet (fOp dEqN (fD (foLc (iItemsA (fOp dIx (fVar 0) (fC (.int 1)))) [4] (gSet 4) (gNot (fTest (fCall g_lisfrom (lCons (fVar 4) (lCons (fC (.int 0)) (lCons (fC (.int 1000)) (lNil))))))) (fVar 4))) (fLst (lNil)))))))
def g_lsc : Nat → Fn
  | 0 => fun _ _ => none
  | kk + 1 => fnF 5 (b_lsc (g_lsc kk))

def okW (many : Int) : D → Bool
  | .tup ds => decide ((ds.length : Int) = many) && ds.all (okF 0 1000)
  | _ => false
def okSum (many : Int) : List D → Bool
  | [p] => okW many p
  | _ => false
def okS (many : Int) : Nat → D → Bool
  | 0, _ => false
  | k + 1, .tup (.str w :: ps) =>
    if w = ("sum" : String) then okSum many ps
    else if w = ("add" : String) ∨ w = ("lesser" : String) ∨ w = ("greater" : String) then decide (ps.length = 2) && ps.all (okS many k)
    else decide (w = ("times" : String) ∨ w = ("low" : String) ∨ w = ("high" : String)) && ps.isEmpty
  | _ + 1, _ => false
theorem okW_tup {many : Int} {ds : List D} : okW many (.tup ds) = (decide ((ds.length : Int) = many) && ds.all (okF 0 1000)) := rfl
theorem okS_0 {many : Int} {d : D} : okS many 0 d = false := by cases d <;> rfl
theorem okS_c {many : Int} {k : Nat} {w : Str} {ps : List D} : okS many (k + 1) (.tup (.str w :: ps)) = if w = ("sum" : String) then okSum many ps
    else if w = ("add" : String) ∨ w = ("lesser" : String) ∨ w = ("greater" : String) then decide (ps.length = 2) && ps.all (okS many k)
    else decide (w = ("times" : String) ∨ w = ("low" : String) ∨ w = ("high" : String)) && ps.isEmpty := rfl
theorem str_eq {a b : Str} : (a.cps.toList == b.cps.toList) = decide (a = b) := by
  by_cases h : a = b
  · subst h; simp
  · have : ¬ a.cps.toList = b.cps.toList := fun e => h (by
      cases a; cases b
      exact congrArg Str.mk (Array.toList_inj.mp e))
    rw [decide_eq_false h]
    exact beq_false_of_ne this
theorem eq_S {a b : Str} : dEq (.str a) (.str b) = some (.bl (decide (a = b))) := by rw [m_eqS, str_eq]
theorem ne_S {a b : Str} : dNe (.str a) (.str b) = some (.bl (!decide (a = b))) := by
  unfold dNe dEqv dEqS
  dsimp only
  rw [str_eq]; rfl
theorem beqS {a w : Str} : (a == w) = decide (w = a) := by
  by_cases h : w = a
  · subst h; simp
  · rw [decide_eq_false h]
    exact beq_false_of_ne fun e => h e.symm
theorem in_S3 {w a b c : Str} : dIn (.str w) (.tup [.str a, .str b, .str c]) = some (.bl (decide (w = a ∨ w = b ∨ w = c))) := by
  show (dInL (.str w) [.str a, .str b, .str c]).map D.bl = _
  unfold dInL
  rw [if_pos ⟨rfl, rfl⟩]
  show some (D.bl _) = _
  congr 2
  simp only [List.any_cons, List.any_nil, Bool.or_false]
  show ((a == w) || ((b == w) || (c == w))) = _
  rw [beqS, beqS, beqS]
  simp only [Bool.decide_or]
section
variable {k n : Nat} {d : D} {many : Int} {g : Gs} {P : RV → Gs → Prop} {E : Exn → Gs → Prop}
theorem weights_ok (h : Bk k n d) (hw : k ≤ 80) (fin : P (.dat (.bl (okW many d))) g) : Ok (g_weights [d, .int many] g) P E := by
  unfold g_weights
  rw [w_fn]
  show SOk (sSeq _ _ [.dat d, .dat (.int many), .un] _) _
  have hT := h.isTup
  rw [q_seq, q_if, w_gor, w_gnot]
  simp only [w_test, w_cb, w_cons, w_nil, w_var, w_c, lvD_dat, List.getElem?_cons_zero, op_some, hT, m_bool]
  cases h with
  | @tup m ds hl hb =>
    refine ⟨fun z => (by cases z), fun _ => ?_⟩
    simp only [w_var, lvD_dat, List.getElem?_cons_zero, List.getElem?_cons_succ, w_c, w_op, w_un, w_test, w_gand, w_gor, w_gnot, w_gyes, w_and, w_or, w_not, w_if, w_nil, w_cons, w_tup, w_lst, w_folst, w_folist, w_cb, w_fd, w_call, w_ocall, ovO_own, w_get, w_args, w_items, w_part, intO_int, w_nopart, w_cut, w_folc, q_seq, q_nx, q_bk, q_ct, q_set, q_setO, q_tg, q_ret, q_retO, q_retN, q_drop, q_if, q_par, q_par3, q_put, q_app, q_for, twoO_two, triO_tri, w_rD, w_rO, lvR_d, lvR_o, q_parR, q_setAt, w_lenv, lenO_o, lenO_l, lenO_t, w_gown, ownL_at, lstO_l, m_oListL, m_oListT, q_appPop, w_intbl, w_attbl, w_callv, fnD_fn, w_tuprg, q_star, q_aug, strD_str, starO_c, rgO_int, m_mulS, m_int1i, m_int1b, m_gseqT, m_gseqL, seqP_nx, seqP_rt, seqP_bk, seqP_ct, seqP_xc, midP_nx, midP_rt, midP_bk, midP_ct, midP_xc, fnP_nx, fnP_rt, fnP_xc, rdP_nx, rdP_ct, rdP_bk, rdP_rt, rdP_xc, op_some, op_none, op_ite, op_map, op_bind, ok_ret, ok_some, m_lt, m_le, m_gt, m_ge, m_add, m_addT, m_addL, m_sub, m_mulI, m_mod, m_fdivS, m_powS, m_neg, m_bool, m_abs, m_min2, m_max2, m_lenL, m_lenT, m_lenI, m_tupL, m_tupT, m_lstL, m_lstT, m_rv1, m_rv2, m_ov, m_key, m_kds, m_so, m_rng1, m_gset, m_gtup, m_gsc, m_gsn, m_zipL, m_zipT, m_itL, m_itT, m_cutT, m_cutL, eq_I, ne_I, no_nil, no_cons, no_un, no_dat, wi_nil, wi_cons, Bool.and_true, Bool.true_and, Bool.and_self, and_self, List.set_cons_zero, List.set_cons_succ, List.length_cons, List.length_nil, m_line, Nat.reduceAdd, Nat.reduceLeDiff, Nat.reduceLT, Int.reduceLE, Int.reduceLT, Int.reduceToNat, Int.reducePow, Nat.reducePow, Int.reduceNeg, Int.reduceMul, Int.reduceAdd, Int.reduceSub, Nat.reduceMul, Nat.reduceSub, Int.reduceMod, Int.reduceDiv, Nat.zero_add, true_and, and_true, if_true, if_false, reduceCtorEq, false_implies, forall_const, true_implies, implies_true, decide_eq_true_eq, decide_eq_false_iff_not, beq_iff_eq, beq_eq_false_iff_ne, ne_eq, Bool.not_eq_true, List.append_eq, List.cons_append, List.nil_append, w_chn, w_ixv, lsO_o, lsO_d, w_focat, m_ocat, m_eqnL, m_eqnT, w_disp0, m_ovd, q_frz, frzO_o, frzO_d, m_revL, m_revT, m_addXi, m_addXb, m_subXi, m_subXb, m_mulXi, m_mulXb, m_negXi, m_negXb, m_strXb, m_addS, m_cutS, List.map_nil, List.isEmpty_nil, List.isEmpty_cons, ne_I]
    rw [okW_tup] at fin
    refine ⟨fun h2 => ?_, fun h2 => ⟨by omega, ?_⟩⟩
    · have e : decide ((ds.length : Int) = many) = false := by simpa using h2
      rwa [e, Bool.false_and] at fin
    · have e : decide ((ds.length : Int) = many) = true := by simpa using h2
      rw [e, Bool.true_and] at fin
      refine lc_mapD (h := fun d => .bl (okF 0 1000 d)) (fun x hx => ?_) ?_
      · simp only [w_var, lvD_dat, List.getElem?_cons_zero, List.getElem?_cons_succ, w_c, w_op, w_un, w_test, w_gand, w_gor, w_gnot, w_gyes, w_and, w_or, w_not, w_if, w_nil, w_cons, w_tup, w_lst, w_folst, w_folist, w_cb, w_fd, w_call, w_ocall, ovO_own, w_get, w_args, w_items, w_part, intO_int, w_nopart, w_cut, w_folc, q_seq, q_nx, q_bk, q_ct, q_set, q_setO, q_tg, q_ret, q_retO, q_retN, q_drop, q_if, q_par, q_par3, q_put, q_app, q_for, twoO_two, triO_tri, w_rD, w_rO, lvR_d, lvR_o, q_parR, q_setAt, w_lenv, lenO_o, lenO_l, lenO_t, w_gown, ownL_at, lstO_l, m_oListL, m_oListT, q_appPop, w_intbl, w_attbl, w_callv, fnD_fn, w_tuprg, q_star, q_aug, strD_str, starO_c, rgO_int, m_mulS, m_int1i, m_int1b, m_gseqT, m_gseqL, seqP_nx, seqP_rt, seqP_bk, seqP_ct, seqP_xc, midP_nx, midP_rt, midP_bk, midP_ct, midP_xc, fnP_nx, fnP_rt, fnP_xc, rdP_nx, rdP_ct, rdP_bk, rdP_rt, rdP_xc, op_some, op_none, op_ite, op_map, op_bind, ok_ret, ok_some, m_lt, m_le, m_gt, m_ge, m_add, m_addT, m_addL, m_sub, m_mulI, m_mod, m_fdivS, m_powS, m_neg, m_bool, m_abs, m_min2, m_max2, m_lenL, m_lenT, m_lenI, m_tupL, m_tupT, m_lstL, m_lstT, m_rv1, m_rv2, m_ov, m_key, m_kds, m_so, m_rng1, m_gset, m_gtup, m_gsc, m_gsn, m_zipL, m_zipT, m_itL, m_itT, m_cutT, m_cutL, eq_I, ne_I, no_nil, no_cons, no_un, no_dat, wi_nil, wi_cons, Bool.and_true, Bool.true_and, Bool.and_self, and_self, List.set_cons_zero, List.set_cons_succ, List.length_cons, List.length_nil, m_line, Nat.reduceAdd, Nat.reduceLeDiff, Nat.reduceLT, Int.reduceLE, Int.reduceLT, Int.reduceToNat, Int.reducePow, Nat.reducePow, Int.reduceNeg, Int.reduceMul, Int.reduceAdd, Int.reduceSub, Nat.reduceMul, Nat.reduceSub, Int.reduceMod, Int.reduceDiv, Nat.zero_add, true_and, and_true, if_true, if_false, reduceCtorEq, false_implies, forall_const, true_implies, implies_true, decide_eq_true_eq, decide_eq_false_iff_not, beq_iff_eq, beq_eq_false_iff_ne, ne_eq, Bool.not_eq_true, List.append_eq, List.cons_append, List.nil_append, w_chn, w_ixv, lsO_o, lsO_d, w_focat, m_ocat, m_eqnL, m_eqnT, w_disp0, m_ovd, q_frz, frzO_o, frzO_d, m_revL, m_revT, m_addXi, m_addXb, m_subXi, m_subXb, m_mulXi, m_mulXb, m_negXi, m_negXb, m_strXb, m_addS, m_cutS, List.map_nil, List.isEmpty_nil, List.isEmpty_cons]
        exact isfrom_ok (hb x hx) ⟨rfl, rfl⟩
      · show Op ((asBls _).map _) _
        rw [as_bls]
        show Op (some _) _
        rw [op_some]
        show P (.dat (.bl ((ds.map (okF 0 1000)).all id))) g
        rw [List.all_map]
        exact fin
  | _ => exact ⟨fun _ => (by simp only [w_var, lvD_dat, List.getElem?_cons_zero, List.getElem?_cons_succ, w_c, w_op, w_un, w_test, w_gand, w_gor, w_gnot, w_gyes, w_and, w_or, w_not, w_if, w_nil, w_cons, w_tup, w_lst, w_folst, w_folist, w_cb, w_fd, w_call, w_ocall, ovO_own, w_get, w_args, w_items, w_part, intO_int, w_nopart, w_cut, w_folc, q_seq, q_nx, q_bk, q_ct, q_set, q_setO, q_tg, q_ret, q_retO, q_retN, q_drop, q_if, q_par, q_par3, q_put, q_app, q_for, twoO_two, triO_tri, w_rD, w_rO, lvR_d, lvR_o, q_parR, q_setAt, w_lenv, lenO_o, lenO_l, lenO_t, w_gown, ownL_at, lstO_l, m_oListL, m_oListT, q_appPop, w_intbl, w_attbl, w_callv, fnD_fn, w_tuprg, q_star, q_aug, strD_str, starO_c, rgO_int, m_mulS, m_int1i, m_int1b, m_gseqT, m_gseqL, seqP_nx, seqP_rt, seqP_bk, seqP_ct, seqP_xc, midP_nx, midP_rt, midP_bk, midP_ct, midP_xc, fnP_nx, fnP_rt, fnP_xc, rdP_nx, rdP_ct, rdP_bk, rdP_rt, rdP_xc, op_some, op_none, op_ite, op_map, op_bind, ok_ret, ok_some, m_lt, m_le, m_gt, m_ge, m_add, m_addT, m_addL, m_sub, m_mulI, m_mod, m_fdivS, m_powS, m_neg, m_bool, m_abs, m_min2, m_max2, m_lenL, m_lenT, m_lenI, m_tupL, m_tupT, m_lstL, m_lstT, m_rv1, m_rv2, m_ov, m_key, m_kds, m_so, m_rng1, m_gset, m_gtup, m_gsc, m_gsn, m_zipL, m_zipT, m_itL, m_itT, m_cutT, m_cutL, eq_I, ne_I, no_nil, no_cons, no_un, no_dat, wi_nil, wi_cons, Bool.and_true, Bool.true_and, Bool.and_self, and_self, List.set_cons_zero, List.set_cons_succ, List.length_cons, List.length_nil, m_line, Nat.reduceAdd, Nat.reduceLeDiff, Nat.reduceLT, Int.reduceLE, Int.reduceLT, Int.reduceToNat, Int.reducePow, Nat.reducePow, Int.reduceNeg, Int.reduceMul, Int.reduceAdd, Int.reduceSub, Nat.reduceMul, Nat.reduceSub, Int.reduceMod, Int.reduceDiv, Nat.zero_add, true_and, and_true, if_true, if_false, reduceCtorEq, false_implies, forall_const, true_implies, implies_true, decide_eq_true_eq, decide_eq_false_iff_not, beq_iff_eq, beq_eq_false_iff_ne, ne_eq, Bool.not_eq_true, List.append_eq, List.cons_append, List.nil_append, w_chn, w_ixv, lsO_o, lsO_d, w_focat, m_ocat, m_eqnL, m_eqnT, w_disp0, m_ovd, q_frz, frzO_o, frzO_d, m_revL, m_revT, m_addXi, m_addXb, m_subXi, m_subXb, m_mulXi, m_mulXb, m_negXi, m_negXb, m_strXb, m_addS, m_cutS, List.map_nil, List.isEmpty_nil, List.isEmpty_cons]; exact fin), fun z => by cases z⟩
end
theorem isc_ok {k : Nat} {many : Int} (hk : k ≤ 80) : ∀ (f : Nat) (deep : Nat) {n : Nat} {d : D} {g : Gs} {P : RV → Gs → Prop} {E : Exn → Gs → Prop}, Bk k n d → deep < f →
    P (.dat (.bl (okS many deep d))) g → Ok (g_isc f [d, .int many, .int deep] g) P E
  | 0, _, _, _, _, _, _, _, h, _ => absurd h (by omega)
  | f + 1, deep, n, d, g, P, E, hd, hf, fin => by
    rw [show g_isc (f + 1) = fnF 6 (b_isc (g_isc f)) from rfl, w_fn]
    show SOk (sSeq _ _ [.dat d, .dat (.int many), .dat (.int deep), .un, .un, .un] _) _
    have hT := hd.isTup
    rw [q_seq]
    cases deep with
    | zero =>
      rw [okS_0] at fin
      simp only [w_var, lvD_dat, List.getElem?_cons_zero, List.getElem?_cons_succ, w_c, w_op, w_un, w_test, w_gand, w_gor, w_gnot, w_gyes, w_and, w_or, w_not, w_if, w_nil, w_cons, w_tup, w_lst, w_folst, w_folist, w_cb, w_fd, w_call, w_ocall, ovO_own, w_get, w_args, w_items, w_part, intO_int, w_nopart, w_cut, w_folc, q_seq, q_nx, q_bk, q_ct, q_set, q_setO, q_tg, q_ret, q_retO, q_retN, q_drop, q_if, q_par, q_par3, q_put, q_app, q_for, twoO_two, triO_tri, w_rD, w_rO, lvR_d, lvR_o, q_parR, q_setAt, w_lenv, lenO_o, lenO_l, lenO_t, w_gown, ownL_at, lstO_l, m_oListL, m_oListT, q_appPop, w_intbl, w_attbl, w_callv, fnD_fn, w_tuprg, q_star, q_aug, strD_str, starO_c, rgO_int, m_mulS, m_int1i, m_int1b, m_gseqT, m_gseqL, seqP_nx, seqP_rt, seqP_bk, seqP_ct, seqP_xc, midP_nx, midP_rt, midP_bk, midP_ct, midP_xc, fnP_nx, fnP_rt, fnP_xc, rdP_nx, rdP_ct, rdP_bk, rdP_rt, rdP_xc, op_some, op_none, op_ite, op_map, op_bind, ok_ret, ok_some, m_lt, m_le, m_gt, m_ge, m_add, m_addT, m_addL, m_sub, m_mulI, m_mod, m_fdivS, m_powS, m_neg, m_bool, m_abs, m_min2, m_max2, m_lenL, m_lenT, m_lenI, m_tupL, m_tupT, m_lstL, m_lstT, m_rv1, m_rv2, m_ov, m_key, m_kds, m_so, m_rng1, m_gset, m_gtup, m_gsc, m_gsn, m_zipL, m_zipT, m_itL, m_itT, m_cutT, m_cutL, eq_I, ne_I, no_nil, no_cons, no_un, no_dat, wi_nil, wi_cons, Bool.and_true, Bool.true_and, Bool.and_self, and_self, List.set_cons_zero, List.set_cons_succ, List.length_cons, List.length_nil, m_line, Nat.reduceAdd, Nat.reduceLeDiff, Nat.reduceLT, Int.reduceLE, Int.reduceLT, Int.reduceToNat, Int.reducePow, Nat.reducePow, Int.reduceNeg, Int.reduceMul, Int.reduceAdd, Int.reduceSub, Nat.reduceMul, Nat.reduceSub, Int.reduceMod, Int.reduceDiv, Nat.zero_add, true_and, and_true, if_true, if_false, reduceCtorEq, false_implies, forall_const, true_implies, implies_true, decide_eq_true_eq, decide_eq_false_iff_not, beq_iff_eq, beq_eq_false_iff_ne, ne_eq, Bool.not_eq_true, List.append_eq, List.cons_append, List.nil_append, w_chn, w_ixv, lsO_o, lsO_d, w_focat, m_ocat, m_eqnL, m_eqnT, w_disp0, m_ovd, q_frz, frzO_o, frzO_d, m_revL, m_revT, m_addXi, m_addXb, m_subXi, m_subXb, m_mulXi, m_mulXb, m_negXi, m_negXb, m_strXb, m_addS, m_cutS, List.map_nil, List.isEmpty_nil, List.isEmpty_cons]
      exact ⟨fun _ => fin, fun z => absurd (by decide) z⟩
    | succ deep =>
      have e1 : ¬ ((deep + 1 : Nat) : Int) < 1 := by omega
      have e2 : ((deep + 1 : Nat) : Int) - 1 = (deep : Int) := by omega
      simp only [w_var, lvD_dat, List.getElem?_cons_zero, List.getElem?_cons_succ, w_c, w_op, w_un, w_test, w_gand, w_gor, w_gnot, w_gyes, w_and, w_or, w_not, w_if, w_nil, w_cons, w_tup, w_lst, w_folst, w_folist, w_cb, w_fd, w_call, w_ocall, ovO_own, w_get, w_args, w_items, w_part, intO_int, w_nopart, w_cut, w_folc, q_seq, q_nx, q_bk, q_ct, q_set, q_setO, q_tg, q_ret, q_retO, q_retN, q_drop, q_if, q_par, q_par3, q_put, q_app, q_for, twoO_two, triO_tri, w_rD, w_rO, lvR_d, lvR_o, q_parR, q_setAt, w_lenv, lenO_o, lenO_l, lenO_t, w_gown, ownL_at, lstO_l, m_oListL, m_oListT, q_appPop, w_intbl, w_attbl, w_callv, fnD_fn, w_tuprg, q_star, q_aug, strD_str, starO_c, rgO_int, m_mulS, m_int1i, m_int1b, m_gseqT, m_gseqL, seqP_nx, seqP_rt, seqP_bk, seqP_ct, seqP_xc, midP_nx, midP_rt, midP_bk, midP_ct, midP_xc, fnP_nx, fnP_rt, fnP_xc, rdP_nx, rdP_ct, rdP_bk, rdP_rt, rdP_xc, op_some, op_none, op_ite, op_map, op_bind, ok_ret, ok_some, m_lt, m_le, m_gt, m_ge, m_add, m_addT, m_addL, m_sub, m_mulI, m_mod, m_fdivS, m_powS, m_neg, m_bool, m_abs, m_min2, m_max2, m_lenL, m_lenT, m_lenI, m_tupL, m_tupT, m_lstL, m_lstT, m_rv1, m_rv2, m_ov, m_key, m_kds, m_so, m_rng1, m_gset, m_gtup, m_gsc, m_gsn, m_zipL, m_zipT, m_itL, m_itT, m_cutT, m_cutL, eq_I, ne_I, no_nil, no_cons, no_un, no_dat, wi_nil, wi_cons, Bool.and_true, Bool.true_and, Bool.and_self, and_self, List.set_cons_zero, List.set_cons_succ, List.length_cons, List.length_nil, m_line, Nat.reduceAdd, Nat.reduceLeDiff, Nat.reduceLT, Int.reduceLE, Int.reduceLT, Int.reduceToNat, Int.reducePow, Nat.reducePow, Int.reduceNeg, Int.reduceMul, Int.reduceAdd, Int.reduceSub, Nat.reduceMul, Nat.reduceSub, Int.reduceMod, Int.reduceDiv, Nat.zero_add, true_and, and_true, if_true, if_false, reduceCtorEq, false_implies, forall_const, true_implies, implies_true, decide_eq_true_eq, decide_eq_false_iff_not, beq_iff_eq, beq_eq_false_iff_ne, ne_eq, Bool.not_eq_true, List.append_eq, List.cons_append, List.nil_append, w_chn, w_ixv, lsO_o, lsO_d, w_focat, m_ocat, m_eqnL, m_eqnT, w_disp0, m_ovd, q_frz, frzO_o, frzO_d, m_revL, m_revT, m_addXi, m_addXb, m_subXi, m_subXb, m_mulXi, m_mulXb, m_negXi, m_negXb, m_strXb, m_addS, m_cutS, List.map_nil, List.isEmpty_nil, List.isEmpty_cons, e1, e2, hT, not_false_eq_true, true_implies]
      cases hd with
      | @tup m ds hl hb =>
        cases ds with
        | nil => simp only [w_var, lvD_dat, List.getElem?_cons_zero, List.getElem?_cons_succ, w_c, w_op, w_un, w_test, w_gand, w_gor, w_gnot, w_gyes, w_and, w_or, w_not, w_if, w_nil, w_cons, w_tup, w_lst, w_folst, w_folist, w_cb, w_fd, w_call, w_ocall, ovO_own, w_get, w_args, w_items, w_part, intO_int, w_nopart, w_cut, w_folc, q_seq, q_nx, q_bk, q_ct, q_set, q_setO, q_tg, q_ret, q_retO, q_retN, q_drop, q_if, q_par, q_par3, q_put, q_app, q_for, twoO_two, triO_tri, w_rD, w_rO, lvR_d, lvR_o, q_parR, q_setAt, w_lenv, lenO_o, lenO_l, lenO_t, w_gown, ownL_at, lstO_l, m_oListL, m_oListT, q_appPop, w_intbl, w_attbl, w_callv, fnD_fn, w_tuprg, q_star, q_aug, strD_str, starO_c, rgO_int, m_mulS, m_int1i, m_int1b, m_gseqT, m_gseqL, seqP_nx, seqP_rt, seqP_bk, seqP_ct, seqP_xc, midP_nx, midP_rt, midP_bk, midP_ct, midP_xc, fnP_nx, fnP_rt, fnP_xc, rdP_nx, rdP_ct, rdP_bk, rdP_rt, rdP_xc, op_some, op_none, op_ite, op_map, op_bind, ok_ret, ok_some, m_lt, m_le, m_gt, m_ge, m_add, m_addT, m_addL, m_sub, m_mulI, m_mod, m_fdivS, m_powS, m_neg, m_bool, m_abs, m_min2, m_max2, m_lenL, m_lenT, m_lenI, m_tupL, m_tupT, m_lstL, m_lstT, m_rv1, m_rv2, m_ov, m_key, m_kds, m_so, m_rng1, m_gset, m_gtup, m_gsc, m_gsn, m_zipL, m_zipT, m_itL, m_itT, m_cutT, m_cutL, eq_I, ne_I, no_nil, no_cons, no_un, no_dat, wi_nil, wi_cons, Bool.and_true, Bool.true_and, Bool.and_self, and_self, List.set_cons_zero, List.set_cons_succ, List.length_cons, List.length_nil, m_line, Nat.reduceAdd, Nat.reduceLeDiff, Nat.reduceLT, Int.reduceLE, Int.reduceLT, Int.reduceToNat, Int.reducePow, Nat.reducePow, Int.reduceNeg, Int.reduceMul, Int.reduceAdd, Int.reduceSub, Nat.reduceMul, Nat.reduceSub, Int.reduceMod, Int.reduceDiv, Nat.zero_add, true_and, and_true, if_true, if_false, reduceCtorEq, false_implies, forall_const, true_implies, implies_true, decide_eq_true_eq, decide_eq_false_iff_not, beq_iff_eq, beq_eq_false_iff_ne, ne_eq, Bool.not_eq_true, List.append_eq, List.cons_append, List.nil_append, w_chn, w_ixv, lsO_o, lsO_d, w_focat, m_ocat, m_eqnL, m_eqnT, w_disp0, m_ovd, q_frz, frzO_o, frzO_d, m_revL, m_revT, m_addXi, m_addXb, m_subXi, m_subXb, m_mulXi, m_mulXb, m_negXi, m_negXb, m_strXb, m_addS, m_cutS, List.map_nil, List.isEmpty_nil, List.isEmpty_cons, kTup, Bool.not_true]; exact fin
        | cons x ps =>
          have hS := (hb x (by simp)).isStr
          have hb' : ∀ d ∈ ps, Bk k m d := fun d hd => hb d (List.mem_cons_of_mem _ hd)
          rw [List.length_cons] at hl
          have i0 : dIx (.tup (x :: ps)) (.int 0) = some x := ix_anyT (ds := x :: ps) (by decide) (by simp only [List.length_cons]; omega)
          simp only [w_var, lvD_dat, List.getElem?_cons_zero, List.getElem?_cons_succ, w_c, w_op, w_un, w_test, w_gand, w_gor, w_gnot, w_gyes, w_and, w_or, w_not, w_if, w_nil, w_cons, w_tup, w_lst, w_folst, w_folist, w_cb, w_fd, w_call, w_ocall, ovO_own, w_get, w_args, w_items, w_part, intO_int, w_nopart, w_cut, w_folc, q_seq, q_nx, q_bk, q_ct, q_set, q_setO, q_tg, q_ret, q_retO, q_retN, q_drop, q_if, q_par, q_par3, q_put, q_app, q_for, twoO_two, triO_tri, w_rD, w_rO, lvR_d, lvR_o, q_parR, q_setAt, w_lenv, lenO_o, lenO_l, lenO_t, w_gown, ownL_at, lstO_l, m_oListL, m_oListT, q_appPop, w_intbl, w_attbl, w_callv, fnD_fn, w_tuprg, q_star, q_aug, strD_str, starO_c, rgO_int, m_mulS, m_int1i, m_int1b, m_gseqT, m_gseqL, seqP_nx, seqP_rt, seqP_bk, seqP_ct, seqP_xc, midP_nx, midP_rt, midP_bk, midP_ct, midP_xc, fnP_nx, fnP_rt, fnP_xc, rdP_nx, rdP_ct, rdP_bk, rdP_rt, rdP_xc, op_some, op_none, op_ite, op_map, op_bind, ok_ret, ok_some, m_lt, m_le, m_gt, m_ge, m_add, m_addT, m_addL, m_sub, m_mulI, m_mod, m_fdivS, m_powS, m_neg, m_bool, m_abs, m_min2, m_max2, m_lenL, m_lenT, m_lenI, m_tupL, m_tupT, m_lstL, m_lstT, m_rv1, m_rv2, m_ov, m_key, m_kds, m_so, m_rng1, m_gset, m_gtup, m_gsc, m_gsn, m_zipL, m_zipT, m_itL, m_itT, m_cutT, m_cutL, eq_I, ne_I, no_nil, no_cons, no_un, no_dat, wi_nil, wi_cons, Bool.and_true, Bool.true_and, Bool.and_self, and_self, List.set_cons_zero, List.set_cons_succ, List.length_cons, List.length_nil, m_line, Nat.reduceAdd, Nat.reduceLeDiff, Nat.reduceLT, Int.reduceLE, Int.reduceLT, Int.reduceToNat, Int.reducePow, Nat.reducePow, Int.reduceNeg, Int.reduceMul, Int.reduceAdd, Int.reduceSub, Nat.reduceMul, Nat.reduceSub, Int.reduceMod, Int.reduceDiv, Nat.zero_add, true_and, and_true, if_true, if_false, reduceCtorEq, false_implies, forall_const, true_implies, implies_true, decide_eq_true_eq, decide_eq_false_iff_not, beq_iff_eq, beq_eq_false_iff_ne, ne_eq, Bool.not_eq_true, List.append_eq, List.cons_append, List.nil_append, w_chn, w_ixv, lsO_o, lsO_d, w_focat, m_ocat, m_eqnL, m_eqnT, w_disp0, m_ovd, q_frz, frzO_o, frzO_d, m_revL, m_revT, m_addXi, m_addXb, m_subXi, m_subXb, m_mulXi, m_mulXb, m_negXi, m_negXb, m_strXb, m_addS, m_cutS, List.map_nil, List.isEmpty_nil, List.isEmpty_cons, kTup, i0, hS, Bool.not_true]
          have hx := hb x (by simp)
          cases x with
          | str w =>
            rw [okS_c] at fin
            simp only [w_var, lvD_dat, List.getElem?_cons_zero, List.getElem?_cons_succ, w_c, w_op, w_un, w_test, w_gand, w_gor, w_gnot, w_gyes, w_and, w_or, w_not, w_if, w_nil, w_cons, w_tup, w_lst, w_folst, w_folist, w_cb, w_fd, w_call, w_ocall, ovO_own, w_get, w_args, w_items, w_part, intO_int, w_nopart, w_cut, w_folc, q_seq, q_nx, q_bk, q_ct, q_set, q_setO, q_tg, q_ret, q_retO, q_retN, q_drop, q_if, q_par, q_par3, q_put, q_app, q_for, twoO_two, triO_tri, w_rD, w_rO, lvR_d, lvR_o, q_parR, q_setAt, w_lenv, lenO_o, lenO_l, lenO_t, w_gown, ownL_at, lstO_l, m_oListL, m_oListT, q_appPop, w_intbl, w_attbl, w_callv, fnD_fn, w_tuprg, q_star, q_aug, strD_str, starO_c, rgO_int, m_mulS, m_int1i, m_int1b, m_gseqT, m_gseqL, seqP_nx, seqP_rt, seqP_bk, seqP_ct, seqP_xc, midP_nx, midP_rt, midP_bk, midP_ct, midP_xc, fnP_nx, fnP_rt, fnP_xc, rdP_nx, rdP_ct, rdP_bk, rdP_rt, rdP_xc, op_some, op_none, op_ite, op_map, op_bind, ok_ret, ok_some, m_lt, m_le, m_gt, m_ge, m_add, m_addT, m_addL, m_sub, m_mulI, m_mod, m_fdivS, m_powS, m_neg, m_bool, m_abs, m_min2, m_max2, m_lenL, m_lenT, m_lenI, m_tupL, m_tupT, m_lstL, m_lstT, m_rv1, m_rv2, m_ov, m_key, m_kds, m_so, m_rng1, m_gset, m_gtup, m_gsc, m_gsn, m_zipL, m_zipT, m_itL, m_itT, m_cutT, m_cutL, eq_I, ne_I, no_nil, no_cons, no_un, no_dat, wi_nil, wi_cons, Bool.and_true, Bool.true_and, Bool.and_self, and_self, List.set_cons_zero, List.set_cons_succ, List.length_cons, List.length_nil, m_line, Nat.reduceAdd, Nat.reduceLeDiff, Nat.reduceLT, Int.reduceLE, Int.reduceLT, Int.reduceToNat, Int.reducePow, Nat.reducePow, Int.reduceNeg, Int.reduceMul, Int.reduceAdd, Int.reduceSub, Nat.reduceMul, Nat.reduceSub, Int.reduceMod, Int.reduceDiv, Nat.zero_add, true_and, and_true, if_true, if_false, reduceCtorEq, false_implies, forall_const, true_implies, implies_true, decide_eq_true_eq, decide_eq_false_iff_not, beq_iff_eq, beq_eq_false_iff_ne, ne_eq, Bool.not_eq_true, List.append_eq, List.cons_append, List.nil_append, w_chn, w_ixv, lsO_o, lsO_d, w_focat, m_ocat, m_eqnL, m_eqnT, w_disp0, m_ovd, q_frz, frzO_o, frzO_d, m_revL, m_revT, m_addXi, m_addXb, m_subXi, m_subXb, m_mulXi, m_mulXb, m_negXi, m_negXb, m_strXb, m_addS, m_cutS, List.map_nil, List.isEmpty_nil, List.isEmpty_cons, kStr, Bool.not_true, eq_S, in_S3]
            refine ⟨by omega, fun h1 => ?_, fun h1 => ⟨fun h2 => ?_, fun h2 => ?_⟩⟩
            · rw [if_pos h1] at fin
              refine ⟨fun h3 => ?_, fun h3 => ?_⟩
              · obtain ⟨p, rfl⟩ : ∃ p, ps = [p] := List.length_eq_one_iff.mp (by omega)
                have i1 : dIx (.lst [p]) (.int 0) = some p := rfl
                rw [i1, op_some]
                exact weights_ok (hb' p (by simp)) hk fin
              · have : okSum many ps = false := by
                  match ps, h3 with
                  | [], _ => rfl
                  | [_], h => exact absurd rfl h
                  | _ :: _ :: _, _ => rfl
                rwa [this] at fin
            · rw [if_neg h1, if_pos h2] at fin
              refine ⟨fun h3 => ⟨by omega, ?_⟩, fun h3 => ?_⟩
              · rw [decide_eq_true (show ps.length = 2 by omega), Bool.true_and] at fin
                refine lc_mapD (h := fun d => .bl (okS many deep d)) (fun x hx => ?_) ?_
                · simp only [w_var, lvD_dat, List.getElem?_cons_zero, List.getElem?_cons_succ, w_c, w_op, w_un, w_test, w_gand, w_gor, w_gnot, w_gyes, w_and, w_or, w_not, w_if, w_nil, w_cons, w_tup, w_lst, w_folst, w_folist, w_cb, w_fd, w_call, w_ocall, ovO_own, w_get, w_args, w_items, w_part, intO_int, w_nopart, w_cut, w_folc, q_seq, q_nx, q_bk, q_ct, q_set, q_setO, q_tg, q_ret, q_retO, q_retN, q_drop, q_if, q_par, q_par3, q_put, q_app, q_for, twoO_two, triO_tri, w_rD, w_rO, lvR_d, lvR_o, q_parR, q_setAt, w_lenv, lenO_o, lenO_l, lenO_t, w_gown, ownL_at, lstO_l, m_oListL, m_oListT, q_appPop, w_intbl, w_attbl, w_callv, fnD_fn, w_tuprg, q_star, q_aug, strD_str, starO_c, rgO_int, m_mulS, m_int1i, m_int1b, m_gseqT, m_gseqL, seqP_nx, seqP_rt, seqP_bk, seqP_ct, seqP_xc, midP_nx, midP_rt, midP_bk, midP_ct, midP_xc, fnP_nx, fnP_rt, fnP_xc, rdP_nx, rdP_ct, rdP_bk, rdP_rt, rdP_xc, op_some, op_none, op_ite, op_map, op_bind, ok_ret, ok_some, m_lt, m_le, m_gt, m_ge, m_add, m_addT, m_addL, m_sub, m_mulI, m_mod, m_fdivS, m_powS, m_neg, m_bool, m_abs, m_min2, m_max2, m_lenL, m_lenT, m_lenI, m_tupL, m_tupT, m_lstL, m_lstT, m_rv1, m_rv2, m_ov, m_key, m_kds, m_so, m_rng1, m_gset, m_gtup, m_gsc, m_gsn, m_zipL, m_zipT, m_itL, m_itT, m_cutT, m_cutL, eq_I, ne_I, no_nil, no_cons, no_un, no_dat, wi_nil, wi_cons, Bool.and_true, Bool.true_and, Bool.and_self, and_self, List.set_cons_zero, List.set_cons_succ, List.length_cons, List.length_nil, m_line, Nat.reduceAdd, Nat.reduceLeDiff, Nat.reduceLT, Int.reduceLE, Int.reduceLT, Int.reduceToNat, Int.reducePow, Nat.reducePow, Int.reduceNeg, Int.reduceMul, Int.reduceAdd, Int.reduceSub, Nat.reduceMul, Nat.reduceSub, Int.reduceMod, Int.reduceDiv, Nat.zero_add, true_and, and_true, if_true, if_false, reduceCtorEq, false_implies, forall_const, true_implies, implies_true, decide_eq_true_eq, decide_eq_false_iff_not, beq_iff_eq, beq_eq_false_iff_ne, ne_eq, Bool.not_eq_true, List.append_eq, List.cons_append, List.nil_append, w_chn, w_ixv, lsO_o, lsO_d, w_focat, m_ocat, m_eqnL, m_eqnT, w_disp0, m_ovd, q_frz, frzO_o, frzO_d, m_revL, m_revT, m_addXi, m_addXb, m_subXi, m_subXb, m_mulXi, m_mulXb, m_negXi, m_negXb, m_strXb, m_addS, m_cutS, List.map_nil, List.isEmpty_nil, List.isEmpty_cons, e2]
                  exact isc_ok hk f deep (hb' x hx) (by omega) ⟨rfl, rfl⟩
                · show Op ((asBls _).map _) _
                  rw [as_bls]
                  show Op (some _) _
                  rw [op_some]
                  show P (.dat (.bl ((ps.map (okS many deep)).all id))) g
                  rw [List.all_map]
                  exact fin
              · rwa [decide_eq_false (show ¬ ps.length = 2 by omega), Bool.false_and] at fin
            · rw [if_neg h1, if_neg h2] at fin
              refine ⟨fun h3 => ?_, fun h3 => ?_⟩
              · rwa [decide_eq_true h3, Bool.true_and] at fin
              · rwa [decide_eq_false h3, Bool.false_and] at fin
          | _ => simp only [w_var, lvD_dat, List.getElem?_cons_zero, List.getElem?_cons_succ, w_c, w_op, w_un, w_test, w_gand, w_gor, w_gnot, w_gyes, w_and, w_or, w_not, w_if, w_nil, w_cons, w_tup, w_lst, w_folst, w_folist, w_cb, w_fd, w_call, w_ocall, ovO_own, w_get, w_args, w_items, w_part, intO_int, w_nopart, w_cut, w_folc, q_seq, q_nx, q_bk, q_ct, q_set, q_setO, q_tg, q_ret, q_retO, q_retN, q_drop, q_if, q_par, q_par3, q_put, q_app, q_for, twoO_two, triO_tri, w_rD, w_rO, lvR_d, lvR_o, q_parR, q_setAt, w_lenv, lenO_o, lenO_l, lenO_t, w_gown, ownL_at, lstO_l, m_oListL, m_oListT, q_appPop, w_intbl, w_attbl, w_callv, fnD_fn, w_tuprg, q_star, q_aug, strD_str, starO_c, rgO_int, m_mulS, m_int1i, m_int1b, m_gseqT, m_gseqL, seqP_nx, seqP_rt, seqP_bk, seqP_ct, seqP_xc, midP_nx, midP_rt, midP_bk, midP_ct, midP_xc, fnP_nx, fnP_rt, fnP_xc, rdP_nx, rdP_ct, rdP_bk, rdP_rt, rdP_xc, op_some, op_none, op_ite, op_map, op_bind, ok_ret, ok_some, m_lt, m_le, m_gt, m_ge, m_add, m_addT, m_addL, m_sub, m_mulI, m_mod, m_fdivS, m_powS, m_neg, m_bool, m_abs, m_min2, m_max2, m_lenL, m_lenT, m_lenI, m_tupL, m_tupT, m_lstL, m_lstT, m_rv1, m_rv2, m_ov, m_key, m_kds, m_so, m_rng1, m_gset, m_gtup, m_gsc, m_gsn, m_zipL, m_zipT, m_itL, m_itT, m_cutT, m_cutL, eq_I, ne_I, no_nil, no_cons, no_un, no_dat, wi_nil, wi_cons, Bool.and_true, Bool.true_and, Bool.and_self, and_self, List.set_cons_zero, List.set_cons_succ, List.length_cons, List.length_nil, m_line, Nat.reduceAdd, Nat.reduceLeDiff, Nat.reduceLT, Int.reduceLE, Int.reduceLT, Int.reduceToNat, Int.reducePow, Nat.reducePow, Int.reduceNeg, Int.reduceMul, Int.reduceAdd, Int.reduceSub, Nat.reduceMul, Nat.reduceSub, Int.reduceMod, Int.reduceDiv, Nat.zero_add, true_and, and_true, if_true, if_false, reduceCtorEq, false_implies, forall_const, true_implies, implies_true, decide_eq_true_eq, decide_eq_false_iff_not, beq_iff_eq, beq_eq_false_iff_ne, ne_eq, Bool.not_eq_true, List.append_eq, List.cons_append, List.nil_append, w_chn, w_ixv, lsO_o, lsO_d, w_focat, m_ocat, m_eqnL, m_eqnT, w_disp0, m_ovd, q_frz, frzO_o, frzO_d, m_revL, m_revT, m_addXi, m_addXb, m_subXi, m_subXb, m_mulXi, m_mulXb, m_negXi, m_negXb, m_strXb, m_addS, m_cutS, List.map_nil, List.isEmpty_nil, List.isEmpty_cons, kStr, Bool.not_false]; exact fin
      | _ => simp only [w_var, lvD_dat, List.getElem?_cons_zero, List.getElem?_cons_succ, w_c, w_op, w_un, w_test, w_gand, w_gor, w_gnot, w_gyes, w_and, w_or, w_not, w_if, w_nil, w_cons, w_tup, w_lst, w_folst, w_folist, w_cb, w_fd, w_call, w_ocall, ovO_own, w_get, w_args, w_items, w_part, intO_int, w_nopart, w_cut, w_folc, q_seq, q_nx, q_bk, q_ct, q_set, q_setO, q_tg, q_ret, q_retO, q_retN, q_drop, q_if, q_par, q_par3, q_put, q_app, q_for, twoO_two, triO_tri, w_rD, w_rO, lvR_d, lvR_o, q_parR, q_setAt, w_lenv, lenO_o, lenO_l, lenO_t, w_gown, ownL_at, lstO_l, m_oListL, m_oListT, q_appPop, w_intbl, w_attbl, w_callv, fnD_fn, w_tuprg, q_star, q_aug, strD_str, starO_c, rgO_int, m_mulS, m_int1i, m_int1b, m_gseqT, m_gseqL, seqP_nx, seqP_rt, seqP_bk, seqP_ct, seqP_xc, midP_nx, midP_rt, midP_bk, midP_ct, midP_xc, fnP_nx, fnP_rt, fnP_xc, rdP_nx, rdP_ct, rdP_bk, rdP_rt, rdP_xc, op_some, op_none, op_ite, op_map, op_bind, ok_ret, ok_some, m_lt, m_le, m_gt, m_ge, m_add, m_addT, m_addL, m_sub, m_mulI, m_mod, m_fdivS, m_powS, m_neg, m_bool, m_abs, m_min2, m_max2, m_lenL, m_lenT, m_lenI, m_tupL, m_tupT, m_lstL, m_lstT, m_rv1, m_rv2, m_ov, m_key, m_kds, m_so, m_rng1, m_gset, m_gtup, m_gsc, m_gsn, m_zipL, m_zipT, m_itL, m_itT, m_cutT, m_cutL, eq_I, ne_I, no_nil, no_cons, no_un, no_dat, wi_nil, wi_cons, Bool.and_true, Bool.true_and, Bool.and_self, and_self, List.set_cons_zero, List.set_cons_succ, List.length_cons, List.length_nil, m_line, Nat.reduceAdd, Nat.reduceLeDiff, Nat.reduceLT, Int.reduceLE, Int.reduceLT, Int.reduceToNat, Int.reducePow, Nat.reducePow, Int.reduceNeg, Int.reduceMul, Int.reduceAdd, Int.reduceSub, Nat.reduceMul, Nat.reduceSub, Int.reduceMod, Int.reduceDiv, Nat.zero_add, true_and, and_true, if_true, if_false, reduceCtorEq, false_implies, forall_const, true_implies, implies_true, decide_eq_true_eq, decide_eq_false_iff_not, beq_iff_eq, beq_eq_false_iff_ne, ne_eq, Bool.not_eq_true, List.append_eq, List.cons_append, List.nil_append, w_chn, w_ixv, lsO_o, lsO_d, w_focat, m_ocat, m_eqnL, m_eqnT, w_disp0, m_ovd, q_frz, frzO_o, frzO_d, m_revL, m_revT, m_addXi, m_addXb, m_subXi, m_subXb, m_mulXi, m_mulXb, m_negXi, m_negXb, m_strXb, m_addS, m_cutS, List.map_nil, List.isEmpty_nil, List.isEmpty_cons, kTup, Bool.not_false]; exact fin
theorem lsc_ok {k : Nat} {many : Int} (hk : k ≤ 80) : ∀ (f : Nat) (deep : Nat) {n : Nat} {d : D} {g : Gs} {P : RV → Gs → Prop} {E : Exn → Gs → Prop}, Bk k n d → deep < f →
    P (.dat (.bl (okS many deep d))) g → Ok (g_lsc f [d, .int many, .int deep] g) P E
  | 0, _, _, _, _, _, _, _, h, _ => absurd h (by omega)
  | f + 1, deep, n, d, g, P, E, hd, hf, fin => by
    rw [show g_lsc (f + 1) = fnF 5 (b_lsc (g_lsc f)) from rfl, w_fn]
    show SOk (sSeq _ _ [.dat d, .dat (.int many), .dat (.int deep), .un, .un] _) _
    have hT := hd.isTup
    rw [q_seq]
    cases deep with
    | zero =>
      rw [okS_0] at fin
      simp only [w_var, lvD_dat, List.getElem?_cons_zero, List.getElem?_cons_succ, w_c, w_op, w_un, w_test, w_gand, w_gor, w_gnot, w_gyes, w_and, w_or, w_not, w_if, w_nil, w_cons, w_tup, w_lst, w_folst, w_folist, w_cb, w_fd, w_call, w_ocall, ovO_own, w_get, w_args, w_items, w_part, intO_int, w_nopart, w_cut, w_folc, q_seq, q_nx, q_bk, q_ct, q_set, q_setO, q_tg, q_ret, q_retO, q_retN, q_drop, q_if, q_par, q_par3, q_put, q_app, q_for, twoO_two, triO_tri, w_rD, w_rO, lvR_d, lvR_o, q_parR, q_setAt, w_lenv, lenO_o, lenO_l, lenO_t, w_gown, ownL_at, lstO_l, m_oListL, m_oListT, q_appPop, w_intbl, w_attbl, w_callv, fnD_fn, w_tuprg, q_star, q_aug, strD_str, starO_c, rgO_int, m_mulS, m_int1i, m_int1b, m_gseqT, m_gseqL, seqP_nx, seqP_rt, seqP_bk, seqP_ct, seqP_xc, midP_nx, midP_rt, midP_bk, midP_ct, midP_xc, fnP_nx, fnP_rt, fnP_xc, rdP_nx, rdP_ct, rdP_bk, rdP_rt, rdP_xc, op_some, op_none, op_ite, op_map, op_bind, ok_ret, ok_some, m_lt, m_le, m_gt, m_ge, m_add, m_addT, m_addL, m_sub, m_mulI, m_mod, m_fdivS, m_powS, m_neg, m_bool, m_abs, m_min2, m_max2, m_lenL, m_lenT, m_lenI, m_tupL, m_tupT, m_lstL, m_lstT, m_rv1, m_rv2, m_ov, m_key, m_kds, m_so, m_rng1, m_gset, m_gtup, m_gsc, m_gsn, m_zipL, m_zipT, m_itL, m_itT, m_cutT, m_cutL, eq_I, ne_I, no_nil, no_cons, no_un, no_dat, wi_nil, wi_cons, Bool.and_true, Bool.true_and, Bool.and_self, and_self, List.set_cons_zero, List.set_cons_succ, List.length_cons, List.length_nil, m_line, Nat.reduceAdd, Nat.reduceLeDiff, Nat.reduceLT, Int.reduceLE, Int.reduceLT, Int.reduceToNat, Int.reducePow, Nat.reducePow, Int.reduceNeg, Int.reduceMul, Int.reduceAdd, Int.reduceSub, Nat.reduceMul, Nat.reduceSub, Int.reduceMod, Int.reduceDiv, Nat.zero_add, true_and, and_true, if_true, if_false, reduceCtorEq, false_implies, forall_const, true_implies, implies_true, decide_eq_true_eq, decide_eq_false_iff_not, beq_iff_eq, beq_eq_false_iff_ne, ne_eq, Bool.not_eq_true, List.append_eq, List.cons_append, List.nil_append, w_chn, w_ixv, lsO_o, lsO_d, w_focat, m_ocat, m_eqnL, m_eqnT, w_disp0, m_ovd, q_frz, frzO_o, frzO_d, m_revL, m_revT, m_addXi, m_addXb, m_subXi, m_subXb, m_mulXi, m_mulXb, m_negXi, m_negXb, m_strXb, m_addS, m_cutS, List.map_nil, List.isEmpty_nil, List.isEmpty_cons]
      exact ⟨fun _ => fin, fun z => absurd rfl z⟩
    | succ deep =>
      have e1 : ¬ ((deep + 1 : Nat) : Int) = 0 := by omega
      have e2 : ((deep + 1 : Nat) : Int) - 1 = (deep : Int) := by omega
      simp only [w_var, lvD_dat, List.getElem?_cons_zero, List.getElem?_cons_succ, w_c, w_op, w_un, w_test, w_gand, w_gor, w_gnot, w_gyes, w_and, w_or, w_not, w_if, w_nil, w_cons, w_tup, w_lst, w_folst, w_folist, w_cb, w_fd, w_call, w_ocall, ovO_own, w_get, w_args, w_items, w_part, intO_int, w_nopart, w_cut, w_folc, q_seq, q_nx, q_bk, q_ct, q_set, q_setO, q_tg, q_ret, q_retO, q_retN, q_drop, q_if, q_par, q_par3, q_put, q_app, q_for, twoO_two, triO_tri, w_rD, w_rO, lvR_d, lvR_o, q_parR, q_setAt, w_lenv, lenO_o, lenO_l, lenO_t, w_gown, ownL_at, lstO_l, m_oListL, m_oListT, q_appPop, w_intbl, w_attbl, w_callv, fnD_fn, w_tuprg, q_star, q_aug, strD_str, starO_c, rgO_int, m_mulS, m_int1i, m_int1b, m_gseqT, m_gseqL, seqP_nx, seqP_rt, seqP_bk, seqP_ct, seqP_xc, midP_nx, midP_rt, midP_bk, midP_ct, midP_xc, fnP_nx, fnP_rt, fnP_xc, rdP_nx, rdP_ct, rdP_bk, rdP_rt, rdP_xc, op_some, op_none, op_ite, op_map, op_bind, ok_ret, ok_some, m_lt, m_le, m_gt, m_ge, m_add, m_addT, m_addL, m_sub, m_mulI, m_mod, m_fdivS, m_powS, m_neg, m_bool, m_abs, m_min2, m_max2, m_lenL, m_lenT, m_lenI, m_tupL, m_tupT, m_lstL, m_lstT, m_rv1, m_rv2, m_ov, m_key, m_kds, m_so, m_rng1, m_gset, m_gtup, m_gsc, m_gsn, m_zipL, m_zipT, m_itL, m_itT, m_cutT, m_cutL, eq_I, ne_I, no_nil, no_cons, no_un, no_dat, wi_nil, wi_cons, Bool.and_true, Bool.true_and, Bool.and_self, and_self, List.set_cons_zero, List.set_cons_succ, List.length_cons, List.length_nil, m_line, Nat.reduceAdd, Nat.reduceLeDiff, Nat.reduceLT, Int.reduceLE, Int.reduceLT, Int.reduceToNat, Int.reducePow, Nat.reducePow, Int.reduceNeg, Int.reduceMul, Int.reduceAdd, Int.reduceSub, Nat.reduceMul, Nat.reduceSub, Int.reduceMod, Int.reduceDiv, Nat.zero_add, true_and, and_true, if_true, if_false, reduceCtorEq, false_implies, forall_const, true_implies, implies_true, decide_eq_true_eq, decide_eq_false_iff_not, beq_iff_eq, beq_eq_false_iff_ne, ne_eq, Bool.not_eq_true, List.append_eq, List.cons_append, List.nil_append, w_chn, w_ixv, lsO_o, lsO_d, w_focat, m_ocat, m_eqnL, m_eqnT, w_disp0, m_ovd, q_frz, frzO_o, frzO_d, m_revL, m_revT, m_addXi, m_addXb, m_subXi, m_subXb, m_mulXi, m_mulXb, m_negXi, m_negXb, m_strXb, m_addS, m_cutS, List.map_nil, List.isEmpty_nil, List.isEmpty_cons, e1, e2, hT, not_false_eq_true, true_implies]
      cases hd with
      | @tup m ds hl hb =>
        cases ds with
        | nil => simp only [w_var, lvD_dat, List.getElem?_cons_zero, List.getElem?_cons_succ, w_c, w_op, w_un, w_test, w_gand, w_gor, w_gnot, w_gyes, w_and, w_or, w_not, w_if, w_nil, w_cons, w_tup, w_lst, w_folst, w_folist, w_cb, w_fd, w_call, w_ocall, ovO_own, w_get, w_args, w_items, w_part, intO_int, w_nopart, w_cut, w_folc, q_seq, q_nx, q_bk, q_ct, q_set, q_setO, q_tg, q_ret, q_retO, q_retN, q_drop, q_if, q_par, q_par3, q_put, q_app, q_for, twoO_two, triO_tri, w_rD, w_rO, lvR_d, lvR_o, q_parR, q_setAt, w_lenv, lenO_o, lenO_l, lenO_t, w_gown, ownL_at, lstO_l, m_oListL, m_oListT, q_appPop, w_intbl, w_attbl, w_callv, fnD_fn, w_tuprg, q_star, q_aug, strD_str, starO_c, rgO_int, m_mulS, m_int1i, m_int1b, m_gseqT, m_gseqL, seqP_nx, seqP_rt, seqP_bk, seqP_ct, seqP_xc, midP_nx, midP_rt, midP_bk, midP_ct, midP_xc, fnP_nx, fnP_rt, fnP_xc, rdP_nx, rdP_ct, rdP_bk, rdP_rt, rdP_xc, op_some, op_none, op_ite, op_map, op_bind, ok_ret, ok_some, m_lt, m_le, m_gt, m_ge, m_add, m_addT, m_addL, m_sub, m_mulI, m_mod, m_fdivS, m_powS, m_neg, m_bool, m_abs, m_min2, m_max2, m_lenL, m_lenT, m_lenI, m_tupL, m_tupT, m_lstL, m_lstT, m_rv1, m_rv2, m_ov, m_key, m_kds, m_so, m_rng1, m_gset, m_gtup, m_gsc, m_gsn, m_zipL, m_zipT, m_itL, m_itT, m_cutT, m_cutL, eq_I, ne_I, no_nil, no_cons, no_un, no_dat, wi_nil, wi_cons, Bool.and_true, Bool.true_and, Bool.and_self, and_self, List.set_cons_zero, List.set_cons_succ, List.length_cons, List.length_nil, m_line, Nat.reduceAdd, Nat.reduceLeDiff, Nat.reduceLT, Int.reduceLE, Int.reduceLT, Int.reduceToNat, Int.reducePow, Nat.reducePow, Int.reduceNeg, Int.reduceMul, Int.reduceAdd, Int.reduceSub, Nat.reduceMul, Nat.reduceSub, Int.reduceMod, Int.reduceDiv, Nat.zero_add, true_and, and_true, if_true, if_false, reduceCtorEq, false_implies, forall_const, true_implies, implies_true, decide_eq_true_eq, decide_eq_false_iff_not, beq_iff_eq, beq_eq_false_iff_ne, ne_eq, Bool.not_eq_true, List.append_eq, List.cons_append, List.nil_append, w_chn, w_ixv, lsO_o, lsO_d, w_focat, m_ocat, m_eqnL, m_eqnT, w_disp0, m_ovd, q_frz, frzO_o, frzO_d, m_revL, m_revT, m_addXi, m_addXb, m_subXi, m_subXb, m_mulXi, m_mulXb, m_negXi, m_negXb, m_strXb, m_addS, m_cutS, List.map_nil, List.isEmpty_nil, List.isEmpty_cons, kTup, Bool.not_true]; exact fin
        | cons x ps =>
          have hS := (hb x (by simp)).isStr
          have hb' : ∀ d ∈ ps, Bk k m d := fun d hd => hb d (List.mem_cons_of_mem _ hd)
          rw [List.length_cons] at hl
          have i0 : dIx (.tup (x :: ps)) (.int 0) = some x := ix_anyT (ds := x :: ps) (by decide) (by simp only [List.length_cons]; omega)
          have c1 : cutD (x :: ps) (some 1) none = ps := by rw [cut_from (by decide) (by simp only [List.length_cons]; omega)]; rfl
          simp only [w_var, lvD_dat, List.getElem?_cons_zero, List.getElem?_cons_succ, w_c, w_op, w_un, w_test, w_gand, w_gor, w_gnot, w_gyes, w_and, w_or, w_not, w_if, w_nil, w_cons, w_tup, w_lst, w_folst, w_folist, w_cb, w_fd, w_call, w_ocall, ovO_own, w_get, w_args, w_items, w_part, intO_int, w_nopart, w_cut, w_folc, q_seq, q_nx, q_bk, q_ct, q_set, q_setO, q_tg, q_ret, q_retO, q_retN, q_drop, q_if, q_par, q_par3, q_put, q_app, q_for, twoO_two, triO_tri, w_rD, w_rO, lvR_d, lvR_o, q_parR, q_setAt, w_lenv, lenO_o, lenO_l, lenO_t, w_gown, ownL_at, lstO_l, m_oListL, m_oListT, q_appPop, w_intbl, w_attbl, w_callv, fnD_fn, w_tuprg, q_star, q_aug, strD_str, starO_c, rgO_int, m_mulS, m_int1i, m_int1b, m_gseqT, m_gseqL, seqP_nx, seqP_rt, seqP_bk, seqP_ct, seqP_xc, midP_nx, midP_rt, midP_bk, midP_ct, midP_xc, fnP_nx, fnP_rt, fnP_xc, rdP_nx, rdP_ct, rdP_bk, rdP_rt, rdP_xc, op_some, op_none, op_ite, op_map, op_bind, ok_ret, ok_some, m_lt, m_le, m_gt, m_ge, m_add, m_addT, m_addL, m_sub, m_mulI, m_mod, m_fdivS, m_powS, m_neg, m_bool, m_abs, m_min2, m_max2, m_lenL, m_lenT, m_lenI, m_tupL, m_tupT, m_lstL, m_lstT, m_rv1, m_rv2, m_ov, m_key, m_kds, m_so, m_rng1, m_gset, m_gtup, m_gsc, m_gsn, m_zipL, m_zipT, m_itL, m_itT, m_cutT, m_cutL, eq_I, ne_I, no_nil, no_cons, no_un, no_dat, wi_nil, wi_cons, Bool.and_true, Bool.true_and, Bool.and_self, and_self, List.set_cons_zero, List.set_cons_succ, List.length_cons, List.length_nil, m_line, Nat.reduceAdd, Nat.reduceLeDiff, Nat.reduceLT, Int.reduceLE, Int.reduceLT, Int.reduceToNat, Int.reducePow, Nat.reducePow, Int.reduceNeg, Int.reduceMul, Int.reduceAdd, Int.reduceSub, Nat.reduceMul, Nat.reduceSub, Int.reduceMod, Int.reduceDiv, Nat.zero_add, true_and, and_true, if_true, if_false, reduceCtorEq, false_implies, forall_const, true_implies, implies_true, decide_eq_true_eq, decide_eq_false_iff_not, beq_iff_eq, beq_eq_false_iff_ne, ne_eq, Bool.not_eq_true, List.append_eq, List.cons_append, List.nil_append, w_chn, w_ixv, lsO_o, lsO_d, w_focat, m_ocat, m_eqnL, m_eqnT, w_disp0, m_ovd, q_frz, frzO_o, frzO_d, m_revL, m_revT, m_addXi, m_addXb, m_subXi, m_subXb, m_mulXi, m_mulXb, m_negXi, m_negXb, m_strXb, m_addS, m_cutS, List.map_nil, List.isEmpty_nil, List.isEmpty_cons, kTup, i0, hS, c1, Bool.not_true]
          have hx := hb x (by simp)
          cases x with
          | str w =>
            rw [okS_c] at fin
            simp only [w_var, lvD_dat, List.getElem?_cons_zero, List.getElem?_cons_succ, w_c, w_op, w_un, w_test, w_gand, w_gor, w_gnot, w_gyes, w_and, w_or, w_not, w_if, w_nil, w_cons, w_tup, w_lst, w_folst, w_folist, w_cb, w_fd, w_call, w_ocall, ovO_own, w_get, w_args, w_items, w_part, intO_int, w_nopart, w_cut, w_folc, q_seq, q_nx, q_bk, q_ct, q_set, q_setO, q_tg, q_ret, q_retO, q_retN, q_drop, q_if, q_par, q_par3, q_put, q_app, q_for, twoO_two, triO_tri, w_rD, w_rO, lvR_d, lvR_o, q_parR, q_setAt, w_lenv, lenO_o, lenO_l, lenO_t, w_gown, ownL_at, lstO_l, m_oListL, m_oListT, q_appPop, w_intbl, w_attbl, w_callv, fnD_fn, w_tuprg, q_star, q_aug, strD_str, starO_c, rgO_int, m_mulS, m_int1i, m_int1b, m_gseqT, m_gseqL, seqP_nx, seqP_rt, seqP_bk, seqP_ct, seqP_xc, midP_nx, midP_rt, midP_bk, midP_ct, midP_xc, fnP_nx, fnP_rt, fnP_xc, rdP_nx, rdP_ct, rdP_bk, rdP_rt, rdP_xc, op_some, op_none, op_ite, op_map, op_bind, ok_ret, ok_some, m_lt, m_le, m_gt, m_ge, m_add, m_addT, m_addL, m_sub, m_mulI, m_mod, m_fdivS, m_powS, m_neg, m_bool, m_abs, m_min2, m_max2, m_lenL, m_lenT, m_lenI, m_tupL, m_tupT, m_lstL, m_lstT, m_rv1, m_rv2, m_ov, m_key, m_kds, m_so, m_rng1, m_gset, m_gtup, m_gsc, m_gsn, m_zipL, m_zipT, m_itL, m_itT, m_cutT, m_cutL, eq_I, ne_I, no_nil, no_cons, no_un, no_dat, wi_nil, wi_cons, Bool.and_true, Bool.true_and, Bool.and_self, and_self, List.set_cons_zero, List.set_cons_succ, List.length_cons, List.length_nil, m_line, Nat.reduceAdd, Nat.reduceLeDiff, Nat.reduceLT, Int.reduceLE, Int.reduceLT, Int.reduceToNat, Int.reducePow, Nat.reducePow, Int.reduceNeg, Int.reduceMul, Int.reduceAdd, Int.reduceSub, Nat.reduceMul, Nat.reduceSub, Int.reduceMod, Int.reduceDiv, Nat.zero_add, true_and, and_true, if_true, if_false, reduceCtorEq, false_implies, forall_const, true_implies, implies_true, decide_eq_true_eq, decide_eq_false_iff_not, beq_iff_eq, beq_eq_false_iff_ne, ne_eq, Bool.not_eq_true, List.append_eq, List.cons_append, List.nil_append, w_chn, w_ixv, lsO_o, lsO_d, w_focat, m_ocat, m_eqnL, m_eqnT, w_disp0, m_ovd, q_frz, frzO_o, frzO_d, m_revL, m_revT, m_addXi, m_addXb, m_subXi, m_subXb, m_mulXi, m_mulXb, m_negXi, m_negXb, m_strXb, m_addS, m_cutS, List.map_nil, List.isEmpty_nil, List.isEmpty_cons, kStr, Bool.not_true, eq_S, in_S3, ne_S]
            refine ⟨fun hA => ?_, fun hA => ⟨fun hB => ?_, fun hB => ⟨fun hC => ?_, fun hC => ?_⟩⟩⟩
            · have n1 : ¬ w = ("sum" : String) := by rcases hA with rfl | rfl | rfl <;> decide +kernel
              have n2 : ¬ (w = ("add" : String) ∨ w = ("lesser" : String) ∨ w = ("greater" : String)) := by rcases hA with rfl | rfl | rfl <;> decide +kernel
              rw [if_neg n1, if_neg n2, decide_eq_true hA, Bool.true_and] at fin
              have e : ((((ps.length + 1 : Nat) : Int)) == 1) = ps.isEmpty := by
                cases ps with
                | nil => rfl
                | cons y ys => exact beq_false_of_ne (by simp only [List.length_cons]; omega)
              rwa [e]
            · have n1 : ¬ w = ("sum" : String) := by rcases hB with rfl | rfl | rfl <;> decide +kernel
              rw [if_neg n1, if_pos hB] at fin
              refine ⟨by omega, ?_⟩
              refine lc_pureD (h := id) (f := fun d => !okS many deep d) (fun x hx => ?_) ?_
              · simp only [w_var, lvD_dat, List.getElem?_cons_zero, List.getElem?_cons_succ, w_c, w_op, w_un, w_test, w_gand, w_gor, w_gnot, w_gyes, w_and, w_or, w_not, w_if, w_nil, w_cons, w_tup, w_lst, w_folst, w_folist, w_cb, w_fd, w_call, w_ocall, ovO_own, w_get, w_args, w_items, w_part, intO_int, w_nopart, w_cut, w_folc, q_seq, q_nx, q_bk, q_ct, q_set, q_setO, q_tg, q_ret, q_retO, q_retN, q_drop, q_if, q_par, q_par3, q_put, q_app, q_for, twoO_two, triO_tri, w_rD, w_rO, lvR_d, lvR_o, q_parR, q_setAt, w_lenv, lenO_o, lenO_l, lenO_t, w_gown, ownL_at, lstO_l, m_oListL, m_oListT, q_appPop, w_intbl, w_attbl, w_callv, fnD_fn, w_tuprg, q_star, q_aug, strD_str, starO_c, rgO_int, m_mulS, m_int1i, m_int1b, m_gseqT, m_gseqL, seqP_nx, seqP_rt, seqP_bk, seqP_ct, seqP_xc, midP_nx, midP_rt, midP_bk, midP_ct, midP_xc, fnP_nx, fnP_rt, fnP_xc, rdP_nx, rdP_ct, rdP_bk, rdP_rt, rdP_xc, op_some, op_none, op_ite, op_map, op_bind, ok_ret, ok_some, m_lt, m_le, m_gt, m_ge, m_add, m_addT, m_addL, m_sub, m_mulI, m_mod, m_fdivS, m_powS, m_neg, m_bool, m_abs, m_min2, m_max2, m_lenL, m_lenT, m_lenI, m_tupL, m_tupT, m_lstL, m_lstT, m_rv1, m_rv2, m_ov, m_key, m_kds, m_so, m_rng1, m_gset, m_gtup, m_gsc, m_gsn, m_zipL, m_zipT, m_itL, m_itT, m_cutT, m_cutL, eq_I, ne_I, no_nil, no_cons, no_un, no_dat, wi_nil, wi_cons, Bool.and_true, Bool.true_and, Bool.and_self, and_self, List.set_cons_zero, List.set_cons_succ, List.length_cons, List.length_nil, m_line, Nat.reduceAdd, Nat.reduceLeDiff, Nat.reduceLT, Int.reduceLE, Int.reduceLT, Int.reduceToNat, Int.reducePow, Nat.reducePow, Int.reduceNeg, Int.reduceMul, Int.reduceAdd, Int.reduceSub, Nat.reduceMul, Nat.reduceSub, Int.reduceMod, Int.reduceDiv, Nat.zero_add, true_and, and_true, if_true, if_false, reduceCtorEq, false_implies, forall_const, true_implies, implies_true, decide_eq_true_eq, decide_eq_false_iff_not, beq_iff_eq, beq_eq_false_iff_ne, ne_eq, Bool.not_eq_true, List.append_eq, List.cons_append, List.nil_append, w_chn, w_ixv, lsO_o, lsO_d, w_focat, m_ocat, m_eqnL, m_eqnT, w_disp0, m_ovd, q_frz, frzO_o, frzO_d, m_revL, m_revT, m_addXi, m_addXb, m_subXi, m_subXb, m_mulXi, m_mulXb, m_negXi, m_negXb, m_strXb, m_addS, m_cutS, List.map_nil, List.isEmpty_nil, List.isEmpty_cons, e2]
                refine ⟨lsc_ok hk f deep (hb' x hx) (by omega) ?_, fun _ => rfl⟩
                rw [m_rv1, m_bool, op_some]
                exact ⟨rfl, rfl⟩
              · rw [List.map_id, filter_nil]
                refine ⟨fun h3 => ?_, fun h3 => ?_⟩
                · rwa [decide_eq_true (show ps.length = 2 by omega), Bool.true_and] at fin
                · rwa [decide_eq_false (show ¬ ps.length = 2 by omega), Bool.false_and] at fin
            · have n1 : ¬ w = ("sum" : String) := by simpa using hC
              rwa [if_neg n1, if_neg hB, decide_eq_false hA, Bool.false_and] at fin
            · have n1 : w = ("sum" : String) := by simpa using hC
              rw [if_pos n1] at fin
              refine ⟨fun h3 => ?_, fun h3 => ?_⟩
              · have h4 : ¬ ps.length = 1 := by
                  have : ¬ ((ps.length + 1 : Nat) : Int) = 2 := by simpa using h3
                  omega
                have : okSum many ps = false := by
                  match ps, h4 with
                  | [], _ => rfl
                  | [_], h => exact absurd rfl h
                  | _ :: _ :: _, _ => rfl
                rwa [this] at fin
              · have h4 : ps.length = 1 := by
                  have : ((ps.length + 1 : Nat) : Int) = 2 := by simpa using h3
                  omega
                obtain ⟨p, rfl⟩ : ∃ p, ps = [p] := List.length_eq_one_iff.mp h4
                have i1 : dIx (.tup [.str w, p]) (.int 1) = some p := rfl
                have hp := hb' p (by simp)
                have hpT := hp.isTup
                simp only [w_var, lvD_dat, List.getElem?_cons_zero, List.getElem?_cons_succ, w_c, w_op, w_un, w_test, w_gand, w_gor, w_gnot, w_gyes, w_and, w_or, w_not, w_if, w_nil, w_cons, w_tup, w_lst, w_folst, w_folist, w_cb, w_fd, w_call, w_ocall, ovO_own, w_get, w_args, w_items, w_part, intO_int, w_nopart, w_cut, w_folc, q_seq, q_nx, q_bk, q_ct, q_set, q_setO, q_tg, q_ret, q_retO, q_retN, q_drop, q_if, q_par, q_par3, q_put, q_app, q_for, twoO_two, triO_tri, w_rD, w_rO, lvR_d, lvR_o, q_parR, q_setAt, w_lenv, lenO_o, lenO_l, lenO_t, w_gown, ownL_at, lstO_l, m_oListL, m_oListT, q_appPop, w_intbl, w_attbl, w_callv, fnD_fn, w_tuprg, q_star, q_aug, strD_str, starO_c, rgO_int, m_mulS, m_int1i, m_int1b, m_gseqT, m_gseqL, seqP_nx, seqP_rt, seqP_bk, seqP_ct, seqP_xc, midP_nx, midP_rt, midP_bk, midP_ct, midP_xc, fnP_nx, fnP_rt, fnP_xc, rdP_nx, rdP_ct, rdP_bk, rdP_rt, rdP_xc, op_some, op_none, op_ite, op_map, op_bind, ok_ret, ok_some, m_lt, m_le, m_gt, m_ge, m_add, m_addT, m_addL, m_sub, m_mulI, m_mod, m_fdivS, m_powS, m_neg, m_bool, m_abs, m_min2, m_max2, m_lenL, m_lenT, m_lenI, m_tupL, m_tupT, m_lstL, m_lstT, m_rv1, m_rv2, m_ov, m_key, m_kds, m_so, m_rng1, m_gset, m_gtup, m_gsc, m_gsn, m_zipL, m_zipT, m_itL, m_itT, m_cutT, m_cutL, eq_I, ne_I, no_nil, no_cons, no_un, no_dat, wi_nil, wi_cons, Bool.and_true, Bool.true_and, Bool.and_self, and_self, List.set_cons_zero, List.set_cons_succ, List.length_cons, List.length_nil, m_line, Nat.reduceAdd, Nat.reduceLeDiff, Nat.reduceLT, Int.reduceLE, Int.reduceLT, Int.reduceToNat, Int.reducePow, Nat.reducePow, Int.reduceNeg, Int.reduceMul, Int.reduceAdd, Int.reduceSub, Nat.reduceMul, Nat.reduceSub, Int.reduceMod, Int.reduceDiv, Nat.zero_add, true_and, and_true, if_true, if_false, reduceCtorEq, false_implies, forall_const, true_implies, implies_true, decide_eq_true_eq, decide_eq_false_iff_not, beq_iff_eq, beq_eq_false_iff_ne, ne_eq, Bool.not_eq_true, List.append_eq, List.cons_append, List.nil_append, w_chn, w_ixv, lsO_o, lsO_d, w_focat, m_ocat, m_eqnL, m_eqnT, w_disp0, m_ovd, q_frz, frzO_o, frzO_d, m_revL, m_revT, m_addXi, m_addXb, m_subXi, m_subXb, m_mulXi, m_mulXb, m_negXi, m_negXb, m_strXb, m_addS, m_cutS, List.map_nil, List.isEmpty_nil, List.isEmpty_cons, i1, hpT]
                have fin : P (.dat (.bl (okW many p))) g := fin
                cases hp with
                | @tup m2 ds hl2 hb2 =>
                  simp only [w_var, lvD_dat, List.getElem?_cons_zero, List.getElem?_cons_succ, w_c, w_op, w_un, w_test, w_gand, w_gor, w_gnot, w_gyes, w_and, w_or, w_not, w_if, w_nil, w_cons, w_tup, w_lst, w_folst, w_folist, w_cb, w_fd, w_call, w_ocall, ovO_own, w_get, w_args, w_items, w_part, intO_int, w_nopart, w_cut, w_folc, q_seq, q_nx, q_bk, q_ct, q_set, q_setO, q_tg, q_ret, q_retO, q_retN, q_drop, q_if, q_par, q_par3, q_put, q_app, q_for, twoO_two, triO_tri, w_rD, w_rO, lvR_d, lvR_o, q_parR, q_setAt, w_lenv, lenO_o, lenO_l, lenO_t, w_gown, ownL_at, lstO_l, m_oListL, m_oListT, q_appPop, w_intbl, w_attbl, w_callv, fnD_fn, w_tuprg, q_star, q_aug, strD_str, starO_c, rgO_int, m_mulS, m_int1i, m_int1b, m_gseqT, m_gseqL, seqP_nx, seqP_rt, seqP_bk, seqP_ct, seqP_xc, midP_nx, midP_rt, midP_bk, midP_ct, midP_xc, fnP_nx, fnP_rt, fnP_xc, rdP_nx, rdP_ct, rdP_bk, rdP_rt, rdP_xc, op_some, op_none, op_ite, op_map, op_bind, ok_ret, ok_some, m_lt, m_le, m_gt, m_ge, m_add, m_addT, m_addL, m_sub, m_mulI, m_mod, m_fdivS, m_powS, m_neg, m_bool, m_abs, m_min2, m_max2, m_lenL, m_lenT, m_lenI, m_tupL, m_tupT, m_lstL, m_lstT, m_rv1, m_rv2, m_ov, m_key, m_kds, m_so, m_rng1, m_gset, m_gtup, m_gsc, m_gsn, m_zipL, m_zipT, m_itL, m_itT, m_cutT, m_cutL, eq_I, ne_I, no_nil, no_cons, no_un, no_dat, wi_nil, wi_cons, Bool.and_true, Bool.true_and, Bool.and_self, and_self, List.set_cons_zero, List.set_cons_succ, List.length_cons, List.length_nil, m_line, Nat.reduceAdd, Nat.reduceLeDiff, Nat.reduceLT, Int.reduceLE, Int.reduceLT, Int.reduceToNat, Int.reducePow, Nat.reducePow, Int.reduceNeg, Int.reduceMul, Int.reduceAdd, Int.reduceSub, Nat.reduceMul, Nat.reduceSub, Int.reduceMod, Int.reduceDiv, Nat.zero_add, true_and, and_true, if_true, if_false, reduceCtorEq, false_implies, forall_const, true_implies, implies_true, decide_eq_true_eq, decide_eq_false_iff_not, beq_iff_eq, beq_eq_false_iff_ne, ne_eq, Bool.not_eq_true, List.append_eq, List.cons_append, List.nil_append, w_chn, w_ixv, lsO_o, lsO_d, w_focat, m_ocat, m_eqnL, m_eqnT, w_disp0, m_ovd, q_frz, frzO_o, frzO_d, m_revL, m_revT, m_addXi, m_addXb, m_subXi, m_subXb, m_mulXi, m_mulXb, m_negXi, m_negXb, m_strXb, m_addS, m_cutS, List.map_nil, List.isEmpty_nil, List.isEmpty_cons, kTup, Bool.not_true]
                  rw [okW_tup] at fin
                  refine ⟨fun h5 => ?_, fun h5 => ⟨by omega, ?_⟩⟩
                  · have e : decide ((ds.length : Int) = many) = false := by simpa using h5
                    rwa [e, Bool.false_and] at fin
                  · have e : decide ((ds.length : Int) = many) = true := by simpa using h5
                    rw [e, Bool.true_and] at fin
                    refine lc_pureD (h := id) (f := fun d => !okF 0 1000 d) (fun x hx => ?_) ?_
                    · simp only [w_var, lvD_dat, List.getElem?_cons_zero, List.getElem?_cons_succ, w_c, w_op, w_un, w_test, w_gand, w_gor, w_gnot, w_gyes, w_and, w_or, w_not, w_if, w_nil, w_cons, w_tup, w_lst, w_folst, w_folist, w_cb, w_fd, w_call, w_ocall, ovO_own, w_get, w_args, w_items, w_part, intO_int, w_nopart, w_cut, w_folc, q_seq, q_nx, q_bk, q_ct, q_set, q_setO, q_tg, q_ret, q_retO, q_retN, q_drop, q_if, q_par, q_par3, q_put, q_app, q_for, twoO_two, triO_tri, w_rD, w_rO, lvR_d, lvR_o, q_parR, q_setAt, w_lenv, lenO_o, lenO_l, lenO_t, w_gown, ownL_at, lstO_l, m_oListL, m_oListT, q_appPop, w_intbl, w_attbl, w_callv, fnD_fn, w_tuprg, q_star, q_aug, strD_str, starO_c, rgO_int, m_mulS, m_int1i, m_int1b, m_gseqT, m_gseqL, seqP_nx, seqP_rt, seqP_bk, seqP_ct, seqP_xc, midP_nx, midP_rt, midP_bk, midP_ct, midP_xc, fnP_nx, fnP_rt, fnP_xc, rdP_nx, rdP_ct, rdP_bk, rdP_rt, rdP_xc, op_some, op_none, op_ite, op_map, op_bind, ok_ret, ok_some, m_lt, m_le, m_gt, m_ge, m_add, m_addT, m_addL, m_sub, m_mulI, m_mod, m_fdivS, m_powS, m_neg, m_bool, m_abs, m_min2, m_max2, m_lenL, m_lenT, m_lenI, m_tupL, m_tupT, m_lstL, m_lstT, m_rv1, m_rv2, m_ov, m_key, m_kds, m_so, m_rng1, m_gset, m_gtup, m_gsc, m_gsn, m_zipL, m_zipT, m_itL, m_itT, m_cutT, m_cutL, eq_I, ne_I, no_nil, no_cons, no_un, no_dat, wi_nil, wi_cons, Bool.and_true, Bool.true_and, Bool.and_self, and_self, List.set_cons_zero, List.set_cons_succ, List.length_cons, List.length_nil, m_line, Nat.reduceAdd, Nat.reduceLeDiff, Nat.reduceLT, Int.reduceLE, Int.reduceLT, Int.reduceToNat, Int.reducePow, Nat.reducePow, Int.reduceNeg, Int.reduceMul, Int.reduceAdd, Int.reduceSub, Nat.reduceMul, Nat.reduceSub, Int.reduceMod, Int.reduceDiv, Nat.zero_add, true_and, and_true, if_true, if_false, reduceCtorEq, false_implies, forall_const, true_implies, implies_true, decide_eq_true_eq, decide_eq_false_iff_not, beq_iff_eq, beq_eq_false_iff_ne, ne_eq, Bool.not_eq_true, List.append_eq, List.cons_append, List.nil_append, w_chn, w_ixv, lsO_o, lsO_d, w_focat, m_ocat, m_eqnL, m_eqnT, w_disp0, m_ovd, q_frz, frzO_o, frzO_d, m_revL, m_revT, m_addXi, m_addXb, m_subXi, m_subXb, m_mulXi, m_mulXb, m_negXi, m_negXb, m_strXb, m_addS, m_cutS, List.map_nil, List.isEmpty_nil, List.isEmpty_cons]
                      refine ⟨lisfrom_ok (hb2 x hx) ?_, fun _ => rfl⟩
                      rw [m_rv1, m_bool, op_some]
                      exact ⟨rfl, rfl⟩
                    · rw [List.map_id, filter_nil]
                      exact fin
                | _ => simp only [w_var, lvD_dat, List.getElem?_cons_zero, List.getElem?_cons_succ, w_c, w_op, w_un, w_test, w_gand, w_gor, w_gnot, w_gyes, w_and, w_or, w_not, w_if, w_nil, w_cons, w_tup, w_lst, w_folst, w_folist, w_cb, w_fd, w_call, w_ocall, ovO_own, w_get, w_args, w_items, w_part, intO_int, w_nopart, w_cut, w_folc, q_seq, q_nx, q_bk, q_ct, q_set, q_setO, q_tg, q_ret, q_retO, q_retN, q_drop, q_if, q_par, q_par3, q_put, q_app, q_for, twoO_two, triO_tri, w_rD, w_rO, lvR_d, lvR_o, q_parR, q_setAt, w_lenv, lenO_o, lenO_l, lenO_t, w_gown, ownL_at, lstO_l, m_oListL, m_oListT, q_appPop, w_intbl, w_attbl, w_callv, fnD_fn, w_tuprg, q_star, q_aug, strD_str, starO_c, rgO_int, m_mulS, m_int1i, m_int1b, m_gseqT, m_gseqL, seqP_nx, seqP_rt, seqP_bk, seqP_ct, seqP_xc, midP_nx, midP_rt, midP_bk, midP_ct, midP_xc, fnP_nx, fnP_rt, fnP_xc, rdP_nx, rdP_ct, rdP_bk, rdP_rt, rdP_xc, op_some, op_none, op_ite, op_map, op_bind, ok_ret, ok_some, m_lt, m_le, m_gt, m_ge, m_add, m_addT, m_addL, m_sub, m_mulI, m_mod, m_fdivS, m_powS, m_neg, m_bool, m_abs, m_min2, m_max2, m_lenL, m_lenT, m_lenI, m_tupL, m_tupT, m_lstL, m_lstT, m_rv1, m_rv2, m_ov, m_key, m_kds, m_so, m_rng1, m_gset, m_gtup, m_gsc, m_gsn, m_zipL, m_zipT, m_itL, m_itT, m_cutT, m_cutL, eq_I, ne_I, no_nil, no_cons, no_un, no_dat, wi_nil, wi_cons, Bool.and_true, Bool.true_and, Bool.and_self, and_self, List.set_cons_zero, List.set_cons_succ, List.length_cons, List.length_nil, m_line, Nat.reduceAdd, Nat.reduceLeDiff, Nat.reduceLT, Int.reduceLE, Int.reduceLT, Int.reduceToNat, Int.reducePow, Nat.reducePow, Int.reduceNeg, Int.reduceMul, Int.reduceAdd, Int.reduceSub, Nat.reduceMul, Nat.reduceSub, Int.reduceMod, Int.reduceDiv, Nat.zero_add, true_and, and_true, if_true, if_false, reduceCtorEq, false_implies, forall_const, true_implies, implies_true, decide_eq_true_eq, decide_eq_false_iff_not, beq_iff_eq, beq_eq_false_iff_ne, ne_eq, Bool.not_eq_true, List.append_eq, List.cons_append, List.nil_append, w_chn, w_ixv, lsO_o, lsO_d, w_focat, m_ocat, m_eqnL, m_eqnT, w_disp0, m_ovd, q_frz, frzO_o, frzO_d, m_revL, m_revT, m_addXi, m_addXb, m_subXi, m_subXb, m_mulXi, m_mulXb, m_negXi, m_negXb, m_strXb, m_addS, m_cutS, List.map_nil, List.isEmpty_nil, List.isEmpty_cons, kTup, Bool.not_false]; exact fin
          | _ => simp only [w_var, lvD_dat, List.getElem?_cons_zero, List.getElem?_cons_succ, w_c, w_op, w_un, w_test, w_gand, w_gor, w_gnot, w_gyes, w_and, w_or, w_not, w_if, w_nil, w_cons, w_tup, w_lst, w_folst, w_folist, w_cb, w_fd, w_call, w_ocall, ovO_own, w_get, w_args, w_items, w_part, intO_int, w_nopart, w_cut, w_folc, q_seq, q_nx, q_bk, q_ct, q_set, q_setO, q_tg, q_ret, q_retO, q_retN, q_drop, q_if, q_par, q_par3, q_put, q_app, q_for, twoO_two, triO_tri, w_rD, w_rO, lvR_d, lvR_o, q_parR, q_setAt, w_lenv, lenO_o, lenO_l, lenO_t, w_gown, ownL_at, lstO_l, m_oListL, m_oListT, q_appPop, w_intbl, w_attbl, w_callv, fnD_fn, w_tuprg, q_star, q_aug, strD_str, starO_c, rgO_int, m_mulS, m_int1i, m_int1b, m_gseqT, m_gseqL, seqP_nx, seqP_rt, seqP_bk, seqP_ct, seqP_xc, midP_nx, midP_rt, midP_bk, midP_ct, midP_xc, fnP_nx, fnP_rt, fnP_xc, rdP_nx, rdP_ct, rdP_bk, rdP_rt, rdP_xc, op_some, op_none, op_ite, op_map, op_bind, ok_ret, ok_some, m_lt, m_le, m_gt, m_ge, m_add, m_addT, m_addL, m_sub, m_mulI, m_mod, m_fdivS, m_powS, m_neg, m_bool, m_abs, m_min2, m_max2, m_lenL, m_lenT, m_lenI, m_tupL, m_tupT, m_lstL, m_lstT, m_rv1, m_rv2, m_ov, m_key, m_kds, m_so, m_rng1, m_gset, m_gtup, m_gsc, m_gsn, m_zipL, m_zipT, m_itL, m_itT, m_cutT, m_cutL, eq_I, ne_I, no_nil, no_cons, no_un, no_dat, wi_nil, wi_cons, Bool.and_true, Bool.true_and, Bool.and_self, and_self, List.set_cons_zero, List.set_cons_succ, List.length_cons, List.length_nil, m_line, Nat.reduceAdd, Nat.reduceLeDiff, Nat.reduceLT, Int.reduceLE, Int.reduceLT, Int.reduceToNat, Int.reducePow, Nat.reducePow, Int.reduceNeg, Int.reduceMul, Int.reduceAdd, Int.reduceSub, Nat.reduceMul, Nat.reduceSub, Int.reduceMod, Int.reduceDiv, Nat.zero_add, true_and, and_true, if_true, if_false, reduceCtorEq, false_implies, forall_const, true_implies, implies_true, decide_eq_true_eq, decide_eq_false_iff_not, beq_iff_eq, beq_eq_false_iff_ne, ne_eq, Bool.not_eq_true, List.append_eq, List.cons_append, List.nil_append, w_chn, w_ixv, lsO_o, lsO_d, w_focat, m_ocat, m_eqnL, m_eqnT, w_disp0, m_ovd, q_frz, frzO_o, frzO_d, m_revL, m_revT, m_addXi, m_addXb, m_subXi, m_subXb, m_mulXi, m_mulXb, m_negXi, m_negXb, m_strXb, m_addS, m_cutS, List.map_nil, List.isEmpty_nil, List.isEmpty_cons, kStr, Bool.not_false]; exact fin
      | _ => simp only [w_var, lvD_dat, List.getElem?_cons_zero, List.getElem?_cons_succ, w_c, w_op, w_un, w_test, w_gand, w_gor, w_gnot, w_gyes, w_and, w_or, w_not, w_if, w_nil, w_cons, w_tup, w_lst, w_folst, w_folist, w_cb, w_fd, w_call, w_ocall, ovO_own, w_get, w_args, w_items, w_part, intO_int, w_nopart, w_cut, w_folc, q_seq, q_nx, q_bk, q_ct, q_set, q_setO, q_tg, q_ret, q_retO, q_retN, q_drop, q_if, q_par, q_par3, q_put, q_app, q_for, twoO_two, triO_tri, w_rD, w_rO, lvR_d, lvR_o, q_parR, q_setAt, w_lenv, lenO_o, lenO_l, lenO_t, w_gown, ownL_at, lstO_l, m_oListL, m_oListT, q_appPop, w_intbl, w_attbl, w_callv, fnD_fn, w_tuprg, q_star, q_aug, strD_str, starO_c, rgO_int, m_mulS, m_int1i, m_int1b, m_gseqT, m_gseqL, seqP_nx, seqP_rt, seqP_bk, seqP_ct, seqP_xc, midP_nx, midP_rt, midP_bk, midP_ct, midP_xc, fnP_nx, fnP_rt, fnP_xc, rdP_nx, rdP_ct, rdP_bk, rdP_rt, rdP_xc, op_some, op_none, op_ite, op_map, op_bind, ok_ret, ok_some, m_lt, m_le, m_gt, m_ge, m_add, m_addT, m_addL, m_sub, m_mulI, m_mod, m_fdivS, m_powS, m_neg, m_bool, m_abs, m_min2, m_max2, m_lenL, m_lenT, m_lenI, m_tupL, m_tupT, m_lstL, m_lstT, m_rv1, m_rv2, m_ov, m_key, m_kds, m_so, m_rng1, m_gset, m_gtup, m_gsc, m_gsn, m_zipL, m_zipT, m_itL, m_itT, m_cutT, m_cutL, eq_I, ne_I, no_nil, no_cons, no_un, no_dat, wi_nil, wi_cons, Bool.and_true, Bool.true_and, Bool.and_self, and_self, List.set_cons_zero, List.set_cons_succ, List.length_cons, List.length_nil, m_line, Nat.reduceAdd, Nat.reduceLeDiff, Nat.reduceLT, Int.reduceLE, Int.reduceLT, Int.reduceToNat, Int.reducePow, Nat.reducePow, Int.reduceNeg, Int.reduceMul, Int.reduceAdd, Int.reduceSub, Nat.reduceMul, Nat.reduceSub, Int.reduceMod, Int.reduceDiv, Nat.zero_add, true_and, and_true, if_true, if_false, reduceCtorEq, false_implies, forall_const, true_implies, implies_true, decide_eq_true_eq, decide_eq_false_iff_not, beq_iff_eq, beq_eq_false_iff_ne, ne_eq, Bool.not_eq_true, List.append_eq, List.cons_append, List.nil_append, w_chn, w_ixv, lsO_o, lsO_d, w_focat, m_ocat, m_eqnL, m_eqnT, w_disp0, m_ovd, q_frz, frzO_o, frzO_d, m_revL, m_revT, m_addXi, m_addXb, m_subXi, m_subXb, m_mulXi, m_mulXb, m_negXi, m_negXb, m_strXb, m_addS, m_cutS, List.map_nil, List.isEmpty_nil, List.isEmpty_cons, kTup, Bool.not_false]; exact fin
theorem isscale_ok {k n : Nat} {d : D} {many : Int} {g : Gs} {P : RV → Gs → Prop} {E : Exn → Gs → Prop} (h : Bk k n d) (hk : k ≤ 80) (fin : P (.dat (.bl (okS many 4 d))) g) : Ok (g_isscale [d, .int many] g) P E := by
  unfold g_isscale
  rw [w_fn]
  show SOk (sRet _ [.dat d, .dat (.int many)] _) _
  simp only [w_var, lvD_dat, List.getElem?_cons_zero, List.getElem?_cons_succ, w_c, w_op, w_un, w_test, w_gand, w_gor, w_gnot, w_gyes, w_and, w_or, w_not, w_if, w_nil, w_cons, w_tup, w_lst, w_folst, w_folist, w_cb, w_fd, w_call, w_ocall, ovO_own, w_get, w_args, w_items, w_part, intO_int, w_nopart, w_cut, w_folc, q_seq, q_nx, q_bk, q_ct, q_set, q_setO, q_tg, q_ret, q_retO, q_retN, q_drop, q_if, q_par, q_par3, q_put, q_app, q_for, twoO_two, triO_tri, w_rD, w_rO, lvR_d, lvR_o, q_parR, q_setAt, w_lenv, lenO_o, lenO_l, lenO_t, w_gown, ownL_at, lstO_l, m_oListL, m_oListT, q_appPop, w_intbl, w_attbl, w_callv, fnD_fn, w_tuprg, q_star, q_aug, strD_str, starO_c, rgO_int, m_mulS, m_int1i, m_int1b, m_gseqT, m_gseqL, seqP_nx, seqP_rt, seqP_bk, seqP_ct, seqP_xc, midP_nx, midP_rt, midP_bk, midP_ct, midP_xc, fnP_nx, fnP_rt, fnP_xc, rdP_nx, rdP_ct, rdP_bk, rdP_rt, rdP_xc, op_some, op_none, op_ite, op_map, op_bind, ok_ret, ok_some, m_lt, m_le, m_gt, m_ge, m_add, m_addT, m_addL, m_sub, m_mulI, m_mod, m_fdivS, m_powS, m_neg, m_bool, m_abs, m_min2, m_max2, m_lenL, m_lenT, m_lenI, m_tupL, m_tupT, m_lstL, m_lstT, m_rv1, m_rv2, m_ov, m_key, m_kds, m_so, m_rng1, m_gset, m_gtup, m_gsc, m_gsn, m_zipL, m_zipT, m_itL, m_itT, m_cutT, m_cutL, eq_I, ne_I, no_nil, no_cons, no_un, no_dat, wi_nil, wi_cons, Bool.and_true, Bool.true_and, Bool.and_self, and_self, List.set_cons_zero, List.set_cons_succ, List.length_cons, List.length_nil, m_line, Nat.reduceAdd, Nat.reduceLeDiff, Nat.reduceLT, Int.reduceLE, Int.reduceLT, Int.reduceToNat, Int.reducePow, Nat.reducePow, Int.reduceNeg, Int.reduceMul, Int.reduceAdd, Int.reduceSub, Nat.reduceMul, Nat.reduceSub, Int.reduceMod, Int.reduceDiv, Nat.zero_add, true_and, and_true, if_true, if_false, reduceCtorEq, false_implies, forall_const, true_implies, implies_true, decide_eq_true_eq, decide_eq_false_iff_not, beq_iff_eq, beq_eq_false_iff_ne, ne_eq, Bool.not_eq_true, List.append_eq, List.cons_append, List.nil_append, w_chn, w_ixv, lsO_o, lsO_d, w_focat, m_ocat, m_eqnL, m_eqnT, w_disp0, m_ovd, q_frz, frzO_o, frzO_d, m_revL, m_revT, m_addXi, m_addXb, m_subXi, m_subXb, m_mulXi, m_mulXb, m_negXi, m_negXb, m_strXb, m_addS, m_cutS, List.map_nil, List.isEmpty_nil, List.isEmpty_cons]
  exact isc_ok hk 10 4 h (by decide) fin
/-! scales that are drawn, as small data -/
theorem Bk.ints {k n : Nat} {a : List Int} (hl : a.length ≤ 1000) (h : ∀ i ∈ a, i.natAbs ≤ 10000000000) : Bk k (n + 1) (.tup (a.map .int)) := .tup (by rw [List.length_map]; omega) fun d hd => by
  obtain ⟨j, hj, rfl⟩ := List.mem_map.mp hd
  exact bkInt (Nat.lt_of_le_of_lt (h j hj) (by decide +kernel))
def scW : Nat → Nat
  | 0 => 1800
  | d + 1 => 2 * scW d + 200
theorem scW_mono {a b : Nat} (h : a ≤ b) : scW a ≤ scW b := by
  induction b with
  | zero => rw [Nat.le_zero.mp h]; exact Nat.le_refl _
  | succ b ih =>
    rcases Nat.lt_or_ge a (b + 1) with h2 | h2
    · have := ih (by omega)
      show _ ≤ 2 * scW b + 200
      omega
    · rw [show a = b + 1 by omega]; exact Nat.le_refl _
theorem wts_ints : ∀ a : List Int, wts (a.map .int) = 202 * a.length
  | [] => rfl
  | x :: a => by
    rw [List.map_cons, wts, wts_ints a, wt_int, List.length_cons]; omega
theorem wt_three {w : String} {a b : D} : wt (.tup [.str (Str.ofString w), a, b]) = 10 * (Str.ofString w).length + wt a + wt b + 11 := by
  rw [wt_tup, wts, wts, wts, wts, wt_str]; omega
theorem bk_three {k n m : Nat} {w : String} {a b : D} (hw : (Str.ofString w).length ≤ 200) (h2 : ((Str.ofString w).cps.toList.all fun c => decide (c < 16 ^ 8)) = true) (ha : Bk k n a) (hb : Bk k m b) : Bk k (max n m + 1) (.tup [.str (Str.ofString w), a, b]) := by
  refine .tup (by simp only [List.length_cons, List.length_nil]; omega) ?_
  refine List.forall_mem_cons.mpr ⟨bkStr hw h2, List.forall_mem_cons.mpr ⟨ha.mono (Nat.le_refl _) (Nat.le_max_left _ _), List.forall_mem_cons.mpr ⟨hb.mono (Nat.le_refl _) (Nat.le_max_right _ _), List.forall_mem_nil _⟩⟩⟩
theorem Sc.bk {c : Nat} (hc : c ≤ 8) : ∀ s : Sc, s.Okn c → Bk 0 (s.dep + 1) s.d ∧ wt s.d ≤ scW s.dep
  | .sum ws, ⟨h1, h2⟩ => by
    have hi : Bk 0 1 (.tup (ws.map .int)) := Bk.ints (by omega) fun i hi => by have := h2 i hi; omega
    refine ⟨?_, ?_⟩
    · show Bk 0 2 (.tup [.str (Str.ofString "sum"), .tup (ws.map .int)])
      exact .tup (by simp only [List.length_cons, List.length_nil]; omega) (List.forall_mem_cons.mpr ⟨bkStr (by decide +kernel) (by decide +kernel), List.forall_mem_cons.mpr ⟨hi, List.forall_mem_nil _⟩⟩)
    · show wt (.tup [.str (Str.ofString "sum"), .tup (ws.map .int)]) ≤ 2 * 1800 + 200
      rw [wt_tup, wts, wts, wts, wt_str, wt_tup, wts_ints, show (Str.ofString "sum").length = 3 by decide +kernel]
      omega
  | .times, _ => ⟨by show Bk 0 2 (.tup [.str (Str.ofString "times")]); (repeat' first | exact Bk.non | exact Bk.bl | exact bkInt (by decide +kernel) | exact bkStr (by decide +kernel) (by decide +kernel) | exact Bk.dic | refine Bk.tup (by simp only [List.length_cons, List.length_nil]; omega) ?_ | refine Bk.lst (by simp only [List.length_cons, List.length_nil]; omega) ?_ | exact List.forall_mem_nil _ | refine List.forall_mem_cons.mpr ⟨?_, ?_⟩), by show wt (.tup [.str (Str.ofString "times")]) ≤ _; decide +kernel⟩
  | .low, _ => ⟨by show Bk 0 2 (.tup [.str (Str.ofString "low")]); (repeat' first | exact Bk.non | exact Bk.bl | exact bkInt (by decide +kernel) | exact bkStr (by decide +kernel) (by decide +kernel) | exact Bk.dic | refine Bk.tup (by simp only [List.length_cons, List.length_nil]; omega) ?_ | refine Bk.lst (by simp only [List.length_cons, List.length_nil]; omega) ?_ | exact List.forall_mem_nil _ | refine List.forall_mem_cons.mpr ⟨?_, ?_⟩), by show wt (.tup [.str (Str.ofString "low")]) ≤ _; decide +kernel⟩
  | .high, _ => ⟨by show Bk 0 2 (.tup [.str (Str.ofString "high")]); (repeat' first | exact Bk.non | exact Bk.bl | exact bkInt (by decide +kernel) | exact bkStr (by decide +kernel) (by decide +kernel) | exact Bk.dic | refine Bk.tup (by simp only [List.length_cons, List.length_nil]; omega) ?_ | refine Bk.lst (by simp only [List.length_cons, List.length_nil]; omega) ?_ | exact List.forall_mem_nil _ | refine List.forall_mem_cons.mpr ⟨?_, ?_⟩), by show wt (.tup [.str (Str.ofString "high")]) ≤ _; decide +kernel⟩
  | .add a b, ⟨h1, h2⟩ => by
    obtain ⟨a1, a2⟩ := Sc.bk hc a h1
    obtain ⟨b1, b2⟩ := Sc.bk hc b h2
    have m1 := scW_mono (Nat.le_max_left a.dep b.dep)
    have m2 := scW_mono (Nat.le_max_right a.dep b.dep)
    refine ⟨?_, ?_⟩
    · have := bk_three (w := "add") (by decide +kernel) (by decide +kernel) a1 b1
      exact this.mono (Nat.le_refl _) (by show _ ≤ max a.dep b.dep + 1 + 1; omega)
    · show wt (.tup [.str (Str.ofString "add"), a.d, b.d]) ≤ 2 * scW (max a.dep b.dep) + 200
      rw [wt_three, show (Str.ofString "add").length = 3 by decide +kernel]; omega
  | .lesser a b, ⟨h1, h2⟩ => by
    obtain ⟨a1, a2⟩ := Sc.bk hc a h1
    obtain ⟨b1, b2⟩ := Sc.bk hc b h2
    have m1 := scW_mono (Nat.le_max_left a.dep b.dep)
    have m2 := scW_mono (Nat.le_max_right a.dep b.dep)
    refine ⟨?_, ?_⟩
    · have := bk_three (w := "lesser") (by decide +kernel) (by decide +kernel) a1 b1
      exact this.mono (Nat.le_refl _) (by show _ ≤ max a.dep b.dep + 1 + 1; omega)
    · show wt (.tup [.str (Str.ofString "lesser"), a.d, b.d]) ≤ 2 * scW (max a.dep b.dep) + 200
      rw [wt_three, show (Str.ofString "lesser").length = 6 by decide +kernel]; omega
  | .greater a b, ⟨h1, h2⟩ => by
    obtain ⟨a1, a2⟩ := Sc.bk hc a h1
    obtain ⟨b1, b2⟩ := Sc.bk hc b h2
    have m1 := scW_mono (Nat.le_max_left a.dep b.dep)
    have m2 := scW_mono (Nat.le_max_right a.dep b.dep)
    refine ⟨?_, ?_⟩
    · have := bk_three (w := "greater") (by decide +kernel) (by decide +kernel) a1 b1
      exact this.mono (Nat.le_refl _) (by show _ ≤ max a.dep b.dep + 1 + 1; omega)
    · show wt (.tup [.str (Str.ofString "greater"), a.d, b.d]) ≤ 2 * scW (max a.dep b.dep) + 200
      rw [wt_three, show (Str.ofString "greater").length = 7 by decide +kernel]; omega
end G6

namespace K06
open PySem PySem.Spec L2 G6

def f_is_whole : Fn := fnF 1 (
    sRet (fAnd (fCB dIsi (lCons (fVar 0) (lCons (fC (.ty "int")) (lNil)))) (fNot (fCB dIsi (lCons (fVar 0) (lCons (fC (.ty "bool")) (lNil)))))))
def f_law_pen : Fn := fnF 1 (
    sRet (fDispS [(fC (.str "cells"), fCB dList (lCons (fCut (fVar 0) (fNoPart) (fPart (fC (.int 63)))) (lNil))), (fC (.str "turn"), fC (.int 0)), (fC (.str "rest"), fC (.int 0))]))
def f_law_draw : Fn := fnF 8 (
    sSeq (sIf (fTest (fOp dGt (fGet (fVar 0) (fC (.str "rest"))) (fC (.int 0)))) (sSeq (sSet 2 (fOp dMod (fGet (fVar 0) (fC (.str "rest"))) (fVar 1)))
      (sSeq (sPut (fVar 0) (fC (.str "rest")) (fOp dFdiv (fGet (fVar 0) (fC (.str "rest"))) (fVar 1)))
      (sRet (fVar 2)))) (sNx))
      (sSeq (sSet 3 (fGet (fVar 0) (fC (.str "turn"))))
      (sSeq (sPut (fVar 0) (fC (.str "turn")) (fOp dAdd (fVar 3) (fC (.int 1))))
      (sSeq (sSet 4 (fOp dAdd (fOp dMul (fC (.int 31)) (fVar 3)) (fC (.int 5))))
      (sSeq (sIf (fTest (fOp dNe (fGet (fVar 0) (fC (.str "cells"))) (fLst (lNil)))) (sSet 4 (fOp dIx (fGet (fVar 0) (fC (.str "cells"))) (fOp dMod (fVar 3) (fCB dLen (lCons (fGet (fVar 0) (fC (.str "cells"))) (lNil)))))) (sNx))
      (sSeq (sIf (gAnd (fTest (fOp dLt (fVar 3) (fCB dLen (lCons (fGet (fVar 0) (fC (.str "cells"))) (lNil))))) (fTest (fOp dGe (fCB dAbs (lCons (fVar 4) (lNil))) (fOp dPow (fC (.int 10)) (fC (.int 18)))))) (sSeq (sPut (fVar 0) (fC (.str "rest")) (fOp dFdiv (fOp dSub (fCB dAbs (lCons (fVar 4) (lNil))) (fOp dPow (fC (.int 10)) (fC (.int 18)))) (fVar 1)))
      (sRet (fOp dMod (fOp dSub (fCB dAbs (lCons (fVar 4) (lNil))) (fOp dPow (fC (.int 10)) (fC (.int 18)))) (fVar 1)))) (sNx))
      (sSeq (sSet 5 (fLst (lCons (fC (.int 2147483647)) (lCons (fC (.int 2147483629)) (lCons (fC (.int 2147483587)) (lCons (fC (.int 2147483579)) (lCons (fC (.int 2147483563)) (lNil))))))))
      (sSeq (sSet 6 (fOp dIx (fVar 5) (fOp dMod (fVar 3) (fC (.int 5)))))
      (sSeq (sSet 7 (fOp dMod (fOp dAdd (fOp dAdd (fOp dMul (fOp dMod (fVar 4) (fVar 6)) (fC (.int 69621))) (fOp dMul (fOp dMul (fC (.int 40692)) (fVar 3)) (fVar 3))) (fC (.int 11))) (fVar 6)))
      (sSeq (sSet 7 (fOp dMod (fOp dMul (fVar 7) (fOp dAdd (fVar 7) (fC (.int 48271)))) (fOp dIx (fVar 5) (fOp dMod (fOp dAdd (fVar 3) (fC (.int 3))) (fC (.int 5))))))
      (sRet (fOp dMod (fOp dFdiv (fOp dMod (fOp dMul (fVar 7) (fVar 7)) (fC (.int 2147483549))) (fC (.int 64))) (fVar 1)))))))))))))
def f_law_is_from : Fn := fnF 3 (
    sRet (fAnd (fCB dIsi (lCons (fVar 0) (lCons (fC (.ty "int")) (lNil)))) (fAnd (fNot (fCB dIsi (lCons (fVar 0) (lCons (fC (.ty "bool")) (lNil))))) (fChain dLe dLe (fVar 1) (fVar 0) (fVar 2)))))
def f_is_from : Fn := fnF 3 (
    sRet (fAnd (fCall f_is_whole (lCons (fVar 0) (lNil))) (fChain dLe dLe (fVar 1) (fVar 0) (fVar 2))))
def f_law_pick : Fn := fnF 2 (
    sRet (fOp dIx (fVar 1) (fCall f_law_draw (lCons (fVar 0) (lCons (fCB dLen (lCons (fVar 1) (lNil))) (lNil))))))
def f_are_weights : Fn := fnF 3 (
    sSeq (sIf (gOr (gNot (fTest (fCB dIsi (lCons (fVar 0) (lCons (fC (.ty "tuple")) (lNil)))))) (fTest (fOp dNe (fCB dLen (lCons (fVar 0) (lNil))) (fVar 1)))) (sRet (fC (.bl false))) (sNx))
      (sRet (fCB dAll (lCons (fD (foLc (iItemsA (fVar 0)) [2] (gSet 2) (gYes) (fCall f_is_from (lCons (fVar 2) (lCons (fC (.int 0)) (lCons (fC (.int 1000)) (lNil))))))) (lNil)))))
def f_law_odd : Fn := fnF 2 (
    sSeq (sSetO 1 (foLst (lCons (fC .non) (lCons (fC (.bl true)) (lCons (fC (.bl false)) (lCons (fC (.int 0)) (lCons (fC (.int 1)) (lCons (fUn dNeg (fC (.int 1))) (lCons (fOp dPow (fC (.int 10)) (fC (.int 9))) (lCons (fOp dAdd (fOp dPow (fC (.int 10)) (fC (.int 9))) (fC (.int 1))) (lCons (fOp dMul (fC (.int 4)) (fOp dPow (fC (.int 10)) (fC (.int 9)))) (lCons (fOp dAdd (fOp dMul (fC (.int 4)) (fOp dPow (fC (.int 10)) (fC (.int 9)))) (fC (.int 1))) (lCons (fC (.str "")) (lCons (fC (.str "a")) (lCons (fC (.str "A")) (lNil))))))))))))))))
      (sSeq (sFrz 1 (sSetO 1 (foCat (fVar 1) (fLst (lCons (fOp dAdd (fOp dMul (fOp dPow (fC (.int 10)) (fC (.int 60))) (fOp dPow (fC (.int 10)) (fC (.int 15)))) (fC (.int 1))) (lCons (fC (.str "abcdefgh")) (lCons (fC (.str "abcdefghi")) (lCons (fC (.str "a1")) (lCons (fC (.str "1")) (lCons (fTup (lNil)) (lCons (fTup (lCons (fC (.int 0)) (lNil))) (lCons (fTup (lCons (fC (.int 0)) (lCons (fC (.int 0)) (lNil)))) (lCons (fTup (lCons (fC (.bl true)) (lNil))) (lCons (fTup (lCons (fC (.int 0)) (lCons (fC .non) (lNil)))) (lNil)))))))))))))))
      (sSeq (sFrz 1 (sSetO 1 (foCat (fVar 1) (fLst (lCons (fTup (lCons (fC (.str "low")) (lNil))) (lCons (fTup (lCons (fC (.str "sum")) (lNil))) (lCons (fLst (lNil)) (lCons (fD foDisp0) (lCons (fLst (lCons (fC (.int 0)) (lNil))) (lCons (fTup (lCons (fC (.str "sum")) (lCons (fTup (lNil)) (lNil)))) (lCons (fTup (lCons (fC (.str "all")) (lNil))) (lCons (fTup (lCons (fC (.str "any")) (lNil))) (lCons (fTup (lCons (fC (.str "size")) (lCons (fC (.int 0)) (lNil)))) (lCons (fTup (lCons (fC (.str "size")) (lCons (fC (.int 0)) (lCons (fC (.int 0)) (lNil))))) (lCons (fC (.str "low")) (lNil))))))))))))))))
      (sSeq (sApp 1 (fTup (lCons (fC (.str "worth")) (lCons (fTup (lCons (fC (.str "low")) (lNil))) (lCons (fC (.int 0)) (lNil))))))
      (sFrz 1 (sRet (fCall f_law_pick (lCons (fVar 0) (lCons (fVar 1) (lNil))))))))))
def b_law_is_scale (ff : Fn) : S :=
    sSeq (sIf (gOr (fTest (fOp dEq (fVar 2) (fC (.int 0)))) (gOr (gNot (fTest (fCB dIsi (lCons (fVar 0) (lCons (fC (.ty "tuple")) (lNil)))))) (gOr (fTest (fOp dEqN (fVar 0) (fTup (lNil)))) (gNot (fTest (fCB dIsi (lCons (fOp dIx (fVar 0) (fC (.int 0))) (lCons (fC (.ty "str")) (lNil))))))))) (sRet (fC (.bl false))) (sNx))
      (sSeq (sIf (fTest (fOp dIn (fOp dIx (fVar 0) (fC (.int 0))) (fTup (lCons (fC (.str "times")) (lCons (fC (.str "low")) (lCons (fC (.str "high")) (lNil))))))) (sRet (fOp dEq (fCB dLen (lCons (fVar 0) (lNil))) (fC (.int 1)))) (sNx))
      (sSeq (sIf (fTest (fOp dIn (fOp dIx (fVar 0) (fC (.int 0))) (fTup (lCons (fC (.str "add")) (lCons (fC (.str "lesser")) (lCons (fC (.str "greater")) (lNil))))))) (sSeq (sSet 3 (fD (foLc (iItemsA (fCut (fVar 0) (fPart (fC (.int 1))) (fNoPart))) [4] (gSet 4) (gNot (fTest (fCall ff (lCons (fVar 4) (lCons (fVar 1) (lCons (fOp dSub (fVar 2) (fC (.int 1))) (lNil))))))) (fVar 4))))
      (sRet (fAnd (fOp dEq (fCB dLen (lCons (fVar 0) (lNil))) (fC (.int 3))) (fOp dEqN (fVar 3) (fLst (lNil)))))) (sNx))
      (sSeq (sIf (gOr (fTest (fOp dNe (fOp dIx (fVar 0) (fC (.int 0))) (fC (.str "sum")))) (gOr (fTest (fOp dNe (fCB dLen (lCons (fVar 0) (lNil))) (fC (.int 2)))) (gOr (gNot (fTest (fCB dIsi (lCons (fOp dIx (fVar 0) (fC (.int 1))) (lCons (fC (.ty "tuple")) (lNil)))))) (fTest (fOp dNe (fCB dLen (lCons (fOp dIx (fVar 0) (fC (.int 1))) (lNil))) (fVar 1)))))) (sRet (fC (.bl false))) (sNx))
      (sRet (fOp dEqN (fD (foLc (iItemsA (fOp dIx (fVar 0) (fC (.int 1)))) [4] (gSet 4) (gNot (fTest (fCall f_law_is_from (lCons (fVar 4) (lCons (fC (.int 0)) (lCons (fC (.int 1000)) (lNil))))))) (fVar 4))) (fLst (lNil)))))))
def f_law_is_scale : Nat → Fn
  | 0 => fun _ _ => none
  | kk + 1 => fnF 5 (b_law_is_scale (f_law_is_scale kk))
def b_law_scale (ff : Fn) : S :=
    sSeq (sSet 3 (fCall f_law_draw (lCons (fVar 0) (lCons (fOp dIx (fLst (lCons (fC (.int 5)) (lCons (fC (.int 8)) (lNil)))) (fCB dInt1 (lCons (fOp dGt (fVar 2) (fC (.int 1))) (lNil)))) (lNil)))))
      (sSeq (sIf (fTest (fOp dGt (fVar 3) (fC (.int 4)))) (sSeq (sSet 4 (fOp dIx (fLst (lCons (fC (.str "add")) (lCons (fC (.str "lesser")) (lCons (fC (.str "greater")) (lNil))))) (fOp dSub (fVar 3) (fC (.int 5)))))
      (sRet (fTup (lCons (fVar 4) (lCons (fCall ff (lCons (fVar 0) (lCons (fVar 1) (lCons (fOp dSub (fVar 2) (fC (.int 1))) (lNil))))) (lCons (fCall ff (lCons (fVar 0) (lCons (fVar 1) (lCons (fOp dSub (fVar 2) (fC (.int 1))) (lNil))))) (lNil))))))) (sNx))
      (sSeq (sIf (fTest (fOp dGt (fVar 3) (fC (.int 1)))) (sRet (fOp dIx (fLst (lCons (fTup (lCons (fC (.str "times")) (lNil))) (lCons (fTup (lCons (fC (.str "low")) (lNil))) (lCons (fTup (lCons (fC (.str "high")) (lNil))) (lNil))))) (fOp dSub (fVar 3) (fC (.int 2))))) (sNx))
      (sRet (fTup (lCons (fC (.str "sum")) (lCons (fCB dTuple (lCons (fD (foLc (iArgs dRange1 (lCons (fVar 1) (lNil))) [5] (gSet 5) (gYes) (fCall f_law_pick (lCons (fVar 0) (lCons (fLst (lCons (fC (.int 0)) (lCons (fC (.int 1)) (lCons (fC (.int 1)) (lCons (fC (.int 2)) (lCons (fC (.int 3)) (lCons (fC (.int 10)) (lCons (fC (.int 999)) (lCons (fC (.int 1000)) (lNil)))))))))) (lNil)))))) (lNil))) (lNil)))))))
def f_law_scale : Nat → Fn
  | 0 => fun _ _ => none
  | kk + 1 => fnF 6 (b_law_scale (f_law_scale kk))
def b_is_scale_of (ff : Fn) : S :=
    sSeq (sIf (gOr (fTest (fOp dLt (fVar 2) (fC (.int 1)))) (gOr (gNot (fTest (fCB dIsi (lCons (fVar 0) (lCons (fC (.ty "tuple")) (lNil)))))) (gOr (fTest (fOp dEqN (fVar 0) (fTup (lNil)))) (gNot (fTest (fCB dIsi (lCons (fOp dIx (fVar 0) (fC (.int 0))) (lCons (fC (.ty "str")) (lNil))))))))) (sRet (fC (.bl false))) (sNx))
      (sSeq (sStar 3 4 (fVar 0))
      (sSeq (sIf (fTest (fOp dEq (fVar 3) (fC (.str "sum")))) (sRet (fAnd (fOp dEq (fCB dLen (lCons (fVar 4) (lNil))) (fC (.int 1))) (fCall f_are_weights (lCons (fOp dIx (fVar 4) (fC (.int 0))) (lCons (fVar 1) (lNil)))))) (sNx))
      (sSeq (sIf (fTest (fOp dIn (fVar 3) (fC (.tup [D.str "add", D.str "lesser", D.str "greater"])))) (sRet (fAnd (fOp dEq (fCB dLen (lCons (fVar 4) (lNil))) (fC (.int 2))) (fCB dAll (lCons (fD (foLc (iItemsA (fVar 4)) [5] (gSet 5) (gYes) (fCall ff (lCons (fVar 5) (lCons (fVar 1) (lCons (fOp dSub (fVar 2) (fC (.int 1))) (lNil))))))) (lNil))))) (sNx))
      (sRet (fAnd (fOp dIn (fVar 3) (fC (.tup [D.str "times", D.str "low", D.str "high"]))) (fOp dEqN (fVar 4) (fLst (lNil))))))))
def f_is_scale_of : Nat → Fn
  | 0 => fun _ _ => none
  | kk + 1 => fnF 6 (b_is_scale_of (f_is_scale_of kk))
def f_is_scale : Fn := fnF 2 (
    sRet (fCall (f_is_scale_of 10) (lCons (fVar 0) (lCons (fVar 1) (lCons (fC (.int 4)) (lNil))))))
def b_law_bent (ff : Fn) : S :=
    sSeq (sIf (gAnd (fTest (fCB dIsi (lCons (fVar 1) (lCons (fTup (lCons (fC (.ty "tuple")) (lCons (fC (.ty "list")) (lNil)))) (lNil))))) (gAnd (fTest (fOp dGt (fCB dLen (lCons (fVar 1) (lNil))) (fC (.int 0)))) (fTest (fOp dGt (fCall f_law_draw (lCons (fVar 0) (lCons (fC (.int 6)) (lNil)))) (fC (.int 0)))))) (sSeq (sPar 2 3 (lCons (fCall f_law_draw (lCons (fVar 0) (lCons (fCB dLen (lCons (fVar 1) (lNil))) (lNil)))) (lCons (fCall f_law_draw (lCons (fVar 0) (lCons (fC (.int 8)) (lNil)))) (lNil))))
      (sSeq (sSet 4 (fIf (fTest (fOp dLt (fVar 3) (fC (.int 4)))) (fLst (lCons (fCall ff (lCons (fVar 0) (lCons (fOp dIx (fVar 1) (fVar 2)) (lNil)))) (lNil))) (fLst (lNil))))
      (sSeq (sIf (fTest (fCB dIsi (lCons (fVar 1) (lCons (fC (.ty "tuple")) (lNil))))) (sSet 4 (fCB dTuple (lCons (fVar 4) (lNil)))) (sNx))
      (sSeq (sIf (fTest (fOp dLt (fVar 3) (fC (.int 4)))) (sRet (fOp dAdd (fOp dAdd (fCut (fVar 1) (fNoPart) (fPart (fVar 2))) (fVar 4)) (fCut (fVar 1) (fPart (fOp dAdd (fVar 2) (fC (.int 1)))) (fNoPart)))) (sNx))
      (sSeq (sSet 5 (fLst (lCons (fOp dAdd (fCut (fVar 1) (fNoPart) (fPart (fVar 2))) (fCut (fVar 1) (fPart (fOp dAdd (fVar 2) (fC (.int 1)))) (fNoPart))) (lCons (fOp dAdd (fCut (fVar 1) (fNoPart) (fPart (fOp dAdd (fVar 2) (fC (.int 1))))) (fCut (fVar 1) (fPart (fVar 2)) (fNoPart))) (lCons (fUn dRev (fVar 1)) (lNil))))))
      (sRet (fOp dIx (fOp dAdd (fVar 5) (fLst (lCons (fIf (fTest (fCB dIsi (lCons (fVar 1) (lCons (fC (.ty "list")) (lNil))))) (fCB dTuple (lCons (fVar 1) (lNil))) (fCB dList (lCons (fVar 1) (lNil)))) (lNil)))) (fOp dSub (fVar 3) (fC (.int 4)))))))))) (sNx))
      (sSeq (sIf (gAnd (fTest (fCB dIsi (lCons (fVar 1) (lCons (fC (.ty "str")) (lNil))))) (fTest (fOp dGt (fCall f_law_draw (lCons (fVar 0) (lCons (fC (.int 5)) (lNil)))) (fC (.int 0))))) (sSeq (sPar 2 6 (lCons (fCall f_law_draw (lCons (fVar 0) (lCons (fOp dAdd (fCB dLen (lCons (fVar 1) (lNil))) (fC (.int 1))) (lNil)))) (lCons (fCall f_law_pick (lCons (fVar 0) (lCons (fC (.str "abcdefghijklmnopqrstuvwxyzA0 _")) (lNil)))) (lNil))))
      (sRet (fCall f_law_pick (lCons (fVar 0) (lCons (fLst (lCons (fOp dAdd (fOp dAdd (fCut (fVar 1) (fNoPart) (fPart (fVar 2))) (fVar 6)) (fCut (fVar 1) (fPart (fVar 2)) (fNoPart))) (lCons (fOp dAdd (fOp dAdd (fCut (fVar 1) (fNoPart) (fPart (fVar 2))) (fVar 6)) (fCut (fVar 1) (fPart (fOp dAdd (fVar 2) (fC (.int 1)))) (fNoPart))) (lCons (fCut (fVar 1) (fNoPart) (fPart (fVar 2))) (lNil))))) (lNil)))))) (sNx))
      (sSeq (sIf (gAnd (fTest (fCB dIsi (lCons (fVar 1) (lCons (fC (.ty "int")) (lNil))))) (fTest (fOp dGt (fCall f_law_draw (lCons (fVar 0) (lCons (fC (.int 5)) (lNil)))) (fC (.int 0))))) (sRet (fCall f_law_pick (lCons (fVar 0) (lCons (fLst (lCons (fOp dAddX (fVar 1) (fC (.int 1))) (lCons (fOp dSubX (fVar 1) (fC (.int 1))) (lCons (fUn dNegX (fVar 1)) (lCons (fCB dStrX (lCons (fVar 1) (lNil))) (lCons (fOp dEq (fVar 1) (fC (.int 1))) (lCons (fOp dMulX (fVar 1) (fC (.int 10))) (lCons (fOp dPow (fC (.int 10)) (fC (.int 9))) (lCons (fC (.int 1000)) (lCons (fC (.int 1001)) (lNil))))))))))) (lNil))))) (sNx))
      (sRet (fCall f_law_odd (lCons (fVar 0) (lNil))))))
def f_law_bent : Nat → Fn
  | 0 => fun _ _ => none
  | kk + 1 => fnF 7 (b_law_bent (f_law_bent kk))
def f_law : Fn := fnF 14 (
    sSeq (sSet 1 (fCall f_law_pen (lCons (fVar 0) (lNil))))
      (sSeq (sFor (iArgs dRange1 (lCons (fOp dAdd (fC (.int 4)) (fCB dMin2 (lCons (fC (.int 6)) (lCons (fCB dLen (lCons (fVar 0) (lNil))) (lNil))))) (lNil))) (gSet 2) (sSeq (sSet 3 (fOp dAdd (fC (.int 1)) (fCall f_law_draw (lCons (fVar 1) (lCons (fC (.int 8)) (lNil))))))
      (sSeq (sSet 4 (fCall (f_law_scale 10) (lCons (fVar 1) (lCons (fVar 3) (lCons (fOp dAdd (fC (.int 1)) (fCall f_law_draw (lCons (fVar 1) (lCons (fC (.int 4)) (lNil))))) (lNil))))))
      (sSeq (sSet 5 (fVar 4))
      (sSeq (sFor (iArgs dRange1 (lCons (fCall f_law_draw (lCons (fVar 1) (lCons (fC (.int 5)) (lNil)))) (lNil))) (gSet 6) (sSeq (sPar 7 8 (lCons (fCall f_law_pick (lCons (fVar 1) (lCons (fLst (lCons (fC (.str "add")) (lCons (fC (.str "lesser")) (lCons (fC (.str "greater")) (lNil))))) (lNil)))) (lCons (fCall (f_law_scale 10) (lCons (fVar 1) (lCons (fVar 3) (lCons (fC (.int 1)) (lNil))))) (lNil))))
      (sSet 5 (fOp dIx (fLst (lCons (fTup (lCons (fVar 7) (lCons (fVar 5) (lCons (fVar 8) (lNil))))) (lCons (fTup (lCons (fVar 7) (lCons (fVar 8) (lCons (fVar 5) (lNil))))) (lNil)))) (fCall f_law_draw (lCons (fVar 1) (lCons (fC (.int 2)) (lNil))))))))
      (sSeq (sSetO 9 (foLst (lCons (fVar 4) (lCons (fVar 5) (lCons (fTup (lCons (fC (.str "sum")) (lCons (fOp dMul (fTup (lCons (fC (.int 0)) (lNil))) (fVar 3)) (lNil)))) (lCons (fTup (lCons (fC (.str "sum")) (lCons (fOp dMul (fTup (lCons (fC (.int 1000)) (lNil))) (fVar 3)) (lNil)))) (lCons (fTup (lCons (fC (.str "sum")) (lCons (fOp dMul (fTup (lCons (fC (.int 1001)) (lNil))) (fVar 3)) (lNil)))) (lCons (fTup (lNil)) (lCons (fC (.str "low")) (lCons (fC .non) (lNil)))))))))))
      (sSeq (sFor (iArgs dRange1 (lCons (fC (.int 4)) (lNil))) (gSet 6) (sSeq (sApp 9 (fCall (f_law_bent 20) (lCons (fVar 1) (lCons (fOp dIx (fLst (lCons (fVar 4) (lCons (fVar 5) (lNil)))) (fOp dMod (fVar 6) (fC (.int 2)))) (lNil)))))
      (sApp 9 (fCall (f_law_bent 20) (lCons (fVar 1) (lCons (fIxV 9 (fUn dNeg (fC (.int 1)))) (lNil)))))))
      (sFrz 9 (sFor (iItemsA (fVar 9)) (gSet 10) (sFor (iItemsA (fTup (lCons (fVar 3) (lCons (fOp dAdd (fOp dMod (fVar 3) (fC (.int 8))) (fC (.int 1))) (lNil))))) (gSet 11) (sSeq (sPar 12 13 (lCons (fCB dRepr (lCons (fVar 10) (lNil))) (lCons (fCall (f_law_is_scale 10) (lCons (fVar 10) (lCons (fVar 11) (lCons (fC (.int 4)) (lNil))))) (lNil))))
      (sIf (gOr (fTest (fOp dNe (fCB dRepr (lCons (fCall f_is_scale (lCons (fVar 10) (lCons (fVar 11) (lNil)))) (lNil))) (fCB dRepr (lCons (fVar 13) (lNil))))) (fTest (fOp dNe (fCB dRepr (lCons (fVar 10) (lNil))) (fVar 12)))) (sRet (fC (.bl false))) (sNx)))))))))))))
      (sRet (fC (.bl true)))))
end K06

namespace K06
open PySem PySem.Spec L2 G6

abbrev prg : Program := PySem.Challenge.pw_gapgrades_k06_what_is_a_scale
abbrev top (i : Nat) : Stmt := prg.main.body.getD i (.Pass ⟨0, 0, 0, 0⟩)
structure Txt (K : PySem.W.Frag) (mg : Str → Option Value) (w : World) (T : Tab) where
  a_is_whole : Addr
  d_is_whole : FuncData
  F_is_whole : Fun K "is_whole" "is_whole" (top 1) a_is_whole d_is_whole
  b_is_whole : Binds K d_is_whole ["thing"] []
  m_is_whole : mg "is_whole" = some (.ref a_is_whole)
  a_law_pen : Addr
  d_law_pen : FuncData
  F_law_pen : Fun K "_law_pen" "_law_pen" (top 12) a_law_pen d_law_pen
  b_law_pen : Binds K d_law_pen ["_law_script"] []
  m_law_pen : mg "_law_pen" = some (.ref a_law_pen)
  a_law_draw : Addr
  d_law_draw : FuncData
  F_law_draw : Fun K "_law_draw" "_law_draw" (top 13) a_law_draw d_law_draw
  b_law_draw : Binds K d_law_draw ["_law_pen_here", "_law_many"] []
  m_law_draw : mg "_law_draw" = some (.ref a_law_draw)
  a_law_is_from : Addr
  d_law_is_from : FuncData
  F_law_is_from : Fun K "_law_is_from" "_law_is_from" (top 18) a_law_is_from d_law_is_from
  b_law_is_from : Binds K d_law_is_from ["_law_thing", "_law_low", "_law_high"] []
  m_law_is_from : mg "_law_is_from" = some (.ref a_law_is_from)
  a_is_from : Addr
  d_is_from : FuncData
  F_is_from : Fun K "is_from" "is_from" (top 2) a_is_from d_is_from
  b_is_from : Binds K d_is_from ["thing", "least", "most"] []
  m_is_from : mg "is_from" = some (.ref a_is_from)
  a_law_pick : Addr
  d_law_pick : FuncData
  F_law_pick : Fun K "_law_pick" "_law_pick" (top 14) a_law_pick d_law_pick
  b_law_pick : Binds K d_law_pick ["_law_pen_here", "_law_some"] []
  m_law_pick : mg "_law_pick" = some (.ref a_law_pick)
  a_are_weights : Addr
  d_are_weights : FuncData
  F_are_weights : Fun K "are_weights" "are_weights" (top 8) a_are_weights d_are_weights
  b_are_weights : Binds K d_are_weights ["thing", "many"] []
  m_are_weights : mg "are_weights" = some (.ref a_are_weights)
  a_law_odd : Addr
  d_law_odd : FuncData
  F_law_odd : Fun K "_law_odd" "_law_odd" (top 16) a_law_odd d_law_odd
  b_law_odd : Binds K d_law_odd ["_law_pen_here"] []
  m_law_odd : mg "_law_odd" = some (.ref a_law_odd)
  a_law_is_scale : Addr
  d_law_is_scale : FuncData
  F_law_is_scale : Fun K "_law_is_scale" "_law_is_scale" (top 19) a_law_is_scale d_law_is_scale
  b_law_is_scale : Binds K d_law_is_scale ["_law_thing", "_law_many", "_law_deep"] []
  m_law_is_scale : mg "_law_is_scale" = some (.ref a_law_is_scale)
  a_law_scale : Addr
  d_law_scale : FuncData
  F_law_scale : Fun K "_law_scale" "_law_scale" (top 15) a_law_scale d_law_scale
  b_law_scale : Binds K d_law_scale ["_law_pen_here", "_law_many", "_law_deep"] []
  m_law_scale : mg "_law_scale" = some (.ref a_law_scale)
  a_is_scale_of : Addr
  d_is_scale_of : FuncData
  F_is_scale_of : Fun K "is_scale_of" "is_scale_of" (top 9) a_is_scale_of d_is_scale_of
  b_is_scale_of : Binds K d_is_scale_of ["thing", "many", "deep"] []
  m_is_scale_of : mg "is_scale_of" = some (.ref a_is_scale_of)
  a_is_scale : Addr
  d_is_scale : FuncData
  F_is_scale : Fun K "is_scale" "is_scale" (top 10) a_is_scale d_is_scale
  b_is_scale : Binds K d_is_scale ["thing", "many"] []
  m_is_scale : mg "is_scale" = some (.ref a_is_scale)
  a_law_bent : Addr
  d_law_bent : FuncData
  F_law_bent : Fun K "_law_bent" "_law_bent" (top 17) a_law_bent d_law_bent
  b_law_bent : Binds K d_law_bent ["_law_pen_here", "_law_thing"] []
  m_law_bent : mg "_law_bent" = some (.ref a_law_bent)
  a_law : Addr
  d_law : FuncData
  F_law : Fun K "law" "law" (top 20) a_law d_law
  b_law : Binds K d_law ["_law_script"] []
  m_law : mg "law" = some (.ref a_law)
  k_MOST_WEIGHT : KInt mg "MOST_WEIGHT" 1000
  k_OF_TWO : KTup K mg "OF_TWO" [D.str "add", D.str "lesser", D.str "greater"]
  k_ALONE : KTup K mg "ALONE" [D.str "times", D.str "low", D.str "high"]
  k_MOST_DEEP : KInt mg "MOST_DEEP" 4
  z_abs : mg "abs" = none
  z_all : mg "all" = none
  z_bool : mg "bool" = none
  z_int : mg "int" = none
  z_isinstance : mg "isinstance" = none
  z_len : mg "len" = none
  z_list : mg "list" = none
  z_min : mg "min" = none
  z_range : mg "range" = none
  z_repr : mg "repr" = none
  z_str : mg "str" = none
  z_tuple : mg "tuple" = none
section
variable {P : Program} {w : World} {K : PySem.W.Frag} {mg : Str → Option Value} {base : Heap} {T : Tab}
theorem sc_is_whole : FnScope ["thing"] ["thing"] (defScope (top 1)) := ⟨rfl, rfl, rfl, by decide +kernel, rfl, by decide +kernel, by decide +kernel⟩
theorem ok_is_whole (T0 : Txt K mg w T) : FnG P w K mg base 1 T0.a_is_whole T0.d_is_whole ["thing"] (spF K T 1 f_is_whole) :=
  fn_ok T0.F_is_whole sc_is_whole rfl fun cdv A outer s H E hr hgd => by
    have hu := hr.u64
    have tk := (takes_of rfl rfl rfl rfl : Takes (cxOf (L2.CX P w) P w K mg base ["thing"] "is_whole" (defScope (top 1)) T0.a_is_whole cdv A outer s H E) (fun c dx _ H' => E c dx H'))
    exact fss_one (fs_ret (fe_and (c_isi T0.z_isinstance (x_cons (fe_var 0) (x_cons (d_ty T0.z_int) (fa_nil) (by rfl)) (by rfl)) (by rfl) (by rfl) (by rfl)) (fe_one (fe_not (c_isi T0.z_isinstance (x_cons (fe_var 0) (x_cons (d_ty T0.z_bool) (fa_nil) (by rfl)) (by rfl)) (by rfl) (by rfl) (by rfl))))))
theorem sc_law_pen : FnScope ["_law_script"] ["_law_script"] (defScope (top 12)) := ⟨rfl, rfl, rfl, by decide +kernel, rfl, by decide +kernel, by decide +kernel⟩
theorem ok_law_pen (T0 : Txt K mg w T) : FnG P w K mg base 1 T0.a_law_pen T0.d_law_pen ["_law_script"] (spF K T 1 f_law_pen) :=
  fn_ok T0.F_law_pen sc_law_pen rfl fun cdv A outer s H E hr hgd => by
    have hu := hr.u64
    have tk := (takes_of rfl rfl rfl rfl : Takes (cxOf (L2.CX P w) P w K mg base ["_law_script"] "_law_pen" (defScope (top 12)) T0.a_law_pen cdv A outer s H E) (fun c dx _ H' => E c dx H'))
    exact fss_one (fs_ret (x_dispS (fp_cons (fe_str) (c_list  T0.z_list (x_cons (fe_cut (fe_var 0) (fo_none) (fo_some (fe_int))) (fa_nil) (by rfl)) (by rfl) (by rfl) (by rfl)) (fp_cons (fe_str) (fe_int) (fp_cons (fe_str) (fe_int) (fp_nil)))) (by rfl) (by rfl) (by intro z; cases z) (by decide) (by decide)))
theorem sc_law_draw : FnScope ["_law_pen_here", "_law_many", "_law_digit", "_law_turn", "_law_cell", "_law_primes", "_law_prime", "_law_drawn"] ["_law_pen_here", "_law_many"] (defScope (top 13)) := ⟨rfl, rfl, rfl, by decide +kernel, rfl, by decide +kernel, by decide +kernel⟩
theorem ok_law_draw (T0 : Txt K mg w T) : FnG P w K mg base 1 T0.a_law_draw T0.d_law_draw ["_law_pen_here", "_law_many"] (spF K T 2 f_law_draw) :=
  fn_ok T0.F_law_draw sc_law_draw rfl fun cdv A outer s H E hr hgd => by
    have hu := hr.u64
    have tk := (takes_of rfl rfl rfl rfl : Takes (cxOf (L2.CX P w) P w K mg base ["_law_pen_here", "_law_many", "_law_digit", "_law_turn", "_law_cell", "_law_primes", "_law_prime", "_law_drawn"] "_law_draw" (defScope (top 13)) T0.a_law_draw cdv A outer s H E) (fun c dx _ H' => E c dx H'))
    exact fss_cons (fs_if (t_gt (d_get hu (fe_var 0) (fe_str) (by intro _ _; rfl)) (fe_int)) (fss_cons (x_set 2 sc_law_draw.nd (by rfl) (Or.inl (by rfl)) (d_mod (d_get hu (fe_var 0) (fe_str) (by intro _ _; rfl)) (fe_var 1)) (by rfl) (Or.inr (by rfl)))
        (fss_cons (s_put hu (fe_var 0) (fe_str) (d_fdiv (d_get hu (fe_var 0) (fe_str) (by intro _ _; rfl)) (fe_var 1)) (by rfl))
        (fss_one (fs_ret (fe_var 2))))) (fss_nil))
        (fss_cons (x_set 3 sc_law_draw.nd (by rfl) (Or.inl (by rfl)) (d_get hu (fe_var 0) (fe_str) (by intro _ _; rfl)) (by rfl) (Or.inr (by rfl)))
        (fss_cons (s_put hu (fe_var 0) (fe_str) (d_add (fe_var 3) (fe_int)) (by rfl))
        (fss_cons (x_set 4 sc_law_draw.nd (by rfl) (Or.inl (by rfl)) (d_add (d_mul (fe_int) (fe_var 3)) (fe_int)) (by rfl) (Or.inr (by rfl)))
        (fss_cons (fs_if (t_ne hu (d_get hu (fe_var 0) (fe_str) (by intro _ _; rfl)) (fe_lst (fa_nil))) (fss_one (x_set 4 sc_law_draw.nd (by rfl) (Or.inl (by rfl)) (d_ix (d_get hu (fe_var 0) (fe_str) (by intro _ _; rfl)) (d_mod (fe_var 3) (c_len  T0.z_len (x_cons (d_get hu (fe_var 0) (fe_str) (by intro _ _; rfl)) (fa_nil) (by rfl)) (by rfl) (by rfl) (by rfl))) (by intro _ _; rfl)) (by rfl) (Or.inr (by rfl)))) (fss_nil))
        (fss_cons (fs_if (t_and (fw_and (t_lt (fe_var 3) (c_len  T0.z_len (x_cons (d_get hu (fe_var 0) (fe_str) (by intro _ _; rfl)) (fa_nil) (by rfl)) (by rfl) (by rfl) (by rfl))) (fw_and1 (t_ge (c_abs  T0.z_abs (x_cons (fe_var 4) (fa_nil) (by rfl)) (by rfl) (by rfl) (by rfl)) (d_pow (fe_int) (fe_int)))))) (fss_cons (s_put hu (fe_var 0) (fe_str) (d_fdiv (d_sub (c_abs  T0.z_abs (x_cons (fe_var 4) (fa_nil) (by rfl)) (by rfl) (by rfl) (by rfl)) (d_pow (fe_int) (fe_int))) (fe_var 1)) (by rfl))
        (fss_one (fs_ret (d_mod (d_sub (c_abs  T0.z_abs (x_cons (fe_var 4) (fa_nil) (by rfl)) (by rfl) (by rfl) (by rfl)) (d_pow (fe_int) (fe_int))) (fe_var 1))))) (fss_nil))
        (fss_cons (x_set 5 sc_law_draw.nd (by rfl) (Or.inl (by rfl)) (fe_lst (x_cons (fe_int) (x_cons (fe_int) (x_cons (fe_int) (x_cons (fe_int) (x_cons (fe_int) (fa_nil) (by rfl)) (by rfl)) (by rfl)) (by rfl)) (by rfl))) (by rfl) (Or.inr (by rfl)))
        (fss_cons (x_set 6 sc_law_draw.nd (by rfl) (Or.inl (by rfl)) (d_ix (fe_var 5) (d_mod (fe_var 3) (fe_int)) (by intro _ _; rfl)) (by rfl) (Or.inr (by rfl)))
        (fss_cons (x_set 7 sc_law_draw.nd (by rfl) (Or.inl (by rfl)) (d_mod (d_add (d_add (d_mul (d_mod (fe_var 4) (fe_var 6)) (fe_int)) (d_mul (d_mul (fe_int) (fe_var 3)) (fe_var 3))) (fe_int)) (fe_var 6)) (by rfl) (Or.inr (by rfl)))
        (fss_cons (x_set 7 sc_law_draw.nd (by rfl) (Or.inl (by rfl)) (d_mod (d_mul (fe_var 7) (d_add (fe_var 7) (fe_int))) (d_ix (fe_var 5) (d_mod (d_add (fe_var 3) (fe_int)) (fe_int)) (by intro _ _; rfl))) (by rfl) (Or.inr (by rfl)))
        (fss_one (fs_ret (d_mod (d_fdiv (d_mod (d_mul (fe_var 7) (fe_var 7)) (fe_int)) (fe_int)) (fe_var 1)))))))))))))
theorem sc_law_is_from : FnScope ["_law_thing", "_law_low", "_law_high"] ["_law_thing", "_law_low", "_law_high"] (defScope (top 18)) := ⟨rfl, rfl, rfl, by decide +kernel, rfl, by decide +kernel, by decide +kernel⟩
theorem ok_law_is_from (T0 : Txt K mg w T) : FnG P w K mg base 1 T0.a_law_is_from T0.d_law_is_from ["_law_thing", "_law_low", "_law_high"] (spF K T 3 f_law_is_from) :=
  fn_ok T0.F_law_is_from sc_law_is_from rfl fun cdv A outer s H E hr hgd => by
    have hu := hr.u64
    have tk := (takes_of rfl rfl rfl rfl : Takes (cxOf (L2.CX P w) P w K mg base ["_law_thing", "_law_low", "_law_high"] "_law_is_from" (defScope (top 18)) T0.a_law_is_from cdv A outer s H E) (fun c dx _ H' => E c dx H'))
    exact fss_one (fs_ret (fe_and (c_isi T0.z_isinstance (x_cons (fe_var 0) (x_cons (d_ty T0.z_int) (fa_nil) (by rfl)) (by rfl)) (by rfl) (by rfl) (by rfl)) (fe_and (fe_not (c_isi T0.z_isinstance (x_cons (fe_var 0) (x_cons (d_ty T0.z_bool) (fa_nil) (by rfl)) (by rfl)) (by rfl) (by rfl) (by rfl))) (fe_one (x_chain op_le op_le os_cmp os_cmp (fe_var 1) (fe_var 0) (fe_var 2) (by with_unfolding_all rfl))))))
theorem sc_is_from : FnScope ["thing", "least", "most"] ["thing", "least", "most"] (defScope (top 2)) := ⟨rfl, rfl, rfl, by decide +kernel, rfl, by decide +kernel, by decide +kernel⟩
theorem ok_is_from (T0 : Txt K mg w T) : FnG P w K mg base 2 T0.a_is_from T0.d_is_from ["thing", "least", "most"] (spF K T 3 f_is_from) :=
  fn_ok T0.F_is_from sc_is_from rfl fun cdv A outer s H E hr hgd => by
    have hu := hr.u64
    have tk := (takes_of rfl rfl rfl rfl : Takes (cxOf (L2.CX P w) P w K mg base ["thing", "least", "most"] "is_from" (defScope (top 2)) T0.a_is_from cdv A outer s H E) (fun c dx _ H' => E c dx H'))
    exact fss_one (fs_ret (fe_and (x_call (ok_is_whole T0) (hr.mono (by decide)) hgd (by rfl) T0.m_is_whole T0.F_is_whole.kp T0.b_is_whole (by rfl) tk (x_cons (fe_var 0) (fa_nil) (by rfl)) (ll_cons (ll_nil)) (by decide) (by rfl) (by rfl)) (fe_one (x_chain op_le op_le os_cmp os_cmp (fe_var 1) (fe_var 0) (fe_var 2) (by with_unfolding_all rfl)))))
theorem sc_law_pick : FnScope ["_law_pen_here", "_law_some"] ["_law_pen_here", "_law_some"] (defScope (top 14)) := ⟨rfl, rfl, rfl, by decide +kernel, rfl, by decide +kernel, by decide +kernel⟩
theorem ok_law_pick (T0 : Txt K mg w T) : FnG P w K mg base 2 T0.a_law_pick T0.d_law_pick ["_law_pen_here", "_law_some"] (spF K T 2 f_law_pick) :=
  fn_ok T0.F_law_pick sc_law_pick rfl fun cdv A outer s H E hr hgd => by
    have hu := hr.u64
    have tk := (takes_of rfl rfl rfl rfl : Takes (cxOf (L2.CX P w) P w K mg base ["_law_pen_here", "_law_some"] "_law_pick" (defScope (top 14)) T0.a_law_pick cdv A outer s H E) (fun c dx _ H' => E c dx H'))
    exact fss_one (fs_ret (d_ix (fe_var 1) (x_call (ok_law_draw T0) (hr.mono (by decide)) hgd (by rfl) T0.m_law_draw T0.F_law_draw.kp T0.b_law_draw (by rfl) tk (x_cons (fe_var 0) (x_cons (c_len  T0.z_len (x_cons (fe_var 1) (fa_nil) (by rfl)) (by rfl) (by rfl) (by rfl)) (fa_nil) (by rfl)) (by rfl)) (ll_cons (ll_cons (ll_nil))) (by decide) (by rfl) (by rfl)) (by intro _ _; rfl)))
theorem sc_are_weights : FnScope ["thing", "many", "weight"] ["thing", "many"] (defScope (top 8)) := ⟨rfl, rfl, rfl, by decide +kernel, rfl, by decide +kernel, by decide +kernel⟩
theorem ok_are_weights (T0 : Txt K mg w T) : FnG P w K mg base 3 T0.a_are_weights T0.d_are_weights ["thing", "many"] (spF K T 2 f_are_weights) :=
  fn_ok T0.F_are_weights sc_are_weights rfl fun cdv A outer s H E hr hgd => by
    have hu := hr.u64
    have tk := (takes_of rfl rfl rfl rfl : Takes (cxOf (L2.CX P w) P w K mg base ["thing", "many", "weight"] "are_weights" (defScope (top 8)) T0.a_are_weights cdv A outer s H E) (fun c dx _ H' => E c dx H'))
    exact fss_cons (fs_if (t_or (fw_or (ft_not (x_val (c_isi T0.z_isinstance (x_cons (fe_var 0) (x_cons (d_ty T0.z_tuple) (fa_nil) (by rfl)) (by rfl)) (by rfl) (by rfl) (by rfl)) (by intro _; rfl))) (fw_or1 (t_ne hu (c_len  T0.z_len (x_cons (fe_var 0) (fa_nil) (by rfl)) (by rfl) (by rfl) (by rfl)) (fe_var 1))))) (fss_one (fs_ret (fe_bl))) (fss_nil))
        (fss_one (fs_ret (c_all (by rfl) T0.z_all (x_cons (d_lc (own := [("weight", 2)]) (by rfl) sc_are_weights.nd (fi_seq (fe_var 0)) (fun s H C cl fp => x_gname sc_are_weights.nd (by rfl) (Or.inl (by rfl)) (Or.inr (by rfl))) (fun s H C cl fp => fts_nil) (fun s H C cl fp => x_call (ok_is_from T0) (hr.mono (by decide)) hgd (by rfl) T0.m_is_from T0.F_is_from.kp T0.b_is_from (by rfl) takes_no (x_cons (fe_var 2) (x_cons (fe_int) (x_cons (x_kint T0.k_MOST_WEIGHT (by rfl) (by decide)) (fa_nil) (by rfl)) (by rfl)) (by rfl)) (ll_cons (ll_cons (ll_cons (ll_nil)))) (by decide) (by rfl) (by rfl)) [2] (by kernel_rfl) (by rfl) (by decide) (by intro _; rfl)) (fa_nil) (by rfl)) (by rfl) (by rfl) (by rfl))))
theorem sc_law_odd : FnScope ["_law_pen_here", "_law_some"] ["_law_pen_here"] (defScope (top 16)) := ⟨rfl, rfl, rfl, by decide +kernel, rfl, by decide +kernel, by decide +kernel⟩
theorem ok_law_odd (T0 : Txt K mg w T) : FnG P w K mg base 3 T0.a_law_odd T0.d_law_odd ["_law_pen_here"] (spF K T 1 f_law_odd) :=
  fn_ok T0.F_law_odd sc_law_odd rfl fun cdv A outer s H E hr hgd => by
    have hu := hr.u64
    have tk := (takes_of rfl rfl rfl rfl : Takes (cxOf (L2.CX P w) P w K mg base ["_law_pen_here", "_law_some"] "_law_odd" (defScope (top 16)) T0.a_law_odd cdv A outer s H E) (fun c dx _ H' => E c dx H'))
    exact fss_cons (x_setO 1 sc_law_odd.nd (by rfl) (Or.inl (by rfl)) (feo_lst (x_cons (fe_non) (x_cons (fe_bl) (x_cons (fe_bl) (x_cons (fe_int) (x_cons (fe_int) (x_cons (d_neg (fe_int)) (x_cons (d_pow (fe_int) (fe_int)) (x_cons (d_add (d_pow (fe_int) (fe_int)) (fe_int)) (x_cons (d_mul (fe_int) (d_pow (fe_int) (fe_int))) (x_cons (d_add (d_mul (fe_int) (d_pow (fe_int) (fe_int))) (fe_int)) (x_cons (fe_str) (x_cons (fe_str) (x_cons (fe_str) (fa_nil) (by rfl)) (by rfl)) (by rfl)) (by rfl)) (by rfl)) (by rfl)) (by rfl)) (by rfl)) (by rfl)) (by rfl)) (by rfl)) (by rfl)) (by rfl))) (by rfl) (Or.inr (by rfl)))
        (fss_cons (fs_frz 1 (x_setO 1 sc_law_odd.nd (by rfl) (Or.inl (by rfl)) (feo_cat (fe_var 1) (fe_lst (x_cons (d_add (d_mul (d_pow (fe_int) (fe_int)) (d_pow (fe_int) (fe_int))) (fe_int)) (x_cons (fe_str) (x_cons (fe_str) (x_cons (fe_str) (x_cons (fe_str) (x_cons (fe_tup (fa_nil)) (x_cons (fe_tup (x_cons (fe_int) (fa_nil) (by rfl))) (x_cons (fe_tup (x_cons (fe_int) (x_cons (fe_int) (fa_nil) (by rfl)) (by rfl))) (x_cons (fe_tup (x_cons (fe_bl) (fa_nil) (by rfl))) (x_cons (fe_tup (x_cons (fe_int) (x_cons (fe_non) (fa_nil) (by rfl)) (by rfl))) (fa_nil) (by rfl)) (by rfl)) (by rfl)) (by rfl)) (by rfl)) (by rfl)) (by rfl)) (by rfl)) (by rfl)) (by rfl)))) (by rfl) (Or.inr (by rfl))))
        (fss_cons (fs_frz 1 (x_setO 1 sc_law_odd.nd (by rfl) (Or.inl (by rfl)) (feo_cat (fe_var 1) (fe_lst (x_cons (fe_tup (x_cons (fe_str) (fa_nil) (by rfl))) (x_cons (fe_tup (x_cons (fe_str) (fa_nil) (by rfl))) (x_cons (fe_lst (fa_nil)) (x_cons (fe_ofO feo_disp0) (x_cons (fe_lst (x_cons (fe_int) (fa_nil) (by rfl))) (x_cons (fe_tup (x_cons (fe_str) (x_cons (fe_tup (fa_nil)) (fa_nil) (by rfl)) (by rfl))) (x_cons (fe_tup (x_cons (fe_str) (fa_nil) (by rfl))) (x_cons (fe_tup (x_cons (fe_str) (fa_nil) (by rfl))) (x_cons (fe_tup (x_cons (fe_str) (x_cons (fe_int) (fa_nil) (by rfl)) (by rfl))) (x_cons (fe_tup (x_cons (fe_str) (x_cons (fe_int) (x_cons (fe_int) (fa_nil) (by rfl)) (by rfl)) (by rfl))) (x_cons (fe_str) (fa_nil) (by rfl)) (by rfl)) (by rfl)) (by rfl)) (by rfl)) (by rfl)) (by rfl)) (by rfl)) (by rfl)) (by rfl)) (by rfl)))) (by rfl) (Or.inr (by rfl))))
        (fss_cons (x_app 1 (by rfl) (Or.inl (by rfl)) (fe_tup (x_cons (fe_str) (x_cons (fe_tup (x_cons (fe_str) (fa_nil) (by rfl))) (x_cons (fe_int) (fa_nil) (by rfl)) (by rfl)) (by rfl))) (by decide) (by decide) (by rfl) (by rfl) (by rfl) (by rfl) (by rfl) (by rfl))
        (fss_one (fs_frz 1 (fs_ret (x_call (ok_law_pick T0) (hr.mono (by decide)) hgd (by rfl) T0.m_law_pick T0.F_law_pick.kp T0.b_law_pick (by rfl) tk (x_cons (fe_var 0) (x_cons (fe_var 1) (fa_nil) (by rfl)) (by rfl)) (ll_cons (ll_cons (ll_nil))) (by decide) (by rfl) (by rfl))))))))
theorem sc_law_is_scale : FnScope ["_law_thing", "_law_many", "_law_deep", "_law_odd_here", "_law_one"] ["_law_thing", "_law_many", "_law_deep"] (defScope (top 19)) := ⟨rfl, rfl, rfl, by decide +kernel, rfl, by decide +kernel, by decide +kernel⟩
theorem ok_law_is_scale (T0 : Txt K mg w T) : ∀ kk : Nat, FnG P w K mg base (1 + kk) T0.a_law_is_scale T0.d_law_is_scale ["_law_thing", "_law_many", "_law_deep"] (spF K T 3 (f_law_is_scale kk))
  | 0 => fn_none fun _ _ => rfl
  | kk + 1 => fn_ok (k := 1 + kk) T0.F_law_is_scale sc_law_is_scale rfl fun cdv A outer s H E hr hgd => by
    have hu := hr.u64
    have tk := (takes_of rfl rfl rfl rfl : Takes (cxOf (L2.CX P w) P w K mg base ["_law_thing", "_law_many", "_law_deep", "_law_odd_here", "_law_one"] "_law_is_scale" (defScope (top 19)) T0.a_law_is_scale cdv A outer s H E) (fun c dx _ H' => E c dx H'))
    exact fss_cons (fs_if (t_or (fw_or (t_eq hu (fe_var 2) (fe_int)) (fw_or (ft_not (x_val (c_isi T0.z_isinstance (x_cons (fe_var 0) (x_cons (d_ty T0.z_tuple) (fa_nil) (by rfl)) (by rfl)) (by rfl) (by rfl) (by rfl)) (by intro _; rfl))) (fw_or (t_eqN hu (fe_var 0) (fe_tup (fa_nil)) (by rfl)) (fw_or1 (ft_not (x_val (c_isi T0.z_isinstance (x_cons (d_ix (fe_var 0) (fe_int) (by intro _ _; rfl)) (x_cons (d_ty T0.z_str) (fa_nil) (by rfl)) (by rfl)) (by rfl) (by rfl) (by rfl)) (by intro _; rfl)))))))) (fss_one (fs_ret (fe_bl))) (fss_nil))
        (fss_cons (fs_if (t_in (d_ix (fe_var 0) (fe_int) (by intro _ _; rfl)) (fe_tup (x_cons (fe_str) (x_cons (fe_str) (x_cons (fe_str) (fa_nil) (by rfl)) (by rfl)) (by rfl))) (by rfl)) (fss_one (fs_ret (d_eq hu (c_len  T0.z_len (x_cons (fe_var 0) (fa_nil) (by rfl)) (by rfl) (by rfl) (by rfl)) (fe_int)))) (fss_nil))
        (fss_cons (fs_if (t_in (d_ix (fe_var 0) (fe_int) (by intro _ _; rfl)) (fe_tup (x_cons (fe_str) (x_cons (fe_str) (x_cons (fe_str) (fa_nil) (by rfl)) (by rfl)) (by rfl))) (by rfl)) (fss_cons (s_lcD 3 (by rfl) sc_law_is_scale.nd (by rfl) (by rfl) (by rfl) (own := [("_law_one", 4)]) (fi_seq (fe_cut (fe_var 0) (fo_some (fe_int)) (fo_none))) (fun s H C cl fp => x_gname sc_law_is_scale.nd (by rfl) (Or.inl (by rfl)) (Or.inr (by rfl))) (fun s H C cl fp => fts_one (ft_not (x_val (x_call (ok_law_is_scale T0 kk) (hr.mono (by omega)) hgd (by rfl) T0.m_law_is_scale T0.F_law_is_scale.kp T0.b_law_is_scale (by rfl) takes_no (x_cons (fe_var 4) (x_cons (fe_var 1) (x_cons (d_sub (fe_var 2) (fe_int)) (fa_nil) (by rfl)) (by rfl)) (by rfl)) (ll_cons (ll_cons (ll_cons (ll_nil)))) (by decide) (by rfl) (by rfl)) (by intro _; rfl)))) (fun s H C cl fp => fe_var 4) [4] (by kernel_rfl) (by rfl) (by decide) (by intro _; rfl) (by rfl) (by rfl))
        (fss_one (fs_ret (fe_and (d_eq hu (c_len  T0.z_len (x_cons (fe_var 0) (fa_nil) (by rfl)) (by rfl) (by rfl) (by rfl)) (fe_int)) (fe_one (d_eqN hu (fe_var 3) (fe_lst (fa_nil)) (by rfl))))))) (fss_nil))
        (fss_cons (fs_if (t_or (fw_or (t_ne hu (d_ix (fe_var 0) (fe_int) (by intro _ _; rfl)) (fe_str)) (fw_or (t_ne hu (c_len  T0.z_len (x_cons (fe_var 0) (fa_nil) (by rfl)) (by rfl) (by rfl) (by rfl)) (fe_int)) (fw_or (ft_not (x_val (c_isi T0.z_isinstance (x_cons (d_ix (fe_var 0) (fe_int) (by intro _ _; rfl)) (x_cons (d_ty T0.z_tuple) (fa_nil) (by rfl)) (by rfl)) (by rfl) (by rfl) (by rfl)) (by intro _; rfl))) (fw_or1 (t_ne hu (c_len  T0.z_len (x_cons (d_ix (fe_var 0) (fe_int) (by intro _ _; rfl)) (fa_nil) (by rfl)) (by rfl) (by rfl) (by rfl)) (fe_var 1))))))) (fss_one (fs_ret (fe_bl))) (fss_nil))
        (fss_one (fs_ret (d_eqN hu (d_lc (own := [("_law_one", 4)]) (by rfl) sc_law_is_scale.nd (fi_seq (d_ix (fe_var 0) (fe_int) (by intro _ _; rfl))) (fun s H C cl fp => x_gname sc_law_is_scale.nd (by rfl) (Or.inl (by rfl)) (Or.inr (by rfl))) (fun s H C cl fp => fts_one (ft_not (x_val (x_call (ok_law_is_from T0) (hr.mono (by omega)) hgd (by rfl) T0.m_law_is_from T0.F_law_is_from.kp T0.b_law_is_from (by rfl) takes_no (x_cons (fe_var 4) (x_cons (fe_int) (x_cons (fe_int) (fa_nil) (by rfl)) (by rfl)) (by rfl)) (ll_cons (ll_cons (ll_cons (ll_nil)))) (by decide) (by rfl) (by rfl)) (by intro _; rfl)))) (fun s H C cl fp => fe_var 4) [4] (by kernel_rfl) (by rfl) (by decide) (by intro _; rfl)) (fe_lst (fa_nil)) (by rfl)))))))
theorem sc_law_scale : FnScope ["_law_pen_here", "_law_many", "_law_deep", "_law_way", "_law_word", "_law_k"] ["_law_pen_here", "_law_many", "_law_deep"] (defScope (top 15)) := ⟨rfl, rfl, rfl, by decide +kernel, rfl, by decide +kernel, by decide +kernel⟩
theorem ok_law_scale (T0 : Txt K mg w T) : ∀ kk : Nat, FnG P w K mg base (2 + kk) T0.a_law_scale T0.d_law_scale ["_law_pen_here", "_law_many", "_law_deep"] (spF K T 3 (f_law_scale kk))
  | 0 => fn_none fun _ _ => rfl
  | kk + 1 => fn_ok (k := 2 + kk) T0.F_law_scale sc_law_scale rfl fun cdv A outer s H E hr hgd => by
    have hu := hr.u64
    have tk := (takes_of rfl rfl rfl rfl : Takes (cxOf (L2.CX P w) P w K mg base ["_law_pen_here", "_law_many", "_law_deep", "_law_way", "_law_word", "_law_k"] "_law_scale" (defScope (top 15)) T0.a_law_scale cdv A outer s H E) (fun c dx _ H' => E c dx H'))
    exact fss_cons (x_set 3 sc_law_scale.nd (by rfl) (Or.inl (by rfl)) (x_call (ok_law_draw T0) (hr.mono (by omega)) hgd (by rfl) T0.m_law_draw T0.F_law_draw.kp T0.b_law_draw (by rfl) tk (x_cons (fe_var 0) (x_cons (d_ix (fe_lst (x_cons (fe_int) (x_cons (fe_int) (fa_nil) (by rfl)) (by rfl))) (c_int T0.z_int (x_cons (d_gt (fe_var 2) (fe_int)) (fa_nil) (by rfl)) (by rfl) (by rfl) (by rfl)) (by intro _ _; rfl)) (fa_nil) (by rfl)) (by rfl)) (ll_cons (ll_cons (ll_nil))) (by decide) (by rfl) (by rfl)) (by rfl) (Or.inr (by rfl)))
        (fss_cons (fs_if (t_gt (fe_var 3) (fe_int)) (fss_cons (x_set 4 sc_law_scale.nd (by rfl) (Or.inl (by rfl)) (d_ix (fe_lst (x_cons (fe_str) (x_cons (fe_str) (x_cons (fe_str) (fa_nil) (by rfl)) (by rfl)) (by rfl))) (d_sub (fe_var 3) (fe_int)) (by intro _ _; rfl)) (by rfl) (Or.inr (by rfl)))
        (fss_one (fs_ret (fe_tup (x_cons (fe_var 4) (x_cons (x_call (ok_law_scale T0 kk) (hr.mono (by omega)) hgd (by rfl) T0.m_law_scale T0.F_law_scale.kp T0.b_law_scale (by rfl) tk (x_cons (fe_var 0) (x_cons (fe_var 1) (x_cons (d_sub (fe_var 2) (fe_int)) (fa_nil) (by rfl)) (by rfl)) (by rfl)) (ll_cons (ll_cons (ll_cons (ll_nil)))) (by decide) (by rfl) (by rfl)) (x_cons (x_call (ok_law_scale T0 kk) (hr.mono (by omega)) hgd (by rfl) T0.m_law_scale T0.F_law_scale.kp T0.b_law_scale (by rfl) tk (x_cons (fe_var 0) (x_cons (fe_var 1) (x_cons (d_sub (fe_var 2) (fe_int)) (fa_nil) (by rfl)) (by rfl)) (by rfl)) (ll_cons (ll_cons (ll_cons (ll_nil)))) (by decide) (by rfl) (by rfl)) (fa_nil) (by rfl)) (by rfl)) (by rfl)))))) (fss_nil))
        (fss_cons (fs_if (t_gt (fe_var 3) (fe_int)) (fss_one (fs_ret (d_ix (fe_lst (x_cons (fe_tup (x_cons (fe_str) (fa_nil) (by rfl))) (x_cons (fe_tup (x_cons (fe_str) (fa_nil) (by rfl))) (x_cons (fe_tup (x_cons (fe_str) (fa_nil) (by rfl))) (fa_nil) (by rfl)) (by rfl)) (by rfl))) (d_sub (fe_var 3) (fe_int)) (by intro _ _; rfl)))) (fss_nil))
        (fss_one (fs_ret (fe_tup (x_cons (fe_str) (x_cons (c_tuple  T0.z_tuple (x_cons (d_lc (own := [("_law_k", 5)]) (by rfl) sc_law_scale.nd (x_range1 (by rfl) T0.z_range (x_cons (fe_var 1) (fa_nil) (by rfl)) (by rfl)) (fun s H C cl fp => x_gname sc_law_scale.nd (by rfl) (Or.inl (by rfl)) (Or.inr (by rfl))) (fun s H C cl fp => fts_nil) (fun s H C cl fp => x_call (ok_law_pick T0) (hr.mono (by omega)) hgd (by rfl) T0.m_law_pick T0.F_law_pick.kp T0.b_law_pick (by rfl) takes_no (x_cons (fe_var 0) (x_cons (fe_lst (x_cons (fe_int) (x_cons (fe_int) (x_cons (fe_int) (x_cons (fe_int) (x_cons (fe_int) (x_cons (fe_int) (x_cons (fe_int) (x_cons (fe_int) (fa_nil) (by rfl)) (by rfl)) (by rfl)) (by rfl)) (by rfl)) (by rfl)) (by rfl)) (by rfl))) (fa_nil) (by rfl)) (by rfl)) (ll_cons (ll_cons (ll_nil))) (by decide) (by rfl) (by rfl)) [5] (by kernel_rfl) (by rfl) (by decide) (by intro _; rfl)) (fa_nil) (by rfl)) (by rfl) (by rfl) (by rfl)) (fa_nil) (by rfl)) (by rfl)))))))
theorem sc_is_scale_of : FnScope ["thing", "many", "deep", "word", "parts", "part"] ["thing", "many", "deep"] (defScope (top 9)) := ⟨rfl, rfl, rfl, by decide +kernel, rfl, by decide +kernel, by decide +kernel⟩
theorem ok_is_scale_of (T0 : Txt K mg w T) : ∀ kk : Nat, FnG P w K mg base (3 + kk) T0.a_is_scale_of T0.d_is_scale_of ["thing", "many", "deep"] (spF K T 3 (f_is_scale_of kk))
  | 0 => fn_none fun _ _ => rfl
  | kk + 1 => fn_ok (k := 3 + kk) T0.F_is_scale_of sc_is_scale_of rfl fun cdv A outer s H E hr hgd => by
    have hu := hr.u64
    have tk := (takes_of rfl rfl rfl rfl : Takes (cxOf (L2.CX P w) P w K mg base ["thing", "many", "deep", "word", "parts", "part"] "is_scale_of" (defScope (top 9)) T0.a_is_scale_of cdv A outer s H E) (fun c dx _ H' => E c dx H'))
    exact fss_cons (fs_if (t_or (fw_or (t_lt (fe_var 2) (fe_int)) (fw_or (ft_not (x_val (c_isi T0.z_isinstance (x_cons (fe_var 0) (x_cons (d_ty T0.z_tuple) (fa_nil) (by rfl)) (by rfl)) (by rfl) (by rfl) (by rfl)) (by intro _; rfl))) (fw_or (t_eqN hu (fe_var 0) (fe_tup (fa_nil)) (by rfl)) (fw_or1 (ft_not (x_val (c_isi T0.z_isinstance (x_cons (d_ix (fe_var 0) (fe_int) (by intro _ _; rfl)) (x_cons (d_ty T0.z_str) (fa_nil) (by rfl)) (by rfl)) (by rfl) (by rfl) (by rfl)) (by intro _; rfl)))))))) (fss_one (fs_ret (fe_bl))) (fss_nil))
        (fss_cons (x_star 3 4 (by rfl) sc_is_scale_of.nd (by rfl) (by rfl) (Or.inl (by rfl)) (Or.inl (by rfl)) (Or.inr (by rfl)) (Or.inr (by rfl)) (fe_var 0) (by rfl) (by rfl) (by rfl) (by rfl))
        (fss_cons (fs_if (t_eq hu (fe_var 3) (fe_str)) (fss_one (fs_ret (fe_and (d_eq hu (c_len  T0.z_len (x_cons (fe_var 4) (fa_nil) (by rfl)) (by rfl) (by rfl) (by rfl)) (fe_int)) (fe_one (x_call (ok_are_weights T0) (hr.mono (by omega)) hgd (by rfl) T0.m_are_weights T0.F_are_weights.kp T0.b_are_weights (by rfl) tk (x_cons (d_ix (fe_var 4) (fe_int) (by intro _ _; rfl)) (x_cons (fe_var 1) (fa_nil) (by rfl)) (by rfl)) (ll_cons (ll_cons (ll_nil))) (by decide) (by rfl) (by rfl)))))) (fss_nil))
        (fss_cons (fs_if (t_in (fe_var 3) (x_ktup T0.k_OF_TWO (by rfl) (by decide)) (by rfl)) (fss_one (fs_ret (fe_and (d_eq hu (c_len  T0.z_len (x_cons (fe_var 4) (fa_nil) (by rfl)) (by rfl) (by rfl) (by rfl)) (fe_int)) (fe_one (c_all (by rfl) T0.z_all (x_cons (d_lc (own := [("part", 5)]) (by rfl) sc_is_scale_of.nd (fi_seq (fe_var 4)) (fun s H C cl fp => x_gname sc_is_scale_of.nd (by rfl) (Or.inl (by rfl)) (Or.inr (by rfl))) (fun s H C cl fp => fts_nil) (fun s H C cl fp => x_call (ok_is_scale_of T0 kk) (hr.mono (by omega)) hgd (by rfl) T0.m_is_scale_of T0.F_is_scale_of.kp T0.b_is_scale_of (by rfl) takes_no (x_cons (fe_var 5) (x_cons (fe_var 1) (x_cons (d_sub (fe_var 2) (fe_int)) (fa_nil) (by rfl)) (by rfl)) (by rfl)) (ll_cons (ll_cons (ll_cons (ll_nil)))) (by decide) (by rfl) (by rfl)) [5] (by kernel_rfl) (by rfl) (by decide) (by intro _; rfl)) (fa_nil) (by rfl)) (by rfl) (by rfl) (by rfl)))))) (fss_nil))
        (fss_one (fs_ret (fe_and (d_in (fe_var 3) (x_ktup T0.k_ALONE (by rfl) (by decide)) (by rfl)) (fe_one (d_eqN hu (fe_var 4) (fe_lst (fa_nil)) (by rfl)))))))))
theorem sc_is_scale : FnScope ["thing", "many"] ["thing", "many"] (defScope (top 10)) := ⟨rfl, rfl, rfl, by decide +kernel, rfl, by decide +kernel, by decide +kernel⟩
theorem ok_is_scale (T0 : Txt K mg w T) : FnG P w K mg base 14 T0.a_is_scale T0.d_is_scale ["thing", "many"] (spF K T 2 f_is_scale) :=
  fn_ok T0.F_is_scale sc_is_scale rfl fun cdv A outer s H E hr hgd => by
    have hu := hr.u64
    have tk := (takes_of rfl rfl rfl rfl : Takes (cxOf (L2.CX P w) P w K mg base ["thing", "many"] "is_scale" (defScope (top 10)) T0.a_is_scale cdv A outer s H E) (fun c dx _ H' => E c dx H'))
    exact fss_one (fs_ret (x_call (ok_is_scale_of T0 10) (hr.mono (by decide)) hgd (by rfl) T0.m_is_scale_of T0.F_is_scale_of.kp T0.b_is_scale_of (by rfl) tk (x_cons (fe_var 0) (x_cons (fe_var 1) (x_cons (x_kint T0.k_MOST_DEEP (by rfl) (by decide)) (fa_nil) (by rfl)) (by rfl)) (by rfl)) (ll_cons (ll_cons (ll_cons (ll_nil)))) (by decide) (by rfl) (by rfl)))
theorem sc_law_bent : FnScope ["_law_pen_here", "_law_thing", "_law_at", "_law_way", "_law_inner", "_law_some", "_law_sign"] ["_law_pen_here", "_law_thing"] (defScope (top 17)) := ⟨rfl, rfl, rfl, by decide +kernel, rfl, by decide +kernel, by decide +kernel⟩
theorem ok_law_bent (T0 : Txt K mg w T) : ∀ kk : Nat, FnG P w K mg base (3 + kk) T0.a_law_bent T0.d_law_bent ["_law_pen_here", "_law_thing"] (spF K T 2 (f_law_bent kk))
  | 0 => fn_none fun _ _ => rfl
  | kk + 1 => fn_ok (k := 3 + kk) T0.F_law_bent sc_law_bent rfl fun cdv A outer s H E hr hgd => by
    have hu := hr.u64
    have tk := (takes_of rfl rfl rfl rfl : Takes (cxOf (L2.CX P w) P w K mg base ["_law_pen_here", "_law_thing", "_law_at", "_law_way", "_law_inner", "_law_some", "_law_sign"] "_law_bent" (defScope (top 17)) T0.a_law_bent cdv A outer s H E) (fun c dx _ H' => E c dx H'))
    exact fss_cons (fs_if (t_and (fw_and (x_val (c_isi T0.z_isinstance (x_cons (fe_var 1) (x_cons (fe_tup (x_cons (d_ty T0.z_tuple) (x_cons (d_ty T0.z_list) (fa_nil) (by rfl)) (by rfl))) (fa_nil) (by rfl)) (by rfl)) (by rfl) (by rfl) (by rfl)) (by intro _; rfl)) (fw_and (t_gt (c_len  T0.z_len (x_cons (fe_var 1) (fa_nil) (by rfl)) (by rfl) (by rfl) (by rfl)) (fe_int)) (fw_and1 (t_gt (x_call (ok_law_draw T0) (hr.mono (by omega)) hgd (by rfl) T0.m_law_draw T0.F_law_draw.kp T0.b_law_draw (by rfl) tk (x_cons (fe_var 0) (x_cons (fe_int) (fa_nil) (by rfl)) (by rfl)) (ll_cons (ll_cons (ll_nil))) (by decide) (by rfl) (by rfl)) (fe_int)))))) (fss_cons (x_par 2 3 (by rfl) sc_law_bent.nd (by rfl) (by rfl) (by decide) (by rfl) (by rfl) (x_cons (x_call (ok_law_draw T0) (hr.mono (by omega)) hgd (by rfl) T0.m_law_draw T0.F_law_draw.kp T0.b_law_draw (by rfl) tk (x_cons (fe_var 0) (x_cons (c_len  T0.z_len (x_cons (fe_var 1) (fa_nil) (by rfl)) (by rfl) (by rfl) (by rfl)) (fa_nil) (by rfl)) (by rfl)) (ll_cons (ll_cons (ll_nil))) (by decide) (by rfl) (by rfl)) (x_cons (x_call (ok_law_draw T0) (hr.mono (by omega)) hgd (by rfl) T0.m_law_draw T0.F_law_draw.kp T0.b_law_draw (by rfl) tk (x_cons (fe_var 0) (x_cons (fe_int) (fa_nil) (by rfl)) (by rfl)) (ll_cons (ll_cons (ll_nil))) (by decide) (by rfl) (by rfl)) (fa_nil) (by rfl)) (by rfl)) (by rfl) (by rfl))
        (fss_cons (x_set 4 sc_law_bent.nd (by rfl) (Or.inl (by rfl)) (fe_if (t_lt (fe_var 3) (fe_int)) (fe_lst (x_cons (x_call (ok_law_bent T0 kk) (hr.mono (by omega)) hgd (by rfl) T0.m_law_bent T0.F_law_bent.kp T0.b_law_bent (by rfl) tk (x_cons (fe_var 0) (x_cons (d_ix (fe_var 1) (fe_var 2) (by intro _ _; rfl)) (fa_nil) (by rfl)) (by rfl)) (ll_cons (ll_cons (ll_nil))) (by decide) (by rfl) (by rfl)) (fa_nil) (by rfl))) (fe_lst (fa_nil))) (by rfl) (Or.inr (by rfl)))
        (fss_cons (fs_if (x_val (c_isi T0.z_isinstance (x_cons (fe_var 1) (x_cons (d_ty T0.z_tuple) (fa_nil) (by rfl)) (by rfl)) (by rfl) (by rfl) (by rfl)) (by intro _; rfl)) (fss_one (x_set 4 sc_law_bent.nd (by rfl) (Or.inl (by rfl)) (c_tuple  T0.z_tuple (x_cons (fe_var 4) (fa_nil) (by rfl)) (by rfl) (by rfl) (by rfl)) (by rfl) (Or.inr (by rfl)))) (fss_nil))
        (fss_cons (fs_if (t_lt (fe_var 3) (fe_int)) (fss_one (fs_ret (d_add (d_add (fe_cut (fe_var 1) (fo_none) (fo_some (fe_var 2))) (fe_var 4)) (fe_cut (fe_var 1) (fo_some (d_add (fe_var 2) (fe_int))) (fo_none))))) (fss_nil))
        (fss_cons (x_set 5 sc_law_bent.nd (by rfl) (Or.inl (by rfl)) (fe_lst (x_cons (d_add (fe_cut (fe_var 1) (fo_none) (fo_some (fe_var 2))) (fe_cut (fe_var 1) (fo_some (d_add (fe_var 2) (fe_int))) (fo_none))) (x_cons (d_add (fe_cut (fe_var 1) (fo_none) (fo_some (d_add (fe_var 2) (fe_int)))) (fe_cut (fe_var 1) (fo_some (fe_var 2)) (fo_none))) (x_cons (x_rev (fe_var 1)) (fa_nil) (by rfl)) (by rfl)) (by rfl))) (by rfl) (Or.inr (by rfl)))
        (fss_one (fs_ret (d_ix (d_add (fe_var 5) (fe_lst (x_cons (fe_if (x_val (c_isi T0.z_isinstance (x_cons (fe_var 1) (x_cons (d_ty T0.z_list) (fa_nil) (by rfl)) (by rfl)) (by rfl) (by rfl) (by rfl)) (by intro _; rfl)) (c_tuple  T0.z_tuple (x_cons (fe_var 1) (fa_nil) (by rfl)) (by rfl) (by rfl) (by rfl)) (c_list  T0.z_list (x_cons (fe_var 1) (fa_nil) (by rfl)) (by rfl) (by rfl) (by rfl))) (fa_nil) (by rfl)))) (d_sub (fe_var 3) (fe_int)) (by intro _ _; rfl))))))))) (fss_nil))
        (fss_cons (fs_if (t_and (fw_and (x_val (c_isi T0.z_isinstance (x_cons (fe_var 1) (x_cons (d_ty T0.z_str) (fa_nil) (by rfl)) (by rfl)) (by rfl) (by rfl) (by rfl)) (by intro _; rfl)) (fw_and1 (t_gt (x_call (ok_law_draw T0) (hr.mono (by omega)) hgd (by rfl) T0.m_law_draw T0.F_law_draw.kp T0.b_law_draw (by rfl) tk (x_cons (fe_var 0) (x_cons (fe_int) (fa_nil) (by rfl)) (by rfl)) (ll_cons (ll_cons (ll_nil))) (by decide) (by rfl) (by rfl)) (fe_int))))) (fss_cons (x_par 2 6 (by rfl) sc_law_bent.nd (by rfl) (by rfl) (by decide) (by rfl) (by rfl) (x_cons (x_call (ok_law_draw T0) (hr.mono (by omega)) hgd (by rfl) T0.m_law_draw T0.F_law_draw.kp T0.b_law_draw (by rfl) tk (x_cons (fe_var 0) (x_cons (d_add (c_len  T0.z_len (x_cons (fe_var 1) (fa_nil) (by rfl)) (by rfl) (by rfl) (by rfl)) (fe_int)) (fa_nil) (by rfl)) (by rfl)) (ll_cons (ll_cons (ll_nil))) (by decide) (by rfl) (by rfl)) (x_cons (x_call (ok_law_pick T0) (hr.mono (by omega)) hgd (by rfl) T0.m_law_pick T0.F_law_pick.kp T0.b_law_pick (by rfl) tk (x_cons (fe_var 0) (x_cons (fe_str) (fa_nil) (by rfl)) (by rfl)) (ll_cons (ll_cons (ll_nil))) (by decide) (by rfl) (by rfl)) (fa_nil) (by rfl)) (by rfl)) (by rfl) (by rfl))
        (fss_one (fs_ret (x_call (ok_law_pick T0) (hr.mono (by omega)) hgd (by rfl) T0.m_law_pick T0.F_law_pick.kp T0.b_law_pick (by rfl) tk (x_cons (fe_var 0) (x_cons (fe_lst (x_cons (d_add (d_add (fe_cut (fe_var 1) (fo_none) (fo_some (fe_var 2))) (fe_var 6)) (fe_cut (fe_var 1) (fo_some (fe_var 2)) (fo_none))) (x_cons (d_add (d_add (fe_cut (fe_var 1) (fo_none) (fo_some (fe_var 2))) (fe_var 6)) (fe_cut (fe_var 1) (fo_some (d_add (fe_var 2) (fe_int))) (fo_none))) (x_cons (fe_cut (fe_var 1) (fo_none) (fo_some (fe_var 2))) (fa_nil) (by rfl)) (by rfl)) (by rfl))) (fa_nil) (by rfl)) (by rfl)) (ll_cons (ll_cons (ll_nil))) (by decide) (by rfl) (by rfl))))) (fss_nil))
        (fss_cons (fs_if (t_and (fw_and (x_val (c_isi T0.z_isinstance (x_cons (fe_var 1) (x_cons (d_ty T0.z_int) (fa_nil) (by rfl)) (by rfl)) (by rfl) (by rfl) (by rfl)) (by intro _; rfl)) (fw_and1 (t_gt (x_call (ok_law_draw T0) (hr.mono (by omega)) hgd (by rfl) T0.m_law_draw T0.F_law_draw.kp T0.b_law_draw (by rfl) tk (x_cons (fe_var 0) (x_cons (fe_int) (fa_nil) (by rfl)) (by rfl)) (ll_cons (ll_cons (ll_nil))) (by decide) (by rfl) (by rfl)) (fe_int))))) (fss_one (fs_ret (x_call (ok_law_pick T0) (hr.mono (by omega)) hgd (by rfl) T0.m_law_pick T0.F_law_pick.kp T0.b_law_pick (by rfl) tk (x_cons (fe_var 0) (x_cons (fe_lst (x_cons (d_addX (fe_var 1) (fe_int)) (x_cons (d_subX (fe_var 1) (fe_int)) (x_cons (d_negX (fe_var 1)) (x_cons (c_str T0.z_str (x_cons (fe_var 1) (fa_nil) (by rfl)) (by rfl) (by rfl) (by rfl)) (x_cons (d_eq hu (fe_var 1) (fe_int)) (x_cons (d_mulX (fe_var 1) (fe_int)) (x_cons (d_pow (fe_int) (fe_int)) (x_cons (fe_int) (x_cons (fe_int) (fa_nil) (by rfl)) (by rfl)) (by rfl)) (by rfl)) (by rfl)) (by rfl)) (by rfl)) (by rfl)) (by rfl))) (fa_nil) (by rfl)) (by rfl)) (ll_cons (ll_cons (ll_nil))) (by decide) (by rfl) (by rfl)))) (fss_nil))
        (fss_one (fs_ret (x_call (ok_law_odd T0) (hr.mono (by omega)) hgd (by rfl) T0.m_law_odd T0.F_law_odd.kp T0.b_law_odd (by rfl) tk (x_cons (fe_var 0) (fa_nil) (by rfl)) (ll_cons (ll_nil)) (by decide) (by rfl) (by rfl))))))
theorem sc_law : FnScope ["_law_script", "_law_pen_here", "_law_bout", "_law_count", "_law_scale_here", "_law_deep", "_law_k", "_law_word", "_law_more", "_law_some", "_law_thing", "_law_many", "_law_kept", "_law_due"] ["_law_script"] (defScope (top 20)) := ⟨rfl, rfl, rfl, by decide +kernel, rfl, by decide +kernel, by decide +kernel⟩
theorem ok_law (T0 : Txt K mg w T) : FnG P w K mg base 24 T0.a_law T0.d_law ["_law_script"] (spF K T 1 f_law) :=
  fn_ok T0.F_law sc_law rfl fun cdv A outer s H E hr hgd => by
    have hu := hr.u64
    have tk := (takes_of rfl rfl rfl rfl : Takes (cxOf (L2.CX P w) P w K mg base ["_law_script", "_law_pen_here", "_law_bout", "_law_count", "_law_scale_here", "_law_deep", "_law_k", "_law_word", "_law_more", "_law_some", "_law_thing", "_law_many", "_law_kept", "_law_due"] "law" (defScope (top 20)) T0.a_law cdv A outer s H E) (fun c dx _ H' => E c dx H'))
    exact fss_cons (x_set 1 sc_law.nd (by rfl) (Or.inl (by rfl)) (x_call (ok_law_pen T0) (hr.mono (by decide)) hgd (by rfl) T0.m_law_pen T0.F_law_pen.kp T0.b_law_pen (by rfl) tk (x_cons (fe_var 0) (fa_nil) (by rfl)) (ll_cons (ll_nil)) (by decide) (by rfl) (by rfl)) (by rfl) (Or.inr (by rfl)))
        (fss_cons (x_for (passes_of (by rfl)) (by rfl) (x_range1 (by rfl) T0.z_range (x_cons (d_add (fe_int) (c_min2 (by rfl) T0.z_min (x_cons (fe_int) (x_cons (c_len  T0.z_len (x_cons (fe_var 0) (fa_nil) (by rfl)) (by rfl) (by rfl) (by rfl)) (fa_nil) (by rfl)) (by rfl)) (by rfl) (by rfl) (by rfl))) (fa_nil) (by rfl)) (by rfl)) (x_gname sc_law.nd (by rfl) (Or.inl (by rfl)) (Or.inr (by rfl))) (fss_cons (x_set 3 sc_law.nd (by rfl) (Or.inl (by rfl)) (d_add (fe_int) (x_call (ok_law_draw T0) (hr.mono (by decide)) hgd (by rfl) T0.m_law_draw T0.F_law_draw.kp T0.b_law_draw (by rfl) tk (x_cons (fe_var 1) (x_cons (fe_int) (fa_nil) (by rfl)) (by rfl)) (ll_cons (ll_cons (ll_nil))) (by decide) (by rfl) (by rfl))) (by rfl) (Or.inr (by rfl)))
        (fss_cons (x_set 4 sc_law.nd (by rfl) (Or.inl (by rfl)) (x_call (ok_law_scale T0 10) (hr.mono (by decide)) hgd (by rfl) T0.m_law_scale T0.F_law_scale.kp T0.b_law_scale (by rfl) tk (x_cons (fe_var 1) (x_cons (fe_var 3) (x_cons (d_add (fe_int) (x_call (ok_law_draw T0) (hr.mono (by decide)) hgd (by rfl) T0.m_law_draw T0.F_law_draw.kp T0.b_law_draw (by rfl) tk (x_cons (fe_var 1) (x_cons (fe_int) (fa_nil) (by rfl)) (by rfl)) (ll_cons (ll_cons (ll_nil))) (by decide) (by rfl) (by rfl))) (fa_nil) (by rfl)) (by rfl)) (by rfl)) (ll_cons (ll_cons (ll_cons (ll_nil)))) (by decide) (by rfl) (by rfl)) (by rfl) (Or.inr (by rfl)))
        (fss_cons (x_set 5 sc_law.nd (by rfl) (Or.inl (by rfl)) (fe_var 4) (by rfl) (Or.inr (by rfl)))
        (fss_cons (x_for (passes_of (by rfl)) (by rfl) (x_range1 (by rfl) T0.z_range (x_cons (x_call (ok_law_draw T0) (hr.mono (by decide)) hgd (by rfl) T0.m_law_draw T0.F_law_draw.kp T0.b_law_draw (by rfl) tk (x_cons (fe_var 1) (x_cons (fe_int) (fa_nil) (by rfl)) (by rfl)) (ll_cons (ll_cons (ll_nil))) (by decide) (by rfl) (by rfl)) (fa_nil) (by rfl)) (by rfl)) (x_gname sc_law.nd (by rfl) (Or.inl (by rfl)) (Or.inr (by rfl))) (fss_cons (x_par 7 8 (by rfl) sc_law.nd (by rfl) (by rfl) (by decide) (by rfl) (by rfl) (x_cons (x_call (ok_law_pick T0) (hr.mono (by decide)) hgd (by rfl) T0.m_law_pick T0.F_law_pick.kp T0.b_law_pick (by rfl) tk (x_cons (fe_var 1) (x_cons (fe_lst (x_cons (fe_str) (x_cons (fe_str) (x_cons (fe_str) (fa_nil) (by rfl)) (by rfl)) (by rfl))) (fa_nil) (by rfl)) (by rfl)) (ll_cons (ll_cons (ll_nil))) (by decide) (by rfl) (by rfl)) (x_cons (x_call (ok_law_scale T0 10) (hr.mono (by decide)) hgd (by rfl) T0.m_law_scale T0.F_law_scale.kp T0.b_law_scale (by rfl) tk (x_cons (fe_var 1) (x_cons (fe_var 3) (x_cons (fe_int) (fa_nil) (by rfl)) (by rfl)) (by rfl)) (ll_cons (ll_cons (ll_cons (ll_nil)))) (by decide) (by rfl) (by rfl)) (fa_nil) (by rfl)) (by rfl)) (by rfl) (by rfl))
        (fss_one (x_set 5 sc_law.nd (by rfl) (Or.inl (by rfl)) (d_ix (fe_lst (x_cons (fe_tup (x_cons (fe_var 7) (x_cons (fe_var 5) (x_cons (fe_var 8) (fa_nil) (by rfl)) (by rfl)) (by rfl))) (x_cons (fe_tup (x_cons (fe_var 7) (x_cons (fe_var 8) (x_cons (fe_var 5) (fa_nil) (by rfl)) (by rfl)) (by rfl))) (fa_nil) (by rfl)) (by rfl))) (x_call (ok_law_draw T0) (hr.mono (by decide)) hgd (by rfl) T0.m_law_draw T0.F_law_draw.kp T0.b_law_draw (by rfl) tk (x_cons (fe_var 1) (x_cons (fe_int) (fa_nil) (by rfl)) (by rfl)) (ll_cons (ll_cons (ll_nil))) (by decide) (by rfl) (by rfl)) (by intro _ _; rfl)) (by rfl) (Or.inr (by rfl))))) (by intro _; rfl))
        (fss_cons (x_setO 9 sc_law.nd (by rfl) (Or.inl (by rfl)) (feo_lst (x_cons (fe_var 4) (x_cons (fe_var 5) (x_cons (fe_tup (x_cons (fe_str) (x_cons (d_mul (fe_tup (x_cons (fe_int) (fa_nil) (by rfl))) (fe_var 3)) (fa_nil) (by rfl)) (by rfl))) (x_cons (fe_tup (x_cons (fe_str) (x_cons (d_mul (fe_tup (x_cons (fe_int) (fa_nil) (by rfl))) (fe_var 3)) (fa_nil) (by rfl)) (by rfl))) (x_cons (fe_tup (x_cons (fe_str) (x_cons (d_mul (fe_tup (x_cons (fe_int) (fa_nil) (by rfl))) (fe_var 3)) (fa_nil) (by rfl)) (by rfl))) (x_cons (fe_tup (fa_nil)) (x_cons (fe_str) (x_cons (fe_non) (fa_nil) (by rfl)) (by rfl)) (by rfl)) (by rfl)) (by rfl)) (by rfl)) (by rfl)) (by rfl))) (by rfl) (Or.inr (by rfl)))
        (fss_cons (x_for (passes_of (by rfl)) (by rfl) (x_range1 (by rfl) T0.z_range (x_cons (fe_int) (fa_nil) (by rfl)) (by rfl)) (x_gname sc_law.nd (by rfl) (Or.inl (by rfl)) (Or.inr (by rfl))) (fss_cons (x_app 9 (by rfl) (Or.inl (by rfl)) (x_call (ok_law_bent T0 20) (hr.mono (by decide)) hgd (by rfl) T0.m_law_bent T0.F_law_bent.kp T0.b_law_bent (by rfl) tk (x_cons (fe_var 1) (x_cons (d_ix (fe_lst (x_cons (fe_var 4) (x_cons (fe_var 5) (fa_nil) (by rfl)) (by rfl))) (d_mod (fe_var 6) (fe_int)) (by intro _ _; rfl)) (fa_nil) (by rfl)) (by rfl)) (ll_cons (ll_cons (ll_nil))) (by decide) (by rfl) (by rfl)) (by decide) (by decide) (by rfl) (by rfl) (by rfl) (by rfl) (by rfl) (by rfl))
        (fss_one (x_app 9 (by rfl) (Or.inl (by rfl)) (x_call (ok_law_bent T0 20) (hr.mono (by decide)) hgd (by rfl) T0.m_law_bent T0.F_law_bent.kp T0.b_law_bent (by rfl) tk (x_cons (fe_var 1) (x_cons (x_ixV 9 (by rfl) (Or.inl (by rfl)) (by decide) (by decide) (d_neg (fe_int)) (by intro _ _; rfl)) (fa_nil) (by rfl)) (by rfl)) (ll_cons (ll_cons (ll_nil))) (by decide) (by rfl) (by rfl)) (by decide) (by decide) (by rfl) (by rfl) (by rfl) (by rfl) (by rfl) (by rfl)))) (by intro _; rfl))
        (fss_one (fs_frz 9 (x_for (passes_of (by rfl)) (by rfl) (fi_seq (fe_var 9)) (x_gname sc_law.nd (by rfl) (Or.inl (by rfl)) (Or.inr (by rfl))) (fss_one (x_for (passes_of (by rfl)) (by rfl) (fi_seq (fe_tup (x_cons (fe_var 3) (x_cons (d_add (d_mod (fe_var 3) (fe_int)) (fe_int)) (fa_nil) (by rfl)) (by rfl)))) (x_gname sc_law.nd (by rfl) (Or.inl (by rfl)) (Or.inr (by rfl))) (fss_cons (x_par 12 13 (by rfl) sc_law.nd (by rfl) (by rfl) (by decide) (by rfl) (by rfl) (x_cons (c_repr hgd hu T0.z_repr (x_cons (fe_var 10) (fa_nil) (by rfl)) (by rfl) (by rfl) (by rfl)) (x_cons (x_call (ok_law_is_scale T0 10) (hr.mono (by decide)) hgd (by rfl) T0.m_law_is_scale T0.F_law_is_scale.kp T0.b_law_is_scale (by rfl) tk (x_cons (fe_var 10) (x_cons (fe_var 11) (x_cons (fe_int) (fa_nil) (by rfl)) (by rfl)) (by rfl)) (ll_cons (ll_cons (ll_cons (ll_nil)))) (by decide) (by rfl) (by rfl)) (fa_nil) (by rfl)) (by rfl)) (by rfl) (by rfl))
        (fss_one (fs_if (t_or (fw_or (t_ne hu (c_repr hgd hu T0.z_repr (x_cons (x_call (ok_is_scale T0) (hr.mono (by decide)) hgd (by rfl) T0.m_is_scale T0.F_is_scale.kp T0.b_is_scale (by rfl) tk (x_cons (fe_var 10) (x_cons (fe_var 11) (fa_nil) (by rfl)) (by rfl)) (ll_cons (ll_cons (ll_nil))) (by decide) (by rfl) (by rfl)) (fa_nil) (by rfl)) (by rfl) (by rfl) (by rfl)) (c_repr hgd hu T0.z_repr (x_cons (fe_var 13) (fa_nil) (by rfl)) (by rfl) (by rfl) (by rfl))) (fw_or1 (t_ne hu (c_repr hgd hu T0.z_repr (x_cons (fe_var 10) (fa_nil) (by rfl)) (by rfl) (by rfl) (by rfl)) (fe_var 12))))) (fss_one (fs_ret (fe_bl))) (fss_nil)))) (by intro _; rfl))) (by intro _; rfl)))))))))) (by intro _; rfl))
        (fss_one (fs_ret (fe_bl))))
end
theorem all_mk {w : World} {K : PySem.W.Frag} {h : Heap} {mg : Str → Option Value} {fa : Addr} (X : K.In h) (G : h.Ns mainGlobals mg) (hfa : mg "law" = some (.ref fa))
    {f0 : Addr} {od0 an0 : Option Addr} {sl0 : Array (Option Value)} {oc0 kV0 dc0 pm0 cd0 ct0 : Value}
    {f1 : Addr} {od1 an1 : Option Addr} {sl1 : Array (Option Value)} {oc1 kV1 dc1 pm1 cd1 ct1 : Value}
    {f2 : Addr} {od2 an2 : Option Addr} {sl2 : Array (Option Value)} {oc2 kV2 dc2 pm2 cd2 ct2 : Value}
    {f3 : Addr} {od3 an3 : Option Addr} {sl3 : Array (Option Value)} {oc3 kV3 dc3 pm3 cd3 ct3 : Value}
    {f4 : Addr} {od4 an4 : Option Addr} {sl4 : Array (Option Value)} {oc4 kV4 dc4 pm4 cd4 ct4 : Value}
    {f5 : Addr} {od5 an5 : Option Addr} {sl5 : Array (Option Value)} {oc5 kV5 dc5 pm5 cd5 ct5 : Value}
    {f6 : Addr} {od6 an6 : Option Addr} {sl6 : Array (Option Value)} {oc6 kV6 dc6 pm6 cd6 ct6 : Value}
    {f7 : Addr} {od7 an7 : Option Addr} {sl7 : Array (Option Value)} {oc7 kV7 dc7 pm7 cd7 ct7 : Value}
    {f8 : Addr} {od8 an8 : Option Addr} {sl8 : Array (Option Value)} {oc8 kV8 dc8 pm8 cd8 ct8 : Value}
    {f9 : Addr} {od9 an9 : Option Addr} {sl9 : Array (Option Value)} {oc9 kV9 dc9 pm9 cd9 ct9 : Value}
    {f10 : Addr} {od10 an10 : Option Addr} {sl10 : Array (Option Value)} {oc10 kV10 dc10 pm10 cd10 ct10 : Value}
    {f11 : Addr} {od11 an11 : Option Addr} {sl11 : Array (Option Value)} {oc11 kV11 dc11 pm11 cd11 ct11 : Value}
    {f12 : Addr} {od12 an12 : Option Addr} {sl12 : Array (Option Value)} {oc12 kV12 dc12 pm12 cd12 ct12 : Value}
    {f13 : Addr} {od13 an13 : Option Addr} {sl13 : Array (Option Value)} {oc13 kV13 dc13 pm13 cd13 ct13 : Value}
    {ct_MOST_WEIGHT : Tok}
    {ca_OF_TWO : Addr} {cd_OF_TWO : Option Addr} {cn_OF_TWO : Nat} {cs_OF_TWO : Array (Option Value)} {tc0_OF_TWO : Tok} {tc1_OF_TWO : Tok} {tc2_OF_TWO : Tok}
    {ca_ALONE : Addr} {cd_ALONE : Option Addr} {cn_ALONE : Nat} {cs_ALONE : Array (Option Value)} {tc0_ALONE : Tok} {tc1_ALONE : Tok} {tc2_ALONE : Tok}
    {ct_MOST_DEEP : Tok}
    (a0 : PySem.W.nsIn K mainGlobals "is_whole" = some (some (.ref f0))) (l0 : K.lookup f0 = some ⟨oc0, od0, .func (PySem.W.fnOf "is_whole" "is_whole" (defArgs (top 1)) (defBody (top 1)) (defScope (top 1)) .none kV0 dc0 pm0 an0 cd0 ct0), sl0⟩) (c0 : PySem.W.codeIn K cd0 "is_whole" = true) (k0 : PySem.W.keepIn K (.ref f0) = true)
    (a1 : PySem.W.nsIn K mainGlobals "_law_pen" = some (some (.ref f1))) (l1 : K.lookup f1 = some ⟨oc1, od1, .func (PySem.W.fnOf "_law_pen" "_law_pen" (defArgs (top 12)) (defBody (top 12)) (defScope (top 12)) .none kV1 dc1 pm1 an1 cd1 ct1), sl1⟩) (c1 : PySem.W.codeIn K cd1 "_law_pen" = true) (k1 : PySem.W.keepIn K (.ref f1) = true)
    (a2 : PySem.W.nsIn K mainGlobals "_law_draw" = some (some (.ref f2))) (l2 : K.lookup f2 = some ⟨oc2, od2, .func (PySem.W.fnOf "_law_draw" "_law_draw" (defArgs (top 13)) (defBody (top 13)) (defScope (top 13)) .none kV2 dc2 pm2 an2 cd2 ct2), sl2⟩) (c2 : PySem.W.codeIn K cd2 "_law_draw" = true) (k2 : PySem.W.keepIn K (.ref f2) = true)
    (a3 : PySem.W.nsIn K mainGlobals "_law_is_from" = some (some (.ref f3))) (l3 : K.lookup f3 = some ⟨oc3, od3, .func (PySem.W.fnOf "_law_is_from" "_law_is_from" (defArgs (top 18)) (defBody (top 18)) (defScope (top 18)) .none kV3 dc3 pm3 an3 cd3 ct3), sl3⟩) (c3 : PySem.W.codeIn K cd3 "_law_is_from" = true) (k3 : PySem.W.keepIn K (.ref f3) = true)
    (a4 : PySem.W.nsIn K mainGlobals "is_from" = some (some (.ref f4))) (l4 : K.lookup f4 = some ⟨oc4, od4, .func (PySem.W.fnOf "is_from" "is_from" (defArgs (top 2)) (defBody (top 2)) (defScope (top 2)) .none kV4 dc4 pm4 an4 cd4 ct4), sl4⟩) (c4 : PySem.W.codeIn K cd4 "is_from" = true) (k4 : PySem.W.keepIn K (.ref f4) = true)
    (a5 : PySem.W.nsIn K mainGlobals "_law_pick" = some (some (.ref f5))) (l5 : K.lookup f5 = some ⟨oc5, od5, .func (PySem.W.fnOf "_law_pick" "_law_pick" (defArgs (top 14)) (defBody (top 14)) (defScope (top 14)) .none kV5 dc5 pm5 an5 cd5 ct5), sl5⟩) (c5 : PySem.W.codeIn K cd5 "_law_pick" = true) (k5 : PySem.W.keepIn K (.ref f5) = true)
    (a6 : PySem.W.nsIn K mainGlobals "are_weights" = some (some (.ref f6))) (l6 : K.lookup f6 = some ⟨oc6, od6, .func (PySem.W.fnOf "are_weights" "are_weights" (defArgs (top 8)) (defBody (top 8)) (defScope (top 8)) .none kV6 dc6 pm6 an6 cd6 ct6), sl6⟩) (c6 : PySem.W.codeIn K cd6 "are_weights" = true) (k6 : PySem.W.keepIn K (.ref f6) = true)
    (a7 : PySem.W.nsIn K mainGlobals "_law_odd" = some (some (.ref f7))) (l7 : K.lookup f7 = some ⟨oc7, od7, .func (PySem.W.fnOf "_law_odd" "_law_odd" (defArgs (top 16)) (defBody (top 16)) (defScope (top 16)) .none kV7 dc7 pm7 an7 cd7 ct7), sl7⟩) (c7 : PySem.W.codeIn K cd7 "_law_odd" = true) (k7 : PySem.W.keepIn K (.ref f7) = true)
    (a8 : PySem.W.nsIn K mainGlobals "_law_is_scale" = some (some (.ref f8))) (l8 : K.lookup f8 = some ⟨oc8, od8, .func (PySem.W.fnOf "_law_is_scale" "_law_is_scale" (defArgs (top 19)) (defBody (top 19)) (defScope (top 19)) .none kV8 dc8 pm8 an8 cd8 ct8), sl8⟩) (c8 : PySem.W.codeIn K cd8 "_law_is_scale" = true) (k8 : PySem.W.keepIn K (.ref f8) = true)
    (a9 : PySem.W.nsIn K mainGlobals "_law_scale" = some (some (.ref f9))) (l9 : K.lookup f9 = some ⟨oc9, od9, .func (PySem.W.fnOf "_law_scale" "_law_scale" (defArgs (top 15)) (defBody (top 15)) (defScope (top 15)) .none kV9 dc9 pm9 an9 cd9 ct9), sl9⟩) (c9 : PySem.W.codeIn K cd9 "_law_scale" = true) (k9 : PySem.W.keepIn K (.ref f9) = true)
    (a10 : PySem.W.nsIn K mainGlobals "is_scale_of" = some (some (.ref f10))) (l10 : K.lookup f10 = some ⟨oc10, od10, .func (PySem.W.fnOf "is_scale_of" "is_scale_of" (defArgs (top 9)) (defBody (top 9)) (defScope (top 9)) .none kV10 dc10 pm10 an10 cd10 ct10), sl10⟩) (c10 : PySem.W.codeIn K cd10 "is_scale_of" = true) (k10 : PySem.W.keepIn K (.ref f10) = true)
    (a11 : PySem.W.nsIn K mainGlobals "is_scale" = some (some (.ref f11))) (l11 : K.lookup f11 = some ⟨oc11, od11, .func (PySem.W.fnOf "is_scale" "is_scale" (defArgs (top 10)) (defBody (top 10)) (defScope (top 10)) .none kV11 dc11 pm11 an11 cd11 ct11), sl11⟩) (c11 : PySem.W.codeIn K cd11 "is_scale" = true) (k11 : PySem.W.keepIn K (.ref f11) = true)
    (a12 : PySem.W.nsIn K mainGlobals "_law_bent" = some (some (.ref f12))) (l12 : K.lookup f12 = some ⟨oc12, od12, .func (PySem.W.fnOf "_law_bent" "_law_bent" (defArgs (top 17)) (defBody (top 17)) (defScope (top 17)) .none kV12 dc12 pm12 an12 cd12 ct12), sl12⟩) (c12 : PySem.W.codeIn K cd12 "_law_bent" = true) (k12 : PySem.W.keepIn K (.ref f12) = true)
    (a13 : PySem.W.nsIn K mainGlobals "law" = some (some (.ref f13))) (l13 : K.lookup f13 = some ⟨oc13, od13, .func (PySem.W.fnOf "law" "law" (defArgs (top 20)) (defBody (top 20)) (defScope (top 20)) .none kV13 dc13 pm13 an13 cd13 ct13), sl13⟩) (c13 : PySem.W.codeIn K cd13 "law" = true) (k13 : PySem.W.keepIn K (.ref f13) = true)
    (cg_MOST_WEIGHT : PySem.W.nsIn K mainGlobals "MOST_WEIGHT" = some (some (.int 1000 ct_MOST_WEIGHT)))
    (cg_OF_TWO : PySem.W.nsIn K mainGlobals "OF_TWO" = some (some (.ref ca_OF_TWO))) (cl_OF_TWO : K.lookup ca_OF_TWO = some ⟨.type "tuple", cd_OF_TWO, .seq #[.str "add" tc0_OF_TWO, .str "lesser" tc1_OF_TWO, .str "greater" tc2_OF_TWO] cn_OF_TWO, cs_OF_TWO⟩)
    (cg_ALONE : PySem.W.nsIn K mainGlobals "ALONE" = some (some (.ref ca_ALONE))) (cl_ALONE : K.lookup ca_ALONE = some ⟨.type "tuple", cd_ALONE, .seq #[.str "times" tc0_ALONE, .str "low" tc1_ALONE, .str "high" tc2_ALONE] cn_ALONE, cs_ALONE⟩)
    (cg_MOST_DEEP : PySem.W.nsIn K mainGlobals "MOST_DEEP" = some (some (.int 4 ct_MOST_DEEP)))
    (z_abs : PySem.W.nsIn K mainGlobals "abs" = some none)
    (z_all : PySem.W.nsIn K mainGlobals "all" = some none)
    (z_bool : PySem.W.nsIn K mainGlobals "bool" = some none)
    (z_int : PySem.W.nsIn K mainGlobals "int" = some none)
    (z_isinstance : PySem.W.nsIn K mainGlobals "isinstance" = some none)
    (z_len : PySem.W.nsIn K mainGlobals "len" = some none)
    (z_list : PySem.W.nsIn K mainGlobals "list" = some none)
    (z_min : PySem.W.nsIn K mainGlobals "min" = some none)
    (z_range : PySem.W.nsIn K mainGlobals "range" = some none)
    (z_repr : PySem.W.nsIn K mainGlobals "repr" = some none)
    (z_str : PySem.W.nsIn K mainGlobals "str" = some none)
    (z_tuple : PySem.W.nsIn K mainGlobals "tuple" = some none) :
    ∃ (fd : FuncData) (T : Tab), (∀ (s : Shared) (u : Value), BindsTo s fd ⟨[u], []⟩ [("_law_script", u)]) ∧ ∀ base : Heap, K.In base → base.Ns mainGlobals mg → FnG prg w K mg base 24 fa fd ["_law_script"] (spF K T 1 f_law) := by
  have e := hfa.symm.trans (PySem.W.mg_of X G a13)
  cases e
  have F0 := fun_mk (st := top 1) l0 c0 k0
  have b0 := F0.binds (ps := ["thing"]) fun _ _ _ _ _ _ us hl => match us, hl with | [_], _ => rfl
  have F1 := fun_mk (st := top 12) l1 c1 k1
  have b1 := F1.binds (ps := ["_law_script"]) fun _ _ _ _ _ _ us hl => match us, hl with | [_], _ => rfl
  have F2 := fun_mk (st := top 13) l2 c2 k2
  have b2 := F2.binds (ps := ["_law_pen_here", "_law_many"]) fun _ _ _ _ _ _ us hl => match us, hl with | [_, _], _ => rfl
  have F3 := fun_mk (st := top 18) l3 c3 k3
  have b3 := F3.binds (ps := ["_law_thing", "_law_low", "_law_high"]) fun _ _ _ _ _ _ us hl => match us, hl with | [_, _, _], _ => rfl
  have F4 := fun_mk (st := top 2) l4 c4 k4
  have b4 := F4.binds (ps := ["thing", "least", "most"]) fun _ _ _ _ _ _ us hl => match us, hl with | [_, _, _], _ => rfl
  have F5 := fun_mk (st := top 14) l5 c5 k5
  have b5 := F5.binds (ps := ["_law_pen_here", "_law_some"]) fun _ _ _ _ _ _ us hl => match us, hl with | [_, _], _ => rfl
  have F6 := fun_mk (st := top 8) l6 c6 k6
  have b6 := F6.binds (ps := ["thing", "many"]) fun _ _ _ _ _ _ us hl => match us, hl with | [_, _], _ => rfl
  have F7 := fun_mk (st := top 16) l7 c7 k7
  have b7 := F7.binds (ps := ["_law_pen_here"]) fun _ _ _ _ _ _ us hl => match us, hl with | [_], _ => rfl
  have F8 := fun_mk (st := top 19) l8 c8 k8
  have b8 := F8.binds (ps := ["_law_thing", "_law_many", "_law_deep"]) fun _ _ _ _ _ _ us hl => match us, hl with | [_, _, _], _ => rfl
  have F9 := fun_mk (st := top 15) l9 c9 k9
  have b9 := F9.binds (ps := ["_law_pen_here", "_law_many", "_law_deep"]) fun _ _ _ _ _ _ us hl => match us, hl with | [_, _, _], _ => rfl
  have F10 := fun_mk (st := top 9) l10 c10 k10
  have b10 := F10.binds (ps := ["thing", "many", "deep"]) fun _ _ _ _ _ _ us hl => match us, hl with | [_, _, _], _ => rfl
  have F11 := fun_mk (st := top 10) l11 c11 k11
  have b11 := F11.binds (ps := ["thing", "many"]) fun _ _ _ _ _ _ us hl => match us, hl with | [_, _], _ => rfl
  have F12 := fun_mk (st := top 17) l12 c12 k12
  have b12 := F12.binds (ps := ["_law_pen_here", "_law_thing"]) fun _ _ _ _ _ _ us hl => match us, hl with | [_, _], _ => rfl
  have F13 := fun_mk (st := top 20) l13 c13 k13
  have b13 := F13.binds (ps := ["_law_script"]) fun _ _ _ _ _ _ us hl => match us, hl with | [_], _ => rfl
  refine ⟨_, ⟨fun _ => none, fun _ => none⟩, fun s v => .of_eq rfl, fun base _ _ => ok_law (⟨_, _, F0, b0, PySem.W.mg_of X G a0, _, _, F1, b1, PySem.W.mg_of X G a1, _, _, F2, b2, PySem.W.mg_of X G a2, _, _, F3, b3, PySem.W.mg_of X G a3, _, _, F4, b4, PySem.W.mg_of X G a4, _, _, F5, b5, PySem.W.mg_of X G a5, _, _, F6, b6, PySem.W.mg_of X G a6, _, _, F7, b7, PySem.W.mg_of X G a7, _, _, F8, b8, PySem.W.mg_of X G a8, _, _, F9, b9, PySem.W.mg_of X G a9, _, _, F10, b10, PySem.W.mg_of X G a10, _, _, F11, b11, PySem.W.mg_of X G a11, _, _, F12, b12, PySem.W.mg_of X G a12, _, _, F13, b13, PySem.W.mg_of X G a13, ⟨_, PySem.W.mg_of X G cg_MOST_WEIGHT⟩, ktup_of (PySem.W.mg_of X G cg_OF_TWO) cl_OF_TWO (.str (.str (.str (.nil)))) (Nat.le_of_ble_eq_true rfl), ktup_of (PySem.W.mg_of X G cg_ALONE) cl_ALONE (.str (.str (.str (.nil)))) (Nat.le_of_ble_eq_true rfl), ⟨_, PySem.W.mg_of X G cg_MOST_DEEP⟩, PySem.W.mg_none_of X G z_abs, PySem.W.mg_none_of X G z_all, PySem.W.mg_none_of X G z_bool, PySem.W.mg_none_of X G z_int, PySem.W.mg_none_of X G z_isinstance, PySem.W.mg_none_of X G z_len, PySem.W.mg_none_of X G z_list, PySem.W.mg_none_of X G z_min, PySem.W.mg_none_of X G z_range, PySem.W.mg_none_of X G z_repr, PySem.W.mg_none_of X G z_str, PySem.W.mg_none_of X G z_tuple⟩ : Txt K mg w _)⟩
end K06

namespace K06
open PySem PySem.Spec L2 G6

theorem e_draw : f_law_draw = g_draw := rfl
theorem e_pen : f_law_pen = g_pen := rfl
theorem e_pick : f_law_pick = g_pick := rfl
theorem e_scale : f_law_scale 10 = g_scale 10 := rfl
theorem e_bent : f_law_bent 20 = g_bent 20 := rfl
theorem e_isscale : f_is_scale = g_isscale := rfl
theorem e_lsc : f_law_is_scale 10 = g_lsc 10 := rfl
theorem cost10 : cost 10 ≤ 23000 := by decide
theorem pen_huge : 1000000000 ≤ penCap := by
  unfold penCap
  exact Nat.le_trans (by decide +kernel : 1000000000 ≤ 2 ^ 40) (Nat.pow_le_pow_right (by decide) (by decide))
theorem ix_neg1 {xs : List D} {d : D} : dIx (.lst (xs ++ [d])) (.int (-1)) = some d := by
  show atI _ (-1) = _
  unfold atI ixN
  rw [if_neg (by decide), if_pos (by rw [List.length_append]; simp only [List.length_cons, List.length_nil]; omega)]
  show (xs ++ [d])[((-1 : Int) + ((xs ++ [d]).length : Int)).toNat]? = _
  have : ((-1 : Int) + ((xs ++ [d]).length : Int)).toNat = xs.length := by rw [List.length_append]; simp; omega
  rw [this]
  simp
theorem word_pick {k : Nat} {g : Gs} {P : RV → Gs → Prop} {E : Exn → Gs → Prop} (hp : Pen (k + 1) g)
    (fin : ∀ (w : String) g', (Str.ofString w).length ≤ 10 → ((Str.ofString w).cps.toList.all fun c => decide (c < 16 ^ 8)) = true → Pen k g' → P (.dat (.str (Str.ofString w))) g') :
    Ok (g_pick [.obj 0, .lst [.str (Str.ofString "add"), .str (Str.ofString "lesser"), .str (Str.ofString "greater")]] g) P E := by
  refine pick_ok hp ?_ ?_ fun d g' hd hp' => ?_
  · decide
  · decide
  simp only [List.mem_cons, List.not_mem_nil, or_false] at hd
  rcases hd with rfl | rfl | rfl <;> exact fin _ _ (by decide +kernel) (by decide +kernel) hp'
theorem law_true (ns : List Int) (hn : ns.length ≤ 63) (hb : ∀ z ∈ ns, Builtin.Int.intBits z ≤ 1048576) : ∃ g', f_law [.scr ns] [] = some (.ok (.dat (.bl true)), g') := by
  clear hb
  suffices h : Ok (f_law [.scr ns] []) (fun rv _ => rv = .dat (.bl true)) noE by
    obtain ⟨a, g', e, rfl⟩ := ok_ex h
    exact ⟨g', e⟩
  unfold f_law
  rw [w_fn]
  show SOk (sSeq _ _ [.dat (.scr ns), .un, .un, .un, .un, .un, .un, .un, .un, .un, .un, .un, .un, .un] []) _
  simp only [e_draw, e_pen, e_pick, e_scale, e_bent, e_isscale, e_lsc]
  rw [q_seq]
  simp only [w_var, lvD_dat, List.getElem?_cons_zero, List.getElem?_cons_succ, w_c, w_op, w_un, w_test, w_gand, w_gor, w_gnot, w_gyes, w_and, w_or, w_not, w_if, w_nil, w_cons, w_tup, w_lst, w_folst, w_folist, w_cb, w_fd, w_call, w_ocall, ovO_own, w_get, w_args, w_items, w_part, intO_int, w_nopart, w_cut, w_folc, q_nx, q_bk, q_ct, q_set, q_setO, q_tg, q_ret, q_retO, q_retN, q_drop, q_if, q_par, q_par3, q_put, q_app, q_for, twoO_two, triO_tri, w_rD, w_rO, lvR_d, lvR_o, q_parR, q_setAt, w_lenv, lenO_o, lenO_l, lenO_t, w_gown, ownL_at, lstO_l, m_oListL, m_oListT, q_appPop, w_intbl, w_attbl, w_callv, fnD_fn, w_tuprg, q_star, q_aug, strD_str, starO_c, rgO_int, m_mulS, m_int1i, m_int1b, m_gseqT, m_gseqL, seqP_rt, seqP_bk, seqP_ct, seqP_xc, midP_nx, midP_rt, midP_bk, midP_ct, midP_xc, fnP_nx, fnP_rt, fnP_xc, rdP_nx, rdP_ct, rdP_bk, rdP_rt, rdP_xc, op_some, op_none, op_ite, op_map, op_bind, ok_ret, ok_some, m_lt, m_le, m_gt, m_ge, m_add, m_addT, m_addL, m_sub, m_mulI, m_mod, m_fdivS, m_powS, m_neg, m_bool, m_abs, m_min2, m_max2, m_lenL, m_lenT, m_lenI, m_tupL, m_tupT, m_lstL, m_lstT, m_rv1, m_rv2, m_ov, m_key, m_kds, m_so, m_rng1, m_gset, m_gtup, m_gsc, m_gsn, m_zipL, m_zipT, m_itL, m_itT, m_cutT, m_cutL, eq_I, ne_I, no_nil, no_cons, no_un, no_dat, wi_nil, wi_cons, Bool.and_true, Bool.true_and, Bool.and_self, and_self, List.set_cons_zero, List.set_cons_succ, List.length_cons, List.length_nil, m_line, Nat.reduceAdd, Nat.reduceLeDiff, Nat.reduceLT, Int.reduceLE, Int.reduceLT, Int.reduceToNat, Int.reducePow, Nat.reducePow, Int.reduceNeg, Int.reduceMul, Int.reduceAdd, Int.reduceSub, Nat.reduceMul, Nat.reduceSub, Int.reduceMod, Int.reduceDiv, Nat.zero_add, true_and, and_true, if_true, if_false, reduceCtorEq, false_implies, forall_const, true_implies, implies_true, decide_eq_true_eq, decide_eq_false_iff_not, beq_iff_eq, beq_eq_false_iff_ne, ne_eq, Bool.not_eq_true, List.append_eq, List.cons_append, List.nil_append, w_chn, w_ixv, lsO_o, lsO_d, w_focat, m_ocat, m_eqnL, m_eqnT, w_disp0, m_ovd, q_frz, frzO_o, frzO_d, m_revL, m_revT, m_addXi, m_addXb, m_subXi, m_subXb, m_mulXi, m_mulXb, m_negXi, m_negXb, m_strXb, m_addS, m_cutS, List.map_nil, List.isEmpty_nil, List.isEmpty_cons]
  refine pen_ok fun g hp => ?_
  rw [m_rv1, seqP_nx, q_seq]
  simp only [w_var, lvD_dat, List.getElem?_cons_zero, List.getElem?_cons_succ, w_c, w_op, w_un, w_test, w_gand, w_gor, w_gnot, w_gyes, w_and, w_or, w_not, w_if, w_nil, w_cons, w_tup, w_lst, w_folst, w_folist, w_cb, w_fd, w_call, w_ocall, ovO_own, w_get, w_args, w_items, w_part, intO_int, w_nopart, w_cut, w_folc, q_nx, q_bk, q_ct, q_set, q_setO, q_tg, q_ret, q_retO, q_retN, q_drop, q_if, q_par, q_par3, q_put, q_app, q_for, twoO_two, triO_tri, w_rD, w_rO, lvR_d, lvR_o, q_parR, q_setAt, w_lenv, lenO_o, lenO_l, lenO_t, w_gown, ownL_at, lstO_l, m_oListL, m_oListT, q_appPop, w_intbl, w_attbl, w_callv, fnD_fn, w_tuprg, q_star, q_aug, strD_str, starO_c, rgO_int, m_mulS, m_int1i, m_int1b, m_gseqT, m_gseqL, seqP_rt, seqP_bk, seqP_ct, seqP_xc, midP_nx, midP_rt, midP_bk, midP_ct, midP_xc, fnP_nx, fnP_rt, fnP_xc, rdP_nx, rdP_ct, rdP_bk, rdP_rt, rdP_xc, op_some, op_none, op_ite, op_map, op_bind, ok_ret, ok_some, m_lt, m_le, m_gt, m_ge, m_add, m_addT, m_addL, m_sub, m_mulI, m_mod, m_fdivS, m_powS, m_neg, m_bool, m_abs, m_min2, m_max2, m_lenL, m_lenT, m_lenI, m_tupL, m_tupT, m_lstL, m_lstT, m_rv1, m_rv2, m_ov, m_key, m_kds, m_so, m_rng1, m_gset, m_gtup, m_gsc, m_gsn, m_zipL, m_zipT, m_itL, m_itT, m_cutT, m_cutL, eq_I, ne_I, no_nil, no_cons, no_un, no_dat, wi_nil, wi_cons, Bool.and_true, Bool.true_and, Bool.and_self, and_self, List.set_cons_zero, List.set_cons_succ, List.length_cons, List.length_nil, m_line, Nat.reduceAdd, Nat.reduceLeDiff, Nat.reduceLT, Int.reduceLE, Int.reduceLT, Int.reduceToNat, Int.reducePow, Nat.reducePow, Int.reduceNeg, Int.reduceMul, Int.reduceAdd, Int.reduceSub, Nat.reduceMul, Nat.reduceSub, Int.reduceMod, Int.reduceDiv, Nat.zero_add, true_and, and_true, if_true, if_false, reduceCtorEq, false_implies, forall_const, true_implies, implies_true, decide_eq_true_eq, decide_eq_false_iff_not, beq_iff_eq, beq_eq_false_iff_ne, ne_eq, Bool.not_eq_true, List.append_eq, List.cons_append, List.nil_append, w_chn, w_ixv, lsO_o, lsO_d, w_focat, m_ocat, m_eqnL, m_eqnT, w_disp0, m_ovd, q_frz, frzO_o, frzO_d, m_revL, m_revT, m_addXi, m_addXb, m_subXi, m_subXb, m_mulXi, m_mulXb, m_negXi, m_negXb, m_strXb, m_addS, m_cutS, List.map_nil, List.isEmpty_nil, List.isEmpty_cons]
  refine ⟨⟨by split <;> omega, by split <;> omega⟩, ?_⟩
  refine for_ok (fun i ls g => ∃ x2 x3 x4 x5 x6 x7 x8 x9 xa xb xc xd, ls = [.dat (.scr ns), .dat (.obj 0), x2, x3, x4, x5, x6, x7, x8, x9, xa, xb, xc, xd] ∧ Pen (200000 * (17 - i)) g) ⟨_, _, _, _, _, _, _, _, _, _, _, _, rfl, hp.less (by have := pen_huge; omega)⟩ ?_ ?_
  · rintro i d ls g hd ⟨x2, x3, x4, x5, x6, x7, x8, x9, xa, xb, xc, xd, rfl, hp⟩
    obtain ⟨hi, rfl⟩ := range_get hd
    have hi16 : i < 16 := by
      revert hi
      split <;> omega
    have hp : Pen (200000 * (17 - (i + 1)) + 200000) g := hp.less (by omega)
    clear hd hi
    generalize hK : 200000 * (17 - (i + 1)) = K at hp
    rw [m_gset, op_some, q_seq]
    simp only [w_var, lvD_dat, List.getElem?_cons_zero, List.getElem?_cons_succ, w_c, w_op, w_un, w_test, w_gand, w_gor, w_gnot, w_gyes, w_and, w_or, w_not, w_if, w_nil, w_cons, w_tup, w_lst, w_folst, w_folist, w_cb, w_fd, w_call, w_ocall, ovO_own, w_get, w_args, w_items, w_part, intO_int, w_nopart, w_cut, w_folc, q_nx, q_bk, q_ct, q_set, q_setO, q_tg, q_ret, q_retO, q_retN, q_drop, q_if, q_par, q_par3, q_put, q_app, q_for, twoO_two, triO_tri, w_rD, w_rO, lvR_d, lvR_o, q_parR, q_setAt, w_lenv, lenO_o, lenO_l, lenO_t, w_gown, ownL_at, lstO_l, m_oListL, m_oListT, q_appPop, w_intbl, w_attbl, w_callv, fnD_fn, w_tuprg, q_star, q_aug, strD_str, starO_c, rgO_int, m_mulS, m_int1i, m_int1b, m_gseqT, m_gseqL, seqP_rt, seqP_bk, seqP_ct, seqP_xc, midP_nx, midP_rt, midP_bk, midP_ct, midP_xc, fnP_nx, fnP_rt, fnP_xc, rdP_nx, rdP_ct, rdP_bk, rdP_rt, rdP_xc, op_some, op_none, op_ite, op_map, op_bind, ok_ret, ok_some, m_lt, m_le, m_gt, m_ge, m_add, m_addT, m_addL, m_sub, m_mulI, m_mod, m_fdivS, m_powS, m_neg, m_bool, m_abs, m_min2, m_max2, m_lenL, m_lenT, m_lenI, m_tupL, m_tupT, m_lstL, m_lstT, m_rv1, m_rv2, m_ov, m_key, m_kds, m_so, m_rng1, m_gset, m_gtup, m_gsc, m_gsn, m_zipL, m_zipT, m_itL, m_itT, m_cutT, m_cutL, eq_I, ne_I, no_nil, no_cons, no_un, no_dat, wi_nil, wi_cons, Bool.and_true, Bool.true_and, Bool.and_self, and_self, List.set_cons_zero, List.set_cons_succ, List.length_cons, List.length_nil, m_line, Nat.reduceAdd, Nat.reduceLeDiff, Nat.reduceLT, Int.reduceLE, Int.reduceLT, Int.reduceToNat, Int.reducePow, Nat.reducePow, Int.reduceNeg, Int.reduceMul, Int.reduceAdd, Int.reduceSub, Nat.reduceMul, Nat.reduceSub, Int.reduceMod, Int.reduceDiv, Nat.zero_add, true_and, and_true, if_true, if_false, reduceCtorEq, false_implies, forall_const, true_implies, implies_true, decide_eq_true_eq, decide_eq_false_iff_not, beq_iff_eq, beq_eq_false_iff_ne, ne_eq, Bool.not_eq_true, List.append_eq, List.cons_append, List.nil_append, w_chn, w_ixv, lsO_o, lsO_d, w_focat, m_ocat, m_eqnL, m_eqnT, w_disp0, m_ovd, q_frz, frzO_o, frzO_d, m_revL, m_revT, m_addXi, m_addXb, m_subXi, m_subXb, m_mulXi, m_mulXb, m_negXi, m_negXb, m_strXb, m_addS, m_cutS, List.map_nil, List.isEmpty_nil, List.isEmpty_cons]
    refine draw_ok (k := K + 199999) hp (by decide) (by decide) fun n g n0 n1 hp => ?_
    rw [m_rv1]
    generalize hm : 1 + n = m
    obtain ⟨c, hc, c1, c8⟩ : ∃ c : Nat, m.toNat = c ∧ 1 ≤ c ∧ c ≤ 8 := ⟨m.toNat, rfl, by omega, by omega⟩
    try simp only [w_var, lvD_dat, List.getElem?_cons_zero, List.getElem?_cons_succ, w_c, w_op, w_un, w_test, w_gand, w_gor, w_gnot, w_gyes, w_and, w_or, w_not, w_if, w_nil, w_cons, w_tup, w_lst, w_folst, w_folist, w_cb, w_fd, w_call, w_ocall, ovO_own, w_get, w_args, w_items, w_part, intO_int, w_nopart, w_cut, w_folc, q_nx, q_bk, q_ct, q_set, q_setO, q_tg, q_ret, q_retO, q_retN, q_drop, q_if, q_par, q_par3, q_put, q_app, q_for, twoO_two, triO_tri, w_rD, w_rO, lvR_d, lvR_o, q_parR, q_setAt, w_lenv, lenO_o, lenO_l, lenO_t, w_gown, ownL_at, lstO_l, m_oListL, m_oListT, q_appPop, w_intbl, w_attbl, w_callv, fnD_fn, w_tuprg, q_star, q_aug, strD_str, starO_c, rgO_int, m_mulS, m_int1i, m_int1b, m_gseqT, m_gseqL, seqP_rt, seqP_bk, seqP_ct, seqP_xc, midP_nx, midP_rt, midP_bk, midP_ct, midP_xc, fnP_nx, fnP_rt, fnP_xc, rdP_nx, rdP_ct, rdP_bk, rdP_rt, rdP_xc, op_some, op_none, op_ite, op_map, op_bind, ok_ret, ok_some, m_lt, m_le, m_gt, m_ge, m_add, m_addT, m_addL, m_sub, m_mulI, m_mod, m_fdivS, m_powS, m_neg, m_bool, m_abs, m_min2, m_max2, m_lenL, m_lenT, m_lenI, m_tupL, m_tupT, m_lstL, m_lstT, m_rv1, m_rv2, m_ov, m_key, m_kds, m_so, m_rng1, m_gset, m_gtup, m_gsc, m_gsn, m_zipL, m_zipT, m_itL, m_itT, m_cutT, m_cutL, eq_I, ne_I, no_nil, no_cons, no_un, no_dat, wi_nil, wi_cons, Bool.and_true, Bool.true_and, Bool.and_self, and_self, List.set_cons_zero, List.set_cons_succ, List.length_cons, List.length_nil, m_line, Nat.reduceAdd, Nat.reduceLeDiff, Nat.reduceLT, Int.reduceLE, Int.reduceLT, Int.reduceToNat, Int.reducePow, Nat.reducePow, Int.reduceNeg, Int.reduceMul, Int.reduceAdd, Int.reduceSub, Nat.reduceMul, Nat.reduceSub, Int.reduceMod, Int.reduceDiv, Nat.zero_add, true_and, and_true, if_true, if_false, reduceCtorEq, false_implies, forall_const, true_implies, implies_true, decide_eq_true_eq, decide_eq_false_iff_not, beq_iff_eq, beq_eq_false_iff_ne, ne_eq, Bool.not_eq_true, List.append_eq, List.cons_append, List.nil_append, w_chn, w_ixv, lsO_o, lsO_d, w_focat, m_ocat, m_eqnL, m_eqnT, w_disp0, m_ovd, q_frz, frzO_o, frzO_d, m_revL, m_revT, m_addXi, m_addXb, m_subXi, m_subXb, m_mulXi, m_mulXb, m_negXi, m_negXb, m_strXb, m_addS, m_cutS, List.map_nil, List.isEmpty_nil, List.isEmpty_cons]
    rw [hm, seqP_nx, q_seq]
    simp only [w_var, lvD_dat, List.getElem?_cons_zero, List.getElem?_cons_succ, w_c, w_op, w_un, w_test, w_gand, w_gor, w_gnot, w_gyes, w_and, w_or, w_not, w_if, w_nil, w_cons, w_tup, w_lst, w_folst, w_folist, w_cb, w_fd, w_call, w_ocall, ovO_own, w_get, w_args, w_items, w_part, intO_int, w_nopart, w_cut, w_folc, q_nx, q_bk, q_ct, q_set, q_setO, q_tg, q_ret, q_retO, q_retN, q_drop, q_if, q_par, q_par3, q_put, q_app, q_for, twoO_two, triO_tri, w_rD, w_rO, lvR_d, lvR_o, q_parR, q_setAt, w_lenv, lenO_o, lenO_l, lenO_t, w_gown, ownL_at, lstO_l, m_oListL, m_oListT, q_appPop, w_intbl, w_attbl, w_callv, fnD_fn, w_tuprg, q_star, q_aug, strD_str, starO_c, rgO_int, m_mulS, m_int1i, m_int1b, m_gseqT, m_gseqL, seqP_rt, seqP_bk, seqP_ct, seqP_xc, midP_nx, midP_rt, midP_bk, midP_ct, midP_xc, fnP_nx, fnP_rt, fnP_xc, rdP_nx, rdP_ct, rdP_bk, rdP_rt, rdP_xc, op_some, op_none, op_ite, op_map, op_bind, ok_ret, ok_some, m_lt, m_le, m_gt, m_ge, m_add, m_addT, m_addL, m_sub, m_mulI, m_mod, m_fdivS, m_powS, m_neg, m_bool, m_abs, m_min2, m_max2, m_lenL, m_lenT, m_lenI, m_tupL, m_tupT, m_lstL, m_lstT, m_rv1, m_rv2, m_ov, m_key, m_kds, m_so, m_rng1, m_gset, m_gtup, m_gsc, m_gsn, m_zipL, m_zipT, m_itL, m_itT, m_cutT, m_cutL, eq_I, ne_I, no_nil, no_cons, no_un, no_dat, wi_nil, wi_cons, Bool.and_true, Bool.true_and, Bool.and_self, and_self, List.set_cons_zero, List.set_cons_succ, List.length_cons, List.length_nil, m_line, Nat.reduceAdd, Nat.reduceLeDiff, Nat.reduceLT, Int.reduceLE, Int.reduceLT, Int.reduceToNat, Int.reducePow, Nat.reducePow, Int.reduceNeg, Int.reduceMul, Int.reduceAdd, Int.reduceSub, Nat.reduceMul, Nat.reduceSub, Int.reduceMod, Int.reduceDiv, Nat.zero_add, true_and, and_true, if_true, if_false, reduceCtorEq, false_implies, forall_const, true_implies, implies_true, decide_eq_true_eq, decide_eq_false_iff_not, beq_iff_eq, beq_eq_false_iff_ne, ne_eq, Bool.not_eq_true, List.append_eq, List.cons_append, List.nil_append, w_chn, w_ixv, lsO_o, lsO_d, w_focat, m_ocat, m_eqnL, m_eqnT, w_disp0, m_ovd, q_frz, frzO_o, frzO_d, m_revL, m_revT, m_addXi, m_addXb, m_subXi, m_subXb, m_mulXi, m_mulXb, m_negXi, m_negXb, m_strXb, m_addS, m_cutS, List.map_nil, List.isEmpty_nil, List.isEmpty_cons]
    refine draw_ok (k := K + 199998) hp (by decide) (by decide) fun dp g d0 d1 hp => ?_
    rw [m_rv1]
    try simp only [w_var, lvD_dat, List.getElem?_cons_zero, List.getElem?_cons_succ, w_c, w_op, w_un, w_test, w_gand, w_gor, w_gnot, w_gyes, w_and, w_or, w_not, w_if, w_nil, w_cons, w_tup, w_lst, w_folst, w_folist, w_cb, w_fd, w_call, w_ocall, ovO_own, w_get, w_args, w_items, w_part, intO_int, w_nopart, w_cut, w_folc, q_nx, q_bk, q_ct, q_set, q_setO, q_tg, q_ret, q_retO, q_retN, q_drop, q_if, q_par, q_par3, q_put, q_app, q_for, twoO_two, triO_tri, w_rD, w_rO, lvR_d, lvR_o, q_parR, q_setAt, w_lenv, lenO_o, lenO_l, lenO_t, w_gown, ownL_at, lstO_l, m_oListL, m_oListT, q_appPop, w_intbl, w_attbl, w_callv, fnD_fn, w_tuprg, q_star, q_aug, strD_str, starO_c, rgO_int, m_mulS, m_int1i, m_int1b, m_gseqT, m_gseqL, seqP_rt, seqP_bk, seqP_ct, seqP_xc, midP_nx, midP_rt, midP_bk, midP_ct, midP_xc, fnP_nx, fnP_rt, fnP_xc, rdP_nx, rdP_ct, rdP_bk, rdP_rt, rdP_xc, op_some, op_none, op_ite, op_map, op_bind, ok_ret, ok_some, m_lt, m_le, m_gt, m_ge, m_add, m_addT, m_addL, m_sub, m_mulI, m_mod, m_fdivS, m_powS, m_neg, m_bool, m_abs, m_min2, m_max2, m_lenL, m_lenT, m_lenI, m_tupL, m_tupT, m_lstL, m_lstT, m_rv1, m_rv2, m_ov, m_key, m_kds, m_so, m_rng1, m_gset, m_gtup, m_gsc, m_gsn, m_zipL, m_zipT, m_itL, m_itT, m_cutT, m_cutL, eq_I, ne_I, no_nil, no_cons, no_un, no_dat, wi_nil, wi_cons, Bool.and_true, Bool.true_and, Bool.and_self, and_self, List.set_cons_zero, List.set_cons_succ, List.length_cons, List.length_nil, m_line, Nat.reduceAdd, Nat.reduceLeDiff, Nat.reduceLT, Int.reduceLE, Int.reduceLT, Int.reduceToNat, Int.reducePow, Nat.reducePow, Int.reduceNeg, Int.reduceMul, Int.reduceAdd, Int.reduceSub, Nat.reduceMul, Nat.reduceSub, Int.reduceMod, Int.reduceDiv, Nat.zero_add, true_and, and_true, if_true, if_false, reduceCtorEq, false_implies, forall_const, true_implies, implies_true, decide_eq_true_eq, decide_eq_false_iff_not, beq_iff_eq, beq_eq_false_iff_ne, ne_eq, Bool.not_eq_true, List.append_eq, List.cons_append, List.nil_append, w_chn, w_ixv, lsO_o, lsO_d, w_focat, m_ocat, m_eqnL, m_eqnT, w_disp0, m_ovd, q_frz, frzO_o, frzO_d, m_revL, m_revT, m_addXi, m_addXb, m_subXi, m_subXb, m_mulXi, m_mulXb, m_negXi, m_negXb, m_strXb, m_addS, m_cutS, List.map_nil, List.isEmpty_nil, List.isEmpty_cons]
    refine scale_ok (by omega) (by omega) 10 (1 + dp) (c := K + 170000) (by omega) (by omega) (hp.less (Nat.le_trans (Nat.add_le_add_left cost10 _) (by omega))) fun s g sd so hp => ?_
    rw [m_rv1, seqP_nx, q_seq]
    rw [hc] at so
    obtain ⟨s1, s2⟩ := s.bk c8 so
    have s1 : Bk 0 5 s.d := s1.mono (Nat.le_refl _) (by omega)
    have s2 : wt s.d ≤ 32000 := Nat.le_trans s2 (Nat.le_trans (scW_mono (show s.dep ≤ 4 by omega)) (by decide))
    generalize s.d = d4 at s1 s2
    simp only [w_var, lvD_dat, List.getElem?_cons_zero, List.getElem?_cons_succ, w_c, w_op, w_un, w_test, w_gand, w_gor, w_gnot, w_gyes, w_and, w_or, w_not, w_if, w_nil, w_cons, w_tup, w_lst, w_folst, w_folist, w_cb, w_fd, w_call, w_ocall, ovO_own, w_get, w_args, w_items, w_part, intO_int, w_nopart, w_cut, w_folc, q_nx, q_bk, q_ct, q_set, q_setO, q_tg, q_ret, q_retO, q_retN, q_drop, q_if, q_par, q_par3, q_put, q_app, q_for, twoO_two, triO_tri, w_rD, w_rO, lvR_d, lvR_o, q_parR, q_setAt, w_lenv, lenO_o, lenO_l, lenO_t, w_gown, ownL_at, lstO_l, m_oListL, m_oListT, q_appPop, w_intbl, w_attbl, w_callv, fnD_fn, w_tuprg, q_star, q_aug, strD_str, starO_c, rgO_int, m_mulS, m_int1i, m_int1b, m_gseqT, m_gseqL, seqP_rt, seqP_bk, seqP_ct, seqP_xc, midP_nx, midP_rt, midP_bk, midP_ct, midP_xc, fnP_nx, fnP_rt, fnP_xc, rdP_nx, rdP_ct, rdP_bk, rdP_rt, rdP_xc, op_some, op_none, op_ite, op_map, op_bind, ok_ret, ok_some, m_lt, m_le, m_gt, m_ge, m_add, m_addT, m_addL, m_sub, m_mulI, m_mod, m_fdivS, m_powS, m_neg, m_bool, m_abs, m_min2, m_max2, m_lenL, m_lenT, m_lenI, m_tupL, m_tupT, m_lstL, m_lstT, m_rv1, m_rv2, m_ov, m_key, m_kds, m_so, m_rng1, m_gset, m_gtup, m_gsc, m_gsn, m_zipL, m_zipT, m_itL, m_itT, m_cutT, m_cutL, eq_I, ne_I, no_nil, no_cons, no_un, no_dat, wi_nil, wi_cons, Bool.and_true, Bool.true_and, Bool.and_self, and_self, List.set_cons_zero, List.set_cons_succ, List.length_cons, List.length_nil, m_line, Nat.reduceAdd, Nat.reduceLeDiff, Nat.reduceLT, Int.reduceLE, Int.reduceLT, Int.reduceToNat, Int.reducePow, Nat.reducePow, Int.reduceNeg, Int.reduceMul, Int.reduceAdd, Int.reduceSub, Nat.reduceMul, Nat.reduceSub, Int.reduceMod, Int.reduceDiv, Nat.zero_add, true_and, and_true, if_true, if_false, reduceCtorEq, false_implies, forall_const, true_implies, implies_true, decide_eq_true_eq, decide_eq_false_iff_not, beq_iff_eq, beq_eq_false_iff_ne, ne_eq, Bool.not_eq_true, List.append_eq, List.cons_append, List.nil_append, w_chn, w_ixv, lsO_o, lsO_d, w_focat, m_ocat, m_eqnL, m_eqnT, w_disp0, m_ovd, q_frz, frzO_o, frzO_d, m_revL, m_revT, m_addXi, m_addXb, m_subXi, m_subXb, m_mulXi, m_mulXb, m_negXi, m_negXb, m_strXb, m_addS, m_cutS, List.map_nil, List.isEmpty_nil, List.isEmpty_cons]
    rw [seqP_nx, q_seq]
    simp only [w_var, lvD_dat, List.getElem?_cons_zero, List.getElem?_cons_succ, w_c, w_op, w_un, w_test, w_gand, w_gor, w_gnot, w_gyes, w_and, w_or, w_not, w_if, w_nil, w_cons, w_tup, w_lst, w_folst, w_folist, w_cb, w_fd, w_call, w_ocall, ovO_own, w_get, w_args, w_items, w_part, intO_int, w_nopart, w_cut, w_folc, q_nx, q_bk, q_ct, q_set, q_setO, q_tg, q_ret, q_retO, q_retN, q_drop, q_if, q_par, q_par3, q_put, q_app, q_for, twoO_two, triO_tri, w_rD, w_rO, lvR_d, lvR_o, q_parR, q_setAt, w_lenv, lenO_o, lenO_l, lenO_t, w_gown, ownL_at, lstO_l, m_oListL, m_oListT, q_appPop, w_intbl, w_attbl, w_callv, fnD_fn, w_tuprg, q_star, q_aug, strD_str, starO_c, rgO_int, m_mulS, m_int1i, m_int1b, m_gseqT, m_gseqL, seqP_rt, seqP_bk, seqP_ct, seqP_xc, midP_nx, midP_rt, midP_bk, midP_ct, midP_xc, fnP_nx, fnP_rt, fnP_xc, rdP_nx, rdP_ct, rdP_bk, rdP_rt, rdP_xc, op_some, op_none, op_ite, op_map, op_bind, ok_ret, ok_some, m_lt, m_le, m_gt, m_ge, m_add, m_addT, m_addL, m_sub, m_mulI, m_mod, m_fdivS, m_powS, m_neg, m_bool, m_abs, m_min2, m_max2, m_lenL, m_lenT, m_lenI, m_tupL, m_tupT, m_lstL, m_lstT, m_rv1, m_rv2, m_ov, m_key, m_kds, m_so, m_rng1, m_gset, m_gtup, m_gsc, m_gsn, m_zipL, m_zipT, m_itL, m_itT, m_cutT, m_cutL, eq_I, ne_I, no_nil, no_cons, no_un, no_dat, wi_nil, wi_cons, Bool.and_true, Bool.true_and, Bool.and_self, and_self, List.set_cons_zero, List.set_cons_succ, List.length_cons, List.length_nil, m_line, Nat.reduceAdd, Nat.reduceLeDiff, Nat.reduceLT, Int.reduceLE, Int.reduceLT, Int.reduceToNat, Int.reducePow, Nat.reducePow, Int.reduceNeg, Int.reduceMul, Int.reduceAdd, Int.reduceSub, Nat.reduceMul, Nat.reduceSub, Int.reduceMod, Int.reduceDiv, Nat.zero_add, true_and, and_true, if_true, if_false, reduceCtorEq, false_implies, forall_const, true_implies, implies_true, decide_eq_true_eq, decide_eq_false_iff_not, beq_iff_eq, beq_eq_false_iff_ne, ne_eq, Bool.not_eq_true, List.append_eq, List.cons_append, List.nil_append, w_chn, w_ixv, lsO_o, lsO_d, w_focat, m_ocat, m_eqnL, m_eqnT, w_disp0, m_ovd, q_frz, frzO_o, frzO_d, m_revL, m_revT, m_addXi, m_addXb, m_subXi, m_subXb, m_mulXi, m_mulXb, m_negXi, m_negXb, m_strXb, m_addS, m_cutS, List.map_nil, List.isEmpty_nil, List.isEmpty_cons]
    refine draw_ok (k := K + 169999) hp (by decide) (by decide) fun wr g r0 r1 hp => ?_
    rw [m_rv1]
    try simp only [w_var, lvD_dat, List.getElem?_cons_zero, List.getElem?_cons_succ, w_c, w_op, w_un, w_test, w_gand, w_gor, w_gnot, w_gyes, w_and, w_or, w_not, w_if, w_nil, w_cons, w_tup, w_lst, w_folst, w_folist, w_cb, w_fd, w_call, w_ocall, ovO_own, w_get, w_args, w_items, w_part, intO_int, w_nopart, w_cut, w_folc, q_nx, q_bk, q_ct, q_set, q_setO, q_tg, q_ret, q_retO, q_retN, q_drop, q_if, q_par, q_par3, q_put, q_app, q_for, twoO_two, triO_tri, w_rD, w_rO, lvR_d, lvR_o, q_parR, q_setAt, w_lenv, lenO_o, lenO_l, lenO_t, w_gown, ownL_at, lstO_l, m_oListL, m_oListT, q_appPop, w_intbl, w_attbl, w_callv, fnD_fn, w_tuprg, q_star, q_aug, strD_str, starO_c, rgO_int, m_mulS, m_int1i, m_int1b, m_gseqT, m_gseqL, seqP_rt, seqP_bk, seqP_ct, seqP_xc, midP_nx, midP_rt, midP_bk, midP_ct, midP_xc, fnP_nx, fnP_rt, fnP_xc, rdP_nx, rdP_ct, rdP_bk, rdP_rt, rdP_xc, op_some, op_none, op_ite, op_map, op_bind, ok_ret, ok_some, m_lt, m_le, m_gt, m_ge, m_add, m_addT, m_addL, m_sub, m_mulI, m_mod, m_fdivS, m_powS, m_neg, m_bool, m_abs, m_min2, m_max2, m_lenL, m_lenT, m_lenI, m_tupL, m_tupT, m_lstL, m_lstT, m_rv1, m_rv2, m_ov, m_key, m_kds, m_so, m_rng1, m_gset, m_gtup, m_gsc, m_gsn, m_zipL, m_zipT, m_itL, m_itT, m_cutT, m_cutL, eq_I, ne_I, no_nil, no_cons, no_un, no_dat, wi_nil, wi_cons, Bool.and_true, Bool.true_and, Bool.and_self, and_self, List.set_cons_zero, List.set_cons_succ, List.length_cons, List.length_nil, m_line, Nat.reduceAdd, Nat.reduceLeDiff, Nat.reduceLT, Int.reduceLE, Int.reduceLT, Int.reduceToNat, Int.reducePow, Nat.reducePow, Int.reduceNeg, Int.reduceMul, Int.reduceAdd, Int.reduceSub, Nat.reduceMul, Nat.reduceSub, Int.reduceMod, Int.reduceDiv, Nat.zero_add, true_and, and_true, if_true, if_false, reduceCtorEq, false_implies, forall_const, true_implies, implies_true, decide_eq_true_eq, decide_eq_false_iff_not, beq_iff_eq, beq_eq_false_iff_ne, ne_eq, Bool.not_eq_true, List.append_eq, List.cons_append, List.nil_append, w_chn, w_ixv, lsO_o, lsO_d, w_focat, m_ocat, m_eqnL, m_eqnT, w_disp0, m_ovd, q_frz, frzO_o, frzO_d, m_revL, m_revT, m_addXi, m_addXb, m_subXi, m_subXb, m_mulXi, m_mulXb, m_negXi, m_negXb, m_strXb, m_addS, m_cutS, List.map_nil, List.isEmpty_nil, List.isEmpty_cons]
    refine ⟨⟨by omega, by omega⟩, ?_⟩
    refine for_ok (fun j ls g => ∃ d5 x6 x7 x8, ls = [.dat (.scr ns), .dat (.obj 0), .dat (.int (0 + ↑i)), .dat (.int m), .dat d4, .dat d5, x6, x7, x8, x9, xa, xb, xc, xd] ∧ Bk 0 (5 + j) d5 ∧ wt d5 ≤ 32000 + 4000 * j ∧ Pen (K + 40000 + 25000 * (4 - j)) g) ⟨_, _, _, _, rfl, s1, s2, hp.less (by omega)⟩ ?_ ?_
    · rintro j d ls g hd ⟨d5, x6, x7, x8, rfl, b5, w5, hp⟩
      obtain ⟨hj, rfl⟩ := range_get hd
      have hj : j < 4 := by omega
      have hp : Pen (K + 40000 + 25000 * (4 - (j + 1)) + 25000) g := hp.less (by omega)
      rw [m_gset, op_some, q_seq]
      simp only [w_var, lvD_dat, List.getElem?_cons_zero, List.getElem?_cons_succ, w_c, w_op, w_un, w_test, w_gand, w_gor, w_gnot, w_gyes, w_and, w_or, w_not, w_if, w_nil, w_cons, w_tup, w_lst, w_folst, w_folist, w_cb, w_fd, w_call, w_ocall, ovO_own, w_get, w_args, w_items, w_part, intO_int, w_nopart, w_cut, w_folc, q_nx, q_bk, q_ct, q_set, q_setO, q_tg, q_ret, q_retO, q_retN, q_drop, q_if, q_par, q_par3, q_put, q_app, q_for, twoO_two, triO_tri, w_rD, w_rO, lvR_d, lvR_o, q_parR, q_setAt, w_lenv, lenO_o, lenO_l, lenO_t, w_gown, ownL_at, lstO_l, m_oListL, m_oListT, q_appPop, w_intbl, w_attbl, w_callv, fnD_fn, w_tuprg, q_star, q_aug, strD_str, starO_c, rgO_int, m_mulS, m_int1i, m_int1b, m_gseqT, m_gseqL, seqP_rt, seqP_bk, seqP_ct, seqP_xc, midP_nx, midP_rt, midP_bk, midP_ct, midP_xc, fnP_nx, fnP_rt, fnP_xc, rdP_nx, rdP_ct, rdP_bk, rdP_rt, rdP_xc, op_some, op_none, op_ite, op_map, op_bind, ok_ret, ok_some, m_lt, m_le, m_gt, m_ge, m_add, m_addT, m_addL, m_sub, m_mulI, m_mod, m_fdivS, m_powS, m_neg, m_bool, m_abs, m_min2, m_max2, m_lenL, m_lenT, m_lenI, m_tupL, m_tupT, m_lstL, m_lstT, m_rv1, m_rv2, m_ov, m_key, m_kds, m_so, m_rng1, m_gset, m_gtup, m_gsc, m_gsn, m_zipL, m_zipT, m_itL, m_itT, m_cutT, m_cutL, eq_I, ne_I, no_nil, no_cons, no_un, no_dat, wi_nil, wi_cons, Bool.and_true, Bool.true_and, Bool.and_self, and_self, List.set_cons_zero, List.set_cons_succ, List.length_cons, List.length_nil, m_line, Nat.reduceAdd, Nat.reduceLeDiff, Nat.reduceLT, Int.reduceLE, Int.reduceLT, Int.reduceToNat, Int.reducePow, Nat.reducePow, Int.reduceNeg, Int.reduceMul, Int.reduceAdd, Int.reduceSub, Nat.reduceMul, Nat.reduceSub, Int.reduceMod, Int.reduceDiv, Nat.zero_add, true_and, and_true, if_true, if_false, reduceCtorEq, false_implies, forall_const, true_implies, implies_true, decide_eq_true_eq, decide_eq_false_iff_not, beq_iff_eq, beq_eq_false_iff_ne, ne_eq, Bool.not_eq_true, List.append_eq, List.cons_append, List.nil_append, w_chn, w_ixv, lsO_o, lsO_d, w_focat, m_ocat, m_eqnL, m_eqnT, w_disp0, m_ovd, q_frz, frzO_o, frzO_d, m_revL, m_revT, m_addXi, m_addXb, m_subXi, m_subXb, m_mulXi, m_mulXb, m_negXi, m_negXb, m_strXb, m_addS, m_cutS, List.map_nil, List.isEmpty_nil, List.isEmpty_cons]
      refine word_pick (k := K + 40000 + 25000 * (4 - (j + 1)) + 24999) hp fun w g w1 w2 hp => ?_
      rw [m_rv1]
      try simp only [w_var, lvD_dat, List.getElem?_cons_zero, List.getElem?_cons_succ, w_c, w_op, w_un, w_test, w_gand, w_gor, w_gnot, w_gyes, w_and, w_or, w_not, w_if, w_nil, w_cons, w_tup, w_lst, w_folst, w_folist, w_cb, w_fd, w_call, w_ocall, ovO_own, w_get, w_args, w_items, w_part, intO_int, w_nopart, w_cut, w_folc, q_nx, q_bk, q_ct, q_set, q_setO, q_tg, q_ret, q_retO, q_retN, q_drop, q_if, q_par, q_par3, q_put, q_app, q_for, twoO_two, triO_tri, w_rD, w_rO, lvR_d, lvR_o, q_parR, q_setAt, w_lenv, lenO_o, lenO_l, lenO_t, w_gown, ownL_at, lstO_l, m_oListL, m_oListT, q_appPop, w_intbl, w_attbl, w_callv, fnD_fn, w_tuprg, q_star, q_aug, strD_str, starO_c, rgO_int, m_mulS, m_int1i, m_int1b, m_gseqT, m_gseqL, seqP_rt, seqP_bk, seqP_ct, seqP_xc, midP_nx, midP_rt, midP_bk, midP_ct, midP_xc, fnP_nx, fnP_rt, fnP_xc, rdP_nx, rdP_ct, rdP_bk, rdP_rt, rdP_xc, op_some, op_none, op_ite, op_map, op_bind, ok_ret, ok_some, m_lt, m_le, m_gt, m_ge, m_add, m_addT, m_addL, m_sub, m_mulI, m_mod, m_fdivS, m_powS, m_neg, m_bool, m_abs, m_min2, m_max2, m_lenL, m_lenT, m_lenI, m_tupL, m_tupT, m_lstL, m_lstT, m_rv1, m_rv2, m_ov, m_key, m_kds, m_so, m_rng1, m_gset, m_gtup, m_gsc, m_gsn, m_zipL, m_zipT, m_itL, m_itT, m_cutT, m_cutL, eq_I, ne_I, no_nil, no_cons, no_un, no_dat, wi_nil, wi_cons, Bool.and_true, Bool.true_and, Bool.and_self, and_self, List.set_cons_zero, List.set_cons_succ, List.length_cons, List.length_nil, m_line, Nat.reduceAdd, Nat.reduceLeDiff, Nat.reduceLT, Int.reduceLE, Int.reduceLT, Int.reduceToNat, Int.reducePow, Nat.reducePow, Int.reduceNeg, Int.reduceMul, Int.reduceAdd, Int.reduceSub, Nat.reduceMul, Nat.reduceSub, Int.reduceMod, Int.reduceDiv, Nat.zero_add, true_and, and_true, if_true, if_false, reduceCtorEq, false_implies, forall_const, true_implies, implies_true, decide_eq_true_eq, decide_eq_false_iff_not, beq_iff_eq, beq_eq_false_iff_ne, ne_eq, Bool.not_eq_true, List.append_eq, List.cons_append, List.nil_append, w_chn, w_ixv, lsO_o, lsO_d, w_focat, m_ocat, m_eqnL, m_eqnT, w_disp0, m_ovd, q_frz, frzO_o, frzO_d, m_revL, m_revT, m_addXi, m_addXb, m_subXi, m_subXb, m_mulXi, m_mulXb, m_negXi, m_negXb, m_strXb, m_addS, m_cutS, List.map_nil, List.isEmpty_nil, List.isEmpty_cons]
      refine scale_ok (by omega) (by omega) 10 1 (c := K + 40000 + 25000 * (4 - (j + 1)) + 1000) (by omega) (by omega) (hp.less (Nat.le_trans (Nat.add_le_add_left cost10 _) (by omega))) fun t g td to hp => ?_
      rw [m_rv1]
      try simp only [w_var, lvD_dat, List.getElem?_cons_zero, List.getElem?_cons_succ, w_c, w_op, w_un, w_test, w_gand, w_gor, w_gnot, w_gyes, w_and, w_or, w_not, w_if, w_nil, w_cons, w_tup, w_lst, w_folst, w_folist, w_cb, w_fd, w_call, w_ocall, ovO_own, w_get, w_args, w_items, w_part, intO_int, w_nopart, w_cut, w_folc, q_nx, q_bk, q_ct, q_set, q_setO, q_tg, q_ret, q_retO, q_retN, q_drop, q_if, q_par, q_par3, q_put, q_app, q_for, twoO_two, triO_tri, w_rD, w_rO, lvR_d, lvR_o, q_parR, q_setAt, w_lenv, lenO_o, lenO_l, lenO_t, w_gown, ownL_at, lstO_l, m_oListL, m_oListT, q_appPop, w_intbl, w_attbl, w_callv, fnD_fn, w_tuprg, q_star, q_aug, strD_str, starO_c, rgO_int, m_mulS, m_int1i, m_int1b, m_gseqT, m_gseqL, seqP_rt, seqP_bk, seqP_ct, seqP_xc, midP_nx, midP_rt, midP_bk, midP_ct, midP_xc, fnP_nx, fnP_rt, fnP_xc, rdP_nx, rdP_ct, rdP_bk, rdP_rt, rdP_xc, op_some, op_none, op_ite, op_map, op_bind, ok_ret, ok_some, m_lt, m_le, m_gt, m_ge, m_add, m_addT, m_addL, m_sub, m_mulI, m_mod, m_fdivS, m_powS, m_neg, m_bool, m_abs, m_min2, m_max2, m_lenL, m_lenT, m_lenI, m_tupL, m_tupT, m_lstL, m_lstT, m_rv1, m_rv2, m_ov, m_key, m_kds, m_so, m_rng1, m_gset, m_gtup, m_gsc, m_gsn, m_zipL, m_zipT, m_itL, m_itT, m_cutT, m_cutL, eq_I, ne_I, no_nil, no_cons, no_un, no_dat, wi_nil, wi_cons, Bool.and_true, Bool.true_and, Bool.and_self, and_self, List.set_cons_zero, List.set_cons_succ, List.length_cons, List.length_nil, m_line, Nat.reduceAdd, Nat.reduceLeDiff, Nat.reduceLT, Int.reduceLE, Int.reduceLT, Int.reduceToNat, Int.reducePow, Nat.reducePow, Int.reduceNeg, Int.reduceMul, Int.reduceAdd, Int.reduceSub, Nat.reduceMul, Nat.reduceSub, Int.reduceMod, Int.reduceDiv, Nat.zero_add, true_and, and_true, if_true, if_false, reduceCtorEq, false_implies, forall_const, true_implies, implies_true, decide_eq_true_eq, decide_eq_false_iff_not, beq_iff_eq, beq_eq_false_iff_ne, ne_eq, Bool.not_eq_true, List.append_eq, List.cons_append, List.nil_append, w_chn, w_ixv, lsO_o, lsO_d, w_focat, m_ocat, m_eqnL, m_eqnT, w_disp0, m_ovd, q_frz, frzO_o, frzO_d, m_revL, m_revT, m_addXi, m_addXb, m_subXi, m_subXb, m_mulXi, m_mulXb, m_negXi, m_negXb, m_strXb, m_addS, m_cutS, List.map_nil, List.isEmpty_nil, List.isEmpty_cons]
      rw [seqP_nx]
      rw [hc] at to
      obtain ⟨t1, t2⟩ := t.bk c8 to
      have t1 : Bk 0 2 t.d := t1.mono (Nat.le_refl _) (by omega)
      have t2 : wt t.d ≤ 3800 := Nat.le_trans t2 (Nat.le_trans (scW_mono (show t.dep ≤ 1 by omega)) (by decide))
      generalize t.d = d8 at t1 t2
      simp only [w_var, lvD_dat, List.getElem?_cons_zero, List.getElem?_cons_succ, w_c, w_op, w_un, w_test, w_gand, w_gor, w_gnot, w_gyes, w_and, w_or, w_not, w_if, w_nil, w_cons, w_tup, w_lst, w_folst, w_folist, w_cb, w_fd, w_call, w_ocall, ovO_own, w_get, w_args, w_items, w_part, intO_int, w_nopart, w_cut, w_folc, q_nx, q_bk, q_ct, q_set, q_setO, q_tg, q_ret, q_retO, q_retN, q_drop, q_if, q_par, q_par3, q_put, q_app, q_for, twoO_two, triO_tri, w_rD, w_rO, lvR_d, lvR_o, q_parR, q_setAt, w_lenv, lenO_o, lenO_l, lenO_t, w_gown, ownL_at, lstO_l, m_oListL, m_oListT, q_appPop, w_intbl, w_attbl, w_callv, fnD_fn, w_tuprg, q_star, q_aug, strD_str, starO_c, rgO_int, m_mulS, m_int1i, m_int1b, m_gseqT, m_gseqL, seqP_rt, seqP_bk, seqP_ct, seqP_xc, midP_nx, midP_rt, midP_bk, midP_ct, midP_xc, fnP_nx, fnP_rt, fnP_xc, rdP_nx, rdP_ct, rdP_bk, rdP_rt, rdP_xc, op_some, op_none, op_ite, op_map, op_bind, ok_ret, ok_some, m_lt, m_le, m_gt, m_ge, m_add, m_addT, m_addL, m_sub, m_mulI, m_mod, m_fdivS, m_powS, m_neg, m_bool, m_abs, m_min2, m_max2, m_lenL, m_lenT, m_lenI, m_tupL, m_tupT, m_lstL, m_lstT, m_rv1, m_rv2, m_ov, m_key, m_kds, m_so, m_rng1, m_gset, m_gtup, m_gsc, m_gsn, m_zipL, m_zipT, m_itL, m_itT, m_cutT, m_cutL, eq_I, ne_I, no_nil, no_cons, no_un, no_dat, wi_nil, wi_cons, Bool.and_true, Bool.true_and, Bool.and_self, and_self, List.set_cons_zero, List.set_cons_succ, List.length_cons, List.length_nil, m_line, Nat.reduceAdd, Nat.reduceLeDiff, Nat.reduceLT, Int.reduceLE, Int.reduceLT, Int.reduceToNat, Int.reducePow, Nat.reducePow, Int.reduceNeg, Int.reduceMul, Int.reduceAdd, Int.reduceSub, Nat.reduceMul, Nat.reduceSub, Int.reduceMod, Int.reduceDiv, Nat.zero_add, true_and, and_true, if_true, if_false, reduceCtorEq, false_implies, forall_const, true_implies, implies_true, decide_eq_true_eq, decide_eq_false_iff_not, beq_iff_eq, beq_eq_false_iff_ne, ne_eq, Bool.not_eq_true, List.append_eq, List.cons_append, List.nil_append, w_chn, w_ixv, lsO_o, lsO_d, w_focat, m_ocat, m_eqnL, m_eqnT, w_disp0, m_ovd, q_frz, frzO_o, frzO_d, m_revL, m_revT, m_addXi, m_addXb, m_subXi, m_subXb, m_mulXi, m_mulXb, m_negXi, m_negXb, m_strXb, m_addS, m_cutS, List.map_nil, List.isEmpty_nil, List.isEmpty_cons]
      refine draw_ok (k := K + 40000 + 25000 * (4 - (j + 1)) + 999) hp (by decide) (by decide) fun u g u0 u1 hp => ?_
      rw [m_rv1]
      have key : ∃ e, dIx (.lst [.tup [.str (Str.ofString w), d5, d8], .tup [.str (Str.ofString w), d8, d5]]) (.int u) = some e ∧ Bk 0 (5 + (j + 1)) e ∧ wt e ≤ 32000 + 4000 * (j + 1) := by
        have h3 : u = 0 ∨ u = 1 := by omega
        rcases h3 with rfl | rfl
        · exact ⟨_, rfl, (bk_three (by omega) w2 b5 t1).mono (Nat.le_refl _) (by omega), by rw [wt_three]; omega⟩
        · exact ⟨_, rfl, (bk_three (by omega) w2 t1 b5).mono (Nat.le_refl _) (by omega), by rw [wt_three]; omega⟩
      obtain ⟨e, e1, e2, e3⟩ := key
      rw [e1, op_some]
      exact ⟨_, _, _, _, rfl, e2, e3, hp.less (by omega)⟩
    · rintro ls g ⟨d5, x6, x7, x8, rfl, b5, w5, hp⟩
      rw [range_len] at b5 w5 hp
      have b5 : Bk 0 9 d5 := b5.mono (Nat.le_refl _) (by omega)
      have w5 : wt d5 ≤ 48000 := by omega
      have hp : Pen (K + 40000) g := hp.less (by omega)
      rw [seqP_nx, q_seq]
      simp only [w_var, lvD_dat, List.getElem?_cons_zero, List.getElem?_cons_succ, w_c, w_op, w_un, w_test, w_gand, w_gor, w_gnot, w_gyes, w_and, w_or, w_not, w_if, w_nil, w_cons, w_tup, w_lst, w_folst, w_folist, w_cb, w_fd, w_call, w_ocall, ovO_own, w_get, w_args, w_items, w_part, intO_int, w_nopart, w_cut, w_folc, q_nx, q_bk, q_ct, q_set, q_setO, q_tg, q_ret, q_retO, q_retN, q_drop, q_if, q_par, q_par3, q_put, q_app, q_for, twoO_two, triO_tri, w_rD, w_rO, lvR_d, lvR_o, q_parR, q_setAt, w_lenv, lenO_o, lenO_l, lenO_t, w_gown, ownL_at, lstO_l, m_oListL, m_oListT, q_appPop, w_intbl, w_attbl, w_callv, fnD_fn, w_tuprg, q_star, q_aug, strD_str, starO_c, rgO_int, m_mulS, m_int1i, m_int1b, m_gseqT, m_gseqL, seqP_rt, seqP_bk, seqP_ct, seqP_xc, midP_nx, midP_rt, midP_bk, midP_ct, midP_xc, fnP_nx, fnP_rt, fnP_xc, rdP_nx, rdP_ct, rdP_bk, rdP_rt, rdP_xc, op_some, op_none, op_ite, op_map, op_bind, ok_ret, ok_some, m_lt, m_le, m_gt, m_ge, m_add, m_addT, m_addL, m_sub, m_mulI, m_mod, m_fdivS, m_powS, m_neg, m_bool, m_abs, m_min2, m_max2, m_lenL, m_lenT, m_lenI, m_tupL, m_tupT, m_lstL, m_lstT, m_rv1, m_rv2, m_ov, m_key, m_kds, m_so, m_rng1, m_gset, m_gtup, m_gsc, m_gsn, m_zipL, m_zipT, m_itL, m_itT, m_cutT, m_cutL, eq_I, ne_I, no_nil, no_cons, no_un, no_dat, wi_nil, wi_cons, Bool.and_true, Bool.true_and, Bool.and_self, and_self, List.set_cons_zero, List.set_cons_succ, List.length_cons, List.length_nil, m_line, Nat.reduceAdd, Nat.reduceLeDiff, Nat.reduceLT, Int.reduceLE, Int.reduceLT, Int.reduceToNat, Int.reducePow, Nat.reducePow, Int.reduceNeg, Int.reduceMul, Int.reduceAdd, Int.reduceSub, Nat.reduceMul, Nat.reduceSub, Int.reduceMod, Int.reduceDiv, Nat.zero_add, true_and, and_true, if_true, if_false, reduceCtorEq, false_implies, forall_const, true_implies, implies_true, decide_eq_true_eq, decide_eq_false_iff_not, beq_iff_eq, beq_eq_false_iff_ne, ne_eq, Bool.not_eq_true, List.append_eq, List.cons_append, List.nil_append, w_chn, w_ixv, lsO_o, lsO_d, w_focat, m_ocat, m_eqnL, m_eqnT, w_disp0, m_ovd, q_frz, frzO_o, frzO_d, m_revL, m_revT, m_addXi, m_addXb, m_subXi, m_subXb, m_mulXi, m_mulXb, m_negXi, m_negXb, m_strXb, m_addS, m_cutS, List.map_nil, List.isEmpty_nil, List.isEmpty_cons]
      rw [rep_T hc c1 (by omega), op_some, rep_T hc c1 (by omega), op_some, rep_T hc c1 (by omega), op_some]
      rw [seqP_nx, q_seq]
      simp only [w_var, lvD_dat, List.getElem?_cons_zero, List.getElem?_cons_succ, w_c, w_op, w_un, w_test, w_gand, w_gor, w_gnot, w_gyes, w_and, w_or, w_not, w_if, w_nil, w_cons, w_tup, w_lst, w_folst, w_folist, w_cb, w_fd, w_call, w_ocall, ovO_own, w_get, w_args, w_items, w_part, intO_int, w_nopart, w_cut, w_folc, q_nx, q_bk, q_ct, q_set, q_setO, q_tg, q_ret, q_retO, q_retN, q_drop, q_if, q_par, q_par3, q_put, q_app, q_for, twoO_two, triO_tri, w_rD, w_rO, lvR_d, lvR_o, q_parR, q_setAt, w_lenv, lenO_o, lenO_l, lenO_t, w_gown, ownL_at, lstO_l, m_oListL, m_oListT, q_appPop, w_intbl, w_attbl, w_callv, fnD_fn, w_tuprg, q_star, q_aug, strD_str, starO_c, rgO_int, m_mulS, m_int1i, m_int1b, m_gseqT, m_gseqL, seqP_rt, seqP_bk, seqP_ct, seqP_xc, midP_nx, midP_rt, midP_bk, midP_ct, midP_xc, fnP_nx, fnP_rt, fnP_xc, rdP_nx, rdP_ct, rdP_bk, rdP_rt, rdP_xc, op_some, op_none, op_ite, op_map, op_bind, ok_ret, ok_some, m_lt, m_le, m_gt, m_ge, m_add, m_addT, m_addL, m_sub, m_mulI, m_mod, m_fdivS, m_powS, m_neg, m_bool, m_abs, m_min2, m_max2, m_lenL, m_lenT, m_lenI, m_tupL, m_tupT, m_lstL, m_lstT, m_rv1, m_rv2, m_ov, m_key, m_kds, m_so, m_rng1, m_gset, m_gtup, m_gsc, m_gsn, m_zipL, m_zipT, m_itL, m_itT, m_cutT, m_cutL, eq_I, ne_I, no_nil, no_cons, no_un, no_dat, wi_nil, wi_cons, Bool.and_true, Bool.true_and, Bool.and_self, and_self, List.set_cons_zero, List.set_cons_succ, List.length_cons, List.length_nil, m_line, Nat.reduceAdd, Nat.reduceLeDiff, Nat.reduceLT, Int.reduceLE, Int.reduceLT, Int.reduceToNat, Int.reducePow, Nat.reducePow, Int.reduceNeg, Int.reduceMul, Int.reduceAdd, Int.reduceSub, Nat.reduceMul, Nat.reduceSub, Int.reduceMod, Int.reduceDiv, Nat.zero_add, true_and, and_true, if_true, if_false, reduceCtorEq, false_implies, forall_const, true_implies, implies_true, decide_eq_true_eq, decide_eq_false_iff_not, beq_iff_eq, beq_eq_false_iff_ne, ne_eq, Bool.not_eq_true, List.append_eq, List.cons_append, List.nil_append, w_chn, w_ixv, lsO_o, lsO_d, w_focat, m_ocat, m_eqnL, m_eqnT, w_disp0, m_ovd, q_frz, frzO_o, frzO_d, m_revL, m_revT, m_addXi, m_addXb, m_subXi, m_subXb, m_mulXi, m_mulXb, m_negXi, m_negXb, m_strXb, m_addS, m_cutS, List.map_nil, List.isEmpty_nil, List.isEmpty_cons]
      have bs : ∀ v : Int, v.natAbs ≤ 10000000000 → Bk 2 13 (.tup [.str (Str.ofString "sum"), iT (List.replicate c v)]) ∧ wt (.tup [.str (Str.ofString "sum"), iT (List.replicate c v)]) ≤ 200000 := fun v hv => by
        have hi : Bk 2 12 (.tup ((List.replicate c v).map .int)) := (Bk.ints (k := 0) (n := 0) (by rw [List.length_replicate]; omega) fun i hi => by rw [List.eq_of_mem_replicate hi]; exact hv).mono (by decide) (by decide)
        refine ⟨.tup (by simp only [List.length_cons, List.length_nil]; omega) (List.forall_mem_cons.mpr ⟨bkStr (by decide +kernel) (by decide +kernel), List.forall_mem_cons.mpr ⟨hi, List.forall_mem_nil _⟩⟩), ?_⟩
        show wt (.tup [.str (Str.ofString "sum"), .tup ((List.replicate c v).map .int)]) ≤ _
        rw [wt_tup, wts, wts, wts, wt_str, wt_tup, wts_ints, List.length_replicate, show (Str.ofString "sum").length = 3 by decide +kernel]
        omega
      have all0 : ∀ d ∈ [d4, d5, .tup [.str (Str.ofString "sum"), iT (List.replicate c 0)], .tup [.str (Str.ofString "sum"), iT (List.replicate c 1000)], .tup [.str (Str.ofString "sum"), iT (List.replicate c 1001)], .tup [], .str (Str.ofString "low"), .non], Bk 2 13 d ∧ wt d ≤ 200000 := by
        refine List.forall_mem_cons.mpr ⟨⟨s1.mono (by decide) (by decide), by omega⟩, List.forall_mem_cons.mpr ⟨⟨b5.mono (by decide) (by decide), by omega⟩, List.forall_mem_cons.mpr ⟨bs _ (by decide), List.forall_mem_cons.mpr ⟨bs _ (by decide), List.forall_mem_cons.mpr ⟨bs _ (by decide), List.forall_mem_cons.mpr ⟨⟨?_, by decide +kernel⟩, List.forall_mem_cons.mpr ⟨⟨?_, by decide +kernel⟩, List.forall_mem_cons.mpr ⟨⟨.non, by decide +kernel⟩, List.forall_mem_nil _⟩⟩⟩⟩⟩⟩⟩⟩ <;> (repeat' first | exact Bk.non | exact Bk.bl | exact bkInt (by decide +kernel) | exact bkStr (by decide +kernel) (by decide +kernel) | exact Bk.dic | refine Bk.tup (by simp only [List.length_cons, List.length_nil]; omega) ?_ | refine Bk.lst (by simp only [List.length_cons, List.length_nil]; omega) ?_ | exact List.forall_mem_nil _ | refine List.forall_mem_cons.mpr ⟨?_, ?_⟩)
      generalize hxs : [d4, d5, D.tup [.str (Str.ofString "sum"), iT (List.replicate c 0)], .tup [.str (Str.ofString "sum"), iT (List.replicate c 1000)], .tup [.str (Str.ofString "sum"), iT (List.replicate c 1001)], .tup [], .str (Str.ofString "low"), .non] = xs at all0 ⊢
      have hxl : xs.length = 8 := by rw [← hxs]; rfl
      refine for_ok (fun j ls g => ∃ x6 xs, ls = [.dat (.scr ns), .dat (.obj 0), .dat (.int (0 + ↑i)), .dat (.int m), .dat d4, .dat d5, x6, x7, x8, .own (.lst xs), xa, xb, xc, xd] ∧ xs.length ≤ 8 + 2 * j ∧ (∀ d ∈ xs, Bk 2 13 d ∧ wt d ≤ 200000) ∧ Pen (K + 300 * (5 - j)) g) ⟨_, xs, rfl, by omega, all0, hp.less (by omega)⟩ ?_ ?_
      · rintro j d ls g hd ⟨x6, xs, rfl, hl, hx, hp⟩
        obtain ⟨hj, rfl⟩ := range_get hd
        have hj : j < 4 := by simpa using hj
        have hp : Pen (K + 300 * (5 - (j + 1)) + 300) g := hp.less (by omega)
        rw [m_gset, op_some, q_seq]
        simp only [w_var, lvD_dat, List.getElem?_cons_zero, List.getElem?_cons_succ, w_c, w_op, w_un, w_test, w_gand, w_gor, w_gnot, w_gyes, w_and, w_or, w_not, w_if, w_nil, w_cons, w_tup, w_lst, w_folst, w_folist, w_cb, w_fd, w_call, w_ocall, ovO_own, w_get, w_args, w_items, w_part, intO_int, w_nopart, w_cut, w_folc, q_nx, q_bk, q_ct, q_set, q_setO, q_tg, q_ret, q_retO, q_retN, q_drop, q_if, q_par, q_par3, q_put, q_app, q_for, twoO_two, triO_tri, w_rD, w_rO, lvR_d, lvR_o, q_parR, q_setAt, w_lenv, lenO_o, lenO_l, lenO_t, w_gown, ownL_at, lstO_l, m_oListL, m_oListT, q_appPop, w_intbl, w_attbl, w_callv, fnD_fn, w_tuprg, q_star, q_aug, strD_str, starO_c, rgO_int, m_mulS, m_int1i, m_int1b, m_gseqT, m_gseqL, seqP_rt, seqP_bk, seqP_ct, seqP_xc, midP_nx, midP_rt, midP_bk, midP_ct, midP_xc, fnP_nx, fnP_rt, fnP_xc, rdP_nx, rdP_ct, rdP_bk, rdP_rt, rdP_xc, op_some, op_none, op_ite, op_map, op_bind, ok_ret, ok_some, m_lt, m_le, m_gt, m_ge, m_add, m_addT, m_addL, m_sub, m_mulI, m_mod, m_fdivS, m_powS, m_neg, m_bool, m_abs, m_min2, m_max2, m_lenL, m_lenT, m_lenI, m_tupL, m_tupT, m_lstL, m_lstT, m_rv1, m_rv2, m_ov, m_key, m_kds, m_so, m_rng1, m_gset, m_gtup, m_gsc, m_gsn, m_zipL, m_zipT, m_itL, m_itT, m_cutT, m_cutL, eq_I, ne_I, no_nil, no_cons, no_un, no_dat, wi_nil, wi_cons, Bool.and_true, Bool.true_and, Bool.and_self, and_self, List.set_cons_zero, List.set_cons_succ, List.length_cons, List.length_nil, m_line, Nat.reduceAdd, Nat.reduceLeDiff, Nat.reduceLT, Int.reduceLE, Int.reduceLT, Int.reduceToNat, Int.reducePow, Nat.reducePow, Int.reduceNeg, Int.reduceMul, Int.reduceAdd, Int.reduceSub, Nat.reduceMul, Nat.reduceSub, Int.reduceMod, Int.reduceDiv, Nat.zero_add, true_and, and_true, if_true, if_false, reduceCtorEq, false_implies, forall_const, true_implies, implies_true, decide_eq_true_eq, decide_eq_false_iff_not, beq_iff_eq, beq_eq_false_iff_ne, ne_eq, Bool.not_eq_true, List.append_eq, List.cons_append, List.nil_append, w_chn, w_ixv, lsO_o, lsO_d, w_focat, m_ocat, m_eqnL, m_eqnT, w_disp0, m_ovd, q_frz, frzO_o, frzO_d, m_revL, m_revT, m_addXi, m_addXb, m_subXi, m_subXb, m_mulXi, m_mulXb, m_negXi, m_negXb, m_strXb, m_addS, m_cutS, List.map_nil, List.isEmpty_nil, List.isEmpty_cons]
        have key : ∃ e, dIx (.lst [d4, d5]) (.int ((0 + (j : Int)) % 2)) = some e ∧ Bk 0 9 e ∧ wt e ≤ 48000 := by
          have h3 : (0 + (j : Int)) % 2 = 0 ∨ (0 + (j : Int)) % 2 = 1 := by omega
          rcases h3 with h | h <;> rw [h]
          · exact ⟨_, rfl, s1.mono (by decide) (by decide), by omega⟩
          · exact ⟨_, rfl, b5, w5⟩
        obtain ⟨e, e1, e2, e3⟩ := key
        rw [e1, op_some]
        refine bent_ok (K := K + 300 * (5 - (j + 1)) + 150) (by decide) 20 9 e2 (by decide) (by omega) (hp.less (by omega)) fun d1 g q1 q2 hp => ?_
        rw [m_rv1]
        refine ⟨by omega, ?_⟩
        rw [seqP_nx]
        simp only [w_var, lvD_dat, List.getElem?_cons_zero, List.getElem?_cons_succ, w_c, w_op, w_un, w_test, w_gand, w_gor, w_gnot, w_gyes, w_and, w_or, w_not, w_if, w_nil, w_cons, w_tup, w_lst, w_folst, w_folist, w_cb, w_fd, w_call, w_ocall, ovO_own, w_get, w_args, w_items, w_part, intO_int, w_nopart, w_cut, w_folc, q_nx, q_bk, q_ct, q_set, q_setO, q_tg, q_ret, q_retO, q_retN, q_drop, q_if, q_par, q_par3, q_put, q_app, q_for, twoO_two, triO_tri, w_rD, w_rO, lvR_d, lvR_o, q_parR, q_setAt, w_lenv, lenO_o, lenO_l, lenO_t, w_gown, ownL_at, lstO_l, m_oListL, m_oListT, q_appPop, w_intbl, w_attbl, w_callv, fnD_fn, w_tuprg, q_star, q_aug, strD_str, starO_c, rgO_int, m_mulS, m_int1i, m_int1b, m_gseqT, m_gseqL, seqP_rt, seqP_bk, seqP_ct, seqP_xc, midP_nx, midP_rt, midP_bk, midP_ct, midP_xc, fnP_nx, fnP_rt, fnP_xc, rdP_nx, rdP_ct, rdP_bk, rdP_rt, rdP_xc, op_some, op_none, op_ite, op_map, op_bind, ok_ret, ok_some, m_lt, m_le, m_gt, m_ge, m_add, m_addT, m_addL, m_sub, m_mulI, m_mod, m_fdivS, m_powS, m_neg, m_bool, m_abs, m_min2, m_max2, m_lenL, m_lenT, m_lenI, m_tupL, m_tupT, m_lstL, m_lstT, m_rv1, m_rv2, m_ov, m_key, m_kds, m_so, m_rng1, m_gset, m_gtup, m_gsc, m_gsn, m_zipL, m_zipT, m_itL, m_itT, m_cutT, m_cutL, eq_I, ne_I, no_nil, no_cons, no_un, no_dat, wi_nil, wi_cons, Bool.and_true, Bool.true_and, Bool.and_self, and_self, List.set_cons_zero, List.set_cons_succ, List.length_cons, List.length_nil, m_line, Nat.reduceAdd, Nat.reduceLeDiff, Nat.reduceLT, Int.reduceLE, Int.reduceLT, Int.reduceToNat, Int.reducePow, Nat.reducePow, Int.reduceNeg, Int.reduceMul, Int.reduceAdd, Int.reduceSub, Nat.reduceMul, Nat.reduceSub, Int.reduceMod, Int.reduceDiv, Nat.zero_add, true_and, and_true, if_true, if_false, reduceCtorEq, false_implies, forall_const, true_implies, implies_true, decide_eq_true_eq, decide_eq_false_iff_not, beq_iff_eq, beq_eq_false_iff_ne, ne_eq, Bool.not_eq_true, List.append_eq, List.cons_append, List.nil_append, w_chn, w_ixv, lsO_o, lsO_d, w_focat, m_ocat, m_eqnL, m_eqnT, w_disp0, m_ovd, q_frz, frzO_o, frzO_d, m_revL, m_revT, m_addXi, m_addXb, m_subXi, m_subXb, m_mulXi, m_mulXb, m_negXi, m_negXb, m_strXb, m_addS, m_cutS, List.map_nil, List.isEmpty_nil, List.isEmpty_cons, ix_neg1]
        refine bent_ok (K := K + 300 * (5 - (j + 1))) (by decide) 20 11 q1 (by decide) (by omega) (hp.less (by omega)) fun d2 g q3 q4 hp => ?_
        rw [m_rv1]
        simp only [w_var, lvD_dat, List.getElem?_cons_zero, List.getElem?_cons_succ, w_c, w_op, w_un, w_test, w_gand, w_gor, w_gnot, w_gyes, w_and, w_or, w_not, w_if, w_nil, w_cons, w_tup, w_lst, w_folst, w_folist, w_cb, w_fd, w_call, w_ocall, ovO_own, w_get, w_args, w_items, w_part, intO_int, w_nopart, w_cut, w_folc, q_nx, q_bk, q_ct, q_set, q_setO, q_tg, q_ret, q_retO, q_retN, q_drop, q_if, q_par, q_par3, q_put, q_app, q_for, twoO_two, triO_tri, w_rD, w_rO, lvR_d, lvR_o, q_parR, q_setAt, w_lenv, lenO_o, lenO_l, lenO_t, w_gown, ownL_at, lstO_l, m_oListL, m_oListT, q_appPop, w_intbl, w_attbl, w_callv, fnD_fn, w_tuprg, q_star, q_aug, strD_str, starO_c, rgO_int, m_mulS, m_int1i, m_int1b, m_gseqT, m_gseqL, seqP_rt, seqP_bk, seqP_ct, seqP_xc, midP_nx, midP_rt, midP_bk, midP_ct, midP_xc, fnP_nx, fnP_rt, fnP_xc, rdP_nx, rdP_ct, rdP_bk, rdP_rt, rdP_xc, op_some, op_none, op_ite, op_map, op_bind, ok_ret, ok_some, m_lt, m_le, m_gt, m_ge, m_add, m_addT, m_addL, m_sub, m_mulI, m_mod, m_fdivS, m_powS, m_neg, m_bool, m_abs, m_min2, m_max2, m_lenL, m_lenT, m_lenI, m_tupL, m_tupT, m_lstL, m_lstT, m_rv1, m_rv2, m_ov, m_key, m_kds, m_so, m_rng1, m_gset, m_gtup, m_gsc, m_gsn, m_zipL, m_zipT, m_itL, m_itT, m_cutT, m_cutL, eq_I, ne_I, no_nil, no_cons, no_un, no_dat, wi_nil, wi_cons, Bool.and_true, Bool.true_and, Bool.and_self, and_self, List.set_cons_zero, List.set_cons_succ, List.length_cons, List.length_nil, m_line, Nat.reduceAdd, Nat.reduceLeDiff, Nat.reduceLT, Int.reduceLE, Int.reduceLT, Int.reduceToNat, Int.reducePow, Nat.reducePow, Int.reduceNeg, Int.reduceMul, Int.reduceAdd, Int.reduceSub, Nat.reduceMul, Nat.reduceSub, Int.reduceMod, Int.reduceDiv, Nat.zero_add, true_and, and_true, if_true, if_false, reduceCtorEq, false_implies, forall_const, true_implies, implies_true, decide_eq_true_eq, decide_eq_false_iff_not, beq_iff_eq, beq_eq_false_iff_ne, ne_eq, Bool.not_eq_true, List.append_eq, List.cons_append, List.nil_append, w_chn, w_ixv, lsO_o, lsO_d, w_focat, m_ocat, m_eqnL, m_eqnT, w_disp0, m_ovd, q_frz, frzO_o, frzO_d, m_revL, m_revT, m_addXi, m_addXb, m_subXi, m_subXb, m_mulXi, m_mulXb, m_negXi, m_negXb, m_strXb, m_addS, m_cutS, List.map_nil, List.isEmpty_nil, List.isEmpty_cons, List.length_append]
        refine ⟨by omega, ?_⟩
        refine ⟨_, _, rfl, ?_, ?_, hp⟩
        · simp only [List.length_append, List.length_cons, List.length_nil]; omega
        · intro d hd
          rcases List.mem_append.mp hd with hd | hd
          · rcases List.mem_append.mp hd with hd | hd
            · exact hx d hd
            · rw [List.mem_singleton.mp hd]; exact ⟨q1.mono (by decide) (by decide), by omega⟩
          · rw [List.mem_singleton.mp hd]; exact ⟨q3, by omega⟩
      · rintro ls g ⟨x6, ys, rfl, hl, all, hp⟩
        rw [seqP_nx, q_frz]
        simp only [w_var, lvD_dat, List.getElem?_cons_zero, List.getElem?_cons_succ, w_c, w_op, w_un, w_test, w_gand, w_gor, w_gnot, w_gyes, w_and, w_or, w_not, w_if, w_nil, w_cons, w_tup, w_lst, w_folst, w_folist, w_cb, w_fd, w_call, w_ocall, ovO_own, w_get, w_args, w_items, w_part, intO_int, w_nopart, w_cut, w_folc, q_nx, q_bk, q_ct, q_set, q_setO, q_tg, q_ret, q_retO, q_retN, q_drop, q_if, q_par, q_par3, q_put, q_app, q_for, twoO_two, triO_tri, w_rD, w_rO, lvR_d, lvR_o, q_parR, q_setAt, w_lenv, lenO_o, lenO_l, lenO_t, w_gown, ownL_at, lstO_l, m_oListL, m_oListT, q_appPop, w_intbl, w_attbl, w_callv, fnD_fn, w_tuprg, q_star, q_aug, strD_str, starO_c, rgO_int, m_mulS, m_int1i, m_int1b, m_gseqT, m_gseqL, seqP_rt, seqP_bk, seqP_ct, seqP_xc, midP_nx, midP_rt, midP_bk, midP_ct, midP_xc, fnP_nx, fnP_rt, fnP_xc, rdP_nx, rdP_ct, rdP_bk, rdP_rt, rdP_xc, op_some, op_none, op_ite, op_map, op_bind, ok_ret, ok_some, m_lt, m_le, m_gt, m_ge, m_add, m_addT, m_addL, m_sub, m_mulI, m_mod, m_fdivS, m_powS, m_neg, m_bool, m_abs, m_min2, m_max2, m_lenL, m_lenT, m_lenI, m_tupL, m_tupT, m_lstL, m_lstT, m_rv1, m_rv2, m_ov, m_key, m_kds, m_so, m_rng1, m_gset, m_gtup, m_gsc, m_gsn, m_zipL, m_zipT, m_itL, m_itT, m_cutT, m_cutL, eq_I, ne_I, no_nil, no_cons, no_un, no_dat, wi_nil, wi_cons, Bool.and_true, Bool.true_and, Bool.and_self, and_self, List.set_cons_zero, List.set_cons_succ, List.length_cons, List.length_nil, m_line, Nat.reduceAdd, Nat.reduceLeDiff, Nat.reduceLT, Int.reduceLE, Int.reduceLT, Int.reduceToNat, Int.reducePow, Nat.reducePow, Int.reduceNeg, Int.reduceMul, Int.reduceAdd, Int.reduceSub, Nat.reduceMul, Nat.reduceSub, Int.reduceMod, Int.reduceDiv, Nat.zero_add, true_and, and_true, if_true, if_false, reduceCtorEq, false_implies, forall_const, true_implies, implies_true, decide_eq_true_eq, decide_eq_false_iff_not, beq_iff_eq, beq_eq_false_iff_ne, ne_eq, Bool.not_eq_true, List.append_eq, List.cons_append, List.nil_append, w_chn, w_ixv, lsO_o, lsO_d, w_focat, m_ocat, m_eqnL, m_eqnT, w_disp0, m_ovd, q_frz, frzO_o, frzO_d, m_revL, m_revT, m_addXi, m_addXb, m_subXi, m_subXb, m_mulXi, m_mulXb, m_negXi, m_negXb, m_strXb, m_addS, m_cutS, List.map_nil, List.isEmpty_nil, List.isEmpty_cons]
        refine for_ok (fun j ls g => ∃ xa xb xc xd, ls = [.dat (.scr ns), .dat (.obj 0), .dat (.int (0 + ↑i)), .dat (.int m), .dat d4, .dat d5, x6, x7, x8, .dat (.lst ys), xa, xb, xc, xd] ∧ Pen K g) ⟨_, _, _, _, rfl, hp.less (by omega)⟩ ?_ ?_
        · rintro j d ls g hd ⟨xa, xb, xc, xd, rfl, hp⟩
          obtain ⟨bd, wd⟩ := all d (List.mem_of_getElem? hd)
          have er := bd.repr (by decide) (by decide) (by omega)
          rw [m_gset, op_some]
          simp only [w_var, lvD_dat, List.getElem?_cons_zero, List.getElem?_cons_succ, w_c, w_op, w_un, w_test, w_gand, w_gor, w_gnot, w_gyes, w_and, w_or, w_not, w_if, w_nil, w_cons, w_tup, w_lst, w_folst, w_folist, w_cb, w_fd, w_call, w_ocall, ovO_own, w_get, w_args, w_items, w_part, intO_int, w_nopart, w_cut, w_folc, q_nx, q_bk, q_ct, q_set, q_setO, q_tg, q_ret, q_retO, q_retN, q_drop, q_if, q_par, q_par3, q_put, q_app, q_for, twoO_two, triO_tri, w_rD, w_rO, lvR_d, lvR_o, q_parR, q_setAt, w_lenv, lenO_o, lenO_l, lenO_t, w_gown, ownL_at, lstO_l, m_oListL, m_oListT, q_appPop, w_intbl, w_attbl, w_callv, fnD_fn, w_tuprg, q_star, q_aug, strD_str, starO_c, rgO_int, m_mulS, m_int1i, m_int1b, m_gseqT, m_gseqL, seqP_rt, seqP_bk, seqP_ct, seqP_xc, midP_nx, midP_rt, midP_bk, midP_ct, midP_xc, fnP_nx, fnP_rt, fnP_xc, rdP_nx, rdP_ct, rdP_bk, rdP_rt, rdP_xc, op_some, op_none, op_ite, op_map, op_bind, ok_ret, ok_some, m_lt, m_le, m_gt, m_ge, m_add, m_addT, m_addL, m_sub, m_mulI, m_mod, m_fdivS, m_powS, m_neg, m_bool, m_abs, m_min2, m_max2, m_lenL, m_lenT, m_lenI, m_tupL, m_tupT, m_lstL, m_lstT, m_rv1, m_rv2, m_ov, m_key, m_kds, m_so, m_rng1, m_gset, m_gtup, m_gsc, m_gsn, m_zipL, m_zipT, m_itL, m_itT, m_cutT, m_cutL, eq_I, ne_I, no_nil, no_cons, no_un, no_dat, wi_nil, wi_cons, Bool.and_true, Bool.true_and, Bool.and_self, and_self, List.set_cons_zero, List.set_cons_succ, List.length_cons, List.length_nil, m_line, Nat.reduceAdd, Nat.reduceLeDiff, Nat.reduceLT, Int.reduceLE, Int.reduceLT, Int.reduceToNat, Int.reducePow, Nat.reducePow, Int.reduceNeg, Int.reduceMul, Int.reduceAdd, Int.reduceSub, Nat.reduceMul, Nat.reduceSub, Int.reduceMod, Int.reduceDiv, Nat.zero_add, true_and, and_true, if_true, if_false, reduceCtorEq, false_implies, forall_const, true_implies, implies_true, decide_eq_true_eq, decide_eq_false_iff_not, beq_iff_eq, beq_eq_false_iff_ne, ne_eq, Bool.not_eq_true, List.append_eq, List.cons_append, List.nil_append, w_chn, w_ixv, lsO_o, lsO_d, w_focat, m_ocat, m_eqnL, m_eqnT, w_disp0, m_ovd, q_frz, frzO_o, frzO_d, m_revL, m_revT, m_addXi, m_addXb, m_subXi, m_subXb, m_mulXi, m_mulXb, m_negXi, m_negXb, m_strXb, m_addS, m_cutS, List.map_nil, List.isEmpty_nil, List.isEmpty_cons]
          refine for_ok (fun j ls g => ∃ xb xc xd, ls = [.dat (.scr ns), .dat (.obj 0), .dat (.int (0 + ↑i)), .dat (.int m), .dat d4, .dat d5, x6, x7, x8, .dat (.lst ys), .dat d, xb, xc, xd] ∧ Pen K g) ⟨_, _, _, rfl, hp⟩ ?_ ?_
          · rintro j2 y ls g hy ⟨xb, xc, xd, rfl, hp⟩
            obtain ⟨z, rfl⟩ : ∃ z, y = .int z := by
              have := List.mem_of_getElem? hy
              simp only [List.mem_cons, List.not_mem_nil, or_false] at this
              rcases this with rfl | rfl <;> exact ⟨_, rfl⟩
            rw [m_gset, op_some, q_seq]
            simp only [w_var, lvD_dat, List.getElem?_cons_zero, List.getElem?_cons_succ, w_c, w_op, w_un, w_test, w_gand, w_gor, w_gnot, w_gyes, w_and, w_or, w_not, w_if, w_nil, w_cons, w_tup, w_lst, w_folst, w_folist, w_cb, w_fd, w_call, w_ocall, ovO_own, w_get, w_args, w_items, w_part, intO_int, w_nopart, w_cut, w_folc, q_nx, q_bk, q_ct, q_set, q_setO, q_tg, q_ret, q_retO, q_retN, q_drop, q_if, q_par, q_par3, q_put, q_app, q_for, twoO_two, triO_tri, w_rD, w_rO, lvR_d, lvR_o, q_parR, q_setAt, w_lenv, lenO_o, lenO_l, lenO_t, w_gown, ownL_at, lstO_l, m_oListL, m_oListT, q_appPop, w_intbl, w_attbl, w_callv, fnD_fn, w_tuprg, q_star, q_aug, strD_str, starO_c, rgO_int, m_mulS, m_int1i, m_int1b, m_gseqT, m_gseqL, seqP_rt, seqP_bk, seqP_ct, seqP_xc, midP_nx, midP_rt, midP_bk, midP_ct, midP_xc, fnP_nx, fnP_rt, fnP_xc, rdP_nx, rdP_ct, rdP_bk, rdP_rt, rdP_xc, op_some, op_none, op_ite, op_map, op_bind, ok_ret, ok_some, m_lt, m_le, m_gt, m_ge, m_add, m_addT, m_addL, m_sub, m_mulI, m_mod, m_fdivS, m_powS, m_neg, m_bool, m_abs, m_min2, m_max2, m_lenL, m_lenT, m_lenI, m_tupL, m_tupT, m_lstL, m_lstT, m_rv1, m_rv2, m_ov, m_key, m_kds, m_so, m_rng1, m_gset, m_gtup, m_gsc, m_gsn, m_zipL, m_zipT, m_itL, m_itT, m_cutT, m_cutL, eq_I, ne_I, no_nil, no_cons, no_un, no_dat, wi_nil, wi_cons, Bool.and_true, Bool.true_and, Bool.and_self, and_self, List.set_cons_zero, List.set_cons_succ, List.length_cons, List.length_nil, m_line, Nat.reduceAdd, Nat.reduceLeDiff, Nat.reduceLT, Int.reduceLE, Int.reduceLT, Int.reduceToNat, Int.reducePow, Nat.reducePow, Int.reduceNeg, Int.reduceMul, Int.reduceAdd, Int.reduceSub, Nat.reduceMul, Nat.reduceSub, Int.reduceMod, Int.reduceDiv, Nat.zero_add, true_and, and_true, if_true, if_false, reduceCtorEq, false_implies, forall_const, true_implies, implies_true, decide_eq_true_eq, decide_eq_false_iff_not, beq_iff_eq, beq_eq_false_iff_ne, ne_eq, Bool.not_eq_true, List.append_eq, List.cons_append, List.nil_append, w_chn, w_ixv, lsO_o, lsO_d, w_focat, m_ocat, m_eqnL, m_eqnT, w_disp0, m_ovd, q_frz, frzO_o, frzO_d, m_revL, m_revT, m_addXi, m_addXb, m_subXi, m_subXb, m_mulXi, m_mulXb, m_negXi, m_negXb, m_strXb, m_addS, m_cutS, List.map_nil, List.isEmpty_nil, List.isEmpty_cons, er]
            refine lsc_ok (by decide) 10 4 bd (by decide) ?_
            rw [m_rv1]
            try simp only [w_var, lvD_dat, List.getElem?_cons_zero, List.getElem?_cons_succ, w_c, w_op, w_un, w_test, w_gand, w_gor, w_gnot, w_gyes, w_and, w_or, w_not, w_if, w_nil, w_cons, w_tup, w_lst, w_folst, w_folist, w_cb, w_fd, w_call, w_ocall, ovO_own, w_get, w_args, w_items, w_part, intO_int, w_nopart, w_cut, w_folc, q_nx, q_bk, q_ct, q_set, q_setO, q_tg, q_ret, q_retO, q_retN, q_drop, q_if, q_par, q_par3, q_put, q_app, q_for, twoO_two, triO_tri, w_rD, w_rO, lvR_d, lvR_o, q_parR, q_setAt, w_lenv, lenO_o, lenO_l, lenO_t, w_gown, ownL_at, lstO_l, m_oListL, m_oListT, q_appPop, w_intbl, w_attbl, w_callv, fnD_fn, w_tuprg, q_star, q_aug, strD_str, starO_c, rgO_int, m_mulS, m_int1i, m_int1b, m_gseqT, m_gseqL, seqP_rt, seqP_bk, seqP_ct, seqP_xc, midP_nx, midP_rt, midP_bk, midP_ct, midP_xc, fnP_nx, fnP_rt, fnP_xc, rdP_nx, rdP_ct, rdP_bk, rdP_rt, rdP_xc, op_some, op_none, op_ite, op_map, op_bind, ok_ret, ok_some, m_lt, m_le, m_gt, m_ge, m_add, m_addT, m_addL, m_sub, m_mulI, m_mod, m_fdivS, m_powS, m_neg, m_bool, m_abs, m_min2, m_max2, m_lenL, m_lenT, m_lenI, m_tupL, m_tupT, m_lstL, m_lstT, m_rv1, m_rv2, m_ov, m_key, m_kds, m_so, m_rng1, m_gset, m_gtup, m_gsc, m_gsn, m_zipL, m_zipT, m_itL, m_itT, m_cutT, m_cutL, eq_I, ne_I, no_nil, no_cons, no_un, no_dat, wi_nil, wi_cons, Bool.and_true, Bool.true_and, Bool.and_self, and_self, List.set_cons_zero, List.set_cons_succ, List.length_cons, List.length_nil, m_line, Nat.reduceAdd, Nat.reduceLeDiff, Nat.reduceLT, Int.reduceLE, Int.reduceLT, Int.reduceToNat, Int.reducePow, Nat.reducePow, Int.reduceNeg, Int.reduceMul, Int.reduceAdd, Int.reduceSub, Nat.reduceMul, Nat.reduceSub, Int.reduceMod, Int.reduceDiv, Nat.zero_add, true_and, and_true, if_true, if_false, reduceCtorEq, false_implies, forall_const, true_implies, implies_true, decide_eq_true_eq, decide_eq_false_iff_not, beq_iff_eq, beq_eq_false_iff_ne, ne_eq, Bool.not_eq_true, List.append_eq, List.cons_append, List.nil_append, w_chn, w_ixv, lsO_o, lsO_d, w_focat, m_ocat, m_eqnL, m_eqnT, w_disp0, m_ovd, q_frz, frzO_o, frzO_d, m_revL, m_revT, m_addXi, m_addXb, m_subXi, m_subXb, m_mulXi, m_mulXb, m_negXi, m_negXb, m_strXb, m_addS, m_cutS, List.map_nil, List.isEmpty_nil, List.isEmpty_cons]
            rw [seqP_nx]
            simp only [w_var, lvD_dat, List.getElem?_cons_zero, List.getElem?_cons_succ, w_c, w_op, w_un, w_test, w_gand, w_gor, w_gnot, w_gyes, w_and, w_or, w_not, w_if, w_nil, w_cons, w_tup, w_lst, w_folst, w_folist, w_cb, w_fd, w_call, w_ocall, ovO_own, w_get, w_args, w_items, w_part, intO_int, w_nopart, w_cut, w_folc, q_nx, q_bk, q_ct, q_set, q_setO, q_tg, q_ret, q_retO, q_retN, q_drop, q_if, q_par, q_par3, q_put, q_app, q_for, twoO_two, triO_tri, w_rD, w_rO, lvR_d, lvR_o, q_parR, q_setAt, w_lenv, lenO_o, lenO_l, lenO_t, w_gown, ownL_at, lstO_l, m_oListL, m_oListT, q_appPop, w_intbl, w_attbl, w_callv, fnD_fn, w_tuprg, q_star, q_aug, strD_str, starO_c, rgO_int, m_mulS, m_int1i, m_int1b, m_gseqT, m_gseqL, seqP_rt, seqP_bk, seqP_ct, seqP_xc, midP_nx, midP_rt, midP_bk, midP_ct, midP_xc, fnP_nx, fnP_rt, fnP_xc, rdP_nx, rdP_ct, rdP_bk, rdP_rt, rdP_xc, op_some, op_none, op_ite, op_map, op_bind, ok_ret, ok_some, m_lt, m_le, m_gt, m_ge, m_add, m_addT, m_addL, m_sub, m_mulI, m_mod, m_fdivS, m_powS, m_neg, m_bool, m_abs, m_min2, m_max2, m_lenL, m_lenT, m_lenI, m_tupL, m_tupT, m_lstL, m_lstT, m_rv1, m_rv2, m_ov, m_key, m_kds, m_so, m_rng1, m_gset, m_gtup, m_gsc, m_gsn, m_zipL, m_zipT, m_itL, m_itT, m_cutT, m_cutL, eq_I, ne_I, no_nil, no_cons, no_un, no_dat, wi_nil, wi_cons, Bool.and_true, Bool.true_and, Bool.and_self, and_self, List.set_cons_zero, List.set_cons_succ, List.length_cons, List.length_nil, m_line, Nat.reduceAdd, Nat.reduceLeDiff, Nat.reduceLT, Int.reduceLE, Int.reduceLT, Int.reduceToNat, Int.reducePow, Nat.reducePow, Int.reduceNeg, Int.reduceMul, Int.reduceAdd, Int.reduceSub, Nat.reduceMul, Nat.reduceSub, Int.reduceMod, Int.reduceDiv, Nat.zero_add, true_and, and_true, if_true, if_false, reduceCtorEq, false_implies, forall_const, true_implies, implies_true, decide_eq_true_eq, decide_eq_false_iff_not, beq_iff_eq, beq_eq_false_iff_ne, ne_eq, Bool.not_eq_true, List.append_eq, List.cons_append, List.nil_append, w_chn, w_ixv, lsO_o, lsO_d, w_focat, m_ocat, m_eqnL, m_eqnT, w_disp0, m_ovd, q_frz, frzO_o, frzO_d, m_revL, m_revT, m_addXi, m_addXb, m_subXi, m_subXb, m_mulXi, m_mulXb, m_negXi, m_negXb, m_strXb, m_addS, m_cutS, List.map_nil, List.isEmpty_nil, List.isEmpty_cons]
            refine isscale_ok bd (by decide) ?_
            rw [m_rv1]
            have e2 : dRepr [.bl (okS z 4 d)] = some (.str (reprS (.bl (okS z 4 d)))) := SH.bl.repr (by decide) (by decide)
            simp only [w_var, lvD_dat, List.getElem?_cons_zero, List.getElem?_cons_succ, w_c, w_op, w_un, w_test, w_gand, w_gor, w_gnot, w_gyes, w_and, w_or, w_not, w_if, w_nil, w_cons, w_tup, w_lst, w_folst, w_folist, w_cb, w_fd, w_call, w_ocall, ovO_own, w_get, w_args, w_items, w_part, intO_int, w_nopart, w_cut, w_folc, q_nx, q_bk, q_ct, q_set, q_setO, q_tg, q_ret, q_retO, q_retN, q_drop, q_if, q_par, q_par3, q_put, q_app, q_for, twoO_two, triO_tri, w_rD, w_rO, lvR_d, lvR_o, q_parR, q_setAt, w_lenv, lenO_o, lenO_l, lenO_t, w_gown, ownL_at, lstO_l, m_oListL, m_oListT, q_appPop, w_intbl, w_attbl, w_callv, fnD_fn, w_tuprg, q_star, q_aug, strD_str, starO_c, rgO_int, m_mulS, m_int1i, m_int1b, m_gseqT, m_gseqL, seqP_rt, seqP_bk, seqP_ct, seqP_xc, midP_nx, midP_rt, midP_bk, midP_ct, midP_xc, fnP_nx, fnP_rt, fnP_xc, rdP_nx, rdP_ct, rdP_bk, rdP_rt, rdP_xc, op_some, op_none, op_ite, op_map, op_bind, ok_ret, ok_some, m_lt, m_le, m_gt, m_ge, m_add, m_addT, m_addL, m_sub, m_mulI, m_mod, m_fdivS, m_powS, m_neg, m_bool, m_abs, m_min2, m_max2, m_lenL, m_lenT, m_lenI, m_tupL, m_tupT, m_lstL, m_lstT, m_rv1, m_rv2, m_ov, m_key, m_kds, m_so, m_rng1, m_gset, m_gtup, m_gsc, m_gsn, m_zipL, m_zipT, m_itL, m_itT, m_cutT, m_cutL, eq_I, ne_I, no_nil, no_cons, no_un, no_dat, wi_nil, wi_cons, Bool.and_true, Bool.true_and, Bool.and_self, and_self, List.set_cons_zero, List.set_cons_succ, List.length_cons, List.length_nil, m_line, Nat.reduceAdd, Nat.reduceLeDiff, Nat.reduceLT, Int.reduceLE, Int.reduceLT, Int.reduceToNat, Int.reducePow, Nat.reducePow, Int.reduceNeg, Int.reduceMul, Int.reduceAdd, Int.reduceSub, Nat.reduceMul, Nat.reduceSub, Int.reduceMod, Int.reduceDiv, Nat.zero_add, true_and, and_true, if_true, if_false, reduceCtorEq, false_implies, forall_const, true_implies, implies_true, decide_eq_true_eq, decide_eq_false_iff_not, beq_iff_eq, beq_eq_false_iff_ne, ne_eq, Bool.not_eq_true, List.append_eq, List.cons_append, List.nil_append, w_chn, w_ixv, lsO_o, lsO_d, w_focat, m_ocat, m_eqnL, m_eqnT, w_disp0, m_ovd, q_frz, frzO_o, frzO_d, m_revL, m_revT, m_addXi, m_addXb, m_subXi, m_subXb, m_mulXi, m_mulXb, m_negXi, m_negXb, m_strXb, m_addS, m_cutS, List.map_nil, List.isEmpty_nil, List.isEmpty_cons, e2, er, m_neS]
            exact ⟨_, _, _, rfl, hp⟩
          · rintro ls g ⟨xb, xc, xd, rfl, hp⟩
            exact ⟨_, _, _, _, rfl, hp⟩
        · rintro ls g ⟨xa, xb, xc, xd, rfl, hp⟩
          exact ⟨_, _, _, _, _, _, _, _, _, _, _, _, rfl, hp⟩
  · rintro ls g ⟨x2, x3, x4, x5, x6, x7, x8, x9, xa, xb, xc, xd, rfl, hp⟩
    rw [seqP_nx]
    try simp only [w_var, lvD_dat, List.getElem?_cons_zero, List.getElem?_cons_succ, w_c, w_op, w_un, w_test, w_gand, w_gor, w_gnot, w_gyes, w_and, w_or, w_not, w_if, w_nil, w_cons, w_tup, w_lst, w_folst, w_folist, w_cb, w_fd, w_call, w_ocall, ovO_own, w_get, w_args, w_items, w_part, intO_int, w_nopart, w_cut, w_folc, q_seq, q_nx, q_bk, q_ct, q_set, q_setO, q_tg, q_ret, q_retO, q_retN, q_drop, q_if, q_par, q_par3, q_put, q_app, q_for, twoO_two, triO_tri, w_rD, w_rO, lvR_d, lvR_o, q_parR, q_setAt, w_lenv, lenO_o, lenO_l, lenO_t, w_gown, ownL_at, lstO_l, m_oListL, m_oListT, q_appPop, w_intbl, w_attbl, w_callv, fnD_fn, w_tuprg, q_star, q_aug, strD_str, starO_c, rgO_int, m_mulS, m_int1i, m_int1b, m_gseqT, m_gseqL, seqP_nx, seqP_rt, seqP_bk, seqP_ct, seqP_xc, midP_nx, midP_rt, midP_bk, midP_ct, midP_xc, fnP_nx, fnP_rt, fnP_xc, rdP_nx, rdP_ct, rdP_bk, rdP_rt, rdP_xc, op_some, op_none, op_ite, op_map, op_bind, ok_ret, ok_some, m_lt, m_le, m_gt, m_ge, m_add, m_addT, m_addL, m_sub, m_mulI, m_mod, m_fdivS, m_powS, m_neg, m_bool, m_abs, m_min2, m_max2, m_lenL, m_lenT, m_lenI, m_tupL, m_tupT, m_lstL, m_lstT, m_rv1, m_rv2, m_ov, m_key, m_kds, m_so, m_rng1, m_gset, m_gtup, m_gsc, m_gsn, m_zipL, m_zipT, m_itL, m_itT, m_cutT, m_cutL, eq_I, ne_I, no_nil, no_cons, no_un, no_dat, wi_nil, wi_cons, Bool.and_true, Bool.true_and, Bool.and_self, and_self, List.set_cons_zero, List.set_cons_succ, List.length_cons, List.length_nil, m_line, Nat.reduceAdd, Nat.reduceLeDiff, Nat.reduceLT, Int.reduceLE, Int.reduceLT, Int.reduceToNat, Int.reducePow, Nat.reducePow, Int.reduceNeg, Int.reduceMul, Int.reduceAdd, Int.reduceSub, Nat.reduceMul, Nat.reduceSub, Int.reduceMod, Int.reduceDiv, Nat.zero_add, true_and, and_true, if_true, if_false, reduceCtorEq, false_implies, forall_const, true_implies, implies_true, decide_eq_true_eq, decide_eq_false_iff_not, beq_iff_eq, beq_eq_false_iff_ne, ne_eq, Bool.not_eq_true, List.append_eq, List.cons_append, List.nil_append, w_chn, w_ixv, lsO_o, lsO_d, w_focat, m_ocat, m_eqnL, m_eqnT, w_disp0, m_ovd, q_frz, frzO_o, frzO_d, m_revL, m_revT, m_addXi, m_addXb, m_subXi, m_subXb, m_mulXi, m_mulXb, m_negXi, m_negXb, m_strXb, m_addS, m_cutS, List.map_nil, List.isEmpty_nil, List.isEmpty_cons]
end K06

open PySem PySem.W PyProof.Rows
set_option maxRecDepth 100000 in
set_option maxHeartbeats 0 in
theorem PySem.Challenge.cw_gapgrades_k06_what_is_a_scale_holds : PySem.Challenge.rw_gapgrades_k06_what_is_a_scale.Holds := by
  w_on; o_law; k_head; (case hw => w_witness2)
  k_fill
  refine G6.walkG (l := PySem.Challenge.rw_gapgrades_k06_what_is_a_scale) (n := 63) (k := 24) (x := "_law_script") (Fl := K06.f_law) rfl (by decide) rfl ⟨rfl, by decide, by decide⟩ (fun w h Y => PySem.W.kIn_of Y) ?F K06.law_true
  case F =>
    intro w mg fa h KX G hmg
    refine' K06.all_mk KX G hmg ?a0 ?l0 ?c0 ?k0 ?a1 ?l1 ?c1 ?k1 ?a2 ?l2 ?c2 ?k2 ?a3 ?l3 ?c3 ?k3 ?a4 ?l4 ?c4 ?k4 ?a5 ?l5 ?c5 ?k5 ?a6 ?l6 ?c6 ?k6 ?a7 ?l7 ?c7 ?k7 ?a8 ?l8 ?c8 ?k8 ?a9 ?l9 ?c9 ?k9 ?a10 ?l10 ?c10 ?k10 ?a11 ?l11 ?c11 ?k11 ?a12 ?l12 ?c12 ?k12 ?a13 ?l13 ?c13 ?k13 ?cg_MOST_WEIGHT ?cg_OF_TWO ?cl_OF_TWO ?cg_ALONE ?cl_ALONE ?cg_MOST_DEEP ?z_abs ?z_all ?z_bool ?z_int ?z_isinstance ?z_len ?z_list ?z_min ?z_range ?z_repr ?z_str ?z_tuple
    (case a0 => k_is); (case l0 => k_is); (case c0 => k_is); (case k0 => k_is); (case a1 => k_is); (case l1 => k_is); (case c1 => k_is); (case k1 => k_is); (case a2 => k_is); (case l2 => k_is); (case c2 => k_is); (case k2 => k_is); (case a3 => k_is); (case l3 => k_is); (case c3 => k_is); (case k3 => k_is); (case a4 => k_is); (case l4 => k_is); (case c4 => k_is); (case k4 => k_is); (case a5 => k_is); (case l5 => k_is); (case c5 => k_is); (case k5 => k_is); (case a6 => k_is); (case l6 => k_is); (case c6 => k_is); (case k6 => k_is); (case a7 => k_is); (case l7 => k_is); (case c7 => k_is); (case k7 => k_is); (case a8 => k_is); (case l8 => k_is); (case c8 => k_is); (case k8 => k_is); (case a9 => k_is); (case l9 => k_is); (case c9 => k_is); (case k9 => k_is); (case a10 => k_is); (case l10 => k_is); (case c10 => k_is); (case k10 => k_is); (case a11 => k_is); (case l11 => k_is); (case c11 => k_is); (case k11 => k_is); (case a12 => k_is); (case l12 => k_is); (case c12 => k_is); (case k12 => k_is); (case a13 => k_is); (case l13 => k_is); (case c13 => k_is); (case k13 => k_is); (case cg_MOST_WEIGHT => k_is); (case cg_OF_TWO => k_is); (case cl_OF_TWO => k_is); (case cg_ALONE => k_is); (case cl_ALONE => k_is); (case cg_MOST_DEEP => k_is); (case z_abs => k_is); (case z_all => k_is); (case z_bool => k_is); (case z_int => k_is); (case z_isinstance => k_is); (case z_len => k_is); (case z_list => k_is); (case z_min => k_is); (case z_range => k_is); (case z_repr => k_is); (case z_str => k_is); (case z_tuple => k_is)

