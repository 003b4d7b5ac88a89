import PyProof.Rows.All
import Wide.All
import OpenK.AllK
import Wide.FinOn
import HandS.ForMost
import HandS.ForExc
import HandS.IsInst
import HandS.Style
import HandS.Wide
import HandS.WideMore
import HandS.Defaults
import HandS.TupAny
import KE.KStateDown
import Lean
import HandS.Head0
import HandS.Head1
import HandS.Head2
import HandS.HeadEnd
import HandS.HeadHook1
import HandS.HeadHook2
import HandS.ExcInit
import HandS.ExcValue
import HandS.ExcIs
import HandS.ExcField
import KE.KExcIs
import PySem.Challenge.RW_fullhands_k96_errors_built
set_option Elab.async false
set_option linter.all false
set_option maxRecDepth 100000
set_option maxHeartbeats 4000000
/-! Fh: data as a whole (D), what stands for it in the heap (Is), a frame of slots (Sat), what an expression is worth (Ev), what a statement does (Ex) -/
namespace Fh
open PySem PySem.Spec PyProof.Rows L2

/-! ### data -/
inductive D where
  | non | bl (b : Bool) | int (i : Int) | str (x : Str)
  | lst (xs : List D) | tup (xs : List D)
  | ins (C : Addr) (fs : List (Str × D))
  | raw (v : V)
  /-- a list that is only read (the script, a table of the module) -/
  | rol (xs : List D)
  /-- whatever stays as the heap grows: an exception, a set, .. -/
  | abs (p : Hp → V → Prop)

/-- what was there is there -/
def Le (H H' : Hp) : Prop := ∀ a o, H a = some o → H' a = some o
theorem Le.refl (H : Hp) : Le H H := fun _ _ h => h
theorem Le.trans {H H1 H2 : Hp} (a : Le H H1) (b : Le H1 H2) : Le H H2 := fun x o h => b x o (a x o h)
theorem Le.back {H H' : Hp} (e : Le H H') {l : Addr} (h : H' l = none) : H l = none := by
  cases q : H l with
  | none => rfl
  | some o => rw [e l o q] at h; cases h
theorem Le.new {H : Hp} {p : Addr} {o : HO} (h : H p = none) : Le H (upd H p o) := fun a u e => by
  rw [upd_ne (ne_of_none e h)]; exact e
theorem Le.rd {H H' : Hp} (e : Le H H') {a : Addr} {u : HO} (h : Rd H a u) : Rd H' a u := by
  rcases h with h | ⟨o, h⟩
  · exact .inl (e _ _ h)
  · exact .inr ⟨o, e _ _ h⟩
theorem Le.sqL {K : PySem.W.Frag} {H H' : Hp} {a : Addr} {xs : List V} (e : Le H H') (h : SqL K H a xs) : SqL K H' a xs := by
  rcases h with h | h
  · exact .inl (e.rd h)
  · exact .inr h
theorem Le.sqT {K : PySem.W.Frag} {H H' : Hp} {a : Addr} {xs : List V} (e : Le H H') (h : SqT K H a xs) : SqT K H' a xs := by
  rcases h with h | h
  · exact .inl (e.rd h)
  · exact .inr h

mutual
inductive Is (K : PySem.W.Frag) (H : Hp) : V → D → Prop
  | non : Is K H .non .non
  | bl (b : Bool) : Is K H (.bl b) (.bl b)
  | int (i : Int) : Is K H (.int i) (.int i)
  | str (x : Str) : Is K H (.str x) (.str x)
  | raw (v : V) : Is K H v (.raw v)
  | lst {a : Addr} {vs : List V} {ds : List D} : H a = some (.lst vs) → Iss K H vs ds → Is K H (.ref a) (.lst ds)
  | tup {a : Addr} {vs : List V} {ds : List D} : SqT K H a vs → Iss K H vs ds → Is K H (.ref a) (.tup ds)
  | rol {a : Addr} {vs : List V} {ds : List D} : SqL K H a vs → Iss K H vs ds → Is K H (.ref a) (.rol ds)
  | ins {a C dx : Addr} {fvs : List (Str × V)} {fs : List (Str × D)} : H a = some (.ins C dx fvs) → Isf K H fvs fs → Is K H (.ref a) (.ins C fs)
  | abs {v : V} {p : Hp → V → Prop} : (∀ H', Le H H' → p H' v) → Is K H v (.abs p)
inductive Iss (K : PySem.W.Frag) (H : Hp) : List V → List D → Prop
  | nil : Iss K H [] []
  | cons {v : V} {vs : List V} {d : D} {ds : List D} : Is K H v d → Iss K H vs ds → Iss K H (v :: vs) (d :: ds)
inductive Isf (K : PySem.W.Frag) (H : Hp) : List (Str × V) → List (Str × D) → Prop
  | nil : Isf K H [] []
  | cons {f : Str} {v : V} {vs : List (Str × V)} {d : D} {ds : List (Str × D)} : Is K H v d → Isf K H vs ds → Isf K H ((f, v) :: vs) ((f, d) :: ds)
end

section
variable {K : PySem.W.Frag} {H H' : Hp}
mutual
theorem Is.mono (e : Le H H') : ∀ (d : D) {v : V}, Is K H v d → Is K H' v d
  | .non, _, h => by cases h; exact .non
  | .bl b, _, h => by cases h; exact .bl b
  | .int i, _, h => by cases h; exact .int i
  | .str x, _, h => by cases h; exact .str x
  | .raw v, _, h => by cases h; exact .raw v
  | .abs p, _, h => by
    cases h with
    | abs hh => exact .abs fun H2 e2 => hh H2 (e.trans e2)
  | .lst ds, _, h => by
    cases h with
    | lst hs ha => exact .lst (e _ _ hs) (Iss.mono e ds ha)
  | .tup ds, _, h => by
    cases h with
    | tup hs ha => exact .tup (e.sqT hs) (Iss.mono e ds ha)
  | .rol ds, _, h => by
    cases h with
    | rol hs ha => exact .rol (e.sqL hs) (Iss.mono e ds ha)
  | .ins C fs, _, h => by
    cases h with
    | ins hs ha => exact .ins (e _ _ hs) (Isf.mono e fs ha)
theorem Iss.mono (e : Le H H') : ∀ (ds : List D) {vs : List V}, Iss K H vs ds → Iss K H' vs ds
  | [], _, h => by cases h; exact .nil
  | d :: ds, _, h => by
    cases h with
    | cons h1 h2 => exact .cons (Is.mono e d h1) (Iss.mono e ds h2)
theorem Isf.mono (e : Le H H') : ∀ (ds : List (Str × D)) {vs : List (Str × V)}, Isf K H vs ds → Isf K H' vs ds
  | [], _, h => by cases h; exact .nil
  | (f, d) :: ds, _, h => by
    cases h with
    | cons h1 h2 => exact .cons (Is.mono e d h1) (Isf.mono e ds h2)
end

theorem Iss.length : ∀ {ds : List D} {vs : List V}, Iss K H vs ds → vs.length = ds.length
  | [], _, h => by cases h; rfl
  | _ :: ds, _, h => by
    cases h with
    | cons _ h2 => rw [List.length_cons, List.length_cons, h2.length]
theorem Iss.get : ∀ {ds : List D} {vs : List V} {i : Nat} {d : D}, Iss K H vs ds → ds[i]? = some d → ∃ v, vs[i]? = some v ∧ Is K H v d
  | [], _, _, _, _, e => by simp at e
  | _ :: ds, _, 0, _, h, e => by
    cases h with
    | cons h1 _ => simp at e; subst e; exact ⟨_, rfl, h1⟩
  | _ :: ds, _, i + 1, _, h, e => by
    cases h with
    | cons _ h2 =>
      obtain ⟨v, q, r⟩ := h2.get (i := i) (by simpa using e)
      exact ⟨v, by simpa using q, r⟩
theorem Iss.getV : ∀ {ds : List D} {vs : List V} {i : Nat} {v : V}, Iss K H vs ds → vs[i]? = some v → ∃ d, ds[i]? = some d ∧ Is K H v d := fun {ds vs i v} h e => by
  have hi : i < ds.length := by rw [← h.length]; exact (List.getElem?_eq_some_iff.mp e).1
  obtain ⟨u, q, r⟩ := h.get (List.getElem?_eq_getElem hi)
  rw [e] at q; cases q
  exact ⟨_, List.getElem?_eq_getElem hi, r⟩
theorem Iss.append : ∀ {ds es : List D} {vs us : List V}, Iss K H vs ds → Iss K H us es → Iss K H (vs ++ us) (ds ++ es)
  | [], _, _, _, h, g => by cases h; exact g
  | _ :: ds, _, _, _, h, g => by
    cases h with
    | cons h1 h2 => exact .cons h1 (h2.append g)
theorem Iss.set : ∀ {ds : List D} {vs : List V} (i : Nat) {v : V} {d : D}, Iss K H vs ds → Is K H v d → Iss K H (vs.set i v) (ds.set i d)
  | [], _, _, _, _, h, _ => by cases h; exact .nil
  | _ :: ds, _, 0, _, _, h, g => by
    cases h with
    | cons _ h2 => exact .cons g h2
  | _ :: ds, _, i + 1, _, _, h, g => by
    cases h with
    | cons h1 h2 => exact .cons h1 (h2.set i g)
theorem Iss.drop : ∀ {ds : List D} {vs : List V} (n : Nat), Iss K H vs ds → Iss K H (vs.drop n) (ds.drop n)
  | _, _, 0, h => h
  | [], _, n + 1, h => by cases h; exact .nil
  | _ :: ds, _, n + 1, h => by
    cases h with
    | cons _ h2 => exact h2.drop n
theorem Iss.take : ∀ {ds : List D} {vs : List V} (n : Nat), Iss K H vs ds → Iss K H (vs.take n) (ds.take n)
  | _, _, 0, _ => .nil
  | [], _, n + 1, h => by cases h; exact .nil
  | _ :: ds, _, n + 1, h => by
    cases h with
    | cons h1 h2 => exact .cons h1 (h2.take n)
theorem Iss.reverse : ∀ {ds : List D} {vs : List V}, Iss K H vs ds → Iss K H vs.reverse ds.reverse
  | [], _, h => by cases h; exact .nil
  | _ :: ds, _, h => by
    cases h with
    | cons h1 h2 =>
      rw [List.reverse_cons, List.reverse_cons]
      exact h2.reverse.append (.cons h1 .nil)
theorem Iss.dropLast {ds : List D} {vs : List V} (h : Iss K H vs ds) : Iss K H vs.dropLast ds.dropLast := by
  rw [List.dropLast_eq_take, List.dropLast_eq_take, h.length]
  exact h.take _
theorem Iss.ints : ∀ {ns : List Int} {vs : List V}, Iss K H vs (ns.map D.int) → vs = ns.map V.int
  | [], _, h => by cases h; rfl
  | n :: ns, _, h => by
    cases h with
    | cons h1 h2 => cases h1; rw [h2.ints]; rfl
theorem iss_ints : ∀ ns : List Int, Iss K H (ns.map V.int) (ns.map D.int)
  | [] => .nil
  | n :: ns => .cons (.int n) (iss_ints ns)
theorem Iss.bls : ∀ {ns : List Bool} {vs : List V}, Iss K H vs (ns.map D.bl) → vs = ns.map V.bl
  | [], _, h => by cases h; rfl
  | n :: ns, _, h => by
    cases h with
    | cons h1 h2 => cases h1; rw [h2.bls]; rfl
theorem iss_bls : ∀ ns : List Bool, Iss K H (ns.map V.bl) (ns.map D.bl)
  | [] => .nil
  | n :: ns => .cons (.bl n) (iss_bls ns)
theorem Isf.lookup : ∀ {fs : List (Str × D)} {vs : List (Str × V)} {f : Str} {d : D}, Isf K H vs fs → fs.lookup f = some d → ∃ v, vs.lookup f = some v ∧ Is K H v d
  | [], _, _, _, _, e => by simp at e
  | (g, x) :: fs, _, f, d, h, e => by
    cases h with
    | cons h1 h2 =>
      by_cases q : (f == g) = true
      · rw [List.lookup_cons, q] at e
        rw [List.lookup_cons, q]
        have e' : x = d := Option.some.inj e
        subst e'
        exact ⟨_, rfl, h1⟩
      · have q' : (f == g) = false := by simpa using q
        rw [List.lookup_cons, q'] at e
        rw [List.lookup_cons, q']
        exact h2.lookup e
theorem Isf.lookup_none : ∀ {fs : List (Str × D)} {vs : List (Str × V)} {f : Str}, Isf K H vs fs → fs.lookup f = none → vs.lookup f = none
  | [], _, _, h, e => by cases h; rfl
  | (g, x) :: fs, _, f, h, e => by
    cases h with
    | cons h1 h2 =>
      by_cases q : (f == g) = true
      · rw [List.lookup_cons, q] at e; cases e
      · have q' : (f == g) = false := by simpa using q
        rw [List.lookup_cons, q'] at e
        rw [List.lookup_cons, q']
        exact h2.lookup_none e
theorem Isf.length : ∀ {fs : List (Str × D)} {vs : List (Str × V)}, Isf K H vs fs → vs.length = fs.length
  | [], _, h => by cases h; rfl
  | _ :: fs, _, h => by
    cases h with
    | cons _ h2 => rw [List.length_cons, List.length_cons, h2.length]
def putD (f : Str) (v : D) : List (Str × D) → List (Str × D)
  | [] => [(f, v)]
  | (g, u) :: r => if g = f then (g, v) :: r else (g, u) :: putD f v r
end

/-! ### growth, slots, the frame -/
structure Gr (H T H' T' : Hp) : Prop where
  h : Le H H'
  t : Le T T'
  s : Le T' H'
  n : ∀ a o, T' a = some o → T a = none → H a = none
theorem Gr.refl {H T : Hp} (s : Le T H) : Gr H T H T := ⟨Le.refl _, Le.refl _, s, fun _ _ h h' => by rw [h] at h'; cases h'⟩
theorem Gr.trans {H T H1 T1 H2 T2 : Hp} (a : Gr H T H1 T1) (b : Gr H1 T1 H2 T2) : Gr H T H2 T2 :=
  ⟨a.h.trans b.h, a.t.trans b.t, b.s, fun x o h h' => by
    cases q : T1 x with
    | none => exact a.h.back (b.n x o h q)
    | some u => exact a.n x u q h'⟩
/-- a new object, known for good -/
theorem Gr.new {H T : Hp} {p : Addr} {o : HO} (s : Le T H) (h : H p = none) : Gr H T (upd H p o) (upd T p o) :=
  ⟨Le.new h, Le.new (s.back h), fun a u e => by
    by_cases hb : a = p
    · subst hb; rw [upd_same] at e ⊢; exact e
    · rw [upd_ne hb] at e ⊢; exact s a u e, fun a u e e' => by
    by_cases hb : a = p
    · subst hb; exact h
    · rw [upd_ne hb] at e; rw [e] at e'; cases e'⟩
/-- a new object, one's own -/
theorem Gr.own {H T : Hp} {p : Addr} {o : HO} (s : Le T H) (h : H p = none) : Gr H T (upd H p o) T :=
  ⟨Le.new h, Le.refl _, s.trans (Le.new h), fun _ _ e e' => by rw [e] at e'; cases e'⟩

inductive Md | dat | bor | now
def MIs (m : Md) (K : PySem.W.Frag) (B H T : Hp) (v : V) (d : D) : Prop := match m with
  | .dat => Is K T v d
  | .bor => Is K T v d ∨ Is K B v d
  | .now => Is K H v d
theorem MIs.now {m : Md} {K : PySem.W.Frag} {B H T : Hp} {v : V} {d : D} (h : MIs m K B H T v d) (hb : Le B H) (ht : Le T H) : Is K H v d := by
  cases m with
  | dat => exact Is.mono ht d h
  | bor => rcases h with h | h; exact Is.mono ht d h; exact Is.mono hb d h
  | now => exact h
theorem MIs.mono {m : Md} {K : PySem.W.Frag} {B H T H' T' : Hp} {v : V} {d : D} (h : MIs m K B H T v d) (hh : Le H H') (ht : Le T T') : MIs m K B H' T' v d := by
  cases m with
  | dat => exact Is.mono ht d h
  | bor => rcases h with h | h; exact .inl (Is.mono ht d h); exact .inr h
  | now => exact Is.mono hh d h
/-- of data that is no object every mode says the same -/
theorem MIs.dat {m : Md} {K : PySem.W.Frag} {B H T : Hp} {v : V} {d : D} (h : Is K T v d) (ht : Le T H) : MIs m K B H T v d := by
  cases m with
  | dat => exact h
  | bor => exact .inl h
  | now => exact Is.mono ht d h

/-- what a frame alone holds -/
inductive OD where
  | lst (xs : List D) | ins (C : Addr) (fs : List (Str × D))
def OwnAt (K : PySem.W.Frag) (H T : Hp) (a : Addr) : OD → Prop
  | .lst ds => ∃ vs, H a = some (.lst vs) ∧ Iss K T vs ds
  | .ins C fs => ∃ dx fvs, H a = some (.ins C dx fvs) ∧ Isf K T fvs fs
def OD.d : OD → D
  | .lst xs => .lst xs
  | .ins C fs => .ins C fs
theorem OwnAt.mono {K : PySem.W.Frag} {H T H' T' : Hp} {a : Addr} {o : OD} (h : OwnAt K H T a o) (hh : H' a = H a) (ht : Le T T') : OwnAt K H' T' a o := by
  cases o with
  | lst ds => obtain ⟨vs, e, i⟩ := h; exact ⟨vs, hh.trans e, Iss.mono ht ds i⟩
  | ins C fs => obtain ⟨dx, fvs, e, i⟩ := h; exact ⟨dx, fvs, hh.trans e, Isf.mono ht fs i⟩
theorem OwnAt.ex {K : PySem.W.Frag} {H T : Hp} {a : Addr} {o : OD} (h : OwnAt K H T a o) : ∃ u, H a = some u := by
  cases o with
  | lst ds => obtain ⟨vs, e, _⟩ := h; exact ⟨_, e⟩
  | ins C fs => obtain ⟨dx, fvs, e, _⟩ := h; exact ⟨_, e⟩
/-- it becomes data -/
theorem OwnAt.give {K : PySem.W.Frag} {H T : Hp} {a : Addr} {o : OD} (h : OwnAt K H T a o) (hn : T a = none) : ∃ u, H a = some u ∧ Is K (upd T a u) (.ref a) o.d := by
  cases o with
  | lst ds => obtain ⟨vs, e, i⟩ := h; exact ⟨_, e, .lst upd_same (Iss.mono (Le.new hn) ds i)⟩
  | ins C fs => obtain ⟨dx, fvs, e, i⟩ := h; exact ⟨_, e, .ins upd_same (Isf.mono (Le.new hn) fs i)⟩

inductive Sl where
  | no | dat (d : D) | bor (d : D) | own (o : OD)
def SlotOk (K : PySem.W.Frag) (B H T : Hp) (x : Option V) : Sl → Prop
  | .no => True
  | .dat d => ∃ v, x = some v ∧ Is K T v d
  | .bor d => ∃ v, x = some v ∧ (Is K T v d ∨ Is K B v d)
  | .own o => ∃ a, x = some (.ref a) ∧ B a = none ∧ T a = none ∧ OwnAt K H T a o
abbrev En := List Sl
structure Sat (K : PySem.W.Frag) (B T0 : Hp) (e : En) (σ : L2.St) (H T : Hp) : Prop where
  gr : Gr B T0 H T
  len : σ.length = e.length
  sl : ∀ (i : Nat) s, e[i]? = some s → ∃ x, σ[i]? = some x ∧ SlotOk K B H T x s
  sep : ∀ (i j : Nat) o o' (a b : Addr), i ≠ j → e[i]? = some (.own o) → e[j]? = some (.own o') → σ[i]? = some (some (V.ref a)) → σ[j]? = some (some (V.ref b)) → a ≠ b
section
variable {K : PySem.W.Frag} {B T0 H T H' T' : Hp} {e : En} {σ : L2.St}
theorem Sat.grow (s : Sat K B T0 e σ H T) (g : Gr H T H' T') : Sat K B T0 e σ H' T' := by
  refine ⟨s.gr.trans g, s.len, fun i sl h => ?_, s.sep⟩
  obtain ⟨x, hx, q⟩ := s.sl i sl h
  refine ⟨x, hx, ?_⟩
  cases sl with
  | no => trivial
  | dat d => obtain ⟨v, e1, q⟩ := q; exact ⟨v, e1, Is.mono g.t d q⟩
  | bor d =>
    obtain ⟨v, e1, q⟩ := q
    rcases q with q | q
    · exact ⟨v, e1, .inl (Is.mono g.t d q)⟩
    · exact ⟨v, e1, .inr q⟩
  | own o =>
    obtain ⟨a, e1, b1, t1, q⟩ := q
    obtain ⟨u, hu⟩ := q.ex
    refine ⟨a, e1, b1, ?_, q.mono ((g.h _ _ hu).trans hu.symm) g.t⟩
    cases z : T' a with
    | none => rfl
    | some u' =>
      have := g.n a u' z t1
      rw [hu] at this; cases this
theorem Sat.rebase (s : Sat K B T0 e σ H T) : Sat K B T e σ H T := ⟨⟨s.gr.h, Le.refl _, s.gr.s, fun _ _ h h' => by rw [h] at h'; cases h'⟩, s.len, s.sl, s.sep⟩
theorem Sat.unbase (s : Sat K B T0 e σ H T) {e' : En} {σ' : L2.St} (s' : Sat K B T e' σ' H' T') : Sat K B T0 e' σ' H' T' :=
  ⟨⟨s'.gr.h, s.gr.t.trans s'.gr.t, s'.gr.s, fun a o h h' => by
    cases q : T a with
    | none => exact s'.gr.n a o h q
    | some u => exact s.gr.n a u q h'⟩, s'.len, s'.sl, s'.sep⟩
/-- the slot i is stored: data -/
theorem Sat.set (s : Sat K B T0 e σ H T) {i : Nat} {x : V} {m : Md} {d : D} (hm : m ≠ .now) (hx : MIs m K B H T x d) : Sat K B T0 (e.set i (match m with | .dat => .dat d | _ => .bor d)) (σ.set i (some x)) H T := by
  refine ⟨s.gr, by simp [s.len], fun j sl h => ?_, fun j k o o' a b hjk h1 h2 h3 h4 => ?_⟩
  · by_cases hj : i = j
    · subst hj
      have hi : i < e.length := by
        have := (List.getElem?_eq_some_iff.mp h).1
        simpa using this
      rw [List.getElem?_set_self hi] at h
      cases h
      refine ⟨some x, by rw [List.getElem?_set_self (by rw [s.len]; exact hi)], ?_⟩
      cases m with
      | dat => exact ⟨x, rfl, hx⟩
      | bor => exact ⟨x, rfl, hx⟩
      | now => exact absurd rfl hm
    · rw [List.getElem?_set_ne hj] at h ⊢
      exact s.sl j sl h
  · have hij : i ≠ j := fun q => by
      subst q
      have hi : i < e.length := by
        have := (List.getElem?_eq_some_iff.mp h1).1
        simpa using this
      rw [List.getElem?_set_self hi] at h1
      cases m <;> cases h1
    have hik : i ≠ k := fun q => by
      subst q
      have hi : i < e.length := by
        have := (List.getElem?_eq_some_iff.mp h2).1
        simpa using this
      rw [List.getElem?_set_self hi] at h2
      cases m <;> cases h2
    rw [List.getElem?_set_ne hij] at h1 h3
    rw [List.getElem?_set_ne hik] at h2 h4
    exact s.sep j k o o' a b hjk h1 h2 h3 h4
/-- .. something of one's own -/
theorem Sat.setO (s : Sat K B T0 e σ H T) {i : Nat} {a : Addr} {o : OD} (hb : B a = none) (ht : T a = none) (ho : OwnAt K H T a o)
    (hs : ∀ (j : Nat) o' (b : Addr), i ≠ j → e[j]? = some (.own o') → σ[j]? = some (some (V.ref b)) → a ≠ b) : Sat K B T0 (e.set i (.own o)) (σ.set i (some (.ref a))) H T := by
  refine ⟨s.gr, by simp [s.len], fun j sl h => ?_, fun j k o1 o2 b c hjk h1 h2 h3 h4 => ?_⟩
  · by_cases hj : i = j
    · subst hj
      have hi : i < e.length := by
        have := (List.getElem?_eq_some_iff.mp h).1
        simpa using this
      rw [List.getElem?_set_self hi] at h
      cases h
      exact ⟨_, by rw [List.getElem?_set_self (by rw [s.len]; exact hi)], a, rfl, hb, ht, ho⟩
    · rw [List.getElem?_set_ne hj] at h ⊢
      exact s.sl j sl h
  · by_cases hij : i = j
    · subst hij
      rw [List.getElem?_set_ne hjk] at h2 h4
      have hi : i < σ.length := by
        have := (List.getElem?_eq_some_iff.mp h3).1
        simpa using this
      rw [List.getElem?_set_self hi] at h3
      cases h3
      exact hs k o2 c hjk h2 h4
    · rw [List.getElem?_set_ne hij] at h1 h3
      by_cases hik : i = k
      · subst hik
        have hi : i < σ.length := by
          have := (List.getElem?_eq_some_iff.mp h4).1
          simpa using this
        rw [List.getElem?_set_self hi] at h4
        cases h4
        exact (hs j o1 b hij h1 h3).symm
      · rw [List.getElem?_set_ne hik] at h2 h4
        exact s.sep j k o1 o2 b c hjk h1 h2 h3 h4
/-- what is at i -/
theorem Sat.own (s : Sat K B T0 e σ H T) {i : Nat} {o : OD} (h : e[i]? = some (.own o)) : ∃ a, σ[i]? = some (some (V.ref a)) ∧ B a = none ∧ T a = none ∧ OwnAt K H T a o := by
  obtain ⟨x, hx, a, e1, q⟩ := s.sl i _ h
  subst e1
  exact ⟨a, hx, q⟩
/-- one's own becomes data -/
theorem Sat.give (s : Sat K B T0 e σ H T) {i : Nat} {o : OD} (h : e[i]? = some (.own o)) : ∃ T', Le T T' ∧ Sat K B T0 (e.set i (.dat o.d)) σ H T' := by
  obtain ⟨a, hx, hb, ht, q⟩ := s.own h
  obtain ⟨u, hu, hi⟩ := q.give ht
  have hl : Le T (upd T a u) := Le.new ht
  have hi0 : i < e.length := (List.getElem?_eq_some_iff.mp h).1
  refine ⟨upd T a u, hl, ⟨s.gr.h, s.gr.t.trans hl, fun b w z => ?_, fun b w z z' => ?_⟩, by simp [s.len], fun j sl hj => ?_, fun j k o1 o2 b c hjk h1 h2 h3 h4 => ?_⟩
  · by_cases hba : b = a
    · subst hba; rw [upd_same] at z; cases z; exact hu
    · rw [upd_ne hba] at z; exact s.gr.s b w z
  · by_cases hba : b = a
    · subst hba; exact hb
    · rw [upd_ne hba] at z; exact s.gr.n b w z z'
  · by_cases hij : i = j
    · subst hij
      rw [List.getElem?_set_self hi0] at hj
      cases hj
      exact ⟨_, hx, _, rfl, hi⟩
    · rw [List.getElem?_set_ne hij] at hj
      obtain ⟨x, hx', q'⟩ := s.sl j sl hj
      refine ⟨x, hx', ?_⟩
      cases sl with
      | no => trivial
      | dat d => obtain ⟨v, e1, q⟩ := q'; exact ⟨v, e1, Is.mono hl d q⟩
      | bor d =>
        obtain ⟨v, e1, q⟩ := q'
        rcases q with q | q
        · exact ⟨v, e1, .inl (Is.mono hl d q)⟩
        · exact ⟨v, e1, .inr q⟩
      | own o' =>
        obtain ⟨b, e1, b1, t1, q⟩ := q'
        subst e1
        have hab : a ≠ b := s.sep i j o o' a b hij h hj hx hx'
        exact ⟨b, rfl, b1, by rw [upd_ne hab.symm]; exact t1, q.mono rfl hl⟩
  · have hij : i ≠ j := fun q => by
      subst q
      rw [List.getElem?_set_self hi0] at h1; cases h1
    have hik : i ≠ k := fun q => by
      subst q
      rw [List.getElem?_set_self hi0] at h2; cases h2
    rw [List.getElem?_set_ne hij] at h1
    rw [List.getElem?_set_ne hik] at h2
    exact s.sep j k o1 o2 b c hjk h1 h2 h3 h4
/-- one's own is written -/
theorem Sat.wr (s : Sat K B T0 e σ H T) {i : Nat} {o o' : OD} {a : Addr} {u : HO} (h : e[i]? = some (.own o)) (hx : σ[i]? = some (some (V.ref a))) (hu : OwnAt K (upd H a u) T a o') : Sat K B T0 (e.set i (.own o')) σ (upd H a u) T := by
  obtain ⟨a', hx', hb, ht, q⟩ := s.own h
  rw [hx] at hx'
  cases hx'
  have hi0 : i < e.length := (List.getElem?_eq_some_iff.mp h).1
  refine ⟨⟨fun b w z => ?_, s.gr.t, fun b w z => ?_, s.gr.n⟩, by simp [s.len], fun j sl hj => ?_, fun j k o1 o2 b c hjk h1 h2 h3 h4 => ?_⟩
  · rw [upd_ne (ne_of_none z hb)]; exact s.gr.h b w z
  · rw [upd_ne (ne_of_none z ht)]; exact s.gr.s b w z
  · by_cases hij : i = j
    · subst hij
      rw [List.getElem?_set_self hi0] at hj
      cases hj
      exact ⟨_, hx, a, rfl, hb, ht, hu⟩
    · rw [List.getElem?_set_ne hij] at hj
      obtain ⟨x, hx', q'⟩ := s.sl j sl hj
      refine ⟨x, hx', ?_⟩
      cases sl with
      | no => trivial
      | dat d => exact q'
      | bor d => exact q'
      | own o2 =>
        obtain ⟨b, e1, b1, t1, q⟩ := q'
        subst e1
        have hab : a ≠ b := s.sep i j o o2 a b hij h hj hx hx'
        exact ⟨b, rfl, b1, t1, q.mono (upd_ne hab.symm) (Le.refl _)⟩
  · have f : ∀ (l : Nat) (o3 : OD), (e.set i (.own o'))[l]? = some (.own o3) → ∃ o4, e[l]? = some (.own o4) := fun l o3 hl => by
      by_cases q : i = l
      · subst q; exact ⟨o, h⟩
      · rw [List.getElem?_set_ne q] at hl; exact ⟨o3, hl⟩
    obtain ⟨o3, g1⟩ := f j o1 h1
    obtain ⟨o4, g2⟩ := f k o2 h2
    exact s.sep j k o3 o4 b c hjk g1 g2 h3 h4
end
end Fh

set_option Elab.async false
set_option linter.all false
set_option maxRecDepth 100000
set_option maxHeartbeats 4000000
/-! Fh, second part: what an expression is worth, what a statement does -/
namespace Fh
open PySem PySem.Spec PyProof.Rows L2

def MIss (K : PySem.W.Frag) (B H T : Hp) : List Md → List V → List D → Prop
  | [], [], [] => True
  | m :: ms, v :: vs, d :: ds => MIs m K B H T v d ∧ MIss K B H T ms vs ds
  | _, _, _ => False

section
variable (K : PySem.W.Frag)
def Ev (m : Md) (te : TE) (e : En) (d : D) : Prop := ∀ (B T0 : Hp) (σ : L2.St) (H T : Hp), Sat K B T0 e σ H T → ∀ Q : VK, (∀ v H' T', Gr H T H' T' → MIs m K B H' T' v d → Q v H') → te σ H Q
def EvO (te : TE) (e : En) (o : OD) : Prop := ∀ (B T0 : Hp) (σ : L2.St) (H T : Hp), Sat K B T0 e σ H T → ∀ Q : VK, (∀ a H' T', Gr H T H' T' → H a = none → T' a = none → OwnAt K H' T' a o → Q (.ref a) H') → te σ H Q
def EvT (tt : TT) (e : En) (b : Bool) : Prop := ∀ (B T0 : Hp) (σ : L2.St) (H T : Hp), Sat K B T0 e σ H T → ∀ Q : Bool → Hp → Prop, (∀ H' T', Gr H T H' T' → Q b H') → tt σ H Q
def EvA (ms : List Md) (ta : TA) (e : En) (ds : List D) : Prop := ∀ (B T0 : Hp) (σ : L2.St) (H T : Hp), Sat K B T0 e σ H T → ∀ Q : List V → Hp → Prop, (∀ vs H' T', Gr H T H' T' → MIss K B H' T' ms vs ds → Q vs H') → ta σ H Q
/-- an operation on two values; on one; on a list of values -/
def RD (m1 m2 m : Md) (r : R2) (d1 d2 d : D) : Prop := ∀ (B H T : Hp) (x y : V), Le B H → Le T H → MIs m1 K B H T x d1 → MIs m2 K B H T y d2 → ∀ Q : VK, (∀ v H' T', Gr H T H' T' → MIs m K B H' T' v d → Q v H') → r x y H Q
def RDO (m1 m2 : Md) (r : R2) (d1 d2 : D) (o : OD) : Prop := ∀ (B H T : Hp) (x y : V), Le B H → Le T H → MIs m1 K B H T x d1 → MIs m2 K B H T y d2 → ∀ Q : VK, (∀ a H' T', Gr H T H' T' → H a = none → T' a = none → OwnAt K H' T' a o → Q (.ref a) H') → r x y H Q
def RL (ms : List Md) (m : Md) (r : List V → Hp → VK → Prop) (ds : List D) (d : D) : Prop := ∀ (B H T : Hp) (vs : List V), Le B H → Le T H → MIss K B H T ms vs ds → ∀ Q : VK, (∀ v H' T', Gr H T H' T' → MIs m K B H' T' v d → Q v H') → r vs H Q
def RLO (ms : List Md) (r : List V → Hp → VK → Prop) (ds : List D) (o : OD) : Prop := ∀ (B H T : Hp) (vs : List V), Le B H → Le T H → MIss K B H T ms vs ds → ∀ Q : VK, (∀ a H' T', Gr H T H' T' → H a = none → T' a = none → OwnAt K H' T' a o → Q (.ref a) H') → r vs H Q
end
theorem MIss.mono {K : PySem.W.Frag} {B H T H' T' : Hp} (hh : Le H H') (ht : Le T T') : ∀ {ms : List Md} {vs : List V} {ds : List D}, MIss K B H T ms vs ds → MIss K B H' T' ms vs ds
  | [], [], [], _ => trivial
  | _ :: _, _ :: _, _ :: _, h => ⟨h.1.mono hh ht, MIss.mono hh ht h.2⟩
  | [], [], _ :: _, h => h.elim
  | [], _ :: _, _, h => h.elim
  | _ :: _, [], _, h => h.elim
  | _ :: _, _ :: _, [], h => h.elim

section
variable {K : PySem.W.Frag} {e : En} {d d1 d2 d3 : D} {ds : List D} {te ta tb tc : TE} {tt tu : TT} {m m1 m2 : Md} {b c : Bool} {r : R2} {o : OD}
theorem Ev.is (h : Ev K m te e d) {d' : D} (q : d = d') : Ev K m te e d' := q ▸ h
theorem EvT.is (h : EvT K tt e b) {c : Bool} (q : b = c) : EvT K tt e c := q ▸ h
theorem EvO.is (h : EvO K te e o) {o' : OD} (q : o = o') : EvO K te e o' := q ▸ h
theorem Ev.up (h : Ev K .dat te e d) : Ev K m te e d := fun B T0 σ H T s Q q => h B T0 σ H T s Q fun v H' T' g i => q v H' T' g (MIs.dat i g.s)
theorem Ev.nw (h : Ev K m te e d) : Ev K .now te e d := fun B T0 σ H T s Q q => h B T0 σ H T s Q fun v H' T' g i => q v H' T' g (i.now (s.gr.h.trans g.h) g.s)
theorem EvO.dat (h : EvO K te e o) : Ev K m te e o.d := fun B T0 σ H T s Q q => h B T0 σ H T s Q fun a H' T' g hn ht ho => by
  obtain ⟨u, hu, hi⟩ := ho.give ht
  have g2 : Gr H T H' (upd T' a u) := ⟨g.h, g.t.trans (Le.new ht), fun b w z => by
    by_cases hb : b = a
    · subst hb; rw [upd_same] at z; cases z; exact hu
    · rw [upd_ne hb] at z; exact g.s b w z, fun b w z z' => by
    by_cases hb : b = a
    · subst hb; exact hn
    · rw [upd_ne hb] at z; exact g.n b w z z'⟩
  exact q _ _ _ g2 (MIs.dat hi g2.s)
/-! names, constants -/
theorem ev_dat {i : Nat} (h : e[i]? = some (.dat d)) : Ev K m (tVar i) e d := Ev.up fun B T0 σ H T s Q q => by
  obtain ⟨x, hx, v, rfl, i⟩ := s.sl i _ h
  exact ⟨v, hx, q v H T (Gr.refl s.gr.s) i⟩
theorem ev_bor {i : Nat} (h : e[i]? = some (.bor d)) : Ev K .bor (tVar i) e d := fun B T0 σ H T s Q q => by
  obtain ⟨x, hx, v, rfl, i⟩ := s.sl i _ h
  exact ⟨v, hx, q v H T (Gr.refl s.gr.s) i⟩
theorem ev_own {i : Nat} (h : e[i]? = some (.own o)) : Ev K .now (tVar i) e o.d := fun B T0 σ H T s Q q => by
  obtain ⟨a, hx, hb, ht, ho⟩ := s.own h
  refine ⟨_, hx, q _ H T (Gr.refl s.gr.s) ?_⟩
  cases o with
  | lst xs => obtain ⟨vs, e1, i⟩ := ho; exact .lst e1 (Iss.mono s.gr.s _ i)
  | ins C fs => obtain ⟨dx, fvs, e1, i⟩ := ho; exact .ins e1 (Isf.mono s.gr.s _ i)
theorem ev_int {i : Int} : Ev K m (tC (.int i)) e (.int i) := Ev.up fun B T0 σ H T s Q q => q _ H T (Gr.refl s.gr.s) (.int i)
theorem ev_bl : Ev K m (tC (.bl b)) e (.bl b) := Ev.up fun B T0 σ H T s Q q => q _ H T (Gr.refl s.gr.s) (.bl b)
theorem ev_str {x : Str} : Ev K m (tC (.str x)) e (.str x) := Ev.up fun B T0 σ H T s Q q => q _ H T (Gr.refl s.gr.s) (.str x)
theorem ev_non : Ev K m (tC .non) e .non := Ev.up fun B T0 σ H T s Q q => q _ H T (Gr.refl s.gr.s) .non
theorem ev_raw {v : V} : Ev K m (tC v) e (.raw v) := Ev.up fun B T0 σ H T s Q q => q _ H T (Gr.refl s.gr.s) (.raw v)
/-! operators -/
theorem ev_op (ha : Ev K m1 ta e d1) (hb : Ev K m2 tb e d2) (hr : RD K m1 m2 m r d1 d2 d) : Ev K m (tOp r ta tb) e d := fun B T0 σ H T s Q q =>
  ha B T0 σ H T s _ fun x H1 T1 g1 i1 => hb B T0 σ H1 T1 (s.grow g1) _ fun y H2 T2 g2 i2 =>
    hr B H2 T2 x y (((s.grow g1).grow g2).gr.h) g2.s (i1.mono g2.h g2.t) i2 _ fun v H3 T3 g3 i3 => q v H3 T3 ((g1.trans g2).trans g3) i3
theorem ev_opO (ha : Ev K m1 ta e d1) (hb : Ev K m2 tb e d2) (hr : RDO K m1 m2 r d1 d2 o) : EvO K (tOp r ta tb) e o := fun B T0 σ H T s Q q =>
  ha B T0 σ H T s _ fun x H1 T1 g1 i1 => hb B T0 σ H1 T1 (s.grow g1) _ fun y H2 T2 g2 i2 =>
    hr B H2 T2 x y (((s.grow g1).grow g2).gr.h) g2.s (i1.mono g2.h g2.t) i2 _ fun a H3 T3 g3 n1 n2 i3 => q a H3 T3 ((g1.trans g2).trans g3) ((g1.trans g2).h.back n1) n2 i3
/-- ints -/
theorem rd_I0 {g : Int → Int → V} {gd : Int → Int → D} {i j : Int} (hg : ∀ T, Is K T (g i j) (gd i j)) : RD K m1 m2 m (rI0 g) (.int i) (.int j) (gd i j) := fun B H T x y hB hT h1 h2 Q q => by
  have e1 := h1.now hB hT; have e2 := h2.now hB hT
  cases e1; cases e2
  exact ⟨i, j, rfl, rfl, q _ H T (Gr.refl hT) (MIs.dat (hg T) hT)⟩
theorem rd_I {C : Int → Int → Prop} {g : Int → Int → V} {gd : Int → Int → D} {i j : Int} (hc : C i j) (hg : ∀ T, Is K T (g i j) (gd i j)) : RD K m1 m2 m (rI C g) (.int i) (.int j) (gd i j) := fun B H T x y hB hT h1 h2 Q q => by
  have e1 := h1.now hB hT; have e2 := h2.now hB hT
  cases e1; cases e2
  exact ⟨i, j, rfl, rfl, hc, q _ H T (Gr.refl hT) (MIs.dat (hg T) hT)⟩
theorem RD.orl {r r' : R2} (h : RD K m1 m2 m r d1 d2 d) : RD K m1 m2 m (fun x y H Q => r x y H Q ∨ r' x y H Q) d1 d2 d := fun B H T x y hB hT h1 h2 Q q => .inl (h B H T x y hB hT h1 h2 Q q)
theorem RD.orr {r r' : R2} (h : RD K m1 m2 m r' d1 d2 d) : RD K m1 m2 m (fun x y H Q => r x y H Q ∨ r' x y H Q) d1 d2 d := fun B H T x y hB hT h1 h2 Q q => .inr (h B H T x y hB hT h1 h2 Q q)
/-! tests -/
theorem et_test (h : Ev K m te e (.bl b)) : EvT K (tTest te) e b := fun B T0 σ H T s Q q => h B T0 σ H T s _ fun v H1 T1 g i => by
  have i := i.now (s.gr.h.trans g.h) g.s
  cases i
  exact ⟨b, rfl, q H1 T1 g⟩
theorem et_B (h : Ev K m te e (.bl b)) : EvT K (tB te) e b := fun B T0 σ H T s Q q => h B T0 σ H T s _ fun v H1 T1 g i => by
  have i := i.now (s.gr.h.trans g.h) g.s
  cases i
  exact ⟨b, rfl, q H1 T1 g⟩
theorem et_and (h1 : EvT K tt e b) (h2 : b = true → EvT K tu e c) : EvT K (tAnd tt tu) e (b && c) := fun B T0 σ H T s Q q => h1 B T0 σ H T s _ fun H1 T1 g => by
  cases b with
  | true =>
    rw [if_pos rfl]
    exact h2 rfl B T0 σ H1 T1 (s.grow g) Q fun H2 T2 g2 => q H2 T2 (g.trans g2)
  | false =>
    rw [if_neg Bool.false_ne_true]
    exact q H1 T1 g
theorem et_or (h1 : EvT K tt e b) (h2 : b = false → EvT K tu e c) : EvT K (tOr tt tu) e (b || c) := fun B T0 σ H T s Q q => h1 B T0 σ H T s _ fun H1 T1 g => by
  cases b with
  | true =>
    rw [if_pos rfl]
    exact q H1 T1 g
  | false =>
    rw [if_neg Bool.false_ne_true]
    exact h2 rfl B T0 σ H1 T1 (s.grow g) Q fun H2 T2 g2 => q H2 T2 (g.trans g2)
theorem et_not (h : EvT K tt e b) : EvT K (tNot tt) e (!b) := fun B T0 σ H T s Q q => h B T0 σ H T s _ fun H1 T1 g => q H1 T1 g
theorem ev_andV (h1 : Ev K m1 ta e (.bl b)) (h2 : b = true → Ev K m tb e (.bl c)) : Ev K m (tAndV ta tb) e (.bl (b && c)) := fun B T0 σ H T s Q q => h1 B T0 σ H T s _ fun v H1 T1 g i => by
  have i := i.now (s.gr.h.trans g.h) g.s
  cases i
  refine ⟨b, rfl, ?_⟩
  cases b with
  | true =>
    show tb σ H1 Q
    exact h2 rfl B T0 σ H1 T1 (s.grow g) Q fun v H2 T2 g2 i2 => q v H2 T2 (g.trans g2) i2
  | false => exact q _ H1 T1 g (MIs.dat (.bl false) g.s)
theorem ev_orV (h1 : Ev K m1 ta e (.bl b)) (h2 : b = false → Ev K m tb e (.bl c)) : Ev K m (tOrV ta tb) e (.bl (b || c)) := fun B T0 σ H T s Q q => h1 B T0 σ H T s _ fun v H1 T1 g i => by
  have i := i.now (s.gr.h.trans g.h) g.s
  cases i
  refine ⟨b, rfl, ?_⟩
  cases b with
  | false =>
    show tb σ H1 Q
    exact h2 rfl B T0 σ H1 T1 (s.grow g) Q fun v H2 T2 g2 i2 => q v H2 T2 (g.trans g2) i2
  | true => exact q _ H1 T1 g (MIs.dat (.bl true) g.s)
theorem ev_notV (h1 : Ev K m1 ta e (.bl b)) : Ev K m (tNotV ta) e (.bl (!b)) := fun B T0 σ H T s Q q => h1 B T0 σ H T s _ fun v H1 T1 g i => by
  have i := i.now (s.gr.h.trans g.h) g.s
  cases i
  exact ⟨b, rfl, q _ H1 T1 g (MIs.dat (.bl (!b)) g.s)⟩
theorem ev_if (h : EvT K tt e b) (h1 : b = true → Ev K m ta e d) (h2 : b = false → Ev K m tb e d) : Ev K m (tIf tt ta tb) e d := fun B T0 σ H T s Q q => h B T0 σ H T s _ fun H1 T1 g => by
  cases b with
  | true =>
    show ta σ H1 Q
    exact h1 rfl B T0 σ H1 T1 (s.grow g) Q fun v H2 T2 g2 i2 => q v H2 T2 (g.trans g2) i2
  | false =>
    show tb σ H1 Q
    exact h2 rfl B T0 σ H1 T1 (s.grow g) Q fun v H2 T2 g2 i2 => q v H2 T2 (g.trans g2) i2
/-! argument lists, displays -/
theorem ea_nil : EvA K [] tNil e [] := fun B T0 σ H T s Q q => q [] H T (Gr.refl s.gr.s) trivial
theorem ea_cons {ms : List Md} {ta : TA} (h : Ev K m te e d) (hr : EvA K ms ta e ds) : EvA K (m :: ms) (tCons te ta) e (d :: ds) := fun B T0 σ H T s Q q =>
  h B T0 σ H T s _ fun v H1 T1 g1 i1 => hr B T0 σ H1 T1 (s.grow g1) _ fun vs H2 T2 g2 i2 => q (v :: vs) H2 T2 (g1.trans g2) ⟨i1.mono g2.h g2.t, i2⟩
def allDat : List D → List Md
  | [] => []
  | _ :: ds => .dat :: allDat ds
theorem MIss.iss {B H T : Hp} : ∀ {ds : List D} {vs : List V}, MIss K B H T (allDat ds) vs ds → Iss K T vs ds
  | [], [], _ => .nil
  | _ :: _, _ :: _, h => .cons h.1 (MIss.iss h.2)
  | [], _ :: _, h => h.elim
  | _ :: _, [], h => h.elim
def EvD (K : PySem.W.Frag) (ta : TA) (e : En) (ds : List D) : Prop := EvA K (allDat ds) ta e ds
theorem ed_nil : EvD K tNil e [] := ea_nil
theorem ed_cons {ta : TA} (h : Ev K .dat te e d) (hr : EvD K ta e ds) : EvD K (tCons te ta) e (d :: ds) := ea_cons h hr
theorem ev_tup {ta : TA} (h : EvD K ta e ds) (hl : ds.length ≤ sizeLine) : Ev K m (tTup ta) e (.tup ds) := Ev.up fun B T0 σ H T s Q q => h B T0 σ H T s _ fun vs H1 T1 g1 i1 => by
  have i := i1.iss
  refine ⟨by rw [i.length]; exact hl, fun p hp => ?_⟩
  have g2 := Gr.new (o := .tup vs) g1.s hp
  exact q _ _ _ (g1.trans g2) (.tup (SqT.of upd_same) (Iss.mono g2.t _ i))
theorem ev_lstO {ta : TA} (h : EvD K ta e ds) (hl : ds.length ≤ sizeLine) : EvO K (tLst ta) e (.lst ds) := fun B T0 σ H T s Q q => h B T0 σ H T s _ fun vs H1 T1 g1 i1 => by
  have i := i1.iss
  refine ⟨by rw [i.length]; exact hl, fun p hp => ?_⟩
  have g2 := Gr.own (o := .lst vs) g1.s hp
  exact q _ _ _ (g1.trans g2) (g1.h.back hp) (g1.s.back hp) ⟨vs, upd_same, i⟩
theorem ev_lst {ta : TA} (h : EvD K ta e ds) (hl : ds.length ≤ sizeLine) : Ev K m (tLst ta) e (.lst ds) := (ev_lstO h hl).dat
theorem evo_nil : EvO K (tLst tNil) e (.lst []) := ev_lstO ed_nil (Nat.zero_le _)
theorem ev_nil : Ev K m (tLst tNil) e (.lst []) := ev_lst ed_nil (Nat.zero_le _)
/-- a call by values -/
theorem ev_cb {ms : List Md} {ta : TA} {r : List V → Hp → VK → Prop} (h : EvA K ms ta e ds) (hr : RL K ms m r ds d) : Ev K m (tCB r ta) e d := fun B T0 σ H T s Q q =>
  h B T0 σ H T s _ fun vs H1 T1 g1 i1 => hr B H1 T1 vs (s.gr.h.trans g1.h) g1.s i1 Q fun v H2 T2 g2 i2 => q v H2 T2 (g1.trans g2) i2
theorem ev_cbO {ms : List Md} {ta : TA} {r : List V → Hp → VK → Prop} (h : EvA K ms ta e ds) (hr : RLO K ms r ds o) : EvO K (tCB r ta) e o := fun B T0 σ H T s Q q =>
  h B T0 σ H T s _ fun vs H1 T1 g1 i1 => hr B H1 T1 vs (s.gr.h.trans g1.h) g1.s i1 Q fun v H2 T2 g2 n1 n2 i2 => q v H2 T2 (g1.trans g2) (g1.h.back n1) n2 i2
end

/-! ### statements -/
structure Po where
  nx : En → Prop
  rt : D → Prop
  bk : En → Prop := fun _ => False
  ct : En → Prop := fun _ => False
  ex : Addr → Option (List (Str × D)) → Prop := fun _ _ => False
def XIs (K : PySem.W.Frag) (H T : Hp) : Option Addr → Option (List (Str × D)) → Prop
  | none, none => True
  | some d, some fs => ∃ fvs, H d = some (.xd fvs) ∧ Isf K T fvs fs
  | _, _ => False
structure Fits (K : PySem.W.Frag) (E : XK) (B T0 : Hp) (P : Po) (D : Ends) : Prop where
  nx : ∀ e σ H T, P.nx e → Sat K B T0 e σ H T → D.nx σ H
  rt : ∀ d v H T, P.rt d → Gr B T0 H T → Is K T v d → D.rt v H
  bk : ∀ e σ H T, P.bk e → Sat K B T0 e σ H T → D.bk σ H
  ct : ∀ e σ H T, P.ct e → Sat K B T0 e σ H T → D.ct σ H
  ex : ∀ C o H T od, P.ex C o → Gr B T0 H T → XIs K H T od o → E (.ref C) od H
def Run (K : PySem.W.Frag) (E : XK) (t : TS) (e : En) (P : Po) : Prop := ∀ (B T0 : Hp) (σ : L2.St) (H T : Hp) (D : Ends), Sat K B T0 e σ H T → Fits K E B T0 P D → t D σ H

section
variable {K : PySem.W.Frag} {E : XK} {e : En} {d d1 d2 d3 : D} {ds : List D} {te ta tb tc : TE} {tt tu : TT} {m m1 m2 : Md} {b c : Bool} {r : R2} {o : OD} {P : Po} {t u : TS} {i : Nat}
theorem Fits.rebase {B T0 H T : Hp} {σ : L2.St} {Ds : Ends} (s : Sat K B T0 e σ H T) (f : Fits K E B T0 P Ds) : Fits K E B T P Ds :=
  ⟨fun e' σ' H' T' p s' => f.nx e' σ' H' T' p (s.unbase s'), fun d v H' T' p g i => f.rt d v H' T' p ⟨g.h, s.gr.t.trans g.t, g.s, fun a o h h' => by
    cases q : T a with
    | none => exact g.n a o h q
    | some u => exact s.gr.n a u q h'⟩ i, fun e' σ' H' T' p s' => f.bk e' σ' H' T' p (s.unbase s'), fun e' σ' H' T' p s' => f.ct e' σ' H' T' p (s.unbase s'),
    fun C o H' T' od p g x => f.ex C o H' T' od p ⟨g.h, s.gr.t.trans g.t, g.s, fun a o h h' => by
    cases q : T a with
    | none => exact g.n a o h q
    | some u => exact s.gr.n a u q h'⟩ x⟩
theorem Run.imp {P' : Po} (h : Run K E t e P) (h1 : ∀ e, P.nx e → P'.nx e) (h2 : ∀ d, P.rt d → P'.rt d) (h3 : ∀ e, P.bk e → P'.bk e) (h4 : ∀ e, P.ct e → P'.ct e) (h5 : ∀ C o, P.ex C o → P'.ex C o) : Run K E t e P' := fun B T0 σ H T D s f =>
  h B T0 σ H T D s ⟨fun e' σ' H' T' p => f.nx e' σ' H' T' (h1 _ p), fun d v H' T' p => f.rt d v H' T' (h2 _ p), fun e' σ' H' T' p => f.bk e' σ' H' T' (h3 _ p), fun e' σ' H' T' p => f.ct e' σ' H' T' (h4 _ p), fun C o H' T' od p => f.ex C o H' T' od (h5 _ _ p)⟩
theorem run_seqM (M : En → Prop) (h : Run K E t e { P with nx := M }) (k : ∀ e', M e' → Run K E u e' P) : Run K E (tSeq t u) e P := fun B T0 σ H T D s f =>
  h B T0 σ H T { D with nx := u D } s ⟨fun e' σ' H' T' p s' => k e' p B T0 σ' H' T' D s' f, f.rt, f.bk, f.ct, f.ex⟩
theorem run_seq (h : Run K E t e { P with nx := fun e' => Run K E u e' P }) : Run K E (tSeq t u) e P := run_seqM _ h fun _ p => p
theorem run_next (h : P.nx e) : Run K E tNext e P := fun B T0 σ H T D s f => f.nx e σ H T h s
theorem run_brk (h : P.bk e) : Run K E tBreak e P := fun B T0 σ H T D s f => f.bk e σ H T h s
theorem run_cont (h : P.ct e) : Run K E tCont e P := fun B T0 σ H T D s f => f.ct e σ H T h s
theorem run_asg (h : Ev K .dat te e d) (q : P.nx (e.set i (.dat d))) : Run K E (tAsg te (gName i)) e P := fun B T0 σ H T D s f =>
  h B T0 σ H T s _ fun v H1 T1 g i1 => f.nx _ _ H1 T1 q ((s.grow g).set (m := .dat) (fun z => nomatch z) i1)
theorem run_asgB (h : Ev K .bor te e d) (q : P.nx (e.set i (.bor d))) : Run K E (tAsg te (gName i)) e P := fun B T0 σ H T D s f =>
  h B T0 σ H T s _ fun v H1 T1 g i1 => f.nx _ _ H1 T1 q ((s.grow g).set (m := .bor) (fun z => nomatch z) i1)
theorem run_asgO (h : EvO K te e o) (q : P.nx (e.set i (.own o))) : Run K E (tAsg te (gName i)) e P := fun B T0 σ H T D s f =>
  h B T0 σ H T s _ fun a H1 T1 g n1 n2 i1 => f.nx _ _ H1 T1 q ((s.grow g).setO (s.gr.h.back n1) n2 i1 fun j o' b hij hj hb z => by
    obtain ⟨b', hb', _, _, q⟩ := s.own hj
    rw [hb] at hb'
    cases hb'
    obtain ⟨w, hw⟩ := q.ex
    rw [← z, n1] at hw
    cases hw)
theorem run_drop (h : Ev K m te e d) (q : P.nx e) : Run K E (tDrop te) e P := fun B T0 σ H T D s f => h B T0 σ H T s _ fun v H1 T1 g i1 => f.nx _ _ H1 T1 q (s.grow g)
theorem run_ret (h : Ev K .dat te e d) (q : P.rt d) : Run K E (tRet te) e P := fun B T0 σ H T D s f => h B T0 σ H T s _ fun v H1 T1 g i1 => f.rt d v H1 T1 q (s.gr.trans g) i1
theorem run_retN (q : P.rt .non) : Run K E tRetN e P := fun B T0 σ H T D s f => f.rt .non _ H T q s.gr .non
theorem run_if (h : EvT K tt e b) (h1 : b = true → Run K E t e P) (h2 : b = false → Run K E u e P) : Run K E (tIfS tt t u) e P := fun B T0 σ H T D s f => h B T0 σ H T s _ fun H1 T1 g => by
  cases b with
  | true => exact h1 rfl B T0 σ H1 T1 D (s.grow g) f
  | false => exact h2 rfl B T0 σ H1 T1 D (s.grow g) f
/-- one's own becomes data -/
theorem run_give (hi : e[i]? = some (.own o)) (h : Run K E t (e.set i (.dat o.d)) P) : Run K E t e P := fun B T0 σ H T D s f => by
  obtain ⟨T', hl, s'⟩ := s.give hi
  exact h B T0 σ H T' D s' f
theorem run_retO (hi : e[i]? = some (.own o)) (q : P.rt o.d) : Run K E (tRet (tVar i)) e P := run_give hi (run_ret (ev_dat (by rw [List.getElem?_set_self (List.getElem?_eq_some_iff.mp hi).1])) q)
theorem run_augI {f : Int → Int → Int} {x y : Int} (hi : e[i]? = some (.dat (.int x))) (h : Ev K m te e (.int y)) (q : P.nx (e.set i (.dat (.int (f x y))))) : Run K E (tAug i te (ipI f)) e P := fun B T0 σ H T D s ft => by
  obtain ⟨v, hx, w, rfl, iw⟩ := s.sl i _ hi
  cases iw
  refine ⟨_, hx, h B T0 σ H T s _ fun v H1 T1 g i1 => ?_⟩
  have i2 := i1.now (s.gr.h.trans g.h) g.s
  cases i2
  exact ⟨x, y, rfl, rfl, ft.nx _ _ H1 T1 q ((s.grow g).set (m := .dat) (fun z => nomatch z) (.int _))⟩
theorem run_app {xs : List D} (hi : e[i]? = some (.own (.lst xs))) (h : Ev K .dat te e d) (hz : xs.length < sizeLine) (q : P.nx (e.set i (.own (.lst (xs ++ [d]))))) :
    Run K E (tDrop (tBM K "list" rAppend (tVar i) (tCons te tNil))) e P := fun B T0 σ H T D s f => by
  obtain ⟨a, hx, hb, ht, vs, hv, iv⟩ := s.own hi
  refine ⟨_, hx, .inl ⟨rfl, _, SqL.of hv⟩, h B T0 σ H T s _ fun v H1 T1 g i1 => ?_⟩
  refine ⟨a, vs, v, rfl, rfl, g.h _ _ hv, by rw [iv.length]; exact hz, ?_⟩
  exact f.nx _ _ _ T1 q ((s.grow g).wr hi hx ⟨vs ++ [v], upd_same, (Iss.mono g.t _ iv).append (.cons i1 .nil)⟩)
theorem ixN_len {n : Nat} {k : Int} {j : Nat} (h0 : 0 ≤ k) (h1 : k < n) (h2 : j = k.toNat) : ixN n k = some j := by
  subst h2; unfold ixN; rw [if_pos h0, if_pos h1]
/-- xs[k] = v -/
theorem run_setI {ti : TE} {xs : List D} {k : Int} {j : Nat} (hi : e[i]? = some (.own (.lst xs))) (h : Ev K .dat te e d) (hk : Ev K m ti e (.int k)) (hj : ixN xs.length k = some j) (q : P.nx (e.set i (.own (.lst (xs.set j d))))) :
    Run K E (tAsg te (gSub (tVar i) ti rSetL)) e P := fun B T0 σ H T D s f => by
  refine h B T0 σ H T s _ fun v H1 T1 g1 i1 => ?_
  have s1 := s.grow g1
  obtain ⟨a, hx, hb, ht, vs, hv, iv⟩ := s1.own hi
  refine ⟨_, hx, hk B T0 σ H1 T1 s1 _ fun w H2 T2 g2 i2 => ?_⟩
  have i3 := i2.now (s1.gr.h.trans g2.h) g2.s
  cases i3
  refine ⟨a, vs, k, j, rfl, rfl, g2.h _ _ hv, by rw [iv.length]; exact hj, ?_⟩
  exact f.nx _ _ _ T2 q ((s1.grow g2).wr hi hx ⟨vs.set j v, upd_same, (Iss.mono g2.t _ iv).set j (Is.mono g2.t d i1)⟩)
end
end Fh

set_option Elab.async false
set_option linter.all false
set_option maxRecDepth 100000
set_option maxHeartbeats 4000000
/-! Fh, third part: loops, comprehensions, defs -/
namespace Fh
open PySem PySem.Spec PyProof.Rows L2

/-! ### what is walked -/
def ItD (K : PySem.W.Frag) (B : Hp) (m : Md) (J : It) (H T : Hp) (xs : List D) : Prop :=
  ∃ S : Hp → Hp → Prop, S H T ∧ (∀ H1 T1 H2 T2, S H1 T1 → Le T1 T2 → Le B H2 → Le T2 H2 → S H2 T2) ∧
    (∀ (i : Nat) d H1 T1, S H1 T1 → xs[i]? = some d → Le B H1 → Le T1 H1 → J.go i H1 ∧ ∀ v H2, J.yld i H1 v H2 → ∃ T2, Gr H1 T1 H2 T2 ∧ MIs m K B H2 T2 v d) ∧
    (∀ (i : Nat) H1 T1, S H1 T1 → Le B H1 → Le T1 H1 → xs.length ≤ i → J.stop i H1)
def EvI (K : PySem.W.Frag) (m : Md) (wi : TI) (e : En) (xs : List D) : Prop := ∀ (B T0 : Hp) (σ : L2.St) (H T : Hp), Sat K B T0 e σ H T → ∀ R : It → Hp → Prop, (∀ J H' T', Gr H T H' T' → ItD K B m J H' T' xs → R J H') → wi σ H R
/-- a list or a tuple -/
def iSeq (K : PySem.W.Frag) (tl : TE) : TI := fun σ H R => tl σ H fun x H1 => ∃ a, x = .ref a ∧ ((∃ xs, SqL K H1 a xs ∧ R (Itl K a) H1) ∨ (∃ xs, SqT K H1 a xs ∧ R (Itt K a) H1))
theorem pi_seq {X : Cx} {tg l : Expr} {tl : TE} (hl : PE X l tl) : PI X tg l (iSeq X.K tl) := by
  refine ⟨fun pins s σ H R I h => ?_⟩
  refine thn (hl.run pins s σ H _ I h) fun v s1 ⟨x, H1, I1, r1, q1⟩ => ?_
  obtain ⟨a, e, q⟩ := q1
  subst e
  cases r1
  rcases q with ⟨xs, hq, q⟩ | ⟨xs, hq, q⟩
  · obtain ⟨its, rv, p, hz⟩ := I1.list hq
    refine wpAny_pyIter_list p.isList ?_
    refine ⟨s1.heap.objs.size, [s1.heap.objs.size], _, _, H1, rfl, I1.kept (t' := s1.toks) fun b o e => Heap.get?_push_of_some _ e, turn_list a _, ⟨_, Heap.get?_push_size _ rfl, rfl, rfl⟩, fun b hb => ?_, q⟩
    have e : b = s1.heap.objs.size := by simpa using hb
    subst e
    exact I1.fpOk (Nat.le_refl _) (I1.hok.fresh (Nat.le_refl _))
  · obtain ⟨its, rv, p, hz⟩ := I1.tuple hq
    refine wpAny_pyIter_tuple (show s1.heap.IsTuple a its.toArray from p) ?_
    refine ⟨s1.heap.objs.size, [s1.heap.objs.size], _, _, H1, rfl, I1.kept (t' := s1.toks) fun b o e => Heap.get?_push_of_some _ e, turn_tuple a _, ⟨_, Heap.get?_push_size _ rfl, rfl, rfl⟩, fun b hb => ?_, q⟩
    have e : b = s1.heap.objs.size := by simpa using hb
    subst e
    exact I1.fpOk (Nat.le_refl _) (I1.hok.fresh (Nat.le_refl _))

section
variable {K : PySem.W.Frag} {E : XK} {e : En} {d d1 d2 d3 : D} {ds xs : List D} {te ta tb tc tl : TE} {tt tu : TT} {m m1 m2 : Md} {b c : Bool} {r : R2} {o : OD} {P : Po} {t u : TS} {i : Nat}
theorem itD_list {B H T : Hp} {a : Addr} {vs : List V} {U : Hp} (hm : (m = .dat ∧ U = T) ∨ (m = .bor ∧ (U = T ∨ U = B))) (hT : Le T H) (hB : Le B H) (h : U a = some (.lst vs)) (hi : Iss K U vs xs) : ItD K B m (Itl K a) H T xs := by
  have hUT : U = T ∨ U = B := by
    rcases hm with ⟨_, q⟩ | ⟨_, q⟩
    · exact .inl q
    · exact q
  refine ⟨fun H1 T1 => Le U H1 ∧ (U = T → Le T T1), ⟨?_, fun _ => Le.refl _⟩, fun H1 T1 H2 T2 s l lb l2 => ⟨?_, fun q => (s.2 q).trans l⟩, fun i d H1 T1 s hx hB1 hT1 => ⟨⟨vs, ?_⟩, ?_⟩, fun i H1 T1 s hB1 hT1 hi' => ⟨vs, SqL.of (s.1 _ _ h), by rw [hi.length]; exact hi'⟩⟩
  · rcases hUT with q | q
    · rw [q]; exact hT
    · rw [q]; exact hB
  · rcases hUT with q | q
    · rw [q]; exact ((s.2 q).trans l).trans l2
    · rw [q]; exact lb
  · obtain ⟨v, hv, _⟩ := hi.get hx
    exact ⟨v, SqL.of (s.1 _ _ h), hv⟩
  · rintro v H2 ⟨rfl, y⟩
    obtain ⟨v', hv, iv⟩ := hi.get hx
    have := y vs (SqL.of (s.1 _ _ h))
    rw [hv] at this
    cases this
    refine ⟨T1, Gr.refl hT1, ?_⟩
    rcases hm with ⟨rfl, q⟩ | ⟨rfl, q⟩
    · exact Is.mono (q ▸ s.2 q) d (q ▸ iv)
    · rcases q with q | q
      · exact .inl (Is.mono (q ▸ s.2 q) d (q ▸ iv))
      · exact .inr (q ▸ iv)

theorem itD_tup {B H T : Hp} {a : Addr} {vs : List V} {U : Hp} (hm : (m = .dat ∧ U = T) ∨ (m = .bor ∧ (U = T ∨ U = B))) (hT : Le T H) (hB : Le B H) (h : SqT K U a vs) (hi : Iss K U vs xs) : ItD K B m (Itt K a) H T xs := by
  have hUT : U = T ∨ U = B := by
    rcases hm with ⟨_, q⟩ | ⟨_, q⟩
    · exact .inl q
    · exact q
  refine ⟨fun H1 T1 => Le U H1 ∧ (U = T → Le T T1), ⟨?_, fun _ => Le.refl _⟩, fun H1 T1 H2 T2 s l lb l2 => ⟨?_, fun q => (s.2 q).trans l⟩, fun i d H1 T1 s hx hB1 hT1 => ⟨⟨vs, ?_⟩, ?_⟩, fun i H1 T1 s hB1 hT1 hi' => ⟨vs, s.1.sqT h, by rw [hi.length]; exact hi'⟩⟩
  · rcases hUT with q | q
    · rw [q]; exact hT
    · rw [q]; exact hB
  · rcases hUT with q | q
    · rw [q]; exact ((s.2 q).trans l).trans l2
    · rw [q]; exact lb
  · obtain ⟨v, hv, _⟩ := hi.get hx
    exact ⟨v, s.1.sqT h, hv⟩
  · rintro v H2 ⟨rfl, y⟩
    obtain ⟨v', hv, iv⟩ := hi.get hx
    have := y vs (s.1.sqT h)
    rw [hv] at this
    cases this
    refine ⟨T1, Gr.refl hT1, ?_⟩
    rcases hm with ⟨rfl, q⟩ | ⟨rfl, q⟩
    · exact Is.mono (q ▸ s.2 q) d (q ▸ iv)
    · rcases q with q | q
      · exact .inl (Is.mono (q ▸ s.2 q) d (q ▸ iv))
      · exact .inr (q ▸ iv)
theorem ei_lst (hm : m ≠ .now) (h : Ev K m tl e (.lst xs)) : EvI K m (iSeq K tl) e xs := fun B T0 σ H T s R q => h B T0 σ H T s _ fun v H1 T1 g i => by
  have hB := (s.gr.h.trans g.h)
  have fin : ∀ U : Hp, ((m = .dat ∧ U = T1) ∨ (m = .bor ∧ (U = T1 ∨ U = B))) → Is K U v (.lst xs) → ∃ a, v = .ref a ∧ ((∃ xs, SqL K H1 a xs ∧ R (Itl K a) H1) ∨ (∃ xs, SqT K H1 a xs ∧ R (Itt K a) H1)) := fun U hU iu => by
    cases iu with
    | @lst a vs _ ha hi =>
      have hl : Le U H1 := by
        rcases hU with ⟨_, z⟩ | ⟨_, z | z⟩
        · rw [z]; exact g.s
        · rw [z]; exact g.s
        · rw [z]; exact hB
      exact ⟨a, rfl, .inl ⟨vs, SqL.of (hl _ _ ha), q _ H1 T1 g (itD_list hU g.s hB ha hi)⟩⟩
  cases m with
  | dat => exact fin T1 (.inl ⟨rfl, rfl⟩) i
  | bor =>
    rcases i with i | i
    · exact fin T1 (.inr ⟨rfl, .inl rfl⟩) i
    · exact fin B (.inr ⟨rfl, .inr rfl⟩) i
  | now => exact absurd rfl hm
theorem ei_tup (hm : m ≠ .now) (h : Ev K m tl e (.tup xs)) : EvI K m (iSeq K tl) e xs := fun B T0 σ H T s R q => h B T0 σ H T s _ fun v H1 T1 g i => by
  have hB := (s.gr.h.trans g.h)
  have fin : ∀ U : Hp, ((m = .dat ∧ U = T1) ∨ (m = .bor ∧ (U = T1 ∨ U = B))) → Is K U v (.tup xs) → ∃ a, v = .ref a ∧ ((∃ xs, SqL K H1 a xs ∧ R (Itl K a) H1) ∨ (∃ xs, SqT K H1 a xs ∧ R (Itt K a) H1)) := fun U hU iu => by
    cases iu with
    | @tup a vs _ ha hi =>
      have hl : Le U H1 := by
        rcases hU with ⟨_, z⟩ | ⟨_, z | z⟩
        · rw [z]; exact g.s
        · rw [z]; exact g.s
        · rw [z]; exact hB
      exact ⟨a, rfl, .inr ⟨vs, hl.sqT ha, q _ H1 T1 g (itD_tup hU g.s hB ha hi)⟩⟩
  cases m with
  | dat => exact fin T1 (.inl ⟨rfl, rfl⟩) i
  | bor =>
    rcases i with i | i
    · exact fin T1 (.inr ⟨rfl, .inl rfl⟩) i
    · exact fin B (.inr ⟨rfl, .inr rfl⟩) i
  | now => exact absurd rfl hm
/-- lo, lo + 1, .. -/
def rgD (lo : Int) (n : Nat) : List D := (List.range n).map fun i => D.int (lo + (i : Nat))
theorem rgD_len (lo : Int) (n : Nat) : (rgD lo n).length = n := by unfold rgD; simp
theorem rgD_get {lo : Int} {n i : Nat} (h : i < n) : (rgD lo n)[i]? = some (.int (lo + (i : Nat))) := by
  unfold rgD; rw [List.getElem?_map, List.getElem?_range h]; rfl
theorem itD_rng {B H T : Hp} {lo : Int} {n : Nat} : ItD K B .dat (Itr lo n) H T (rgD lo n) := by
  refine ⟨fun _ _ => True, trivial, fun _ _ _ _ _ _ _ _ => trivial, fun i d H1 T1 _ hx hB1 hT1 => ?_, fun i H1 T1 _ _ _ hi => by rw [rgD_len] at hi; exact hi⟩
  have hi : i < n := by
    have := (List.getElem?_eq_some_iff.mp hx).1
    rwa [rgD_len] at this
  rw [rgD_get hi] at hx
  cases hx
  exact ⟨hi, fun v H2 ⟨e1, e2⟩ => by subst e1; subst e2; exact ⟨T1, Gr.refl hT1, .int _⟩⟩
theorem ei_rng1 {ta : TA} {n : Int} (h : EvA K [m] ta e [.int n]) (h1 : -(2 ^ 62) ≤ n) (h2 : n < 2 ^ 62) : EvI K .dat (iRng1 ta) e (rgD 0 n.toNat) := fun B T0 σ H T s R q => h B T0 σ H T s _ fun vs H1 T1 g i => by
  match vs, i with
  | [v], i =>
    have i1 := i.1.now (s.gr.h.trans g.h) g.s
    cases i1
    exact ⟨n, rfl, h1, h2, q _ H1 T1 g itD_rng⟩
theorem ei_rng2 {ta : TA} {lo n : Int} (h : EvA K [m1, m2] ta e [.int lo, .int n]) (hb : -(2 ^ 62) ≤ lo ∧ lo < 2 ^ 62 ∧ -(2 ^ 62) ≤ n ∧ n < 2 ^ 62) : EvI K .dat (iRng2 ta) e (rgD lo (n - lo).toNat) := fun B T0 σ H T s R q => h B T0 σ H T s _ fun vs H1 T1 g i => by
  match vs, i with
  | [v, w], i =>
    have i1 := i.1.now (s.gr.h.trans g.h) g.s
    have i2 := i.2.1.now (s.gr.h.trans g.h) g.s
    cases i1
    cases i2
    exact ⟨lo, n, rfl, hb, q _ H1 T1 g itD_rng⟩

/-! ### targets -/
/-- the frame's names but those of vs are as they were -/
def SameBut (vs : List Nat) (σ σ' : L2.St) : Prop := σ'.length = σ.length ∧ ∀ j, j ∉ vs → σ'[j]? = σ[j]?
def Tg (K : PySem.W.Frag) (vs : List Nat) (m : Md) (g : TG) (d : D) (e e' : En) : Prop := ∀ (B T0 : Hp) (σ : L2.St) (H T : Hp) (v : V), Sat K B T0 e σ H T → MIs m K B H T v d → ∀ Q : L2.St → Hp → Prop, (∀ σ', Sat K B T0 e' σ' H T → SameBut vs σ σ' → Q σ' H) → g v σ H Q
theorem sb_set {σ : L2.St} {x : Option V} {vs : List Nat} (h : i ∈ vs) : SameBut vs σ (σ.set i x) := ⟨by simp, fun j hj => List.getElem?_set_ne fun q => hj (by rw [← q]; exact h)⟩
theorem SameBut.trans {vs : List Nat} {σ σ1 σ2 : L2.St} (a : SameBut vs σ σ1) (b : SameBut vs σ1 σ2) : SameBut vs σ σ2 := ⟨b.1.trans a.1, fun j h => (b.2 j h).trans (a.2 j h)⟩
theorem tg_dat {vs : List Nat} (h : i ∈ vs := by simp) : Tg K vs .dat (gName i) d e (e.set i (.dat d)) := fun B T0 σ H T v s hv Q q => q _ (s.set (m := .dat) (fun z => nomatch z) hv) (sb_set h)
theorem tg_bor {vs : List Nat} (h : i ∈ vs := by simp) : Tg K vs .bor (gName i) d e (e.set i (.bor d)) := fun B T0 σ H T v s hv Q q => q _ (s.set (m := .bor) (fun z => nomatch z) hv) (sb_set h)
def Tgs (K : PySem.W.Frag) (vs : List Nat) (m : Md) (g : TGs) (ds : List D) (e e' : En) : Prop := ∀ (B T0 : Hp) (σ : L2.St) (H T U : Hp) (ws : List V), Sat K B T0 e σ H T → Iss K U ws ds → (m = .dat → Le U T) → (m = .bor → Le U T ∨ Le U B) → ∀ Q : L2.St → Hp → Prop, (∀ σ', Sat K B T0 e' σ' H T → SameBut vs σ σ' → Q σ' H) → g ws σ H Q
theorem tgs_nil {vs : List Nat} : Tgs K vs m gNil [] e e := fun B T0 σ H T U vs s hv _ _ Q q => by
  cases hv
  exact ⟨rfl, q σ s ⟨rfl, fun _ _ => rfl⟩⟩
theorem tgs_cons {vs : List Nat} (hm : m ≠ .now) {g : TG} {gs : TGs} {e1 e2 : En} (h : Tg K vs m g d e e1) (hr : Tgs K vs m gs ds e1 e2) : Tgs K vs m (gCons g gs) (d :: ds) e e2 := fun B T0 σ H T U ws s hv l1 l2 Q q => by
  cases hv with
  | @cons v ws _ _ iv ivs =>
    refine ⟨v, ws, rfl, h B T0 σ H T v s ?_ _ fun σ1 s1 b1 => hr B T0 σ1 H T U ws s1 ivs l1 l2 Q fun σ' s' b2 => q σ' s' (b1.trans b2)⟩
    cases m with
    | dat => exact Is.mono (l1 rfl) d iv
    | bor =>
      rcases l2 rfl with z | z
      · exact .inl (Is.mono z d iv)
      · exact .inr (Is.mono z d iv)
    | now => exact absurd rfl hm
theorem tg_tup {vs : List Nat} (hm : m ≠ .now) {gs : TGs} {n : Nat} {e2 : En} (h : Tgs K vs m gs ds e e2) (hn : ds.length = n) : Tg K vs m (gTup K n gs) (.tup ds) e e2 := fun B T0 σ H T v s hv Q q => by
  have fin : ∀ U : Hp, (m = .dat → Le U T) → (m = .bor → Le U T ∨ Le U B) → Le U H → Is K U v (.tup ds) → ∃ a xs, v = .ref a ∧ SqT K H a xs ∧ xs.length = n ∧ gs xs σ H Q := fun U h1 h2 h3 iu => by
    cases iu with
    | @tup a vs _ ha hi => exact ⟨a, vs, rfl, h3.sqT ha, by rw [hi.length]; exact hn, h B T0 σ H T U vs s hi h1 h2 Q q⟩
  cases m with
  | dat => exact fin T (fun _ => Le.refl _) (fun z => nomatch z) s.gr.s hv
  | bor =>
    rcases hv with i | i
    · exact fin T (fun z => nomatch z) (fun _ => .inl (Le.refl _)) s.gr.s i
    · exact fin B (fun z => nomatch z) (fun _ => .inr (Le.refl _)) s.gr.h i
  | now => exact absurd rfl hm

theorem dat_now : Md.dat ≠ .now := fun z => nomatch z
theorem bor_now : Md.bor ≠ .now := fun z => nomatch z
theorem tg_2 {vs : List Nat} {i j : Nat} (hi : i ∈ vs := by simp) (hj : j ∈ vs := by simp) : Tg K vs .dat (gTup K 2 (gCons (gName i) (gCons (gName j) gNil))) (.tup [d1, d2]) e ((e.set i (.dat d1)).set j (.dat d2)) :=
  tg_tup dat_now (tgs_cons dat_now (tg_dat hi) (tgs_cons dat_now (tg_dat hj) tgs_nil)) rfl
theorem tg_2b {vs : List Nat} {i j : Nat} (hi : i ∈ vs := by simp) (hj : j ∈ vs := by simp) : Tg K vs .bor (gTup K 2 (gCons (gName i) (gCons (gName j) gNil))) (.tup [d1, d2]) e ((e.set i (.bor d1)).set j (.bor d2)) :=
  tg_tup bor_now (tgs_cons bor_now (tg_bor hi) (tgs_cons bor_now (tg_bor hj) tgs_nil)) rfl
theorem tg_3 {vs : List Nat} {i j k : Nat} (hi : i ∈ vs := by simp) (hj : j ∈ vs := by simp) (hk : k ∈ vs := by simp) : Tg K vs .dat (gTup K 3 (gCons (gName i) (gCons (gName j) (gCons (gName k) gNil)))) (.tup [d1, d2, d3]) e (((e.set i (.dat d1)).set j (.dat d2)).set k (.dat d3)) :=
  tg_tup dat_now (tgs_cons dat_now (tg_dat hi) (tgs_cons dat_now (tg_dat hj) (tgs_cons dat_now (tg_dat hk) tgs_nil))) rfl

/-! ### for, while -/
theorem run_for {wi : TI} {g : TG} {tb : TS} (hi : EvI K m wi e xs) (I : Nat → En → Prop) (h0 : I 0 e)
    (hs : ∀ (i : Nat) d e, xs[i]? = some d → I i e → ∃ e' vs, Tg K vs m g d e e' ∧ Run K E tb e' { P with nx := I (i + 1), ct := I (i + 1), bk := P.nx }) (hd : ∀ e, I xs.length e → P.nx e) : Run K E (tFor wi g tb) e P := fun B T0 σ H T D s f =>
  hi B T0 σ H T s _ fun J H1 T1 g1 hJ => by
    obtain ⟨S, hS, st, go, stop⟩ := hJ
    have s1 := s.grow g1
    refine ⟨fun i m σ H => m = xs.length - i ∧ i ≤ xs.length ∧ ∃ e T, I i e ∧ Sat K B T0 e σ H T ∧ S H T, ⟨xs.length, by simp, Nat.zero_le _, e, T1, h0, s1, hS⟩, ?_⟩
    rintro i m' σ2 H2 ⟨rfl, hle, e2, T2, hI, s2, hS2⟩
    by_cases hlt : i < xs.length
    · have hx : xs[i]? = some xs[i] := List.getElem?_eq_getElem hlt
      obtain ⟨hgo, hy⟩ := go i _ H2 T2 hS2 hx s2.gr.h s2.gr.s
      refine .inr ⟨hgo, fun σ' H' => ∃ e T, I (i + 1) e ∧ Sat K B T0 e σ' H' T ∧ S H' T, fun σ' H' q => ⟨xs.length - (i + 1), by omega, rfl, hlt, q⟩, fun v H3 y => ?_⟩
      obtain ⟨T3, g3, iv⟩ := hy v H3 y
      have s3 := s2.grow g3
      obtain ⟨e4, vs4, htg, hrun⟩ := hs i _ e2 hx hI
      refine htg B T0 σ2 H3 T3 v s3 iv _ fun σ4 s4 _ => ?_
      have hS3 : S H3 T3 := st _ _ _ _ hS2 g3.t s3.gr.h s3.gr.s
      refine hrun B T3 σ4 H3 T3 _ s4.rebase ⟨fun e' σ' H' T' p s' => ⟨e', T', p, s4.unbase s', st _ _ _ _ hS3 s'.gr.t s'.gr.h s'.gr.s⟩, fun d v H' T' p g i => (Fits.rebase s4 f).rt d v H' T' p g i,
        fun e' σ' H' T' p s' => f.nx e' σ' H' T' p (s4.unbase s'), fun e' σ' H' T' p s' => ⟨e', T', p, s4.unbase s', st _ _ _ _ hS3 s'.gr.t s'.gr.h s'.gr.s⟩, fun C o H' T' od p g x => (Fits.rebase s4 f).ex C o H' T' od p g x⟩
    · have e0 : i = xs.length := by omega
      subst e0
      exact .inl ⟨stop _ H2 T2 hS2 s2.gr.h s2.gr.s (Nat.le_refl _), f.nx e2 σ2 H2 T2 (hd e2 hI) s2⟩
theorem run_while {tc : TT} {tb : TS} (I : Nat → En → Prop) (n0 : Nat) (h0 : I n0 e)
    (hs : ∀ n e, I n e → ∃ b, EvT K tc e b ∧ (b = true → Run K E tb e { P with nx := fun e' => ∃ n', n' < n ∧ I n' e', ct := fun e' => ∃ n', n' < n ∧ I n' e', bk := P.nx }) ∧ (b = false → P.nx e)) : Run K E (tWhile tc tb) e P := fun B T0 σ H T D s f => by
  refine ⟨fun n σ H => ∃ e T, I n e ∧ Sat K B T0 e σ H T, ⟨n0, e, T, h0, s⟩, ?_⟩
  rintro n σ2 H2 ⟨e2, T2, hI, s2⟩
  obtain ⟨b, ht, hb, hn⟩ := hs n e2 hI
  refine ht B T0 σ2 H2 T2 s2 _ fun H3 T3 g => ?_
  have s3 := s2.grow g
  cases b with
  | true =>
    rw [if_pos rfl]
    refine ⟨fun σ' H' => ∃ n', n' < n ∧ ∃ e T, I n' e ∧ Sat K B T0 e σ' H' T, fun σ' H' ⟨n', hn', q⟩ => ⟨n', hn', q⟩, ?_⟩
    exact hb rfl B T0 σ2 H3 T3 _ s3 ⟨fun e' σ' H' T' ⟨n', hn', p⟩ s' => ⟨n', hn', e', T', p, s'⟩, f.rt, f.nx, fun e' σ' H' T' ⟨n', hn', p⟩ s' => ⟨n', hn', e', T', p, s'⟩, f.ex⟩
  | false =>
    rw [if_neg Bool.false_ne_true]
    exact f.nx e2 σ2 H3 T3 (hn rfl) s3

/-! ### comprehensions -/
def wipeE (e : En) : List Nat → En
  | [] => e
  | v :: vs => (wipeE e vs).set v .no
theorem Sat.no {B T0 H T : Hp} {σ : L2.St} (s : Sat K B T0 e σ H T) (i : Nat) (x : Option V) : Sat K B T0 (e.set i .no) (σ.set i x) H T := by
  refine ⟨s.gr, by simp [s.len], fun j sl h => ?_, fun j k o o' a b hjk h1 h2 h3 h4 => ?_⟩
  · by_cases hj : i = j
    · subst hj
      have hi : i < e.length := by
        have := (List.getElem?_eq_some_iff.mp h).1
        simpa using this
      rw [List.getElem?_set_self hi] at h
      cases h
      exact ⟨x, by rw [List.getElem?_set_self (by rw [s.len]; exact hi)], trivial⟩
    · rw [List.getElem?_set_ne hj] at h ⊢
      exact s.sl j sl h
  · have f : ∀ (l : Nat) (o : OD), (e.set i .no)[l]? = some (.own o) → i ≠ l := fun l o hl q => by
      subst q
      have hi : i < e.length := by
        have := (List.getElem?_eq_some_iff.mp hl).1
        simpa using this
      rw [List.getElem?_set_self hi] at hl; cases hl
    have f1 := f j o h1
    have f2 := f k o' h2
    rw [List.getElem?_set_ne f1] at h1 h3
    rw [List.getElem?_set_ne f2] at h2 h4
    exact s.sep j k o o' a b hjk h1 h2 h3 h4
theorem Sat.wipe {B T0 H T : Hp} {σ : L2.St} (s : Sat K B T0 e σ H T) : ∀ vs : List Nat, Sat K B T0 (wipeE e vs) (wipe σ vs) H T
  | [] => s
  | v :: vs => (Sat.wipe s vs).no v none
theorem wipe_get {σ : L2.St} : ∀ {vs : List Nat} {j : Nat}, j ∉ vs → (wipe σ vs)[j]? = σ[j]?
  | [], _, _ => rfl
  | v :: vs, j, h => by
    unfold wipe
    rw [List.getElem?_set_ne (fun q => h (by simp [q]))]
    exact wipe_get fun q => h (by simp [q])
theorem wipe_at {σ : L2.St} : ∀ {vs : List Nat} {j : Nat}, j ∈ vs → j < σ.length → (wipe σ vs)[j]? = some none
  | v :: vs, j, h, hl => by
    unfold wipe
    by_cases q : v = j
    · subst q
      rw [List.getElem?_set_self (by rw [wipe_length]; exact hl)]
    · rw [List.getElem?_set_ne q]
      exact wipe_at (by rcases List.mem_cons.mp h with z | z; exact absurd z.symm q; exact z) hl
theorem wipe_same {vs : List Nat} {σ σ' : L2.St} (h : SameBut vs σ σ') : wipe σ' vs = wipe σ vs := by
  apply List.ext_getElem?
  intro j
  by_cases hj : j ∈ vs
  · by_cases hl : j < σ.length
    · rw [wipe_at hj hl, wipe_at hj (by rw [h.1]; exact hl)]
    · rw [List.getElem?_eq_none (by rw [wipe_length, h.1]; omega), List.getElem?_eq_none (by rw [wipe_length]; omega)]
  · rw [wipe_get hj, wipe_get hj]; exact h.2 j hj

def rem (H : Hp) (a : Addr) : Hp := fun b => if b = a then none else H b
theorem rem_at {H : Hp} {a : Addr} : rem H a a = none := by unfold rem; rw [if_pos rfl]
theorem rem_ne {H : Hp} {a b : Addr} (h : b ≠ a) : rem H a b = H b := by unfold rem; rw [if_neg h]
theorem upd_rem {H : Hp} {a : Addr} {o : HO} : upd (rem H a) a o = upd H a o := by
  funext b; unfold upd rem; split <;> rfl
theorem upd_get {H : Hp} {a : Addr} {o : HO} (h : H a = some o) : upd (rem H a) a o = H := by
  funext b
  by_cases q : b = a
  · subst q; rw [upd_same, h]
  · rw [upd_ne q, rem_ne q]
theorem gr_rem {H T H4 T4 : Hp} {a : Addr} {o : HO} (hm : H a = none) (hT : Le T H) (g : Gr (upd H a o) T H4 T4) : Gr H T (rem H4 a) T4 ∧ H4 a = some o ∧ T4 a = none := by
  have h4 : H4 a = some o := g.h _ _ upd_same
  have t4 : T4 a = none := by
    cases q : T4 a with
    | none => rfl
    | some u =>
      have := g.n a u q (hT.back hm)
      rw [upd_same] at this; cases this
  refine ⟨⟨fun b w z => ?_, g.t, fun b w z => ?_, fun b w z z' => ?_⟩, h4, t4⟩
  · have hb := ne_of_none z hm
    rw [rem_ne hb]
    exact g.h _ _ (by rw [upd_ne hb]; exact z)
  · have hb := ne_of_none z t4
    rw [rem_ne hb]
    exact g.s _ _ z
  · have hb := ne_of_none z t4
    have := g.n b w z z'
    rwa [upd_ne hb] at this
theorem filterMap_take {α β : Type} (F : α → Option β) {xs : List α} {i : Nat} {x : α} (h : xs[i]? = some x) : (xs.take (i + 1)).filterMap F = (xs.take i).filterMap F ++ (match F x with | some y => [y] | none => []) := by
  have e : xs.take (i + 1) = xs.take i ++ [x] := by
    rw [List.take_add_one, h]; rfl
  rw [e, List.filterMap_append]
  congr 1
  rw [List.filterMap_cons]
  cases F x <;> rfl
/-- [elt for target in iter if test] -/
theorem ev_lcO {wi : TI} {g : TG} {vs : List Nat} (F : D → Option D) (hi : EvI K m wi e xs) (hz : xs.length ≤ sizeLine)
    (hs : ∀ (i : Nat) d, xs[i]? = some d → ∃ e', Tg K vs m g d (wipeE e vs) e' ∧ ((∃ y, EvT K tt e' true ∧ F d = some y ∧ Ev K .dat te e' y) ∨ (EvT K tt e' false ∧ F d = none))) :
    EvO K (tLc wi g tt te vs) e (.lst (xs.filterMap F)) := fun B T0 σ H T s Q q => hi B T0 σ H T s _ fun J H1 T1 g1 hJ Dl hD => by
  obtain ⟨S, hS, st, go, stop⟩ := hJ
  have s1 := s.grow g1
  have hT1 : T1 Dl = none := g1.s.back hD
  refine ⟨fun i m H => m = xs.length - i ∧ i ≤ xs.length ∧ ∃ Hm T acc, H = upd Hm Dl (.lst acc) ∧ Hm Dl = none ∧ Gr H1 T1 Hm T ∧ S H T ∧ Iss K T acc ((xs.take i).filterMap F), ⟨xs.length, by simp, Nat.zero_le _, H1, T1, [], rfl, hD, Gr.refl g1.s, ?_, .nil⟩, ?_⟩
  · exact st _ _ _ _ hS (Le.refl _) (s1.gr.h.trans (Le.new hD)) (g1.s.trans (Le.new hD))
  rintro i m' H2 ⟨rfl, hle, Hm, T2, acc, rfl, hm, gm, hS2, hacc⟩
  have sm := s1.grow gm
  have gown : Gr Hm T2 (upd Hm Dl (.lst acc)) T2 := Gr.own gm.s hm
  have s2 := sm.grow gown
  by_cases hlt : i < xs.length
  · have hx : xs[i]? = some xs[i] := List.getElem?_eq_getElem hlt
    obtain ⟨hgo, hy⟩ := go i _ _ T2 hS2 hx s2.gr.h s2.gr.s
    refine .inr ⟨hgo, fun H' => ∃ Hm T acc, H' = upd Hm Dl (.lst acc) ∧ Hm Dl = none ∧ Gr H1 T1 Hm T ∧ S H' T ∧ Iss K T acc ((xs.take (i + 1)).filterMap F), fun H' q => ⟨xs.length - (i + 1), by omega, rfl, hlt, q⟩, fun v H3 y => ?_⟩
    obtain ⟨T3, g3, iv⟩ := hy v H3 y
    have s3 := s2.grow g3
    obtain ⟨e', htg, hev⟩ := hs i _ hx
    refine htg B T0 (wipe σ vs) H3 T3 v (s3.wipe vs) iv _ fun σ4 s4 b4 => ⟨?_, ?_⟩
    · have : SameBut vs σ σ4 := SameBut.trans ⟨wipe_length σ vs, fun j hj => wipe_get hj⟩ b4
      exact wipe_same this
    have fm := filterMap_take F hx
    rcases hev with ⟨y, ht, hF, he⟩ | ⟨ht, hF⟩
    · refine ht B T0 σ4 H3 T3 s4 _ fun H5 T5 g5 => ?_
      rw [if_pos rfl]
      refine he B T0 σ4 H5 T5 (s4.grow g5) _ fun w H6 T6 g6 iw => ?_
      have gall := (g3.trans g5).trans g6
      obtain ⟨gr', h6, t6⟩ := gr_rem hm gm.s gall
      refine ⟨acc, h6, ?_, rem H6 Dl, T6, acc ++ [w], upd_rem.symm, rem_at, gm.trans gr', ?_, ?_⟩
      · have := hacc.length
        have l1 : ((xs.take i).filterMap F).length ≤ (xs.take i).length := List.length_filterMap_le _ _
        rw [List.length_take] at l1
        omega
      · have gg : Gr (rem H6 Dl) T6 (upd (rem H6 Dl) Dl (.lst (acc ++ [w]))) T6 := Gr.own gr'.s rem_at
        rw [upd_rem] at gg
        exact st _ _ _ _ hS2 gall.t ((sm.grow gr').gr.h.trans gg.h) gg.s
      · rw [fm, hF]
        exact (Iss.mono gall.t _ hacc).append (.cons iw .nil)
    · refine ht B T0 σ4 H3 T3 s4 _ fun H5 T5 g5 => ?_
      rw [if_neg Bool.false_ne_true]
      have gall := g3.trans g5
      obtain ⟨gr', h6, t6⟩ := gr_rem hm gm.s gall
      refine ⟨rem H5 Dl, T5, acc, (upd_get h6).symm, rem_at, gm.trans gr', ?_, ?_⟩
      · have gg : Gr (rem H5 Dl) T5 (upd (rem H5 Dl) Dl (.lst acc)) T5 := Gr.own gr'.s rem_at
        rw [upd_get h6] at gg
        exact st _ _ _ _ hS2 gall.t ((sm.grow gr').gr.h.trans gg.h) gg.s
      · rw [fm, hF, List.append_nil]
        exact Iss.mono gall.t _ hacc
  · have e0 : i = xs.length := by omega
    subst e0
    refine .inl ⟨stop _ _ T2 hS2 s2.gr.h s2.gr.s (Nat.le_refl _), ?_⟩
    rw [List.take_length] at hacc
    have t2 : T2 Dl = none := gm.s.back hm
    exact q Dl _ T2 (g1.trans (gm.trans gown)) (g1.h.back hD) t2 ⟨acc, upd_same, hacc⟩
end
end Fh

set_option Elab.async false
set_option linter.all false
set_option maxRecDepth 100000
set_option maxHeartbeats 4000000
/-! Fh, fourth part: defs and their calls -/
namespace Fh
open PySem PySem.Spec PyProof.Rows L2

/-- a promise: the arguments' data (each known for good, .dat, or only lent), what the caller must show, what holds of the answer -/
def SpR (K : PySem.W.Frag) {α : Type} (ms : List Md) (args : α → List D) (pre : α → Prop) (out : α → D → Prop) : Sp := fun vs H Q _ =>
  ∃ (T : Hp) (x : α), Le T H ∧ pre x ∧ MIss K H H T ms vs (args x) ∧ ∀ d v H' T', out x d → Gr H T H' T' → Is K T' v d → Q v H'
abbrev SpP (K : PySem.W.Frag) {α : Type} (ms : List Md) (args : α → List D) (pre : α → Prop) (out : α → D) : Sp := SpR K ms args pre fun a d => d = out a
theorem MIss.len {K : PySem.W.Frag} {B H T : Hp} : ∀ {ms : List Md} {vs : List V} {ds : List D}, MIss K B H T ms vs ds → vs.length = ms.length ∧ ds.length = ms.length
  | [], [], [], _ => ⟨rfl, rfl⟩
  | _ :: _, _ :: _, _ :: _, h => by
    have := MIss.len h.2
    simp [this.1, this.2]
  | [], [], _ :: _, h => h.elim
  | [], _ :: _, _, h => h.elim
  | _ :: _, [], _, h => h.elim
  | _ :: _, _ :: _, [], h => h.elim
def slots : List Md → List D → En
  | .dat :: ms, d :: ds => .dat d :: slots ms ds
  | .bor :: ms, d :: ds => .bor d :: slots ms ds
  | .now :: ms, d :: ds => .bor d :: slots ms ds
  | _, _ => []
theorem slots_len : ∀ {ms : List Md} {ds : List D}, ds.length = ms.length → (slots ms ds).length = ms.length
  | [], [], _ => rfl
  | m :: ms, d :: ds, h => by
    have ih := slots_len (ms := ms) (ds := ds) (by simpa using h)
    cases m <;> simp [slots, ih]
  | [], _ :: _, h => by simp at h
  | _ :: _, [], h => by simp at h
theorem slots_ok {K : PySem.W.Frag} {H T : Hp} : ∀ {ms : List Md} {vs : List V} {ds : List D} {i : Nat} {s : Sl}, MIss K H H T ms vs ds → (slots ms ds)[i]? = some s → ∃ v, vs[i]? = some v ∧ SlotOk K H H T (some v) s ∧ ∀ o, s ≠ .own o
  | [], [], [], i, s, _, e => by simp [slots] at e
  | m :: ms, v :: vs, d :: ds, 0, s, h, e => by
    refine ⟨v, rfl, ?_⟩
    cases m with
    | dat => cases e; exact ⟨⟨v, rfl, h.1⟩, fun o q => nomatch q⟩
    | bor => cases e; exact ⟨⟨v, rfl, h.1⟩, fun o q => nomatch q⟩
    | now => cases e; exact ⟨⟨v, rfl, .inr h.1⟩, fun o q => nomatch q⟩
  | m :: ms, v :: vs, d :: ds, i + 1, s, h, e => by
    have e' : (slots ms ds)[i]? = some s := by cases m <;> simpa [slots] using e
    obtain ⟨w, hw, q⟩ := slots_ok h.2 e'
    exact ⟨w, by simpa using hw, q⟩
  | [], [], _ :: _, _, _, h, _ => h.elim
  | [], _ :: _, _, _, _, h, _ => h.elim
  | _ :: _, [], _, _, _, h, _ => h.elim
  | _ :: _, _ :: _, [], _, _, h, _ => h.elim
def En0 (ms : List Md) (ds : List D) (n : Nat) : En := slots ms ds ++ List.replicate n .no
theorem sat_start {K : PySem.W.Frag} {H T : Hp} {ms : List Md} {vs : List V} {ds : List D} {N : List Str} (hT : Le T H) (h : MIss K H H T ms vs ds) (hN : ms.length ≤ N.length) : Sat K H T (En0 ms ds (N.length - ms.length)) (L2.start N vs) H T := by
  obtain ⟨l1, l2⟩ := h.len
  have ls := slots_len l2
  have at_ : ∀ (i : Nat) s, (En0 ms ds (N.length - ms.length))[i]? = some s → ∃ x, (L2.start N vs)[i]? = some x ∧ SlotOk K H H T x s ∧ ∀ o, s ≠ .own o := fun i s e => by
    unfold En0 at e
    unfold L2.start
    by_cases hi : i < ms.length
    · rw [List.getElem?_append_left (by rw [ls]; exact hi)] at e
      obtain ⟨v, hv, q⟩ := slots_ok h e
      refine ⟨some v, ?_, q⟩
      rw [List.getElem?_append_left (by rw [List.length_map, l1]; exact hi), List.getElem?_map, hv]
      rfl
    · have hle : ms.length ≤ i := by omega
      rw [List.getElem?_append_right (by rw [ls]; exact hle), ls] at e
      have hi2 : i - ms.length < N.length - ms.length := by
        have := (List.getElem?_eq_some_iff.mp e).1
        simpa using this
      rw [List.getElem?_replicate_of_lt hi2] at e
      cases e
      refine ⟨none, ?_, trivial, fun o q => nomatch q⟩
      rw [List.getElem?_append_right (by rw [List.length_map, l1]; exact hle), List.length_map, l1, List.getElem?_replicate_of_lt hi2]
  refine ⟨Gr.refl hT, ?_, fun i s e => ?_, fun i j o o' a b hij h1 h2 => ?_⟩
  · unfold En0 L2.start
    simp [ls, l1]
  · obtain ⟨x, hx, q, _⟩ := at_ i s e
    exact ⟨x, hx, q⟩
  · obtain ⟨x, _, _, q⟩ := at_ i _ h1
    exact absurd rfl (q o)

section
variable {P : Program} {w : World} {K : PySem.W.Frag} {mg : Str → Option Value} {base : Heap}
/-- a def of the text as it stands behind the top -/
abbrev FnP (K : PySem.W.Frag) (x : Str) (st : Stmt) (dvs : List V) (kws : List (Str × V)) (f : Addr) (fd : FuncData) : Prop := FunD K x x (defArgs st) (defBody st) (defScope st) dvs kws f fd
def Dd (K : PySem.W.Frag) (mg : Str → Option Value) (x : Str) (st : Stmt) (dvs : List V) (kws : List (Str × V)) : Prop := ∃ f fd, FnP K x st dvs kws f fd ∧ mg x = some (.ref f)
/-- what a def is worth: it may be called by its name -/
structure Df (P : Program) (w : World) (K : PySem.W.Frag) (mg : Str → Option Value) (base : Heap) (x : Str) (k : Nat) (dvs : List V) (sp : Sp) : Prop where
  ex : ∃ (CX : CXT) (f : Addr) (fd : FuncData) (ps : List Str) (ds : List Value), FnOk P w K mg base CX k f fd ps sp ∧ mg x = some (.ref f) ∧ PySem.W.keepIn K (.ref f) = true ∧ Binds K fd ps ds ∧ Vals dvs ds ∧ ∀ X : Cx, X.prog = P → X.w = w → Passes CX X E0
/-- a body that holds what is promised -/
def BodyR (P : Program) (w : World) (K : PySem.W.Frag) (mg : Str → Option Value) (base : Heap) (x : Str) (st : Stmt) (N : List Str) (k : Nat) {α : Type} (ms : List Md) (args : α → List D) (pre : α → Prop) (out : α → D → Prop) : Prop :=
  ∀ (f : Addr) (cdv : Value) (A : Around) (outer : List Env) (s : Shared) (H : Hp) (E : XK), Room k (A.deeper (envOfC x (defScope st) s.heap.objs.size f cdv)) →
    ∃ t, PSs (cxOf CX0 P w K mg base N x (defScope st) f cdv A outer s H E).nox (defBody st) t ∧ ∀ a, pre a → Run K E t (En0 ms (args a) (N.length - ms.length)) { nx := fun _ => out a .non, rt := out a }
abbrev Body (P : Program) (w : World) (K : PySem.W.Frag) (mg : Str → Option Value) (base : Heap) (x : Str) (st : Stmt) (N : List Str) (k : Nat) {α : Type} (ms : List Md) (args : α → List D) (pre : α → Prop) (out : α → D) : Prop :=
  BodyR P w K mg base x st N k ms args pre fun a d => d = out a
theorem fn_ok {x : Str} {st : Stmt} {dvs : List V} {kws : List (Str × V)} {f : Addr} {fd : FuncData} {N ps : List Str} {k : Nat} {α : Type} {ms : List Md} {args : α → List D} {pre : α → Prop} {out : α → D → Prop}
    (F : FnP K x st dvs kws f fd) (S : FnScope N ps (defScope st)) (hn : ms.length = ps.length) (hN : ms.length ≤ N.length) (hb : BodyR P w K mg base x st N k ms args pre out) :
    FnOk P w K mg base CX0 (k + 1) f fd ps (SpR K ms args pre out) := by
  refine F.ok S (fun vs H Q E h => ?_) (fun cdv A outer s H vs Q E hr h => ?_)
  · obtain ⟨T, a, _, _, hm, _⟩ := h
    rw [hm.len.1, hn]
  · obtain ⟨t, ht, hrun⟩ := hb f cdv A outer s H E hr
    obtain ⟨T, a, hT, hp, hm, hq⟩ := h
    refine ⟨t, ht.nox, hrun a hp H T _ H T _ (sat_start hT hm hN) ⟨fun e σ H' T' p s' => ?_, fun d v H' T' p g i => ?_, fun _ _ _ _ p => p.elim, fun _ _ _ _ p => p.elim, fun _ _ _ _ _ p => p.elim⟩⟩
    · exact hq .non .non H' T' p s'.gr .non
    · exact hq d v H' T' p g i
theorem pass0' {X : Cx} {P : Program} {w : World} (h1 : X.prog = P) (h2 : X.w = w) : Passes CX0 X E0 := pass0
/-- no defaults -/
theorem Dd.df {x : Str} {st : Stmt} {N ps : List Str} {k : Nat} {α : Type} {ms : List Md} {args : α → List D} {pre : α → Prop} {out : α → D → Prop}
    (F : Dd K mg x st [] []) (S : FnScope N ps (defScope st)) (hn : ms.length = ps.length) (hN : ms.length ≤ N.length)
    (bd : ∀ (kV doc pm : Value) (an : Option Addr) (cdv ct : Value) (us : List Value), us.length = ps.length → bindArgs (PySem.W.fnOf x x (defArgs st) (defBody st) (defScope st) .none kV doc pm an cdv ct) ⟨us, []⟩ = pure (ps.zip us))
    (hb : BodyR P w K mg base x st N k ms args pre out) : Df P w K mg base x (k + 1) [] (SpR K ms args pre out) := by
  obtain ⟨f, fd, F, hm⟩ := F
  exact ⟨CX0, f, fd, ps, [], fn_ok F S hn hN hb, hm, F.kp, F.bindsN bd, .nil, fun X _ _ => pass0⟩
/-- a def that is never called -/
theorem Df.never {x : Str} {st : Stmt} {N : List Str} {k : Nat} {α : Type} {ms : List Md} {args : α → List D} {pre : α → Prop} {out : α → D → Prop} (F : Dd K mg x st [] []) (hp : ∀ a, ¬ pre a)
    (bd : ∀ (kV doc pm : Value) (an : Option Addr) (cdv ct : Value) (us : List Value), us.length = N.length → bindArgs (PySem.W.fnOf x x (defArgs st) (defBody st) (defScope st) .none kV doc pm an cdv ct) ⟨us, []⟩ = pure (N.zip us)) : Df P w K mg base x k [] (SpR K ms args pre out) := by
  obtain ⟨f, fd, F, hm⟩ := F
  exact ⟨CX0, f, fd, N, [], ⟨fun vs H Q E ⟨_, a, _, h, _⟩ => absurd h (hp a), fun A outer s H args us vs Q E _ _ _ _ ⟨_, a, _, h, _⟩ => absurd h (hp a)⟩, hm, F.kp, F.bindsN bd, .nil, fun X _ _ => pass0⟩
theorem Df.mono {x : Str} {j k : Nat} {dvs : List V} {sp : Sp} (F : Df P w K mg base x j dvs sp) (h : j ≤ k) : Df P w K mg base x k dvs sp := by
  obtain ⟨CX, f, fd, ps, ds, F, r⟩ := F.ex
  exact ⟨CX, f, fd, ps, ds, F.mono h, r⟩
theorem Df.imp {x : Str} {k : Nat} {dvs : List V} {sp sp' : Sp} (F : Df P w K mg base x k dvs sp) (h : ∀ vs H Q E, sp' vs H Q E → sp vs H Q E) : Df P w K mg base x k dvs sp' := by
  obtain ⟨CX, f, fd, ps, ds, F, r⟩ := F.ex
  exact ⟨CX, f, fd, ps, ds, F.imp h, r⟩
end
section
variable {X : Cx} {k : Nat} {sp : Sp} {dvs : List V} {x : Str} {p pos : Pos} {e : Expr} {es : List Expr} {t : TA}
theorem pe_df (G : Df X.prog X.w X.K X.mg X.base x k dvs sp) (hr : Room k X.A) (hg : Gl X x) (ha : PA X (e :: es) t) (hdb : (x == ("__debug__" : Str)) = false := by decide)
    (he : starEach (e :: es) X.env = (false, eval e X.env) :: starEach es X.env := by rfl) (hpl : (backTo pos (starEach es X.env)).any (·.1) = false := by rfl) :
    PE X (.Call (.Name x p) (e :: es) [] pos) (tCall sp dvs E0 t) := by
  obtain ⟨CX, f, fd, ps, ds, F, hm, hk, hb, hd, hx⟩ := G.ex
  exact pe_call F hr hg hm hk hb hd (hx X rfl rfl) ha hdb he hpl
theorem pe_df0 (G : Df X.prog X.w X.K X.mg X.base x k dvs sp) (hr : Room k X.A) (hg : Gl X x) (hdb : (x == ("__debug__" : Str)) = false := by decide) : PE X (.Call (.Name x p) [] [] pos) (tCall sp dvs E0 tNil) := by
  obtain ⟨CX, f, fd, ps, ds, F, hm, hk, hb, hd, hx⟩ := G.ex
  exact pe_call0 F hr hg hm hk hb hd (hx X rfl rfl) hdb
end
section
variable {K : PySem.W.Frag} {e : En} {d : D} {ds : List D} {m : Md} {α : Type} {ms : List Md} {args : α → List D} {pre : α → Prop} {out : α → D} {ta : TA}
theorem MIss.rebase {B H T : Hp} (hb : Le B H) (ht : Le T H) : ∀ {ms : List Md} {vs : List V} {ds : List D}, MIss K B H T ms vs ds → MIss K H H T ms vs ds
  | [], [], [], _ => trivial
  | m :: ms, v :: vs, d :: ds, h => by
    refine ⟨?_, MIss.rebase hb ht h.2⟩
    cases m with
    | dat => exact h.1
    | bor =>
      rcases h.1 with i | i
      · exact .inl i
      · exact .inr (Is.mono hb d i)
    | now => exact h.1
  | [], [], _ :: _, h => h.elim
  | [], _ :: _, _, h => h.elim
  | _ :: _, [], _, h => h.elim
  | _ :: _, _ :: _, [], h => h.elim
/-- f(..) -/
theorem ev_call (a : α) (hp : pre a) (h : EvA K ms ta e (args a)) : Ev K m (tCall (SpP K ms args pre out) [] E0 ta) e (out a) := Ev.up fun B T0 σ H T s Q q => h B T0 σ H T s _ fun vs H1 T1 g i => by
  show SpP K ms args pre out (vs ++ []) H1 Q E0
  rw [List.append_nil]
  exact ⟨T1, a, g.s, hp, i.rebase (s.gr.h.trans g.h) g.s, fun d v H2 T2 hd g2 i2 => q v H2 T2 (g.trans g2) (hd ▸ i2)⟩
/-- a value that is only known by what holds of it -/
def EvP (K : PySem.W.Frag) (te : TE) (e : En) (p : D → Prop) : Prop := ∀ (B T0 : Hp) (σ : L2.St) (H T : Hp), Sat K B T0 e σ H T → ∀ Q : VK, (∀ d v H' T', p d → Gr H T H' T' → Is K T' v d → Q v H') → te σ H Q
theorem evp_call {out : α → D → Prop} (a : α) (hp : pre a) (h : EvA K ms ta e (args a)) : EvP K (tCall (SpR K ms args pre out) [] E0 ta) e (out a) := fun B T0 σ H T s Q q => h B T0 σ H T s _ fun vs H1 T1 g i => by
  show SpR K ms args pre out (vs ++ []) H1 Q E0
  rw [List.append_nil]
  exact ⟨T1, a, g.s, hp, i.rebase (s.gr.h.trans g.h) g.s, fun d v H2 T2 hd g2 i2 => q d v H2 T2 hd (g.trans g2) i2⟩
end
end Fh
namespace Fh
open PySem PySem.Spec PyProof.Rows L2
/-! ### calls with keywords, constants of the module -/
structure DfK (P : Program) (w : World) (K : PySem.W.Frag) (mg : Str → Option Value) (base : Heap) (x : Str) (k n : Nat) (ks : List Str) (gV : List V → List V → List V) (sp : Sp) : Prop where
  ex : ∃ (CX : CXT) (f : Addr) (fd : FuncData) (ps : List Str) (g : List Value → List Value → List Value), FnOk P w K mg base CX k f fd ps sp ∧ mg x = some (.ref f) ∧ PySem.W.keepIn K (.ref f) = true ∧ KBn K fd ps n ks g gV ∧ ∀ X : Cx, X.prog = P → X.w = w → Passes CX X E0
theorem DfK.mono {P : Program} {w : World} {K : PySem.W.Frag} {mg : Str → Option Value} {base : Heap} {x : Str} {j k : Nat} {n : Nat} {ks : List Str} {gV : List V → List V → List V} {sp : Sp} (F : DfK P w K mg base x j n ks gV sp) (h : j ≤ k) : DfK P w K mg base x k n ks gV sp := by
  obtain ⟨CX, f, fd, ps, g, F, r⟩ := F.ex
  exact ⟨CX, f, fd, ps, g, F.mono h, r⟩
section
variable {X : Cx} {k n : Nat} {sp : Sp} {dvs : List V} {x : Str} {p pos : Pos} {e : Expr} {es : List Expr} {t tk : TA} {kws : List Keyword} {ks : List Str} {gV : List V → List V → List V}
theorem pe_dfK (G : DfK X.prog X.w X.K X.mg X.base x k n ks gV sp) (hr : Room k X.A) (hg : Gl X x) (ha : PA X (e :: es) t) (hkw : PK X kws tk) (hall : (backToKw pos (keywordEach kws X.env)).all (·.1.isSome) = true := by rfl) (hks : (backToKw pos (keywordEach kws X.env)).filterMap (·.1) = ks := by rfl)
    (hdb : (x == ("__debug__" : Str)) = false := by decide) (he : starEach (e :: es) X.env = (false, eval e X.env) :: starEach es X.env := by rfl)
    (hpl : ((backTo pos (starEach (e :: es) X.env)).any (·.1) || (backToKw pos (keywordEach kws X.env)).any (·.1.isNone)) = false := by rfl) {l : Nat} (hl : ks.length = l := by rfl) :
    PE X (.Call (.Name x p) (e :: es) kws pos) (tCallN n l sp gV E0 t tk) := by
  subst hl
  obtain ⟨CX, f, fd, ps, g, F, hm, hk, hb, hx⟩ := G.ex
  exact pe_callN F hr hg hm hk hb (hx X rfl rfl) ha hkw hall hks hdb he hpl
theorem pe_globI {i : Int} (hg : Gl X x) (h : ∃ t, X.mg x = some (.int i t)) (hd : (x == ("__debug__" : Str)) = false := by decide) : PE X (.Name x pos) (tC (.int i)) := by
  obtain ⟨t, h⟩ := h
  exact pe_glob hg h ⟨t, rfl⟩ hd
end
section
variable {K : PySem.W.Frag} {e : En} {d : D} {ds ds2 : List D} {m : Md} {α : Type} {ms ms1 ms2 : List Md} {args : α → List D} {pre : α → Prop} {out : α → D} {ta tk : TA}
theorem MIss.append {B H T : Hp} : ∀ {ms1 ms2 : List Md} {vs ws : List V} {ds es : List D}, MIss K B H T ms1 vs ds → MIss K B H T ms2 ws es → MIss K B H T (ms1 ++ ms2) (vs ++ ws) (ds ++ es)
  | [], _, [], _, [], _, _, h => h
  | _ :: _, _, _ :: _, _, _ :: _, _, h, g => ⟨h.1, h.2.append g⟩
  | [], _, [], _, _ :: _, _, h, _ => h.elim
  | [], _, _ :: _, _, _, _, h, _ => h.elim
  | _ :: _, _, [], _, _, _, h, _ => h.elim
  | _ :: _, _, _ :: _, _, [], _, h, _ => h.elim
/-- the defaults behind -/
theorem ev_callD {dvs : List V} (a : α) (hp : pre a) (ha : args a = ds ++ ds2) (hms : ms = ms1 ++ ms2) (h : EvA K ms1 ta e ds) (hd : ∀ H T, MIss K H H T ms2 dvs ds2) : Ev K m (tCall (SpP K ms args pre out) dvs E0 ta) e (out a) := Ev.up fun B T0 σ H T s Q q => h B T0 σ H T s _ fun vs H1 T1 g i => by
  refine ⟨T1, a, g.s, hp, ?_, fun d v H2 T2 hd g2 i2 => q v H2 T2 (g.trans g2) (hd ▸ i2)⟩
  rw [ha, hms]
  exact (i.rebase (s.gr.h.trans g.h) g.s).append (hd H1 T1)
theorem ev_callK {n l : Nat} (a : α) (hp : pre a) (ha : args a = ds ++ ds2) (hms : ms = ms1 ++ ms2) (h : EvA K ms1 ta e ds) (hk : EvA K ms2 tk e ds2) (hn : ms1.length = n) (hl : ms2.length = l) : Ev K m (tCallN n l (SpP K ms args pre out) (fun a b => a ++ b) E0 ta tk) e (out a) := Ev.up fun B T0 σ H T s Q q => h B T0 σ H T s _ fun vs H1 T1 g i => hk B T0 σ H1 T1 (s.grow g) _ fun ws H2 T2 g2 i2 => by
  refine ⟨i.len.1.trans hn, i2.len.1.trans hl, T2, a, g2.s, hp, ?_, fun d v H3 T3 hd g3 i3 => q v H3 T3 ((g.trans g2).trans g3) (hd ▸ i3)⟩
  rw [ha, hms]
  exact ((i.mono g2.h g2.t).append i2).rebase (((s.grow g).grow g2).gr.h) g2.s
end
/-! ### a def with defaults -/
section
variable {P : Program} {w : World} {K : PySem.W.Frag} {mg : Str → Option Value} {base : Heap} {x qual : Str} {params : Arguments} {body : List Stmt} {scope : Scope} {dvs : List V} {f : Addr} {fd : FuncData} {ps ks : List Str}
/-- positional arguments, then keywords for the parameters behind them, in their order; there are defaults -/
theorem kbinds1 (F : FunD K x qual params body scope dvs [] f fd) (n : Nat) (hd : dvs ≠ [])
    (h : ∀ (T : Addr) (kV doc pm : Value) (an : Option Addr) (cdv ct : Value) (us ws its : List Value), us.length = n → ws.length = ks.length → its.length = dvs.length →
      ∃ k, bindArgs (PySem.W.fnOf x qual params body scope (.ref T) kV doc pm an cdv ct) ⟨us, ks.zip ws⟩ = seqItems? (.ref T) >>= k ∧ k (some its.toArray) = pure (ps.zip (us ++ ws))) : KBn K fd ps n ks (fun a b => a ++ b) (fun a b => a ++ b) := by
  obtain ⟨oc, od, dV, kV, doc, pm, an, cdv, ct, osl, rfl, lk, hcd, hD, hK⟩ := F.ex
  rcases hD with ⟨e, _⟩ | ⟨_, T, o, its, m, rfl, lT, oT, rT⟩
  · exact absurd e hd
  · refine ⟨fun s us ws X l2 l3 => ?_, fun r z => r.append z⟩
    have l1 : its.length = dvs.length := rT.length.symm
    obtain ⟨k, e1, e2⟩ := h T kV doc pm an cdv ct us ws its l2 l3 l1
    refine BindsTo.of_looks fun M => ?_
    rw [e1]
    exact looks_items X lT oT (.of_pure e2)
end
end Fh

set_option Elab.async false
set_option linter.all false
set_option maxRecDepth 100000
set_option maxHeartbeats 4000000
/-! Fh, fifth part: operators and built-in calls, whatever the kinds of their operands -/
namespace Fh
open PySem PySem.Spec PyProof.Rows L2

/-! ### readings that ask by the values' kinds -/
def rAddS2 : R2 := fun x y H Q => ∃ i j, x = .str i ∧ y = .str j ∧ i.length + j.length ≤ sizeLine ∧ Q (.str (i ++ j)) H
def rPlus (K : PySem.W.Frag) : R2 := fun x y H Q => ((rI0 fun i j => .int (i + j)) x y H Q ∨ rCat x y H Q) ∨ (rCatA K x y H Q ∨ rAddS2 x y H Q)
def rMinus : R2 := rI0 fun i j => .int (i - j)
def rTimes : R2 := fun x y H Q => (rI CMul fun i j => .int (i * j)) x y H Q ∨ (rRep x y H Q ∨ (rI CMulW fun i j => .int (i * j)) x y H Q)
def rFdiv : R2 := fun x y H Q => (rI CDiv fun i j => .int (i / j)) x y H Q ∨ (rI CDivW fun i j => .int (i / j)) x y H Q
def rMod : R2 := rI (fun _ j => 0 < j) fun i j => .int (i % j)
def rPow : R2 := rI CPow fun i j => .int (i ^ j.toNat)
def rLt : R2 := rI0 fun i j => .bl (decide (i < j))
def rLe : R2 := rI0 fun i j => .bl (decide (i ≤ j))
def rGt2 : R2 := rI0 fun i j => .bl (decide (j < i))
def rGe2 : R2 := rI0 fun i j => .bl (decide (j ≤ i))
def rEqU (K : PySem.W.Frag) : R2 := fun x y H Q => rEq x y H Q ∨ rEqD K x y H Q
def rNeU (K : PySem.W.Frag) : R2 := fun x y H Q => rNe x y H Q ∨ rNeD K x y H Q
def rIsC : R2 := fun x y H Q => (y = .non ∨ ∃ b, y = .bl b) ∧ Q (.bl (decide (x = y))) H
def rIsNC : R2 := fun x y H Q => (y = .non ∨ ∃ b, y = .bl b) ∧ Q (.bl (!decide (x = y))) H
def rSlU (K : PySem.W.Frag) : V → Option Int → Option Int → Hp → VK → Prop := fun x lo hi H Q => rSlL K x lo hi H Q ∨ rSlA K x lo hi H Q
def rAbs : List V → Hp → VK → Prop := fun xs H Q => ∃ i, xs = [.int i] ∧ Q (.int (if i < 0 then -i else i)) H
def rMx2 : List V → Hp → VK → Prop := fun xs H Q => ∃ i j, xs = [.int i, .int j] ∧ Q (.int (if j > i then j else i)) H
def rMn2 : List V → Hp → VK → Prop := fun xs H Q => ∃ i j, xs = [.int i, .int j] ∧ Q (.int (if j < i then j else i)) H
def rIntC : List V → Hp → VK → Prop := fun xs H Q => (∃ i, xs = [.int i] ∧ Q (.int i) H) ∨ ∃ k, xs = [.bl k] ∧ Q (.int (if k then 1 else 0)) H
def rLenU (K : PySem.W.Frag) : List V → Hp → VK → Prop := fun xs H Q => ∃ x n, xs = [x] ∧ LenV K x H n ∧ Q (.int n) H
def rListU (K : PySem.W.Frag) : List V → Hp → VK → Prop := fun xs H Q => ∃ p ys, xs = [.ref p] ∧ (SqL K H p ys ∨ SqT K H p ys) ∧ ∀ l, H l = none → Q (.ref l) (upd H l (.lst ys))
def rTupU (K : PySem.W.Frag) : List V → Hp → VK → Prop := fun xs H Q => ∃ p ys, xs = [.ref p] ∧ ((SqL K H p ys ∧ ∀ l, H l = none → Q (.ref l) (upd H l (.tup ys))) ∨ (SqT K H p ys ∧ Q (.ref p) H))
section
variable {X : Cx}
theorem op_plus : OpR X (binaryOp .Add) (rPlus X.K) := (op_add.or op_cat).or (op_catA.or op_add_str)
theorem op_minus : OpR X (binaryOp .Sub) rMinus := op_sub
theorem op_times : OpR X (binaryOp .Mult) rTimes := op_mul.or (op_rep.or op_mulW)
theorem op_fdivU : OpR X (binaryOp .FloorDiv) rFdiv := op_fdiv.or op_fdivW
theorem op_modU : OpR X (binaryOp .Mod) rMod := op_mod
theorem op_powU : OpR X (binaryOp .Pow) rPow := op_pow
theorem op_ltU : OpR X (compareOp .Lt) rLt := op_lt
theorem op_leU : OpR X (compareOp .LtE) rLe := op_le
theorem op_gtU : OpR X (compareOp .Gt) rGt2 := op_gt
theorem op_geU : OpR X (compareOp .GtE) rGe2 := op_ge
theorem op_eqU {k : Nat} (hr : Room k X.A) : OpR X (compareOp .Eq) (rEqU X.K) := op_eq.or (op_eqD hr.units)
theorem op_neU {k : Nat} (hr : Room k X.A) : OpR X (compareOp .NotEq) (rNeU X.K) := op_ne.or (op_neD hr.units)
theorem is_dec {x : V} {u : Value} (r : RelV x u) : (u == Value.none) = decide (x = .non) ∧ plainIs u .none = true ∧ ∀ b, (u == Value.bool b) = decide (x = .bl b) ∧ plainIs u (.bool b) = true := by
  cases x with
  | non => cases r; exact ⟨rfl, rfl, fun b => ⟨rfl, rfl⟩⟩
  | bl c =>
    cases r
    refine ⟨rfl, rfl, fun b => ⟨?_, rfl⟩⟩
    cases b <;> cases c <;> rfl
  | int _ => obtain ⟨t, rfl⟩ := r; exact ⟨rfl, rfl, fun b => ⟨rfl, rfl⟩⟩
  | str _ => obtain ⟨t, rfl⟩ := r; exact ⟨rfl, rfl, fun b => ⟨rfl, rfl⟩⟩
  | byt _ => obtain ⟨t, rfl⟩ := r; exact ⟨rfl, rfl, fun b => ⟨rfl, rfl⟩⟩
  | flt _ => obtain ⟨t, rfl⟩ := r; exact ⟨rfl, rfl, fun b => ⟨rfl, rfl⟩⟩
  | ref _ => cases r; exact ⟨rfl, rfl, fun b => ⟨rfl, rfl⟩⟩
  | ty _ => cases r; exact ⟨rfl, rfl, fun b => ⟨rfl, rfl⟩⟩
theorem op_isC : OpR X (compareOp .Is) rIsC := by
  intro pins s σ H x y v u Q I rx ry h
  obtain ⟨hy, q⟩ := h
  obtain ⟨d1, p1, d2⟩ := is_dec rx
  rcases hy with rfl | ⟨b, rfl⟩
  · cases (show u = Value.none from ry)
    exact wpAny_is_plain p1 (fin_bl I q d1.symm)
  · cases (show u = Value.bool b from ry)
    exact wpAny_is_plain (d2 b).2 (fin_bl I q (d2 b).1.symm)
theorem op_isNC : OpR X (compareOp .IsNot) rIsNC := by
  intro pins s σ H x y v u Q I rx ry h
  obtain ⟨hy, q⟩ := h
  obtain ⟨d1, p1, d2⟩ := is_dec rx
  rcases hy with rfl | ⟨b, rfl⟩
  · cases (show u = Value.none from ry)
    exact wpAny_isNot_plain p1 (fin_bl I q (by rw [d1]))
  · cases (show u = Value.bool b from ry)
    exact wpAny_isNot_plain (d2 b).2 (fin_bl I q (by rw [(d2 b).1]))
theorem sl_U : SlR X (rSlU X.K) := sl_list.or sl_tupA
theorem call_absU : CallR X (.builtin "abs") rAbs := call_abs
theorem call_mx2 (hc : X.calm = true) : CallR X (.builtin "max") rMx2 := call_max2 hc
theorem call_mn2 (hc : X.calm = true) : CallR X (.builtin "min") rMn2 := call_min2 hc
theorem call_intU : CallR X (.type "int") rIntC := call_int1
theorem call_lenU : CallR X (.builtin "len") (rLenU X.K) := call_len
theorem call_listU : CallR X (.type "list") (rListU X.K) := call_list_of
theorem call_tupU : CallR X (.type "tuple") (rTupU X.K) := call_tuple_of
end

section
variable {K : PySem.W.Frag} {e : En} {d d1 d2 : D} {ds xs ys : List D} {m m1 m2 : Md} {te ta tb : TE} {i : Nat} {o : OD}
/-! ### ints -/
theorem rd_plus {i j : Int} : RD K m1 m2 m (rPlus K) (.int i) (.int j) (.int (i + j)) := (RD.orl (r' := rCat) (rd_I0 (gd := fun i j => .int (i + j)) fun T => .int _)).orl
theorem rd_minus {i j : Int} : RD K m1 m2 m rMinus (.int i) (.int j) (.int (i - j)) := rd_I0 (gd := fun i j => .int (i - j)) fun T => .int _
theorem rd_times {i j : Int} (h : CMul i j) : RD K m1 m2 m rTimes (.int i) (.int j) (.int (i * j)) := (rd_I (gd := fun i j => .int (i * j)) h fun T => .int _).orl
theorem rd_timesW {i j : Int} (h : CMulW i j) : RD K m1 m2 m rTimes (.int i) (.int j) (.int (i * j)) := (RD.orr (rd_I (gd := fun i j => .int (i * j)) h fun T => .int _)).orr
theorem rd_fdiv {i j : Int} (h : CDiv i j) : RD K m1 m2 m rFdiv (.int i) (.int j) (.int (i / j)) := (rd_I (gd := fun i j => .int (i / j)) h fun T => .int _).orl
theorem rd_fdivW {i j : Int} (h : CDivW i j) : RD K m1 m2 m rFdiv (.int i) (.int j) (.int (i / j)) := (rd_I (gd := fun i j => .int (i / j)) h fun T => .int _).orr
theorem rd_mod {i j : Int} (h : 0 < j) : RD K m1 m2 m rMod (.int i) (.int j) (.int (i % j)) := rd_I (gd := fun i j => .int (i % j)) h fun T => .int _
theorem rd_pow {i j : Int} (h : CPow i j) : RD K m1 m2 m rPow (.int i) (.int j) (.int (i ^ j.toNat)) := rd_I (gd := fun i j => .int (i ^ j.toNat)) h fun T => .int _
theorem rd_lt {i j : Int} : RD K m1 m2 m rLt (.int i) (.int j) (.bl (decide (i < j))) := rd_I0 (gd := fun i j => .bl (decide (i < j))) fun T => .bl _
theorem rd_le {i j : Int} : RD K m1 m2 m rLe (.int i) (.int j) (.bl (decide (i ≤ j))) := rd_I0 (gd := fun i j => .bl (decide (i ≤ j))) fun T => .bl _
theorem rd_gt {i j : Int} : RD K m1 m2 m rGt2 (.int i) (.int j) (.bl (decide (j < i))) := rd_I0 (gd := fun i j => .bl (decide (j < i))) fun T => .bl _
theorem rd_ge {i j : Int} : RD K m1 m2 m rGe2 (.int i) (.int j) (.bl (decide (j ≤ i))) := rd_I0 (gd := fun i j => .bl (decide (j ≤ i))) fun T => .bl _
/-! ### == -/
theorem rd_sc {r : R2} {x y : V} {b : Bool} (h1 : ∀ H v, Is K H v d1 → v = x) (h2 : ∀ H v, Is K H v d2 → v = y) (hr : ∀ H (Q : VK), Q (.bl b) H → r x y H Q) : RD K m1 m2 m r d1 d2 (.bl b) := fun B H T u v hB hT i1 i2 Q q => by
  rw [h1 _ _ (i1.now hB hT), h2 _ _ (i2.now hB hT)]
  exact hr H Q (q _ H T (Gr.refl hT) (MIs.dat (.bl b) hT))
theorem rd_eqI {i j : Int} : RD K m1 m2 m (rEqU K) (.int i) (.int j) (.bl (decide (i = j))) := rd_sc (x := .int i) (y := .int j) (fun H v h => by cases h; rfl) (fun H v h => by cases h; rfl) fun H Q q => .inl ⟨rfl, by
  rw [dec_int, Bool.beq_eq_decide_eq]; exact q⟩
theorem rd_neI {i j : Int} : RD K m1 m2 m (rNeU K) (.int i) (.int j) (.bl (decide (i ≠ j))) := rd_sc (x := .int i) (y := .int j) (fun H v h => by cases h; rfl) (fun H v h => by cases h; rfl) fun H Q q => .inl ⟨rfl, by
  rw [dec_int, Bool.beq_eq_decide_eq, ← decide_not]; exact q⟩
theorem rd_eqS {i j : Str} : RD K m1 m2 m (rEqU K) (.str i) (.str j) (.bl (decide (i = j))) := rd_sc (x := .str i) (y := .str j) (fun H v h => by cases h; rfl) (fun H v h => by cases h; rfl) fun H Q q => .inl ⟨rfl, by
  rw [dec_str, Bool.beq_eq_decide_eq]; exact q⟩
theorem rd_neS {i j : Str} : RD K m1 m2 m (rNeU K) (.str i) (.str j) (.bl (decide (i ≠ j))) := rd_sc (x := .str i) (y := .str j) (fun H v h => by cases h; rfl) (fun H v h => by cases h; rfl) fun H Q q => .inl ⟨rfl, by
  rw [dec_str, Bool.beq_eq_decide_eq, ← decide_not]; exact q⟩
/-- is, is not, against None, True, False -/
def isC : D → D → Option Bool
  | .raw _, _ => none
  | .non, .non => some true
  | .bl a, .bl b => some (a == b)
  | .bl _, .non => some false
  | .non, .bl _ => some false
  | .int _, .non => some false
  | .int _, .bl _ => some false
  | .str _, .non => some false
  | .str _, .bl _ => some false
  | .lst _, .non => some false
  | .lst _, .bl _ => some false
  | .tup _, .non => some false
  | .tup _, .bl _ => some false
  | .ins _ _, .non => some false
  | .ins _ _, .bl _ => some false
  | _, _ => none
theorem isC_ok {H : Hp} {x y : V} {b : Bool} (h : isC d1 d2 = some b) (i1 : Is K H x d1) (i2 : Is K H y d2) : (y = .non ∨ ∃ b, y = .bl b) ∧ decide (x = y) = b := by
  cases i1 <;> cases i2 <;> first
    | (cases h; done)
    | (cases h; refine ⟨.inr ⟨_, rfl⟩, ?_⟩; rw [dec_bl]; done)
    | (cases h; refine ⟨.inr ⟨_, rfl⟩, ?_⟩; rw [dec_bl, Bool.beq_eq_decide_eq]; done)
    | (cases h; refine ⟨.inl rfl, ?_⟩; simp; done)
    | (cases h; refine ⟨.inr ⟨_, rfl⟩, ?_⟩; simp; done)
theorem rd_is {b : Bool} (h : isC d1 d2 = some b) : RD K m1 m2 m rIsC d1 d2 (.bl b) := fun B H T u v hB hT i1 i2 Q q => by
  obtain ⟨p, e⟩ := isC_ok h (i1.now hB hT) (i2.now hB hT)
  exact ⟨p, by rw [e]; exact q _ H T (Gr.refl hT) (MIs.dat (.bl b) hT)⟩
theorem rd_isN {b : Bool} (h : isC d1 d2 = some b) : RD K m1 m2 m rIsNC d1 d2 (.bl (!b)) := fun B H T u v hB hT i1 i2 Q q => by
  obtain ⟨p, e⟩ := isC_ok h (i1.now hB hT) (i2.now hB hT)
  exact ⟨p, by rw [e]; exact q _ H T (Gr.refl hT) (MIs.dat (.bl (!b)) hT)⟩
/-! ### == of data -/
mutual
def toPy : D → PyData
  | .non => .none
  | .bl b => .bool b
  | .int i => .int i
  | .str x => .str x
  | .lst ds => .list (toPys ds)
  | .tup ds => .tuple (toPys ds)
  | _ => .none
def toPys : List D → List PyData
  | [] => []
  | d :: ds => toPy d :: toPys ds
end
mutual
/-- data that == reads: of a depth below n, no objects -/
def shp : Nat → D → Bool
  | _, .non => true
  | _, .bl _ => true
  | _, .int _ => true
  | _, .str x => PySem.PyData.strOk x
  | 0, .lst _ => false
  | n + 1, .lst ds => shps n ds
  | 0, .tup _ => false
  | n + 1, .tup ds => shps n ds
  | _, _ => false
def shps : Nat → List D → Bool
  | _, [] => true
  | n, d :: ds => shp n d && shps n ds
end
mutual
theorem toPy_dp {H : Hp} : ∀ (n : Nat) (d : D) {v : V}, shp n d = true → Is K H v d → Dp K H v (toPy d)
  | _, .non, _, _, i => by cases i; exact .non
  | _, .bl _, _, _, i => by cases i; exact .bl _
  | _, .int _, _, _, i => by cases i; exact .int _
  | _, .str _, _, _, i => by cases i; exact .str _
  | 0, .lst _, _, h, _ => by simp [shp] at h
  | n + 1, .lst ds, _, h, i => by
    cases i with
    | lst ha hi => exact .lst (SqL.of ha) (toPys_dp n ds (by simpa [shp] using h) hi)
  | 0, .tup _, _, h, _ => by simp [shp] at h
  | n + 1, .tup ds, _, h, i => by
    cases i with
    | tup ha hi => exact .tup ha (toPys_dp n ds (by simpa [shp] using h) hi)
  | _, .raw _, _, h, _ => by simp [shp] at h
  | _, .rol _, _, h, _ => by simp [shp] at h
  | _, .ins _ _, _, h, _ => by simp [shp] at h
theorem toPys_dp {H : Hp} : ∀ (n : Nat) (ds : List D) {vs : List V}, shps n ds = true → Iss K H vs ds → DpAll K H vs (toPys ds)
  | _, [], _, _, i => by cases i; exact .nil
  | n, d :: ds, _, h, i => by
    cases i with
    | cons i1 i2 =>
      have h2 : shp n d = true ∧ shps n ds = true := by simpa [shps] using h
      exact .cons (toPy_dp n d h2.1 i1) (toPys_dp n ds h2.2 i2)
end
mutual
theorem shp_lay : ∀ (n : Nat) (d : D), shp n d = true → (toPy d).canLay0 = true ∧ (toPy d).depth ≤ n
  | _, .non, _ => ⟨rfl, Nat.zero_le _⟩
  | _, .bl _, _ => ⟨rfl, Nat.zero_le _⟩
  | _, .int _, _ => ⟨rfl, Nat.zero_le _⟩
  | _, .str x, h => ⟨(show PyData.strOk x = true by simpa [shp] using h), Nat.zero_le _⟩
  | 0, .lst _, h => by simp [shp] at h
  | n + 1, .lst ds, h => by
    obtain ⟨h1, h2⟩ := shps_lay n ds (by simpa [shp] using h)
    exact ⟨h1, Nat.succ_le_succ h2⟩
  | 0, .tup _, h => by simp [shp] at h
  | n + 1, .tup ds, h => by
    obtain ⟨h1, h2⟩ := shps_lay n ds (by simpa [shp] using h)
    exact ⟨h1, Nat.succ_le_succ h2⟩
  | _, .raw _, h => by simp [shp] at h
  | _, .rol _, h => by simp [shp] at h
  | _, .ins _ _, h => by simp [shp] at h
theorem shps_lay : ∀ (n : Nat) (ds : List D), shps n ds = true → PyData.canLayAll0 (toPys ds) = true ∧ PyData.depthAll (toPys ds) ≤ n
  | _, [], _ => ⟨rfl, Nat.zero_le _⟩
  | n, d :: ds, h => by
    have h2 : shp n d = true ∧ shps n ds = true := by simpa [shps] using h
    obtain ⟨a1, a2⟩ := shp_lay n d h2.1
    obtain ⟨b1, b2⟩ := shps_lay n ds h2.2
    refine ⟨?_, Nat.max_le.mpr ⟨a2, b2⟩⟩
    show (PyData.canLay0 (toPy d) && PyData.canLayAll0 (toPys ds)) = true
    rw [a1, b1]; rfl
end
theorem shp_shaped {n : Nat} (h : shp n d = true) (hn : n ≤ 64) : SeqAt.shaped (toPy d) = true := by
  obtain ⟨a, b⟩ := shp_lay n d h
  unfold SeqAt.shaped
  rw [a, decide_eq_true (Nat.le_trans b hn)]; rfl
theorem rd_eqD {n1 n2 : Nat} (h1 : shp n1 d1 = true) (h2 : shp n2 d2 = true) (l1 : n1 ≤ 64 := by decide) (l2 : n2 ≤ 64 := by decide) : RD K m1 m2 m (rEqU K) d1 d2 (.bl (PyData.eqv (toPy d1) (toPy d2))) := fun B H T u v hB hT i1 i2 Q q =>
  .inr ⟨toPy d1, toPy d2, toPy_dp n1 d1 h1 (i1.now hB hT), toPy_dp n2 d2 h2 (i2.now hB hT), shp_shaped h1 l1, shp_shaped h2 l2, q _ H T (Gr.refl hT) (MIs.dat (.bl _) hT)⟩
theorem rd_neD {n1 n2 : Nat} (h1 : shp n1 d1 = true) (h2 : shp n2 d2 = true) (l1 : n1 ≤ 64 := by decide) (l2 : n2 ≤ 64 := by decide) : RD K m1 m2 m (rNeU K) d1 d2 (.bl (!PyData.eqv (toPy d1) (toPy d2))) := fun B H T u v hB hT i1 i2 Q q =>
  .inr ⟨toPy d1, toPy d2, toPy_dp n1 d1 h1 (i1.now hB hT), toPy_dp n2 d2 h2 (i2.now hB hT), shp_shaped h1 l1, shp_shaped h2 l2, q _ H T (Gr.refl hT) (MIs.dat (.bl _) hT)⟩
theorem shps_ints {n : Nat} : ∀ ns : List Int, shps n (ns.map D.int) = true
  | [] => rfl
  | _ :: ns => by
    have := shps_ints (n := n) ns
    simp only [List.map_cons, shps, shp, this, Bool.and_self]
theorem eqv_ints : ∀ ns ms : List Int, PyData.eqvAll (toPys (ns.map D.int)) (toPys (ms.map D.int)) = decide (ns = ms)
  | [], [] => rfl
  | [], _ :: _ => rfl
  | _ :: _, [] => rfl
  | n :: ns, k :: ms => by
    have ih := eqv_ints ns ms
    show ((n == k) && PyData.eqvAll (toPys (ns.map D.int)) (toPys (ms.map D.int))) = _
    rw [ih, Bool.beq_eq_decide_eq]
    by_cases h : n = k
    · subst h; simp
    · simp [h]
theorem rd_eqInts {ns ms : List Int} : RD K m1 m2 m (rEqU K) (.lst (ns.map D.int)) (.lst (ms.map D.int)) (.bl (decide (ns = ms))) := by
  have h := rd_eqD (K := K) (m1 := m1) (m2 := m2) (m := m) (n1 := 1) (n2 := 1) (d1 := .lst (ns.map D.int)) (d2 := .lst (ms.map D.int)) (shps_ints ns) (shps_ints ms)
  have e : PyData.eqv (toPy (.lst (ns.map D.int))) (toPy (.lst (ms.map D.int))) = decide (ns = ms) := eqv_ints ns ms
  rwa [e] at h
theorem rd_neInts {ns ms : List Int} : RD K m1 m2 m (rNeU K) (.lst (ns.map D.int)) (.lst (ms.map D.int)) (.bl (decide (ns ≠ ms))) := by
  have h := rd_neD (K := K) (m1 := m1) (m2 := m2) (m := m) (n1 := 1) (n2 := 1) (d1 := .lst (ns.map D.int)) (d2 := .lst (ms.map D.int)) (shps_ints ns) (shps_ints ms)
  have e : PyData.eqv (toPy (.lst (ns.map D.int))) (toPy (.lst (ms.map D.int))) = decide (ns = ms) := eqv_ints ns ms
  rw [e, ← decide_not] at h
  exact h
/-! ### an item -/
theorem rd_ixL {k : Int} (h : atI xs k = some d) : RD K m m2 m (rIx K) (.lst xs) (.int k) d := fun B H T u v hB hT i1 i2 Q q => by
  have i3 := i2.now hB hT
  cases i3
  have fin : ∀ U : Hp, Le U H → Is K U u (.lst xs) → (∀ w, Is K U w d → MIs m K B H T w d) → rIx K u (.int k) H Q := fun U hU iu tr => by
    cases iu with
    | @lst a vs _ ha hi =>
      obtain ⟨j, e1, e2, e3, e4, e5⟩ := atI_get h
      obtain ⟨w, hw, iw⟩ := hi.get e2
      have e6 : atI vs k = some w := by
        unfold atI at h ⊢
        rw [hi.length]
        cases z : ixN xs.length k with
        | none => rw [z] at h; cases h
        | some j' =>
          rw [z] at h
          have h' : xs[j']? = some d := h
          obtain ⟨w', hw', iw'⟩ := hi.get h'
          have := (ixN_seq z).1
          rw [e1] at this
          cases this
          show vs[j]? = some w
          exact hw
      exact .inl ⟨a, vs, k, w, rfl, rfl, SqL.of (hU _ _ ha), e6, q w H T (Gr.refl hT) (tr w iw)⟩
  cases m with
  | dat => exact fin T hT i1 fun w i => i
  | bor =>
    rcases i1 with i1 | i1
    · exact fin T hT i1 fun w i => .inl i
    · exact fin B hB i1 fun w i => .inr i
  | now => exact fin H (Le.refl _) i1 fun w i => i
theorem rd_ixT {k : Int} (h : atI xs k = some d) : RD K m m2 m (rIx K) (.tup xs) (.int k) d := fun B H T u v hB hT i1 i2 Q q => by
  have i3 := i2.now hB hT
  cases i3
  have fin : ∀ U : Hp, Le U H → Is K U u (.tup xs) → (∀ w, Is K U w d → MIs m K B H T w d) → rIx K u (.int k) H Q := fun U hU iu tr => by
    cases iu with
    | @tup a vs _ ha hi =>
      obtain ⟨j, e1, e2, e3, e4, e5⟩ := atI_get h
      obtain ⟨w, hw, iw⟩ := hi.get e2
      have e6 : atI vs k = some w := by
        unfold atI at h ⊢
        rw [hi.length]
        cases z : ixN xs.length k with
        | none => rw [z] at h; cases h
        | some j' =>
          have := (ixN_seq z).1
          rw [e1] at this
          cases this
          show vs[j]? = some w
          exact hw
      exact .inr (.inl ⟨a, vs, k, w, rfl, rfl, hU.sqT ha, e6, q w H T (Gr.refl hT) (tr w iw)⟩)
  cases m with
  | dat => exact fin T hT i1 fun w i => i
  | bor =>
    rcases i1 with i1 | i1
    · exact fin T hT i1 fun w i => .inl i
    · exact fin B hB i1 fun w i => .inr i
  | now => exact fin H (Le.refl _) i1 fun w i => i
/-- of scalars the mode is nothing -/
theorem Ev.sc {i : Int} (h : Ev K m1 te e (.int i)) : Ev K m te e (.int i) := Ev.up fun B T0 σ H T s Q q => h B T0 σ H T s Q fun v H' T' g j => by
  have j := j.now (s.gr.h.trans g.h) g.s
  cases j
  exact q _ H' T' g (.int i)
theorem Ev.scB {b : Bool} (h : Ev K m1 te e (.bl b)) : Ev K m te e (.bl b) := Ev.up fun B T0 σ H T s Q q => h B T0 σ H T s Q fun v H' T' g j => by
  have j := j.now (s.gr.h.trans g.h) g.s
  cases j
  exact q _ H' T' g (.bl b)
theorem Ev.scS {b : Str} (h : Ev K m1 te e (.str b)) : Ev K m te e (.str b) := Ev.up fun B T0 σ H T s Q q => h B T0 σ H T s Q fun v H' T' g j => by
  have j := j.now (s.gr.h.trans g.h) g.s
  cases j
  exact q _ H' T' g (.str b)
theorem Ev.scN (h : Ev K m1 te e .non) : Ev K m te e .non := Ev.up fun B T0 σ H T s Q q => h B T0 σ H T s Q fun v H' T' g j => by
  have j := j.now (s.gr.h.trans g.h) g.s
  cases j
  exact q _ H' T' g .non
/-- an item of a list of one's own is data -/
theorem ev_ixO {k : Int} (hi : e[i]? = some (.own (.lst xs))) (hk : Ev K m2 tb e (.int k)) (h : atI xs k = some d) : Ev K m (tOp (rIx K) (tVar i) tb) e d := Ev.up fun B T0 σ H T s Q q => by
  obtain ⟨a, hx, hb, ht, vs, hv, iv⟩ := s.own hi
  refine ⟨_, hx, hk B T0 σ H T s _ fun w H1 T1 g i1 => ?_⟩
  have i2 := i1.now (s.gr.h.trans g.h) g.s
  cases i2
  obtain ⟨j, e1, e2, e3, e4, e5⟩ := atI_get h
  obtain ⟨w, hw, iw⟩ := iv.get e2
  have e6 : atI vs k = some w := by
    unfold atI at h ⊢
    rw [iv.length]
    cases z : ixN xs.length k with
    | none => rw [z] at h; cases h
    | some j' =>
      have := (ixN_seq z).1
      rw [e1] at this
      cases this
      show vs[j]? = some w
      exact hw
  exact .inl ⟨a, vs, k, w, rfl, rfl, SqL.of (g.h _ _ hv), e6, q w H1 T1 g (Is.mono g.t d iw)⟩
theorem at_nat {k : Int} (h0 : 0 ≤ k) (h : xs[k.toNat]? = some d) : atI xs k = some d := by
  have e : k = ((k.toNat : Nat) : Int) := by omega
  rw [e]; exact atI_nat h
/-! ### built-in calls -/
theorem rl_abs {i : Int} : RL K [m1] m rAbs [.int i] (.int (if i < 0 then -i else i)) := fun B H T vs hB hT h Q q => by
  match vs, h with
  | [v], h =>
    have i1 := h.1.now hB hT
    cases i1
    exact ⟨i, rfl, q _ H T (Gr.refl hT) (MIs.dat (.int _) hT)⟩
theorem rl_mx2 {i j : Int} : RL K [m1, m2] m rMx2 [.int i, .int j] (.int (max i j)) := fun B H T vs hB hT h Q q => by
  match vs, h with
  | [v, w], h =>
    have i1 := h.1.now hB hT
    have i2 := h.2.1.now hB hT
    cases i1; cases i2
    refine ⟨i, j, rfl, ?_⟩
    have e : (if j > i then j else i) = max i j := by rw [Int.max_def]; split <;> split <;> omega
    rw [e]
    exact q _ H T (Gr.refl hT) (MIs.dat (.int _) hT)
theorem rl_mn2 {i j : Int} : RL K [m1, m2] m rMn2 [.int i, .int j] (.int (min i j)) := fun B H T vs hB hT h Q q => by
  match vs, h with
  | [v, w], h =>
    have i1 := h.1.now hB hT
    have i2 := h.2.1.now hB hT
    cases i1; cases i2
    refine ⟨i, j, rfl, ?_⟩
    have e : (if j < i then j else i) = min i j := by rw [Int.min_def]; split <;> split <;> omega
    rw [e]
    exact q _ H T (Gr.refl hT) (MIs.dat (.int _) hT)
theorem rl_int {i : Int} : RL K [m1] m rIntC [.int i] (.int i) := fun B H T vs hB hT h Q q => by
  match vs, h with
  | [v], h =>
    have i1 := h.1.now hB hT
    cases i1
    exact .inl ⟨i, rfl, q _ H T (Gr.refl hT) (MIs.dat (.int _) hT)⟩
theorem rl_intB {b : Bool} : RL K [m1] m rIntC [.bl b] (.int (if b then 1 else 0)) := fun B H T vs hB hT h Q q => by
  match vs, h with
  | [v], h =>
    have i1 := h.1.now hB hT
    cases i1
    exact .inr ⟨b, rfl, q _ H T (Gr.refl hT) (MIs.dat (.int _) hT)⟩
theorem rl_lenL : RL K [m1] m (rLenU K) [.lst xs] (.int (xs.length : Nat)) := fun B H T vs hB hT h Q q => by
  match vs, h with
  | [v], h =>
    have i1 := h.1.now hB hT
    cases i1 with
    | @lst a vs _ ha hi => exact ⟨_, xs.length, rfl, .inl ⟨vs, SqL.of ha, hi.length.symm⟩, q _ H T (Gr.refl hT) (MIs.dat (.int _) hT)⟩
theorem rl_lenT : RL K [m1] m (rLenU K) [.tup xs] (.int (xs.length : Nat)) := fun B H T vs hB hT h Q q => by
  match vs, h with
  | [v], h =>
    have i1 := h.1.now hB hT
    cases i1 with
    | @tup a vs _ ha hi => exact ⟨_, xs.length, rfl, .inr ⟨vs, ha, hi.length.symm⟩, q _ H T (Gr.refl hT) (MIs.dat (.int _) hT)⟩
theorem rl_lenR : RL K [m1] m (rLenU K) [.rol xs] (.int (xs.length : Nat)) := fun B H T vs hB hT h Q q => by
  match vs, h with
  | [v], h =>
    have i1 := h.1.now hB hT
    cases i1 with
    | @rol a vs _ ha hi => exact ⟨_, xs.length, rfl, .inl ⟨vs, ha, hi.length.symm⟩, q _ H T (Gr.refl hT) (MIs.dat (.int _) hT)⟩
/-- list(xs): a new list; its items are data -/
theorem rlo_list : RLO K [.dat] (rListU K) [.lst xs] (.lst xs) := fun B H T vs hB hT h Q q => by
  match vs, h with
  | [v], h =>
    have i1 : Is K T v (.lst xs) := h.1
    cases i1 with
    | @lst a vs _ ha hi => exact ⟨a, vs, rfl, .inl (SqL.of (hT _ _ ha)), fun l hl => q l _ T (Gr.own hT hl) hl (hT.back hl) ⟨vs, upd_same, hi⟩⟩
theorem rlo_listT : RLO K [.dat] (rListU K) [.tup xs] (.lst xs) := fun B H T vs hB hT h Q q => by
  match vs, h with
  | [v], h =>
    have i1 : Is K T v (.tup xs) := h.1
    cases i1 with
    | @tup a vs _ ha hi => exact ⟨a, vs, rfl, .inr (hT.sqT ha), fun l hl => q l _ T (Gr.own hT hl) hl (hT.back hl) ⟨vs, upd_same, hi⟩⟩
theorem rlo_listI {ns : List Int} : RLO K [m1] (rListU K) [.lst (ns.map D.int)] (.lst (ns.map D.int)) := fun B H T vs hB hT h Q q => by
  match vs, h with
  | [v], h =>
    have i1 := h.1.now hB hT
    cases i1 with
    | @lst a vs _ ha hi =>
      have e := hi.ints
      subst e
      exact ⟨a, _, rfl, .inl (SqL.of ha), fun l hl => q l _ T (Gr.own hT hl) hl (hT.back hl) ⟨_, upd_same, iss_ints ns⟩⟩
/-- tuple(xs) -/
theorem rl_tup : RL K [.dat] m (rTupU K) [.lst xs] (.tup xs) := fun B H T vs hB hT h Q q => by
  match vs, h with
  | [v], h =>
    have i1 : Is K T v (.lst xs) := h.1
    cases i1 with
    | @lst a vs _ ha hi =>
      refine ⟨a, vs, rfl, .inl ⟨SqL.of (hT _ _ ha), fun l hl => ?_⟩⟩
      have g := Gr.new (o := .tup vs) hT hl
      exact q _ _ _ g (MIs.dat (.tup (SqT.of upd_same) (Iss.mono g.t _ hi)) g.s)
theorem rl_tupT : RL K [m] m (rTupU K) [.tup xs] (.tup xs) := fun B H T vs hB hT h Q q => by
  match vs, h with
  | [v], h =>
    have i1 := h.1.now hB hT
    cases i1 with
    | @tup a vs _ ha hi => exact ⟨a, vs, rfl, .inr ⟨ha, q _ H T (Gr.refl hT) h.1⟩⟩
theorem rl_tupI {ns : List Int} : RL K [m1] m (rTupU K) [.lst (ns.map D.int)] (.tup (ns.map D.int)) := fun B H T vs hB hT h Q q => by
  match vs, h with
  | [v], h =>
    have i1 := h.1.now hB hT
    cases i1 with
    | @lst a vs _ ha hi =>
      have e := hi.ints
      subst e
      refine ⟨a, _, rfl, .inl ⟨SqL.of ha, fun l hl => ?_⟩⟩
      have g := Gr.new (o := .tup (ns.map V.int)) hT hl
      exact q _ _ _ g (MIs.dat (.tup (SqT.of upd_same) (iss_ints ns)) g.s)
theorem rl_sum {ns : List Int} : RL K [m1] m (rSum K) [.lst (ns.map D.int)] (.int ns.sum) := fun B H T vs hB hT h Q q => by
  match vs, h with
  | [v], h =>
    have i1 := h.1.now hB hT
    cases i1 with
    | @lst a vs _ ha hi =>
      have e := hi.ints
      subst e
      exact ⟨a, ns, rfl, SqL.of ha, q _ H T (Gr.refl hT) (MIs.dat (.int _) hT)⟩
theorem rl_min {ns : List Int} {k : Int} (h1 : k ∈ ns) (h2 : ∀ y ∈ ns, k ≤ y) : RL K [m1] m (rMin K) [.lst (ns.map D.int)] (.int k) := fun B H T vs hB hT h Q q => by
  match vs, h with
  | [v], h =>
    have i1 := h.1.now hB hT
    cases i1 with
    | @lst a vs _ ha hi =>
      have e := hi.ints
      subst e
      refine ⟨a, ns, rfl, SqL.of ha, List.length_pos_of_mem h1, fun z hz hm => ?_⟩
      have e : z = k := Int.le_antisymm (hm k h1) (h2 z hz)
      rw [e]
      exact q _ H T (Gr.refl hT) (MIs.dat (.int _) hT)
theorem rl_max {ns : List Int} {k : Int} (h1 : k ∈ ns) (h2 : ∀ y ∈ ns, y ≤ k) : RL K [m1] m (rMax K) [.lst (ns.map D.int)] (.int k) := fun B H T vs hB hT h Q q => by
  match vs, h with
  | [v], h =>
    have i1 := h.1.now hB hT
    cases i1 with
    | @lst a vs _ ha hi =>
      have e := hi.ints
      subst e
      refine ⟨a, ns, rfl, SqL.of ha, List.length_pos_of_mem h1, fun z hz hm => ?_⟩
      have e : z = k := Int.le_antisymm (h2 z hz) (hm k h1)
      rw [e]
      exact q _ H T (Gr.refl hT) (MIs.dat (.int _) hT)
/-! ### isinstance with a built-in class -/
def tyD : D → Option String
  | .non => some "NoneType"
  | .bl _ => some "bool"
  | .int _ => some "int"
  | .str _ => some "str"
  | .lst _ => some "list"
  | .tup _ => some "tuple"
  | _ => none
theorem tyX_of {H : Hp} {v : V} {n : String} (h : tyD d = some n) (i : Is K H v d) : TyX K H v (.type n) := by
  cases i with
  | non => cases h; exact .base .non
  | bl => cases h; exact .base (.bl _)
  | int => cases h; exact .base (.int _)
  | str => cases h; exact .base (.str _)
  | raw => cases h
  | rol => cases h
  | abs => cases h
  | ins => cases h
  | lst ha => cases h; exact .base (.lst ha)
  | tup ha =>
    cases h
    rcases ha with (ha | ⟨o, ha⟩) | ⟨o, its, n, hk, hc, _⟩
    · exact .base (.tup ha)
    · exact .fTuple ha
    · exact .kTuple hk hc
theorem rl_isi {n c : String} {b : Bool} (h : tyD d = some n) (hk : kitB n c = some b) : RL K [m1, m2] m (rIsi K) [d, .raw (.ty c)] (.bl b) := fun B H T vs hB hT hm Q q => by
  match vs, hm with
  | [v, w], hm =>
    have i1 := hm.1.now hB hT
    have i2 := hm.2.1.now hB hT
    cases i2
    exact ⟨v, .ty c, .type n, .type c, b, rfl, .ty c, tyX_of h i1, kit_ty hk, q _ H T (Gr.refl hT) (MIs.dat (.bl b) hT)⟩
end
end Fh

set_option Elab.async false
set_option linter.all false
set_option maxRecDepth 100000
set_option maxHeartbeats 4000000
/-! Fh, sixth part: the rules as the evaluator takes them -/
namespace Fh
open PySem PySem.Spec PyProof.Rows L2
theorem sz {n : Nat} (h : n ≤ 100000) : n ≤ sizeLine := Nat.le_trans h (by decide)
theorem szl {n : Nat} (h : n < 100000) : n < sizeLine := Nat.lt_of_lt_of_le h (by decide)
section
variable {K : PySem.W.Frag} {E : XK} {e : En} {d d1 d2 : D} {ds xs ys : List D} {m m1 m2 : Md} {te ta tb tc : TE} {tt tu : TT} {i j k : Int} {b c : Bool} {o : OD} {P : Po} {t u : TS} {n : Nat} {ns : List Int}
theorem ev_addI (ha : Ev K .now ta e (.int i)) (hb : Ev K .now tb e (.int j)) : Ev K m (tOp (rPlus K) ta tb) e (.int (i + j)) := ev_op ha hb rd_plus
theorem ev_subI (ha : Ev K .now ta e (.int i)) (hb : Ev K .now tb e (.int j)) : Ev K m (tOp rMinus ta tb) e (.int (i - j)) := ev_op ha hb rd_minus
theorem ev_mulI (ha : Ev K .now ta e (.int i)) (hb : Ev K .now tb e (.int j)) (h : CMul i j) : Ev K m (tOp rTimes ta tb) e (.int (i * j)) := ev_op ha hb (rd_times h)
theorem ev_divI (ha : Ev K .now ta e (.int i)) (hb : Ev K .now tb e (.int j)) (h : CDiv i j) : Ev K m (tOp rFdiv ta tb) e (.int (i / j)) := ev_op ha hb (rd_fdiv h)
theorem ev_modI (ha : Ev K .now ta e (.int i)) (hb : Ev K .now tb e (.int j)) (h : 0 < j) : Ev K m (tOp rMod ta tb) e (.int (i % j)) := ev_op ha hb (rd_mod h)
theorem ev_powI (ha : Ev K .now ta e (.int i)) (hb : Ev K .now tb e (.int j)) (h : CPow i j) : Ev K m (tOp rPow ta tb) e (.int (i ^ j.toNat)) := ev_op ha hb (rd_pow h)
theorem ev_negI (ha : Ev K .now ta e (.int i)) : Ev K m (tUn (rU fun i => .int (-i)) ta) e (.int (-i)) := Ev.up fun B T0 σ H T s Q q => ha B T0 σ H T s _ fun v H1 T1 g i1 => by
  have i2 := i1.now (s.gr.h.trans g.h) g.s
  cases i2
  exact ⟨i, rfl, q _ H1 T1 g (.int _)⟩
theorem ev_ltI (ha : Ev K .now ta e (.int i)) (hb : Ev K .now tb e (.int j)) : Ev K m (tOp rLt ta tb) e (.bl (decide (i < j))) := ev_op ha hb rd_lt
theorem ev_leI (ha : Ev K .now ta e (.int i)) (hb : Ev K .now tb e (.int j)) : Ev K m (tOp rLe ta tb) e (.bl (decide (i ≤ j))) := ev_op ha hb rd_le
theorem ev_gtI (ha : Ev K .now ta e (.int i)) (hb : Ev K .now tb e (.int j)) : Ev K m (tOp rGt2 ta tb) e (.bl (decide (j < i))) := ev_op ha hb rd_gt
theorem ev_geI (ha : Ev K .now ta e (.int i)) (hb : Ev K .now tb e (.int j)) : Ev K m (tOp rGe2 ta tb) e (.bl (decide (j ≤ i))) := ev_op ha hb rd_ge
theorem ev_eqI (ha : Ev K .now ta e (.int i)) (hb : Ev K .now tb e (.int j)) : Ev K m (tOp (rEqU K) ta tb) e (.bl (decide (i = j))) := ev_op ha hb rd_eqI
theorem ev_neI (ha : Ev K .now ta e (.int i)) (hb : Ev K .now tb e (.int j)) : Ev K m (tOp (rNeU K) ta tb) e (.bl (decide (i ≠ j))) := ev_op ha hb rd_neI
theorem ev_eqS {x y : Str} (ha : Ev K .now ta e (.str x)) (hb : Ev K .now tb e (.str y)) : Ev K m (tOp (rEqU K) ta tb) e (.bl (decide (x = y))) := ev_op ha hb rd_eqS
theorem ev_neS {x y : Str} (ha : Ev K .now ta e (.str x)) (hb : Ev K .now tb e (.str y)) : Ev K m (tOp (rNeU K) ta tb) e (.bl (decide (x ≠ y))) := ev_op ha hb rd_neS
theorem ev_eqL {ns ms : List Int} (ha : Ev K .now ta e (.lst (ns.map D.int))) (hb : Ev K .now tb e (.lst (ms.map D.int))) : Ev K m (tOp (rEqU K) ta tb) e (.bl (decide (ns = ms))) := ev_op ha hb rd_eqInts
theorem ev_neL {ns ms : List Int} (ha : Ev K .now ta e (.lst (ns.map D.int))) (hb : Ev K .now tb e (.lst (ms.map D.int))) : Ev K m (tOp (rNeU K) ta tb) e (.bl (decide (ns ≠ ms))) := ev_op ha hb rd_neInts
theorem ev_is (ha : Ev K .now ta e d1) (hb : Ev K .now tb e d2) (h : isC d1 d2 = some b) : Ev K m (tOp rIsC ta tb) e (.bl b) := ev_op ha hb (rd_is h)
theorem ev_isN (ha : Ev K .now ta e d1) (hb : Ev K .now tb e d2) (h : isC d1 d2 = some b) : Ev K m (tOp rIsNC ta tb) e (.bl (!b)) := ev_op ha hb (rd_isN h)
/-! an item of a row of ints -/
def nth (ns : List Int) (k : Int) : Int := ns.getD k.toNat 0
theorem atI_ints (h0 : 0 ≤ k) (h1 : k < ns.length) : atI (ns.map D.int) k = some (.int (nth ns k)) := by
  refine at_nat h0 ?_
  have hk : k.toNat < ns.length := by omega
  rw [List.getElem?_map, List.getElem?_eq_getElem hk]
  unfold nth
  rw [List.getD_eq_getElem?_getD, List.getElem?_eq_getElem hk]
  rfl
theorem ev_ixI (ha : Ev K .now ta e (.lst (ns.map D.int))) (hb : Ev K .now tb e (.int k)) (h0 : 0 ≤ k) (h1 : k < ns.length) : Ev K m (tOp (rIx K) ta tb) e (.int (nth ns k)) := Ev.sc (m1 := .now) (ev_op ha hb (rd_ixL (atI_ints h0 h1)))
theorem ev_ixIT (ha : Ev K .now ta e (.tup (ns.map D.int))) (hb : Ev K .now tb e (.int k)) (h0 : 0 ≤ k) (h1 : k < ns.length) : Ev K m (tOp (rIx K) ta tb) e (.int (nth ns k)) := Ev.sc (m1 := .now) (ev_op ha hb (rd_ixT (atI_ints h0 h1)))
theorem ev_ixL (ha : Ev K m ta e (.lst xs)) (hb : Ev K .now tb e (.int k)) (h : atI xs k = some d) : Ev K m (tOp (rIx K) ta tb) e d := ev_op ha hb (rd_ixL h)
theorem ev_ixT (ha : Ev K m ta e (.tup xs)) (hb : Ev K .now tb e (.int k)) (h : atI xs k = some d) : Ev K m (tOp (rIx K) ta tb) e d := ev_op ha hb (rd_ixT h)
/-! calls -/
theorem ev_abs (ha : Ev K .now ta e (.int i)) : Ev K m (tCB rAbs (tCons ta tNil)) e (.int (if i < 0 then -i else i)) := ev_cb (ea_cons ha ea_nil) rl_abs
theorem ev_max2 (ha : Ev K .now ta e (.int i)) (hb : Ev K .now tb e (.int j)) : Ev K m (tCB rMx2 (tCons ta (tCons tb tNil))) e (.int (max i j)) := ev_cb (ea_cons ha (ea_cons hb ea_nil)) rl_mx2
theorem ev_min2 (ha : Ev K .now ta e (.int i)) (hb : Ev K .now tb e (.int j)) : Ev K m (tCB rMn2 (tCons ta (tCons tb tNil))) e (.int (min i j)) := ev_cb (ea_cons ha (ea_cons hb ea_nil)) rl_mn2
theorem ev_intc (ha : Ev K .now ta e (.int i)) : Ev K m (tCB rIntC (tCons ta tNil)) e (.int i) := ev_cb (ea_cons ha ea_nil) rl_int
theorem ev_len (ha : Ev K .now ta e (.lst xs)) : Ev K m (tCB (rLenU K) (tCons ta tNil)) e (.int (xs.length : Nat)) := ev_cb (ea_cons ha ea_nil) rl_lenL
theorem ev_lenT (ha : Ev K .now ta e (.tup xs)) : Ev K m (tCB (rLenU K) (tCons ta tNil)) e (.int (xs.length : Nat)) := ev_cb (ea_cons ha ea_nil) rl_lenT
theorem ev_lenM {α : Type} {f : α → D} {as : List α} (ha : Ev K .now ta e (.lst (as.map f))) : Ev K m (tCB (rLenU K) (tCons ta tNil)) e (.int (as.length : Nat)) := by
  have h := ev_len (m := m) ha
  rwa [List.length_map] at h
theorem ev_lenTM {α : Type} {f : α → D} {as : List α} (ha : Ev K .now ta e (.tup (as.map f))) : Ev K m (tCB (rLenU K) (tCons ta tNil)) e (.int (as.length : Nat)) := by
  have h := ev_lenT (m := m) ha
  rwa [List.length_map] at h
theorem ev_sum (ha : Ev K .now ta e (.lst (ns.map D.int))) : Ev K m (tCB (rSum K) (tCons ta tNil)) e (.int ns.sum) := ev_cb (ea_cons ha ea_nil) rl_sum
theorem ev_isi {s c : String} (ha : Ev K .now ta e d) (h : tyD d = some s) (hk : kitB s c = some b) : Ev K m (tCB (rIsi K) (tCons ta (tCons (tC (.ty c)) tNil))) e (.bl b) := ev_cb (ea_cons ha (ea_cons (m := .now) ev_raw ea_nil)) (rl_isi h hk)
theorem ev_chain {r r' : R2} (ha : Ev K .now ta e d1) (hb : Ev K .now tb e d2) (hr : RD K .now .now .now r d1 d2 (.bl b)) (hc : b = true → Ev K .now tc e d ∧ RD K .now .now .now r' d2 d (.bl c)) : Ev K m (tChain r r' ta tb tc) e (.bl (b && c)) := Ev.up fun B T0 σ H T s Q q =>
  ha B T0 σ H T s _ fun x H1 T1 g1 i1 => hb B T0 σ H1 T1 (s.grow g1) _ fun y H2 T2 g2 i2 => by
    have s2 := (s.grow g1).grow g2
    refine hr B H2 T2 x y s2.gr.h g2.s (i1.mono g2.h g2.t) i2 _ fun z H3 T3 g3 i3 => ?_
    have i3' : Is K H3 z (.bl b) := i3
    cases i3'
    refine ⟨b, rfl, ?_⟩
    have s3 := s2.grow g3
    have g13 := (g1.trans g2).trans g3
    cases b with
    | true =>
      obtain ⟨hc, hr'⟩ := hc rfl
      show tc σ H3 _
      refine hc B T0 σ H3 T3 s3 _ fun w H4 T4 g4 i4 => ?_
      have s4 := s3.grow g4
      refine hr' B H4 T4 y w s4.gr.h g4.s ((i2.mono g3.h g3.t).mono g4.h g4.t) i4 _ fun z H5 T5 g5 i5 => ?_
      have i5' : Is K H5 z (.bl c) := i5
      cases i5'
      exact q _ H5 T5 ((g13.trans g4).trans g5) (.bl _)
    | false => exact q _ H3 T3 g13 (.bl false)
theorem et_yes : EvT K tYes e true := fun B T0 σ H T s Q q => q H T (Gr.refl s.gr.s)
/-! list(xs), tuple(xs) -/
theorem evo_list (ha : Ev K .dat ta e (.lst xs)) : EvO K (tCB (rListU K) (tCons ta tNil)) e (.lst xs) := ev_cbO (ea_cons ha ea_nil) rlo_list
theorem evo_listT (ha : Ev K .dat ta e (.tup xs)) : EvO K (tCB (rListU K) (tCons ta tNil)) e (.lst xs) := ev_cbO (ea_cons ha ea_nil) rlo_listT
theorem evo_listI (ha : Ev K .now ta e (.lst (ns.map D.int))) : EvO K (tCB (rListU K) (tCons ta tNil)) e (.lst (ns.map D.int)) := ev_cbO (ea_cons ha ea_nil) rlo_listI
theorem ev_tupI (ha : Ev K .now ta e (.lst (ns.map D.int))) : Ev K m (tCB (rTupU K) (tCons ta tNil)) e (.tup (ns.map D.int)) := ev_cb (ea_cons ha ea_nil) rl_tupI
theorem ev_tupL (ha : Ev K .dat ta e (.lst xs)) : Ev K m (tCB (rTupU K) (tCons ta tNil)) e (.tup xs) := ev_cb (ea_cons ha ea_nil) rl_tup
/-! statements again, with what a test says as a fact -/
theorem run_ifD {p : Prop} [Decidable p] (h : EvT K tt e (decide p)) (h1 : p → Run K E t e P) (h2 : ¬ p → Run K E u e P) : Run K E (tIfS tt t u) e P := run_if h (fun q => h1 (of_decide_eq_true q)) (fun q => h2 (of_decide_eq_false q))
theorem run_ifT (h : EvT K tt e true) (h1 : Run K E t e P) : Run K E (tIfS tt t u) e P := run_if h (fun _ => h1) (fun q => nomatch q)
theorem run_ifF (h : EvT K tt e false) (h1 : Run K E u e P) : Run K E (tIfS tt t u) e P := run_if h (fun q => nomatch q) (fun _ => h1)
theorem run_asgP {p : D → Prop} (h : EvP K te e p) (q : ∀ d, p d → P.nx (e.set n (.dat d))) : Run K E (tAsg te (gName n)) e P := fun B T0 σ H T D s f =>
  h B T0 σ H T s _ fun d v H1 T1 pd g i1 => f.nx _ _ H1 T1 (q d pd) ((s.grow g).set (m := .dat) (fun z => nomatch z) i1)
theorem run_retP {p : D → Prop} (h : EvP K te e p) (q : ∀ d, p d → P.rt d) : Run K E (tRet te) e P := fun B T0 σ H T D s f =>
  h B T0 σ H T s _ fun d v H1 T1 pd g i1 => f.rt d v H1 T1 (q d pd) (s.gr.trans g) i1
/-! slices -/
def EvS (K : PySem.W.Frag) (tp : TO) (e : En) (o : Option Int) : Prop := ∀ (B T0 : Hp) (σ : L2.St) (H T : Hp), Sat K B T0 e σ H T → ∀ Q : Option Int → Hp → Prop, (∀ H' T', Gr H T H' T' → Q o H') → tp σ H Q
theorem es_no : EvS K tNoPart e none := fun B T0 σ H T s Q q => q H T (Gr.refl s.gr.s)
theorem es_some (h : Ev K .now te e (.int i)) : EvS K (tPart te) e (some i) := fun B T0 σ H T s Q q => h B T0 σ H T s _ fun v H1 T1 g i1 => by
  have i2 := i1.now (s.gr.h.trans g.h) g.s
  cases i2
  exact ⟨i, rfl, q H1 T1 g⟩
/-- xs[lo:hi] -/
def cut {α : Type} (xs : List α) (lo hi : Option Int) : List α := (xs.drop (HT.sIx xs.length 0 lo)).take (HT.sIx xs.length xs.length hi - HT.sIx xs.length 0 lo)
theorem cut_iss {H : Hp} {vs : List V} {lo hi : Option Int} (h : Iss K H vs xs) : Iss K H (cutV vs lo hi) (cut xs lo hi) := by
  unfold cutV cut
  rw [h.length]
  exact (h.drop _).take _
theorem cut_map {α β : Type} (f : α → β) (xs : List α) (lo hi : Option Int) : cut (xs.map f) lo hi = (cut xs lo hi).map f := by
  unfold cut
  rw [List.length_map, List.map_take, List.map_drop]
theorem evo_slR {tl th : TO} {lo hi : Option Int} (ha : Ev K .now te e (.rol (ns.map D.int))) (hl : EvS K tl e lo) (hh : EvS K th e hi) : EvO K (tSl (rSlU K) te tl th) e (.lst ((cut ns lo hi).map D.int)) := fun B T0 σ H T s Q q =>
  ha B T0 σ H T s _ fun v H1 T1 g1 i1 => hl B T0 σ H1 T1 (s.grow g1) _ fun H2 T2 g2 => hh B T0 σ H2 T2 ((s.grow g1).grow g2) _ fun H3 T3 g3 => by
    have i2 : Is K H3 v _ := Is.mono (g2.h.trans g3.h) _ i1
    cases i2 with
    | @rol a vs _ hv iv =>
      have ev := iv.ints
      subst ev
      refine .inl ⟨a, _, rfl, hv, fun p hp => ?_⟩
      have g := (g1.trans g2).trans g3
      refine q p _ T3 (g.trans (Gr.own g3.s hp)) (g.h.back hp) (g3.s.back hp) ⟨_, upd_same, ?_⟩
      have := cut_iss (lo := lo) (hi := hi) (iss_ints (K := K) (H := T3) ns)
      rwa [cut_map] at this
theorem evo_slI {tl th : TO} {lo hi : Option Int} (ha : Ev K .now te e (.lst (ns.map D.int))) (hl : EvS K tl e lo) (hh : EvS K th e hi) : EvO K (tSl (rSlU K) te tl th) e (.lst ((cut ns lo hi).map D.int)) := fun B T0 σ H T s Q q =>
  ha B T0 σ H T s _ fun v H1 T1 g1 i1 => hl B T0 σ H1 T1 (s.grow g1) _ fun H2 T2 g2 => hh B T0 σ H2 T2 ((s.grow g1).grow g2) _ fun H3 T3 g3 => by
    have i2 : Is K H3 v _ := Is.mono (g2.h.trans g3.h) _ i1
    cases i2 with
    | @lst a vs _ hv iv =>
      have ev := iv.ints
      subst ev
      refine .inl ⟨a, _, rfl, SqL.of hv, fun p hp => ?_⟩
      have g := (g1.trans g2).trans g3
      refine q p _ T3 (g.trans (Gr.own g3.s hp)) (g.h.back hp) (g3.s.back hp) ⟨_, upd_same, ?_⟩
      have := cut_iss (lo := lo) (hi := hi) (iss_ints (K := K) (H := T3) ns)
      rwa [cut_map] at this
theorem evo_slL {tl th : TO} {lo hi : Option Int} (ha : Ev K .dat te e (.lst xs)) (hl : EvS K tl e lo) (hh : EvS K th e hi) : EvO K (tSl (rSlU K) te tl th) e (.lst (cut xs lo hi)) := fun B T0 σ H T s Q q =>
  ha B T0 σ H T s _ fun v H1 T1 g1 i1 => hl B T0 σ H1 T1 (s.grow g1) _ fun H2 T2 g2 => hh B T0 σ H2 T2 ((s.grow g1).grow g2) _ fun H3 T3 g3 => by
    have i2 : Is K T3 v _ := Is.mono (g2.t.trans g3.t) _ (show Is K T1 v _ from i1)
    cases i2 with
    | @lst a vs _ hv iv =>
      refine .inl ⟨a, _, rfl, SqL.of (g3.s _ _ hv), fun p hp => ?_⟩
      have g := (g1.trans g2).trans g3
      exact q p _ T3 (g.trans (Gr.own g3.s hp)) (g.h.back hp) (g3.s.back hp) ⟨_, upd_same, cut_iss iv⟩
theorem ev_slT {tl th : TO} {lo hi : Option Int} (ha : Ev K .dat te e (.tup xs)) (hl : EvS K tl e lo) (hh : EvS K th e hi) : Ev K m (tSl (rSlU K) te tl th) e (.tup (cut xs lo hi)) := Ev.up fun B T0 σ H T s Q q =>
  ha B T0 σ H T s _ fun v H1 T1 g1 i1 => hl B T0 σ H1 T1 (s.grow g1) _ fun H2 T2 g2 => hh B T0 σ H2 T2 ((s.grow g1).grow g2) _ fun H3 T3 g3 => by
    have i2 : Is K T3 v (.tup xs) := Is.mono (g2.t.trans g3.t) _ (show Is K T1 v _ from i1)
    have g := (g1.trans g2).trans g3
    cases id i2 with
    | @tup a vs _ hv iv =>
      refine .inr ⟨a, vs, rfl, g3.s.sqT hv, fun ⟨z1, z2⟩ => ?_, fun _ p hp => ?_⟩
      · have : cut xs lo hi = xs := by
          unfold cut
          rw [← iv.length, z1, z2, List.drop_zero, Nat.sub_zero, iv.length, List.take_length]
        exact q _ H3 T3 g (show Is K T3 _ _ by rw [this]; exact i2)
      · have g4 := Gr.new (o := .tup (cutV vs lo hi)) g3.s hp
        exact q _ _ _ (g.trans g4) (.tup (SqT.of upd_same) (Iss.mono g4.t _ (cut_iss iv)))
theorem atI_map {α : Type} {f : α → D} {as : List α} {a0 : α} (h0 : 0 ≤ k) (h1 : k < as.length) : atI (as.map f) k = some (f (as.getD k.toNat a0)) := by
  refine at_nat h0 ?_
  have hk : k.toNat < as.length := by omega
  rw [List.getElem?_map, List.getElem?_eq_getElem hk, List.getD_eq_getElem?_getD, List.getElem?_eq_getElem hk]
  rfl
end
end Fh

set_option Elab.async false
set_option linter.all false
set_option maxRecDepth 100000
set_option maxHeartbeats 4000000
/-! Fh, seventh part: the drawing helpers that every law has: _law_mixed, _law_pool, _law_same -/
namespace Fh
open PySem PySem.Spec PyProof.Rows L2
local macro_rules | `(tactic| walk_at "side") => `(tactic| first
  | assumption | decide | omega
  | exact ⟨by decide, by decide⟩ | exact ⟨by omega, by omega⟩ | exact Or.inl ⟨by omega, by omega⟩ | exact Or.inr ⟨by omega, by omega⟩
  | exact ⟨by decide, by decide, by decide⟩ | exact sz (by simp) | exact szl (by simp) | rfl)
local macro_rules | `(tactic| walk_at "ev") => `(tactic| first
  | exact ev_int
  | exact ev_bl
  | exact ev_str
  | exact ev_non
  | exact ev_dat rfl
  | exact ev_bor rfl
  | exact (ev_bor rfl).nw
  | exact ev_own rfl
  | exact (ev_bor rfl).sc
  | exact (ev_bor rfl).scB
  | exact (ev_bor rfl).scS
  | exact (ev_bor rfl).scN
  | (apply ev_addI; walk_at "ev"; walk_at "ev")
  | (apply ev_subI; walk_at "ev"; walk_at "ev")
  | (apply ev_ltI; walk_at "ev"; walk_at "ev")
  | (apply ev_leI; walk_at "ev"; walk_at "ev")
  | (apply ev_gtI; walk_at "ev"; walk_at "ev")
  | (apply ev_geI; walk_at "ev"; walk_at "ev")
  | (apply ev_eqI; walk_at "ev"; walk_at "ev")
  | (apply ev_neI; walk_at "ev"; walk_at "ev")
  | (apply ev_eqS; walk_at "ev"; walk_at "ev")
  | (apply ev_neS; walk_at "ev"; walk_at "ev")
  | (apply ev_eqL; walk_at "ev"; walk_at "ev")
  | (apply ev_neL; walk_at "ev"; walk_at "ev")
  | (apply ev_max2; walk_at "ev"; walk_at "ev")
  | (apply ev_min2; walk_at "ev"; walk_at "ev")
  | (apply ev_mulI; walk_at "ev"; walk_at "ev"; walk_at "side")
  | (apply ev_divI; walk_at "ev"; walk_at "ev"; walk_at "side")
  | (apply ev_modI; walk_at "ev"; walk_at "ev"; walk_at "side")
  | (apply ev_powI; walk_at "ev"; walk_at "ev"; walk_at "side")
  | (apply ev_negI; walk_at "ev")
  | (apply ev_abs; walk_at "ev")
  | (apply ev_intc; walk_at "ev")
  | (apply ev_lenM; walk_at "ev")
  | (apply ev_lenTM; walk_at "ev")
  | (apply ev_len; walk_at "ev")
  | (apply ev_lenT; walk_at "ev")
  | (apply ev_sum; walk_at "ev")
  | (apply ev_notV; walk_at "ev")
  | (apply ev_tupI; walk_at "ev")
  | (apply ev_is; walk_at "ev"; walk_at "ev"; rfl)
  | (apply ev_isN; walk_at "ev"; walk_at "ev"; rfl)
  | (apply ev_ixI; walk_at "ev"; walk_at "ev"; walk_at "side"; walk_at "side")
  | (apply ev_ixIT; walk_at "ev"; walk_at "ev"; walk_at "side"; walk_at "side")
  | (apply ev_andV; walk_at "ev"; (intro _; walk_at "ev"))
  | (apply ev_orV; walk_at "ev"; (intro _; walk_at "ev"))
  | (apply ev_tup; walk_at "ed"; walk_at "side")
  | exact ev_nil
  | (apply ev_lst; walk_at "ed"; walk_at "side")
  | (apply ev_isi; walk_at "ev"; rfl; decide +kernel))
local macro_rules | `(tactic| walk_at "ea") => `(tactic| first
  | exact ea_nil
  | (apply ea_cons; walk_at "ev"; walk_at "ea"))
local macro_rules | `(tactic| walk_at "ed") => `(tactic| first
  | exact ed_nil
  | (apply ed_cons; walk_at "ev"; walk_at "ed"))
local macro_rules | `(tactic| walk_at "et") => `(tactic| first
  | exact et_yes
  | (apply et_and; walk_at "et"; (intro _; walk_at "et"))
  | (apply et_or; walk_at "et"; (intro _; walk_at "et"))
  | (apply et_not; walk_at "et")
  | (refine et_test (m := .now) ?_; walk_at "ev")
  | (refine et_B (m := .now) ?_; walk_at "ev"))
local macro_rules | `(tactic| walk_at "asg") => `(tactic| (first
  | (refine run_seq ?_; apply run_asg; walk_at "ev"; dsimp only [List.set])
  | (apply run_asg; walk_at "ev"; dsimp only [List.set])))
def rd_l_mixed (K : PySem.W.Frag) : TS :=
  (tSeq (tAsg (tOp (rMod) (tCB (rIntC) (tCons (tOp (rPlus K) (tOp (rPlus K) (tOp (rTimes) (tVar 0) (tC (.int 48271))) (tOp (rTimes) (tVar 1) (tC (.int 69621)))) (tC (.int 11))) tNil)) (tC (.int 2147483647))) (gName 2))
  (tSeq (tAsg (tOp (rMod) (tCB (rIntC) (tCons (tOp (rPlus K) (tOp (rPlus K) (tOp (rTimes) (tVar 2) (tVar 2)) (tOp (rTimes) (tVar 1) (tC (.int 40692)))) (tC (.int 7))) tNil)) (tC (.int 2147483399))) (gName 3))
  (tRet (tOp (rMod) (tCB (rIntC) (tCons (tOp (rFdiv) (tVar 3) (tC (.int 7))) tNil)) (tC (.int 1000))))))
def rd_l_pool (K : PySem.W.Frag) (sp_l_mixed : Sp) : TS :=
  (tSeq (tAsg (tLc (iSeq K (tSl (rSlU K) (tVar 0) tNoPart (tPart (tC (.int 63))))) (gName 4) tYes (tCB (rAbs) (tCons (tCB (rIntC) (tCons (tVar 4) tNil)) tNil)) [4]) (gName 2))
  (tSeq (tIfS (tTest (tOp (rEqU K) (tVar 2) (tLst tNil))) (tAsg (tLst (tCons (tC (.int 0)) tNil)) (gName 2)) tNext)
  (tSeq (tAsg (tLst tNil) (gName 3))
  (tSeq (tFor (iSeq K (tVar 2)) (gName 4) (tSeq (tAsg (tLst tNil) (gName 7))
  (tSeq (tAsg (tVar 4) (gName 8))
  (tSeq (tIfS (tTest (tOp (rGe2) (tVar 4) (tOp (rPow) (tC (.int 10)) (tC (.int 18))))) (tFor (iRng1 (tCons (tC (.int 90)) tNil)) (gName 10) (tIfS (tTest (tOp (rGt2) (tVar 8) (tC (.int 0)))) (tSeq (tDrop (tBM K "list" rAppend (tVar 7) (tCons (tOp (rMod) (tCB (rIntC) (tCons (tVar 8) tNil)) (tC (.int 1000))) tNil)))
  (tAsg (tOp (rFdiv) (tVar 8) (tC (.int 1000))) (gName 8))) tNext)) tNext)
  (tDrop (tBM K "list" rAppend (tVar 3) (tCons (tVar 7) tNil)))))))
  (tSeq (tAsg (tLst tNil) (gName 5))
  (tSeq (tFor (iRng1 (tCons (tVar 1) tNil)) (gName 6) (tSeq (tAsg (tOp (rMod) (tCB (rIntC) (tCons (tVar 6) tNil)) (tCB (rLenU K) (tCons (tVar 2) tNil))) (gName 9))
  (tSeq (tAsg (tOp (rFdiv) (tVar 6) (tCB (rLenU K) (tCons (tVar 2) tNil))) (gName 10))
  (tIfS (tTest (tOp (rLt) (tVar 10) (tCB (rLenU K) (tCons (tOp (rIx K) (tVar 3) (tVar 9)) tNil)))) (tDrop (tBM K "list" rAppend (tVar 5) (tCons (tOp (rIx K) (tOp (rIx K) (tVar 3) (tVar 9)) (tVar 10)) tNil))) (tDrop (tBM K "list" rAppend (tVar 5) (tCons (tCall sp_l_mixed [] E0 (tCons (tOp (rPlus K) (tOp (rMod) (tCB (rIntC) (tCons (tOp (rIx K) (tVar 2) (tVar 9)) tNil)) (tC (.int 1000003))) (tOp (rTimes) (tC (.int 7919)) (tVar 9))) (tCons (tOp (rPlus K) (tVar 10) (tC (.int 1))) tNil))) tNil)))))))
  (tRet (tVar 5))))))))
def rd_l_same (K : PySem.W.Frag) (sp_l_same : Sp) : TS :=
  (tSeq (tIfS (tTest (tOp (rIsC) (tVar 1) (tC .non))) (tRet (tOp (rIsC) (tVar 0) (tC .non))) tNext)
  (tSeq (tIfS (tTest (tOp (rIsC) (tVar 1) (tC (.bl true)))) (tRet (tOp (rIsC) (tVar 0) (tC (.bl true)))) tNext)
  (tSeq (tIfS (tTest (tOp (rIsC) (tVar 1) (tC (.bl false)))) (tRet (tOp (rIsC) (tVar 0) (tC (.bl false)))) tNext)
  (tSeq (tIfS (tB (tCB (rIsi K) (tCons (tVar 1) (tCons (tC (.ty "int")) tNil)))) (tRet (tAndV (tCB (rIsi K) (tCons (tVar 0) (tCons (tC (.ty "int")) tNil))) (tAndV (tNotV (tCB (rIsi K) (tCons (tVar 0) (tCons (tC (.ty "bool")) tNil)))) (tOp (rEqU K) (tVar 0) (tVar 1))))) tNext)
  (tSeq (tIfS (tB (tCB (rIsi K) (tCons (tVar 1) (tCons (tC (.ty "str")) tNil)))) (tRet (tAndV (tCB (rIsi K) (tCons (tVar 0) (tCons (tC (.ty "str")) tNil))) (tOp (rEqU K) (tVar 0) (tVar 1)))) tNext)
  (tSeq (tIfS (tB (tCB (rIsi K) (tCons (tVar 1) (tCons (tC (.ty "tuple")) tNil)))) (tIfS (tOr (tNot (tB (tCB (rIsi K) (tCons (tVar 0) (tCons (tC (.ty "tuple")) tNil))))) (tTest (tOp (rNeU K) (tCB (rLenU K) (tCons (tVar 0) tNil)) (tCB (rLenU K) (tCons (tVar 1) tNil))))) (tRet (tC (.bl false))) tNext) (tIfS (tOr (tNot (tB (tCB (rIsi K) (tCons (tVar 0) (tCons (tC (.ty "list")) tNil))))) (tTest (tOp (rNeU K) (tCB (rLenU K) (tCons (tVar 0) tNil)) (tCB (rLenU K) (tCons (tVar 1) tNil))))) (tRet (tC (.bl false))) tNext))
  (tSeq (tFor (iRng1 (tCons (tCB (rLenU K) (tCons (tVar 1) tNil)) tNil)) (gName 2) (tIfS (tNot (tB (tCall sp_l_same [] E0 (tCons (tOp (rIx K) (tVar 0) (tVar 2)) (tCons (tOp (rIx K) (tVar 1) (tVar 2)) tNil))))) (tRet (tC (.bl false))) tNext))
  (tRet (tC (.bl true))))))))))
section
variable {K : PySem.W.Frag} {E : XK}
/-! ### _law_mixed -/
def mixed1 (n t : Int) : Int := (n * 48271 + t * 69621 + 11) % 2147483647
def mixed (n t : Int) : Int := ((mixed1 n t * mixed1 n t + t * 40692 + 7) % 2147483399 / 7) % 1000
theorem mixed_lt (n t : Int) : 0 ≤ mixed n t ∧ mixed n t < 1000 := by
  unfold mixed
  exact ⟨Int.emod_nonneg _ (by decide), Int.emod_lt_of_pos _ (by decide)⟩
def spMixed (K : PySem.W.Frag) : Sp := SpP K [.dat, .dat] (fun a : Int × Int => [.int a.1, .int a.2]) (fun _ => True) (fun a => .int (mixed a.1 a.2))
theorem run_mixed (n t : Int) : Run K E (rd_l_mixed K) (En0 [.dat, .dat] [.int n, .int t] 2) { nx := fun _ => D.non = .int (mixed n t), rt := fun d => d = .int (mixed n t) } := by
  unfold rd_l_mixed
  show Run K E _ [.dat (.int n), .dat (.int t), .no, .no] _
  walk_at "asg"
  have h0 : 0 ≤ mixed1 n t := Int.emod_nonneg _ (by decide)
  have h1 : mixed1 n t < 2147483647 := Int.emod_lt_of_pos _ (by decide)
  show Run K E _ [.dat (.int n), .dat (.int t), .dat (.int (mixed1 n t)), .no] _
  walk_at "asg"
  exact run_ret (by walk_at "ev") rfl
/-! ### _law_pool -/
def Unit1000 (ns : List Int) : Prop := ∀ x ∈ ns, 0 ≤ x ∧ x < 1000
theorem Unit1000.nil : Unit1000 [] := fun _ h => nomatch h
theorem Unit1000.snoc {ns : List Int} {x : Int} (h : Unit1000 ns) (h0 : 0 ≤ x) (h1 : x < 1000) : Unit1000 (ns ++ [x]) := fun y hy => by
  rcases List.mem_append.mp hy with q | q
  · exact h y q
  · rw [List.mem_singleton.mp q]; exact ⟨h0, h1⟩
theorem Unit1000.nth {ns : List Int} (h : Unit1000 ns) (k : Int) : 0 ≤ nth ns k ∧ nth ns k < 1000 := by
  unfold Fh.nth
  rw [List.getD_eq_getElem?_getD]
  cases q : ns[k.toNat]? with
  | none => exact ⟨by decide, by decide⟩
  | some x => exact h x (List.mem_of_getElem? q)
def rowD (r : List Int) : D := .lst (r.map D.int)
def spPool (K : PySem.W.Frag) : Sp := SpR K [.now, .dat] (fun a : List Int × Nat => [.rol (a.1.map D.int), .int (a.2 : Nat)]) (fun a => a.2 ≤ 100000) (fun a d => ∃ ns : List Int, d = rowD ns ∧ ns.length = a.2 ∧ Unit1000 ns)
def absI (i : Int) : Int := if i < 0 then -i else i
theorem filterMap_ints (f : Int → Int) (ns : List Int) : (ns.map D.int).filterMap (fun d => match d with | .int i => some (D.int (f i)) | _ => none) = (ns.map f).map D.int := by
  induction ns with
  | nil => rfl
  | cons n ns ih => simp only [List.map_cons, List.filterMap_cons, ih]
theorem get_ints {ns : List Int} {i : Nat} {d : D} (h : (ns.map D.int)[i]? = some d) : ∃ n, ns[i]? = some n ∧ d = .int n := by
  rw [List.getElem?_map] at h
  cases q : ns[i]? with
  | none => rw [q] at h; cases h
  | some n => rw [q] at h; exact ⟨n, rfl, (Option.some.inj h).symm⟩
theorem get_rg {lo : Int} {n i : Nat} {d : D} (h : (rgD lo n)[i]? = some d) : i < n ∧ d = .int (lo + (i : Nat)) := by
  have hi : i < n := by
    have := (List.getElem?_eq_some_iff.mp h).1
    rwa [rgD_len] at this
  rw [rgD_get hi] at h
  cases h
  exact ⟨hi, rfl⟩
theorem cut63 (ns : List Int) : (cut ns none (some 63)).length ≤ 63 := by
  unfold cut
  rw [List.length_take]
  have : HT.sIx ns.length ns.length (some 63) ≤ 63 := by
    rw [show (63 : Int) = ((63 : Nat) : Int) from rfl, HT.sIx_nat]
    omega
  omega
end
section
variable {K : PySem.W.Frag} {E : XK}
/-- one turn's digits -/
theorem run_pool (ns : List Int) (many : Nat) (hm : many ≤ 100000) :
    Run K E (rd_l_pool K (spMixed K)) (En0 [.now, .dat] [.rol (ns.map D.int), .int (many : Nat)] 9) { nx := fun _ => ∃ ms : List Int, D.non = rowD ms ∧ ms.length = many ∧ Unit1000 ms, rt := fun d => ∃ ms : List Int, d = rowD ms ∧ ms.length = many ∧ Unit1000 ms } := by
  unfold rd_l_pool
  show Run K E _ [.bor (.rol (ns.map D.int)), .dat (.int (many : Nat)), .no, .no, .no, .no, .no, .no, .no, .no, .no] _
  -- cells = [abs(int(cell)) for cell in script[:63]]
  have hc := cut63 ns
  obtain ⟨cs, hcs⟩ : ∃ cs, cs = (cut ns none (some 63)).map absI := ⟨_, rfl⟩
  have hlc : cs.length ≤ 63 := by rw [hcs, List.length_map]; exact hc
  refine run_seq (run_asg (d := rowD cs) ?_ ?_)
  · refine ((ev_lcO (m := .dat) (xs := (cut ns none (some 63)).map D.int) (fun d => match d with | .int i => some (D.int (absI i)) | _ => none) ?_ ?_ ?_).dat).is ?_
    · exact ei_lst (fun z => nomatch z) ((evo_slR (ev_bor rfl).nw es_no (es_some ev_int)).dat)
    · rw [List.length_map]; exact sz (by omega)
    · intro i d h
      obtain ⟨n, _, rfl⟩ := get_ints h
      exact ⟨_, tg_dat, .inl ⟨_, et_yes, rfl, by walk_at "ev"⟩⟩
    · rw [filterMap_ints, hcs]; rfl
  dsimp only [List.set]
  -- if cells == []: cells = [0]
  refine run_seqM (fun e => ∃ cs : List Int, 0 < cs.length ∧ cs.length ≤ 63 ∧ e = [.bor (.rol (ns.map D.int)), .dat (.int (many : Nat)), .dat (rowD cs), .no, .no, .no, .no, .no, .no, .no, .no]) ?_ ?_
  · refine run_ifD (p := cs = []) (et_test (m := .now) (ev_eqL (ns := cs) (ms := []) (ev_dat rfl) ev_nil)) (fun _ => ?_) (fun h => run_next ⟨cs, ?_, hlc, rfl⟩)
    · exact run_asg (d := rowD [0]) (ev_lst (ed_cons ev_int ed_nil) (by decide)) ⟨[0], by decide, by decide, rfl⟩
    · cases cs with
      | nil => exact absurd rfl h
      | cons a r => exact Nat.succ_pos _
  clear hcs hlc cs
  rintro _ ⟨cs, hc0, hc1, rfl⟩
  -- digits = []
  refine run_seq (run_asgO evo_nil ?_)
  dsimp only [List.set]
  -- for cell in cells: ..
  refine run_seq (run_for (m := .dat) (xs := cs.map D.int) (ei_lst (fun z => nomatch z) (ev_dat rfl))
    (fun i e => ∃ (ds : List (List Int)) (s4 s7 s8 s10 : Sl), ds.length = i ∧ (∀ r ∈ ds, Unit1000 r) ∧ e = [.bor (.rol (ns.map D.int)), .dat (.int (many : Nat)), .dat (rowD cs), .own (.lst (ds.map rowD)), s4, .no, .no, s7, s8, .no, s10])
    ⟨[], .no, .no, .no, .no, rfl, (fun _ h => nomatch h), rfl⟩ ?_ ?_)
  · rintro i _ _ hx ⟨ds, s4, s7, s8, s10, hl, hu, rfl⟩
    have hi : i < 63 := by
      have := (List.getElem?_eq_some_iff.mp hx).1
      rw [List.length_map] at this
      omega
    obtain ⟨cell, _, rfl⟩ := get_ints hx
    refine ⟨_, [4], tg_dat, ?_⟩
    dsimp only [List.set]
    -- row = []; rest = cell
    refine run_seq (run_asgO evo_nil ?_)
    dsimp only [List.set]
    walk_at "asg"
    refine run_seqM (fun e => ∃ (r : List Int) (s8 s10 : Sl), Unit1000 r ∧ e = [.bor (.rol (ns.map D.int)), .dat (.int (many : Nat)), .dat (rowD cs), .own (.lst (ds.map rowD)), .dat (.int cell), .no, .no, .own (.lst (r.map D.int)), s8, .no, s10]) ?_ ?_
    · refine run_ifD (p := (10 : Int) ^ (18 : Int).toNat ≤ cell) (by walk_at "et") (fun _ => ?_) (fun _ => run_next ⟨[], _, s10, Unit1000.nil, rfl⟩)
      refine run_for (m := .dat) (ei_rng1 (m := .dat) (ea_cons ev_int ea_nil) (by decide) (by decide))
        (fun j e => ∃ (r : List Int) (rest : Int) (s10 : Sl), r.length ≤ j ∧ Unit1000 r ∧ e = [.bor (.rol (ns.map D.int)), .dat (.int (many : Nat)), .dat (rowD cs), .own (.lst (ds.map rowD)), .dat (.int cell), .no, .no, .own (.lst (r.map D.int)), .dat (.int rest), .no, s10])
        ⟨[], cell, s10, Nat.le_refl _, Unit1000.nil, rfl⟩ ?_ ?_
      · rintro j _ _ hx ⟨r, rest, s10, hj, hr, rfl⟩
        obtain ⟨hj2, rfl⟩ := get_rg hx
        refine ⟨_, [10], tg_dat, ?_⟩
        dsimp only [List.set]
        refine run_ifD (p := 0 < rest) (by walk_at "et") (fun h => ?_) (fun _ => run_next ⟨r, rest, _, by omega, hr, rfl⟩)
        refine run_seq (run_app (d := .int (rest % 1000)) rfl (by walk_at "ev") (by rw [List.length_map]; exact szl (by have : (90 : Int).toNat = 90 := rfl; omega)) ?_)
        dsimp only [List.set]
        walk_at "asg"
        exact ⟨r ++ [rest % 1000], rest / 1000, _, by rw [List.length_append]; show r.length + 1 ≤ j + 1; omega, hr.snoc (Int.emod_nonneg _ (by decide)) (Int.emod_lt_of_pos _ (by decide)), by rw [List.map_append]; rfl⟩
      · rintro _ ⟨r, rest, s10, _, hr, rfl⟩
        exact ⟨r, _, _, hr, rfl⟩
    · rintro _ ⟨r, s8', s10', hr, rfl⟩
      -- digits.append(row)
      refine run_give (i := 7) rfl ?_
      dsimp only [List.set, OD.d]
      refine run_app (d := rowD r) rfl (ev_dat rfl) (by rw [List.length_map, hl]; exact szl (by omega)) ?_
      dsimp only [List.set]
      exact ⟨ds ++ [r], _, _, _, _, by rw [List.length_append, hl]; rfl, fun q hq => (List.mem_append.mp hq).elim (hu q) fun z => by rw [List.mem_singleton.mp z]; exact hr, by rw [List.map_append]; rfl⟩
  rintro _ ⟨ds, s4, s7, s8, s10, hl, hu, rfl⟩
  rw [List.length_map] at hl
  refine run_give (i := 3) rfl ?_
  dsimp only [List.set, OD.d]
  -- pool = []
  refine run_seq (run_asgO evo_nil ?_)
  dsimp only [List.set]
  refine run_seq (run_for (m := .dat) (ei_rng1 (m := .dat) (ea_cons (ev_dat rfl) ea_nil) (by omega) (by omega))
    (fun i e => ∃ (ps : List Int) (s6 s9 s10 : Sl), ps.length = i ∧ Unit1000 ps ∧ e = [.bor (.rol (ns.map D.int)), .dat (.int (many : Nat)), .dat (rowD cs), .dat (.lst (ds.map rowD)), s4, .own (.lst (ps.map D.int)), s6, s7, s8, s9, s10])
    ⟨[], _, _, _, rfl, Unit1000.nil, rfl⟩ ?_ ?_)
  · rintro i _ _ hx ⟨ps, s6, s9, s10, hp, hu2, rfl⟩
    obtain ⟨hi, rfl⟩ := get_rg hx
    have hi2 : i < 100000 := by omega
    refine ⟨_, [6], tg_dat, ?_⟩
    dsimp only [List.set]
    have hcl : (0 : Int) < (cs.length : Nat) := by omega
    walk_at "asg"
    walk_at "asg"
    obtain ⟨a, ha⟩ : ∃ a : Int, a = (0 + (i : Nat)) % (cs.length : Nat) := ⟨_, rfl⟩
    obtain ⟨t, ht⟩ : ∃ t : Int, t = (0 + (i : Nat)) / (cs.length : Nat) := ⟨_, rfl⟩
    rw [← ha, ← ht]
    have ha0 : 0 ≤ a := by rw [ha]; exact Int.emod_nonneg _ (by omega)
    have ha1 : a < (cs.length : Nat) := by rw [ha]; exact Int.emod_lt_of_pos _ hcl
    have ht0 : 0 ≤ t := by rw [ht]; exact Int.ediv_nonneg (by omega) (by omega)
    have hix : Ev K .dat (tOp (rIx K) (tVar 3) (tVar 9)) [.bor (.rol (ns.map D.int)), .dat (.int (many : Nat)), .dat (rowD cs), .dat (.lst (ds.map rowD)), s4, .own (.lst (ps.map D.int)), .dat (.int (0 + (i : Nat))), s7, s8, .dat (.int a), .dat (.int t)] (rowD (ds.getD a.toNat [])) :=
      ev_ixL (ev_dat rfl) (ev_dat rfl) (atI_map ha0 (by rw [hl]; exact ha1))
    have hrow : Unit1000 (ds.getD a.toNat []) := by
      rw [List.getD_eq_getElem?_getD]
      cases q : ds[a.toNat]? with
      | none => exact Unit1000.nil
      | some r => exact hu r (List.mem_of_getElem? q)
    generalize ds.getD a.toNat [] = row at hix hrow
    refine run_ifD (p := t < (row.length : Nat)) (et_test (m := .now) (ev_ltI (ev_dat rfl) (ev_lenM (f := D.int) hix.nw))) (fun h => ?_) (fun _ => ?_)
    · refine run_app (d := .int (nth row t)) rfl (ev_ixI hix.nw (ev_dat rfl) ht0 h) (by rw [List.length_map, hp]; exact szl hi2) ?_
      dsimp only [List.set]
      exact ⟨ps ++ [nth row t], _, _, _, by rw [List.length_append, hp]; rfl, hu2.snoc (hrow.nth t).1 (hrow.nth t).2, by rw [List.map_append]; rfl⟩
    · refine run_app (d := .int (mixed (nth cs a % 1000003 + 7919 * a) (t + 1))) rfl ?_ (by rw [List.length_map, hp]; exact szl hi2) ?_
      · exact ev_call (out := fun a : Int × Int => D.int (mixed a.1 a.2)) (nth cs a % 1000003 + 7919 * a, t + 1) trivial (by walk_at "ea")
      · dsimp only [List.set]
        exact ⟨ps ++ [mixed (nth cs a % 1000003 + 7919 * a) (t + 1)], _, _, _, by rw [List.length_append, hp]; rfl, hu2.snoc (mixed_lt _ _).1 (mixed_lt _ _).2, by rw [List.map_append]; rfl⟩
  rintro _ ⟨ps, s6, s9, s10', hp, hu2, rfl⟩
  rw [rgD_len] at hp
  exact run_retO (o := .lst (ps.map D.int)) rfl ⟨ps, rfl, by rw [hp]; omega, hu2⟩
end
/-! ### _law_same -/
theorem kb_NoneType_int : kitB "NoneType" "int" = some false := by decide +kernel
theorem kb_NoneType_bool : kitB "NoneType" "bool" = some false := by decide +kernel
theorem kb_NoneType_str : kitB "NoneType" "str" = some false := by decide +kernel
theorem kb_NoneType_list : kitB "NoneType" "list" = some false := by decide +kernel
theorem kb_NoneType_tuple : kitB "NoneType" "tuple" = some false := by decide +kernel
theorem kb_bool_int : kitB "bool" "int" = some true := by decide +kernel
theorem kb_bool_bool : kitB "bool" "bool" = some true := by decide +kernel
theorem kb_bool_str : kitB "bool" "str" = some false := by decide +kernel
theorem kb_bool_list : kitB "bool" "list" = some false := by decide +kernel
theorem kb_bool_tuple : kitB "bool" "tuple" = some false := by decide +kernel
theorem kb_int_int : kitB "int" "int" = some true := by decide +kernel
theorem kb_int_bool : kitB "int" "bool" = some false := by decide +kernel
theorem kb_int_str : kitB "int" "str" = some false := by decide +kernel
theorem kb_int_list : kitB "int" "list" = some false := by decide +kernel
theorem kb_int_tuple : kitB "int" "tuple" = some false := by decide +kernel
theorem kb_str_int : kitB "str" "int" = some false := by decide +kernel
theorem kb_str_bool : kitB "str" "bool" = some false := by decide +kernel
theorem kb_str_str : kitB "str" "str" = some true := by decide +kernel
theorem kb_str_list : kitB "str" "list" = some false := by decide +kernel
theorem kb_str_tuple : kitB "str" "tuple" = some false := by decide +kernel
theorem kb_list_int : kitB "list" "int" = some false := by decide +kernel
theorem kb_list_bool : kitB "list" "bool" = some false := by decide +kernel
theorem kb_list_str : kitB "list" "str" = some false := by decide +kernel
theorem kb_list_list : kitB "list" "list" = some true := by decide +kernel
theorem kb_list_tuple : kitB "list" "tuple" = some false := by decide +kernel
theorem kb_tuple_int : kitB "tuple" "int" = some false := by decide +kernel
theorem kb_tuple_bool : kitB "tuple" "bool" = some false := by decide +kernel
theorem kb_tuple_str : kitB "tuple" "str" = some false := by decide +kernel
theorem kb_tuple_list : kitB "tuple" "list" = some false := by decide +kernel
theorem kb_tuple_tuple : kitB "tuple" "tuple" = some true := by decide +kernel
mutual
/-- the same data, kinds and all -/
def sm : D → D → Bool
  | .non, .non => true
  | .bl a, .bl b => a == b
  | .int i, .int j => decide (i = j)
  | .str x, .str y => decide (x = y)
  | .tup as, .tup bs => sms as bs
  | .lst as, .lst bs => sms as bs
  | _, _ => false
def sms : List D → List D → Bool
  | [], [] => true
  | a :: as, b :: bs => sm a b && sms as bs
  | _, _ => false
end
mutual
theorem sm_eq : ∀ a b : D, sm a b = true → a = b
  | .non, b, h => by cases b <;> simp [sm] at h <;> rfl
  | .bl a, b, h => by cases b <;> simp [sm] at h; rw [h]
  | .int a, b, h => by cases b <;> simp [sm] at h; rw [h]
  | .str a, b, h => by cases b <;> simp [sm] at h; rw [h]
  | .tup as, .tup bs, h => by rw [sms_eq as bs (by simpa [sm] using h)]
  | .lst as, .lst bs, h => by rw [sms_eq as bs (by simpa [sm] using h)]
  | .tup as, .non, h => by simp [sm] at h
  | .tup as, .bl _, h => by simp [sm] at h
  | .tup as, .int _, h => by simp [sm] at h
  | .tup as, .str _, h => by simp [sm] at h
  | .tup as, .lst _, h => by simp [sm] at h
  | .tup as, .ins _ _, h => by simp [sm] at h
  | .tup as, .raw _, h => by simp [sm] at h
  | .tup as, .rol _, h => by simp [sm] at h
  | .lst as, .non, h => by simp [sm] at h
  | .lst as, .bl _, h => by simp [sm] at h
  | .lst as, .int _, h => by simp [sm] at h
  | .lst as, .str _, h => by simp [sm] at h
  | .lst as, .tup _, h => by simp [sm] at h
  | .lst as, .ins _ _, h => by simp [sm] at h
  | .lst as, .raw _, h => by simp [sm] at h
  | .lst as, .rol _, h => by simp [sm] at h
  | .ins _ _, b, h => by cases b <;> simp [sm] at h
  | .raw _, b, h => by cases b <;> simp [sm] at h
  | .rol _, b, h => by cases b <;> simp [sm] at h
theorem sms_eq : ∀ as bs : List D, sms as bs = true → as = bs
  | [], [], _ => rfl
  | [], _ :: _, h => by simp [sms] at h
  | _ :: _, [], h => by simp [sms] at h
  | a :: as, b :: bs, h => by
    have h2 : sm a b = true ∧ sms as bs = true := by simpa [sms] using h
    rw [sm_eq a b h2.1, sms_eq as bs h2.2]
end
mutual
theorem sm_refl : ∀ (n : Nat) (a : D), shp n a = true → sm a a = true
  | _, .non, _ => rfl
  | _, .bl _, _ => by simp [sm]
  | _, .int _, _ => by simp [sm]
  | _, .str _, _ => by simp [sm]
  | 0, .lst _, h => by simp [shp] at h
  | n + 1, .lst ds, h => by
    simp only [sm]
    exact sms_refl n ds (by simpa [shp] using h)
  | 0, .tup _, h => by simp [shp] at h
  | n + 1, .tup ds, h => by
    simp only [sm]
    exact sms_refl n ds (by simpa [shp] using h)
  | _, .raw _, h => by simp [shp] at h
  | _, .rol _, h => by simp [shp] at h
  | _, .ins _ _, h => by simp [shp] at h
theorem sms_refl : ∀ (n : Nat) (as : List D), shps n as = true → sms as as = true
  | _, [], _ => rfl
  | n, a :: as, h => by
    have h2 : shp n a = true ∧ shps n as = true := by simpa [shps] using h
    simp only [sms, sm_refl n a h2.1, sms_refl n as h2.2, Bool.and_self]
end
theorem shps_get : ∀ {n : Nat} {ds : List D} {i : Nat} {d : D}, shps n ds = true → ds[i]? = some d → shp n d = true
  | _, [], _, _, _, e => by simp at e
  | n, a :: ds, 0, d, h, e => by
    have h2 : shp n a = true ∧ shps n ds = true := by simpa [shps] using h
    simp at e
    rw [← e]; exact h2.1
  | n, a :: ds, i + 1, d, h, e => by
    have h2 : shp n a = true ∧ shps n ds = true := by simpa [shps] using h
    exact shps_get (i := i) h2.2 (by simpa using e)
theorem sms_len : ∀ {as bs : List D}, as.length ≠ bs.length → sms as bs = false
  | [], [], h => absurd rfl h
  | [], _ :: _, _ => by simp [sms]
  | _ :: _, [], _ => by simp [sms]
  | a :: as, b :: bs, h => by
    have := sms_len (as := as) (bs := bs) (fun q => h (by simp [q]))
    simp [sms, this]
theorem sms_at : ∀ {as bs : List D} {i : Nat} {a b : D}, as[i]? = some a → bs[i]? = some b → sm a b = false → sms as bs = false
  | [], _, _, _, _, e, _, _ => by simp at e
  | _ :: _, [], _, _, _, _, e, _ => by simp at e
  | x :: as, y :: bs, 0, a, b, e, e', h => by
    simp at e e'
    simp [sms, e, e', h]
  | x :: as, y :: bs, i + 1, a, b, e, e', h => by
    have := sms_at (as := as) (bs := bs) (i := i) (by simpa using e) (by simpa using e') h
    simp [sms, this]
theorem sms_all : ∀ {as bs : List D}, as.length = bs.length → (∀ (i : Nat) a b, as[i]? = some a → bs[i]? = some b → sm a b = true) → sms as bs = true
  | [], [], _, _ => rfl
  | [], _ :: _, h, _ => by simp at h
  | _ :: _, [], h, _ => by simp at h
  | a :: as, b :: bs, h, k => by
    have h0 := k 0 a b rfl rfl
    have := sms_all (as := as) (bs := bs) (by simpa using h) fun i x y e e' => k (i + 1) x y (by simpa using e) (by simpa using e')
    simp [sms, h0, this]
/-- data of any depth -/
def Pl (d : D) : Prop := ∃ n, shp n d = true
theorem Pl.item {ds : List D} {i : Nat} {d : D} (h : Pl (.lst ds)) (e : ds[i]? = some d) : Pl d := by
  obtain ⟨n, h⟩ := h
  cases n with
  | zero => simp [shp] at h
  | succ n => exact ⟨n, shps_get (by simpa [shp] using h) e⟩
theorem Pl.itemT {ds : List D} {i : Nat} {d : D} (h : Pl (.tup ds)) (e : ds[i]? = some d) : Pl d := by
  obtain ⟨n, h⟩ := h
  cases n with
  | zero => simp [shp] at h
  | succ n => exact ⟨n, shps_get (by simpa [shp] using h) e⟩
theorem Pl.isN {a : D} (h : Pl a) : isC a .non = some (sm a .non) := by
  obtain ⟨n, h⟩ := h
  cases a <;> first | rfl | (simp [shp] at h)
theorem Pl.isB {a : D} {b : Bool} (h : Pl a) : isC a (.bl b) = some (sm a (.bl b)) := by
  obtain ⟨n, h⟩ := h
  cases a <;> first | rfl | (simp [shp] at h)
def tyN : D → String
  | .non => "NoneType"
  | .bl _ => "bool"
  | .int _ => "int"
  | .str _ => "str"
  | .lst _ => "list"
  | .tup _ => "tuple"
  | _ => ""
theorem Pl.ty {a : D} (h : Pl a) : tyD a = some (tyN a) := by
  obtain ⟨n, h⟩ := h
  cases a <;> first | rfl | (simp [shp] at h)
mutual
/-- no list in it is longer than a range may be -/
def siz : D → Bool
  | .lst ds => decide (ds.length < 2 ^ 62) && sizs ds
  | .tup ds => decide (ds.length < 2 ^ 62) && sizs ds
  | _ => true
def sizs : List D → Bool
  | [] => true
  | d :: ds => siz d && sizs ds
end
theorem sizs_get : ∀ {ds : List D} {i : Nat} {d : D}, sizs ds = true → ds[i]? = some d → siz d = true
  | [], _, _, _, e => by simp at e
  | a :: ds, 0, d, h, e => by
    have h2 : siz a = true ∧ sizs ds = true := by simpa [sizs] using h
    simp at e
    rw [← e]; exact h2.1
  | a :: ds, i + 1, d, h, e => by
    have h2 : siz a = true ∧ sizs ds = true := by simpa [sizs] using h
    exact sizs_get (i := i) h2.2 (by simpa using e)
theorem sizs_ints : ∀ ns : List Int, sizs (ns.map D.int) = true
  | [] => rfl
  | _ :: ns => by simp [sizs, siz, sizs_ints ns]
def spSame (K : PySem.W.Frag) (n : Nat) : Sp := SpP K [.now, .now] (fun p : D × D => [p.1, p.2]) (fun p => shp n p.2 = true ∧ Pl p.1 ∧ siz p.2 = true) (fun p => .bl (sm p.1 p.2))
section
variable {K : PySem.W.Frag} {E : XK}
theorem atI_at {xs : List D} {i : Nat} {d : D} (h : xs[i]? = some d) : atI xs (0 + (i : Nat)) = some d := by
  rw [Int.zero_add]; exact atI_nat h
theorem ev_isi' {e : En} {m : Md} {te : TE} {d : D} {c : String} {b : Bool} (ha : Ev K .now te e d) (h : Pl d) (hk : kitB (tyN d) c = some b) : Ev K m (tCB (rIsi K) (tCons te (tCons (tC (.ty c)) tNil))) e (.bl b) := ev_isi ha h.ty hk
theorem run_same_loop {n : Nat} {a d : D} {as ds : List D} (hn : shps n ds = true) (hl : as.length = ds.length) (hz : ds.length < 2 ^ 62) (hsz : sizs ds = true) (ha : ∀ (i : Nat) x, as[i]? = some x → Pl x)
    (ia : ∀ (s : Sl) (i : Nat) x, as[i]? = some x → Ev K .now (tOp (rIx K) (tVar 0) (tVar 2)) [.bor a, .bor d, .dat (.int (0 + (i : Nat)))] x)
    (id_ : ∀ (s : Sl) (i : Nat) x, ds[i]? = some x → Ev K .now (tOp (rIx K) (tVar 1) (tVar 2)) [.bor a, .bor d, .dat (.int (0 + (i : Nat)))] x)
    (il : Ev K .now (tCB (rLenU K) (tCons (tVar 1) tNil)) [.bor a, .bor d, .no] (.int (ds.length : Nat))) :
    Run K E (tSeq (tFor (iRng1 (tCons (tCB (rLenU K) (tCons (tVar 1) tNil)) tNil)) (gName 2) (tIfS (tNot (tB (tCall (spSame K n) [] E0 (tCons (tOp (rIx K) (tVar 0) (tVar 2)) (tCons (tOp (rIx K) (tVar 1) (tVar 2)) tNil))))) (tRet (tC (.bl false))) tNext))
      (tRet (tC (.bl true)))) [.bor a, .bor d, .no] { nx := fun _ => D.non = .bl (sms as ds), rt := fun q => q = .bl (sms as ds) } := by
  refine run_seq (run_for (m := .dat) (ei_rng1 (m := .now) (ea_cons il ea_nil) (by omega) (by omega))
    (fun k e => (∀ (i : Nat) x y, i < k → as[i]? = some x → ds[i]? = some y → sm x y = true) ∧ ∃ s : Sl, e = [.bor a, .bor d, s]) ⟨fun i _ _ h => absurd h (Nat.not_lt_zero i), _, rfl⟩ ?_ ?_)
  · rintro k _ _ hx ⟨hk, s, rfl⟩
    obtain ⟨hk2, rfl⟩ := get_rg hx
    have hk3 : k < ds.length := by omega
    refine ⟨_, [2], tg_dat, ?_⟩
    dsimp only [List.set]
    obtain ⟨x, hxa⟩ : ∃ x, as[k]? = some x := ⟨_, List.getElem?_eq_getElem (by omega)⟩
    obtain ⟨y, hya⟩ : ∃ y, ds[k]? = some y := ⟨_, List.getElem?_eq_getElem hk3⟩
    have hc : Ev K .now (tCall (spSame K n) [] E0 (tCons (tOp (rIx K) (tVar 0) (tVar 2)) (tCons (tOp (rIx K) (tVar 1) (tVar 2)) tNil))) [.bor a, .bor d, .dat (.int (0 + (k : Nat)))] (.bl (sm x y)) :=
      ev_call (out := fun p : D × D => D.bl (sm p.1 p.2)) (x, y) ⟨shps_get hn hya, ha k x hxa, sizs_get hsz hya⟩ (ea_cons (ia s k x hxa) (ea_cons (id_ s k y hya) ea_nil))
    refine run_if (et_not (et_B hc)) (fun h => ?_) (fun h => run_next ⟨fun i u v hi hu hv => ?_, _, rfl⟩)
    · have h2 : sm x y = false := by simpa using h
      exact run_ret ev_bl (by rw [sms_at hxa hya h2])
    · by_cases q : i = k
      · subst q
        rw [hxa] at hu; rw [hya] at hv
        cases hu; cases hv
        simpa using h
      · exact hk i u v (by omega) hu hv
  · rintro _ ⟨hk, s, rfl⟩
    rw [rgD_len] at hk
    refine run_ret ev_bl ?_
    rw [sms_all hl fun i x y hx hy => hk i x y (by have := (List.getElem?_eq_some_iff.mp hy).1; omega) hx hy]
theorem run_same (n : Nat) (sp : Sp) (hsp : ∀ m, n = m + 1 → sp = spSame K m) (a d : D) (hd : shp n d = true) (ha : Pl a) (hz : siz d = true) :
    Run K E (rd_l_same K sp) (En0 [.now, .now] [a, d] 1) { nx := fun _ => D.non = .bl (sm a d), rt := fun q => q = .bl (sm a d) } := by
  unfold rd_l_same
  show Run K E _ [.bor a, .bor d, .no] _
  have pd : Pl d := ⟨n, hd⟩
  have v0 : ∀ s : Sl, Ev K .now (tVar 0) [.bor a, .bor d, s] a := fun s => (ev_bor rfl).nw
  have v1 : ∀ s : Sl, Ev K .now (tVar 1) [.bor a, .bor d, s] d := fun s => (ev_bor rfl).nw
  cases d with
  | raw v => simp [shp] at hd
  | rol v => simp [shp] at hd
  | abs v => simp [shp] at hd
  | ins C fs => simp [shp] at hd
  | non => exact run_seq (run_ifT (et_test (m := .now) (ev_is (v1 _) ev_non rfl)) (run_ret (ev_is (v0 _) ev_non ha.isN) rfl))
  | bl b =>
    refine run_seq (run_ifF (et_test (m := .now) (ev_is (v1 _) ev_non rfl)) (run_next ?_))
    cases b with
    | true => exact run_seq (run_ifT (et_test (m := .now) (ev_is (v1 _) ev_bl rfl)) (run_ret (ev_is (v0 _) ev_bl ha.isB) rfl))
    | false =>
      refine run_seq (run_ifF (et_test (m := .now) (ev_is (v1 _) ev_bl rfl)) (run_next ?_))
      exact run_seq (run_ifT (et_test (m := .now) (ev_is (v1 _) ev_bl rfl)) (run_ret (ev_is (v0 _) ev_bl ha.isB) rfl))
  | int j =>
    refine run_seq (run_ifF (et_test (m := .now) (ev_is (v1 _) ev_non rfl)) (run_next ?_))
    refine run_seq (run_ifF (et_test (m := .now) (ev_is (v1 _) ev_bl rfl)) (run_next ?_))
    refine run_seq (run_ifF (et_test (m := .now) (ev_is (v1 _) ev_bl rfl)) (run_next ?_))
    refine run_seq (run_ifT (et_B (m := .now) (ev_isi' (v1 _) pd kb_int_int)) ?_)
    cases a with
    | int i => exact run_ret (ev_andV (m1 := .now) (ev_isi' (v0 _) ha kb_int_int) fun _ => ev_andV (m1 := .now) (ev_notV (m1 := .now) (ev_isi' (v0 _) ha kb_int_bool)) fun _ => ev_eqI (v0 _) (v1 _)) rfl
    | bl b => exact run_ret (ev_andV (m1 := .now) (ev_isi' (v0 _) ha kb_bool_int) fun _ => ev_andV (c := false) (m1 := .now) (ev_notV (m1 := .now) (ev_isi' (b := true) (v0 _) ha kb_bool_bool)) fun z => nomatch z) rfl
    | non => exact run_ret (ev_andV (m1 := .now) (c := false) (ev_isi' (b := false) (v0 _) ha kb_NoneType_int) fun z => nomatch z) rfl
    | str x => exact run_ret (ev_andV (m1 := .now) (c := false) (ev_isi' (b := false) (v0 _) ha kb_str_int) fun z => nomatch z) rfl
    | lst x => exact run_ret (ev_andV (m1 := .now) (c := false) (ev_isi' (b := false) (v0 _) ha kb_list_int) fun z => nomatch z) rfl
    | tup x => exact run_ret (ev_andV (m1 := .now) (c := false) (ev_isi' (b := false) (v0 _) ha kb_tuple_int) fun z => nomatch z) rfl
    | raw v => obtain ⟨_, h⟩ := ha; simp [shp] at h
    | rol v => obtain ⟨_, h⟩ := ha; simp [shp] at h
    | abs v => obtain ⟨_, h⟩ := ha; simp [shp] at h
    | ins C fs => obtain ⟨_, h⟩ := ha; simp [shp] at h
  | str y =>
    refine run_seq (run_ifF (et_test (m := .now) (ev_is (v1 _) ev_non rfl)) (run_next ?_))
    refine run_seq (run_ifF (et_test (m := .now) (ev_is (v1 _) ev_bl rfl)) (run_next ?_))
    refine run_seq (run_ifF (et_test (m := .now) (ev_is (v1 _) ev_bl rfl)) (run_next ?_))
    refine run_seq (run_ifF (et_B (m := .now) (ev_isi' (v1 _) pd kb_str_int)) (run_next ?_))
    refine run_seq (run_ifT (et_B (m := .now) (ev_isi' (v1 _) pd kb_str_str)) ?_)
    cases a with
    | str i => exact run_ret (ev_andV (m1 := .now) (ev_isi' (v0 _) ha kb_str_str) fun _ => ev_eqS (v0 _) (v1 _)) rfl
    | bl b => exact run_ret (ev_andV (m1 := .now) (c := false) (ev_isi' (b := false) (v0 _) ha kb_bool_str) fun z => nomatch z) rfl
    | non => exact run_ret (ev_andV (m1 := .now) (c := false) (ev_isi' (b := false) (v0 _) ha kb_NoneType_str) fun z => nomatch z) rfl
    | int x => exact run_ret (ev_andV (m1 := .now) (c := false) (ev_isi' (b := false) (v0 _) ha kb_int_str) fun z => nomatch z) rfl
    | lst x => exact run_ret (ev_andV (m1 := .now) (c := false) (ev_isi' (b := false) (v0 _) ha kb_list_str) fun z => nomatch z) rfl
    | tup x => exact run_ret (ev_andV (m1 := .now) (c := false) (ev_isi' (b := false) (v0 _) ha kb_tuple_str) fun z => nomatch z) rfl
    | raw v => obtain ⟨_, h⟩ := ha; simp [shp] at h
    | rol v => obtain ⟨_, h⟩ := ha; simp [shp] at h
    | abs v => obtain ⟨_, h⟩ := ha; simp [shp] at h
    | ins C fs => obtain ⟨_, h⟩ := ha; simp [shp] at h
  | tup ds =>
    refine run_seq (run_ifF (et_test (m := .now) (ev_is (v1 _) ev_non rfl)) (run_next ?_))
    refine run_seq (run_ifF (et_test (m := .now) (ev_is (v1 _) ev_bl rfl)) (run_next ?_))
    refine run_seq (run_ifF (et_test (m := .now) (ev_is (v1 _) ev_bl rfl)) (run_next ?_))
    refine run_seq (run_ifF (et_B (m := .now) (ev_isi' (v1 _) pd kb_tuple_int)) (run_next ?_))
    refine run_seq (run_ifF (et_B (m := .now) (ev_isi' (v1 _) pd kb_tuple_str)) (run_next ?_))
    refine run_seq (run_ifT (et_B (m := .now) (ev_isi' (v1 _) pd kb_tuple_tuple)) ?_)
    cases a with
    | tup as =>
      refine run_if (et_or (et_not (et_B (m := .now) (ev_isi' (b := true) (v0 _) ha kb_tuple_tuple))) fun _ => et_test (m := .now) (ev_neI (ev_lenT (v0 _)) (ev_lenT (v1 _)))) (fun h => ?_) (fun h => run_next ?_)
      · have h2 : as.length ≠ ds.length := by
          have h3 : ((as.length : Nat) : Int) ≠ (ds.length : Nat) := by simpa using h
          omega
        exact run_ret ev_bl (by show D.bl false = .bl (sms as ds); rw [sms_len h2])
      · have h2 : as.length = ds.length := by
          have h3 : ((as.length : Nat) : Int) = (ds.length : Nat) := by simpa using h
          omega
        cases n with
        | zero => simp [shp] at hd
        | succ n =>
          rw [hsp n rfl]
          exact run_same_loop (n := n) (by simpa [shp] using hd) h2 (by simp [siz] at hz; omega) (by simp [siz] at hz; exact hz.2) (fun i x e => ha.itemT e) (fun s i x e => ev_op (m2 := .now) (v0 _) (ev_dat rfl) (rd_ixT (atI_at e))) (fun s i x e => ev_op (m2 := .now) (v1 _) (ev_dat rfl) (rd_ixT (atI_at e))) (ev_lenT (v1 _))
    | bl b => exact run_ifT (et_or (c := true) (et_not (et_B (m := .now) (ev_isi' (b := false) (v0 _) ha kb_bool_tuple))) fun z => nomatch z) (run_ret ev_bl rfl)
    | non => exact run_ifT (et_or (c := true) (et_not (et_B (m := .now) (ev_isi' (b := false) (v0 _) ha kb_NoneType_tuple))) fun z => nomatch z) (run_ret ev_bl rfl)
    | int x => exact run_ifT (et_or (c := true) (et_not (et_B (m := .now) (ev_isi' (b := false) (v0 _) ha kb_int_tuple))) fun z => nomatch z) (run_ret ev_bl rfl)
    | lst x => exact run_ifT (et_or (c := true) (et_not (et_B (m := .now) (ev_isi' (b := false) (v0 _) ha kb_list_tuple))) fun z => nomatch z) (run_ret ev_bl rfl)
    | str x => exact run_ifT (et_or (c := true) (et_not (et_B (m := .now) (ev_isi' (b := false) (v0 _) ha kb_str_tuple))) fun z => nomatch z) (run_ret ev_bl rfl)
    | raw v => obtain ⟨_, h⟩ := ha; simp [shp] at h
    | rol v => obtain ⟨_, h⟩ := ha; simp [shp] at h
    | abs v => obtain ⟨_, h⟩ := ha; simp [shp] at h
    | ins C fs => obtain ⟨_, h⟩ := ha; simp [shp] at h
  | lst ds =>
    refine run_seq (run_ifF (et_test (m := .now) (ev_is (v1 _) ev_non rfl)) (run_next ?_))
    refine run_seq (run_ifF (et_test (m := .now) (ev_is (v1 _) ev_bl rfl)) (run_next ?_))
    refine run_seq (run_ifF (et_test (m := .now) (ev_is (v1 _) ev_bl rfl)) (run_next ?_))
    refine run_seq (run_ifF (et_B (m := .now) (ev_isi' (v1 _) pd kb_list_int)) (run_next ?_))
    refine run_seq (run_ifF (et_B (m := .now) (ev_isi' (v1 _) pd kb_list_str)) (run_next ?_))
    refine run_seq (run_ifF (et_B (m := .now) (ev_isi' (v1 _) pd kb_list_tuple)) ?_)
    cases a with
    | lst as =>
      refine run_if (et_or (et_not (et_B (m := .now) (ev_isi' (b := true) (v0 _) ha kb_list_list))) fun _ => et_test (m := .now) (ev_neI (ev_len (v0 _)) (ev_len (v1 _)))) (fun h => ?_) (fun h => run_next ?_)
      · have h2 : as.length ≠ ds.length := by
          have h3 : ((as.length : Nat) : Int) ≠ (ds.length : Nat) := by simpa using h
          omega
        exact run_ret ev_bl (by show D.bl false = .bl (sms as ds); rw [sms_len h2])
      · have h2 : as.length = ds.length := by
          have h3 : ((as.length : Nat) : Int) = (ds.length : Nat) := by simpa using h
          omega
        cases n with
        | zero => simp [shp] at hd
        | succ n =>
          rw [hsp n rfl]
          exact run_same_loop (n := n) (by simpa [shp] using hd) h2 (by simp [siz] at hz; omega) (by simp [siz] at hz; exact hz.2) (fun i x e => ha.item e) (fun s i x e => ev_op (m2 := .now) (v0 _) (ev_dat rfl) (rd_ixL (atI_at e))) (fun s i x e => ev_op (m2 := .now) (v1 _) (ev_dat rfl) (rd_ixL (atI_at e))) (ev_len (v1 _))
    | bl b => exact run_ifT (et_or (c := true) (et_not (et_B (m := .now) (ev_isi' (b := false) (v0 _) ha kb_bool_list))) fun z => nomatch z) (run_ret ev_bl rfl)
    | non => exact run_ifT (et_or (c := true) (et_not (et_B (m := .now) (ev_isi' (b := false) (v0 _) ha kb_NoneType_list))) fun z => nomatch z) (run_ret ev_bl rfl)
    | int x => exact run_ifT (et_or (c := true) (et_not (et_B (m := .now) (ev_isi' (b := false) (v0 _) ha kb_int_list))) fun z => nomatch z) (run_ret ev_bl rfl)
    | tup x => exact run_ifT (et_or (c := true) (et_not (et_B (m := .now) (ev_isi' (b := false) (v0 _) ha kb_tuple_list))) fun z => nomatch z) (run_ret ev_bl rfl)
    | str x => exact run_ifT (et_or (c := true) (et_not (et_B (m := .now) (ev_isi' (b := false) (v0 _) ha kb_str_list))) fun z => nomatch z) (run_ret ev_bl rfl)
    | raw v => obtain ⟨_, h⟩ := ha; simp [shp] at h
    | rol v => obtain ⟨_, h⟩ := ha; simp [shp] at h
    | abs v => obtain ⟨_, h⟩ := ha; simp [shp] at h
    | ins C fs => obtain ⟨_, h⟩ := ha; simp [shp] at h
end
end Fh

set_option Elab.async false
set_option linter.all false
set_option maxRecDepth 100000
set_option maxHeartbeats 4000000
/-! Fh: what the head tells, by truth values of the written part; defs by any path -/
namespace Fh
open PySem PySem.Spec PyProof.Rows L2

/-! ### places -/
abbrev gA (K : PySem.W.Frag) (x : Str) : Addr := He.ga K x
abbrev mA (K : PySem.W.Frag) (C m : Str) : Addr := He.ma K (He.ga K C) m
/-- the first entry of the record at p: a property's getter, a static method's def -/
def r0 (K : PySem.W.Frag) (p : Addr) : Addr := match K.lookup p with
  | some o => (match o.data with
    | .fields vs => (match vs.toList with
      | .ref g :: _ => g
      | _ => 0)
    | _ => 0)
  | none => 0
abbrev qA (K : PySem.W.Frag) (C m : Str) : Addr := r0 K (mA K C m)
/-! ### defs -/
structure Dq where
  place : PySem.W.Frag → Addr
  nm : Str
  qn : Str
  pr : Arguments
  bd : List Stmt
  sc : Scope
  dv : PySem.W.Frag → List V
  kw : PySem.W.Frag → List (Str × V)
abbrev Fv : Type := Option (Str × Str × Arguments × FuncBody × Scope × Addr × List (Str × Addr) × Addr)
def fv (K : PySem.W.Frag) (a : Addr) : Fv := (K.lookup a).bind fun o => match o.data with
  | .func g => some (g.name, g.qualname, g.params, g.body, g.scope, g.globals, g.closure, g.builtins)
  | _ => none
def Dq.is (d : Dq) : Fv := some (d.nm, d.qn, d.pr, .stmts d.bd, d.sc, mainGlobals, [], builtinsNs)
def Dq.rest (K : PySem.W.Frag) (d : Dq) : Bool := PySem.W.keepIn K (.ref (d.place K)) && (match K.lookup (d.place K) with
  | some o => (match o.data with
    | .func g => PySem.W.codeIn K g.code d.qn && (He.dflB K g.defaults (d.dv K) && He.kwdB K g.kwdefaults (d.kw K))
    | _ => false)
  | none => false)
theorem Dq.fun_ {K : PySem.W.Frag} {d : Dq} (e : fv K (d.place K) = d.is) (c : d.rest K = true) : ∃ fd, FunD K d.nm d.qn d.pr d.bd d.sc (d.dv K) (d.kw K) (d.place K) fd := by
  unfold Dq.rest at c
  obtain ⟨kp, c⟩ := Bool.and_eq_true_iff.mp c
  unfold fv at e
  cases q : K.lookup (d.place K) with
  | none => rw [q] at c; cases c
  | some o =>
    rw [q] at c e
    obtain ⟨oc, od, dt, osl⟩ := o
    cases dt with
    | func g =>
      obtain ⟨n1, n2, n3, n4, n5, n6, n7, n8, n9, n10, n11, n12, n13, n14, n15⟩ := g
      have e2 : (some (n1, n2, n3, n4, n5, n6, n7, n15) : Fv) = d.is := e
      unfold Dq.is at e2
      injection e2 with e2
      injection e2 with a1 e2
      injection e2 with a2 e2
      injection e2 with a3 e2
      injection e2 with a4 e2
      injection e2 with a5 e2
      injection e2 with a6 e2
      injection e2 with a7 a8
      subst a1 a2 a3 a4 a5 a6 a7 a8
      obtain ⟨k1, k2⟩ := Bool.and_eq_true_iff.mp (show (PySem.W.codeIn K n13 d.qn && (He.dflB K n8 (d.dv K) && He.kwdB K n9 (d.kw K))) = true from c)
      obtain ⟨k3, k4⟩ := Bool.and_eq_true_iff.mp k2
      exact ⟨_, ⟨oc, od, n8, n9, n10, n11, n12, n13, n14, osl, rfl, q, k1, He.dflB_ok k3, He.kwdB_ok k4⟩, kp⟩
    | _ => cases c
/-! ### the hook -/
abbrev Ob : Type := Bool × List Fv
def see (fa : List (PySem.W.Frag → Bool)) (fn : List Dq) (K : PySem.W.Frag) : Ob := ((fa.all fun f => f K) && fn.all fun d => d.rest K, fn.map fun d => fv K (d.place K))
def due (fn : List Dq) : Ob := (true, fn.map Dq.is)
def Tells (fa : List (PySem.W.Frag → Bool)) (fn : List Dq) (K : PySem.W.Frag) : Prop := see fa fn K = due fn
def seeG (n : Nat) (fa : List (PySem.W.Frag → Bool)) (fn : List Dq) (g : Addr → Option Obj) : Ob := see fa fn (He.frG g (He.asD g n))
def hookQ (n : Nat) (fa : List (PySem.W.Frag → Bool)) (fn : List Dq) : PySem.W.Hook where
  α := Ob
  obs := fun s => seeG n fa fn s.heap.get?
  val := fun _ => due fn
  says := fun _ h => ∃ K : PySem.W.Frag, K.In h ∧ Tells fa fn K
  of := fun _ _ e => ⟨_, He.frG_in, e⟩
  keeps := fun _ _ _ ⟨K, hK, c⟩ k => ⟨K, PySem.W.Frag.In.keeps hK k, c⟩
theorem seeG_eq {n : Nat} {fa : List (PySem.W.Frag → Bool)} {fn : List Dq} {g : Addr → Option Obj} {s : Shared} (h : ∀ a, g a = s.heap.get? a) : seeG n fa fn g = (hookQ n fa fn).obs s := by
  obtain rfl : g = s.heap.get? := funext h
  rfl
section
variable {fa : List (PySem.W.Frag → Bool)} {fn : List Dq} {K : PySem.W.Frag}
theorem Tells.at (c : Tells fa fn K) (i : Nat) {f : PySem.W.Frag → Bool} (h : fa[i]? = some f := by rfl) : f K = true := by
  have e : ((fa.all fun f => f K) && fn.all fun d => d.rest K) = true := congrArg Prod.fst c
  exact List.all_eq_true.mp (Bool.and_eq_true_iff.mp e).1 f (List.mem_of_getElem? h)
theorem Tells.fun_ (c : Tells fa fn K) (i : Nat) {d : Dq} (h : fn[i]? = some d := by rfl) : ∃ fd, FunD K d.nm d.qn d.pr d.bd d.sc (d.dv K) (d.kw K) (d.place K) fd := by
  have e : ((fa.all fun f => f K) && fn.all fun d => d.rest K) = true := congrArg Prod.fst c
  have e2 : fn.map (fun d => fv K (d.place K)) = fn.map Dq.is := congrArg Prod.snd c
  have e3 := congrArg (fun l => l[i]?) e2
  simp only [List.getElem?_map, h, Option.map_some, Option.some.injEq] at e3
  exact Dq.fun_ e3 (List.all_eq_true.mp (Bool.and_eq_true_iff.mp e).2 d (List.mem_of_getElem? h))
end
end Fh

set_option Elab.async false
set_option linter.all false
set_option maxRecDepth 100000
set_option maxHeartbeats 4000000
/-! Fh: own exceptions as values: made, their fields read, isinstance -/
namespace Fh
open PySem PySem.Spec PyProof.Rows L2

/-- the j-th statement of a class -/
def mem (st : Stmt) (j : Nat) : Stmt := match st with
  | .ClassDef (body := l) .. => l.getD j (.Pass ⟨0, 0, 0, 0⟩)
  | other => other
/-- a method as it stands behind the top -/
def DdM (K : PySem.W.Frag) (a : Addr) (nm qn : Str) (st : Stmt) (dvs : List V) (kws : List (Str × V)) : Prop := ∃ fd, FunD K nm qn (defArgs st) (defBody st) (defScope st) dvs kws a fd

/-! ### what the written part says of an exception class -/
structure XC (K : PySem.W.Frag) (C : Addr) : Prop where
  o : OexC K C
  e : ExcC K C
def xcB (K : PySem.W.Frag) (C : Addr) : Bool :=
  ((match K.lookup C with
    | some ob => ob.cls == .type "type" && (match ob.data with
      | .cls cd => (cd.hasDict && !cd.hasDel) && (match cd.mro, ob.slots.toList with
        | mh :: bm, [_, _, _, _, some mk, _] => (mh == .ref C && mk == .builtin "ValueError.__new__") && PySem.HandSPX.refsVE bm
        | _, _ => false)
      | _ => false)
    | none => false) &&
  (decide (PySem.W.findIn K (.ref C) "__setattr__" = some (some (.builtin "object.__setattr__"))) &&
  (decide (PySem.W.subIn K (.ref C) (.type "BaseException") = some true) &&
  (decide (PySem.W.typeIn K (.ref C) = some (.type "type")) && PySem.W.keepIn K (.ref C))))) &&
  ((decide (PySem.W.findIn K (.ref C) "__getattribute__" = some (some (.builtin "BaseException.__getattribute__"))) &&
  decide (PySem.W.findIn K (.ref C) "__getattr__" = some none)) &&
  ((PySem.W.hasDictIn K C && decide (PySem.W.findIn K (.ref C) "__class__" = some (some (.builtin "object.__class__")))) &&
  (decide (PySem.W.specialIn K (.builtin "object.__class__") "__get__" = some (some (.builtin "getset_descriptor.__get__"))) &&
  (decide (PySem.W.takesIn K (.builtin "object.__class__") = some true) && decide (PySem.W.mroIn K C (.type "object") = some true)))))
theorem and2 {a b : Bool} (h : (a && b) = true) : a = true ∧ b = true := Bool.and_eq_true_iff.mp h
theorem xcB_ok {K : PySem.W.Frag} {C : Addr} (h : xcB K C = true) : XC K C := by
  obtain ⟨h1, h2⟩ := and2 h
  obtain ⟨hl, h1⟩ := and2 h1
  obtain ⟨hs, h1⟩ := and2 h1
  obtain ⟨he, h1⟩ := and2 h1
  obtain ⟨ht, hk⟩ := and2 h1
  obtain ⟨h3, h2⟩ := and2 h2
  obtain ⟨hg, hgg⟩ := and2 h3
  obtain ⟨h4, h2⟩ := and2 h2
  obtain ⟨hd, hc⟩ := and2 h4
  obtain ⟨hn, h2⟩ := and2 h2
  obtain ⟨htk, hm⟩ := and2 h2
  refine ⟨⟨?_, of_decide_eq_true hs, of_decide_eq_true he, of_decide_eq_true ht, hk⟩, ⟨of_decide_eq_true hg, of_decide_eq_true hgg, of_decide_eq_true he, hd, of_decide_eq_true hc, of_decide_eq_true hn, of_decide_eq_true htk, of_decide_eq_true hm⟩⟩
  cases q : K.lookup C with
  | none => rw [q] at hl; cases hl
  | some ob =>
    rw [q] at hl
    obtain ⟨oc, od, dt, osl⟩ := ob
    obtain ⟨h5, hl⟩ := and2 hl
    cases dt with
    | cls cd =>
      obtain ⟨h6, hl⟩ := and2 hl
      obtain ⟨h7, h8⟩ := and2 h6
      obtain ⟨nm, bs, mro, ns, qn, hd', sn, sub, ab, col, del⟩ := cd
      obtain ⟨sl⟩ := osl
      dsimp only at h7 h8 hl
      split at hl
      · rename_i mh bm k0 k1 k2 k3 mk k5 _ _
        obtain ⟨h9, h10⟩ := and2 hl
        obtain ⟨h11, h12⟩ := and2 h9
        obtain rfl := beq_iff_eq.mp h11
        obtain rfl := beq_iff_eq.mp h12
        obtain rfl := beq_iff_eq.mp h5
        subst h7
        have h8 : del = false := by simpa using h8
        subst h8
        exact ⟨nm, qn, ns, bs, bm, sn, sub, ab, col, od, k0, k1, k2, k3, k5, rfl, h10⟩
      · cases hl
    | _ => cases hl
/-- made by its own __init__ -/
structure XM (K : PySem.W.Frag) (mg : Str → Option Value) (x : Str) (C fI : Addr) : Prop where
  c : XC K C
  g : mg x = some (.ref C)
  i : PySem.W.findIn K (.ref C) "__init__" = some (some (.ref fI))
  t : PySem.W.typeIn K (.ref fI) = some (.type "function")
/-- made without one -/
structure XN (K : PySem.W.Frag) (mg : Str → Option Value) (x : Str) (C : Addr) : Prop where
  c : XC K C
  g : mg x = some (.ref C)
  i : ∃ bm, PySem.W.excIn K C bm "ValueError.__new__" = true ∧ bm = He.veBase

/-! ### the objects -/
def ExH (K : PySem.W.Frag) (C : Addr) (fs : List (Str × D)) (H : Hp) (v : V) : Prop := ∃ a d fvs, v = .ref a ∧ H a = some (exo a C (some d)) ∧ H d = some (exd d fvs) ∧ Isf K H fvs fs
def excD (K : PySem.W.Frag) (C : Addr) (fs : List (Str × D)) : D := .abs (ExH K C fs)
def ExH0 (C : Addr) (H : Hp) (v : V) : Prop := ∃ a, v = .ref a ∧ H a = some (ExO (.ref C) a)
def excD0 (C : Addr) : D := .abs (ExH0 C)
theorem ExH.mono {K : PySem.W.Frag} {C : Addr} {fs : List (Str × D)} {H H' : Hp} {v : V} (e : Le H H') (h : ExH K C fs H v) : ExH K C fs H' v := by
  obtain ⟨a, d, fvs, rfl, h1, h2, h3⟩ := h
  exact ⟨a, d, fvs, rfl, e _ _ h1, e _ _ h2, Isf.mono e _ h3⟩
theorem is_exc {K : PySem.W.Frag} {C : Addr} {fs : List (Str × D)} {H : Hp} {v : V} (h : ExH K C fs H v) : Is K H v (excD K C fs) := .abs fun _ e => h.mono e
theorem is_exc0 {K : PySem.W.Frag} {C : Addr} {H : Hp} {v : V} (h : ExH0 C H v) : Is K H v (excD0 C) := .abs fun _ e => by
  obtain ⟨a, rfl, h⟩ := h
  exact ⟨a, rfl, e _ _ h⟩
theorem exc_is {K : PySem.W.Frag} {C : Addr} {fs : List (Str × D)} {H : Hp} {v : V} (h : Is K H v (excD K C fs)) : ExH K C fs H v := by
  unfold excD at h
  cases h with
  | abs h => exact h H (Le.refl H)
theorem exc0_is {K : PySem.W.Frag} {C : Addr} {H : Hp} {v : V} (h : Is K H v (excD0 C)) : ExH0 C H v := by
  unfold excD0 at h
  cases h with
  | abs h => exact h H (Le.refl H)

/-! ### __init__ -/
def spX1 (C : Addr) (f : Str) : Sp := fun vs H Q _ => ∃ a y, vs = [.ref a, y] ∧ H a = some (exo a C none) ∧ ∀ d, H d = none → d ≠ a → Q .non (upd (upd H d (exd d [(f, y)])) a (exo a C (some d)))
def spX2 (C : Addr) (f g : Str) : Sp := fun vs H Q _ => ∃ a y z, vs = [.ref a, y, z] ∧ H a = some (exo a C none) ∧ ∀ d, H d = none → d ≠ a → Q .non (upd (upd H d (exd d [(g, z), (f, y)])) a (exo a C (some d)))
section
variable {P : Program} {w : World} {K : PySem.W.Frag} {mg : Str → Option Value} {base : Heap} {C fI : Addr} {fd : FuncData} {nm qn : Str} {st : Stmt} {N ps : List Str} {f g : Str} {p1 p2 : Str}
theorem ok_x1 (F : FunD K nm qn (defArgs st) (defBody st) (defScope st) [] [] fI fd) (S : FnScope ["self", p1] ["self", p1] (defScope st)) (c : XC K C) (n1 : NoAttr K C f)
    (tm : ∀ (cdv : Value) (A : Around) (outer : List Env) (s : Shared) (H : Hp) (E : XK), PSs (cxOf CX0 P w K mg base ["self", p1] qn (defScope st) fI cdv A outer s H E).nox (defBody st) (tOst K f (tVar 0) (tVar 1))) :
    FnOk P w K mg base CX0 1 fI fd ["self", p1] (spX1 C f) := by
  refine F.ok S (fun vs H Q E h => ?_) (fun cdv A outer s H vs Q E hr h => ⟨_, (tm cdv A outer s H E).nox, ?_⟩)
  · obtain ⟨a, y, rfl, _⟩ := h
    rfl
  · obtain ⟨a, y, rfl, ha, q⟩ := h
    exact ⟨y, rfl, .ref a, rfl, a, C, rfl, c.o, n1, .inl ⟨ha, fun d hd hne => q d hd hne⟩⟩
theorem ok_x2 (F : FunD K nm qn (defArgs st) (defBody st) (defScope st) [] [] fI fd) (S : FnScope ["self", p1, p2] ["self", p1, p2] (defScope st)) (c : XC K C) (n1 : NoAttr K C f) (n2 : NoAttr K C g)
    (tm : ∀ (cdv : Value) (A : Around) (outer : List Env) (s : Shared) (H : Hp) (E : XK), PSs (cxOf CX0 P w K mg base ["self", p1, p2] qn (defScope st) fI cdv A outer s H E).nox (defBody st) (tSeq (tOst K f (tVar 0) (tVar 1)) (tOst K g (tVar 0) (tVar 2)))) :
    FnOk P w K mg base CX0 1 fI fd ["self", p1, p2] (spX2 C f g) := by
  refine F.ok S (fun vs H Q E h => ?_) (fun cdv A outer s H vs Q E hr h => ⟨_, (tm cdv A outer s H E).nox, ?_⟩)
  · obtain ⟨a, y, z, rfl, _⟩ := h
    rfl
  · obtain ⟨a, y, z, rfl, ha, q⟩ := h
    refine ⟨y, rfl, .ref a, rfl, a, C, rfl, c.o, n1, .inl ⟨ha, fun d hd hne => ?_⟩⟩
    refine ⟨z, rfl, .ref a, rfl, a, C, rfl, c.o, n2, .inr ⟨d, [(f, y)], upd_same, by rw [upd_ne hne, upd_same], (show 1 ≤ 900 by decide), ?_⟩⟩
    have e : upd (upd (upd H d (exd d [(f, y)])) a (exo a C (some d))) d (exd d [(g, z), (f, y)]) = upd (upd H d (exd d [(g, z), (f, y)])) a (exo a C (some d)) := by
      funext b
      by_cases h1 : b = d
      · subst h1; rw [upd_same, upd_ne hne, upd_same]
      · by_cases h2 : b = a
        · subst h2; rw [upd_ne h1, upd_same, upd_same]
        · rw [upd_ne h1, upd_ne h2, upd_ne h1, upd_ne h2, upd_ne h1]
    rw [e]
    exact q d hd hne
end

/-! ### C(..) as an expression -/
def tMkX (C : Addr) (sp : Sp) (ta : TA) : TE := fun σ H Q => ta σ H fun vs H1 => vs.length ≤ 1000 ∧ ∀ a, H1 a = none → sp (.ref a :: vs) (upd H1 a (exo a C none)) (fun v H2 => v = .non ∧ Q (.ref a) H2) E0
def tMkX0 (C : Addr) : TE := fun σ H Q => ∀ a, H a = none → Q (.ref a) (upd H a (ExO (.ref C) a))
/-- an exception's call by its __init__ -/
structure DX (P : Program) (w : World) (K : PySem.W.Frag) (mg : Str → Option Value) (base : Heap) (x : Str) (C : Addr) (sp : Sp) : Prop where
  ex : ∃ (fI : Addr) (fd : FuncData) (ps : List Str), FnOk P w K mg base CX0 1 fI fd ps sp ∧ XM K mg x C fI ∧ Binds K fd ps []
section
variable {X : Cx} {C : Addr} {sp : Sp} {x : Str} {e : Expr} {es : List Expr} {p pos : Pos} {ta : TA}
theorem pe_mkX (G : DX X.prog X.w X.K X.mg X.base x C sp) (hr : Room 2 X.A) (hg : Gl X x) (ha : PA X (e :: es) ta) (hdb : (x == ("__debug__" : Str)) = false := by decide)
    (he : starEach (e :: es) X.env = (false, eval e X.env) :: starEach es X.env := by rfl) (hpl : (backTo pos (starEach es X.env)).any (·.1) = false := by rfl) :
    PE X (.Call (.Name x p) (e :: es) [] pos) (tMkX C sp ta) := by
  obtain ⟨fI, fd, ps, Fn, M, hb⟩ := G.ex
  obtain ⟨nm, q, N, bs, bm, sn, sub, ab, col, dd, k0, k1, k2, k3, k5, hC, hbm⟩ := M.c.o.cls
  refine ⟨fun pins s σ H Q I h => ?_⟩
  refine wpAny_Call_Name_kw (ld_glob I hg M.g ?_ hdb)
  refine PySem.W.callWith_K (h₀ := X.base) I.ok.mod.kin M.c.o.kC (thn (ha.run pos pins s σ H _ I h) fun us s1 y => ?_) he hpl
  obtain ⟨vs, H1, I1, r1, hz, q1⟩ := y
  refine ⟨I1.kIn, ?_⟩
  show wpAny _ _ (call (.ref C) us) _ _ _
  obtain ⟨hp, g, dr, tk, os⟩ := s1
  have hn : H1 (hp.objs.size + 1) = none := I1.hok.fresh (Nat.le_succ _)
  have hq := q1 (hp.objs.size + 1) hn
  have I2 : Inv X pins σ (upd H1 (hp.objs.size + 1) (exo (hp.objs.size + 1) C none)) ⟨(hp.push (PySem.W.kdv_tup us)).push (PySem.HandSPX.excO C hp.objs.size), g, dr, tk, os⟩ := I1.laid (t' := tk) (a := hp.objs.size + 1) (o := exo (hp.objs.size + 1) C none) (h' := (hp.push (PySem.W.kdv_tup us)).push (PySem.HandSPX.excO C hp.objs.size))
    (fun b o z => Heap.get?_push_of_some _ (Heap.get?_push_of_some _ z)) (Nat.le_succ _) (exo_ok (by heap_get))
  have r2 : Vals (V.ref (hp.objs.size + 1) :: (vs ++ [])) (Value.ref (hp.objs.size + 1) :: (us ++ [])) := .cons rfl (r1.append .nil)
  rw [List.append_nil, List.append_nil] at r2
  have hl : (Value.ref (hp.objs.size + 1) :: us).length = ps.length := by
    rw [← Fn.len _ _ _ _ hq]
    exact r2.length.symm
  have hus : us.length ≤ sizeLine := by
    rw [← Paired.length r1, sizeLine_eq]
    omega
  refine wpAny_call (PySem.HandSPX.call_own PySem.F.excBase_ValueError (fun Y => PySem.HandSPX.refsVE_contains Y bm hbm) (I1.kIn _ _ hC) (PySem.W.looks_findIn I1.kIn M.i) (fun self => PySem.W.bind_fn I1.kIn self M.t) hus
    (codeAny_mono (Fn.run _ X.stack _ _ ⟨Value.ref (hp.objs.size + 1) :: us, []⟩ (Value.ref (hp.objs.size + 1) :: us) _ _ E0 (hr.make C us []) (I2.env0.make C us []) (by
      have := hb _ (Value.ref (hp.objs.size + 1) :: us) I2.kIn (by simpa using hl)
      simpa using this) r2 hq) fun r s' hq' => ?_))
  cases r with
  | error er => exact pass0 pins σ _ _ er s' I2 hq'
  | ok fl =>
    cases fl with
    | ret u =>
      obtain ⟨v, H', I3, rv, ev, q3⟩ := I2.after hq'
      subst ev
      exact ⟨rv, ⟨.ref (hp.objs.size + 1), H', I3, rfl, q3⟩⟩
    | next => exact False.elim hq'
    | brk => exact False.elim hq'
    | cont => exact False.elim hq'
theorem pe_mkX0 (M : XN X.K X.mg x C) (hg : Gl X x) (hdb : (x == ("__debug__" : Str)) = false := by decide) : PE X (.Call (.Name x p) [] [] pos) (tMkX0 C) := by
  obtain ⟨bb, hi, rfl⟩ := M.i
  refine ⟨fun pins s σ H Q I h => ?_⟩
  refine wpAny_Call_Name_kw (ld_glob I hg M.g ?_ hdb)
  refine PySem.W.callWith_K0 I.kIn M.c.o.kC ?_
  show wpAny _ _ (call (.ref C) []) _ _ _
  obtain ⟨bm, N, nm, qn, bs, hdct, sn, sub, ab, col, dd, k0, k1, k2, k3, k5, mN, hC, hN, hni, T⟩ := exc_obj I.kIn hi
  obtain ⟨hp, g, dr, tk, os⟩ := s
  refine wpAny_call_exc_subT PySem.F.excBase_ValueError T hC hN hni (fun h' a hm => ?_) (Nat.zero_le _)
  have hn : H a = none := I.hok.gone hm.new
  obtain ⟨t, ht, _, _⟩ := hm.there
  exact ⟨.ref a, upd H a (ExO (.ref C) a), I.laidN hm.keeps hm.new hn (exO_ok ht ⟨rfl, rfl⟩ rfl rfl rfl (show 4 < 6 by decide)), rfl, h a hn⟩
end

/-! ### e.f of an instance or of an exception; isinstance -/
def rAt (K : PySem.W.Frag) (f : Str) (x : V) (H : Hp) (Q : VK) : Prop :=
  (∃ a C dx fs v, x = .ref a ∧ H a = some (.ins C dx fs) ∧ (Cls K C ∧ NoAttr K C f) ∧ fs.lookup f = some v ∧ Q v H) ∨
  ∃ a C d fvs v, x = .ref a ∧ (XC K C ∧ NoAttr K C f) ∧ H a = some (exo a C (some d)) ∧ H d = some (exd d fvs) ∧ fvs.lookup f = some v ∧ Q v H
def tAt (K : PySem.W.Frag) (te : TE) (f : Str) : TE := fun σ H Q => te σ H fun x H1 => rAt K f x H1 Q
/-- what the look at an exception's own dict needs -/
theorem exo_inst {X : Cx} {pins : List (Addr × Obj)} {σ : L2.St} {H : Hp} {s : Shared} {a C d : Addr} {fvs : List (Str × V)} (I : Inv X pins σ H s) (ha : H a = some (exo a C (some d))) (hd : H d = some (exd d fvs)) :
    ∃ (ox od : Obj) (m : Str → Option Value), PySem.W.InstAt s.heap a ox C (some od) ∧ (∀ f, PySem.W.lookIn f od = some (m f)) ∧ ∀ f, RelO (fvs.lookup f) (m f) := by
  obtain ⟨t1, ho⟩ := exo_at I.hok ha
  obtain ⟨m, hns, r⟩ := exd_at I.hok hd
  obtain ⟨o, h1, l⟩ := lookIn_ns hns
  exact ⟨_, o, m, ⟨ho, rfl, rfl, h1⟩, l, r⟩
section
variable {X : Cx} {C : Addr} {e : Expr} {f : Str} {pos : Pos} {te : TE}
theorem pe_at (he : PE X e te) (hb : attributeBase e f X.env (eval e X.env) = eval e X.env := by rfl) : PE X (.Attribute e f pos) (tAt X.K te f) := by
  refine ⟨fun pins s σ H Q I h => ?_⟩
  refine attr_of hb (thn (he.run pins s σ H _ I h) fun u s1 y => ?_)
  obtain ⟨x, H1, I1, rx, y⟩ := y
  rcases y with ⟨a, C, dx, fs, v, rfl, ea, c, l, q⟩ | ⟨a, C, d, fvs, v, rfl, c, ea, ed, l, q⟩
  · cases rx
    exact getattr_ok I1 ea c.1 c.2 l fun u' s2 I2 ru => ⟨v, H1, I2, ru, q⟩
  · cases rx
    obtain ⟨ox, od, m, J, hl, hr⟩ := exo_inst I1 ea ed
    obtain ⟨u, hu, ru⟩ := RelO.some_of (v := v) (o := m f) (by rw [← l]; exact hr f)
    exact HandSPX.exc_get I1.kIn J c.1.e.hg c.1.e.hk c.1.e.hs (PySem.W.findObj_own c.1.e.hd c.2 rfl (by rw [hl f, hu])) (handed_of ru) ⟨v, H1, I1.tok _, ru, q⟩
/-- x is an exception of the class at C -/
def ExA (C : Addr) (x : V) (H : Hp) : Prop := ∃ a, x = .ref a ∧ ((∃ d fvs, H a = some (exo a C (some d)) ∧ H d = some (exd d fvs)) ∨ H a = some (ExO (.ref C) a))
theorem exa_kit {pins : List (Addr × Obj)} {σ : L2.St} {H : Hp} {s : Shared} {x : V} {u : Value} (I : Inv X pins σ H s) (c : XC X.K C) (h : ExA C x H) (r : RelV x u) :
    ∃ P : Heap → Prop, PySem.W.KitX X.K u (.ref C) P ∧ P s.heap ∧ u ≠ .builtin "__main__.__loader__#opaque" := by
  obtain ⟨a, rfl, h⟩ := h
  cases r
  have hc : (PySem.W.clsIn X.K C).isSome = true := by
    obtain ⟨cd, h1, _⟩ := PySem.W.any_some c.e.hd
    rw [h1]; rfl
  rcases h with ⟨d, fvs, ea, ed⟩ | ea
  · obtain ⟨ox, od, m, J, _, _⟩ := exo_inst I ea ed
    exact ⟨_, PySem.W.kitx_exc (ox := ox) (od := some od) hc c.e.hg c.e.hk c.e.hs c.e.ha c.e.hn c.e.ht c.e.hm, J, fun z => nomatch z⟩
  · obtain ⟨⟨oe, vs, ho, hz, hd, _⟩, _, _⟩ := I.hok a _ ea
    have J : PySem.W.InstAt s.heap a oe C none := by
      obtain ⟨oc, odc, oda, osl⟩ := oe
      obtain ⟨h1, h2⟩ := hz
      dsimp only at h1 h2 hd
      subst h1 h2 hd
      exact ⟨ho, rfl, rfl, trivial⟩
    exact ⟨_, PySem.W.kitx_exc (ox := oe) (od := none) hc c.e.hg c.e.hk c.e.hs c.e.ha c.e.hn c.e.ht c.e.hm, J, fun z => nomatch z⟩
def rIsiX (K : PySem.W.Frag) : List V → Hp → VK → Prop := fun xs H Q => ∃ (x c : V) (C : Addr) (u : Value) (b : Bool), xs = [x, c] ∧ ClsV c u ∧ XC K C ∧ ExA C x H ∧ PySem.W.kitOne K (.ref C) u = some b ∧ Q (.bl b) H
theorem call_isiX : CallR X (.builtin "isinstance") (rIsiX X.K) := by
  intro pins s σ H xs us Q I r h
  obtain ⟨x, c, C, u, b, rfl, k, xc, ex, hk, q⟩ := h
  obtain ⟨u1, u2, rfl, r1, r2⟩ := vals2 r
  obtain rfl := k.eq r2
  obtain ⟨P, Z, p, hx⟩ := exa_kit I xc ex r1
  exact PySem.W.kia_one Z I.kIn p hk hx fun tk => ⟨.bl b, H, I.tok tk, rfl, q⟩
def rIsiU (K : PySem.W.Frag) : List V → Hp → VK → Prop := fun xs H Q => rIsi K xs H Q ∨ rIsiX K xs H Q
theorem call_isiU : CallR X (.builtin "isinstance") (rIsiU X.K) := call_isi.or call_isiX
end

/-! ### what they are worth -/
section
variable {K : PySem.W.Frag} {e : En} {d d1 d2 : D} {m m1 m2 : Md} {te : TE} {ta : TA} {C : Addr} {f g : Str} {fs : List (Str × D)} {b : Bool}
theorem gr_exc {H T : Hp} {a dd : Addr} {fvs : List (Str × V)} (s : Le T H) (ha : H a = none) (hd : H dd = none) (hne : dd ≠ a) :
    Gr H T (upd (upd H dd (exd dd fvs)) a (exo a C (some dd))) (upd (upd T dd (exd dd fvs)) a (exo a C (some dd))) :=
  (Gr.new s hd).trans (Gr.new (Gr.new s hd).s (by rw [upd_ne hne.symm]; exact ha))
theorem upd_over {H : Hp} {a dd : Addr} {u v w : HO} (hne : dd ≠ a) : upd (upd (upd H a u) dd w) a v = upd (upd H dd w) a v := by
  funext b
  by_cases h1 : b = a
  · subst h1; rw [upd_same, upd_same]
  · rw [upd_ne h1, upd_ne h1]
    by_cases h2 : b = dd
    · subst h2; rw [upd_same, upd_same]
    · rw [upd_ne h2, upd_ne h2, upd_ne h1]
theorem ev_mkX1 (h : EvD K ta e [d1]) : Ev K m (tMkX C (spX1 C f) ta) e (excD K C [(f, d1)]) := Ev.up fun B T0 σ H T s Q q => h B T0 σ H T s _ fun vs H1 T1 g1 i1 => by
  have i := i1.iss
  cases i with
  | @cons v _ _ _ ia i2 =>
    cases i2
    refine ⟨by simp, fun a ha => ⟨a, v, rfl, upd_same, fun dd hd hne => ⟨rfl, ?_⟩⟩⟩
    rw [upd_ne hne] at hd
    rw [upd_over hne]
    have g2 := gr_exc (C := C) (fvs := [(f, v)]) g1.s ha hd hne
    exact q _ _ _ (g1.trans g2) (is_exc ⟨a, dd, _, rfl, upd_same, by rw [upd_ne hne, upd_same], .cons (Is.mono g2.t _ ia) .nil⟩)
theorem ev_mkX2 (h : EvD K ta e [d1, d2]) : Ev K m (tMkX C (spX2 C f g) ta) e (excD K C [(g, d2), (f, d1)]) := Ev.up fun B T0 σ H T s Q q => h B T0 σ H T s _ fun vs H1 T1 g1 i1 => by
  have i := i1.iss
  cases i with
  | @cons v _ _ _ ia i2 =>
    cases i2 with
    | @cons v2 _ _ _ ib i3 =>
      cases i3
      refine ⟨by simp, fun a ha => ⟨a, v, v2, rfl, upd_same, fun dd hd hne => ⟨rfl, ?_⟩⟩⟩
      rw [upd_ne hne] at hd
      rw [upd_over hne]
      have g2 := gr_exc (C := C) (fvs := [(g, v2), (f, v)]) g1.s ha hd hne
      exact q _ _ _ (g1.trans g2) (is_exc ⟨a, dd, _, rfl, upd_same, by rw [upd_ne hne, upd_same], .cons (Is.mono g2.t _ ib) (.cons (Is.mono g2.t _ ia) .nil)⟩)
theorem ev_mkX0 : Ev K m (tMkX0 C) e (excD0 C) := Ev.up fun B T0 σ H T s Q q a ha => by
  have g2 := Gr.new (o := ExO (.ref C) a) s.gr.s ha
  exact q _ _ _ g2 (is_exc0 ⟨a, rfl, upd_same⟩)
theorem abs_any {p : Hp → V → Prop} {B H T : Hp} {v : V} (h : MIs m K B H T v (.abs p)) (hB : Le B H) (hT : Le T H) : ∃ H0, Le H0 H ∧ p H0 v ∧ ((m = .dat ∧ H0 = T) ∨ (m = .now ∧ H0 = H) ∨ (m = .bor ∧ (H0 = T ∨ H0 = B))) := by
  cases m with
  | dat =>
    have h' : Is K T v (.abs p) := h
    cases h' with
    | abs h => exact ⟨T, hT, h T (Le.refl T), .inl ⟨rfl, rfl⟩⟩
  | now =>
    have h' : Is K H v (.abs p) := h
    cases h' with
    | abs h => exact ⟨H, Le.refl H, h H (Le.refl H), .inr (.inl ⟨rfl, rfl⟩)⟩
  | bor =>
    rcases h with h | h
    · cases h with
      | abs h => exact ⟨T, hT, h T (Le.refl T), .inr (.inr ⟨rfl, .inl rfl⟩)⟩
    · cases h with
      | abs h => exact ⟨B, hB, h B (Le.refl B), .inr (.inr ⟨rfl, .inr rfl⟩)⟩
/-- a field of an exception -/
theorem ev_atX (h : Ev K m te e (excD K C fs)) (c : XC K C) (n : NoAttr K C f) (hl : fs.lookup f = some d) : Ev K m (tAt K te f) e d := fun B T0 σ H T s Q q => h B T0 σ H T s _ fun v H1 T1 g i => by
  obtain ⟨H0, h0, h1, hm⟩ := abs_any i (s.gr.h.trans g.h) g.s
  obtain ⟨a, dd, fvs, rfl, ha, hd, hf⟩ := h1
  obtain ⟨v, l, iv⟩ := hf.lookup hl
  refine .inr ⟨a, C, dd, fvs, v, rfl, ⟨c, n⟩, h0 _ _ ha, h0 _ _ hd, l, q v H1 T1 g ?_⟩
  rcases hm with ⟨rfl, rfl⟩ | ⟨rfl, rfl⟩ | ⟨rfl, rfl | rfl⟩
  · exact iv
  · exact iv
  · exact .inl iv
  · exact .inr iv
/-- a field of an instance -/
theorem ev_at (h : Ev K m te e (.ins C fs)) (c : Cls K C) (n : NoAttr K C f) (hl : fs.lookup f = some d) : Ev K m (tAt K te f) e d := fun B T0 σ H T s Q q => h B T0 σ H T s _ fun v H1 T1 g i => by
  have key : ∃ H0, Le H0 H1 ∧ Is K H0 v (.ins C fs) ∧ ∀ u, Is K H0 u d → MIs m K B H1 T1 u d := by
    cases m with
    | dat => exact ⟨T1, g.s, i, fun _ h => h⟩
    | now => exact ⟨H1, Le.refl _, i, fun _ h => h⟩
    | bor =>
      rcases i with i | i
      · exact ⟨T1, g.s, i, fun _ h => .inl h⟩
      · exact ⟨B, s.gr.h.trans g.h, i, fun _ h => .inr h⟩
  obtain ⟨H0, h0, i0, k⟩ := key
  cases i0 with
  | @ins a _ dx fvs _ ha hf =>
    obtain ⟨v, l, iv⟩ := hf.lookup hl
    exact .inl ⟨a, C, dx, fvs, v, rfl, h0 _ _ ha, ⟨c, n⟩, l, q v H1 T1 g (k v iv)⟩
/-- isinstance of an exception -/
theorem exa_of {H : Hp} {v : V} (h : ExH K C fs H v) : ExA C v H := by
  obtain ⟨a, dd, fvs, rfl, h1, h2, _⟩ := h
  exact ⟨a, rfl, .inl ⟨dd, fvs, h1, h2⟩⟩
theorem exa_of0 {H : Hp} {v : V} (h : ExH0 C H v) : ExA C v H := by
  obtain ⟨a, rfl, h1⟩ := h
  exact ⟨a, rfl, .inr h1⟩
/-- the data is an exception of that class -/
def IsX (K : PySem.W.Frag) (C : Addr) (d : D) : Prop := ∀ H v, Is K H v d → ExA C v H
theorem isX_excD : IsX K C (excD K C fs) := fun H v h => exa_of (exc_is h)
theorem isX_excD0 : IsX K C (excD0 C) := fun H v h => exa_of0 (exc0_is h)
theorem rl_isiX {c : V} {u : Value} (hx : IsX K C d) (xc : XC K C) (hc : ClsV c u) (hk : PySem.W.kitOne K (.ref C) u = some b) : RL K [m1, m2] m (rIsiU K) [d, .raw c] (.bl b) := fun B H T vs hB hT hm Q q => by
  match vs, hm with
  | [v, w], hm =>
    have i1 := hm.1.now hB hT
    have i2 := hm.2.1.now hB hT
    cases i2
    exact .inr ⟨v, c, C, u, b, rfl, hc, xc, hx _ _ i1, hk, q _ H T (Gr.refl hT) (MIs.dat (.bl b) hT)⟩
theorem RL.isl {ds : List D} {ms : List Md} (h : RL K ms m (rIsi K) ds d) : RL K ms m (rIsiU K) ds d := fun B H T vs hB hT hm Q q => .inl (h B H T vs hB hT hm Q q)
end
/-! ### which class is above which -/
/-- own error classes without one below: none is above another one; ValueError and FullhandsError are above all -/
def kitTab (l : List Str) (K : PySem.W.Frag) : Bool := l.all fun x => (decide (PySem.W.kitOne K (.ref (gA K x)) (.type "ValueError") = some true) && decide (PySem.W.kitOne K (.ref (gA K x)) (.ref (gA K "FullhandsError")) = some true)) &&
  l.all fun y => decide (PySem.W.kitOne K (.ref (gA K x)) (.ref (gA K y)) = some (decide (x = y)))
section
variable {K : PySem.W.Frag} {l : List Str} {x y : Str}
theorem kitTab.one (h : kitTab l K = true) (hx : x ∈ l) (hy : y ∈ l) : PySem.W.kitOne K (.ref (gA K x)) (.ref (gA K y)) = some (decide (x = y)) := by
  have h1 := List.all_eq_true.mp h x hx
  exact of_decide_eq_true (List.all_eq_true.mp (and2 h1).2 y hy)
theorem kitTab.val (h : kitTab l K = true) (hx : x ∈ l) : PySem.W.kitOne K (.ref (gA K x)) (.type "ValueError") = some true := of_decide_eq_true (and2 (and2 (List.all_eq_true.mp h x hx)).1).1
theorem kitTab.own (h : kitTab l K = true) (hx : x ∈ l) : PySem.W.kitOne K (.ref (gA K x)) (.ref (gA K "FullhandsError")) = some true := of_decide_eq_true (and2 (and2 (List.all_eq_true.mp h x hx)).1).2
end
end Fh

set_option Elab.async false
set_option linter.all false
set_option maxRecDepth 100000
set_option maxHeartbeats 4000000
/-! Fh: more words: lists and tuples put together, == of data, what stands at a place -/
namespace Fh
open PySem PySem.Spec PyProof.Rows L2
section
variable {K : PySem.W.Frag} {e : En} {d d1 d2 : D} {ds xs ys : List D} {m m1 m2 : Md} {te ta tb : TE} {o : OD} {b : Bool}
/-! ### + of lists, of tuples -/
theorem rdo_cat (hz : xs.length + ys.length ≤ sizeLine) : RDO K .dat .dat (rPlus K) (.lst xs) (.lst ys) (.lst (xs ++ ys)) := fun B H T x y hB hT h1 h2 Q q => by
  cases h1 with
  | @lst a vs _ ha hi =>
    cases h2 with
    | @lst a2 vs2 _ ha2 hi2 =>
      refine .inl (.inr ⟨a, a2, vs, vs2, rfl, rfl, hT _ _ ha, hT _ _ ha2, by rw [hi.length, hi2.length]; exact hz, fun p hp => ?_⟩)
      exact q p _ _ (Gr.own hT hp) hp (hT.back hp) ⟨_, upd_same, hi.append hi2⟩
theorem evo_cat (ha : Ev K .dat ta e (.lst xs)) (hb : Ev K .dat tb e (.lst ys)) (hz : xs.length + ys.length ≤ sizeLine) : EvO K (tOp (rPlus K) ta tb) e (.lst (xs ++ ys)) := ev_opO ha hb (rdo_cat hz)
theorem ev_cat (ha : Ev K .dat ta e (.lst xs)) (hb : Ev K .dat tb e (.lst ys)) (hz : xs.length + ys.length ≤ sizeLine) : Ev K m (tOp (rPlus K) ta tb) e (.lst (xs ++ ys)) := (evo_cat ha hb hz).dat
theorem ev_catT (ha : Ev K .dat ta e (.tup xs)) (hb : Ev K .dat tb e (.tup ys)) (hz : xs.length + ys.length ≤ sizeLine) : Ev K m (tOp (rPlus K) ta tb) e (.tup (xs ++ ys)) := ev_op ha hb fun B H T x y hB hT h1 h2 Q q => by
  cases h1 with
  | @tup a vs _ ha hi =>
    cases h2 with
    | @tup a2 vs2 _ ha2 hi2 =>
      refine .inr (.inl ⟨a, a2, vs, vs2, rfl, rfl, hT.sqT ha, hT.sqT ha2, by rw [hi.length, hi2.length]; exact hz, fun h => ?_, fun h h' => ?_, fun _ _ p hp => ?_⟩)
      · subst h
        cases hi
        exact q _ _ _ (Gr.refl hT) (MIs.dat (.tup ha2 hi2) hT)
      · subst h'
        cases hi2
        rw [List.append_nil] at q
        exact q _ _ _ (Gr.refl hT) (MIs.dat (.tup ha hi) hT)
      · have g := Gr.new (o := .tup (vs ++ vs2)) hT hp
        exact q _ _ _ g (MIs.dat (.tup (SqT.of upd_same) (Iss.mono g.t _ (hi.append hi2))) g.s)
/-! ### == of lists of truth values; of data without them -/
theorem shps_bls {n : Nat} : ∀ ns : List Bool, shps n (ns.map D.bl) = true
  | [] => rfl
  | _ :: ns => by
    have := shps_bls (n := n) ns
    simp only [List.map_cons, shps, shp, this, Bool.and_self]
theorem eqv_bls : ∀ ns ms : List Bool, PyData.eqvAll (toPys (ns.map D.bl)) (toPys (ms.map D.bl)) = decide (ns = ms)
  | [], [] => rfl
  | [], _ :: _ => rfl
  | _ :: _, [] => rfl
  | n :: ns, k :: ms => by
    have ih := eqv_bls ns ms
    show ((n == k) && PyData.eqvAll (toPys (ns.map D.bl)) (toPys (ms.map D.bl))) = _
    rw [ih, Bool.beq_eq_decide_eq]
    by_cases h : n = k
    · subst h; simp
    · simp [h]
theorem ev_eqB {ns ms : List Bool} (ha : Ev K .now ta e (.lst (ns.map D.bl))) (hb : Ev K .now tb e (.lst (ms.map D.bl))) : Ev K m (tOp (rEqU K) ta tb) e (.bl (decide (ns = ms))) := by
  have e : PyData.eqv (toPy (.lst (ns.map D.bl))) (toPy (.lst (ms.map D.bl))) = decide (ns = ms) := eqv_bls ns ms
  rw [← e]
  exact ev_op ha hb (rd_eqD (n1 := 1) (n2 := 1) (shps_bls ns) (shps_bls ms))
theorem ev_neB {ns ms : List Bool} (ha : Ev K .now ta e (.lst (ns.map D.bl))) (hb : Ev K .now tb e (.lst (ms.map D.bl))) : Ev K m (tOp (rNeU K) ta tb) e (.bl (decide (ns ≠ ms))) := by
  have e : PyData.eqv (toPy (.lst (ns.map D.bl))) (toPy (.lst (ms.map D.bl))) = decide (ns = ms) := eqv_bls ns ms
  rw [decide_not, ← e]
  exact ev_op ha hb (rd_neD (n1 := 1) (n2 := 1) (shps_bls ns) (shps_bls ms))
mutual
/-- no truth value in it -/
def noB : D → Bool
  | .bl _ => false
  | .lst ds => noBs ds
  | .tup ds => noBs ds
  | _ => true
def noBs : List D → Bool
  | [] => true
  | d :: ds => noB d && noBs ds
end
mutual
theorem eqv_sm : ∀ (n : Nat) (a b : D), shp n a = true → shp n b = true → noB a = true → noB b = true → PyData.eqv (toPy a) (toPy b) = sm a b
  | n, a, b, ha, hb, na, nb => by
    cases a with
    | bl x => simp [noB] at na
    | raw x => simp [shp] at ha
    | rol x => simp [shp] at ha
    | abs x => simp [shp] at ha
    | ins x y => simp [shp] at ha
    | non => cases b <;> first | rfl | (simp [noB] at nb; done) | (simp [shp] at hb; done)
    | int x => cases b <;> first | (simp [noB] at nb; done) | (simp [shp] at hb; done) | rfl | (show (x == _) = decide _; rw [Bool.beq_eq_decide_eq])
    | str x => cases b <;> first | (simp [noB] at nb; done) | (simp [shp] at hb; done) | rfl | (show (x == _) = decide _; rw [Bool.beq_eq_decide_eq])
    | lst xs =>
      cases b with
      | lst ys =>
        cases n with
        | zero => simp [shp] at ha
        | succ n =>
          show PyData.eqvAll (toPys xs) (toPys ys) = sms xs ys
          exact eqv_sms n xs ys (by simpa [shp] using ha) (by simpa [shp] using hb) (by simpa [noB] using na) (by simpa [noB] using nb)
      | bl x => simp [noB] at nb
      | raw x => simp [shp] at hb
      | rol x => simp [shp] at hb
      | abs x => simp [shp] at hb
      | ins x y => simp [shp] at hb
      | non => rfl
      | int x => rfl
      | str x => rfl
      | tup x => rfl
    | tup xs =>
      cases b with
      | tup ys =>
        cases n with
        | zero => simp [shp] at ha
        | succ n =>
          show PyData.eqvAll (toPys xs) (toPys ys) = sms xs ys
          exact eqv_sms n xs ys (by simpa [shp] using ha) (by simpa [shp] using hb) (by simpa [noB] using na) (by simpa [noB] using nb)
      | bl x => simp [noB] at nb
      | raw x => simp [shp] at hb
      | rol x => simp [shp] at hb
      | abs x => simp [shp] at hb
      | ins x y => simp [shp] at hb
      | non => rfl
      | int x => rfl
      | str x => rfl
      | lst x => rfl
theorem eqv_sms : ∀ (n : Nat) (as bs : List D), shps n as = true → shps n bs = true → noBs as = true → noBs bs = true → PyData.eqvAll (toPys as) (toPys bs) = sms as bs
  | _, [], [], _, _, _, _ => rfl
  | _, [], _ :: _, _, _, _, _ => rfl
  | _, _ :: _, [], _, _, _, _ => rfl
  | n, a :: as, b :: bs, ha, hb, na, nb => by
    simp only [shps, Bool.and_eq_true] at ha hb
    simp only [noBs, Bool.and_eq_true] at na nb
    show (PyData.eqv (toPy a) (toPy b) && PyData.eqvAll (toPys as) (toPys bs)) = (sm a b && sms as bs)
    rw [eqv_sm n a b ha.1 hb.1 na.1 nb.1, eqv_sms n as bs ha.2 hb.2 na.2 nb.2]
end
theorem ev_eqD (n : Nat) (ha : Ev K .now ta e d1) (hb : Ev K .now tb e d2) (h1 : shp n d1 = true) (h2 : shp n d2 = true) (n1 : noB d1 = true) (n2 : noB d2 = true) (hn : n ≤ 64 := by decide) : Ev K m (tOp (rEqU K) ta tb) e (.bl (sm d1 d2)) := by
  rw [← eqv_sm n d1 d2 h1 h2 n1 n2]
  exact ev_op ha hb (rd_eqD h1 h2 hn hn)
theorem ev_neD (n : Nat) (ha : Ev K .now ta e d1) (hb : Ev K .now tb e d2) (h1 : shp n d1 = true) (h2 : shp n d2 = true) (n1 : noB d1 = true) (n2 : noB d2 = true) (hn : n ≤ 64 := by decide) : Ev K m (tOp (rNeU K) ta tb) e (.bl (!sm d1 d2)) := by
  rw [← eqv_sm n d1 d2 h1 h2 n1 n2]
  exact ev_op ha hb (rd_neD h1 h2 hn hn)
/-! ### isinstance where own classes stand about -/
theorem ev_isiX {C : Addr} {c : V} {u : Value} {tc : TE} (ha : Ev K .now ta e d) (hb : Ev K .now tc e (.raw c)) (hx : IsX K C d) (xc : XC K C) (hc : ClsV c u) (hk : PySem.W.kitOne K (.ref C) u = some b) : Ev K m (tCB (rIsiU K) (tCons ta (tCons tc tNil))) e (.bl b) :=
  ev_cb (ea_cons ha (ea_cons hb ea_nil)) (rl_isiX hx xc hc hk)
end
end Fh

set_option Elab.async false
set_option linter.all false
set_option maxRecDepth 100000
set_option maxHeartbeats 4000000
namespace Fh
open PySem PySem.Spec PyProof.Rows L2
/-! ### the text by places (printed by gen.py) -/
def top (i : Nat) : Stmt := PySem.Challenge.pw_fullhands_k96_errors_built.main.body.getD i (.Pass ⟨0, 0, 0, 0⟩)
abbrev s_l_mixed : Stmt := top 23
abbrev N_l_mixed : List Str := ["number", "turn", "first", "second"]
theorem sc_l_mixed : FnScope N_l_mixed ["number", "turn"] (defScope s_l_mixed) := ⟨rfl, rfl, rfl, by decide +kernel, rfl, by decide +kernel, by decide +kernel⟩
abbrev s_l_pool : Stmt := top 24
abbrev N_l_pool : List Str := ["script", "many", "cells", "digits", "cell", "pool", "k", "row", "rest", "at", "turn"]
theorem sc_l_pool : FnScope N_l_pool ["script", "many"] (defScope s_l_pool) := ⟨rfl, rfl, rfl, by decide +kernel, rfl, by decide +kernel, by decide +kernel⟩
abbrev s_l_same : Stmt := top 25
abbrev N_l_same : List Str := ["actual", "due", "k"]
theorem sc_l_same : FnScope N_l_same ["actual", "due"] (defScope s_l_same) := ⟨rfl, rfl, rfl, by decide +kernel, rfl, by decide +kernel, by decide +kernel⟩
abbrev s_l_word : Stmt := top 26
abbrev N_l_word : List Str := ["pool", "at", "menu"]
theorem sc_l_word : FnScope N_l_word ["pool", "at"] (defScope s_l_word) := ⟨rfl, rfl, rfl, by decide +kernel, rfl, by decide +kernel, by decide +kernel⟩
abbrev s_l_number : Stmt := top 27
abbrev N_l_number : List Str := ["pool", "at", "form"]
theorem sc_l_number : FnScope N_l_number ["pool", "at"] (defScope s_l_number) := ⟨rfl, rfl, rfl, by decide +kernel, rfl, by decide +kernel, by decide +kernel⟩
abbrev s_l_fields_of : Stmt := top 28
abbrev N_l_fields_of : List Str := ["pool", "start", "words", "numbers", "rows", "k"]
theorem sc_l_fields_of : FnScope N_l_fields_of ["pool", "start"] (defScope s_l_fields_of) := ⟨rfl, rfl, rfl, by decide +kernel, rfl, by decide +kernel, by decide +kernel⟩
abbrev s_l_made : Stmt := top 29
abbrev N_l_made : List Str := ["rows", "found"]
theorem sc_l_made : FnScope N_l_made ["rows"] (defScope s_l_made) := ⟨rfl, rfl, rfl, by decide +kernel, rfl, by decide +kernel, by decide +kernel⟩
abbrev s_l_read : Stmt := top 30
abbrev N_l_read : List Str := ["found", "rows"]
theorem sc_l_read : FnScope N_l_read ["found"] (defScope s_l_read) := ⟨rfl, rfl, rfl, by decide +kernel, rfl, by decide +kernel, by decide +kernel⟩
abbrev s_l_classes_of : Stmt := top 31
abbrev N_l_classes_of : List Str := ["e", "one"]
theorem sc_l_classes_of : FnScope N_l_classes_of ["e"] (defScope s_l_classes_of) := ⟨rfl, rfl, rfl, by decide +kernel, rfl, by decide +kernel, by decide +kernel⟩
abbrev s_l_right : Stmt := top 32
abbrev N_l_right : List Str := ["found", "rows", "k", "j"]
theorem sc_l_right : FnScope N_l_right ["found", "rows"] (defScope s_l_right) := ⟨rfl, rfl, rfl, by decide +kernel, rfl, by decide +kernel, by decide +kernel⟩
abbrev s_law : Stmt := top 33
abbrev N_law : List Str := ["script", "pool", "first_rows", "second_rows", "first", "second"]
theorem sc_law : FnScope N_law ["script"] (defScope s_law) := ⟨rfl, rfl, rfl, by decide +kernel, rfl, by decide +kernel, by decide +kernel⟩
abbrev s_BadTable__init : Stmt := mem (top 2) 0
theorem sc_BadTable__init : FnScope ["self", "place", "index"] ["self", "place", "index"] (defScope s_BadTable__init) := ⟨rfl, rfl, rfl, by decide +kernel, rfl, by decide +kernel, by decide +kernel⟩
abbrev s_BadText__init : Stmt := mem (top 3) 0
theorem sc_BadText__init : FnScope ["self", "line"] ["self", "line"] (defScope s_BadText__init) := ⟨rfl, rfl, rfl, by decide +kernel, rfl, by decide +kernel, by decide +kernel⟩
abbrev s_BadStanding__init : Stmt := mem (top 4) 0
theorem sc_BadStanding__init : FnScope ["self", "place", "index"] ["self", "place", "index"] (defScope s_BadStanding__init) := ⟨rfl, rfl, rfl, by decide +kernel, rfl, by decide +kernel, by decide +kernel⟩
abbrev s_CannotMove__init : Stmt := mem (top 5) 0
theorem sc_CannotMove__init : FnScope ["self", "index", "reason"] ["self", "index", "reason"] (defScope s_CannotMove__init) := ⟨rfl, rfl, rfl, by decide +kernel, rfl, by decide +kernel, by decide +kernel⟩
abbrev s_NoSuch__init : Stmt := mem (top 6) 0
theorem sc_NoSuch__init : FnScope ["self", "what"] ["self", "what"] (defScope s_NoSuch__init) := ⟨rfl, rfl, rfl, by decide +kernel, rfl, by decide +kernel, by decide +kernel⟩
abbrev s_WrongGround__init : Stmt := mem (top 7) 0
theorem sc_WrongGround__init : FnScope ["self", "needed"] ["self", "needed"] (defScope s_WrongGround__init) := ⟨rfl, rfl, rfl, by decide +kernel, rfl, by decide +kernel, by decide +kernel⟩
abbrev s_TooGreat__init : Stmt := mem (top 8) 0
theorem sc_TooGreat__init : FnScope ["self", "what"] ["self", "what"] (defScope s_TooGreat__init) := ⟨rfl, rfl, rfl, by decide +kernel, rfl, by decide +kernel, by decide +kernel⟩
abbrev s_BadVector__init : Stmt := mem (top 9) 0
theorem sc_BadVector__init : FnScope ["self", "index"] ["self", "index"] (defScope s_BadVector__init) := ⟨rfl, rfl, rfl, by decide +kernel, rfl, by decide +kernel, by decide +kernel⟩
abbrev s_NotLocal__init : Stmt := mem (top 10) 0
theorem sc_NotLocal__init : FnScope ["self", "kind"] ["self", "kind"] (defScope s_NotLocal__init) := ⟨rfl, rfl, rfl, by decide +kernel, rfl, by decide +kernel, by decide +kernel⟩
abbrev s_BadProgram__init : Stmt := mem (top 11) 0
theorem sc_BadProgram__init : FnScope ["self", "line", "word"] ["self", "line", "word"] (defScope s_BadProgram__init) := ⟨rfl, rfl, rfl, by decide +kernel, rfl, by decide +kernel, by decide +kernel⟩
abbrev s_InUse__init : Stmt := mem (top 12) 0
theorem sc_InUse__init : FnScope ["self", "what"] ["self", "what"] (defScope s_InUse__init) := ⟨rfl, rfl, rfl, by decide +kernel, rfl, by decide +kernel, by decide +kernel⟩
abbrev s_AttemptFailed__init : Stmt := mem (top 13) 0
theorem sc_AttemptFailed__init : FnScope ["self", "index"] ["self", "index"] (defScope s_AttemptFailed__init) := ⟨rfl, rfl, rfl, by decide +kernel, rfl, by decide +kernel, by decide +kernel⟩
/-- what the top has left -/
structure Tx (K : PySem.W.Frag) (mg : Str → Option Value) : Prop where
  f_ValueError : mg "ValueError" = none
  f_abs : mg "abs" = none
  f_bool : mg "bool" = none
  f_int : mg "int" = none
  f_isinstance : mg "isinstance" = none
  f_len : mg "len" = none
  f_list : mg "list" = none
  f_range : mg "range" = none
  f_str : mg "str" = none
  f_tuple : mg "tuple" = none
  g_FullhandsError : mg "FullhandsError" = some (.ref (gA K "FullhandsError"))
  x_FullhandsError : XC K (gA K "FullhandsError")
  e_FullhandsError : ∃ bm, PySem.W.excIn K (gA K "FullhandsError") bm "ValueError.__new__" = true ∧ bm = He.veBase
  g_BadTable : mg "BadTable" = some (.ref (gA K "BadTable"))
  x_BadTable : XC K (gA K "BadTable")
  i_BadTable : PySem.W.findIn K (.ref (gA K "BadTable")) "__init__" = some (some (.ref (mA K "BadTable" "__init__")))
  t_BadTable : PySem.W.typeIn K (.ref (mA K "BadTable" "__init__")) = some (.type "function")
  n_BadTable_place : NoAttr K (gA K "BadTable") "place"
  n_BadTable_index : NoAttr K (gA K "BadTable") "index"
  g_BadText : mg "BadText" = some (.ref (gA K "BadText"))
  x_BadText : XC K (gA K "BadText")
  i_BadText : PySem.W.findIn K (.ref (gA K "BadText")) "__init__" = some (some (.ref (mA K "BadText" "__init__")))
  t_BadText : PySem.W.typeIn K (.ref (mA K "BadText" "__init__")) = some (.type "function")
  n_BadText_line : NoAttr K (gA K "BadText") "line"
  g_BadStanding : mg "BadStanding" = some (.ref (gA K "BadStanding"))
  x_BadStanding : XC K (gA K "BadStanding")
  i_BadStanding : PySem.W.findIn K (.ref (gA K "BadStanding")) "__init__" = some (some (.ref (mA K "BadStanding" "__init__")))
  t_BadStanding : PySem.W.typeIn K (.ref (mA K "BadStanding" "__init__")) = some (.type "function")
  n_BadStanding_place : NoAttr K (gA K "BadStanding") "place"
  n_BadStanding_index : NoAttr K (gA K "BadStanding") "index"
  g_CannotMove : mg "CannotMove" = some (.ref (gA K "CannotMove"))
  x_CannotMove : XC K (gA K "CannotMove")
  i_CannotMove : PySem.W.findIn K (.ref (gA K "CannotMove")) "__init__" = some (some (.ref (mA K "CannotMove" "__init__")))
  t_CannotMove : PySem.W.typeIn K (.ref (mA K "CannotMove" "__init__")) = some (.type "function")
  n_CannotMove_index : NoAttr K (gA K "CannotMove") "index"
  n_CannotMove_reason : NoAttr K (gA K "CannotMove") "reason"
  g_NoSuch : mg "NoSuch" = some (.ref (gA K "NoSuch"))
  x_NoSuch : XC K (gA K "NoSuch")
  i_NoSuch : PySem.W.findIn K (.ref (gA K "NoSuch")) "__init__" = some (some (.ref (mA K "NoSuch" "__init__")))
  t_NoSuch : PySem.W.typeIn K (.ref (mA K "NoSuch" "__init__")) = some (.type "function")
  n_NoSuch_what : NoAttr K (gA K "NoSuch") "what"
  g_WrongGround : mg "WrongGround" = some (.ref (gA K "WrongGround"))
  x_WrongGround : XC K (gA K "WrongGround")
  i_WrongGround : PySem.W.findIn K (.ref (gA K "WrongGround")) "__init__" = some (some (.ref (mA K "WrongGround" "__init__")))
  t_WrongGround : PySem.W.typeIn K (.ref (mA K "WrongGround" "__init__")) = some (.type "function")
  n_WrongGround_needed : NoAttr K (gA K "WrongGround") "needed"
  g_TooGreat : mg "TooGreat" = some (.ref (gA K "TooGreat"))
  x_TooGreat : XC K (gA K "TooGreat")
  i_TooGreat : PySem.W.findIn K (.ref (gA K "TooGreat")) "__init__" = some (some (.ref (mA K "TooGreat" "__init__")))
  t_TooGreat : PySem.W.typeIn K (.ref (mA K "TooGreat" "__init__")) = some (.type "function")
  n_TooGreat_what : NoAttr K (gA K "TooGreat") "what"
  g_BadVector : mg "BadVector" = some (.ref (gA K "BadVector"))
  x_BadVector : XC K (gA K "BadVector")
  i_BadVector : PySem.W.findIn K (.ref (gA K "BadVector")) "__init__" = some (some (.ref (mA K "BadVector" "__init__")))
  t_BadVector : PySem.W.typeIn K (.ref (mA K "BadVector" "__init__")) = some (.type "function")
  n_BadVector_index : NoAttr K (gA K "BadVector") "index"
  g_NotLocal : mg "NotLocal" = some (.ref (gA K "NotLocal"))
  x_NotLocal : XC K (gA K "NotLocal")
  i_NotLocal : PySem.W.findIn K (.ref (gA K "NotLocal")) "__init__" = some (some (.ref (mA K "NotLocal" "__init__")))
  t_NotLocal : PySem.W.typeIn K (.ref (mA K "NotLocal" "__init__")) = some (.type "function")
  n_NotLocal_kind : NoAttr K (gA K "NotLocal") "kind"
  g_BadProgram : mg "BadProgram" = some (.ref (gA K "BadProgram"))
  x_BadProgram : XC K (gA K "BadProgram")
  i_BadProgram : PySem.W.findIn K (.ref (gA K "BadProgram")) "__init__" = some (some (.ref (mA K "BadProgram" "__init__")))
  t_BadProgram : PySem.W.typeIn K (.ref (mA K "BadProgram" "__init__")) = some (.type "function")
  n_BadProgram_line : NoAttr K (gA K "BadProgram") "line"
  n_BadProgram_word : NoAttr K (gA K "BadProgram") "word"
  g_InUse : mg "InUse" = some (.ref (gA K "InUse"))
  x_InUse : XC K (gA K "InUse")
  i_InUse : PySem.W.findIn K (.ref (gA K "InUse")) "__init__" = some (some (.ref (mA K "InUse" "__init__")))
  t_InUse : PySem.W.typeIn K (.ref (mA K "InUse" "__init__")) = some (.type "function")
  n_InUse_what : NoAttr K (gA K "InUse") "what"
  g_AttemptFailed : mg "AttemptFailed" = some (.ref (gA K "AttemptFailed"))
  x_AttemptFailed : XC K (gA K "AttemptFailed")
  i_AttemptFailed : PySem.W.findIn K (.ref (gA K "AttemptFailed")) "__init__" = some (some (.ref (mA K "AttemptFailed" "__init__")))
  t_AttemptFailed : PySem.W.typeIn K (.ref (mA K "AttemptFailed" "__init__")) = some (.type "function")
  n_AttemptFailed_index : NoAttr K (gA K "AttemptFailed") "index"
  g_BadLot : mg "BadLot" = some (.ref (gA K "BadLot"))
  x_BadLot : XC K (gA K "BadLot")
  e_BadLot : ∃ bm, PySem.W.excIn K (gA K "BadLot") bm "ValueError.__new__" = true ∧ bm = He.veBase
  g_BadDealing : mg "BadDealing" = some (.ref (gA K "BadDealing"))
  x_BadDealing : XC K (gA K "BadDealing")
  e_BadDealing : ∃ bm, PySem.W.excIn K (gA K "BadDealing") bm "ValueError.__new__" = true ∧ bm = He.veBase
  g_NotCore : mg "NotCore" = some (.ref (gA K "NotCore"))
  x_NotCore : XC K (gA K "NotCore")
  e_NotCore : ∃ bm, PySem.W.excIn K (gA K "NotCore") bm "ValueError.__new__" = true ∧ bm = He.veBase
  g_BadLoads : mg "BadLoads" = some (.ref (gA K "BadLoads"))
  x_BadLoads : XC K (gA K "BadLoads")
  e_BadLoads : ∃ bm, PySem.W.excIn K (gA K "BadLoads") bm "ValueError.__new__" = true ∧ bm = He.veBase
  g_Impossible : mg "Impossible" = some (.ref (gA K "Impossible"))
  x_Impossible : XC K (gA K "Impossible")
  e_Impossible : ∃ bm, PySem.W.excIn K (gA K "Impossible") bm "ValueError.__new__" = true ∧ bm = He.veBase
  g_BadLine : mg "BadLine" = some (.ref (gA K "BadLine"))
  x_BadLine : XC K (gA K "BadLine")
  e_BadLine : ∃ bm, PySem.W.excIn K (gA K "BadLine") bm "ValueError.__new__" = true ∧ bm = He.veBase
  g_NothingToUndo : mg "NothingToUndo" = some (.ref (gA K "NothingToUndo"))
  x_NothingToUndo : XC K (gA K "NothingToUndo")
  e_NothingToUndo : ∃ bm, PySem.W.excIn K (gA K "NothingToUndo") bm "ValueError.__new__" = true ∧ bm = He.veBase
  g_NothingToRedo : mg "NothingToRedo" = some (.ref (gA K "NothingToRedo"))
  x_NothingToRedo : XC K (gA K "NothingToRedo")
  e_NothingToRedo : ∃ bm, PySem.W.excIn K (gA K "NothingToRedo") bm "ValueError.__new__" = true ∧ bm = He.veBase
  kit : kitTab ["BadTable", "BadText", "BadStanding", "CannotMove", "NoSuch", "WrongGround", "TooGreat", "BadVector", "NotLocal", "BadProgram", "InUse", "AttemptFailed", "BadLot", "BadDealing", "NotCore", "BadLoads", "Impossible", "BadLine", "NothingToUndo", "NothingToRedo"] K = true
  m_BadTable : DdM K (mA K "BadTable" "__init__") "__init__" "BadTable.__init__" s_BadTable__init [] []
  m_BadText : DdM K (mA K "BadText" "__init__") "__init__" "BadText.__init__" s_BadText__init [] []
  m_BadStanding : DdM K (mA K "BadStanding" "__init__") "__init__" "BadStanding.__init__" s_BadStanding__init [] []
  m_CannotMove : DdM K (mA K "CannotMove" "__init__") "__init__" "CannotMove.__init__" s_CannotMove__init [] []
  m_NoSuch : DdM K (mA K "NoSuch" "__init__") "__init__" "NoSuch.__init__" s_NoSuch__init [] []
  m_WrongGround : DdM K (mA K "WrongGround" "__init__") "__init__" "WrongGround.__init__" s_WrongGround__init [] []
  m_TooGreat : DdM K (mA K "TooGreat" "__init__") "__init__" "TooGreat.__init__" s_TooGreat__init [] []
  m_BadVector : DdM K (mA K "BadVector" "__init__") "__init__" "BadVector.__init__" s_BadVector__init [] []
  m_NotLocal : DdM K (mA K "NotLocal" "__init__") "__init__" "NotLocal.__init__" s_NotLocal__init [] []
  m_BadProgram : DdM K (mA K "BadProgram" "__init__") "__init__" "BadProgram.__init__" s_BadProgram__init [] []
  m_InUse : DdM K (mA K "InUse" "__init__") "__init__" "InUse.__init__" s_InUse__init [] []
  m_AttemptFailed : DdM K (mA K "AttemptFailed" "__init__") "__init__" "AttemptFailed.__init__" s_AttemptFailed__init [] []
  d_l_mixed : Dd K mg "_law_mixed" s_l_mixed [] []
  d_l_pool : Dd K mg "_law_pool" s_l_pool [] []
  d_l_same : Dd K mg "_law_same" s_l_same [] []
  d_l_word : Dd K mg "_law_word" s_l_word [] []
  d_l_number : Dd K mg "_law_number" s_l_number [] []
  d_l_fields_of : Dd K mg "_law_fields_of" s_l_fields_of [] []
  d_l_made : Dd K mg "_law_made" s_l_made [] []
  d_l_read : Dd K mg "_law_read" s_l_read [] []
  d_l_classes_of : Dd K mg "_law_classes_of" s_l_classes_of [] []
  d_l_right : Dd K mg "_law_right" s_l_right [] []
  d_law : Dd K mg "law" s_law [] []
section
variable {P : Program} {w : World} {K : PySem.W.Frag} {mg : Str → Option Value} {base : Heap}
theorem dx_BadTable (T : Tx K mg) : DX P w K mg base "BadTable" (gA K "BadTable") (spX2 (gA K "BadTable") "place" "index") := by
  obtain ⟨fd, F⟩ := T.m_BadTable
  exact ⟨_, fd, _, ok_x2 F sc_BadTable__init T.x_BadTable T.n_BadTable_place T.n_BadTable_index (fun _ _ _ _ _ _ => (pss_cons (ps_ost (pv 0) (pv 1)) (pss_one (ps_ost (pv 0) (pv 2))))), ⟨T.x_BadTable, T.g_BadTable, T.i_BadTable, T.t_BadTable⟩, F.bindsN fun _ _ _ _ _ _ us hl => match us, hl with | [_, _, _], _ => rfl⟩
theorem dx_BadText (T : Tx K mg) : DX P w K mg base "BadText" (gA K "BadText") (spX1 (gA K "BadText") "line") := by
  obtain ⟨fd, F⟩ := T.m_BadText
  exact ⟨_, fd, _, ok_x1 F sc_BadText__init T.x_BadText T.n_BadText_line (fun _ _ _ _ _ _ => (pss_one (ps_ost (pv 0) (pv 1)))), ⟨T.x_BadText, T.g_BadText, T.i_BadText, T.t_BadText⟩, F.bindsN fun _ _ _ _ _ _ us hl => match us, hl with | [_, _], _ => rfl⟩
theorem dx_BadStanding (T : Tx K mg) : DX P w K mg base "BadStanding" (gA K "BadStanding") (spX2 (gA K "BadStanding") "place" "index") := by
  obtain ⟨fd, F⟩ := T.m_BadStanding
  exact ⟨_, fd, _, ok_x2 F sc_BadStanding__init T.x_BadStanding T.n_BadStanding_place T.n_BadStanding_index (fun _ _ _ _ _ _ => (pss_cons (ps_ost (pv 0) (pv 1)) (pss_one (ps_ost (pv 0) (pv 2))))), ⟨T.x_BadStanding, T.g_BadStanding, T.i_BadStanding, T.t_BadStanding⟩, F.bindsN fun _ _ _ _ _ _ us hl => match us, hl with | [_, _, _], _ => rfl⟩
theorem dx_CannotMove (T : Tx K mg) : DX P w K mg base "CannotMove" (gA K "CannotMove") (spX2 (gA K "CannotMove") "index" "reason") := by
  obtain ⟨fd, F⟩ := T.m_CannotMove
  exact ⟨_, fd, _, ok_x2 F sc_CannotMove__init T.x_CannotMove T.n_CannotMove_index T.n_CannotMove_reason (fun _ _ _ _ _ _ => (pss_cons (ps_ost (pv 0) (pv 1)) (pss_one (ps_ost (pv 0) (pv 2))))), ⟨T.x_CannotMove, T.g_CannotMove, T.i_CannotMove, T.t_CannotMove⟩, F.bindsN fun _ _ _ _ _ _ us hl => match us, hl with | [_, _, _], _ => rfl⟩
theorem dx_NoSuch (T : Tx K mg) : DX P w K mg base "NoSuch" (gA K "NoSuch") (spX1 (gA K "NoSuch") "what") := by
  obtain ⟨fd, F⟩ := T.m_NoSuch
  exact ⟨_, fd, _, ok_x1 F sc_NoSuch__init T.x_NoSuch T.n_NoSuch_what (fun _ _ _ _ _ _ => (pss_one (ps_ost (pv 0) (pv 1)))), ⟨T.x_NoSuch, T.g_NoSuch, T.i_NoSuch, T.t_NoSuch⟩, F.bindsN fun _ _ _ _ _ _ us hl => match us, hl with | [_, _], _ => rfl⟩
theorem dx_WrongGround (T : Tx K mg) : DX P w K mg base "WrongGround" (gA K "WrongGround") (spX1 (gA K "WrongGround") "needed") := by
  obtain ⟨fd, F⟩ := T.m_WrongGround
  exact ⟨_, fd, _, ok_x1 F sc_WrongGround__init T.x_WrongGround T.n_WrongGround_needed (fun _ _ _ _ _ _ => (pss_one (ps_ost (pv 0) (pv 1)))), ⟨T.x_WrongGround, T.g_WrongGround, T.i_WrongGround, T.t_WrongGround⟩, F.bindsN fun _ _ _ _ _ _ us hl => match us, hl with | [_, _], _ => rfl⟩
theorem dx_TooGreat (T : Tx K mg) : DX P w K mg base "TooGreat" (gA K "TooGreat") (spX1 (gA K "TooGreat") "what") := by
  obtain ⟨fd, F⟩ := T.m_TooGreat
  exact ⟨_, fd, _, ok_x1 F sc_TooGreat__init T.x_TooGreat T.n_TooGreat_what (fun _ _ _ _ _ _ => (pss_one (ps_ost (pv 0) (pv 1)))), ⟨T.x_TooGreat, T.g_TooGreat, T.i_TooGreat, T.t_TooGreat⟩, F.bindsN fun _ _ _ _ _ _ us hl => match us, hl with | [_, _], _ => rfl⟩
theorem dx_BadVector (T : Tx K mg) : DX P w K mg base "BadVector" (gA K "BadVector") (spX1 (gA K "BadVector") "index") := by
  obtain ⟨fd, F⟩ := T.m_BadVector
  exact ⟨_, fd, _, ok_x1 F sc_BadVector__init T.x_BadVector T.n_BadVector_index (fun _ _ _ _ _ _ => (pss_one (ps_ost (pv 0) (pv 1)))), ⟨T.x_BadVector, T.g_BadVector, T.i_BadVector, T.t_BadVector⟩, F.bindsN fun _ _ _ _ _ _ us hl => match us, hl with | [_, _], _ => rfl⟩
theorem dx_NotLocal (T : Tx K mg) : DX P w K mg base "NotLocal" (gA K "NotLocal") (spX1 (gA K "NotLocal") "kind") := by
  obtain ⟨fd, F⟩ := T.m_NotLocal
  exact ⟨_, fd, _, ok_x1 F sc_NotLocal__init T.x_NotLocal T.n_NotLocal_kind (fun _ _ _ _ _ _ => (pss_one (ps_ost (pv 0) (pv 1)))), ⟨T.x_NotLocal, T.g_NotLocal, T.i_NotLocal, T.t_NotLocal⟩, F.bindsN fun _ _ _ _ _ _ us hl => match us, hl with | [_, _], _ => rfl⟩
theorem dx_BadProgram (T : Tx K mg) : DX P w K mg base "BadProgram" (gA K "BadProgram") (spX2 (gA K "BadProgram") "line" "word") := by
  obtain ⟨fd, F⟩ := T.m_BadProgram
  exact ⟨_, fd, _, ok_x2 F sc_BadProgram__init T.x_BadProgram T.n_BadProgram_line T.n_BadProgram_word (fun _ _ _ _ _ _ => (pss_cons (ps_ost (pv 0) (pv 1)) (pss_one (ps_ost (pv 0) (pv 2))))), ⟨T.x_BadProgram, T.g_BadProgram, T.i_BadProgram, T.t_BadProgram⟩, F.bindsN fun _ _ _ _ _ _ us hl => match us, hl with | [_, _, _], _ => rfl⟩
theorem dx_InUse (T : Tx K mg) : DX P w K mg base "InUse" (gA K "InUse") (spX1 (gA K "InUse") "what") := by
  obtain ⟨fd, F⟩ := T.m_InUse
  exact ⟨_, fd, _, ok_x1 F sc_InUse__init T.x_InUse T.n_InUse_what (fun _ _ _ _ _ _ => (pss_one (ps_ost (pv 0) (pv 1)))), ⟨T.x_InUse, T.g_InUse, T.i_InUse, T.t_InUse⟩, F.bindsN fun _ _ _ _ _ _ us hl => match us, hl with | [_, _], _ => rfl⟩
theorem dx_AttemptFailed (T : Tx K mg) : DX P w K mg base "AttemptFailed" (gA K "AttemptFailed") (spX1 (gA K "AttemptFailed") "index") := by
  obtain ⟨fd, F⟩ := T.m_AttemptFailed
  exact ⟨_, fd, _, ok_x1 F sc_AttemptFailed__init T.x_AttemptFailed T.n_AttemptFailed_index (fun _ _ _ _ _ _ => (pss_one (ps_ost (pv 0) (pv 1)))), ⟨T.x_AttemptFailed, T.g_AttemptFailed, T.i_AttemptFailed, T.t_AttemptFailed⟩, F.bindsN fun _ _ _ _ _ _ us hl => match us, hl with | [_, _], _ => rfl⟩
theorem tm_l_mixed (T : Tx K mg) {f : Addr} {cdv : Value} {A : Around} {outer : List Env} {s : Shared} {H : Hp} {E : XK}
    (hr : Room 0 (A.deeper (envOfC "_law_mixed" (defScope s_l_mixed) s.heap.objs.size f cdv))) :
    PSs (cxOf CX0 P w K mg base N_l_mixed "_law_mixed" (defScope s_l_mixed) f cdv A outer s H E).nox (defBody s_l_mixed) (rd_l_mixed K  ) :=
  (pss_cons (ps_set (i := 2) sc_l_mixed.nd rfl (by first | exact Or.inl rfl | exact Or.inr rfl) (pe_op op_modU (pe_callTy call_intU (by rfl) T.f_int (by decide +kernel) (pa_cons (pe_op op_plus (pe_op op_plus (pe_op op_times (pv 0) pe_int) (pe_op op_times (pv 1) pe_int)) pe_int) pa_nil)) pe_int))
      (pss_cons (ps_set (i := 3) sc_l_mixed.nd rfl (by first | exact Or.inl rfl | exact Or.inr rfl) (pe_op op_modU (pe_callTy call_intU (by rfl) T.f_int (by decide +kernel) (pa_cons (pe_op op_plus (pe_op op_plus (pe_op op_times (pv 2) (pv 2)) (pe_op op_times (pv 1) pe_int)) pe_int) pa_nil)) pe_int))
      (pss_one (ps_ret (pe_op op_modU (pe_callTy call_intU (by rfl) T.f_int (by decide +kernel) (pa_cons (pe_op op_fdivU (pv 3) pe_int) pa_nil)) pe_int)))))
theorem tm_l_pool {sp_l_mixed : Sp} (T : Tx K mg) (G_l_mixed : Df P w K mg base "_law_mixed" 1 [] sp_l_mixed) {f : Addr} {cdv : Value} {A : Around} {outer : List Env} {s : Shared} {H : Hp} {E : XK}
    (hr : Room 1 (A.deeper (envOfC "_law_pool" (defScope s_l_pool) s.heap.objs.size f cdv))) :
    PSs (cxOf CX0 P w K mg base N_l_pool "_law_pool" (defScope s_l_pool) f cdv A outer s H E).nox (defBody s_l_pool) (rd_l_pool K sp_l_mixed ) :=
  (pss_cons (ps_setLc (i := 2) (own := [(("cell" : Str), 4)]) (wi := (iSeq K (tSl (rSlU K) (tVar 0) tNoPart (tPart (tC (.int 63)))))) (g := (gName 4)) (tt := tYes) (te := (tCB (rAbs) (tCons (tCB (rIntC) (tCons (tVar 4) tNil)) tNil))) rfl sc_l_pool.nd rfl rfl (sw_true rfl rfl rfl (by decide +kernel)) (pi_seq (pe_slice sl_U (pv 0) po_none (po_some pe_int))) (blkOk_by (N := N_l_pool) (sc := defScope s_l_pool) (by decide +kernel)) (fun _ _ _ _ _ => (pg_name (i := 4) sc_l_pool.nd rfl (by first | exact Or.inl rfl | exact Or.inr rfl))) (fun _ _ _ _ _ => pts_nil) (fun _ _ _ _ _ => (pe_callB call_absU (by rfl) T.f_abs boot_abs (pa_cons (pe_callTy call_intU (by rfl) T.f_int (by decide +kernel) (pa_cons (pv 4) pa_nil)) pa_nil))))
      (pss_cons (ps_if (pt_cmpR (op_eqU hr) (pv 2) (pe_lst pa_nil) (nomark _)) (pss_one (ps_set (i := 2) sc_l_pool.nd rfl (by first | exact Or.inl rfl | exact Or.inr rfl) (pe_lst (pa_cons pe_int pa_nil)))) pss_nil)
      (pss_cons (ps_set (i := 3) sc_l_pool.nd rfl (by first | exact Or.inl rfl | exact Or.inr rfl) (pe_lst pa_nil))
      (pss_cons (ps_for PassesOwn.never rfl (pi_seq (pv 2)) (pg_name (i := 4) sc_l_pool.nd rfl (by first | exact Or.inl rfl | exact Or.inr rfl)) (pss_cons (ps_set (i := 7) sc_l_pool.nd rfl (by first | exact Or.inl rfl | exact Or.inr rfl) (pe_lst pa_nil))
      (pss_cons (ps_set (i := 8) sc_l_pool.nd rfl (by first | exact Or.inl rfl | exact Or.inr rfl) (pv 4))
      (pss_cons (ps_if (pt_cmpR op_geU (pv 4) (pe_op op_powU pe_int pe_int) (nomark _)) (pss_one (ps_for PassesOwn.never rfl (pi_range1 (by rfl) T.f_range (pa_cons pe_int pa_nil)) (pg_name (i := 10) sc_l_pool.nd rfl (by first | exact Or.inl rfl | exact Or.inr rfl)) (pss_one (ps_if (pt_cmpR op_gtU (pv 8) pe_int (nomark _)) (pss_cons (ps_expr (pe_bm PySem.F.plainAttrs_list PySem.F.slot_list_append PySem.F.type_list_append mt_append (pv 7) (pa_cons (pe_op op_modU (pe_callTy call_intU (by rfl) T.f_int (by decide +kernel) (pa_cons (pv 8) pa_nil)) pe_int) pa_nil)))
      (pss_one (ps_set (i := 8) sc_l_pool.nd rfl (by first | exact Or.inl rfl | exact Or.inr rfl) (pe_op op_fdivU (pv 8) pe_int)))) pss_nil)))) pss_nil)
      (pss_one (ps_expr (pe_bm PySem.F.plainAttrs_list PySem.F.slot_list_append PySem.F.type_list_append mt_append (pv 3) (pa_cons (pv 7) pa_nil))))))))
      (pss_cons (ps_set (i := 5) sc_l_pool.nd rfl (by first | exact Or.inl rfl | exact Or.inr rfl) (pe_lst pa_nil))
      (pss_cons (ps_for PassesOwn.never rfl (pi_range1 (by rfl) T.f_range (pa_cons (pv 1) pa_nil)) (pg_name (i := 6) sc_l_pool.nd rfl (by first | exact Or.inl rfl | exact Or.inr rfl)) (pss_cons (ps_set (i := 9) sc_l_pool.nd rfl (by first | exact Or.inl rfl | exact Or.inr rfl) (pe_op op_modU (pe_callTy call_intU (by rfl) T.f_int (by decide +kernel) (pa_cons (pv 6) pa_nil)) (pe_callB call_lenU (by rfl) T.f_len boot_len (pa_cons (pv 2) pa_nil))))
      (pss_cons (ps_set (i := 10) sc_l_pool.nd rfl (by first | exact Or.inl rfl | exact Or.inr rfl) (pe_op op_fdivU (pv 6) (pe_callB call_lenU (by rfl) T.f_len boot_len (pa_cons (pv 2) pa_nil))))
      (pss_one (ps_if (pt_cmpR op_ltU (pv 10) (pe_callB call_lenU (by rfl) T.f_len boot_len (pa_cons (pe_ix ix_seq (pv 3) (pv 9) (fun _ _ => rfl)) pa_nil)) (nomark _)) (pss_one (ps_expr (pe_bm PySem.F.plainAttrs_list PySem.F.slot_list_append PySem.F.type_list_append mt_append (pv 5) (pa_cons (pe_ix ix_seq (pe_ix ix_seq (pv 3) (pv 9) (fun _ _ => rfl)) (pv 10) (fun _ _ => rfl)) pa_nil)))) (pss_one (ps_expr (pe_bm PySem.F.plainAttrs_list PySem.F.slot_list_append PySem.F.type_list_append mt_append (pv 5) (pa_cons (pe_df G_l_mixed (hr.mono (by decide)) (by rfl) (pa_cons (pe_op op_plus (pe_op op_modU (pe_callTy call_intU (by rfl) T.f_int (by decide +kernel) (pa_cons (pe_ix ix_seq (pv 2) (pv 9) (fun _ _ => rfl)) pa_nil)) pe_int) (pe_op op_times pe_int (pv 9))) (pa_cons (pe_op op_plus (pv 10) pe_int) pa_nil))) pa_nil)))))))))
      (pss_one (ps_ret (pv 5)))))))))
theorem tm_l_same {sp_l_same : Sp} (T : Tx K mg) {kk : Nat} (hk : 0 ≤ kk) (G_l_same : Df P w K mg base "_law_same" kk [] sp_l_same) {f : Addr} {cdv : Value} {A : Around} {outer : List Env} {s : Shared} {H : Hp} {E : XK}
    (hr : Room kk (A.deeper (envOfC "_law_same" (defScope s_l_same) s.heap.objs.size f cdv))) :
    PSs (cxOf CX0 P w K mg base N_l_same "_law_same" (defScope s_l_same) f cdv A outer s H E).nox (defBody s_l_same) (rd_l_same K sp_l_same ) :=
  (pss_cons (ps_if (pt_cmpR op_isC (pv 1) pe_non (nomark _)) (pss_one (ps_ret (pe_cmpR op_isC (pv 0) pe_non (nomark _)))) pss_nil)
      (pss_cons (ps_if (pt_cmpR op_isC (pv 1) pe_bl (nomark _)) (pss_one (ps_ret (pe_cmpR op_isC (pv 0) pe_bl (nomark _)))) pss_nil)
      (pss_cons (ps_if (pt_cmpR op_isC (pv 1) pe_bl (nomark _)) (pss_one (ps_ret (pe_cmpR op_isC (pv 0) pe_bl (nomark _)))) pss_nil)
      (pss_cons (ps_if (pt_val (pe_callB call_isi (by rfl) T.f_isinstance boot_isinstance (pa_cons (pv 1) (pa_cons (pe_bltn (v := .ty "int") (by rfl) T.f_int (by decide +kernel) rfl) pa_nil)))) (pss_one (ps_ret (pe_and (pe_callB call_isi (by rfl) T.f_isinstance boot_isinstance (pa_cons (pv 0) (pa_cons (pe_bltn (v := .ty "int") (by rfl) T.f_int (by decide +kernel) rfl) pa_nil))) (pe_and (pe_not (pe_callB call_isi (by rfl) T.f_isinstance boot_isinstance (pa_cons (pv 0) (pa_cons (pe_bltn (v := .ty "bool") (by rfl) T.f_bool (by decide +kernel) rfl) pa_nil)))) (pe_one (pe_cmpR (op_eqU hr) (pv 0) (pv 1) (nomark _))))))) pss_nil)
      (pss_cons (ps_if (pt_val (pe_callB call_isi (by rfl) T.f_isinstance boot_isinstance (pa_cons (pv 1) (pa_cons (pe_bltn (v := .ty "str") (by rfl) T.f_str (by decide +kernel) rfl) pa_nil)))) (pss_one (ps_ret (pe_and (pe_callB call_isi (by rfl) T.f_isinstance boot_isinstance (pa_cons (pv 0) (pa_cons (pe_bltn (v := .ty "str") (by rfl) T.f_str (by decide +kernel) rfl) pa_nil))) (pe_one (pe_cmpR (op_eqU hr) (pv 0) (pv 1) (nomark _)))))) pss_nil)
      (pss_cons (ps_if (pt_val (pe_callB call_isi (by rfl) T.f_isinstance boot_isinstance (pa_cons (pv 1) (pa_cons (pe_bltn (v := .ty "tuple") (by rfl) T.f_tuple (by decide +kernel) rfl) pa_nil)))) (pss_one (ps_if (PW.pt (pw_or (pt_not (pt_val (pe_callB call_isi (by rfl) T.f_isinstance boot_isinstance (pa_cons (pv 0) (pa_cons (pe_bltn (v := .ty "tuple") (by rfl) T.f_tuple (by decide +kernel) rfl) pa_nil))))) (pw_or1 (pt_cmpR (op_neU hr) (pe_callB call_lenU (by rfl) T.f_len boot_len (pa_cons (pv 0) pa_nil)) (pe_callB call_lenU (by rfl) T.f_len boot_len (pa_cons (pv 1) pa_nil)) (nomark _))))) (pss_one (ps_ret pe_bl)) pss_nil)) (pss_one (ps_if (PW.pt (pw_or (pt_not (pt_val (pe_callB call_isi (by rfl) T.f_isinstance boot_isinstance (pa_cons (pv 0) (pa_cons (pe_bltn (v := .ty "list") (by rfl) T.f_list (by decide +kernel) rfl) pa_nil))))) (pw_or1 (pt_cmpR (op_neU hr) (pe_callB call_lenU (by rfl) T.f_len boot_len (pa_cons (pv 0) pa_nil)) (pe_callB call_lenU (by rfl) T.f_len boot_len (pa_cons (pv 1) pa_nil)) (nomark _))))) (pss_one (ps_ret pe_bl)) pss_nil)))
      (pss_cons (ps_for PassesOwn.never rfl (pi_range1 (by rfl) T.f_range (pa_cons (pe_callB call_lenU (by rfl) T.f_len boot_len (pa_cons (pv 1) pa_nil)) pa_nil)) (pg_name (i := 2) sc_l_same.nd rfl (by first | exact Or.inl rfl | exact Or.inr rfl)) (pss_one (ps_if (pt_not (pt_val (pe_df G_l_same hr (by rfl) (pa_cons (pe_ix ix_seq (pv 0) (pv 2) (fun _ _ => rfl)) (pa_cons (pe_ix ix_seq (pv 1) (pv 2) (fun _ _ => rfl)) pa_nil))))) (pss_one (ps_ret pe_bl)) pss_nil)))
      (pss_one (ps_ret pe_bl)))))))))
def rd_l_word (K : PySem.W.Frag) : TS :=
  (tSeq (tAsg (tLst (tCons (tC (.str "people")) (tCons (tC (.str "hands")) (tCons (tC (.str "ties")) (tCons (tC (.str "web")) (tCons (tC (.str "kinds")) (tCons (tC (.str "quick")) (tCons (tC (.str "shares")) (tCons (tC (.str "rows")) (tCons (tC (.str "places")) (tCons (tC (.str "most")) (tCons (tC (.str "share")) (tCons (tC (.str "none")) tNil))))))))))))) (gName 2))
  (tSeq (tAsg (tOp (rPlus K) (tVar 2) (tLst (tCons (tC (.str "unknown")) (tCons (tC (.str "tree")) (tCons (tC (.str "one hand")) (tCons (tC (.str "no quick")) (tCons (tC (.str "events")) (tCons (tC (.str "")) tNil)))))))) (gName 2))
  (tRet (tOp (rIx K) (tVar 2) (tOp (rMod) (tCB (rIntC) (tCons (tOp (rIx K) (tVar 0) (tVar 1)) tNil)) (tC (.int 18)))))))
theorem tm_l_word (T : Tx K mg) {f : Addr} {cdv : Value} {A : Around} {outer : List Env} {s : Shared} {H : Hp} {E : XK}
    (hr : Room 0 (A.deeper (envOfC "_law_word" (defScope s_l_word) s.heap.objs.size f cdv))) :
    PSs (cxOf CX0 P w K mg base N_l_word "_law_word" (defScope s_l_word) f cdv A outer s H E).nox (defBody s_l_word) (rd_l_word K  ) :=
  (pss_cons (ps_set (i := 2) sc_l_word.nd rfl (by first | exact Or.inl rfl | exact Or.inr rfl) (pe_lst (pa_cons pe_str (pa_cons pe_str (pa_cons pe_str (pa_cons pe_str (pa_cons pe_str (pa_cons pe_str (pa_cons pe_str (pa_cons pe_str (pa_cons pe_str (pa_cons pe_str (pa_cons pe_str (pa_cons pe_str pa_nil))))))))))))))
      (pss_cons (ps_set (i := 2) sc_l_word.nd rfl (by first | exact Or.inl rfl | exact Or.inr rfl) (pe_op op_plus (pv 2) (pe_lst (pa_cons pe_str (pa_cons pe_str (pa_cons pe_str (pa_cons pe_str (pa_cons pe_str (pa_cons pe_str pa_nil)))))))))
      (pss_one (ps_ret (pe_ix ix_seq (pv 2) (pe_op op_modU (pe_callTy call_intU (by rfl) T.f_int (by decide +kernel) (pa_cons (pe_ix ix_seq (pv 0) (pv 1) (fun _ _ => rfl)) pa_nil)) pe_int) (fun _ _ => rfl))))))
def rd_l_number (K : PySem.W.Frag) : TS :=
  (tSeq (tAsg (tOp (rMod) (tCB (rIntC) (tCons (tOp (rIx K) (tVar 0) (tVar 1)) tNil)) (tC (.int 4))) (gName 2))
  (tSeq (tIfS (tTest (tOp (rEqU K) (tVar 2) (tC (.int 1)))) (tRet (tOp (rMinus) (tUn (rU fun i => .int (-i)) (tC (.int 1))) (tCB (rIntC) (tCons (tOp (rIx K) (tVar 0) (tOp (rPlus K) (tVar 1) (tC (.int 1)))) tNil)))) tNext)
  (tSeq (tIfS (tTest (tOp (rEqU K) (tVar 2) (tC (.int 2)))) (tRet (tOp (rPlus K) (tOp (rTimes) (tOp (rPow) (tC (.int 10)) (tC (.int 27))) (tOp (rPlus K) (tC (.int 1)) (tCB (rIntC) (tCons (tOp (rIx K) (tVar 0) (tOp (rPlus K) (tVar 1) (tC (.int 1)))) tNil)))) (tCB (rIntC) (tCons (tOp (rIx K) (tVar 0) (tVar 1)) tNil)))) tNext)
  (tRet (tCB (rIntC) (tCons (tOp (rIx K) (tVar 0) (tOp (rPlus K) (tVar 1) (tC (.int 1)))) tNil))))))
theorem tm_l_number (T : Tx K mg) {f : Addr} {cdv : Value} {A : Around} {outer : List Env} {s : Shared} {H : Hp} {E : XK}
    (hr : Room 0 (A.deeper (envOfC "_law_number" (defScope s_l_number) s.heap.objs.size f cdv))) :
    PSs (cxOf CX0 P w K mg base N_l_number "_law_number" (defScope s_l_number) f cdv A outer s H E).nox (defBody s_l_number) (rd_l_number K  ) :=
  (pss_cons (ps_set (i := 2) sc_l_number.nd rfl (by first | exact Or.inl rfl | exact Or.inr rfl) (pe_op op_modU (pe_callTy call_intU (by rfl) T.f_int (by decide +kernel) (pa_cons (pe_ix ix_seq (pv 0) (pv 1) (fun _ _ => rfl)) pa_nil)) pe_int))
      (pss_cons (ps_if (pt_cmpR (op_eqU hr) (pv 2) pe_int (nomark _)) (pss_one (ps_ret (pe_op op_minus (pe_un un_neg pe_int) (pe_callTy call_intU (by rfl) T.f_int (by decide +kernel) (pa_cons (pe_ix ix_seq (pv 0) (pe_op op_plus (pv 1) pe_int) (fun _ _ => rfl)) pa_nil))))) pss_nil)
      (pss_cons (ps_if (pt_cmpR (op_eqU hr) (pv 2) pe_int (nomark _)) (pss_one (ps_ret (pe_op op_plus (pe_op op_times (pe_op op_powU pe_int pe_int) (pe_op op_plus pe_int (pe_callTy call_intU (by rfl) T.f_int (by decide +kernel) (pa_cons (pe_ix ix_seq (pv 0) (pe_op op_plus (pv 1) pe_int) (fun _ _ => rfl)) pa_nil)))) (pe_callTy call_intU (by rfl) T.f_int (by decide +kernel) (pa_cons (pe_ix ix_seq (pv 0) (pv 1) (fun _ _ => rfl)) pa_nil))))) pss_nil)
      (pss_one (ps_ret (pe_callTy call_intU (by rfl) T.f_int (by decide +kernel) (pa_cons (pe_ix ix_seq (pv 0) (pe_op op_plus (pv 1) pe_int) (fun _ _ => rfl)) pa_nil)))))))
def rd_l_fields_of (K : PySem.W.Frag) (sp_l_word sp_l_number : Sp) : TS :=
  (tSeq (tAsg (tLc (iRng1 (tCons (tC (.int 7)) tNil)) (gName 5) tYes (tCall sp_l_word [] E0 (tCons (tVar 0) (tCons (tOp (rPlus K) (tVar 1) (tVar 5)) tNil))) [5]) (gName 2))
  (tSeq (tAsg (tLc (iRng1 (tCons (tC (.int 9)) tNil)) (gName 5) tYes (tCall sp_l_number [] E0 (tCons (tVar 0) (tCons (tOp (rPlus K) (tOp (rPlus K) (tVar 1) (tC (.int 7))) (tOp (rTimes) (tC (.int 2)) (tVar 5))) tNil))) [5]) (gName 3))
  (tSeq (tAsg (tLst (tCons (tTup (tCons (tOp (rIx K) (tVar 2) (tC (.int 0))) (tCons (tOp (rIx K) (tVar 3) (tC (.int 0))) tNil))) (tCons (tTup (tCons (tOp (rIx K) (tVar 3) (tC (.int 1))) tNil)) (tCons (tTup (tCons (tOp (rIx K) (tVar 2) (tC (.int 1))) (tCons (tOp (rIx K) (tVar 3) (tC (.int 2))) tNil))) (tCons (tTup (tCons (tOp (rIx K) (tVar 3) (tC (.int 3))) (tCons (tOp (rIx K) (tVar 2) (tC (.int 2))) tNil))) (tCons (tTup (tCons (tOp (rIx K) (tVar 2) (tC (.int 3))) tNil)) tNil)))))) (gName 4))
  (tSeq (tAsg (tOp (rPlus K) (tVar 4) (tLst (tCons (tTup (tCons (tOp (rIx K) (tVar 2) (tC (.int 4))) tNil)) (tCons (tTup (tCons (tOp (rIx K) (tVar 2) (tC (.int 5))) tNil)) (tCons (tTup (tCons (tOp (rIx K) (tVar 3) (tC (.int 4))) tNil)) (tCons (tTup (tCons (tOp (rIx K) (tVar 3) (tC (.int 5))) tNil)) (tCons (tTup (tCons (tOp (rIx K) (tVar 3) (tC (.int 6))) (tCons (tOp (rIx K) (tVar 3) (tC (.int 7))) tNil))) (tCons (tTup (tCons (tOp (rIx K) (tVar 2) (tC (.int 6))) tNil)) tNil)))))))) (gName 4))
  (tRet (tOp (rPlus K) (tVar 4) (tLst (tCons (tTup (tCons (tOp (rIx K) (tVar 3) (tC (.int 8))) tNil)) (tCons (tTup tNil) (tCons (tTup tNil) (tCons (tTup tNil) (tCons (tTup tNil) (tCons (tTup tNil) (tCons (tTup tNil) (tCons (tTup tNil) (tCons (tTup tNil) tNil))))))))))))))))
theorem tm_l_fields_of {sp_l_word sp_l_number : Sp} (T : Tx K mg) (G_l_word : Df P w K mg base "_law_word" 1 [] sp_l_word) (G_l_number : Df P w K mg base "_law_number" 1 [] sp_l_number) {f : Addr} {cdv : Value} {A : Around} {outer : List Env} {s : Shared} {H : Hp} {E : XK}
    (hr : Room 1 (A.deeper (envOfC "_law_fields_of" (defScope s_l_fields_of) s.heap.objs.size f cdv))) :
    PSs (cxOf CX0 P w K mg base N_l_fields_of "_law_fields_of" (defScope s_l_fields_of) f cdv A outer s H E).nox (defBody s_l_fields_of) (rd_l_fields_of K sp_l_word sp_l_number ) :=
  (pss_cons (ps_setLc (i := 2) (own := [(("k" : Str), 5)]) (wi := (iRng1 (tCons (tC (.int 7)) tNil))) (g := (gName 5)) (tt := tYes) (te := (tCall sp_l_word [] E0 (tCons (tVar 0) (tCons (tOp (rPlus K) (tVar 1) (tVar 5)) tNil)))) rfl sc_l_fields_of.nd rfl rfl (sw_true rfl rfl rfl (by decide +kernel)) (pi_range1 (by rfl) T.f_range (pa_cons pe_int pa_nil)) (blkOk_by (N := N_l_fields_of) (sc := defScope s_l_fields_of) (by decide +kernel)) (fun _ _ _ _ _ => (pg_name (i := 5) sc_l_fields_of.nd rfl (by first | exact Or.inl rfl | exact Or.inr rfl))) (fun _ _ _ _ _ => pts_nil) (fun _ _ _ _ _ => (pe_df G_l_word (hr.mono (by decide)) (by rfl) (pa_cons (pv 0) (pa_cons (pe_op op_plus (pv 1) (pv 5)) pa_nil)))))
      (pss_cons (ps_setLc (i := 3) (own := [(("k" : Str), 5)]) (wi := (iRng1 (tCons (tC (.int 9)) tNil))) (g := (gName 5)) (tt := tYes) (te := (tCall sp_l_number [] E0 (tCons (tVar 0) (tCons (tOp (rPlus K) (tOp (rPlus K) (tVar 1) (tC (.int 7))) (tOp (rTimes) (tC (.int 2)) (tVar 5))) tNil)))) rfl sc_l_fields_of.nd rfl rfl (sw_true rfl rfl rfl (by decide +kernel)) (pi_range1 (by rfl) T.f_range (pa_cons pe_int pa_nil)) (blkOk_by (N := N_l_fields_of) (sc := defScope s_l_fields_of) (by decide +kernel)) (fun _ _ _ _ _ => (pg_name (i := 5) sc_l_fields_of.nd rfl (by first | exact Or.inl rfl | exact Or.inr rfl))) (fun _ _ _ _ _ => pts_nil) (fun _ _ _ _ _ => (pe_df G_l_number (hr.mono (by decide)) (by rfl) (pa_cons (pv 0) (pa_cons (pe_op op_plus (pe_op op_plus (pv 1) pe_int) (pe_op op_times pe_int (pv 5))) pa_nil)))))
      (pss_cons (ps_set (i := 4) sc_l_fields_of.nd rfl (by first | exact Or.inl rfl | exact Or.inr rfl) (pe_lst (pa_cons (pe_tup (pa_cons (pe_ix ix_seq (pv 2) pe_int (fun _ _ => rfl)) (pa_cons (pe_ix ix_seq (pv 3) pe_int (fun _ _ => rfl)) pa_nil))) (pa_cons (pe_tup (pa_cons (pe_ix ix_seq (pv 3) pe_int (fun _ _ => rfl)) pa_nil)) (pa_cons (pe_tup (pa_cons (pe_ix ix_seq (pv 2) pe_int (fun _ _ => rfl)) (pa_cons (pe_ix ix_seq (pv 3) pe_int (fun _ _ => rfl)) pa_nil))) (pa_cons (pe_tup (pa_cons (pe_ix ix_seq (pv 3) pe_int (fun _ _ => rfl)) (pa_cons (pe_ix ix_seq (pv 2) pe_int (fun _ _ => rfl)) pa_nil))) (pa_cons (pe_tup (pa_cons (pe_ix ix_seq (pv 2) pe_int (fun _ _ => rfl)) pa_nil)) pa_nil)))))))
      (pss_cons (ps_set (i := 4) sc_l_fields_of.nd rfl (by first | exact Or.inl rfl | exact Or.inr rfl) (pe_op op_plus (pv 4) (pe_lst (pa_cons (pe_tup (pa_cons (pe_ix ix_seq (pv 2) pe_int (fun _ _ => rfl)) pa_nil)) (pa_cons (pe_tup (pa_cons (pe_ix ix_seq (pv 2) pe_int (fun _ _ => rfl)) pa_nil)) (pa_cons (pe_tup (pa_cons (pe_ix ix_seq (pv 3) pe_int (fun _ _ => rfl)) pa_nil)) (pa_cons (pe_tup (pa_cons (pe_ix ix_seq (pv 3) pe_int (fun _ _ => rfl)) pa_nil)) (pa_cons (pe_tup (pa_cons (pe_ix ix_seq (pv 3) pe_int (fun _ _ => rfl)) (pa_cons (pe_ix ix_seq (pv 3) pe_int (fun _ _ => rfl)) pa_nil))) (pa_cons (pe_tup (pa_cons (pe_ix ix_seq (pv 2) pe_int (fun _ _ => rfl)) pa_nil)) pa_nil)))))))))
      (pss_one (ps_ret (pe_op op_plus (pv 4) (pe_lst (pa_cons (pe_tup (pa_cons (pe_ix ix_seq (pv 3) pe_int (fun _ _ => rfl)) pa_nil)) (pa_cons (pe_tup pa_nil) (pa_cons (pe_tup pa_nil) (pa_cons (pe_tup pa_nil) (pa_cons (pe_tup pa_nil) (pa_cons (pe_tup pa_nil) (pa_cons (pe_tup pa_nil) (pa_cons (pe_tup pa_nil) (pa_cons (pe_tup pa_nil) pa_nil)))))))))))))))))
def rd_l_made (K : PySem.W.Frag) : TS :=
  (tSeq (tAsg (tLst (tCons (tMkX (gA K "BadTable") (spX2 (gA K "BadTable") "place" "index") (tCons (tOp (rIx K) (tOp (rIx K) (tVar 0) (tC (.int 0))) (tC (.int 0))) (tCons (tOp (rIx K) (tOp (rIx K) (tVar 0) (tC (.int 0))) (tC (.int 1))) tNil))) (tCons (tMkX (gA K "BadText") (spX1 (gA K "BadText") "line") (tCons (tOp (rIx K) (tOp (rIx K) (tVar 0) (tC (.int 1))) (tC (.int 0))) tNil)) (tCons (tMkX (gA K "BadStanding") (spX2 (gA K "BadStanding") "place" "index") (tCons (tOp (rIx K) (tOp (rIx K) (tVar 0) (tC (.int 2))) (tC (.int 0))) (tCons (tOp (rIx K) (tOp (rIx K) (tVar 0) (tC (.int 2))) (tC (.int 1))) tNil))) tNil)))) (gName 1))
  (tSeq (tAsg (tOp (rPlus K) (tVar 1) (tLst (tCons (tMkX (gA K "CannotMove") (spX2 (gA K "CannotMove") "index" "reason") (tCons (tOp (rIx K) (tOp (rIx K) (tVar 0) (tC (.int 3))) (tC (.int 0))) (tCons (tOp (rIx K) (tOp (rIx K) (tVar 0) (tC (.int 3))) (tC (.int 1))) tNil))) (tCons (tMkX (gA K "NoSuch") (spX1 (gA K "NoSuch") "what") (tCons (tOp (rIx K) (tOp (rIx K) (tVar 0) (tC (.int 4))) (tC (.int 0))) tNil)) (tCons (tMkX (gA K "WrongGround") (spX1 (gA K "WrongGround") "needed") (tCons (tOp (rIx K) (tOp (rIx K) (tVar 0) (tC (.int 5))) (tC (.int 0))) tNil)) tNil))))) (gName 1))
  (tSeq (tAsg (tOp (rPlus K) (tVar 1) (tLst (tCons (tMkX (gA K "TooGreat") (spX1 (gA K "TooGreat") "what") (tCons (tOp (rIx K) (tOp (rIx K) (tVar 0) (tC (.int 6))) (tC (.int 0))) tNil)) (tCons (tMkX (gA K "BadVector") (spX1 (gA K "BadVector") "index") (tCons (tOp (rIx K) (tOp (rIx K) (tVar 0) (tC (.int 7))) (tC (.int 0))) tNil)) (tCons (tMkX (gA K "NotLocal") (spX1 (gA K "NotLocal") "kind") (tCons (tOp (rIx K) (tOp (rIx K) (tVar 0) (tC (.int 8))) (tC (.int 0))) tNil)) tNil))))) (gName 1))
  (tSeq (tAsg (tOp (rPlus K) (tVar 1) (tLst (tCons (tMkX (gA K "BadProgram") (spX2 (gA K "BadProgram") "line" "word") (tCons (tOp (rIx K) (tOp (rIx K) (tVar 0) (tC (.int 9))) (tC (.int 0))) (tCons (tOp (rIx K) (tOp (rIx K) (tVar 0) (tC (.int 9))) (tC (.int 1))) tNil))) (tCons (tMkX (gA K "InUse") (spX1 (gA K "InUse") "what") (tCons (tOp (rIx K) (tOp (rIx K) (tVar 0) (tC (.int 10))) (tC (.int 0))) tNil)) (tCons (tMkX (gA K "AttemptFailed") (spX1 (gA K "AttemptFailed") "index") (tCons (tOp (rIx K) (tOp (rIx K) (tVar 0) (tC (.int 11))) (tC (.int 0))) tNil)) tNil))))) (gName 1))
  (tSeq (tAsg (tOp (rPlus K) (tVar 1) (tLst (tCons (tMkX0 (gA K "BadLot")) (tCons (tMkX0 (gA K "BadDealing")) (tCons (tMkX0 (gA K "NotCore")) (tCons (tMkX0 (gA K "BadLoads")) (tCons (tMkX0 (gA K "Impossible")) (tCons (tMkX0 (gA K "BadLine")) tNil)))))))) (gName 1))
  (tRet (tOp (rPlus K) (tVar 1) (tLst (tCons (tMkX0 (gA K "NothingToUndo")) (tCons (tMkX0 (gA K "NothingToRedo")) tNil))))))))))
theorem tm_l_made (T : Tx K mg) {f : Addr} {cdv : Value} {A : Around} {outer : List Env} {s : Shared} {H : Hp} {E : XK}
    (hr : Room 2 (A.deeper (envOfC "_law_made" (defScope s_l_made) s.heap.objs.size f cdv))) :
    PSs (cxOf CX0 P w K mg base N_l_made "_law_made" (defScope s_l_made) f cdv A outer s H E).nox (defBody s_l_made) (rd_l_made K  ) :=
  (pss_cons (ps_set (i := 1) sc_l_made.nd rfl (by first | exact Or.inl rfl | exact Or.inr rfl) (pe_lst (pa_cons (pe_mkX (dx_BadTable T) (hr.mono (by decide)) (by rfl) (pa_cons (pe_ix ix_seq (pe_ix ix_seq (pv 0) pe_int (fun _ _ => rfl)) pe_int (fun _ _ => rfl)) (pa_cons (pe_ix ix_seq (pe_ix ix_seq (pv 0) pe_int (fun _ _ => rfl)) pe_int (fun _ _ => rfl)) pa_nil))) (pa_cons (pe_mkX (dx_BadText T) (hr.mono (by decide)) (by rfl) (pa_cons (pe_ix ix_seq (pe_ix ix_seq (pv 0) pe_int (fun _ _ => rfl)) pe_int (fun _ _ => rfl)) pa_nil)) (pa_cons (pe_mkX (dx_BadStanding T) (hr.mono (by decide)) (by rfl) (pa_cons (pe_ix ix_seq (pe_ix ix_seq (pv 0) pe_int (fun _ _ => rfl)) pe_int (fun _ _ => rfl)) (pa_cons (pe_ix ix_seq (pe_ix ix_seq (pv 0) pe_int (fun _ _ => rfl)) pe_int (fun _ _ => rfl)) pa_nil))) pa_nil)))))
      (pss_cons (ps_set (i := 1) sc_l_made.nd rfl (by first | exact Or.inl rfl | exact Or.inr rfl) (pe_op op_plus (pv 1) (pe_lst (pa_cons (pe_mkX (dx_CannotMove T) (hr.mono (by decide)) (by rfl) (pa_cons (pe_ix ix_seq (pe_ix ix_seq (pv 0) pe_int (fun _ _ => rfl)) pe_int (fun _ _ => rfl)) (pa_cons (pe_ix ix_seq (pe_ix ix_seq (pv 0) pe_int (fun _ _ => rfl)) pe_int (fun _ _ => rfl)) pa_nil))) (pa_cons (pe_mkX (dx_NoSuch T) (hr.mono (by decide)) (by rfl) (pa_cons (pe_ix ix_seq (pe_ix ix_seq (pv 0) pe_int (fun _ _ => rfl)) pe_int (fun _ _ => rfl)) pa_nil)) (pa_cons (pe_mkX (dx_WrongGround T) (hr.mono (by decide)) (by rfl) (pa_cons (pe_ix ix_seq (pe_ix ix_seq (pv 0) pe_int (fun _ _ => rfl)) pe_int (fun _ _ => rfl)) pa_nil)) pa_nil))))))
      (pss_cons (ps_set (i := 1) sc_l_made.nd rfl (by first | exact Or.inl rfl | exact Or.inr rfl) (pe_op op_plus (pv 1) (pe_lst (pa_cons (pe_mkX (dx_TooGreat T) (hr.mono (by decide)) (by rfl) (pa_cons (pe_ix ix_seq (pe_ix ix_seq (pv 0) pe_int (fun _ _ => rfl)) pe_int (fun _ _ => rfl)) pa_nil)) (pa_cons (pe_mkX (dx_BadVector T) (hr.mono (by decide)) (by rfl) (pa_cons (pe_ix ix_seq (pe_ix ix_seq (pv 0) pe_int (fun _ _ => rfl)) pe_int (fun _ _ => rfl)) pa_nil)) (pa_cons (pe_mkX (dx_NotLocal T) (hr.mono (by decide)) (by rfl) (pa_cons (pe_ix ix_seq (pe_ix ix_seq (pv 0) pe_int (fun _ _ => rfl)) pe_int (fun _ _ => rfl)) pa_nil)) pa_nil))))))
      (pss_cons (ps_set (i := 1) sc_l_made.nd rfl (by first | exact Or.inl rfl | exact Or.inr rfl) (pe_op op_plus (pv 1) (pe_lst (pa_cons (pe_mkX (dx_BadProgram T) (hr.mono (by decide)) (by rfl) (pa_cons (pe_ix ix_seq (pe_ix ix_seq (pv 0) pe_int (fun _ _ => rfl)) pe_int (fun _ _ => rfl)) (pa_cons (pe_ix ix_seq (pe_ix ix_seq (pv 0) pe_int (fun _ _ => rfl)) pe_int (fun _ _ => rfl)) pa_nil))) (pa_cons (pe_mkX (dx_InUse T) (hr.mono (by decide)) (by rfl) (pa_cons (pe_ix ix_seq (pe_ix ix_seq (pv 0) pe_int (fun _ _ => rfl)) pe_int (fun _ _ => rfl)) pa_nil)) (pa_cons (pe_mkX (dx_AttemptFailed T) (hr.mono (by decide)) (by rfl) (pa_cons (pe_ix ix_seq (pe_ix ix_seq (pv 0) pe_int (fun _ _ => rfl)) pe_int (fun _ _ => rfl)) pa_nil)) pa_nil))))))
      (pss_cons (ps_set (i := 1) sc_l_made.nd rfl (by first | exact Or.inl rfl | exact Or.inr rfl) (pe_op op_plus (pv 1) (pe_lst (pa_cons (pe_mkX0 ⟨T.x_BadLot, T.g_BadLot, T.e_BadLot⟩ (by rfl)) (pa_cons (pe_mkX0 ⟨T.x_BadDealing, T.g_BadDealing, T.e_BadDealing⟩ (by rfl)) (pa_cons (pe_mkX0 ⟨T.x_NotCore, T.g_NotCore, T.e_NotCore⟩ (by rfl)) (pa_cons (pe_mkX0 ⟨T.x_BadLoads, T.g_BadLoads, T.e_BadLoads⟩ (by rfl)) (pa_cons (pe_mkX0 ⟨T.x_Impossible, T.g_Impossible, T.e_Impossible⟩ (by rfl)) (pa_cons (pe_mkX0 ⟨T.x_BadLine, T.g_BadLine, T.e_BadLine⟩ (by rfl)) pa_nil)))))))))
      (pss_one (ps_ret (pe_op op_plus (pv 1) (pe_lst (pa_cons (pe_mkX0 ⟨T.x_NothingToUndo, T.g_NothingToUndo, T.e_NothingToUndo⟩ (by rfl)) (pa_cons (pe_mkX0 ⟨T.x_NothingToRedo, T.g_NothingToRedo, T.e_NothingToRedo⟩ (by rfl)) pa_nil)))))))))))
def rd_l_read (K : PySem.W.Frag) : TS :=
  (tSeq (tAsg (tLst (tCons (tTup (tCons (tAt K (tOp (rIx K) (tVar 0) (tC (.int 0))) "place") (tCons (tAt K (tOp (rIx K) (tVar 0) (tC (.int 0))) "index") tNil))) (tCons (tTup (tCons (tAt K (tOp (rIx K) (tVar 0) (tC (.int 1))) "line") tNil)) (tCons (tTup (tCons (tAt K (tOp (rIx K) (tVar 0) (tC (.int 2))) "place") (tCons (tAt K (tOp (rIx K) (tVar 0) (tC (.int 2))) "index") tNil))) tNil)))) (gName 1))
  (tSeq (tAsg (tOp (rPlus K) (tVar 1) (tLst (tCons (tTup (tCons (tAt K (tOp (rIx K) (tVar 0) (tC (.int 3))) "index") (tCons (tAt K (tOp (rIx K) (tVar 0) (tC (.int 3))) "reason") tNil))) (tCons (tTup (tCons (tAt K (tOp (rIx K) (tVar 0) (tC (.int 4))) "what") tNil)) (tCons (tTup (tCons (tAt K (tOp (rIx K) (tVar 0) (tC (.int 5))) "needed") tNil)) (tCons (tTup (tCons (tAt K (tOp (rIx K) (tVar 0) (tC (.int 6))) "what") tNil)) tNil)))))) (gName 1))
  (tSeq (tAsg (tOp (rPlus K) (tVar 1) (tLst (tCons (tTup (tCons (tAt K (tOp (rIx K) (tVar 0) (tC (.int 7))) "index") tNil)) (tCons (tTup (tCons (tAt K (tOp (rIx K) (tVar 0) (tC (.int 8))) "kind") tNil)) (tCons (tTup (tCons (tAt K (tOp (rIx K) (tVar 0) (tC (.int 9))) "line") (tCons (tAt K (tOp (rIx K) (tVar 0) (tC (.int 9))) "word") tNil))) (tCons (tTup (tCons (tAt K (tOp (rIx K) (tVar 0) (tC (.int 10))) "what") tNil)) tNil)))))) (gName 1))
  (tRet (tOp (rPlus K) (tVar 1) (tLst (tCons (tTup (tCons (tAt K (tOp (rIx K) (tVar 0) (tC (.int 11))) "index") tNil)) (tCons (tTup tNil) (tCons (tTup tNil) (tCons (tTup tNil) (tCons (tTup tNil) (tCons (tTup tNil) (tCons (tTup tNil) (tCons (tTup tNil) (tCons (tTup tNil) tNil)))))))))))))))
theorem tm_l_read (T : Tx K mg) {f : Addr} {cdv : Value} {A : Around} {outer : List Env} {s : Shared} {H : Hp} {E : XK}
    (hr : Room 0 (A.deeper (envOfC "_law_read" (defScope s_l_read) s.heap.objs.size f cdv))) :
    PSs (cxOf CX0 P w K mg base N_l_read "_law_read" (defScope s_l_read) f cdv A outer s H E).nox (defBody s_l_read) (rd_l_read K  ) :=
  (pss_cons (ps_set (i := 1) sc_l_read.nd rfl (by first | exact Or.inl rfl | exact Or.inr rfl) (pe_lst (pa_cons (pe_tup (pa_cons (pe_at (pe_ix ix_seq (pv 0) pe_int (fun _ _ => rfl))) (pa_cons (pe_at (pe_ix ix_seq (pv 0) pe_int (fun _ _ => rfl))) pa_nil))) (pa_cons (pe_tup (pa_cons (pe_at (pe_ix ix_seq (pv 0) pe_int (fun _ _ => rfl))) pa_nil)) (pa_cons (pe_tup (pa_cons (pe_at (pe_ix ix_seq (pv 0) pe_int (fun _ _ => rfl))) (pa_cons (pe_at (pe_ix ix_seq (pv 0) pe_int (fun _ _ => rfl))) pa_nil))) pa_nil)))))
      (pss_cons (ps_set (i := 1) sc_l_read.nd rfl (by first | exact Or.inl rfl | exact Or.inr rfl) (pe_op op_plus (pv 1) (pe_lst (pa_cons (pe_tup (pa_cons (pe_at (pe_ix ix_seq (pv 0) pe_int (fun _ _ => rfl))) (pa_cons (pe_at (pe_ix ix_seq (pv 0) pe_int (fun _ _ => rfl))) pa_nil))) (pa_cons (pe_tup (pa_cons (pe_at (pe_ix ix_seq (pv 0) pe_int (fun _ _ => rfl))) pa_nil)) (pa_cons (pe_tup (pa_cons (pe_at (pe_ix ix_seq (pv 0) pe_int (fun _ _ => rfl))) pa_nil)) (pa_cons (pe_tup (pa_cons (pe_at (pe_ix ix_seq (pv 0) pe_int (fun _ _ => rfl))) pa_nil)) pa_nil)))))))
      (pss_cons (ps_set (i := 1) sc_l_read.nd rfl (by first | exact Or.inl rfl | exact Or.inr rfl) (pe_op op_plus (pv 1) (pe_lst (pa_cons (pe_tup (pa_cons (pe_at (pe_ix ix_seq (pv 0) pe_int (fun _ _ => rfl))) pa_nil)) (pa_cons (pe_tup (pa_cons (pe_at (pe_ix ix_seq (pv 0) pe_int (fun _ _ => rfl))) pa_nil)) (pa_cons (pe_tup (pa_cons (pe_at (pe_ix ix_seq (pv 0) pe_int (fun _ _ => rfl))) (pa_cons (pe_at (pe_ix ix_seq (pv 0) pe_int (fun _ _ => rfl))) pa_nil))) (pa_cons (pe_tup (pa_cons (pe_at (pe_ix ix_seq (pv 0) pe_int (fun _ _ => rfl))) pa_nil)) pa_nil)))))))
      (pss_one (ps_ret (pe_op op_plus (pv 1) (pe_lst (pa_cons (pe_tup (pa_cons (pe_at (pe_ix ix_seq (pv 0) pe_int (fun _ _ => rfl))) pa_nil)) (pa_cons (pe_tup pa_nil) (pa_cons (pe_tup pa_nil) (pa_cons (pe_tup pa_nil) (pa_cons (pe_tup pa_nil) (pa_cons (pe_tup pa_nil) (pa_cons (pe_tup pa_nil) (pa_cons (pe_tup pa_nil) (pa_cons (pe_tup pa_nil) pa_nil))))))))))))))))
def rd_l_classes_of (K : PySem.W.Frag) : TS :=
  (tSeq (tAsg (tLst (tCons (tCB (rIsiU K) (tCons (tVar 0) (tCons (tC (.ref (gA K "BadTable"))) tNil))) (tCons (tCB (rIsiU K) (tCons (tVar 0) (tCons (tC (.ref (gA K "BadText"))) tNil))) (tCons (tCB (rIsiU K) (tCons (tVar 0) (tCons (tC (.ref (gA K "BadStanding"))) tNil))) (tCons (tCB (rIsiU K) (tCons (tVar 0) (tCons (tC (.ref (gA K "CannotMove"))) tNil))) tNil))))) (gName 1))
  (tSeq (tAsg (tOp (rPlus K) (tVar 1) (tLst (tCons (tCB (rIsiU K) (tCons (tVar 0) (tCons (tC (.ref (gA K "NoSuch"))) tNil))) (tCons (tCB (rIsiU K) (tCons (tVar 0) (tCons (tC (.ref (gA K "WrongGround"))) tNil))) (tCons (tCB (rIsiU K) (tCons (tVar 0) (tCons (tC (.ref (gA K "TooGreat"))) tNil))) (tCons (tCB (rIsiU K) (tCons (tVar 0) (tCons (tC (.ref (gA K "BadVector"))) tNil))) tNil)))))) (gName 1))
  (tSeq (tAsg (tOp (rPlus K) (tVar 1) (tLst (tCons (tCB (rIsiU K) (tCons (tVar 0) (tCons (tC (.ref (gA K "NotLocal"))) tNil))) (tCons (tCB (rIsiU K) (tCons (tVar 0) (tCons (tC (.ref (gA K "BadProgram"))) tNil))) (tCons (tCB (rIsiU K) (tCons (tVar 0) (tCons (tC (.ref (gA K "InUse"))) tNil))) tNil))))) (gName 1))
  (tSeq (tAsg (tOp (rPlus K) (tVar 1) (tLst (tCons (tCB (rIsiU K) (tCons (tVar 0) (tCons (tC (.ref (gA K "AttemptFailed"))) tNil))) (tCons (tCB (rIsiU K) (tCons (tVar 0) (tCons (tC (.ref (gA K "BadLot"))) tNil))) (tCons (tCB (rIsiU K) (tCons (tVar 0) (tCons (tC (.ref (gA K "BadDealing"))) tNil))) tNil))))) (gName 1))
  (tSeq (tAsg (tOp (rPlus K) (tVar 1) (tLst (tCons (tCB (rIsiU K) (tCons (tVar 0) (tCons (tC (.ref (gA K "NotCore"))) tNil))) (tCons (tCB (rIsiU K) (tCons (tVar 0) (tCons (tC (.ref (gA K "BadLoads"))) tNil))) (tCons (tCB (rIsiU K) (tCons (tVar 0) (tCons (tC (.ref (gA K "Impossible"))) tNil))) (tCons (tCB (rIsiU K) (tCons (tVar 0) (tCons (tC (.ref (gA K "BadLine"))) tNil))) tNil)))))) (gName 1))
  (tRet (tOp (rPlus K) (tVar 1) (tLst (tCons (tCB (rIsiU K) (tCons (tVar 0) (tCons (tC (.ref (gA K "NothingToUndo"))) tNil))) (tCons (tCB (rIsiU K) (tCons (tVar 0) (tCons (tC (.ref (gA K "NothingToRedo"))) tNil))) tNil))))))))))
theorem tm_l_classes_of (T : Tx K mg) {f : Addr} {cdv : Value} {A : Around} {outer : List Env} {s : Shared} {H : Hp} {E : XK}
    (hr : Room 0 (A.deeper (envOfC "_law_classes_of" (defScope s_l_classes_of) s.heap.objs.size f cdv))) :
    PSs (cxOf CX0 P w K mg base N_l_classes_of "_law_classes_of" (defScope s_l_classes_of) f cdv A outer s H E).nox (defBody s_l_classes_of) (rd_l_classes_of K  ) :=
  (pss_cons (ps_set (i := 1) sc_l_classes_of.nd rfl (by first | exact Or.inl rfl | exact Or.inr rfl) (pe_lst (pa_cons (pe_callB call_isiU (by rfl) T.f_isinstance boot_isinstance (pa_cons (pv 0) (pa_cons (pe_glob (v := .ref (gA K "BadTable")) (by rfl) T.g_BadTable rfl) pa_nil))) (pa_cons (pe_callB call_isiU (by rfl) T.f_isinstance boot_isinstance (pa_cons (pv 0) (pa_cons (pe_glob (v := .ref (gA K "BadText")) (by rfl) T.g_BadText rfl) pa_nil))) (pa_cons (pe_callB call_isiU (by rfl) T.f_isinstance boot_isinstance (pa_cons (pv 0) (pa_cons (pe_glob (v := .ref (gA K "BadStanding")) (by rfl) T.g_BadStanding rfl) pa_nil))) (pa_cons (pe_callB call_isiU (by rfl) T.f_isinstance boot_isinstance (pa_cons (pv 0) (pa_cons (pe_glob (v := .ref (gA K "CannotMove")) (by rfl) T.g_CannotMove rfl) pa_nil))) pa_nil))))))
      (pss_cons (ps_set (i := 1) sc_l_classes_of.nd rfl (by first | exact Or.inl rfl | exact Or.inr rfl) (pe_op op_plus (pv 1) (pe_lst (pa_cons (pe_callB call_isiU (by rfl) T.f_isinstance boot_isinstance (pa_cons (pv 0) (pa_cons (pe_glob (v := .ref (gA K "NoSuch")) (by rfl) T.g_NoSuch rfl) pa_nil))) (pa_cons (pe_callB call_isiU (by rfl) T.f_isinstance boot_isinstance (pa_cons (pv 0) (pa_cons (pe_glob (v := .ref (gA K "WrongGround")) (by rfl) T.g_WrongGround rfl) pa_nil))) (pa_cons (pe_callB call_isiU (by rfl) T.f_isinstance boot_isinstance (pa_cons (pv 0) (pa_cons (pe_glob (v := .ref (gA K "TooGreat")) (by rfl) T.g_TooGreat rfl) pa_nil))) (pa_cons (pe_callB call_isiU (by rfl) T.f_isinstance boot_isinstance (pa_cons (pv 0) (pa_cons (pe_glob (v := .ref (gA K "BadVector")) (by rfl) T.g_BadVector rfl) pa_nil))) pa_nil)))))))
      (pss_cons (ps_set (i := 1) sc_l_classes_of.nd rfl (by first | exact Or.inl rfl | exact Or.inr rfl) (pe_op op_plus (pv 1) (pe_lst (pa_cons (pe_callB call_isiU (by rfl) T.f_isinstance boot_isinstance (pa_cons (pv 0) (pa_cons (pe_glob (v := .ref (gA K "NotLocal")) (by rfl) T.g_NotLocal rfl) pa_nil))) (pa_cons (pe_callB call_isiU (by rfl) T.f_isinstance boot_isinstance (pa_cons (pv 0) (pa_cons (pe_glob (v := .ref (gA K "BadProgram")) (by rfl) T.g_BadProgram rfl) pa_nil))) (pa_cons (pe_callB call_isiU (by rfl) T.f_isinstance boot_isinstance (pa_cons (pv 0) (pa_cons (pe_glob (v := .ref (gA K "InUse")) (by rfl) T.g_InUse rfl) pa_nil))) pa_nil))))))
      (pss_cons (ps_set (i := 1) sc_l_classes_of.nd rfl (by first | exact Or.inl rfl | exact Or.inr rfl) (pe_op op_plus (pv 1) (pe_lst (pa_cons (pe_callB call_isiU (by rfl) T.f_isinstance boot_isinstance (pa_cons (pv 0) (pa_cons (pe_glob (v := .ref (gA K "AttemptFailed")) (by rfl) T.g_AttemptFailed rfl) pa_nil))) (pa_cons (pe_callB call_isiU (by rfl) T.f_isinstance boot_isinstance (pa_cons (pv 0) (pa_cons (pe_glob (v := .ref (gA K "BadLot")) (by rfl) T.g_BadLot rfl) pa_nil))) (pa_cons (pe_callB call_isiU (by rfl) T.f_isinstance boot_isinstance (pa_cons (pv 0) (pa_cons (pe_glob (v := .ref (gA K "BadDealing")) (by rfl) T.g_BadDealing rfl) pa_nil))) pa_nil))))))
      (pss_cons (ps_set (i := 1) sc_l_classes_of.nd rfl (by first | exact Or.inl rfl | exact Or.inr rfl) (pe_op op_plus (pv 1) (pe_lst (pa_cons (pe_callB call_isiU (by rfl) T.f_isinstance boot_isinstance (pa_cons (pv 0) (pa_cons (pe_glob (v := .ref (gA K "NotCore")) (by rfl) T.g_NotCore rfl) pa_nil))) (pa_cons (pe_callB call_isiU (by rfl) T.f_isinstance boot_isinstance (pa_cons (pv 0) (pa_cons (pe_glob (v := .ref (gA K "BadLoads")) (by rfl) T.g_BadLoads rfl) pa_nil))) (pa_cons (pe_callB call_isiU (by rfl) T.f_isinstance boot_isinstance (pa_cons (pv 0) (pa_cons (pe_glob (v := .ref (gA K "Impossible")) (by rfl) T.g_Impossible rfl) pa_nil))) (pa_cons (pe_callB call_isiU (by rfl) T.f_isinstance boot_isinstance (pa_cons (pv 0) (pa_cons (pe_glob (v := .ref (gA K "BadLine")) (by rfl) T.g_BadLine rfl) pa_nil))) pa_nil)))))))
      (pss_one (ps_ret (pe_op op_plus (pv 1) (pe_lst (pa_cons (pe_callB call_isiU (by rfl) T.f_isinstance boot_isinstance (pa_cons (pv 0) (pa_cons (pe_glob (v := .ref (gA K "NothingToUndo")) (by rfl) T.g_NothingToUndo rfl) pa_nil))) (pa_cons (pe_callB call_isiU (by rfl) T.f_isinstance boot_isinstance (pa_cons (pv 0) (pa_cons (pe_glob (v := .ref (gA K "NothingToRedo")) (by rfl) T.g_NothingToRedo rfl) pa_nil))) pa_nil)))))))))))
def rd_l_right (K : PySem.W.Frag) (sp_l_same sp_l_read sp_l_classes_of : Sp) : TS :=
  (tSeq (tIfS (tNot (tB (tCall sp_l_same [] E0 (tCons (tCall sp_l_read [] E0 (tCons (tVar 0) tNil)) (tCons (tVar 1) tNil))))) (tRet (tC (.bl false))) tNext)
  (tSeq (tFor (iRng1 (tCons (tC (.int 20)) tNil)) (gName 2) (tSeq (tIfS (tOr (tNot (tB (tCB (rIsiU K) (tCons (tOp (rIx K) (tVar 0) (tVar 2)) (tCons (tC (.ref (gA K "FullhandsError"))) tNil))))) (tNot (tB (tCB (rIsiU K) (tCons (tOp (rIx K) (tVar 0) (tVar 2)) (tCons (tC (.ty "ValueError")) tNil)))))) (tRet (tC (.bl false))) tNext)
  (tIfS (tTest (tOp (rNeU K) (tCall sp_l_classes_of [] E0 (tCons (tOp (rIx K) (tVar 0) (tVar 2)) tNil)) (tLc (iRng1 (tCons (tC (.int 20)) tNil)) (gName 3) tYes (tOp (rEqU K) (tVar 3) (tVar 2)) [3]))) (tRet (tC (.bl false))) tNext)))
  (tRet (tC (.bl true)))))
theorem tm_l_right {sp_l_same sp_l_read sp_l_classes_of : Sp} (T : Tx K mg) (G_l_same : Df P w K mg base "_law_same" 7 [] sp_l_same) (G_l_read : Df P w K mg base "_law_read" 1 [] sp_l_read) (G_l_classes_of : Df P w K mg base "_law_classes_of" 1 [] sp_l_classes_of) {f : Addr} {cdv : Value} {A : Around} {outer : List Env} {s : Shared} {H : Hp} {E : XK}
    (hr : Room 7 (A.deeper (envOfC "_law_right" (defScope s_l_right) s.heap.objs.size f cdv))) :
    PSs (cxOf CX0 P w K mg base N_l_right "_law_right" (defScope s_l_right) f cdv A outer s H E).nox (defBody s_l_right) (rd_l_right K sp_l_same sp_l_read sp_l_classes_of ) :=
  (pss_cons (ps_if (pt_not (pt_val (pe_df G_l_same (hr.mono (by decide)) (by rfl) (pa_cons (pe_df G_l_read (hr.mono (by decide)) (by rfl) (pa_cons (pv 0) pa_nil)) (pa_cons (pv 1) pa_nil))))) (pss_one (ps_ret pe_bl)) pss_nil)
      (pss_cons (ps_for PassesOwn.never rfl (pi_range1 (by rfl) T.f_range (pa_cons pe_int pa_nil)) (pg_name (i := 2) sc_l_right.nd rfl (by first | exact Or.inl rfl | exact Or.inr rfl)) (pss_cons (ps_if (PW.pt (pw_or (pt_not (pt_val (pe_callB call_isiU (by rfl) T.f_isinstance boot_isinstance (pa_cons (pe_ix ix_seq (pv 0) (pv 2) (fun _ _ => rfl)) (pa_cons (pe_glob (v := .ref (gA K "FullhandsError")) (by rfl) T.g_FullhandsError rfl) pa_nil))))) (pw_or1 (pt_not (pt_val (pe_callB call_isiU (by rfl) T.f_isinstance boot_isinstance (pa_cons (pe_ix ix_seq (pv 0) (pv 2) (fun _ _ => rfl)) (pa_cons (pe_bltn (v := .ty "ValueError") (by rfl) T.f_ValueError (by decide +kernel) rfl) pa_nil)))))))) (pss_one (ps_ret pe_bl)) pss_nil)
      (pss_one (ps_if (pt_cmpR (op_neU hr) (pe_df G_l_classes_of (hr.mono (by decide)) (by rfl) (pa_cons (pe_ix ix_seq (pv 0) (pv 2) (fun _ _ => rfl)) pa_nil)) (pe_lc (own := [(("j" : Str), 3)]) (wi := (iRng1 (tCons (tC (.int 20)) tNil))) (g := (gName 3)) (tt := tYes) (te := (tOp (rEqU K) (tVar 3) (tVar 2))) rfl sc_l_right.nd (pi_range1 (by rfl) T.f_range (pa_cons pe_int pa_nil)) (blkOk_by (N := N_l_right) (sc := defScope s_l_right) (by decide +kernel)) (fun _ _ _ _ _ => (pg_name (i := 3) sc_l_right.nd rfl (by first | exact Or.inl rfl | exact Or.inr rfl))) (fun _ _ _ _ _ => pts_nil) (fun _ _ _ _ _ => (pe_cmpR (op_eqU hr) (pv 3) (pv 2) (nomark _)))) (nomark _)) (pss_one (ps_ret pe_bl)) pss_nil))))
      (pss_one (ps_ret pe_bl))))
def rd_law (K : PySem.W.Frag) (sp_l_pool sp_l_fields_of sp_l_made sp_l_right : Sp) : TS :=
  (tSeq (tAsg (tCall sp_l_pool [] E0 (tCons (tVar 0) (tCons (tC (.int 60)) tNil))) (gName 1))
  (tSeq (tAsg (tCall sp_l_fields_of [] E0 (tCons (tVar 1) (tCons (tC (.int 0)) tNil))) (gName 2))
  (tSeq (tAsg (tCall sp_l_fields_of [] E0 (tCons (tVar 1) (tCons (tC (.int 30)) tNil))) (gName 3))
  (tSeq (tAsg (tCall sp_l_made [] E0 (tCons (tVar 2) tNil)) (gName 4))
  (tSeq (tIfS (tNot (tB (tCall sp_l_right [] E0 (tCons (tVar 4) (tCons (tVar 2) tNil))))) (tRet (tC (.bl false))) tNext)
  (tSeq (tAsg (tCall sp_l_made [] E0 (tCons (tVar 3) tNil)) (gName 5))
  (tRet (tAndV (tCall sp_l_right [] E0 (tCons (tVar 5) (tCons (tVar 3) tNil))) (tCall sp_l_right [] E0 (tCons (tVar 4) (tCons (tVar 2) tNil)))))))))))
theorem tm_law {sp_l_pool sp_l_fields_of sp_l_made sp_l_right : Sp} (T : Tx K mg) (G_l_pool : Df P w K mg base "_law_pool" 2 [] sp_l_pool) (G_l_fields_of : Df P w K mg base "_law_fields_of" 2 [] sp_l_fields_of) (G_l_made : Df P w K mg base "_law_made" 3 [] sp_l_made) (G_l_right : Df P w K mg base "_law_right" 8 [] sp_l_right) {f : Addr} {cdv : Value} {A : Around} {outer : List Env} {s : Shared} {H : Hp} {E : XK}
    (hr : Room 8 (A.deeper (envOfC "law" (defScope s_law) s.heap.objs.size f cdv))) :
    PSs (cxOf CX0 P w K mg base N_law "law" (defScope s_law) f cdv A outer s H E).nox (defBody s_law) (rd_law K sp_l_pool sp_l_fields_of sp_l_made sp_l_right ) :=
  (pss_cons (ps_set (i := 1) sc_law.nd rfl (by first | exact Or.inl rfl | exact Or.inr rfl) (pe_df G_l_pool (hr.mono (by decide)) (by rfl) (pa_cons (pv 0) (pa_cons pe_int pa_nil))))
      (pss_cons (ps_set (i := 2) sc_law.nd rfl (by first | exact Or.inl rfl | exact Or.inr rfl) (pe_df G_l_fields_of (hr.mono (by decide)) (by rfl) (pa_cons (pv 1) (pa_cons pe_int pa_nil))))
      (pss_cons (ps_set (i := 3) sc_law.nd rfl (by first | exact Or.inl rfl | exact Or.inr rfl) (pe_df G_l_fields_of (hr.mono (by decide)) (by rfl) (pa_cons (pv 1) (pa_cons pe_int pa_nil))))
      (pss_cons (ps_set (i := 4) sc_law.nd rfl (by first | exact Or.inl rfl | exact Or.inr rfl) (pe_df G_l_made (hr.mono (by decide)) (by rfl) (pa_cons (pv 2) pa_nil)))
      (pss_cons (ps_if (pt_not (pt_val (pe_df G_l_right (hr.mono (by decide)) (by rfl) (pa_cons (pv 4) (pa_cons (pv 2) pa_nil))))) (pss_one (ps_ret pe_bl)) pss_nil)
      (pss_cons (ps_set (i := 5) sc_law.nd rfl (by first | exact Or.inl rfl | exact Or.inr rfl) (pe_df G_l_made (hr.mono (by decide)) (by rfl) (pa_cons (pv 3) pa_nil)))
      (pss_one (ps_ret (pe_and (pe_df G_l_right (hr.mono (by decide)) (by rfl) (pa_cons (pv 5) (pa_cons (pv 3) pa_nil))) (pe_one (pe_df G_l_right (hr.mono (by decide)) (by rfl) (pa_cons (pv 4) (pa_cons (pv 2) pa_nil)))))))))))))
end
end Fh

set_option Elab.async false
set_option linter.all false
set_option maxRecDepth 100000
set_option maxHeartbeats 4000000
namespace Fh
open PySem PySem.Spec PyProof.Rows L2
local macro_rules | `(tactic| walk_at "side") => `(tactic| first
  | assumption | decide | omega
  | exact ⟨by decide, by decide⟩ | exact ⟨by omega, by omega⟩ | exact Or.inl ⟨by omega, by omega⟩ | exact Or.inr ⟨by omega, by omega⟩
  | exact ⟨by decide, by decide, by decide⟩ | exact sz (by simp) | exact szl (by simp) | rfl)
local macro_rules | `(tactic| walk_at "ev") => `(tactic| first
  | exact ev_int
  | exact ev_bl
  | exact ev_str
  | exact ev_non
  | exact ev_dat rfl
  | exact ev_bor rfl
  | exact (ev_bor rfl).nw
  | exact ev_own rfl
  | exact (ev_bor rfl).sc
  | exact (ev_bor rfl).scB
  | exact (ev_bor rfl).scS
  | exact (ev_bor rfl).scN
  | (apply ev_addI; walk_at "ev"; walk_at "ev")
  | (apply ev_subI; walk_at "ev"; walk_at "ev")
  | (apply ev_ltI; walk_at "ev"; walk_at "ev")
  | (apply ev_leI; walk_at "ev"; walk_at "ev")
  | (apply ev_gtI; walk_at "ev"; walk_at "ev")
  | (apply ev_geI; walk_at "ev"; walk_at "ev")
  | (apply ev_eqI; walk_at "ev"; walk_at "ev")
  | (apply ev_neI; walk_at "ev"; walk_at "ev")
  | (apply ev_eqS; walk_at "ev"; walk_at "ev")
  | (apply ev_neS; walk_at "ev"; walk_at "ev")
  | (apply ev_eqL; walk_at "ev"; walk_at "ev")
  | (apply ev_neL; walk_at "ev"; walk_at "ev")
  | (apply ev_max2; walk_at "ev"; walk_at "ev")
  | (apply ev_min2; walk_at "ev"; walk_at "ev")
  | (apply ev_mulI; walk_at "ev"; walk_at "ev"; walk_at "side")
  | (apply ev_divI; walk_at "ev"; walk_at "ev"; walk_at "side")
  | (apply ev_modI; walk_at "ev"; walk_at "ev"; walk_at "side")
  | (apply ev_powI; walk_at "ev"; walk_at "ev"; walk_at "side")
  | (apply ev_negI; walk_at "ev")
  | (apply ev_abs; walk_at "ev")
  | (apply ev_intc; walk_at "ev")
  | (apply ev_lenM; walk_at "ev")
  | (apply ev_lenTM; walk_at "ev")
  | (apply ev_len; walk_at "ev")
  | (apply ev_lenT; walk_at "ev")
  | (apply ev_sum; walk_at "ev")
  | (apply ev_notV; walk_at "ev")
  | (apply ev_tupI; walk_at "ev")
  | (apply ev_is; walk_at "ev"; walk_at "ev"; rfl)
  | (apply ev_isN; walk_at "ev"; walk_at "ev"; rfl)
  | (apply ev_ixI; walk_at "ev"; walk_at "ev"; walk_at "side"; walk_at "side")
  | (apply ev_ixIT; walk_at "ev"; walk_at "ev"; walk_at "side"; walk_at "side")
  | (apply ev_andV; walk_at "ev"; (intro _; walk_at "ev"))
  | (apply ev_orV; walk_at "ev"; (intro _; walk_at "ev"))
  | (apply ev_tup; walk_at "ed"; walk_at "side")
  | exact ev_nil
  | (apply ev_lst; walk_at "ed"; walk_at "side")
  | (apply ev_isi; walk_at "ev"; rfl; decide +kernel))
local macro_rules | `(tactic| walk_at "ea") => `(tactic| first
  | exact ea_nil
  | (apply ea_cons; walk_at "ev"; walk_at "ea"))
local macro_rules | `(tactic| walk_at "ed") => `(tactic| first
  | exact ed_nil
  | (apply ed_cons; walk_at "ev"; walk_at "ed"))
local macro_rules | `(tactic| walk_at "et") => `(tactic| first
  | exact et_yes
  | (apply et_and; walk_at "et"; (intro _; walk_at "et"))
  | (apply et_or; walk_at "et"; (intro _; walk_at "et"))
  | (apply et_not; walk_at "et")
  | (refine et_test (m := .now) ?_; walk_at "ev")
  | (refine et_B (m := .now) ?_; walk_at "ev"))
local macro_rules | `(tactic| walk_at "asg") => `(tactic| (first
  | (refine run_seq ?_; apply run_asg; walk_at "ev"; dsimp only [List.set])
  | (apply run_asg; walk_at "ev"; dsimp only [List.set])))
local macro_rules | `(tactic| walk_at "ev") => `(tactic| first
  | (apply ev_ixT; walk_at "ev"; walk_at "ev"; rfl)
  | (apply ev_ixL; walk_at "ev"; walk_at "ev"; rfl)
  | (apply ev_cat; walk_at "ev"; walk_at "ev"; walk_at "side")
  | (apply ev_catT; walk_at "ev"; walk_at "ev"; walk_at "side"))
section
variable {P : Program} {w : World} {K : PySem.W.Frag} {mg : Str → Option Value} {base : Heap}
/-! the drawing helpers -/
theorem df_mixed (T : Tx K mg) : Df P w K mg base "_law_mixed" 1 [] (spMixed K) :=
  T.d_l_mixed.df sc_l_mixed rfl (by decide) (fun _ _ _ _ _ _ us hl => match us, hl with | [_, _], _ => rfl) fun f cdv A outer s H E hr => ⟨rd_l_mixed K, tm_l_mixed T hr, fun a _ => run_mixed a.1 a.2⟩
theorem df_pool (T : Tx K mg) : Df P w K mg base "_law_pool" 2 [] (spPool K) :=
  T.d_l_pool.df sc_l_pool rfl (by decide) (fun _ _ _ _ _ _ us hl => match us, hl with | [_, _], _ => rfl) fun f cdv A outer s H E hr => ⟨rd_l_pool K (spMixed K), tm_l_pool T (df_mixed T) hr, fun a h => run_pool a.1 a.2 h⟩
abbrev spNo (K : PySem.W.Frag) : Sp := SpP K [.now, .now] (fun p : D × D => [p.1, p.2]) (fun _ => False) (fun p => .bl (sm p.1 p.2))
theorem df_no (T : Tx K mg) : Df P w K mg base "_law_same" 0 [] (spNo K) := Df.never T.d_l_same (fun _ h => h) (N := ["actual", "due"]) (fun _ _ _ _ _ _ us hl => match us, hl with | [_, _], _ => rfl)
theorem df_same (T : Tx K mg) : ∀ n : Nat, Df P w K mg base "_law_same" (n + 1) [] (spSame K n)
  | 0 => T.d_l_same.df sc_l_same rfl (by decide) (fun _ _ _ _ _ _ us hl => match us, hl with | [_, _], _ => rfl) fun f cdv A outer s H E hr => ⟨rd_l_same K (spNo K), tm_l_same T (kk := 0) (Nat.zero_le _) (df_no T) hr, fun a h => run_same 0 _ (fun m h => nomatch h) a.1 a.2 h.1 h.2.1 h.2.2⟩
  | n + 1 => T.d_l_same.df sc_l_same rfl (by decide) (fun _ _ _ _ _ _ us hl => match us, hl with | [_, _], _ => rfl) fun f cdv A outer s H E hr => ⟨rd_l_same K (spSame K n), tm_l_same T (kk := n + 1) (Nat.zero_le _) (df_same T n) hr, fun a h => run_same (n + 1) _ (fun m h => by cases h; rfl) a.1 a.2 h.1 h.2.1 h.2.2⟩
end
section
variable {P : Program} {w : World} {K : PySem.W.Frag} {mg : Str → Option Value} {base : Heap}
def menu : List Str := ["people", "hands", "ties", "web", "kinds", "quick", "shares", "rows", "places", "most", "share", "none", "unknown", "tree", "one hand", "no quick", "events", ""]
def wd (ps : List Int) (k : Int) : Str := menu.getD (nth ps k % 18).toNat ""
theorem wd_ok (ps : List Int) (k : Int) : PyData.strOk (wd ps k) = true := by
  unfold wd
  rw [List.getD_eq_getElem?_getD]
  cases h : menu[(nth ps k % 18).toNat]? with
  | none => exact (show PyData.strOk "" = true by decide +kernel)
  | some x =>
    have hm : menu.all PyData.strOk = true := by decide +kernel
    exact List.all_eq_true.mp hm x (List.mem_of_getElem? h)
abbrev spWd (K : PySem.W.Frag) : Sp := SpP K [.dat, .dat] (fun a : List Int × Int => [rowD a.1, .int a.2]) (fun a => 0 ≤ a.2 ∧ a.2 < (a.1.length : Nat)) (fun a => .str (wd a.1 a.2))
theorem df_wd (T : Tx K mg) : Df P w K mg base "_law_word" 1 [] (spWd K) := by
  refine T.d_l_word.df sc_l_word rfl (by decide) (fun _ _ _ _ _ _ us hl => match us, hl with | [_, _], _ => rfl) ?_
  intro f cdv A outer s H E hr
  refine ⟨rd_l_word K, tm_l_word T hr, ?_⟩
  rintro ⟨ns, k⟩ ⟨h0, h1⟩
  simp only at h0 h1
  unfold rd_l_word
  show Run K E _ [.dat (rowD ns), .dat (.int k), .no] _
  refine run_seq (run_asg (by walk_at "ev") ?_)
  dsimp only [List.set]
  refine run_seq (run_asg (d := .lst (menu.map D.str)) ((ev_cat (xs := (menu.take 12).map D.str) (ys := (menu.drop 12).map D.str) (ev_dat rfl) (by walk_at "ev") (by walk_at "side")).is rfl) ?_)
  dsimp only [List.set]
  have h2 := Int.emod_nonneg (nth ns k) (show (18 : Int) ≠ 0 by decide)
  have h3 := Int.emod_lt_of_pos (nth ns k) (show (0 : Int) < 18 by decide)
  refine run_ret (ev_ixL (ev_dat rfl) (by walk_at "ev") ?_) rfl
  exact atI_map (f := D.str) (a0 := "") h2 h3
def nu (ps : List Int) (k : Int) : Int := if nth ps k % 4 = 1 then -1 - nth ps (k + 1) else if nth ps k % 4 = 2 then 10 ^ (27 : Int).toNat * (1 + nth ps (k + 1)) + nth ps k else nth ps (k + 1)
abbrev spNu (K : PySem.W.Frag) : Sp := SpP K [.dat, .dat] (fun a : List Int × Int => [rowD a.1, .int a.2]) (fun a => (0 ≤ a.2 ∧ a.2 + 1 < (a.1.length : Nat)) ∧ Unit1000 a.1) (fun a => .int (nu a.1 a.2))
theorem df_nu (T : Tx K mg) : Df P w K mg base "_law_number" 1 [] (spNu K) := by
  refine T.d_l_number.df sc_l_number rfl (by decide) (fun _ _ _ _ _ _ us hl => match us, hl with | [_, _], _ => rfl) ?_
  intro f cdv A outer s H E hr
  refine ⟨rd_l_number K, tm_l_number T hr, ?_⟩
  rintro ⟨ns, k⟩ ⟨⟨h0, h1⟩, hu⟩
  simp only at h0 h1 hu
  have u1 := hu.nth (k + 1)
  unfold rd_l_number nu
  show Run K E _ [.dat (rowD ns), .dat (.int k), .no] _
  walk_at "asg"
  refine run_seq (run_ifD (p := nth ns k % 4 = 1) (by walk_at "et") (fun h => ?_) (fun h => run_next ?_))
  · refine run_ret (by walk_at "ev") (by rw [if_pos h])
  refine run_seq (run_ifD (p := nth ns k % 4 = 2) (by walk_at "et") (fun h2 => ?_) (fun h2 => run_next ?_))
  · refine run_ret (ev_addI (ev_mulI (ev_powI ev_int ev_int (by walk_at "side")) (by walk_at "ev") ?_) (by walk_at "ev")) (by rw [if_neg h, if_pos h2])
    exact .inr ⟨by omega, by omega⟩
  · refine run_ret (by walk_at "ev") (by rw [if_neg h, if_neg h2])
end
end Fh

set_option Elab.async false
set_option linter.all false
set_option maxRecDepth 100000
set_option maxHeartbeats 4000000
namespace Fh
open PySem PySem.Spec PyProof.Rows L2
local macro_rules | `(tactic| walk_at "side") => `(tactic| first
  | assumption | decide | omega
  | exact ⟨by decide, by decide⟩ | exact ⟨by omega, by omega⟩ | exact Or.inl ⟨by omega, by omega⟩ | exact Or.inr ⟨by omega, by omega⟩
  | exact ⟨by decide, by decide, by decide⟩ | exact sz (by simp) | exact szl (by simp) | rfl)
local macro_rules | `(tactic| walk_at "ev") => `(tactic| first
  | exact ev_int
  | exact ev_bl
  | exact ev_str
  | exact ev_non
  | exact ev_dat rfl
  | exact ev_bor rfl
  | exact (ev_bor rfl).nw
  | exact ev_own rfl
  | exact (ev_bor rfl).sc
  | exact (ev_bor rfl).scB
  | exact (ev_bor rfl).scS
  | exact (ev_bor rfl).scN
  | (apply ev_addI; walk_at "ev"; walk_at "ev")
  | (apply ev_subI; walk_at "ev"; walk_at "ev")
  | (apply ev_ltI; walk_at "ev"; walk_at "ev")
  | (apply ev_leI; walk_at "ev"; walk_at "ev")
  | (apply ev_gtI; walk_at "ev"; walk_at "ev")
  | (apply ev_geI; walk_at "ev"; walk_at "ev")
  | (apply ev_eqI; walk_at "ev"; walk_at "ev")
  | (apply ev_neI; walk_at "ev"; walk_at "ev")
  | (apply ev_eqS; walk_at "ev"; walk_at "ev")
  | (apply ev_neS; walk_at "ev"; walk_at "ev")
  | (apply ev_eqL; walk_at "ev"; walk_at "ev")
  | (apply ev_neL; walk_at "ev"; walk_at "ev")
  | (apply ev_max2; walk_at "ev"; walk_at "ev")
  | (apply ev_min2; walk_at "ev"; walk_at "ev")
  | (apply ev_mulI; walk_at "ev"; walk_at "ev"; walk_at "side")
  | (apply ev_divI; walk_at "ev"; walk_at "ev"; walk_at "side")
  | (apply ev_modI; walk_at "ev"; walk_at "ev"; walk_at "side")
  | (apply ev_powI; walk_at "ev"; walk_at "ev"; walk_at "side")
  | (apply ev_negI; walk_at "ev")
  | (apply ev_abs; walk_at "ev")
  | (apply ev_intc; walk_at "ev")
  | (apply ev_lenM; walk_at "ev")
  | (apply ev_lenTM; walk_at "ev")
  | (apply ev_len; walk_at "ev")
  | (apply ev_lenT; walk_at "ev")
  | (apply ev_sum; walk_at "ev")
  | (apply ev_notV; walk_at "ev")
  | (apply ev_tupI; walk_at "ev")
  | (apply ev_is; walk_at "ev"; walk_at "ev"; rfl)
  | (apply ev_isN; walk_at "ev"; walk_at "ev"; rfl)
  | (apply ev_ixI; walk_at "ev"; walk_at "ev"; walk_at "side"; walk_at "side")
  | (apply ev_ixIT; walk_at "ev"; walk_at "ev"; walk_at "side"; walk_at "side")
  | (apply ev_andV; walk_at "ev"; (intro _; walk_at "ev"))
  | (apply ev_orV; walk_at "ev"; (intro _; walk_at "ev"))
  | (apply ev_tup; walk_at "ed"; walk_at "side")
  | exact ev_nil
  | (apply ev_lst; walk_at "ed"; walk_at "side")
  | (apply ev_isi; walk_at "ev"; rfl; decide +kernel))
local macro_rules | `(tactic| walk_at "ea") => `(tactic| first
  | exact ea_nil
  | (apply ea_cons; walk_at "ev"; walk_at "ea"))
local macro_rules | `(tactic| walk_at "ed") => `(tactic| first
  | exact ed_nil
  | (apply ed_cons; walk_at "ev"; walk_at "ed"))
local macro_rules | `(tactic| walk_at "et") => `(tactic| first
  | exact et_yes
  | (apply et_and; walk_at "et"; (intro _; walk_at "et"))
  | (apply et_or; walk_at "et"; (intro _; walk_at "et"))
  | (apply et_not; walk_at "et")
  | (refine et_test (m := .now) ?_; walk_at "ev")
  | (refine et_B (m := .now) ?_; walk_at "ev"))
local macro_rules | `(tactic| walk_at "asg") => `(tactic| (first
  | (refine run_seq ?_; apply run_asg; walk_at "ev"; dsimp only [List.set])
  | (apply run_asg; walk_at "ev"; dsimp only [List.set])))
local macro_rules | `(tactic| walk_at "ev") => `(tactic| first
  | (apply ev_ixT; walk_at "ev"; walk_at "ev"; rfl)
  | (apply ev_ixL; walk_at "ev"; walk_at "ev"; rfl)
  | (apply ev_cat; walk_at "ev"; walk_at "ev"; walk_at "side")
  | (apply ev_catT; walk_at "ev"; walk_at "ev"; walk_at "side"))
structure Rx where
  w0 : Str
  w1 : Str
  w2 : Str
  w3 : Str
  w4 : Str
  w5 : Str
  w6 : Str
  n0 : Int
  n1 : Int
  n2 : Int
  n3 : Int
  n4 : Int
  n5 : Int
  n6 : Int
  n7 : Int
  n8 : Int
def wl (ps : List Int) (s : Int) : List D := [.str (wd ps (s + (0 + ((0 : Nat) : Int)))), .str (wd ps (s + (0 + ((1 : Nat) : Int)))), .str (wd ps (s + (0 + ((2 : Nat) : Int)))), .str (wd ps (s + (0 + ((3 : Nat) : Int)))), .str (wd ps (s + (0 + ((4 : Nat) : Int)))), .str (wd ps (s + (0 + ((5 : Nat) : Int)))), .str (wd ps (s + (0 + ((6 : Nat) : Int))))]
def nl (ps : List Int) (s : Int) : List D := [.int (nu ps (s + 7 + 2 * (0 + ((0 : Nat) : Int)))), .int (nu ps (s + 7 + 2 * (0 + ((1 : Nat) : Int)))), .int (nu ps (s + 7 + 2 * (0 + ((2 : Nat) : Int)))), .int (nu ps (s + 7 + 2 * (0 + ((3 : Nat) : Int)))), .int (nu ps (s + 7 + 2 * (0 + ((4 : Nat) : Int)))), .int (nu ps (s + 7 + 2 * (0 + ((5 : Nat) : Int)))), .int (nu ps (s + 7 + 2 * (0 + ((6 : Nat) : Int)))), .int (nu ps (s + 7 + 2 * (0 + ((7 : Nat) : Int)))), .int (nu ps (s + 7 + 2 * (0 + ((8 : Nat) : Int))))]
def fl (ps : List Int) (s : Int) : Rx := ⟨wd ps (s + (0 + ((0 : Nat) : Int))), wd ps (s + (0 + ((1 : Nat) : Int))), wd ps (s + (0 + ((2 : Nat) : Int))), wd ps (s + (0 + ((3 : Nat) : Int))), wd ps (s + (0 + ((4 : Nat) : Int))), wd ps (s + (0 + ((5 : Nat) : Int))), wd ps (s + (0 + ((6 : Nat) : Int))), nu ps (s + 7 + 2 * (0 + ((0 : Nat) : Int))), nu ps (s + 7 + 2 * (0 + ((1 : Nat) : Int))), nu ps (s + 7 + 2 * (0 + ((2 : Nat) : Int))), nu ps (s + 7 + 2 * (0 + ((3 : Nat) : Int))), nu ps (s + 7 + 2 * (0 + ((4 : Nat) : Int))), nu ps (s + 7 + 2 * (0 + ((5 : Nat) : Int))), nu ps (s + 7 + 2 * (0 + ((6 : Nat) : Int))), nu ps (s + 7 + 2 * (0 + ((7 : Nat) : Int))), nu ps (s + 7 + 2 * (0 + ((8 : Nat) : Int)))⟩
def rowsD (r : Rx) : List D := [.tup [.str r.w0, .int r.n0], .tup [.int r.n1], .tup [.str r.w1, .int r.n2], .tup [.int r.n3, .str r.w2], .tup [.str r.w3], .tup [.str r.w4], .tup [.str r.w5], .tup [.int r.n4], .tup [.int r.n5], .tup [.int r.n6, .int r.n7], .tup [.str r.w6], .tup [.int r.n8], .tup [], .tup [], .tup [], .tup [], .tup [], .tup [], .tup [], .tup []]
def rows0 (r : Rx) : List D := [.tup [.str r.w0, .int r.n0], .tup [.int r.n1], .tup [.str r.w1, .int r.n2], .tup [.int r.n3, .str r.w2], .tup [.str r.w3]]
def rows5 (r : Rx) : List D := [.tup [.str r.w4], .tup [.str r.w5], .tup [.int r.n4], .tup [.int r.n5], .tup [.int r.n6, .int r.n7], .tup [.str r.w6]]
def rows11 (r : Rx) : List D := [.tup [.int r.n8], .tup [], .tup [], .tup [], .tup [], .tup [], .tup [], .tup [], .tup []]
def exN : List Str := ["BadTable", "BadText", "BadStanding", "CannotMove", "NoSuch", "WrongGround", "TooGreat", "BadVector", "NotLocal", "BadProgram", "InUse", "AttemptFailed", "BadLot", "BadDealing", "NotCore", "BadLoads", "Impossible", "BadLine", "NothingToUndo", "NothingToRedo"]
def exL (K : PySem.W.Frag) (r : Rx) : List D := [excD K (gA K "BadTable") [("index", .int r.n0), ("place", .str r.w0)],
  excD K (gA K "BadText") [("line", .int r.n1)],
  excD K (gA K "BadStanding") [("index", .int r.n2), ("place", .str r.w1)],
  excD K (gA K "CannotMove") [("reason", .str r.w2), ("index", .int r.n3)],
  excD K (gA K "NoSuch") [("what", .str r.w3)],
  excD K (gA K "WrongGround") [("needed", .str r.w4)],
  excD K (gA K "TooGreat") [("what", .str r.w5)],
  excD K (gA K "BadVector") [("index", .int r.n4)],
  excD K (gA K "NotLocal") [("kind", .int r.n5)],
  excD K (gA K "BadProgram") [("word", .int r.n7), ("line", .int r.n6)],
  excD K (gA K "InUse") [("what", .str r.w6)],
  excD K (gA K "AttemptFailed") [("index", .int r.n8)],
  excD0 (gA K "BadLot"),
  excD0 (gA K "BadDealing"),
  excD0 (gA K "NotCore"),
  excD0 (gA K "BadLoads"),
  excD0 (gA K "Impossible"),
  excD0 (gA K "BadLine"),
  excD0 (gA K "NothingToUndo"),
  excD0 (gA K "NothingToRedo")]
def ex0 (K : PySem.W.Frag) (r : Rx) : List D := [excD K (gA K "BadTable") [("index", .int r.n0), ("place", .str r.w0)], excD K (gA K "BadText") [("line", .int r.n1)], excD K (gA K "BadStanding") [("index", .int r.n2), ("place", .str r.w1)]]
def ex3 (K : PySem.W.Frag) (r : Rx) : List D := [excD K (gA K "CannotMove") [("reason", .str r.w2), ("index", .int r.n3)], excD K (gA K "NoSuch") [("what", .str r.w3)], excD K (gA K "WrongGround") [("needed", .str r.w4)]]
def ex6 (K : PySem.W.Frag) (r : Rx) : List D := [excD K (gA K "TooGreat") [("what", .str r.w5)], excD K (gA K "BadVector") [("index", .int r.n4)], excD K (gA K "NotLocal") [("kind", .int r.n5)]]
def ex9 (K : PySem.W.Frag) (r : Rx) : List D := [excD K (gA K "BadProgram") [("word", .int r.n7), ("line", .int r.n6)], excD K (gA K "InUse") [("what", .str r.w6)], excD K (gA K "AttemptFailed") [("index", .int r.n8)]]
def ex12 (K : PySem.W.Frag) (r : Rx) : List D := [excD0 (gA K "BadLot"), excD0 (gA K "BadDealing"), excD0 (gA K "NotCore"), excD0 (gA K "BadLoads"), excD0 (gA K "Impossible"), excD0 (gA K "BadLine")]
def ex18 (K : PySem.W.Frag) (r : Rx) : List D := [excD0 (gA K "NothingToUndo"), excD0 (gA K "NothingToRedo")]
theorem exX (K : PySem.W.Frag) (r : Rx) : ∀ k : Nat, k < 20 → ∃ d n, (exL K r)[k]? = some d ∧ exN[k]? = some n ∧ IsX K (gA K n) d
  | 0, _ => ⟨_, _, rfl, rfl, isX_excD⟩
  | 1, _ => ⟨_, _, rfl, rfl, isX_excD⟩
  | 2, _ => ⟨_, _, rfl, rfl, isX_excD⟩
  | 3, _ => ⟨_, _, rfl, rfl, isX_excD⟩
  | 4, _ => ⟨_, _, rfl, rfl, isX_excD⟩
  | 5, _ => ⟨_, _, rfl, rfl, isX_excD⟩
  | 6, _ => ⟨_, _, rfl, rfl, isX_excD⟩
  | 7, _ => ⟨_, _, rfl, rfl, isX_excD⟩
  | 8, _ => ⟨_, _, rfl, rfl, isX_excD⟩
  | 9, _ => ⟨_, _, rfl, rfl, isX_excD⟩
  | 10, _ => ⟨_, _, rfl, rfl, isX_excD⟩
  | 11, _ => ⟨_, _, rfl, rfl, isX_excD⟩
  | 12, _ => ⟨_, _, rfl, rfl, isX_excD0⟩
  | 13, _ => ⟨_, _, rfl, rfl, isX_excD0⟩
  | 14, _ => ⟨_, _, rfl, rfl, isX_excD0⟩
  | 15, _ => ⟨_, _, rfl, rfl, isX_excD0⟩
  | 16, _ => ⟨_, _, rfl, rfl, isX_excD0⟩
  | 17, _ => ⟨_, _, rfl, rfl, isX_excD0⟩
  | 18, _ => ⟨_, _, rfl, rfl, isX_excD0⟩
  | 19, _ => ⟨_, _, rfl, rfl, isX_excD0⟩
  | n + 20, h => absurd h (by omega)
def bb18 (n : Str) : List D := [.bl (decide (n = "NothingToUndo")), .bl (decide (n = "NothingToRedo"))]
def bb14 (n : Str) : List D := [.bl (decide (n = "NotCore")), .bl (decide (n = "BadLoads")), .bl (decide (n = "Impossible")), .bl (decide (n = "BadLine"))]
def bb11 (n : Str) : List D := [.bl (decide (n = "AttemptFailed")), .bl (decide (n = "BadLot")), .bl (decide (n = "BadDealing"))]
def bb8 (n : Str) : List D := [.bl (decide (n = "NotLocal")), .bl (decide (n = "BadProgram")), .bl (decide (n = "InUse"))]
def bb4 (n : Str) : List D := [.bl (decide (n = "NoSuch")), .bl (decide (n = "WrongGround")), .bl (decide (n = "TooGreat")), .bl (decide (n = "BadVector"))]
def bb0 (n : Str) : List D := [.bl (decide (n = "BadTable")), .bl (decide (n = "BadText")), .bl (decide (n = "BadStanding")), .bl (decide (n = "CannotMove"))]
def rw11 (r : Rx) : List D := [.tup [.int r.n8], .tup [], .tup [], .tup [], .tup [], .tup [], .tup [], .tup [], .tup []]
def rw7 (r : Rx) : List D := [.tup [.int r.n4], .tup [.int r.n5], .tup [.int r.n6, .int r.n7], .tup [.str r.w6]]
def rw3 (r : Rx) : List D := [.tup [.int r.n3, .str r.w2], .tup [.str r.w3], .tup [.str r.w4], .tup [.str r.w5]]
def rw0 (r : Rx) : List D := [.tup [.str r.w0, .int r.n0], .tup [.int r.n1], .tup [.str r.w1, .int r.n2]]
section
variable {P : Program} {w : World} {K : PySem.W.Frag} {mg : Str → Option Value} {base : Heap}
abbrev spFl (K : PySem.W.Frag) : Sp := SpP K [.dat, .dat] (fun a : List Int × Int => [rowD a.1, .int a.2]) (fun a => (0 ≤ a.2 ∧ a.2 + 24 < (a.1.length : Nat)) ∧ Unit1000 a.1) (fun a => .lst (rowsD (fl a.1 a.2)))
theorem df_fl (T : Tx K mg) : Df P w K mg base "_law_fields_of" 2 [] (spFl K) := by
  refine T.d_l_fields_of.df sc_l_fields_of rfl (by decide) (fun _ _ _ _ _ _ us hl => match us, hl with | [_, _], _ => rfl) ?_
  intro f cdv A outer s H E hr
  refine ⟨rd_l_fields_of K (spWd K) (spNu K), tm_l_fields_of T (df_wd T) (df_nu T) hr, ?_⟩
  rintro ⟨ns, k⟩ ⟨⟨h0, h1⟩, hu⟩
  simp only at h0 h1 hu
  unfold rd_l_fields_of
  show Run K E _ [.dat (rowD ns), .dat (.int k), .no, .no, .no, .no] _
  refine run_seq (run_asg (d := .lst (wl ns k)) ?_ ?_)
  · refine ((ev_lcO (m := .dat) (xs := rgD 0 7) (fun d => match d with | .int x => some (D.str (wd ns (k + x))) | _ => none) ?_ (by rw [rgD_len]; exact sz (by decide)) ?_).dat).is rfl
    · exact ei_rng1 (m := .dat) (ea_cons ev_int ea_nil) (by decide) (by decide)
    · intro i d hd
      obtain ⟨hi, rfl⟩ := get_rg hd
      have hi2 : i < 7 := hi
      exact ⟨_, tg_dat, .inl ⟨_, et_yes, rfl, ev_call (out := fun a : List Int × Int => D.str (wd a.1 a.2)) (ns, k + (0 + (i : Nat))) (show 0 ≤ k + (0 + (i : Int)) ∧ k + (0 + (i : Int)) < (ns.length : Nat) by omega) (ea_cons (ev_dat rfl) (ea_cons (by walk_at "ev") ea_nil))⟩⟩
  dsimp only [List.set]
  refine run_seq (run_asg (d := .lst (nl ns k)) ?_ ?_)
  · refine ((ev_lcO (m := .dat) (xs := rgD 0 9) (fun d => match d with | .int x => some (D.int (nu ns (k + 7 + 2 * x))) | _ => none) ?_ (by rw [rgD_len]; exact sz (by decide)) ?_).dat).is rfl
    · exact ei_rng1 (m := .dat) (ea_cons ev_int ea_nil) (by decide) (by decide)
    · intro i d hd
      obtain ⟨hi, rfl⟩ := get_rg hd
      have hi2 : i < 9 := hi
      exact ⟨_, tg_dat, .inl ⟨_, et_yes, rfl, ev_call (out := fun a : List Int × Int => D.int (nu a.1 a.2)) (ns, k + 7 + 2 * (0 + (i : Nat))) (show (0 ≤ k + 7 + 2 * (0 + (i : Int)) ∧ k + 7 + 2 * (0 + (i : Int)) + 1 < (ns.length : Nat)) ∧ Unit1000 ns from ⟨by omega, hu⟩) (ea_cons (ev_dat rfl) (ea_cons (ev_addI (ev_addI (ev_dat rfl) ev_int) (ev_mulI ev_int (ev_dat rfl) (.inl ⟨by decide, by decide⟩))) ea_nil))⟩⟩
  dsimp only [List.set]
  refine run_seq (run_asg (d := .lst (rows0 (fl ns k))) (by walk_at "ev") ?_)
  dsimp only [List.set]
  refine run_seq (run_asg (d := .lst (rows0 (fl ns k) ++ rows5 (fl ns k))) (ev_cat (ev_dat rfl) (by walk_at "ev") (sz (by simp [rows0, rows5, rows11, ex0, ex3, ex6, ex9, ex12, ex18, rw0, rw3, rw7, rw11, bb0, bb4, bb8, bb11, bb14, bb18]))) ?_)
  dsimp only [List.set]
  exact run_ret (d := .lst ((rows0 (fl ns k) ++ rows5 (fl ns k)) ++ rows11 (fl ns k))) (ev_cat (ev_dat rfl) (by walk_at "ev") (sz (by simp [rows0, rows5, rows11, ex0, ex3, ex6, ex9, ex12, ex18, rw0, rw3, rw7, rw11, bb0, bb4, bb8, bb11, bb14, bb18]))) rfl
abbrev spMd (K : PySem.W.Frag) : Sp := SpP K [.dat] (fun r : Rx => [.lst (rowsD r)]) (fun _ => True) (fun r => .lst (exL K r))
theorem df_md (T : Tx K mg) : Df P w K mg base "_law_made" 3 [] (spMd K) := by
  refine T.d_l_made.df sc_l_made rfl (by decide) (fun _ _ _ _ _ _ us hl => match us, hl with | [_], _ => rfl) ?_
  intro f cdv A outer s H E hr
  refine ⟨rd_l_made K, tm_l_made T hr, ?_⟩
  intro r _
  unfold rd_l_made
  show Run K E _ [.dat (.lst (rowsD r)), .no] _
  refine run_seq (run_asg (d := .lst (ex0 K r)) (ev_lst (ed_cons (ev_mkX2 (ed_cons (ev_ixT (ev_ixL (ev_dat rfl) ev_int rfl) ev_int rfl) (ed_cons (ev_ixT (ev_ixL (ev_dat rfl) ev_int rfl) ev_int rfl) ed_nil))) (ed_cons (ev_mkX1 (ed_cons (ev_ixT (ev_ixL (ev_dat rfl) ev_int rfl) ev_int rfl) ed_nil)) (ed_cons (ev_mkX2 (ed_cons (ev_ixT (ev_ixL (ev_dat rfl) ev_int rfl) ev_int rfl) (ed_cons (ev_ixT (ev_ixL (ev_dat rfl) ev_int rfl) ev_int rfl) ed_nil))) ed_nil))) (by walk_at "side")) ?_)
  dsimp only [List.set]
  refine run_seq (run_asg (d := .lst ((ex0 K r) ++ ex3 K r)) (ev_cat (ev_dat rfl) (ev_lst (ed_cons (ev_mkX2 (ed_cons (ev_ixT (ev_ixL (ev_dat rfl) ev_int rfl) ev_int rfl) (ed_cons (ev_ixT (ev_ixL (ev_dat rfl) ev_int rfl) ev_int rfl) ed_nil))) (ed_cons (ev_mkX1 (ed_cons (ev_ixT (ev_ixL (ev_dat rfl) ev_int rfl) ev_int rfl) ed_nil)) (ed_cons (ev_mkX1 (ed_cons (ev_ixT (ev_ixL (ev_dat rfl) ev_int rfl) ev_int rfl) ed_nil)) ed_nil))) (by walk_at "side")) (sz (by simp [rows0, rows5, rows11, ex0, ex3, ex6, ex9, ex12, ex18, rw0, rw3, rw7, rw11, bb0, bb4, bb8, bb11, bb14, bb18]))) ?_)
  dsimp only [List.set]
  refine run_seq (run_asg (d := .lst (((ex0 K r) ++ ex3 K r) ++ ex6 K r)) (ev_cat (ev_dat rfl) (ev_lst (ed_cons (ev_mkX1 (ed_cons (ev_ixT (ev_ixL (ev_dat rfl) ev_int rfl) ev_int rfl) ed_nil)) (ed_cons (ev_mkX1 (ed_cons (ev_ixT (ev_ixL (ev_dat rfl) ev_int rfl) ev_int rfl) ed_nil)) (ed_cons (ev_mkX1 (ed_cons (ev_ixT (ev_ixL (ev_dat rfl) ev_int rfl) ev_int rfl) ed_nil)) ed_nil))) (by walk_at "side")) (sz (by simp [rows0, rows5, rows11, ex0, ex3, ex6, ex9, ex12, ex18, rw0, rw3, rw7, rw11, bb0, bb4, bb8, bb11, bb14, bb18]))) ?_)
  dsimp only [List.set]
  refine run_seq (run_asg (d := .lst ((((ex0 K r) ++ ex3 K r) ++ ex6 K r) ++ ex9 K r)) (ev_cat (ev_dat rfl) (ev_lst (ed_cons (ev_mkX2 (ed_cons (ev_ixT (ev_ixL (ev_dat rfl) ev_int rfl) ev_int rfl) (ed_cons (ev_ixT (ev_ixL (ev_dat rfl) ev_int rfl) ev_int rfl) ed_nil))) (ed_cons (ev_mkX1 (ed_cons (ev_ixT (ev_ixL (ev_dat rfl) ev_int rfl) ev_int rfl) ed_nil)) (ed_cons (ev_mkX1 (ed_cons (ev_ixT (ev_ixL (ev_dat rfl) ev_int rfl) ev_int rfl) ed_nil)) ed_nil))) (by walk_at "side")) (sz (by simp [rows0, rows5, rows11, ex0, ex3, ex6, ex9, ex12, ex18, rw0, rw3, rw7, rw11, bb0, bb4, bb8, bb11, bb14, bb18]))) ?_)
  dsimp only [List.set]
  refine run_seq (run_asg (d := .lst (((((ex0 K r) ++ ex3 K r) ++ ex6 K r) ++ ex9 K r) ++ ex12 K r)) (ev_cat (ev_dat rfl) (ev_lst (ed_cons ev_mkX0 (ed_cons ev_mkX0 (ed_cons ev_mkX0 (ed_cons ev_mkX0 (ed_cons ev_mkX0 (ed_cons ev_mkX0 ed_nil)))))) (by walk_at "side")) (sz (by simp [rows0, rows5, rows11, ex0, ex3, ex6, ex9, ex12, ex18, rw0, rw3, rw7, rw11, bb0, bb4, bb8, bb11, bb14, bb18]))) ?_)
  dsimp only [List.set]
  exact run_ret (d := .lst ((((((ex0 K r) ++ ex3 K r) ++ ex6 K r) ++ ex9 K r) ++ ex12 K r) ++ ex18 K r)) (ev_cat (ev_dat rfl) (ev_lst (ed_cons ev_mkX0 (ed_cons ev_mkX0 ed_nil)) (by walk_at "side")) (sz (by simp [rows0, rows5, rows11, ex0, ex3, ex6, ex9, ex12, ex18, rw0, rw3, rw7, rw11, bb0, bb4, bb8, bb11, bb14, bb18]))) rfl
abbrev spRe (K : PySem.W.Frag) : Sp := SpP K [.dat] (fun r : Rx => [.lst (exL K r)]) (fun _ => True) (fun r => .lst (rowsD r))
theorem df_re (T : Tx K mg) : Df P w K mg base "_law_read" 1 [] (spRe K) := by
  refine T.d_l_read.df sc_l_read rfl (by decide) (fun _ _ _ _ _ _ us hl => match us, hl with | [_], _ => rfl) ?_
  intro f cdv A outer s H E hr
  refine ⟨rd_l_read K, tm_l_read T hr, ?_⟩
  intro r _
  unfold rd_l_read
  show Run K E _ [.dat (.lst (exL K r)), .no] _
  refine run_seq (run_asg (d := .lst (rw0 r)) (ev_lst (ed_cons (ev_tup (ed_cons (ev_atX (ev_ixL (ev_dat rfl) ev_int rfl) T.x_BadTable T.n_BadTable_place rfl) (ed_cons (ev_atX (ev_ixL (ev_dat rfl) ev_int rfl) T.x_BadTable T.n_BadTable_index rfl) ed_nil)) (by walk_at "side")) (ed_cons (ev_tup (ed_cons (ev_atX (ev_ixL (ev_dat rfl) ev_int rfl) T.x_BadText T.n_BadText_line rfl) ed_nil) (by walk_at "side")) (ed_cons (ev_tup (ed_cons (ev_atX (ev_ixL (ev_dat rfl) ev_int rfl) T.x_BadStanding T.n_BadStanding_place rfl) (ed_cons (ev_atX (ev_ixL (ev_dat rfl) ev_int rfl) T.x_BadStanding T.n_BadStanding_index rfl) ed_nil)) (by walk_at "side")) ed_nil))) (by walk_at "side")) ?_)
  dsimp only [List.set]
  refine run_seq (run_asg (d := .lst ((rw0 r) ++ rw3 r)) (ev_cat (ev_dat rfl) (ev_lst (ed_cons (ev_tup (ed_cons (ev_atX (ev_ixL (ev_dat rfl) ev_int rfl) T.x_CannotMove T.n_CannotMove_index rfl) (ed_cons (ev_atX (ev_ixL (ev_dat rfl) ev_int rfl) T.x_CannotMove T.n_CannotMove_reason rfl) ed_nil)) (by walk_at "side")) (ed_cons (ev_tup (ed_cons (ev_atX (ev_ixL (ev_dat rfl) ev_int rfl) T.x_NoSuch T.n_NoSuch_what rfl) ed_nil) (by walk_at "side")) (ed_cons (ev_tup (ed_cons (ev_atX (ev_ixL (ev_dat rfl) ev_int rfl) T.x_WrongGround T.n_WrongGround_needed rfl) ed_nil) (by walk_at "side")) (ed_cons (ev_tup (ed_cons (ev_atX (ev_ixL (ev_dat rfl) ev_int rfl) T.x_TooGreat T.n_TooGreat_what rfl) ed_nil) (by walk_at "side")) ed_nil)))) (by walk_at "side")) (sz (by simp [rows0, rows5, rows11, ex0, ex3, ex6, ex9, ex12, ex18, rw0, rw3, rw7, rw11, bb0, bb4, bb8, bb11, bb14, bb18]))) ?_)
  dsimp only [List.set]
  refine run_seq (run_asg (d := .lst (((rw0 r) ++ rw3 r) ++ rw7 r)) (ev_cat (ev_dat rfl) (ev_lst (ed_cons (ev_tup (ed_cons (ev_atX (ev_ixL (ev_dat rfl) ev_int rfl) T.x_BadVector T.n_BadVector_index rfl) ed_nil) (by walk_at "side")) (ed_cons (ev_tup (ed_cons (ev_atX (ev_ixL (ev_dat rfl) ev_int rfl) T.x_NotLocal T.n_NotLocal_kind rfl) ed_nil) (by walk_at "side")) (ed_cons (ev_tup (ed_cons (ev_atX (ev_ixL (ev_dat rfl) ev_int rfl) T.x_BadProgram T.n_BadProgram_line rfl) (ed_cons (ev_atX (ev_ixL (ev_dat rfl) ev_int rfl) T.x_BadProgram T.n_BadProgram_word rfl) ed_nil)) (by walk_at "side")) (ed_cons (ev_tup (ed_cons (ev_atX (ev_ixL (ev_dat rfl) ev_int rfl) T.x_InUse T.n_InUse_what rfl) ed_nil) (by walk_at "side")) ed_nil)))) (by walk_at "side")) (sz (by simp [rows0, rows5, rows11, ex0, ex3, ex6, ex9, ex12, ex18, rw0, rw3, rw7, rw11, bb0, bb4, bb8, bb11, bb14, bb18]))) ?_)
  dsimp only [List.set]
  exact run_ret (d := .lst ((((rw0 r) ++ rw3 r) ++ rw7 r) ++ rw11 r)) (ev_cat (ev_dat rfl) (ev_lst (ed_cons (ev_tup (ed_cons (ev_atX (ev_ixL (ev_dat rfl) ev_int rfl) T.x_AttemptFailed T.n_AttemptFailed_index rfl) ed_nil) (by walk_at "side")) (ed_cons (ev_tup ed_nil (by walk_at "side")) (ed_cons (ev_tup ed_nil (by walk_at "side")) (ed_cons (ev_tup ed_nil (by walk_at "side")) (ed_cons (ev_tup ed_nil (by walk_at "side")) (ed_cons (ev_tup ed_nil (by walk_at "side")) (ed_cons (ev_tup ed_nil (by walk_at "side")) (ed_cons (ev_tup ed_nil (by walk_at "side")) (ed_cons (ev_tup ed_nil (by walk_at "side")) ed_nil))))))))) (by walk_at "side")) (sz (by simp [rows0, rows5, rows11, ex0, ex3, ex6, ex9, ex12, ex18, rw0, rw3, rw7, rw11, bb0, bb4, bb8, bb11, bb14, bb18]))) rfl
theorem leafs (T : Tx K mg) : ∃ l, kitTab l K = true ∧ ∀ n ∈ exN, n ∈ l := ⟨_, T.kit, by decide⟩
theorem xcs (T : Tx K mg) : ∀ n ∈ exN, XC K (gA K n) := by
  intro n hn
  simp only [exN, List.mem_cons, List.not_mem_nil, or_false] at hn
  rcases hn with rfl | rfl | rfl | rfl | rfl | rfl | rfl | rfl | rfl | rfl | rfl | rfl | rfl | rfl | rfl | rfl | rfl | rfl | rfl | rfl
  · exact T.x_BadTable
  · exact T.x_BadText
  · exact T.x_BadStanding
  · exact T.x_CannotMove
  · exact T.x_NoSuch
  · exact T.x_WrongGround
  · exact T.x_TooGreat
  · exact T.x_BadVector
  · exact T.x_NotLocal
  · exact T.x_BadProgram
  · exact T.x_InUse
  · exact T.x_AttemptFailed
  · exact T.x_BadLot
  · exact T.x_BadDealing
  · exact T.x_NotCore
  · exact T.x_BadLoads
  · exact T.x_Impossible
  · exact T.x_BadLine
  · exact T.x_NothingToUndo
  · exact T.x_NothingToRedo
abbrev spCl (K : PySem.W.Frag) : Sp := SpP K [.dat] (fun a : D × Str => [a.1]) (fun a => a.2 ∈ exN ∧ IsX K (gA K a.2) a.1) (fun a => .lst ((exN.map fun y => decide (a.2 = y)).map D.bl))
theorem df_cl (T : Tx K mg) : Df P w K mg base "_law_classes_of" 1 [] (spCl K) := by
  refine T.d_l_classes_of.df sc_l_classes_of rfl (by decide) (fun _ _ _ _ _ _ us hl => match us, hl with | [_], _ => rfl) ?_
  intro f cdv A outer s H E hr
  refine ⟨rd_l_classes_of K, tm_l_classes_of T hr, ?_⟩
  rintro ⟨d, n⟩ ⟨hn, hx⟩
  simp only at hn hx
  have xc := xcs T n hn
  have hl : n ∈ _ := (show ∀ n ∈ exN, n ∈ (["BadTable", "BadText", "BadStanding", "CannotMove", "NoSuch", "WrongGround", "TooGreat", "BadVector", "NotLocal", "BadProgram", "InUse", "AttemptFailed", "BadLot", "BadDealing", "NotCore", "BadLoads", "Impossible", "BadLine", "NothingToUndo", "NothingToRedo"] : List Str) from by decide) n hn
  unfold rd_l_classes_of
  show Run K E _ [.dat d, .no] _
  refine run_seq (run_asg (d := .lst (bb0 n)) (ev_lst (ed_cons (ev_isiX (ev_dat rfl) ev_raw hx xc (.own _) (kitTab.one T.kit hl (y := "BadTable") (by decide))) (ed_cons (ev_isiX (ev_dat rfl) ev_raw hx xc (.own _) (kitTab.one T.kit hl (y := "BadText") (by decide))) (ed_cons (ev_isiX (ev_dat rfl) ev_raw hx xc (.own _) (kitTab.one T.kit hl (y := "BadStanding") (by decide))) (ed_cons (ev_isiX (ev_dat rfl) ev_raw hx xc (.own _) (kitTab.one T.kit hl (y := "CannotMove") (by decide))) ed_nil)))) (by walk_at "side")) ?_)
  dsimp only [List.set]
  refine run_seq (run_asg (d := .lst ((bb0 n) ++ bb4 n)) (ev_cat (ev_dat rfl) (ev_lst (ed_cons (ev_isiX (ev_dat rfl) ev_raw hx xc (.own _) (kitTab.one T.kit hl (y := "NoSuch") (by decide))) (ed_cons (ev_isiX (ev_dat rfl) ev_raw hx xc (.own _) (kitTab.one T.kit hl (y := "WrongGround") (by decide))) (ed_cons (ev_isiX (ev_dat rfl) ev_raw hx xc (.own _) (kitTab.one T.kit hl (y := "TooGreat") (by decide))) (ed_cons (ev_isiX (ev_dat rfl) ev_raw hx xc (.own _) (kitTab.one T.kit hl (y := "BadVector") (by decide))) ed_nil)))) (by walk_at "side")) (sz (by simp [rows0, rows5, rows11, ex0, ex3, ex6, ex9, ex12, ex18, rw0, rw3, rw7, rw11, bb0, bb4, bb8, bb11, bb14, bb18]))) ?_)
  dsimp only [List.set]
  refine run_seq (run_asg (d := .lst (((bb0 n) ++ bb4 n) ++ bb8 n)) (ev_cat (ev_dat rfl) (ev_lst (ed_cons (ev_isiX (ev_dat rfl) ev_raw hx xc (.own _) (kitTab.one T.kit hl (y := "NotLocal") (by decide))) (ed_cons (ev_isiX (ev_dat rfl) ev_raw hx xc (.own _) (kitTab.one T.kit hl (y := "BadProgram") (by decide))) (ed_cons (ev_isiX (ev_dat rfl) ev_raw hx xc (.own _) (kitTab.one T.kit hl (y := "InUse") (by decide))) ed_nil))) (by walk_at "side")) (sz (by simp [rows0, rows5, rows11, ex0, ex3, ex6, ex9, ex12, ex18, rw0, rw3, rw7, rw11, bb0, bb4, bb8, bb11, bb14, bb18]))) ?_)
  dsimp only [List.set]
  refine run_seq (run_asg (d := .lst ((((bb0 n) ++ bb4 n) ++ bb8 n) ++ bb11 n)) (ev_cat (ev_dat rfl) (ev_lst (ed_cons (ev_isiX (ev_dat rfl) ev_raw hx xc (.own _) (kitTab.one T.kit hl (y := "AttemptFailed") (by decide))) (ed_cons (ev_isiX (ev_dat rfl) ev_raw hx xc (.own _) (kitTab.one T.kit hl (y := "BadLot") (by decide))) (ed_cons (ev_isiX (ev_dat rfl) ev_raw hx xc (.own _) (kitTab.one T.kit hl (y := "BadDealing") (by decide))) ed_nil))) (by walk_at "side")) (sz (by simp [rows0, rows5, rows11, ex0, ex3, ex6, ex9, ex12, ex18, rw0, rw3, rw7, rw11, bb0, bb4, bb8, bb11, bb14, bb18]))) ?_)
  dsimp only [List.set]
  refine run_seq (run_asg (d := .lst (((((bb0 n) ++ bb4 n) ++ bb8 n) ++ bb11 n) ++ bb14 n)) (ev_cat (ev_dat rfl) (ev_lst (ed_cons (ev_isiX (ev_dat rfl) ev_raw hx xc (.own _) (kitTab.one T.kit hl (y := "NotCore") (by decide))) (ed_cons (ev_isiX (ev_dat rfl) ev_raw hx xc (.own _) (kitTab.one T.kit hl (y := "BadLoads") (by decide))) (ed_cons (ev_isiX (ev_dat rfl) ev_raw hx xc (.own _) (kitTab.one T.kit hl (y := "Impossible") (by decide))) (ed_cons (ev_isiX (ev_dat rfl) ev_raw hx xc (.own _) (kitTab.one T.kit hl (y := "BadLine") (by decide))) ed_nil)))) (by walk_at "side")) (sz (by simp [rows0, rows5, rows11, ex0, ex3, ex6, ex9, ex12, ex18, rw0, rw3, rw7, rw11, bb0, bb4, bb8, bb11, bb14, bb18]))) ?_)
  dsimp only [List.set]
  exact run_ret (d := .lst ((((((bb0 n) ++ bb4 n) ++ bb8 n) ++ bb11 n) ++ bb14 n) ++ bb18 n)) (ev_cat (ev_dat rfl) (ev_lst (ed_cons (ev_isiX (ev_dat rfl) ev_raw hx xc (.own _) (kitTab.one T.kit hl (y := "NothingToUndo") (by decide))) (ed_cons (ev_isiX (ev_dat rfl) ev_raw hx xc (.own _) (kitTab.one T.kit hl (y := "NothingToRedo") (by decide))) ed_nil)) (by walk_at "side")) (sz (by simp [rows0, rows5, rows11, ex0, ex3, ex6, ex9, ex12, ex18, rw0, rw3, rw7, rw11, bb0, bb4, bb8, bb11, bb14, bb18]))) rfl
end
end Fh

set_option Elab.async false
set_option linter.all false
set_option maxRecDepth 100000
set_option maxHeartbeats 4000000
namespace Fh
open PySem PySem.Spec PyProof.Rows L2
local macro_rules | `(tactic| walk_at "side") => `(tactic| first
  | assumption | decide | omega
  | exact ⟨by decide, by decide⟩ | exact ⟨by omega, by omega⟩ | exact Or.inl ⟨by omega, by omega⟩ | exact Or.inr ⟨by omega, by omega⟩
  | exact ⟨by decide, by decide, by decide⟩ | exact sz (by simp) | exact szl (by simp) | rfl)
local macro_rules | `(tactic| walk_at "ev") => `(tactic| first
  | exact ev_int
  | exact ev_bl
  | exact ev_str
  | exact ev_non
  | exact ev_dat rfl
  | exact ev_bor rfl
  | exact (ev_bor rfl).nw
  | exact ev_own rfl
  | exact (ev_bor rfl).sc
  | exact (ev_bor rfl).scB
  | exact (ev_bor rfl).scS
  | exact (ev_bor rfl).scN
  | (apply ev_addI; walk_at "ev"; walk_at "ev")
  | (apply ev_subI; walk_at "ev"; walk_at "ev")
  | (apply ev_ltI; walk_at "ev"; walk_at "ev")
  | (apply ev_leI; walk_at "ev"; walk_at "ev")
  | (apply ev_gtI; walk_at "ev"; walk_at "ev")
  | (apply ev_geI; walk_at "ev"; walk_at "ev")
  | (apply ev_eqI; walk_at "ev"; walk_at "ev")
  | (apply ev_neI; walk_at "ev"; walk_at "ev")
  | (apply ev_eqS; walk_at "ev"; walk_at "ev")
  | (apply ev_neS; walk_at "ev"; walk_at "ev")
  | (apply ev_eqL; walk_at "ev"; walk_at "ev")
  | (apply ev_neL; walk_at "ev"; walk_at "ev")
  | (apply ev_max2; walk_at "ev"; walk_at "ev")
  | (apply ev_min2; walk_at "ev"; walk_at "ev")
  | (apply ev_mulI; walk_at "ev"; walk_at "ev"; walk_at "side")
  | (apply ev_divI; walk_at "ev"; walk_at "ev"; walk_at "side")
  | (apply ev_modI; walk_at "ev"; walk_at "ev"; walk_at "side")
  | (apply ev_powI; walk_at "ev"; walk_at "ev"; walk_at "side")
  | (apply ev_negI; walk_at "ev")
  | (apply ev_abs; walk_at "ev")
  | (apply ev_intc; walk_at "ev")
  | (apply ev_lenM; walk_at "ev")
  | (apply ev_lenTM; walk_at "ev")
  | (apply ev_len; walk_at "ev")
  | (apply ev_lenT; walk_at "ev")
  | (apply ev_sum; walk_at "ev")
  | (apply ev_notV; walk_at "ev")
  | (apply ev_tupI; walk_at "ev")
  | (apply ev_is; walk_at "ev"; walk_at "ev"; rfl)
  | (apply ev_isN; walk_at "ev"; walk_at "ev"; rfl)
  | (apply ev_ixI; walk_at "ev"; walk_at "ev"; walk_at "side"; walk_at "side")
  | (apply ev_ixIT; walk_at "ev"; walk_at "ev"; walk_at "side"; walk_at "side")
  | (apply ev_andV; walk_at "ev"; (intro _; walk_at "ev"))
  | (apply ev_orV; walk_at "ev"; (intro _; walk_at "ev"))
  | (apply ev_tup; walk_at "ed"; walk_at "side")
  | exact ev_nil
  | (apply ev_lst; walk_at "ed"; walk_at "side")
  | (apply ev_isi; walk_at "ev"; rfl; decide +kernel))
local macro_rules | `(tactic| walk_at "ea") => `(tactic| first
  | exact ea_nil
  | (apply ea_cons; walk_at "ev"; walk_at "ea"))
local macro_rules | `(tactic| walk_at "ed") => `(tactic| first
  | exact ed_nil
  | (apply ed_cons; walk_at "ev"; walk_at "ed"))
local macro_rules | `(tactic| walk_at "et") => `(tactic| first
  | exact et_yes
  | (apply et_and; walk_at "et"; (intro _; walk_at "et"))
  | (apply et_or; walk_at "et"; (intro _; walk_at "et"))
  | (apply et_not; walk_at "et")
  | (refine et_test (m := .now) ?_; walk_at "ev")
  | (refine et_B (m := .now) ?_; walk_at "ev"))
local macro_rules | `(tactic| walk_at "asg") => `(tactic| (first
  | (refine run_seq ?_; apply run_asg; walk_at "ev"; dsimp only [List.set])
  | (apply run_asg; walk_at "ev"; dsimp only [List.set])))
local macro_rules | `(tactic| walk_at "ev") => `(tactic| first
  | (apply ev_ixT; walk_at "ev"; walk_at "ev"; rfl)
  | (apply ev_ixL; walk_at "ev"; walk_at "ev"; rfl)
  | (apply ev_cat; walk_at "ev"; walk_at "ev"; walk_at "side")
  | (apply ev_catT; walk_at "ev"; walk_at "ev"; walk_at "side"))
section
variable {P : Program} {w : World} {K : PySem.W.Frag} {mg : Str → Option Value} {base : Heap}
def Rx.ok (r : Rx) : Prop := PyData.strOk r.w0 = true ∧ PyData.strOk r.w1 = true ∧ PyData.strOk r.w2 = true ∧ PyData.strOk r.w3 = true ∧ PyData.strOk r.w4 = true ∧ PyData.strOk r.w5 = true ∧ PyData.strOk r.w6 = true
theorem fl_ok (ps : List Int) (k : Int) : (fl ps k).ok := ⟨wd_ok _ _, wd_ok _ _, wd_ok _ _, wd_ok _ _, wd_ok _ _, wd_ok _ _, wd_ok _ _⟩
theorem rows_shp {r : Rx} (h : r.ok) : shp 2 (.lst (rowsD r)) = true := by
  obtain ⟨h0, h1, h2, h3, h4, h5, h6⟩ := h
  simp [rowsD, shp, shps, h0, h1, h2, h3, h4, h5, h6]
theorem rows_siz (r : Rx) : siz (.lst (rowsD r)) = true := by
  simp [rowsD, siz, sizs]
theorem key (k : Nat) (hk : k < 20) : ∀ n, exN[k]? = some n → exN.map (fun y => decide (n = y)) = (List.range 20).map fun j => decide (j = k) := by
  have h : ∀ k < 20, exN.map (fun y => decide (exN.getD k "" = y)) = (List.range 20).map fun j => decide (j = k) := by decide +kernel
  intro n hn
  have := h k hk
  rw [List.getD_eq_getElem?_getD, hn] at this
  exact this
abbrev spRi (K : PySem.W.Frag) : Sp := SpP K [.dat, .dat] (fun r : Rx => [.lst (exL K r), .lst (rowsD r)]) (fun r => r.ok) (fun _ => .bl true)
theorem df_ri (T : Tx K mg) : Df P w K mg base "_law_right" 8 [] (spRi K) := by
  refine T.d_l_right.df sc_l_right rfl (by decide) (fun _ _ _ _ _ _ us hl => match us, hl with | [_, _], _ => rfl) ?_
  intro f cdv A outer s H E hr
  refine ⟨rd_l_right K (spSame K 2) (spRe K) (spCl K), tm_l_right T ((df_same T 2).mono (by decide)) (df_re T) (df_cl T) hr, ?_⟩
  intro r hok
  unfold rd_l_right
  show Run K E _ [.dat (.lst (exL K r)), .dat (.lst (rowsD r)), .no, .no] _
  have hs := rows_shp hok
  refine run_seq (run_ifF ((et_not (et_B (m := .now) (ev_call (out := fun p : D × D => D.bl (sm p.1 p.2)) (.lst (rowsD r), .lst (rowsD r)) ⟨hs, ⟨2, hs⟩, rows_siz r⟩ (ea_cons (ev_call (out := fun r : Rx => D.lst (rowsD r)) r trivial (ea_cons (ev_dat rfl) ea_nil)) (ea_cons (ev_dat rfl) ea_nil))))).is ?_) (run_next ?_))
  · simp only [sm_refl 2 _ hs]; rfl
  refine run_seq (run_for (m := .dat) (ei_rng1 (m := .dat) (ea_cons ev_int ea_nil) (by decide) (by decide)) (fun k e => ∃ s2 : Sl, e = [.dat (.lst (exL K r)), .dat (.lst (rowsD r)), s2, .no]) ⟨_, rfl⟩ ?_ ?_)
  · rintro k _ _ hx ⟨s2, rfl⟩
    obtain ⟨hk, rfl⟩ := get_rg hx
    have hk2 : k < 20 := hk
    obtain ⟨d, n, hd, hn, hX⟩ := exX K r k hk2
    have hm : n ∈ exN := List.mem_of_getElem? hn
    have hl : n ∈ _ := (show ∀ n ∈ exN, n ∈ (["BadTable", "BadText", "BadStanding", "CannotMove", "NoSuch", "WrongGround", "TooGreat", "BadVector", "NotLocal", "BadProgram", "InUse", "AttemptFailed", "BadLot", "BadDealing", "NotCore", "BadLoads", "Impossible", "BadLine", "NothingToUndo", "NothingToRedo"] : List Str) from by decide) n hm
    refine ⟨_, [2], tg_dat, ?_⟩
    dsimp only [List.set]
    have hv : ∀ {m : Md} {s3 : Sl}, Ev K m (tOp (rIx K) (tVar 0) (tVar 2)) [.dat (.lst (exL K r)), .dat (.lst (rowsD r)), .dat (.int (0 + (k : Nat))), s3] d := fun {m s3} => ev_ixL (ev_dat rfl) (ev_dat rfl) (atI_at hd)
    refine run_seq (run_ifF ((et_or (b := false) (c := false) (et_not (et_B (m := .now) (ev_isiX hv ev_raw hX (xcs T n hm) (.own _) (kitTab.own T.kit hl)))) fun _ => et_not (et_B (m := .now) (ev_isiX hv ev_raw hX (xcs T n hm) (.ty _) (kitTab.val T.kit hl))))) (run_next ?_))
    refine run_ifF ((et_test (m := .now) (ev_neB (ns := exN.map fun y => decide (n = y)) (ms := (List.range 20).map fun j => decide (j = k)) (ev_call (out := fun a : D × Str => D.lst ((exN.map fun y => decide (a.2 = y)).map D.bl)) (d, n) ⟨hm, hX⟩ (ea_cons hv ea_nil)) ?_)).is ?_) (run_next ⟨_, rfl⟩)
    · refine ((ev_lcO (m := .dat) (xs := rgD 0 20) (fun d => match d with | .int x => some (D.bl (decide (x = (k : Nat)))) | _ => none) ?_ (by rw [rgD_len]; exact sz (by decide)) ?_).dat).is ?_
      · exact ei_rng1 (m := .dat) (ea_cons ev_int ea_nil) (by decide) (by decide)
      · intro i d hd
        obtain ⟨hi, rfl⟩ := get_rg hd
        refine ⟨_, tg_dat, .inl ⟨_, et_yes, rfl, (ev_eqI (i := 0 + (i : Nat)) (j := 0 + (k : Nat)) (ev_dat rfl) (ev_dat rfl)).is ?_⟩⟩
        simp
      · show D.lst _ = D.lst _
        congr 1
        unfold rgD
        rw [List.filterMap_map, List.map_map, ← List.filterMap_eq_map]
        show List.filterMap _ (List.range 20) = _
        congr 1
        funext i
        simp
        omega
    · rw [key k hk2 n hn]; simp
  · rintro _ ⟨s2, rfl⟩
    exact run_ret ev_bl rfl
theorem body_law (T : Tx K mg) : BodyR P w K mg base "law" s_law N_law 8 [.now] (fun ns : List Int => [.rol (ns.map D.int)]) (fun ns => ns.length ≤ 63) (fun _ d => d = .bl true) := by
  intro f' cdv A outer s H E hr
  refine ⟨rd_law K (spPool K) (spFl K) (spMd K) (spRi K), tm_law T (df_pool T) (df_fl T) (df_md T) (df_ri T) hr, ?_⟩
  intro ns _
  unfold rd_law
  show Run K E _ [.bor (.rol (ns.map D.int)), .no, .no, .no, .no, .no] _
  refine run_seq (run_asgP (evp_call (out := fun (a : List Int × Nat) d => ∃ ms : List Int, d = rowD ms ∧ ms.length = a.2 ∧ Unit1000 ms) (ns, 60) (by show 60 ≤ 100000; decide) (ea_cons (ev_bor rfl).nw (ea_cons ev_int ea_nil))) ?_)
  rintro _ ⟨ps, rfl, hps, hu⟩
  simp only at hps
  dsimp only [List.set]
  have hf : ∀ k : Int, 0 ≤ k → k ≤ 30 → (0 ≤ k ∧ k + 24 < (ps.length : Nat)) ∧ Unit1000 ps := fun k h0 h1 => ⟨by omega, hu⟩
  refine run_seq (run_asg (d := .lst (rowsD (fl ps 0))) (ev_call (out := fun a : List Int × Int => D.lst (rowsD (fl a.1 a.2))) (ps, 0) (hf 0 (by decide) (by decide)) (ea_cons (ev_dat rfl) (ea_cons ev_int ea_nil))) ?_)
  dsimp only [List.set]
  refine run_seq (run_asg (d := .lst (rowsD (fl ps 30))) (ev_call (out := fun a : List Int × Int => D.lst (rowsD (fl a.1 a.2))) (ps, 30) (hf 30 (by decide) (by decide)) (ea_cons (ev_dat rfl) (ea_cons ev_int ea_nil))) ?_)
  dsimp only [List.set]
  refine run_seq (run_asg (d := .lst (exL K (fl ps 0))) (ev_call (out := fun r : Rx => D.lst (exL K r)) (fl ps 0) trivial (ea_cons (ev_dat rfl) ea_nil)) ?_)
  dsimp only [List.set]
  have hR : ∀ {m : Md} (r : Rx) (i j : Nat) (e : En), r.ok → e[i]? = some (.dat (.lst (exL K r))) → e[j]? = some (.dat (.lst (rowsD r))) → Ev K m (tCall (spRi K) [] E0 (tCons (tVar i) (tCons (tVar j) tNil))) e (.bl true) := fun {m} r i j e ho h1 h2 =>
    ev_call (out := fun _ : Rx => D.bl true) r ho (ea_cons (ev_dat h1) (ea_cons (ev_dat h2) ea_nil))
  refine run_seq (run_ifF (et_not (et_B (m := .now) (hR (fl ps 0) 4 2 _ (fl_ok _ _) rfl rfl))) (run_next ?_))
  refine run_seq (run_asg (d := .lst (exL K (fl ps 30))) (ev_call (out := fun r : Rx => D.lst (exL K r)) (fl ps 30) trivial (ea_cons (ev_dat rfl) ea_nil)) ?_)
  dsimp only [List.set]
  exact run_ret (ev_andV (m1 := .now) (hR (fl ps 30) 5 3 _ (fl_ok _ _) rfl rfl) fun _ => hR (fl ps 0) 4 2 _ (fl_ok _ _) rfl rfl) rfl
end
end Fh

set_option Elab.async false
set_option linter.all false
set_option maxRecDepth 100000
set_option maxHeartbeats 0
namespace Fh
open PySem PySem.Spec PyProof.Rows L2
/-! ### the head (printed by genend.py) -/
def dd_l_mixed : Dq := ⟨fun K => gA K "_law_mixed", "_law_mixed", "_law_mixed", defArgs s_l_mixed, defBody s_l_mixed, defScope s_l_mixed, fun _ => [], fun _ => []⟩
def dd_l_pool : Dq := ⟨fun K => gA K "_law_pool", "_law_pool", "_law_pool", defArgs s_l_pool, defBody s_l_pool, defScope s_l_pool, fun _ => [], fun _ => []⟩
def dd_l_same : Dq := ⟨fun K => gA K "_law_same", "_law_same", "_law_same", defArgs s_l_same, defBody s_l_same, defScope s_l_same, fun _ => [], fun _ => []⟩
def dd_l_word : Dq := ⟨fun K => gA K "_law_word", "_law_word", "_law_word", defArgs s_l_word, defBody s_l_word, defScope s_l_word, fun _ => [], fun _ => []⟩
def dd_l_number : Dq := ⟨fun K => gA K "_law_number", "_law_number", "_law_number", defArgs s_l_number, defBody s_l_number, defScope s_l_number, fun _ => [], fun _ => []⟩
def dd_l_fields_of : Dq := ⟨fun K => gA K "_law_fields_of", "_law_fields_of", "_law_fields_of", defArgs s_l_fields_of, defBody s_l_fields_of, defScope s_l_fields_of, fun _ => [], fun _ => []⟩
def dd_l_made : Dq := ⟨fun K => gA K "_law_made", "_law_made", "_law_made", defArgs s_l_made, defBody s_l_made, defScope s_l_made, fun _ => [], fun _ => []⟩
def dd_l_read : Dq := ⟨fun K => gA K "_law_read", "_law_read", "_law_read", defArgs s_l_read, defBody s_l_read, defScope s_l_read, fun _ => [], fun _ => []⟩
def dd_l_classes_of : Dq := ⟨fun K => gA K "_law_classes_of", "_law_classes_of", "_law_classes_of", defArgs s_l_classes_of, defBody s_l_classes_of, defScope s_l_classes_of, fun _ => [], fun _ => []⟩
def dd_l_right : Dq := ⟨fun K => gA K "_law_right", "_law_right", "_law_right", defArgs s_l_right, defBody s_l_right, defScope s_l_right, fun _ => [], fun _ => []⟩
def dd_law : Dq := ⟨fun K => gA K "law", "law", "law", defArgs s_law, defBody s_law, defScope s_law, fun _ => [], fun _ => []⟩
def dd_BadTable__init : Dq := ⟨fun K => mA K "BadTable" "__init__", "__init__", "BadTable.__init__", defArgs s_BadTable__init, defBody s_BadTable__init, defScope s_BadTable__init, fun _ => [], fun _ => []⟩
def dd_BadText__init : Dq := ⟨fun K => mA K "BadText" "__init__", "__init__", "BadText.__init__", defArgs s_BadText__init, defBody s_BadText__init, defScope s_BadText__init, fun _ => [], fun _ => []⟩
def dd_BadStanding__init : Dq := ⟨fun K => mA K "BadStanding" "__init__", "__init__", "BadStanding.__init__", defArgs s_BadStanding__init, defBody s_BadStanding__init, defScope s_BadStanding__init, fun _ => [], fun _ => []⟩
def dd_CannotMove__init : Dq := ⟨fun K => mA K "CannotMove" "__init__", "__init__", "CannotMove.__init__", defArgs s_CannotMove__init, defBody s_CannotMove__init, defScope s_CannotMove__init, fun _ => [], fun _ => []⟩
def dd_NoSuch__init : Dq := ⟨fun K => mA K "NoSuch" "__init__", "__init__", "NoSuch.__init__", defArgs s_NoSuch__init, defBody s_NoSuch__init, defScope s_NoSuch__init, fun _ => [], fun _ => []⟩
def dd_WrongGround__init : Dq := ⟨fun K => mA K "WrongGround" "__init__", "__init__", "WrongGround.__init__", defArgs s_WrongGround__init, defBody s_WrongGround__init, defScope s_WrongGround__init, fun _ => [], fun _ => []⟩
def dd_TooGreat__init : Dq := ⟨fun K => mA K "TooGreat" "__init__", "__init__", "TooGreat.__init__", defArgs s_TooGreat__init, defBody s_TooGreat__init, defScope s_TooGreat__init, fun _ => [], fun _ => []⟩
def dd_BadVector__init : Dq := ⟨fun K => mA K "BadVector" "__init__", "__init__", "BadVector.__init__", defArgs s_BadVector__init, defBody s_BadVector__init, defScope s_BadVector__init, fun _ => [], fun _ => []⟩
def dd_NotLocal__init : Dq := ⟨fun K => mA K "NotLocal" "__init__", "__init__", "NotLocal.__init__", defArgs s_NotLocal__init, defBody s_NotLocal__init, defScope s_NotLocal__init, fun _ => [], fun _ => []⟩
def dd_BadProgram__init : Dq := ⟨fun K => mA K "BadProgram" "__init__", "__init__", "BadProgram.__init__", defArgs s_BadProgram__init, defBody s_BadProgram__init, defScope s_BadProgram__init, fun _ => [], fun _ => []⟩
def dd_InUse__init : Dq := ⟨fun K => mA K "InUse" "__init__", "__init__", "InUse.__init__", defArgs s_InUse__init, defBody s_InUse__init, defScope s_InUse__init, fun _ => [], fun _ => []⟩
def dd_AttemptFailed__init : Dq := ⟨fun K => mA K "AttemptFailed" "__init__", "__init__", "AttemptFailed.__init__", defArgs s_AttemptFailed__init, defBody s_AttemptFailed__init, defScope s_AttemptFailed__init, fun _ => [], fun _ => []⟩
def fn : List Dq := [dd_l_mixed, dd_l_pool, dd_l_same, dd_l_word, dd_l_number, dd_l_fields_of, dd_l_made, dd_l_read, dd_l_classes_of, dd_l_right, dd_law, dd_BadTable__init, dd_BadText__init, dd_BadStanding__init, dd_CannotMove__init, dd_NoSuch__init, dd_WrongGround__init, dd_TooGreat__init, dd_BadVector__init, dd_NotLocal__init, dd_BadProgram__init, dd_InUse__init, dd_AttemptFailed__init]
def fa : List (PySem.W.Frag → Bool) := [(He.Fa.glo "_law_mixed").ok, (He.Fa.glo "_law_pool").ok, (He.Fa.glo "_law_same").ok, (He.Fa.glo "_law_word").ok, (He.Fa.glo "_law_number").ok, (He.Fa.glo "_law_fields_of").ok, (He.Fa.glo "_law_made").ok, (He.Fa.glo "_law_read").ok, (He.Fa.glo "_law_classes_of").ok, (He.Fa.glo "_law_right").ok, (He.Fa.glo "law").ok, (He.Fa.free "ValueError").ok, (He.Fa.free "abs").ok, (He.Fa.free "bool").ok, (He.Fa.free "int").ok, (He.Fa.free "isinstance").ok, (He.Fa.free "len").ok, (He.Fa.free "list").ok, (He.Fa.free "range").ok, (He.Fa.free "str").ok, (He.Fa.free "tuple").ok, ((He.Fa.glo "FullhandsError").ok), (fun K => xcB K (gA K "FullhandsError")), (fun K => PySem.W.excIn K (gA K "FullhandsError") He.veBase "ValueError.__new__"), ((He.Fa.glo "BadTable").ok), (fun K => xcB K (gA K "BadTable")), ((He.Fa.meth "BadTable" "__init__").ok), (fun K => decide (PySem.W.typeIn K (.ref (mA K "BadTable" "__init__")) = some (.type "function"))), ((He.Fa.noat "BadTable" "place").ok), ((He.Fa.noat "BadTable" "index").ok), ((He.Fa.glo "BadText").ok), (fun K => xcB K (gA K "BadText")), ((He.Fa.meth "BadText" "__init__").ok), (fun K => decide (PySem.W.typeIn K (.ref (mA K "BadText" "__init__")) = some (.type "function"))), ((He.Fa.noat "BadText" "line").ok), ((He.Fa.glo "BadStanding").ok), (fun K => xcB K (gA K "BadStanding")), ((He.Fa.meth "BadStanding" "__init__").ok), (fun K => decide (PySem.W.typeIn K (.ref (mA K "BadStanding" "__init__")) = some (.type "function"))), ((He.Fa.noat "BadStanding" "place").ok), ((He.Fa.noat "BadStanding" "index").ok), ((He.Fa.glo "CannotMove").ok), (fun K => xcB K (gA K "CannotMove")), ((He.Fa.meth "CannotMove" "__init__").ok), (fun K => decide (PySem.W.typeIn K (.ref (mA K "CannotMove" "__init__")) = some (.type "function"))), ((He.Fa.noat "CannotMove" "index").ok), ((He.Fa.noat "CannotMove" "reason").ok), ((He.Fa.glo "NoSuch").ok), (fun K => xcB K (gA K "NoSuch")), ((He.Fa.meth "NoSuch" "__init__").ok), (fun K => decide (PySem.W.typeIn K (.ref (mA K "NoSuch" "__init__")) = some (.type "function"))), ((He.Fa.noat "NoSuch" "what").ok), ((He.Fa.glo "WrongGround").ok), (fun K => xcB K (gA K "WrongGround")), ((He.Fa.meth "WrongGround" "__init__").ok), (fun K => decide (PySem.W.typeIn K (.ref (mA K "WrongGround" "__init__")) = some (.type "function"))), ((He.Fa.noat "WrongGround" "needed").ok), ((He.Fa.glo "TooGreat").ok), (fun K => xcB K (gA K "TooGreat")), ((He.Fa.meth "TooGreat" "__init__").ok), (fun K => decide (PySem.W.typeIn K (.ref (mA K "TooGreat" "__init__")) = some (.type "function"))), ((He.Fa.noat "TooGreat" "what").ok), ((He.Fa.glo "BadVector").ok), (fun K => xcB K (gA K "BadVector")), ((He.Fa.meth "BadVector" "__init__").ok), (fun K => decide (PySem.W.typeIn K (.ref (mA K "BadVector" "__init__")) = some (.type "function"))), ((He.Fa.noat "BadVector" "index").ok), ((He.Fa.glo "NotLocal").ok), (fun K => xcB K (gA K "NotLocal")), ((He.Fa.meth "NotLocal" "__init__").ok), (fun K => decide (PySem.W.typeIn K (.ref (mA K "NotLocal" "__init__")) = some (.type "function"))), ((He.Fa.noat "NotLocal" "kind").ok), ((He.Fa.glo "BadProgram").ok), (fun K => xcB K (gA K "BadProgram")), ((He.Fa.meth "BadProgram" "__init__").ok), (fun K => decide (PySem.W.typeIn K (.ref (mA K "BadProgram" "__init__")) = some (.type "function"))), ((He.Fa.noat "BadProgram" "line").ok), ((He.Fa.noat "BadProgram" "word").ok), ((He.Fa.glo "InUse").ok), (fun K => xcB K (gA K "InUse")), ((He.Fa.meth "InUse" "__init__").ok), (fun K => decide (PySem.W.typeIn K (.ref (mA K "InUse" "__init__")) = some (.type "function"))), ((He.Fa.noat "InUse" "what").ok), ((He.Fa.glo "AttemptFailed").ok), (fun K => xcB K (gA K "AttemptFailed")), ((He.Fa.meth "AttemptFailed" "__init__").ok), (fun K => decide (PySem.W.typeIn K (.ref (mA K "AttemptFailed" "__init__")) = some (.type "function"))), ((He.Fa.noat "AttemptFailed" "index").ok), ((He.Fa.glo "BadLot").ok), (fun K => xcB K (gA K "BadLot")), (fun K => PySem.W.excIn K (gA K "BadLot") He.veBase "ValueError.__new__"), ((He.Fa.glo "BadDealing").ok), (fun K => xcB K (gA K "BadDealing")), (fun K => PySem.W.excIn K (gA K "BadDealing") He.veBase "ValueError.__new__"), ((He.Fa.glo "NotCore").ok), (fun K => xcB K (gA K "NotCore")), (fun K => PySem.W.excIn K (gA K "NotCore") He.veBase "ValueError.__new__"), ((He.Fa.glo "BadLoads").ok), (fun K => xcB K (gA K "BadLoads")), (fun K => PySem.W.excIn K (gA K "BadLoads") He.veBase "ValueError.__new__"), ((He.Fa.glo "Impossible").ok), (fun K => xcB K (gA K "Impossible")), (fun K => PySem.W.excIn K (gA K "Impossible") He.veBase "ValueError.__new__"), ((He.Fa.glo "BadLine").ok), (fun K => xcB K (gA K "BadLine")), (fun K => PySem.W.excIn K (gA K "BadLine") He.veBase "ValueError.__new__"), ((He.Fa.glo "NothingToUndo").ok), (fun K => xcB K (gA K "NothingToUndo")), (fun K => PySem.W.excIn K (gA K "NothingToUndo") He.veBase "ValueError.__new__"), ((He.Fa.glo "NothingToRedo").ok), (fun K => xcB K (gA K "NothingToRedo")), (fun K => PySem.W.excIn K (gA K "NothingToRedo") He.veBase "ValueError.__new__"), (kitTab ["BadTable", "BadText", "BadStanding", "CannotMove", "NoSuch", "WrongGround", "TooGreat", "BadVector", "NotLocal", "BadProgram", "InUse", "AttemptFailed", "BadLot", "BadDealing", "NotCore", "BadLoads", "Impossible", "BadLine", "NothingToUndo", "NothingToRedo"])]
abbrev R : PySem.W.OpenRow := PySem.W.OpenLaw.row PySem.Challenge.rw_fullhands_k96_errors_built
abbrev hk : PySem.W.Hook := hookQ 7 fa fn
def ob (s : PySem.W.SharedT) : Ob := seeG 7 fa fn (HandSHeadRun.getT s)
theorem ob_eq (s : PySem.W.SharedT) : ob s = hk.obs s.abs := seeG_eq (HandSHeadRun.getT_eq s)
def names : List Str := (["FullhandsError", "BadTable", "BadText", "BadStanding", "CannotMove", "NoSuch", "WrongGround", "TooGreat", "BadVector", "NotLocal", "BadProgram", "InUse", "AttemptFailed", "BadLot", "BadDealing", "NotCore", "BadLoads", "Impossible", "BadLine", "NothingToUndo", "NothingToRedo", "_law_mixed", "_law_pool", "_law_same", "_law_word", "_law_number", "_law_fields_of", "_law_made", "_law_read", "_law_classes_of", "_law_right"] : List Str)
theorem headrun (w : World) : HandSHeadRun.RunEq R (PySem.W.view R.prog [33]) hk ob 30000 names w := by
  intro os
  kernel_rfl
theorem tx_of {K : PySem.W.Frag} {h : Heap} {mg : Str → Option Value} (X : K.In h) (G : h.Ns mainGlobals mg) (c : Tells fa fn K) : Tx K mg where
  d_l_mixed := by
    obtain ⟨fd, F⟩ := c.fun_ 0 (d := dd_l_mixed) rfl
    exact ⟨_, fd, F, He.glo_ok X G (c.at 0 rfl)⟩
  d_l_pool := by
    obtain ⟨fd, F⟩ := c.fun_ 1 (d := dd_l_pool) rfl
    exact ⟨_, fd, F, He.glo_ok X G (c.at 1 rfl)⟩
  d_l_same := by
    obtain ⟨fd, F⟩ := c.fun_ 2 (d := dd_l_same) rfl
    exact ⟨_, fd, F, He.glo_ok X G (c.at 2 rfl)⟩
  d_l_word := by
    obtain ⟨fd, F⟩ := c.fun_ 3 (d := dd_l_word) rfl
    exact ⟨_, fd, F, He.glo_ok X G (c.at 3 rfl)⟩
  d_l_number := by
    obtain ⟨fd, F⟩ := c.fun_ 4 (d := dd_l_number) rfl
    exact ⟨_, fd, F, He.glo_ok X G (c.at 4 rfl)⟩
  d_l_fields_of := by
    obtain ⟨fd, F⟩ := c.fun_ 5 (d := dd_l_fields_of) rfl
    exact ⟨_, fd, F, He.glo_ok X G (c.at 5 rfl)⟩
  d_l_made := by
    obtain ⟨fd, F⟩ := c.fun_ 6 (d := dd_l_made) rfl
    exact ⟨_, fd, F, He.glo_ok X G (c.at 6 rfl)⟩
  d_l_read := by
    obtain ⟨fd, F⟩ := c.fun_ 7 (d := dd_l_read) rfl
    exact ⟨_, fd, F, He.glo_ok X G (c.at 7 rfl)⟩
  d_l_classes_of := by
    obtain ⟨fd, F⟩ := c.fun_ 8 (d := dd_l_classes_of) rfl
    exact ⟨_, fd, F, He.glo_ok X G (c.at 8 rfl)⟩
  d_l_right := by
    obtain ⟨fd, F⟩ := c.fun_ 9 (d := dd_l_right) rfl
    exact ⟨_, fd, F, He.glo_ok X G (c.at 9 rfl)⟩
  d_law := by
    obtain ⟨fd, F⟩ := c.fun_ 10 (d := dd_law) rfl
    exact ⟨_, fd, F, He.glo_ok X G (c.at 10 rfl)⟩
  f_ValueError := He.free_ok X G (c.at 11 rfl)
  f_abs := He.free_ok X G (c.at 12 rfl)
  f_bool := He.free_ok X G (c.at 13 rfl)
  f_int := He.free_ok X G (c.at 14 rfl)
  f_isinstance := He.free_ok X G (c.at 15 rfl)
  f_len := He.free_ok X G (c.at 16 rfl)
  f_list := He.free_ok X G (c.at 17 rfl)
  f_range := He.free_ok X G (c.at 18 rfl)
  f_str := He.free_ok X G (c.at 19 rfl)
  f_tuple := He.free_ok X G (c.at 20 rfl)
  g_FullhandsError := He.glo_ok X G (c.at 21 (f := ((He.Fa.glo "FullhandsError").ok)) rfl)
  x_FullhandsError := xcB_ok (c.at 22 (f := (fun K => xcB K (gA K "FullhandsError"))) rfl)
  e_FullhandsError := ⟨_, c.at 23 (f := (fun K => PySem.W.excIn K (gA K "FullhandsError") He.veBase "ValueError.__new__")) rfl, rfl⟩
  g_BadTable := He.glo_ok X G (c.at 24 (f := ((He.Fa.glo "BadTable").ok)) rfl)
  x_BadTable := xcB_ok (c.at 25 (f := (fun K => xcB K (gA K "BadTable"))) rfl)
  i_BadTable := (He.meth_ok (c.at 26 (f := ((He.Fa.meth "BadTable" "__init__").ok)) rfl)).at_
  t_BadTable := of_decide_eq_true (c.at 27 (f := (fun K => decide (PySem.W.typeIn K (.ref (mA K "BadTable" "__init__")) = some (.type "function")))) rfl)
  n_BadTable_place := He.noat_ok (c.at 28 (f := ((He.Fa.noat "BadTable" "place").ok)) rfl)
  n_BadTable_index := He.noat_ok (c.at 29 (f := ((He.Fa.noat "BadTable" "index").ok)) rfl)
  g_BadText := He.glo_ok X G (c.at 30 (f := ((He.Fa.glo "BadText").ok)) rfl)
  x_BadText := xcB_ok (c.at 31 (f := (fun K => xcB K (gA K "BadText"))) rfl)
  i_BadText := (He.meth_ok (c.at 32 (f := ((He.Fa.meth "BadText" "__init__").ok)) rfl)).at_
  t_BadText := of_decide_eq_true (c.at 33 (f := (fun K => decide (PySem.W.typeIn K (.ref (mA K "BadText" "__init__")) = some (.type "function")))) rfl)
  n_BadText_line := He.noat_ok (c.at 34 (f := ((He.Fa.noat "BadText" "line").ok)) rfl)
  g_BadStanding := He.glo_ok X G (c.at 35 (f := ((He.Fa.glo "BadStanding").ok)) rfl)
  x_BadStanding := xcB_ok (c.at 36 (f := (fun K => xcB K (gA K "BadStanding"))) rfl)
  i_BadStanding := (He.meth_ok (c.at 37 (f := ((He.Fa.meth "BadStanding" "__init__").ok)) rfl)).at_
  t_BadStanding := of_decide_eq_true (c.at 38 (f := (fun K => decide (PySem.W.typeIn K (.ref (mA K "BadStanding" "__init__")) = some (.type "function")))) rfl)
  n_BadStanding_place := He.noat_ok (c.at 39 (f := ((He.Fa.noat "BadStanding" "place").ok)) rfl)
  n_BadStanding_index := He.noat_ok (c.at 40 (f := ((He.Fa.noat "BadStanding" "index").ok)) rfl)
  g_CannotMove := He.glo_ok X G (c.at 41 (f := ((He.Fa.glo "CannotMove").ok)) rfl)
  x_CannotMove := xcB_ok (c.at 42 (f := (fun K => xcB K (gA K "CannotMove"))) rfl)
  i_CannotMove := (He.meth_ok (c.at 43 (f := ((He.Fa.meth "CannotMove" "__init__").ok)) rfl)).at_
  t_CannotMove := of_decide_eq_true (c.at 44 (f := (fun K => decide (PySem.W.typeIn K (.ref (mA K "CannotMove" "__init__")) = some (.type "function")))) rfl)
  n_CannotMove_index := He.noat_ok (c.at 45 (f := ((He.Fa.noat "CannotMove" "index").ok)) rfl)
  n_CannotMove_reason := He.noat_ok (c.at 46 (f := ((He.Fa.noat "CannotMove" "reason").ok)) rfl)
  g_NoSuch := He.glo_ok X G (c.at 47 (f := ((He.Fa.glo "NoSuch").ok)) rfl)
  x_NoSuch := xcB_ok (c.at 48 (f := (fun K => xcB K (gA K "NoSuch"))) rfl)
  i_NoSuch := (He.meth_ok (c.at 49 (f := ((He.Fa.meth "NoSuch" "__init__").ok)) rfl)).at_
  t_NoSuch := of_decide_eq_true (c.at 50 (f := (fun K => decide (PySem.W.typeIn K (.ref (mA K "NoSuch" "__init__")) = some (.type "function")))) rfl)
  n_NoSuch_what := He.noat_ok (c.at 51 (f := ((He.Fa.noat "NoSuch" "what").ok)) rfl)
  g_WrongGround := He.glo_ok X G (c.at 52 (f := ((He.Fa.glo "WrongGround").ok)) rfl)
  x_WrongGround := xcB_ok (c.at 53 (f := (fun K => xcB K (gA K "WrongGround"))) rfl)
  i_WrongGround := (He.meth_ok (c.at 54 (f := ((He.Fa.meth "WrongGround" "__init__").ok)) rfl)).at_
  t_WrongGround := of_decide_eq_true (c.at 55 (f := (fun K => decide (PySem.W.typeIn K (.ref (mA K "WrongGround" "__init__")) = some (.type "function")))) rfl)
  n_WrongGround_needed := He.noat_ok (c.at 56 (f := ((He.Fa.noat "WrongGround" "needed").ok)) rfl)
  g_TooGreat := He.glo_ok X G (c.at 57 (f := ((He.Fa.glo "TooGreat").ok)) rfl)
  x_TooGreat := xcB_ok (c.at 58 (f := (fun K => xcB K (gA K "TooGreat"))) rfl)
  i_TooGreat := (He.meth_ok (c.at 59 (f := ((He.Fa.meth "TooGreat" "__init__").ok)) rfl)).at_
  t_TooGreat := of_decide_eq_true (c.at 60 (f := (fun K => decide (PySem.W.typeIn K (.ref (mA K "TooGreat" "__init__")) = some (.type "function")))) rfl)
  n_TooGreat_what := He.noat_ok (c.at 61 (f := ((He.Fa.noat "TooGreat" "what").ok)) rfl)
  g_BadVector := He.glo_ok X G (c.at 62 (f := ((He.Fa.glo "BadVector").ok)) rfl)
  x_BadVector := xcB_ok (c.at 63 (f := (fun K => xcB K (gA K "BadVector"))) rfl)
  i_BadVector := (He.meth_ok (c.at 64 (f := ((He.Fa.meth "BadVector" "__init__").ok)) rfl)).at_
  t_BadVector := of_decide_eq_true (c.at 65 (f := (fun K => decide (PySem.W.typeIn K (.ref (mA K "BadVector" "__init__")) = some (.type "function")))) rfl)
  n_BadVector_index := He.noat_ok (c.at 66 (f := ((He.Fa.noat "BadVector" "index").ok)) rfl)
  g_NotLocal := He.glo_ok X G (c.at 67 (f := ((He.Fa.glo "NotLocal").ok)) rfl)
  x_NotLocal := xcB_ok (c.at 68 (f := (fun K => xcB K (gA K "NotLocal"))) rfl)
  i_NotLocal := (He.meth_ok (c.at 69 (f := ((He.Fa.meth "NotLocal" "__init__").ok)) rfl)).at_
  t_NotLocal := of_decide_eq_true (c.at 70 (f := (fun K => decide (PySem.W.typeIn K (.ref (mA K "NotLocal" "__init__")) = some (.type "function")))) rfl)
  n_NotLocal_kind := He.noat_ok (c.at 71 (f := ((He.Fa.noat "NotLocal" "kind").ok)) rfl)
  g_BadProgram := He.glo_ok X G (c.at 72 (f := ((He.Fa.glo "BadProgram").ok)) rfl)
  x_BadProgram := xcB_ok (c.at 73 (f := (fun K => xcB K (gA K "BadProgram"))) rfl)
  i_BadProgram := (He.meth_ok (c.at 74 (f := ((He.Fa.meth "BadProgram" "__init__").ok)) rfl)).at_
  t_BadProgram := of_decide_eq_true (c.at 75 (f := (fun K => decide (PySem.W.typeIn K (.ref (mA K "BadProgram" "__init__")) = some (.type "function")))) rfl)
  n_BadProgram_line := He.noat_ok (c.at 76 (f := ((He.Fa.noat "BadProgram" "line").ok)) rfl)
  n_BadProgram_word := He.noat_ok (c.at 77 (f := ((He.Fa.noat "BadProgram" "word").ok)) rfl)
  g_InUse := He.glo_ok X G (c.at 78 (f := ((He.Fa.glo "InUse").ok)) rfl)
  x_InUse := xcB_ok (c.at 79 (f := (fun K => xcB K (gA K "InUse"))) rfl)
  i_InUse := (He.meth_ok (c.at 80 (f := ((He.Fa.meth "InUse" "__init__").ok)) rfl)).at_
  t_InUse := of_decide_eq_true (c.at 81 (f := (fun K => decide (PySem.W.typeIn K (.ref (mA K "InUse" "__init__")) = some (.type "function")))) rfl)
  n_InUse_what := He.noat_ok (c.at 82 (f := ((He.Fa.noat "InUse" "what").ok)) rfl)
  g_AttemptFailed := He.glo_ok X G (c.at 83 (f := ((He.Fa.glo "AttemptFailed").ok)) rfl)
  x_AttemptFailed := xcB_ok (c.at 84 (f := (fun K => xcB K (gA K "AttemptFailed"))) rfl)
  i_AttemptFailed := (He.meth_ok (c.at 85 (f := ((He.Fa.meth "AttemptFailed" "__init__").ok)) rfl)).at_
  t_AttemptFailed := of_decide_eq_true (c.at 86 (f := (fun K => decide (PySem.W.typeIn K (.ref (mA K "AttemptFailed" "__init__")) = some (.type "function")))) rfl)
  n_AttemptFailed_index := He.noat_ok (c.at 87 (f := ((He.Fa.noat "AttemptFailed" "index").ok)) rfl)
  g_BadLot := He.glo_ok X G (c.at 88 (f := ((He.Fa.glo "BadLot").ok)) rfl)
  x_BadLot := xcB_ok (c.at 89 (f := (fun K => xcB K (gA K "BadLot"))) rfl)
  e_BadLot := ⟨_, c.at 90 (f := (fun K => PySem.W.excIn K (gA K "BadLot") He.veBase "ValueError.__new__")) rfl, rfl⟩
  g_BadDealing := He.glo_ok X G (c.at 91 (f := ((He.Fa.glo "BadDealing").ok)) rfl)
  x_BadDealing := xcB_ok (c.at 92 (f := (fun K => xcB K (gA K "BadDealing"))) rfl)
  e_BadDealing := ⟨_, c.at 93 (f := (fun K => PySem.W.excIn K (gA K "BadDealing") He.veBase "ValueError.__new__")) rfl, rfl⟩
  g_NotCore := He.glo_ok X G (c.at 94 (f := ((He.Fa.glo "NotCore").ok)) rfl)
  x_NotCore := xcB_ok (c.at 95 (f := (fun K => xcB K (gA K "NotCore"))) rfl)
  e_NotCore := ⟨_, c.at 96 (f := (fun K => PySem.W.excIn K (gA K "NotCore") He.veBase "ValueError.__new__")) rfl, rfl⟩
  g_BadLoads := He.glo_ok X G (c.at 97 (f := ((He.Fa.glo "BadLoads").ok)) rfl)
  x_BadLoads := xcB_ok (c.at 98 (f := (fun K => xcB K (gA K "BadLoads"))) rfl)
  e_BadLoads := ⟨_, c.at 99 (f := (fun K => PySem.W.excIn K (gA K "BadLoads") He.veBase "ValueError.__new__")) rfl, rfl⟩
  g_Impossible := He.glo_ok X G (c.at 100 (f := ((He.Fa.glo "Impossible").ok)) rfl)
  x_Impossible := xcB_ok (c.at 101 (f := (fun K => xcB K (gA K "Impossible"))) rfl)
  e_Impossible := ⟨_, c.at 102 (f := (fun K => PySem.W.excIn K (gA K "Impossible") He.veBase "ValueError.__new__")) rfl, rfl⟩
  g_BadLine := He.glo_ok X G (c.at 103 (f := ((He.Fa.glo "BadLine").ok)) rfl)
  x_BadLine := xcB_ok (c.at 104 (f := (fun K => xcB K (gA K "BadLine"))) rfl)
  e_BadLine := ⟨_, c.at 105 (f := (fun K => PySem.W.excIn K (gA K "BadLine") He.veBase "ValueError.__new__")) rfl, rfl⟩
  g_NothingToUndo := He.glo_ok X G (c.at 106 (f := ((He.Fa.glo "NothingToUndo").ok)) rfl)
  x_NothingToUndo := xcB_ok (c.at 107 (f := (fun K => xcB K (gA K "NothingToUndo"))) rfl)
  e_NothingToUndo := ⟨_, c.at 108 (f := (fun K => PySem.W.excIn K (gA K "NothingToUndo") He.veBase "ValueError.__new__")) rfl, rfl⟩
  g_NothingToRedo := He.glo_ok X G (c.at 109 (f := ((He.Fa.glo "NothingToRedo").ok)) rfl)
  x_NothingToRedo := xcB_ok (c.at 110 (f := (fun K => xcB K (gA K "NothingToRedo"))) rfl)
  e_NothingToRedo := ⟨_, c.at 111 (f := (fun K => PySem.W.excIn K (gA K "NothingToRedo") He.veBase "ValueError.__new__")) rfl, rfl⟩
  kit := c.at 112 (f := (kitTab ["BadTable", "BadText", "BadStanding", "CannotMove", "NoSuch", "WrongGround", "TooGreat", "BadVector", "NotLocal", "BadProgram", "InUse", "AttemptFailed", "BadLot", "BadDealing", "NotCore", "BadLoads", "Impossible", "BadLine", "NothingToUndo", "NothingToRedo"])) rfl
  m_BadTable := c.fun_ 11 (d := dd_BadTable__init) rfl
  m_BadText := c.fun_ 12 (d := dd_BadText__init) rfl
  m_BadStanding := c.fun_ 13 (d := dd_BadStanding__init) rfl
  m_CannotMove := c.fun_ 14 (d := dd_CannotMove__init) rfl
  m_NoSuch := c.fun_ 15 (d := dd_NoSuch__init) rfl
  m_WrongGround := c.fun_ 16 (d := dd_WrongGround__init) rfl
  m_TooGreat := c.fun_ 17 (d := dd_TooGreat__init) rfl
  m_BadVector := c.fun_ 18 (d := dd_BadVector__init) rfl
  m_NotLocal := c.fun_ 19 (d := dd_NotLocal__init) rfl
  m_BadProgram := c.fun_ 20 (d := dd_BadProgram__init) rfl
  m_InUse := c.fun_ 21 (d := dd_InUse__init) rfl
  m_AttemptFailed := c.fun_ 22 (d := dd_AttemptFailed__init) rfl
def spLaw (K : PySem.W.Frag) : Sp := SpR K [.now] (fun ns : List Int => [.rol (ns.map D.int)]) (fun ns => ns.length ≤ 63) (fun _ d => d = .bl true)
theorem facts {P : Program} {w : World} {K : PySem.W.Frag} {h : Heap} {mg : Str → Option Value} {f : Addr} (X : K.In h) (G : h.Ns mainGlobals mg) (hfa : mg ("law" : Str) = some (.ref f)) (c : Tells fa fn K) :
    ∃ fd : FuncData, (∀ (s : Shared) (v : Value), BindsTo s fd ⟨[v], []⟩ [("script", v)]) ∧ ∀ base : Heap, K.In base → base.Ns mainGlobals mg → FnOk P w K mg base CX0 9 f fd ["script"] (spLaw K) := by
  have T : Tx K mg := tx_of X G c
  obtain ⟨f', fd, F, e'⟩ := T.d_law
  have e := hfa.symm.trans e'
  cases e
  have b := FunD.bindsA (ps := ["script"]) F fun _ _ _ _ _ _ us hl => match us, hl with | [_], _ => rfl
  exact ⟨fd, fun s v => b s [v] rfl, fun base _ _ => fn_ok F sc_law rfl (by decide) (body_law T)⟩
end Fh
open PySem PySem.W PySem.Calls PyProof.Rows
set_option maxRecDepth 100000 in
set_option maxHeartbeats 0 in
theorem PySem.Challenge.cw_fullhands_k96_errors_built_holds : PySem.Challenge.rw_fullhands_k96_errors_built.Holds := by
  w_on; o_law
  refine HandSHeadRun.head_any (r := OpenLaw.row PySem.Challenge.rw_fullhands_k96_errors_built) (q := view (OpenLaw.row PySem.Challenge.rw_fullhands_k96_errors_built).prog [33]) (H := Fh.hk) (ob := Fh.ob) (M := 30000) (loose := Fh.names) (d := HandSHeadRun.topDef (OpenLaw.row PySem.Challenge.rw_fullhands_k96_errors_built).prog 33) (kwd := []) Fh.ob_eq
    (by kernel_rfl) (fun s => by kernel_rfl) Fh.headrun (by kernel_rfl) (by kernel_rfl) (by kernel_rfl) (by rfl) (by first | assumption | decide +kernel) (by decide +kernel) ⟨rfl, rfl, rfl, rfl, rfl, by decide +kernel⟩ ?hw ?hc
  case hw => w_witness2
  case hc =>
    refine L2.walk_ofE (l := PySem.Challenge.rw_fullhands_k96_errors_built) (n := 63) (k := 9) (x := "script") (CX := L2.CX0) rfl (by decide) (by kernel_rfl) ⟨rfl, by decide, by decide⟩ ?F (fun _ _ _ _ z => z)
    intro w mg fa h Y G hmg0
    obtain ⟨K, KX, c⟩ := Y
    have hmg : mg ("law" : PySem.Str) = some (.ref fa) := by
      have e : (HandSHeadRun.topDef (OpenLaw.row PySem.Challenge.rw_fullhands_k96_errors_built).prog 33).name = ("law" : PySem.Str) := by kernel_rfl
      rw [← e]
      exact hmg0
    obtain ⟨fd, hb, hF⟩ := Fh.facts (P := (PySem.Challenge.rw_fullhands_k96_errors_built).prog) (w := w) KX G hmg c
    refine ⟨K, fd, Fh.spLaw K, KX, hb, fun H a ns hl _ hS => ⟨fun _ => none, ns, (fun _ _ z => nomatch z), hl, ⟨.rol hS (Fh.iss_ints ns), trivial⟩, fun d v H' T' hd _ i => ?_⟩, hF⟩
    subst hd
    cases i
    rfl

