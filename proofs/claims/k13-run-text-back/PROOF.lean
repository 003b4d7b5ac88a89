import PyProof.Rows.All
import Wide.All
import OpenK.AllK
import Wide.FinOn
import HandS.ForMost
import HandS.ForExc
import HandS.IsInst
import HandS.Style
import HandS.Wide
import HandS.WideMore
import HandS.Defaults
import HandS.TupAny
import KE.KStateDown
import Lean
import HandS.Head0
import HandS.Head1
import HandS.Head2
import HandS.HeadEnd
import HandS.HeadHook1
import HandS.HeadHook2
import HandS.HeadHook3
import HandS.ExcInit
import HandS.ExcValue
import HandS.ExcIs
import HandS.ExcField
import KE.KExcIs
import HandS.CallSlots
import HandS.TryMany
import HandS.RaiseMore
import PySem.Challenge.RW_fullhands_k13_run_text_back
set_option Elab.async false
set_option linter.all false
set_option maxRecDepth 100000
set_option maxHeartbeats 4000000
/-! Fh: data as a whole (D), what stands for it in the heap (Is), a frame of slots (Sat), what an expression is worth (Ev), what a statement does (Ex) -/
namespace Fh
open PySem PySem.Spec PyProof.Rows L2

/-! ### data -/
inductive D where
  | non | bl (b : Bool) | int (i : Int) | str (x : Str)
  | lst (xs : List D) | tup (xs : List D)
  | ins (C : Addr) (fs : List (Str × D))
  | raw (v : V)
  /-- a list that is only read (the script, a table of the module) -/
  | rol (xs : List D)
  /-- whatever stays as the heap grows: an exception, a set, .. -/
  | abs (p : Hp → V → Prop)

/-- what was there is there -/
def Le (H H' : Hp) : Prop := ∀ a o, H a = some o → H' a = some o
theorem Le.refl (H : Hp) : Le H H := fun _ _ h => h
theorem Le.trans {H H1 H2 : Hp} (a : Le H H1) (b : Le H1 H2) : Le H H2 := fun x o h => b x o (a x o h)
theorem Le.back {H H' : Hp} (e : Le H H') {l : Addr} (h : H' l = none) : H l = none := by
  cases q : H l with
  | none => rfl
  | some o => rw [e l o q] at h; cases h
theorem Le.new {H : Hp} {p : Addr} {o : HO} (h : H p = none) : Le H (upd H p o) := fun a u e => by
  rw [upd_ne (ne_of_none e h)]; exact e
theorem Le.rd {H H' : Hp} (e : Le H H') {a : Addr} {u : HO} (h : Rd H a u) : Rd H' a u := by
  rcases h with h | ⟨o, h⟩
  · exact .inl (e _ _ h)
  · exact .inr ⟨o, e _ _ h⟩
theorem Le.sqL {K : PySem.W.Frag} {H H' : Hp} {a : Addr} {xs : List V} (e : Le H H') (h : SqL K H a xs) : SqL K H' a xs := by
  rcases h with h | h
  · exact .inl (e.rd h)
  · exact .inr h
theorem Le.sqT {K : PySem.W.Frag} {H H' : Hp} {a : Addr} {xs : List V} (e : Le H H') (h : SqT K H a xs) : SqT K H' a xs := by
  rcases h with h | h
  · exact .inl (e.rd h)
  · exact .inr h

mutual
inductive Is (K : PySem.W.Frag) (H : Hp) : V → D → Prop
  | non : Is K H .non .non
  | bl (b : Bool) : Is K H (.bl b) (.bl b)
  | int (i : Int) : Is K H (.int i) (.int i)
  | str (x : Str) : Is K H (.str x) (.str x)
  | raw (v : V) : Is K H v (.raw v)
  | lst {a : Addr} {vs : List V} {ds : List D} : H a = some (.lst vs) → Iss K H vs ds → Is K H (.ref a) (.lst ds)
  | tup {a : Addr} {vs : List V} {ds : List D} : SqT K H a vs → Iss K H vs ds → Is K H (.ref a) (.tup ds)
  | rol {a : Addr} {vs : List V} {ds : List D} : SqL K H a vs → Iss K H vs ds → Is K H (.ref a) (.rol ds)
  | ins {a C dx : Addr} {fvs : List (Str × V)} {fs : List (Str × D)} : H a = some (.ins C dx fvs) → Isf K H fvs fs → Is K H (.ref a) (.ins C fs)
  | abs {v : V} {p : Hp → V → Prop} : (∀ H', Le H H' → p H' v) → Is K H v (.abs p)
inductive Iss (K : PySem.W.Frag) (H : Hp) : List V → List D → Prop
  | nil : Iss K H [] []
  | cons {v : V} {vs : List V} {d : D} {ds : List D} : Is K H v d → Iss K H vs ds → Iss K H (v :: vs) (d :: ds)
inductive Isf (K : PySem.W.Frag) (H : Hp) : List (Str × V) → List (Str × D) → Prop
  | nil : Isf K H [] []
  | cons {f : Str} {v : V} {vs : List (Str × V)} {d : D} {ds : List (Str × D)} : Is K H v d → Isf K H vs ds → Isf K H ((f, v) :: vs) ((f, d) :: ds)
end

section
variable {K : PySem.W.Frag} {H H' : Hp}
mutual
theorem Is.mono (e : Le H H') : ∀ (d : D) {v : V}, Is K H v d → Is K H' v d
  | .non, _, h => by cases h; exact .non
  | .bl b, _, h => by cases h; exact .bl b
  | .int i, _, h => by cases h; exact .int i
  | .str x, _, h => by cases h; exact .str x
  | .raw v, _, h => by cases h; exact .raw v
  | .abs p, _, h => by
    cases h with
    | abs hh => exact .abs fun H2 e2 => hh H2 (e.trans e2)
  | .lst ds, _, h => by
    cases h with
    | lst hs ha => exact .lst (e _ _ hs) (Iss.mono e ds ha)
  | .tup ds, _, h => by
    cases h with
    | tup hs ha => exact .tup (e.sqT hs) (Iss.mono e ds ha)
  | .rol ds, _, h => by
    cases h with
    | rol hs ha => exact .rol (e.sqL hs) (Iss.mono e ds ha)
  | .ins C fs, _, h => by
    cases h with
    | ins hs ha => exact .ins (e _ _ hs) (Isf.mono e fs ha)
theorem Iss.mono (e : Le H H') : ∀ (ds : List D) {vs : List V}, Iss K H vs ds → Iss K H' vs ds
  | [], _, h => by cases h; exact .nil
  | d :: ds, _, h => by
    cases h with
    | cons h1 h2 => exact .cons (Is.mono e d h1) (Iss.mono e ds h2)
theorem Isf.mono (e : Le H H') : ∀ (ds : List (Str × D)) {vs : List (Str × V)}, Isf K H vs ds → Isf K H' vs ds
  | [], _, h => by cases h; exact .nil
  | (f, d) :: ds, _, h => by
    cases h with
    | cons h1 h2 => exact .cons (Is.mono e d h1) (Isf.mono e ds h2)
end

theorem Iss.length : ∀ {ds : List D} {vs : List V}, Iss K H vs ds → vs.length = ds.length
  | [], _, h => by cases h; rfl
  | _ :: ds, _, h => by
    cases h with
    | cons _ h2 => rw [List.length_cons, List.length_cons, h2.length]
theorem Iss.get : ∀ {ds : List D} {vs : List V} {i : Nat} {d : D}, Iss K H vs ds → ds[i]? = some d → ∃ v, vs[i]? = some v ∧ Is K H v d
  | [], _, _, _, _, e => by simp at e
  | _ :: ds, _, 0, _, h, e => by
    cases h with
    | cons h1 _ => simp at e; subst e; exact ⟨_, rfl, h1⟩
  | _ :: ds, _, i + 1, _, h, e => by
    cases h with
    | cons _ h2 =>
      obtain ⟨v, q, r⟩ := h2.get (i := i) (by simpa using e)
      exact ⟨v, by simpa using q, r⟩
theorem Iss.getV : ∀ {ds : List D} {vs : List V} {i : Nat} {v : V}, Iss K H vs ds → vs[i]? = some v → ∃ d, ds[i]? = some d ∧ Is K H v d := fun {ds vs i v} h e => by
  have hi : i < ds.length := by rw [← h.length]; exact (List.getElem?_eq_some_iff.mp e).1
  obtain ⟨u, q, r⟩ := h.get (List.getElem?_eq_getElem hi)
  rw [e] at q; cases q
  exact ⟨_, List.getElem?_eq_getElem hi, r⟩
theorem Iss.append : ∀ {ds es : List D} {vs us : List V}, Iss K H vs ds → Iss K H us es → Iss K H (vs ++ us) (ds ++ es)
  | [], _, _, _, h, g => by cases h; exact g
  | _ :: ds, _, _, _, h, g => by
    cases h with
    | cons h1 h2 => exact .cons h1 (h2.append g)
theorem Iss.set : ∀ {ds : List D} {vs : List V} (i : Nat) {v : V} {d : D}, Iss K H vs ds → Is K H v d → Iss K H (vs.set i v) (ds.set i d)
  | [], _, _, _, _, h, _ => by cases h; exact .nil
  | _ :: ds, _, 0, _, _, h, g => by
    cases h with
    | cons _ h2 => exact .cons g h2
  | _ :: ds, _, i + 1, _, _, h, g => by
    cases h with
    | cons h1 h2 => exact .cons h1 (h2.set i g)
theorem Iss.drop : ∀ {ds : List D} {vs : List V} (n : Nat), Iss K H vs ds → Iss K H (vs.drop n) (ds.drop n)
  | _, _, 0, h => h
  | [], _, n + 1, h => by cases h; exact .nil
  | _ :: ds, _, n + 1, h => by
    cases h with
    | cons _ h2 => exact h2.drop n
theorem Iss.take : ∀ {ds : List D} {vs : List V} (n : Nat), Iss K H vs ds → Iss K H (vs.take n) (ds.take n)
  | _, _, 0, _ => .nil
  | [], _, n + 1, h => by cases h; exact .nil
  | _ :: ds, _, n + 1, h => by
    cases h with
    | cons h1 h2 => exact .cons h1 (h2.take n)
theorem Iss.reverse : ∀ {ds : List D} {vs : List V}, Iss K H vs ds → Iss K H vs.reverse ds.reverse
  | [], _, h => by cases h; exact .nil
  | _ :: ds, _, h => by
    cases h with
    | cons h1 h2 =>
      rw [List.reverse_cons, List.reverse_cons]
      exact h2.reverse.append (.cons h1 .nil)
theorem Iss.dropLast {ds : List D} {vs : List V} (h : Iss K H vs ds) : Iss K H vs.dropLast ds.dropLast := by
  rw [List.dropLast_eq_take, List.dropLast_eq_take, h.length]
  exact h.take _
theorem Iss.ints : ∀ {ns : List Int} {vs : List V}, Iss K H vs (ns.map D.int) → vs = ns.map V.int
  | [], _, h => by cases h; rfl
  | n :: ns, _, h => by
    cases h with
    | cons h1 h2 => cases h1; rw [h2.ints]; rfl
theorem iss_ints : ∀ ns : List Int, Iss K H (ns.map V.int) (ns.map D.int)
  | [] => .nil
  | n :: ns => .cons (.int n) (iss_ints ns)
theorem Iss.bls : ∀ {ns : List Bool} {vs : List V}, Iss K H vs (ns.map D.bl) → vs = ns.map V.bl
  | [], _, h => by cases h; rfl
  | n :: ns, _, h => by
    cases h with
    | cons h1 h2 => cases h1; rw [h2.bls]; rfl
theorem iss_bls : ∀ ns : List Bool, Iss K H (ns.map V.bl) (ns.map D.bl)
  | [] => .nil
  | n :: ns => .cons (.bl n) (iss_bls ns)
theorem Isf.lookup : ∀ {fs : List (Str × D)} {vs : List (Str × V)} {f : Str} {d : D}, Isf K H vs fs → fs.lookup f = some d → ∃ v, vs.lookup f = some v ∧ Is K H v d
  | [], _, _, _, _, e => by simp at e
  | (g, x) :: fs, _, f, d, h, e => by
    cases h with
    | cons h1 h2 =>
      by_cases q : (f == g) = true
      · rw [List.lookup_cons, q] at e
        rw [List.lookup_cons, q]
        have e' : x = d := Option.some.inj e
        subst e'
        exact ⟨_, rfl, h1⟩
      · have q' : (f == g) = false := by simpa using q
        rw [List.lookup_cons, q'] at e
        rw [List.lookup_cons, q']
        exact h2.lookup e
theorem Isf.lookup_none : ∀ {fs : List (Str × D)} {vs : List (Str × V)} {f : Str}, Isf K H vs fs → fs.lookup f = none → vs.lookup f = none
  | [], _, _, h, e => by cases h; rfl
  | (g, x) :: fs, _, f, h, e => by
    cases h with
    | cons h1 h2 =>
      by_cases q : (f == g) = true
      · rw [List.lookup_cons, q] at e; cases e
      · have q' : (f == g) = false := by simpa using q
        rw [List.lookup_cons, q'] at e
        rw [List.lookup_cons, q']
        exact h2.lookup_none e
theorem Isf.length : ∀ {fs : List (Str × D)} {vs : List (Str × V)}, Isf K H vs fs → vs.length = fs.length
  | [], _, h => by cases h; rfl
  | _ :: fs, _, h => by
    cases h with
    | cons _ h2 => rw [List.length_cons, List.length_cons, h2.length]
def putD (f : Str) (v : D) : List (Str × D) → List (Str × D)
  | [] => [(f, v)]
  | (g, u) :: r => if g = f then (g, v) :: r else (g, u) :: putD f v r
end

/-! ### growth, slots, the frame -/
structure Gr (H T H' T' : Hp) : Prop where
  h : Le H H'
  t : Le T T'
  s : Le T' H'
  n : ∀ a o, T' a = some o → T a = none → H a = none
theorem Gr.refl {H T : Hp} (s : Le T H) : Gr H T H T := ⟨Le.refl _, Le.refl _, s, fun _ _ h h' => by rw [h] at h'; cases h'⟩
theorem Gr.trans {H T H1 T1 H2 T2 : Hp} (a : Gr H T H1 T1) (b : Gr H1 T1 H2 T2) : Gr H T H2 T2 :=
  ⟨a.h.trans b.h, a.t.trans b.t, b.s, fun x o h h' => by
    cases q : T1 x with
    | none => exact a.h.back (b.n x o h q)
    | some u => exact a.n x u q h'⟩
/-- a new object, known for good -/
theorem Gr.new {H T : Hp} {p : Addr} {o : HO} (s : Le T H) (h : H p = none) : Gr H T (upd H p o) (upd T p o) :=
  ⟨Le.new h, Le.new (s.back h), fun a u e => by
    by_cases hb : a = p
    · subst hb; rw [upd_same] at e ⊢; exact e
    · rw [upd_ne hb] at e ⊢; exact s a u e, fun a u e e' => by
    by_cases hb : a = p
    · subst hb; exact h
    · rw [upd_ne hb] at e; rw [e] at e'; cases e'⟩
/-- a new object, one's own -/
theorem Gr.own {H T : Hp} {p : Addr} {o : HO} (s : Le T H) (h : H p = none) : Gr H T (upd H p o) T :=
  ⟨Le.new h, Le.refl _, s.trans (Le.new h), fun _ _ e e' => by rw [e] at e'; cases e'⟩

inductive Md | dat | bor | now
def MIs (m : Md) (K : PySem.W.Frag) (B H T : Hp) (v : V) (d : D) : Prop := match m with
  | .dat => Is K T v d
  | .bor => Is K T v d ∨ Is K B v d
  | .now => Is K H v d
theorem MIs.now {m : Md} {K : PySem.W.Frag} {B H T : Hp} {v : V} {d : D} (h : MIs m K B H T v d) (hb : Le B H) (ht : Le T H) : Is K H v d := by
  cases m with
  | dat => exact Is.mono ht d h
  | bor => rcases h with h | h; exact Is.mono ht d h; exact Is.mono hb d h
  | now => exact h
theorem MIs.mono {m : Md} {K : PySem.W.Frag} {B H T H' T' : Hp} {v : V} {d : D} (h : MIs m K B H T v d) (hh : Le H H') (ht : Le T T') : MIs m K B H' T' v d := by
  cases m with
  | dat => exact Is.mono ht d h
  | bor => rcases h with h | h; exact .inl (Is.mono ht d h); exact .inr h
  | now => exact Is.mono hh d h
/-- of data that is no object every mode says the same -/
theorem MIs.dat {m : Md} {K : PySem.W.Frag} {B H T : Hp} {v : V} {d : D} (h : Is K T v d) (ht : Le T H) : MIs m K B H T v d := by
  cases m with
  | dat => exact h
  | bor => exact .inl h
  | now => exact Is.mono ht d h

/-- what a frame alone holds -/
inductive OD where
  | lst (xs : List D) | ins (C : Addr) (fs : List (Str × D))
def OwnAt (K : PySem.W.Frag) (H T : Hp) (a : Addr) : OD → Prop
  | .lst ds => ∃ vs, H a = some (.lst vs) ∧ Iss K T vs ds
  | .ins C fs => ∃ dx fvs, H a = some (.ins C dx fvs) ∧ Isf K T fvs fs
def OD.d : OD → D
  | .lst xs => .lst xs
  | .ins C fs => .ins C fs
theorem OwnAt.mono {K : PySem.W.Frag} {H T H' T' : Hp} {a : Addr} {o : OD} (h : OwnAt K H T a o) (hh : H' a = H a) (ht : Le T T') : OwnAt K H' T' a o := by
  cases o with
  | lst ds => obtain ⟨vs, e, i⟩ := h; exact ⟨vs, hh.trans e, Iss.mono ht ds i⟩
  | ins C fs => obtain ⟨dx, fvs, e, i⟩ := h; exact ⟨dx, fvs, hh.trans e, Isf.mono ht fs i⟩
theorem OwnAt.ex {K : PySem.W.Frag} {H T : Hp} {a : Addr} {o : OD} (h : OwnAt K H T a o) : ∃ u, H a = some u := by
  cases o with
  | lst ds => obtain ⟨vs, e, _⟩ := h; exact ⟨_, e⟩
  | ins C fs => obtain ⟨dx, fvs, e, _⟩ := h; exact ⟨_, e⟩
/-- it becomes data -/
theorem OwnAt.give {K : PySem.W.Frag} {H T : Hp} {a : Addr} {o : OD} (h : OwnAt K H T a o) (hn : T a = none) : ∃ u, H a = some u ∧ Is K (upd T a u) (.ref a) o.d := by
  cases o with
  | lst ds => obtain ⟨vs, e, i⟩ := h; exact ⟨_, e, .lst upd_same (Iss.mono (Le.new hn) ds i)⟩
  | ins C fs => obtain ⟨dx, fvs, e, i⟩ := h; exact ⟨_, e, .ins upd_same (Isf.mono (Le.new hn) fs i)⟩

inductive Sl where
  | no | dat (d : D) | bor (d : D) | own (o : OD)
def SlotOk (K : PySem.W.Frag) (B H T : Hp) (x : Option V) : Sl → Prop
  | .no => True
  | .dat d => ∃ v, x = some v ∧ Is K T v d
  | .bor d => ∃ v, x = some v ∧ (Is K T v d ∨ Is K B v d)
  | .own o => ∃ a, x = some (.ref a) ∧ B a = none ∧ T a = none ∧ OwnAt K H T a o
abbrev En := List Sl
structure Sat (K : PySem.W.Frag) (B T0 : Hp) (e : En) (σ : L2.St) (H T : Hp) : Prop where
  gr : Gr B T0 H T
  len : σ.length = e.length
  sl : ∀ (i : Nat) s, e[i]? = some s → ∃ x, σ[i]? = some x ∧ SlotOk K B H T x s
  sep : ∀ (i j : Nat) o o' (a b : Addr), i ≠ j → e[i]? = some (.own o) → e[j]? = some (.own o') → σ[i]? = some (some (V.ref a)) → σ[j]? = some (some (V.ref b)) → a ≠ b
section
variable {K : PySem.W.Frag} {B T0 H T H' T' : Hp} {e : En} {σ : L2.St}
theorem Sat.grow (s : Sat K B T0 e σ H T) (g : Gr H T H' T') : Sat K B T0 e σ H' T' := by
  refine ⟨s.gr.trans g, s.len, fun i sl h => ?_, s.sep⟩
  obtain ⟨x, hx, q⟩ := s.sl i sl h
  refine ⟨x, hx, ?_⟩
  cases sl with
  | no => trivial
  | dat d => obtain ⟨v, e1, q⟩ := q; exact ⟨v, e1, Is.mono g.t d q⟩
  | bor d =>
    obtain ⟨v, e1, q⟩ := q
    rcases q with q | q
    · exact ⟨v, e1, .inl (Is.mono g.t d q)⟩
    · exact ⟨v, e1, .inr q⟩
  | own o =>
    obtain ⟨a, e1, b1, t1, q⟩ := q
    obtain ⟨u, hu⟩ := q.ex
    refine ⟨a, e1, b1, ?_, q.mono ((g.h _ _ hu).trans hu.symm) g.t⟩
    cases z : T' a with
    | none => rfl
    | some u' =>
      have := g.n a u' z t1
      rw [hu] at this; cases this
theorem Sat.rebase (s : Sat K B T0 e σ H T) : Sat K B T e σ H T := ⟨⟨s.gr.h, Le.refl _, s.gr.s, fun _ _ h h' => by rw [h] at h'; cases h'⟩, s.len, s.sl, s.sep⟩
theorem Sat.unbase (s : Sat K B T0 e σ H T) {e' : En} {σ' : L2.St} (s' : Sat K B T e' σ' H' T') : Sat K B T0 e' σ' H' T' :=
  ⟨⟨s'.gr.h, s.gr.t.trans s'.gr.t, s'.gr.s, fun a o h h' => by
    cases q : T a with
    | none => exact s'.gr.n a o h q
    | some u => exact s.gr.n a u q h'⟩, s'.len, s'.sl, s'.sep⟩
/-- the slot i is stored: data -/
theorem Sat.set (s : Sat K B T0 e σ H T) {i : Nat} {x : V} {m : Md} {d : D} (hm : m ≠ .now) (hx : MIs m K B H T x d) : Sat K B T0 (e.set i (match m with | .dat => .dat d | _ => .bor d)) (σ.set i (some x)) H T := by
  refine ⟨s.gr, by simp [s.len], fun j sl h => ?_, fun j k o o' a b hjk h1 h2 h3 h4 => ?_⟩
  · by_cases hj : i = j
    · subst hj
      have hi : i < e.length := by
        have := (List.getElem?_eq_some_iff.mp h).1
        simpa using this
      rw [List.getElem?_set_self hi] at h
      cases h
      refine ⟨some x, by rw [List.getElem?_set_self (by rw [s.len]; exact hi)], ?_⟩
      cases m with
      | dat => exact ⟨x, rfl, hx⟩
      | bor => exact ⟨x, rfl, hx⟩
      | now => exact absurd rfl hm
    · rw [List.getElem?_set_ne hj] at h ⊢
      exact s.sl j sl h
  · have hij : i ≠ j := fun q => by
      subst q
      have hi : i < e.length := by
        have := (List.getElem?_eq_some_iff.mp h1).1
        simpa using this
      rw [List.getElem?_set_self hi] at h1
      cases m <;> cases h1
    have hik : i ≠ k := fun q => by
      subst q
      have hi : i < e.length := by
        have := (List.getElem?_eq_some_iff.mp h2).1
        simpa using this
      rw [List.getElem?_set_self hi] at h2
      cases m <;> cases h2
    rw [List.getElem?_set_ne hij] at h1 h3
    rw [List.getElem?_set_ne hik] at h2 h4
    exact s.sep j k o o' a b hjk h1 h2 h3 h4
/-- .. something of one's own -/
theorem Sat.setO (s : Sat K B T0 e σ H T) {i : Nat} {a : Addr} {o : OD} (hb : B a = none) (ht : T a = none) (ho : OwnAt K H T a o)
    (hs : ∀ (j : Nat) o' (b : Addr), i ≠ j → e[j]? = some (.own o') → σ[j]? = some (some (V.ref b)) → a ≠ b) : Sat K B T0 (e.set i (.own o)) (σ.set i (some (.ref a))) H T := by
  refine ⟨s.gr, by simp [s.len], fun j sl h => ?_, fun j k o1 o2 b c hjk h1 h2 h3 h4 => ?_⟩
  · by_cases hj : i = j
    · subst hj
      have hi : i < e.length := by
        have := (List.getElem?_eq_some_iff.mp h).1
        simpa using this
      rw [List.getElem?_set_self hi] at h
      cases h
      exact ⟨_, by rw [List.getElem?_set_self (by rw [s.len]; exact hi)], a, rfl, hb, ht, ho⟩
    · rw [List.getElem?_set_ne hj] at h ⊢
      exact s.sl j sl h
  · by_cases hij : i = j
    · subst hij
      rw [List.getElem?_set_ne hjk] at h2 h4
      have hi : i < σ.length := by
        have := (List.getElem?_eq_some_iff.mp h3).1
        simpa using this
      rw [List.getElem?_set_self hi] at h3
      cases h3
      exact hs k o2 c hjk h2 h4
    · rw [List.getElem?_set_ne hij] at h1 h3
      by_cases hik : i = k
      · subst hik
        have hi : i < σ.length := by
          have := (List.getElem?_eq_some_iff.mp h4).1
          simpa using this
        rw [List.getElem?_set_self hi] at h4
        cases h4
        exact (hs j o1 b hij h1 h3).symm
      · rw [List.getElem?_set_ne hik] at h2 h4
        exact s.sep j k o1 o2 b c hjk h1 h2 h3 h4
/-- what is at i -/
theorem Sat.own (s : Sat K B T0 e σ H T) {i : Nat} {o : OD} (h : e[i]? = some (.own o)) : ∃ a, σ[i]? = some (some (V.ref a)) ∧ B a = none ∧ T a = none ∧ OwnAt K H T a o := by
  obtain ⟨x, hx, a, e1, q⟩ := s.sl i _ h
  subst e1
  exact ⟨a, hx, q⟩
/-- one's own becomes data -/
theorem Sat.give (s : Sat K B T0 e σ H T) {i : Nat} {o : OD} (h : e[i]? = some (.own o)) : ∃ T', Le T T' ∧ Sat K B T0 (e.set i (.dat o.d)) σ H T' := by
  obtain ⟨a, hx, hb, ht, q⟩ := s.own h
  obtain ⟨u, hu, hi⟩ := q.give ht
  have hl : Le T (upd T a u) := Le.new ht
  have hi0 : i < e.length := (List.getElem?_eq_some_iff.mp h).1
  refine ⟨upd T a u, hl, ⟨s.gr.h, s.gr.t.trans hl, fun b w z => ?_, fun b w z z' => ?_⟩, by simp [s.len], fun j sl hj => ?_, fun j k o1 o2 b c hjk h1 h2 h3 h4 => ?_⟩
  · by_cases hba : b = a
    · subst hba; rw [upd_same] at z; cases z; exact hu
    · rw [upd_ne hba] at z; exact s.gr.s b w z
  · by_cases hba : b = a
    · subst hba; exact hb
    · rw [upd_ne hba] at z; exact s.gr.n b w z z'
  · by_cases hij : i = j
    · subst hij
      rw [List.getElem?_set_self hi0] at hj
      cases hj
      exact ⟨_, hx, _, rfl, hi⟩
    · rw [List.getElem?_set_ne hij] at hj
      obtain ⟨x, hx', q'⟩ := s.sl j sl hj
      refine ⟨x, hx', ?_⟩
      cases sl with
      | no => trivial
      | dat d => obtain ⟨v, e1, q⟩ := q'; exact ⟨v, e1, Is.mono hl d q⟩
      | bor d =>
        obtain ⟨v, e1, q⟩ := q'
        rcases q with q | q
        · exact ⟨v, e1, .inl (Is.mono hl d q)⟩
        · exact ⟨v, e1, .inr q⟩
      | own o' =>
        obtain ⟨b, e1, b1, t1, q⟩ := q'
        subst e1
        have hab : a ≠ b := s.sep i j o o' a b hij h hj hx hx'
        exact ⟨b, rfl, b1, by rw [upd_ne hab.symm]; exact t1, q.mono rfl hl⟩
  · have hij : i ≠ j := fun q => by
      subst q
      rw [List.getElem?_set_self hi0] at h1; cases h1
    have hik : i ≠ k := fun q => by
      subst q
      rw [List.getElem?_set_self hi0] at h2; cases h2
    rw [List.getElem?_set_ne hij] at h1
    rw [List.getElem?_set_ne hik] at h2
    exact s.sep j k o1 o2 b c hjk h1 h2 h3 h4
/-- one's own is written -/
theorem Sat.wr (s : Sat K B T0 e σ H T) {i : Nat} {o o' : OD} {a : Addr} {u : HO} (h : e[i]? = some (.own o)) (hx : σ[i]? = some (some (V.ref a))) (hu : OwnAt K (upd H a u) T a o') : Sat K B T0 (e.set i (.own o')) σ (upd H a u) T := by
  obtain ⟨a', hx', hb, ht, q⟩ := s.own h
  rw [hx] at hx'
  cases hx'
  have hi0 : i < e.length := (List.getElem?_eq_some_iff.mp h).1
  refine ⟨⟨fun b w z => ?_, s.gr.t, fun b w z => ?_, s.gr.n⟩, by simp [s.len], fun j sl hj => ?_, fun j k o1 o2 b c hjk h1 h2 h3 h4 => ?_⟩
  · rw [upd_ne (ne_of_none z hb)]; exact s.gr.h b w z
  · rw [upd_ne (ne_of_none z ht)]; exact s.gr.s b w z
  · by_cases hij : i = j
    · subst hij
      rw [List.getElem?_set_self hi0] at hj
      cases hj
      exact ⟨_, hx, a, rfl, hb, ht, hu⟩
    · rw [List.getElem?_set_ne hij] at hj
      obtain ⟨x, hx', q'⟩ := s.sl j sl hj
      refine ⟨x, hx', ?_⟩
      cases sl with
      | no => trivial
      | dat d => exact q'
      | bor d => exact q'
      | own o2 =>
        obtain ⟨b, e1, b1, t1, q⟩ := q'
        subst e1
        have hab : a ≠ b := s.sep i j o o2 a b hij h hj hx hx'
        exact ⟨b, rfl, b1, t1, q.mono (upd_ne hab.symm) (Le.refl _)⟩
  · have f : ∀ (l : Nat) (o3 : OD), (e.set i (.own o'))[l]? = some (.own o3) → ∃ o4, e[l]? = some (.own o4) := fun l o3 hl => by
      by_cases q : i = l
      · subst q; exact ⟨o, h⟩
      · rw [List.getElem?_set_ne q] at hl; exact ⟨o3, hl⟩
    obtain ⟨o3, g1⟩ := f j o1 h1
    obtain ⟨o4, g2⟩ := f k o2 h2
    exact s.sep j k o3 o4 b c hjk g1 g2 h3 h4
end
end Fh

set_option Elab.async false
set_option linter.all false
set_option maxRecDepth 100000
set_option maxHeartbeats 4000000
/-! Fh, second part: what an expression is worth, what a statement does -/
namespace Fh
open PySem PySem.Spec PyProof.Rows L2

def MIss (K : PySem.W.Frag) (B H T : Hp) : List Md → List V → List D → Prop
  | [], [], [] => True
  | m :: ms, v :: vs, d :: ds => MIs m K B H T v d ∧ MIss K B H T ms vs ds
  | _, _, _ => False

section
variable (K : PySem.W.Frag)
def Ev (m : Md) (te : TE) (e : En) (d : D) : Prop := ∀ (B T0 : Hp) (σ : L2.St) (H T : Hp), Sat K B T0 e σ H T → ∀ Q : VK, (∀ v H' T', Gr H T H' T' → MIs m K B H' T' v d → Q v H') → te σ H Q
def EvO (te : TE) (e : En) (o : OD) : Prop := ∀ (B T0 : Hp) (σ : L2.St) (H T : Hp), Sat K B T0 e σ H T → ∀ Q : VK, (∀ a H' T', Gr H T H' T' → H a = none → T' a = none → OwnAt K H' T' a o → Q (.ref a) H') → te σ H Q
def EvT (tt : TT) (e : En) (b : Bool) : Prop := ∀ (B T0 : Hp) (σ : L2.St) (H T : Hp), Sat K B T0 e σ H T → ∀ Q : Bool → Hp → Prop, (∀ H' T', Gr H T H' T' → Q b H') → tt σ H Q
def EvA (ms : List Md) (ta : TA) (e : En) (ds : List D) : Prop := ∀ (B T0 : Hp) (σ : L2.St) (H T : Hp), Sat K B T0 e σ H T → ∀ Q : List V → Hp → Prop, (∀ vs H' T', Gr H T H' T' → MIss K B H' T' ms vs ds → Q vs H') → ta σ H Q
/-- an operation on two values; on one; on a list of values -/
def RD (m1 m2 m : Md) (r : R2) (d1 d2 d : D) : Prop := ∀ (B H T : Hp) (x y : V), Le B H → Le T H → MIs m1 K B H T x d1 → MIs m2 K B H T y d2 → ∀ Q : VK, (∀ v H' T', Gr H T H' T' → MIs m K B H' T' v d → Q v H') → r x y H Q
def RDO (m1 m2 : Md) (r : R2) (d1 d2 : D) (o : OD) : Prop := ∀ (B H T : Hp) (x y : V), Le B H → Le T H → MIs m1 K B H T x d1 → MIs m2 K B H T y d2 → ∀ Q : VK, (∀ a H' T', Gr H T H' T' → H a = none → T' a = none → OwnAt K H' T' a o → Q (.ref a) H') → r x y H Q
def RL (ms : List Md) (m : Md) (r : List V → Hp → VK → Prop) (ds : List D) (d : D) : Prop := ∀ (B H T : Hp) (vs : List V), Le B H → Le T H → MIss K B H T ms vs ds → ∀ Q : VK, (∀ v H' T', Gr H T H' T' → MIs m K B H' T' v d → Q v H') → r vs H Q
def RLO (ms : List Md) (r : List V → Hp → VK → Prop) (ds : List D) (o : OD) : Prop := ∀ (B H T : Hp) (vs : List V), Le B H → Le T H → MIss K B H T ms vs ds → ∀ Q : VK, (∀ a H' T', Gr H T H' T' → H a = none → T' a = none → OwnAt K H' T' a o → Q (.ref a) H') → r vs H Q
end
theorem MIss.mono {K : PySem.W.Frag} {B H T H' T' : Hp} (hh : Le H H') (ht : Le T T') : ∀ {ms : List Md} {vs : List V} {ds : List D}, MIss K B H T ms vs ds → MIss K B H' T' ms vs ds
  | [], [], [], _ => trivial
  | _ :: _, _ :: _, _ :: _, h => ⟨h.1.mono hh ht, MIss.mono hh ht h.2⟩
  | [], [], _ :: _, h => h.elim
  | [], _ :: _, _, h => h.elim
  | _ :: _, [], _, h => h.elim
  | _ :: _, _ :: _, [], h => h.elim

section
variable {K : PySem.W.Frag} {e : En} {d d1 d2 d3 : D} {ds : List D} {te ta tb tc : TE} {tt tu : TT} {m m1 m2 : Md} {b c : Bool} {r : R2} {o : OD}
theorem Ev.is (h : Ev K m te e d) {d' : D} (q : d = d') : Ev K m te e d' := q ▸ h
theorem EvT.is (h : EvT K tt e b) {c : Bool} (q : b = c) : EvT K tt e c := q ▸ h
theorem EvO.is (h : EvO K te e o) {o' : OD} (q : o = o') : EvO K te e o' := q ▸ h
theorem Ev.up (h : Ev K .dat te e d) : Ev K m te e d := fun B T0 σ H T s Q q => h B T0 σ H T s Q fun v H' T' g i => q v H' T' g (MIs.dat i g.s)
theorem Ev.nw (h : Ev K m te e d) : Ev K .now te e d := fun B T0 σ H T s Q q => h B T0 σ H T s Q fun v H' T' g i => q v H' T' g (i.now (s.gr.h.trans g.h) g.s)
theorem EvO.dat (h : EvO K te e o) : Ev K m te e o.d := fun B T0 σ H T s Q q => h B T0 σ H T s Q fun a H' T' g hn ht ho => by
  obtain ⟨u, hu, hi⟩ := ho.give ht
  have g2 : Gr H T H' (upd T' a u) := ⟨g.h, g.t.trans (Le.new ht), fun b w z => by
    by_cases hb : b = a
    · subst hb; rw [upd_same] at z; cases z; exact hu
    · rw [upd_ne hb] at z; exact g.s b w z, fun b w z z' => by
    by_cases hb : b = a
    · subst hb; exact hn
    · rw [upd_ne hb] at z; exact g.n b w z z'⟩
  exact q _ _ _ g2 (MIs.dat hi g2.s)
/-! names, constants -/
theorem ev_dat {i : Nat} (h : e[i]? = some (.dat d)) : Ev K m (tVar i) e d := Ev.up fun B T0 σ H T s Q q => by
  obtain ⟨x, hx, v, rfl, i⟩ := s.sl i _ h
  exact ⟨v, hx, q v H T (Gr.refl s.gr.s) i⟩
theorem ev_bor {i : Nat} (h : e[i]? = some (.bor d)) : Ev K .bor (tVar i) e d := fun B T0 σ H T s Q q => by
  obtain ⟨x, hx, v, rfl, i⟩ := s.sl i _ h
  exact ⟨v, hx, q v H T (Gr.refl s.gr.s) i⟩
theorem ev_own {i : Nat} (h : e[i]? = some (.own o)) : Ev K .now (tVar i) e o.d := fun B T0 σ H T s Q q => by
  obtain ⟨a, hx, hb, ht, ho⟩ := s.own h
  refine ⟨_, hx, q _ H T (Gr.refl s.gr.s) ?_⟩
  cases o with
  | lst xs => obtain ⟨vs, e1, i⟩ := ho; exact .lst e1 (Iss.mono s.gr.s _ i)
  | ins C fs => obtain ⟨dx, fvs, e1, i⟩ := ho; exact .ins e1 (Isf.mono s.gr.s _ i)
theorem ev_int {i : Int} : Ev K m (tC (.int i)) e (.int i) := Ev.up fun B T0 σ H T s Q q => q _ H T (Gr.refl s.gr.s) (.int i)
theorem ev_bl : Ev K m (tC (.bl b)) e (.bl b) := Ev.up fun B T0 σ H T s Q q => q _ H T (Gr.refl s.gr.s) (.bl b)
theorem ev_str {x : Str} : Ev K m (tC (.str x)) e (.str x) := Ev.up fun B T0 σ H T s Q q => q _ H T (Gr.refl s.gr.s) (.str x)
theorem ev_non : Ev K m (tC .non) e .non := Ev.up fun B T0 σ H T s Q q => q _ H T (Gr.refl s.gr.s) .non
theorem ev_raw {v : V} : Ev K m (tC v) e (.raw v) := Ev.up fun B T0 σ H T s Q q => q _ H T (Gr.refl s.gr.s) (.raw v)
/-! operators -/
theorem ev_op (ha : Ev K m1 ta e d1) (hb : Ev K m2 tb e d2) (hr : RD K m1 m2 m r d1 d2 d) : Ev K m (tOp r ta tb) e d := fun B T0 σ H T s Q q =>
  ha B T0 σ H T s _ fun x H1 T1 g1 i1 => hb B T0 σ H1 T1 (s.grow g1) _ fun y H2 T2 g2 i2 =>
    hr B H2 T2 x y (((s.grow g1).grow g2).gr.h) g2.s (i1.mono g2.h g2.t) i2 _ fun v H3 T3 g3 i3 => q v H3 T3 ((g1.trans g2).trans g3) i3
theorem ev_opO (ha : Ev K m1 ta e d1) (hb : Ev K m2 tb e d2) (hr : RDO K m1 m2 r d1 d2 o) : EvO K (tOp r ta tb) e o := fun B T0 σ H T s Q q =>
  ha B T0 σ H T s _ fun x H1 T1 g1 i1 => hb B T0 σ H1 T1 (s.grow g1) _ fun y H2 T2 g2 i2 =>
    hr B H2 T2 x y (((s.grow g1).grow g2).gr.h) g2.s (i1.mono g2.h g2.t) i2 _ fun a H3 T3 g3 n1 n2 i3 => q a H3 T3 ((g1.trans g2).trans g3) ((g1.trans g2).h.back n1) n2 i3
/-- ints -/
theorem rd_I0 {g : Int → Int → V} {gd : Int → Int → D} {i j : Int} (hg : ∀ T, Is K T (g i j) (gd i j)) : RD K m1 m2 m (rI0 g) (.int i) (.int j) (gd i j) := fun B H T x y hB hT h1 h2 Q q => by
  have e1 := h1.now hB hT; have e2 := h2.now hB hT
  cases e1; cases e2
  exact ⟨i, j, rfl, rfl, q _ H T (Gr.refl hT) (MIs.dat (hg T) hT)⟩
theorem rd_I {C : Int → Int → Prop} {g : Int → Int → V} {gd : Int → Int → D} {i j : Int} (hc : C i j) (hg : ∀ T, Is K T (g i j) (gd i j)) : RD K m1 m2 m (rI C g) (.int i) (.int j) (gd i j) := fun B H T x y hB hT h1 h2 Q q => by
  have e1 := h1.now hB hT; have e2 := h2.now hB hT
  cases e1; cases e2
  exact ⟨i, j, rfl, rfl, hc, q _ H T (Gr.refl hT) (MIs.dat (hg T) hT)⟩
theorem RD.orl {r r' : R2} (h : RD K m1 m2 m r d1 d2 d) : RD K m1 m2 m (fun x y H Q => r x y H Q ∨ r' x y H Q) d1 d2 d := fun B H T x y hB hT h1 h2 Q q => .inl (h B H T x y hB hT h1 h2 Q q)
theorem RD.orr {r r' : R2} (h : RD K m1 m2 m r' d1 d2 d) : RD K m1 m2 m (fun x y H Q => r x y H Q ∨ r' x y H Q) d1 d2 d := fun B H T x y hB hT h1 h2 Q q => .inr (h B H T x y hB hT h1 h2 Q q)
/-! tests -/
theorem et_test (h : Ev K m te e (.bl b)) : EvT K (tTest te) e b := fun B T0 σ H T s Q q => h B T0 σ H T s _ fun v H1 T1 g i => by
  have i := i.now (s.gr.h.trans g.h) g.s
  cases i
  exact ⟨b, rfl, q H1 T1 g⟩
theorem et_B (h : Ev K m te e (.bl b)) : EvT K (tB te) e b := fun B T0 σ H T s Q q => h B T0 σ H T s _ fun v H1 T1 g i => by
  have i := i.now (s.gr.h.trans g.h) g.s
  cases i
  exact ⟨b, rfl, q H1 T1 g⟩
theorem et_and (h1 : EvT K tt e b) (h2 : b = true → EvT K tu e c) : EvT K (tAnd tt tu) e (b && c) := fun B T0 σ H T s Q q => h1 B T0 σ H T s _ fun H1 T1 g => by
  cases b with
  | true =>
    rw [if_pos rfl]
    exact h2 rfl B T0 σ H1 T1 (s.grow g) Q fun H2 T2 g2 => q H2 T2 (g.trans g2)
  | false =>
    rw [if_neg Bool.false_ne_true]
    exact q H1 T1 g
theorem et_or (h1 : EvT K tt e b) (h2 : b = false → EvT K tu e c) : EvT K (tOr tt tu) e (b || c) := fun B T0 σ H T s Q q => h1 B T0 σ H T s _ fun H1 T1 g => by
  cases b with
  | true =>
    rw [if_pos rfl]
    exact q H1 T1 g
  | false =>
    rw [if_neg Bool.false_ne_true]
    exact h2 rfl B T0 σ H1 T1 (s.grow g) Q fun H2 T2 g2 => q H2 T2 (g.trans g2)
theorem et_not (h : EvT K tt e b) : EvT K (tNot tt) e (!b) := fun B T0 σ H T s Q q => h B T0 σ H T s _ fun H1 T1 g => q H1 T1 g
theorem ev_andV (h1 : Ev K m1 ta e (.bl b)) (h2 : b = true → Ev K m tb e (.bl c)) : Ev K m (tAndV ta tb) e (.bl (b && c)) := fun B T0 σ H T s Q q => h1 B T0 σ H T s _ fun v H1 T1 g i => by
  have i := i.now (s.gr.h.trans g.h) g.s
  cases i
  refine ⟨b, rfl, ?_⟩
  cases b with
  | true =>
    show tb σ H1 Q
    exact h2 rfl B T0 σ H1 T1 (s.grow g) Q fun v H2 T2 g2 i2 => q v H2 T2 (g.trans g2) i2
  | false => exact q _ H1 T1 g (MIs.dat (.bl false) g.s)
theorem ev_orV (h1 : Ev K m1 ta e (.bl b)) (h2 : b = false → Ev K m tb e (.bl c)) : Ev K m (tOrV ta tb) e (.bl (b || c)) := fun B T0 σ H T s Q q => h1 B T0 σ H T s _ fun v H1 T1 g i => by
  have i := i.now (s.gr.h.trans g.h) g.s
  cases i
  refine ⟨b, rfl, ?_⟩
  cases b with
  | false =>
    show tb σ H1 Q
    exact h2 rfl B T0 σ H1 T1 (s.grow g) Q fun v H2 T2 g2 i2 => q v H2 T2 (g.trans g2) i2
  | true => exact q _ H1 T1 g (MIs.dat (.bl true) g.s)
theorem ev_notV (h1 : Ev K m1 ta e (.bl b)) : Ev K m (tNotV ta) e (.bl (!b)) := fun B T0 σ H T s Q q => h1 B T0 σ H T s _ fun v H1 T1 g i => by
  have i := i.now (s.gr.h.trans g.h) g.s
  cases i
  exact ⟨b, rfl, q _ H1 T1 g (MIs.dat (.bl (!b)) g.s)⟩
theorem ev_if (h : EvT K tt e b) (h1 : b = true → Ev K m ta e d) (h2 : b = false → Ev K m tb e d) : Ev K m (tIf tt ta tb) e d := fun B T0 σ H T s Q q => h B T0 σ H T s _ fun H1 T1 g => by
  cases b with
  | true =>
    show ta σ H1 Q
    exact h1 rfl B T0 σ H1 T1 (s.grow g) Q fun v H2 T2 g2 i2 => q v H2 T2 (g.trans g2) i2
  | false =>
    show tb σ H1 Q
    exact h2 rfl B T0 σ H1 T1 (s.grow g) Q fun v H2 T2 g2 i2 => q v H2 T2 (g.trans g2) i2
/-! argument lists, displays -/
theorem ea_nil : EvA K [] tNil e [] := fun B T0 σ H T s Q q => q [] H T (Gr.refl s.gr.s) trivial
theorem ea_cons {ms : List Md} {ta : TA} (h : Ev K m te e d) (hr : EvA K ms ta e ds) : EvA K (m :: ms) (tCons te ta) e (d :: ds) := fun B T0 σ H T s Q q =>
  h B T0 σ H T s _ fun v H1 T1 g1 i1 => hr B T0 σ H1 T1 (s.grow g1) _ fun vs H2 T2 g2 i2 => q (v :: vs) H2 T2 (g1.trans g2) ⟨i1.mono g2.h g2.t, i2⟩
def allDat : List D → List Md
  | [] => []
  | _ :: ds => .dat :: allDat ds
theorem MIss.iss {B H T : Hp} : ∀ {ds : List D} {vs : List V}, MIss K B H T (allDat ds) vs ds → Iss K T vs ds
  | [], [], _ => .nil
  | _ :: _, _ :: _, h => .cons h.1 (MIss.iss h.2)
  | [], _ :: _, h => h.elim
  | _ :: _, [], h => h.elim
def EvD (K : PySem.W.Frag) (ta : TA) (e : En) (ds : List D) : Prop := EvA K (allDat ds) ta e ds
theorem ed_nil : EvD K tNil e [] := ea_nil
theorem ed_cons {ta : TA} (h : Ev K .dat te e d) (hr : EvD K ta e ds) : EvD K (tCons te ta) e (d :: ds) := ea_cons h hr
theorem ev_tup {ta : TA} (h : EvD K ta e ds) (hl : ds.length ≤ sizeLine) : Ev K m (tTup ta) e (.tup ds) := Ev.up fun B T0 σ H T s Q q => h B T0 σ H T s _ fun vs H1 T1 g1 i1 => by
  have i := i1.iss
  refine ⟨by rw [i.length]; exact hl, fun p hp => ?_⟩
  have g2 := Gr.new (o := .tup vs) g1.s hp
  exact q _ _ _ (g1.trans g2) (.tup (SqT.of upd_same) (Iss.mono g2.t _ i))
theorem ev_lstO {ta : TA} (h : EvD K ta e ds) (hl : ds.length ≤ sizeLine) : EvO K (tLst ta) e (.lst ds) := fun B T0 σ H T s Q q => h B T0 σ H T s _ fun vs H1 T1 g1 i1 => by
  have i := i1.iss
  refine ⟨by rw [i.length]; exact hl, fun p hp => ?_⟩
  have g2 := Gr.own (o := .lst vs) g1.s hp
  exact q _ _ _ (g1.trans g2) (g1.h.back hp) (g1.s.back hp) ⟨vs, upd_same, i⟩
theorem ev_lst {ta : TA} (h : EvD K ta e ds) (hl : ds.length ≤ sizeLine) : Ev K m (tLst ta) e (.lst ds) := (ev_lstO h hl).dat
theorem evo_nil : EvO K (tLst tNil) e (.lst []) := ev_lstO ed_nil (Nat.zero_le _)
theorem ev_nil : Ev K m (tLst tNil) e (.lst []) := ev_lst ed_nil (Nat.zero_le _)
/-- a call by values -/
theorem ev_cb {ms : List Md} {ta : TA} {r : List V → Hp → VK → Prop} (h : EvA K ms ta e ds) (hr : RL K ms m r ds d) : Ev K m (tCB r ta) e d := fun B T0 σ H T s Q q =>
  h B T0 σ H T s _ fun vs H1 T1 g1 i1 => hr B H1 T1 vs (s.gr.h.trans g1.h) g1.s i1 Q fun v H2 T2 g2 i2 => q v H2 T2 (g1.trans g2) i2
theorem ev_cbO {ms : List Md} {ta : TA} {r : List V → Hp → VK → Prop} (h : EvA K ms ta e ds) (hr : RLO K ms r ds o) : EvO K (tCB r ta) e o := fun B T0 σ H T s Q q =>
  h B T0 σ H T s _ fun vs H1 T1 g1 i1 => hr B H1 T1 vs (s.gr.h.trans g1.h) g1.s i1 Q fun v H2 T2 g2 n1 n2 i2 => q v H2 T2 (g1.trans g2) (g1.h.back n1) n2 i2
end

/-! ### statements -/
structure Po where
  nx : En → Prop
  rt : D → Prop
  bk : En → Prop := fun _ => False
  ct : En → Prop := fun _ => False
  ex : En → Addr → Option (List (Str × D)) → Prop := fun _ _ _ => False
  ro : OD → Prop := fun _ => False
/-- a wish about exceptions that does not look at the slots -/
abbrev lift (E : XK) : WX := fun c d _ H => E c d H
def XIs (K : PySem.W.Frag) (T : Hp) : Option Addr → Option (List (Str × D)) → Prop
  | none, none => True
  | some d, some fs => ∃ fvs, T d = some (.xd fvs) ∧ Isf K T fvs fs
  | _, _ => False
structure Fits (K : PySem.W.Frag) (E : WX) (B T0 : Hp) (P : Po) (D : Ends) : Prop where
  nx : ∀ e σ H T, P.nx e → Sat K B T0 e σ H T → D.nx σ H
  rt : ∀ d v H T, P.rt d → Gr B T0 H T → Is K T v d → D.rt v H
  bk : ∀ e σ H T, P.bk e → Sat K B T0 e σ H T → D.bk σ H
  ct : ∀ e σ H T, P.ct e → Sat K B T0 e σ H T → D.ct σ H
  ex : ∀ e σ H T C od o, P.ex e C o → Sat K B T0 e σ H T → XIs K T od o → E (.ref C) od σ H
  ro : ∀ o a H T, P.ro o → Gr B T0 H T → B a = none → T a = none → OwnAt K H T a o → D.rt (.ref a) H
def Run (K : PySem.W.Frag) (E : WX) (t : TS) (e : En) (P : Po) : Prop := ∀ (B T0 : Hp) (σ : L2.St) (H T : Hp) (D : Ends), Sat K B T0 e σ H T → Fits K E B T0 P D → t D σ H

section
variable {K : PySem.W.Frag} {E : WX} {e : En} {d d1 d2 d3 : D} {ds : List D} {te ta tb tc : TE} {tt tu : TT} {m m1 m2 : Md} {b c : Bool} {r : R2} {o : OD} {P : Po} {t u : TS} {i : Nat}
theorem Fits.rebase {B T0 H T : Hp} {σ : L2.St} {Ds : Ends} (s : Sat K B T0 e σ H T) (f : Fits K E B T0 P Ds) : Fits K E B T P Ds :=
  ⟨fun e' σ' H' T' p s' => f.nx e' σ' H' T' p (s.unbase s'), fun d v H' T' p g i => f.rt d v H' T' p ⟨g.h, s.gr.t.trans g.t, g.s, fun a o h h' => by
    cases q : T a with
    | none => exact g.n a o h q
    | some u => exact s.gr.n a u q h'⟩ i, fun e' σ' H' T' p s' => f.bk e' σ' H' T' p (s.unbase s'), fun e' σ' H' T' p s' => f.ct e' σ' H' T' p (s.unbase s'),
    fun e' σ' H' T' C od o p s' x => f.ex e' σ' H' T' C od o p (s.unbase s') x,
    fun o a H' T' p g hb ht ho => f.ro o a H' T' p ⟨g.h, s.gr.t.trans g.t, g.s, fun b u h h' => by
    cases q : T b with
    | none => exact g.n b u h q
    | some u => exact s.gr.n b u q h'⟩ hb ht ho⟩
theorem Run.imp {P' : Po} (h : Run K E t e P) (h1 : ∀ e, P.nx e → P'.nx e) (h2 : ∀ d, P.rt d → P'.rt d) (h3 : ∀ e, P.bk e → P'.bk e) (h4 : ∀ e, P.ct e → P'.ct e) (h5 : ∀ e C o, P.ex e C o → P'.ex e C o) (h6 : ∀ o, P.ro o → P'.ro o) : Run K E t e P' := fun B T0 σ H T D s f =>
  h B T0 σ H T D s ⟨fun e' σ' H' T' p => f.nx e' σ' H' T' (h1 _ p), fun d v H' T' p => f.rt d v H' T' (h2 _ p), fun e' σ' H' T' p => f.bk e' σ' H' T' (h3 _ p), fun e' σ' H' T' p => f.ct e' σ' H' T' (h4 _ p), fun e' σ' H' T' C od o p => f.ex e' σ' H' T' C od o (h5 _ _ _ p), fun o a H' T' p => f.ro o a H' T' (h6 _ p)⟩
theorem run_seqM (M : En → Prop) (h : Run K E t e { P with nx := M }) (k : ∀ e', M e' → Run K E u e' P) : Run K E (tSeq t u) e P := fun B T0 σ H T D s f =>
  h B T0 σ H T { D with nx := u D } s ⟨fun e' σ' H' T' p s' => k e' p B T0 σ' H' T' D s' f, f.rt, f.bk, f.ct, f.ex, f.ro⟩
theorem run_seq (h : Run K E t e { P with nx := fun e' => Run K E u e' P }) : Run K E (tSeq t u) e P := run_seqM _ h fun _ p => p
theorem run_next (h : P.nx e) : Run K E tNext e P := fun B T0 σ H T D s f => f.nx e σ H T h s
theorem run_brk (h : P.bk e) : Run K E tBreak e P := fun B T0 σ H T D s f => f.bk e σ H T h s
theorem run_cont (h : P.ct e) : Run K E tCont e P := fun B T0 σ H T D s f => f.ct e σ H T h s
theorem run_asg (h : Ev K .dat te e d) (q : P.nx (e.set i (.dat d))) : Run K E (tAsg te (gName i)) e P := fun B T0 σ H T D s f =>
  h B T0 σ H T s _ fun v H1 T1 g i1 => f.nx _ _ H1 T1 q ((s.grow g).set (m := .dat) (fun z => nomatch z) i1)
theorem run_asgB (h : Ev K .bor te e d) (q : P.nx (e.set i (.bor d))) : Run K E (tAsg te (gName i)) e P := fun B T0 σ H T D s f =>
  h B T0 σ H T s _ fun v H1 T1 g i1 => f.nx _ _ H1 T1 q ((s.grow g).set (m := .bor) (fun z => nomatch z) i1)
theorem run_asgO (h : EvO K te e o) (q : P.nx (e.set i (.own o))) : Run K E (tAsg te (gName i)) e P := fun B T0 σ H T D s f =>
  h B T0 σ H T s _ fun a H1 T1 g n1 n2 i1 => f.nx _ _ H1 T1 q ((s.grow g).setO (s.gr.h.back n1) n2 i1 fun j o' b hij hj hb z => by
    obtain ⟨b', hb', _, _, q⟩ := s.own hj
    rw [hb] at hb'
    cases hb'
    obtain ⟨w, hw⟩ := q.ex
    rw [← z, n1] at hw
    cases hw)
theorem run_drop (h : Ev K m te e d) (q : P.nx e) : Run K E (tDrop te) e P := fun B T0 σ H T D s f => h B T0 σ H T s _ fun v H1 T1 g i1 => f.nx _ _ H1 T1 q (s.grow g)
theorem run_ret (h : Ev K .dat te e d) (q : P.rt d) : Run K E (tRet te) e P := fun B T0 σ H T D s f => h B T0 σ H T s _ fun v H1 T1 g i1 => f.rt d v H1 T1 q (s.gr.trans g) i1
theorem run_retN (q : P.rt .non) : Run K E tRetN e P := fun B T0 σ H T D s f => f.rt .non _ H T q s.gr .non
theorem run_if (h : EvT K tt e b) (h1 : b = true → Run K E t e P) (h2 : b = false → Run K E u e P) : Run K E (tIfS tt t u) e P := fun B T0 σ H T D s f => h B T0 σ H T s _ fun H1 T1 g => by
  cases b with
  | true => exact h1 rfl B T0 σ H1 T1 D (s.grow g) f
  | false => exact h2 rfl B T0 σ H1 T1 D (s.grow g) f
/-- one's own becomes data -/
theorem run_give (hi : e[i]? = some (.own o)) (h : Run K E t (e.set i (.dat o.d)) P) : Run K E t e P := fun B T0 σ H T D s f => by
  obtain ⟨T', hl, s'⟩ := s.give hi
  exact h B T0 σ H T' D s' f
theorem run_retO (hi : e[i]? = some (.own o)) (q : P.rt o.d) : Run K E (tRet (tVar i)) e P := run_give hi (run_ret (ev_dat (by rw [List.getElem?_set_self (List.getElem?_eq_some_iff.mp hi).1])) q)
/-- a list of one's own is handed out as such -/
theorem run_retOwn (hi : e[i]? = some (.own o)) (q : P.ro o) : Run K E (tRet (tVar i)) e P := fun B T0 σ H T D s f => by
  obtain ⟨a, hx, hb, ht, ho⟩ := s.own hi
  exact ⟨_, hx, f.ro o a H T q s.gr hb ht ho⟩
theorem run_retEO (h : EvO K te e o) (q : P.ro o) : Run K E (tRet te) e P := fun B T0 σ H T D s f => h B T0 σ H T s _ fun a H1 T1 g n1 n2 ho => f.ro o a H1 T1 q (s.gr.trans g) (s.gr.h.back n1) n2 ho
theorem run_augI {f : Int → Int → Int} {x y : Int} (hi : e[i]? = some (.dat (.int x))) (h : Ev K m te e (.int y)) (q : P.nx (e.set i (.dat (.int (f x y))))) : Run K E (tAug i te (ipI f)) e P := fun B T0 σ H T D s ft => by
  obtain ⟨v, hx, w, rfl, iw⟩ := s.sl i _ hi
  cases iw
  refine ⟨_, hx, h B T0 σ H T s _ fun v H1 T1 g i1 => ?_⟩
  have i2 := i1.now (s.gr.h.trans g.h) g.s
  cases i2
  exact ⟨x, y, rfl, rfl, ft.nx _ _ H1 T1 q ((s.grow g).set (m := .dat) (fun z => nomatch z) (.int _))⟩
theorem run_app {xs : List D} (hi : e[i]? = some (.own (.lst xs))) (h : Ev K .dat te e d) (hz : xs.length < sizeLine) (q : P.nx (e.set i (.own (.lst (xs ++ [d]))))) :
    Run K E (tDrop (tBM K "list" rAppend (tVar i) (tCons te tNil))) e P := fun B T0 σ H T D s f => by
  obtain ⟨a, hx, hb, ht, vs, hv, iv⟩ := s.own hi
  refine ⟨_, hx, .inl ⟨rfl, _, SqL.of hv⟩, h B T0 σ H T s _ fun v H1 T1 g i1 => ?_⟩
  refine ⟨a, vs, v, rfl, rfl, g.h _ _ hv, by rw [iv.length]; exact hz, ?_⟩
  exact f.nx _ _ _ T1 q ((s.grow g).wr hi hx ⟨vs ++ [v], upd_same, (Iss.mono g.t _ iv).append (.cons i1 .nil)⟩)
theorem ixN_len {n : Nat} {k : Int} {j : Nat} (h0 : 0 ≤ k) (h1 : k < n) (h2 : j = k.toNat) : ixN n k = some j := by
  subst h2; unfold ixN; rw [if_pos h0, if_pos h1]
/-- xs[k] = v -/
theorem run_setI {ti : TE} {xs : List D} {k : Int} {j : Nat} (hi : e[i]? = some (.own (.lst xs))) (h : Ev K .dat te e d) (hk : Ev K m ti e (.int k)) (hj : ixN xs.length k = some j) (q : P.nx (e.set i (.own (.lst (xs.set j d))))) :
    Run K E (tAsg te (gSub (tVar i) ti rSetL)) e P := fun B T0 σ H T D s f => by
  refine h B T0 σ H T s _ fun v H1 T1 g1 i1 => ?_
  have s1 := s.grow g1
  obtain ⟨a, hx, hb, ht, vs, hv, iv⟩ := s1.own hi
  refine ⟨_, hx, hk B T0 σ H1 T1 s1 _ fun w H2 T2 g2 i2 => ?_⟩
  have i3 := i2.now (s1.gr.h.trans g2.h) g2.s
  cases i3
  refine ⟨a, vs, k, j, rfl, rfl, g2.h _ _ hv, by rw [iv.length]; exact hj, ?_⟩
  exact f.nx _ _ _ T2 q ((s1.grow g2).wr hi hx ⟨vs.set j v, upd_same, (Iss.mono g2.t _ iv).set j (Is.mono g2.t d i1)⟩)
end
end Fh

set_option Elab.async false
set_option linter.all false
set_option maxRecDepth 100000
set_option maxHeartbeats 4000000
/-! Fh, third part: loops, comprehensions, defs -/
namespace Fh
open PySem PySem.Spec PyProof.Rows L2

/-! ### what is walked -/
def ItD (K : PySem.W.Frag) (B : Hp) (m : Md) (J : It) (H T : Hp) (xs : List D) : Prop :=
  ∃ S : Hp → Hp → Prop, S H T ∧ (∀ H1 T1 H2 T2, S H1 T1 → Le T1 T2 → Le B H2 → Le T2 H2 → S H2 T2) ∧
    (∀ (i : Nat) d H1 T1, S H1 T1 → xs[i]? = some d → Le B H1 → Le T1 H1 → J.go i H1 ∧ ∀ v H2, J.yld i H1 v H2 → ∃ T2, Gr H1 T1 H2 T2 ∧ MIs m K B H2 T2 v d) ∧
    (∀ (i : Nat) H1 T1, S H1 T1 → Le B H1 → Le T1 H1 → xs.length ≤ i → J.stop i H1)
def EvI (K : PySem.W.Frag) (m : Md) (wi : TI) (e : En) (xs : List D) : Prop := ∀ (B T0 : Hp) (σ : L2.St) (H T : Hp), Sat K B T0 e σ H T → ∀ R : It → Hp → Prop, (∀ J H' T', Gr H T H' T' → ItD K B m J H' T' xs → R J H') → wi σ H R
/-- a list or a tuple -/
def iSeq (K : PySem.W.Frag) (tl : TE) : TI := fun σ H R => tl σ H fun x H1 => ∃ a, x = .ref a ∧ ((∃ xs, SqL K H1 a xs ∧ R (Itl K a) H1) ∨ (∃ xs, SqT K H1 a xs ∧ R (Itt K a) H1))
theorem pi_seq {X : Cx} {tg l : Expr} {tl : TE} (hl : PE X l tl) : PI X tg l (iSeq X.K tl) := by
  refine ⟨fun pins s σ H R I h => ?_⟩
  refine thn (hl.run pins s σ H _ I h) fun v s1 ⟨x, H1, I1, r1, q1⟩ => ?_
  obtain ⟨a, e, q⟩ := q1
  subst e
  cases r1
  rcases q with ⟨xs, hq, q⟩ | ⟨xs, hq, q⟩
  · obtain ⟨its, rv, p, hz⟩ := I1.list hq
    refine wpAny_pyIter_list p.isList ?_
    refine ⟨s1.heap.objs.size, [s1.heap.objs.size], _, _, H1, rfl, I1.kept (t' := s1.toks) fun b o e => Heap.get?_push_of_some _ e, turn_list a _, ⟨_, Heap.get?_push_size _ rfl, rfl, rfl⟩, fun b hb => ?_, q⟩
    have e : b = s1.heap.objs.size := by simpa using hb
    subst e
    exact I1.fpOk (Nat.le_refl _) (I1.hok.fresh (Nat.le_refl _))
  · obtain ⟨its, rv, p, hz⟩ := I1.tuple hq
    refine wpAny_pyIter_tuple (show s1.heap.IsTuple a its.toArray from p) ?_
    refine ⟨s1.heap.objs.size, [s1.heap.objs.size], _, _, H1, rfl, I1.kept (t' := s1.toks) fun b o e => Heap.get?_push_of_some _ e, turn_tuple a _, ⟨_, Heap.get?_push_size _ rfl, rfl, rfl⟩, fun b hb => ?_, q⟩
    have e : b = s1.heap.objs.size := by simpa using hb
    subst e
    exact I1.fpOk (Nat.le_refl _) (I1.hok.fresh (Nat.le_refl _))

section
variable {K : PySem.W.Frag} {E : WX} {e : En} {d d1 d2 d3 : D} {ds xs : List D} {te ta tb tc tl : TE} {tt tu : TT} {m m1 m2 : Md} {b c : Bool} {r : R2} {o : OD} {P : Po} {t u : TS} {i : Nat}
theorem itD_list {B H T : Hp} {a : Addr} {vs : List V} {U : Hp} (hm : (m = .dat ∧ U = T) ∨ (m = .bor ∧ (U = T ∨ U = B))) (hT : Le T H) (hB : Le B H) (h : U a = some (.lst vs)) (hi : Iss K U vs xs) : ItD K B m (Itl K a) H T xs := by
  have hUT : U = T ∨ U = B := by
    rcases hm with ⟨_, q⟩ | ⟨_, q⟩
    · exact .inl q
    · exact q
  refine ⟨fun H1 T1 => Le U H1 ∧ (U = T → Le T T1), ⟨?_, fun _ => Le.refl _⟩, fun H1 T1 H2 T2 s l lb l2 => ⟨?_, fun q => (s.2 q).trans l⟩, fun i d H1 T1 s hx hB1 hT1 => ⟨⟨vs, ?_⟩, ?_⟩, fun i H1 T1 s hB1 hT1 hi' => ⟨vs, SqL.of (s.1 _ _ h), by rw [hi.length]; exact hi'⟩⟩
  · rcases hUT with q | q
    · rw [q]; exact hT
    · rw [q]; exact hB
  · rcases hUT with q | q
    · rw [q]; exact ((s.2 q).trans l).trans l2
    · rw [q]; exact lb
  · obtain ⟨v, hv, _⟩ := hi.get hx
    exact ⟨v, SqL.of (s.1 _ _ h), hv⟩
  · rintro v H2 ⟨rfl, y⟩
    obtain ⟨v', hv, iv⟩ := hi.get hx
    have := y vs (SqL.of (s.1 _ _ h))
    rw [hv] at this
    cases this
    refine ⟨T1, Gr.refl hT1, ?_⟩
    rcases hm with ⟨rfl, q⟩ | ⟨rfl, q⟩
    · exact Is.mono (q ▸ s.2 q) d (q ▸ iv)
    · rcases q with q | q
      · exact .inl (Is.mono (q ▸ s.2 q) d (q ▸ iv))
      · exact .inr (q ▸ iv)

theorem itD_tup {B H T : Hp} {a : Addr} {vs : List V} {U : Hp} (hm : (m = .dat ∧ U = T) ∨ (m = .bor ∧ (U = T ∨ U = B))) (hT : Le T H) (hB : Le B H) (h : SqT K U a vs) (hi : Iss K U vs xs) : ItD K B m (Itt K a) H T xs := by
  have hUT : U = T ∨ U = B := by
    rcases hm with ⟨_, q⟩ | ⟨_, q⟩
    · exact .inl q
    · exact q
  refine ⟨fun H1 T1 => Le U H1 ∧ (U = T → Le T T1), ⟨?_, fun _ => Le.refl _⟩, fun H1 T1 H2 T2 s l lb l2 => ⟨?_, fun q => (s.2 q).trans l⟩, fun i d H1 T1 s hx hB1 hT1 => ⟨⟨vs, ?_⟩, ?_⟩, fun i H1 T1 s hB1 hT1 hi' => ⟨vs, s.1.sqT h, by rw [hi.length]; exact hi'⟩⟩
  · rcases hUT with q | q
    · rw [q]; exact hT
    · rw [q]; exact hB
  · rcases hUT with q | q
    · rw [q]; exact ((s.2 q).trans l).trans l2
    · rw [q]; exact lb
  · obtain ⟨v, hv, _⟩ := hi.get hx
    exact ⟨v, s.1.sqT h, hv⟩
  · rintro v H2 ⟨rfl, y⟩
    obtain ⟨v', hv, iv⟩ := hi.get hx
    have := y vs (s.1.sqT h)
    rw [hv] at this
    cases this
    refine ⟨T1, Gr.refl hT1, ?_⟩
    rcases hm with ⟨rfl, q⟩ | ⟨rfl, q⟩
    · exact Is.mono (q ▸ s.2 q) d (q ▸ iv)
    · rcases q with q | q
      · exact .inl (Is.mono (q ▸ s.2 q) d (q ▸ iv))
      · exact .inr (q ▸ iv)
theorem ei_lst (hm : m ≠ .now) (h : Ev K m tl e (.lst xs)) : EvI K m (iSeq K tl) e xs := fun B T0 σ H T s R q => h B T0 σ H T s _ fun v H1 T1 g i => by
  have hB := (s.gr.h.trans g.h)
  have fin : ∀ U : Hp, ((m = .dat ∧ U = T1) ∨ (m = .bor ∧ (U = T1 ∨ U = B))) → Is K U v (.lst xs) → ∃ a, v = .ref a ∧ ((∃ xs, SqL K H1 a xs ∧ R (Itl K a) H1) ∨ (∃ xs, SqT K H1 a xs ∧ R (Itt K a) H1)) := fun U hU iu => by
    cases iu with
    | @lst a vs _ ha hi =>
      have hl : Le U H1 := by
        rcases hU with ⟨_, z⟩ | ⟨_, z | z⟩
        · rw [z]; exact g.s
        · rw [z]; exact g.s
        · rw [z]; exact hB
      exact ⟨a, rfl, .inl ⟨vs, SqL.of (hl _ _ ha), q _ H1 T1 g (itD_list hU g.s hB ha hi)⟩⟩
  cases m with
  | dat => exact fin T1 (.inl ⟨rfl, rfl⟩) i
  | bor =>
    rcases i with i | i
    · exact fin T1 (.inr ⟨rfl, .inl rfl⟩) i
    · exact fin B (.inr ⟨rfl, .inr rfl⟩) i
  | now => exact absurd rfl hm
theorem ei_tup (hm : m ≠ .now) (h : Ev K m tl e (.tup xs)) : EvI K m (iSeq K tl) e xs := fun B T0 σ H T s R q => h B T0 σ H T s _ fun v H1 T1 g i => by
  have hB := (s.gr.h.trans g.h)
  have fin : ∀ U : Hp, ((m = .dat ∧ U = T1) ∨ (m = .bor ∧ (U = T1 ∨ U = B))) → Is K U v (.tup xs) → ∃ a, v = .ref a ∧ ((∃ xs, SqL K H1 a xs ∧ R (Itl K a) H1) ∨ (∃ xs, SqT K H1 a xs ∧ R (Itt K a) H1)) := fun U hU iu => by
    cases iu with
    | @tup a vs _ ha hi =>
      have hl : Le U H1 := by
        rcases hU with ⟨_, z⟩ | ⟨_, z | z⟩
        · rw [z]; exact g.s
        · rw [z]; exact g.s
        · rw [z]; exact hB
      exact ⟨a, rfl, .inr ⟨vs, hl.sqT ha, q _ H1 T1 g (itD_tup hU g.s hB ha hi)⟩⟩
  cases m with
  | dat => exact fin T1 (.inl ⟨rfl, rfl⟩) i
  | bor =>
    rcases i with i | i
    · exact fin T1 (.inr ⟨rfl, .inl rfl⟩) i
    · exact fin B (.inr ⟨rfl, .inr rfl⟩) i
  | now => exact absurd rfl hm
/-- lo, lo + 1, .. -/
def rgD (lo : Int) (n : Nat) : List D := (List.range n).map fun i => D.int (lo + (i : Nat))
theorem rgD_len (lo : Int) (n : Nat) : (rgD lo n).length = n := by unfold rgD; simp
theorem rgD_get {lo : Int} {n i : Nat} (h : i < n) : (rgD lo n)[i]? = some (.int (lo + (i : Nat))) := by
  unfold rgD; rw [List.getElem?_map, List.getElem?_range h]; rfl
theorem itD_rng {B H T : Hp} {lo : Int} {n : Nat} : ItD K B .dat (Itr lo n) H T (rgD lo n) := by
  refine ⟨fun _ _ => True, trivial, fun _ _ _ _ _ _ _ _ => trivial, fun i d H1 T1 _ hx hB1 hT1 => ?_, fun i H1 T1 _ _ _ hi => by rw [rgD_len] at hi; exact hi⟩
  have hi : i < n := by
    have := (List.getElem?_eq_some_iff.mp hx).1
    rwa [rgD_len] at this
  rw [rgD_get hi] at hx
  cases hx
  exact ⟨hi, fun v H2 ⟨e1, e2⟩ => by subst e1; subst e2; exact ⟨T1, Gr.refl hT1, .int _⟩⟩
theorem ei_rng1 {ta : TA} {n : Int} (h : EvA K [m] ta e [.int n]) (h1 : -(2 ^ 62) ≤ n) (h2 : n < 2 ^ 62) : EvI K .dat (iRng1 ta) e (rgD 0 n.toNat) := fun B T0 σ H T s R q => h B T0 σ H T s _ fun vs H1 T1 g i => by
  match vs, i with
  | [v], i =>
    have i1 := i.1.now (s.gr.h.trans g.h) g.s
    cases i1
    exact ⟨n, rfl, h1, h2, q _ H1 T1 g itD_rng⟩
theorem ei_rng2 {ta : TA} {lo n : Int} (h : EvA K [m1, m2] ta e [.int lo, .int n]) (hb : -(2 ^ 62) ≤ lo ∧ lo < 2 ^ 62 ∧ -(2 ^ 62) ≤ n ∧ n < 2 ^ 62) : EvI K .dat (iRng2 ta) e (rgD lo (n - lo).toNat) := fun B T0 σ H T s R q => h B T0 σ H T s _ fun vs H1 T1 g i => by
  match vs, i with
  | [v, w], i =>
    have i1 := i.1.now (s.gr.h.trans g.h) g.s
    have i2 := i.2.1.now (s.gr.h.trans g.h) g.s
    cases i1
    cases i2
    exact ⟨lo, n, rfl, hb, q _ H1 T1 g itD_rng⟩

/-! ### targets -/
/-- the frame's names but those of vs are as they were -/
def SameBut (vs : List Nat) (σ σ' : L2.St) : Prop := σ'.length = σ.length ∧ ∀ j, j ∉ vs → σ'[j]? = σ[j]?
def Tg (K : PySem.W.Frag) (vs : List Nat) (m : Md) (g : TG) (d : D) (e e' : En) : Prop := ∀ (B T0 : Hp) (σ : L2.St) (H T : Hp) (v : V), Sat K B T0 e σ H T → MIs m K B H T v d → ∀ Q : L2.St → Hp → Prop, (∀ σ', Sat K B T0 e' σ' H T → SameBut vs σ σ' → Q σ' H) → g v σ H Q
theorem sb_set {σ : L2.St} {x : Option V} {vs : List Nat} (h : i ∈ vs) : SameBut vs σ (σ.set i x) := ⟨by simp, fun j hj => List.getElem?_set_ne fun q => hj (by rw [← q]; exact h)⟩
theorem SameBut.trans {vs : List Nat} {σ σ1 σ2 : L2.St} (a : SameBut vs σ σ1) (b : SameBut vs σ1 σ2) : SameBut vs σ σ2 := ⟨b.1.trans a.1, fun j h => (b.2 j h).trans (a.2 j h)⟩
theorem tg_dat {vs : List Nat} (h : i ∈ vs := by simp) : Tg K vs .dat (gName i) d e (e.set i (.dat d)) := fun B T0 σ H T v s hv Q q => q _ (s.set (m := .dat) (fun z => nomatch z) hv) (sb_set h)
theorem tg_bor {vs : List Nat} (h : i ∈ vs := by simp) : Tg K vs .bor (gName i) d e (e.set i (.bor d)) := fun B T0 σ H T v s hv Q q => q _ (s.set (m := .bor) (fun z => nomatch z) hv) (sb_set h)
def Tgs (K : PySem.W.Frag) (vs : List Nat) (m : Md) (g : TGs) (ds : List D) (e e' : En) : Prop := ∀ (B T0 : Hp) (σ : L2.St) (H T U : Hp) (ws : List V), Sat K B T0 e σ H T → Iss K U ws ds → (m = .dat → Le U T) → (m = .bor → Le U T ∨ Le U B) → ∀ Q : L2.St → Hp → Prop, (∀ σ', Sat K B T0 e' σ' H T → SameBut vs σ σ' → Q σ' H) → g ws σ H Q
theorem tgs_nil {vs : List Nat} : Tgs K vs m gNil [] e e := fun B T0 σ H T U vs s hv _ _ Q q => by
  cases hv
  exact ⟨rfl, q σ s ⟨rfl, fun _ _ => rfl⟩⟩
theorem tgs_cons {vs : List Nat} (hm : m ≠ .now) {g : TG} {gs : TGs} {e1 e2 : En} (h : Tg K vs m g d e e1) (hr : Tgs K vs m gs ds e1 e2) : Tgs K vs m (gCons g gs) (d :: ds) e e2 := fun B T0 σ H T U ws s hv l1 l2 Q q => by
  cases hv with
  | @cons v ws _ _ iv ivs =>
    refine ⟨v, ws, rfl, h B T0 σ H T v s ?_ _ fun σ1 s1 b1 => hr B T0 σ1 H T U ws s1 ivs l1 l2 Q fun σ' s' b2 => q σ' s' (b1.trans b2)⟩
    cases m with
    | dat => exact Is.mono (l1 rfl) d iv
    | bor =>
      rcases l2 rfl with z | z
      · exact .inl (Is.mono z d iv)
      · exact .inr (Is.mono z d iv)
    | now => exact absurd rfl hm
theorem tg_tup {vs : List Nat} (hm : m ≠ .now) {gs : TGs} {n : Nat} {e2 : En} (h : Tgs K vs m gs ds e e2) (hn : ds.length = n) : Tg K vs m (gTup K n gs) (.tup ds) e e2 := fun B T0 σ H T v s hv Q q => by
  have fin : ∀ U : Hp, (m = .dat → Le U T) → (m = .bor → Le U T ∨ Le U B) → Le U H → Is K U v (.tup ds) → ∃ a xs, v = .ref a ∧ SqT K H a xs ∧ xs.length = n ∧ gs xs σ H Q := fun U h1 h2 h3 iu => by
    cases iu with
    | @tup a vs _ ha hi => exact ⟨a, vs, rfl, h3.sqT ha, by rw [hi.length]; exact hn, h B T0 σ H T U vs s hi h1 h2 Q q⟩
  cases m with
  | dat => exact fin T (fun _ => Le.refl _) (fun z => nomatch z) s.gr.s hv
  | bor =>
    rcases hv with i | i
    · exact fin T (fun z => nomatch z) (fun _ => .inl (Le.refl _)) s.gr.s i
    · exact fin B (fun z => nomatch z) (fun _ => .inr (Le.refl _)) s.gr.h i
  | now => exact absurd rfl hm

theorem dat_now : Md.dat ≠ .now := fun z => nomatch z
theorem bor_now : Md.bor ≠ .now := fun z => nomatch z
theorem tg_2 {vs : List Nat} {i j : Nat} (hi : i ∈ vs := by simp) (hj : j ∈ vs := by simp) : Tg K vs .dat (gTup K 2 (gCons (gName i) (gCons (gName j) gNil))) (.tup [d1, d2]) e ((e.set i (.dat d1)).set j (.dat d2)) :=
  tg_tup dat_now (tgs_cons dat_now (tg_dat hi) (tgs_cons dat_now (tg_dat hj) tgs_nil)) rfl
theorem tg_2b {vs : List Nat} {i j : Nat} (hi : i ∈ vs := by simp) (hj : j ∈ vs := by simp) : Tg K vs .bor (gTup K 2 (gCons (gName i) (gCons (gName j) gNil))) (.tup [d1, d2]) e ((e.set i (.bor d1)).set j (.bor d2)) :=
  tg_tup bor_now (tgs_cons bor_now (tg_bor hi) (tgs_cons bor_now (tg_bor hj) tgs_nil)) rfl
theorem tg_3 {vs : List Nat} {i j k : Nat} (hi : i ∈ vs := by simp) (hj : j ∈ vs := by simp) (hk : k ∈ vs := by simp) : Tg K vs .dat (gTup K 3 (gCons (gName i) (gCons (gName j) (gCons (gName k) gNil)))) (.tup [d1, d2, d3]) e (((e.set i (.dat d1)).set j (.dat d2)).set k (.dat d3)) :=
  tg_tup dat_now (tgs_cons dat_now (tg_dat hi) (tgs_cons dat_now (tg_dat hj) (tgs_cons dat_now (tg_dat hk) tgs_nil))) rfl

/-! ### for, while -/
theorem run_for {wi : TI} {g : TG} {tb : TS} (hi : EvI K m wi e xs) (I : Nat → En → Prop) (h0 : I 0 e)
    (hs : ∀ (i : Nat) d e, xs[i]? = some d → I i e → ∃ e' vs, Tg K vs m g d e e' ∧ Run K E tb e' { P with nx := I (i + 1), ct := I (i + 1), bk := P.nx }) (hd : ∀ e, I xs.length e → P.nx e) : Run K E (tFor wi g tb) e P := fun B T0 σ H T D s f =>
  hi B T0 σ H T s _ fun J H1 T1 g1 hJ => by
    obtain ⟨S, hS, st, go, stop⟩ := hJ
    have s1 := s.grow g1
    refine ⟨fun i m σ H => m = xs.length - i ∧ i ≤ xs.length ∧ ∃ e T, I i e ∧ Sat K B T0 e σ H T ∧ S H T, ⟨xs.length, by simp, Nat.zero_le _, e, T1, h0, s1, hS⟩, ?_⟩
    rintro i m' σ2 H2 ⟨rfl, hle, e2, T2, hI, s2, hS2⟩
    by_cases hlt : i < xs.length
    · have hx : xs[i]? = some xs[i] := List.getElem?_eq_getElem hlt
      obtain ⟨hgo, hy⟩ := go i _ H2 T2 hS2 hx s2.gr.h s2.gr.s
      refine .inr ⟨hgo, fun σ' H' => ∃ e T, I (i + 1) e ∧ Sat K B T0 e σ' H' T ∧ S H' T, fun σ' H' q => ⟨xs.length - (i + 1), by omega, rfl, hlt, q⟩, fun v H3 y => ?_⟩
      obtain ⟨T3, g3, iv⟩ := hy v H3 y
      have s3 := s2.grow g3
      obtain ⟨e4, vs4, htg, hrun⟩ := hs i _ e2 hx hI
      refine htg B T0 σ2 H3 T3 v s3 iv _ fun σ4 s4 _ => ?_
      have hS3 : S H3 T3 := st _ _ _ _ hS2 g3.t s3.gr.h s3.gr.s
      refine hrun B T3 σ4 H3 T3 _ s4.rebase ⟨fun e' σ' H' T' p s' => ⟨e', T', p, s4.unbase s', st _ _ _ _ hS3 s'.gr.t s'.gr.h s'.gr.s⟩, fun d v H' T' p g i => (Fits.rebase s4 f).rt d v H' T' p g i,
        fun e' σ' H' T' p s' => f.nx e' σ' H' T' p (s4.unbase s'), fun e' σ' H' T' p s' => ⟨e', T', p, s4.unbase s', st _ _ _ _ hS3 s'.gr.t s'.gr.h s'.gr.s⟩, fun e' σ' H' T' C od o p s' x => f.ex e' σ' H' T' C od o p (s4.unbase s') x, (Fits.rebase s4 f).ro⟩
    · have e0 : i = xs.length := by omega
      subst e0
      exact .inl ⟨stop _ H2 T2 hS2 s2.gr.h s2.gr.s (Nat.le_refl _), f.nx e2 σ2 H2 T2 (hd e2 hI) s2⟩
theorem run_while {tc : TT} {tb : TS} (I : Nat → En → Prop) (n0 : Nat) (h0 : I n0 e)
    (hs : ∀ n e, I n e → ∃ b, EvT K tc e b ∧ (b = true → Run K E tb e { P with nx := fun e' => ∃ n', n' < n ∧ I n' e', ct := fun e' => ∃ n', n' < n ∧ I n' e', bk := P.nx }) ∧ (b = false → P.nx e)) : Run K E (tWhile tc tb) e P := fun B T0 σ H T D s f => by
  refine ⟨fun n σ H => ∃ e T, I n e ∧ Sat K B T0 e σ H T, ⟨n0, e, T, h0, s⟩, ?_⟩
  rintro n σ2 H2 ⟨e2, T2, hI, s2⟩
  obtain ⟨b, ht, hb, hn⟩ := hs n e2 hI
  refine ht B T0 σ2 H2 T2 s2 _ fun H3 T3 g => ?_
  have s3 := s2.grow g
  cases b with
  | true =>
    rw [if_pos rfl]
    refine ⟨fun σ' H' => ∃ n', n' < n ∧ ∃ e T, I n' e ∧ Sat K B T0 e σ' H' T, fun σ' H' ⟨n', hn', q⟩ => ⟨n', hn', q⟩, ?_⟩
    exact hb rfl B T0 σ2 H3 T3 _ s3 ⟨fun e' σ' H' T' ⟨n', hn', p⟩ s' => ⟨n', hn', e', T', p, s'⟩, f.rt, f.nx, fun e' σ' H' T' ⟨n', hn', p⟩ s' => ⟨n', hn', e', T', p, s'⟩, f.ex, f.ro⟩
  | false =>
    rw [if_neg Bool.false_ne_true]
    exact f.nx e2 σ2 H3 T3 (hn rfl) s3

/-! ### comprehensions -/
def wipeE (e : En) : List Nat → En
  | [] => e
  | v :: vs => (wipeE e vs).set v .no
theorem Sat.no {B T0 H T : Hp} {σ : L2.St} (s : Sat K B T0 e σ H T) (i : Nat) (x : Option V) : Sat K B T0 (e.set i .no) (σ.set i x) H T := by
  refine ⟨s.gr, by simp [s.len], fun j sl h => ?_, fun j k o o' a b hjk h1 h2 h3 h4 => ?_⟩
  · by_cases hj : i = j
    · subst hj
      have hi : i < e.length := by
        have := (List.getElem?_eq_some_iff.mp h).1
        simpa using this
      rw [List.getElem?_set_self hi] at h
      cases h
      exact ⟨x, by rw [List.getElem?_set_self (by rw [s.len]; exact hi)], trivial⟩
    · rw [List.getElem?_set_ne hj] at h ⊢
      exact s.sl j sl h
  · have f : ∀ (l : Nat) (o : OD), (e.set i .no)[l]? = some (.own o) → i ≠ l := fun l o hl q => by
      subst q
      have hi : i < e.length := by
        have := (List.getElem?_eq_some_iff.mp hl).1
        simpa using this
      rw [List.getElem?_set_self hi] at hl; cases hl
    have f1 := f j o h1
    have f2 := f k o' h2
    rw [List.getElem?_set_ne f1] at h1 h3
    rw [List.getElem?_set_ne f2] at h2 h4
    exact s.sep j k o o' a b hjk h1 h2 h3 h4
theorem Sat.wipe {B T0 H T : Hp} {σ : L2.St} (s : Sat K B T0 e σ H T) : ∀ vs : List Nat, Sat K B T0 (wipeE e vs) (wipe σ vs) H T
  | [] => s
  | v :: vs => (Sat.wipe s vs).no v none
theorem wipe_get {σ : L2.St} : ∀ {vs : List Nat} {j : Nat}, j ∉ vs → (wipe σ vs)[j]? = σ[j]?
  | [], _, _ => rfl
  | v :: vs, j, h => by
    unfold wipe
    rw [List.getElem?_set_ne (fun q => h (by simp [q]))]
    exact wipe_get fun q => h (by simp [q])
theorem wipe_at {σ : L2.St} : ∀ {vs : List Nat} {j : Nat}, j ∈ vs → j < σ.length → (wipe σ vs)[j]? = some none
  | v :: vs, j, h, hl => by
    unfold wipe
    by_cases q : v = j
    · subst q
      rw [List.getElem?_set_self (by rw [wipe_length]; exact hl)]
    · rw [List.getElem?_set_ne q]
      exact wipe_at (by rcases List.mem_cons.mp h with z | z; exact absurd z.symm q; exact z) hl
theorem wipe_same {vs : List Nat} {σ σ' : L2.St} (h : SameBut vs σ σ') : wipe σ' vs = wipe σ vs := by
  apply List.ext_getElem?
  intro j
  by_cases hj : j ∈ vs
  · by_cases hl : j < σ.length
    · rw [wipe_at hj hl, wipe_at hj (by rw [h.1]; exact hl)]
    · rw [List.getElem?_eq_none (by rw [wipe_length, h.1]; omega), List.getElem?_eq_none (by rw [wipe_length]; omega)]
  · rw [wipe_get hj, wipe_get hj]; exact h.2 j hj

def rem (H : Hp) (a : Addr) : Hp := fun b => if b = a then none else H b
theorem rem_at {H : Hp} {a : Addr} : rem H a a = none := by unfold rem; rw [if_pos rfl]
theorem rem_ne {H : Hp} {a b : Addr} (h : b ≠ a) : rem H a b = H b := by unfold rem; rw [if_neg h]
theorem upd_rem {H : Hp} {a : Addr} {o : HO} : upd (rem H a) a o = upd H a o := by
  funext b; unfold upd rem; split <;> rfl
theorem upd_get {H : Hp} {a : Addr} {o : HO} (h : H a = some o) : upd (rem H a) a o = H := by
  funext b
  by_cases q : b = a
  · subst q; rw [upd_same, h]
  · rw [upd_ne q, rem_ne q]
theorem gr_rem {H T H4 T4 : Hp} {a : Addr} {o : HO} (hm : H a = none) (hT : Le T H) (g : Gr (upd H a o) T H4 T4) : Gr H T (rem H4 a) T4 ∧ H4 a = some o ∧ T4 a = none := by
  have h4 : H4 a = some o := g.h _ _ upd_same
  have t4 : T4 a = none := by
    cases q : T4 a with
    | none => rfl
    | some u =>
      have := g.n a u q (hT.back hm)
      rw [upd_same] at this; cases this
  refine ⟨⟨fun b w z => ?_, g.t, fun b w z => ?_, fun b w z z' => ?_⟩, h4, t4⟩
  · have hb := ne_of_none z hm
    rw [rem_ne hb]
    exact g.h _ _ (by rw [upd_ne hb]; exact z)
  · have hb := ne_of_none z t4
    rw [rem_ne hb]
    exact g.s _ _ z
  · have hb := ne_of_none z t4
    have := g.n b w z z'
    rwa [upd_ne hb] at this
theorem filterMap_take {α β : Type} (F : α → Option β) {xs : List α} {i : Nat} {x : α} (h : xs[i]? = some x) : (xs.take (i + 1)).filterMap F = (xs.take i).filterMap F ++ (match F x with | some y => [y] | none => []) := by
  have e : xs.take (i + 1) = xs.take i ++ [x] := by
    rw [List.take_add_one, h]; rfl
  rw [e, List.filterMap_append]
  congr 1
  rw [List.filterMap_cons]
  cases F x <;> rfl
/-- [elt for target in iter if test] -/
theorem ev_lcO {wi : TI} {g : TG} {vs : List Nat} (F : D → Option D) (hi : EvI K m wi e xs) (hz : xs.length ≤ sizeLine)
    (hs : ∀ (i : Nat) d, xs[i]? = some d → ∃ e', Tg K vs m g d (wipeE e vs) e' ∧ ((∃ y, EvT K tt e' true ∧ F d = some y ∧ Ev K .dat te e' y) ∨ (EvT K tt e' false ∧ F d = none))) :
    EvO K (tLc wi g tt te vs) e (.lst (xs.filterMap F)) := fun B T0 σ H T s Q q => hi B T0 σ H T s _ fun J H1 T1 g1 hJ Dl hD => by
  obtain ⟨S, hS, st, go, stop⟩ := hJ
  have s1 := s.grow g1
  have hT1 : T1 Dl = none := g1.s.back hD
  refine ⟨fun i m H => m = xs.length - i ∧ i ≤ xs.length ∧ ∃ Hm T acc, H = upd Hm Dl (.lst acc) ∧ Hm Dl = none ∧ Gr H1 T1 Hm T ∧ S H T ∧ Iss K T acc ((xs.take i).filterMap F), ⟨xs.length, by simp, Nat.zero_le _, H1, T1, [], rfl, hD, Gr.refl g1.s, ?_, .nil⟩, ?_⟩
  · exact st _ _ _ _ hS (Le.refl _) (s1.gr.h.trans (Le.new hD)) (g1.s.trans (Le.new hD))
  rintro i m' H2 ⟨rfl, hle, Hm, T2, acc, rfl, hm, gm, hS2, hacc⟩
  have sm := s1.grow gm
  have gown : Gr Hm T2 (upd Hm Dl (.lst acc)) T2 := Gr.own gm.s hm
  have s2 := sm.grow gown
  by_cases hlt : i < xs.length
  · have hx : xs[i]? = some xs[i] := List.getElem?_eq_getElem hlt
    obtain ⟨hgo, hy⟩ := go i _ _ T2 hS2 hx s2.gr.h s2.gr.s
    refine .inr ⟨hgo, fun H' => ∃ Hm T acc, H' = upd Hm Dl (.lst acc) ∧ Hm Dl = none ∧ Gr H1 T1 Hm T ∧ S H' T ∧ Iss K T acc ((xs.take (i + 1)).filterMap F), fun H' q => ⟨xs.length - (i + 1), by omega, rfl, hlt, q⟩, fun v H3 y => ?_⟩
    obtain ⟨T3, g3, iv⟩ := hy v H3 y
    have s3 := s2.grow g3
    obtain ⟨e', htg, hev⟩ := hs i _ hx
    refine htg B T0 (wipe σ vs) H3 T3 v (s3.wipe vs) iv _ fun σ4 s4 b4 => ⟨?_, ?_⟩
    · have : SameBut vs σ σ4 := SameBut.trans ⟨wipe_length σ vs, fun j hj => wipe_get hj⟩ b4
      exact wipe_same this
    have fm := filterMap_take F hx
    rcases hev with ⟨y, ht, hF, he⟩ | ⟨ht, hF⟩
    · refine ht B T0 σ4 H3 T3 s4 _ fun H5 T5 g5 => ?_
      rw [if_pos rfl]
      refine he B T0 σ4 H5 T5 (s4.grow g5) _ fun w H6 T6 g6 iw => ?_
      have gall := (g3.trans g5).trans g6
      obtain ⟨gr', h6, t6⟩ := gr_rem hm gm.s gall
      refine ⟨acc, h6, ?_, rem H6 Dl, T6, acc ++ [w], upd_rem.symm, rem_at, gm.trans gr', ?_, ?_⟩
      · have := hacc.length
        have l1 : ((xs.take i).filterMap F).length ≤ (xs.take i).length := List.length_filterMap_le _ _
        rw [List.length_take] at l1
        omega
      · have gg : Gr (rem H6 Dl) T6 (upd (rem H6 Dl) Dl (.lst (acc ++ [w]))) T6 := Gr.own gr'.s rem_at
        rw [upd_rem] at gg
        exact st _ _ _ _ hS2 gall.t ((sm.grow gr').gr.h.trans gg.h) gg.s
      · rw [fm, hF]
        exact (Iss.mono gall.t _ hacc).append (.cons iw .nil)
    · refine ht B T0 σ4 H3 T3 s4 _ fun H5 T5 g5 => ?_
      rw [if_neg Bool.false_ne_true]
      have gall := g3.trans g5
      obtain ⟨gr', h6, t6⟩ := gr_rem hm gm.s gall
      refine ⟨rem H5 Dl, T5, acc, (upd_get h6).symm, rem_at, gm.trans gr', ?_, ?_⟩
      · have gg : Gr (rem H5 Dl) T5 (upd (rem H5 Dl) Dl (.lst acc)) T5 := Gr.own gr'.s rem_at
        rw [upd_get h6] at gg
        exact st _ _ _ _ hS2 gall.t ((sm.grow gr').gr.h.trans gg.h) gg.s
      · rw [fm, hF, List.append_nil]
        exact Iss.mono gall.t _ hacc
  · have e0 : i = xs.length := by omega
    subst e0
    refine .inl ⟨stop _ _ T2 hS2 s2.gr.h s2.gr.s (Nat.le_refl _), ?_⟩
    rw [List.take_length] at hacc
    have t2 : T2 Dl = none := gm.s.back hm
    exact q Dl _ T2 (g1.trans (gm.trans gown)) (g1.h.back hD) t2 ⟨acc, upd_same, hacc⟩
end
end Fh

set_option Elab.async false
set_option linter.all false
set_option maxRecDepth 100000
set_option maxHeartbeats 4000000
/-! Fh, fourth part: defs and their calls -/
namespace Fh
open PySem PySem.Spec PyProof.Rows L2

/-- a promise: the arguments' data (each known for good, .dat, or only lent), what the caller must show, what holds of the answer -/
def SpR (K : PySem.W.Frag) {α : Type} (ms : List Md) (args : α → List D) (pre : α → Prop) (out : α → D → Prop) : Sp := fun vs H Q _ =>
  ∃ (T : Hp) (x : α), Le T H ∧ pre x ∧ MIss K H H T ms vs (args x) ∧ ∀ d v H' T', out x d → Gr H T H' T' → Is K T' v d → Q v H'
abbrev SpP (K : PySem.W.Frag) {α : Type} (ms : List Md) (args : α → List D) (pre : α → Prop) (out : α → D) : Sp := SpR K ms args pre fun a d => d = out a
theorem MIss.len {K : PySem.W.Frag} {B H T : Hp} : ∀ {ms : List Md} {vs : List V} {ds : List D}, MIss K B H T ms vs ds → vs.length = ms.length ∧ ds.length = ms.length
  | [], [], [], _ => ⟨rfl, rfl⟩
  | _ :: _, _ :: _, _ :: _, h => by
    have := MIss.len h.2
    simp [this.1, this.2]
  | [], [], _ :: _, h => h.elim
  | [], _ :: _, _, h => h.elim
  | _ :: _, [], _, h => h.elim
  | _ :: _, _ :: _, [], h => h.elim
def slots : List Md → List D → En
  | .dat :: ms, d :: ds => .dat d :: slots ms ds
  | .bor :: ms, d :: ds => .bor d :: slots ms ds
  | .now :: ms, d :: ds => .bor d :: slots ms ds
  | _, _ => []
theorem slots_len : ∀ {ms : List Md} {ds : List D}, ds.length = ms.length → (slots ms ds).length = ms.length
  | [], [], _ => rfl
  | m :: ms, d :: ds, h => by
    have ih := slots_len (ms := ms) (ds := ds) (by simpa using h)
    cases m <;> simp [slots, ih]
  | [], _ :: _, h => by simp at h
  | _ :: _, [], h => by simp at h
theorem slots_ok {K : PySem.W.Frag} {H T : Hp} : ∀ {ms : List Md} {vs : List V} {ds : List D} {i : Nat} {s : Sl}, MIss K H H T ms vs ds → (slots ms ds)[i]? = some s → ∃ v, vs[i]? = some v ∧ SlotOk K H H T (some v) s ∧ ∀ o, s ≠ .own o
  | [], [], [], i, s, _, e => by simp [slots] at e
  | m :: ms, v :: vs, d :: ds, 0, s, h, e => by
    refine ⟨v, rfl, ?_⟩
    cases m with
    | dat => cases e; exact ⟨⟨v, rfl, h.1⟩, fun o q => nomatch q⟩
    | bor => cases e; exact ⟨⟨v, rfl, h.1⟩, fun o q => nomatch q⟩
    | now => cases e; exact ⟨⟨v, rfl, .inr h.1⟩, fun o q => nomatch q⟩
  | m :: ms, v :: vs, d :: ds, i + 1, s, h, e => by
    have e' : (slots ms ds)[i]? = some s := by cases m <;> simpa [slots] using e
    obtain ⟨w, hw, q⟩ := slots_ok h.2 e'
    exact ⟨w, by simpa using hw, q⟩
  | [], [], _ :: _, _, _, h, _ => h.elim
  | [], _ :: _, _, _, _, h, _ => h.elim
  | _ :: _, [], _, _, _, h, _ => h.elim
  | _ :: _, _ :: _, [], _, _, h, _ => h.elim
def En0 (ms : List Md) (ds : List D) (n : Nat) : En := slots ms ds ++ List.replicate n .no
theorem sat_start {K : PySem.W.Frag} {H T : Hp} {ms : List Md} {vs : List V} {ds : List D} {N : List Str} (hT : Le T H) (h : MIss K H H T ms vs ds) (hN : ms.length ≤ N.length) : Sat K H T (En0 ms ds (N.length - ms.length)) (L2.start N vs) H T := by
  obtain ⟨l1, l2⟩ := h.len
  have ls := slots_len l2
  have at_ : ∀ (i : Nat) s, (En0 ms ds (N.length - ms.length))[i]? = some s → ∃ x, (L2.start N vs)[i]? = some x ∧ SlotOk K H H T x s ∧ ∀ o, s ≠ .own o := fun i s e => by
    unfold En0 at e
    unfold L2.start
    by_cases hi : i < ms.length
    · rw [List.getElem?_append_left (by rw [ls]; exact hi)] at e
      obtain ⟨v, hv, q⟩ := slots_ok h e
      refine ⟨some v, ?_, q⟩
      rw [List.getElem?_append_left (by rw [List.length_map, l1]; exact hi), List.getElem?_map, hv]
      rfl
    · have hle : ms.length ≤ i := by omega
      rw [List.getElem?_append_right (by rw [ls]; exact hle), ls] at e
      have hi2 : i - ms.length < N.length - ms.length := by
        have := (List.getElem?_eq_some_iff.mp e).1
        simpa using this
      rw [List.getElem?_replicate_of_lt hi2] at e
      cases e
      refine ⟨none, ?_, trivial, fun o q => nomatch q⟩
      rw [List.getElem?_append_right (by rw [List.length_map, l1]; exact hle), List.length_map, l1, List.getElem?_replicate_of_lt hi2]
  refine ⟨Gr.refl hT, ?_, fun i s e => ?_, fun i j o o' a b hij h1 h2 => ?_⟩
  · unfold En0 L2.start
    simp [ls, l1]
  · obtain ⟨x, hx, q, _⟩ := at_ i s e
    exact ⟨x, hx, q⟩
  · obtain ⟨x, _, _, q⟩ := at_ i _ h1
    exact absurd rfl (q o)

section
variable {P : Program} {w : World} {K : PySem.W.Frag} {mg : Str → Option Value} {base : Heap}
/-- a def of the text as it stands behind the top -/
abbrev FnP (K : PySem.W.Frag) (x : Str) (st : Stmt) (dvs : List V) (kws : List (Str × V)) (f : Addr) (fd : FuncData) : Prop := FunD K x x (defArgs st) (defBody st) (defScope st) dvs kws f fd
def Dd (K : PySem.W.Frag) (mg : Str → Option Value) (x : Str) (st : Stmt) (dvs : List V) (kws : List (Str × V)) : Prop := ∃ f fd, FnP K x st dvs kws f fd ∧ mg x = some (.ref f)
/-- what a def is worth: it may be called by its name -/
structure Df (P : Program) (w : World) (K : PySem.W.Frag) (mg : Str → Option Value) (base : Heap) (x : Str) (k : Nat) (dvs : List V) (sp : Sp) : Prop where
  ex : ∃ (CX : CXT) (f : Addr) (fd : FuncData) (ps : List Str) (ds : List Value), FnOk P w K mg base CX k f fd ps sp ∧ mg x = some (.ref f) ∧ PySem.W.keepIn K (.ref f) = true ∧ Binds K fd ps ds ∧ Vals dvs ds ∧ ∀ X : Cx, X.prog = P → X.w = w → Passes CX X E0
/-- a body that holds what is promised -/
def BodyR (P : Program) (w : World) (K : PySem.W.Frag) (mg : Str → Option Value) (base : Heap) (x : Str) (st : Stmt) (N : List Str) (k : Nat) {α : Type} (ms : List Md) (args : α → List D) (pre : α → Prop) (out : α → D → Prop) : Prop :=
  ∀ (f : Addr) (cdv : Value) (A : Around) (outer : List Env) (s : Shared) (H : Hp) (E : XK), Room k (A.deeper (envOfC x (defScope st) s.heap.objs.size f cdv)) →
    ∃ t, PSs (cxOf CX0 P w K mg base N x (defScope st) f cdv A outer s H E).nox (defBody st) t ∧ ∀ a, pre a → Run K (lift E) t (En0 ms (args a) (N.length - ms.length)) { nx := fun _ => out a .non, rt := out a }
abbrev Body (P : Program) (w : World) (K : PySem.W.Frag) (mg : Str → Option Value) (base : Heap) (x : Str) (st : Stmt) (N : List Str) (k : Nat) {α : Type} (ms : List Md) (args : α → List D) (pre : α → Prop) (out : α → D) : Prop :=
  BodyR P w K mg base x st N k ms args pre fun a d => d = out a
theorem fn_ok {x : Str} {st : Stmt} {dvs : List V} {kws : List (Str × V)} {f : Addr} {fd : FuncData} {N ps : List Str} {k : Nat} {α : Type} {ms : List Md} {args : α → List D} {pre : α → Prop} {out : α → D → Prop}
    (F : FnP K x st dvs kws f fd) (S : FnScope N ps (defScope st)) (hn : ms.length = ps.length) (hN : ms.length ≤ N.length) (hb : BodyR P w K mg base x st N k ms args pre out) :
    FnOk P w K mg base CX0 (k + 1) f fd ps (SpR K ms args pre out) := by
  refine F.ok S (fun vs H Q E h => ?_) (fun cdv A outer s H vs Q E hr h => ?_)
  · obtain ⟨T, a, _, _, hm, _⟩ := h
    rw [hm.len.1, hn]
  · obtain ⟨t, ht, hrun⟩ := hb f cdv A outer s H E hr
    obtain ⟨T, a, hT, hp, hm, hq⟩ := h
    refine ⟨t, ht.nox, hrun a hp H T _ H T _ (sat_start hT hm hN) ⟨fun e σ H' T' p s' => ?_, fun d v H' T' p g i => ?_, fun _ _ _ _ p => p.elim, fun _ _ _ _ p => p.elim, fun _ _ _ _ _ _ _ p => p.elim, fun _ _ _ _ p => p.elim⟩⟩
    · exact hq .non .non H' T' p s'.gr .non
    · exact hq d v H' T' p g i
theorem pass0' {X : Cx} {P : Program} {w : World} (h1 : X.prog = P) (h2 : X.w = w) : Passes CX0 X E0 := pass0
/-- no defaults -/
theorem Dd.df {x : Str} {st : Stmt} {N ps : List Str} {k : Nat} {α : Type} {ms : List Md} {args : α → List D} {pre : α → Prop} {out : α → D → Prop}
    (F : Dd K mg x st [] []) (S : FnScope N ps (defScope st)) (hn : ms.length = ps.length) (hN : ms.length ≤ N.length)
    (bd : ∀ (kV doc pm : Value) (an : Option Addr) (cdv ct : Value) (us : List Value), us.length = ps.length → bindArgs (PySem.W.fnOf x x (defArgs st) (defBody st) (defScope st) .none kV doc pm an cdv ct) ⟨us, []⟩ = pure (ps.zip us))
    (hb : BodyR P w K mg base x st N k ms args pre out) : Df P w K mg base x (k + 1) [] (SpR K ms args pre out) := by
  obtain ⟨f, fd, F, hm⟩ := F
  exact ⟨CX0, f, fd, ps, [], fn_ok F S hn hN hb, hm, F.kp, F.bindsN bd, .nil, fun X _ _ => pass0⟩
/-- a def that is never called -/
theorem Df.never {x : Str} {st : Stmt} {N : List Str} {k : Nat} {α : Type} {ms : List Md} {args : α → List D} {pre : α → Prop} {out : α → D → Prop} (F : Dd K mg x st [] []) (hp : ∀ a, ¬ pre a)
    (bd : ∀ (kV doc pm : Value) (an : Option Addr) (cdv ct : Value) (us : List Value), us.length = N.length → bindArgs (PySem.W.fnOf x x (defArgs st) (defBody st) (defScope st) .none kV doc pm an cdv ct) ⟨us, []⟩ = pure (N.zip us)) : Df P w K mg base x k [] (SpR K ms args pre out) := by
  obtain ⟨f, fd, F, hm⟩ := F
  exact ⟨CX0, f, fd, N, [], ⟨fun vs H Q E ⟨_, a, _, h, _⟩ => absurd h (hp a), fun A outer s H args us vs Q E _ _ _ _ ⟨_, a, _, h, _⟩ => absurd h (hp a)⟩, hm, F.kp, F.bindsN bd, .nil, fun X _ _ => pass0⟩
theorem Df.mono {x : Str} {j k : Nat} {dvs : List V} {sp : Sp} (F : Df P w K mg base x j dvs sp) (h : j ≤ k) : Df P w K mg base x k dvs sp := by
  obtain ⟨CX, f, fd, ps, ds, F, r⟩ := F.ex
  exact ⟨CX, f, fd, ps, ds, F.mono h, r⟩
theorem Df.imp {x : Str} {k : Nat} {dvs : List V} {sp sp' : Sp} (F : Df P w K mg base x k dvs sp) (h : ∀ vs H Q E, sp' vs H Q E → sp vs H Q E) : Df P w K mg base x k dvs sp' := by
  obtain ⟨CX, f, fd, ps, ds, F, r⟩ := F.ex
  exact ⟨CX, f, fd, ps, ds, F.imp h, r⟩
end
section
variable {X : Cx} {k : Nat} {sp : Sp} {dvs : List V} {x : Str} {p pos : Pos} {e : Expr} {es : List Expr} {t : TA}
theorem pe_df (G : Df X.prog X.w X.K X.mg X.base x k dvs sp) (hr : Room k X.A) (hg : Gl X x) (ha : PA X (e :: es) t) (hdb : (x == ("__debug__" : Str)) = false := by decide)
    (he : starEach (e :: es) X.env = (false, eval e X.env) :: starEach es X.env := by rfl) (hpl : (backTo pos (starEach es X.env)).any (·.1) = false := by rfl) :
    PE X (.Call (.Name x p) (e :: es) [] pos) (tCall sp dvs E0 t) := by
  obtain ⟨CX, f, fd, ps, ds, F, hm, hk, hb, hd, hx⟩ := G.ex
  exact pe_call F hr hg hm hk hb hd (hx X rfl rfl) ha hdb he hpl
theorem pe_df0 (G : Df X.prog X.w X.K X.mg X.base x k dvs sp) (hr : Room k X.A) (hg : Gl X x) (hdb : (x == ("__debug__" : Str)) = false := by decide) : PE X (.Call (.Name x p) [] [] pos) (tCall sp dvs E0 tNil) := by
  obtain ⟨CX, f, fd, ps, ds, F, hm, hk, hb, hd, hx⟩ := G.ex
  exact pe_call0 F hr hg hm hk hb hd (hx X rfl rfl) hdb
end
section
variable {K : PySem.W.Frag} {e : En} {d : D} {ds : List D} {m : Md} {α : Type} {ms : List Md} {args : α → List D} {pre : α → Prop} {out : α → D} {ta : TA}
theorem MIss.rebase {B H T : Hp} (hb : Le B H) (ht : Le T H) : ∀ {ms : List Md} {vs : List V} {ds : List D}, MIss K B H T ms vs ds → MIss K H H T ms vs ds
  | [], [], [], _ => trivial
  | m :: ms, v :: vs, d :: ds, h => by
    refine ⟨?_, MIss.rebase hb ht h.2⟩
    cases m with
    | dat => exact h.1
    | bor =>
      rcases h.1 with i | i
      · exact .inl i
      · exact .inr (Is.mono hb d i)
    | now => exact h.1
  | [], [], _ :: _, h => h.elim
  | [], _ :: _, _, h => h.elim
  | _ :: _, [], _, h => h.elim
  | _ :: _, _ :: _, [], h => h.elim
/-- f(..) -/
theorem ev_call (a : α) (hp : pre a) (h : EvA K ms ta e (args a)) : Ev K m (tCall (SpP K ms args pre out) [] E0 ta) e (out a) := Ev.up fun B T0 σ H T s Q q => h B T0 σ H T s _ fun vs H1 T1 g i => by
  show SpP K ms args pre out (vs ++ []) H1 Q E0
  rw [List.append_nil]
  exact ⟨T1, a, g.s, hp, i.rebase (s.gr.h.trans g.h) g.s, fun d v H2 T2 hd g2 i2 => q v H2 T2 (g.trans g2) (hd ▸ i2)⟩
/-- a value that is only known by what holds of it -/
def EvP (K : PySem.W.Frag) (te : TE) (e : En) (p : D → Prop) : Prop := ∀ (B T0 : Hp) (σ : L2.St) (H T : Hp), Sat K B T0 e σ H T → ∀ Q : VK, (∀ d v H' T', p d → Gr H T H' T' → Is K T' v d → Q v H') → te σ H Q
theorem evp_call {out : α → D → Prop} (a : α) (hp : pre a) (h : EvA K ms ta e (args a)) : EvP K (tCall (SpR K ms args pre out) [] E0 ta) e (out a) := fun B T0 σ H T s Q q => h B T0 σ H T s _ fun vs H1 T1 g i => by
  show SpR K ms args pre out (vs ++ []) H1 Q E0
  rw [List.append_nil]
  exact ⟨T1, a, g.s, hp, i.rebase (s.gr.h.trans g.h) g.s, fun d v H2 T2 hd g2 i2 => q d v H2 T2 hd (g.trans g2) i2⟩
end
end Fh
namespace Fh
open PySem PySem.Spec PyProof.Rows L2
/-! ### calls with keywords, constants of the module -/
structure DfK (P : Program) (w : World) (K : PySem.W.Frag) (mg : Str → Option Value) (base : Heap) (x : Str) (k n : Nat) (ks : List Str) (gV : List V → List V → List V) (sp : Sp) : Prop where
  ex : ∃ (CX : CXT) (f : Addr) (fd : FuncData) (ps : List Str) (g : List Value → List Value → List Value), FnOk P w K mg base CX k f fd ps sp ∧ mg x = some (.ref f) ∧ PySem.W.keepIn K (.ref f) = true ∧ KBn K fd ps n ks g gV ∧ ∀ X : Cx, X.prog = P → X.w = w → Passes CX X E0
theorem DfK.mono {P : Program} {w : World} {K : PySem.W.Frag} {mg : Str → Option Value} {base : Heap} {x : Str} {j k : Nat} {n : Nat} {ks : List Str} {gV : List V → List V → List V} {sp : Sp} (F : DfK P w K mg base x j n ks gV sp) (h : j ≤ k) : DfK P w K mg base x k n ks gV sp := by
  obtain ⟨CX, f, fd, ps, g, F, r⟩ := F.ex
  exact ⟨CX, f, fd, ps, g, F.mono h, r⟩
section
variable {X : Cx} {k n : Nat} {sp : Sp} {dvs : List V} {x : Str} {p pos : Pos} {e : Expr} {es : List Expr} {t tk : TA} {kws : List Keyword} {ks : List Str} {gV : List V → List V → List V}
theorem pe_dfK (G : DfK X.prog X.w X.K X.mg X.base x k n ks gV sp) (hr : Room k X.A) (hg : Gl X x) (ha : PA X (e :: es) t) (hkw : PK X kws tk) (hall : (backToKw pos (keywordEach kws X.env)).all (·.1.isSome) = true := by rfl) (hks : (backToKw pos (keywordEach kws X.env)).filterMap (·.1) = ks := by rfl)
    (hdb : (x == ("__debug__" : Str)) = false := by decide) (he : starEach (e :: es) X.env = (false, eval e X.env) :: starEach es X.env := by rfl)
    (hpl : ((backTo pos (starEach (e :: es) X.env)).any (·.1) || (backToKw pos (keywordEach kws X.env)).any (·.1.isNone)) = false := by rfl) {l : Nat} (hl : ks.length = l := by rfl) :
    PE X (.Call (.Name x p) (e :: es) kws pos) (tCallN n l sp gV E0 t tk) := by
  subst hl
  obtain ⟨CX, f, fd, ps, g, F, hm, hk, hb, hx⟩ := G.ex
  exact pe_callN F hr hg hm hk hb (hx X rfl rfl) ha hkw hall hks hdb he hpl
theorem pe_globI {i : Int} (hg : Gl X x) (h : ∃ t, X.mg x = some (.int i t)) (hd : (x == ("__debug__" : Str)) = false := by decide) : PE X (.Name x pos) (tC (.int i)) := by
  obtain ⟨t, h⟩ := h
  exact pe_glob hg h ⟨t, rfl⟩ hd
end
section
variable {K : PySem.W.Frag} {e : En} {d : D} {ds ds2 : List D} {m : Md} {α : Type} {ms ms1 ms2 : List Md} {args : α → List D} {pre : α → Prop} {out : α → D} {ta tk : TA}
theorem MIss.append {B H T : Hp} : ∀ {ms1 ms2 : List Md} {vs ws : List V} {ds es : List D}, MIss K B H T ms1 vs ds → MIss K B H T ms2 ws es → MIss K B H T (ms1 ++ ms2) (vs ++ ws) (ds ++ es)
  | [], _, [], _, [], _, _, h => h
  | _ :: _, _, _ :: _, _, _ :: _, _, h, g => ⟨h.1, h.2.append g⟩
  | [], _, [], _, _ :: _, _, h, _ => h.elim
  | [], _, _ :: _, _, _, _, h, _ => h.elim
  | _ :: _, _, [], _, _, _, h, _ => h.elim
  | _ :: _, _, _ :: _, _, [], _, h, _ => h.elim
/-- the defaults behind -/
theorem ev_callD {dvs : List V} (a : α) (hp : pre a) (ha : args a = ds ++ ds2) (hms : ms = ms1 ++ ms2) (h : EvA K ms1 ta e ds) (hd : ∀ H T, MIss K H H T ms2 dvs ds2) : Ev K m (tCall (SpP K ms args pre out) dvs E0 ta) e (out a) := Ev.up fun B T0 σ H T s Q q => h B T0 σ H T s _ fun vs H1 T1 g i => by
  refine ⟨T1, a, g.s, hp, ?_, fun d v H2 T2 hd g2 i2 => q v H2 T2 (g.trans g2) (hd ▸ i2)⟩
  rw [ha, hms]
  exact (i.rebase (s.gr.h.trans g.h) g.s).append (hd H1 T1)
theorem ev_callK {n l : Nat} (a : α) (hp : pre a) (ha : args a = ds ++ ds2) (hms : ms = ms1 ++ ms2) (h : EvA K ms1 ta e ds) (hk : EvA K ms2 tk e ds2) (hn : ms1.length = n) (hl : ms2.length = l) : Ev K m (tCallN n l (SpP K ms args pre out) (fun a b => a ++ b) E0 ta tk) e (out a) := Ev.up fun B T0 σ H T s Q q => h B T0 σ H T s _ fun vs H1 T1 g i => hk B T0 σ H1 T1 (s.grow g) _ fun ws H2 T2 g2 i2 => by
  refine ⟨i.len.1.trans hn, i2.len.1.trans hl, T2, a, g2.s, hp, ?_, fun d v H3 T3 hd g3 i3 => q v H3 T3 ((g.trans g2).trans g3) (hd ▸ i3)⟩
  rw [ha, hms]
  exact ((i.mono g2.h g2.t).append i2).rebase (((s.grow g).grow g2).gr.h) g2.s
end
/-! ### a def with defaults -/
section
variable {P : Program} {w : World} {K : PySem.W.Frag} {mg : Str → Option Value} {base : Heap} {x qual : Str} {params : Arguments} {body : List Stmt} {scope : Scope} {dvs : List V} {f : Addr} {fd : FuncData} {ps ks : List Str}
/-- positional arguments, then keywords for the parameters behind them, in their order; there are defaults -/
theorem kbinds1 (F : FunD K x qual params body scope dvs [] f fd) (n : Nat) (hd : dvs ≠ [])
    (h : ∀ (T : Addr) (kV doc pm : Value) (an : Option Addr) (cdv ct : Value) (us ws its : List Value), us.length = n → ws.length = ks.length → its.length = dvs.length →
      ∃ k, bindArgs (PySem.W.fnOf x qual params body scope (.ref T) kV doc pm an cdv ct) ⟨us, ks.zip ws⟩ = seqItems? (.ref T) >>= k ∧ k (some its.toArray) = pure (ps.zip (us ++ ws))) : KBn K fd ps n ks (fun a b => a ++ b) (fun a b => a ++ b) := by
  obtain ⟨oc, od, dV, kV, doc, pm, an, cdv, ct, osl, rfl, lk, hcd, hD, hK⟩ := F.ex
  rcases hD with ⟨e, _⟩ | ⟨_, T, o, its, m, rfl, lT, oT, rT⟩
  · exact absurd e hd
  · refine ⟨fun s us ws X l2 l3 => ?_, fun r z => r.append z⟩
    have l1 : its.length = dvs.length := rT.length.symm
    obtain ⟨k, e1, e2⟩ := h T kV doc pm an cdv ct us ws its l2 l3 l1
    refine BindsTo.of_looks fun M => ?_
    rw [e1]
    exact looks_items X lT oT (.of_pure e2)
end
end Fh

set_option Elab.async false
set_option linter.all false
set_option maxRecDepth 100000
set_option maxHeartbeats 4000000
/-! Fh, fifth part: operators and built-in calls, whatever the kinds of their operands -/
namespace Fh
open PySem PySem.Spec PyProof.Rows L2

/-! ### readings that ask by the values' kinds -/
def rAddS2 : R2 := fun x y H Q => ∃ i j, x = .str i ∧ y = .str j ∧ i.length + j.length ≤ sizeLine ∧ Q (.str (i ++ j)) H
def rPlus (K : PySem.W.Frag) : R2 := fun x y H Q => ((rI0 fun i j => .int (i + j)) x y H Q ∨ rCat x y H Q) ∨ (rCatA K x y H Q ∨ rAddS2 x y H Q)
def rMinus : R2 := rI0 fun i j => .int (i - j)
def rTimes : R2 := fun x y H Q => (rI CMul fun i j => .int (i * j)) x y H Q ∨ (rRep x y H Q ∨ (rI CMulW fun i j => .int (i * j)) x y H Q)
def rFdiv : R2 := fun x y H Q => (rI CDiv fun i j => .int (i / j)) x y H Q ∨ (rI CDivW fun i j => .int (i / j)) x y H Q
def rMod : R2 := rI (fun _ j => 0 < j) fun i j => .int (i % j)
def rPow : R2 := rI CPow fun i j => .int (i ^ j.toNat)
def rLt : R2 := rI0 fun i j => .bl (decide (i < j))
def rLe : R2 := rI0 fun i j => .bl (decide (i ≤ j))
def rGt2 : R2 := rI0 fun i j => .bl (decide (j < i))
def rGe2 : R2 := rI0 fun i j => .bl (decide (j ≤ i))
def rEqU (K : PySem.W.Frag) : R2 := fun x y H Q => rEq x y H Q ∨ rEqD K x y H Q
def rNeU (K : PySem.W.Frag) : R2 := fun x y H Q => rNe x y H Q ∨ rNeD K x y H Q
def rIsC : R2 := fun x y H Q => (y = .non ∨ ∃ b, y = .bl b) ∧ Q (.bl (decide (x = y))) H
def rIsNC : R2 := fun x y H Q => (y = .non ∨ ∃ b, y = .bl b) ∧ Q (.bl (!decide (x = y))) H
def rSlU (K : PySem.W.Frag) : V → Option Int → Option Int → Hp → VK → Prop := fun x lo hi H Q => rSlL K x lo hi H Q ∨ rSlA K x lo hi H Q
def rAbs : List V → Hp → VK → Prop := fun xs H Q => ∃ i, xs = [.int i] ∧ Q (.int (if i < 0 then -i else i)) H
def rMx2 : List V → Hp → VK → Prop := fun xs H Q => ∃ i j, xs = [.int i, .int j] ∧ Q (.int (if j > i then j else i)) H
def rMn2 : List V → Hp → VK → Prop := fun xs H Q => ∃ i j, xs = [.int i, .int j] ∧ Q (.int (if j < i then j else i)) H
def rIntC : List V → Hp → VK → Prop := fun xs H Q => (∃ i, xs = [.int i] ∧ Q (.int i) H) ∨ ∃ k, xs = [.bl k] ∧ Q (.int (if k then 1 else 0)) H
def rLenU (K : PySem.W.Frag) : List V → Hp → VK → Prop := fun xs H Q => ∃ x n, xs = [x] ∧ LenV K x H n ∧ Q (.int n) H
def rListU (K : PySem.W.Frag) : List V → Hp → VK → Prop := fun xs H Q => ∃ p ys, xs = [.ref p] ∧ (SqL K H p ys ∨ SqT K H p ys) ∧ ∀ l, H l = none → Q (.ref l) (upd H l (.lst ys))
def rTupU (K : PySem.W.Frag) : List V → Hp → VK → Prop := fun xs H Q => ∃ p ys, xs = [.ref p] ∧ ((SqL K H p ys ∧ ∀ l, H l = none → Q (.ref l) (upd H l (.tup ys))) ∨ (SqT K H p ys ∧ Q (.ref p) H))
section
variable {X : Cx}
theorem op_plus : OpR X (binaryOp .Add) (rPlus X.K) := (op_add.or op_cat).or (op_catA.or op_add_str)
theorem op_minus : OpR X (binaryOp .Sub) rMinus := op_sub
theorem op_times : OpR X (binaryOp .Mult) rTimes := op_mul.or (op_rep.or op_mulW)
theorem op_fdivU : OpR X (binaryOp .FloorDiv) rFdiv := op_fdiv.or op_fdivW
theorem op_modU : OpR X (binaryOp .Mod) rMod := op_mod
theorem op_powU : OpR X (binaryOp .Pow) rPow := op_pow
theorem op_ltU : OpR X (compareOp .Lt) rLt := op_lt
theorem op_leU : OpR X (compareOp .LtE) rLe := op_le
theorem op_gtU : OpR X (compareOp .Gt) rGt2 := op_gt
theorem op_geU : OpR X (compareOp .GtE) rGe2 := op_ge
theorem op_eqU {k : Nat} (hr : Room k X.A) : OpR X (compareOp .Eq) (rEqU X.K) := op_eq.or (op_eqD hr.units)
theorem op_neU {k : Nat} (hr : Room k X.A) : OpR X (compareOp .NotEq) (rNeU X.K) := op_ne.or (op_neD hr.units)
theorem is_dec {x : V} {u : Value} (r : RelV x u) : (u == Value.none) = decide (x = .non) ∧ plainIs u .none = true ∧ ∀ b, (u == Value.bool b) = decide (x = .bl b) ∧ plainIs u (.bool b) = true := by
  cases x with
  | non => cases r; exact ⟨rfl, rfl, fun b => ⟨rfl, rfl⟩⟩
  | bl c =>
    cases r
    refine ⟨rfl, rfl, fun b => ⟨?_, rfl⟩⟩
    cases b <;> cases c <;> rfl
  | int _ => obtain ⟨t, rfl⟩ := r; exact ⟨rfl, rfl, fun b => ⟨rfl, rfl⟩⟩
  | str _ => obtain ⟨t, rfl⟩ := r; exact ⟨rfl, rfl, fun b => ⟨rfl, rfl⟩⟩
  | byt _ => obtain ⟨t, rfl⟩ := r; exact ⟨rfl, rfl, fun b => ⟨rfl, rfl⟩⟩
  | flt _ => obtain ⟨t, rfl⟩ := r; exact ⟨rfl, rfl, fun b => ⟨rfl, rfl⟩⟩
  | ref _ => cases r; exact ⟨rfl, rfl, fun b => ⟨rfl, rfl⟩⟩
  | ty _ => cases r; exact ⟨rfl, rfl, fun b => ⟨rfl, rfl⟩⟩
theorem op_isC : OpR X (compareOp .Is) rIsC := by
  intro pins s σ H x y v u Q I rx ry h
  obtain ⟨hy, q⟩ := h
  obtain ⟨d1, p1, d2⟩ := is_dec rx
  rcases hy with rfl | ⟨b, rfl⟩
  · cases (show u = Value.none from ry)
    exact wpAny_is_plain p1 (fin_bl I q d1.symm)
  · cases (show u = Value.bool b from ry)
    exact wpAny_is_plain (d2 b).2 (fin_bl I q (d2 b).1.symm)
theorem op_isNC : OpR X (compareOp .IsNot) rIsNC := by
  intro pins s σ H x y v u Q I rx ry h
  obtain ⟨hy, q⟩ := h
  obtain ⟨d1, p1, d2⟩ := is_dec rx
  rcases hy with rfl | ⟨b, rfl⟩
  · cases (show u = Value.none from ry)
    exact wpAny_isNot_plain p1 (fin_bl I q (by rw [d1]))
  · cases (show u = Value.bool b from ry)
    exact wpAny_isNot_plain (d2 b).2 (fin_bl I q (by rw [(d2 b).1]))
theorem sl_U : SlR X (rSlU X.K) := sl_list.or sl_tupA
theorem call_absU : CallR X (.builtin "abs") rAbs := call_abs
theorem call_mx2 (hc : X.calm = true) : CallR X (.builtin "max") rMx2 := call_max2 hc
theorem call_mn2 (hc : X.calm = true) : CallR X (.builtin "min") rMn2 := call_min2 hc
theorem call_intU : CallR X (.type "int") rIntC := call_int1
theorem call_lenU : CallR X (.builtin "len") (rLenU X.K) := call_len
theorem call_listU : CallR X (.type "list") (rListU X.K) := call_list_of
theorem call_tupU : CallR X (.type "tuple") (rTupU X.K) := call_tuple_of
end

section
variable {K : PySem.W.Frag} {e : En} {d d1 d2 : D} {ds xs ys : List D} {m m1 m2 : Md} {te ta tb : TE} {i : Nat} {o : OD}
/-! ### ints -/
theorem rd_plus {i j : Int} : RD K m1 m2 m (rPlus K) (.int i) (.int j) (.int (i + j)) := (RD.orl (r' := rCat) (rd_I0 (gd := fun i j => .int (i + j)) fun T => .int _)).orl
theorem rd_minus {i j : Int} : RD K m1 m2 m rMinus (.int i) (.int j) (.int (i - j)) := rd_I0 (gd := fun i j => .int (i - j)) fun T => .int _
theorem rd_times {i j : Int} (h : CMul i j) : RD K m1 m2 m rTimes (.int i) (.int j) (.int (i * j)) := (rd_I (gd := fun i j => .int (i * j)) h fun T => .int _).orl
theorem rd_timesW {i j : Int} (h : CMulW i j) : RD K m1 m2 m rTimes (.int i) (.int j) (.int (i * j)) := (RD.orr (rd_I (gd := fun i j => .int (i * j)) h fun T => .int _)).orr
theorem rd_fdiv {i j : Int} (h : CDiv i j) : RD K m1 m2 m rFdiv (.int i) (.int j) (.int (i / j)) := (rd_I (gd := fun i j => .int (i / j)) h fun T => .int _).orl
theorem rd_fdivW {i j : Int} (h : CDivW i j) : RD K m1 m2 m rFdiv (.int i) (.int j) (.int (i / j)) := (rd_I (gd := fun i j => .int (i / j)) h fun T => .int _).orr
theorem rd_mod {i j : Int} (h : 0 < j) : RD K m1 m2 m rMod (.int i) (.int j) (.int (i % j)) := rd_I (gd := fun i j => .int (i % j)) h fun T => .int _
theorem rd_pow {i j : Int} (h : CPow i j) : RD K m1 m2 m rPow (.int i) (.int j) (.int (i ^ j.toNat)) := rd_I (gd := fun i j => .int (i ^ j.toNat)) h fun T => .int _
theorem rd_lt {i j : Int} : RD K m1 m2 m rLt (.int i) (.int j) (.bl (decide (i < j))) := rd_I0 (gd := fun i j => .bl (decide (i < j))) fun T => .bl _
theorem rd_le {i j : Int} : RD K m1 m2 m rLe (.int i) (.int j) (.bl (decide (i ≤ j))) := rd_I0 (gd := fun i j => .bl (decide (i ≤ j))) fun T => .bl _
theorem rd_gt {i j : Int} : RD K m1 m2 m rGt2 (.int i) (.int j) (.bl (decide (j < i))) := rd_I0 (gd := fun i j => .bl (decide (j < i))) fun T => .bl _
theorem rd_ge {i j : Int} : RD K m1 m2 m rGe2 (.int i) (.int j) (.bl (decide (j ≤ i))) := rd_I0 (gd := fun i j => .bl (decide (j ≤ i))) fun T => .bl _
/-! ### == -/
theorem rd_sc {r : R2} {x y : V} {b : Bool} (h1 : ∀ H v, Is K H v d1 → v = x) (h2 : ∀ H v, Is K H v d2 → v = y) (hr : ∀ H (Q : VK), Q (.bl b) H → r x y H Q) : RD K m1 m2 m r d1 d2 (.bl b) := fun B H T u v hB hT i1 i2 Q q => by
  rw [h1 _ _ (i1.now hB hT), h2 _ _ (i2.now hB hT)]
  exact hr H Q (q _ H T (Gr.refl hT) (MIs.dat (.bl b) hT))
theorem rd_eqI {i j : Int} : RD K m1 m2 m (rEqU K) (.int i) (.int j) (.bl (decide (i = j))) := rd_sc (x := .int i) (y := .int j) (fun H v h => by cases h; rfl) (fun H v h => by cases h; rfl) fun H Q q => .inl ⟨rfl, by
  rw [dec_int, Bool.beq_eq_decide_eq]; exact q⟩
theorem rd_neI {i j : Int} : RD K m1 m2 m (rNeU K) (.int i) (.int j) (.bl (decide (i ≠ j))) := rd_sc (x := .int i) (y := .int j) (fun H v h => by cases h; rfl) (fun H v h => by cases h; rfl) fun H Q q => .inl ⟨rfl, by
  rw [dec_int, Bool.beq_eq_decide_eq, ← decide_not]; exact q⟩
theorem rd_eqS {i j : Str} : RD K m1 m2 m (rEqU K) (.str i) (.str j) (.bl (decide (i = j))) := rd_sc (x := .str i) (y := .str j) (fun H v h => by cases h; rfl) (fun H v h => by cases h; rfl) fun H Q q => .inl ⟨rfl, by
  rw [dec_str, Bool.beq_eq_decide_eq]; exact q⟩
theorem rd_neS {i j : Str} : RD K m1 m2 m (rNeU K) (.str i) (.str j) (.bl (decide (i ≠ j))) := rd_sc (x := .str i) (y := .str j) (fun H v h => by cases h; rfl) (fun H v h => by cases h; rfl) fun H Q q => .inl ⟨rfl, by
  rw [dec_str, Bool.beq_eq_decide_eq, ← decide_not]; exact q⟩
/-- is, is not, against None, True, False -/
def isC : D → D → Option Bool
  | .raw _, _ => none
  | .non, .non => some true
  | .bl a, .bl b => some (a == b)
  | .bl _, .non => some false
  | .non, .bl _ => some false
  | .int _, .non => some false
  | .int _, .bl _ => some false
  | .str _, .non => some false
  | .str _, .bl _ => some false
  | .lst _, .non => some false
  | .lst _, .bl _ => some false
  | .tup _, .non => some false
  | .tup _, .bl _ => some false
  | .ins _ _, .non => some false
  | .ins _ _, .bl _ => some false
  | _, _ => none
theorem isC_ok {H : Hp} {x y : V} {b : Bool} (h : isC d1 d2 = some b) (i1 : Is K H x d1) (i2 : Is K H y d2) : (y = .non ∨ ∃ b, y = .bl b) ∧ decide (x = y) = b := by
  cases i1 <;> cases i2 <;> first
    | (cases h; done)
    | (cases h; refine ⟨.inr ⟨_, rfl⟩, ?_⟩; rw [dec_bl]; done)
    | (cases h; refine ⟨.inr ⟨_, rfl⟩, ?_⟩; rw [dec_bl, Bool.beq_eq_decide_eq]; done)
    | (cases h; refine ⟨.inl rfl, ?_⟩; simp; done)
    | (cases h; refine ⟨.inr ⟨_, rfl⟩, ?_⟩; simp; done)
theorem rd_is {b : Bool} (h : isC d1 d2 = some b) : RD K m1 m2 m rIsC d1 d2 (.bl b) := fun B H T u v hB hT i1 i2 Q q => by
  obtain ⟨p, e⟩ := isC_ok h (i1.now hB hT) (i2.now hB hT)
  exact ⟨p, by rw [e]; exact q _ H T (Gr.refl hT) (MIs.dat (.bl b) hT)⟩
theorem rd_isN {b : Bool} (h : isC d1 d2 = some b) : RD K m1 m2 m rIsNC d1 d2 (.bl (!b)) := fun B H T u v hB hT i1 i2 Q q => by
  obtain ⟨p, e⟩ := isC_ok h (i1.now hB hT) (i2.now hB hT)
  exact ⟨p, by rw [e]; exact q _ H T (Gr.refl hT) (MIs.dat (.bl (!b)) hT)⟩
/-! ### == of data -/
mutual
def toPy : D → PyData
  | .non => .none
  | .bl b => .bool b
  | .int i => .int i
  | .str x => .str x
  | .lst ds => .list (toPys ds)
  | .tup ds => .tuple (toPys ds)
  | _ => .none
def toPys : List D → List PyData
  | [] => []
  | d :: ds => toPy d :: toPys ds
end
mutual
/-- data that == reads: of a depth below n, no objects -/
def shp : Nat → D → Bool
  | _, .non => true
  | _, .bl _ => true
  | _, .int _ => true
  | _, .str x => PySem.PyData.strOk x
  | 0, .lst _ => false
  | n + 1, .lst ds => shps n ds
  | 0, .tup _ => false
  | n + 1, .tup ds => shps n ds
  | _, _ => false
def shps : Nat → List D → Bool
  | _, [] => true
  | n, d :: ds => shp n d && shps n ds
end
mutual
theorem toPy_dp {H : Hp} : ∀ (n : Nat) (d : D) {v : V}, shp n d = true → Is K H v d → Dp K H v (toPy d)
  | _, .non, _, _, i => by cases i; exact .non
  | _, .bl _, _, _, i => by cases i; exact .bl _
  | _, .int _, _, _, i => by cases i; exact .int _
  | _, .str _, _, _, i => by cases i; exact .str _
  | 0, .lst _, _, h, _ => by simp [shp] at h
  | n + 1, .lst ds, _, h, i => by
    cases i with
    | lst ha hi => exact .lst (SqL.of ha) (toPys_dp n ds (by simpa [shp] using h) hi)
  | 0, .tup _, _, h, _ => by simp [shp] at h
  | n + 1, .tup ds, _, h, i => by
    cases i with
    | tup ha hi => exact .tup ha (toPys_dp n ds (by simpa [shp] using h) hi)
  | _, .raw _, _, h, _ => by simp [shp] at h
  | _, .rol _, _, h, _ => by simp [shp] at h
  | _, .ins _ _, _, h, _ => by simp [shp] at h
theorem toPys_dp {H : Hp} : ∀ (n : Nat) (ds : List D) {vs : List V}, shps n ds = true → Iss K H vs ds → DpAll K H vs (toPys ds)
  | _, [], _, _, i => by cases i; exact .nil
  | n, d :: ds, _, h, i => by
    cases i with
    | cons i1 i2 =>
      have h2 : shp n d = true ∧ shps n ds = true := by simpa [shps] using h
      exact .cons (toPy_dp n d h2.1 i1) (toPys_dp n ds h2.2 i2)
end
mutual
theorem shp_lay : ∀ (n : Nat) (d : D), shp n d = true → (toPy d).canLay0 = true ∧ (toPy d).depth ≤ n
  | _, .non, _ => ⟨rfl, Nat.zero_le _⟩
  | _, .bl _, _ => ⟨rfl, Nat.zero_le _⟩
  | _, .int _, _ => ⟨rfl, Nat.zero_le _⟩
  | _, .str x, h => ⟨(show PyData.strOk x = true by simpa [shp] using h), Nat.zero_le _⟩
  | 0, .lst _, h => by simp [shp] at h
  | n + 1, .lst ds, h => by
    obtain ⟨h1, h2⟩ := shps_lay n ds (by simpa [shp] using h)
    exact ⟨h1, Nat.succ_le_succ h2⟩
  | 0, .tup _, h => by simp [shp] at h
  | n + 1, .tup ds, h => by
    obtain ⟨h1, h2⟩ := shps_lay n ds (by simpa [shp] using h)
    exact ⟨h1, Nat.succ_le_succ h2⟩
  | _, .raw _, h => by simp [shp] at h
  | _, .rol _, h => by simp [shp] at h
  | _, .ins _ _, h => by simp [shp] at h
theorem shps_lay : ∀ (n : Nat) (ds : List D), shps n ds = true → PyData.canLayAll0 (toPys ds) = true ∧ PyData.depthAll (toPys ds) ≤ n
  | _, [], _ => ⟨rfl, Nat.zero_le _⟩
  | n, d :: ds, h => by
    have h2 : shp n d = true ∧ shps n ds = true := by simpa [shps] using h
    obtain ⟨a1, a2⟩ := shp_lay n d h2.1
    obtain ⟨b1, b2⟩ := shps_lay n ds h2.2
    refine ⟨?_, Nat.max_le.mpr ⟨a2, b2⟩⟩
    show (PyData.canLay0 (toPy d) && PyData.canLayAll0 (toPys ds)) = true
    rw [a1, b1]; rfl
end
theorem shp_shaped {n : Nat} (h : shp n d = true) (hn : n ≤ 64) : SeqAt.shaped (toPy d) = true := by
  obtain ⟨a, b⟩ := shp_lay n d h
  unfold SeqAt.shaped
  rw [a, decide_eq_true (Nat.le_trans b hn)]; rfl
theorem rd_eqD {n1 n2 : Nat} (h1 : shp n1 d1 = true) (h2 : shp n2 d2 = true) (l1 : n1 ≤ 64 := by decide) (l2 : n2 ≤ 64 := by decide) : RD K m1 m2 m (rEqU K) d1 d2 (.bl (PyData.eqv (toPy d1) (toPy d2))) := fun B H T u v hB hT i1 i2 Q q =>
  .inr ⟨toPy d1, toPy d2, toPy_dp n1 d1 h1 (i1.now hB hT), toPy_dp n2 d2 h2 (i2.now hB hT), shp_shaped h1 l1, shp_shaped h2 l2, q _ H T (Gr.refl hT) (MIs.dat (.bl _) hT)⟩
theorem rd_neD {n1 n2 : Nat} (h1 : shp n1 d1 = true) (h2 : shp n2 d2 = true) (l1 : n1 ≤ 64 := by decide) (l2 : n2 ≤ 64 := by decide) : RD K m1 m2 m (rNeU K) d1 d2 (.bl (!PyData.eqv (toPy d1) (toPy d2))) := fun B H T u v hB hT i1 i2 Q q =>
  .inr ⟨toPy d1, toPy d2, toPy_dp n1 d1 h1 (i1.now hB hT), toPy_dp n2 d2 h2 (i2.now hB hT), shp_shaped h1 l1, shp_shaped h2 l2, q _ H T (Gr.refl hT) (MIs.dat (.bl _) hT)⟩
theorem shps_ints {n : Nat} : ∀ ns : List Int, shps n (ns.map D.int) = true
  | [] => rfl
  | _ :: ns => by
    have := shps_ints (n := n) ns
    simp only [List.map_cons, shps, shp, this, Bool.and_self]
theorem eqv_ints : ∀ ns ms : List Int, PyData.eqvAll (toPys (ns.map D.int)) (toPys (ms.map D.int)) = decide (ns = ms)
  | [], [] => rfl
  | [], _ :: _ => rfl
  | _ :: _, [] => rfl
  | n :: ns, k :: ms => by
    have ih := eqv_ints ns ms
    show ((n == k) && PyData.eqvAll (toPys (ns.map D.int)) (toPys (ms.map D.int))) = _
    rw [ih, Bool.beq_eq_decide_eq]
    by_cases h : n = k
    · subst h; simp
    · simp [h]
theorem rd_eqInts {ns ms : List Int} : RD K m1 m2 m (rEqU K) (.lst (ns.map D.int)) (.lst (ms.map D.int)) (.bl (decide (ns = ms))) := by
  have h := rd_eqD (K := K) (m1 := m1) (m2 := m2) (m := m) (n1 := 1) (n2 := 1) (d1 := .lst (ns.map D.int)) (d2 := .lst (ms.map D.int)) (shps_ints ns) (shps_ints ms)
  have e : PyData.eqv (toPy (.lst (ns.map D.int))) (toPy (.lst (ms.map D.int))) = decide (ns = ms) := eqv_ints ns ms
  rwa [e] at h
theorem rd_neInts {ns ms : List Int} : RD K m1 m2 m (rNeU K) (.lst (ns.map D.int)) (.lst (ms.map D.int)) (.bl (decide (ns ≠ ms))) := by
  have h := rd_neD (K := K) (m1 := m1) (m2 := m2) (m := m) (n1 := 1) (n2 := 1) (d1 := .lst (ns.map D.int)) (d2 := .lst (ms.map D.int)) (shps_ints ns) (shps_ints ms)
  have e : PyData.eqv (toPy (.lst (ns.map D.int))) (toPy (.lst (ms.map D.int))) = decide (ns = ms) := eqv_ints ns ms
  rw [e, ← decide_not] at h
  exact h
/-! ### an item -/
theorem rd_ixL {k : Int} (h : atI xs k = some d) : RD K m m2 m (rIx K) (.lst xs) (.int k) d := fun B H T u v hB hT i1 i2 Q q => by
  have i3 := i2.now hB hT
  cases i3
  have fin : ∀ U : Hp, Le U H → Is K U u (.lst xs) → (∀ w, Is K U w d → MIs m K B H T w d) → rIx K u (.int k) H Q := fun U hU iu tr => by
    cases iu with
    | @lst a vs _ ha hi =>
      obtain ⟨j, e1, e2, e3, e4, e5⟩ := atI_get h
      obtain ⟨w, hw, iw⟩ := hi.get e2
      have e6 : atI vs k = some w := by
        unfold atI at h ⊢
        rw [hi.length]
        cases z : ixN xs.length k with
        | none => rw [z] at h; cases h
        | some j' =>
          rw [z] at h
          have h' : xs[j']? = some d := h
          obtain ⟨w', hw', iw'⟩ := hi.get h'
          have := (ixN_seq z).1
          rw [e1] at this
          cases this
          show vs[j]? = some w
          exact hw
      exact .inl ⟨a, vs, k, w, rfl, rfl, SqL.of (hU _ _ ha), e6, q w H T (Gr.refl hT) (tr w iw)⟩
  cases m with
  | dat => exact fin T hT i1 fun w i => i
  | bor =>
    rcases i1 with i1 | i1
    · exact fin T hT i1 fun w i => .inl i
    · exact fin B hB i1 fun w i => .inr i
  | now => exact fin H (Le.refl _) i1 fun w i => i
theorem rd_ixT {k : Int} (h : atI xs k = some d) : RD K m m2 m (rIx K) (.tup xs) (.int k) d := fun B H T u v hB hT i1 i2 Q q => by
  have i3 := i2.now hB hT
  cases i3
  have fin : ∀ U : Hp, Le U H → Is K U u (.tup xs) → (∀ w, Is K U w d → MIs m K B H T w d) → rIx K u (.int k) H Q := fun U hU iu tr => by
    cases iu with
    | @tup a vs _ ha hi =>
      obtain ⟨j, e1, e2, e3, e4, e5⟩ := atI_get h
      obtain ⟨w, hw, iw⟩ := hi.get e2
      have e6 : atI vs k = some w := by
        unfold atI at h ⊢
        rw [hi.length]
        cases z : ixN xs.length k with
        | none => rw [z] at h; cases h
        | some j' =>
          have := (ixN_seq z).1
          rw [e1] at this
          cases this
          show vs[j]? = some w
          exact hw
      exact .inr (.inl ⟨a, vs, k, w, rfl, rfl, hU.sqT ha, e6, q w H T (Gr.refl hT) (tr w iw)⟩)
  cases m with
  | dat => exact fin T hT i1 fun w i => i
  | bor =>
    rcases i1 with i1 | i1
    · exact fin T hT i1 fun w i => .inl i
    · exact fin B hB i1 fun w i => .inr i
  | now => exact fin H (Le.refl _) i1 fun w i => i
/-- of scalars the mode is nothing -/
theorem Ev.sc {i : Int} (h : Ev K m1 te e (.int i)) : Ev K m te e (.int i) := Ev.up fun B T0 σ H T s Q q => h B T0 σ H T s Q fun v H' T' g j => by
  have j := j.now (s.gr.h.trans g.h) g.s
  cases j
  exact q _ H' T' g (.int i)
theorem Ev.scB {b : Bool} (h : Ev K m1 te e (.bl b)) : Ev K m te e (.bl b) := Ev.up fun B T0 σ H T s Q q => h B T0 σ H T s Q fun v H' T' g j => by
  have j := j.now (s.gr.h.trans g.h) g.s
  cases j
  exact q _ H' T' g (.bl b)
theorem Ev.scS {b : Str} (h : Ev K m1 te e (.str b)) : Ev K m te e (.str b) := Ev.up fun B T0 σ H T s Q q => h B T0 σ H T s Q fun v H' T' g j => by
  have j := j.now (s.gr.h.trans g.h) g.s
  cases j
  exact q _ H' T' g (.str b)
theorem Ev.scN (h : Ev K m1 te e .non) : Ev K m te e .non := Ev.up fun B T0 σ H T s Q q => h B T0 σ H T s Q fun v H' T' g j => by
  have j := j.now (s.gr.h.trans g.h) g.s
  cases j
  exact q _ H' T' g .non
/-- an item of a list of one's own is data -/
theorem ev_ixO {k : Int} (hi : e[i]? = some (.own (.lst xs))) (hk : Ev K m2 tb e (.int k)) (h : atI xs k = some d) : Ev K m (tOp (rIx K) (tVar i) tb) e d := Ev.up fun B T0 σ H T s Q q => by
  obtain ⟨a, hx, hb, ht, vs, hv, iv⟩ := s.own hi
  refine ⟨_, hx, hk B T0 σ H T s _ fun w H1 T1 g i1 => ?_⟩
  have i2 := i1.now (s.gr.h.trans g.h) g.s
  cases i2
  obtain ⟨j, e1, e2, e3, e4, e5⟩ := atI_get h
  obtain ⟨w, hw, iw⟩ := iv.get e2
  have e6 : atI vs k = some w := by
    unfold atI at h ⊢
    rw [iv.length]
    cases z : ixN xs.length k with
    | none => rw [z] at h; cases h
    | some j' =>
      have := (ixN_seq z).1
      rw [e1] at this
      cases this
      show vs[j]? = some w
      exact hw
  exact .inl ⟨a, vs, k, w, rfl, rfl, SqL.of (g.h _ _ hv), e6, q w H1 T1 g (Is.mono g.t d iw)⟩
theorem at_nat {k : Int} (h0 : 0 ≤ k) (h : xs[k.toNat]? = some d) : atI xs k = some d := by
  have e : k = ((k.toNat : Nat) : Int) := by omega
  rw [e]; exact atI_nat h
/-! ### built-in calls -/
theorem rl_abs {i : Int} : RL K [m1] m rAbs [.int i] (.int (if i < 0 then -i else i)) := fun B H T vs hB hT h Q q => by
  match vs, h with
  | [v], h =>
    have i1 := h.1.now hB hT
    cases i1
    exact ⟨i, rfl, q _ H T (Gr.refl hT) (MIs.dat (.int _) hT)⟩
theorem rl_mx2 {i j : Int} : RL K [m1, m2] m rMx2 [.int i, .int j] (.int (max i j)) := fun B H T vs hB hT h Q q => by
  match vs, h with
  | [v, w], h =>
    have i1 := h.1.now hB hT
    have i2 := h.2.1.now hB hT
    cases i1; cases i2
    refine ⟨i, j, rfl, ?_⟩
    have e : (if j > i then j else i) = max i j := by rw [Int.max_def]; split <;> split <;> omega
    rw [e]
    exact q _ H T (Gr.refl hT) (MIs.dat (.int _) hT)
theorem rl_mn2 {i j : Int} : RL K [m1, m2] m rMn2 [.int i, .int j] (.int (min i j)) := fun B H T vs hB hT h Q q => by
  match vs, h with
  | [v, w], h =>
    have i1 := h.1.now hB hT
    have i2 := h.2.1.now hB hT
    cases i1; cases i2
    refine ⟨i, j, rfl, ?_⟩
    have e : (if j < i then j else i) = min i j := by rw [Int.min_def]; split <;> split <;> omega
    rw [e]
    exact q _ H T (Gr.refl hT) (MIs.dat (.int _) hT)
theorem rl_int {i : Int} : RL K [m1] m rIntC [.int i] (.int i) := fun B H T vs hB hT h Q q => by
  match vs, h with
  | [v], h =>
    have i1 := h.1.now hB hT
    cases i1
    exact .inl ⟨i, rfl, q _ H T (Gr.refl hT) (MIs.dat (.int _) hT)⟩
theorem rl_intB {b : Bool} : RL K [m1] m rIntC [.bl b] (.int (if b then 1 else 0)) := fun B H T vs hB hT h Q q => by
  match vs, h with
  | [v], h =>
    have i1 := h.1.now hB hT
    cases i1
    exact .inr ⟨b, rfl, q _ H T (Gr.refl hT) (MIs.dat (.int _) hT)⟩
theorem rl_lenL : RL K [m1] m (rLenU K) [.lst xs] (.int (xs.length : Nat)) := fun B H T vs hB hT h Q q => by
  match vs, h with
  | [v], h =>
    have i1 := h.1.now hB hT
    cases i1 with
    | @lst a vs _ ha hi => exact ⟨_, xs.length, rfl, .inl ⟨vs, SqL.of ha, hi.length.symm⟩, q _ H T (Gr.refl hT) (MIs.dat (.int _) hT)⟩
theorem rl_lenT : RL K [m1] m (rLenU K) [.tup xs] (.int (xs.length : Nat)) := fun B H T vs hB hT h Q q => by
  match vs, h with
  | [v], h =>
    have i1 := h.1.now hB hT
    cases i1 with
    | @tup a vs _ ha hi => exact ⟨_, xs.length, rfl, .inr ⟨vs, ha, hi.length.symm⟩, q _ H T (Gr.refl hT) (MIs.dat (.int _) hT)⟩
theorem rl_lenR : RL K [m1] m (rLenU K) [.rol xs] (.int (xs.length : Nat)) := fun B H T vs hB hT h Q q => by
  match vs, h with
  | [v], h =>
    have i1 := h.1.now hB hT
    cases i1 with
    | @rol a vs _ ha hi => exact ⟨_, xs.length, rfl, .inl ⟨vs, ha, hi.length.symm⟩, q _ H T (Gr.refl hT) (MIs.dat (.int _) hT)⟩
/-- list(xs): a new list; its items are data -/
theorem rlo_list : RLO K [.dat] (rListU K) [.lst xs] (.lst xs) := fun B H T vs hB hT h Q q => by
  match vs, h with
  | [v], h =>
    have i1 : Is K T v (.lst xs) := h.1
    cases i1 with
    | @lst a vs _ ha hi => exact ⟨a, vs, rfl, .inl (SqL.of (hT _ _ ha)), fun l hl => q l _ T (Gr.own hT hl) hl (hT.back hl) ⟨vs, upd_same, hi⟩⟩
theorem rlo_listT : RLO K [.dat] (rListU K) [.tup xs] (.lst xs) := fun B H T vs hB hT h Q q => by
  match vs, h with
  | [v], h =>
    have i1 : Is K T v (.tup xs) := h.1
    cases i1 with
    | @tup a vs _ ha hi => exact ⟨a, vs, rfl, .inr (hT.sqT ha), fun l hl => q l _ T (Gr.own hT hl) hl (hT.back hl) ⟨vs, upd_same, hi⟩⟩
theorem rlo_listI {ns : List Int} : RLO K [m1] (rListU K) [.lst (ns.map D.int)] (.lst (ns.map D.int)) := fun B H T vs hB hT h Q q => by
  match vs, h with
  | [v], h =>
    have i1 := h.1.now hB hT
    cases i1 with
    | @lst a vs _ ha hi =>
      have e := hi.ints
      subst e
      exact ⟨a, _, rfl, .inl (SqL.of ha), fun l hl => q l _ T (Gr.own hT hl) hl (hT.back hl) ⟨_, upd_same, iss_ints ns⟩⟩
/-- tuple(xs) -/
theorem rl_tup : RL K [.dat] m (rTupU K) [.lst xs] (.tup xs) := fun B H T vs hB hT h Q q => by
  match vs, h with
  | [v], h =>
    have i1 : Is K T v (.lst xs) := h.1
    cases i1 with
    | @lst a vs _ ha hi =>
      refine ⟨a, vs, rfl, .inl ⟨SqL.of (hT _ _ ha), fun l hl => ?_⟩⟩
      have g := Gr.new (o := .tup vs) hT hl
      exact q _ _ _ g (MIs.dat (.tup (SqT.of upd_same) (Iss.mono g.t _ hi)) g.s)
theorem rl_tupT : RL K [m] m (rTupU K) [.tup xs] (.tup xs) := fun B H T vs hB hT h Q q => by
  match vs, h with
  | [v], h =>
    have i1 := h.1.now hB hT
    cases i1 with
    | @tup a vs _ ha hi => exact ⟨a, vs, rfl, .inr ⟨ha, q _ H T (Gr.refl hT) h.1⟩⟩
theorem rl_tupI {ns : List Int} : RL K [m1] m (rTupU K) [.lst (ns.map D.int)] (.tup (ns.map D.int)) := fun B H T vs hB hT h Q q => by
  match vs, h with
  | [v], h =>
    have i1 := h.1.now hB hT
    cases i1 with
    | @lst a vs _ ha hi =>
      have e := hi.ints
      subst e
      refine ⟨a, _, rfl, .inl ⟨SqL.of ha, fun l hl => ?_⟩⟩
      have g := Gr.new (o := .tup (ns.map V.int)) hT hl
      exact q _ _ _ g (MIs.dat (.tup (SqT.of upd_same) (iss_ints ns)) g.s)
theorem rl_sum {ns : List Int} : RL K [m1] m (rSum K) [.lst (ns.map D.int)] (.int ns.sum) := fun B H T vs hB hT h Q q => by
  match vs, h with
  | [v], h =>
    have i1 := h.1.now hB hT
    cases i1 with
    | @lst a vs _ ha hi =>
      have e := hi.ints
      subst e
      exact ⟨a, ns, rfl, SqL.of ha, q _ H T (Gr.refl hT) (MIs.dat (.int _) hT)⟩
theorem rl_min {ns : List Int} {k : Int} (h1 : k ∈ ns) (h2 : ∀ y ∈ ns, k ≤ y) : RL K [m1] m (rMin K) [.lst (ns.map D.int)] (.int k) := fun B H T vs hB hT h Q q => by
  match vs, h with
  | [v], h =>
    have i1 := h.1.now hB hT
    cases i1 with
    | @lst a vs _ ha hi =>
      have e := hi.ints
      subst e
      refine ⟨a, ns, rfl, SqL.of ha, List.length_pos_of_mem h1, fun z hz hm => ?_⟩
      have e : z = k := Int.le_antisymm (hm k h1) (h2 z hz)
      rw [e]
      exact q _ H T (Gr.refl hT) (MIs.dat (.int _) hT)
theorem rl_max {ns : List Int} {k : Int} (h1 : k ∈ ns) (h2 : ∀ y ∈ ns, y ≤ k) : RL K [m1] m (rMax K) [.lst (ns.map D.int)] (.int k) := fun B H T vs hB hT h Q q => by
  match vs, h with
  | [v], h =>
    have i1 := h.1.now hB hT
    cases i1 with
    | @lst a vs _ ha hi =>
      have e := hi.ints
      subst e
      refine ⟨a, ns, rfl, SqL.of ha, List.length_pos_of_mem h1, fun z hz hm => ?_⟩
      have e : z = k := Int.le_antisymm (h2 z hz) (hm k h1)
      rw [e]
      exact q _ H T (Gr.refl hT) (MIs.dat (.int _) hT)
/-! ### isinstance with a built-in class -/
def tyD : D → Option String
  | .non => some "NoneType"
  | .bl _ => some "bool"
  | .int _ => some "int"
  | .str _ => some "str"
  | .lst _ => some "list"
  | .tup _ => some "tuple"
  | _ => none
theorem tyX_of {H : Hp} {v : V} {n : String} (h : tyD d = some n) (i : Is K H v d) : TyX K H v (.type n) := by
  cases i with
  | non => cases h; exact .base .non
  | bl => cases h; exact .base (.bl _)
  | int => cases h; exact .base (.int _)
  | str => cases h; exact .base (.str _)
  | raw => cases h
  | rol => cases h
  | abs => cases h
  | ins => cases h
  | lst ha => cases h; exact .base (.lst ha)
  | tup ha =>
    cases h
    rcases ha with (ha | ⟨o, ha⟩) | ⟨o, its, n, hk, hc, _⟩
    · exact .base (.tup ha)
    · exact .fTuple ha
    · exact .kTuple hk hc
theorem rl_isi {n c : String} {b : Bool} (h : tyD d = some n) (hk : kitB n c = some b) : RL K [m1, m2] m (rIsi K) [d, .raw (.ty c)] (.bl b) := fun B H T vs hB hT hm Q q => by
  match vs, hm with
  | [v, w], hm =>
    have i1 := hm.1.now hB hT
    have i2 := hm.2.1.now hB hT
    cases i2
    exact ⟨v, .ty c, .type n, .type c, b, rfl, .ty c, tyX_of h i1, kit_ty hk, q _ H T (Gr.refl hT) (MIs.dat (.bl b) hT)⟩
end
end Fh

set_option Elab.async false
set_option linter.all false
set_option maxRecDepth 100000
set_option maxHeartbeats 4000000
/-! Fh, sixth part: the rules as the evaluator takes them -/
namespace Fh
open PySem PySem.Spec PyProof.Rows L2
theorem sz {n : Nat} (h : n ≤ 100000) : n ≤ sizeLine := Nat.le_trans h (by decide)
theorem szl {n : Nat} (h : n < 100000) : n < sizeLine := Nat.lt_of_lt_of_le h (by decide)
section
variable {K : PySem.W.Frag} {E : WX} {e : En} {d d1 d2 : D} {ds xs ys : List D} {m m1 m2 : Md} {te ta tb tc : TE} {tt tu : TT} {i j k : Int} {b c : Bool} {o : OD} {P : Po} {t u : TS} {n : Nat} {ns : List Int}
theorem ev_addI (ha : Ev K .now ta e (.int i)) (hb : Ev K .now tb e (.int j)) : Ev K m (tOp (rPlus K) ta tb) e (.int (i + j)) := ev_op ha hb rd_plus
theorem ev_subI (ha : Ev K .now ta e (.int i)) (hb : Ev K .now tb e (.int j)) : Ev K m (tOp rMinus ta tb) e (.int (i - j)) := ev_op ha hb rd_minus
theorem ev_mulI (ha : Ev K .now ta e (.int i)) (hb : Ev K .now tb e (.int j)) (h : CMul i j) : Ev K m (tOp rTimes ta tb) e (.int (i * j)) := ev_op ha hb (rd_times h)
theorem ev_divI (ha : Ev K .now ta e (.int i)) (hb : Ev K .now tb e (.int j)) (h : CDiv i j) : Ev K m (tOp rFdiv ta tb) e (.int (i / j)) := ev_op ha hb (rd_fdiv h)
theorem ev_modI (ha : Ev K .now ta e (.int i)) (hb : Ev K .now tb e (.int j)) (h : 0 < j) : Ev K m (tOp rMod ta tb) e (.int (i % j)) := ev_op ha hb (rd_mod h)
theorem ev_powI (ha : Ev K .now ta e (.int i)) (hb : Ev K .now tb e (.int j)) (h : CPow i j) : Ev K m (tOp rPow ta tb) e (.int (i ^ j.toNat)) := ev_op ha hb (rd_pow h)
theorem ev_negI (ha : Ev K .now ta e (.int i)) : Ev K m (tUn (rU fun i => .int (-i)) ta) e (.int (-i)) := Ev.up fun B T0 σ H T s Q q => ha B T0 σ H T s _ fun v H1 T1 g i1 => by
  have i2 := i1.now (s.gr.h.trans g.h) g.s
  cases i2
  exact ⟨i, rfl, q _ H1 T1 g (.int _)⟩
theorem ev_ltI (ha : Ev K .now ta e (.int i)) (hb : Ev K .now tb e (.int j)) : Ev K m (tOp rLt ta tb) e (.bl (decide (i < j))) := ev_op ha hb rd_lt
theorem ev_leI (ha : Ev K .now ta e (.int i)) (hb : Ev K .now tb e (.int j)) : Ev K m (tOp rLe ta tb) e (.bl (decide (i ≤ j))) := ev_op ha hb rd_le
theorem ev_gtI (ha : Ev K .now ta e (.int i)) (hb : Ev K .now tb e (.int j)) : Ev K m (tOp rGt2 ta tb) e (.bl (decide (j < i))) := ev_op ha hb rd_gt
theorem ev_geI (ha : Ev K .now ta e (.int i)) (hb : Ev K .now tb e (.int j)) : Ev K m (tOp rGe2 ta tb) e (.bl (decide (j ≤ i))) := ev_op ha hb rd_ge
theorem ev_eqI (ha : Ev K .now ta e (.int i)) (hb : Ev K .now tb e (.int j)) : Ev K m (tOp (rEqU K) ta tb) e (.bl (decide (i = j))) := ev_op ha hb rd_eqI
theorem ev_neI (ha : Ev K .now ta e (.int i)) (hb : Ev K .now tb e (.int j)) : Ev K m (tOp (rNeU K) ta tb) e (.bl (decide (i ≠ j))) := ev_op ha hb rd_neI
theorem ev_eqS {x y : Str} (ha : Ev K .now ta e (.str x)) (hb : Ev K .now tb e (.str y)) : Ev K m (tOp (rEqU K) ta tb) e (.bl (decide (x = y))) := ev_op ha hb rd_eqS
theorem ev_neS {x y : Str} (ha : Ev K .now ta e (.str x)) (hb : Ev K .now tb e (.str y)) : Ev K m (tOp (rNeU K) ta tb) e (.bl (decide (x ≠ y))) := ev_op ha hb rd_neS
theorem ev_eqL {ns ms : List Int} (ha : Ev K .now ta e (.lst (ns.map D.int))) (hb : Ev K .now tb e (.lst (ms.map D.int))) : Ev K m (tOp (rEqU K) ta tb) e (.bl (decide (ns = ms))) := ev_op ha hb rd_eqInts
theorem ev_neL {ns ms : List Int} (ha : Ev K .now ta e (.lst (ns.map D.int))) (hb : Ev K .now tb e (.lst (ms.map D.int))) : Ev K m (tOp (rNeU K) ta tb) e (.bl (decide (ns ≠ ms))) := ev_op ha hb rd_neInts
theorem ev_is (ha : Ev K .now ta e d1) (hb : Ev K .now tb e d2) (h : isC d1 d2 = some b) : Ev K m (tOp rIsC ta tb) e (.bl b) := ev_op ha hb (rd_is h)
theorem ev_isN (ha : Ev K .now ta e d1) (hb : Ev K .now tb e d2) (h : isC d1 d2 = some b) : Ev K m (tOp rIsNC ta tb) e (.bl (!b)) := ev_op ha hb (rd_isN h)
/-! an item of a row of ints -/
def nth (ns : List Int) (k : Int) : Int := ns.getD k.toNat 0
theorem atI_ints (h0 : 0 ≤ k) (h1 : k < ns.length) : atI (ns.map D.int) k = some (.int (nth ns k)) := by
  refine at_nat h0 ?_
  have hk : k.toNat < ns.length := by omega
  rw [List.getElem?_map, List.getElem?_eq_getElem hk]
  unfold nth
  rw [List.getD_eq_getElem?_getD, List.getElem?_eq_getElem hk]
  rfl
theorem ev_ixI (ha : Ev K .now ta e (.lst (ns.map D.int))) (hb : Ev K .now tb e (.int k)) (h0 : 0 ≤ k) (h1 : k < ns.length) : Ev K m (tOp (rIx K) ta tb) e (.int (nth ns k)) := Ev.sc (m1 := .now) (ev_op ha hb (rd_ixL (atI_ints h0 h1)))
theorem ev_ixIT (ha : Ev K .now ta e (.tup (ns.map D.int))) (hb : Ev K .now tb e (.int k)) (h0 : 0 ≤ k) (h1 : k < ns.length) : Ev K m (tOp (rIx K) ta tb) e (.int (nth ns k)) := Ev.sc (m1 := .now) (ev_op ha hb (rd_ixT (atI_ints h0 h1)))
theorem ev_ixL (ha : Ev K m ta e (.lst xs)) (hb : Ev K .now tb e (.int k)) (h : atI xs k = some d) : Ev K m (tOp (rIx K) ta tb) e d := ev_op ha hb (rd_ixL h)
theorem ev_ixT (ha : Ev K m ta e (.tup xs)) (hb : Ev K .now tb e (.int k)) (h : atI xs k = some d) : Ev K m (tOp (rIx K) ta tb) e d := ev_op ha hb (rd_ixT h)
/-! calls -/
theorem ev_abs (ha : Ev K .now ta e (.int i)) : Ev K m (tCB rAbs (tCons ta tNil)) e (.int (if i < 0 then -i else i)) := ev_cb (ea_cons ha ea_nil) rl_abs
theorem ev_max2 (ha : Ev K .now ta e (.int i)) (hb : Ev K .now tb e (.int j)) : Ev K m (tCB rMx2 (tCons ta (tCons tb tNil))) e (.int (max i j)) := ev_cb (ea_cons ha (ea_cons hb ea_nil)) rl_mx2
theorem ev_min2 (ha : Ev K .now ta e (.int i)) (hb : Ev K .now tb e (.int j)) : Ev K m (tCB rMn2 (tCons ta (tCons tb tNil))) e (.int (min i j)) := ev_cb (ea_cons ha (ea_cons hb ea_nil)) rl_mn2
theorem ev_intc (ha : Ev K .now ta e (.int i)) : Ev K m (tCB rIntC (tCons ta tNil)) e (.int i) := ev_cb (ea_cons ha ea_nil) rl_int
theorem ev_len (ha : Ev K .now ta e (.lst xs)) : Ev K m (tCB (rLenU K) (tCons ta tNil)) e (.int (xs.length : Nat)) := ev_cb (ea_cons ha ea_nil) rl_lenL
theorem ev_lenT (ha : Ev K .now ta e (.tup xs)) : Ev K m (tCB (rLenU K) (tCons ta tNil)) e (.int (xs.length : Nat)) := ev_cb (ea_cons ha ea_nil) rl_lenT
theorem ev_lenM {α : Type} {f : α → D} {as : List α} (ha : Ev K .now ta e (.lst (as.map f))) : Ev K m (tCB (rLenU K) (tCons ta tNil)) e (.int (as.length : Nat)) := by
  have h := ev_len (m := m) ha
  rwa [List.length_map] at h
theorem ev_lenTM {α : Type} {f : α → D} {as : List α} (ha : Ev K .now ta e (.tup (as.map f))) : Ev K m (tCB (rLenU K) (tCons ta tNil)) e (.int (as.length : Nat)) := by
  have h := ev_lenT (m := m) ha
  rwa [List.length_map] at h
theorem ev_sum (ha : Ev K .now ta e (.lst (ns.map D.int))) : Ev K m (tCB (rSum K) (tCons ta tNil)) e (.int ns.sum) := ev_cb (ea_cons ha ea_nil) rl_sum
theorem ev_isi {s c : String} (ha : Ev K .now ta e d) (h : tyD d = some s) (hk : kitB s c = some b) : Ev K m (tCB (rIsi K) (tCons ta (tCons (tC (.ty c)) tNil))) e (.bl b) := ev_cb (ea_cons ha (ea_cons (m := .now) ev_raw ea_nil)) (rl_isi h hk)
theorem ev_chain {r r' : R2} (ha : Ev K .now ta e d1) (hb : Ev K .now tb e d2) (hr : RD K .now .now .now r d1 d2 (.bl b)) (hc : b = true → Ev K .now tc e d ∧ RD K .now .now .now r' d2 d (.bl c)) : Ev K m (tChain r r' ta tb tc) e (.bl (b && c)) := Ev.up fun B T0 σ H T s Q q =>
  ha B T0 σ H T s _ fun x H1 T1 g1 i1 => hb B T0 σ H1 T1 (s.grow g1) _ fun y H2 T2 g2 i2 => by
    have s2 := (s.grow g1).grow g2
    refine hr B H2 T2 x y s2.gr.h g2.s (i1.mono g2.h g2.t) i2 _ fun z H3 T3 g3 i3 => ?_
    have i3' : Is K H3 z (.bl b) := i3
    cases i3'
    refine ⟨b, rfl, ?_⟩
    have s3 := s2.grow g3
    have g13 := (g1.trans g2).trans g3
    cases b with
    | true =>
      obtain ⟨hc, hr'⟩ := hc rfl
      show tc σ H3 _
      refine hc B T0 σ H3 T3 s3 _ fun w H4 T4 g4 i4 => ?_
      have s4 := s3.grow g4
      refine hr' B H4 T4 y w s4.gr.h g4.s ((i2.mono g3.h g3.t).mono g4.h g4.t) i4 _ fun z H5 T5 g5 i5 => ?_
      have i5' : Is K H5 z (.bl c) := i5
      cases i5'
      exact q _ H5 T5 ((g13.trans g4).trans g5) (.bl _)
    | false => exact q _ H3 T3 g13 (.bl false)
theorem et_yes : EvT K tYes e true := fun B T0 σ H T s Q q => q H T (Gr.refl s.gr.s)
/-! list(xs), tuple(xs) -/
theorem evo_list (ha : Ev K .dat ta e (.lst xs)) : EvO K (tCB (rListU K) (tCons ta tNil)) e (.lst xs) := ev_cbO (ea_cons ha ea_nil) rlo_list
theorem evo_listT (ha : Ev K .dat ta e (.tup xs)) : EvO K (tCB (rListU K) (tCons ta tNil)) e (.lst xs) := ev_cbO (ea_cons ha ea_nil) rlo_listT
theorem evo_listI (ha : Ev K .now ta e (.lst (ns.map D.int))) : EvO K (tCB (rListU K) (tCons ta tNil)) e (.lst (ns.map D.int)) := ev_cbO (ea_cons ha ea_nil) rlo_listI
theorem ev_tupI (ha : Ev K .now ta e (.lst (ns.map D.int))) : Ev K m (tCB (rTupU K) (tCons ta tNil)) e (.tup (ns.map D.int)) := ev_cb (ea_cons ha ea_nil) rl_tupI
theorem ev_tupL (ha : Ev K .dat ta e (.lst xs)) : Ev K m (tCB (rTupU K) (tCons ta tNil)) e (.tup xs) := ev_cb (ea_cons ha ea_nil) rl_tup
/-! statements again, with what a test says as a fact -/
theorem run_ifD {p : Prop} [Decidable p] (h : EvT K tt e (decide p)) (h1 : p → Run K E t e P) (h2 : ¬ p → Run K E u e P) : Run K E (tIfS tt t u) e P := run_if h (fun q => h1 (of_decide_eq_true q)) (fun q => h2 (of_decide_eq_false q))
theorem run_ifT (h : EvT K tt e true) (h1 : Run K E t e P) : Run K E (tIfS tt t u) e P := run_if h (fun _ => h1) (fun q => nomatch q)
theorem run_ifF (h : EvT K tt e false) (h1 : Run K E u e P) : Run K E (tIfS tt t u) e P := run_if h (fun q => nomatch q) (fun _ => h1)
theorem run_asgP {p : D → Prop} (h : EvP K te e p) (q : ∀ d, p d → P.nx (e.set n (.dat d))) : Run K E (tAsg te (gName n)) e P := fun B T0 σ H T D s f =>
  h B T0 σ H T s _ fun d v H1 T1 pd g i1 => f.nx _ _ H1 T1 (q d pd) ((s.grow g).set (m := .dat) (fun z => nomatch z) i1)
theorem run_retP {p : D → Prop} (h : EvP K te e p) (q : ∀ d, p d → P.rt d) : Run K E (tRet te) e P := fun B T0 σ H T D s f =>
  h B T0 σ H T s _ fun d v H1 T1 pd g i1 => f.rt d v H1 T1 (q d pd) (s.gr.trans g) i1
/-! slices -/
def EvS (K : PySem.W.Frag) (tp : TO) (e : En) (o : Option Int) : Prop := ∀ (B T0 : Hp) (σ : L2.St) (H T : Hp), Sat K B T0 e σ H T → ∀ Q : Option Int → Hp → Prop, (∀ H' T', Gr H T H' T' → Q o H') → tp σ H Q
theorem es_no : EvS K tNoPart e none := fun B T0 σ H T s Q q => q H T (Gr.refl s.gr.s)
theorem es_some (h : Ev K .now te e (.int i)) : EvS K (tPart te) e (some i) := fun B T0 σ H T s Q q => h B T0 σ H T s _ fun v H1 T1 g i1 => by
  have i2 := i1.now (s.gr.h.trans g.h) g.s
  cases i2
  exact ⟨i, rfl, q H1 T1 g⟩
/-- xs[lo:hi] -/
def cut {α : Type} (xs : List α) (lo hi : Option Int) : List α := (xs.drop (HT.sIx xs.length 0 lo)).take (HT.sIx xs.length xs.length hi - HT.sIx xs.length 0 lo)
theorem cut_iss {H : Hp} {vs : List V} {lo hi : Option Int} (h : Iss K H vs xs) : Iss K H (cutV vs lo hi) (cut xs lo hi) := by
  unfold cutV cut
  rw [h.length]
  exact (h.drop _).take _
theorem cut_map {α β : Type} (f : α → β) (xs : List α) (lo hi : Option Int) : cut (xs.map f) lo hi = (cut xs lo hi).map f := by
  unfold cut
  rw [List.length_map, List.map_take, List.map_drop]
theorem evo_slR {tl th : TO} {lo hi : Option Int} (ha : Ev K .now te e (.rol (ns.map D.int))) (hl : EvS K tl e lo) (hh : EvS K th e hi) : EvO K (tSl (rSlU K) te tl th) e (.lst ((cut ns lo hi).map D.int)) := fun B T0 σ H T s Q q =>
  ha B T0 σ H T s _ fun v H1 T1 g1 i1 => hl B T0 σ H1 T1 (s.grow g1) _ fun H2 T2 g2 => hh B T0 σ H2 T2 ((s.grow g1).grow g2) _ fun H3 T3 g3 => by
    have i2 : Is K H3 v _ := Is.mono (g2.h.trans g3.h) _ i1
    cases i2 with
    | @rol a vs _ hv iv =>
      have ev := iv.ints
      subst ev
      refine .inl ⟨a, _, rfl, hv, fun p hp => ?_⟩
      have g := (g1.trans g2).trans g3
      refine q p _ T3 (g.trans (Gr.own g3.s hp)) (g.h.back hp) (g3.s.back hp) ⟨_, upd_same, ?_⟩
      have := cut_iss (lo := lo) (hi := hi) (iss_ints (K := K) (H := T3) ns)
      rwa [cut_map] at this
theorem evo_slI {tl th : TO} {lo hi : Option Int} (ha : Ev K .now te e (.lst (ns.map D.int))) (hl : EvS K tl e lo) (hh : EvS K th e hi) : EvO K (tSl (rSlU K) te tl th) e (.lst ((cut ns lo hi).map D.int)) := fun B T0 σ H T s Q q =>
  ha B T0 σ H T s _ fun v H1 T1 g1 i1 => hl B T0 σ H1 T1 (s.grow g1) _ fun H2 T2 g2 => hh B T0 σ H2 T2 ((s.grow g1).grow g2) _ fun H3 T3 g3 => by
    have i2 : Is K H3 v _ := Is.mono (g2.h.trans g3.h) _ i1
    cases i2 with
    | @lst a vs _ hv iv =>
      have ev := iv.ints
      subst ev
      refine .inl ⟨a, _, rfl, SqL.of hv, fun p hp => ?_⟩
      have g := (g1.trans g2).trans g3
      refine q p _ T3 (g.trans (Gr.own g3.s hp)) (g.h.back hp) (g3.s.back hp) ⟨_, upd_same, ?_⟩
      have := cut_iss (lo := lo) (hi := hi) (iss_ints (K := K) (H := T3) ns)
      rwa [cut_map] at this
theorem evo_slL {tl th : TO} {lo hi : Option Int} (ha : Ev K .dat te e (.lst xs)) (hl : EvS K tl e lo) (hh : EvS K th e hi) : EvO K (tSl (rSlU K) te tl th) e (.lst (cut xs lo hi)) := fun B T0 σ H T s Q q =>
  ha B T0 σ H T s _ fun v H1 T1 g1 i1 => hl B T0 σ H1 T1 (s.grow g1) _ fun H2 T2 g2 => hh B T0 σ H2 T2 ((s.grow g1).grow g2) _ fun H3 T3 g3 => by
    have i2 : Is K T3 v _ := Is.mono (g2.t.trans g3.t) _ (show Is K T1 v _ from i1)
    cases i2 with
    | @lst a vs _ hv iv =>
      refine .inl ⟨a, _, rfl, SqL.of (g3.s _ _ hv), fun p hp => ?_⟩
      have g := (g1.trans g2).trans g3
      exact q p _ T3 (g.trans (Gr.own g3.s hp)) (g.h.back hp) (g3.s.back hp) ⟨_, upd_same, cut_iss iv⟩
theorem ev_slT {tl th : TO} {lo hi : Option Int} (ha : Ev K .dat te e (.tup xs)) (hl : EvS K tl e lo) (hh : EvS K th e hi) : Ev K m (tSl (rSlU K) te tl th) e (.tup (cut xs lo hi)) := Ev.up fun B T0 σ H T s Q q =>
  ha B T0 σ H T s _ fun v H1 T1 g1 i1 => hl B T0 σ H1 T1 (s.grow g1) _ fun H2 T2 g2 => hh B T0 σ H2 T2 ((s.grow g1).grow g2) _ fun H3 T3 g3 => by
    have i2 : Is K T3 v (.tup xs) := Is.mono (g2.t.trans g3.t) _ (show Is K T1 v _ from i1)
    have g := (g1.trans g2).trans g3
    cases id i2 with
    | @tup a vs _ hv iv =>
      refine .inr ⟨a, vs, rfl, g3.s.sqT hv, fun ⟨z1, z2⟩ => ?_, fun _ p hp => ?_⟩
      · have : cut xs lo hi = xs := by
          unfold cut
          rw [← iv.length, z1, z2, List.drop_zero, Nat.sub_zero, iv.length, List.take_length]
        exact q _ H3 T3 g (show Is K T3 _ _ by rw [this]; exact i2)
      · have g4 := Gr.new (o := .tup (cutV vs lo hi)) g3.s hp
        exact q _ _ _ (g.trans g4) (.tup (SqT.of upd_same) (Iss.mono g4.t _ (cut_iss iv)))
theorem atI_map {α : Type} {f : α → D} {as : List α} {a0 : α} (h0 : 0 ≤ k) (h1 : k < as.length) : atI (as.map f) k = some (f (as.getD k.toNat a0)) := by
  refine at_nat h0 ?_
  have hk : k.toNat < as.length := by omega
  rw [List.getElem?_map, List.getElem?_eq_getElem hk, List.getD_eq_getElem?_getD, List.getElem?_eq_getElem hk]
  rfl
end
end Fh

set_option Elab.async false
set_option linter.all false
set_option maxRecDepth 100000
set_option maxHeartbeats 4000000
/-! Fh, seventh part: the drawing helpers that every law has: _law_mixed, _law_pool, _law_same -/
namespace Fh
open PySem PySem.Spec PyProof.Rows L2
local macro_rules | `(tactic| walk_at "side") => `(tactic| first
  | assumption | decide | omega
  | exact ⟨by decide, by decide⟩ | exact ⟨by omega, by omega⟩ | exact Or.inl ⟨by omega, by omega⟩ | exact Or.inr ⟨by omega, by omega⟩
  | exact ⟨by decide, by decide, by decide⟩ | exact sz (by simp) | exact szl (by simp) | rfl)
local macro_rules | `(tactic| walk_at "ev") => `(tactic| first
  | exact ev_int
  | exact ev_bl
  | exact ev_str
  | exact ev_non
  | exact ev_dat rfl
  | exact ev_bor rfl
  | exact (ev_bor rfl).nw
  | exact ev_own rfl
  | exact (ev_bor rfl).sc
  | exact (ev_bor rfl).scB
  | exact (ev_bor rfl).scS
  | exact (ev_bor rfl).scN
  | (apply ev_addI; walk_at "ev"; walk_at "ev")
  | (apply ev_subI; walk_at "ev"; walk_at "ev")
  | (apply ev_ltI; walk_at "ev"; walk_at "ev")
  | (apply ev_leI; walk_at "ev"; walk_at "ev")
  | (apply ev_gtI; walk_at "ev"; walk_at "ev")
  | (apply ev_geI; walk_at "ev"; walk_at "ev")
  | (apply ev_eqI; walk_at "ev"; walk_at "ev")
  | (apply ev_neI; walk_at "ev"; walk_at "ev")
  | (apply ev_eqS; walk_at "ev"; walk_at "ev")
  | (apply ev_neS; walk_at "ev"; walk_at "ev")
  | (apply ev_eqL; walk_at "ev"; walk_at "ev")
  | (apply ev_neL; walk_at "ev"; walk_at "ev")
  | (apply ev_max2; walk_at "ev"; walk_at "ev")
  | (apply ev_min2; walk_at "ev"; walk_at "ev")
  | (apply ev_mulI; walk_at "ev"; walk_at "ev"; walk_at "side")
  | (apply ev_divI; walk_at "ev"; walk_at "ev"; walk_at "side")
  | (apply ev_modI; walk_at "ev"; walk_at "ev"; walk_at "side")
  | (apply ev_powI; walk_at "ev"; walk_at "ev"; walk_at "side")
  | (apply ev_negI; walk_at "ev")
  | (apply ev_abs; walk_at "ev")
  | (apply ev_intc; walk_at "ev")
  | (apply ev_lenM; walk_at "ev")
  | (apply ev_lenTM; walk_at "ev")
  | (apply ev_len; walk_at "ev")
  | (apply ev_lenT; walk_at "ev")
  | (apply ev_sum; walk_at "ev")
  | (apply ev_notV; walk_at "ev")
  | (apply ev_tupI; walk_at "ev")
  | (apply ev_is; walk_at "ev"; walk_at "ev"; rfl)
  | (apply ev_isN; walk_at "ev"; walk_at "ev"; rfl)
  | (apply ev_ixI; walk_at "ev"; walk_at "ev"; walk_at "side"; walk_at "side")
  | (apply ev_ixIT; walk_at "ev"; walk_at "ev"; walk_at "side"; walk_at "side")
  | (apply ev_andV; walk_at "ev"; (intro _; walk_at "ev"))
  | (apply ev_orV; walk_at "ev"; (intro _; walk_at "ev"))
  | (apply ev_tup; walk_at "ed"; walk_at "side")
  | exact ev_nil
  | (apply ev_lst; walk_at "ed"; walk_at "side")
  | (apply ev_isi; walk_at "ev"; rfl; decide +kernel))
local macro_rules | `(tactic| walk_at "ea") => `(tactic| first
  | exact ea_nil
  | (apply ea_cons; walk_at "ev"; walk_at "ea"))
local macro_rules | `(tactic| walk_at "ed") => `(tactic| first
  | exact ed_nil
  | (apply ed_cons; walk_at "ev"; walk_at "ed"))
local macro_rules | `(tactic| walk_at "et") => `(tactic| first
  | exact et_yes
  | (apply et_and; walk_at "et"; (intro _; walk_at "et"))
  | (apply et_or; walk_at "et"; (intro _; walk_at "et"))
  | (apply et_not; walk_at "et")
  | (refine et_test (m := .now) ?_; walk_at "ev")
  | (refine et_B (m := .now) ?_; walk_at "ev"))
local macro_rules | `(tactic| walk_at "asg") => `(tactic| (first
  | (refine run_seq ?_; apply run_asg; walk_at "ev"; dsimp only [List.set])
  | (apply run_asg; walk_at "ev"; dsimp only [List.set])))
def rd_l_mixed (K : PySem.W.Frag) : TS :=
  (tSeq (tAsg (tOp (rMod) (tCB (rIntC) (tCons (tOp (rPlus K) (tOp (rPlus K) (tOp (rTimes) (tVar 0) (tC (.int 48271))) (tOp (rTimes) (tVar 1) (tC (.int 69621)))) (tC (.int 11))) tNil)) (tC (.int 2147483647))) (gName 2))
  (tSeq (tAsg (tOp (rMod) (tCB (rIntC) (tCons (tOp (rPlus K) (tOp (rPlus K) (tOp (rTimes) (tVar 2) (tVar 2)) (tOp (rTimes) (tVar 1) (tC (.int 40692)))) (tC (.int 7))) tNil)) (tC (.int 2147483399))) (gName 3))
  (tRet (tOp (rMod) (tCB (rIntC) (tCons (tOp (rFdiv) (tVar 3) (tC (.int 7))) tNil)) (tC (.int 1000))))))
def rd_l_pool (K : PySem.W.Frag) (sp_l_mixed : Sp) : TS :=
  (tSeq (tAsg (tLc (iSeq K (tSl (rSlU K) (tVar 0) tNoPart (tPart (tC (.int 63))))) (gName 4) tYes (tCB (rAbs) (tCons (tCB (rIntC) (tCons (tVar 4) tNil)) tNil)) [4]) (gName 2))
  (tSeq (tIfS (tTest (tOp (rEqU K) (tVar 2) (tLst tNil))) (tAsg (tLst (tCons (tC (.int 0)) tNil)) (gName 2)) tNext)
  (tSeq (tAsg (tLst tNil) (gName 3))
  (tSeq (tFor (iSeq K (tVar 2)) (gName 4) (tSeq (tAsg (tLst tNil) (gName 7))
  (tSeq (tAsg (tVar 4) (gName 8))
  (tSeq (tIfS (tTest (tOp (rGe2) (tVar 4) (tOp (rPow) (tC (.int 10)) (tC (.int 18))))) (tFor (iRng1 (tCons (tC (.int 90)) tNil)) (gName 10) (tIfS (tTest (tOp (rGt2) (tVar 8) (tC (.int 0)))) (tSeq (tDrop (tBM K "list" rAppend (tVar 7) (tCons (tOp (rMod) (tCB (rIntC) (tCons (tVar 8) tNil)) (tC (.int 1000))) tNil)))
  (tAsg (tOp (rFdiv) (tVar 8) (tC (.int 1000))) (gName 8))) tNext)) tNext)
  (tDrop (tBM K "list" rAppend (tVar 3) (tCons (tVar 7) tNil)))))))
  (tSeq (tAsg (tLst tNil) (gName 5))
  (tSeq (tFor (iRng1 (tCons (tVar 1) tNil)) (gName 6) (tSeq (tAsg (tOp (rMod) (tCB (rIntC) (tCons (tVar 6) tNil)) (tCB (rLenU K) (tCons (tVar 2) tNil))) (gName 9))
  (tSeq (tAsg (tOp (rFdiv) (tVar 6) (tCB (rLenU K) (tCons (tVar 2) tNil))) (gName 10))
  (tIfS (tTest (tOp (rLt) (tVar 10) (tCB (rLenU K) (tCons (tOp (rIx K) (tVar 3) (tVar 9)) tNil)))) (tDrop (tBM K "list" rAppend (tVar 5) (tCons (tOp (rIx K) (tOp (rIx K) (tVar 3) (tVar 9)) (tVar 10)) tNil))) (tDrop (tBM K "list" rAppend (tVar 5) (tCons (tCall sp_l_mixed [] E0 (tCons (tOp (rPlus K) (tOp (rMod) (tCB (rIntC) (tCons (tOp (rIx K) (tVar 2) (tVar 9)) tNil)) (tC (.int 1000003))) (tOp (rTimes) (tC (.int 7919)) (tVar 9))) (tCons (tOp (rPlus K) (tVar 10) (tC (.int 1))) tNil))) tNil)))))))
  (tRet (tVar 5))))))))
def rd_l_same (K : PySem.W.Frag) (sp_l_same : Sp) : TS :=
  (tSeq (tIfS (tTest (tOp (rIsC) (tVar 1) (tC .non))) (tRet (tOp (rIsC) (tVar 0) (tC .non))) tNext)
  (tSeq (tIfS (tTest (tOp (rIsC) (tVar 1) (tC (.bl true)))) (tRet (tOp (rIsC) (tVar 0) (tC (.bl true)))) tNext)
  (tSeq (tIfS (tTest (tOp (rIsC) (tVar 1) (tC (.bl false)))) (tRet (tOp (rIsC) (tVar 0) (tC (.bl false)))) tNext)
  (tSeq (tIfS (tB (tCB (rIsi K) (tCons (tVar 1) (tCons (tC (.ty "int")) tNil)))) (tRet (tAndV (tCB (rIsi K) (tCons (tVar 0) (tCons (tC (.ty "int")) tNil))) (tAndV (tNotV (tCB (rIsi K) (tCons (tVar 0) (tCons (tC (.ty "bool")) tNil)))) (tOp (rEqU K) (tVar 0) (tVar 1))))) tNext)
  (tSeq (tIfS (tB (tCB (rIsi K) (tCons (tVar 1) (tCons (tC (.ty "str")) tNil)))) (tRet (tAndV (tCB (rIsi K) (tCons (tVar 0) (tCons (tC (.ty "str")) tNil))) (tOp (rEqU K) (tVar 0) (tVar 1)))) tNext)
  (tSeq (tIfS (tB (tCB (rIsi K) (tCons (tVar 1) (tCons (tC (.ty "tuple")) tNil)))) (tIfS (tOr (tNot (tB (tCB (rIsi K) (tCons (tVar 0) (tCons (tC (.ty "tuple")) tNil))))) (tTest (tOp (rNeU K) (tCB (rLenU K) (tCons (tVar 0) tNil)) (tCB (rLenU K) (tCons (tVar 1) tNil))))) (tRet (tC (.bl false))) tNext) (tIfS (tOr (tNot (tB (tCB (rIsi K) (tCons (tVar 0) (tCons (tC (.ty "list")) tNil))))) (tTest (tOp (rNeU K) (tCB (rLenU K) (tCons (tVar 0) tNil)) (tCB (rLenU K) (tCons (tVar 1) tNil))))) (tRet (tC (.bl false))) tNext))
  (tSeq (tFor (iRng1 (tCons (tCB (rLenU K) (tCons (tVar 1) tNil)) tNil)) (gName 2) (tIfS (tNot (tB (tCall sp_l_same [] E0 (tCons (tOp (rIx K) (tVar 0) (tVar 2)) (tCons (tOp (rIx K) (tVar 1) (tVar 2)) tNil))))) (tRet (tC (.bl false))) tNext))
  (tRet (tC (.bl true))))))))))
section
variable {K : PySem.W.Frag} {E : WX}
/-! ### _law_mixed -/
def mixed1 (n t : Int) : Int := (n * 48271 + t * 69621 + 11) % 2147483647
def mixed (n t : Int) : Int := ((mixed1 n t * mixed1 n t + t * 40692 + 7) % 2147483399 / 7) % 1000
theorem mixed_lt (n t : Int) : 0 ≤ mixed n t ∧ mixed n t < 1000 := by
  unfold mixed
  exact ⟨Int.emod_nonneg _ (by decide), Int.emod_lt_of_pos _ (by decide)⟩
def spMixed (K : PySem.W.Frag) : Sp := SpP K [.dat, .dat] (fun a : Int × Int => [.int a.1, .int a.2]) (fun _ => True) (fun a => .int (mixed a.1 a.2))
theorem run_mixed (n t : Int) : Run K E (rd_l_mixed K) (En0 [.dat, .dat] [.int n, .int t] 2) { nx := fun _ => D.non = .int (mixed n t), rt := fun d => d = .int (mixed n t) } := by
  unfold rd_l_mixed
  show Run K E _ [.dat (.int n), .dat (.int t), .no, .no] _
  walk_at "asg"
  have h0 : 0 ≤ mixed1 n t := Int.emod_nonneg _ (by decide)
  have h1 : mixed1 n t < 2147483647 := Int.emod_lt_of_pos _ (by decide)
  show Run K E _ [.dat (.int n), .dat (.int t), .dat (.int (mixed1 n t)), .no] _
  walk_at "asg"
  exact run_ret (by walk_at "ev") rfl
/-! ### _law_pool -/
def Unit1000 (ns : List Int) : Prop := ∀ x ∈ ns, 0 ≤ x ∧ x < 1000
theorem Unit1000.nil : Unit1000 [] := fun _ h => nomatch h
theorem Unit1000.snoc {ns : List Int} {x : Int} (h : Unit1000 ns) (h0 : 0 ≤ x) (h1 : x < 1000) : Unit1000 (ns ++ [x]) := fun y hy => by
  rcases List.mem_append.mp hy with q | q
  · exact h y q
  · rw [List.mem_singleton.mp q]; exact ⟨h0, h1⟩
theorem Unit1000.nth {ns : List Int} (h : Unit1000 ns) (k : Int) : 0 ≤ nth ns k ∧ nth ns k < 1000 := by
  unfold Fh.nth
  rw [List.getD_eq_getElem?_getD]
  cases q : ns[k.toNat]? with
  | none => exact ⟨by decide, by decide⟩
  | some x => exact h x (List.mem_of_getElem? q)
def rowD (r : List Int) : D := .lst (r.map D.int)
def spPool (K : PySem.W.Frag) : Sp := SpR K [.now, .dat] (fun a : List Int × Nat => [.rol (a.1.map D.int), .int (a.2 : Nat)]) (fun a => a.2 ≤ 100000) (fun a d => ∃ ns : List Int, d = rowD ns ∧ ns.length = a.2 ∧ Unit1000 ns)
def absI (i : Int) : Int := if i < 0 then -i else i
theorem filterMap_ints (f : Int → Int) (ns : List Int) : (ns.map D.int).filterMap (fun d => match d with | .int i => some (D.int (f i)) | _ => none) = (ns.map f).map D.int := by
  induction ns with
  | nil => rfl
  | cons n ns ih => simp only [List.map_cons, List.filterMap_cons, ih]
theorem get_ints {ns : List Int} {i : Nat} {d : D} (h : (ns.map D.int)[i]? = some d) : ∃ n, ns[i]? = some n ∧ d = .int n := by
  rw [List.getElem?_map] at h
  cases q : ns[i]? with
  | none => rw [q] at h; cases h
  | some n => rw [q] at h; exact ⟨n, rfl, (Option.some.inj h).symm⟩
theorem get_rg {lo : Int} {n i : Nat} {d : D} (h : (rgD lo n)[i]? = some d) : i < n ∧ d = .int (lo + (i : Nat)) := by
  have hi : i < n := by
    have := (List.getElem?_eq_some_iff.mp h).1
    rwa [rgD_len] at this
  rw [rgD_get hi] at h
  cases h
  exact ⟨hi, rfl⟩
theorem cut63 (ns : List Int) : (cut ns none (some 63)).length ≤ 63 := by
  unfold cut
  rw [List.length_take]
  have : HT.sIx ns.length ns.length (some 63) ≤ 63 := by
    rw [show (63 : Int) = ((63 : Nat) : Int) from rfl, HT.sIx_nat]
    omega
  omega
end
section
variable {K : PySem.W.Frag} {E : WX}
/-- one turn's digits -/
theorem run_pool (ns : List Int) (many : Nat) (hm : many ≤ 100000) :
    Run K E (rd_l_pool K (spMixed K)) (En0 [.now, .dat] [.rol (ns.map D.int), .int (many : Nat)] 9) { nx := fun _ => ∃ ms : List Int, D.non = rowD ms ∧ ms.length = many ∧ Unit1000 ms, rt := fun d => ∃ ms : List Int, d = rowD ms ∧ ms.length = many ∧ Unit1000 ms } := by
  unfold rd_l_pool
  show Run K E _ [.bor (.rol (ns.map D.int)), .dat (.int (many : Nat)), .no, .no, .no, .no, .no, .no, .no, .no, .no] _
  -- cells = [abs(int(cell)) for cell in script[:63]]
  have hc := cut63 ns
  obtain ⟨cs, hcs⟩ : ∃ cs, cs = (cut ns none (some 63)).map absI := ⟨_, rfl⟩
  have hlc : cs.length ≤ 63 := by rw [hcs, List.length_map]; exact hc
  refine run_seq (run_asg (d := rowD cs) ?_ ?_)
  · refine ((ev_lcO (m := .dat) (xs := (cut ns none (some 63)).map D.int) (fun d => match d with | .int i => some (D.int (absI i)) | _ => none) ?_ ?_ ?_).dat).is ?_
    · exact ei_lst (fun z => nomatch z) ((evo_slR (ev_bor rfl).nw es_no (es_some ev_int)).dat)
    · rw [List.length_map]; exact sz (by omega)
    · intro i d h
      obtain ⟨n, _, rfl⟩ := get_ints h
      exact ⟨_, tg_dat, .inl ⟨_, et_yes, rfl, by walk_at "ev"⟩⟩
    · rw [filterMap_ints, hcs]; rfl
  dsimp only [List.set]
  -- if cells == []: cells = [0]
  refine run_seqM (fun e => ∃ cs : List Int, 0 < cs.length ∧ cs.length ≤ 63 ∧ e = [.bor (.rol (ns.map D.int)), .dat (.int (many : Nat)), .dat (rowD cs), .no, .no, .no, .no, .no, .no, .no, .no]) ?_ ?_
  · refine run_ifD (p := cs = []) (et_test (m := .now) (ev_eqL (ns := cs) (ms := []) (ev_dat rfl) ev_nil)) (fun _ => ?_) (fun h => run_next ⟨cs, ?_, hlc, rfl⟩)
    · exact run_asg (d := rowD [0]) (ev_lst (ed_cons ev_int ed_nil) (by decide)) ⟨[0], by decide, by decide, rfl⟩
    · cases cs with
      | nil => exact absurd rfl h
      | cons a r => exact Nat.succ_pos _
  clear hcs hlc cs
  rintro _ ⟨cs, hc0, hc1, rfl⟩
  -- digits = []
  refine run_seq (run_asgO evo_nil ?_)
  dsimp only [List.set]
  -- for cell in cells: ..
  refine run_seq (run_for (m := .dat) (xs := cs.map D.int) (ei_lst (fun z => nomatch z) (ev_dat rfl))
    (fun i e => ∃ (ds : List (List Int)) (s4 s7 s8 s10 : Sl), ds.length = i ∧ (∀ r ∈ ds, Unit1000 r) ∧ e = [.bor (.rol (ns.map D.int)), .dat (.int (many : Nat)), .dat (rowD cs), .own (.lst (ds.map rowD)), s4, .no, .no, s7, s8, .no, s10])
    ⟨[], .no, .no, .no, .no, rfl, (fun _ h => nomatch h), rfl⟩ ?_ ?_)
  · rintro i _ _ hx ⟨ds, s4, s7, s8, s10, hl, hu, rfl⟩
    have hi : i < 63 := by
      have := (List.getElem?_eq_some_iff.mp hx).1
      rw [List.length_map] at this
      omega
    obtain ⟨cell, _, rfl⟩ := get_ints hx
    refine ⟨_, [4], tg_dat, ?_⟩
    dsimp only [List.set]
    -- row = []; rest = cell
    refine run_seq (run_asgO evo_nil ?_)
    dsimp only [List.set]
    walk_at "asg"
    refine run_seqM (fun e => ∃ (r : List Int) (s8 s10 : Sl), Unit1000 r ∧ e = [.bor (.rol (ns.map D.int)), .dat (.int (many : Nat)), .dat (rowD cs), .own (.lst (ds.map rowD)), .dat (.int cell), .no, .no, .own (.lst (r.map D.int)), s8, .no, s10]) ?_ ?_
    · refine run_ifD (p := (10 : Int) ^ (18 : Int).toNat ≤ cell) (by walk_at "et") (fun _ => ?_) (fun _ => run_next ⟨[], _, s10, Unit1000.nil, rfl⟩)
      refine run_for (m := .dat) (ei_rng1 (m := .dat) (ea_cons ev_int ea_nil) (by decide) (by decide))
        (fun j e => ∃ (r : List Int) (rest : Int) (s10 : Sl), r.length ≤ j ∧ Unit1000 r ∧ e = [.bor (.rol (ns.map D.int)), .dat (.int (many : Nat)), .dat (rowD cs), .own (.lst (ds.map rowD)), .dat (.int cell), .no, .no, .own (.lst (r.map D.int)), .dat (.int rest), .no, s10])
        ⟨[], cell, s10, Nat.le_refl _, Unit1000.nil, rfl⟩ ?_ ?_
      · rintro j _ _ hx ⟨r, rest, s10, hj, hr, rfl⟩
        obtain ⟨hj2, rfl⟩ := get_rg hx
        refine ⟨_, [10], tg_dat, ?_⟩
        dsimp only [List.set]
        refine run_ifD (p := 0 < rest) (by walk_at "et") (fun h => ?_) (fun _ => run_next ⟨r, rest, _, by omega, hr, rfl⟩)
        refine run_seq (run_app (d := .int (rest % 1000)) rfl (by walk_at "ev") (by rw [List.length_map]; exact szl (by have : (90 : Int).toNat = 90 := rfl; omega)) ?_)
        dsimp only [List.set]
        walk_at "asg"
        exact ⟨r ++ [rest % 1000], rest / 1000, _, by rw [List.length_append]; show r.length + 1 ≤ j + 1; omega, hr.snoc (Int.emod_nonneg _ (by decide)) (Int.emod_lt_of_pos _ (by decide)), by rw [List.map_append]; rfl⟩
      · rintro _ ⟨r, rest, s10, _, hr, rfl⟩
        exact ⟨r, _, _, hr, rfl⟩
    · rintro _ ⟨r, s8', s10', hr, rfl⟩
      -- digits.append(row)
      refine run_give (i := 7) rfl ?_
      dsimp only [List.set, OD.d]
      refine run_app (d := rowD r) rfl (ev_dat rfl) (by rw [List.length_map, hl]; exact szl (by omega)) ?_
      dsimp only [List.set]
      exact ⟨ds ++ [r], _, _, _, _, by rw [List.length_append, hl]; rfl, fun q hq => (List.mem_append.mp hq).elim (hu q) fun z => by rw [List.mem_singleton.mp z]; exact hr, by rw [List.map_append]; rfl⟩
  rintro _ ⟨ds, s4, s7, s8, s10, hl, hu, rfl⟩
  rw [List.length_map] at hl
  refine run_give (i := 3) rfl ?_
  dsimp only [List.set, OD.d]
  -- pool = []
  refine run_seq (run_asgO evo_nil ?_)
  dsimp only [List.set]
  refine run_seq (run_for (m := .dat) (ei_rng1 (m := .dat) (ea_cons (ev_dat rfl) ea_nil) (by omega) (by omega))
    (fun i e => ∃ (ps : List Int) (s6 s9 s10 : Sl), ps.length = i ∧ Unit1000 ps ∧ e = [.bor (.rol (ns.map D.int)), .dat (.int (many : Nat)), .dat (rowD cs), .dat (.lst (ds.map rowD)), s4, .own (.lst (ps.map D.int)), s6, s7, s8, s9, s10])
    ⟨[], _, _, _, rfl, Unit1000.nil, rfl⟩ ?_ ?_)
  · rintro i _ _ hx ⟨ps, s6, s9, s10, hp, hu2, rfl⟩
    obtain ⟨hi, rfl⟩ := get_rg hx
    have hi2 : i < 100000 := by omega
    refine ⟨_, [6], tg_dat, ?_⟩
    dsimp only [List.set]
    have hcl : (0 : Int) < (cs.length : Nat) := by omega
    walk_at "asg"
    walk_at "asg"
    obtain ⟨a, ha⟩ : ∃ a : Int, a = (0 + (i : Nat)) % (cs.length : Nat) := ⟨_, rfl⟩
    obtain ⟨t, ht⟩ : ∃ t : Int, t = (0 + (i : Nat)) / (cs.length : Nat) := ⟨_, rfl⟩
    rw [← ha, ← ht]
    have ha0 : 0 ≤ a := by rw [ha]; exact Int.emod_nonneg _ (by omega)
    have ha1 : a < (cs.length : Nat) := by rw [ha]; exact Int.emod_lt_of_pos _ hcl
    have ht0 : 0 ≤ t := by rw [ht]; exact Int.ediv_nonneg (by omega) (by omega)
    have hix : Ev K .dat (tOp (rIx K) (tVar 3) (tVar 9)) [.bor (.rol (ns.map D.int)), .dat (.int (many : Nat)), .dat (rowD cs), .dat (.lst (ds.map rowD)), s4, .own (.lst (ps.map D.int)), .dat (.int (0 + (i : Nat))), s7, s8, .dat (.int a), .dat (.int t)] (rowD (ds.getD a.toNat [])) :=
      ev_ixL (ev_dat rfl) (ev_dat rfl) (atI_map ha0 (by rw [hl]; exact ha1))
    have hrow : Unit1000 (ds.getD a.toNat []) := by
      rw [List.getD_eq_getElem?_getD]
      cases q : ds[a.toNat]? with
      | none => exact Unit1000.nil
      | some r => exact hu r (List.mem_of_getElem? q)
    generalize ds.getD a.toNat [] = row at hix hrow
    refine run_ifD (p := t < (row.length : Nat)) (et_test (m := .now) (ev_ltI (ev_dat rfl) (ev_lenM (f := D.int) hix.nw))) (fun h => ?_) (fun _ => ?_)
    · refine run_app (d := .int (nth row t)) rfl (ev_ixI hix.nw (ev_dat rfl) ht0 h) (by rw [List.length_map, hp]; exact szl hi2) ?_
      dsimp only [List.set]
      exact ⟨ps ++ [nth row t], _, _, _, by rw [List.length_append, hp]; rfl, hu2.snoc (hrow.nth t).1 (hrow.nth t).2, by rw [List.map_append]; rfl⟩
    · refine run_app (d := .int (mixed (nth cs a % 1000003 + 7919 * a) (t + 1))) rfl ?_ (by rw [List.length_map, hp]; exact szl hi2) ?_
      · exact ev_call (out := fun a : Int × Int => D.int (mixed a.1 a.2)) (nth cs a % 1000003 + 7919 * a, t + 1) trivial (by walk_at "ea")
      · dsimp only [List.set]
        exact ⟨ps ++ [mixed (nth cs a % 1000003 + 7919 * a) (t + 1)], _, _, _, by rw [List.length_append, hp]; rfl, hu2.snoc (mixed_lt _ _).1 (mixed_lt _ _).2, by rw [List.map_append]; rfl⟩
  rintro _ ⟨ps, s6, s9, s10', hp, hu2, rfl⟩
  rw [rgD_len] at hp
  exact run_retO (o := .lst (ps.map D.int)) rfl ⟨ps, rfl, by rw [hp]; omega, hu2⟩
end
/-! ### _law_same -/
theorem kb_NoneType_int : kitB "NoneType" "int" = some false := by decide +kernel
theorem kb_NoneType_bool : kitB "NoneType" "bool" = some false := by decide +kernel
theorem kb_NoneType_str : kitB "NoneType" "str" = some false := by decide +kernel
theorem kb_NoneType_list : kitB "NoneType" "list" = some false := by decide +kernel
theorem kb_NoneType_tuple : kitB "NoneType" "tuple" = some false := by decide +kernel
theorem kb_bool_int : kitB "bool" "int" = some true := by decide +kernel
theorem kb_bool_bool : kitB "bool" "bool" = some true := by decide +kernel
theorem kb_bool_str : kitB "bool" "str" = some false := by decide +kernel
theorem kb_bool_list : kitB "bool" "list" = some false := by decide +kernel
theorem kb_bool_tuple : kitB "bool" "tuple" = some false := by decide +kernel
theorem kb_int_int : kitB "int" "int" = some true := by decide +kernel
theorem kb_int_bool : kitB "int" "bool" = some false := by decide +kernel
theorem kb_int_str : kitB "int" "str" = some false := by decide +kernel
theorem kb_int_list : kitB "int" "list" = some false := by decide +kernel
theorem kb_int_tuple : kitB "int" "tuple" = some false := by decide +kernel
theorem kb_str_int : kitB "str" "int" = some false := by decide +kernel
theorem kb_str_bool : kitB "str" "bool" = some false := by decide +kernel
theorem kb_str_str : kitB "str" "str" = some true := by decide +kernel
theorem kb_str_list : kitB "str" "list" = some false := by decide +kernel
theorem kb_str_tuple : kitB "str" "tuple" = some false := by decide +kernel
theorem kb_list_int : kitB "list" "int" = some false := by decide +kernel
theorem kb_list_bool : kitB "list" "bool" = some false := by decide +kernel
theorem kb_list_str : kitB "list" "str" = some false := by decide +kernel
theorem kb_list_list : kitB "list" "list" = some true := by decide +kernel
theorem kb_list_tuple : kitB "list" "tuple" = some false := by decide +kernel
theorem kb_tuple_int : kitB "tuple" "int" = some false := by decide +kernel
theorem kb_tuple_bool : kitB "tuple" "bool" = some false := by decide +kernel
theorem kb_tuple_str : kitB "tuple" "str" = some false := by decide +kernel
theorem kb_tuple_list : kitB "tuple" "list" = some false := by decide +kernel
theorem kb_tuple_tuple : kitB "tuple" "tuple" = some true := by decide +kernel
mutual
/-- the same data, kinds and all -/
def sm : D → D → Bool
  | .non, .non => true
  | .bl a, .bl b => a == b
  | .int i, .int j => decide (i = j)
  | .str x, .str y => decide (x = y)
  | .tup as, .tup bs => sms as bs
  | .lst as, .lst bs => sms as bs
  | _, _ => false
def sms : List D → List D → Bool
  | [], [] => true
  | a :: as, b :: bs => sm a b && sms as bs
  | _, _ => false
end
mutual
theorem sm_eq : ∀ a b : D, sm a b = true → a = b
  | .non, b, h => by cases b <;> simp [sm] at h <;> rfl
  | .bl a, b, h => by cases b <;> simp [sm] at h; rw [h]
  | .int a, b, h => by cases b <;> simp [sm] at h; rw [h]
  | .str a, b, h => by cases b <;> simp [sm] at h; rw [h]
  | .tup as, .tup bs, h => by rw [sms_eq as bs (by simpa [sm] using h)]
  | .lst as, .lst bs, h => by rw [sms_eq as bs (by simpa [sm] using h)]
  | .tup as, .non, h => by simp [sm] at h
  | .tup as, .bl _, h => by simp [sm] at h
  | .tup as, .int _, h => by simp [sm] at h
  | .tup as, .str _, h => by simp [sm] at h
  | .tup as, .lst _, h => by simp [sm] at h
  | .tup as, .ins _ _, h => by simp [sm] at h
  | .tup as, .raw _, h => by simp [sm] at h
  | .tup as, .rol _, h => by simp [sm] at h
  | .lst as, .non, h => by simp [sm] at h
  | .lst as, .bl _, h => by simp [sm] at h
  | .lst as, .int _, h => by simp [sm] at h
  | .lst as, .str _, h => by simp [sm] at h
  | .lst as, .tup _, h => by simp [sm] at h
  | .lst as, .ins _ _, h => by simp [sm] at h
  | .lst as, .raw _, h => by simp [sm] at h
  | .lst as, .rol _, h => by simp [sm] at h
  | .ins _ _, b, h => by cases b <;> simp [sm] at h
  | .raw _, b, h => by cases b <;> simp [sm] at h
  | .rol _, b, h => by cases b <;> simp [sm] at h
theorem sms_eq : ∀ as bs : List D, sms as bs = true → as = bs
  | [], [], _ => rfl
  | [], _ :: _, h => by simp [sms] at h
  | _ :: _, [], h => by simp [sms] at h
  | a :: as, b :: bs, h => by
    have h2 : sm a b = true ∧ sms as bs = true := by simpa [sms] using h
    rw [sm_eq a b h2.1, sms_eq as bs h2.2]
end
mutual
theorem sm_refl : ∀ (n : Nat) (a : D), shp n a = true → sm a a = true
  | _, .non, _ => rfl
  | _, .bl _, _ => by simp [sm]
  | _, .int _, _ => by simp [sm]
  | _, .str _, _ => by simp [sm]
  | 0, .lst _, h => by simp [shp] at h
  | n + 1, .lst ds, h => by
    simp only [sm]
    exact sms_refl n ds (by simpa [shp] using h)
  | 0, .tup _, h => by simp [shp] at h
  | n + 1, .tup ds, h => by
    simp only [sm]
    exact sms_refl n ds (by simpa [shp] using h)
  | _, .raw _, h => by simp [shp] at h
  | _, .rol _, h => by simp [shp] at h
  | _, .ins _ _, h => by simp [shp] at h
theorem sms_refl : ∀ (n : Nat) (as : List D), shps n as = true → sms as as = true
  | _, [], _ => rfl
  | n, a :: as, h => by
    have h2 : shp n a = true ∧ shps n as = true := by simpa [shps] using h
    simp only [sms, sm_refl n a h2.1, sms_refl n as h2.2, Bool.and_self]
end
theorem shps_get : ∀ {n : Nat} {ds : List D} {i : Nat} {d : D}, shps n ds = true → ds[i]? = some d → shp n d = true
  | _, [], _, _, _, e => by simp at e
  | n, a :: ds, 0, d, h, e => by
    have h2 : shp n a = true ∧ shps n ds = true := by simpa [shps] using h
    simp at e
    rw [← e]; exact h2.1
  | n, a :: ds, i + 1, d, h, e => by
    have h2 : shp n a = true ∧ shps n ds = true := by simpa [shps] using h
    exact shps_get (i := i) h2.2 (by simpa using e)
theorem sms_len : ∀ {as bs : List D}, as.length ≠ bs.length → sms as bs = false
  | [], [], h => absurd rfl h
  | [], _ :: _, _ => by simp [sms]
  | _ :: _, [], _ => by simp [sms]
  | a :: as, b :: bs, h => by
    have := sms_len (as := as) (bs := bs) (fun q => h (by simp [q]))
    simp [sms, this]
theorem sms_at : ∀ {as bs : List D} {i : Nat} {a b : D}, as[i]? = some a → bs[i]? = some b → sm a b = false → sms as bs = false
  | [], _, _, _, _, e, _, _ => by simp at e
  | _ :: _, [], _, _, _, _, e, _ => by simp at e
  | x :: as, y :: bs, 0, a, b, e, e', h => by
    simp at e e'
    simp [sms, e, e', h]
  | x :: as, y :: bs, i + 1, a, b, e, e', h => by
    have := sms_at (as := as) (bs := bs) (i := i) (by simpa using e) (by simpa using e') h
    simp [sms, this]
theorem sms_all : ∀ {as bs : List D}, as.length = bs.length → (∀ (i : Nat) a b, as[i]? = some a → bs[i]? = some b → sm a b = true) → sms as bs = true
  | [], [], _, _ => rfl
  | [], _ :: _, h, _ => by simp at h
  | _ :: _, [], h, _ => by simp at h
  | a :: as, b :: bs, h, k => by
    have h0 := k 0 a b rfl rfl
    have := sms_all (as := as) (bs := bs) (by simpa using h) fun i x y e e' => k (i + 1) x y (by simpa using e) (by simpa using e')
    simp [sms, h0, this]
/-- data of any depth -/
def Pl (d : D) : Prop := ∃ n, shp n d = true
theorem Pl.item {ds : List D} {i : Nat} {d : D} (h : Pl (.lst ds)) (e : ds[i]? = some d) : Pl d := by
  obtain ⟨n, h⟩ := h
  cases n with
  | zero => simp [shp] at h
  | succ n => exact ⟨n, shps_get (by simpa [shp] using h) e⟩
theorem Pl.itemT {ds : List D} {i : Nat} {d : D} (h : Pl (.tup ds)) (e : ds[i]? = some d) : Pl d := by
  obtain ⟨n, h⟩ := h
  cases n with
  | zero => simp [shp] at h
  | succ n => exact ⟨n, shps_get (by simpa [shp] using h) e⟩
theorem Pl.isN {a : D} (h : Pl a) : isC a .non = some (sm a .non) := by
  obtain ⟨n, h⟩ := h
  cases a <;> first | rfl | (simp [shp] at h)
theorem Pl.isB {a : D} {b : Bool} (h : Pl a) : isC a (.bl b) = some (sm a (.bl b)) := by
  obtain ⟨n, h⟩ := h
  cases a <;> first | rfl | (simp [shp] at h)
def tyN : D → String
  | .non => "NoneType"
  | .bl _ => "bool"
  | .int _ => "int"
  | .str _ => "str"
  | .lst _ => "list"
  | .tup _ => "tuple"
  | _ => ""
theorem Pl.ty {a : D} (h : Pl a) : tyD a = some (tyN a) := by
  obtain ⟨n, h⟩ := h
  cases a <;> first | rfl | (simp [shp] at h)
mutual
/-- no list in it is longer than a range may be -/
def siz : D → Bool
  | .lst ds => decide (ds.length < 2 ^ 62) && sizs ds
  | .tup ds => decide (ds.length < 2 ^ 62) && sizs ds
  | _ => true
def sizs : List D → Bool
  | [] => true
  | d :: ds => siz d && sizs ds
end
theorem sizs_get : ∀ {ds : List D} {i : Nat} {d : D}, sizs ds = true → ds[i]? = some d → siz d = true
  | [], _, _, _, e => by simp at e
  | a :: ds, 0, d, h, e => by
    have h2 : siz a = true ∧ sizs ds = true := by simpa [sizs] using h
    simp at e
    rw [← e]; exact h2.1
  | a :: ds, i + 1, d, h, e => by
    have h2 : siz a = true ∧ sizs ds = true := by simpa [sizs] using h
    exact sizs_get (i := i) h2.2 (by simpa using e)
theorem sizs_ints : ∀ ns : List Int, sizs (ns.map D.int) = true
  | [] => rfl
  | _ :: ns => by simp [sizs, siz, sizs_ints ns]
def spSame (K : PySem.W.Frag) (n : Nat) : Sp := SpP K [.now, .now] (fun p : D × D => [p.1, p.2]) (fun p => shp n p.2 = true ∧ Pl p.1 ∧ siz p.2 = true) (fun p => .bl (sm p.1 p.2))
section
variable {K : PySem.W.Frag} {E : WX}
theorem atI_at {xs : List D} {i : Nat} {d : D} (h : xs[i]? = some d) : atI xs (0 + (i : Nat)) = some d := by
  rw [Int.zero_add]; exact atI_nat h
theorem ev_isi' {e : En} {m : Md} {te : TE} {d : D} {c : String} {b : Bool} (ha : Ev K .now te e d) (h : Pl d) (hk : kitB (tyN d) c = some b) : Ev K m (tCB (rIsi K) (tCons te (tCons (tC (.ty c)) tNil))) e (.bl b) := ev_isi ha h.ty hk
theorem run_same_loop {n : Nat} {a d : D} {as ds : List D} (hn : shps n ds = true) (hl : as.length = ds.length) (hz : ds.length < 2 ^ 62) (hsz : sizs ds = true) (ha : ∀ (i : Nat) x, as[i]? = some x → Pl x)
    (ia : ∀ (s : Sl) (i : Nat) x, as[i]? = some x → Ev K .now (tOp (rIx K) (tVar 0) (tVar 2)) [.bor a, .bor d, .dat (.int (0 + (i : Nat)))] x)
    (id_ : ∀ (s : Sl) (i : Nat) x, ds[i]? = some x → Ev K .now (tOp (rIx K) (tVar 1) (tVar 2)) [.bor a, .bor d, .dat (.int (0 + (i : Nat)))] x)
    (il : Ev K .now (tCB (rLenU K) (tCons (tVar 1) tNil)) [.bor a, .bor d, .no] (.int (ds.length : Nat))) :
    Run K E (tSeq (tFor (iRng1 (tCons (tCB (rLenU K) (tCons (tVar 1) tNil)) tNil)) (gName 2) (tIfS (tNot (tB (tCall (spSame K n) [] E0 (tCons (tOp (rIx K) (tVar 0) (tVar 2)) (tCons (tOp (rIx K) (tVar 1) (tVar 2)) tNil))))) (tRet (tC (.bl false))) tNext))
      (tRet (tC (.bl true)))) [.bor a, .bor d, .no] { nx := fun _ => D.non = .bl (sms as ds), rt := fun q => q = .bl (sms as ds) } := by
  refine run_seq (run_for (m := .dat) (ei_rng1 (m := .now) (ea_cons il ea_nil) (by omega) (by omega))
    (fun k e => (∀ (i : Nat) x y, i < k → as[i]? = some x → ds[i]? = some y → sm x y = true) ∧ ∃ s : Sl, e = [.bor a, .bor d, s]) ⟨fun i _ _ h => absurd h (Nat.not_lt_zero i), _, rfl⟩ ?_ ?_)
  · rintro k _ _ hx ⟨hk, s, rfl⟩
    obtain ⟨hk2, rfl⟩ := get_rg hx
    have hk3 : k < ds.length := by omega
    refine ⟨_, [2], tg_dat, ?_⟩
    dsimp only [List.set]
    obtain ⟨x, hxa⟩ : ∃ x, as[k]? = some x := ⟨_, List.getElem?_eq_getElem (by omega)⟩
    obtain ⟨y, hya⟩ : ∃ y, ds[k]? = some y := ⟨_, List.getElem?_eq_getElem hk3⟩
    have hc : Ev K .now (tCall (spSame K n) [] E0 (tCons (tOp (rIx K) (tVar 0) (tVar 2)) (tCons (tOp (rIx K) (tVar 1) (tVar 2)) tNil))) [.bor a, .bor d, .dat (.int (0 + (k : Nat)))] (.bl (sm x y)) :=
      ev_call (out := fun p : D × D => D.bl (sm p.1 p.2)) (x, y) ⟨shps_get hn hya, ha k x hxa, sizs_get hsz hya⟩ (ea_cons (ia s k x hxa) (ea_cons (id_ s k y hya) ea_nil))
    refine run_if (et_not (et_B hc)) (fun h => ?_) (fun h => run_next ⟨fun i u v hi hu hv => ?_, _, rfl⟩)
    · have h2 : sm x y = false := by simpa using h
      exact run_ret ev_bl (by rw [sms_at hxa hya h2])
    · by_cases q : i = k
      · subst q
        rw [hxa] at hu; rw [hya] at hv
        cases hu; cases hv
        simpa using h
      · exact hk i u v (by omega) hu hv
  · rintro _ ⟨hk, s, rfl⟩
    rw [rgD_len] at hk
    refine run_ret ev_bl ?_
    rw [sms_all hl fun i x y hx hy => hk i x y (by have := (List.getElem?_eq_some_iff.mp hy).1; omega) hx hy]
theorem run_same (n : Nat) (sp : Sp) (hsp : ∀ m, n = m + 1 → sp = spSame K m) (a d : D) (hd : shp n d = true) (ha : Pl a) (hz : siz d = true) :
    Run K E (rd_l_same K sp) (En0 [.now, .now] [a, d] 1) { nx := fun _ => D.non = .bl (sm a d), rt := fun q => q = .bl (sm a d) } := by
  unfold rd_l_same
  show Run K E _ [.bor a, .bor d, .no] _
  have pd : Pl d := ⟨n, hd⟩
  have v0 : ∀ s : Sl, Ev K .now (tVar 0) [.bor a, .bor d, s] a := fun s => (ev_bor rfl).nw
  have v1 : ∀ s : Sl, Ev K .now (tVar 1) [.bor a, .bor d, s] d := fun s => (ev_bor rfl).nw
  cases d with
  | raw v => simp [shp] at hd
  | rol v => simp [shp] at hd
  | abs v => simp [shp] at hd
  | ins C fs => simp [shp] at hd
  | non => exact run_seq (run_ifT (et_test (m := .now) (ev_is (v1 _) ev_non rfl)) (run_ret (ev_is (v0 _) ev_non ha.isN) rfl))
  | bl b =>
    refine run_seq (run_ifF (et_test (m := .now) (ev_is (v1 _) ev_non rfl)) (run_next ?_))
    cases b with
    | true => exact run_seq (run_ifT (et_test (m := .now) (ev_is (v1 _) ev_bl rfl)) (run_ret (ev_is (v0 _) ev_bl ha.isB) rfl))
    | false =>
      refine run_seq (run_ifF (et_test (m := .now) (ev_is (v1 _) ev_bl rfl)) (run_next ?_))
      exact run_seq (run_ifT (et_test (m := .now) (ev_is (v1 _) ev_bl rfl)) (run_ret (ev_is (v0 _) ev_bl ha.isB) rfl))
  | int j =>
    refine run_seq (run_ifF (et_test (m := .now) (ev_is (v1 _) ev_non rfl)) (run_next ?_))
    refine run_seq (run_ifF (et_test (m := .now) (ev_is (v1 _) ev_bl rfl)) (run_next ?_))
    refine run_seq (run_ifF (et_test (m := .now) (ev_is (v1 _) ev_bl rfl)) (run_next ?_))
    refine run_seq (run_ifT (et_B (m := .now) (ev_isi' (v1 _) pd kb_int_int)) ?_)
    cases a with
    | int i => exact run_ret (ev_andV (m1 := .now) (ev_isi' (v0 _) ha kb_int_int) fun _ => ev_andV (m1 := .now) (ev_notV (m1 := .now) (ev_isi' (v0 _) ha kb_int_bool)) fun _ => ev_eqI (v0 _) (v1 _)) rfl
    | bl b => exact run_ret (ev_andV (m1 := .now) (ev_isi' (v0 _) ha kb_bool_int) fun _ => ev_andV (c := false) (m1 := .now) (ev_notV (m1 := .now) (ev_isi' (b := true) (v0 _) ha kb_bool_bool)) fun z => nomatch z) rfl
    | non => exact run_ret (ev_andV (m1 := .now) (c := false) (ev_isi' (b := false) (v0 _) ha kb_NoneType_int) fun z => nomatch z) rfl
    | str x => exact run_ret (ev_andV (m1 := .now) (c := false) (ev_isi' (b := false) (v0 _) ha kb_str_int) fun z => nomatch z) rfl
    | lst x => exact run_ret (ev_andV (m1 := .now) (c := false) (ev_isi' (b := false) (v0 _) ha kb_list_int) fun z => nomatch z) rfl
    | tup x => exact run_ret (ev_andV (m1 := .now) (c := false) (ev_isi' (b := false) (v0 _) ha kb_tuple_int) fun z => nomatch z) rfl
    | raw v => obtain ⟨_, h⟩ := ha; simp [shp] at h
    | rol v => obtain ⟨_, h⟩ := ha; simp [shp] at h
    | abs v => obtain ⟨_, h⟩ := ha; simp [shp] at h
    | ins C fs => obtain ⟨_, h⟩ := ha; simp [shp] at h
  | str y =>
    refine run_seq (run_ifF (et_test (m := .now) (ev_is (v1 _) ev_non rfl)) (run_next ?_))
    refine run_seq (run_ifF (et_test (m := .now) (ev_is (v1 _) ev_bl rfl)) (run_next ?_))
    refine run_seq (run_ifF (et_test (m := .now) (ev_is (v1 _) ev_bl rfl)) (run_next ?_))
    refine run_seq (run_ifF (et_B (m := .now) (ev_isi' (v1 _) pd kb_str_int)) (run_next ?_))
    refine run_seq (run_ifT (et_B (m := .now) (ev_isi' (v1 _) pd kb_str_str)) ?_)
    cases a with
    | str i => exact run_ret (ev_andV (m1 := .now) (ev_isi' (v0 _) ha kb_str_str) fun _ => ev_eqS (v0 _) (v1 _)) rfl
    | bl b => exact run_ret (ev_andV (m1 := .now) (c := false) (ev_isi' (b := false) (v0 _) ha kb_bool_str) fun z => nomatch z) rfl
    | non => exact run_ret (ev_andV (m1 := .now) (c := false) (ev_isi' (b := false) (v0 _) ha kb_NoneType_str) fun z => nomatch z) rfl
    | int x => exact run_ret (ev_andV (m1 := .now) (c := false) (ev_isi' (b := false) (v0 _) ha kb_int_str) fun z => nomatch z) rfl
    | lst x => exact run_ret (ev_andV (m1 := .now) (c := false) (ev_isi' (b := false) (v0 _) ha kb_list_str) fun z => nomatch z) rfl
    | tup x => exact run_ret (ev_andV (m1 := .now) (c := false) (ev_isi' (b := false) (v0 _) ha kb_tuple_str) fun z => nomatch z) rfl
    | raw v => obtain ⟨_, h⟩ := ha; simp [shp] at h
    | rol v => obtain ⟨_, h⟩ := ha; simp [shp] at h
    | abs v => obtain ⟨_, h⟩ := ha; simp [shp] at h
    | ins C fs => obtain ⟨_, h⟩ := ha; simp [shp] at h
  | tup ds =>
    refine run_seq (run_ifF (et_test (m := .now) (ev_is (v1 _) ev_non rfl)) (run_next ?_))
    refine run_seq (run_ifF (et_test (m := .now) (ev_is (v1 _) ev_bl rfl)) (run_next ?_))
    refine run_seq (run_ifF (et_test (m := .now) (ev_is (v1 _) ev_bl rfl)) (run_next ?_))
    refine run_seq (run_ifF (et_B (m := .now) (ev_isi' (v1 _) pd kb_tuple_int)) (run_next ?_))
    refine run_seq (run_ifF (et_B (m := .now) (ev_isi' (v1 _) pd kb_tuple_str)) (run_next ?_))
    refine run_seq (run_ifT (et_B (m := .now) (ev_isi' (v1 _) pd kb_tuple_tuple)) ?_)
    cases a with
    | tup as =>
      refine run_if (et_or (et_not (et_B (m := .now) (ev_isi' (b := true) (v0 _) ha kb_tuple_tuple))) fun _ => et_test (m := .now) (ev_neI (ev_lenT (v0 _)) (ev_lenT (v1 _)))) (fun h => ?_) (fun h => run_next ?_)
      · have h2 : as.length ≠ ds.length := by
          have h3 : ((as.length : Nat) : Int) ≠ (ds.length : Nat) := by simpa using h
          omega
        exact run_ret ev_bl (by show D.bl false = .bl (sms as ds); rw [sms_len h2])
      · have h2 : as.length = ds.length := by
          have h3 : ((as.length : Nat) : Int) = (ds.length : Nat) := by simpa using h
          omega
        cases n with
        | zero => simp [shp] at hd
        | succ n =>
          rw [hsp n rfl]
          exact run_same_loop (n := n) (by simpa [shp] using hd) h2 (by simp [siz] at hz; omega) (by simp [siz] at hz; exact hz.2) (fun i x e => ha.itemT e) (fun s i x e => ev_op (m2 := .now) (v0 _) (ev_dat rfl) (rd_ixT (atI_at e))) (fun s i x e => ev_op (m2 := .now) (v1 _) (ev_dat rfl) (rd_ixT (atI_at e))) (ev_lenT (v1 _))
    | bl b => exact run_ifT (et_or (c := true) (et_not (et_B (m := .now) (ev_isi' (b := false) (v0 _) ha kb_bool_tuple))) fun z => nomatch z) (run_ret ev_bl rfl)
    | non => exact run_ifT (et_or (c := true) (et_not (et_B (m := .now) (ev_isi' (b := false) (v0 _) ha kb_NoneType_tuple))) fun z => nomatch z) (run_ret ev_bl rfl)
    | int x => exact run_ifT (et_or (c := true) (et_not (et_B (m := .now) (ev_isi' (b := false) (v0 _) ha kb_int_tuple))) fun z => nomatch z) (run_ret ev_bl rfl)
    | lst x => exact run_ifT (et_or (c := true) (et_not (et_B (m := .now) (ev_isi' (b := false) (v0 _) ha kb_list_tuple))) fun z => nomatch z) (run_ret ev_bl rfl)
    | str x => exact run_ifT (et_or (c := true) (et_not (et_B (m := .now) (ev_isi' (b := false) (v0 _) ha kb_str_tuple))) fun z => nomatch z) (run_ret ev_bl rfl)
    | raw v => obtain ⟨_, h⟩ := ha; simp [shp] at h
    | rol v => obtain ⟨_, h⟩ := ha; simp [shp] at h
    | abs v => obtain ⟨_, h⟩ := ha; simp [shp] at h
    | ins C fs => obtain ⟨_, h⟩ := ha; simp [shp] at h
  | lst ds =>
    refine run_seq (run_ifF (et_test (m := .now) (ev_is (v1 _) ev_non rfl)) (run_next ?_))
    refine run_seq (run_ifF (et_test (m := .now) (ev_is (v1 _) ev_bl rfl)) (run_next ?_))
    refine run_seq (run_ifF (et_test (m := .now) (ev_is (v1 _) ev_bl rfl)) (run_next ?_))
    refine run_seq (run_ifF (et_B (m := .now) (ev_isi' (v1 _) pd kb_list_int)) (run_next ?_))
    refine run_seq (run_ifF (et_B (m := .now) (ev_isi' (v1 _) pd kb_list_str)) (run_next ?_))
    refine run_seq (run_ifF (et_B (m := .now) (ev_isi' (v1 _) pd kb_list_tuple)) ?_)
    cases a with
    | lst as =>
      refine run_if (et_or (et_not (et_B (m := .now) (ev_isi' (b := true) (v0 _) ha kb_list_list))) fun _ => et_test (m := .now) (ev_neI (ev_len (v0 _)) (ev_len (v1 _)))) (fun h => ?_) (fun h => run_next ?_)
      · have h2 : as.length ≠ ds.length := by
          have h3 : ((as.length : Nat) : Int) ≠ (ds.length : Nat) := by simpa using h
          omega
        exact run_ret ev_bl (by show D.bl false = .bl (sms as ds); rw [sms_len h2])
      · have h2 : as.length = ds.length := by
          have h3 : ((as.length : Nat) : Int) = (ds.length : Nat) := by simpa using h
          omega
        cases n with
        | zero => simp [shp] at hd
        | succ n =>
          rw [hsp n rfl]
          exact run_same_loop (n := n) (by simpa [shp] using hd) h2 (by simp [siz] at hz; omega) (by simp [siz] at hz; exact hz.2) (fun i x e => ha.item e) (fun s i x e => ev_op (m2 := .now) (v0 _) (ev_dat rfl) (rd_ixL (atI_at e))) (fun s i x e => ev_op (m2 := .now) (v1 _) (ev_dat rfl) (rd_ixL (atI_at e))) (ev_len (v1 _))
    | bl b => exact run_ifT (et_or (c := true) (et_not (et_B (m := .now) (ev_isi' (b := false) (v0 _) ha kb_bool_list))) fun z => nomatch z) (run_ret ev_bl rfl)
    | non => exact run_ifT (et_or (c := true) (et_not (et_B (m := .now) (ev_isi' (b := false) (v0 _) ha kb_NoneType_list))) fun z => nomatch z) (run_ret ev_bl rfl)
    | int x => exact run_ifT (et_or (c := true) (et_not (et_B (m := .now) (ev_isi' (b := false) (v0 _) ha kb_int_list))) fun z => nomatch z) (run_ret ev_bl rfl)
    | tup x => exact run_ifT (et_or (c := true) (et_not (et_B (m := .now) (ev_isi' (b := false) (v0 _) ha kb_tuple_list))) fun z => nomatch z) (run_ret ev_bl rfl)
    | str x => exact run_ifT (et_or (c := true) (et_not (et_B (m := .now) (ev_isi' (b := false) (v0 _) ha kb_str_list))) fun z => nomatch z) (run_ret ev_bl rfl)
    | raw v => obtain ⟨_, h⟩ := ha; simp [shp] at h
    | rol v => obtain ⟨_, h⟩ := ha; simp [shp] at h
    | abs v => obtain ⟨_, h⟩ := ha; simp [shp] at h
    | ins C fs => obtain ⟨_, h⟩ := ha; simp [shp] at h
end
end Fh

set_option Elab.async false
set_option linter.all false
set_option maxRecDepth 100000
set_option maxHeartbeats 4000000
/-! Fh: what the head tells, by truth values of the written part; defs by any path -/
namespace Fh
open PySem PySem.Spec PyProof.Rows L2

/-! ### places -/
abbrev gA (K : PySem.W.Frag) (x : Str) : Addr := He.ga K x
abbrev mA (K : PySem.W.Frag) (C m : Str) : Addr := He.ma K (He.ga K C) m
/-- the first entry of the record at p: a property's getter, a static method's def -/
def r0 (K : PySem.W.Frag) (p : Addr) : Addr := match K.lookup p with
  | some o => (match o.data with
    | .fields vs => (match vs.toList with
      | .ref g :: _ => g
      | _ => 0)
    | _ => 0)
  | none => 0
abbrev qA (K : PySem.W.Frag) (C m : Str) : Addr := r0 K (mA K C m)
/-! ### defs -/
structure Dq where
  place : PySem.W.Frag → Addr
  nm : Str
  qn : Str
  pr : Arguments
  bd : List Stmt
  sc : Scope
  dv : PySem.W.Frag → List V
  kw : PySem.W.Frag → List (Str × V)
abbrev Fv : Type := Option (Str × Str × Arguments × FuncBody × Scope × Addr × List (Str × Addr) × Addr)
def fv (K : PySem.W.Frag) (a : Addr) : Fv := (K.lookup a).bind fun o => match o.data with
  | .func g => some (g.name, g.qualname, g.params, g.body, g.scope, g.globals, g.closure, g.builtins)
  | _ => none
def Dq.is (d : Dq) : Fv := some (d.nm, d.qn, d.pr, .stmts d.bd, d.sc, mainGlobals, [], builtinsNs)
def Dq.rest (K : PySem.W.Frag) (d : Dq) : Bool := PySem.W.keepIn K (.ref (d.place K)) && (match K.lookup (d.place K) with
  | some o => (match o.data with
    | .func g => PySem.W.codeIn K g.code d.qn && (He.dflB K g.defaults (d.dv K) && He.kwdB K g.kwdefaults (d.kw K))
    | _ => false)
  | none => false)
theorem Dq.fun_ {K : PySem.W.Frag} {d : Dq} (e : fv K (d.place K) = d.is) (c : d.rest K = true) : ∃ fd, FunD K d.nm d.qn d.pr d.bd d.sc (d.dv K) (d.kw K) (d.place K) fd := by
  unfold Dq.rest at c
  obtain ⟨kp, c⟩ := Bool.and_eq_true_iff.mp c
  unfold fv at e
  cases q : K.lookup (d.place K) with
  | none => rw [q] at c; cases c
  | some o =>
    rw [q] at c e
    obtain ⟨oc, od, dt, osl⟩ := o
    cases dt with
    | func g =>
      obtain ⟨n1, n2, n3, n4, n5, n6, n7, n8, n9, n10, n11, n12, n13, n14, n15⟩ := g
      have e2 : (some (n1, n2, n3, n4, n5, n6, n7, n15) : Fv) = d.is := e
      unfold Dq.is at e2
      injection e2 with e2
      injection e2 with a1 e2
      injection e2 with a2 e2
      injection e2 with a3 e2
      injection e2 with a4 e2
      injection e2 with a5 e2
      injection e2 with a6 e2
      injection e2 with a7 a8
      subst a1 a2 a3 a4 a5 a6 a7 a8
      obtain ⟨k1, k2⟩ := Bool.and_eq_true_iff.mp (show (PySem.W.codeIn K n13 d.qn && (He.dflB K n8 (d.dv K) && He.kwdB K n9 (d.kw K))) = true from c)
      obtain ⟨k3, k4⟩ := Bool.and_eq_true_iff.mp k2
      exact ⟨_, ⟨oc, od, n8, n9, n10, n11, n12, n13, n14, osl, rfl, q, k1, He.dflB_ok k3, He.kwdB_ok k4⟩, kp⟩
    | _ => cases c
/-! ### the hook -/
/-- a dict of the module with texts as keys: where, its keys -/
abbrev Tb : Type := (PySem.W.Frag → Addr) × List Str
abbrev Ob : Type := Bool × List Fv × List (Option (List (Option (Str × Int))))
def see (fa : List (PySem.W.Frag → Bool)) (fn : List Dq) (ts : List Tb) (K : PySem.W.Frag) : Ob := ((fa.all fun f => f K) && fn.all fun d => d.rest K, fn.map fun d => fv K (d.place K), ts.map fun t => He.dicW K (t.1 K))
def due (fn : List Dq) (ts : List Tb) (w : World) : Ob := (true, fn.map Dq.is, ts.map fun t => some (He.keysIn w.params t.2))
def Tells (fa : List (PySem.W.Frag → Bool)) (fn : List Dq) (ts : List Tb) (w : World) (K : PySem.W.Frag) : Prop := see fa fn ts K = due fn ts w
def seeG (n : Nat) (fa : List (PySem.W.Frag → Bool)) (fn : List Dq) (ts : List Tb) (g : Addr → Option Obj) : Ob := see fa fn ts (He.frG g (He.asD g n))
def hookQ (n : Nat) (fa : List (PySem.W.Frag → Bool)) (fn : List Dq) (ts : List Tb) : PySem.W.Hook where
  α := Ob
  obs := fun s => seeG n fa fn ts s.heap.get?
  val := fun w => due fn ts w
  says := fun w h => ∃ K : PySem.W.Frag, K.In h ∧ Tells fa fn ts w K
  of := fun _ _ e => ⟨_, He.frG_in, e⟩
  keeps := fun _ _ _ ⟨K, hK, c⟩ k => ⟨K, PySem.W.Frag.In.keeps hK k, c⟩
theorem seeG_eq {n : Nat} {fa : List (PySem.W.Frag → Bool)} {fn : List Dq} {ts : List Tb} {g : Addr → Option Obj} {s : Shared} (h : ∀ a, g a = s.heap.get? a) : seeG n fa fn ts g = (hookQ n fa fn ts).obs s := by
  obtain rfl : g = s.heap.get? := funext h
  rfl
section
variable {fa : List (PySem.W.Frag → Bool)} {fn : List Dq} {ts : List Tb} {w : World} {K : PySem.W.Frag}
theorem Tells.at (c : Tells fa fn ts w K) (i : Nat) {f : PySem.W.Frag → Bool} (h : fa[i]? = some f := by rfl) : f K = true := by
  have e : ((fa.all fun f => f K) && fn.all fun d => d.rest K) = true := congrArg Prod.fst c
  exact List.all_eq_true.mp (Bool.and_eq_true_iff.mp e).1 f (List.mem_of_getElem? h)
theorem Tells.fun_ (c : Tells fa fn ts w K) (i : Nat) {d : Dq} (h : fn[i]? = some d := by rfl) : ∃ fd, FunD K d.nm d.qn d.pr d.bd d.sc (d.dv K) (d.kw K) (d.place K) fd := by
  have e : ((fa.all fun f => f K) && fn.all fun d => d.rest K) = true := congrArg Prod.fst c
  have e2 : fn.map (fun d => fv K (d.place K)) = fn.map Dq.is := congrArg (fun z : Ob => z.2.1) c
  have e3 := congrArg (fun l => l[i]?) e2
  simp only [List.getElem?_map, h, Option.map_some, Option.some.injEq] at e3
  exact Dq.fun_ e3 (List.all_eq_true.mp (Bool.and_eq_true_iff.mp e).2 d (List.mem_of_getElem? h))
theorem Tells.tab (c : Tells fa fn ts w K) (i : Nat) {t : Tb} (h : ts[i]? = some t := by rfl) : He.dicW K (t.1 K) = some (He.keysIn w.params t.2) := by
  have e2 : ts.map (fun t => He.dicW K (t.1 K)) = ts.map fun t => some (He.keysIn w.params t.2) := congrArg (fun z : Ob => z.2.2) c
  have e3 := congrArg (fun l => l[i]?) e2
  simpa only [List.getElem?_map, h, Option.map_some, Option.some.injEq] using e3
end
/-! ### a dict of the module -/
section
variable {K : PySem.W.Frag} {w : World} {a : Addr} {ks : List Str} {z : Str}
theorem dict_off : ∀ (l : List DictEntry) (ks : List Str) (P : Params), l.map He.keyOf = He.keysIn P ks → z ∉ ks → l.find? (·.key.isStr z) = none ∧ l.any (·.refKey) = false
  | [], _, _, _, _ => ⟨rfl, rfl⟩
  | e :: r, [], _, h, _ => by cases h
  | e :: r, k :: ks, P, h, hz => by
    have h1 : He.keyOf e :: r.map He.keyOf = some (k, PyData.keyHash P k) :: He.keysIn P ks := h
    injection h1 with h2 h3
    obtain ⟨i1, i2⟩ := dict_off r ks P h3 fun q => hz (List.mem_cons_of_mem _ q)
    unfold He.keyOf at h2
    split at h2
    · rename_i x t q
      have h4 := Option.some.inj h2
      obtain ⟨h5, h6⟩ := Prod.mk.inj h4
      subst h5
      have hne : ¬ x = z := fun q => hz (by rw [← q]; exact List.mem_cons_self)
      have hb : e.key.isStr z = false := by
        rw [q]
        show (x == z) = false
        simpa using hne
      have hr : e.refKey = false := by
        show (match e.key with | .ref _ => true | _ => false) = false
        rw [q]
      exact ⟨by rw [List.find?_cons, hb]; exact i1, by rw [List.any_cons, hr, i2]; rfl⟩
    · cases h2
theorem dict_none (h : He.dicW K a = some (He.keysIn w.params ks)) (hz : z ∉ ks) : PySem.W.nsIn K a z = some none := by
  unfold He.dicW at h
  unfold PySem.W.nsIn
  split at h
  · rename_i c es n sl hl
    rw [hl]
    split at h
    · obtain ⟨h1, h2⟩ := dict_off es.toList ks w.params (Option.some.inj h) hz
      dsimp only
      rw [h1, h2]
      rfl
    · cases h
  · cases h
end
end Fh

set_option Elab.async false
set_option linter.all false
set_option maxRecDepth 100000
set_option maxHeartbeats 4000000
/-! Fh: own exceptions as values: made, their fields read, isinstance -/
namespace Fh
open PySem PySem.Spec PyProof.Rows L2

/-- the j-th statement of a class -/
def mem (st : Stmt) (j : Nat) : Stmt := match st with
  | .ClassDef (body := l) .. => l.getD j (.Pass ⟨0, 0, 0, 0⟩)
  | other => other
/-- a method as it stands behind the top -/
def DdM (K : PySem.W.Frag) (a : Addr) (nm qn : Str) (st : Stmt) (dvs : List V) (kws : List (Str × V)) : Prop := ∃ fd, FunD K nm qn (defArgs st) (defBody st) (defScope st) dvs kws a fd

/-! ### what the written part says of an exception class -/
structure XC (K : PySem.W.Frag) (C : Addr) : Prop where
  o : OexC K C
  e : ExcC K C
def xcB (K : PySem.W.Frag) (C : Addr) : Bool :=
  ((match K.lookup C with
    | some ob => ob.cls == .type "type" && (match ob.data with
      | .cls cd => (cd.hasDict && !cd.hasDel) && (match cd.mro, ob.slots.toList with
        | mh :: bm, [_, _, _, _, some mk, _] => (mh == .ref C && mk == .builtin "ValueError.__new__") && PySem.HandSPX.refsVE bm
        | _, _ => false)
      | _ => false)
    | none => false) &&
  (decide (PySem.W.findIn K (.ref C) "__setattr__" = some (some (.builtin "object.__setattr__"))) &&
  (decide (PySem.W.subIn K (.ref C) (.type "BaseException") = some true) &&
  (decide (PySem.W.typeIn K (.ref C) = some (.type "type")) && PySem.W.keepIn K (.ref C))))) &&
  ((decide (PySem.W.findIn K (.ref C) "__getattribute__" = some (some (.builtin "BaseException.__getattribute__"))) &&
  decide (PySem.W.findIn K (.ref C) "__getattr__" = some none)) &&
  ((PySem.W.hasDictIn K C && decide (PySem.W.findIn K (.ref C) "__class__" = some (some (.builtin "object.__class__")))) &&
  (decide (PySem.W.specialIn K (.builtin "object.__class__") "__get__" = some (some (.builtin "getset_descriptor.__get__"))) &&
  (decide (PySem.W.takesIn K (.builtin "object.__class__") = some true) && decide (PySem.W.mroIn K C (.type "object") = some true)))))
theorem and2 {a b : Bool} (h : (a && b) = true) : a = true ∧ b = true := Bool.and_eq_true_iff.mp h
theorem xcB_ok {K : PySem.W.Frag} {C : Addr} (h : xcB K C = true) : XC K C := by
  obtain ⟨h1, h2⟩ := and2 h
  obtain ⟨hl, h1⟩ := and2 h1
  obtain ⟨hs, h1⟩ := and2 h1
  obtain ⟨he, h1⟩ := and2 h1
  obtain ⟨ht, hk⟩ := and2 h1
  obtain ⟨h3, h2⟩ := and2 h2
  obtain ⟨hg, hgg⟩ := and2 h3
  obtain ⟨h4, h2⟩ := and2 h2
  obtain ⟨hd, hc⟩ := and2 h4
  obtain ⟨hn, h2⟩ := and2 h2
  obtain ⟨htk, hm⟩ := and2 h2
  refine ⟨⟨?_, of_decide_eq_true hs, of_decide_eq_true he, of_decide_eq_true ht, hk⟩, ⟨of_decide_eq_true hg, of_decide_eq_true hgg, of_decide_eq_true he, hd, of_decide_eq_true hc, of_decide_eq_true hn, of_decide_eq_true htk, of_decide_eq_true hm⟩⟩
  cases q : K.lookup C with
  | none => rw [q] at hl; cases hl
  | some ob =>
    rw [q] at hl
    obtain ⟨oc, od, dt, osl⟩ := ob
    obtain ⟨h5, hl⟩ := and2 hl
    cases dt with
    | cls cd =>
      obtain ⟨h6, hl⟩ := and2 hl
      obtain ⟨h7, h8⟩ := and2 h6
      obtain ⟨nm, bs, mro, ns, qn, hd', sn, sub, ab, col, del⟩ := cd
      obtain ⟨sl⟩ := osl
      dsimp only at h7 h8 hl
      split at hl
      · rename_i mh bm k0 k1 k2 k3 mk k5 _ _
        obtain ⟨h9, h10⟩ := and2 hl
        obtain ⟨h11, h12⟩ := and2 h9
        obtain rfl := beq_iff_eq.mp h11
        obtain rfl := beq_iff_eq.mp h12
        obtain rfl := beq_iff_eq.mp h5
        subst h7
        have h8 : del = false := by simpa using h8
        subst h8
        exact ⟨nm, qn, ns, bs, bm, sn, sub, ab, col, od, k0, k1, k2, k3, k5, rfl, h10⟩
      · cases hl
    | _ => cases hl
/-- made by its own __init__ -/
structure XM (K : PySem.W.Frag) (mg : Str → Option Value) (x : Str) (C fI : Addr) : Prop where
  c : XC K C
  g : mg x = some (.ref C)
  i : PySem.W.findIn K (.ref C) "__init__" = some (some (.ref fI))
  t : PySem.W.typeIn K (.ref fI) = some (.type "function")
/-- made without one -/
structure XN (K : PySem.W.Frag) (mg : Str → Option Value) (x : Str) (C : Addr) : Prop where
  c : XC K C
  g : mg x = some (.ref C)
  i : ∃ bm, PySem.W.excIn K C bm "ValueError.__new__" = true ∧ bm = He.veBase

/-! ### the objects -/
def ExH (K : PySem.W.Frag) (C : Addr) (fs : List (Str × D)) (H : Hp) (v : V) : Prop := ∃ a d fvs, v = .ref a ∧ H a = some (exo a C (some d)) ∧ H d = some (exd d fvs) ∧ Isf K H fvs fs
def excD (K : PySem.W.Frag) (C : Addr) (fs : List (Str × D)) : D := .abs (ExH K C fs)
def ExH0 (C : Addr) (H : Hp) (v : V) : Prop := ∃ a, v = .ref a ∧ H a = some (ExO (.ref C) a)
def excD0 (C : Addr) : D := .abs (ExH0 C)
theorem ExH.mono {K : PySem.W.Frag} {C : Addr} {fs : List (Str × D)} {H H' : Hp} {v : V} (e : Le H H') (h : ExH K C fs H v) : ExH K C fs H' v := by
  obtain ⟨a, d, fvs, rfl, h1, h2, h3⟩ := h
  exact ⟨a, d, fvs, rfl, e _ _ h1, e _ _ h2, Isf.mono e _ h3⟩
theorem is_exc {K : PySem.W.Frag} {C : Addr} {fs : List (Str × D)} {H : Hp} {v : V} (h : ExH K C fs H v) : Is K H v (excD K C fs) := .abs fun _ e => h.mono e
theorem is_exc0 {K : PySem.W.Frag} {C : Addr} {H : Hp} {v : V} (h : ExH0 C H v) : Is K H v (excD0 C) := .abs fun _ e => by
  obtain ⟨a, rfl, h⟩ := h
  exact ⟨a, rfl, e _ _ h⟩
theorem exc_is {K : PySem.W.Frag} {C : Addr} {fs : List (Str × D)} {H : Hp} {v : V} (h : Is K H v (excD K C fs)) : ExH K C fs H v := by
  unfold excD at h
  cases h with
  | abs h => exact h H (Le.refl H)
theorem exc0_is {K : PySem.W.Frag} {C : Addr} {H : Hp} {v : V} (h : Is K H v (excD0 C)) : ExH0 C H v := by
  unfold excD0 at h
  cases h with
  | abs h => exact h H (Le.refl H)

/-! ### __init__ -/
def spX1 (C : Addr) (f : Str) : Sp := fun vs H Q _ => ∃ a y, vs = [.ref a, y] ∧ H a = some (exo a C none) ∧ ∀ d, H d = none → d ≠ a → Q .non (upd (upd H d (exd d [(f, y)])) a (exo a C (some d)))
def spX2 (C : Addr) (f g : Str) : Sp := fun vs H Q _ => ∃ a y z, vs = [.ref a, y, z] ∧ H a = some (exo a C none) ∧ ∀ d, H d = none → d ≠ a → Q .non (upd (upd H d (exd d [(g, z), (f, y)])) a (exo a C (some d)))
section
variable {P : Program} {w : World} {K : PySem.W.Frag} {mg : Str → Option Value} {base : Heap} {C fI : Addr} {fd : FuncData} {nm qn : Str} {st : Stmt} {N ps : List Str} {f g : Str} {p1 p2 : Str}
theorem ok_x1 (F : FunD K nm qn (defArgs st) (defBody st) (defScope st) [] [] fI fd) (S : FnScope ["self", p1] ["self", p1] (defScope st)) (c : XC K C) (n1 : NoAttr K C f)
    (tm : ∀ (cdv : Value) (A : Around) (outer : List Env) (s : Shared) (H : Hp) (E : XK), PSs (cxOf CX0 P w K mg base ["self", p1] qn (defScope st) fI cdv A outer s H E).nox (defBody st) (tOst K f (tVar 0) (tVar 1))) :
    FnOk P w K mg base CX0 1 fI fd ["self", p1] (spX1 C f) := by
  refine F.ok S (fun vs H Q E h => ?_) (fun cdv A outer s H vs Q E hr h => ⟨_, (tm cdv A outer s H E).nox, ?_⟩)
  · obtain ⟨a, y, rfl, _⟩ := h
    rfl
  · obtain ⟨a, y, rfl, ha, q⟩ := h
    exact ⟨y, rfl, .ref a, rfl, a, C, rfl, c.o, n1, .inl ⟨ha, fun d hd hne => q d hd hne⟩⟩
theorem ok_x2 (F : FunD K nm qn (defArgs st) (defBody st) (defScope st) [] [] fI fd) (S : FnScope ["self", p1, p2] ["self", p1, p2] (defScope st)) (c : XC K C) (n1 : NoAttr K C f) (n2 : NoAttr K C g)
    (tm : ∀ (cdv : Value) (A : Around) (outer : List Env) (s : Shared) (H : Hp) (E : XK), PSs (cxOf CX0 P w K mg base ["self", p1, p2] qn (defScope st) fI cdv A outer s H E).nox (defBody st) (tSeq (tOst K f (tVar 0) (tVar 1)) (tOst K g (tVar 0) (tVar 2)))) :
    FnOk P w K mg base CX0 1 fI fd ["self", p1, p2] (spX2 C f g) := by
  refine F.ok S (fun vs H Q E h => ?_) (fun cdv A outer s H vs Q E hr h => ⟨_, (tm cdv A outer s H E).nox, ?_⟩)
  · obtain ⟨a, y, z, rfl, _⟩ := h
    rfl
  · obtain ⟨a, y, z, rfl, ha, q⟩ := h
    refine ⟨y, rfl, .ref a, rfl, a, C, rfl, c.o, n1, .inl ⟨ha, fun d hd hne => ?_⟩⟩
    refine ⟨z, rfl, .ref a, rfl, a, C, rfl, c.o, n2, .inr ⟨d, [(f, y)], upd_same, by rw [upd_ne hne, upd_same], (show 1 ≤ 900 by decide), ?_⟩⟩
    have e : upd (upd (upd H d (exd d [(f, y)])) a (exo a C (some d))) d (exd d [(g, z), (f, y)]) = upd (upd H d (exd d [(g, z), (f, y)])) a (exo a C (some d)) := by
      funext b
      by_cases h1 : b = d
      · subst h1; rw [upd_same, upd_ne hne, upd_same]
      · by_cases h2 : b = a
        · subst h2; rw [upd_ne h1, upd_same, upd_same]
        · rw [upd_ne h1, upd_ne h2, upd_ne h1, upd_ne h2, upd_ne h1]
    rw [e]
    exact q d hd hne
end

/-! ### C(..) as an expression -/
def tMkX (C : Addr) (sp : Sp) (ta : TA) : TE := fun σ H Q => ta σ H fun vs H1 => vs.length ≤ 1000 ∧ ∀ a, H1 a = none → sp (.ref a :: vs) (upd H1 a (exo a C none)) (fun v H2 => v = .non ∧ Q (.ref a) H2) E0
def tMkX0 (C : Addr) : TE := fun σ H Q => ∀ a, H a = none → Q (.ref a) (upd H a (ExO (.ref C) a))
/-- an exception's call by its __init__ -/
structure DX (P : Program) (w : World) (K : PySem.W.Frag) (mg : Str → Option Value) (base : Heap) (x : Str) (C : Addr) (sp : Sp) : Prop where
  ex : ∃ (fI : Addr) (fd : FuncData) (ps : List Str), FnOk P w K mg base CX0 1 fI fd ps sp ∧ XM K mg x C fI ∧ Binds K fd ps []
section
variable {X : Cx} {C : Addr} {sp : Sp} {x : Str} {e : Expr} {es : List Expr} {p pos : Pos} {ta : TA}
theorem pe_mkX (G : DX X.prog X.w X.K X.mg X.base x C sp) (hr : Room 2 X.A) (hg : Gl X x) (ha : PA X (e :: es) ta) (hdb : (x == ("__debug__" : Str)) = false := by decide)
    (he : starEach (e :: es) X.env = (false, eval e X.env) :: starEach es X.env := by rfl) (hpl : (backTo pos (starEach es X.env)).any (·.1) = false := by rfl) :
    PE X (.Call (.Name x p) (e :: es) [] pos) (tMkX C sp ta) := by
  obtain ⟨fI, fd, ps, Fn, M, hb⟩ := G.ex
  obtain ⟨nm, q, N, bs, bm, sn, sub, ab, col, dd, k0, k1, k2, k3, k5, hC, hbm⟩ := M.c.o.cls
  refine ⟨fun pins s σ H Q I h => ?_⟩
  refine wpAny_Call_Name_kw (ld_glob I hg M.g ?_ hdb)
  refine PySem.W.callWith_K (h₀ := X.base) I.ok.mod.kin M.c.o.kC (thn (ha.run pos pins s σ H _ I h) fun us s1 y => ?_) he hpl
  obtain ⟨vs, H1, I1, r1, hz, q1⟩ := y
  refine ⟨I1.kIn, ?_⟩
  show wpAny _ _ (call (.ref C) us) _ _ _
  obtain ⟨hp, g, dr, tk, os⟩ := s1
  have hn : H1 (hp.objs.size + 1) = none := I1.hok.fresh (Nat.le_succ _)
  have hq := q1 (hp.objs.size + 1) hn
  have I2 : Inv X pins σ (upd H1 (hp.objs.size + 1) (exo (hp.objs.size + 1) C none)) ⟨(hp.push (PySem.W.kdv_tup us)).push (PySem.HandSPX.excO C hp.objs.size), g, dr, tk, os⟩ := I1.laid (t' := tk) (a := hp.objs.size + 1) (o := exo (hp.objs.size + 1) C none) (h' := (hp.push (PySem.W.kdv_tup us)).push (PySem.HandSPX.excO C hp.objs.size))
    (fun b o z => Heap.get?_push_of_some _ (Heap.get?_push_of_some _ z)) (Nat.le_succ _) (exo_ok (by heap_get))
  have r2 : Vals (V.ref (hp.objs.size + 1) :: (vs ++ [])) (Value.ref (hp.objs.size + 1) :: (us ++ [])) := .cons rfl (r1.append .nil)
  rw [List.append_nil, List.append_nil] at r2
  have hl : (Value.ref (hp.objs.size + 1) :: us).length = ps.length := by
    rw [← Fn.len _ _ _ _ hq]
    exact r2.length.symm
  have hus : us.length ≤ sizeLine := by
    rw [← Paired.length r1, sizeLine_eq]
    omega
  refine wpAny_call (PySem.HandSPX.call_own PySem.F.excBase_ValueError (fun Y => PySem.HandSPX.refsVE_contains Y bm hbm) (I1.kIn _ _ hC) (PySem.W.looks_findIn I1.kIn M.i) (fun self => PySem.W.bind_fn I1.kIn self M.t) hus
    (codeAny_mono (Fn.run _ X.stack _ _ ⟨Value.ref (hp.objs.size + 1) :: us, []⟩ (Value.ref (hp.objs.size + 1) :: us) _ _ E0 (hr.make C us []) (I2.env0.make C us []) (by
      have := hb _ (Value.ref (hp.objs.size + 1) :: us) I2.kIn (by simpa using hl)
      simpa using this) r2 hq) fun r s' hq' => ?_))
  cases r with
  | error er => exact pass0 pins σ _ _ er s' I2 hq'
  | ok fl =>
    cases fl with
    | ret u =>
      obtain ⟨v, H', I3, rv, ev, q3⟩ := I2.after hq'
      subst ev
      exact ⟨rv, ⟨.ref (hp.objs.size + 1), H', I3, rfl, q3⟩⟩
    | next => exact False.elim hq'
    | brk => exact False.elim hq'
    | cont => exact False.elim hq'
theorem pe_mkX0 (M : XN X.K X.mg x C) (hg : Gl X x) (hdb : (x == ("__debug__" : Str)) = false := by decide) : PE X (.Call (.Name x p) [] [] pos) (tMkX0 C) := by
  obtain ⟨bb, hi, rfl⟩ := M.i
  refine ⟨fun pins s σ H Q I h => ?_⟩
  refine wpAny_Call_Name_kw (ld_glob I hg M.g ?_ hdb)
  refine PySem.W.callWith_K0 I.kIn M.c.o.kC ?_
  show wpAny _ _ (call (.ref C) []) _ _ _
  obtain ⟨bm, N, nm, qn, bs, hdct, sn, sub, ab, col, dd, k0, k1, k2, k3, k5, mN, hC, hN, hni, T⟩ := exc_obj I.kIn hi
  obtain ⟨hp, g, dr, tk, os⟩ := s
  refine wpAny_call_exc_subT PySem.F.excBase_ValueError T hC hN hni (fun h' a hm => ?_) (Nat.zero_le _)
  have hn : H a = none := I.hok.gone hm.new
  obtain ⟨t, ht, _, _⟩ := hm.there
  exact ⟨.ref a, upd H a (ExO (.ref C) a), I.laidN hm.keeps hm.new hn (exO_ok ht ⟨rfl, rfl⟩ rfl rfl rfl (show 4 < 6 by decide)), rfl, h a hn⟩
end

/-! ### e.f of an instance or of an exception; isinstance -/
def rAt (K : PySem.W.Frag) (f : Str) (x : V) (H : Hp) (Q : VK) : Prop :=
  (∃ a C dx fs v, x = .ref a ∧ H a = some (.ins C dx fs) ∧ (Cls K C ∧ NoAttr K C f) ∧ fs.lookup f = some v ∧ Q v H) ∨
  ∃ a C d fvs v, x = .ref a ∧ (XC K C ∧ NoAttr K C f) ∧ H a = some (exo a C (some d)) ∧ H d = some (exd d fvs) ∧ fvs.lookup f = some v ∧ Q v H
def tAt (K : PySem.W.Frag) (te : TE) (f : Str) : TE := fun σ H Q => te σ H fun x H1 => rAt K f x H1 Q
/-- what the look at an exception's own dict needs -/
theorem exo_inst {X : Cx} {pins : List (Addr × Obj)} {σ : L2.St} {H : Hp} {s : Shared} {a C d : Addr} {fvs : List (Str × V)} (I : Inv X pins σ H s) (ha : H a = some (exo a C (some d))) (hd : H d = some (exd d fvs)) :
    ∃ (ox od : Obj) (m : Str → Option Value), PySem.W.InstAt s.heap a ox C (some od) ∧ (∀ f, PySem.W.lookIn f od = some (m f)) ∧ ∀ f, RelO (fvs.lookup f) (m f) := by
  obtain ⟨t1, ho⟩ := exo_at I.hok ha
  obtain ⟨m, hns, r⟩ := exd_at I.hok hd
  obtain ⟨o, h1, l⟩ := lookIn_ns hns
  exact ⟨_, o, m, ⟨ho, rfl, rfl, h1⟩, l, r⟩
section
variable {X : Cx} {C : Addr} {e : Expr} {f : Str} {pos : Pos} {te : TE}
theorem pe_at (he : PE X e te) (hb : attributeBase e f X.env (eval e X.env) = eval e X.env := by rfl) : PE X (.Attribute e f pos) (tAt X.K te f) := by
  refine ⟨fun pins s σ H Q I h => ?_⟩
  refine attr_of hb (thn (he.run pins s σ H _ I h) fun u s1 y => ?_)
  obtain ⟨x, H1, I1, rx, y⟩ := y
  rcases y with ⟨a, C, dx, fs, v, rfl, ea, c, l, q⟩ | ⟨a, C, d, fvs, v, rfl, c, ea, ed, l, q⟩
  · cases rx
    exact getattr_ok I1 ea c.1 c.2 l fun u' s2 I2 ru => ⟨v, H1, I2, ru, q⟩
  · cases rx
    obtain ⟨ox, od, m, J, hl, hr⟩ := exo_inst I1 ea ed
    obtain ⟨u, hu, ru⟩ := RelO.some_of (v := v) (o := m f) (by rw [← l]; exact hr f)
    exact HandSPX.exc_get I1.kIn J c.1.e.hg c.1.e.hk c.1.e.hs (PySem.W.findObj_own c.1.e.hd c.2 rfl (by rw [hl f, hu])) (handed_of ru) ⟨v, H1, I1.tok _, ru, q⟩
/-- x is an exception of the class at C -/
def ExA (C : Addr) (x : V) (H : Hp) : Prop := ∃ a, x = .ref a ∧ ((∃ d fvs, H a = some (exo a C (some d)) ∧ H d = some (exd d fvs)) ∨ H a = some (ExO (.ref C) a))
theorem exa_kit {pins : List (Addr × Obj)} {σ : L2.St} {H : Hp} {s : Shared} {x : V} {u : Value} (I : Inv X pins σ H s) (c : XC X.K C) (h : ExA C x H) (r : RelV x u) :
    ∃ P : Heap → Prop, PySem.W.KitX X.K u (.ref C) P ∧ P s.heap ∧ u ≠ .builtin "__main__.__loader__#opaque" := by
  obtain ⟨a, rfl, h⟩ := h
  cases r
  have hc : (PySem.W.clsIn X.K C).isSome = true := by
    obtain ⟨cd, h1, _⟩ := PySem.W.any_some c.e.hd
    rw [h1]; rfl
  rcases h with ⟨d, fvs, ea, ed⟩ | ea
  · obtain ⟨ox, od, m, J, _, _⟩ := exo_inst I ea ed
    exact ⟨_, PySem.W.kitx_exc (ox := ox) (od := some od) hc c.e.hg c.e.hk c.e.hs c.e.ha c.e.hn c.e.ht c.e.hm, J, fun z => nomatch z⟩
  · obtain ⟨⟨oe, vs, ho, hz, hd, _⟩, _, _⟩ := I.hok a _ ea
    have J : PySem.W.InstAt s.heap a oe C none := by
      obtain ⟨oc, odc, oda, osl⟩ := oe
      obtain ⟨h1, h2⟩ := hz
      dsimp only at h1 h2 hd
      subst h1 h2 hd
      exact ⟨ho, rfl, rfl, trivial⟩
    exact ⟨_, PySem.W.kitx_exc (ox := oe) (od := none) hc c.e.hg c.e.hk c.e.hs c.e.ha c.e.hn c.e.ht c.e.hm, J, fun z => nomatch z⟩
def rIsiX (K : PySem.W.Frag) : List V → Hp → VK → Prop := fun xs H Q => ∃ (x c : V) (C : Addr) (u : Value) (b : Bool), xs = [x, c] ∧ ClsV c u ∧ XC K C ∧ ExA C x H ∧ PySem.W.kitOne K (.ref C) u = some b ∧ Q (.bl b) H
theorem call_isiX : CallR X (.builtin "isinstance") (rIsiX X.K) := by
  intro pins s σ H xs us Q I r h
  obtain ⟨x, c, C, u, b, rfl, k, xc, ex, hk, q⟩ := h
  obtain ⟨u1, u2, rfl, r1, r2⟩ := vals2 r
  obtain rfl := k.eq r2
  obtain ⟨P, Z, p, hx⟩ := exa_kit I xc ex r1
  exact PySem.W.kia_one Z I.kIn p hk hx fun tk => ⟨.bl b, H, I.tok tk, rfl, q⟩
def rIsiU (K : PySem.W.Frag) : List V → Hp → VK → Prop := fun xs H Q => rIsi K xs H Q ∨ rIsiX K xs H Q
theorem call_isiU : CallR X (.builtin "isinstance") (rIsiU X.K) := call_isi.or call_isiX
end

/-! ### what they are worth -/
section
variable {K : PySem.W.Frag} {e : En} {d d1 d2 : D} {m m1 m2 : Md} {te : TE} {ta : TA} {C : Addr} {f g : Str} {fs : List (Str × D)} {b : Bool}
theorem gr_exc {H T : Hp} {a dd : Addr} {fvs : List (Str × V)} (s : Le T H) (ha : H a = none) (hd : H dd = none) (hne : dd ≠ a) :
    Gr H T (upd (upd H dd (exd dd fvs)) a (exo a C (some dd))) (upd (upd T dd (exd dd fvs)) a (exo a C (some dd))) :=
  (Gr.new s hd).trans (Gr.new (Gr.new s hd).s (by rw [upd_ne hne.symm]; exact ha))
theorem upd_over {H : Hp} {a dd : Addr} {u v w : HO} (hne : dd ≠ a) : upd (upd (upd H a u) dd w) a v = upd (upd H dd w) a v := by
  funext b
  by_cases h1 : b = a
  · subst h1; rw [upd_same, upd_same]
  · rw [upd_ne h1, upd_ne h1]
    by_cases h2 : b = dd
    · subst h2; rw [upd_same, upd_same]
    · rw [upd_ne h2, upd_ne h2, upd_ne h1]
theorem ev_mkX1 (h : EvD K ta e [d1]) : Ev K m (tMkX C (spX1 C f) ta) e (excD K C [(f, d1)]) := Ev.up fun B T0 σ H T s Q q => h B T0 σ H T s _ fun vs H1 T1 g1 i1 => by
  have i := i1.iss
  cases i with
  | @cons v _ _ _ ia i2 =>
    cases i2
    refine ⟨by simp, fun a ha => ⟨a, v, rfl, upd_same, fun dd hd hne => ⟨rfl, ?_⟩⟩⟩
    rw [upd_ne hne] at hd
    rw [upd_over hne]
    have g2 := gr_exc (C := C) (fvs := [(f, v)]) g1.s ha hd hne
    exact q _ _ _ (g1.trans g2) (is_exc ⟨a, dd, _, rfl, upd_same, by rw [upd_ne hne, upd_same], .cons (Is.mono g2.t _ ia) .nil⟩)
theorem ev_mkX2 (h : EvD K ta e [d1, d2]) : Ev K m (tMkX C (spX2 C f g) ta) e (excD K C [(g, d2), (f, d1)]) := Ev.up fun B T0 σ H T s Q q => h B T0 σ H T s _ fun vs H1 T1 g1 i1 => by
  have i := i1.iss
  cases i with
  | @cons v _ _ _ ia i2 =>
    cases i2 with
    | @cons v2 _ _ _ ib i3 =>
      cases i3
      refine ⟨by simp, fun a ha => ⟨a, v, v2, rfl, upd_same, fun dd hd hne => ⟨rfl, ?_⟩⟩⟩
      rw [upd_ne hne] at hd
      rw [upd_over hne]
      have g2 := gr_exc (C := C) (fvs := [(g, v2), (f, v)]) g1.s ha hd hne
      exact q _ _ _ (g1.trans g2) (is_exc ⟨a, dd, _, rfl, upd_same, by rw [upd_ne hne, upd_same], .cons (Is.mono g2.t _ ib) (.cons (Is.mono g2.t _ ia) .nil)⟩)
theorem ev_mkX0 : Ev K m (tMkX0 C) e (excD0 C) := Ev.up fun B T0 σ H T s Q q a ha => by
  have g2 := Gr.new (o := ExO (.ref C) a) s.gr.s ha
  exact q _ _ _ g2 (is_exc0 ⟨a, rfl, upd_same⟩)
theorem abs_any {p : Hp → V → Prop} {B H T : Hp} {v : V} (h : MIs m K B H T v (.abs p)) (hB : Le B H) (hT : Le T H) : ∃ H0, Le H0 H ∧ p H0 v ∧ ((m = .dat ∧ H0 = T) ∨ (m = .now ∧ H0 = H) ∨ (m = .bor ∧ (H0 = T ∨ H0 = B))) := by
  cases m with
  | dat =>
    have h' : Is K T v (.abs p) := h
    cases h' with
    | abs h => exact ⟨T, hT, h T (Le.refl T), .inl ⟨rfl, rfl⟩⟩
  | now =>
    have h' : Is K H v (.abs p) := h
    cases h' with
    | abs h => exact ⟨H, Le.refl H, h H (Le.refl H), .inr (.inl ⟨rfl, rfl⟩)⟩
  | bor =>
    rcases h with h | h
    · cases h with
      | abs h => exact ⟨T, hT, h T (Le.refl T), .inr (.inr ⟨rfl, .inl rfl⟩)⟩
    · cases h with
      | abs h => exact ⟨B, hB, h B (Le.refl B), .inr (.inr ⟨rfl, .inr rfl⟩)⟩
/-- a field of an exception -/
theorem ev_atX (h : Ev K m te e (excD K C fs)) (c : XC K C) (n : NoAttr K C f) (hl : fs.lookup f = some d) : Ev K m (tAt K te f) e d := fun B T0 σ H T s Q q => h B T0 σ H T s _ fun v H1 T1 g i => by
  obtain ⟨H0, h0, h1, hm⟩ := abs_any i (s.gr.h.trans g.h) g.s
  obtain ⟨a, dd, fvs, rfl, ha, hd, hf⟩ := h1
  obtain ⟨v, l, iv⟩ := hf.lookup hl
  refine .inr ⟨a, C, dd, fvs, v, rfl, ⟨c, n⟩, h0 _ _ ha, h0 _ _ hd, l, q v H1 T1 g ?_⟩
  rcases hm with ⟨rfl, rfl⟩ | ⟨rfl, rfl⟩ | ⟨rfl, rfl | rfl⟩
  · exact iv
  · exact iv
  · exact .inl iv
  · exact .inr iv
/-- a field of an instance -/
theorem ev_at (h : Ev K m te e (.ins C fs)) (c : Cls K C) (n : NoAttr K C f) (hl : fs.lookup f = some d) : Ev K m (tAt K te f) e d := fun B T0 σ H T s Q q => h B T0 σ H T s _ fun v H1 T1 g i => by
  have key : ∃ H0, Le H0 H1 ∧ Is K H0 v (.ins C fs) ∧ ∀ u, Is K H0 u d → MIs m K B H1 T1 u d := by
    cases m with
    | dat => exact ⟨T1, g.s, i, fun _ h => h⟩
    | now => exact ⟨H1, Le.refl _, i, fun _ h => h⟩
    | bor =>
      rcases i with i | i
      · exact ⟨T1, g.s, i, fun _ h => .inl h⟩
      · exact ⟨B, s.gr.h.trans g.h, i, fun _ h => .inr h⟩
  obtain ⟨H0, h0, i0, k⟩ := key
  cases i0 with
  | @ins a _ dx fvs _ ha hf =>
    obtain ⟨v, l, iv⟩ := hf.lookup hl
    exact .inl ⟨a, C, dx, fvs, v, rfl, h0 _ _ ha, ⟨c, n⟩, l, q v H1 T1 g (k v iv)⟩
/-- isinstance of an exception -/
theorem exa_of {H : Hp} {v : V} (h : ExH K C fs H v) : ExA C v H := by
  obtain ⟨a, dd, fvs, rfl, h1, h2, _⟩ := h
  exact ⟨a, rfl, .inl ⟨dd, fvs, h1, h2⟩⟩
theorem exa_of0 {H : Hp} {v : V} (h : ExH0 C H v) : ExA C v H := by
  obtain ⟨a, rfl, h1⟩ := h
  exact ⟨a, rfl, .inr h1⟩
/-- the data is an exception of that class -/
def IsX (K : PySem.W.Frag) (C : Addr) (d : D) : Prop := ∀ H v, Is K H v d → ExA C v H
theorem isX_excD : IsX K C (excD K C fs) := fun H v h => exa_of (exc_is h)
theorem isX_excD0 : IsX K C (excD0 C) := fun H v h => exa_of0 (exc0_is h)
theorem rl_isiX {c : V} {u : Value} (hx : IsX K C d) (xc : XC K C) (hc : ClsV c u) (hk : PySem.W.kitOne K (.ref C) u = some b) : RL K [m1, m2] m (rIsiU K) [d, .raw c] (.bl b) := fun B H T vs hB hT hm Q q => by
  match vs, hm with
  | [v, w], hm =>
    have i1 := hm.1.now hB hT
    have i2 := hm.2.1.now hB hT
    cases i2
    exact .inr ⟨v, c, C, u, b, rfl, hc, xc, hx _ _ i1, hk, q _ H T (Gr.refl hT) (MIs.dat (.bl b) hT)⟩
theorem RL.isl {ds : List D} {ms : List Md} (h : RL K ms m (rIsi K) ds d) : RL K ms m (rIsiU K) ds d := fun B H T vs hB hT hm Q q => .inl (h B H T vs hB hT hm Q q)
end
/-! ### which class is above which -/
/-- own error classes without one below: none is above another one; ValueError and FullhandsError are above all -/
def kitTab (l : List Str) (K : PySem.W.Frag) : Bool := l.all fun x => (decide (PySem.W.kitOne K (.ref (gA K x)) (.type "ValueError") = some true) && decide (PySem.W.kitOne K (.ref (gA K x)) (.ref (gA K "FullhandsError")) = some true)) &&
  l.all fun y => decide (PySem.W.kitOne K (.ref (gA K x)) (.ref (gA K y)) = some (decide (x = y)))
section
variable {K : PySem.W.Frag} {l : List Str} {x y : Str}
theorem kitTab.one (h : kitTab l K = true) (hx : x ∈ l) (hy : y ∈ l) : PySem.W.kitOne K (.ref (gA K x)) (.ref (gA K y)) = some (decide (x = y)) := by
  have h1 := List.all_eq_true.mp h x hx
  exact of_decide_eq_true (List.all_eq_true.mp (and2 h1).2 y hy)
theorem kitTab.val (h : kitTab l K = true) (hx : x ∈ l) : PySem.W.kitOne K (.ref (gA K x)) (.type "ValueError") = some true := of_decide_eq_true (and2 (and2 (List.all_eq_true.mp h x hx)).1).1
theorem kitTab.own (h : kitTab l K = true) (hx : x ∈ l) : PySem.W.kitOne K (.ref (gA K x)) (.ref (gA K "FullhandsError")) = some true := of_decide_eq_true (and2 (and2 (List.all_eq_true.mp h x hx)).1).2
end
end Fh

set_option Elab.async false
set_option linter.all false
set_option maxRecDepth 100000
set_option maxHeartbeats 4000000
/-! Fh: more words: lists and tuples put together, == of data, what stands at a place -/
namespace Fh
open PySem PySem.Spec PyProof.Rows L2
section
variable {K : PySem.W.Frag} {e : En} {d d1 d2 : D} {ds xs ys : List D} {m m1 m2 : Md} {te ta tb : TE} {o : OD} {b : Bool}
/-! ### + of lists, of tuples -/
theorem rdo_cat (hz : xs.length + ys.length ≤ sizeLine) : RDO K .dat .dat (rPlus K) (.lst xs) (.lst ys) (.lst (xs ++ ys)) := fun B H T x y hB hT h1 h2 Q q => by
  cases h1 with
  | @lst a vs _ ha hi =>
    cases h2 with
    | @lst a2 vs2 _ ha2 hi2 =>
      refine .inl (.inr ⟨a, a2, vs, vs2, rfl, rfl, hT _ _ ha, hT _ _ ha2, by rw [hi.length, hi2.length]; exact hz, fun p hp => ?_⟩)
      exact q p _ _ (Gr.own hT hp) hp (hT.back hp) ⟨_, upd_same, hi.append hi2⟩
theorem evo_cat (ha : Ev K .dat ta e (.lst xs)) (hb : Ev K .dat tb e (.lst ys)) (hz : xs.length + ys.length ≤ sizeLine) : EvO K (tOp (rPlus K) ta tb) e (.lst (xs ++ ys)) := ev_opO ha hb (rdo_cat hz)
theorem ev_cat (ha : Ev K .dat ta e (.lst xs)) (hb : Ev K .dat tb e (.lst ys)) (hz : xs.length + ys.length ≤ sizeLine) : Ev K m (tOp (rPlus K) ta tb) e (.lst (xs ++ ys)) := (evo_cat ha hb hz).dat
theorem ev_catT (ha : Ev K .dat ta e (.tup xs)) (hb : Ev K .dat tb e (.tup ys)) (hz : xs.length + ys.length ≤ sizeLine) : Ev K m (tOp (rPlus K) ta tb) e (.tup (xs ++ ys)) := ev_op ha hb fun B H T x y hB hT h1 h2 Q q => by
  cases h1 with
  | @tup a vs _ ha hi =>
    cases h2 with
    | @tup a2 vs2 _ ha2 hi2 =>
      refine .inr (.inl ⟨a, a2, vs, vs2, rfl, rfl, hT.sqT ha, hT.sqT ha2, by rw [hi.length, hi2.length]; exact hz, fun h => ?_, fun h h' => ?_, fun _ _ p hp => ?_⟩)
      · subst h
        cases hi
        exact q _ _ _ (Gr.refl hT) (MIs.dat (.tup ha2 hi2) hT)
      · subst h'
        cases hi2
        rw [List.append_nil] at q
        exact q _ _ _ (Gr.refl hT) (MIs.dat (.tup ha hi) hT)
      · have g := Gr.new (o := .tup (vs ++ vs2)) hT hp
        exact q _ _ _ g (MIs.dat (.tup (SqT.of upd_same) (Iss.mono g.t _ (hi.append hi2))) g.s)
/-! ### == of lists of truth values; of data without them -/
theorem shps_bls {n : Nat} : ∀ ns : List Bool, shps n (ns.map D.bl) = true
  | [] => rfl
  | _ :: ns => by
    have := shps_bls (n := n) ns
    simp only [List.map_cons, shps, shp, this, Bool.and_self]
theorem eqv_bls : ∀ ns ms : List Bool, PyData.eqvAll (toPys (ns.map D.bl)) (toPys (ms.map D.bl)) = decide (ns = ms)
  | [], [] => rfl
  | [], _ :: _ => rfl
  | _ :: _, [] => rfl
  | n :: ns, k :: ms => by
    have ih := eqv_bls ns ms
    show ((n == k) && PyData.eqvAll (toPys (ns.map D.bl)) (toPys (ms.map D.bl))) = _
    rw [ih, Bool.beq_eq_decide_eq]
    by_cases h : n = k
    · subst h; simp
    · simp [h]
theorem ev_eqB {ns ms : List Bool} (ha : Ev K .now ta e (.lst (ns.map D.bl))) (hb : Ev K .now tb e (.lst (ms.map D.bl))) : Ev K m (tOp (rEqU K) ta tb) e (.bl (decide (ns = ms))) := by
  have e : PyData.eqv (toPy (.lst (ns.map D.bl))) (toPy (.lst (ms.map D.bl))) = decide (ns = ms) := eqv_bls ns ms
  rw [← e]
  exact ev_op ha hb (rd_eqD (n1 := 1) (n2 := 1) (shps_bls ns) (shps_bls ms))
theorem ev_neB {ns ms : List Bool} (ha : Ev K .now ta e (.lst (ns.map D.bl))) (hb : Ev K .now tb e (.lst (ms.map D.bl))) : Ev K m (tOp (rNeU K) ta tb) e (.bl (decide (ns ≠ ms))) := by
  have e : PyData.eqv (toPy (.lst (ns.map D.bl))) (toPy (.lst (ms.map D.bl))) = decide (ns = ms) := eqv_bls ns ms
  rw [decide_not, ← e]
  exact ev_op ha hb (rd_neD (n1 := 1) (n2 := 1) (shps_bls ns) (shps_bls ms))
mutual
/-- no truth value in it -/
def noB : D → Bool
  | .bl _ => false
  | .lst ds => noBs ds
  | .tup ds => noBs ds
  | _ => true
def noBs : List D → Bool
  | [] => true
  | d :: ds => noB d && noBs ds
end
mutual
theorem eqv_sm : ∀ (n : Nat) (a b : D), shp n a = true → shp n b = true → noB a = true → noB b = true → PyData.eqv (toPy a) (toPy b) = sm a b
  | n, a, b, ha, hb, na, nb => by
    cases a with
    | bl x => simp [noB] at na
    | raw x => simp [shp] at ha
    | rol x => simp [shp] at ha
    | abs x => simp [shp] at ha
    | ins x y => simp [shp] at ha
    | non => cases b <;> first | rfl | (simp [noB] at nb; done) | (simp [shp] at hb; done)
    | int x => cases b <;> first | (simp [noB] at nb; done) | (simp [shp] at hb; done) | rfl | (show (x == _) = decide _; rw [Bool.beq_eq_decide_eq])
    | str x => cases b <;> first | (simp [noB] at nb; done) | (simp [shp] at hb; done) | rfl | (show (x == _) = decide _; rw [Bool.beq_eq_decide_eq])
    | lst xs =>
      cases b with
      | lst ys =>
        cases n with
        | zero => simp [shp] at ha
        | succ n =>
          show PyData.eqvAll (toPys xs) (toPys ys) = sms xs ys
          exact eqv_sms n xs ys (by simpa [shp] using ha) (by simpa [shp] using hb) (by simpa [noB] using na) (by simpa [noB] using nb)
      | bl x => simp [noB] at nb
      | raw x => simp [shp] at hb
      | rol x => simp [shp] at hb
      | abs x => simp [shp] at hb
      | ins x y => simp [shp] at hb
      | non => rfl
      | int x => rfl
      | str x => rfl
      | tup x => rfl
    | tup xs =>
      cases b with
      | tup ys =>
        cases n with
        | zero => simp [shp] at ha
        | succ n =>
          show PyData.eqvAll (toPys xs) (toPys ys) = sms xs ys
          exact eqv_sms n xs ys (by simpa [shp] using ha) (by simpa [shp] using hb) (by simpa [noB] using na) (by simpa [noB] using nb)
      | bl x => simp [noB] at nb
      | raw x => simp [shp] at hb
      | rol x => simp [shp] at hb
      | abs x => simp [shp] at hb
      | ins x y => simp [shp] at hb
      | non => rfl
      | int x => rfl
      | str x => rfl
      | lst x => rfl
theorem eqv_sms : ∀ (n : Nat) (as bs : List D), shps n as = true → shps n bs = true → noBs as = true → noBs bs = true → PyData.eqvAll (toPys as) (toPys bs) = sms as bs
  | _, [], [], _, _, _, _ => rfl
  | _, [], _ :: _, _, _, _, _ => rfl
  | _, _ :: _, [], _, _, _, _ => rfl
  | n, a :: as, b :: bs, ha, hb, na, nb => by
    simp only [shps, Bool.and_eq_true] at ha hb
    simp only [noBs, Bool.and_eq_true] at na nb
    show (PyData.eqv (toPy a) (toPy b) && PyData.eqvAll (toPys as) (toPys bs)) = (sm a b && sms as bs)
    rw [eqv_sm n a b ha.1 hb.1 na.1 nb.1, eqv_sms n as bs ha.2 hb.2 na.2 nb.2]
end
theorem ev_eqD (n : Nat) (ha : Ev K .now ta e d1) (hb : Ev K .now tb e d2) (h1 : shp n d1 = true) (h2 : shp n d2 = true) (n1 : noB d1 = true) (n2 : noB d2 = true) (hn : n ≤ 64 := by decide) : Ev K m (tOp (rEqU K) ta tb) e (.bl (sm d1 d2)) := by
  rw [← eqv_sm n d1 d2 h1 h2 n1 n2]
  exact ev_op ha hb (rd_eqD h1 h2 hn hn)
theorem ev_neD (n : Nat) (ha : Ev K .now ta e d1) (hb : Ev K .now tb e d2) (h1 : shp n d1 = true) (h2 : shp n d2 = true) (n1 : noB d1 = true) (n2 : noB d2 = true) (hn : n ≤ 64 := by decide) : Ev K m (tOp (rNeU K) ta tb) e (.bl (!sm d1 d2)) := by
  rw [← eqv_sm n d1 d2 h1 h2 n1 n2]
  exact ev_op ha hb (rd_neD h1 h2 hn hn)
/-! ### isinstance where own classes stand about -/
theorem ev_isiX {C : Addr} {c : V} {u : Value} {tc : TE} (ha : Ev K .now ta e d) (hb : Ev K .now tc e (.raw c)) (hx : IsX K C d) (xc : XC K C) (hc : ClsV c u) (hk : PySem.W.kitOne K (.ref C) u = some b) : Ev K m (tCB (rIsiU K) (tCons ta (tCons tc tNil))) e (.bl b) :=
  ev_cb (ea_cons ha (ea_cons hb ea_nil)) (rl_isiX hx xc hc hk)
end
end Fh

set_option Elab.async false
set_option linter.all false
set_option maxRecDepth 100000
set_option maxHeartbeats 4000000
/-! Fh: defs that may raise, raise, try .. except -/
namespace Fh
open PySem PySem.Spec PyProof.Rows L2

/-! ### promises -/
def SpRX (K : PySem.W.Frag) {α : Type} (ms : List Md) (args : α → List D) (pre : α → Prop) (out : α → D → Prop) (exc : α → Addr → Option (List (Str × D)) → Prop) : Sp := fun vs H Q E =>
  ∃ (T : Hp) (x : α), Le T H ∧ pre x ∧ MIss K H H T ms vs (args x) ∧ (∀ d v H' T', out x d → Gr H T H' T' → Is K T' v d → Q v H') ∧ ∀ C o od H' T', exc x C o → Gr H T H' T' → XIs K T' od o → E (.ref C) od H'
/-- a def that may raise, callable by its name -/
structure DfX (P : Program) (w : World) (K : PySem.W.Frag) (mg : Str → Option Value) (base : Heap) (x : Str) (k : Nat) (dvs : List V) (sp : Sp) : Prop where
  ex : ∃ (f : Addr) (fd : FuncData) (ps : List Str) (ds : List Value), FnOk P w K mg base (L2.CX P w) k f fd ps sp ∧ mg x = some (.ref f) ∧ PySem.W.keepIn K (.ref f) = true ∧ Binds K fd ps ds ∧ Vals dvs ds
def BodyX (P : Program) (w : World) (K : PySem.W.Frag) (mg : Str → Option Value) (base : Heap) (x : Str) (st : Stmt) (N : List Str) (k : Nat) {α : Type} (ms : List Md) (args : α → List D) (pre : α → Prop) (out : α → D → Prop) (exc : α → Addr → Option (List (Str × D)) → Prop) : Prop :=
  ∀ (f : Addr) (cdv : Value) (A : Around) (outer : List Env) (s : Shared) (H : Hp) (E : XK), Room k (A.deeper (envOfC x (defScope st) s.heap.objs.size f cdv)) →
    ∃ t, PSs (cxOf (L2.CX P w) P w K mg base N x (defScope st) f cdv A outer s H E) (defBody st) t ∧ ∀ a, pre a → Run K (lift E) t (En0 ms (args a) (N.length - ms.length)) { nx := fun _ => out a .non, rt := out a, ex := fun _ => exc a }
section
variable {P : Program} {w : World} {K : PySem.W.Frag} {mg : Str → Option Value} {base : Heap}
theorem fn_okX {nm x : Str} {st : Stmt} {dvs : List V} {kws : List (Str × V)} {f : Addr} {fd : FuncData} {N ps : List Str} {k : Nat} {α : Type} {ms : List Md} {args : α → List D} {pre : α → Prop} {out : α → D → Prop} {exc : α → Addr → Option (List (Str × D)) → Prop}
    (F : FunD K nm x (defArgs st) (defBody st) (defScope st) dvs kws f fd) (S : FnScope N ps (defScope st)) (hn : ms.length = ps.length) (hN : ms.length ≤ N.length) (hb : BodyX P w K mg base x st N k ms args pre out exc) :
    FnOk P w K mg base (L2.CX P w) (k + 1) f fd ps (SpRX K ms args pre out exc) := by
  refine F.ok S (fun vs H Q E h => ?_) (fun cdv A outer s H vs Q E hr h => ?_)
  · obtain ⟨T, a, _, _, hm, _⟩ := h
    rw [hm.len.1, hn]
  · obtain ⟨t, ht, hrun⟩ := hb f cdv A outer s H E hr
    obtain ⟨T, a, hT, hp, hm, hq, hx⟩ := h
    refine ⟨t, ht, hrun a hp H T _ H T _ (sat_start hT hm hN) ⟨fun e σ H' T' p s' => ?_, fun d v H' T' p g i => ?_, fun _ _ _ _ p => p.elim, fun _ _ _ _ p => p.elim, fun e σ H' T' C od o p s' x => ?_, fun _ _ _ _ p => p.elim⟩⟩
    · exact hq .non .non H' T' p s'.gr .non
    · exact hq d v H' T' p g i
    · exact hx C o od H' T' p s'.gr x
theorem Dd.dfX {x : Str} {st : Stmt} {N ps : List Str} {k : Nat} {α : Type} {ms : List Md} {args : α → List D} {pre : α → Prop} {out : α → D → Prop} {exc : α → Addr → Option (List (Str × D)) → Prop}
    (F : Dd K mg x st [] []) (S : FnScope N ps (defScope st)) (hn : ms.length = ps.length) (hN : ms.length ≤ N.length)
    (bd : ∀ (kV doc pm : Value) (an : Option Addr) (cdv ct : Value) (us : List Value), us.length = ps.length → bindArgs (PySem.W.fnOf x x (defArgs st) (defBody st) (defScope st) .none kV doc pm an cdv ct) ⟨us, []⟩ = pure (ps.zip us))
    (hb : BodyX P w K mg base x st N k ms args pre out exc) : DfX P w K mg base x (k + 1) [] (SpRX K ms args pre out exc) := by
  obtain ⟨f, fd, F, hm⟩ := F
  exact ⟨f, fd, ps, [], fn_okX F S hn hN hb, hm, F.kp, F.bindsN bd, .nil⟩
theorem DfX.mono {x : Str} {j k : Nat} {dvs : List V} {sp : Sp} (F : DfX P w K mg base x j dvs sp) (h : j ≤ k) : DfX P w K mg base x k dvs sp := by
  obtain ⟨f, fd, ps, ds, F, r⟩ := F.ex
  exact ⟨f, fd, ps, ds, F.mono h, r⟩
end
section
variable {X : Cx} {k : Nat} {sp : Sp} {dvs : List V} {x : Str} {p pos : Pos} {e : Expr} {es : List Expr} {t : TA} {W : WX}
theorem pe_dfX (G : DfX X.prog X.w X.K X.mg X.base x k [] sp) (hr : Room k X.A) (hg : Gl X x) (tk : Takes X W) (ha : PA X (e :: es) t) (hdb : (x == ("__debug__" : Str)) = false := by decide)
    (he : starEach (e :: es) X.env = (false, eval e X.env) :: starEach es X.env := by rfl) (hpl : (backTo pos (starEach es X.env)).any (·.1) = false := by rfl) :
    PE X (.Call (.Name x p) (e :: es) [] pos) (tCallS sp (WE W) t) := by
  obtain ⟨f, fd, ps, ds, F, hm, hk, hb, hd⟩ := G.ex
  cases hd
  exact pe_callS F hr hg hm hk hb (fun σ => passAt tk σ) ha hdb he hpl
/-- raise C(..), C's own __init__ -/
theorem ps_raiseX {C : Addr} {pos2 : Pos} (hc : X.calm = true) (G : DX X.prog X.w X.K X.mg X.base x C sp) (hr : Room 2 X.A) (hg : Gl X x) (tk : Takes X W) (ha : PA X (e :: es) t) (hdb : (x == ("__debug__" : Str)) = false := by decide)
    (he : starEach (e :: es) X.env = (false, eval e X.env) :: starEach es X.env := by rfl) (hpl : (backTo pos (starEach es X.env)).any (·.1) = false := by rfl) :
    PS X (.Raise (some (.Call (.Name x p) (e :: es) [] pos)) none pos2) (fun _ σ H => tMkO C sp [] t σ H fun cls d H' => W cls d σ H') := by
  obtain ⟨fI, fd, ps, F, M, hb⟩ := G.ex
  exact ps_raise hc tk (pmk_oex M.c.o M.i M.t F hr hb .nil pass0 hg M.g ha hdb he hpl)
/-- raise C(), no __init__ -/
theorem ps_raiseX0 {C : Addr} {pos2 : Pos} (hc : X.calm = true) (M : XN X.K X.mg x C) (hg : Gl X x) (tk : Takes X W) (hdb : (x == ("__debug__" : Str)) = false := by decide) :
    PS X (.Raise (some (.Call (.Name x p) [] [] pos)) none pos2) (fun _ σ H => W (.ref C) none σ H) := by
  refine ps_raise (t := fun _ H Q => Q (.ref C) none H) hc tk ?_
  obtain ⟨bb, hi, rfl⟩ := M.i
  intro pins s σ H Q I h
  refine wpAny_Call_Name_kw (ld_glob I hg M.g ?_ hdb)
  refine PySem.W.callWith_K0 I.kIn M.c.o.kC ?_
  show wpAny _ _ (call (.ref C) []) _ _ _
  obtain ⟨bm, N, nm, qn, bs, hdct, sn, sub, ab, col, dd, k0, k1, k2, k3, k5, mN, hC, hN, hni, T⟩ := exc_obj I.kIn hi
  refine wpAny_call_exc_subT PySem.F.excBase_ValueError T hC hN hni (fun h' a hm => ?_) (Nat.zero_le _)
  exact mk_of I hm (raises_own M.c.o.exC M.c.o.tyC) h (I.hok.gone hm.new)
end

/-! ### expressions that may raise -/
def EvX (K : PySem.W.Frag) (W : WX) (te : TE) (e : En) (pr : D → Prop) (pe : Addr → Option (List (Str × D)) → Prop) : Prop := ∀ (B T0 : Hp) (σ : L2.St) (H T : Hp), Sat K B T0 e σ H T → ∀ Q : VK,
  (∀ d v H' T', pr d → Gr H T H' T' → Is K T' v d → Q v H') → (∀ C o od H' T', pe C o → Gr H T H' T' → XIs K T' od o → W (.ref C) od σ H') → te σ H Q
def EvAX (K : PySem.W.Frag) (W : WX) (ta : TA) (e : En) (pr : List D → Prop) (pe : Addr → Option (List (Str × D)) → Prop) : Prop := ∀ (B T0 : Hp) (σ : L2.St) (H T : Hp), Sat K B T0 e σ H T → ∀ Q : List V → Hp → Prop,
  (∀ ds vs H' T', pr ds → Gr H T H' T' → Iss K T' vs ds → Q vs H') → (∀ C o od H' T', pe C o → Gr H T H' T' → XIs K T' od o → W (.ref C) od σ H') → ta σ H Q
theorem XIs.mono {K : PySem.W.Frag} {T T' : Hp} (e : Le T T') : ∀ {od : Option Addr} {o : Option (List (Str × D))}, XIs K T od o → XIs K T' od o
  | none, none, _ => trivial
  | some _, some fs, h => by
    obtain ⟨fvs, h1, h2⟩ := h
    exact ⟨fvs, e _ _ h1, Isf.mono e fs h2⟩
  | none, some _, h => h.elim
  | some _, none, h => h.elim
section
variable {K : PySem.W.Frag} {W : WX} {e : En} {d d1 d2 : D} {te : TE} {ta : TA} {pr pr' : D → Prop} {prs : List D → Prop} {pe pe' : Addr → Option (List (Str × D)) → Prop} {P : Po} {i : Nat} {m : Md} {ms : List Md} {α : Type} {args : α → List D} {pre : α → Prop} {out : α → D → Prop} {exc : α → Addr → Option (List (Str × D)) → Prop}
theorem evx_call (a : α) (hp : pre a) (h : EvA K ms ta e (args a)) : EvX K W (tCallS (SpRX K ms args pre out exc) (WE W) ta) e (out a) (exc a) := fun B T0 σ H T s Q q qx => h B T0 σ H T s _ fun vs H1 T1 g i =>
  ⟨T1, a, g.s, hp, i.rebase (s.gr.h.trans g.h) g.s, fun d v H2 T2 hd g2 i2 => q d v H2 T2 hd (g.trans g2) i2, fun C o od H2 T2 hx g2 x => qx C o od H2 T2 hx (g.trans g2) x⟩
theorem evx_of (h : Ev K .dat te e d) : EvX K W te e (fun x => x = d) (fun _ _ => False) := fun B T0 σ H T s Q q _ => h B T0 σ H T s Q fun v H' T' g i => q d v H' T' rfl g i
theorem EvX.imp (h : EvX K W te e pr pe) (h1 : ∀ d, pr d → pr' d) (h2 : ∀ C o, pe C o → pe' C o) : EvX K W te e pr' pe' := fun B T0 σ H T s Q q qx => h B T0 σ H T s Q (fun d v H' T' p => q d v H' T' (h1 d p)) fun C o od H' T' p => qx C o od H' T' (h2 C o p)
theorem eax_nil : EvAX K W tNil e (fun ds => ds = []) pe := fun B T0 σ H T s Q q _ => q [] [] H T rfl (Gr.refl s.gr.s) .nil
theorem eax_cons (h : EvX K W te e pr pe) (hr : EvAX K W ta e prs pe) : EvAX K W (tCons te ta) e (fun l => ∃ d ds, l = d :: ds ∧ pr d ∧ prs ds) pe := fun B T0 σ H T s Q q qx =>
  h B T0 σ H T s _ (fun d v H1 T1 p g1 i1 => hr B T0 σ H1 T1 (s.grow g1) _ (fun ds vs H2 T2 ps g2 i2 => q (d :: ds) (v :: vs) H2 T2 ⟨d, ds, rfl, p, ps⟩ (g1.trans g2) (.cons (Is.mono g2.t d i1) i2))
    fun C o od H2 T2 p g2 x => qx C o od H2 T2 p (g1.trans g2) x) qx
theorem evx_tup (h : EvAX K W ta e prs pe) (hl : ∀ ds, prs ds → ds.length ≤ sizeLine) : EvX K W (tTup ta) e (fun d => ∃ ds, prs ds ∧ d = .tup ds) pe := fun B T0 σ H T s Q q qx =>
  h B T0 σ H T s _ (fun ds vs H1 T1 p g1 i1 => ⟨by rw [i1.length]; exact hl ds p, fun a ha => by
    have g2 := Gr.new (o := .tup vs) g1.s ha
    exact q (.tup ds) _ _ _ ⟨ds, p, rfl⟩ (g1.trans g2) (.tup (SqT.of upd_same) (Iss.mono g2.t _ i1))⟩) qx
theorem run_asgX (h : EvX K W te e pr pe) (q : ∀ d, pr d → P.nx (e.set i (.dat d))) (qx : ∀ C o, pe C o → P.ex e C o) : Run K W (tAsg te (gName i)) e P := fun B T0 σ H T D s f =>
  h B T0 σ H T s _ (fun d v H1 T1 p g i1 => f.nx _ _ H1 T1 (q d p) ((s.grow g).set (m := .dat) (fun z => nomatch z) i1)) fun C o od H1 T1 p g x => f.ex _ _ H1 T1 C od o (qx C o p) (s.grow g) x
theorem run_retX (h : EvX K W te e pr pe) (q : ∀ d, pr d → P.rt d) (qx : ∀ C o, pe C o → P.ex e C o) : Run K W (tRet te) e P := fun B T0 σ H T D s f =>
  h B T0 σ H T s _ (fun d v H1 T1 p g i1 => f.rt d v H1 T1 (q d p) (s.gr.trans g) i1) fun C o od H1 T1 p g x => f.ex _ _ H1 T1 C od o (qx C o p) (s.grow g) x
theorem run_dropX (h : EvX K W te e pr pe) (q : ∀ d, pr d → P.nx e) (qx : ∀ C o, pe C o → P.ex e C o) : Run K W (tDrop te) e P := fun B T0 σ H T D s f =>
  h B T0 σ H T s _ (fun d v H1 T1 p g i1 => f.nx _ _ H1 T1 (q d p) (s.grow g)) fun C o od H1 T1 p g x => f.ex _ _ H1 T1 C od o (qx C o p) (s.grow g) x

/-! ### raise -/
theorem del_two {H : Hp} {a dd C : Addr} {fvs : List (Str × V)} (ha : H a = none) (hd : H dd = none) (hne : dd ≠ a) : upd (del (upd (upd (upd H a (exo a C none)) dd (exd dd fvs)) a (exo a C (some dd))) a) dd (.xd fvs) = upd H dd (.xd fvs) := by
  funext b
  by_cases h1 : b = dd
  · subst h1; rw [upd_same, upd_same]
  · rw [upd_ne h1, upd_ne h1]
    by_cases h2 : b = a
    · subst h2; rw [del_same, ha]
    · rw [del_ne h2, upd_ne h2, upd_ne h1, upd_ne h2]
theorem run_raise1 {C : Addr} {f : Str} (h : EvD K ta e [d1]) (q : P.ex e C (some [(f, d1)])) : Run K W (fun _ σ H => tMkO C (spX1 C f) [] ta σ H fun cls d H' => W cls d σ H') e P := fun B T0 σ H T Dn s ft => h B T0 σ H T s _ fun vs H1 T1 g1 i1 => by
  have i := i1.iss
  cases i with
  | @cons v _ _ _ ia i2 =>
    cases i2
    refine ⟨by simp, fun a ha => ⟨a, v, rfl, upd_same, fun dd hd hne => ⟨rfl, dd, [(f, v)], upd_same, by rw [upd_ne hne, upd_same], ?_, ?_⟩⟩⟩
    · rw [upd_ne hne] at hd; exact hd
    · rw [upd_ne hne] at hd
      rw [del_two ha hd hne]
      have g2 := Gr.new (o := .xd [(f, v)]) g1.s hd
      exact ft.ex e σ _ _ C (some dd) _ q ((s.grow g1).grow g2) ⟨[(f, v)], upd_same, .cons (Is.mono g2.t _ ia) .nil⟩
theorem run_raise2 {C : Addr} {f g : Str} (h : EvD K ta e [d1, d2]) (q : P.ex e C (some [(g, d2), (f, d1)])) : Run K W (fun _ σ H => tMkO C (spX2 C f g) [] ta σ H fun cls d H' => W cls d σ H') e P := fun B T0 σ H T Dn s ft => h B T0 σ H T s _ fun vs H1 T1 g1 i1 => by
  have i := i1.iss
  cases i with
  | @cons v _ _ _ ia i2 =>
    cases i2 with
    | @cons v2 _ _ _ ib i3 =>
      cases i3
      refine ⟨by simp, fun a ha => ⟨a, v, v2, rfl, upd_same, fun dd hd hne => ⟨rfl, dd, [(g, v2), (f, v)], upd_same, by rw [upd_ne hne, upd_same], ?_, ?_⟩⟩⟩
      · rw [upd_ne hne] at hd; exact hd
      · rw [upd_ne hne] at hd
        rw [del_two ha hd hne]
        have g2 := Gr.new (o := .xd [(g, v2), (f, v)]) g1.s hd
        exact ft.ex e σ _ _ C (some dd) _ q ((s.grow g1).grow g2) ⟨[(g, v2), (f, v)], upd_same, .cons (Is.mono g2.t _ ib) (.cons (Is.mono g2.t _ ia) .nil)⟩
theorem run_raise0 {C : Addr} (q : P.ex e C none) : Run K W (fun _ σ H => W (.ref C) none σ H) e P := fun B T0 σ H T D s f => f.ex e σ H T C none none q s trivial

/-! ### try .. except -/
/-- what the suite knows of the exception that it holds: at a, its dict od -/
def heldD (K : PySem.W.Frag) (a : Addr) (od : Option Addr) (o : Option (List (Str × D))) : D := .abs fun H v => v = .ref a ∧ XIs K H od o
theorem is_held {H : Hp} {a : Addr} {od : Option Addr} {o : Option (List (Str × D))} (h : XIs K H od o) : Is K H (.ref a) (heldD K a od o) := .abs fun _ e => ⟨rfl, h.mono e⟩
theorem held_is {H : Hp} {v : V} {a : Addr} {od : Option Addr} {o : Option (List (Str × D))} (h : Is K H v (heldD K a od o)) : v = .ref a ∧ XIs K H od o := by
  unfold heldD at h
  cases h with
  | abs h => exact h H (Le.refl H)
theorem Sat.setNo {B T0 H T : Hp} {σ : L2.St} (s : Sat K B T0 e σ H T) (i : Nat) : Sat K B T0 (e.set i .no) (σ.set i none) H T := by
  refine ⟨s.gr, by simp [s.len], fun j sl h => ?_, fun j k o1 o2 b c hjk h1 h2 h3 h4 => ?_⟩
  · by_cases hj : i = j
    · subst hj
      have hi : i < e.length := by
        have := (List.getElem?_eq_some_iff.mp h).1
        simpa using this
      rw [List.getElem?_set_self hi] at h
      cases h
      exact ⟨none, by rw [List.getElem?_set_self (by rw [s.len]; exact hi)], trivial⟩
    · rw [List.getElem?_set_ne hj] at h ⊢
      exact s.sl j sl h
  · have f : ∀ (l : Nat) o, (e.set i .no)[l]? = some (.own o) → i ≠ l := fun l o hl q => by
      subst q
      have hi : i < e.length := by
        have := (List.getElem?_eq_some_iff.mp hl).1
        simpa using this
      rw [List.getElem?_set_self hi] at hl
      cases hl
    have n1 := f j o1 h1
    have n2 := f k o2 h2
    rw [List.getElem?_set_ne n1] at h1 h3
    rw [List.getElem?_set_ne n2] at h2 h4
    exact s.sep j k o1 o2 b c hjk h1 h2 h3 h4
theorem run_tryAs {tb : WX → TS} {ts : Addr → Value → Option Addr → TS} {Wout : WX} {c : Value} (PX : En → Addr → Option (List (Str × D)) → Prop)
    (hb : ∀ W, Run K W (tb W) e { P with ex := PX })
    (hs : ∀ e' C o, PX e' C o → ∃ b, PySem.W.exmOne K (.ref C) c = some b ∧
      (b = true → ∀ a od, Run K (fun _ _ _ _ => False) (ts a (.ref C) od) (e'.set i (.dat (heldD K a od o))) { nx := fun e2 => P.nx (e2.set i .no), rt := P.rt, bk := fun e2 => P.bk (e2.set i .no), ct := fun e2 => P.ct (e2.set i .no), ro := P.ro }) ∧ (b = false → P.ex e' C o)) :
    Run K Wout (fun D σ H => tb (wAs K c i ts Wout D) D σ H) e P := fun B T0 σ H T Dn s f => by
  refine hb (wAs K c i ts Wout Dn) B T0 σ H T Dn s ⟨f.nx, f.rt, f.bk, f.ct, fun e' σ' H' T' C od o p s' x => ?_, f.ro⟩
  obtain ⟨b, h1, h2, h3⟩ := hs e' C o p
  refine ⟨b, h1, fun hb a ha => ?_, fun hb => f.ex e' σ' H' T' C od o (h3 hb) s' x⟩
  refine h2 hb a od B T0 _ H' T' _ (s'.set (m := .dat) (fun z => nomatch z) (is_held x)) ⟨fun e2 σ2 H2 T2 p2 s2 => f.nx _ _ H2 T2 p2 (s2.setNo i), f.rt, fun e2 σ2 H2 T2 p2 s2 => f.bk _ _ H2 T2 p2 (s2.setNo i), fun e2 σ2 H2 T2 p2 s2 => f.ct _ _ H2 T2 p2 (s2.setNo i), fun _ _ _ _ _ _ _ q => q.elim, f.ro⟩
theorem run_tryOnly {tb : WX → TS} {ts : Addr → Value → Option Addr → TS} {Wout : WX} {c : Value} (PX : En → Addr → Option (List (Str × D)) → Prop)
    (hb : ∀ W, Run K W (tb W) e { P with ex := PX })
    (hs : ∀ e' C o, PX e' C o → ∃ b, PySem.W.exmOne K (.ref C) c = some b ∧ (b = true → ∀ a od, Run K (fun _ _ _ _ => False) (ts a (.ref C) od) e' { P with ex := fun _ _ _ => False }) ∧ (b = false → P.ex e' C o)) :
    Run K Wout (fun D σ H => tb (wOnly K c ts Wout D) D σ H) e P := fun B T0 σ H T Dn s f => by
  refine hb (wOnly K c ts Wout Dn) B T0 σ H T Dn s ⟨f.nx, f.rt, f.bk, f.ct, fun e' σ' H' T' C od o p s' x => ?_, f.ro⟩
  obtain ⟨b, h1, h2, h3⟩ := hs e' C o p
  exact ⟨b, h1, fun hb a ha => h2 hb a od B T0 _ H' T' _ s' ⟨f.nx, f.rt, f.bk, f.ct, fun _ _ _ _ _ _ _ q => q.elim, f.ro⟩, fun hb => f.ex e' σ' H' T' C od o (h3 hb) s' x⟩
end

/-! ### in the suite: the exception's fields, isinstance -/
/-- e.f of an exception that the suite holds -/
def tAtS (K : PySem.W.Frag) (a : Addr) (cls : Value) (d : Option Addr) (f : Str) (te : TE) : TE := fun σ H Q => te σ H fun x H1 => ∃ C, cls = .ref C ∧ XC K C ∧ NoAttr K C f ∧ x = .ref a ∧ ∃ (dd : Addr) (fs : List (Str × V)) (v : V), d = some dd ∧ H1 dd = some (.xd fs) ∧ fs.lookup f = some v ∧ Q v H1
def rIsiS (K : PySem.W.Frag) (a : Addr) (cls : Value) (d : Option Addr) : List V → Hp → VK → Prop := fun xs H Q => ∃ (c : V) (C : Addr) (b : Bool), cls = .ref C ∧ XC K C ∧ (∀ dd, d = some dd → ∃ fs, H dd = some (.xd fs)) ∧ Q (.bl b) H ∧
  ((∃ u, xs = [.ref a, c] ∧ ClsV c u ∧ PySem.W.kitOne K (.ref C) u = some b) ∨ ∃ tp cs us, xs = [.ref a, .ref tp] ∧ H tp = some (.tup cs) ∧ Paired ClsV cs us ∧ PySem.W.kitAny K (.ref C) us = some b)
section
variable {X : Cx} {a : Addr} {oe : Obj} {cls : Value} {d : Option Addr} {pn : List (Addr × Obj)}
/-- the pinned exception as an instance -/
theorem pin_inst {C : Addr} {pins : List (Addr × Obj)} {σ : L2.St} {H : Hp} {s : Shared} (hz : Zc cls d oe) (hf : ∃ vs, oe.data = .fields vs) (hc : cls = .ref C) (I : Inv (X.suite a ((a, oe) :: pn)) pins σ H s)
    (hd : ∀ dd, d = some dd → ∃ fs, H dd = some (.xd fs)) :
    ∃ od, PySem.W.InstAt s.heap a oe C od ∧ ∀ dd fs f v, d = some dd → H dd = some (.xd fs) → fs.lookup f = some v → ∃ o u, od = some o ∧ PySem.W.lookIn f o = some (some u) ∧ RelV v u := by
  subst hc
  obtain ⟨ha, _⟩ := I.pin (a, oe) (List.mem_append_left _ List.mem_cons_self)
  obtain ⟨vs, hv⟩ := hf
  cases d with
  | none =>
    refine ⟨none, ?_, fun dd fs f v h => nomatch h⟩
    obtain ⟨oc, od, oda, osl⟩ := oe
    obtain ⟨h1, h2⟩ := hz
    dsimp only at h1 h2 hv
    subst h1 h2 hv
    exact ⟨ha, rfl, rfl, trivial⟩
  | some dd =>
    obtain ⟨fs, hx⟩ := hd dd rfl
    have hxo : ObjOk X.prog X.w H s.heap dd (.xd fs) := I.hok dd _ hx
    obtain ⟨mA, hns, hr⟩ := hxo
    obtain ⟨od, ho, hl⟩ := lookIn_ns hns
    refine ⟨some od, ⟨ha, hz.1, by unfold PySem.W.notCls; rw [hv] <;> rfl, by rw [hz.2]; exact ho⟩, fun dd' fs' f v e1 e2 e3 => ?_⟩
    cases e1
    rw [hx] at e2
    cases e2
    obtain ⟨u, hu, ru⟩ := RelO.some_of (v := v) (o := mA f) (by rw [← e3]; exact hr f)
    exact ⟨od, u, rfl, by rw [hl, hu], ru⟩
theorem pe_atS {e : Expr} {te : TE} {pos : Pos} {f : Str} (hz : Zc cls d oe) (hf : ∃ vs, oe.data = .fields vs) (he : PE (X.suite a ((a, oe) :: pn)) e te) (hb : attributeBase e f X.env (eval e X.env) = eval e X.env := by rfl) :
    PE (X.suite a ((a, oe) :: pn)) (.Attribute e f pos) (tAtS X.K a cls d f te) := by
  refine ⟨fun pins s σ H Q I h => ?_⟩
  refine attr_of hb (thn (he.run pins s σ H _ I h) fun u s1 hh => ?_)
  obtain ⟨x, H1, I1, rx, C, hc, xc, n, ex, dd, fs, v, ed, ea, l, q⟩ := hh
  subst ex
  obtain rfl : u = Value.ref a := rx
  obtain ⟨od, J, k⟩ := pin_inst hz hf hc I1 (fun dd' e' => by rw [ed] at e'; cases e'; exact ⟨fs, ea⟩)
  obtain ⟨o, u, rfl, hl, ru⟩ := k dd fs f v ed ea l
  exact HandSPX.exc_get I1.kIn J xc.e.hg xc.e.hk xc.e.hs (PySem.W.findObj_own xc.e.hd n rfl hl) (handed_of ru) ⟨v, H1, I1.tok _, ru, q⟩
theorem call_isiS (hz : Zc cls d oe) (hf : ∃ vs, oe.data = .fields vs) : CallR (X.suite a ((a, oe) :: pn)) (.builtin "isinstance") (rIsiS X.K a cls d) := by
  intro pins s σ H xs us Q I r h
  obtain ⟨c, C, b, hc, xc, hd, q, h⟩ := h
  obtain ⟨od, J, _⟩ := pin_inst hz hf hc I hd
  have hcl : (PySem.W.clsIn X.K C).isSome = true := by
    obtain ⟨cd, h1, _⟩ := PySem.W.any_some xc.e.hd
    rw [h1]; rfl
  have Z := PySem.W.kitx_exc (K := X.K) (x := a) (ox := oe) (od := od) hcl xc.e.hg xc.e.hk xc.e.hs xc.e.ha xc.e.hn xc.e.ht xc.e.hm
  rcases h with ⟨u, rfl, hv, hk⟩ | ⟨tp, cs, us', rfl, htp, hp, hk⟩
  · obtain ⟨u1, u2, rfl, r1, r2⟩ := vals2 r
    cases r1
    obtain rfl := hv.eq r2
    exact PySem.W.kia_one Z I.kIn J hk (fun z => nomatch z) fun tk => ⟨.bl b, H, I.tok tk, rfl, q⟩
  · obtain ⟨u1, u2, rfl, r1, r2⟩ := vals2 r
    cases r1
    cases r2
    have ho := (show ObjOk X.prog X.w H s.heap tp (.tup cs) from I.hok tp _ htp)
    obtain ⟨_, its, rv, o, h1, h2, n, h3⟩ := ho
    obtain rfl := ClsV.all hp rv
    obtain ⟨oc, odd, dt, sl⟩ := o
    dsimp only at h2 h3
    subst h2 h3
    exact PySem.W.kia_tup Z I.kIn J h1 hk (fun z => nomatch z) fun tk => ⟨.bl b, H, I.tok tk, rfl, q⟩
end

/-! ### what they are worth in the suite -/
section
variable {K : PySem.W.Frag} {e : En} {d : D} {m : Md} {te : TE} {ta : TA} {C a : Addr} {f : Str} {fs : List (Str × D)} {od : Option Addr} {o : Option (List (Str × D))} {b : Bool} {cs : List V} {us : List Value}
theorem ev_atS (h : Ev K .dat te e (heldD K a od (some fs))) (xc : XC K C) (n : NoAttr K C f) (hl : fs.lookup f = some d) : Ev K m (tAtS K a (.ref C) od f te) e d := Ev.up fun B T0 σ H T s Q q => h B T0 σ H T s _ fun v H1 T1 g i => by
  obtain ⟨rfl, hx⟩ := held_is i
  cases od with
  | none => exact hx.elim
  | some dd =>
    obtain ⟨fvs, h1, h2⟩ := hx
    obtain ⟨v, l, iv⟩ := h2.lookup hl
    exact ⟨C, rfl, xc, n, rfl, dd, fvs, v, rfl, g.s _ _ h1, l, q v H1 T1 g iv⟩
/-- the values of constants -/
def ConstA (ta : TA) (cs : List V) : Prop := ∀ σ H (Q : List V → Hp → Prop), Q cs H → ta σ H Q
theorem ca_nil : ConstA tNil [] := fun σ H Q q => q
theorem ca_cons {c : V} (h : ConstA ta cs) : ConstA (tCons (tC c) ta) (c :: cs) := fun σ H Q q => h σ H _ q
theorem held_xd {T H : Hp} (hs : Le T H) (hx : XIs K T od o) : ∀ dd, od = some dd → ∃ fs, H dd = some (.xd fs) := fun dd e => by
  subst e
  cases o with
  | none => exact hx.elim
  | some fs =>
    obtain ⟨fvs, h1, _⟩ := hx
    exact ⟨fvs, hs _ _ h1⟩
theorem ev_isiS {c : V} {u : Value} (h : Ev K .dat te e (heldD K a od o)) (xc : XC K C) (hc : ClsV c u) (hk : PySem.W.kitOne K (.ref C) u = some b) : Ev K m (tCB (rIsiS K a (.ref C) od) (tCons te (tCons (tC c) tNil))) e (.bl b) := Ev.up fun B T0 σ H T s Q q => h B T0 σ H T s _ fun v H1 T1 g i => by
  obtain ⟨rfl, hx⟩ := held_is i
  exact ⟨c, C, b, rfl, xc, held_xd g.s hx, q _ H1 T1 g (.bl b), .inl ⟨u, rfl, hc, hk⟩⟩
theorem ev_isiST (h : Ev K .dat te e (heldD K a od o)) (xc : XC K C) (ha : ConstA ta cs) (hp : Paired ClsV cs us) (hl : cs.length ≤ sizeLine) (hk : PySem.W.kitAny K (.ref C) us = some b) :
    Ev K m (tCB (rIsiS K a (.ref C) od) (tCons te (tCons (tTup ta) tNil))) e (.bl b) := Ev.up fun B T0 σ H T s Q q => h B T0 σ H T s _ fun v H1 T1 g i => by
  obtain ⟨rfl, hx⟩ := held_is i
  refine ha σ H1 _ ⟨hl, fun p hpn => ?_⟩
  have g2 := Gr.new (o := .tup cs) g.s hpn
  exact ⟨.non, C, b, rfl, xc, fun dd e => by
    obtain ⟨fs, z⟩ := held_xd g.s hx dd e
    exact ⟨fs, g2.h _ _ z⟩, q _ _ _ (g.trans g2) (.bl b), .inr ⟨p, cs, us, rfl, upd_same, hp, hk⟩⟩
end
section
variable {K : PySem.W.Frag} {l ys : List Str} {x : Str}
theorem kitTab.any (h : kitTab l K = true) (hx : x ∈ l) : ∀ ys : List Str, (∀ y ∈ ys, y ∈ l) → PySem.W.kitAny K (.ref (gA K x)) (ys.map fun y => .ref (gA K y)) = some (ys.any fun y => decide (x = y))
  | [], _ => rfl
  | y :: ys, hy => by
    refine kitAny_cons (kitTab.one h hx (hy y List.mem_cons_self)) (fun e => ?_) (fun e => ?_)
    · rw [kitTab.any h hx ys fun z hz => hy z (List.mem_cons_of_mem _ hz), List.any_cons, e]; rfl
    · rw [List.any_cons, e]; rfl
theorem paired_own (K : PySem.W.Frag) : ∀ ys : List Str, Paired ClsV (ys.map fun y => V.ref (gA K y)) (ys.map fun y => Value.ref (gA K y))
  | [] => .nil
  | _ :: ys => .cons (.own _) (paired_own K ys)
/-- except clauses -/
def exmTab (l : List Str) (K : PySem.W.Frag) : Bool := l.all fun x => (decide (PySem.W.exmOne K (.ref (gA K x)) (.type "ValueError") = some true) && decide (PySem.W.exmOne K (.ref (gA K x)) (.ref (gA K "FullhandsError")) = some true)) &&
  l.all fun y => decide (PySem.W.exmOne K (.ref (gA K x)) (.ref (gA K y)) = some (decide (x = y)))
theorem exmTab.one {y : Str} (h : exmTab l K = true) (hx : x ∈ l) (hy : y ∈ l) : PySem.W.exmOne K (.ref (gA K x)) (.ref (gA K y)) = some (decide (x = y)) := by
  have h1 := List.all_eq_true.mp h x hx
  exact of_decide_eq_true (List.all_eq_true.mp (and2 h1).2 y hy)
theorem exmTab.own (h : exmTab l K = true) (hx : x ∈ l) : PySem.W.exmOne K (.ref (gA K x)) (.ref (gA K "FullhandsError")) = some true := of_decide_eq_true (and2 (and2 (List.all_eq_true.mp h x hx)).1).2
end
/-! ### readings, named -/
def tRaise0 (K : PySem.W.Frag) (x : Str) (W : WX) : TS := fun _ σ H => W (.ref (gA K x)) none σ H
def tRaiseX (K : PySem.W.Frag) (x : Str) (sp : Sp) (ta : TA) (W : WX) : TS := fun _ σ H => tMkO (gA K x) sp [] ta σ H fun cls d H' => W cls d σ H'
def tTryA (K : PySem.W.Frag) (c : Value) (i : Nat) (tb : WX → TS) (ts : Addr → Value → Option Addr → TS) (Wout : WX) : TS := fun D σ H => tb (wAs K c i ts Wout D) D σ H
def tTryO (K : PySem.W.Frag) (c : Value) (tb : WX → TS) (ts : Addr → Value → Option Addr → TS) (Wout : WX) : TS := fun D σ H => tb (wOnly K c ts Wout D) D σ H

/-! ### defs that hand out a list of one's own -/
def SpO (K : PySem.W.Frag) {α : Type} (ms : List Md) (args : α → List D) (pre : α → Prop) (out : α → OD) : Sp := fun vs H Q _ =>
  ∃ (T : Hp) (x : α), Le T H ∧ pre x ∧ MIss K H H T ms vs (args x) ∧ ∀ a H' T', Gr H T H' T' → H a = none → T' a = none → OwnAt K H' T' a (out x) → Q (.ref a) H'
def SpXO (K : PySem.W.Frag) {α : Type} (ms : List Md) (args : α → List D) (pre : α → Prop) (out : α → OD) (good : α → Prop) (exc : α → Addr → Option (List (Str × D)) → Prop) : Sp := fun vs H Q E =>
  ∃ (T : Hp) (x : α), Le T H ∧ pre x ∧ MIss K H H T ms vs (args x) ∧ (good x → ∀ a H' T', Gr H T H' T' → H a = none → T' a = none → OwnAt K H' T' a (out x) → Q (.ref a) H') ∧ ∀ C o od H' T', exc x C o → Gr H T H' T' → XIs K T' od o → E (.ref C) od H'
def BodyO (P : Program) (w : World) (K : PySem.W.Frag) (mg : Str → Option Value) (base : Heap) (x : Str) (st : Stmt) (N : List Str) (k : Nat) {α : Type} (ms : List Md) (args : α → List D) (pre : α → Prop) (out : α → OD) : Prop :=
  ∀ (f : Addr) (cdv : Value) (A : Around) (outer : List Env) (s : Shared) (H : Hp) (E : XK), Room k (A.deeper (envOfC x (defScope st) s.heap.objs.size f cdv)) →
    ∃ t, PSs (cxOf CX0 P w K mg base N x (defScope st) f cdv A outer s H E).nox (defBody st) t ∧ ∀ a, pre a → Run K (lift E) t (En0 ms (args a) (N.length - ms.length)) { nx := fun _ => False, rt := fun _ => False, ro := fun o => o = out a }
def BodyXO (P : Program) (w : World) (K : PySem.W.Frag) (mg : Str → Option Value) (base : Heap) (x : Str) (st : Stmt) (N : List Str) (k : Nat) {α : Type} (ms : List Md) (args : α → List D) (pre : α → Prop) (out : α → OD) (good : α → Prop) (exc : α → Addr → Option (List (Str × D)) → Prop) : Prop :=
  ∀ (f : Addr) (cdv : Value) (A : Around) (outer : List Env) (s : Shared) (H : Hp) (E : XK), Room k (A.deeper (envOfC x (defScope st) s.heap.objs.size f cdv)) →
    ∃ t, PSs (cxOf (L2.CX P w) P w K mg base N x (defScope st) f cdv A outer s H E) (defBody st) t ∧ ∀ a, pre a → Run K (lift E) t (En0 ms (args a) (N.length - ms.length)) { nx := fun _ => False, rt := fun _ => False, ex := fun _ => exc a, ro := fun o => o = out a ∧ good a }
section
variable {P : Program} {w : World} {K : PySem.W.Frag} {mg : Str → Option Value} {base : Heap} {x : Str} {st : Stmt} {N ps : List Str} {k : Nat} {α : Type} {ms : List Md} {args : α → List D} {pre good : α → Prop} {out : α → OD} {exc : α → Addr → Option (List (Str × D)) → Prop}
theorem Dd.dfO (F : Dd K mg x st [] []) (S : FnScope N ps (defScope st)) (hn : ms.length = ps.length) (hN : ms.length ≤ N.length)
    (bd : ∀ (kV doc pm : Value) (an : Option Addr) (cdv ct : Value) (us : List Value), us.length = ps.length → bindArgs (PySem.W.fnOf x x (defArgs st) (defBody st) (defScope st) .none kV doc pm an cdv ct) ⟨us, []⟩ = pure (ps.zip us))
    (hb : BodyO P w K mg base x st N k ms args pre out) : Df P w K mg base x (k + 1) [] (SpO K ms args pre out) := by
  obtain ⟨f, fd, F, hm⟩ := F
  refine ⟨CX0, f, fd, ps, [], F.ok S (fun vs H Q E h => ?_) (fun cdv A outer s H vs Q E hr h => ?_), hm, F.kp, F.bindsN bd, .nil, fun X _ _ => pass0⟩
  · obtain ⟨T, a, _, _, hm, _⟩ := h
    rw [hm.len.1, hn]
  · obtain ⟨t, ht, hrun⟩ := hb f cdv A outer s H E hr
    obtain ⟨T, a, hT, hp, hm, hq⟩ := h
    refine ⟨t, ht.nox, hrun a hp H T _ H T _ (sat_start hT hm hN) ⟨fun _ _ _ _ p => p.elim, fun _ _ _ _ p => p.elim, fun _ _ _ _ p => p.elim, fun _ _ _ _ p => p.elim, fun _ _ _ _ _ _ _ p => p.elim, fun o b H' T' p g hb ht ho => ?_⟩⟩
    subst p
    exact hq b H' T' g hb ht ho
theorem Dd.dfXO (F : Dd K mg x st [] []) (S : FnScope N ps (defScope st)) (hn : ms.length = ps.length) (hN : ms.length ≤ N.length)
    (bd : ∀ (kV doc pm : Value) (an : Option Addr) (cdv ct : Value) (us : List Value), us.length = ps.length → bindArgs (PySem.W.fnOf x x (defArgs st) (defBody st) (defScope st) .none kV doc pm an cdv ct) ⟨us, []⟩ = pure (ps.zip us))
    (hb : BodyXO P w K mg base x st N k ms args pre out good exc) : DfX P w K mg base x (k + 1) [] (SpXO K ms args pre out good exc) := by
  obtain ⟨f, fd, F, hm⟩ := F
  refine ⟨f, fd, ps, [], F.ok S (fun vs H Q E h => ?_) (fun cdv A outer s H vs Q E hr h => ?_), hm, F.kp, F.bindsN bd, .nil⟩
  · obtain ⟨T, a, _, _, hm, _⟩ := h
    rw [hm.len.1, hn]
  · obtain ⟨t, ht, hrun⟩ := hb f cdv A outer s H E hr
    obtain ⟨T, a, hT, hp, hm, hq, hx⟩ := h
    refine ⟨t, ht, hrun a hp H T _ H T _ (sat_start hT hm hN) ⟨fun _ _ _ _ p => p.elim, fun _ _ _ _ p => p.elim, fun _ _ _ _ p => p.elim, fun _ _ _ _ p => p.elim, fun e σ H' T' C od o p s' x => hx C o od H' T' p s'.gr x, fun o b H' T' p g hb ht ho => ?_⟩⟩
    obtain ⟨rfl, hg⟩ := p
    exact hq hg b H' T' g hb ht ho
/-- where it raises nothing -/
theorem DfX.df {sp sp' : Sp} (F : DfX P w K mg base x k [] sp) (h : ∀ vs H Q E, sp' vs H Q E → sp vs H Q E) : Df P w K mg base x k [] sp' := by
  obtain ⟨f, fd, ps, ds, F, hm, hk, hb, hd⟩ := F.ex
  exact ⟨L2.CX P w, f, fd, ps, ds, F.imp h, hm, hk, hb, hd, fun X h1 h2 => by subst h1 h2; exact passL⟩
theorem SpXO.quiet {pre' : α → Prop} (hp : ∀ a, pre' a → pre a ∧ good a ∧ ∀ C o, ¬ exc a C o) : ∀ vs H Q E, SpO K ms args pre' out vs H Q E → SpXO K ms args pre out good exc vs H Q E := fun vs H Q E ⟨T, a, hT, h1, hm, hq⟩ =>
  ⟨T, a, hT, (hp a h1).1, hm, fun _ => hq, fun C o od H' T' hx => absurd hx ((hp a h1).2.2 C o)⟩
end
section
variable {K : PySem.W.Frag} {W : WX} {e : En} {te : TE} {ta : TA} {α : Type} {ms : List Md} {args : α → List D} {pre good : α → Prop} {out : α → OD} {exc : α → Addr → Option (List (Str × D)) → Prop}
theorem ev_callO (a : α) (hp : pre a) (h : EvA K ms ta e (args a)) : EvO K (tCall (SpO K ms args pre out) [] E0 ta) e (out a) := fun B T0 σ H T s Q q => h B T0 σ H T s _ fun vs H1 T1 g i => by
  show SpO K ms args pre out (vs ++ []) H1 Q E0
  rw [List.append_nil]
  exact ⟨T1, a, g.s, hp, i.rebase (s.gr.h.trans g.h) g.s, fun b H2 T2 g2 n1 n2 ho => q b H2 T2 (g.trans g2) (g.h.back n1) n2 ho⟩
theorem evx_callO (a : α) (hp : pre a) (h : EvA K ms ta e (args a)) : EvX K W (tCallS (SpXO K ms args pre out good exc) (WE W) ta) e (fun d => good a ∧ d = (out a).d) (exc a) := fun B T0 σ H T s Q q qx => h B T0 σ H T s _ fun vs H1 T1 g i => by
  refine ⟨T1, a, g.s, hp, i.rebase (s.gr.h.trans g.h) g.s, fun hg b H2 T2 g2 n1 n2 ho => ?_, fun C o od H2 T2 hx g2 x => qx C o od H2 T2 hx (g.trans g2) x⟩
  obtain ⟨u, hu, hi⟩ := ho.give n2
  have g3 : Gr H1 T1 H2 (upd T2 b u) := ⟨g2.h, g2.t.trans (Le.new n2), fun c w z => by
    by_cases hb : c = b
    · subst hb; rw [upd_same] at z; cases z; exact hu
    · rw [upd_ne hb] at z; exact g2.s c w z, fun c w z z' => by
    by_cases hb : c = b
    · subst hb; exact n1
    · rw [upd_ne hb] at z; exact g2.n c w z z'⟩
  exact q _ _ H2 _ ⟨hg, rfl⟩ (g.trans g3) hi
end
section
variable {K : PySem.W.Frag} {W : WX} {e : En} {P : Po} {i : Nat}
theorem run_tryA {tb : WX → TS} {ts : Addr → Value → Option Addr → TS} {c : Value} (PX : En → Addr → Option (List (Str × D)) → Prop)
    (hb : ∀ W, Run K W (tb W) e { P with ex := PX })
    (hs : ∀ e' C o, PX e' C o → ∃ b, PySem.W.exmOne K (.ref C) c = some b ∧
      (b = true → ∀ a od, Run K (fun _ _ _ _ => False) (ts a (.ref C) od) (e'.set i (.dat (heldD K a od o))) { nx := fun e2 => P.nx (e2.set i .no), rt := P.rt, bk := fun e2 => P.bk (e2.set i .no), ct := fun e2 => P.ct (e2.set i .no), ro := P.ro }) ∧ (b = false → P.ex e' C o)) :
    Run K W (tTryA K c i tb ts W) e P := run_tryAs PX hb hs
/-- nothing is let out -/
theorem run_tryA0 {tb : WX → TS} {ts : Addr → Value → Option Addr → TS} {c : Value} (PX : En → Addr → Option (List (Str × D)) → Prop)
    (hb : ∀ W, Run K W (tb W) e { P with ex := PX })
    (hs : ∀ e' C o, PX e' C o → PySem.W.exmOne K (.ref C) c = some true ∧
      ∀ a od, Run K (fun _ _ _ _ => False) (ts a (.ref C) od) (e'.set i (.dat (heldD K a od o))) { nx := fun e2 => P.nx (e2.set i .no), rt := P.rt, bk := fun e2 => P.bk (e2.set i .no), ct := fun e2 => P.ct (e2.set i .no), ro := P.ro }) :
    Run K W (tTryA K c i tb ts (fun _ _ _ _ => False)) e P := fun B T0 σ H T Dn s f =>
  run_tryAs (Wout := fun _ _ _ _ => False) (P := { P with ex := fun _ _ _ => False }) (i := i) PX hb (fun e' C o h => ⟨true, (hs e' C o h).1, fun _ => (hs e' C o h).2, fun z => nomatch z⟩) B T0 σ H T Dn s ⟨f.nx, f.rt, f.bk, f.ct, fun _ _ _ _ _ _ _ q => q.elim, f.ro⟩
end
end Fh

set_option Elab.async false
set_option linter.all false
set_option maxRecDepth 100000
set_option maxHeartbeats 4000000
/-! Fh: texts; lists repeated; enumerate -/
namespace Fh
open PySem PySem.Spec PyProof.Rows L2

def rSplit : V → List V → Hp → VK → Prop := fun x xs H Q => ∃ a b, x = .str a ∧ xs = [.str b] ∧ (b.length == 0) = false ∧ a.length + 2 ≤ sizeLine ∧ rNewStrs (Txt.split a b) H Q
def rJoin (K : PySem.W.Frag) : V → List V → Hp → VK → Prop := fun x xs H Q => ∃ a p, ∃ ys : List Str, x = .str a ∧ xs = [.ref p] ∧ (SqL K H p (ys.map V.str) ∨ SqT K H p (ys.map V.str)) ∧ (ys.map (·.length)).sum + ys.length * a.length ≤ 16777216 ∧ Q (.str (Txt.join a ys)) H
def rStrU : List V → Hp → VK → Prop := fun xs H Q => (∃ a, xs = [.str a] ∧ Q (.str a) H) ∨ ∃ i, xs = [.int i] ∧ i.natAbs.log2 < 1920 ∧ Q (.str (toString i)) H
def rIntU : List V → Hp → VK → Prop := fun xs H Q => rIntC xs H Q ∨ ∃ a n, xs = [.str a] ∧ PySem.intText? a = some n ∧ a.length ≤ 640 ∧ Q (.int n) H
def rInT (neg : Bool) : R2 := fun x y H Q => ∃ (c : Nat) (z : Str), x = .str ⟨#[c]⟩ ∧ y = .str z ∧ Q (.bl (if neg then !decide (c ∈ z.cps.toList) else decide (c ∈ z.cps.toList))) H
section
variable {X : Cx}
theorem mt_splitU : MtR X "str.split" rSplit := mt_split
theorem mt_joinU : MtR X "str.join" (rJoin X.K) := mt_join
theorem call_strU : CallR X (.type "str") rStrU := SkE.call_str_str.or call_str_int
theorem call_intS : CallR X (.type "int") rIntU := call_intU.or call_int_str
theorem op_inT : OpR X (compareOp .In) (rInT false) := op_in_sign
theorem op_notInT : OpR X (compareOp .NotIn) (rInT true) := op_notIn_sign
end
section
variable {K : PySem.W.Frag} {e : En} {d d1 d2 : D} {xs ys : List D} {m m1 m2 : Md} {te ta tb : TE} {x y z : Str} {i : Int} {c : Nat} {ss : List Str} {b : Bool}
theorem str_now {B H T : Hp} {v : V} (h : MIs m K B H T v (.str x)) (hB : Le B H) (hT : Le T H) : v = .str x := by
  have h2 := h.now hB hT
  cases h2
  rfl
theorem ev_ixS (ha : Ev K .now ta e (.str z)) (hb : Ev K .now tb e (.int i)) (hz : z.length ≤ sizeLine) (h : atI z.cps.toList i = some c) : Ev K m (tOp (rIx K) ta tb) e (.str ⟨#[c]⟩) := ev_op ha hb fun B H T u v hB hT i1 i2 Q q => by
  obtain rfl := str_now i1 hB hT
  have i3 := i2.now hB hT
  cases i3
  exact .inr (.inr ⟨z, i, c, rfl, rfl, hz, h, q _ H T (Gr.refl hT) (MIs.dat (.str _) hT)⟩)
theorem ev_catS (ha : Ev K .now ta e (.str x)) (hb : Ev K .now tb e (.str y)) (hz : x.length + y.length ≤ sizeLine) : Ev K m (tOp (rPlus K) ta tb) e (.str (x ++ y)) := ev_op ha hb fun B H T u v hB hT i1 i2 Q q => by
  obtain rfl := str_now i1 hB hT
  obtain rfl := str_now i2 hB hT
  exact .inr (.inr ⟨x, y, rfl, rfl, hz, q _ H T (Gr.refl hT) (MIs.dat (.str _) hT)⟩)
theorem ev_strS (h : Ev K .now te e (.str x)) : Ev K m (tCB rStrU (tCons te tNil)) e (.str x) := ev_cb (ea_cons h ea_nil) fun B H T vs hB hT hm Q q => by
  match vs, hm with
  | [v], hm =>
    obtain rfl := str_now hm.1 hB hT
    exact .inl ⟨x, rfl, q _ H T (Gr.refl hT) (MIs.dat (.str _) hT)⟩
theorem ev_strI (h : Ev K .now te e (.int i)) (hi : i.natAbs.log2 < 1920) : Ev K m (tCB rStrU (tCons te tNil)) e (.str (toString i)) := ev_cb (ea_cons h ea_nil) fun B H T vs hB hT hm Q q => by
  match vs, hm with
  | [v], hm =>
    have i1 := hm.1.now hB hT
    cases i1
    exact .inr ⟨i, rfl, hi, q _ H T (Gr.refl hT) (MIs.dat (.str _) hT)⟩
theorem ev_intS (h : Ev K .now te e (.str x)) (hn : PySem.intText? x = some i) (hl : x.length ≤ 640) : Ev K m (tCB rIntU (tCons te tNil)) e (.int i) := ev_cb (ea_cons h ea_nil) fun B H T vs hB hT hm Q q => by
  match vs, hm with
  | [v], hm =>
    obtain rfl := str_now hm.1 hB hT
    exact .inr ⟨x, i, rfl, hn, hl, q _ H T (Gr.refl hT) (MIs.dat (.int _) hT)⟩
theorem ev_lenS (h : Ev K .now te e (.str x)) (hz : x.length ≤ sizeLine) : Ev K m (tCB (rLenU K) (tCons te tNil)) e (.int (x.length : Nat)) := ev_cb (ea_cons h ea_nil) fun B H T vs hB hT hm Q q => by
  match vs, hm with
  | [v], hm =>
    obtain rfl := str_now hm.1 hB hT
    exact ⟨_, x.length, rfl, ⟨hz, rfl⟩, q _ H T (Gr.refl hT) (MIs.dat (.int _) hT)⟩
theorem ev_inT {neg : Bool} (ha : Ev K .now ta e (.str ⟨#[c]⟩)) (hb : Ev K .now tb e (.str z)) : Ev K m (tOp (rInT neg) ta tb) e (.bl (if neg then !decide (c ∈ z.cps.toList) else decide (c ∈ z.cps.toList))) := ev_op ha hb fun B H T u v hB hT i1 i2 Q q => by
  obtain rfl := str_now i1 hB hT
  obtain rfl := str_now i2 hB hT
  exact ⟨c, z, rfl, rfl, q _ H T (Gr.refl hT) (MIs.dat (.bl _) hT)⟩
theorem iss_strs {H : Hp} : ∀ ss : List Str, Iss K H (ss.map V.str) (ss.map D.str)
  | [] => .nil
  | s :: ss => .cons (.str s) (iss_strs ss)
theorem Iss.strs {H : Hp} : ∀ {ss : List Str} {vs : List V}, Iss K H vs (ss.map D.str) → vs = ss.map V.str
  | [], _, h => by cases h; rfl
  | s :: ss, _, h => by
    cases h with
    | cons h1 h2 => cases h1; rw [h2.strs]; rfl
theorem evo_split (ha : Ev K .now ta e (.str x)) (hb : Ev K .now tb e (.str y)) (hy : (y.length == 0) = false) (hz : x.length + 2 ≤ sizeLine) : EvO K (tBM K "str" rSplit ta (tCons tb tNil)) e (.lst ((Txt.split x y).map D.str)) := fun B T0 σ H T s Q q =>
  ha B T0 σ H T s _ fun v H1 T1 g1 i1 => by
    obtain rfl := str_now i1 (s.gr.h.trans g1.h) g1.s
    refine ⟨rfl, hb B T0 σ H1 T1 (s.grow g1) _ fun w H2 T2 g2 i2 => ?_⟩
    obtain rfl := str_now i2 ((s.grow g1).gr.h.trans g2.h) g2.s
    refine ⟨x, y, rfl, rfl, hy, hz, fun p hp => ?_⟩
    exact q p _ _ ((g1.trans g2).trans (Gr.own g2.s hp)) ((g1.trans g2).h.back hp) (g2.s.back hp) ⟨_, upd_same, iss_strs _⟩
theorem ev_join (ha : Ev K .now ta e (.str x)) (hb : Ev K .now tb e (.lst (ss.map D.str))) (hz : (ss.map (·.length)).sum + ss.length * x.length ≤ 16777216) : Ev K m (tBM K "str" (rJoin K) ta (tCons tb tNil)) e (.str (Txt.join x ss)) := Ev.up fun B T0 σ H T s Q q =>
  ha B T0 σ H T s _ fun v H1 T1 g1 i1 => by
    obtain rfl := str_now i1 (s.gr.h.trans g1.h) g1.s
    refine ⟨rfl, hb B T0 σ H1 T1 (s.grow g1) _ fun w H2 T2 g2 i2 => ?_⟩
    have i3 := i2.now ((s.grow g1).gr.h.trans g2.h) g2.s
    cases i3 with
    | @lst a vs _ ha hi =>
      obtain rfl := hi.strs
      exact ⟨x, a, ss, rfl, rfl, .inl (SqL.of ha), hz, q _ H2 T2 (g1.trans g2) (.str _)⟩
theorem evo_rep {k : Int} (ha : Ev K .dat ta e (.lst xs)) (hb : Ev K .now tb e (.int k)) (h0 : -(2 ^ 63) ≤ k) (h1 : k < 2 ^ 63) (hz : xs.length * k.toNat ≤ sizeLine) : EvO K (tOp rTimes ta tb) e (.lst (List.replicate k.toNat xs).flatten) := ev_opO ha hb fun B H T u v hB hT i1 i2 Q q => by
  have i3 := i2.now hB hT
  cases i3
  cases i1 with
  | @lst a vs _ ha hi =>
    refine .inr (.inl ⟨a, k, vs, rfl, rfl, hT _ _ ha, h0, h1, by rw [hi.length]; exact hz, fun p hp => ?_⟩)
    refine q p _ _ (Gr.own hT hp) hp (hT.back hp) ⟨_, upd_same, ?_⟩
    have key : ∀ n : Nat, Iss K T (List.replicate n vs).flatten (List.replicate n xs).flatten := by
      intro n
      induction n with
      | zero => exact .nil
      | succ n ih => exact hi.append ih
    exact key _
/-! ### what is walked: a text's signs, enumerate of a list -/
theorem ei_str (h : Ev K .now te e (.str z)) : EvI K .dat (iStr te) e (z.cps.toList.map fun c => D.str ⟨#[c]⟩) := fun B T0 σ H T s R q => h B T0 σ H T s _ fun v H1 T1 g i => by
  obtain rfl := str_now i (s.gr.h.trans g.h) g.s
  refine ⟨z, rfl, q _ H1 T1 g ⟨fun H T => Le T H, g.s, fun _ _ _ _ _ _ _ h => h, fun i d H2 T2 hs hx hB hT => ?_, fun i H2 T2 hs hB hT hi => ?_⟩⟩
  · rw [List.getElem?_map] at hx
    have hi : i < z.cps.toList.length := by
      cases q : z.cps.toList[i]? with
      | none => rw [q] at hx; cases hx
      | some c => exact (List.getElem?_eq_some_iff.mp q).1
    refine ⟨(show i < z.cps.size by simpa using hi), fun v H3 y => ?_⟩
    obtain ⟨rfl, c, hc, rfl⟩ := y
    have hc2 : z.cps.toList[i]? = some c := by simpa using hc
    rw [hc2] at hx
    cases hx
    exact ⟨T2, Gr.refl hT, .str _⟩
  · show z.cps.size ≤ i
    simpa using hi
theorem ei_enum (h : Ev K .dat te e (.lst xs)) : EvI K .dat (iEnum K (tCons te tNil)) e (xs.zipIdx.map fun p => D.tup [.int (p.2 : Nat), p.1]) := fun B T0 σ H T s R q => h B T0 σ H T s _ fun v H1 T1 g i => by
  cases i with
  | @lst a vs _ ha hi =>
    refine ⟨a, vs, rfl, SqL.of (g.s _ _ ha), q _ H1 T1 g ⟨fun H T => Le T1 T ∧ Le T H, ⟨Le.refl _, g.s⟩, fun _ _ _ _ hs h1 _ h2 => ⟨hs.1.trans h1, h2⟩, fun i d H2 T2 hs hx hB hT => ?_, fun i H2 T2 hs hB hT hl => ?_⟩⟩
    · rw [List.getElem?_map, List.getElem?_zipIdx] at hx
      cases qd : xs[i]? with
      | none => rw [qd] at hx; cases hx
      | some d0 =>
        rw [qd] at hx
        simp only [Option.map_some, Option.some.injEq, Nat.zero_add] at hx
        subst hx
        obtain ⟨v0, hv0, iv0⟩ := hi.get qd
        have hs1 : SqL K H2 a vs := SqL.of (hT _ _ (hs.1 _ _ ha))
        refine ⟨⟨vs, v0, hs1, hv0⟩, fun v H3 y => ?_⟩
        obtain ⟨t, x, rfl, ht, rfl, hy⟩ := y
        have hx2 := hy vs hs1
        rw [hv0] at hx2
        cases hx2
        have g2 := Gr.new (o := .tup [.int (i : Nat), v0]) hT ht
        exact ⟨_, g2, .tup (SqT.of upd_same) (.cons (.int _) (.cons (Is.mono (hs.1.trans g2.t) _ iv0) .nil))⟩
    · have hs1 : SqL K H2 a vs := SqL.of (hT _ _ (hs.1 _ _ ha))
      have hl2 : vs.length ≤ i := by rw [hi.length]; simpa using hl
      first
        | exact ⟨vs, hs1, hl2⟩
        | exact ⟨vs, hs1, by rw [List.getElem?_eq_none hl2]⟩
end
/-! ### a dict of the module -/
def rInKd (K : PySem.W.Frag) (d : Addr) (neg : Bool) : R2 := fun x y H Q => ∃ (z : Str) (r : Option Value), x = .str z ∧ y = .ref d ∧ PySem.W.nsIn K d z = some r ∧ Q (.bl (if neg then !r.isSome else r.isSome)) H
section
variable {X : Cx} {d : Addr}
theorem op_inKd (D : ∃ es n, KDict X.K X.w d es n) : OpR X (compareOp .In) (rInKd X.K d false) := by
  obtain ⟨es, n, D⟩ := D
  exact op_in_kd D
theorem op_notInKd (D : ∃ es n, KDict X.K X.w d es n) : OpR X (compareOp .NotIn) (rInKd X.K d true) := by
  obtain ⟨es, n, D⟩ := D
  exact op_notIn_kd D
end
section
variable {K : PySem.W.Frag} {w : World} {e : En} {d : Addr} {ta tb : TE} {m : Md} {z : Str} {r : Option Value} {ks : List Str} {kvs : List (Str × He.Dv)} {i : Int} {neg : Bool}
theorem ev_inKd (ha : Ev K .now ta e (.str z)) (hb : Ev K .now tb e (.raw (.ref d))) (h : PySem.W.nsIn K d z = some r) : Ev K m (tOp (rInKd K d neg) ta tb) e (.bl (if neg then !r.isSome else r.isSome)) := ev_op ha hb fun B H T u v hB hT i1 i2 Q q => by
  obtain rfl := str_now i1 hB hT
  have i3 := i2.now hB hT
  cases i3
  exact ⟨z, r, rfl, rfl, h, q _ H T (Gr.refl hT) (MIs.dat (.bl _) hT)⟩
theorem ev_ixKd (ha : Ev K .now ta e (.raw (.ref d))) (hb : Ev K .now tb e (.str z)) (hd : He.dicW K d = some (He.keysIn w.params ks)) (hv : He.valsB K d kvs = true) (hz : (z, He.Dv.int i) ∈ kvs) : Ev K m (tOp (rIxD K w) ta tb) e (.int i) := ev_op ha hb fun B H T u v hB hT i1 i2 Q q => by
  obtain rfl := str_now i2 hB hT
  have i3 := i1.now hB hT
  cases i3
  obtain ⟨es, n, D⟩ := He.dicW_ok hd
  obtain ⟨u, hu, ru⟩ := He.valsB_ok hv hz
  exact ⟨d, z, .int i, rfl, rfl, ⟨es, n, u, D.at_, D.lit, hu, ru⟩, q _ H T (Gr.refl hT) (MIs.dat (.int _) hT)⟩
end
section
variable {X : Cx} {x z : Str} {pos : Pos}
theorem pe_globS (hg : Gl X x) (h : ∃ t, X.mg x = some (.str z t)) (hd : (x == ("__debug__" : Str)) = false := by decide) : PE X (.Name x pos) (tC (.str z)) := by
  obtain ⟨t, h⟩ := h
  exact pe_glob hg h ⟨t, rfl⟩ hd
end
end Fh

set_option Elab.async false
set_option linter.all false
set_option maxRecDepth 100000
set_option maxHeartbeats 4000000
namespace Fh
open PySem PySem.Spec PyProof.Rows L2
/-! ### the text by places (printed by gen.py) -/
def top (i : Nat) : Stmt := PySem.Challenge.pw_fullhands_k13_run_text_back.main.body.getD i (.Pass ⟨0, 0, 0, 0⟩)
abbrev s_number_of : Stmt := top 24
abbrev N_number_of : List Str := ["word", "sign"]
theorem sc_number_of : FnScope N_number_of ["word"] (defScope s_number_of) := ⟨rfl, rfl, rfl, by decide +kernel, rfl, by decide +kernel, by decide +kernel⟩
abbrev s_numbers_of : Stmt := top 25
abbrev N_numbers_of : List Str := ["words", "numbers", "word", "number"]
theorem sc_numbers_of : FnScope N_numbers_of ["words"] (defScope s_numbers_of) := ⟨rfl, rfl, rfl, by decide +kernel, rfl, by decide +kernel, by decide +kernel⟩
abbrev s_run_text : Stmt := top 28
abbrev N_run_text : List Str := ["run", "move", "word"]
theorem sc_run_text : FnScope N_run_text ["run"] (defScope s_run_text) := ⟨rfl, rfl, rfl, by decide +kernel, rfl, by decide +kernel, by decide +kernel⟩
abbrev s_read_move : Stmt := top 29
abbrev N_read_move : List Str := ["line", "words", "numbers"]
theorem sc_read_move : FnScope N_read_move ["line"] (defScope s_read_move) := ⟨rfl, rfl, rfl, by decide +kernel, rfl, by decide +kernel, by decide +kernel⟩
abbrev s_read_run : Stmt := top 30
abbrev N_read_run : List Str := ["text", "run", "index", "line", "move"]
theorem sc_read_run : FnScope N_read_run ["text"] (defScope s_read_run) := ⟨rfl, rfl, rfl, by decide +kernel, rfl, by decide +kernel, by decide +kernel⟩
abbrev s_l_mixed : Stmt := top 32
abbrev N_l_mixed : List Str := ["number", "turn", "first", "second"]
theorem sc_l_mixed : FnScope N_l_mixed ["number", "turn"] (defScope s_l_mixed) := ⟨rfl, rfl, rfl, by decide +kernel, rfl, by decide +kernel, by decide +kernel⟩
abbrev s_l_pool : Stmt := top 33
abbrev N_l_pool : List Str := ["script", "many", "cells", "digits", "cell", "pool", "k", "row", "rest", "at", "turn"]
theorem sc_l_pool : FnScope N_l_pool ["script", "many"] (defScope s_l_pool) := ⟨rfl, rfl, rfl, by decide +kernel, rfl, by decide +kernel, by decide +kernel⟩
abbrev s_l_same : Stmt := top 34
abbrev N_l_same : List Str := ["actual", "due", "k"]
theorem sc_l_same : FnScope N_l_same ["actual", "due"] (defScope s_l_same) := ⟨rfl, rfl, rfl, by decide +kernel, rfl, by decide +kernel, by decide +kernel⟩
abbrev s_l_moves : Stmt := top 35
abbrev N_l_moves : List Str := ["pool", "start", "many", "run", "turn", "at", "bound", "numbers", "form", "k"]
theorem sc_l_moves : FnScope N_l_moves ["pool", "start", "many"] (defScope s_l_moves) := ⟨rfl, rfl, rfl, by decide +kernel, rfl, by decide +kernel, by decide +kernel⟩
abbrev s_l_words : Stmt := top 36
abbrev N_l_words : List Str := ["move", "number"]
theorem sc_l_words : FnScope N_l_words ["move"] (defScope s_l_words) := ⟨rfl, rfl, rfl, by decide +kernel, rfl, by decide +kernel, by decide +kernel⟩
abbrev s_l_joined_rows : Stmt := top 37
abbrev N_l_joined_rows : List Str := ["rows", "text", "k", "words", "i"]
theorem sc_l_joined_rows : FnScope N_l_joined_rows ["rows"] (defScope s_l_joined_rows) := ⟨rfl, rfl, rfl, by decide +kernel, rfl, by decide +kernel, by decide +kernel⟩
abbrev s_l_bad_words : Stmt := top 38
abbrev N_l_bad_words : List Str := ["words", "pool", "start", "way", "at", "word", "others"]
theorem sc_l_bad_words : FnScope N_l_bad_words ["words", "pool", "start"] (defScope s_l_bad_words) := ⟨rfl, rfl, rfl, by decide +kernel, rfl, by decide +kernel, by decide +kernel⟩
abbrev s_l_changed : Stmt := top 39
abbrev N_l_changed : List Str := ["rows", "pool", "start", "way", "at", "fine", "k"]
theorem sc_l_changed : FnScope N_l_changed ["rows", "pool", "start"] (defScope s_l_changed) := ⟨rfl, rfl, rfl, by decide +kernel, rfl, by decide +kernel, by decide +kernel⟩
abbrev s_l_read : Stmt := top 40
abbrev N_l_read : List Str := ["text", "told", "e"]
theorem sc_l_read : FnScope N_l_read ["text"] (defScope s_l_read) := ⟨rfl, rfl, rfl, by decide +kernel, rfl, by decide +kernel, by decide +kernel⟩
abbrev s_l_pure : Stmt := top 41
abbrev N_l_pure : List Str := ["text", "fine", "e"]
theorem sc_l_pure : FnScope N_l_pure ["text"] (defScope s_l_pure) := ⟨rfl, rfl, rfl, by decide +kernel, rfl, by decide +kernel, by decide +kernel⟩
abbrev s_law : Stmt := top 42
abbrev N_law : List Str := ["script", "pool", "run", "rows", "text", "handed", "longer", "told", "other", "bad", "move", "k"]
theorem sc_law : FnScope N_law ["script"] (defScope s_law) := ⟨rfl, rfl, rfl, by decide +kernel, rfl, by decide +kernel, by decide +kernel⟩
abbrev s_BadTable__init : Stmt := mem (top 2) 0
theorem sc_BadTable__init : FnScope ["self", "place", "index"] ["self", "place", "index"] (defScope s_BadTable__init) := ⟨rfl, rfl, rfl, by decide +kernel, rfl, by decide +kernel, by decide +kernel⟩
abbrev s_BadText__init : Stmt := mem (top 3) 0
theorem sc_BadText__init : FnScope ["self", "line"] ["self", "line"] (defScope s_BadText__init) := ⟨rfl, rfl, rfl, by decide +kernel, rfl, by decide +kernel, by decide +kernel⟩
abbrev s_BadStanding__init : Stmt := mem (top 4) 0
theorem sc_BadStanding__init : FnScope ["self", "place", "index"] ["self", "place", "index"] (defScope s_BadStanding__init) := ⟨rfl, rfl, rfl, by decide +kernel, rfl, by decide +kernel, by decide +kernel⟩
abbrev s_CannotMove__init : Stmt := mem (top 5) 0
theorem sc_CannotMove__init : FnScope ["self", "index", "reason"] ["self", "index", "reason"] (defScope s_CannotMove__init) := ⟨rfl, rfl, rfl, by decide +kernel, rfl, by decide +kernel, by decide +kernel⟩
abbrev s_NoSuch__init : Stmt := mem (top 6) 0
theorem sc_NoSuch__init : FnScope ["self", "what"] ["self", "what"] (defScope s_NoSuch__init) := ⟨rfl, rfl, rfl, by decide +kernel, rfl, by decide +kernel, by decide +kernel⟩
abbrev s_WrongGround__init : Stmt := mem (top 7) 0
theorem sc_WrongGround__init : FnScope ["self", "needed"] ["self", "needed"] (defScope s_WrongGround__init) := ⟨rfl, rfl, rfl, by decide +kernel, rfl, by decide +kernel, by decide +kernel⟩
abbrev s_TooGreat__init : Stmt := mem (top 8) 0
theorem sc_TooGreat__init : FnScope ["self", "what"] ["self", "what"] (defScope s_TooGreat__init) := ⟨rfl, rfl, rfl, by decide +kernel, rfl, by decide +kernel, by decide +kernel⟩
abbrev s_BadVector__init : Stmt := mem (top 9) 0
theorem sc_BadVector__init : FnScope ["self", "index"] ["self", "index"] (defScope s_BadVector__init) := ⟨rfl, rfl, rfl, by decide +kernel, rfl, by decide +kernel, by decide +kernel⟩
abbrev s_NotLocal__init : Stmt := mem (top 10) 0
theorem sc_NotLocal__init : FnScope ["self", "kind"] ["self", "kind"] (defScope s_NotLocal__init) := ⟨rfl, rfl, rfl, by decide +kernel, rfl, by decide +kernel, by decide +kernel⟩
abbrev s_BadProgram__init : Stmt := mem (top 11) 0
theorem sc_BadProgram__init : FnScope ["self", "line", "word"] ["self", "line", "word"] (defScope s_BadProgram__init) := ⟨rfl, rfl, rfl, by decide +kernel, rfl, by decide +kernel, by decide +kernel⟩
abbrev s_InUse__init : Stmt := mem (top 12) 0
theorem sc_InUse__init : FnScope ["self", "what"] ["self", "what"] (defScope s_InUse__init) := ⟨rfl, rfl, rfl, by decide +kernel, rfl, by decide +kernel, by decide +kernel⟩
abbrev s_AttemptFailed__init : Stmt := mem (top 13) 0
theorem sc_AttemptFailed__init : FnScope ["self", "index"] ["self", "index"] (defScope s_AttemptFailed__init) := ⟨rfl, rfl, rfl, by decide +kernel, rfl, by decide +kernel, by decide +kernel⟩
/-- what the top has left -/
structure Tx (K : PySem.W.Frag) (mg : Str → Option Value) (w : World) : Prop where
  f_ValueError : mg "ValueError" = none
  f_abs : mg "abs" = none
  f_bool : mg "bool" = none
  f_enumerate : mg "enumerate" = none
  f_int : mg "int" = none
  f_isinstance : mg "isinstance" = none
  f_len : mg "len" = none
  f_list : mg "list" = none
  f_range : mg "range" = none
  f_str : mg "str" = none
  f_tuple : mg "tuple" = none
  s_DIGITS : ∃ t, mg "DIGITS" = some (.str "0123456789" t)
  kd_NUMBERS : He.dicW K (gA K "NUMBERS") = some (He.keysIn w.params ["enter", "pass", "swap"])
  g_FullhandsError : mg "FullhandsError" = some (.ref (gA K "FullhandsError"))
  x_FullhandsError : XC K (gA K "FullhandsError")
  e_FullhandsError : ∃ bm, PySem.W.excIn K (gA K "FullhandsError") bm "ValueError.__new__" = true ∧ bm = He.veBase
  g_BadTable : mg "BadTable" = some (.ref (gA K "BadTable"))
  x_BadTable : XC K (gA K "BadTable")
  i_BadTable : PySem.W.findIn K (.ref (gA K "BadTable")) "__init__" = some (some (.ref (mA K "BadTable" "__init__")))
  t_BadTable : PySem.W.typeIn K (.ref (mA K "BadTable" "__init__")) = some (.type "function")
  n_BadTable_place : NoAttr K (gA K "BadTable") "place"
  n_BadTable_index : NoAttr K (gA K "BadTable") "index"
  g_BadText : mg "BadText" = some (.ref (gA K "BadText"))
  x_BadText : XC K (gA K "BadText")
  i_BadText : PySem.W.findIn K (.ref (gA K "BadText")) "__init__" = some (some (.ref (mA K "BadText" "__init__")))
  t_BadText : PySem.W.typeIn K (.ref (mA K "BadText" "__init__")) = some (.type "function")
  n_BadText_line : NoAttr K (gA K "BadText") "line"
  g_BadStanding : mg "BadStanding" = some (.ref (gA K "BadStanding"))
  x_BadStanding : XC K (gA K "BadStanding")
  i_BadStanding : PySem.W.findIn K (.ref (gA K "BadStanding")) "__init__" = some (some (.ref (mA K "BadStanding" "__init__")))
  t_BadStanding : PySem.W.typeIn K (.ref (mA K "BadStanding" "__init__")) = some (.type "function")
  n_BadStanding_place : NoAttr K (gA K "BadStanding") "place"
  n_BadStanding_index : NoAttr K (gA K "BadStanding") "index"
  g_CannotMove : mg "CannotMove" = some (.ref (gA K "CannotMove"))
  x_CannotMove : XC K (gA K "CannotMove")
  i_CannotMove : PySem.W.findIn K (.ref (gA K "CannotMove")) "__init__" = some (some (.ref (mA K "CannotMove" "__init__")))
  t_CannotMove : PySem.W.typeIn K (.ref (mA K "CannotMove" "__init__")) = some (.type "function")
  n_CannotMove_index : NoAttr K (gA K "CannotMove") "index"
  n_CannotMove_reason : NoAttr K (gA K "CannotMove") "reason"
  g_NoSuch : mg "NoSuch" = some (.ref (gA K "NoSuch"))
  x_NoSuch : XC K (gA K "NoSuch")
  i_NoSuch : PySem.W.findIn K (.ref (gA K "NoSuch")) "__init__" = some (some (.ref (mA K "NoSuch" "__init__")))
  t_NoSuch : PySem.W.typeIn K (.ref (mA K "NoSuch" "__init__")) = some (.type "function")
  n_NoSuch_what : NoAttr K (gA K "NoSuch") "what"
  g_WrongGround : mg "WrongGround" = some (.ref (gA K "WrongGround"))
  x_WrongGround : XC K (gA K "WrongGround")
  i_WrongGround : PySem.W.findIn K (.ref (gA K "WrongGround")) "__init__" = some (some (.ref (mA K "WrongGround" "__init__")))
  t_WrongGround : PySem.W.typeIn K (.ref (mA K "WrongGround" "__init__")) = some (.type "function")
  n_WrongGround_needed : NoAttr K (gA K "WrongGround") "needed"
  g_TooGreat : mg "TooGreat" = some (.ref (gA K "TooGreat"))
  x_TooGreat : XC K (gA K "TooGreat")
  i_TooGreat : PySem.W.findIn K (.ref (gA K "TooGreat")) "__init__" = some (some (.ref (mA K "TooGreat" "__init__")))
  t_TooGreat : PySem.W.typeIn K (.ref (mA K "TooGreat" "__init__")) = some (.type "function")
  n_TooGreat_what : NoAttr K (gA K "TooGreat") "what"
  g_BadVector : mg "BadVector" = some (.ref (gA K "BadVector"))
  x_BadVector : XC K (gA K "BadVector")
  i_BadVector : PySem.W.findIn K (.ref (gA K "BadVector")) "__init__" = some (some (.ref (mA K "BadVector" "__init__")))
  t_BadVector : PySem.W.typeIn K (.ref (mA K "BadVector" "__init__")) = some (.type "function")
  n_BadVector_index : NoAttr K (gA K "BadVector") "index"
  g_NotLocal : mg "NotLocal" = some (.ref (gA K "NotLocal"))
  x_NotLocal : XC K (gA K "NotLocal")
  i_NotLocal : PySem.W.findIn K (.ref (gA K "NotLocal")) "__init__" = some (some (.ref (mA K "NotLocal" "__init__")))
  t_NotLocal : PySem.W.typeIn K (.ref (mA K "NotLocal" "__init__")) = some (.type "function")
  n_NotLocal_kind : NoAttr K (gA K "NotLocal") "kind"
  g_BadProgram : mg "BadProgram" = some (.ref (gA K "BadProgram"))
  x_BadProgram : XC K (gA K "BadProgram")
  i_BadProgram : PySem.W.findIn K (.ref (gA K "BadProgram")) "__init__" = some (some (.ref (mA K "BadProgram" "__init__")))
  t_BadProgram : PySem.W.typeIn K (.ref (mA K "BadProgram" "__init__")) = some (.type "function")
  n_BadProgram_line : NoAttr K (gA K "BadProgram") "line"
  n_BadProgram_word : NoAttr K (gA K "BadProgram") "word"
  g_InUse : mg "InUse" = some (.ref (gA K "InUse"))
  x_InUse : XC K (gA K "InUse")
  i_InUse : PySem.W.findIn K (.ref (gA K "InUse")) "__init__" = some (some (.ref (mA K "InUse" "__init__")))
  t_InUse : PySem.W.typeIn K (.ref (mA K "InUse" "__init__")) = some (.type "function")
  n_InUse_what : NoAttr K (gA K "InUse") "what"
  g_AttemptFailed : mg "AttemptFailed" = some (.ref (gA K "AttemptFailed"))
  x_AttemptFailed : XC K (gA K "AttemptFailed")
  i_AttemptFailed : PySem.W.findIn K (.ref (gA K "AttemptFailed")) "__init__" = some (some (.ref (mA K "AttemptFailed" "__init__")))
  t_AttemptFailed : PySem.W.typeIn K (.ref (mA K "AttemptFailed" "__init__")) = some (.type "function")
  n_AttemptFailed_index : NoAttr K (gA K "AttemptFailed") "index"
  g_BadLot : mg "BadLot" = some (.ref (gA K "BadLot"))
  x_BadLot : XC K (gA K "BadLot")
  e_BadLot : ∃ bm, PySem.W.excIn K (gA K "BadLot") bm "ValueError.__new__" = true ∧ bm = He.veBase
  g_BadDealing : mg "BadDealing" = some (.ref (gA K "BadDealing"))
  x_BadDealing : XC K (gA K "BadDealing")
  e_BadDealing : ∃ bm, PySem.W.excIn K (gA K "BadDealing") bm "ValueError.__new__" = true ∧ bm = He.veBase
  g_NotCore : mg "NotCore" = some (.ref (gA K "NotCore"))
  x_NotCore : XC K (gA K "NotCore")
  e_NotCore : ∃ bm, PySem.W.excIn K (gA K "NotCore") bm "ValueError.__new__" = true ∧ bm = He.veBase
  g_BadLoads : mg "BadLoads" = some (.ref (gA K "BadLoads"))
  x_BadLoads : XC K (gA K "BadLoads")
  e_BadLoads : ∃ bm, PySem.W.excIn K (gA K "BadLoads") bm "ValueError.__new__" = true ∧ bm = He.veBase
  g_Impossible : mg "Impossible" = some (.ref (gA K "Impossible"))
  x_Impossible : XC K (gA K "Impossible")
  e_Impossible : ∃ bm, PySem.W.excIn K (gA K "Impossible") bm "ValueError.__new__" = true ∧ bm = He.veBase
  g_BadLine : mg "BadLine" = some (.ref (gA K "BadLine"))
  x_BadLine : XC K (gA K "BadLine")
  e_BadLine : ∃ bm, PySem.W.excIn K (gA K "BadLine") bm "ValueError.__new__" = true ∧ bm = He.veBase
  g_NothingToUndo : mg "NothingToUndo" = some (.ref (gA K "NothingToUndo"))
  x_NothingToUndo : XC K (gA K "NothingToUndo")
  e_NothingToUndo : ∃ bm, PySem.W.excIn K (gA K "NothingToUndo") bm "ValueError.__new__" = true ∧ bm = He.veBase
  g_NothingToRedo : mg "NothingToRedo" = some (.ref (gA K "NothingToRedo"))
  x_NothingToRedo : XC K (gA K "NothingToRedo")
  e_NothingToRedo : ∃ bm, PySem.W.excIn K (gA K "NothingToRedo") bm "ValueError.__new__" = true ∧ bm = He.veBase
  g_NUMBERS : mg "NUMBERS" = some (.ref (gA K "NUMBERS"))
  kv_NUMBERS : He.valsB K (gA K "NUMBERS") [("enter", .int 1), ("pass", .int 2), ("swap", .int 4)] = true
  kit : kitTab ["BadTable", "BadText", "BadStanding", "CannotMove", "NoSuch", "WrongGround", "TooGreat", "BadVector", "NotLocal", "BadProgram", "InUse", "AttemptFailed", "BadLot", "BadDealing", "NotCore", "BadLoads", "Impossible", "BadLine", "NothingToUndo", "NothingToRedo"] K = true
  exm : exmTab ["BadTable", "BadText", "BadStanding", "CannotMove", "NoSuch", "WrongGround", "TooGreat", "BadVector", "NotLocal", "BadProgram", "InUse", "AttemptFailed", "BadLot", "BadDealing", "NotCore", "BadLoads", "Impossible", "BadLine", "NothingToUndo", "NothingToRedo"] K = true
  m_BadTable : DdM K (mA K "BadTable" "__init__") "__init__" "BadTable.__init__" s_BadTable__init [] []
  m_BadText : DdM K (mA K "BadText" "__init__") "__init__" "BadText.__init__" s_BadText__init [] []
  m_BadStanding : DdM K (mA K "BadStanding" "__init__") "__init__" "BadStanding.__init__" s_BadStanding__init [] []
  m_CannotMove : DdM K (mA K "CannotMove" "__init__") "__init__" "CannotMove.__init__" s_CannotMove__init [] []
  m_NoSuch : DdM K (mA K "NoSuch" "__init__") "__init__" "NoSuch.__init__" s_NoSuch__init [] []
  m_WrongGround : DdM K (mA K "WrongGround" "__init__") "__init__" "WrongGround.__init__" s_WrongGround__init [] []
  m_TooGreat : DdM K (mA K "TooGreat" "__init__") "__init__" "TooGreat.__init__" s_TooGreat__init [] []
  m_BadVector : DdM K (mA K "BadVector" "__init__") "__init__" "BadVector.__init__" s_BadVector__init [] []
  m_NotLocal : DdM K (mA K "NotLocal" "__init__") "__init__" "NotLocal.__init__" s_NotLocal__init [] []
  m_BadProgram : DdM K (mA K "BadProgram" "__init__") "__init__" "BadProgram.__init__" s_BadProgram__init [] []
  m_InUse : DdM K (mA K "InUse" "__init__") "__init__" "InUse.__init__" s_InUse__init [] []
  m_AttemptFailed : DdM K (mA K "AttemptFailed" "__init__") "__init__" "AttemptFailed.__init__" s_AttemptFailed__init [] []
  d_number_of : Dd K mg "number_of" s_number_of [] []
  d_numbers_of : Dd K mg "numbers_of" s_numbers_of [] []
  d_run_text : Dd K mg "run_text" s_run_text [] []
  d_read_move : Dd K mg "read_move" s_read_move [] []
  d_read_run : Dd K mg "read_run" s_read_run [] []
  d_l_mixed : Dd K mg "_law_mixed" s_l_mixed [] []
  d_l_pool : Dd K mg "_law_pool" s_l_pool [] []
  d_l_same : Dd K mg "_law_same" s_l_same [] []
  d_l_moves : Dd K mg "_law_moves" s_l_moves [] []
  d_l_words : Dd K mg "_law_words" s_l_words [] []
  d_l_joined_rows : Dd K mg "_law_joined_rows" s_l_joined_rows [] []
  d_l_bad_words : Dd K mg "_law_bad_words" s_l_bad_words [] []
  d_l_changed : Dd K mg "_law_changed" s_l_changed [] []
  d_l_read : Dd K mg "_law_read" s_l_read [] []
  d_l_pure : Dd K mg "_law_pure" s_l_pure [] []
  d_law : Dd K mg "law" s_law [] []
section
variable {P : Program} {w : World} {K : PySem.W.Frag} {mg : Str → Option Value} {base : Heap}
theorem dx_BadTable (T : Tx K mg w) : DX P w K mg base "BadTable" (gA K "BadTable") (spX2 (gA K "BadTable") "place" "index") := by
  obtain ⟨fd, F⟩ := T.m_BadTable
  exact ⟨_, fd, _, ok_x2 F sc_BadTable__init T.x_BadTable T.n_BadTable_place T.n_BadTable_index (fun _ _ _ _ _ _ => (pss_cons (ps_ost (pv 0) (pv 1)) (pss_one (ps_ost (pv 0) (pv 2))))), ⟨T.x_BadTable, T.g_BadTable, T.i_BadTable, T.t_BadTable⟩, F.bindsN fun _ _ _ _ _ _ us hl => match us, hl with | [_, _, _], _ => rfl⟩
theorem dx_BadText (T : Tx K mg w) : DX P w K mg base "BadText" (gA K "BadText") (spX1 (gA K "BadText") "line") := by
  obtain ⟨fd, F⟩ := T.m_BadText
  exact ⟨_, fd, _, ok_x1 F sc_BadText__init T.x_BadText T.n_BadText_line (fun _ _ _ _ _ _ => (pss_one (ps_ost (pv 0) (pv 1)))), ⟨T.x_BadText, T.g_BadText, T.i_BadText, T.t_BadText⟩, F.bindsN fun _ _ _ _ _ _ us hl => match us, hl with | [_, _], _ => rfl⟩
theorem dx_BadStanding (T : Tx K mg w) : DX P w K mg base "BadStanding" (gA K "BadStanding") (spX2 (gA K "BadStanding") "place" "index") := by
  obtain ⟨fd, F⟩ := T.m_BadStanding
  exact ⟨_, fd, _, ok_x2 F sc_BadStanding__init T.x_BadStanding T.n_BadStanding_place T.n_BadStanding_index (fun _ _ _ _ _ _ => (pss_cons (ps_ost (pv 0) (pv 1)) (pss_one (ps_ost (pv 0) (pv 2))))), ⟨T.x_BadStanding, T.g_BadStanding, T.i_BadStanding, T.t_BadStanding⟩, F.bindsN fun _ _ _ _ _ _ us hl => match us, hl with | [_, _, _], _ => rfl⟩
theorem dx_CannotMove (T : Tx K mg w) : DX P w K mg base "CannotMove" (gA K "CannotMove") (spX2 (gA K "CannotMove") "index" "reason") := by
  obtain ⟨fd, F⟩ := T.m_CannotMove
  exact ⟨_, fd, _, ok_x2 F sc_CannotMove__init T.x_CannotMove T.n_CannotMove_index T.n_CannotMove_reason (fun _ _ _ _ _ _ => (pss_cons (ps_ost (pv 0) (pv 1)) (pss_one (ps_ost (pv 0) (pv 2))))), ⟨T.x_CannotMove, T.g_CannotMove, T.i_CannotMove, T.t_CannotMove⟩, F.bindsN fun _ _ _ _ _ _ us hl => match us, hl with | [_, _, _], _ => rfl⟩
theorem dx_NoSuch (T : Tx K mg w) : DX P w K mg base "NoSuch" (gA K "NoSuch") (spX1 (gA K "NoSuch") "what") := by
  obtain ⟨fd, F⟩ := T.m_NoSuch
  exact ⟨_, fd, _, ok_x1 F sc_NoSuch__init T.x_NoSuch T.n_NoSuch_what (fun _ _ _ _ _ _ => (pss_one (ps_ost (pv 0) (pv 1)))), ⟨T.x_NoSuch, T.g_NoSuch, T.i_NoSuch, T.t_NoSuch⟩, F.bindsN fun _ _ _ _ _ _ us hl => match us, hl with | [_, _], _ => rfl⟩
theorem dx_WrongGround (T : Tx K mg w) : DX P w K mg base "WrongGround" (gA K "WrongGround") (spX1 (gA K "WrongGround") "needed") := by
  obtain ⟨fd, F⟩ := T.m_WrongGround
  exact ⟨_, fd, _, ok_x1 F sc_WrongGround__init T.x_WrongGround T.n_WrongGround_needed (fun _ _ _ _ _ _ => (pss_one (ps_ost (pv 0) (pv 1)))), ⟨T.x_WrongGround, T.g_WrongGround, T.i_WrongGround, T.t_WrongGround⟩, F.bindsN fun _ _ _ _ _ _ us hl => match us, hl with | [_, _], _ => rfl⟩
theorem dx_TooGreat (T : Tx K mg w) : DX P w K mg base "TooGreat" (gA K "TooGreat") (spX1 (gA K "TooGreat") "what") := by
  obtain ⟨fd, F⟩ := T.m_TooGreat
  exact ⟨_, fd, _, ok_x1 F sc_TooGreat__init T.x_TooGreat T.n_TooGreat_what (fun _ _ _ _ _ _ => (pss_one (ps_ost (pv 0) (pv 1)))), ⟨T.x_TooGreat, T.g_TooGreat, T.i_TooGreat, T.t_TooGreat⟩, F.bindsN fun _ _ _ _ _ _ us hl => match us, hl with | [_, _], _ => rfl⟩
theorem dx_BadVector (T : Tx K mg w) : DX P w K mg base "BadVector" (gA K "BadVector") (spX1 (gA K "BadVector") "index") := by
  obtain ⟨fd, F⟩ := T.m_BadVector
  exact ⟨_, fd, _, ok_x1 F sc_BadVector__init T.x_BadVector T.n_BadVector_index (fun _ _ _ _ _ _ => (pss_one (ps_ost (pv 0) (pv 1)))), ⟨T.x_BadVector, T.g_BadVector, T.i_BadVector, T.t_BadVector⟩, F.bindsN fun _ _ _ _ _ _ us hl => match us, hl with | [_, _], _ => rfl⟩
theorem dx_NotLocal (T : Tx K mg w) : DX P w K mg base "NotLocal" (gA K "NotLocal") (spX1 (gA K "NotLocal") "kind") := by
  obtain ⟨fd, F⟩ := T.m_NotLocal
  exact ⟨_, fd, _, ok_x1 F sc_NotLocal__init T.x_NotLocal T.n_NotLocal_kind (fun _ _ _ _ _ _ => (pss_one (ps_ost (pv 0) (pv 1)))), ⟨T.x_NotLocal, T.g_NotLocal, T.i_NotLocal, T.t_NotLocal⟩, F.bindsN fun _ _ _ _ _ _ us hl => match us, hl with | [_, _], _ => rfl⟩
theorem dx_BadProgram (T : Tx K mg w) : DX P w K mg base "BadProgram" (gA K "BadProgram") (spX2 (gA K "BadProgram") "line" "word") := by
  obtain ⟨fd, F⟩ := T.m_BadProgram
  exact ⟨_, fd, _, ok_x2 F sc_BadProgram__init T.x_BadProgram T.n_BadProgram_line T.n_BadProgram_word (fun _ _ _ _ _ _ => (pss_cons (ps_ost (pv 0) (pv 1)) (pss_one (ps_ost (pv 0) (pv 2))))), ⟨T.x_BadProgram, T.g_BadProgram, T.i_BadProgram, T.t_BadProgram⟩, F.bindsN fun _ _ _ _ _ _ us hl => match us, hl with | [_, _, _], _ => rfl⟩
theorem dx_InUse (T : Tx K mg w) : DX P w K mg base "InUse" (gA K "InUse") (spX1 (gA K "InUse") "what") := by
  obtain ⟨fd, F⟩ := T.m_InUse
  exact ⟨_, fd, _, ok_x1 F sc_InUse__init T.x_InUse T.n_InUse_what (fun _ _ _ _ _ _ => (pss_one (ps_ost (pv 0) (pv 1)))), ⟨T.x_InUse, T.g_InUse, T.i_InUse, T.t_InUse⟩, F.bindsN fun _ _ _ _ _ _ us hl => match us, hl with | [_, _], _ => rfl⟩
theorem dx_AttemptFailed (T : Tx K mg w) : DX P w K mg base "AttemptFailed" (gA K "AttemptFailed") (spX1 (gA K "AttemptFailed") "index") := by
  obtain ⟨fd, F⟩ := T.m_AttemptFailed
  exact ⟨_, fd, _, ok_x1 F sc_AttemptFailed__init T.x_AttemptFailed T.n_AttemptFailed_index (fun _ _ _ _ _ _ => (pss_one (ps_ost (pv 0) (pv 1)))), ⟨T.x_AttemptFailed, T.g_AttemptFailed, T.i_AttemptFailed, T.t_AttemptFailed⟩, F.bindsN fun _ _ _ _ _ _ us hl => match us, hl with | [_, _], _ => rfl⟩
def rd_number_of (K : PySem.W.Frag) : TS :=
  (tSeq (tIfS (tAnd (tTest (tOp (rNeU K) (tCB (rLenU K) (tCons (tVar 0) tNil)) (tC (.int 1)))) (tTest (tOp (rNeU K) (tCB (rLenU K) (tCons (tVar 0) tNil)) (tC (.int 2))))) (tRet (tC .non)) tNext)
  (tSeq (tFor (iStr (tVar 0)) (gName 1) (tIfS (tTest (tOp (rInT true) (tVar 1) (tC (.str "0123456789")))) (tRet (tC .non)) tNext))
  (tSeq (tIfS (tAnd (tTest (tOp (rEqU K) (tCB (rLenU K) (tCons (tVar 0) tNil)) (tC (.int 2)))) (tTest (tOp (rEqU K) (tOp (rIx K) (tVar 0) (tC (.int 0))) (tC (.str "0"))))) (tRet (tC .non)) tNext)
  (tRet (tCB (rIntU) (tCons (tVar 0) tNil))))))
theorem tm_number_of (T : Tx K mg w) {f : Addr} {cdv : Value} {A : Around} {outer : List Env} {s : Shared} {H : Hp} {E : XK}
    (hr : Room 0 (A.deeper (envOfC "number_of" (defScope s_number_of) s.heap.objs.size f cdv))) :
    PSs (cxOf CX0 P w K mg base N_number_of "number_of" (defScope s_number_of) f cdv A outer s H E).nox (defBody s_number_of) (rd_number_of K    ) :=
  (pss_cons (ps_if (PW.pt (pw_and (pt_cmpR (op_neU hr) (pe_callB call_lenU (by rfl) T.f_len boot_len (pa_cons (pv 0) pa_nil)) pe_int (nomark _)) (pw_and1 (pt_cmpR (op_neU hr) (pe_callB call_lenU (by rfl) T.f_len boot_len (pa_cons (pv 0) pa_nil)) pe_int (nomark _))))) (pss_one (ps_ret pe_non)) pss_nil)
      (pss_cons (ps_for PassesOwn.never rfl (pi_str (pv 0)) (pg_name (i := 1) sc_number_of.nd rfl (by first | exact Or.inl rfl | exact Or.inr rfl)) (pss_one (ps_if (pt_cmpR op_notInT (pv 1) (pe_globS (by rfl) T.s_DIGITS) (by rfl)) (pss_one (ps_ret pe_non)) pss_nil)))
      (pss_cons (ps_if (PW.pt (pw_and (pt_cmpR (op_eqU hr) (pe_callB call_lenU (by rfl) T.f_len boot_len (pa_cons (pv 0) pa_nil)) pe_int (nomark _)) (pw_and1 (pt_cmpR (op_eqU hr) (pe_ix ix_seq (pv 0) pe_int (fun _ _ => rfl)) pe_str (nomark _))))) (pss_one (ps_ret pe_non)) pss_nil)
      (pss_one (ps_ret (pe_callTy call_intS (by rfl) T.f_int (by decide +kernel) (pa_cons (pv 0) pa_nil)))))))
def rd_numbers_of (K : PySem.W.Frag) (sp_number_of : Sp) : TS :=
  (tSeq (tIfS (tTest (tOp (rEqU K) (tCB (rLenU K) (tCons (tVar 0) tNil)) (tC (.int 0)))) (tRet (tC .non)) tNext)
  (tSeq (tAsg (tLst tNil) (gName 1))
  (tSeq (tFor (iSeq K (tVar 0)) (gName 2) (tSeq (tAsg (tCall sp_number_of [] E0 (tCons (tVar 2) tNil)) (gName 3))
  (tSeq (tIfS (tTest (tOp (rIsC) (tVar 3) (tC .non))) (tRet (tC .non)) tNext)
  (tDrop (tBM K "list" rAppend (tVar 1) (tCons (tVar 3) tNil))))))
  (tRet (tVar 1)))))
theorem tm_numbers_of {sp_number_of : Sp} (T : Tx K mg w) (G_number_of : Df P w K mg base "number_of" 1 [] sp_number_of) {f : Addr} {cdv : Value} {A : Around} {outer : List Env} {s : Shared} {H : Hp} {E : XK}
    (hr : Room 1 (A.deeper (envOfC "numbers_of" (defScope s_numbers_of) s.heap.objs.size f cdv))) :
    PSs (cxOf CX0 P w K mg base N_numbers_of "numbers_of" (defScope s_numbers_of) f cdv A outer s H E).nox (defBody s_numbers_of) (rd_numbers_of K   sp_number_of ) :=
  (pss_cons (ps_if (pt_cmpR (op_eqU hr) (pe_callB call_lenU (by rfl) T.f_len boot_len (pa_cons (pv 0) pa_nil)) pe_int (nomark _)) (pss_one (ps_ret pe_non)) pss_nil)
      (pss_cons (ps_set (i := 1) sc_numbers_of.nd rfl (by first | exact Or.inl rfl | exact Or.inr rfl) (pe_lst pa_nil))
      (pss_cons (ps_for PassesOwn.never rfl (pi_seq (pv 0)) (pg_name (i := 2) sc_numbers_of.nd rfl (by first | exact Or.inl rfl | exact Or.inr rfl)) (pss_cons (ps_set (i := 3) sc_numbers_of.nd rfl (by first | exact Or.inl rfl | exact Or.inr rfl) (pe_df G_number_of (hr.mono (by decide)) (by rfl) (pa_cons (pv 2) pa_nil)))
      (pss_cons (ps_if (pt_cmpR op_isC (pv 3) pe_non (nomark _)) (pss_one (ps_ret pe_non)) pss_nil)
      (pss_one (ps_expr (pe_bm PySem.F.plainAttrs_list PySem.F.slot_list_append PySem.F.type_list_append mt_append (pv 1) (pa_cons (pv 3) pa_nil)))))))
      (pss_one (ps_ret (pv 1))))))
def rd_run_text (K : PySem.W.Frag) : TS :=
  (tRet (tBM K "str" (rJoin K) (tC (.str "
")) (tCons (tLc (iSeq K (tVar 0)) (gName 1) tYes (tBM K "str" (rJoin K) (tC (.str " ")) (tCons (tLc (iSeq K (tVar 1)) (gName 2) tYes (tCB (rStrU) (tCons (tVar 2) tNil)) [2]) tNil)) [1]) tNil)))
theorem tm_run_text (T : Tx K mg w) {f : Addr} {cdv : Value} {A : Around} {outer : List Env} {s : Shared} {H : Hp} {E : XK}
    (hr : Room 0 (A.deeper (envOfC "run_text" (defScope s_run_text) s.heap.objs.size f cdv))) :
    PSs (cxOf CX0 P w K mg base N_run_text "run_text" (defScope s_run_text) f cdv A outer s H E).nox (defBody s_run_text) (rd_run_text K    ) :=
  (pss_one (ps_ret (pe_bm PySem.F.plainAttrs_str PySem.F.slot_str_join PySem.F.type_str_join mt_joinU pe_str (pa_cons (pe_lc (own := [(("move" : Str), 1)]) (wi := (iSeq K (tVar 0))) (g := (gName 1)) (tt := tYes) (te := (tBM K "str" (rJoin K) (tC (.str " ")) (tCons (tLc (iSeq K (tVar 1)) (gName 2) tYes (tCB (rStrU) (tCons (tVar 2) tNil)) [2]) tNil))) rfl sc_run_text.nd (pi_seq (pv 0)) (blkOk_by (N := N_run_text) (sc := defScope s_run_text) (by decide +kernel)) (fun _ _ _ _ _ => (pg_name (i := 1) sc_run_text.nd rfl (by first | exact Or.inl rfl | exact Or.inr rfl))) (fun _ _ _ _ _ => pts_nil) (fun _ _ _ _ _ => (pe_bm PySem.F.plainAttrs_str PySem.F.slot_str_join PySem.F.type_str_join mt_joinU pe_str (pa_cons (pe_lc (own := [(("word" : Str), 2)]) (wi := (iSeq K (tVar 1))) (g := (gName 2)) (tt := tYes) (te := (tCB (rStrU) (tCons (tVar 2) tNil))) rfl sc_run_text.nd (pi_seq (pv 1)) (blkOk_by (by rfl)) (fun _ _ _ _ _ => (pg_name (i := 2) sc_run_text.nd rfl (by first | exact Or.inl rfl | exact Or.inr rfl))) (fun _ _ _ _ _ => pts_nil) (fun _ _ _ _ _ => (pe_callTy call_strU (by rfl) T.f_str (by decide +kernel) (pa_cons (pv 2) pa_nil)))) pa_nil)))) pa_nil))))
def rd_read_move (K : PySem.W.Frag) (w : World) (sp_numbers_of : Sp) : TS :=
  (tSeq (tAsg (tBM K "str" rSplit (tVar 0) (tCons (tC (.str " ")) tNil)) (gName 1))
  (tSeq (tIfS (tTest (tOp (rInKd K (gA K "NUMBERS") true) (tOp (rIx K) (tVar 1) (tC (.int 0))) (tC (.ref (gA K "NUMBERS"))))) (tRet (tC .non)) tNext)
  (tSeq (tAsg (tCall sp_numbers_of [] E0 (tCons (tSl (rSlU K) (tVar 1) (tPart (tC (.int 1))) tNoPart) tNil)) (gName 2))
  (tSeq (tIfS (tOr (tTest (tOp (rIsC) (tVar 2) (tC .non))) (tTest (tOp (rNeU K) (tCB (rLenU K) (tCons (tVar 2) tNil)) (tOp (rIxD K w) (tC (.ref (gA K "NUMBERS"))) (tOp (rIx K) (tVar 1) (tC (.int 0))))))) (tRet (tC .non)) tNext)
  (tRet (tCB (rTupU K) (tCons (tOp (rPlus K) (tLst (tCons (tOp (rIx K) (tVar 1) (tC (.int 0))) tNil)) (tVar 2)) tNil)))))))
theorem tm_read_move {sp_numbers_of : Sp} (T : Tx K mg w) (G_numbers_of : Df P w K mg base "numbers_of" 2 [] sp_numbers_of) {f : Addr} {cdv : Value} {A : Around} {outer : List Env} {s : Shared} {H : Hp} {E : XK}
    (hr : Room 2 (A.deeper (envOfC "read_move" (defScope s_read_move) s.heap.objs.size f cdv))) :
    PSs (cxOf CX0 P w K mg base N_read_move "read_move" (defScope s_read_move) f cdv A outer s H E).nox (defBody s_read_move) (rd_read_move K w  sp_numbers_of ) :=
  (pss_cons (ps_set (i := 1) sc_read_move.nd rfl (by first | exact Or.inl rfl | exact Or.inr rfl) (pe_bm PySem.F.plainAttrs_str PySem.F.slot_str_split PySem.F.type_str_split mt_splitU (pv 0) (pa_cons pe_str pa_nil)))
      (pss_cons (ps_if (pt_cmpR (op_notInKd (He.dicW_ok T.kd_NUMBERS)) (pe_ix ix_seq (pv 1) pe_int (fun _ _ => rfl)) (pe_glob (v := .ref (gA K "NUMBERS")) (by rfl) T.g_NUMBERS rfl) (by rfl)) (pss_one (ps_ret pe_non)) pss_nil)
      (pss_cons (ps_set (i := 2) sc_read_move.nd rfl (by first | exact Or.inl rfl | exact Or.inr rfl) (pe_df G_numbers_of (hr.mono (by decide)) (by rfl) (pa_cons (pe_slice sl_U (pv 1) (po_some pe_int) po_none) pa_nil)))
      (pss_cons (ps_if (PW.pt (pw_or (pt_cmpR op_isC (pv 2) pe_non (nomark _)) (pw_or1 (pt_cmpR (op_neU hr) (pe_callB call_lenU (by rfl) T.f_len boot_len (pa_cons (pv 2) pa_nil)) (pe_ix ix_kdict (pe_glob (v := .ref (gA K "NUMBERS")) (by rfl) T.g_NUMBERS rfl) (pe_ix ix_seq (pv 1) pe_int (fun _ _ => rfl)) (fun _ _ => rfl)) (nomark _))))) (pss_one (ps_ret pe_non)) pss_nil)
      (pss_one (ps_ret (pe_callTy call_tupU (by rfl) T.f_tuple (by decide +kernel) (pa_cons (pe_op op_plus (pe_lst (pa_cons (pe_ix ix_seq (pv 1) pe_int (fun _ _ => rfl)) pa_nil)) (pv 2)) pa_nil))))))))
def rd_read_run (K : PySem.W.Frag) (W : WX) (sp_read_move : Sp) : TS :=
  (tSeq (tIfS (tTest (tOp (rEqU K) (tVar 0) (tC (.str "")))) (tRet (tLst tNil)) tNext)
  (tSeq (tAsg (tLst tNil) (gName 1))
  (tSeq (tFor (iEnum K (tCons (tBM K "str" rSplit (tVar 0) (tCons (tC (.str "
")) tNil)) tNil)) (gTup K 2 (gCons (gName 2) (gCons (gName 3) gNil))) (tSeq (tAsg (tCall sp_read_move [] E0 (tCons (tVar 3) tNil)) (gName 4))
  (tSeq (tIfS (tTest (tOp (rIsC) (tVar 4) (tC .non))) (tRaiseX K "BadText" (spX1 (gA K "BadText") "line") (tCons (tOp (rPlus K) (tVar 2) (tC (.int 1))) tNil) W) tNext)
  (tDrop (tBM K "list" rAppend (tVar 1) (tCons (tVar 4) tNil))))))
  (tRet (tVar 1)))))
theorem tm_read_run {sp_read_move : Sp} (T : Tx K mg w) (G_read_move : Df P w K mg base "read_move" 3 [] sp_read_move) {f : Addr} {cdv : Value} {A : Around} {outer : List Env} {s : Shared} {H : Hp} {E : XK}
    (hr : Room 3 (A.deeper (envOfC "read_run" (defScope s_read_run) s.heap.objs.size f cdv))) :
    PSs (cxOf (L2.CX P w) P w K mg base N_read_run "read_run" (defScope s_read_run) f cdv A outer s H E) (defBody s_read_run) (rd_read_run K  (lift E) sp_read_move ) :=
  (pss_cons (ps_if (pt_cmpR (op_eqU hr) (pv 0) pe_str (nomark _)) (pss_one (ps_ret (pe_lst pa_nil))) pss_nil)
      (pss_cons (ps_set (i := 1) sc_read_run.nd rfl (by first | exact Or.inl rfl | exact Or.inr rfl) (pe_lst pa_nil))
      (pss_cons (ps_for (passes_of rfl) rfl (pi_enum (by rfl) T.f_enumerate (pa_cons (pe_bm PySem.F.plainAttrs_str PySem.F.slot_str_split PySem.F.type_str_split mt_splitU (pv 0) (pa_cons pe_str pa_nil)) pa_nil)) (pg_tup (by rfl) (pgs_cons (pg_name (i := 2) sc_read_run.nd rfl (by first | exact Or.inl rfl | exact Or.inr rfl)) (pgs_cons (pg_name (i := 3) sc_read_run.nd rfl (by first | exact Or.inl rfl | exact Or.inr rfl)) pgs_nil))) (pss_cons (ps_set (i := 4) sc_read_run.nd rfl (by first | exact Or.inl rfl | exact Or.inr rfl) (pe_df G_read_move (hr.mono (by decide)) (by rfl) (pa_cons (pv 3) pa_nil)))
      (pss_cons (ps_if (pt_cmpR op_isC (pv 4) pe_non (nomark _)) (pss_one (ps_raiseX rfl (dx_BadText T) (hr.mono (by decide)) (by rfl) (L2.takes_of rfl rfl rfl rfl) (pa_cons (pe_op op_plus (pv 2) pe_int) pa_nil))) pss_nil)
      (pss_one (ps_expr (pe_bm PySem.F.plainAttrs_list PySem.F.slot_list_append PySem.F.type_list_append mt_append (pv 1) (pa_cons (pv 4) pa_nil)))))))
      (pss_one (ps_ret (pv 1))))))
theorem tm_l_mixed (T : Tx K mg w) {f : Addr} {cdv : Value} {A : Around} {outer : List Env} {s : Shared} {H : Hp} {E : XK}
    (hr : Room 0 (A.deeper (envOfC "_law_mixed" (defScope s_l_mixed) s.heap.objs.size f cdv))) :
    PSs (cxOf CX0 P w K mg base N_l_mixed "_law_mixed" (defScope s_l_mixed) f cdv A outer s H E).nox (defBody s_l_mixed) (rd_l_mixed K    ) :=
  (pss_cons (ps_set (i := 2) sc_l_mixed.nd rfl (by first | exact Or.inl rfl | exact Or.inr rfl) (pe_op op_modU (pe_callTy call_intU (by rfl) T.f_int (by decide +kernel) (pa_cons (pe_op op_plus (pe_op op_plus (pe_op op_times (pv 0) pe_int) (pe_op op_times (pv 1) pe_int)) pe_int) pa_nil)) pe_int))
      (pss_cons (ps_set (i := 3) sc_l_mixed.nd rfl (by first | exact Or.inl rfl | exact Or.inr rfl) (pe_op op_modU (pe_callTy call_intU (by rfl) T.f_int (by decide +kernel) (pa_cons (pe_op op_plus (pe_op op_plus (pe_op op_times (pv 2) (pv 2)) (pe_op op_times (pv 1) pe_int)) pe_int) pa_nil)) pe_int))
      (pss_one (ps_ret (pe_op op_modU (pe_callTy call_intU (by rfl) T.f_int (by decide +kernel) (pa_cons (pe_op op_fdivU (pv 3) pe_int) pa_nil)) pe_int)))))
theorem tm_l_pool {sp_l_mixed : Sp} (T : Tx K mg w) (G_l_mixed : Df P w K mg base "_law_mixed" 1 [] sp_l_mixed) {f : Addr} {cdv : Value} {A : Around} {outer : List Env} {s : Shared} {H : Hp} {E : XK}
    (hr : Room 1 (A.deeper (envOfC "_law_pool" (defScope s_l_pool) s.heap.objs.size f cdv))) :
    PSs (cxOf CX0 P w K mg base N_l_pool "_law_pool" (defScope s_l_pool) f cdv A outer s H E).nox (defBody s_l_pool) (rd_l_pool K   sp_l_mixed ) :=
  (pss_cons (ps_setLc (i := 2) (own := [(("cell" : Str), 4)]) (wi := (iSeq K (tSl (rSlU K) (tVar 0) tNoPart (tPart (tC (.int 63)))))) (g := (gName 4)) (tt := tYes) (te := (tCB (rAbs) (tCons (tCB (rIntC) (tCons (tVar 4) tNil)) tNil))) rfl sc_l_pool.nd rfl rfl (sw_true rfl rfl rfl (by decide +kernel)) (pi_seq (pe_slice sl_U (pv 0) po_none (po_some pe_int))) (blkOk_by (N := N_l_pool) (sc := defScope s_l_pool) (by decide +kernel)) (fun _ _ _ _ _ => (pg_name (i := 4) sc_l_pool.nd rfl (by first | exact Or.inl rfl | exact Or.inr rfl))) (fun _ _ _ _ _ => pts_nil) (fun _ _ _ _ _ => (pe_callB call_absU (by rfl) T.f_abs boot_abs (pa_cons (pe_callTy call_intU (by rfl) T.f_int (by decide +kernel) (pa_cons (pv 4) pa_nil)) pa_nil))))
      (pss_cons (ps_if (pt_cmpR (op_eqU hr) (pv 2) (pe_lst pa_nil) (nomark _)) (pss_one (ps_set (i := 2) sc_l_pool.nd rfl (by first | exact Or.inl rfl | exact Or.inr rfl) (pe_lst (pa_cons pe_int pa_nil)))) pss_nil)
      (pss_cons (ps_set (i := 3) sc_l_pool.nd rfl (by first | exact Or.inl rfl | exact Or.inr rfl) (pe_lst pa_nil))
      (pss_cons (ps_for PassesOwn.never rfl (pi_seq (pv 2)) (pg_name (i := 4) sc_l_pool.nd rfl (by first | exact Or.inl rfl | exact Or.inr rfl)) (pss_cons (ps_set (i := 7) sc_l_pool.nd rfl (by first | exact Or.inl rfl | exact Or.inr rfl) (pe_lst pa_nil))
      (pss_cons (ps_set (i := 8) sc_l_pool.nd rfl (by first | exact Or.inl rfl | exact Or.inr rfl) (pv 4))
      (pss_cons (ps_if (pt_cmpR op_geU (pv 4) (pe_op op_powU pe_int pe_int) (nomark _)) (pss_one (ps_for PassesOwn.never rfl (pi_range1 (by rfl) T.f_range (pa_cons pe_int pa_nil)) (pg_name (i := 10) sc_l_pool.nd rfl (by first | exact Or.inl rfl | exact Or.inr rfl)) (pss_one (ps_if (pt_cmpR op_gtU (pv 8) pe_int (nomark _)) (pss_cons (ps_expr (pe_bm PySem.F.plainAttrs_list PySem.F.slot_list_append PySem.F.type_list_append mt_append (pv 7) (pa_cons (pe_op op_modU (pe_callTy call_intU (by rfl) T.f_int (by decide +kernel) (pa_cons (pv 8) pa_nil)) pe_int) pa_nil)))
      (pss_one (ps_set (i := 8) sc_l_pool.nd rfl (by first | exact Or.inl rfl | exact Or.inr rfl) (pe_op op_fdivU (pv 8) pe_int)))) pss_nil)))) pss_nil)
      (pss_one (ps_expr (pe_bm PySem.F.plainAttrs_list PySem.F.slot_list_append PySem.F.type_list_append mt_append (pv 3) (pa_cons (pv 7) pa_nil))))))))
      (pss_cons (ps_set (i := 5) sc_l_pool.nd rfl (by first | exact Or.inl rfl | exact Or.inr rfl) (pe_lst pa_nil))
      (pss_cons (ps_for PassesOwn.never rfl (pi_range1 (by rfl) T.f_range (pa_cons (pv 1) pa_nil)) (pg_name (i := 6) sc_l_pool.nd rfl (by first | exact Or.inl rfl | exact Or.inr rfl)) (pss_cons (ps_set (i := 9) sc_l_pool.nd rfl (by first | exact Or.inl rfl | exact Or.inr rfl) (pe_op op_modU (pe_callTy call_intU (by rfl) T.f_int (by decide +kernel) (pa_cons (pv 6) pa_nil)) (pe_callB call_lenU (by rfl) T.f_len boot_len (pa_cons (pv 2) pa_nil))))
      (pss_cons (ps_set (i := 10) sc_l_pool.nd rfl (by first | exact Or.inl rfl | exact Or.inr rfl) (pe_op op_fdivU (pv 6) (pe_callB call_lenU (by rfl) T.f_len boot_len (pa_cons (pv 2) pa_nil))))
      (pss_one (ps_if (pt_cmpR op_ltU (pv 10) (pe_callB call_lenU (by rfl) T.f_len boot_len (pa_cons (pe_ix ix_seq (pv 3) (pv 9) (fun _ _ => rfl)) pa_nil)) (nomark _)) (pss_one (ps_expr (pe_bm PySem.F.plainAttrs_list PySem.F.slot_list_append PySem.F.type_list_append mt_append (pv 5) (pa_cons (pe_ix ix_seq (pe_ix ix_seq (pv 3) (pv 9) (fun _ _ => rfl)) (pv 10) (fun _ _ => rfl)) pa_nil)))) (pss_one (ps_expr (pe_bm PySem.F.plainAttrs_list PySem.F.slot_list_append PySem.F.type_list_append mt_append (pv 5) (pa_cons (pe_df G_l_mixed (hr.mono (by decide)) (by rfl) (pa_cons (pe_op op_plus (pe_op op_modU (pe_callTy call_intU (by rfl) T.f_int (by decide +kernel) (pa_cons (pe_ix ix_seq (pv 2) (pv 9) (fun _ _ => rfl)) pa_nil)) pe_int) (pe_op op_times pe_int (pv 9))) (pa_cons (pe_op op_plus (pv 10) pe_int) pa_nil))) pa_nil)))))))))
      (pss_one (ps_ret (pv 5)))))))))
theorem tm_l_same {sp_l_same : Sp} (T : Tx K mg w) {kk : Nat} (hk : 0 ≤ kk) (G_l_same : Df P w K mg base "_law_same" kk [] sp_l_same) {f : Addr} {cdv : Value} {A : Around} {outer : List Env} {s : Shared} {H : Hp} {E : XK}
    (hr : Room kk (A.deeper (envOfC "_law_same" (defScope s_l_same) s.heap.objs.size f cdv))) :
    PSs (cxOf CX0 P w K mg base N_l_same "_law_same" (defScope s_l_same) f cdv A outer s H E).nox (defBody s_l_same) (rd_l_same K   sp_l_same ) :=
  (pss_cons (ps_if (pt_cmpR op_isC (pv 1) pe_non (nomark _)) (pss_one (ps_ret (pe_cmpR op_isC (pv 0) pe_non (nomark _)))) pss_nil)
      (pss_cons (ps_if (pt_cmpR op_isC (pv 1) pe_bl (nomark _)) (pss_one (ps_ret (pe_cmpR op_isC (pv 0) pe_bl (nomark _)))) pss_nil)
      (pss_cons (ps_if (pt_cmpR op_isC (pv 1) pe_bl (nomark _)) (pss_one (ps_ret (pe_cmpR op_isC (pv 0) pe_bl (nomark _)))) pss_nil)
      (pss_cons (ps_if (pt_val (pe_callB call_isi (by rfl) T.f_isinstance boot_isinstance (pa_cons (pv 1) (pa_cons (pe_bltn (v := .ty "int") (by rfl) T.f_int (by decide +kernel) rfl) pa_nil)))) (pss_one (ps_ret (pe_and (pe_callB call_isi (by rfl) T.f_isinstance boot_isinstance (pa_cons (pv 0) (pa_cons (pe_bltn (v := .ty "int") (by rfl) T.f_int (by decide +kernel) rfl) pa_nil))) (pe_and (pe_not (pe_callB call_isi (by rfl) T.f_isinstance boot_isinstance (pa_cons (pv 0) (pa_cons (pe_bltn (v := .ty "bool") (by rfl) T.f_bool (by decide +kernel) rfl) pa_nil)))) (pe_one (pe_cmpR (op_eqU hr) (pv 0) (pv 1) (nomark _))))))) pss_nil)
      (pss_cons (ps_if (pt_val (pe_callB call_isi (by rfl) T.f_isinstance boot_isinstance (pa_cons (pv 1) (pa_cons (pe_bltn (v := .ty "str") (by rfl) T.f_str (by decide +kernel) rfl) pa_nil)))) (pss_one (ps_ret (pe_and (pe_callB call_isi (by rfl) T.f_isinstance boot_isinstance (pa_cons (pv 0) (pa_cons (pe_bltn (v := .ty "str") (by rfl) T.f_str (by decide +kernel) rfl) pa_nil))) (pe_one (pe_cmpR (op_eqU hr) (pv 0) (pv 1) (nomark _)))))) pss_nil)
      (pss_cons (ps_if (pt_val (pe_callB call_isi (by rfl) T.f_isinstance boot_isinstance (pa_cons (pv 1) (pa_cons (pe_bltn (v := .ty "tuple") (by rfl) T.f_tuple (by decide +kernel) rfl) pa_nil)))) (pss_one (ps_if (PW.pt (pw_or (pt_not (pt_val (pe_callB call_isi (by rfl) T.f_isinstance boot_isinstance (pa_cons (pv 0) (pa_cons (pe_bltn (v := .ty "tuple") (by rfl) T.f_tuple (by decide +kernel) rfl) pa_nil))))) (pw_or1 (pt_cmpR (op_neU hr) (pe_callB call_lenU (by rfl) T.f_len boot_len (pa_cons (pv 0) pa_nil)) (pe_callB call_lenU (by rfl) T.f_len boot_len (pa_cons (pv 1) pa_nil)) (nomark _))))) (pss_one (ps_ret pe_bl)) pss_nil)) (pss_one (ps_if (PW.pt (pw_or (pt_not (pt_val (pe_callB call_isi (by rfl) T.f_isinstance boot_isinstance (pa_cons (pv 0) (pa_cons (pe_bltn (v := .ty "list") (by rfl) T.f_list (by decide +kernel) rfl) pa_nil))))) (pw_or1 (pt_cmpR (op_neU hr) (pe_callB call_lenU (by rfl) T.f_len boot_len (pa_cons (pv 0) pa_nil)) (pe_callB call_lenU (by rfl) T.f_len boot_len (pa_cons (pv 1) pa_nil)) (nomark _))))) (pss_one (ps_ret pe_bl)) pss_nil)))
      (pss_cons (ps_for PassesOwn.never rfl (pi_range1 (by rfl) T.f_range (pa_cons (pe_callB call_lenU (by rfl) T.f_len boot_len (pa_cons (pv 1) pa_nil)) pa_nil)) (pg_name (i := 2) sc_l_same.nd rfl (by first | exact Or.inl rfl | exact Or.inr rfl)) (pss_one (ps_if (pt_not (pt_val (pe_df G_l_same hr (by rfl) (pa_cons (pe_ix ix_seq (pv 0) (pv 2) (fun _ _ => rfl)) (pa_cons (pe_ix ix_seq (pv 1) (pv 2) (fun _ _ => rfl)) pa_nil))))) (pss_one (ps_ret pe_bl)) pss_nil)))
      (pss_one (ps_ret pe_bl)))))))))
def rd_l_moves (K : PySem.W.Frag) : TS :=
  (tSeq (tAsg (tLst tNil) (gName 3))
  (tSeq (tFor (iRng1 (tCons (tVar 2) tNil)) (gName 4) (tSeq (tAsg (tOp (rPlus K) (tVar 1) (tOp (rTimes) (tC (.int 6)) (tVar 4))) (gName 5))
  (tSeq (tAsg (tOp (rIx K) (tLst (tCons (tC (.int 10)) (tCons (tC (.int 100)) tNil))) (tOp (rMod) (tCB (rIntC) (tCons (tOp (rIx K) (tVar 0) (tOp (rPlus K) (tVar 5) (tC (.int 5)))) tNil)) (tC (.int 2)))) (gName 6))
  (tSeq (tAsg (tLc (iRng1 (tCons (tC (.int 4)) tNil)) (gName 9) tYes (tOp (rMod) (tCB (rIntC) (tCons (tOp (rIx K) (tVar 0) (tOp (rPlus K) (tOp (rPlus K) (tVar 5) (tC (.int 1))) (tVar 9))) tNil)) (tVar 6)) [9]) (gName 7))
  (tSeq (tAsg (tOp (rMod) (tCB (rIntC) (tCons (tOp (rIx K) (tVar 0) (tVar 5)) tNil)) (tC (.int 3))) (gName 8))
  (tIfS (tTest (tOp (rEqU K) (tVar 8) (tC (.int 0)))) (tDrop (tBM K "list" rAppend (tVar 3) (tCons (tTup (tCons (tC (.str "enter")) (tCons (tOp (rIx K) (tVar 7) (tC (.int 0))) tNil))) tNil))) (tIfS (tTest (tOp (rEqU K) (tVar 8) (tC (.int 1)))) (tDrop (tBM K "list" rAppend (tVar 3) (tCons (tTup (tCons (tC (.str "pass")) (tCons (tOp (rIx K) (tVar 7) (tC (.int 0))) (tCons (tOp (rIx K) (tVar 7) (tC (.int 1))) tNil)))) tNil))) (tDrop (tBM K "list" rAppend (tVar 3) (tCons (tTup (tCons (tC (.str "swap")) (tCons (tOp (rIx K) (tVar 7) (tC (.int 0))) (tCons (tOp (rIx K) (tVar 7) (tC (.int 1))) (tCons (tOp (rIx K) (tVar 7) (tC (.int 2))) (tCons (tOp (rIx K) (tVar 7) (tC (.int 3))) tNil)))))) tNil))))))))))
  (tRet (tVar 3))))
theorem tm_l_moves (T : Tx K mg w) {f : Addr} {cdv : Value} {A : Around} {outer : List Env} {s : Shared} {H : Hp} {E : XK}
    (hr : Room 0 (A.deeper (envOfC "_law_moves" (defScope s_l_moves) s.heap.objs.size f cdv))) :
    PSs (cxOf CX0 P w K mg base N_l_moves "_law_moves" (defScope s_l_moves) f cdv A outer s H E).nox (defBody s_l_moves) (rd_l_moves K    ) :=
  (pss_cons (ps_set (i := 3) sc_l_moves.nd rfl (by first | exact Or.inl rfl | exact Or.inr rfl) (pe_lst pa_nil))
      (pss_cons (ps_for PassesOwn.never rfl (pi_range1 (by rfl) T.f_range (pa_cons (pv 2) pa_nil)) (pg_name (i := 4) sc_l_moves.nd rfl (by first | exact Or.inl rfl | exact Or.inr rfl)) (pss_cons (ps_set (i := 5) sc_l_moves.nd rfl (by first | exact Or.inl rfl | exact Or.inr rfl) (pe_op op_plus (pv 1) (pe_op op_times pe_int (pv 4))))
      (pss_cons (ps_set (i := 6) sc_l_moves.nd rfl (by first | exact Or.inl rfl | exact Or.inr rfl) (pe_ix ix_seq (pe_lst (pa_cons pe_int (pa_cons pe_int pa_nil))) (pe_op op_modU (pe_callTy call_intU (by rfl) T.f_int (by decide +kernel) (pa_cons (pe_ix ix_seq (pv 0) (pe_op op_plus (pv 5) pe_int) (fun _ _ => rfl)) pa_nil)) pe_int) (fun _ _ => rfl)))
      (pss_cons (ps_setLc (i := 7) (own := [(("k" : Str), 9)]) (wi := (iRng1 (tCons (tC (.int 4)) tNil))) (g := (gName 9)) (tt := tYes) (te := (tOp (rMod) (tCB (rIntC) (tCons (tOp (rIx K) (tVar 0) (tOp (rPlus K) (tOp (rPlus K) (tVar 5) (tC (.int 1))) (tVar 9))) tNil)) (tVar 6))) rfl sc_l_moves.nd rfl rfl (sw_true rfl rfl rfl (by decide +kernel)) (pi_range1 (by rfl) T.f_range (pa_cons pe_int pa_nil)) (blkOk_by (N := N_l_moves) (sc := defScope s_l_moves) (by decide +kernel)) (fun _ _ _ _ _ => (pg_name (i := 9) sc_l_moves.nd rfl (by first | exact Or.inl rfl | exact Or.inr rfl))) (fun _ _ _ _ _ => pts_nil) (fun _ _ _ _ _ => (pe_op op_modU (pe_callTy call_intU (by rfl) T.f_int (by decide +kernel) (pa_cons (pe_ix ix_seq (pv 0) (pe_op op_plus (pe_op op_plus (pv 5) pe_int) (pv 9)) (fun _ _ => rfl)) pa_nil)) (pv 6))))
      (pss_cons (ps_set (i := 8) sc_l_moves.nd rfl (by first | exact Or.inl rfl | exact Or.inr rfl) (pe_op op_modU (pe_callTy call_intU (by rfl) T.f_int (by decide +kernel) (pa_cons (pe_ix ix_seq (pv 0) (pv 5) (fun _ _ => rfl)) pa_nil)) pe_int))
      (pss_one (ps_if (pt_cmpR (op_eqU hr) (pv 8) pe_int (nomark _)) (pss_one (ps_expr (pe_bm PySem.F.plainAttrs_list PySem.F.slot_list_append PySem.F.type_list_append mt_append (pv 3) (pa_cons (pe_tup (pa_cons pe_str (pa_cons (pe_ix ix_seq (pv 7) pe_int (fun _ _ => rfl)) pa_nil))) pa_nil)))) (pss_one (ps_if (pt_cmpR (op_eqU hr) (pv 8) pe_int (nomark _)) (pss_one (ps_expr (pe_bm PySem.F.plainAttrs_list PySem.F.slot_list_append PySem.F.type_list_append mt_append (pv 3) (pa_cons (pe_tup (pa_cons pe_str (pa_cons (pe_ix ix_seq (pv 7) pe_int (fun _ _ => rfl)) (pa_cons (pe_ix ix_seq (pv 7) pe_int (fun _ _ => rfl)) pa_nil)))) pa_nil)))) (pss_one (ps_expr (pe_bm PySem.F.plainAttrs_list PySem.F.slot_list_append PySem.F.type_list_append mt_append (pv 3) (pa_cons (pe_tup (pa_cons pe_str (pa_cons (pe_ix ix_seq (pv 7) pe_int (fun _ _ => rfl)) (pa_cons (pe_ix ix_seq (pv 7) pe_int (fun _ _ => rfl)) (pa_cons (pe_ix ix_seq (pv 7) pe_int (fun _ _ => rfl)) (pa_cons (pe_ix ix_seq (pv 7) pe_int (fun _ _ => rfl)) pa_nil)))))) pa_nil)))))))))))))
      (pss_one (ps_ret (pv 3)))))
def rd_l_words (K : PySem.W.Frag) : TS :=
  (tRet (tOp (rPlus K) (tLst (tCons (tOp (rIx K) (tVar 0) (tC (.int 0))) tNil)) (tLc (iSeq K (tSl (rSlU K) (tVar 0) (tPart (tC (.int 1))) tNoPart)) (gName 1) tYes (tCB (rStrU) (tCons (tVar 1) tNil)) [1])))
theorem tm_l_words (T : Tx K mg w) {f : Addr} {cdv : Value} {A : Around} {outer : List Env} {s : Shared} {H : Hp} {E : XK}
    (hr : Room 0 (A.deeper (envOfC "_law_words" (defScope s_l_words) s.heap.objs.size f cdv))) :
    PSs (cxOf CX0 P w K mg base N_l_words "_law_words" (defScope s_l_words) f cdv A outer s H E).nox (defBody s_l_words) (rd_l_words K    ) :=
  (pss_one (ps_ret (pe_op op_plus (pe_lst (pa_cons (pe_ix ix_seq (pv 0) pe_int (fun _ _ => rfl)) pa_nil)) (pe_lc (own := [(("number" : Str), 1)]) (wi := (iSeq K (tSl (rSlU K) (tVar 0) (tPart (tC (.int 1))) tNoPart))) (g := (gName 1)) (tt := tYes) (te := (tCB (rStrU) (tCons (tVar 1) tNil))) rfl sc_l_words.nd (pi_seq (pe_slice sl_U (pv 0) (po_some pe_int) po_none)) (blkOk_by (N := N_l_words) (sc := defScope s_l_words) (by decide +kernel)) (fun _ _ _ _ _ => (pg_name (i := 1) sc_l_words.nd rfl (by first | exact Or.inl rfl | exact Or.inr rfl))) (fun _ _ _ _ _ => pts_nil) (fun _ _ _ _ _ => (pe_callTy call_strU (by rfl) T.f_str (by decide +kernel) (pa_cons (pv 1) pa_nil)))))))
def rd_l_joined_rows (K : PySem.W.Frag) : TS :=
  (tSeq (tAsg (tC (.str "")) (gName 1))
  (tSeq (tFor (iRng1 (tCons (tCB (rLenU K) (tCons (tVar 0) tNil)) tNil)) (gName 2) (tSeq (tIfS (tTest (tOp (rGt2) (tVar 2) (tC (.int 0)))) (tAsg (tOp (rPlus K) (tVar 1) (tC (.str "
"))) (gName 1)) tNext)
  (tSeq (tAsg (tOp (rIx K) (tOp (rIx K) (tVar 0) (tVar 2)) (tC (.int 0))) (gName 3))
  (tFor (iRng1 (tCons (tCB (rLenU K) (tCons (tVar 3) tNil)) tNil)) (gName 4) (tSeq (tIfS (tTest (tOp (rGt2) (tVar 4) (tC (.int 0)))) (tAsg (tOp (rPlus K) (tVar 1) (tC (.str " "))) (gName 1)) tNext)
  (tAsg (tOp (rPlus K) (tVar 1) (tOp (rIx K) (tVar 3) (tVar 4))) (gName 1)))))))
  (tRet (tVar 1))))
theorem tm_l_joined_rows (T : Tx K mg w) {f : Addr} {cdv : Value} {A : Around} {outer : List Env} {s : Shared} {H : Hp} {E : XK}
    (hr : Room 0 (A.deeper (envOfC "_law_joined_rows" (defScope s_l_joined_rows) s.heap.objs.size f cdv))) :
    PSs (cxOf CX0 P w K mg base N_l_joined_rows "_law_joined_rows" (defScope s_l_joined_rows) f cdv A outer s H E).nox (defBody s_l_joined_rows) (rd_l_joined_rows K    ) :=
  (pss_cons (ps_set (i := 1) sc_l_joined_rows.nd rfl (by first | exact Or.inl rfl | exact Or.inr rfl) pe_str)
      (pss_cons (ps_for PassesOwn.never rfl (pi_range1 (by rfl) T.f_range (pa_cons (pe_callB call_lenU (by rfl) T.f_len boot_len (pa_cons (pv 0) pa_nil)) pa_nil)) (pg_name (i := 2) sc_l_joined_rows.nd rfl (by first | exact Or.inl rfl | exact Or.inr rfl)) (pss_cons (ps_if (pt_cmpR op_gtU (pv 2) pe_int (nomark _)) (pss_one (ps_set (i := 1) sc_l_joined_rows.nd rfl (by first | exact Or.inl rfl | exact Or.inr rfl) (pe_op op_plus (pv 1) pe_str))) pss_nil)
      (pss_cons (ps_set (i := 3) sc_l_joined_rows.nd rfl (by first | exact Or.inl rfl | exact Or.inr rfl) (pe_ix ix_seq (pe_ix ix_seq (pv 0) (pv 2) (fun _ _ => rfl)) pe_int (fun _ _ => rfl)))
      (pss_one (ps_for PassesOwn.never rfl (pi_range1 (by rfl) T.f_range (pa_cons (pe_callB call_lenU (by rfl) T.f_len boot_len (pa_cons (pv 3) pa_nil)) pa_nil)) (pg_name (i := 4) sc_l_joined_rows.nd rfl (by first | exact Or.inl rfl | exact Or.inr rfl)) (pss_cons (ps_if (pt_cmpR op_gtU (pv 4) pe_int (nomark _)) (pss_one (ps_set (i := 1) sc_l_joined_rows.nd rfl (by first | exact Or.inl rfl | exact Or.inr rfl) (pe_op op_plus (pv 1) pe_str))) pss_nil)
      (pss_one (ps_set (i := 1) sc_l_joined_rows.nd rfl (by first | exact Or.inl rfl | exact Or.inr rfl) (pe_op op_plus (pv 1) (pe_ix ix_seq (pv 3) (pv 4) (fun _ _ => rfl)))))))))))
      (pss_one (ps_ret (pv 1)))))
def rd_l_bad_words (K : PySem.W.Frag) : TS :=
  (tSeq (tAsg (tOp (rMod) (tCB (rIntC) (tCons (tOp (rIx K) (tVar 1) (tVar 2)) tNil)) (tC (.int 8))) (gName 3))
  (tSeq (tAsg (tOp (rMod) (tCB (rIntC) (tCons (tOp (rIx K) (tVar 1) (tOp (rPlus K) (tVar 2) (tC (.int 1)))) tNil)) (tOp (rPlus K) (tCB (rLenU K) (tCons (tVar 0) tNil)) (tC (.int 1)))) (gName 4))
  (tSeq (tIfS (tTest (tOp (rEqU K) (tVar 3) (tC (.int 0)))) (tRet (tOp (rPlus K) (tOp (rPlus K) (tSl (rSlU K) (tVar 0) tNoPart (tPart (tVar 4))) (tLst (tCons (tC (.str "")) tNil))) (tSl (rSlU K) (tVar 0) (tPart (tVar 4)) tNoPart))) tNext)
  (tSeq (tIfS (tTest (tOp (rEqU K) (tVar 3) (tC (.int 1)))) (tRet (tOp (rPlus K) (tOp (rPlus K) (tSl (rSlU K) (tVar 0) tNoPart (tPart (tVar 4))) (tLst (tCons (tCB (rStrU) (tCons (tOp (rMod) (tCB (rIntC) (tCons (tOp (rIx K) (tVar 1) (tOp (rPlus K) (tVar 2) (tC (.int 2)))) tNil)) (tC (.int 100))) tNil)) tNil))) (tSl (rSlU K) (tVar 0) (tPart (tVar 4)) tNoPart))) tNext)
  (tSeq (tIfS (tTest (tOp (rEqU K) (tVar 3) (tC (.int 2)))) (tSeq (tAsg (tOp (rMod) (tCB (rIntC) (tCons (tVar 4) tNil)) (tCB (rLenU K) (tCons (tVar 0) tNil))) (gName 4))
  (tRet (tOp (rPlus K) (tSl (rSlU K) (tVar 0) tNoPart (tPart (tVar 4))) (tSl (rSlU K) (tVar 0) (tPart (tOp (rPlus K) (tVar 4) (tC (.int 1)))) tNoPart)))) tNext)
  (tSeq (tIfS (tTest (tOp (rEqU K) (tVar 3) (tC (.int 3)))) (tSeq (tAsg (tLst (tCons (tC (.str "Enter")) (tCons (tC (.str "PASS")) (tCons (tC (.str "swaps")) (tCons (tC (.str "pas")) (tCons (tC (.str "move")) (tCons (tC (.str "down")) (tCons (tC (.str "settle")) (tCons (tC (.str "")) (tCons (tC (.str "enter_")) (tCons (tC (.str "0")) tNil))))))))))) (gName 6))
  (tSeq (tAsg (tOp (rPlus K) (tVar 6) (tLc (iSeq K (tLst (tCons (tC (.str "enter")) (tCons (tC (.str "pass")) (tCons (tC (.str "swap")) tNil))))) (gName 5) (tTest (tOp (rNeU K) (tVar 5) (tOp (rIx K) (tVar 0) (tC (.int 0))))) (tVar 5) [5])) (gName 6))
  (tRet (tOp (rPlus K) (tLst (tCons (tOp (rIx K) (tVar 6) (tOp (rMod) (tCB (rIntC) (tCons (tOp (rIx K) (tVar 1) (tOp (rPlus K) (tVar 2) (tC (.int 2)))) tNil)) (tCB (rLenU K) (tCons (tVar 6) tNil)))) tNil)) (tSl (rSlU K) (tVar 0) (tPart (tC (.int 1))) tNoPart))))) tNext)
  (tSeq (tAsg (tOp (rPlus K) (tC (.int 1)) (tOp (rMod) (tCB (rIntC) (tCons (tVar 4) tNil)) (tOp (rMinus) (tCB (rLenU K) (tCons (tVar 0) tNil)) (tC (.int 1))))) (gName 4))
  (tSeq (tAsg (tOp (rIx K) (tVar 0) (tVar 4)) (gName 5))
  (tSeq (tAsg (tLst (tCons (tOp (rPlus K) (tC (.str "0")) (tOp (rIx K) (tVar 5) (tUn (rU fun i => .int (-i)) (tC (.int 1))))) (tCons (tOp (rPlus K) (tC (.str "0")) (tOp (rIx K) (tVar 5) (tUn (rU fun i => .int (-i)) (tC (.int 1))))) (tCons (tOp (rPlus K) (tC (.str "0")) (tOp (rIx K) (tVar 5) (tUn (rU fun i => .int (-i)) (tC (.int 1))))) (tCons (tOp (rPlus K) (tC (.str "-")) (tVar 5)) (tCons (tOp (rPlus K) (tC (.str "+")) (tVar 5)) (tCons (tOp (rPlus K) (tVar 5) (tC (.str "00"))) (tCons (tOp (rPlus K) (tVar 5) (tC (.str "."))) tNil)))))))) (gName 6))
  (tSeq (tAsg (tOp (rPlus K) (tVar 6) (tLst (tCons (tOp (rPlus K) (tVar 5) (tC (.str "_0"))) (tCons (tC (.str "")) (tCons (tC (.str "x")) (tCons (tC (.str "1e1")) (tCons (tC (.str "0x1")) tNil))))))) (gName 6))
  (tRet (tOp (rPlus K) (tOp (rPlus K) (tSl (rSlU K) (tVar 0) tNoPart (tPart (tVar 4))) (tLst (tCons (tOp (rIx K) (tVar 6) (tOp (rMod) (tCB (rIntC) (tCons (tOp (rIx K) (tVar 1) (tOp (rPlus K) (tVar 2) (tC (.int 2)))) tNil)) (tC (.int 12)))) tNil))) (tSl (rSlU K) (tVar 0) (tPart (tOp (rPlus K) (tVar 4) (tC (.int 1)))) tNoPart)))))))))))))
theorem tm_l_bad_words (T : Tx K mg w) {f : Addr} {cdv : Value} {A : Around} {outer : List Env} {s : Shared} {H : Hp} {E : XK}
    (hr : Room 0 (A.deeper (envOfC "_law_bad_words" (defScope s_l_bad_words) s.heap.objs.size f cdv))) :
    PSs (cxOf CX0 P w K mg base N_l_bad_words "_law_bad_words" (defScope s_l_bad_words) f cdv A outer s H E).nox (defBody s_l_bad_words) (rd_l_bad_words K    ) :=
  (pss_cons (ps_set (i := 3) sc_l_bad_words.nd rfl (by first | exact Or.inl rfl | exact Or.inr rfl) (pe_op op_modU (pe_callTy call_intU (by rfl) T.f_int (by decide +kernel) (pa_cons (pe_ix ix_seq (pv 1) (pv 2) (fun _ _ => rfl)) pa_nil)) pe_int))
      (pss_cons (ps_set (i := 4) sc_l_bad_words.nd rfl (by first | exact Or.inl rfl | exact Or.inr rfl) (pe_op op_modU (pe_callTy call_intU (by rfl) T.f_int (by decide +kernel) (pa_cons (pe_ix ix_seq (pv 1) (pe_op op_plus (pv 2) pe_int) (fun _ _ => rfl)) pa_nil)) (pe_op op_plus (pe_callB call_lenU (by rfl) T.f_len boot_len (pa_cons (pv 0) pa_nil)) pe_int)))
      (pss_cons (ps_if (pt_cmpR (op_eqU hr) (pv 3) pe_int (nomark _)) (pss_one (ps_ret (pe_op op_plus (pe_op op_plus (pe_slice sl_U (pv 0) po_none (po_some (pv 4))) (pe_lst (pa_cons pe_str pa_nil))) (pe_slice sl_U (pv 0) (po_some (pv 4)) po_none)))) pss_nil)
      (pss_cons (ps_if (pt_cmpR (op_eqU hr) (pv 3) pe_int (nomark _)) (pss_one (ps_ret (pe_op op_plus (pe_op op_plus (pe_slice sl_U (pv 0) po_none (po_some (pv 4))) (pe_lst (pa_cons (pe_callTy call_strU (by rfl) T.f_str (by decide +kernel) (pa_cons (pe_op op_modU (pe_callTy call_intU (by rfl) T.f_int (by decide +kernel) (pa_cons (pe_ix ix_seq (pv 1) (pe_op op_plus (pv 2) pe_int) (fun _ _ => rfl)) pa_nil)) pe_int) pa_nil)) pa_nil))) (pe_slice sl_U (pv 0) (po_some (pv 4)) po_none)))) pss_nil)
      (pss_cons (ps_if (pt_cmpR (op_eqU hr) (pv 3) pe_int (nomark _)) (pss_cons (ps_set (i := 4) sc_l_bad_words.nd rfl (by first | exact Or.inl rfl | exact Or.inr rfl) (pe_op op_modU (pe_callTy call_intU (by rfl) T.f_int (by decide +kernel) (pa_cons (pv 4) pa_nil)) (pe_callB call_lenU (by rfl) T.f_len boot_len (pa_cons (pv 0) pa_nil))))
      (pss_one (ps_ret (pe_op op_plus (pe_slice sl_U (pv 0) po_none (po_some (pv 4))) (pe_slice sl_U (pv 0) (po_some (pe_op op_plus (pv 4) pe_int)) po_none))))) pss_nil)
      (pss_cons (ps_if (pt_cmpR (op_eqU hr) (pv 3) pe_int (nomark _)) (pss_cons (ps_set (i := 6) sc_l_bad_words.nd rfl (by first | exact Or.inl rfl | exact Or.inr rfl) (pe_lst (pa_cons pe_str (pa_cons pe_str (pa_cons pe_str (pa_cons pe_str (pa_cons pe_str (pa_cons pe_str (pa_cons pe_str (pa_cons pe_str (pa_cons pe_str (pa_cons pe_str pa_nil))))))))))))
      (pss_cons (ps_set (i := 6) sc_l_bad_words.nd rfl (by first | exact Or.inl rfl | exact Or.inr rfl) (pe_op op_plus (pv 6) (pe_lc (own := [(("word" : Str), 5)]) (wi := (iSeq K (tLst (tCons (tC (.str "enter")) (tCons (tC (.str "pass")) (tCons (tC (.str "swap")) tNil)))))) (g := (gName 5)) (tt := (tTest (tOp (rNeU K) (tVar 5) (tOp (rIx K) (tVar 0) (tC (.int 0)))))) (te := (tVar 5)) rfl sc_l_bad_words.nd (pi_seq (pe_lst (pa_cons pe_str (pa_cons pe_str (pa_cons pe_str pa_nil))))) (blkOk_by (N := N_l_bad_words) (sc := defScope s_l_bad_words) (by decide +kernel)) (fun _ _ _ _ _ => (pg_name (i := 5) sc_l_bad_words.nd rfl (by first | exact Or.inl rfl | exact Or.inr rfl))) (fun _ _ _ _ _ => (pts_one (pt_cmpR (op_neU hr) (pv 5) (pe_ix ix_seq (pv 0) pe_int (fun _ _ => rfl)) (nomark _)))) (fun _ _ _ _ _ => (pv 5)))))
      (pss_one (ps_ret (pe_op op_plus (pe_lst (pa_cons (pe_ix ix_seq (pv 6) (pe_op op_modU (pe_callTy call_intU (by rfl) T.f_int (by decide +kernel) (pa_cons (pe_ix ix_seq (pv 1) (pe_op op_plus (pv 2) pe_int) (fun _ _ => rfl)) pa_nil)) (pe_callB call_lenU (by rfl) T.f_len boot_len (pa_cons (pv 6) pa_nil))) (fun _ _ => rfl)) pa_nil)) (pe_slice sl_U (pv 0) (po_some pe_int) po_none)))))) pss_nil)
      (pss_cons (ps_set (i := 4) sc_l_bad_words.nd rfl (by first | exact Or.inl rfl | exact Or.inr rfl) (pe_op op_plus pe_int (pe_op op_modU (pe_callTy call_intU (by rfl) T.f_int (by decide +kernel) (pa_cons (pv 4) pa_nil)) (pe_op op_minus (pe_callB call_lenU (by rfl) T.f_len boot_len (pa_cons (pv 0) pa_nil)) pe_int))))
      (pss_cons (ps_set (i := 5) sc_l_bad_words.nd rfl (by first | exact Or.inl rfl | exact Or.inr rfl) (pe_ix ix_seq (pv 0) (pv 4) (fun _ _ => rfl)))
      (pss_cons (ps_set (i := 6) sc_l_bad_words.nd rfl (by first | exact Or.inl rfl | exact Or.inr rfl) (pe_lst (pa_cons (pe_op op_plus pe_str (pe_ix ix_seq (pv 5) (pe_un un_neg pe_int) (fun _ _ => rfl))) (pa_cons (pe_op op_plus pe_str (pe_ix ix_seq (pv 5) (pe_un un_neg pe_int) (fun _ _ => rfl))) (pa_cons (pe_op op_plus pe_str (pe_ix ix_seq (pv 5) (pe_un un_neg pe_int) (fun _ _ => rfl))) (pa_cons (pe_op op_plus pe_str (pv 5)) (pa_cons (pe_op op_plus pe_str (pv 5)) (pa_cons (pe_op op_plus (pv 5) pe_str) (pa_cons (pe_op op_plus (pv 5) pe_str) pa_nil)))))))))
      (pss_cons (ps_set (i := 6) sc_l_bad_words.nd rfl (by first | exact Or.inl rfl | exact Or.inr rfl) (pe_op op_plus (pv 6) (pe_lst (pa_cons (pe_op op_plus (pv 5) pe_str) (pa_cons pe_str (pa_cons pe_str (pa_cons pe_str (pa_cons pe_str pa_nil))))))))
      (pss_one (ps_ret (pe_op op_plus (pe_op op_plus (pe_slice sl_U (pv 0) po_none (po_some (pv 4))) (pe_lst (pa_cons (pe_ix ix_seq (pv 6) (pe_op op_modU (pe_callTy call_intU (by rfl) T.f_int (by decide +kernel) (pa_cons (pe_ix ix_seq (pv 1) (pe_op op_plus (pv 2) pe_int) (fun _ _ => rfl)) pa_nil)) pe_int) (fun _ _ => rfl)) pa_nil))) (pe_slice sl_U (pv 0) (po_some (pe_op op_plus (pv 4) pe_int)) po_none))))))))))))))
def rd_l_changed (K : PySem.W.Frag) (sp_l_bad_words : Sp) : TS :=
  (tSeq (tAsg (tOp (rMod) (tCB (rIntC) (tCons (tOp (rIx K) (tVar 1) (tVar 2)) tNil)) (tC (.int 6))) (gName 3))
  (tSeq (tAsg (tOp (rMod) (tCB (rIntC) (tCons (tOp (rIx K) (tVar 1) (tOp (rPlus K) (tVar 2) (tC (.int 1)))) tNil)) (tOp (rPlus K) (tCB (rLenU K) (tCons (tVar 0) tNil)) (tC (.int 1)))) (gName 4))
  (tSeq (tAsg (tLc (iRng1 (tCons (tCB (rLenU K) (tCons (tVar 0) tNil)) tNil)) (gName 6) (tB (tOp (rIx K) (tOp (rIx K) (tVar 0) (tVar 6)) (tC (.int 1)))) (tVar 6) [6]) (gName 5))
  (tSeq (tIfS (tTest (tOp (rEqU K) (tVar 3) (tC (.int 0)))) (tRet (tOp (rPlus K) (tOp (rPlus K) (tSl (rSlU K) (tVar 0) tNoPart (tPart (tVar 4))) (tLst (tCons (tTup (tCons (tLst (tCons (tC (.str "")) tNil)) (tCons (tC (.bl false)) tNil))) tNil))) (tSl (rSlU K) (tVar 0) (tPart (tVar 4)) tNoPart))) tNext)
  (tSeq (tIfS (tTest (tOp (rEqU K) (tVar 3) (tC (.int 1)))) (tRet (tOp (rPlus K) (tVar 0) (tLst (tCons (tTup (tCons (tLst (tCons (tC (.str "")) tNil)) (tCons (tC (.bl false)) tNil))) tNil)))) tNext)
  (tSeq (tIfS (tOr (tTest (tOp (rEqU K) (tVar 3) (tC (.int 2)))) (tTest (tOp (rEqU K) (tVar 5) (tLst tNil)))) (tRet (tOp (rPlus K) (tOp (rPlus K) (tSl (rSlU K) (tVar 0) tNoPart (tPart (tVar 4))) (tLst (tCons (tTup (tCons (tLst (tCons (tC (.str "")) (tCons (tC (.str "")) tNil))) (tCons (tC (.bl false)) tNil))) tNil))) (tSl (rSlU K) (tVar 0) (tPart (tVar 4)) tNoPart))) tNext)
  (tSeq (tAsg (tOp (rIx K) (tVar 5) (tOp (rMod) (tCB (rIntC) (tCons (tOp (rIx K) (tVar 1) (tOp (rPlus K) (tVar 2) (tC (.int 1)))) tNil)) (tCB (rLenU K) (tCons (tVar 5) tNil)))) (gName 4))
  (tRet (tOp (rPlus K) (tOp (rPlus K) (tSl (rSlU K) (tVar 0) tNoPart (tPart (tVar 4))) (tLst (tCons (tTup (tCons (tCall sp_l_bad_words [] E0 (tCons (tOp (rIx K) (tOp (rIx K) (tVar 0) (tVar 4)) (tC (.int 0))) (tCons (tVar 1) (tCons (tOp (rPlus K) (tVar 2) (tC (.int 2))) tNil)))) (tCons (tC (.bl false)) tNil))) tNil))) (tSl (rSlU K) (tVar 0) (tPart (tOp (rPlus K) (tVar 4) (tC (.int 1)))) tNoPart))))))))))
theorem tm_l_changed {sp_l_bad_words : Sp} (T : Tx K mg w) (G_l_bad_words : Df P w K mg base "_law_bad_words" 1 [] sp_l_bad_words) {f : Addr} {cdv : Value} {A : Around} {outer : List Env} {s : Shared} {H : Hp} {E : XK}
    (hr : Room 1 (A.deeper (envOfC "_law_changed" (defScope s_l_changed) s.heap.objs.size f cdv))) :
    PSs (cxOf CX0 P w K mg base N_l_changed "_law_changed" (defScope s_l_changed) f cdv A outer s H E).nox (defBody s_l_changed) (rd_l_changed K   sp_l_bad_words ) :=
  (pss_cons (ps_set (i := 3) sc_l_changed.nd rfl (by first | exact Or.inl rfl | exact Or.inr rfl) (pe_op op_modU (pe_callTy call_intU (by rfl) T.f_int (by decide +kernel) (pa_cons (pe_ix ix_seq (pv 1) (pv 2) (fun _ _ => rfl)) pa_nil)) pe_int))
      (pss_cons (ps_set (i := 4) sc_l_changed.nd rfl (by first | exact Or.inl rfl | exact Or.inr rfl) (pe_op op_modU (pe_callTy call_intU (by rfl) T.f_int (by decide +kernel) (pa_cons (pe_ix ix_seq (pv 1) (pe_op op_plus (pv 2) pe_int) (fun _ _ => rfl)) pa_nil)) (pe_op op_plus (pe_callB call_lenU (by rfl) T.f_len boot_len (pa_cons (pv 0) pa_nil)) pe_int)))
      (pss_cons (ps_setLc (i := 5) (own := [(("k" : Str), 6)]) (wi := (iRng1 (tCons (tCB (rLenU K) (tCons (tVar 0) tNil)) tNil))) (g := (gName 6)) (tt := (tB (tOp (rIx K) (tOp (rIx K) (tVar 0) (tVar 6)) (tC (.int 1))))) (te := (tVar 6)) rfl sc_l_changed.nd rfl rfl (sw_true rfl rfl rfl (by decide +kernel)) (pi_range1 (by rfl) T.f_range (pa_cons (pe_callB call_lenU (by rfl) T.f_len boot_len (pa_cons (pv 0) pa_nil)) pa_nil)) (blkOk_by (N := N_l_changed) (sc := defScope s_l_changed) (by decide +kernel)) (fun _ _ _ _ _ => (pg_name (i := 6) sc_l_changed.nd rfl (by first | exact Or.inl rfl | exact Or.inr rfl))) (fun _ _ _ _ _ => (pts_one (pt_val (pe_ix ix_seq (pe_ix ix_seq (pv 0) (pv 6) (fun _ _ => rfl)) pe_int (fun _ _ => rfl))))) (fun _ _ _ _ _ => (pv 6)))
      (pss_cons (ps_if (pt_cmpR (op_eqU hr) (pv 3) pe_int (nomark _)) (pss_one (ps_ret (pe_op op_plus (pe_op op_plus (pe_slice sl_U (pv 0) po_none (po_some (pv 4))) (pe_lst (pa_cons (pe_tup (pa_cons (pe_lst (pa_cons pe_str pa_nil)) (pa_cons pe_bl pa_nil))) pa_nil))) (pe_slice sl_U (pv 0) (po_some (pv 4)) po_none)))) pss_nil)
      (pss_cons (ps_if (pt_cmpR (op_eqU hr) (pv 3) pe_int (nomark _)) (pss_one (ps_ret (pe_op op_plus (pv 0) (pe_lst (pa_cons (pe_tup (pa_cons (pe_lst (pa_cons pe_str pa_nil)) (pa_cons pe_bl pa_nil))) pa_nil))))) pss_nil)
      (pss_cons (ps_if (PW.pt (pw_or (pt_cmpR (op_eqU hr) (pv 3) pe_int (nomark _)) (pw_or1 (pt_cmpR (op_eqU hr) (pv 5) (pe_lst pa_nil) (nomark _))))) (pss_one (ps_ret (pe_op op_plus (pe_op op_plus (pe_slice sl_U (pv 0) po_none (po_some (pv 4))) (pe_lst (pa_cons (pe_tup (pa_cons (pe_lst (pa_cons pe_str (pa_cons pe_str pa_nil))) (pa_cons pe_bl pa_nil))) pa_nil))) (pe_slice sl_U (pv 0) (po_some (pv 4)) po_none)))) pss_nil)
      (pss_cons (ps_set (i := 4) sc_l_changed.nd rfl (by first | exact Or.inl rfl | exact Or.inr rfl) (pe_ix ix_seq (pv 5) (pe_op op_modU (pe_callTy call_intU (by rfl) T.f_int (by decide +kernel) (pa_cons (pe_ix ix_seq (pv 1) (pe_op op_plus (pv 2) pe_int) (fun _ _ => rfl)) pa_nil)) (pe_callB call_lenU (by rfl) T.f_len boot_len (pa_cons (pv 5) pa_nil))) (fun _ _ => rfl)))
      (pss_one (ps_ret (pe_op op_plus (pe_op op_plus (pe_slice sl_U (pv 0) po_none (po_some (pv 4))) (pe_lst (pa_cons (pe_tup (pa_cons (pe_df G_l_bad_words (hr.mono (by decide)) (by rfl) (pa_cons (pe_ix ix_seq (pe_ix ix_seq (pv 0) (pv 4) (fun _ _ => rfl)) pe_int (fun _ _ => rfl)) (pa_cons (pv 1) (pa_cons (pe_op op_plus (pv 2) pe_int) pa_nil)))) (pa_cons pe_bl pa_nil))) pa_nil))) (pe_slice sl_U (pv 0) (po_some (pe_op op_plus (pv 4) pe_int)) po_none)))))))))))
def rd_l_read (K : PySem.W.Frag) (sp_read_run : Sp) : TS :=
  (tSeq (tAsg (tC .non) (gName 1))
  (tSeq (tTryA K (.ref (gA K "BadText")) 2 (fun W => (tAsg (tCallS sp_read_run (WE W) (tCons (tVar 0) tNil)) (gName 1))) (fun xa xc xd => (tAsg (tTup (tCons (tC (.str "refused")) (tCons (tAtS K xa xc xd "line" (tVar 2)) tNil))) (gName 1))) (fun _ _ _ _ => False))
  (tRet (tVar 1))))
theorem tm_l_read {sp_read_run : Sp} (T : Tx K mg w) (GX_read_run : DfX P w K mg base "read_run" 4 [] sp_read_run) {f : Addr} {cdv : Value} {A : Around} {outer : List Env} {s : Shared} {H : Hp} {E : XK}
    (hr : Room 4 (A.deeper (envOfC "_law_read" (defScope s_l_read) s.heap.objs.size f cdv))) :
    PSs (cxOf CX0 P w K mg base N_l_read "_law_read" (defScope s_l_read) f cdv A outer s H E).nox (defBody s_l_read) (rd_l_read K   sp_read_run ) :=
  (pss_cons (ps_set (i := 1) sc_l_read.nd rfl (by first | exact Or.inl rfl | exact Or.inr rfl) pe_non)
      (pss_cons (ps_try_as (i := 2) (tb := fun W => (tAsg (tCallS sp_read_run (WE W) (tCons (tVar 0) tNil)) (gName 1))) (ts := fun xa xc xd => (tAsg (tTup (tCons (tC (.str "refused")) (tCons (tAtS K xa xc xd "line" (tVar 2)) tNil))) (gName 1))) (Wout := (fun _ _ _ _ => False)) rfl rfl sc_l_read.nd rfl rfl ⟨rfl, by decide, .inl T.g_BadText⟩ takes0 (fun W pn xe tk hpo => (pss_one (ps_set (i := 1) sc_l_read.nd rfl (by first | exact Or.inl rfl | exact Or.inr rfl) (pe_dfX GX_read_run (hr.mono (by decide)) (by rfl) tk (pa_cons (pv 0) pa_nil))))) (fun xa oe xc xd pn hz hf => (pss_one (ps_set (i := 1) sc_l_read.nd rfl (by first | exact Or.inl rfl | exact Or.inr rfl) (pe_tup (pa_cons pe_str (pa_cons (pe_atS hz hf (pv 2)) pa_nil)))))))
      (pss_one (ps_ret (pv 1)))))
def rd_l_pure (K : PySem.W.Frag) (sp_read_run : Sp) : TS :=
  (tSeq (tAsg (tC (.bl false)) (gName 1))
  (tSeq (tTryA K (.ref (gA K "FullhandsError")) 2 (fun W => (tDrop (tCallS sp_read_run (WE W) (tCons (tVar 0) tNil)))) (fun xa xc xd => (tAsg (tAndV (tCB (rIsiS K xa xc xd) (tCons (tVar 2) (tCons (tC (.ty "ValueError")) tNil))) (tAndV (tCB (rIsiS K xa xc xd) (tCons (tVar 2) (tCons (tC (.ref (gA K "BadText"))) tNil))) (tNotV (tCB (rIsiS K xa xc xd) (tCons (tVar 2) (tCons (tTup (tCons (tC (.ref (gA K "AttemptFailed"))) (tCons (tC (.ref (gA K "BadDealing"))) (tCons (tC (.ref (gA K "BadLine"))) (tCons (tC (.ref (gA K "BadLoads"))) (tCons (tC (.ref (gA K "BadLot"))) (tCons (tC (.ref (gA K "BadProgram"))) (tCons (tC (.ref (gA K "BadStanding"))) (tCons (tC (.ref (gA K "BadTable"))) (tCons (tC (.ref (gA K "BadVector"))) (tCons (tC (.ref (gA K "CannotMove"))) (tCons (tC (.ref (gA K "Impossible"))) (tCons (tC (.ref (gA K "InUse"))) (tCons (tC (.ref (gA K "NoSuch"))) (tCons (tC (.ref (gA K "NotCore"))) (tCons (tC (.ref (gA K "NotLocal"))) (tCons (tC (.ref (gA K "NothingToRedo"))) (tCons (tC (.ref (gA K "NothingToUndo"))) (tCons (tC (.ref (gA K "TooGreat"))) (tCons (tC (.ref (gA K "WrongGround"))) tNil)))))))))))))))))))) tNil)))))) (gName 1))) (fun _ _ _ _ => False))
  (tRet (tVar 1))))
theorem tm_l_pure {sp_read_run : Sp} (T : Tx K mg w) (GX_read_run : DfX P w K mg base "read_run" 4 [] sp_read_run) {f : Addr} {cdv : Value} {A : Around} {outer : List Env} {s : Shared} {H : Hp} {E : XK}
    (hr : Room 4 (A.deeper (envOfC "_law_pure" (defScope s_l_pure) s.heap.objs.size f cdv))) :
    PSs (cxOf CX0 P w K mg base N_l_pure "_law_pure" (defScope s_l_pure) f cdv A outer s H E).nox (defBody s_l_pure) (rd_l_pure K   sp_read_run ) :=
  (pss_cons (ps_set (i := 1) sc_l_pure.nd rfl (by first | exact Or.inl rfl | exact Or.inr rfl) pe_bl)
      (pss_cons (ps_try_as (i := 2) (tb := fun W => (tDrop (tCallS sp_read_run (WE W) (tCons (tVar 0) tNil)))) (ts := fun xa xc xd => (tAsg (tAndV (tCB (rIsiS K xa xc xd) (tCons (tVar 2) (tCons (tC (.ty "ValueError")) tNil))) (tAndV (tCB (rIsiS K xa xc xd) (tCons (tVar 2) (tCons (tC (.ref (gA K "BadText"))) tNil))) (tNotV (tCB (rIsiS K xa xc xd) (tCons (tVar 2) (tCons (tTup (tCons (tC (.ref (gA K "AttemptFailed"))) (tCons (tC (.ref (gA K "BadDealing"))) (tCons (tC (.ref (gA K "BadLine"))) (tCons (tC (.ref (gA K "BadLoads"))) (tCons (tC (.ref (gA K "BadLot"))) (tCons (tC (.ref (gA K "BadProgram"))) (tCons (tC (.ref (gA K "BadStanding"))) (tCons (tC (.ref (gA K "BadTable"))) (tCons (tC (.ref (gA K "BadVector"))) (tCons (tC (.ref (gA K "CannotMove"))) (tCons (tC (.ref (gA K "Impossible"))) (tCons (tC (.ref (gA K "InUse"))) (tCons (tC (.ref (gA K "NoSuch"))) (tCons (tC (.ref (gA K "NotCore"))) (tCons (tC (.ref (gA K "NotLocal"))) (tCons (tC (.ref (gA K "NothingToRedo"))) (tCons (tC (.ref (gA K "NothingToUndo"))) (tCons (tC (.ref (gA K "TooGreat"))) (tCons (tC (.ref (gA K "WrongGround"))) tNil)))))))))))))))))))) tNil)))))) (gName 1))) (Wout := (fun _ _ _ _ => False)) rfl rfl sc_l_pure.nd rfl rfl ⟨rfl, by decide, .inl T.g_FullhandsError⟩ takes0 (fun W pn xe tk hpo => (pss_one (ps_expr (pe_dfX GX_read_run (hr.mono (by decide)) (by rfl) tk (pa_cons (pv 0) pa_nil))))) (fun xa oe xc xd pn hz hf => (pss_one (ps_set (i := 1) sc_l_pure.nd rfl (by first | exact Or.inl rfl | exact Or.inr rfl) (pe_and (pe_callB (call_isiS hz hf) (by rfl) T.f_isinstance boot_isinstance (pa_cons (pv 2) (pa_cons (pe_bltn (v := .ty "ValueError") (by rfl) T.f_ValueError (by decide +kernel) rfl) pa_nil))) (pe_and (pe_callB (call_isiS hz hf) (by rfl) T.f_isinstance boot_isinstance (pa_cons (pv 2) (pa_cons (pe_glob (v := .ref (gA K "BadText")) (by rfl) T.g_BadText rfl) pa_nil))) (pe_one (pe_not (pe_callB (call_isiS hz hf) (by rfl) T.f_isinstance boot_isinstance (pa_cons (pv 2) (pa_cons (pe_tup (pa_cons (pe_glob (v := .ref (gA K "AttemptFailed")) (by rfl) T.g_AttemptFailed rfl) (pa_cons (pe_glob (v := .ref (gA K "BadDealing")) (by rfl) T.g_BadDealing rfl) (pa_cons (pe_glob (v := .ref (gA K "BadLine")) (by rfl) T.g_BadLine rfl) (pa_cons (pe_glob (v := .ref (gA K "BadLoads")) (by rfl) T.g_BadLoads rfl) (pa_cons (pe_glob (v := .ref (gA K "BadLot")) (by rfl) T.g_BadLot rfl) (pa_cons (pe_glob (v := .ref (gA K "BadProgram")) (by rfl) T.g_BadProgram rfl) (pa_cons (pe_glob (v := .ref (gA K "BadStanding")) (by rfl) T.g_BadStanding rfl) (pa_cons (pe_glob (v := .ref (gA K "BadTable")) (by rfl) T.g_BadTable rfl) (pa_cons (pe_glob (v := .ref (gA K "BadVector")) (by rfl) T.g_BadVector rfl) (pa_cons (pe_glob (v := .ref (gA K "CannotMove")) (by rfl) T.g_CannotMove rfl) (pa_cons (pe_glob (v := .ref (gA K "Impossible")) (by rfl) T.g_Impossible rfl) (pa_cons (pe_glob (v := .ref (gA K "InUse")) (by rfl) T.g_InUse rfl) (pa_cons (pe_glob (v := .ref (gA K "NoSuch")) (by rfl) T.g_NoSuch rfl) (pa_cons (pe_glob (v := .ref (gA K "NotCore")) (by rfl) T.g_NotCore rfl) (pa_cons (pe_glob (v := .ref (gA K "NotLocal")) (by rfl) T.g_NotLocal rfl) (pa_cons (pe_glob (v := .ref (gA K "NothingToRedo")) (by rfl) T.g_NothingToRedo rfl) (pa_cons (pe_glob (v := .ref (gA K "NothingToUndo")) (by rfl) T.g_NothingToUndo rfl) (pa_cons (pe_glob (v := .ref (gA K "TooGreat")) (by rfl) T.g_TooGreat rfl) (pa_cons (pe_glob (v := .ref (gA K "WrongGround")) (by rfl) T.g_WrongGround rfl) pa_nil)))))))))))))))))))) pa_nil)))))))))))
      (pss_one (ps_ret (pv 1)))))
def rd_law (K : PySem.W.Frag) (sp_l_pool sp_l_moves sp_l_words sp_l_joined_rows sp_l_same sp_run_text sp_read_run sp_l_changed sp_l_read sp_l_pure : Sp) : TS :=
  (tSeq (tAsg (tCall sp_l_pool [] E0 (tCons (tVar 0) (tCons (tC (.int 150)) tNil))) (gName 1))
  (tSeq (tAsg (tCall sp_l_moves [] E0 (tCons (tVar 1) (tCons (tC (.int 10)) (tCons (tOp (rMod) (tCB (rIntC) (tCons (tOp (rIx K) (tVar 1) (tC (.int 0))) tNil)) (tC (.int 21))) tNil)))) (gName 2))
  (tSeq (tIfS (tTest (tOp (rEqU K) (tOp (rMod) (tCB (rIntC) (tCons (tOp (rIx K) (tVar 1) (tC (.int 1))) tNil)) (tC (.int 8))) (tC (.int 1)))) (tAsg (tLst tNil) (gName 2)) tNext)
  (tSeq (tIfS (tTest (tOp (rEqU K) (tOp (rMod) (tCB (rIntC) (tCons (tOp (rIx K) (tVar 1) (tC (.int 1))) tNil)) (tC (.int 16))) (tC (.int 2)))) (tAsg (tOp (rTimes) (tVar 2) (tC (.int 6))) (gName 2)) tNext)
  (tSeq (tAsg (tLc (iSeq K (tVar 2)) (gName 10) tYes (tTup (tCons (tCall sp_l_words [] E0 (tCons (tVar 10) tNil)) (tCons (tC (.bl true)) tNil))) [10]) (gName 3))
  (tSeq (tAsg (tCall sp_l_joined_rows [] E0 (tCons (tVar 3) tNil)) (gName 4))
  (tSeq (tAsg (tCB (rListU K) (tCons (tVar 2) tNil)) (gName 5))
  (tSeq (tIfS (tOr (tNot (tB (tCall sp_l_same [] E0 (tCons (tCall sp_run_text [] E0 (tCons (tCB (rTupU K) (tCons (tVar 2) tNil)) tNil)) (tCons (tVar 4) tNil))))) (tNot (tB (tCall sp_l_same [] E0 (tCons (tCall sp_run_text [] E0 (tCons (tVar 5) tNil)) (tCons (tVar 4) tNil)))))) (tRet (tC (.bl false))) tNext)
  (tSeq (tIfS (tNot (tB (tCall sp_l_same [] E0 (tCons (tVar 5) (tCons (tVar 2) tNil))))) (tRet (tC (.bl false))) tNext)
  (tSeq (tDrop (tBM K "list" rAppend (tVar 5) (tCons (tTup (tCons (tC (.str "swap")) (tCons (tC (.int 7)) (tCons (tC (.int 0)) (tCons (tC (.int 99)) (tCons (tC (.int 10)) tNil)))))) tNil)))
  (tSeq (tAsg (tCall sp_l_joined_rows [] E0 (tCons (tOp (rPlus K) (tVar 3) (tLst (tCons (tTup (tCons (tLst (tCons (tC (.str "swap")) (tCons (tC (.str "7")) (tCons (tC (.str "0")) (tCons (tC (.str "99")) (tCons (tC (.str "10")) tNil)))))) (tCons (tC (.bl true)) tNil))) tNil))) tNil)) (gName 6))
  (tSeq (tIfS (tOr (tNot (tB (tCall sp_l_same [] E0 (tCons (tCall sp_run_text [] E0 (tCons (tVar 5) tNil)) (tCons (tVar 6) tNil))))) (tNot (tB (tCall sp_l_same [] E0 (tCons (tCall sp_read_run [] E0 (tCons (tVar 6) tNil)) (tCons (tVar 5) tNil)))))) (tRet (tC (.bl false))) tNext)
  (tSeq (tAsg (tCall sp_read_run [] E0 (tCons (tVar 4) tNil)) (gName 7))
  (tSeq (tIfS (tNot (tB (tCall sp_l_same [] E0 (tCons (tVar 7) (tCons (tVar 2) tNil))))) (tRet (tC (.bl false))) tNext)
  (tSeq (tDrop (tBM K "list" rAppend (tVar 7) (tCons (tTup (tCons (tC (.str "enter")) (tCons (tC (.int 1)) tNil))) tNil)))
  (tSeq (tIfS (tTest (tOp (rEqU K) (tOp (rMod) (tCB (rIntC) (tCons (tOp (rIx K) (tVar 1) (tC (.int 2))) tNil)) (tC (.int 2))) (tC (.int 1)))) (tAsg (tCall sp_l_changed [] E0 (tCons (tVar 3) (tCons (tVar 1) (tCons (tC (.int 130)) tNil)))) (gName 3)) tNext)
  (tSeq (tIfS (tTest (tOp (rEqU K) (tOp (rMod) (tCB (rIntC) (tCons (tOp (rIx K) (tVar 1) (tC (.int 2))) tNil)) (tC (.int 4))) (tC (.int 3)))) (tAsg (tCall sp_l_changed [] E0 (tCons (tVar 3) (tCons (tVar 1) (tCons (tC (.int 140)) tNil)))) (gName 3)) tNext)
  (tSeq (tAsg (tCall sp_l_joined_rows [] E0 (tCons (tVar 3) tNil)) (gName 8))
  (tSeq (tAsg (tLc (iRng1 (tCons (tCB (rLenU K) (tCons (tVar 3) tNil)) tNil)) (gName 11) (tNot (tB (tOp (rIx K) (tOp (rIx K) (tVar 3) (tVar 11)) (tC (.int 1))))) (tOp (rPlus K) (tVar 11) (tC (.int 1))) [11]) (gName 9))
  (tSeq (tIfS (tOr (tTest (tOp (rEqU K) (tVar 8) (tC (.str "")))) (tTest (tOp (rEqU K) (tVar 9) (tLst tNil)))) (tRet (tCall sp_l_same [] E0 (tCons (tCall sp_l_read [] E0 (tCons (tVar 8) tNil)) (tCons (tVar 2) tNil)))) tNext)
  (tSeq (tIfS (tOr (tNot (tB (tCall sp_l_same [] E0 (tCons (tCall sp_l_read [] E0 (tCons (tVar 8) tNil)) (tCons (tTup (tCons (tC (.str "refused")) (tCons (tOp (rIx K) (tVar 9) (tC (.int 0))) tNil))) tNil))))) (tNot (tB (tCall sp_l_pure [] E0 (tCons (tVar 8) tNil))))) (tRet (tC (.bl false))) tNext)
  (tRet (tCall sp_l_same [] E0 (tCons (tCall sp_l_read [] E0 (tCons (tVar 4) tNil)) (tCons (tVar 2) tNil)))))))))))))))))))))))))
theorem tm_law {sp_l_pool sp_l_moves sp_l_words sp_l_joined_rows sp_l_same sp_run_text sp_read_run sp_l_changed sp_l_read sp_l_pure : Sp} (T : Tx K mg w) (G_l_pool : Df P w K mg base "_law_pool" 2 [] sp_l_pool) (G_l_moves : Df P w K mg base "_law_moves" 1 [] sp_l_moves) (G_l_words : Df P w K mg base "_law_words" 1 [] sp_l_words) (G_l_joined_rows : Df P w K mg base "_law_joined_rows" 1 [] sp_l_joined_rows) (G_l_same : Df P w K mg base "_law_same" 7 [] sp_l_same) (G_run_text : Df P w K mg base "run_text" 1 [] sp_run_text) (G_read_run : Df P w K mg base "read_run" 4 [] sp_read_run) (G_l_changed : Df P w K mg base "_law_changed" 2 [] sp_l_changed) (G_l_read : Df P w K mg base "_law_read" 5 [] sp_l_read) (G_l_pure : Df P w K mg base "_law_pure" 5 [] sp_l_pure) {f : Addr} {cdv : Value} {A : Around} {outer : List Env} {s : Shared} {H : Hp} {E : XK}
    (hr : Room 7 (A.deeper (envOfC "law" (defScope s_law) s.heap.objs.size f cdv))) :
    PSs (cxOf CX0 P w K mg base N_law "law" (defScope s_law) f cdv A outer s H E).nox (defBody s_law) (rd_law K   sp_l_pool sp_l_moves sp_l_words sp_l_joined_rows sp_l_same sp_run_text sp_read_run sp_l_changed sp_l_read sp_l_pure ) :=
  (pss_cons (ps_set (i := 1) sc_law.nd rfl (by first | exact Or.inl rfl | exact Or.inr rfl) (pe_df G_l_pool (hr.mono (by decide)) (by rfl) (pa_cons (pv 0) (pa_cons pe_int pa_nil))))
      (pss_cons (ps_set (i := 2) sc_law.nd rfl (by first | exact Or.inl rfl | exact Or.inr rfl) (pe_df G_l_moves (hr.mono (by decide)) (by rfl) (pa_cons (pv 1) (pa_cons pe_int (pa_cons (pe_op op_modU (pe_callTy call_intU (by rfl) T.f_int (by decide +kernel) (pa_cons (pe_ix ix_seq (pv 1) pe_int (fun _ _ => rfl)) pa_nil)) pe_int) pa_nil)))))
      (pss_cons (ps_if (pt_cmpR (op_eqU hr) (pe_op op_modU (pe_callTy call_intU (by rfl) T.f_int (by decide +kernel) (pa_cons (pe_ix ix_seq (pv 1) pe_int (fun _ _ => rfl)) pa_nil)) pe_int) pe_int (nomark _)) (pss_one (ps_set (i := 2) sc_law.nd rfl (by first | exact Or.inl rfl | exact Or.inr rfl) (pe_lst pa_nil))) pss_nil)
      (pss_cons (ps_if (pt_cmpR (op_eqU hr) (pe_op op_modU (pe_callTy call_intU (by rfl) T.f_int (by decide +kernel) (pa_cons (pe_ix ix_seq (pv 1) pe_int (fun _ _ => rfl)) pa_nil)) pe_int) pe_int (nomark _)) (pss_one (ps_set (i := 2) sc_law.nd rfl (by first | exact Or.inl rfl | exact Or.inr rfl) (pe_op op_times (pv 2) pe_int))) pss_nil)
      (pss_cons (ps_set (i := 3) sc_law.nd rfl (by first | exact Or.inl rfl | exact Or.inr rfl) (pe_lc (own := [(("move" : Str), 10)]) (wi := (iSeq K (tVar 2))) (g := (gName 10)) (tt := tYes) (te := (tTup (tCons (tCall sp_l_words [] E0 (tCons (tVar 10) tNil)) (tCons (tC (.bl true)) tNil)))) rfl sc_law.nd (pi_seq (pv 2)) (blkOk_by (N := N_law) (sc := defScope s_law) (by decide +kernel)) (fun _ _ _ _ _ => (pg_name (i := 10) sc_law.nd rfl (by first | exact Or.inl rfl | exact Or.inr rfl))) (fun _ _ _ _ _ => pts_nil) (fun _ _ _ _ _ => (pe_tup (pa_cons (pe_df G_l_words (hr.mono (by decide)) (by rfl) (pa_cons (pv 10) pa_nil)) (pa_cons pe_bl pa_nil))))))
      (pss_cons (ps_set (i := 4) sc_law.nd rfl (by first | exact Or.inl rfl | exact Or.inr rfl) (pe_df G_l_joined_rows (hr.mono (by decide)) (by rfl) (pa_cons (pv 3) pa_nil)))
      (pss_cons (ps_set (i := 5) sc_law.nd rfl (by first | exact Or.inl rfl | exact Or.inr rfl) (pe_callTy call_listU (by rfl) T.f_list (by decide +kernel) (pa_cons (pv 2) pa_nil)))
      (pss_cons (ps_if (PW.pt (pw_or (pt_not (pt_val (pe_df G_l_same (hr.mono (by decide)) (by rfl) (pa_cons (pe_df G_run_text (hr.mono (by decide)) (by rfl) (pa_cons (pe_callTy call_tupU (by rfl) T.f_tuple (by decide +kernel) (pa_cons (pv 2) pa_nil)) pa_nil)) (pa_cons (pv 4) pa_nil))))) (pw_or1 (pt_not (pt_val (pe_df G_l_same (hr.mono (by decide)) (by rfl) (pa_cons (pe_df G_run_text (hr.mono (by decide)) (by rfl) (pa_cons (pv 5) pa_nil)) (pa_cons (pv 4) pa_nil)))))))) (pss_one (ps_ret pe_bl)) pss_nil)
      (pss_cons (ps_if (pt_not (pt_val (pe_df G_l_same (hr.mono (by decide)) (by rfl) (pa_cons (pv 5) (pa_cons (pv 2) pa_nil))))) (pss_one (ps_ret pe_bl)) pss_nil)
      (pss_cons (ps_expr (pe_bm PySem.F.plainAttrs_list PySem.F.slot_list_append PySem.F.type_list_append mt_append (pv 5) (pa_cons (pe_tup (pa_cons pe_str (pa_cons pe_int (pa_cons pe_int (pa_cons pe_int (pa_cons pe_int pa_nil)))))) pa_nil)))
      (pss_cons (ps_set (i := 6) sc_law.nd rfl (by first | exact Or.inl rfl | exact Or.inr rfl) (pe_df G_l_joined_rows (hr.mono (by decide)) (by rfl) (pa_cons (pe_op op_plus (pv 3) (pe_lst (pa_cons (pe_tup (pa_cons (pe_lst (pa_cons pe_str (pa_cons pe_str (pa_cons pe_str (pa_cons pe_str (pa_cons pe_str pa_nil)))))) (pa_cons pe_bl pa_nil))) pa_nil))) pa_nil)))
      (pss_cons (ps_if (PW.pt (pw_or (pt_not (pt_val (pe_df G_l_same (hr.mono (by decide)) (by rfl) (pa_cons (pe_df G_run_text (hr.mono (by decide)) (by rfl) (pa_cons (pv 5) pa_nil)) (pa_cons (pv 6) pa_nil))))) (pw_or1 (pt_not (pt_val (pe_df G_l_same (hr.mono (by decide)) (by rfl) (pa_cons (pe_df G_read_run (hr.mono (by decide)) (by rfl) (pa_cons (pv 6) pa_nil)) (pa_cons (pv 5) pa_nil)))))))) (pss_one (ps_ret pe_bl)) pss_nil)
      (pss_cons (ps_set (i := 7) sc_law.nd rfl (by first | exact Or.inl rfl | exact Or.inr rfl) (pe_df G_read_run (hr.mono (by decide)) (by rfl) (pa_cons (pv 4) pa_nil)))
      (pss_cons (ps_if (pt_not (pt_val (pe_df G_l_same (hr.mono (by decide)) (by rfl) (pa_cons (pv 7) (pa_cons (pv 2) pa_nil))))) (pss_one (ps_ret pe_bl)) pss_nil)
      (pss_cons (ps_expr (pe_bm PySem.F.plainAttrs_list PySem.F.slot_list_append PySem.F.type_list_append mt_append (pv 7) (pa_cons (pe_tup (pa_cons pe_str (pa_cons pe_int pa_nil))) pa_nil)))
      (pss_cons (ps_if (pt_cmpR (op_eqU hr) (pe_op op_modU (pe_callTy call_intU (by rfl) T.f_int (by decide +kernel) (pa_cons (pe_ix ix_seq (pv 1) pe_int (fun _ _ => rfl)) pa_nil)) pe_int) pe_int (nomark _)) (pss_one (ps_set (i := 3) sc_law.nd rfl (by first | exact Or.inl rfl | exact Or.inr rfl) (pe_df G_l_changed (hr.mono (by decide)) (by rfl) (pa_cons (pv 3) (pa_cons (pv 1) (pa_cons pe_int pa_nil)))))) pss_nil)
      (pss_cons (ps_if (pt_cmpR (op_eqU hr) (pe_op op_modU (pe_callTy call_intU (by rfl) T.f_int (by decide +kernel) (pa_cons (pe_ix ix_seq (pv 1) pe_int (fun _ _ => rfl)) pa_nil)) pe_int) pe_int (nomark _)) (pss_one (ps_set (i := 3) sc_law.nd rfl (by first | exact Or.inl rfl | exact Or.inr rfl) (pe_df G_l_changed (hr.mono (by decide)) (by rfl) (pa_cons (pv 3) (pa_cons (pv 1) (pa_cons pe_int pa_nil)))))) pss_nil)
      (pss_cons (ps_set (i := 8) sc_law.nd rfl (by first | exact Or.inl rfl | exact Or.inr rfl) (pe_df G_l_joined_rows (hr.mono (by decide)) (by rfl) (pa_cons (pv 3) pa_nil)))
      (pss_cons (ps_setLc (i := 9) (own := [(("k" : Str), 11)]) (wi := (iRng1 (tCons (tCB (rLenU K) (tCons (tVar 3) tNil)) tNil))) (g := (gName 11)) (tt := (tNot (tB (tOp (rIx K) (tOp (rIx K) (tVar 3) (tVar 11)) (tC (.int 1)))))) (te := (tOp (rPlus K) (tVar 11) (tC (.int 1)))) rfl sc_law.nd rfl rfl (sw_true rfl rfl rfl (by decide +kernel)) (pi_range1 (by rfl) T.f_range (pa_cons (pe_callB call_lenU (by rfl) T.f_len boot_len (pa_cons (pv 3) pa_nil)) pa_nil)) (blkOk_by (N := N_law) (sc := defScope s_law) (by decide +kernel)) (fun _ _ _ _ _ => (pg_name (i := 11) sc_law.nd rfl (by first | exact Or.inl rfl | exact Or.inr rfl))) (fun _ _ _ _ _ => (pts_one (pt_not (pt_val (pe_ix ix_seq (pe_ix ix_seq (pv 3) (pv 11) (fun _ _ => rfl)) pe_int (fun _ _ => rfl)))))) (fun _ _ _ _ _ => (pe_op op_plus (pv 11) pe_int)))
      (pss_cons (ps_if (PW.pt (pw_or (pt_cmpR (op_eqU hr) (pv 8) pe_str (nomark _)) (pw_or1 (pt_cmpR (op_eqU hr) (pv 9) (pe_lst pa_nil) (nomark _))))) (pss_one (ps_ret (pe_df G_l_same (hr.mono (by decide)) (by rfl) (pa_cons (pe_df G_l_read (hr.mono (by decide)) (by rfl) (pa_cons (pv 8) pa_nil)) (pa_cons (pv 2) pa_nil))))) pss_nil)
      (pss_cons (ps_if (PW.pt (pw_or (pt_not (pt_val (pe_df G_l_same (hr.mono (by decide)) (by rfl) (pa_cons (pe_df G_l_read (hr.mono (by decide)) (by rfl) (pa_cons (pv 8) pa_nil)) (pa_cons (pe_tup (pa_cons pe_str (pa_cons (pe_ix ix_seq (pv 9) pe_int (fun _ _ => rfl)) pa_nil))) pa_nil))))) (pw_or1 (pt_not (pt_val (pe_df G_l_pure (hr.mono (by decide)) (by rfl) (pa_cons (pv 8) pa_nil))))))) (pss_one (ps_ret pe_bl)) pss_nil)
      (pss_one (ps_ret (pe_df G_l_same (hr.mono (by decide)) (by rfl) (pa_cons (pe_df G_l_read (hr.mono (by decide)) (by rfl) (pa_cons (pv 4) pa_nil)) (pa_cons (pv 2) pa_nil))))))))))))))))))))))))))
end
end Fh

set_option Elab.async false
set_option linter.all false
set_option maxRecDepth 100000
set_option maxHeartbeats 4000000
namespace Fh
open PySem PySem.Spec PyProof.Rows L2 TL
/-! ### texts as lists of signs -/
def S (l : List Nat) : Str := ⟨l.toArray⟩
theorem tl_S (l : List Nat) : tl (S l) = l := rfl
theorem S_tl (x : Str) : S (tl x) = x := mk_tl x
theorem S_app (l : List Nat) (x : Str) : S l ++ x = S (l ++ tl x) := ext_tl (by rw [tl_append, tl_S, tl_S])
theorem S_len (l : List Nat) : (S l).length = l.length := by rw [len_tl, tl_S]
theorem joinL_snoc (y : List Nat) : ∀ (ps : List (List Nat)) (p : List Nat), joinL y (ps ++ [p]) = if ps = [] then p else joinL y ps ++ (y ++ p)
  | [], p => rfl
  | [q], p => rfl
  | q :: r :: ps, p => by
    have ih := joinL_snoc y (r :: ps) p
    rw [if_neg (by simp)] at ih ⊢
    show q ++ (y ++ joinL y ((r :: ps) ++ [p])) = q ++ (y ++ joinL y (r :: ps)) ++ (y ++ p)
    rw [ih]
    simp [List.append_assoc]
theorem joinL_len (y : List Nat) (b : Nat) : ∀ ps : List (List Nat), (∀ p ∈ ps, p.length ≤ b) → (joinL y ps).length ≤ ps.length * (b + y.length)
  | [], _ => Nat.zero_le _
  | [p], h => by
    have := h p (List.mem_singleton.mpr rfl)
    show p.length ≤ 1 * (b + y.length)
    omega
  | p :: q :: r, h => by
    have h1 := h p List.mem_cons_self
    have ih := joinL_len y b (q :: r) fun z hz => h z (List.mem_cons_of_mem _ hz)
    show (p ++ (y ++ joinL y (q :: r))).length ≤ (r.length + 1 + 1) * (b + y.length)
    have ih2 : (joinL y (q :: r)).length ≤ (r.length + 1) * (b + y.length) := ih
    rw [List.length_append, List.length_append, Nat.succ_mul]
    omega
def lineL (ws : List Str) : List Nat := joinL [32] (ws.map tl)
def textL (rows : List (List Str)) : List Nat := joinL [10] (rows.map lineL)
def line (ws : List Str) : Str := S (lineL ws)
def text (rows : List (List Str)) : Str := S (textL rows)
theorem tl_sp : tl (" " : Str) = [32] := by decide +kernel
theorem tl_nl : tl ("\n" : Str) = [10] := by decide +kernel
theorem line_join (ws : List Str) : Txt.join " " ws = line ws := ext_tl (by rw [join_eq, tl_join, tl_sp]; rfl)
theorem text_join (rows : List (List Str)) : Txt.join "\n" (rows.map line) = text rows := ext_tl (by rw [join_eq, tl_join, tl_nl, List.map_map]; rfl)
/-- words without blanks and line ends -/
def clean (ws : List Str) : Prop := ws ≠ [] ∧ ∀ w ∈ ws, 10 ∉ tl w ∧ 32 ∉ tl w
theorem line_split {ws : List Str} (h : clean ws) : Txt.split (line ws) " " = ws := by
  rw [← line_join]
  exact split_join tl_sp (by decide +kernel) h.1 fun p hp => (h.2 p hp).2
theorem mem_joinL {y : List Nat} {c : Nat} : ∀ {ps : List (List Nat)}, c ∈ joinL y ps → c ∈ y ∨ ∃ p ∈ ps, c ∈ p
  | [], h => by cases h
  | [p], h => .inr ⟨p, List.mem_singleton.mpr rfl, h⟩
  | p :: q :: r, h => by
    have h2 : c ∈ p ++ (y ++ joinL y (q :: r)) := h
    rcases List.mem_append.mp h2 with h3 | h3
    · exact .inr ⟨p, List.mem_cons_self, h3⟩
    · rcases List.mem_append.mp h3 with h4 | h4
      · exact .inl h4
      · rcases mem_joinL h4 with h5 | ⟨z, h5, h6⟩
        · exact .inl h5
        · exact .inr ⟨z, List.mem_cons_of_mem _ h5, h6⟩
theorem line_free {ws : List Str} (h : clean ws) : 10 ∉ tl (line ws) := fun hm => by
  rw [line, tl_S] at hm
  rcases mem_joinL hm with h1 | ⟨p, h1, h2⟩
  · simp at h1
  · obtain ⟨w, hw, rfl⟩ := List.mem_map.mp h1
    exact (h.2 w hw).1 h2
theorem text_split {rows : List (List Str)} (hn : rows ≠ []) (h : ∀ r ∈ rows, clean r) : Txt.split (text rows) "\n" = rows.map line := by
  rw [← text_join]
  refine split_join tl_nl (by decide +kernel) (fun e => hn (List.map_eq_nil_iff.mp e)) fun p hp => ?_
  obtain ⟨r, hr, rfl⟩ := List.mem_map.mp hp
  exact line_free (h r hr)
/-- the text is empty -/
theorem joinL_nil {y : List Nat} (hy : y ≠ []) : ∀ {ps : List (List Nat)}, joinL y ps = [] → ps = [] ∨ ps = [[]]
  | [], _ => .inl rfl
  | [p], h => .inr (by rw [show p = [] from h])
  | p :: q :: r, h => by
    have h2 : p ++ (y ++ joinL y (q :: r)) = [] := h
    have h3 := List.append_eq_nil_iff.mp (List.append_eq_nil_iff.mp h2).2
    exact absurd h3.1 hy
theorem tl_nil {x : Str} (h : tl x = []) : x = "" := ext_tl (by rw [h]; rfl)
theorem text_empty {rows : List (List Str)} (h : text rows = "") (hc : ∀ r ∈ rows, clean r) : rows = [] ∨ rows = [[("" : Str)]] := by
  have h1 : textL rows = [] := by
    have := congrArg tl h
    rw [text, tl_S] at this
    exact this
  rcases joinL_nil (by simp) h1 with h2 | h2
  · exact .inl (List.map_eq_nil_iff.mp h2)
  · cases rows with
    | nil => simp at h2
    | cons r rest =>
      cases rest with
      | cons _ _ => simp at h2
      | nil =>
        have h3 : lineL r = [] := by simpa using h2
        rcases joinL_nil (by simp) h3 with h4 | h4
        · exact absurd (List.map_eq_nil_iff.mp h4) (hc r List.mem_cons_self).1
        · cases r with
          | nil => simp at h4
          | cons w rest =>
            cases rest with
            | cons _ _ => simp at h4
            | nil =>
              have h5 : tl w = [] := by
                have h6 : [tl w] = [[]] := h4
                injection h6
              exact .inr (by rw [tl_nil h5])
/-- small enough -/
def small (rows : List (List Str)) : Prop := rows.length ≤ 300 ∧ ∀ r ∈ rows, r.length ≤ 10 ∧ ∀ w ∈ r, (tl w).length ≤ 10
theorem lineL_len {ws : List Str} (h1 : ws.length ≤ 10) (h2 : ∀ w ∈ ws, (tl w).length ≤ 10) : (lineL ws).length ≤ 110 := by
  have := joinL_len [32] 10 (ws.map tl) fun p hp => by
    obtain ⟨w, hw, rfl⟩ := List.mem_map.mp hp
    exact h2 w hw
  unfold lineL
  have e : ([32] : List Nat).length = 1 := rfl
  rw [e, List.length_map] at this
  omega
theorem textL_len {rows : List (List Str)} (h : small rows) : (textL rows).length ≤ 33300 := by
  have := joinL_len [10] 110 (rows.map lineL) fun p hp => by
    obtain ⟨r, hr, rfl⟩ := List.mem_map.mp hp
    exact lineL_len (h.2 r hr).1 (h.2 r hr).2
  unfold textL
  have e : ([10] : List Nat).length = 1 := rfl
  rw [e, List.length_map] at this
  have := h.1
  omega
/-! ### numbers and moves -/
def numOfL (l : List Nat) : Option Nat :=
  if l.length ≠ 1 ∧ l.length ≠ 2 then none else if l.any (fun c => decide (c < 48 ∨ 57 < c)) then none else if l.length = 2 ∧ l.head? = some 48 then none else some (NumText.digitsVal l)
def numOf (x : Str) : Option Nat := numOfL (tl x)
def nstr (n : Nat) : Str := Str.ofString (toString ((n : Nat) : Int))
theorem numOfL_num : ∀ n < 100, numOfL (numL n) = some n := by decide +kernel
theorem numOf_nstr {n : Nat} (h : n < 100) : numOf (nstr n) = some n := by
  unfold numOf nstr
  rw [tl_num]
  exact numOfL_num n h
/-- what is let is a number's text -/
theorem numOfL_back {l : List Nat} {n : Nat} (h : numOfL l = some n) : l = numL n ∧ n < 100 := by
  unfold numOfL at h
  split at h
  · cases h
  · split at h
    · cases h
    · split at h
      · cases h
      · rename_i h1 h2 h3
        have e := Option.some.inj h
        have hd : ∀ c ∈ l, 48 ≤ c ∧ c ≤ 57 := by
          intro c hc
          have : ¬ (c < 48 ∨ 57 < c) := fun q => h2 (List.any_eq_true.mpr ⟨c, hc, by simpa using q⟩)
          omega
        match l, h1, h3, hd, e with
        | [], h1, _, _, _ => exact absurd ⟨by decide, by decide⟩ h1
        | [a], _, _, hd, e =>
          have ha := hd a List.mem_cons_self
          have e2 : n = a - 48 := by rw [← e]; simp [NumText.digitsVal]
          refine ⟨?_, by omega⟩
          rw [numL_lt (by omega)]
          congr 1
          omega
        | [a, b], _, h3, hd, e =>
          have ha := hd a List.mem_cons_self
          have hb := hd b (by simp)
          have h4 : a ≠ 48 := fun q => h3 ⟨rfl, by rw [q]; rfl⟩
          have e2 : n = (a - 48) * 10 + (b - 48) := by rw [← e]; simp [NumText.digitsVal]
          refine ⟨?_, by omega⟩
          rw [numL_step (by omega), numL_lt (by omega)]
          have e3 : n / 10 = a - 48 := by omega
          have e4 : n % 10 = b - 48 := by omega
          rw [e3, e4]
          show [a, b] = [48 + (a - 48), 48 + (b - 48)]
          rw [show 48 + (a - 48) = a by omega, show 48 + (b - 48) = b by omega]
        | a :: b :: c :: r, h1, _, _, _ => exact absurd ⟨by simp, by simp⟩ h1
theorem numOf_back {x : Str} {n : Nat} (h : numOf x = some n) : x = nstr n ∧ n < 100 := by
  obtain ⟨h1, h2⟩ := numOfL_back h
  exact ⟨ext_tl (by rw [h1]; unfold nstr; rw [tl_num]), h2⟩
structure Mv where
  w : Str
  ns : List Nat
def arity (w : Str) : Option Nat := if w = "enter" then some 1 else if w = "pass" then some 2 else if w = "swap" then some 4 else none
def Mv.ok (m : Mv) : Prop := arity m.w = some m.ns.length ∧ ∀ n ∈ m.ns, n < 100
def Mv.words (m : Mv) : List Str := m.w :: m.ns.map nstr
def numsAll : List Str → Option (List Nat)
  | [] => some []
  | w :: r => match numOf w with
    | none => none
    | some n => match numsAll r with
      | none => none
      | some ns => some (n :: ns)
def numsOf (ws : List Str) : Option (List Nat) := if ws = [] then none else numsAll ws
def readW : List Str → Option Mv
  | [] => none
  | w :: r => match arity w with
    | none => none
    | some k => match numsOf r with
      | none => none
      | some ns => if ns.length = k then some ⟨w, ns⟩ else none
theorem numsAll_num : ∀ ns : List Nat, (∀ n ∈ ns, n < 100) → numsAll (ns.map nstr) = some ns
  | [], _ => rfl
  | n :: ns, h => by
    rw [List.map_cons, numsAll, numOf_nstr (h n List.mem_cons_self), numsAll_num ns fun k hk => h k (List.mem_cons_of_mem _ hk)]
theorem numsAll_len : ∀ {ws : List Str} {ns : List Nat}, numsAll ws = some ns → ns.length = ws.length
  | [], ns, h => by cases h; rfl
  | w :: r, ns, h => by
    rw [numsAll] at h
    cases hw : numOf w with
    | none => rw [hw] at h; cases h
    | some n =>
      rw [hw] at h
      cases hr : numsAll r with
      | none => rw [hr] at h; cases h
      | some ms => rw [hr] at h; cases h; simp [numsAll_len hr]
theorem arity_pos {w : Str} {k : Nat} (h : arity w = some k) : k = 1 ∨ k = 2 ∨ k = 4 := by
  unfold arity at h
  split at h
  · cases h; exact .inl rfl
  · split at h
    · cases h; exact .inr (.inl rfl)
    · split at h
      · cases h; exact .inr (.inr rfl)
      · cases h
theorem readW_words {m : Mv} (h : m.ok) : readW m.words = some m := by
  obtain ⟨h1, h2⟩ := h
  have hn : m.ns.map nstr ≠ [] := fun q => by
    have : m.ns = [] := List.map_eq_nil_iff.mp q
    rw [this] at h1
    rcases arity_pos h1 with z | z | z <;> cases z
  unfold Mv.words
  rw [readW, h1]
  dsimp only
  rw [numsOf, if_neg hn, numsAll_num _ h2]
  dsimp only
  rw [if_pos rfl]
theorem readW_ok {ws : List Str} {m : Mv} (h : readW ws = some m) : m.ok ∧ ws = m.words := by
  match ws, h with
  | w :: r, h =>
    rw [readW] at h
    cases ha : arity w with
    | none => rw [ha] at h; cases h
    | some k =>
      rw [ha] at h
      dsimp only at h
      cases hn : numsOf r with
      | none => rw [hn] at h; cases h
      | some ns =>
        rw [hn] at h
        dsimp only at h
        split at h
        · rename_i hk
          cases h
          have hr : numsAll r = some ns := by
            unfold numsOf at hn
            split at hn
            · cases hn
            · exact hn
          have key : ∀ (r : List Str) (ns : List Nat), numsAll r = some ns → r = ns.map nstr ∧ ∀ n ∈ ns, n < 100 := by
            intro r
            induction r with
            | nil => intro ns h; cases h; exact ⟨rfl, fun _ h => nomatch h⟩
            | cons x r ih =>
              intro ns h
              rw [numsAll] at h
              cases hw : numOf x with
              | none => rw [hw] at h; cases h
              | some n =>
                rw [hw] at h
                cases hr : numsAll r with
                | none => rw [hr] at h; cases h
                | some ms =>
                  rw [hr] at h
                  cases h
                  obtain ⟨e1, e2⟩ := ih ms hr
                  obtain ⟨e3, e4⟩ := numOf_back hw
                  refine ⟨by rw [List.map_cons, ← e1, ← e3], fun k hk => ?_⟩
                  rcases List.mem_cons.mp hk with q | q
                  · rw [q]; exact e4
                  · exact e2 k q
          obtain ⟨e1, e2⟩ := key r ns hr
          exact ⟨⟨by rw [ha, hk], e2⟩, by rw [Mv.words, ← e1]⟩
        · cases h
/-! what is not let -/
theorem bad_head {w : Str} {r : List Str} (h : arity w = none) : readW (w :: r) = none := by rw [readW, h]
theorem bad_len {w : Str} {r : List Str} {k : Nat} (h : arity w = some k) (hr : r.length ≠ k) : readW (w :: r) = none := by
  rw [readW, h]
  dsimp only
  cases hn : numsOf r with
  | none => rfl
  | some ns =>
    dsimp only
    have : numsAll r = some ns := by
      unfold numsOf at hn
      split at hn
      · cases hn
      · exact hn
    rw [if_neg (by rw [numsAll_len this]; exact hr)]
theorem numsAll_none : ∀ {r : List Str} {x : Str}, x ∈ r → numOf x = none → numsAll r = none
  | y :: r, x, hx, h => by
    rw [numsAll]
    rcases List.mem_cons.mp hx with q | q
    · rw [← q, h]
    · rw [numsAll_none q h]
      cases numOf y <;> rfl
theorem bad_num {w x : Str} {r : List Str} (hx : x ∈ r) (h : numOf x = none) : readW (w :: r) = none := by
  rw [readW]
  cases arity w with
  | none => rfl
  | some k =>
    dsimp only
    have : numsOf r = none := by
      unfold numsOf
      rw [if_neg (List.ne_nil_of_mem hx), numsAll_none hx h]
    rw [this]
theorem arity_nstr (n : Nat) : arity (nstr n) = none := by
  have hd := numL_digits n
  have hne : ∀ s : Str, (∃ c ∈ tl s, c < 48 ∨ 57 < c) → nstr n ≠ s := fun s ⟨c, hc, h⟩ e => by
    have : c ∈ numL n := by rw [← tl_num n]; unfold nstr at e; rw [e]; exact hc
    have := hd c this
    omega
  unfold arity
  rw [if_neg (hne _ ⟨101, by decide +kernel, by decide⟩), if_neg (hne _ ⟨112, by decide +kernel, by decide⟩), if_neg (hne _ ⟨115, by decide +kernel, by decide⟩)]
end Fh

set_option Elab.async false
set_option linter.all false
set_option maxRecDepth 100000
set_option maxHeartbeats 4000000
namespace Fh
open PySem PySem.Spec PyProof.Rows L2 TL
local macro_rules | `(tactic| walk_at "side") => `(tactic| first
  | assumption | decide | omega
  | exact ⟨by decide, by decide⟩ | exact ⟨by omega, by omega⟩ | exact Or.inl ⟨by omega, by omega⟩ | exact Or.inr ⟨by omega, by omega⟩
  | exact ⟨by decide, by decide, by decide⟩ | exact sz (by simp) | exact szl (by simp) | rfl)
local macro_rules | `(tactic| walk_at "ev") => `(tactic| first
  | exact ev_int
  | exact ev_bl
  | exact ev_str
  | exact ev_non
  | exact ev_dat rfl
  | exact ev_bor rfl
  | exact (ev_bor rfl).nw
  | exact ev_own rfl
  | exact (ev_bor rfl).sc
  | exact (ev_bor rfl).scB
  | exact (ev_bor rfl).scS
  | exact (ev_bor rfl).scN
  | (apply ev_addI; walk_at "ev"; walk_at "ev")
  | (apply ev_subI; walk_at "ev"; walk_at "ev")
  | (apply ev_ltI; walk_at "ev"; walk_at "ev")
  | (apply ev_leI; walk_at "ev"; walk_at "ev")
  | (apply ev_gtI; walk_at "ev"; walk_at "ev")
  | (apply ev_geI; walk_at "ev"; walk_at "ev")
  | (apply ev_eqI; walk_at "ev"; walk_at "ev")
  | (apply ev_neI; walk_at "ev"; walk_at "ev")
  | (apply ev_eqS; walk_at "ev"; walk_at "ev")
  | (apply ev_neS; walk_at "ev"; walk_at "ev")
  | (apply ev_eqL; walk_at "ev"; walk_at "ev")
  | (apply ev_neL; walk_at "ev"; walk_at "ev")
  | (apply ev_max2; walk_at "ev"; walk_at "ev")
  | (apply ev_min2; walk_at "ev"; walk_at "ev")
  | (apply ev_mulI; walk_at "ev"; walk_at "ev"; walk_at "side")
  | (apply ev_divI; walk_at "ev"; walk_at "ev"; walk_at "side")
  | (apply ev_modI; walk_at "ev"; walk_at "ev"; walk_at "side")
  | (apply ev_powI; walk_at "ev"; walk_at "ev"; walk_at "side")
  | (apply ev_negI; walk_at "ev")
  | (apply ev_abs; walk_at "ev")
  | (apply ev_intc; walk_at "ev")
  | (apply ev_lenM; walk_at "ev")
  | (apply ev_lenTM; walk_at "ev")
  | (apply ev_len; walk_at "ev")
  | (apply ev_lenT; walk_at "ev")
  | (apply ev_sum; walk_at "ev")
  | (apply ev_notV; walk_at "ev")
  | (apply ev_tupI; walk_at "ev")
  | (apply ev_is; walk_at "ev"; walk_at "ev"; rfl)
  | (apply ev_isN; walk_at "ev"; walk_at "ev"; rfl)
  | (apply ev_ixI; walk_at "ev"; walk_at "ev"; walk_at "side"; walk_at "side")
  | (apply ev_ixIT; walk_at "ev"; walk_at "ev"; walk_at "side"; walk_at "side")
  | (apply ev_andV; walk_at "ev"; (intro _; walk_at "ev"))
  | (apply ev_orV; walk_at "ev"; (intro _; walk_at "ev"))
  | (apply ev_tup; walk_at "ed"; walk_at "side")
  | exact ev_nil
  | (apply ev_lst; walk_at "ed"; walk_at "side")
  | (apply ev_isi; walk_at "ev"; rfl; decide +kernel))
local macro_rules | `(tactic| walk_at "ea") => `(tactic| first
  | exact ea_nil
  | (apply ea_cons; walk_at "ev"; walk_at "ea"))
local macro_rules | `(tactic| walk_at "ed") => `(tactic| first
  | exact ed_nil
  | (apply ed_cons; walk_at "ev"; walk_at "ed"))
local macro_rules | `(tactic| walk_at "et") => `(tactic| first
  | exact et_yes
  | (apply et_and; walk_at "et"; (intro _; walk_at "et"))
  | (apply et_or; walk_at "et"; (intro _; walk_at "et"))
  | (apply et_not; walk_at "et")
  | (refine et_test (m := .now) ?_; walk_at "ev")
  | (refine et_B (m := .now) ?_; walk_at "ev"))
local macro_rules | `(tactic| walk_at "asg") => `(tactic| (first
  | (refine run_seq ?_; apply run_asg; walk_at "ev"; dsimp only [List.set])
  | (apply run_asg; walk_at "ev"; dsimp only [List.set])))
local macro_rules | `(tactic| walk_at "ev") => `(tactic| first
  | (apply ev_ixT; walk_at "ev"; walk_at "ev"; rfl)
  | (apply ev_ixL; walk_at "ev"; walk_at "ev"; rfl)
  | (apply ev_cat; walk_at "ev"; walk_at "ev"; walk_at "side")
  | (apply ev_catT; walk_at "ev"; walk_at "ev"; walk_at "side"))
section
variable {P : Program} {w : World} {K : PySem.W.Frag} {mg : Str → Option Value} {base : Heap}
/-! the drawing helpers -/
theorem df_mixed (T : Tx K mg w) : Df P w K mg base "_law_mixed" 1 [] (spMixed K) :=
  T.d_l_mixed.df sc_l_mixed rfl (by decide) (fun _ _ _ _ _ _ us hl => match us, hl with | [_, _], _ => rfl) fun f cdv A outer s H E hr => ⟨rd_l_mixed K, tm_l_mixed T hr, fun a _ => run_mixed a.1 a.2⟩
theorem df_pool (T : Tx K mg w) : Df P w K mg base "_law_pool" 2 [] (spPool K) :=
  T.d_l_pool.df sc_l_pool rfl (by decide) (fun _ _ _ _ _ _ us hl => match us, hl with | [_, _], _ => rfl) fun f cdv A outer s H E hr => ⟨rd_l_pool K (spMixed K), tm_l_pool T (df_mixed T) hr, fun a h => run_pool a.1 a.2 h⟩
abbrev spNo (K : PySem.W.Frag) : Sp := SpP K [.now, .now] (fun p : D × D => [p.1, p.2]) (fun _ => False) (fun p => .bl (sm p.1 p.2))
theorem df_no (T : Tx K mg w) : Df P w K mg base "_law_same" 0 [] (spNo K) := Df.never T.d_l_same (fun _ h => h) (N := ["actual", "due"]) (fun _ _ _ _ _ _ us hl => match us, hl with | [_, _], _ => rfl)
theorem df_same (T : Tx K mg w) : ∀ n : Nat, Df P w K mg base "_law_same" (n + 1) [] (spSame K n)
  | 0 => T.d_l_same.df sc_l_same rfl (by decide) (fun _ _ _ _ _ _ us hl => match us, hl with | [_, _], _ => rfl) fun f cdv A outer s H E hr => ⟨rd_l_same K (spNo K), tm_l_same T (kk := 0) (Nat.zero_le _) (df_no T) hr, fun a h => run_same 0 _ (fun m h => nomatch h) a.1 a.2 h.1 h.2.1 h.2.2⟩
  | n + 1 => T.d_l_same.df sc_l_same rfl (by decide) (fun _ _ _ _ _ _ us hl => match us, hl with | [_, _], _ => rfl) fun f cdv A outer s H E hr => ⟨rd_l_same K (spSame K n), tm_l_same T (kk := n + 1) (Nat.zero_le _) (df_same T n) hr, fun a h => run_same (n + 1) _ (fun m h => by cases h; rfl) a.1 a.2 h.1 h.2.1 h.2.2⟩
end
section
variable {P : Program} {w : World} {K : PySem.W.Frag} {mg : Str → Option Value} {base : Heap}
/-! number_of -/
def optN : Option Nat → D
  | none => .non
  | some n => .int (n : Nat)
abbrev spNo1 (K : PySem.W.Frag) : Sp := SpP K [.dat] (fun x : Str => [.str x]) (fun x => (tl x).length ≤ 600) (fun x => optN (numOf x))
theorem tl_dig : tl ("0123456789" : Str) = [48, 49, 50, 51, 52, 53, 54, 55, 56, 57] := by decide +kernel
theorem one_zero {c : Nat} : ((⟨#[c]⟩ : Str) = "0") ↔ c = 48 := by
  constructor
  · intro h
    have := congrArg tl h
    have e : tl ("0" : Str) = [48] := by decide +kernel
    rw [e] at this
    exact List.head_eq_of_cons_eq this
  · rintro rfl
    exact ext_tl (by decide +kernel)
theorem df_num1 (T : Tx K mg w) : Df P w K mg base "number_of" 1 [] (spNo1 K) := by
  refine T.d_number_of.df sc_number_of rfl (by decide) (fun _ _ _ _ _ _ us hl => match us, hl with | [_], _ => rfl) ?_
  intro f cdv A outer s H E hr
  refine ⟨rd_number_of K, tm_number_of T hr, ?_⟩
  intro x hx
  unfold rd_number_of
  show Run K (lift E) _ [.dat (.str x), .no] _
  have hx' : x.cps.toList.length ≤ 600 := hx
  have hz : x.length ≤ sizeLine := by rw [len_tl]; exact sz (Nat.le_trans hx' (by decide))
  have vl : ∀ s : Sl, Ev K .now (tCB (rLenU K) (tCons (tVar 0) tNil)) [.dat (.str x), s] (.int ((tl x).length : Nat)) := fun s => by
    rw [← len_tl]; exact ev_lenS (ev_dat rfl) hz
  refine run_seq (run_ifD (p := (tl x).length ≠ 1 ∧ (tl x).length ≠ 2) ((et_and (et_test (m := .now) (ev_neI (vl _) ev_int)) fun _ => et_test (m := .now) (ev_neI (vl _) ev_int)).is ?_) (fun h => ?_) (fun h => run_next ?_))
  · rw [← Bool.decide_and]
    apply decide_eq_decide.mpr
    omega
  · exact run_ret ev_non (by show D.non = optN (numOfL (tl x)); unfold numOfL; rw [if_pos h]; rfl)
  refine run_seq (run_for (m := .dat) (ei_str (ev_dat rfl)) (fun k e => (∀ c ∈ (tl x).take k, 48 ≤ c ∧ c ≤ 57) ∧ ∃ s1, e = [.dat (.str x), s1]) ⟨fun c hc => by simp at hc, _, rfl⟩ ?_ ?_)
  · rintro k d _ hd ⟨hk, s1, rfl⟩
    rw [List.getElem?_map] at hd
    cases hc : x.cps.toList[k]? with
    | none => rw [hc] at hd; cases hd
    | some c =>
      rw [hc] at hd
      cases hd
      refine ⟨_, [1], tg_dat, ?_⟩
      dsimp only [List.set]
      refine run_ifD (p := ¬ (48 ≤ c ∧ c ≤ 57)) ((et_test (m := .now) (ev_inT (neg := true) (ev_dat rfl) ev_str)).is ?_) (fun h => ?_) (fun h => run_next ⟨fun q hq => ?_, _, rfl⟩)
      · show (!decide (c ∈ tl ("0123456789" : Str))) = _
        rw [tl_dig, ← decide_not]
        apply decide_eq_decide.mpr
        simp only [List.mem_cons, List.not_mem_nil, or_false]
        omega
      · refine run_ret ev_non ?_
        show D.non = optN (numOfL (tl x))
        unfold numOfL
        rename_i h1
        rw [if_neg h1, if_pos (List.any_eq_true.mpr ⟨c, List.mem_of_getElem? hc, by simp; omega⟩)]
        rfl
      · have h2 : 48 ≤ c ∧ c ≤ 57 := Decidable.not_not.mp h
        rw [List.take_add_one, hc] at hq
        rcases List.mem_append.mp hq with q1 | q1
        · exact hk q q1
        · simp at q1; subst q1; exact h2
  · rintro _ ⟨hk, s1, rfl⟩
    rw [List.length_map, List.take_length] at hk
    have hany : (tl x).any (fun c => decide (c < 48 ∨ 57 < c)) = false := by
      rw [Bool.eq_false_iff]
      intro q
      obtain ⟨c, hc, h2⟩ := List.any_eq_true.mp q
      have := hk c hc
      have h3 : c < 48 ∨ 57 < c := by simpa using h2
      omega
    have hne : tl x ≠ [] := fun q => by rw [q] at h; simp at h
    obtain ⟨c0, r0, hx0⟩ := List.exists_cons_of_ne_nil hne
    refine run_seq (run_ifD (p := (tl x).length = 2 ∧ (tl x).head? = some 48) ((et_and (b := decide ((tl x).length = 2)) (c := decide (c0 = 48)) (et_test (m := .now) (ev_eqI (vl _) ev_int |>.is (by congr 1; apply decide_eq_decide.mpr; omega))) fun _ => et_test (m := .now) ((ev_eqS (ev_ixS (ev_dat rfl) ev_int hz (c := c0) (by show atI (tl x) ((0 : Nat) : Int) = some c0; rw [hx0]; exact atI_nat rfl)) ev_str).is (by congr 1; exact decide_eq_decide.mpr one_zero))).is ?_) (fun h3 => ?_) (fun h3 => run_next ?_))
    · rw [hx0, ← Bool.decide_and]
      apply decide_eq_decide.mpr
      simp
    · exact run_ret ev_non (by show D.non = optN (numOfL (tl x)); unfold numOfL; rw [if_neg h, hany, if_neg Bool.false_ne_true, if_pos h3]; rfl)
    · have hn : numOf x = some (NumText.digitsVal (tl x)) := by show numOfL (tl x) = _; unfold numOfL; rw [if_neg h, hany, if_neg Bool.false_ne_true, if_neg h3]
      obtain ⟨e1, e2⟩ := numOf_back hn
      exact run_ret (ev_intS (i := (NumText.digitsVal (tl x) : Nat)) (ev_dat rfl) ((congrArg intText? e1).trans (int_num (Nat.le_trans (numL_len (k := 2) (by decide) e2) (by decide)))) (by rw [len_tl]; exact Nat.le_trans hx' (by decide))) (by show D.int _ = optN (numOf x); rw [hn]; rfl)
/-! numbers_of -/
def strsD (ws : List Str) : D := .lst (ws.map D.str)
def natsD (ns : List Nat) : D := .lst (ns.map fun n => D.int (n : Nat))
def optL : Option (List Nat) → D
  | none => .non
  | some ns => natsD ns
abbrev spNums (K : PySem.W.Frag) : Sp := SpP K [.dat] (fun ws : List Str => [strsD ws]) (fun ws => ws.length ≤ 1000 ∧ ∀ x ∈ ws, (tl x).length ≤ 600) (fun ws => optL (numsOf ws))
theorem numsAll_snoc : ∀ (ws : List Str) (x : Str) (ns : List Nat), numsAll ws = some ns → numsAll (ws ++ [x]) = (numOf x).map fun n => ns ++ [n]
  | [], x, ns, h => by
    cases h
    show numsAll [x] = _
    rw [numsAll]
    cases numOf x <;> rfl
  | w :: r, x, ns, h => by
    rw [numsAll] at h
    rw [List.cons_append, numsAll]
    cases hw : numOf w with
    | none => rw [hw] at h; cases h
    | some n =>
      rw [hw] at h
      cases hr : numsAll r with
      | none => rw [hr] at h; cases h
      | some ms =>
        rw [hr] at h
        cases h
        dsimp only
        rw [numsAll_snoc r x ms hr]
        cases numOf x <;> rfl
theorem isC_optN (o : Option Nat) : isC (optN o) .non = some o.isNone := by cases o <;> rfl
theorem df_nums (T : Tx K mg w) : Df P w K mg base "numbers_of" 2 [] (spNums K) := by
  refine T.d_numbers_of.df sc_numbers_of rfl (by decide) (fun _ _ _ _ _ _ us hl => match us, hl with | [_], _ => rfl) ?_
  intro f cdv A outer s H E hr
  refine ⟨rd_numbers_of K (spNo1 K), tm_numbers_of T (df_num1 T) hr, ?_⟩
  rintro ws ⟨hl, hx⟩
  unfold rd_numbers_of
  show Run K (lift E) _ [.dat (strsD ws), .no, .no, .no] _
  have hlen : ∀ s1 s2 s3 : Sl, Ev K .now (tCB (rLenU K) (tCons (tVar 0) tNil)) [.dat (strsD ws), s1, s2, s3] (.int (ws.length : Nat)) := fun _ _ _ => ev_lenM (as := ws) (f := D.str) (ev_dat rfl)
  refine run_seq (run_ifD (p := ws = []) ((et_test (m := .now) (ev_eqI (hlen _ _ _) ev_int)).is ?_) (fun h => ?_) (fun h => run_next ?_))
  · cases ws <;> simp; omega
  · exact run_ret ev_non (by show D.non = optL (numsOf ws); unfold numsOf; rw [if_pos h]; rfl)
  refine run_seq (run_asgO evo_nil ?_)
  dsimp only [List.set]
  refine run_seq (run_for (m := .dat) (ei_lst (fun z => nomatch z) (ev_dat rfl)) (fun k e => ∃ (ns : List Nat) (s2 s3 : Sl), numsAll (ws.take k) = some ns ∧ e = [.dat (strsD ws), .own (.lst (ns.map fun n => D.int (n : Nat))), s2, s3]) ⟨[], _, _, rfl, rfl⟩ ?_ ?_)
  · rintro k d _ hd ⟨ns, s2, s3, hn, rfl⟩
    rw [List.getElem?_map] at hd
    cases hc : ws[k]? with
    | none => rw [hc] at hd; cases hd
    | some x =>
      rw [hc] at hd
      cases hd
      have hxl := hx x (List.mem_of_getElem? hc)
      refine ⟨_, [2], tg_dat, ?_⟩
      dsimp only [List.set]
      refine run_seq (run_asg (d := optN (numOf x)) (ev_call (out := fun x => optN (numOf x)) x hxl (ea_cons (ev_dat rfl) ea_nil)) ?_)
      dsimp only [List.set]
      have hsn := numsAll_snoc (ws.take k) x ns hn
      refine run_seq (run_if (et_test (m := .now) (ev_is (b := (numOf x).isNone) (ev_dat rfl) ev_non (isC_optN _))) (fun h => ?_) (fun h => run_next ?_))
      · refine run_ret ev_non ?_
        show D.non = optL (numsOf ws)
        have h1 : numOf x = none := by simpa using h
        have : numsOf ws = none := by
          unfold numsOf
          rename_i hne
          rw [if_neg hne, numsAll_none (List.mem_of_getElem? hc) h1]
        rw [this]; rfl
      · cases hq : numOf x with
        | none => rw [hq] at h; cases h
        | some n =>
          rw [hq] at hsn
          refine run_app (d := .int (n : Nat)) rfl (ev_dat rfl) (szl ?_) ⟨ns ++ [n], _, _, ?_, by rw [List.map_append]; rfl⟩
          · rw [List.length_map, numsAll_len hn, List.length_take]; omega
          · rw [List.take_add_one, hc]; exact hsn
  · rintro _ ⟨ns, s2, s3, hn, rfl⟩
    rw [List.length_map, List.take_length] at hn
    refine run_retO rfl ?_
    show D.lst _ = optL (numsOf ws)
    unfold numsOf
    rw [if_neg h, hn]; rfl
end
end Fh

set_option Elab.async false
set_option linter.all false
set_option maxRecDepth 100000
set_option maxHeartbeats 4000000
namespace Fh
open PySem PySem.Spec PyProof.Rows L2 TL
local macro_rules | `(tactic| walk_at "side") => `(tactic| first
  | assumption | decide | omega
  | exact ⟨by decide, by decide⟩ | exact ⟨by omega, by omega⟩ | exact Or.inl ⟨by omega, by omega⟩ | exact Or.inr ⟨by omega, by omega⟩
  | exact ⟨by decide, by decide, by decide⟩ | exact sz (by simp) | exact szl (by simp) | rfl)
local macro_rules | `(tactic| walk_at "ev") => `(tactic| first
  | exact ev_int
  | exact ev_bl
  | exact ev_str
  | exact ev_non
  | exact ev_dat rfl
  | exact ev_bor rfl
  | exact (ev_bor rfl).nw
  | exact ev_own rfl
  | exact (ev_bor rfl).sc
  | exact (ev_bor rfl).scB
  | exact (ev_bor rfl).scS
  | exact (ev_bor rfl).scN
  | (apply ev_addI; walk_at "ev"; walk_at "ev")
  | (apply ev_subI; walk_at "ev"; walk_at "ev")
  | (apply ev_ltI; walk_at "ev"; walk_at "ev")
  | (apply ev_leI; walk_at "ev"; walk_at "ev")
  | (apply ev_gtI; walk_at "ev"; walk_at "ev")
  | (apply ev_geI; walk_at "ev"; walk_at "ev")
  | (apply ev_eqI; walk_at "ev"; walk_at "ev")
  | (apply ev_neI; walk_at "ev"; walk_at "ev")
  | (apply ev_eqS; walk_at "ev"; walk_at "ev")
  | (apply ev_neS; walk_at "ev"; walk_at "ev")
  | (apply ev_eqL; walk_at "ev"; walk_at "ev")
  | (apply ev_neL; walk_at "ev"; walk_at "ev")
  | (apply ev_max2; walk_at "ev"; walk_at "ev")
  | (apply ev_min2; walk_at "ev"; walk_at "ev")
  | (apply ev_mulI; walk_at "ev"; walk_at "ev"; walk_at "side")
  | (apply ev_divI; walk_at "ev"; walk_at "ev"; walk_at "side")
  | (apply ev_modI; walk_at "ev"; walk_at "ev"; walk_at "side")
  | (apply ev_powI; walk_at "ev"; walk_at "ev"; walk_at "side")
  | (apply ev_negI; walk_at "ev")
  | (apply ev_abs; walk_at "ev")
  | (apply ev_intc; walk_at "ev")
  | (apply ev_lenM; walk_at "ev")
  | (apply ev_lenTM; walk_at "ev")
  | (apply ev_len; walk_at "ev")
  | (apply ev_lenT; walk_at "ev")
  | (apply ev_sum; walk_at "ev")
  | (apply ev_notV; walk_at "ev")
  | (apply ev_tupI; walk_at "ev")
  | (apply ev_is; walk_at "ev"; walk_at "ev"; rfl)
  | (apply ev_isN; walk_at "ev"; walk_at "ev"; rfl)
  | (apply ev_ixI; walk_at "ev"; walk_at "ev"; walk_at "side"; walk_at "side")
  | (apply ev_ixIT; walk_at "ev"; walk_at "ev"; walk_at "side"; walk_at "side")
  | (apply ev_andV; walk_at "ev"; (intro _; walk_at "ev"))
  | (apply ev_orV; walk_at "ev"; (intro _; walk_at "ev"))
  | (apply ev_tup; walk_at "ed"; walk_at "side")
  | exact ev_nil
  | (apply ev_lst; walk_at "ed"; walk_at "side")
  | (apply ev_isi; walk_at "ev"; rfl; decide +kernel))
local macro_rules | `(tactic| walk_at "ea") => `(tactic| first
  | exact ea_nil
  | (apply ea_cons; walk_at "ev"; walk_at "ea"))
local macro_rules | `(tactic| walk_at "ed") => `(tactic| first
  | exact ed_nil
  | (apply ed_cons; walk_at "ev"; walk_at "ed"))
local macro_rules | `(tactic| walk_at "et") => `(tactic| first
  | exact et_yes
  | (apply et_and; walk_at "et"; (intro _; walk_at "et"))
  | (apply et_or; walk_at "et"; (intro _; walk_at "et"))
  | (apply et_not; walk_at "et")
  | (refine et_test (m := .now) ?_; walk_at "ev")
  | (refine et_B (m := .now) ?_; walk_at "ev"))
local macro_rules | `(tactic| walk_at "asg") => `(tactic| (first
  | (refine run_seq ?_; apply run_asg; walk_at "ev"; dsimp only [List.set])
  | (apply run_asg; walk_at "ev"; dsimp only [List.set])))
local macro_rules | `(tactic| walk_at "ev") => `(tactic| first
  | (apply ev_ixT; walk_at "ev"; walk_at "ev"; rfl)
  | (apply ev_ixL; walk_at "ev"; walk_at "ev"; rfl)
  | (apply ev_cat; walk_at "ev"; walk_at "ev"; walk_at "side")
  | (apply ev_catT; walk_at "ev"; walk_at "ev"; walk_at "side"))
section
variable {P : Program} {w : World} {K : PySem.W.Frag} {mg : Str → Option Value} {base : Heap}
/-! run_text -/
def mvD (m : Mv) : D := .tup (.str m.w :: m.ns.map fun n => D.int (n : Nat))
def wordOf : D → Str
  | .str x => x
  | .int i => Str.ofString (toString i)
  | _ => ""
def mvF : D → Option D
  | .tup ds => some (.str (line (ds.map wordOf)))
  | _ => none
theorem mv_words (m : Mv) : (D.str m.w :: m.ns.map fun n => D.int (n : Nat)).map wordOf = m.words := by
  simp only [List.map_cons, List.map_map, Mv.words, wordOf]
  rfl
theorem fm_some {α : Type} {f : D → Option D} {g : α → D} {h : α → D} (hf : ∀ a, f (g a) = some (h a)) (as : List α) : (as.map g).filterMap f = as.map h := by
  rw [List.filterMap_map, ← List.filterMap_eq_map]
  congr 1
  funext a
  exact hf a
theorem fm_map (f : D → D) (ds : List D) : ds.filterMap (fun d => some (f d)) = ds.map f := by rw [← List.filterMap_eq_map]; rfl
theorem sum_len {b : Nat} : ∀ ss : List Str, (∀ s ∈ ss, (tl s).length ≤ b) → (ss.map (·.length)).sum ≤ ss.length * b
  | [], _ => Nat.zero_le _
  | s :: ss, h => by
    have h1 := h s List.mem_cons_self
    have ih := sum_len ss fun z hz => h z (List.mem_cons_of_mem _ hz)
    rw [List.map_cons, List.sum_cons, List.length_cons, Nat.succ_mul, len_tl]
    omega
theorem arity_len {x : Str} {k : Nat} (h : arity x = some k) : (tl x).length ≤ 5 ∧ 10 ∉ tl x ∧ 32 ∉ tl x := by
  unfold arity at h
  split at h
  · rename_i e; subst e; exact ⟨by decide +kernel, by decide +kernel, by decide +kernel⟩
  · split at h
    · rename_i e; subst e; exact ⟨by decide +kernel, by decide +kernel, by decide +kernel⟩
    · split at h
      · rename_i e; subst e; exact ⟨by decide +kernel, by decide +kernel, by decide +kernel⟩
      · cases h
theorem nstr_len {n : Nat} (h : n < 100) : (tl (nstr n)).length ≤ 2 := by
  unfold nstr; rw [tl_num]; exact numL_len (by decide) h
theorem nstr_free (n : Nat) : 10 ∉ tl (nstr n) ∧ 32 ∉ tl (nstr n) := by
  unfold nstr; rw [tl_num]; exact ⟨numL_free (by decide), numL_free (by decide)⟩
theorem Mv.ok.small {m : Mv} (h : m.ok) : m.words.length ≤ 5 ∧ ∀ x ∈ m.words, (tl x).length ≤ 5 := by
  obtain ⟨h1, h2⟩ := h
  refine ⟨?_, fun x hx => ?_⟩
  · have := arity_pos h1
    simp only [Mv.words, List.length_cons, List.length_map]; omega
  · rcases List.mem_cons.mp hx with q | q
    · rw [q]; exact (arity_len h1).1
    · obtain ⟨n, hn, rfl⟩ := List.mem_map.mp q
      have := nstr_len (h2 n hn)
      omega
theorem Mv.ok.clean {m : Mv} (h : m.ok) : Fh.clean m.words := by
  refine ⟨by simp [Mv.words], fun x hx => ?_⟩
  rcases List.mem_cons.mp hx with q | q
  · rw [q]; exact (arity_len h.1).2
  · obtain ⟨n, hn, rfl⟩ := List.mem_map.mp q
    exact nstr_free n
def seqD (b : Bool) (ds : List D) : D := if b then .tup ds else .lst ds
abbrev spRt (K : PySem.W.Frag) : Sp := SpP K [.now] (fun a : Bool × List Mv => [seqD a.1 (a.2.map mvD)]) (fun a => a.2.length ≤ 300 ∧ ∀ m ∈ a.2, m.ok) (fun a => .str (text (a.2.map Mv.words)))
theorem df_rt (T : Tx K mg w) : Df P w K mg base "run_text" 1 [] (spRt K) := by
  refine T.d_run_text.df sc_run_text rfl (by decide) (fun _ _ _ _ _ _ us hl => match us, hl with | [_], _ => rfl) ?_
  intro f cdv A outer s H E hr
  refine ⟨rd_run_text K, tm_run_text T hr, ?_⟩
  rintro ⟨b, ms⟩ ⟨hl, hok⟩
  simp only at hl hok
  unfold rd_run_text
  show Run K (lift E) _ [.bor (seqD b (ms.map mvD)), .no, .no] _
  have hi : EvI K .bor (iSeq K (tVar 0)) [.bor (seqD b (ms.map mvD)), .no, .no] (ms.map mvD) := by
    cases b with
    | true => exact ei_tup (fun z => nomatch z) (ev_bor rfl)
    | false => exact ei_lst (fun z => nomatch z) (ev_bor rfl)
  have hc : Ev K .now (tLc (iSeq K (tVar 0)) (gName 1) tYes (tBM K "str" (rJoin K) (tC (.str " ")) (tCons (tLc (iSeq K (tVar 1)) (gName 2) tYes (tCB (rStrU) (tCons (tVar 2) tNil)) [2]) tNil)) [1]) [.bor (seqD b (ms.map mvD)), .no, .no] (.lst ((ms.map fun m => line m.words).map D.str)) := by
    refine ((ev_lcO (m := .bor) mvF hi (by rw [List.length_map]; exact sz (by omega)) ?_).dat).is ?_
    · intro i d hd
      rw [List.getElem?_map] at hd
      cases hm : ms[i]? with
      | none => rw [hm] at hd; cases hd
      | some m =>
        rw [hm] at hd
        cases hd
        have hmo := hok m (List.mem_of_getElem? hm)
        refine ⟨_, tg_bor, .inl ⟨.str (line m.words), et_yes, by show some (D.str (line _)) = _; rw [mv_words], ?_⟩⟩
        dsimp only [wipeE, List.foldl, List.set]
        rw [← line_join]
        refine ev_join ev_str ?_ ?_
        · refine ((ev_lcO (m := .bor) (fun d => some (.str (wordOf d))) (ei_tup (fun z => nomatch z) (ev_bor rfl)) ?_ ?_).dat).is ?_
          · simp only [List.length_cons, List.length_map]
            have := arity_pos hmo.1
            exact sz (by omega)
          · intro j d hd
            cases j with
            | zero =>
              simp only [List.getElem?_cons_zero, Option.some.injEq] at hd
              subst hd
              exact ⟨_, tg_bor, .inl ⟨_, et_yes, rfl, ev_strS (ev_bor rfl).nw⟩⟩
            | succ j =>
              rw [List.getElem?_cons_succ, List.getElem?_map] at hd
              cases hn : m.ns[j]? with
              | none => rw [hn] at hd; cases hd
              | some n =>
                rw [hn] at hd
                cases hd
                have := hmo.2 n (List.mem_of_getElem? hn)
                exact ⟨_, tg_bor, .inl ⟨_, et_yes, rfl, ev_strI (ev_bor rfl).nw (by
                  have h0 : (Int.natAbs (n : Int)) ≤ 99 := by omega
                  exact Nat.lt_of_le_of_lt (Nat.log2_le_self _) (by omega))⟩⟩
          · rw [fm_map (fun d => D.str (wordOf d)), ← mv_words, List.map_map]; rfl
        · have := sum_len m.words hmo.small.2
          have h2 := hmo.small.1
          have e : (" " : Str).length = 1 := rfl
          rw [e]
          omega
    · rw [fm_some (g := mvD) (h := fun m => D.str (line m.words)) (fun m => by show some (D.str (line _)) = _; rw [mv_words]), List.map_map]; rfl
  refine run_ret (ev_join (ss := ms.map fun m => line m.words) ev_str hc ?_) ?_
  · have := sum_len (b := 110) (ms.map fun m => line m.words) fun s hs => by
      obtain ⟨m, hm, rfl⟩ := List.mem_map.mp hs
      have hs := (hok m hm).small
      exact lineL_len (Nat.le_trans hs.1 (by decide)) fun x hx => Nat.le_trans (hs.2 x hx) (by decide)
    have e : ("\n" : Str).length = 1 := rfl
    rw [e]
    rw [List.length_map] at this ⊢
    omega
  · show D.str _ = D.str _
    rw [← text_join, List.map_map]; rfl
end
end Fh

set_option Elab.async false
set_option linter.all false
set_option maxRecDepth 100000
set_option maxHeartbeats 4000000
namespace Fh
open PySem PySem.Spec PyProof.Rows L2 TL
local macro_rules | `(tactic| walk_at "side") => `(tactic| first
  | assumption | decide | omega
  | exact ⟨by decide, by decide⟩ | exact ⟨by omega, by omega⟩ | exact Or.inl ⟨by omega, by omega⟩ | exact Or.inr ⟨by omega, by omega⟩
  | exact ⟨by decide, by decide, by decide⟩ | exact sz (by simp) | exact szl (by simp) | rfl)
local macro_rules | `(tactic| walk_at "ev") => `(tactic| first
  | exact ev_int
  | exact ev_bl
  | exact ev_str
  | exact ev_non
  | exact ev_dat rfl
  | exact ev_bor rfl
  | exact (ev_bor rfl).nw
  | exact ev_own rfl
  | exact (ev_bor rfl).sc
  | exact (ev_bor rfl).scB
  | exact (ev_bor rfl).scS
  | exact (ev_bor rfl).scN
  | (apply ev_addI; walk_at "ev"; walk_at "ev")
  | (apply ev_subI; walk_at "ev"; walk_at "ev")
  | (apply ev_ltI; walk_at "ev"; walk_at "ev")
  | (apply ev_leI; walk_at "ev"; walk_at "ev")
  | (apply ev_gtI; walk_at "ev"; walk_at "ev")
  | (apply ev_geI; walk_at "ev"; walk_at "ev")
  | (apply ev_eqI; walk_at "ev"; walk_at "ev")
  | (apply ev_neI; walk_at "ev"; walk_at "ev")
  | (apply ev_eqS; walk_at "ev"; walk_at "ev")
  | (apply ev_neS; walk_at "ev"; walk_at "ev")
  | (apply ev_eqL; walk_at "ev"; walk_at "ev")
  | (apply ev_neL; walk_at "ev"; walk_at "ev")
  | (apply ev_max2; walk_at "ev"; walk_at "ev")
  | (apply ev_min2; walk_at "ev"; walk_at "ev")
  | (apply ev_mulI; walk_at "ev"; walk_at "ev"; walk_at "side")
  | (apply ev_divI; walk_at "ev"; walk_at "ev"; walk_at "side")
  | (apply ev_modI; walk_at "ev"; walk_at "ev"; walk_at "side")
  | (apply ev_powI; walk_at "ev"; walk_at "ev"; walk_at "side")
  | (apply ev_negI; walk_at "ev")
  | (apply ev_abs; walk_at "ev")
  | (apply ev_intc; walk_at "ev")
  | (apply ev_lenM; walk_at "ev")
  | (apply ev_lenTM; walk_at "ev")
  | (apply ev_len; walk_at "ev")
  | (apply ev_lenT; walk_at "ev")
  | (apply ev_sum; walk_at "ev")
  | (apply ev_notV; walk_at "ev")
  | (apply ev_tupI; walk_at "ev")
  | (apply ev_is; walk_at "ev"; walk_at "ev"; rfl)
  | (apply ev_isN; walk_at "ev"; walk_at "ev"; rfl)
  | (apply ev_ixI; walk_at "ev"; walk_at "ev"; walk_at "side"; walk_at "side")
  | (apply ev_ixIT; walk_at "ev"; walk_at "ev"; walk_at "side"; walk_at "side")
  | (apply ev_andV; walk_at "ev"; (intro _; walk_at "ev"))
  | (apply ev_orV; walk_at "ev"; (intro _; walk_at "ev"))
  | (apply ev_tup; walk_at "ed"; walk_at "side")
  | exact ev_nil
  | (apply ev_lst; walk_at "ed"; walk_at "side")
  | (apply ev_isi; walk_at "ev"; rfl; decide +kernel))
local macro_rules | `(tactic| walk_at "ea") => `(tactic| first
  | exact ea_nil
  | (apply ea_cons; walk_at "ev"; walk_at "ea"))
local macro_rules | `(tactic| walk_at "ed") => `(tactic| first
  | exact ed_nil
  | (apply ed_cons; walk_at "ev"; walk_at "ed"))
local macro_rules | `(tactic| walk_at "et") => `(tactic| first
  | exact et_yes
  | (apply et_and; walk_at "et"; (intro _; walk_at "et"))
  | (apply et_or; walk_at "et"; (intro _; walk_at "et"))
  | (apply et_not; walk_at "et")
  | (refine et_test (m := .now) ?_; walk_at "ev")
  | (refine et_B (m := .now) ?_; walk_at "ev"))
local macro_rules | `(tactic| walk_at "asg") => `(tactic| (first
  | (refine run_seq ?_; apply run_asg; walk_at "ev"; dsimp only [List.set])
  | (apply run_asg; walk_at "ev"; dsimp only [List.set])))
local macro_rules | `(tactic| walk_at "ev") => `(tactic| first
  | (apply ev_ixT; walk_at "ev"; walk_at "ev"; rfl)
  | (apply ev_ixL; walk_at "ev"; walk_at "ev"; rfl)
  | (apply ev_cat; walk_at "ev"; walk_at "ev"; walk_at "side")
  | (apply ev_catT; walk_at "ev"; walk_at "ev"; walk_at "side"))
theorem cut_from {α : Type} (xs : List α) (k : Nat) : cut xs (some (k : Int)) none = xs.drop k := by
  unfold cut
  rw [HT.sIx_nat, HT.sIx_none]
  by_cases h : k ≤ xs.length
  · rw [Nat.min_eq_left h]
    apply List.take_of_length_le
    rw [List.length_drop]; omega
  · rw [Nat.min_eq_right (by omega), List.drop_of_length_le (Nat.le_refl _), List.drop_of_length_le (by omega)]
    simp
theorem cut_to {α : Type} (xs : List α) (k : Nat) : cut xs none (some (k : Int)) = xs.take k := by
  unfold cut
  rw [HT.sIx_nat, HT.sIx_none]
  by_cases h : k ≤ xs.length
  · rw [Nat.min_eq_left h]; simp
  · rw [Nat.min_eq_right (by omega), List.take_of_length_le (l := xs) (by omega)]
    simp
section
variable {P : Program} {w : World} {K : PySem.W.Frag} {mg : Str → Option Value} {base : Heap}
/-! read_move -/
def optM : Option Mv → D
  | none => .non
  | some m => mvD m
def tiny (ws : List Str) : Prop := ws.length ≤ 10 ∧ ∀ x ∈ ws, (tl x).length ≤ 10
theorem keys_off {x : Str} (h : arity x = none) : x ∉ (["enter", "pass", "swap"] : List Str) := by
  intro hm
  unfold arity at h
  simp only [List.mem_cons, List.not_mem_nil, or_false] at hm
  rcases hm with q | q | q
  · rw [if_pos q] at h; cases h
  · subst q; revert h; decide +kernel
  · subst q; revert h; decide +kernel
theorem keys_on {x : Str} {k : Nat} (h : arity x = some k) : (x, He.Dv.int (k : Nat)) ∈ ([("enter", .int 1), ("pass", .int 2), ("swap", .int 4)] : List (Str × He.Dv)) := by
  unfold arity at h
  split at h
  · rename_i e; cases h; subst e; exact List.mem_cons_self
  · split at h
    · rename_i e; cases h; subst e; exact List.mem_cons_of_mem _ List.mem_cons_self
    · split at h
      · rename_i e; cases h; subst e; exact List.mem_cons_of_mem _ (List.mem_cons_of_mem _ List.mem_cons_self)
      · cases h
theorem isC_optL (o : Option (List Nat)) : isC (optL o) .non = some o.isNone := by cases o <;> rfl
abbrev spRm (K : PySem.W.Frag) : Sp := SpP K [.dat] (fun ws : List Str => [.str (line ws)]) (fun ws => clean ws ∧ tiny ws) (fun ws => optM (readW ws))
theorem df_rm (T : Tx K mg w) : Df P w K mg base "read_move" 3 [] (spRm K) := by
  refine T.d_read_move.df sc_read_move rfl (by decide) (fun _ _ _ _ _ _ us hl => match us, hl with | [_], _ => rfl) ?_
  intro f cdv A outer s H E hr
  refine ⟨rd_read_move K w (spNums K), tm_read_move T (df_nums T) hr, ?_⟩
  rintro ws ⟨hc, ht⟩
  unfold rd_read_move
  show Run K (lift E) _ [.dat (.str (line ws)), .no, .no] _
  refine run_seq (run_asgO (o := .lst (ws.map D.str)) ((evo_split (ev_dat rfl) ev_str (by decide +kernel) ?_).is ?_) ?_)
  · have := lineL_len ht.1 ht.2
    rw [len_tl]
    show (lineL ws).length + 2 ≤ _
    exact sz (by omega)
  · rw [line_split hc]
  dsimp only [List.set]
  refine run_give (i := 1) rfl ?_
  dsimp only [List.set, OD.d]
  obtain ⟨x, r, rfl⟩ := List.exists_cons_of_ne_nil hc.1
  have h0 : ∀ {m : Md} (s2 : Sl), Ev K m (tOp (rIx K) (tVar 1) (tC (.int 0))) [.dat (.str (line (x :: r))), .dat (.lst ((x :: r).map D.str)), s2] (.str x) := fun s2 => ev_ixL (ev_dat rfl) ev_int (atI_nat (j := 0) rfl)
  cases ha : arity x with
  | none =>
    exact run_seq (run_ifT ((et_test (m := .now) (ev_inKd (neg := true) (h0 _) ev_raw (dict_none T.kd_NUMBERS (keys_off ha)))).is rfl) (run_ret ev_non (by show D.non = optM (readW (x :: r)); rw [bad_head ha]; rfl)))
  | some k =>
    obtain ⟨u, hu, _⟩ := He.valsB_ok T.kv_NUMBERS (keys_on ha)
    refine run_seq (run_ifF ((et_test (m := .now) (ev_inKd (neg := true) (h0 _) ev_raw hu)).is rfl) (run_next ?_))
    refine run_seq (run_asg (d := optL (numsOf r)) (ev_call (out := fun ws => optL (numsOf ws)) r ⟨by have := ht.1; simp at this; omega, fun y hy => Nat.le_trans (ht.2 y (List.mem_cons_of_mem _ hy)) (by decide)⟩ (ea_cons ((evo_slL (lo := some 1) (hi := none) (ev_dat rfl) (es_some ev_int) es_no).dat.is ?_) ea_nil)) ?_)
    · show D.lst (cut ((x :: r).map D.str) (some ((1 : Nat) : Int)) none) = D.lst (r.map D.str)
      rw [cut_from]; rfl
    dsimp only [List.set]
    cases hn : numsOf r with
    | none =>
      refine run_seq (run_ifT ((et_or (b := true) (c := false) (et_test (m := .now) (ev_is (b := true) (ev_dat rfl) ev_non rfl)) fun z => nomatch z)) (run_ret ev_non ?_))
      show D.non = optM (readW (x :: r))
      rw [readW, ha]; dsimp only; rw [hn]; rfl
    | some ns =>
      have hlen : Ev K .now (tCB (rLenU K) (tCons (tVar 2) tNil)) [.dat (.str (line (x :: r))), .dat (.lst ((x :: r).map D.str)), .dat (optL (some ns))] (.int (ns.length : Nat)) := ev_lenM (as := ns) (f := fun n : Nat => D.int (n : Nat)) (ev_dat rfl)
      refine run_seq (run_ifD (p := ns.length ≠ k) ((et_or (b := false) (et_test (m := .now) (ev_is (b := false) (ev_dat rfl) ev_non rfl)) fun _ => et_test (m := .now) (ev_neI hlen (ev_ixKd (i := (k : Nat)) ev_raw (h0 _) T.kd_NUMBERS T.kv_NUMBERS (keys_on ha)))).is ?_) (fun h => ?_) (fun h => run_next ?_))
      · rw [Bool.false_or]
        apply decide_eq_decide.mpr
        omega
      · refine run_ret ev_non ?_
        show D.non = optM (readW (x :: r))
        rw [readW, ha]; dsimp only; rw [hn]; dsimp only; rw [if_neg h]; rfl
      · have hk : ns.length = k := Decidable.not_not.mp h
        refine run_ret (ev_tupL (ev_cat (xs := [.str x]) (ys := ns.map fun n => D.int (n : Nat)) (ev_lst (ed_cons (h0 _) ed_nil) (by walk_at "side")) (ev_dat rfl) ?_)) ?_
        · have := arity_pos ha
          simp only [List.length_cons, List.length_nil, List.length_map]
          exact sz (by omega)
        · show D.tup _ = optM (readW (x :: r))
          rw [readW, ha]; dsimp only; rw [hn]; dsimp only; rw [if_pos hk]; rfl
/-! read_run -/
def firstBad : List (List Str) → Option Nat
  | [] => none
  | r :: rs => match readW r with
    | none => some 0
    | some _ => (firstBad rs).map (· + 1)
def okRows (rows : List (List Str)) : Prop := rows.length ≤ 300 ∧ ∀ r ∈ rows, clean r ∧ tiny r
theorem okRows.small {rows : List (List Str)} (h : okRows rows) : Fh.small rows := ⟨h.1, fun r hr => (h.2 r hr).2⟩
abbrev excRun (K : PySem.W.Frag) (rows : List (List Str)) (C : Addr) (o : Option (List (Str × D))) : Prop := C = gA K "BadText" ∧ text rows ≠ "" ∧ ∃ i, firstBad rows = some i ∧ o = some [(("line" : Str), D.int ((i + 1 : Nat) : Int))]
abbrev runOf (rows : List (List Str)) : OD := .lst ((rows.filterMap readW).map mvD)
abbrev goodRun (rows : List (List Str)) : Prop := text rows = "" ∨ firstBad rows = none
abbrev spRr (K : PySem.W.Frag) : Sp := SpXO K [.dat] (fun rows : List (List Str) => [.str (text rows)]) okRows runOf goodRun (excRun K)
theorem fm_readW {rows : List (List Str)} {ms : List Mv} (h : rows.map readW = ms.map some) : rows.filterMap readW = ms := by
  have : rows.filterMap readW = (rows.map readW).filterMap id := by rw [List.filterMap_map]; rfl
  rw [this, h, List.filterMap_map]
  exact List.filterMap_some
theorem firstBad_none : ∀ {rows : List (List Str)} {ms : List Mv}, rows.map readW = ms.map some → firstBad rows = none
  | [], _, _ => rfl
  | r :: rs, [], h => by cases h
  | r :: rs, m :: ms, h => by
    injection h with h1 h2
    rw [firstBad, h1]
    dsimp only
    rw [firstBad_none h2]; rfl
theorem firstBad_at : ∀ {rows : List (List Str)} {i : Nat} {r : List Str}, (∀ j < i, ∀ q, rows[j]? = some q → readW q ≠ none) → rows[i]? = some r → readW r = none → firstBad rows = some i
  | q :: rs, 0, r, _, h, hr => by
    simp at h; subst h
    rw [firstBad, hr]
  | q :: rs, i + 1, r, hl, h, hr => by
    rw [firstBad]
    cases hq : readW q with
    | none => exact absurd hq (hl 0 (by omega) q rfl)
    | some m =>
      dsimp only
      rw [firstBad_at (i := i) (r := r) (fun j hj z hz => hl (j + 1) (by omega) z (by simpa using hz)) (by simpa using h) hr]
      rfl
theorem df_rr (T : Tx K mg w) : DfX P w K mg base "read_run" 4 [] (spRr K) := by
  refine T.d_read_run.dfXO sc_read_run rfl (by decide) (fun _ _ _ _ _ _ us hl => match us, hl with | [_], _ => rfl) ?_
  intro f cdv A outer s H E hr
  refine ⟨rd_read_run K (lift E) (spRm K), tm_read_run T (df_rm T) hr, ?_⟩
  rintro rows hok
  unfold rd_read_run
  show Run K (lift E) _ [.dat (.str (text rows)), .no, .no, .no, .no] _
  refine run_seq (run_ifD (p := text rows = "") (et_test (m := .now) (ev_eqS (ev_dat rfl) ev_str)) (fun h => run_retEO evo_nil ⟨?_, .inl h⟩) (fun h => run_next ?_))
  · rcases text_empty h (fun r hr => (hok.2 r hr).1) with q | q
    · subst q; rfl
    · subst q
      show OD.lst [] = runOf [[("" : Str)]]
      have : readW [("" : Str)] = none := bad_head (by decide +kernel)
      simp [runOf, this]
  have hne : rows ≠ [] := fun q => h (by subst q; rfl)
  refine run_seq (run_asgO evo_nil ?_)
  dsimp only [List.set]
  have hsp : Ev K .dat (tBM K "str" rSplit (tVar 0) (tCons (tC (.str "\n")) tNil)) [.dat (.str (text rows)), .own (.lst []), .no, .no, .no] (.lst (rows.map fun r => D.str (line r))) := by
    refine (evo_split (ev_dat rfl) ev_str (by decide +kernel) ?_).dat.is ?_
    · have := textL_len hok.small
      rw [len_tl]
      show (textL rows).length + 2 ≤ _
      exact sz (by omega)
    · rw [text_split hne fun r hr => (hok.2 r hr).1]
      show D.lst _ = D.lst _
      rw [List.map_map]; rfl
  refine run_seq (run_for (m := .dat) (ei_enum hsp) (fun k e => ∃ (ms : List Mv) (s2 s3 s4 : Sl), (rows.take k).map readW = ms.map some ∧ e = [.dat (.str (text rows)), .own (.lst (ms.map mvD)), s2, s3, s4]) ⟨[], _, _, _, rfl, rfl⟩ ?_ ?_)
  · rintro k d _ hd ⟨ms, s2, s3, s4, hm, rfl⟩
    rw [List.getElem?_map, List.getElem?_zipIdx, List.getElem?_map] at hd
    cases hc : rows[k]? with
    | none => rw [hc] at hd; cases hd
    | some r =>
      rw [hc] at hd
      simp only [Option.map_some, Option.some.injEq, Nat.zero_add] at hd
      subst hd
      have hrm := hok.2 r (List.mem_of_getElem? hc)
      refine ⟨_, [2, 3], tg_2, ?_⟩
      dsimp only [List.set]
      refine run_seq (run_asg (d := optM (readW r)) (ev_call (out := fun ws => optM (readW ws)) r hrm (ea_cons (ev_dat rfl) ea_nil)) ?_)
      dsimp only [List.set]
      have hk : k < rows.length := (List.getElem?_eq_some_iff.mp hc).1
      have hml : ms.length = k := by
        have := congrArg List.length hm
        simp only [List.length_map, List.length_take] at this
        omega
      cases hq : readW r with
      | none =>
        refine run_seq (run_ifT (et_test (m := .now) (ev_is (b := true) (ev_dat rfl) ev_non rfl)) ?_)
        refine run_raise1 (d1 := .int (k + 1 : Nat)) (ed_cons ((ev_addI (i := (k : Nat)) (j := 1) (ev_dat rfl) ev_int).is (by simp)) ed_nil) ⟨rfl, h, k, firstBad_at (fun j hj q hq2 hn => ?_) hc hq, rfl⟩
        have e : ((rows.take k).map readW)[j]? = some (readW q) := by
          rw [List.getElem?_map, List.getElem?_take, if_pos hj, hq2]; rfl
        rw [hm, List.getElem?_map, hn] at e
        cases hz : ms[j]? with
        | none => rw [hz] at e; cases e
        | some z => rw [hz] at e; cases e
      | some m =>
        refine run_seq (run_ifF (et_test (m := .now) (ev_is (b := false) (ev_dat rfl) ev_non rfl)) (run_next ?_))
        refine run_app (d := mvD m) rfl (ev_dat rfl) (szl ?_) ⟨ms ++ [m], _, _, _, ?_, by rw [List.map_append]; rfl⟩
        · rw [List.length_map, hml]
          have := hok.1
          omega
        · rw [List.take_add_one, hc, List.map_append, hm, List.map_append]
          simp [hq]
  · rintro _ ⟨ms, s2, s3, s4, hm, rfl⟩
    have hl : ((rows.map fun r => D.str (line r)).zipIdx.map fun p => D.tup [.int (p.2 : Nat), p.1]).length = rows.length := by simp
    rw [hl, List.take_length] at hm
    exact run_retOwn rfl ⟨by rw [← fm_readW hm], .inr (firstBad_none hm)⟩
end
end Fh

set_option Elab.async false
set_option linter.all false
set_option maxRecDepth 100000
set_option maxHeartbeats 4000000
namespace Fh
open PySem PySem.Spec PyProof.Rows L2 TL
local macro_rules | `(tactic| walk_at "side") => `(tactic| first
  | assumption | decide | omega
  | exact ⟨by decide, by decide⟩ | exact ⟨by omega, by omega⟩ | exact Or.inl ⟨by omega, by omega⟩ | exact Or.inr ⟨by omega, by omega⟩
  | exact ⟨by decide, by decide, by decide⟩ | exact sz (by simp) | exact szl (by simp) | rfl)
local macro_rules | `(tactic| walk_at "ev") => `(tactic| first
  | exact ev_int
  | exact ev_bl
  | exact ev_str
  | exact ev_non
  | exact ev_dat rfl
  | exact ev_bor rfl
  | exact (ev_bor rfl).nw
  | exact ev_own rfl
  | exact (ev_bor rfl).sc
  | exact (ev_bor rfl).scB
  | exact (ev_bor rfl).scS
  | exact (ev_bor rfl).scN
  | (apply ev_addI; walk_at "ev"; walk_at "ev")
  | (apply ev_subI; walk_at "ev"; walk_at "ev")
  | (apply ev_ltI; walk_at "ev"; walk_at "ev")
  | (apply ev_leI; walk_at "ev"; walk_at "ev")
  | (apply ev_gtI; walk_at "ev"; walk_at "ev")
  | (apply ev_geI; walk_at "ev"; walk_at "ev")
  | (apply ev_eqI; walk_at "ev"; walk_at "ev")
  | (apply ev_neI; walk_at "ev"; walk_at "ev")
  | (apply ev_eqS; walk_at "ev"; walk_at "ev")
  | (apply ev_neS; walk_at "ev"; walk_at "ev")
  | (apply ev_eqL; walk_at "ev"; walk_at "ev")
  | (apply ev_neL; walk_at "ev"; walk_at "ev")
  | (apply ev_max2; walk_at "ev"; walk_at "ev")
  | (apply ev_min2; walk_at "ev"; walk_at "ev")
  | (apply ev_mulI; walk_at "ev"; walk_at "ev"; walk_at "side")
  | (apply ev_divI; walk_at "ev"; walk_at "ev"; walk_at "side")
  | (apply ev_modI; walk_at "ev"; walk_at "ev"; walk_at "side")
  | (apply ev_powI; walk_at "ev"; walk_at "ev"; walk_at "side")
  | (apply ev_negI; walk_at "ev")
  | (apply ev_abs; walk_at "ev")
  | (apply ev_intc; walk_at "ev")
  | (apply ev_lenM; walk_at "ev")
  | (apply ev_lenTM; walk_at "ev")
  | (apply ev_len; walk_at "ev")
  | (apply ev_lenT; walk_at "ev")
  | (apply ev_sum; walk_at "ev")
  | (apply ev_notV; walk_at "ev")
  | (apply ev_tupI; walk_at "ev")
  | (apply ev_is; walk_at "ev"; walk_at "ev"; rfl)
  | (apply ev_isN; walk_at "ev"; walk_at "ev"; rfl)
  | (apply ev_ixI; walk_at "ev"; walk_at "ev"; walk_at "side"; walk_at "side")
  | (apply ev_ixIT; walk_at "ev"; walk_at "ev"; walk_at "side"; walk_at "side")
  | (apply ev_andV; walk_at "ev"; (intro _; walk_at "ev"))
  | (apply ev_orV; walk_at "ev"; (intro _; walk_at "ev"))
  | (apply ev_tup; walk_at "ed"; walk_at "side")
  | exact ev_nil
  | (apply ev_lst; walk_at "ed"; walk_at "side")
  | (apply ev_isi; walk_at "ev"; rfl; decide +kernel))
local macro_rules | `(tactic| walk_at "ea") => `(tactic| first
  | exact ea_nil
  | (apply ea_cons; walk_at "ev"; walk_at "ea"))
local macro_rules | `(tactic| walk_at "ed") => `(tactic| first
  | exact ed_nil
  | (apply ed_cons; walk_at "ev"; walk_at "ed"))
local macro_rules | `(tactic| walk_at "et") => `(tactic| first
  | exact et_yes
  | (apply et_and; walk_at "et"; (intro _; walk_at "et"))
  | (apply et_or; walk_at "et"; (intro _; walk_at "et"))
  | (apply et_not; walk_at "et")
  | (refine et_test (m := .now) ?_; walk_at "ev")
  | (refine et_B (m := .now) ?_; walk_at "ev"))
local macro_rules | `(tactic| walk_at "asg") => `(tactic| (first
  | (refine run_seq ?_; apply run_asg; walk_at "ev"; dsimp only [List.set])
  | (apply run_asg; walk_at "ev"; dsimp only [List.set])))
local macro_rules | `(tactic| walk_at "ev") => `(tactic| first
  | (apply ev_ixT; walk_at "ev"; walk_at "ev"; rfl)
  | (apply ev_ixL; walk_at "ev"; walk_at "ev"; rfl)
  | (apply ev_cat; walk_at "ev"; walk_at "ev"; walk_at "side")
  | (apply ev_catT; walk_at "ev"; walk_at "ev"; walk_at "side"))
section
variable {P : Program} {w : World} {K : PySem.W.Frag} {mg : Str → Option Value} {base : Heap}
theorem ar_enter : arity "enter" = some 1 := by decide +kernel
theorem ar_pass : arity "pass" = some 2 := by decide +kernel
theorem ar_swap : arity "swap" = some 4 := by decide +kernel
theorem mvD_tup (x : Str) (vs : List Int) (h : ∀ v ∈ vs, 0 ≤ v) : D.tup (.str x :: vs.map D.int) = mvD ⟨x, vs.map Int.toNat⟩ := by
  unfold mvD
  congr 2
  rw [List.map_map]
  apply List.map_congr_left
  intro v hv
  have := h v hv
  show D.int v = D.int ((v.toNat : Nat) : Int)
  congr 1
  omega
abbrev spMo (K : PySem.W.Frag) : Sp := SpR K [.dat, .dat, .dat] (fun a : List Int × Nat => [rowD a.1, .int 10, .int (a.2 : Nat)]) (fun a => a.2 ≤ 20 ∧ a.1.length = 150 ∧ Unit1000 a.1) (fun a d => ∃ ms : List Mv, ms.length = a.2 ∧ (∀ m ∈ ms, m.ok) ∧ d = .lst (ms.map mvD))
theorem df_mo (T : Tx K mg w) : Df P w K mg base "_law_moves" 1 [] (spMo K) := by
  refine T.d_l_moves.df sc_l_moves rfl (by decide) (fun _ _ _ _ _ _ us hl => match us, hl with | [_, _, _], _ => rfl) ?_
  intro f cdv A outer s H E hr
  refine ⟨rd_l_moves K, tm_l_moves T hr, ?_⟩
  rintro ⟨ps, many⟩ ⟨hm, hl, hu⟩
  simp only at hm hl hu
  unfold rd_l_moves
  show Run K (lift E) _ [.dat (rowD ps), .dat (.int 10), .dat (.int (many : Nat)), .no, .no, .no, .no, .no, .no, .no] _
  refine run_seq (run_asgO evo_nil ?_)
  dsimp only [List.set]
  refine run_seq (run_for (m := .dat) (ei_rng1 (m := .dat) (n := (many : Nat)) (ea_cons (ev_dat rfl) ea_nil) (by omega) (by omega)) (fun k e => ∃ (ms : List Mv) (s4 s5 s6 s7 s8 : Sl), ms.length = k ∧ (∀ m ∈ ms, m.ok) ∧ e = [.dat (rowD ps), .dat (.int 10), .dat (.int (many : Nat)), .own (.lst (ms.map mvD)), s4, s5, s6, s7, s8, .no]) ⟨[], _, _, _, _, _, rfl, (fun _ h => nomatch h), rfl⟩ ?_ ?_)
  · rintro k _ _ hx ⟨ms, s4, s5, s6, s7, s8, hml, hok, rfl⟩
    obtain ⟨hk, rfl⟩ := get_rg hx
    have hk2 : k < many := by omega
    refine ⟨_, [4], tg_dat, ?_⟩
    dsimp only [List.set]
    refine run_seq (run_asg (d := .int (10 + 6 * (k : Int))) ((ev_addI (i := 10) (j := 6 * (0 + (k : Nat))) (ev_dat rfl) (ev_mulI ev_int (ev_dat rfl) (.inl ⟨by decide, by decide⟩))).is (by simp)) ?_)
    dsimp only [List.set]
    obtain ⟨at_, hat⟩ : ∃ a : Int, a = 10 + 6 * (k : Int) := ⟨_, rfl⟩
    rw [← hat]
    have hat2 : 10 ≤ at_ ∧ at_ + 5 < (ps.length : Nat) := by omega
    obtain ⟨b, hb⟩ : ∃ b : Int, b = if nth ps (at_ + 5) % 2 = 0 then 10 else 100 := ⟨_, rfl⟩
    have hb2 : 0 < b ∧ b ≤ 100 := by rw [hb]; split <;> decide
    refine run_seq (run_asg (d := .int b) (ev_ixL (xs := [.int 10, .int 100]) (by walk_at "ev") (k := nth ps (at_ + 5) % 2) (by walk_at "ev") ?_) ?_)
    · have h2 : nth ps (at_ + 5) % 2 = 0 ∨ nth ps (at_ + 5) % 2 = 1 := by omega
      rw [hb]
      rcases h2 with h2 | h2
      · rw [h2, if_pos rfl]; exact atI_nat (j := 0) rfl
      · rw [h2, if_neg (by decide)]; exact atI_nat (j := 1) rfl
    dsimp only [List.set]
    obtain ⟨v, hv⟩ : ∃ v : Nat → Int, v = fun j => nth ps (at_ + 1 + (0 + (j : Nat))) % b := ⟨_, rfl⟩
    have hv2 : ∀ j, 0 ≤ v j ∧ v j < 100 := fun j => by
      rw [hv]
      have h1 := Int.emod_nonneg (nth ps (at_ + 1 + (0 + (j : Nat)))) (show b ≠ 0 by omega)
      have h2 := Int.emod_lt_of_pos (nth ps (at_ + 1 + (0 + (j : Nat)))) hb2.1
      show 0 ≤ nth ps (at_ + 1 + (0 + (j : Nat))) % b ∧ nth ps (at_ + 1 + (0 + (j : Nat))) % b < 100
      exact ⟨h1, by omega⟩
    refine run_seq (run_asg (d := .lst [.int (v 0), .int (v 1), .int (v 2), .int (v 3)]) ?_ ?_)
    · refine ((ev_lcO (m := .dat) (xs := rgD 0 4) (fun d => match d with | .int x => some (D.int (nth ps (at_ + 1 + x) % b)) | _ => none) ?_ (by rw [rgD_len]; exact sz (by decide)) ?_).dat).is (by rw [hv]; rfl)
      · exact ei_rng1 (m := .dat) (ea_cons ev_int ea_nil) (by decide) (by decide)
      · intro i d hd
        obtain ⟨hi, rfl⟩ := get_rg hd
        have hi2 : i < 4 := hi
        exact ⟨_, tg_dat, .inl ⟨_, et_yes, rfl, by walk_at "ev"⟩⟩
    dsimp only [List.set]
    refine run_seq (run_asg (d := .int (nth ps at_ % 3)) (by walk_at "ev") ?_)
    dsimp only [List.set]
    have hsz : (ms.map mvD).length < sizeLine := szl (by rw [List.length_map]; omega)
    have fin : ∀ m : Mv, m.ok → ∃ (ms' : List Mv) (s4 s5 s6 s7 s8 : Sl), ms'.length = k + 1 ∧ (∀ m ∈ ms', m.ok) ∧ ([.dat (rowD ps), .dat (.int 10), .dat (.int (many : Nat)), .own (.lst (ms.map mvD ++ [mvD m])), .dat (.int (0 + (k : Nat))), .dat (.int at_), .dat (.int b), .dat (.lst [.int (v 0), .int (v 1), .int (v 2), .int (v 3)]), .dat (.int (nth ps at_ % 3)), .no] : En) = [.dat (rowD ps), .dat (.int 10), .dat (.int (many : Nat)), .own (.lst (ms'.map mvD)), s4, s5, s6, s7, s8, .no] := fun m hmo =>
      ⟨ms ++ [m], _, _, _, _, _, by simp [hml], fun z hz => by
        rcases List.mem_append.mp hz with q | q
        · exact hok z q
        · rw [List.mem_singleton.mp q]; exact hmo, by rw [List.map_append]; rfl⟩
    refine run_ifD (p := nth ps at_ % 3 = 0) (by walk_at "et") (fun h => ?_) (fun h => run_ifD (p := nth ps at_ % 3 = 1) (by walk_at "et") (fun h2 => ?_) (fun h2 => ?_))
    · refine run_app (d := mvD ⟨"enter", [v 0].map Int.toNat⟩) rfl (Ev.is (d := .tup (.str "enter" :: [v 0].map D.int)) (by walk_at "ev") (mvD_tup _ _ fun x hx => by simp at hx; rw [hx]; exact (hv2 0).1)) hsz (fin _ ⟨ar_enter, fun n hn => ?_⟩)
      simp at hn
      have := hv2 0
      omega
    · refine run_app (d := mvD ⟨"pass", [v 0, v 1].map Int.toNat⟩) rfl (Ev.is (d := .tup (.str "pass" :: [v 0, v 1].map D.int)) (by walk_at "ev") (mvD_tup _ _ fun x hx => by
        simp at hx
        rcases hx with q | q <;> rw [q]
        · exact (hv2 0).1
        · exact (hv2 1).1)) hsz (fin _ ⟨ar_pass, fun n hn => ?_⟩)
      simp at hn
      have := hv2 0
      have := hv2 1
      omega
    · refine run_app (d := mvD ⟨"swap", [v 0, v 1, v 2, v 3].map Int.toNat⟩) rfl (Ev.is (d := .tup (.str "swap" :: [v 0, v 1, v 2, v 3].map D.int)) (by walk_at "ev") (mvD_tup _ _ fun x hx => by
        simp at hx
        rcases hx with q | q | q | q <;> rw [q]
        · exact (hv2 0).1
        · exact (hv2 1).1
        · exact (hv2 2).1
        · exact (hv2 3).1)) hsz (fin _ ⟨ar_swap, fun n hn => ?_⟩)
      simp at hn
      have := hv2 0
      have := hv2 1
      have := hv2 2
      have := hv2 3
      omega
  · rintro _ ⟨ms, s4, s5, s6, s7, s8, hml, hok, rfl⟩
    rw [rgD_len] at hml
    exact run_retO rfl ⟨ms, by simpa using hml, hok, rfl⟩
/-! _law_words -/
abbrev spWo (K : PySem.W.Frag) : Sp := SpP K [.dat] (fun m : Mv => [mvD m]) (fun m => m.ok) (fun m => strsD m.words)
theorem df_wo (T : Tx K mg w) : Df P w K mg base "_law_words" 1 [] (spWo K) := by
  refine T.d_l_words.df sc_l_words rfl (by decide) (fun _ _ _ _ _ _ us hl => match us, hl with | [_], _ => rfl) ?_
  intro f cdv A outer s H E hr
  refine ⟨rd_l_words K, tm_l_words T hr, ?_⟩
  intro m hmo
  unfold rd_l_words
  show Run K (lift E) _ [.dat (mvD m), .no] _
  have hl4 := arity_pos hmo.1
  refine run_ret (d := .lst ([D.str m.w] ++ (m.ns.map nstr).map D.str)) (ev_cat (ev_lst (ed_cons (ev_ixT (ev_dat rfl) ev_int (atI_nat (j := 0) rfl)) ed_nil) (by walk_at "side")) ?_ (sz (by simp; omega))) rfl
  have hs : Ev K .dat (tSl (rSlU K) (tVar 0) (tPart (tC (.int 1))) tNoPart) [.dat (mvD m), .no] (.tup (m.ns.map fun n => D.int (n : Nat))) := (ev_slT (lo := some 1) (hi := none) (ev_dat rfl) (es_some ev_int) es_no).is (by
    show D.tup (cut (D.str m.w :: m.ns.map fun n => D.int (n : Nat)) (some ((1 : Nat) : Int)) none) = _
    rw [cut_from]; rfl)
  refine ((ev_lcO (m := .dat) (fun d => some (.str (wordOf d))) (ei_tup (fun z => nomatch z) hs) (sz (by rw [List.length_map]; omega)) ?_).dat).is ?_
  · intro j d hd
    rw [List.getElem?_map] at hd
    cases hn : m.ns[j]? with
    | none => rw [hn] at hd; cases hd
    | some n =>
      rw [hn] at hd
      cases hd
      have := hmo.2 n (List.mem_of_getElem? hn)
      exact ⟨_, tg_dat, .inl ⟨_, et_yes, rfl, ev_strI (ev_dat rfl) (by
        have h0 : (Int.natAbs (n : Int)) ≤ 99 := by omega
        exact Nat.lt_of_le_of_lt (Nat.log2_le_self _) (by omega))⟩⟩
  · rw [fm_map (fun d => D.str (wordOf d)), List.map_map, List.map_map]; rfl
/-! _law_joined_rows -/
def rowRD (r : List Str × Bool) : D := .tup [strsD r.1, .bl r.2]
def rowsRD (rows : List (List Str × Bool)) : D := .lst (rows.map rowRD)
abbrev spJo (K : PySem.W.Frag) : Sp := SpP K [.dat] (fun rows : List (List Str × Bool) => [rowsRD rows]) (fun rows => small (rows.map (·.1))) (fun rows => .str (text (rows.map (·.1))))
theorem df_jo (T : Tx K mg w) : Df P w K mg base "_law_joined_rows" 1 [] (spJo K) := by
  refine T.d_l_joined_rows.df sc_l_joined_rows rfl (by decide) (fun _ _ _ _ _ _ us hl => match us, hl with | [_], _ => rfl) ?_
  intro f cdv A outer s H E hr
  refine ⟨rd_l_joined_rows K, tm_l_joined_rows T hr, ?_⟩
  intro rows hsm
  unfold rd_l_joined_rows
  show Run K (lift E) _ [.dat (rowsRD rows), .no, .no, .no, .no] _
  have hn : rows.length ≤ 300 := by have := hsm.1; rwa [List.length_map] at this
  refine run_seq (run_asg (d := .str (S [])) ev_str ?_)
  dsimp only [List.set]
  have hlen : Ev K .dat (tCB (rLenU K) (tCons (tVar 0) tNil)) [.dat (rowsRD rows), .dat (.str (S [])), .no, .no, .no] (.int (rows.length : Nat)) := ev_lenM (as := rows) (f := rowRD) (ev_dat rfl)
  refine run_seq (run_for (m := .dat) (ei_rng1 (m := .dat) (n := (rows.length : Nat)) (ea_cons hlen ea_nil) (by omega) (by omega)) (fun k e => ∃ (s2 s3 s4 : Sl), e = [.dat (rowsRD rows), .dat (.str (S (textL ((rows.take k).map (·.1))))), s2, s3, s4]) ⟨_, _, _, rfl⟩ ?_ ?_)
  · rintro k _ _ hx ⟨s2, s3, s4, rfl⟩
    obtain ⟨hk, rfl⟩ := get_rg hx
    have hk2 : k < rows.length := by omega
    refine ⟨_, [2], tg_dat, ?_⟩
    dsimp only [List.set]
    obtain ⟨L, hL⟩ : ∃ L, L = textL ((rows.take k).map (·.1)) := ⟨_, rfl⟩
    have hLl : L.length ≤ 33300 := by
      rw [hL]
      exact textL_len ⟨by rw [List.length_map, List.length_take]; omega, fun r hr => hsm.2 r (by
        obtain ⟨q, hq, rfl⟩ := List.mem_map.mp hr
        exact List.mem_map.mpr ⟨q, List.mem_of_mem_take hq, rfl⟩)⟩
    rw [← hL]
    obtain ⟨B0, hB0⟩ : ∃ B0, B0 = if k = 0 then [] else L ++ [10] := ⟨_, rfl⟩
    have hB0l : B0.length ≤ 33301 := by rw [hB0]; split <;> simp <;> omega
    have hL0 : k = 0 → L = [] := fun q => by rw [hL, q]; rfl
    refine run_seqM (fun e => e = [.dat (rowsRD rows), .dat (.str (S B0)), .dat (.int (0 + (k : Nat))), s3, s4]) ?_ ?_
    · refine run_ifD (p := (0 : Int) < 0 + (k : Nat)) (et_test (m := .now) (ev_gtI (ev_dat rfl) ev_int)) (fun h => ?_) (fun h => run_next ?_)
      · refine run_asg (d := .str (S B0)) ((ev_catS (x := S L) (ev_dat rfl) ev_str ?_).is ?_) rfl
        · rw [S_len]
          have e : ("\n" : Str).length = 1 := rfl
          rw [e]
          exact sz (by omega)
        · rw [S_app, tl_nl, hB0, if_neg (by omega)]
      · have hk0 : k = 0 := by omega
        rw [hB0, if_pos hk0, hL0 hk0]
    rintro _ rfl
    obtain ⟨r, hr⟩ : ∃ r, rows[k]? = some r := ⟨_, List.getElem?_eq_getElem hk2⟩
    have hrs := hsm.2 r.1 (List.mem_map.mpr ⟨r, List.mem_of_getElem? hr, rfl⟩)
    refine run_seq (run_asg (d := strsD r.1) (ev_ixT (xs := [strsD r.1, .bl r.2]) (ev_ixL (d := rowRD r) (ev_dat rfl) (ev_dat rfl) (atI_at (by rw [List.getElem?_map, hr]; rfl))) ev_int (atI_nat (j := 0) rfl)) ?_)
    dsimp only [List.set]
    have hlen2 : Ev K .dat (tCB (rLenU K) (tCons (tVar 3) tNil)) [.dat (rowsRD rows), .dat (.str (S B0)), .dat (.int (0 + (k : Nat))), .dat (strsD r.1), s4] (.int (r.1.length : Nat)) := ev_lenM (as := r.1) (f := D.str) (ev_dat rfl)
    refine run_for (m := .dat) (ei_rng1 (m := .dat) (n := (r.1.length : Nat)) (ea_cons hlen2 ea_nil) (by omega) (by omega)) (fun i e => ∃ (s4 : Sl), e = [.dat (rowsRD rows), .dat (.str (S (B0 ++ lineL (r.1.take i)))), .dat (.int (0 + (k : Nat))), .dat (strsD r.1), s4]) ⟨s4, by simp [lineL, joinL]⟩ ?_ ?_
    · rintro i _ _ hx ⟨s4, rfl⟩
      obtain ⟨hi, rfl⟩ := get_rg hx
      have hi2 : i < r.1.length := by omega
      refine ⟨_, [4], tg_dat, ?_⟩
      dsimp only [List.set]
      obtain ⟨M, hM⟩ : ∃ M, M = lineL (r.1.take i) := ⟨_, rfl⟩
      have hMl : M.length ≤ 110 := by
        rw [hM]
        exact lineL_len (by rw [List.length_take]; omega) fun x hx => hrs.2 x (List.mem_of_mem_take hx)
      rw [← hM]
      obtain ⟨x, hx⟩ : ∃ x, r.1[i]? = some x := ⟨_, List.getElem?_eq_getElem hi2⟩
      have hxl := hrs.2 x (List.mem_of_getElem? hx)
      have hstep : lineL (r.1.take (i + 1)) = (if i = 0 then [] else M ++ [32]) ++ tl x := by
        unfold lineL
        rw [List.take_add_one, hx, List.map_append]
        show joinL [32] ((r.1.take i).map tl ++ [tl x]) = _
        rw [joinL_snoc]
        by_cases h0 : i = 0
        · subst h0; simp
        · rw [if_neg h0, if_neg, hM]
          · simp [lineL]
          · intro q
            have h3 := congrArg List.length q
            rw [List.length_map, List.length_take, List.length_nil] at h3
            omega
      obtain ⟨B1, hB1⟩ : ∃ B1, B1 = B0 ++ (if i = 0 then [] else M ++ [32]) := ⟨_, rfl⟩
      have hB1l : B1.length ≤ 33412 := by rw [hB1, List.length_append]; split <;> simp <;> omega
      have hM0 : i = 0 → M = [] := fun q => by rw [hM, q]; rfl
      refine run_seqM (fun e => e = [.dat (rowsRD rows), .dat (.str (S B1)), .dat (.int (0 + (k : Nat))), .dat (strsD r.1), .dat (.int (0 + (i : Nat)))]) ?_ ?_
      · refine run_ifD (p := (0 : Int) < 0 + (i : Nat)) (et_test (m := .now) (ev_gtI (ev_dat rfl) ev_int)) (fun h => ?_) (fun h => run_next ?_)
        · refine run_asg (d := .str (S B1)) ((ev_catS (x := S (B0 ++ M)) (ev_dat rfl) ev_str ?_).is ?_) rfl
          · rw [S_len, List.length_append]
            have e : (" " : Str).length = 1 := rfl
            rw [e]
            exact sz (by omega)
          · rw [S_app, tl_sp, hB1, if_neg (by omega), List.append_assoc]
        · have hi0 : i = 0 := by omega
          rw [hB1, if_pos hi0, hM0 hi0]
      rintro _ rfl
      refine run_asg (d := .str (S (B0 ++ lineL (r.1.take (i + 1))))) ((ev_catS (x := S B1) (y := x) (ev_dat rfl) (ev_ixL (ev_dat rfl) (ev_dat rfl) (atI_at (by rw [List.getElem?_map, hx]; rfl))) ?_).is ?_) ⟨_, rfl⟩
      · rw [S_len, len_tl]
        exact sz (by show B1.length + (tl x).length ≤ _; omega)
      · rw [S_app, hstep, hB1, List.append_assoc]
    · rintro _ ⟨s4, rfl⟩
      rw [rgD_len]
      have e1 : Int.toNat ((r.1.length : Nat) : Int) = r.1.length := by omega
      rw [e1, List.take_length]
      have : textL ((rows.take (k + 1)).map (·.1)) = B0 ++ lineL r.1 := by
        unfold textL
        rw [List.take_add_one, hr, List.map_append, List.map_append]
        show joinL [10] (((rows.take k).map (·.1)).map lineL ++ [lineL r.1]) = _
        rw [joinL_snoc, hB0]
        by_cases h0 : k = 0
        · subst h0; simp
        · rw [if_neg h0, if_neg, hL]
          · simp [textL]
          · intro q
            have h3 := congrArg List.length q
            rw [List.length_map, List.length_map, List.length_take, List.length_nil] at h3
            omega
      exact ⟨_, _, _, by rw [this]⟩
  · rintro _ ⟨s2, s3, s4, rfl⟩
    rw [rgD_len]
    have e1 : Int.toNat ((rows.length : Nat) : Int) = rows.length := by omega
    rw [e1, List.take_length]
    exact run_ret (ev_dat rfl) rfl
end
end Fh

set_option Elab.async false
set_option linter.all false
set_option maxRecDepth 100000
set_option maxHeartbeats 4000000
namespace Fh
open PySem PySem.Spec PyProof.Rows L2 TL
local macro_rules | `(tactic| walk_at "side") => `(tactic| first
  | assumption | decide | omega
  | exact ⟨by decide, by decide⟩ | exact ⟨by omega, by omega⟩ | exact Or.inl ⟨by omega, by omega⟩ | exact Or.inr ⟨by omega, by omega⟩
  | exact ⟨by decide, by decide, by decide⟩ | exact sz (by simp) | exact szl (by simp) | rfl)
local macro_rules | `(tactic| walk_at "ev") => `(tactic| first
  | exact ev_int
  | exact ev_bl
  | exact ev_str
  | exact ev_non
  | exact ev_dat rfl
  | exact ev_bor rfl
  | exact (ev_bor rfl).nw
  | exact ev_own rfl
  | exact (ev_bor rfl).sc
  | exact (ev_bor rfl).scB
  | exact (ev_bor rfl).scS
  | exact (ev_bor rfl).scN
  | (apply ev_addI; walk_at "ev"; walk_at "ev")
  | (apply ev_subI; walk_at "ev"; walk_at "ev")
  | (apply ev_ltI; walk_at "ev"; walk_at "ev")
  | (apply ev_leI; walk_at "ev"; walk_at "ev")
  | (apply ev_gtI; walk_at "ev"; walk_at "ev")
  | (apply ev_geI; walk_at "ev"; walk_at "ev")
  | (apply ev_eqI; walk_at "ev"; walk_at "ev")
  | (apply ev_neI; walk_at "ev"; walk_at "ev")
  | (apply ev_eqS; walk_at "ev"; walk_at "ev")
  | (apply ev_neS; walk_at "ev"; walk_at "ev")
  | (apply ev_eqL; walk_at "ev"; walk_at "ev")
  | (apply ev_neL; walk_at "ev"; walk_at "ev")
  | (apply ev_max2; walk_at "ev"; walk_at "ev")
  | (apply ev_min2; walk_at "ev"; walk_at "ev")
  | (apply ev_mulI; walk_at "ev"; walk_at "ev"; walk_at "side")
  | (apply ev_divI; walk_at "ev"; walk_at "ev"; walk_at "side")
  | (apply ev_modI; walk_at "ev"; walk_at "ev"; walk_at "side")
  | (apply ev_powI; walk_at "ev"; walk_at "ev"; walk_at "side")
  | (apply ev_negI; walk_at "ev")
  | (apply ev_abs; walk_at "ev")
  | (apply ev_intc; walk_at "ev")
  | (apply ev_lenM; walk_at "ev")
  | (apply ev_lenTM; walk_at "ev")
  | (apply ev_len; walk_at "ev")
  | (apply ev_lenT; walk_at "ev")
  | (apply ev_sum; walk_at "ev")
  | (apply ev_notV; walk_at "ev")
  | (apply ev_tupI; walk_at "ev")
  | (apply ev_is; walk_at "ev"; walk_at "ev"; rfl)
  | (apply ev_isN; walk_at "ev"; walk_at "ev"; rfl)
  | (apply ev_ixI; walk_at "ev"; walk_at "ev"; walk_at "side"; walk_at "side")
  | (apply ev_ixIT; walk_at "ev"; walk_at "ev"; walk_at "side"; walk_at "side")
  | (apply ev_andV; walk_at "ev"; (intro _; walk_at "ev"))
  | (apply ev_orV; walk_at "ev"; (intro _; walk_at "ev"))
  | (apply ev_tup; walk_at "ed"; walk_at "side")
  | exact ev_nil
  | (apply ev_lst; walk_at "ed"; walk_at "side")
  | (apply ev_isi; walk_at "ev"; rfl; decide +kernel))
local macro_rules | `(tactic| walk_at "ea") => `(tactic| first
  | exact ea_nil
  | (apply ea_cons; walk_at "ev"; walk_at "ea"))
local macro_rules | `(tactic| walk_at "ed") => `(tactic| first
  | exact ed_nil
  | (apply ed_cons; walk_at "ev"; walk_at "ed"))
local macro_rules | `(tactic| walk_at "et") => `(tactic| first
  | exact et_yes
  | (apply et_and; walk_at "et"; (intro _; walk_at "et"))
  | (apply et_or; walk_at "et"; (intro _; walk_at "et"))
  | (apply et_not; walk_at "et")
  | (refine et_test (m := .now) ?_; walk_at "ev")
  | (refine et_B (m := .now) ?_; walk_at "ev"))
local macro_rules | `(tactic| walk_at "asg") => `(tactic| (first
  | (refine run_seq ?_; apply run_asg; walk_at "ev"; dsimp only [List.set])
  | (apply run_asg; walk_at "ev"; dsimp only [List.set])))
local macro_rules | `(tactic| walk_at "ev") => `(tactic| first
  | (apply ev_ixT; walk_at "ev"; walk_at "ev"; rfl)
  | (apply ev_ixL; walk_at "ev"; walk_at "ev"; rfl)
  | (apply ev_cat; walk_at "ev"; walk_at "ev"; walk_at "side")
  | (apply ev_catT; walk_at "ev"; walk_at "ev"; walk_at "side"))
/-! ### spoilt words -/
def okWord (x : Str) : Prop := (10 ∉ tl x ∧ 32 ∉ tl x) ∧ (tl x).length ≤ 8
structure BadW (ws : List Str) : Prop where
  no : readW ws = none
  ne : ws ≠ []
  ok : ∀ x ∈ ws, okWord x
  ln : ws.length ≤ 6
  n1 : ws ≠ [("" : Str)]
theorem Mv.ok.word {m : Mv} (h : m.ok) : ∀ x ∈ m.words, okWord x := fun x hx => ⟨h.clean.2 x hx, Nat.le_trans (h.small.2 x hx) (by decide)⟩
theorem okWord_nstr {n : Nat} (h : n < 100) : okWord (nstr n) := ⟨nstr_free n, Nat.le_trans (nstr_len h) (by decide)⟩
theorem okWord_empty : okWord "" := ⟨⟨by decide +kernel, by decide +kernel⟩, by decide +kernel⟩
theorem nstr_ne (n : Nat) : nstr n ≠ "" := fun q => by
  have := congrArg tl q
  unfold nstr at this
  rw [tl_num] at this
  exact numL_ne n this
theorem arity_ne {x : Str} {k : Nat} (h : arity x = some k) : x ≠ "" := fun q => by
  subst q
  have : arity "" = none := by decide +kernel
  rw [this] at h; cases h
theorem arity_inj {x y : Str} {k : Nat} (h : arity x = some k) (h' : arity y = some k) : x = y := by
  unfold arity at h h'
  split at h <;> split at h' <;> (try split at h) <;> (try split at h') <;> (try split at h) <;> (try split at h') <;> simp_all <;> omega
section
variable {m : Mv} (hm : m.ok)
theorem mv_len (hm : m.ok) : m.ns.length = 1 ∨ m.ns.length = 2 ∨ m.ns.length = 4 := arity_pos hm.1
/-- a word put in at a place -/
theorem bad_ins {x : Str} {a : Nat} (hm : m.ok) (ha : a ≤ m.words.length) (hx : okWord x) (h0 : arity x = none) (hn : numOf x = none ∨ True) : BadW (m.words.take a ++ [x] ++ m.words.drop a) := by
  have hl := mv_len hm
  have hwl : m.words.length = m.ns.length + 1 := by simp [Mv.words]
  refine ⟨?_, by simp, fun y hy => ?_, ?_, fun q => ?_⟩
  · cases a with
    | zero => exact bad_head h0
    | succ j =>
      have : ((m.ns.map nstr).take j ++ ([x] ++ (m.ns.map nstr).drop j)).length = m.ns.length + 1 := by
        simp only [List.length_append, List.length_take, List.length_drop, List.length_map, List.length_cons, List.length_nil]
        omega
      have e : (m.words.take (j + 1) ++ [x] ++ m.words.drop (j + 1)) = m.w :: ((m.ns.map nstr).take j ++ ([x] ++ (m.ns.map nstr).drop j)) := by simp [Mv.words]
      rw [e]
      refine bad_len (k := m.ns.length) hm.1 ?_
      rw [this]
      omega
  · rcases List.mem_append.mp hy with q | q
    · rcases List.mem_append.mp q with q | q
      · exact hm.word y (List.mem_of_mem_take q)
      · rw [List.mem_singleton.mp q]; exact hx
    · exact hm.word y (List.mem_of_mem_drop q)
  · simp only [List.length_append, List.length_take, List.length_drop, List.length_cons, List.length_nil]
    omega
  · have := congrArg List.length q
    simp only [List.length_append, List.length_take, List.length_drop, List.length_cons, List.length_nil] at this
    omega
/-- a word left out -/
theorem bad_out {a : Nat} (hm : m.ok) (ha : a < m.words.length) : BadW (m.words.take a ++ m.words.drop (a + 1)) := by
  have hl := mv_len hm
  have hwl : m.words.length = m.ns.length + 1 := by simp [Mv.words]
  have hlen : (m.words.take a ++ m.words.drop (a + 1)).length = m.ns.length := by
    simp only [List.length_append, List.length_take, List.length_drop]
    omega
  refine ⟨?_, fun q => ?_, fun y hy => ?_, by omega, fun q => ?_⟩
  · cases a with
    | zero =>
      show readW (m.ns.map nstr) = none
      cases hns : m.ns with
      | nil => rw [hns] at hl; simp at hl
      | cons n ns => exact bad_head (arity_nstr n)
    | succ j =>
      have e : m.words.take (j + 1) ++ m.words.drop (j + 1 + 1) = m.w :: ((m.ns.map nstr).take j ++ (m.ns.map nstr).drop (j + 1)) := by simp [Mv.words]
      rw [e] at hlen ⊢
      refine bad_len (k := m.ns.length) hm.1 ?_
      rw [List.length_cons] at hlen
      omega
  · rw [q] at hlen; simp at hlen; omega
  · rcases List.mem_append.mp hy with q | q
    · exact hm.word y (List.mem_of_mem_take q)
    · exact hm.word y (List.mem_of_mem_drop q)
  · cases a with
    | zero =>
      have q2 : m.ns.map nstr = [("" : Str)] := q
      cases hns : m.ns with
      | nil => rw [hns] at q2; cases q2
      | cons n ns =>
        rw [hns] at q2
        injection q2 with q3
        exact nstr_ne n q3
    | succ j =>
      have e : m.words.take (j + 1) ++ m.words.drop (j + 1 + 1) = m.w :: ((m.ns.map nstr).take j ++ (m.ns.map nstr).drop (j + 1)) := by simp [Mv.words]
      rw [e] at q
      injection q with q1
      exact arity_ne hm.1 q1
/-- another first word -/
theorem bad_first {x : Str} (hm : m.ok) (hx : okWord x) (hne : x ≠ m.w) : BadW (x :: m.ns.map nstr) := by
  have hl := mv_len hm
  refine ⟨?_, by simp, fun y hy => ?_, by simp; omega, fun q => ?_⟩
  · cases ha : arity x with
    | none => exact bad_head ha
    | some k =>
      refine bad_len ha fun q => hne ?_
      rw [List.length_map] at q
      subst q
      exact arity_inj ha hm.1
  · rcases List.mem_cons.mp hy with q | q
    · rw [q]; exact hx
    · exact hm.word y (List.mem_cons_of_mem _ q)
  · injection q with _ q
    have := congrArg List.length q
    simp at this
    rw [this] at hl
    simp at hl
/-- no number at a place behind the first word -/
theorem bad_rep {x : Str} {a : Nat} (hm : m.ok) (h1 : 1 ≤ a) (h2 : a < m.words.length) (hx : okWord x) (hn : numOf x = none) : BadW (m.words.take a ++ [x] ++ m.words.drop (a + 1)) := by
  have hl := mv_len hm
  have hwl : m.words.length = m.ns.length + 1 := by simp [Mv.words]
  obtain ⟨j, rfl⟩ : ∃ j, a = j + 1 := ⟨a - 1, by omega⟩
  have e : m.words.take (j + 1) ++ [x] ++ m.words.drop (j + 1 + 1) = m.w :: ((m.ns.map nstr).take j ++ ([x] ++ (m.ns.map nstr).drop (j + 1))) := by simp [Mv.words]
  refine ⟨?_, by simp, fun y hy => ?_, ?_, fun q => ?_⟩
  · rw [e]
    exact bad_num (x := x) (by simp) hn
  · rcases List.mem_append.mp hy with q | q
    · rcases List.mem_append.mp q with q | q
      · exact hm.word y (List.mem_of_mem_take q)
      · rw [List.mem_singleton.mp q]; exact hx
    · exact hm.word y (List.mem_of_mem_drop q)
  · simp only [List.length_append, List.length_take, List.length_drop, List.length_cons, List.length_nil]
    omega
  · rw [e] at q
    injection q with q1
    exact arity_ne hm.1 q1
end
/-- what is no number -/
theorem num_len {x : Str} (h : (tl x).length ≠ 1 ∧ (tl x).length ≠ 2) : numOf x = none := by unfold numOf numOfL; rw [if_pos h]
theorem num_sign {x : Str} {c : Nat} (hc : c ∈ tl x) (h : c < 48 ∨ 57 < c) : numOf x = none := by
  unfold numOf numOfL
  split
  · rfl
  · rw [if_pos (List.any_eq_true.mpr ⟨c, hc, by simpa using h⟩)]
theorem num_zero {x : Str} (h : (tl x).length = 2 ∧ (tl x).head? = some 48) : numOf x = none := by
  unfold numOf numOfL
  split
  · rfl
  · split
    · rfl
    · first | rfl | rw [if_pos h]
theorem at_last {α : Type} {xs : List α} {c : α} (h : xs.getLast? = some c) : atI xs (-1) = some c := by
  have hne : xs ≠ [] := fun q => by subst q; cases h
  have hp := List.length_pos_iff.mpr hne
  have e : ixN xs.length (-1) = some (xs.length - 1) := by
    unfold ixN
    rw [if_neg (by decide), if_pos (by omega)]
    congr 1
    omega
  unfold atI
  rw [e, Option.bind_some, ← List.getLast?_eq_getElem?]
  exact h
end Fh

set_option Elab.async false
set_option linter.all false
set_option maxRecDepth 100000
set_option maxHeartbeats 4000000
namespace Fh
open PySem PySem.Spec PyProof.Rows L2 TL
local macro_rules | `(tactic| walk_at "side") => `(tactic| first
  | assumption | decide | omega
  | exact ⟨by decide, by decide⟩ | exact ⟨by omega, by omega⟩ | exact Or.inl ⟨by omega, by omega⟩ | exact Or.inr ⟨by omega, by omega⟩
  | exact ⟨by decide, by decide, by decide⟩ | exact sz (by simp) | exact szl (by simp) | rfl)
local macro_rules | `(tactic| walk_at "ev") => `(tactic| first
  | exact ev_int
  | exact ev_bl
  | exact ev_str
  | exact ev_non
  | exact ev_dat rfl
  | exact ev_bor rfl
  | exact (ev_bor rfl).nw
  | exact ev_own rfl
  | exact (ev_bor rfl).sc
  | exact (ev_bor rfl).scB
  | exact (ev_bor rfl).scS
  | exact (ev_bor rfl).scN
  | (apply ev_addI; walk_at "ev"; walk_at "ev")
  | (apply ev_subI; walk_at "ev"; walk_at "ev")
  | (apply ev_ltI; walk_at "ev"; walk_at "ev")
  | (apply ev_leI; walk_at "ev"; walk_at "ev")
  | (apply ev_gtI; walk_at "ev"; walk_at "ev")
  | (apply ev_geI; walk_at "ev"; walk_at "ev")
  | (apply ev_eqI; walk_at "ev"; walk_at "ev")
  | (apply ev_neI; walk_at "ev"; walk_at "ev")
  | (apply ev_eqS; walk_at "ev"; walk_at "ev")
  | (apply ev_neS; walk_at "ev"; walk_at "ev")
  | (apply ev_eqL; walk_at "ev"; walk_at "ev")
  | (apply ev_neL; walk_at "ev"; walk_at "ev")
  | (apply ev_max2; walk_at "ev"; walk_at "ev")
  | (apply ev_min2; walk_at "ev"; walk_at "ev")
  | (apply ev_mulI; walk_at "ev"; walk_at "ev"; walk_at "side")
  | (apply ev_divI; walk_at "ev"; walk_at "ev"; walk_at "side")
  | (apply ev_modI; walk_at "ev"; walk_at "ev"; walk_at "side")
  | (apply ev_powI; walk_at "ev"; walk_at "ev"; walk_at "side")
  | (apply ev_negI; walk_at "ev")
  | (apply ev_abs; walk_at "ev")
  | (apply ev_intc; walk_at "ev")
  | (apply ev_lenM; walk_at "ev")
  | (apply ev_lenTM; walk_at "ev")
  | (apply ev_len; walk_at "ev")
  | (apply ev_lenT; walk_at "ev")
  | (apply ev_sum; walk_at "ev")
  | (apply ev_notV; walk_at "ev")
  | (apply ev_tupI; walk_at "ev")
  | (apply ev_is; walk_at "ev"; walk_at "ev"; rfl)
  | (apply ev_isN; walk_at "ev"; walk_at "ev"; rfl)
  | (apply ev_ixI; walk_at "ev"; walk_at "ev"; walk_at "side"; walk_at "side")
  | (apply ev_ixIT; walk_at "ev"; walk_at "ev"; walk_at "side"; walk_at "side")
  | (apply ev_andV; walk_at "ev"; (intro _; walk_at "ev"))
  | (apply ev_orV; walk_at "ev"; (intro _; walk_at "ev"))
  | (apply ev_tup; walk_at "ed"; walk_at "side")
  | exact ev_nil
  | (apply ev_lst; walk_at "ed"; walk_at "side")
  | (apply ev_isi; walk_at "ev"; rfl; decide +kernel))
local macro_rules | `(tactic| walk_at "ea") => `(tactic| first
  | exact ea_nil
  | (apply ea_cons; walk_at "ev"; walk_at "ea"))
local macro_rules | `(tactic| walk_at "ed") => `(tactic| first
  | exact ed_nil
  | (apply ed_cons; walk_at "ev"; walk_at "ed"))
local macro_rules | `(tactic| walk_at "et") => `(tactic| first
  | exact et_yes
  | (apply et_and; walk_at "et"; (intro _; walk_at "et"))
  | (apply et_or; walk_at "et"; (intro _; walk_at "et"))
  | (apply et_not; walk_at "et")
  | (refine et_test (m := .now) ?_; walk_at "ev")
  | (refine et_B (m := .now) ?_; walk_at "ev"))
local macro_rules | `(tactic| walk_at "asg") => `(tactic| (first
  | (refine run_seq ?_; apply run_asg; walk_at "ev"; dsimp only [List.set])
  | (apply run_asg; walk_at "ev"; dsimp only [List.set])))
local macro_rules | `(tactic| walk_at "ev") => `(tactic| first
  | (apply ev_ixT; walk_at "ev"; walk_at "ev"; rfl)
  | (apply ev_ixL; walk_at "ev"; walk_at "ev"; rfl)
  | (apply ev_cat; walk_at "ev"; walk_at "ev"; walk_at "side")
  | (apply ev_catT; walk_at "ev"; walk_at "ev"; walk_at "side"))
section
variable {P : Program} {w : World} {K : PySem.W.Frag} {mg : Str → Option Value} {base : Heap}
theorem evo_to {xs : List D} {n : Nat} {te tl : TE} {e : En} (h : Ev K .dat te e (.lst xs)) (hl : Ev K .now tl e (.int (n : Nat))) : Ev K .dat (tSl (rSlU K) te tNoPart (tPart tl)) e (.lst (xs.take n)) := (evo_slL (lo := none) (hi := some (n : Nat)) h es_no (es_some hl)).dat.is (by show D.lst (cut xs none (some ((n : Nat) : Int))) = _; rw [cut_to])
theorem evo_from {xs : List D} {n : Nat} {te tl : TE} {e : En} (h : Ev K .dat te e (.lst xs)) (hl : Ev K .now tl e (.int (n : Nat))) : Ev K .dat (tSl (rSlU K) te (tPart tl) tNoPart) e (.lst (xs.drop n)) := (evo_slL (lo := some (n : Nat)) (hi := none) h (es_some hl) es_no).dat.is (by show D.lst (cut xs (some ((n : Nat) : Int)) none) = _; rw [cut_from])
theorem menu_str {l : List Str} {k : Int} (h0 : 0 ≤ k) (h1 : k < l.length) : ∃ x ∈ l, atI (l.map D.str) k = some (.str x) := by
  have hk : k.toNat < l.length := by omega
  exact ⟨l[k.toNat], List.getElem_mem hk, at_nat h0 (by rw [List.getElem?_map, List.getElem?_eq_getElem hk]; rfl)⟩
abbrev spBw (K : PySem.W.Frag) : Sp := SpR K [.dat, .dat, .dat] (fun a : Mv × List Int × Int => [strsD a.1.words, rowD a.2.1, .int a.2.2]) (fun a => a.1.ok ∧ 0 ≤ a.2.2 ∧ a.2.2 + 2 < (a.2.1.length : Nat)) (fun a d => ∃ ws, BadW ws ∧ d = strsD ws)
theorem df_bw (T : Tx K mg w) : Df P w K mg base "_law_bad_words" 1 [] (spBw K) := by
  refine T.d_l_bad_words.df sc_l_bad_words rfl (by decide) (fun _ _ _ _ _ _ us hl => match us, hl with | [_, _, _], _ => rfl) ?_
  intro f cdv A outer s H E hr
  refine ⟨rd_l_bad_words K, tm_l_bad_words T hr, ?_⟩
  rintro ⟨m, ps, st⟩ ⟨hm, h0, h1⟩
  simp only at hm h0 h1
  unfold rd_l_bad_words
  show Run K (lift E) _ [.dat (strsD m.words), .dat (rowD ps), .dat (.int st), .no, .no, .no, .no] _
  have hwl : m.words.length = m.ns.length + 1 := by simp [Mv.words]
  have hl4 := mv_len hm
  have hlen : ∀ {m1 : Md} (e : En), e[0]? = some (.dat (strsD m.words)) → Ev K m1 (tCB (rLenU K) (tCons (tVar 0) tNil)) e (.int (m.words.length : Nat)) := fun e h => ev_lenM (as := m.words) (f := D.str) (ev_dat h)
  refine run_seq (run_asg (d := .int (nth ps st % 8)) (by walk_at "ev") ?_)
  dsimp only [List.set]
  obtain ⟨a, ha⟩ : ∃ a : Nat, (a : Int) = nth ps (st + 1) % ((m.words.length : Nat) + 1) := ⟨(nth ps (st + 1) % ((m.words.length : Nat) + 1)).toNat, by have := Int.emod_nonneg (nth ps (st + 1)) (show ((m.words.length : Nat) + 1 : Int) ≠ 0 by omega); omega⟩
  have ha2 : a ≤ m.words.length := by have := Int.emod_lt_of_pos (nth ps (st + 1)) (show (0 : Int) < (m.words.length : Nat) + 1 by omega); omega
  refine run_seq (run_asg (d := .int (a : Nat)) ((ev_modI (i := nth ps (st + 1)) (j := (m.words.length : Nat) + 1) (by walk_at "ev") (ev_addI (hlen _ rfl) ev_int) (by omega)).is (by rw [ha])) ?_)
  dsimp only [List.set]
  obtain ⟨way, hway⟩ : ∃ way, way = nth ps st % 8 := ⟨_, rfl⟩
  rw [← hway]
  have mapE : ∀ (xs ys : List Str) (x : Str), D.lst (xs.map D.str ++ [D.str x] ++ ys.map D.str) = strsD (xs ++ [x] ++ ys) := fun xs ys x => by simp [strsD]
  refine run_seq (run_ifD (p := way = 0) (by walk_at "et") (fun h => ?_) (fun _ => run_next ?_))
  · refine run_ret (ev_cat (ev_cat (evo_to (ev_dat rfl) (ev_dat rfl)) (by walk_at "ev") (sz (by simp; omega))) (evo_from (ev_dat rfl) (ev_dat rfl)) (sz (by simp; omega))) ⟨_, bad_ins hm ha2 okWord_empty (by decide +kernel) (.inr trivial), ?_⟩
    rw [← List.map_take, ← List.map_drop]
    exact mapE _ _ _
  refine run_seq (run_ifD (p := way = 1) (by walk_at "et") (fun h => ?_) (fun _ => run_next ?_))
  · obtain ⟨n, hn⟩ : ∃ n : Nat, (n : Int) = nth ps (st + 2) % 100 := ⟨(nth ps (st + 2) % 100).toNat, by omega⟩
    have hn2 : n < 100 := by omega
    refine run_ret (ev_cat (ys := (m.words.map D.str).drop a) (ev_cat (ys := [D.str (nstr n)]) (evo_to (ev_dat rfl) (ev_dat rfl)) (ev_lst (ed_cons (ev_strI (i := (n : Nat)) ((ev_modI (i := nth ps (st + 2)) (j := 100) (by walk_at "ev") ev_int (by decide)).is (by rw [hn])) (by
      have h0 : (Int.natAbs (n : Int)) ≤ 99 := by omega
      exact Nat.lt_of_le_of_lt (Nat.log2_le_self _) (by omega))) ed_nil) (by walk_at "side")) (sz (by simp; omega))) (evo_from (ev_dat rfl) (ev_dat rfl)) (sz (by simp; omega))) ⟨_, bad_ins hm ha2 (okWord_nstr hn2) (arity_nstr n) (.inr trivial), ?_⟩
    rw [← List.map_take, ← List.map_drop]
    exact mapE _ _ _
  refine run_seq (run_ifD (p := way = 2) (by walk_at "et") (fun h => ?_) (fun _ => run_next ?_))
  · obtain ⟨c, hc⟩ : ∃ c : Nat, c = a % m.words.length := ⟨_, rfl⟩
    have hc2 : c < m.words.length := by rw [hc]; exact Nat.mod_lt _ (by omega)
    refine run_seq (run_asg (d := .int (c : Nat)) ((ev_modI (i := (a : Nat)) (j := (m.words.length : Nat)) (by walk_at "ev") (hlen _ rfl) (by omega)).is (by rw [hc]; simp)) ?_)
    dsimp only [List.set]
    refine run_ret (ev_cat (evo_to (ev_dat rfl) (ev_dat rfl)) (evo_from (n := c + 1) (ev_dat rfl) ((ev_addI (ev_dat rfl) ev_int).is (by simp))) (sz (by simp; omega))) ⟨_, bad_out hm hc2, ?_⟩
    simp [strsD]
  refine run_seq (run_ifD (p := way = 3) (by walk_at "et") (fun h => ?_) (fun _ => run_next ?_))
  · obtain ⟨o1, ho1⟩ : ∃ o1 : List Str, o1 = (["Enter", "PASS", "swaps", "pas", "move", "down", "settle", "", "enter_", "0"] : List Str) := ⟨_, rfl⟩
    refine run_seq (run_asg (d := .lst (o1.map D.str)) (by rw [ho1]; walk_at "ev") ?_)
    dsimp only [List.set]
    obtain ⟨o2, ho2⟩ : ∃ o2 : List Str, o2 = (["enter", "pass", "swap"] : List Str).filter fun x => decide (x ≠ m.w) := ⟨_, rfl⟩
    have ho2l : o2.length ≤ 3 := by rw [ho2]; exact List.length_filter_le _ _
    refine run_seq (run_asg (d := .lst ((o1 ++ o2).map D.str)) ((ev_cat (ys := o2.map D.str) (ev_dat rfl) ?_ (sz (by rw [List.length_map, List.length_map, ho1]; simp; omega))).is (by rw [List.map_append])) ?_)
    · refine ((ev_lcO (m := .dat) (xs := (["enter", "pass", "swap"] : List Str).map D.str) (fun d => match d with | .str x => if x ≠ m.w then some (D.str x) else none | _ => none) (ei_lst (fun z => nomatch z) (by walk_at "ev")) (sz (by simp)) ?_).dat).is ?_
      · intro i d hd
        rw [List.getElem?_map] at hd
        cases hx : (["enter", "pass", "swap"] : List Str)[i]? with
        | none => rw [hx] at hd; cases hd
        | some x =>
          rw [hx] at hd
          cases hd
          refine ⟨_, tg_dat, ?_⟩
          have hv : EvT K (tTest (tOp (rNeU K) (tVar 5) (tOp (rIx K) (tVar 0) (tC (.int 0))))) [.dat (strsD m.words), .dat (rowD ps), .dat (.int st), .dat (.int way), .dat (.int (a : Nat)), .dat (.str x), .dat (.lst (o1.map D.str))] (decide (x ≠ m.w)) := et_test (m := .now) (ev_neS (ev_dat rfl) (ev_ixL (ev_dat rfl) ev_int (atI_nat (j := 0) rfl)))
          by_cases hq : x = m.w
          · exact .inr ⟨hv.is (by simp [hq]), by simp [hq]⟩
          · exact .inl ⟨_, hv.is (by simp [hq]), by simp [hq], ev_dat rfl⟩
      · show D.lst _ = D.lst _
        congr 1
        rw [ho2, List.filterMap_map]
        have : ∀ l : List Str, l.filterMap ((fun d => match d with | .str x => if x ≠ m.w then some (D.str x) else none | _ => none) ∘ D.str) = (l.filter fun x => decide (x ≠ m.w)).map D.str := by
          intro l
          induction l with
          | nil => rfl
          | cons x l ih =>
            by_cases hq : x = m.w
            · simp [hq] at ih ⊢; exact ih
            · simp [hq] at ih ⊢; exact ih
        exact this _
    dsimp only [List.set]
    have hall : ∀ x ∈ o1 ++ o2, okWord x ∧ x ≠ m.w := by
      intro x hx
      rcases List.mem_append.mp hx with q | q
      · rw [ho1] at q
        refine ⟨?_, fun z => ?_⟩
        · have : ∀ x ∈ (["Enter", "PASS", "swaps", "pas", "move", "down", "settle", "", "enter_", "0"] : List Str), (decide (10 ∉ tl x) && (decide (32 ∉ tl x) && decide ((tl x).length ≤ 8))) = true := by decide +kernel
          have := this x q
          simp only [Bool.and_eq_true, decide_eq_true_eq] at this
          exact ⟨⟨this.1, this.2.1⟩, this.2.2⟩
        · have : ∀ x ∈ (["Enter", "PASS", "swaps", "pas", "move", "down", "settle", "", "enter_", "0"] : List Str), arity x = none := by decide +kernel
          have := this x q
          rw [z, hm.1] at this
          cases this
      · rw [ho2] at q
        obtain ⟨q1, q2⟩ := List.mem_filter.mp q
        refine ⟨?_, by simpa using q2⟩
        have : ∀ x ∈ (["enter", "pass", "swap"] : List Str), (decide (10 ∉ tl x) && (decide (32 ∉ tl x) && decide ((tl x).length ≤ 8))) = true := by decide +kernel
        have := this x q1
        simp only [Bool.and_eq_true, decide_eq_true_eq] at this
        exact ⟨⟨this.1, this.2.1⟩, this.2.2⟩
    have hol : 0 < (o1 ++ o2).length := by rw [List.length_append, ho1]; simp; omega
    have hk1 := Int.emod_nonneg (nth ps (st + 2)) (show ((o1 ++ o2).length : Int) ≠ 0 by omega)
    have hk2 := Int.emod_lt_of_pos (nth ps (st + 2)) (show (0 : Int) < ((o1 ++ o2).length : Nat) by omega)
    obtain ⟨x, hx, hax⟩ := menu_str (l := o1 ++ o2) hk1 hk2
    refine run_ret (ev_cat (xs := [D.str x]) (ys := (m.words.map D.str).drop 1) (ev_lst (ed_cons (ev_ixL (ev_dat rfl) (ev_modI (i := nth ps (st + 2)) (j := ((o1 ++ o2).length : Nat)) (by walk_at "ev") (ev_lenM (as := o1 ++ o2) (f := D.str) (ev_dat rfl)) (by omega)) hax) ed_nil) (by walk_at "side")) (evo_from (n := 1) (ev_dat rfl) ev_int) (sz (by simp; omega))) ⟨_, bad_first hm (hall x hx).1 (hall x hx).2, ?_⟩
    simp [strsD, Mv.words]
  obtain ⟨c, hc⟩ : ∃ c : Nat, c = 1 + a % (m.words.length - 1) := ⟨_, rfl⟩
  have hc2 : 1 ≤ c ∧ c < m.words.length := by
    have := Nat.mod_lt a (show 0 < m.words.length - 1 by omega)
    omega
  refine run_seq (run_asg (d := .int (c : Nat)) ((ev_addI (i := 1) ev_int (ev_modI (i := (a : Nat)) (j := (m.words.length : Nat) - 1) (by walk_at "ev") (ev_subI (hlen _ rfl) ev_int) (by omega))).is ?_) ?_)
  · rw [hc]
    congr 1
    have : ((m.words.length : Nat) : Int) - 1 = ((m.words.length - 1 : Nat) : Int) := by omega
    rw [this]
    omega
  dsimp only [List.set]
  obtain ⟨n, hn⟩ : ∃ n, m.ns[c - 1]? = some n := ⟨_, List.getElem?_eq_getElem (by omega)⟩
  have hn2 := hm.2 n (List.mem_of_getElem? hn)
  have hwc : m.words[c]? = some (nstr n) := by
    obtain ⟨j, rfl⟩ : ∃ j, c = j + 1 := ⟨c - 1, by omega⟩
    simp only [Nat.add_sub_cancel] at hn
    simp [Mv.words, hn]
  refine run_seq (run_asg (d := .str (nstr n)) (ev_ixL (ev_dat rfl) (ev_dat rfl) (atI_nat (by rw [List.getElem?_map, hwc]; rfl))) ?_)
  dsimp only [List.set]
  obtain ⟨l, hl⟩ : ∃ l, (tl (nstr n)).getLast? = some l := by
    have hne : tl (nstr n) ≠ [] := fun q => nstr_ne n (tl_nil q)
    exact ⟨_, List.getLast?_eq_some_getLast hne⟩
  have hld : 48 ≤ l ∧ l ≤ 57 := by
    have h1 : l ∈ tl (nstr n) := List.mem_of_getLast? hl
    unfold nstr at h1
    rw [tl_num] at h1
    exact numL_digits n l h1
  have hnl := nstr_len hn2
  have hnf := nstr_free n
  have hnp : 1 ≤ (tl (nstr n)).length := List.length_pos_iff.mpr fun q => nstr_ne n (tl_nil q)
  have hlast : ∀ (e : En), e[5]? = some (.dat (.str (nstr n))) → Ev K .dat (tOp (rPlus K) (tC (.str "0")) (tOp (rIx K) (tVar 5) (tUn (rU fun i => .int (-i)) (tC (.int 1))))) e (.str (S [48, l])) := fun e he =>
    (ev_catS (x := "0") (y := ⟨#[l]⟩) ev_str (ev_ixS (ev_dat he) (ev_negI ev_int) (by rw [len_tl]; exact sz (by show (tl (nstr n)).length ≤ _; omega)) (at_last hl)) (sz (by show 1 + 1 ≤ 100000; decide))).is (by
      congr 1)
  have happ : ∀ (e : En) (z : Str), e[5]? = some (.dat (.str (nstr n))) → z.length ≤ 10 → Ev K .dat (tOp (rPlus K) (tVar 5) (tC (.str z))) e (.str (nstr n ++ z)) := fun e z he hz => ev_catS (ev_dat he) ev_str (sz (by rw [len_tl]; show (tl (nstr n)).length + _ ≤ _; omega))
  have hnl2 : (nstr n).length ≤ 2 := by rw [len_tl]; exact hnl
  have hpre : ∀ (e : En) (z : Str), e[5]? = some (.dat (.str (nstr n))) → z.length ≤ 10 → Ev K .dat (tOp (rPlus K) (tC (.str z)) (tVar 5)) e (.str (z ++ nstr n)) := fun e z he hz => ev_catS ev_str (ev_dat he) (sz (by omega))
  obtain ⟨o1, ho1⟩ : ∃ o1 : List Str, o1 = [S [48, l], S [48, l], S [48, l], "-" ++ nstr n, "+" ++ nstr n, nstr n ++ "00", nstr n ++ "."] := ⟨_, rfl⟩
  refine run_seq (run_asg (d := .lst (o1.map D.str)) (by rw [ho1]; exact ev_lst (ed_cons (hlast _ rfl) (ed_cons (hlast _ rfl) (ed_cons (hlast _ rfl) (ed_cons (hpre _ _ rfl (by decide)) (ed_cons (hpre _ _ rfl (by decide)) (ed_cons (happ _ _ rfl (by decide)) (ed_cons (happ _ _ rfl (by decide)) ed_nil))))))) (by walk_at "side")) ?_)
  dsimp only [List.set]
  obtain ⟨o2, ho2⟩ : ∃ o2 : List Str, o2 = ([nstr n ++ "_0", "", "x", "1e1", "0x1"] : List Str) := ⟨_, rfl⟩
  refine run_seq (run_asg (d := .lst ((o1 ++ o2).map D.str)) ((ev_cat (ys := o2.map D.str) (ev_dat rfl) (by rw [ho2]; exact ev_lst (ed_cons (happ _ _ rfl (by decide)) (by walk_at "ed")) (by walk_at "side")) (sz (by rw [List.length_map, List.length_map, ho1, ho2]; simp))).is (by rw [List.map_append])) ?_)
  dsimp only [List.set]
  have tlA : ∀ z : Str, tl (nstr n ++ z) = tl (nstr n) ++ tl z := fun z => tl_append _ _
  have tlB : ∀ z : Str, tl (z ++ nstr n) = tl z ++ tl (nstr n) := fun z => tl_append _ _
  have okA : ∀ z : Str, (10 ∉ tl z ∧ 32 ∉ tl z) → (tl z).length ≤ 3 → okWord (nstr n ++ z) := fun z hz hl => ⟨⟨by rw [tlA]; exact fun q => (List.mem_append.mp q).elim hnf.1 hz.1, by rw [tlA]; exact fun q => (List.mem_append.mp q).elim hnf.2 hz.2⟩, by rw [tlA, List.length_append]; omega⟩
  have okB : ∀ z : Str, (10 ∉ tl z ∧ 32 ∉ tl z) → (tl z).length ≤ 3 → okWord (z ++ nstr n) := fun z hz hl => ⟨⟨by rw [tlB]; exact fun q => (List.mem_append.mp q).elim hz.1 hnf.1, by rw [tlB]; exact fun q => (List.mem_append.mp q).elim hz.2 hnf.2⟩, by rw [tlB, List.length_append]; omega⟩
  have hall : ∀ x ∈ o1 ++ o2, okWord x ∧ numOf x = none := by
    intro x hx
    rw [ho1, ho2] at hx
    simp only [List.cons_append, List.nil_append, List.mem_cons, List.not_mem_nil, or_false] at hx
    have z48 : okWord (S [48, l]) ∧ numOf (S [48, l]) = none := ⟨⟨⟨by rw [tl_S]; simp; omega, by rw [tl_S]; simp; omega⟩, by rw [tl_S]; simp⟩, num_zero (by rw [tl_S]; exact ⟨rfl, rfl⟩)⟩
    rcases hx with q | q | q | q | q | q | q | q | q | q | q | q
    · rw [q]; exact z48
    · rw [q]; exact z48
    · rw [q]; exact z48
    · rw [q]; exact ⟨okB _ ⟨by decide +kernel, by decide +kernel⟩ (by decide +kernel), num_sign (c := 45) (by rw [tlB]; exact List.mem_append_left _ (by decide +kernel)) (by decide)⟩
    · rw [q]; exact ⟨okB _ ⟨by decide +kernel, by decide +kernel⟩ (by decide +kernel), num_sign (c := 43) (by rw [tlB]; exact List.mem_append_left _ (by decide +kernel)) (by decide)⟩
    · rw [q]; exact ⟨okA _ ⟨by decide +kernel, by decide +kernel⟩ (by decide +kernel), num_len (by
        have e2 : (tl ("00" : Str)).length = 2 := by decide +kernel
        rw [tlA, List.length_append, e2]; omega)⟩
    · rw [q]; exact ⟨okA _ ⟨by decide +kernel, by decide +kernel⟩ (by decide +kernel), num_sign (c := 46) (by rw [tlA]; exact List.mem_append_right _ (by decide +kernel)) (by decide)⟩
    · rw [q]; exact ⟨okA _ ⟨by decide +kernel, by decide +kernel⟩ (by decide +kernel), num_sign (c := 95) (by rw [tlA]; exact List.mem_append_right _ (by decide +kernel)) (by decide)⟩
    · rw [q]; exact ⟨okWord_empty, num_len (by decide +kernel)⟩
    · rw [q]; exact ⟨⟨⟨by decide +kernel, by decide +kernel⟩, by decide +kernel⟩, num_sign (c := 120) (by decide +kernel) (by decide)⟩
    · rw [q]; exact ⟨⟨⟨by decide +kernel, by decide +kernel⟩, by decide +kernel⟩, num_sign (c := 101) (by decide +kernel) (by decide)⟩
    · rw [q]; exact ⟨⟨⟨by decide +kernel, by decide +kernel⟩, by decide +kernel⟩, num_sign (c := 120) (by decide +kernel) (by decide)⟩
  have hol : (o1 ++ o2).length = 12 := by rw [List.length_append, ho1, ho2]; rfl
  obtain ⟨x, hx, hax⟩ := menu_str (l := o1 ++ o2) (k := nth ps (st + 2) % 12) (by omega) (by rw [hol]; omega)
  refine run_ret (ev_cat (ys := (m.words.map D.str).drop (c + 1)) (ev_cat (ys := [D.str x]) (evo_to (ev_dat rfl) (ev_dat rfl)) (ev_lst (ed_cons (ev_ixL (ev_dat rfl) (by walk_at "ev") hax) ed_nil) (by walk_at "side")) (sz (by simp; omega))) (evo_from (n := c + 1) (ev_dat rfl) ((ev_addI (ev_dat rfl) ev_int).is (by simp))) (sz (by simp; omega))) ⟨_, bad_rep hm hc2.1 hc2.2 (hall x hx).1 (hall x hx).2, ?_⟩
  rw [← List.map_take, ← List.map_drop]
  exact mapE _ _ _
end
end Fh

set_option Elab.async false
set_option linter.all false
set_option maxRecDepth 100000
set_option maxHeartbeats 4000000
namespace Fh
open PySem PySem.Spec PyProof.Rows L2 TL
local macro_rules | `(tactic| walk_at "side") => `(tactic| first
  | assumption | decide | omega
  | exact ⟨by decide, by decide⟩ | exact ⟨by omega, by omega⟩ | exact Or.inl ⟨by omega, by omega⟩ | exact Or.inr ⟨by omega, by omega⟩
  | exact ⟨by decide, by decide, by decide⟩ | exact sz (by simp) | exact szl (by simp) | rfl)
local macro_rules | `(tactic| walk_at "ev") => `(tactic| first
  | exact ev_int
  | exact ev_bl
  | exact ev_str
  | exact ev_non
  | exact ev_dat rfl
  | exact ev_bor rfl
  | exact (ev_bor rfl).nw
  | exact ev_own rfl
  | exact (ev_bor rfl).sc
  | exact (ev_bor rfl).scB
  | exact (ev_bor rfl).scS
  | exact (ev_bor rfl).scN
  | (apply ev_addI; walk_at "ev"; walk_at "ev")
  | (apply ev_subI; walk_at "ev"; walk_at "ev")
  | (apply ev_ltI; walk_at "ev"; walk_at "ev")
  | (apply ev_leI; walk_at "ev"; walk_at "ev")
  | (apply ev_gtI; walk_at "ev"; walk_at "ev")
  | (apply ev_geI; walk_at "ev"; walk_at "ev")
  | (apply ev_eqI; walk_at "ev"; walk_at "ev")
  | (apply ev_neI; walk_at "ev"; walk_at "ev")
  | (apply ev_eqS; walk_at "ev"; walk_at "ev")
  | (apply ev_neS; walk_at "ev"; walk_at "ev")
  | (apply ev_eqL; walk_at "ev"; walk_at "ev")
  | (apply ev_neL; walk_at "ev"; walk_at "ev")
  | (apply ev_max2; walk_at "ev"; walk_at "ev")
  | (apply ev_min2; walk_at "ev"; walk_at "ev")
  | (apply ev_mulI; walk_at "ev"; walk_at "ev"; walk_at "side")
  | (apply ev_divI; walk_at "ev"; walk_at "ev"; walk_at "side")
  | (apply ev_modI; walk_at "ev"; walk_at "ev"; walk_at "side")
  | (apply ev_powI; walk_at "ev"; walk_at "ev"; walk_at "side")
  | (apply ev_negI; walk_at "ev")
  | (apply ev_abs; walk_at "ev")
  | (apply ev_intc; walk_at "ev")
  | (apply ev_lenM; walk_at "ev")
  | (apply ev_lenTM; walk_at "ev")
  | (apply ev_len; walk_at "ev")
  | (apply ev_lenT; walk_at "ev")
  | (apply ev_sum; walk_at "ev")
  | (apply ev_notV; walk_at "ev")
  | (apply ev_tupI; walk_at "ev")
  | (apply ev_is; walk_at "ev"; walk_at "ev"; rfl)
  | (apply ev_isN; walk_at "ev"; walk_at "ev"; rfl)
  | (apply ev_ixI; walk_at "ev"; walk_at "ev"; walk_at "side"; walk_at "side")
  | (apply ev_ixIT; walk_at "ev"; walk_at "ev"; walk_at "side"; walk_at "side")
  | (apply ev_andV; walk_at "ev"; (intro _; walk_at "ev"))
  | (apply ev_orV; walk_at "ev"; (intro _; walk_at "ev"))
  | (apply ev_tup; walk_at "ed"; walk_at "side")
  | exact ev_nil
  | (apply ev_lst; walk_at "ed"; walk_at "side")
  | (apply ev_isi; walk_at "ev"; rfl; decide +kernel))
local macro_rules | `(tactic| walk_at "ea") => `(tactic| first
  | exact ea_nil
  | (apply ea_cons; walk_at "ev"; walk_at "ea"))
local macro_rules | `(tactic| walk_at "ed") => `(tactic| first
  | exact ed_nil
  | (apply ed_cons; walk_at "ev"; walk_at "ed"))
local macro_rules | `(tactic| walk_at "et") => `(tactic| first
  | exact et_yes
  | (apply et_and; walk_at "et"; (intro _; walk_at "et"))
  | (apply et_or; walk_at "et"; (intro _; walk_at "et"))
  | (apply et_not; walk_at "et")
  | (refine et_test (m := .now) ?_; walk_at "ev")
  | (refine et_B (m := .now) ?_; walk_at "ev"))
local macro_rules | `(tactic| walk_at "asg") => `(tactic| (first
  | (refine run_seq ?_; apply run_asg; walk_at "ev"; dsimp only [List.set])
  | (apply run_asg; walk_at "ev"; dsimp only [List.set])))
local macro_rules | `(tactic| walk_at "ev") => `(tactic| first
  | (apply ev_ixT; walk_at "ev"; walk_at "ev"; rfl)
  | (apply ev_ixL; walk_at "ev"; walk_at "ev"; rfl)
  | (apply ev_cat; walk_at "ev"; walk_at "ev"; walk_at "side")
  | (apply ev_catT; walk_at "ev"; walk_at "ev"; walk_at "side"))
section
variable {K : PySem.W.Frag} {W : WX} {e : En} {d : D} {xs : List D} {te ta tb : TE} {tl : TA} {p : D → Prop} {prs : List D → Prop} {pe : Addr → Option (List (Str × D)) → Prop}
theorem evx_p (h : EvP K te e p) : EvX K W te e p pe := fun B T0 σ H T s Q q _ => h B T0 σ H T s Q fun d v H' T' hp g i => q d v H' T' hp g i
theorem evx_lst (h : EvAX K W tl e prs pe) (hl : ∀ ds, prs ds → ds.length ≤ sizeLine) : EvX K W (tLst tl) e (fun d => ∃ ds, prs ds ∧ d = .lst ds) pe := fun B T0 σ H T s Q q qx =>
  h B T0 σ H T s _ (fun ds vs H1 T1 p g1 i1 => ⟨by rw [i1.length]; exact hl ds p, fun a ha => by
    have g2 := Gr.new (o := .lst vs) g1.s ha
    exact q (.lst ds) _ _ _ ⟨ds, p, rfl⟩ (g1.trans g2) (.lst upd_same (Iss.mono g2.t _ i1))⟩) qx
theorem evx_catR (ha : Ev K .dat ta e (.lst xs)) (hb : EvX K W tb e (fun d => ∃ ys, prs ys ∧ d = .lst ys) pe) (hz : ∀ ys, prs ys → xs.length + ys.length ≤ sizeLine) : EvX K W (tOp (rPlus K) ta tb) e (fun d => ∃ ys, prs ys ∧ d = .lst (xs ++ ys)) pe := fun B T0 σ H T s Q q qx =>
  ha B T0 σ H T s _ fun x H1 T1 g1 i1 => hb B T0 σ H1 T1 (s.grow g1) _ (fun d y H2 T2 hd g2 i2 => by
    obtain ⟨ys, hy, rfl⟩ := hd
    refine rdo_cat (K := K) (hz ys hy) B H2 T2 x y (((s.grow g1).grow g2).gr.h) g2.s (Is.mono g2.t _ i1) i2 _ fun a H3 T3 g3 n1 n2 ho => ?_
    obtain ⟨u, hu, hi⟩ := ho.give n2
    have g4 : Gr H2 T2 H3 (upd T3 a u) := ⟨g3.h, g3.t.trans (Le.new n2), fun c w z => by
      by_cases hb : c = a
      · subst hb; rw [upd_same] at z; cases z; exact hu
      · rw [upd_ne hb] at z; exact g3.s c w z, fun c w z z' => by
      by_cases hb : c = a
      · subst hb; exact n1
      · rw [upd_ne hb] at z; exact g3.n c w z z'⟩
    exact q _ _ _ _ ⟨ys, hy, rfl⟩ ((g1.trans g2).trans g4) hi) fun C o od H2 T2 p g2 x => qx C o od H2 T2 p (g1.trans g2) x
theorem evx_catL (ha : EvX K W ta e (fun d => ∃ ys, prs ys ∧ d = .lst ys) pe) (hb : Ev K .dat tb e (.lst xs)) (hz : ∀ ys, prs ys → ys.length + xs.length ≤ sizeLine) : EvX K W (tOp (rPlus K) ta tb) e (fun d => ∃ ys, prs ys ∧ d = .lst (ys ++ xs)) pe := fun B T0 σ H T s Q q qx =>
  ha B T0 σ H T s _ (fun d x H1 T1 hd g1 i1 => hb B T0 σ H1 T1 (s.grow g1) _ fun y H2 T2 g2 i2 => by
    obtain ⟨ys, hy, rfl⟩ := hd
    refine rdo_cat (K := K) (hz ys hy) B H2 T2 x y (((s.grow g1).grow g2).gr.h) g2.s (Is.mono g2.t _ i1) i2 _ fun a H3 T3 g3 n1 n2 ho => ?_
    obtain ⟨u, hu, hi⟩ := ho.give n2
    have g4 : Gr H2 T2 H3 (upd T3 a u) := ⟨g3.h, g3.t.trans (Le.new n2), fun c w z => by
      by_cases hb : c = a
      · subst hb; rw [upd_same] at z; cases z; exact hu
      · rw [upd_ne hb] at z; exact g3.s c w z, fun c w z z' => by
      by_cases hb : c = a
      · subst hb; exact n1
      · rw [upd_ne hb] at z; exact g3.n c w z z'⟩
    exact q _ _ _ _ ⟨ys, hy, rfl⟩ ((g1.trans g2).trans g4) hi) qx
end
/-! ### rows, some of them spoilt -/
structure BadRow (ws : List Str) : Prop where
  no : readW ws = none
  ne : ws ≠ []
  ok : ∀ x ∈ ws, okWord x
  ln : ws.length ≤ 6
abbrev Rw := List Str × Bool
structure RowsOk (n : Nat) (rows : List Rw) : Prop where
  len : rows.length ≤ 200
  row : ∀ r ∈ rows, (r.2 = true → ∃ m : Mv, m.ok ∧ r.1 = m.words) ∧ (r.2 = false → BadRow r.1)
  one : (∃ r ∈ rows, r.1 = [("" : Str)]) → n < rows.length
  le : n ≤ rows.length
theorem BadW.row {ws : List Str} (h : BadW ws) : BadRow ws := ⟨h.no, h.ne, h.ok, h.ln⟩
theorem RowsOk.rows {n : Nat} {rows : List Rw} (h : RowsOk n rows) : okRows (rows.map (·.1)) := by
  refine ⟨by rw [List.length_map]; have := h.len; omega, fun r hr => ?_⟩
  obtain ⟨q, hq, rfl⟩ := List.mem_map.mp hr
  obtain ⟨h1, h2⟩ := h.row q hq
  cases hb : q.2 with
  | true =>
    obtain ⟨m, hm, e⟩ := h1 hb
    rw [e]
    exact ⟨hm.clean, Nat.le_trans hm.small.1 (by decide), fun x hx => Nat.le_trans (hm.small.2 x hx) (by decide)⟩
  | false =>
    have b := h2 hb
    exact ⟨⟨b.ne, fun x hx => (b.ok x hx).1⟩, Nat.le_trans b.ln (by decide), fun x hx => Nat.le_trans (b.ok x hx).2 (by decide)⟩
/-- a bad row put in -/
theorem RowsOk.ins {n : Nat} {a b : List Rw} {ws : List Str} (h : RowsOk n (a ++ b)) (hl : (a ++ b).length < 200) (hw : BadRow ws) : RowsOk n (a ++ [(ws, false)] ++ b) := by
  have e : (a ++ [(ws, false)] ++ b).length = (a ++ b).length + 1 := by simp; omega
  refine ⟨by omega, fun r hr => ?_, fun _ => by have := h.le; omega, by have := h.le; omega⟩
  rcases List.mem_append.mp hr with q | q
  · rcases List.mem_append.mp q with q | q
    · exact h.row r (List.mem_append_left _ q)
    · rw [List.mem_singleton.mp q]; exact ⟨(fun z => nomatch z), fun _ => hw⟩
  · exact h.row r (List.mem_append_right _ q)
/-- a row changed for a bad one -/
theorem RowsOk.rep {n : Nat} {a b : List Rw} {r0 : Rw} {ws : List Str} (h : RowsOk n (a ++ [r0] ++ b)) (hw : BadW ws) : RowsOk n (a ++ [(ws, false)] ++ b) := by
  have e : (a ++ [(ws, false)] ++ b).length = (a ++ [r0] ++ b).length := by simp
  refine ⟨by rw [e]; exact h.len, fun r hr => ?_, fun ⟨r, hr, h1⟩ => ?_, by rw [e]; exact h.le⟩
  · rcases List.mem_append.mp hr with q | q
    · rcases List.mem_append.mp q with q | q
      · exact h.row r (List.mem_append_left _ (List.mem_append_left _ q))
      · rw [List.mem_singleton.mp q]; exact ⟨(fun z => nomatch z), fun _ => hw.row⟩
    · exact h.row r (List.mem_append_right _ q)
  · rw [e]
    rcases List.mem_append.mp hr with q | q
    · rcases List.mem_append.mp q with q | q
      · exact h.one ⟨r, List.mem_append_left _ (List.mem_append_left _ q), h1⟩
      · rw [List.mem_singleton.mp q] at h1; exact absurd h1 hw.n1
    · exact h.one ⟨r, List.mem_append_right _ q, h1⟩
theorem badrow1 : BadRow [("" : Str)] := ⟨bad_head (by decide +kernel), by simp, fun x hx => by rw [List.mem_singleton.mp hx]; exact okWord_empty, by decide⟩
theorem badrow2 : BadRow [("" : Str), ("" : Str)] := ⟨bad_head (by decide +kernel), by simp, fun x hx => by
  simp at hx; rw [hx]; exact okWord_empty, by decide⟩
section
variable {P : Program} {w : World} {K : PySem.W.Frag} {mg : Str → Option Value} {base : Heap}
theorem fm_bool (g : Nat → Bool) (F : D → Option D) (hF : ∀ i : Nat, F (.int (0 + (i : Nat))) = if g i = true then some (.int (i : Nat)) else none) : ∀ l : List Nat, (l.map fun i : Nat => D.int (0 + (i : Nat))).filterMap F = ((l.filter g).map fun i : Nat => (i : Int)).map D.int
  | [] => rfl
  | i :: l => by
    have ih := fm_bool g F hF l
    rw [List.map_cons, List.filterMap_cons, List.filter_cons, hF i]
    cases hb : g i with
    | true => simp only [if_true, List.map_cons]; rw [ih]
    | false => simp only [Bool.false_eq_true, if_false]; exact ih
abbrev spCh (K : PySem.W.Frag) : Sp := SpR K [.dat, .dat, .dat] (fun a : Nat × List Rw × List Int × Int => [rowsRD a.2.1, rowD a.2.2.1, .int a.2.2.2]) (fun a => RowsOk a.1 a.2.1 ∧ a.2.1.length < 200 ∧ 0 ≤ a.2.2.2 ∧ a.2.2.2 + 4 < (a.2.2.1.length : Nat))
  (fun a d => ∃ rows, RowsOk a.1 rows ∧ rows.length ≤ a.2.1.length + 1 ∧ (∃ r ∈ rows, r.2 = false) ∧ d = rowsRD rows)
theorem df_ch (T : Tx K mg w) : Df P w K mg base "_law_changed" 2 [] (spCh K) := by
  refine T.d_l_changed.df sc_l_changed rfl (by decide) (fun _ _ _ _ _ _ us hl => match us, hl with | [_, _, _], _ => rfl) ?_
  intro f cdv A outer s H E hr
  refine ⟨rd_l_changed K (spBw K), tm_l_changed T (df_bw T) hr, ?_⟩
  rintro ⟨n, rows, ps, st⟩ ⟨hrw, hrl, h0, h1⟩
  simp only at hrw hrl h0 h1
  unfold rd_l_changed
  show Run K (lift E) _ [.dat (rowsRD rows), .dat (rowD ps), .dat (.int st), .no, .no, .no, .no] _
  have hlen : ∀ {m1 : Md} (e : En), e[0]? = some (.dat (rowsRD rows)) → Ev K m1 (tCB (rLenU K) (tCons (tVar 0) tNil)) e (.int (rows.length : Nat)) := fun e h => ev_lenM (as := rows) (f := rowRD) (ev_dat h)
  refine run_seq (run_asg (d := .int (nth ps st % 6)) (by walk_at "ev") ?_)
  dsimp only [List.set]
  obtain ⟨a, ha⟩ : ∃ a : Nat, (a : Int) = nth ps (st + 1) % ((rows.length : Nat) + 1) := ⟨(nth ps (st + 1) % ((rows.length : Nat) + 1)).toNat, by have := Int.emod_nonneg (nth ps (st + 1)) (show ((rows.length : Nat) + 1 : Int) ≠ 0 by omega); omega⟩
  have ha2 : a ≤ rows.length := by have := Int.emod_lt_of_pos (nth ps (st + 1)) (show (0 : Int) < (rows.length : Nat) + 1 by omega); omega
  refine run_seq (run_asg (d := .int (a : Nat)) ((ev_modI (i := nth ps (st + 1)) (j := (rows.length : Nat) + 1) (by walk_at "ev") (ev_addI (hlen _ rfl) ev_int) (by omega)).is (by rw [ha])) ?_)
  dsimp only [List.set]
  obtain ⟨way, hway⟩ : ∃ way, way = nth ps st % 6 := ⟨_, rfl⟩
  rw [← hway]
  obtain ⟨fine, hfine⟩ : ∃ fine : List Nat, fine = (List.range rows.length).filter fun i => (rows.getD i ([], false)).2 := ⟨_, rfl⟩
  refine run_seq (run_asg (d := .lst ((fine.map fun i : Nat => (i : Int)).map D.int)) ?_ ?_)
  · refine ((ev_lcO (m := .dat) (xs := rgD 0 rows.length) (fun d => match d with | .int x => if (rows.getD x.toNat ([], false)).2 = true then some (D.int x) else none | _ => none) ?_ (by rw [rgD_len]; exact sz (by omega)) ?_).dat).is ?_
    · exact ei_rng1 (m := .dat) (n := (rows.length : Nat)) (ea_cons (hlen _ rfl) ea_nil) (by omega) (by omega)
    · intro i d hd
      obtain ⟨hi, rfl⟩ := get_rg hd
      obtain ⟨r, hr2⟩ : ∃ r, rows[i]? = some r := ⟨_, List.getElem?_eq_getElem hi⟩
      have hgd : rows.getD (0 + (i : Int)).toNat ([], false) = r := by
        rw [show (0 + (i : Int)).toNat = i by omega, List.getD_eq_getElem?_getD, hr2]; rfl
      refine ⟨_, tg_dat, ?_⟩
      have hv : EvT K (tB (tOp (rIx K) (tOp (rIx K) (tVar 0) (tVar 6)) (tC (.int 1)))) [.dat (rowsRD rows), .dat (rowD ps), .dat (.int st), .dat (.int way), .dat (.int (a : Nat)), .no, .dat (.int (0 + (i : Nat)))] r.2 := et_B (m := .now) (ev_ixT (xs := [strsD r.1, .bl r.2]) (ev_ixL (d := rowRD r) (ev_dat rfl) (ev_dat rfl) (atI_at (by rw [List.getElem?_map, hr2]; rfl))) ev_int (atI_nat (j := 1) rfl))
      dsimp only
      rw [hgd]
      cases hb : r.2 with
      | true => exact .inl ⟨_, hv.is hb, by simp, ev_dat rfl⟩
      | false => exact .inr ⟨hv.is hb, by simp⟩
    · show D.lst _ = D.lst _
      congr 1
      rw [hfine]
      exact fm_bool (fun i => (rows.getD i ([], false)).2) _ (fun i => by
        show (if (rows.getD (0 + (i : Int)).toNat ([], false)).2 = true then some (D.int (0 + (i : Nat))) else none) = _
        rw [show (0 + (i : Int)).toNat = i by omega, Int.zero_add]) _
  dsimp only [List.set]
  have tk : ∀ n, (rows.map rowRD).take n = (rows.take n).map rowRD := fun n => by rw [List.map_take]
  have dr : ∀ n, (rows.map rowRD).drop n = (rows.drop n).map rowRD := fun n => by rw [List.map_drop]
  refine run_seq (run_ifD (p := way = 0) (by walk_at "et") (fun h => ?_) (fun _ => run_next ?_))
  · refine run_ret (d := rowsRD (rows.take a ++ [(([("" : Str)], false) : Rw)] ++ rows.drop a)) ((ev_cat (ev_cat (ys := [rowRD ([("" : Str)], false)]) (evo_to (ev_dat rfl) (ev_dat rfl)) (by unfold rowRD strsD; walk_at "ev") (sz (by simp; omega))) (evo_from (ev_dat rfl) (ev_dat rfl)) (sz (by simp; omega))).is (by simp [rowsRD])) ⟨_, RowsOk.ins (by rw [List.take_append_drop]; exact hrw) (by rw [List.take_append_drop]; exact hrl) badrow1, ?_, ⟨_, List.mem_append_left _ (List.mem_append_right _ (List.mem_singleton.mpr rfl)), rfl⟩, rfl⟩
    simp; omega
  refine run_seq (run_ifD (p := way = 1) (by walk_at "et") (fun h => ?_) (fun _ => run_next ?_))
  · refine run_ret (d := rowsRD (rows ++ [(([("" : Str)], false) : Rw)])) ((ev_cat (ys := [rowRD ([("" : Str)], false)]) (ev_dat rfl) (by unfold rowRD strsD; walk_at "ev") (sz (by simp; omega))).is (by simp [rowsRD])) ⟨_, ?_, by simp, ⟨_, List.mem_append_right _ (List.mem_singleton.mpr rfl), rfl⟩, rfl⟩
    have := RowsOk.ins (b := []) (a := rows) (by rw [List.append_nil]; exact hrw) (by rw [List.append_nil]; exact hrl) badrow1
    rwa [List.append_nil] at this
  have hnil : Ev K .now (tLst tNil) [.dat (rowsRD rows), .dat (rowD ps), .dat (.int st), .dat (.int way), .dat (.int (a : Nat)), .dat (.lst ((fine.map fun i : Nat => (i : Int)).map D.int)), .no] (.lst (([] : List Int).map D.int)) := ev_nil
  refine run_seq (run_ifD (p := way = 2 ∨ fine.map (fun i : Nat => (i : Int)) = []) ((et_or (b := decide (way = 2)) (by walk_at "et") fun _ => et_test (m := .now) (ev_eqL (ev_dat rfl) hnil)).is (by rw [← Bool.decide_or])) (fun h => ?_) (fun hf => run_next ?_))
  · refine run_ret (d := rowsRD (rows.take a ++ [(([("" : Str), ("" : Str)], false) : Rw)] ++ rows.drop a)) ((ev_cat (ev_cat (ys := [rowRD ([("" : Str), ("" : Str)], false)]) (evo_to (ev_dat rfl) (ev_dat rfl)) (by unfold rowRD strsD; walk_at "ev") (sz (by simp; omega))) (evo_from (ev_dat rfl) (ev_dat rfl)) (sz (by simp; omega))).is (by simp [rowsRD])) ⟨_, RowsOk.ins (by rw [List.take_append_drop]; exact hrw) (by rw [List.take_append_drop]; exact hrl) badrow2, ?_, ⟨_, List.mem_append_left _ (List.mem_append_right _ (List.mem_singleton.mpr rfl)), rfl⟩, rfl⟩
    simp; omega
  have hfne : fine ≠ [] := fun q => hf (.inr (by rw [q]; rfl))
  have hfl : 0 < fine.length := List.length_pos_iff.mpr hfne
  have hq1 := Int.emod_nonneg (nth ps (st + 1)) (show ((fine.length : Nat) : Int) ≠ 0 by omega)
  have hq2 := Int.emod_lt_of_pos (nth ps (st + 1)) (show (0 : Int) < (fine.length : Nat) by omega)
  obtain ⟨k, hk⟩ : ∃ k : Nat, (k : Int) = nth ps (st + 1) % (fine.length : Nat) := ⟨(nth ps (st + 1) % (fine.length : Nat)).toNat, by omega⟩
  obtain ⟨c, hc⟩ : ∃ c, fine[k]? = some c := ⟨_, List.getElem?_eq_getElem (by omega)⟩
  have hcm : c ∈ fine := List.mem_of_getElem? hc
  rw [hfine] at hcm
  obtain ⟨hc1, hc2⟩ := List.mem_filter.mp hcm
  have hcl : c < rows.length := List.mem_range.mp hc1
  obtain ⟨r, hr2⟩ : ∃ r, rows[c]? = some r := ⟨_, List.getElem?_eq_getElem hcl⟩
  have hrb : r.2 = true := by
    rw [List.getD_eq_getElem?_getD, hr2] at hc2; exact hc2
  obtain ⟨m, hm, hme⟩ := (hrw.row r (List.mem_of_getElem? hr2)).1 hrb
  refine run_seq (run_asg (d := .int (c : Nat)) (ev_ixL (xs := (fine.map fun i : Nat => (i : Int)).map D.int) (ev_dat rfl) ((ev_modI (i := nth ps (st + 1)) (j := (fine.length : Nat)) (by walk_at "ev") ?_ (by omega)).is (by rw [← hk])) (atI_nat (by rw [List.getElem?_map, List.getElem?_map, hc]; rfl))) ?_)
  · have := ev_lenM (K := K) (m := .now) (as := fine.map fun i : Nat => (i : Int)) (f := D.int) (ta := tVar 5) (e := [.dat (rowsRD rows), .dat (rowD ps), .dat (.int st), .dat (.int way), .dat (.int (a : Nat)), .dat (.lst ((fine.map fun i : Nat => (i : Int)).map D.int)), .no]) (ev_dat rfl)
    rwa [List.length_map] at this
  dsimp only [List.set]
  have hsplit : rows = rows.take c ++ [r] ++ rows.drop (c + 1) := by
    have h2 : rows.drop c = r :: rows.drop (c + 1) := by
      have := List.drop_eq_getElem_cons hcl
      rw [List.getElem?_eq_getElem hcl] at hr2
      rw [this, Option.some.inj hr2]
    rw [List.append_assoc, List.singleton_append, ← h2, List.take_append_drop]
  refine run_retX (evx_catL (W := lift E) (pe := fun _ _ => False) (prs := fun l => ∃ ws, BadW ws ∧ l = (rows.map rowRD).take c ++ [rowRD (ws, false)]) ((evx_catR (prs := fun l => ∃ ws, BadW ws ∧ l = [rowRD (ws, false)]) (evo_to (ev_dat rfl) (ev_dat rfl)) ((evx_lst (eax_cons (evx_tup (eax_cons (evx_p (evp_call (out := fun (a : Mv × List Int × Int) d => ∃ ws, BadW ws ∧ d = strsD ws) (m, ps, st + 2) ⟨hm, (show (0 : Int) ≤ st + 2 by omega), (show st + 2 + 2 < (ps.length : Nat) by omega)⟩ (ea_cons (ev_ixT (xs := [strsD r.1, .bl r.2]) (ev_ixL (d := rowRD r) (ev_dat rfl) (ev_dat rfl) (atI_nat (by rw [List.getElem?_map, hr2]; rfl))) ev_int (by rw [hme]; exact atI_nat (j := 0) rfl)) (ea_cons (ev_dat rfl) (ea_cons (ev_addI (ev_dat rfl) ev_int) ea_nil))))) (eax_cons ((evx_of (d := .bl false) ev_bl).imp (fun _ h => h) (fun _ _ h => h)) eax_nil)) ?_) eax_nil) ?_).imp ?_ (fun _ _ h => h)) ?_).imp ?_ (fun _ _ h => h)) (evo_from (n := c + 1) (ev_dat rfl) ((ev_addI (ev_dat rfl) ev_int).is (by simp))) ?_) ?_ (fun _ _ h => h.elim)
  · rintro ds ⟨d1, d2, rfl, _, d3, d4, rfl, _, rfl⟩
    exact sz (by simp)
  · rintro ds ⟨d1, d2, rfl, _, rfl⟩
    exact sz (by simp)
  · rintro d ⟨ds, ⟨d1, d2, rfl, ⟨l2, ⟨d3, d4, rfl, ⟨ws, hw, rfl⟩, d5, d6, rfl, rfl, rfl⟩, rfl⟩, rfl⟩, rfl⟩
    exact ⟨_, ⟨ws, hw, rfl⟩, rfl⟩
  · rintro ys ⟨ws, hw, rfl⟩
    exact sz (by simp; omega)
  · rintro d ⟨ys, ⟨ws, hw, rfl⟩, rfl⟩
    exact ⟨_, ⟨ws, hw, rfl⟩, rfl⟩
  · rintro ys ⟨ws, hw, rfl⟩
    exact sz (by simp; omega)
  · rintro d ⟨ys, ⟨ws, hw, rfl⟩, rfl⟩
    refine ⟨rows.take c ++ [((ws, false) : Rw)] ++ rows.drop (c + 1), RowsOk.rep (r0 := r) (by rw [← hsplit]; exact hrw) hw, ?_, ⟨_, List.mem_append_left _ (List.mem_append_right _ (List.mem_singleton.mpr rfl)), rfl⟩, by simp [rowsRD]⟩
    simp; omega
end
end Fh

set_option Elab.async false
set_option linter.all false
set_option maxRecDepth 100000
set_option maxHeartbeats 4000000
namespace Fh
open PySem PySem.Spec PyProof.Rows L2 TL
local macro_rules | `(tactic| walk_at "side") => `(tactic| first
  | assumption | decide | omega
  | exact ⟨by decide, by decide⟩ | exact ⟨by omega, by omega⟩ | exact Or.inl ⟨by omega, by omega⟩ | exact Or.inr ⟨by omega, by omega⟩
  | exact ⟨by decide, by decide, by decide⟩ | exact sz (by simp) | exact szl (by simp) | rfl)
local macro_rules | `(tactic| walk_at "ev") => `(tactic| first
  | exact ev_int
  | exact ev_bl
  | exact ev_str
  | exact ev_non
  | exact ev_dat rfl
  | exact ev_bor rfl
  | exact (ev_bor rfl).nw
  | exact ev_own rfl
  | exact (ev_bor rfl).sc
  | exact (ev_bor rfl).scB
  | exact (ev_bor rfl).scS
  | exact (ev_bor rfl).scN
  | (apply ev_addI; walk_at "ev"; walk_at "ev")
  | (apply ev_subI; walk_at "ev"; walk_at "ev")
  | (apply ev_ltI; walk_at "ev"; walk_at "ev")
  | (apply ev_leI; walk_at "ev"; walk_at "ev")
  | (apply ev_gtI; walk_at "ev"; walk_at "ev")
  | (apply ev_geI; walk_at "ev"; walk_at "ev")
  | (apply ev_eqI; walk_at "ev"; walk_at "ev")
  | (apply ev_neI; walk_at "ev"; walk_at "ev")
  | (apply ev_eqS; walk_at "ev"; walk_at "ev")
  | (apply ev_neS; walk_at "ev"; walk_at "ev")
  | (apply ev_eqL; walk_at "ev"; walk_at "ev")
  | (apply ev_neL; walk_at "ev"; walk_at "ev")
  | (apply ev_max2; walk_at "ev"; walk_at "ev")
  | (apply ev_min2; walk_at "ev"; walk_at "ev")
  | (apply ev_mulI; walk_at "ev"; walk_at "ev"; walk_at "side")
  | (apply ev_divI; walk_at "ev"; walk_at "ev"; walk_at "side")
  | (apply ev_modI; walk_at "ev"; walk_at "ev"; walk_at "side")
  | (apply ev_powI; walk_at "ev"; walk_at "ev"; walk_at "side")
  | (apply ev_negI; walk_at "ev")
  | (apply ev_abs; walk_at "ev")
  | (apply ev_intc; walk_at "ev")
  | (apply ev_lenM; walk_at "ev")
  | (apply ev_lenTM; walk_at "ev")
  | (apply ev_len; walk_at "ev")
  | (apply ev_lenT; walk_at "ev")
  | (apply ev_sum; walk_at "ev")
  | (apply ev_notV; walk_at "ev")
  | (apply ev_tupI; walk_at "ev")
  | (apply ev_is; walk_at "ev"; walk_at "ev"; rfl)
  | (apply ev_isN; walk_at "ev"; walk_at "ev"; rfl)
  | (apply ev_ixI; walk_at "ev"; walk_at "ev"; walk_at "side"; walk_at "side")
  | (apply ev_ixIT; walk_at "ev"; walk_at "ev"; walk_at "side"; walk_at "side")
  | (apply ev_andV; walk_at "ev"; (intro _; walk_at "ev"))
  | (apply ev_orV; walk_at "ev"; (intro _; walk_at "ev"))
  | (apply ev_tup; walk_at "ed"; walk_at "side")
  | exact ev_nil
  | (apply ev_lst; walk_at "ed"; walk_at "side")
  | (apply ev_isi; walk_at "ev"; rfl; decide +kernel))
local macro_rules | `(tactic| walk_at "ea") => `(tactic| first
  | exact ea_nil
  | (apply ea_cons; walk_at "ev"; walk_at "ea"))
local macro_rules | `(tactic| walk_at "ed") => `(tactic| first
  | exact ed_nil
  | (apply ed_cons; walk_at "ev"; walk_at "ed"))
local macro_rules | `(tactic| walk_at "et") => `(tactic| first
  | exact et_yes
  | (apply et_and; walk_at "et"; (intro _; walk_at "et"))
  | (apply et_or; walk_at "et"; (intro _; walk_at "et"))
  | (apply et_not; walk_at "et")
  | (refine et_test (m := .now) ?_; walk_at "ev")
  | (refine et_B (m := .now) ?_; walk_at "ev"))
local macro_rules | `(tactic| walk_at "asg") => `(tactic| (first
  | (refine run_seq ?_; apply run_asg; walk_at "ev"; dsimp only [List.set])
  | (apply run_asg; walk_at "ev"; dsimp only [List.set])))
local macro_rules | `(tactic| walk_at "ev") => `(tactic| first
  | (apply ev_ixT; walk_at "ev"; walk_at "ev"; rfl)
  | (apply ev_ixL; walk_at "ev"; walk_at "ev"; rfl)
  | (apply ev_cat; walk_at "ev"; walk_at "ev"; walk_at "side")
  | (apply ev_catT; walk_at "ev"; walk_at "ev"; walk_at "side"))
section
variable {P : Program} {w : World} {K : PySem.W.Frag} {mg : Str → Option Value} {base : Heap}
/-! _law_read -/
def readD (rows : List (List Str)) : D := match (if text rows = "" then none else firstBad rows) with
  | none => (runOf rows).d
  | some i => .tup [.str "refused", .int (i + 1 : Nat)]
theorem bt_leaf : ("BadText" : Str) ∈ (["BadTable", "BadText", "BadStanding", "CannotMove", "NoSuch", "WrongGround", "TooGreat", "BadVector", "NotLocal", "BadProgram", "InUse", "AttemptFailed", "BadLot", "BadDealing", "NotCore", "BadLoads", "Impossible", "BadLine", "NothingToUndo", "NothingToRedo"] : List Str) := by decide +kernel
abbrev spLr (K : PySem.W.Frag) : Sp := SpP K [.dat] (fun rows : List (List Str) => [.str (text rows)]) okRows readD
theorem exc_read {rows : List (List Str)} {C : Addr} {o : Option (List (Str × D))} (h : excRun K rows C o) : ∃ i, C = gA K "BadText" ∧ o = some [(("line" : Str), D.int ((i + 1 : Nat) : Int))] ∧ readD rows = .tup [.str "refused", .int (i + 1 : Nat)] := by
  obtain ⟨h1, h2, i, h3, h4⟩ := h
  refine ⟨i, h1, h4, ?_⟩
  unfold readD
  rw [if_neg h2, h3]
theorem good_read {rows : List (List Str)} (h : goodRun rows) : readD rows = (runOf rows).d := by
  unfold readD
  rcases h with h | h
  · rw [if_pos h]
  · rw [h]; simp
theorem df_lr (T : Tx K mg w) : Df P w K mg base "_law_read" 5 [] (spLr K) := by
  refine T.d_l_read.df sc_l_read rfl (by decide) (fun _ _ _ _ _ _ us hl => match us, hl with | [_], _ => rfl) ?_
  intro f cdv A outer s H E hr
  refine ⟨rd_l_read K (spRr K), tm_l_read T (df_rr T) hr, ?_⟩
  intro rows hok
  unfold rd_l_read
  show Run K (lift E) _ [.dat (.str (text rows)), .no, .no] _
  refine run_seq (run_asg ev_non ?_)
  dsimp only [List.set]
  refine run_seqM (fun e => e = [.dat (.str (text rows)), .dat (readD rows), .no]) ?_ ?_
  · refine run_tryA0 (PX := fun e C o => e = [.dat (.str (text rows)), .dat .non, .no] ∧ excRun K rows C o) (fun W => ?_) ?_
    · exact run_asgX (evx_callO rows hok (ea_cons (ev_dat rfl) ea_nil)) (fun d hd => by
        obtain ⟨hg, rfl⟩ := hd
        show [Sl.dat (.str (text rows)), .dat (runOf rows).d, .no] = _
        rw [good_read hg]) (fun C o hx => ⟨rfl, hx⟩)
    · rintro e C o ⟨rfl, hx⟩
      obtain ⟨i, rfl, rfl, hd⟩ := exc_read hx
      refine ⟨(exmTab.one T.exm bt_leaf bt_leaf).trans (by decide +kernel), fun a od => ?_⟩
      dsimp only [List.set]
      refine run_asg (d := readD rows) ?_ rfl
      rw [hd]
      exact ev_tup (ed_cons ev_str (ed_cons (ev_atS (fs := [(("line" : Str), D.int ((i + 1 : Nat) : Int))]) (ev_dat rfl) T.x_BadText T.n_BadText_line rfl) ed_nil)) (by walk_at "side")
  rintro _ rfl
  exact run_ret (ev_dat rfl) rfl
/-! _law_pure -/
def others13 : List Str := ["AttemptFailed", "BadDealing", "BadLine", "BadLoads", "BadLot", "BadProgram", "BadStanding", "BadTable", "BadVector", "CannotMove", "Impossible", "InUse", "NoSuch", "NotCore", "NotLocal", "NothingToRedo", "NothingToUndo", "TooGreat", "WrongGround"]
abbrev spLp (K : PySem.W.Frag) : Sp := SpP K [.dat] (fun rows : List (List Str) => [.str (text rows)]) (fun rows => okRows rows ∧ text rows ≠ "" ∧ firstBad rows ≠ none) (fun _ => .bl true)
theorem df_lp (T : Tx K mg w) : Df P w K mg base "_law_pure" 5 [] (spLp K) := by
  refine T.d_l_pure.df sc_l_pure rfl (by decide) (fun _ _ _ _ _ _ us hl => match us, hl with | [_], _ => rfl) ?_
  intro f cdv A outer s H E hr
  refine ⟨rd_l_pure K (spRr K), tm_l_pure T (df_rr T) hr, ?_⟩
  rintro rows ⟨hok, hne, hfb⟩
  unfold rd_l_pure
  show Run K (lift E) _ [.dat (.str (text rows)), .no, .no] _
  refine run_seq (run_asg ev_bl ?_)
  dsimp only [List.set]
  refine run_seqM (fun e => e = [.dat (.str (text rows)), .dat (.bl true), .no]) ?_ ?_
  · refine run_tryA0 (PX := fun e C o => e = [.dat (.str (text rows)), .dat (.bl false), .no] ∧ excRun K rows C o) (fun W => ?_) ?_
    · exact run_dropX (evx_callO rows hok (ea_cons (ev_dat rfl) ea_nil)) (fun d hd => by
        obtain ⟨hg, _⟩ := hd
        rcases hg with q | q
        · exact absurd q hne
        · exact absurd q hfb) (fun C o hx => ⟨rfl, hx⟩)
    · rintro e C o ⟨rfl, hx⟩
      obtain ⟨i, rfl, rfl, hd⟩ := exc_read hx
      refine ⟨exmTab.own T.exm bt_leaf, fun a od => ?_⟩
      dsimp only [List.set]
      have hk := kitTab.any T.kit bt_leaf others13 (by decide +kernel)
      refine run_asg (d := .bl true) ((ev_andV (b := true) (c := true) (m1 := .now) (ev_isiS (ev_dat rfl) T.x_BadText (.ty _) (kitTab.val T.kit bt_leaf)) fun _ => ev_andV (b := true) (c := true) (m1 := .now) (ev_isiS (ev_dat rfl) T.x_BadText (.own _) ((kitTab.one T.kit bt_leaf bt_leaf).trans (by decide +kernel))) fun _ => (ev_notV (m1 := .now) (ev_isiST (b := false) (ev_dat rfl) T.x_BadText (cs := others13.map fun y => V.ref (gA K y)) (us := others13.map fun y => Value.ref (gA K y)) ?_ (paired_own K others13) (by rw [List.length_map]; decide) (hk.trans (by decide +kernel)))).is rfl)) rfl
      unfold others13
      repeat first | exact ca_nil | apply ca_cons
  rintro _ rfl
  exact run_ret (ev_dat rfl) rfl
end
end Fh

set_option Elab.async false
set_option linter.all false
set_option maxRecDepth 100000
set_option maxHeartbeats 4000000
namespace Fh
open PySem PySem.Spec PyProof.Rows L2 TL
local macro_rules | `(tactic| walk_at "side") => `(tactic| first
  | assumption | decide | omega
  | exact ⟨by decide, by decide⟩ | exact ⟨by omega, by omega⟩ | exact Or.inl ⟨by omega, by omega⟩ | exact Or.inr ⟨by omega, by omega⟩
  | exact ⟨by decide, by decide, by decide⟩ | exact sz (by simp) | exact szl (by simp) | rfl)
local macro_rules | `(tactic| walk_at "ev") => `(tactic| first
  | exact ev_int
  | exact ev_bl
  | exact ev_str
  | exact ev_non
  | exact ev_dat rfl
  | exact ev_bor rfl
  | exact (ev_bor rfl).nw
  | exact ev_own rfl
  | exact (ev_bor rfl).sc
  | exact (ev_bor rfl).scB
  | exact (ev_bor rfl).scS
  | exact (ev_bor rfl).scN
  | (apply ev_addI; walk_at "ev"; walk_at "ev")
  | (apply ev_subI; walk_at "ev"; walk_at "ev")
  | (apply ev_ltI; walk_at "ev"; walk_at "ev")
  | (apply ev_leI; walk_at "ev"; walk_at "ev")
  | (apply ev_gtI; walk_at "ev"; walk_at "ev")
  | (apply ev_geI; walk_at "ev"; walk_at "ev")
  | (apply ev_eqI; walk_at "ev"; walk_at "ev")
  | (apply ev_neI; walk_at "ev"; walk_at "ev")
  | (apply ev_eqS; walk_at "ev"; walk_at "ev")
  | (apply ev_neS; walk_at "ev"; walk_at "ev")
  | (apply ev_eqL; walk_at "ev"; walk_at "ev")
  | (apply ev_neL; walk_at "ev"; walk_at "ev")
  | (apply ev_max2; walk_at "ev"; walk_at "ev")
  | (apply ev_min2; walk_at "ev"; walk_at "ev")
  | (apply ev_mulI; walk_at "ev"; walk_at "ev"; walk_at "side")
  | (apply ev_divI; walk_at "ev"; walk_at "ev"; walk_at "side")
  | (apply ev_modI; walk_at "ev"; walk_at "ev"; walk_at "side")
  | (apply ev_powI; walk_at "ev"; walk_at "ev"; walk_at "side")
  | (apply ev_negI; walk_at "ev")
  | (apply ev_abs; walk_at "ev")
  | (apply ev_intc; walk_at "ev")
  | (apply ev_lenM; walk_at "ev")
  | (apply ev_lenTM; walk_at "ev")
  | (apply ev_len; walk_at "ev")
  | (apply ev_lenT; walk_at "ev")
  | (apply ev_sum; walk_at "ev")
  | (apply ev_notV; walk_at "ev")
  | (apply ev_tupI; walk_at "ev")
  | (apply ev_is; walk_at "ev"; walk_at "ev"; rfl)
  | (apply ev_isN; walk_at "ev"; walk_at "ev"; rfl)
  | (apply ev_ixI; walk_at "ev"; walk_at "ev"; walk_at "side"; walk_at "side")
  | (apply ev_ixIT; walk_at "ev"; walk_at "ev"; walk_at "side"; walk_at "side")
  | (apply ev_andV; walk_at "ev"; (intro _; walk_at "ev"))
  | (apply ev_orV; walk_at "ev"; (intro _; walk_at "ev"))
  | (apply ev_tup; walk_at "ed"; walk_at "side")
  | exact ev_nil
  | (apply ev_lst; walk_at "ed"; walk_at "side")
  | (apply ev_isi; walk_at "ev"; rfl; decide +kernel))
local macro_rules | `(tactic| walk_at "ea") => `(tactic| first
  | exact ea_nil
  | (apply ea_cons; walk_at "ev"; walk_at "ea"))
local macro_rules | `(tactic| walk_at "ed") => `(tactic| first
  | exact ed_nil
  | (apply ed_cons; walk_at "ev"; walk_at "ed"))
local macro_rules | `(tactic| walk_at "et") => `(tactic| first
  | exact et_yes
  | (apply et_and; walk_at "et"; (intro _; walk_at "et"))
  | (apply et_or; walk_at "et"; (intro _; walk_at "et"))
  | (apply et_not; walk_at "et")
  | (refine et_test (m := .now) ?_; walk_at "ev")
  | (refine et_B (m := .now) ?_; walk_at "ev"))
local macro_rules | `(tactic| walk_at "asg") => `(tactic| (first
  | (refine run_seq ?_; apply run_asg; walk_at "ev"; dsimp only [List.set])
  | (apply run_asg; walk_at "ev"; dsimp only [List.set])))
local macro_rules | `(tactic| walk_at "ev") => `(tactic| first
  | (apply ev_ixT; walk_at "ev"; walk_at "ev"; rfl)
  | (apply ev_ixL; walk_at "ev"; walk_at "ev"; rfl)
  | (apply ev_cat; walk_at "ev"; walk_at "ev"; walk_at "side")
  | (apply ev_catT; walk_at "ev"; walk_at "ev"; walk_at "side"))
/-! the law -/
theorem word_sign {m : Mv} (h : m.ok) : ∀ x ∈ m.words, ∀ c ∈ tl x, c < 1114112 := fun x hx c hc => by
  rcases List.mem_cons.mp hx with q | q
  · subst q
    have h1 := h.1
    unfold arity at h1
    have key : ∀ s ∈ (["enter", "pass", "swap"] : List Str), ∀ c ∈ tl s, c < 1114112 := by decide +kernel
    split at h1
    · rename_i e; exact key "enter" (by decide +kernel) c (by rw [← e]; exact hc)
    · split at h1
      · rename_i e; exact key "pass" (by decide +kernel) c (by rw [← e]; exact hc)
      · split at h1
        · rename_i e; exact key "swap" (by decide +kernel) c (by rw [← e]; exact hc)
        · cases h1
  · obtain ⟨n, hn, rfl⟩ := List.mem_map.mp q
    unfold nstr at hc
    rw [tl_num] at hc
    have := numL_digits n c hc
    omega
theorem strOk_S {l : List Nat} (h : ∀ c ∈ l, c < 1114112) : PyData.strOk (S l) = true := by
  unfold PyData.strOk S
  simp only [List.all_toArray, List.all_eq_true, decide_eq_true_eq]
  exact h
theorem strOk_w {m : Mv} (h : m.ok) : PyData.strOk m.w = true := by
  have := strOk_S (word_sign h m.w List.mem_cons_self)
  rwa [S_tl] at this
theorem strOk_text {ms : List Mv} (h : ∀ m ∈ ms, m.ok) : PyData.strOk (text (ms.map Mv.words)) = true := strOk_S fun c hc => by
  rcases mem_joinL hc with q | ⟨p, hp, q⟩
  · simp at q; omega
  · rw [List.map_map] at hp
    obtain ⟨m, hm, rfl⟩ := List.mem_map.mp hp
    rcases mem_joinL q with q2 | ⟨p2, hp2, q2⟩
    · simp at q2; omega
    · obtain ⟨x, hx, rfl⟩ := List.mem_map.mp hp2
      exact word_sign (h m hm) x hx c q2
def runD (ms : List Mv) : D := .lst (ms.map mvD)
theorem shps_of {n : Nat} : ∀ {ds : List D}, (∀ d ∈ ds, shp n d = true) → shps n ds = true
  | [], _ => rfl
  | d :: ds, h => by
    rw [shps, h d List.mem_cons_self, shps_of fun x hx => h x (List.mem_cons_of_mem _ hx)]; rfl
theorem sizs_of : ∀ {ds : List D}, (∀ d ∈ ds, siz d = true) → sizs ds = true
  | [], _ => rfl
  | d :: ds, h => by
    rw [sizs, h d List.mem_cons_self, sizs_of fun x hx => h x (List.mem_cons_of_mem _ hx)]; rfl
theorem shp_mv {m : Mv} (h : m.ok) : shp 1 (mvD m) = true := by
  show shps 0 (.str m.w :: m.ns.map fun n => D.int (n : Nat)) = true
  refine shps_of fun d hd => ?_
  rcases List.mem_cons.mp hd with q | q
  · rw [q]; exact strOk_w h
  · obtain ⟨n, _, rfl⟩ := List.mem_map.mp q; rfl
theorem shp_run {ms : List Mv} (h : ∀ m ∈ ms, m.ok) : shp 6 (runD ms) = true := by
  show shps 5 (ms.map mvD) = true
  refine shps_of fun d hd => ?_
  obtain ⟨m, hm, rfl⟩ := List.mem_map.mp hd
  show shps 4 (.str m.w :: m.ns.map fun n => D.int (n : Nat)) = true
  refine shps_of fun d hd => ?_
  rcases List.mem_cons.mp hd with q | q
  · rw [q]; exact strOk_w (h m hm)
  · obtain ⟨n, _, rfl⟩ := List.mem_map.mp q; rfl
theorem siz_run {ms : List Mv} (h : ∀ m ∈ ms, m.ok) (hl : ms.length ≤ 300) : siz (runD ms) = true := by
  show (decide ((ms.map mvD).length < 2 ^ 62) && sizs (ms.map mvD)) = true
  rw [List.length_map, decide_eq_true (by omega), sizs_of]
  · rfl
  · intro d hd
    obtain ⟨m, hm, rfl⟩ := List.mem_map.mp hd
    have := arity_pos (h m hm).1
    show (decide ((D.str m.w :: m.ns.map fun n => D.int (n : Nat)).length < 2 ^ 62) && sizs _) = true
    rw [decide_eq_true (by simp only [List.length_cons, List.length_map]; omega), sizs_of]
    · rfl
    · intro d hd
      rcases List.mem_cons.mp hd with q | q
      · rw [q]; rfl
      · obtain ⟨n, _, rfl⟩ := List.mem_map.mp q; rfl
def rows0 (ms : List Mv) : List Rw := ms.map fun m => (m.words, true)
theorem words_n1 {m : Mv} (h : m.ok) : m.words ≠ [("" : Str)] := fun q => by
  have := arity_pos h.1
  have h2 := congrArg List.length q
  simp [Mv.words] at h2
  rw [h2] at this
  simp at this
theorem rows0_ok {ms : List Mv} (h : ∀ m ∈ ms, m.ok) (hl : ms.length ≤ 200) : RowsOk ms.length (rows0 ms) := by
  refine ⟨by unfold rows0; rw [List.length_map]; exact hl, fun r hr => ?_, fun ⟨r, hr, q⟩ => ?_, by unfold rows0; rw [List.length_map]; exact Nat.le_refl _⟩
  · obtain ⟨m, hm, rfl⟩ := List.mem_map.mp hr
    exact ⟨fun _ => ⟨m, h m hm, rfl⟩, fun z => nomatch z⟩
  · obtain ⟨m, hm, rfl⟩ := List.mem_map.mp hr
    exact absurd q (words_n1 (h m hm))
theorem rows0_fst (ms : List Mv) : (rows0 ms).map (·.1) = ms.map Mv.words := by unfold rows0; rw [List.map_map]; rfl
theorem mv_ok_rows {ms : List Mv} (h : ∀ m ∈ ms, m.ok) (hl : ms.length ≤ 300) : okRows (ms.map Mv.words) := by
  refine ⟨by rw [List.length_map]; exact hl, fun r hr => ?_⟩
  obtain ⟨m, hm, rfl⟩ := List.mem_map.mp hr
  have hs := (h m hm).small
  exact ⟨(h m hm).clean, Nat.le_trans hs.1 (by decide), fun x hx => Nat.le_trans (hs.2 x hx) (by decide)⟩
theorem mv_read {ms : List Mv} (h : ∀ m ∈ ms, m.ok) : (ms.map Mv.words).map readW = ms.map some := by
  rw [List.map_map]
  apply List.map_congr_left
  intro m hm
  exact readW_words (h m hm)
theorem mv_run {ms : List Mv} (h : ∀ m ∈ ms, m.ok) : (runOf (ms.map Mv.words)).d = runD ms := by
  show D.lst (((ms.map Mv.words).filterMap readW).map mvD) = _
  rw [fm_readW (mv_read h)]; rfl
theorem mv_good {ms : List Mv} (h : ∀ m ∈ ms, m.ok) : goodRun (ms.map Mv.words) := .inr (firstBad_none (mv_read h))
theorem mv_noexc {K : PySem.W.Frag} {ms : List Mv} (h : ∀ m ∈ ms, m.ok) (C : Addr) (o : Option (List (Str × D))) : ¬ excRun K (ms.map Mv.words) C o := fun ⟨_, _, i, hi, _⟩ => by
  rw [firstBad_none (mv_read h)] at hi; cases hi
theorem mv_readD {ms : List Mv} (h : ∀ m ∈ ms, m.ok) : readD (ms.map Mv.words) = runD ms := by
  rw [good_read (mv_good h), mv_run h]
/-- the first row that is flagged -/
def badIx : List Rw → List Nat
  | rows => (List.range rows.length).filter fun i => !(rows.getD i ([], false)).2
theorem firstBad_rows {n : Nat} {rows : List Rw} (h : RowsOk n rows) : ∀ {i : Nat} {l : List Nat}, badIx rows = i :: l → firstBad (rows.map (·.1)) = some i := fun {i l} e => by
  have hm : i ∈ badIx rows := by rw [e]; exact List.mem_cons_self
  obtain ⟨h1, h2⟩ := List.mem_filter.mp hm
  have hi : i < rows.length := List.mem_range.mp h1
  have hp : (badIx rows).Pairwise (· < ·) := (List.pairwise_lt_range (n := rows.length)).filter _
  have hg : ∀ j, (hj : j < rows.length) → rows.getD j ([], false) = rows[j] := fun j hj => by
    rw [List.getD_eq_getElem?_getD, List.getElem?_eq_getElem hj]; rfl
  refine firstBad_at (i := i) (r := rows[i].1) (fun j hj q hq => ?_) (by rw [List.getElem?_map, List.getElem?_eq_getElem hi]; rfl) ?_
  · have hjl : j < rows.length := by omega
    rw [List.getElem?_map, List.getElem?_eq_getElem hjl] at hq
    have hq := Option.some.inj hq
    subst hq
    cases hb : rows[j].2 with
    | true =>
      obtain ⟨m, hm, e⟩ := (h.row _ (List.getElem_mem hjl)).1 hb
      show readW rows[j].1 ≠ none
      rw [e, readW_words hm]; exact fun z => nomatch z
    | false =>
      have hjm : j ∈ badIx rows := List.mem_filter.mpr ⟨List.mem_range.mpr hjl, by rw [hg j hjl, hb]; rfl⟩
      rw [e] at hjm hp
      rcases List.mem_cons.mp hjm with q | q
      · omega
      · have := (List.pairwise_cons.mp hp).1 j q
        omega
  · rw [hg i hi] at h2
    have hb : rows[i].2 = false := by simpa using h2
    exact ((h.row _ (List.getElem_mem hi)).2 hb).no
theorem badIx_nil {rows : List Rw} (h : badIx rows = []) : ∀ r ∈ rows, r.2 = true := fun r hr => by
  obtain ⟨i, hi, rfl⟩ := List.getElem_of_mem hr
  cases hb : rows[i].2 with
  | true => rfl
  | false =>
    have : i ∈ badIx rows := List.mem_filter.mpr ⟨List.mem_range.mpr hi, by
      rw [List.getD_eq_getElem?_getD, List.getElem?_eq_getElem hi]
      show (!rows[i].2) = true
      rw [hb]; rfl⟩
    rw [h] at this; cases this
/-- what the law says of the rows in the end -/
theorem end_read {ms : List Mv} {rows : List Rw} (h : ∀ m ∈ ms, m.ok) (hr : RowsOk ms.length rows) (hc : rows = rows0 ms ∨ ∃ r ∈ rows, r.2 = false) (he : text (rows.map (·.1)) = "" ∨ badIx rows = []) : readD (rows.map (·.1)) = runD ms := by
  by_cases ht : text (rows.map (·.1)) = ""
  · have hcl : ∀ r ∈ rows.map (·.1), clean r := fun r hr' => (hr.rows.2 r hr').1
    have hrd : readD (rows.map (·.1)) = (runOf (rows.map (·.1))).d := by unfold readD; rw [if_pos ht]
    rw [hrd]
    rcases text_empty ht hcl with q | q
    · have hn : rows = [] := List.map_eq_nil_iff.mp q
      have hl := hr.le
      rw [hn] at hl
      have hms : ms = [] := List.length_eq_zero_iff.mp (by simpa using hl)
      subst hn hms
      rfl
    · have hlen : rows.length = 1 := by have := congrArg List.length q; simpa using this
      have h1 : ∃ r ∈ rows, r.1 = [("" : Str)] := by
        match rows, hlen, q with
        | [r], _, q => exact ⟨r, List.mem_cons_self, by simpa using q⟩
      have := hr.one h1
      have hms : ms = [] := List.length_eq_zero_iff.mp (by omega)
      subst hms
      rw [q]
      show D.lst (([[("" : Str)]].filterMap readW).map mvD) = _
      rw [List.filterMap_cons, bad_head (by decide +kernel)]; rfl
  · have hb : badIx rows = [] := he.resolve_left ht
    have h0 : rows = rows0 ms := by
      rcases hc with q | ⟨r, hr', q⟩
      · exact q
      · rw [badIx_nil hb r hr'] at q; cases q
    subst h0
    rw [rows0_fst, mv_readD h]
section
variable {P : Program} {w : World} {K : PySem.W.Frag} {mg : Str → Option Value} {base : Heap}
abbrev spRq (K : PySem.W.Frag) : Sp := SpO K [.dat] (fun rows : List (List Str) => [.str (text rows)]) (fun rows => okRows rows ∧ goodRun rows ∧ ∀ C o, ¬ excRun K rows C o) runOf
theorem df_rq (T : Tx K mg w) : Df P w K mg base "read_run" 4 [] (spRq K) := (df_rr T).df (SpXO.quiet fun _ h => h)
theorem ev_sameR {ta tb : TE} {e : En} {d : D} {m : Md} (h1 : shp 6 d = true) (h2 : siz d = true) (ha : Ev K .now ta e d) (hb : Ev K .now tb e d) : Ev K m (tCall (spSame K 6) [] E0 (tCons ta (tCons tb tNil))) e (.bl true) :=
  (ev_call (out := fun p : D × D => D.bl (sm p.1 p.2)) (d, d) ⟨h1, ⟨6, h1⟩, h2⟩ (ea_cons ha (ea_cons hb ea_nil))).is (by simp only [sm_refl 6 d h1])
theorem rows0_D (ms : List Mv) : rowsRD (rows0 ms) = .lst (ms.map fun m => D.tup [strsD m.words, .bl true]) := by
  unfold rowsRD rows0; rw [List.map_map]; rfl
theorem body_law (T : Tx K mg w) : BodyR P w K mg base "law" s_law N_law 7 [.now] (fun ns : List Int => [.rol (ns.map D.int)]) (fun ns => ns.length ≤ 63) (fun _ d => d = .bl true) := by
  intro f' cdv A outer s H E hr
  refine ⟨rd_law K (spPool K) (spMo K) (spWo K) (spJo K) (spSame K 6) (spRt K) (spRq K) (spCh K) (spLr K) (spLp K), tm_law T (df_pool T) (df_mo T) (df_wo T) (df_jo T) (df_same T 6) (df_rt T) (df_rq T) (df_ch T) (df_lr T) (df_lp T) hr, ?_⟩
  intro ns _
  unfold rd_law
  show Run K (lift E) _ [.bor (.rol (ns.map D.int)), .no, .no, .no, .no, .no, .no, .no, .no, .no, .no, .no] _
  refine run_seq (run_asgP (evp_call (out := fun (a : List Int × Nat) d => ∃ ms : List Int, d = rowD ms ∧ ms.length = a.2 ∧ Unit1000 ms) (ns, 150) (by show 150 ≤ 100000; decide) (ea_cons (ev_bor rfl).nw (ea_cons ev_int ea_nil))) ?_)
  rintro _ ⟨ps, rfl, hps, hu⟩
  simp only at hps
  dsimp only [List.set]
  obtain ⟨n0, hn0⟩ : ∃ n : Nat, (n : Int) = nth ps 0 % 21 := ⟨(nth ps 0 % 21).toNat, by omega⟩
  have hn0l : n0 ≤ 20 := by omega
  refine run_seq (run_asgP (evp_call (out := fun (a : List Int × Nat) d => ∃ ms : List Mv, ms.length = a.2 ∧ (∀ m ∈ ms, m.ok) ∧ d = .lst (ms.map mvD)) (ps, n0) ⟨hn0l, hps, hu⟩ (ea_cons (ev_dat rfl) (ea_cons ev_int (ea_cons ((ev_modI (i := nth ps 0) (j := 21) (by walk_at "ev") ev_int (by decide)).is (by rw [← hn0])) ea_nil)))) ?_)
  rintro _ ⟨ms0, hl0, hok0, rfl⟩
  simp only at hl0
  dsimp only [List.set]
  -- the run
  refine run_seqM (fun e => ∃ ms : List Mv, ms.length ≤ 20 ∧ (∀ m ∈ ms, m.ok) ∧ e = [.bor (.rol (ns.map D.int)), .dat (rowD ps), .dat (runD ms), .no, .no, .no, .no, .no, .no, .no, .no, .no]) ?_ ?_
  · refine run_ifD (p := nth ps 1 % 8 = 1) (by walk_at "et") (fun _ => ?_) (fun _ => run_next ⟨ms0, by omega, hok0, rfl⟩)
    exact run_asg (d := runD []) ev_nil ⟨[], by simp, (fun _ h => nomatch h), rfl⟩
  rintro _ ⟨ms1, hl1, hok1, rfl⟩
  refine run_seqM (fun e => ∃ ms : List Mv, ms.length ≤ 120 ∧ (∀ m ∈ ms, m.ok) ∧ e = [.bor (.rol (ns.map D.int)), .dat (rowD ps), .dat (runD ms), .no, .no, .no, .no, .no, .no, .no, .no, .no]) ?_ ?_
  · refine run_ifD (p := nth ps 1 % 16 = 2) (by walk_at "et") (fun _ => ?_) (fun _ => run_next ⟨ms1, by omega, hok1, rfl⟩)
    refine run_asg (d := runD (List.replicate 6 ms1).flatten) (((evo_rep (xs := ms1.map mvD) (k := 6) (ev_dat rfl) ev_int (by decide) (by decide) ?_).dat).is ?_) ⟨_, ?_, ?_, rfl⟩
    · rw [List.length_map]; exact sz (by show ms1.length * 6 ≤ _; omega)
    · show D.lst (List.replicate 6 (ms1.map mvD)).flatten = D.lst ((List.replicate 6 ms1).flatten.map mvD)
      rw [List.map_flatten, List.map_replicate]
    · rw [List.length_flatten, List.map_replicate, List.sum_replicate_nat]; omega
    · intro m hm
      obtain ⟨l, hl, hm⟩ := List.mem_flatten.mp hm
      rw [List.eq_of_mem_replicate hl] at hm
      exact hok1 m hm
  rintro _ ⟨ms, hl, hok, rfl⟩
  have hrows := mv_ok_rows hok (by omega)
  have hR0 := rows0_ok hok (by omega)
  refine run_seq (run_asg (d := rowsRD (rows0 ms)) ?_ ?_)
  · rw [rows0_D]
    refine ((ev_lcO (m := .dat) (xs := ms.map mvD) (fun d => match d with | .tup ds => some (D.tup [.lst ((ds.map wordOf).map D.str), .bl true]) | _ => none) (ei_lst (fun z => nomatch z) (ev_dat rfl)) (sz (by rw [List.length_map]; omega)) ?_).dat).is ?_
    · intro i d hd
      rw [List.getElem?_map] at hd
      cases hm : ms[i]? with
      | none => rw [hm] at hd; cases hd
      | some m =>
        rw [hm] at hd
        cases hd
        have hmo := hok m (List.mem_of_getElem? hm)
        refine ⟨_, tg_dat, .inl ⟨D.tup [strsD m.words, .bl true], et_yes, ?_, ?_⟩⟩
        · show some (D.tup [.lst (((D.str m.w :: m.ns.map fun n => D.int (n : Nat)).map wordOf).map D.str), .bl true]) = _
          rw [mv_words]; rfl
        · exact ev_tup (ed_cons (ev_call (out := fun m : Mv => strsD m.words) m hmo (ea_cons (ev_dat rfl) ea_nil)) (ed_cons ev_bl ed_nil)) (by walk_at "side")
    · rw [fm_some (g := mvD) (h := fun m => D.tup [strsD m.words, .bl true]) (fun m => by
        show some (D.tup [.lst (((D.str m.w :: m.ns.map fun n => D.int (n : Nat)).map wordOf).map D.str), .bl true]) = _
        rw [mv_words]; rfl)]
      rfl
  dsimp only [List.set]
  have hjo : ∀ (rows : List Rw) (te : TE) (e : En), small (rows.map (·.1)) → Ev K .dat te e (rowsRD rows) → Ev K .dat (tCall (spJo K) [] E0 (tCons te tNil)) e (.str (text (rows.map (·.1)))) := fun rows te e hs h =>
    ev_call (out := fun rows : List (List Str × Bool) => D.str (text (rows.map (·.1)))) rows hs (ea_cons h ea_nil)
  refine run_seq (run_asg (d := .str (text (ms.map Mv.words))) ((hjo (rows0 ms) _ _ (hR0.rows.small) (ev_dat rfl)).is (by rw [rows0_fst])) ?_)
  dsimp only [List.set]
  refine run_seq (run_asgO (evo_list (xs := ms.map mvD) (ev_dat rfl)) ?_)
  dsimp only [List.set]
  have hso := strOk_text hok
  have ht6 : shp 6 (.str (text (ms.map Mv.words))) = true := hso
  have hrt : ∀ (b : Bool) (ms : List Mv) (te : TE) (e : En), ms.length ≤ 300 → (∀ m ∈ ms, m.ok) → Ev K .now te e (seqD b (ms.map mvD)) → Ev K .now (tCall (spRt K) [] E0 (tCons te tNil)) e (.str (text (ms.map Mv.words))) := fun b ms te e h1 h2 h =>
    ev_call (out := fun a : Bool × List Mv => D.str (text (a.2.map Mv.words))) (b, ms) ⟨h1, h2⟩ (ea_cons h ea_nil)
  refine run_seq (run_ifF ((et_or (b := false) (c := false) ((et_not (et_B (m := .now) (ev_sameR ht6 rfl (hrt true ms _ _ (by omega) hok (ev_tupL (xs := ms.map mvD) (ev_dat rfl))) (ev_dat rfl))))) fun _ => (et_not (et_B (m := .now) (ev_sameR ht6 rfl (hrt false ms _ _ (by omega) hok (ev_own (o := .lst (ms.map mvD)) rfl)) (ev_dat rfl)))))) (run_next ?_))
  refine run_seq (run_ifF ((et_not (b := true) (et_B (m := .now) (ev_sameR (shp_run hok) (siz_run hok (by omega)) (ev_own (o := .lst (ms.map mvD)) rfl) (ev_dat rfl))))) (run_next ?_))
  obtain ⟨sw, hsw⟩ : ∃ sw : Mv, sw = ⟨"swap", [7, 0, 99, 10]⟩ := ⟨_, rfl⟩
  have hswo : sw.ok := by
    rw [hsw]
    exact ⟨ar_swap, fun n hn => by simp at hn; omega⟩
  have hswD : mvD sw = .tup [.str "swap", .int 7, .int 0, .int 99, .int 10] := by rw [hsw]; rfl
  have hsww : sw.words = ([("swap" : Str), "7", "0", "99", "10"] : List Str) := by rw [hsw]; decide +kernel
  have hokL : ∀ m ∈ ms ++ [sw], m.ok := fun m hm => by
    rcases List.mem_append.mp hm with q | q
    · exact hok m q
    · rw [List.mem_singleton.mp q]; exact hswo
  refine run_seq (run_app (d := mvD sw) rfl (by rw [hswD]; walk_at "ev") (szl (by rw [List.length_map]; omega)) ?_)
  dsimp only [List.set]
  have hLD : (ms.map mvD ++ [mvD sw]) = (ms ++ [sw]).map mvD := by rw [List.map_append]; rfl
  rw [hLD]
  have hRL := rows0_ok hokL (by simp; omega)
  refine run_seq (run_asg (d := .str (text ((ms ++ [sw]).map Mv.words))) ((hjo (rows0 (ms ++ [sw])) _ _ hRL.rows.small ?_).is (by rw [rows0_fst])) ?_)
  · have e : rowsRD (rows0 (ms ++ [sw])) = .lst ((rows0 ms).map rowRD ++ [rowRD (sw.words, true)]) := by
      unfold rowsRD rows0; simp
    rw [e]
    refine ev_cat (xs := (rows0 ms).map rowRD) (ev_dat rfl) ?_ (sz (by unfold rows0; simp; omega))
    unfold rowRD strsD
    rw [hsww]
    walk_at "ev"
  dsimp only [List.set]
  have hsoL := strOk_text hokL
  have htL : shp 6 (.str (text ((ms ++ [sw]).map Mv.words))) = true := hsoL
  have hrr : ∀ (ms : List Mv) (te : TE) (e : En), ms.length ≤ 300 → (∀ m ∈ ms, m.ok) → Ev K .dat te e (.str (text (ms.map Mv.words))) → EvO K (tCall (spRq K) [] E0 (tCons te tNil)) e (.lst (ms.map mvD)) := fun ms te e h1 h2 h => by
    have h3 := ev_callO (out := runOf) (K := K) (ms.map Mv.words) (pre := fun rows => okRows rows ∧ goodRun rows ∧ ∀ C o, ¬ excRun K rows C o) (args := fun rows : List (List Str) => [.str (text rows)]) ⟨mv_ok_rows h2 h1, mv_good h2, mv_noexc h2⟩ (ea_cons h ea_nil)
    have e1 : runOf (ms.map Mv.words) = .lst (ms.map mvD) := by
      show OD.lst (((ms.map Mv.words).filterMap readW).map mvD) = _
      rw [fm_readW (mv_read h2)]
    rwa [e1] at h3
  have hlL : (ms ++ [sw]).length ≤ 300 := by simp; omega
  refine run_seq (run_ifF ((et_or (b := false) (c := false) ((et_not (et_B (m := .now) (ev_sameR htL rfl (hrt false (ms ++ [sw]) _ _ hlL hokL (ev_own (o := .lst ((ms ++ [sw]).map mvD)) rfl)) (ev_dat rfl))))) fun _ => (et_not (et_B (m := .now) (ev_sameR (shp_run hokL) (siz_run hokL hlL) ((hrr (ms ++ [sw]) _ _ hlL hokL (ev_dat rfl)).dat) (ev_own (o := .lst ((ms ++ [sw]).map mvD)) rfl)))))) (run_next ?_))
  refine run_seq (run_asgO (hrr ms _ _ (by omega) hok (ev_dat rfl)) ?_)
  dsimp only [List.set]
  refine run_seq (run_ifF ((et_not (b := true) (et_B (m := .now) (ev_sameR (shp_run hok) (siz_run hok (by omega)) (ev_own (o := .lst (ms.map mvD)) rfl) (ev_dat rfl))))) (run_next ?_))
  refine run_seq (run_app (d := .tup [.str "enter", .int 1]) rfl (by walk_at "ev") (szl (by rw [List.length_map]; omega)) ?_)
  dsimp only [List.set]
  obtain ⟨o5, ho5⟩ : ∃ o5 : OD, o5 = .lst ((ms ++ [sw]).map mvD) := ⟨_, rfl⟩
  obtain ⟨o7, ho7⟩ : ∃ o7 : OD, o7 = .lst (ms.map mvD ++ [.tup [.str "enter", .int 1]]) := ⟨_, rfl⟩
  obtain ⟨t6, ht6'⟩ : ∃ t6, t6 = D.str (text ((ms ++ [sw]).map Mv.words)) := ⟨_, rfl⟩
  rw [← ho5, ← ho7, ← ht6']
  have hch : ∀ (rows : List Rw) (st : Int) (e : En), RowsOk ms.length rows → rows.length < 200 → 0 ≤ st → st + 4 < 150 → e[3]? = some (.dat (rowsRD rows)) → e[1]? = some (.dat (rowD ps)) → EvP K (tCall (spCh K) [] E0 (tCons (tVar 3) (tCons (tVar 1) (tCons (tC (.int st)) tNil)))) e (fun d => ∃ rows' : List Rw, RowsOk ms.length rows' ∧ rows'.length ≤ rows.length + 1 ∧ (∃ r ∈ rows', r.2 = false) ∧ d = rowsRD rows') := fun rows st e h1 h2 h3 h4 he3 he1 =>
    evp_call (out := fun (a : Nat × List Rw × List Int × Int) d => ∃ rows, RowsOk a.1 rows ∧ rows.length ≤ a.2.1.length + 1 ∧ (∃ r ∈ rows, r.2 = false) ∧ d = rowsRD rows) (ms.length, rows, ps, st) ⟨h1, h2, h3, by show st + 4 < (ps.length : Nat); omega⟩ (ea_cons (ev_dat he3) (ea_cons (ev_dat he1) (ea_cons ev_int ea_nil)))
  refine run_seqM (fun e => ∃ rows : List Rw, RowsOk ms.length rows ∧ rows.length ≤ 121 ∧ (rows = rows0 ms ∨ ∃ r ∈ rows, r.2 = false) ∧ e = [.bor (.rol (ns.map D.int)), .dat (rowD ps), .dat (runD ms), .dat (rowsRD rows), .dat (.str (text (ms.map Mv.words))), .own o5, .dat t6, .own o7, .no, .no, .no, .no]) ?_ ?_
  · refine run_ifD (p := nth ps 2 % 2 = 1) (by walk_at "et") (fun _ => ?_) (fun _ => run_next ⟨rows0 ms, hR0, by unfold rows0; simp; omega, .inl rfl, rfl⟩)
    refine run_asgP (hch (rows0 ms) 130 _ hR0 (by unfold rows0; simp; omega) (by decide) (by decide) rfl rfl) ?_
    rintro _ ⟨rows', h1, h2, h3, rfl⟩
    exact ⟨rows', h1, by unfold rows0 at h2; simp at h2; omega, .inr h3, rfl⟩
  rintro _ ⟨rows1, hr1, hl1', hc1, rfl⟩
  refine run_seqM (fun e => ∃ rows : List Rw, RowsOk ms.length rows ∧ rows.length ≤ 122 ∧ (rows = rows0 ms ∨ ∃ r ∈ rows, r.2 = false) ∧ e = [.bor (.rol (ns.map D.int)), .dat (rowD ps), .dat (runD ms), .dat (rowsRD rows), .dat (.str (text (ms.map Mv.words))), .own o5, .dat t6, .own o7, .no, .no, .no, .no]) ?_ ?_
  · refine run_ifD (p := nth ps 2 % 4 = 3) (by walk_at "et") (fun _ => ?_) (fun _ => run_next ⟨rows1, hr1, by omega, hc1, rfl⟩)
    refine run_asgP (hch rows1 140 _ hr1 (by omega) (by decide) (by decide) rfl rfl) ?_
    rintro _ ⟨rows', h1, h2, h3, rfl⟩
    exact ⟨rows', h1, by omega, .inr h3, rfl⟩
  rintro _ ⟨rows, hrw, hlr, hc, rfl⟩
  refine run_seq (run_asg (d := .str (text (rows.map (·.1)))) (hjo rows _ _ hrw.rows.small (ev_dat rfl)) ?_)
  dsimp only [List.set]
  have hlen : ∀ {m1 : Md} (e : En), e[3]? = some (.dat (rowsRD rows)) → Ev K m1 (tCB (rLenU K) (tCons (tVar 3) tNil)) e (.int (rows.length : Nat)) := fun e h => ev_lenM (as := rows) (f := rowRD) (ev_dat h)
  have hfmb : ∀ l : List Nat, (l.map fun i : Nat => D.int (0 + (i : Nat))).filterMap (fun d => match d with | .int x => if (rows.getD x.toNat ([], false)).2 = false then some (D.int (x + 1)) else none | _ => none) = ((l.filter fun i => !(rows.getD i ([], false)).2).map fun i : Nat => (i : Int) + 1).map D.int := by
    intro l
    induction l with
    | nil => rfl
    | cons i l ih =>
      rw [List.map_cons, List.filterMap_cons, List.filter_cons]
      dsimp only
      have e1 : (0 + (i : Int)).toNat = i := by omega
      rw [e1]
      cases hb : (rows.getD i ([], false)).2 with
      | true => simp only [Bool.not_true, Bool.false_eq_true, if_false]; exact ih
      | false =>
        simp only [Bool.not_false, if_true, List.map_cons]
        rw [ih]
        congr 2
        omega
  refine run_seq (run_asg (d := .lst (((badIx rows).map fun i : Nat => (i : Int) + 1).map D.int)) ?_ ?_)
  · refine ((ev_lcO (m := .dat) (xs := rgD 0 rows.length) (fun d => match d with | .int x => if (rows.getD x.toNat ([], false)).2 = false then some (D.int (x + 1)) else none | _ => none) ?_ (by rw [rgD_len]; exact sz (by omega)) ?_).dat).is ?_
    · exact ei_rng1 (m := .dat) (n := (rows.length : Nat)) (ea_cons (hlen _ rfl) ea_nil) (by omega) (by omega)
    · intro i d hd
      obtain ⟨hi, rfl⟩ := get_rg hd
      obtain ⟨r, hr2⟩ : ∃ r, rows[i]? = some r := ⟨_, List.getElem?_eq_getElem hi⟩
      have hgd : rows.getD (0 + (i : Int)).toNat ([], false) = r := by
        rw [show (0 + (i : Int)).toNat = i by omega, List.getD_eq_getElem?_getD, hr2]; rfl
      refine ⟨_, tg_dat, ?_⟩
      have hv : ∀ e : En, e[3]? = some (.dat (rowsRD rows)) → e[11]? = some (.dat (.int (0 + (i : Nat)))) → EvT K (tNot (tB (tOp (rIx K) (tOp (rIx K) (tVar 3) (tVar 11)) (tC (.int 1))))) e (!r.2) := fun e h3 h11 =>
        et_not (et_B (m := .now) (ev_ixT (xs := [strsD r.1, .bl r.2]) (ev_ixL (d := rowRD r) (ev_dat h3) (ev_dat h11) (atI_at (by rw [List.getElem?_map, hr2]; rfl))) ev_int (atI_nat (j := 1) rfl)))
      dsimp only
      rw [hgd]
      cases hb : r.2 with
      | false => exact .inl ⟨.int (0 + (i : Nat) + 1), (hv _ rfl rfl).is (by rw [hb]; rfl), by simp, ev_addI (ev_dat rfl) ev_int⟩
      | true => exact .inr ⟨(hv _ rfl rfl).is (by rw [hb]; rfl), by simp⟩
    · show D.lst _ = D.lst _
      congr 1
      exact hfmb (List.range rows.length)
  dsimp only [List.set]
  have hnil : Ev K .now (tLst tNil) [.bor (.rol (ns.map D.int)), .dat (rowD ps), .dat (runD ms), .dat (rowsRD rows), .dat (.str (text (ms.map Mv.words))), .own o5, .dat t6, .own o7, .dat (.str (text (rows.map (·.1)))), .dat (.lst (((badIx rows).map fun i : Nat => (i : Int) + 1).map D.int)), .no, .no] (.lst (([] : List Int).map D.int)) := ev_nil
  have hlr : ∀ (rows : List (List Str)) (te : TE) (e : En), okRows rows → Ev K .dat te e (.str (text rows)) → Ev K .now (tCall (spLr K) [] E0 (tCons te tNil)) e (readD rows) := fun rows te e h1 h => ev_call (out := readD) rows h1 (ea_cons h ea_nil)
  refine run_seq (run_ifD (p := text (rows.map (·.1)) = "" ∨ (badIx rows).map (fun i : Nat => (i : Int) + 1) = []) ((et_or (et_test (m := .now) (ev_eqS (ev_dat rfl) ev_str)) fun _ => et_test (m := .now) (ev_eqL (ev_dat rfl) hnil)).is (by rw [← Bool.decide_or])) (fun h => ?_) (fun h => run_next ?_))
  · have he := end_read hok hrw hc (h.imp id fun q => List.map_eq_nil_iff.mp q)
    refine run_ret (ev_sameR (shp_run hok) (siz_run hok (by omega)) ((hlr _ _ _ hrw.rows (ev_dat rfl)).is he) (ev_dat rfl)) rfl
  have hne : text (rows.map (·.1)) ≠ "" := fun q => h (.inl q)
  have hbn : badIx rows ≠ [] := fun q => h (.inr (by rw [q]; rfl))
  obtain ⟨i, l, hbi⟩ := List.exists_cons_of_ne_nil hbn
  have hfb := firstBad_rows hrw hbi
  have hrd : readD (rows.map (·.1)) = .tup [.str "refused", .int (i + 1 : Nat)] := by
    unfold readD; rw [if_neg hne, hfb]
  have hdue : shp 6 (.tup [.str "refused", .int (i + 1 : Nat)]) = true := by
    show (PyData.strOk "refused" && (true && true)) = true
    decide +kernel
  refine run_seq (run_ifF ((et_or (b := false) (c := false) ((et_not (et_B (m := .now) (ev_sameR hdue rfl ((hlr _ _ _ hrw.rows (ev_dat rfl)).is hrd) ((ev_tup (ed_cons ev_str (ed_cons (ev_ixL (xs := ((badIx rows).map fun i : Nat => (i : Int) + 1).map D.int) (d := .int ((i : Int) + 1)) (ev_dat rfl) ev_int (atI_nat (j := 0) (by rw [hbi]; rfl))) ed_nil)) (by walk_at "side")).is (by simp)))))) fun _ => et_not (et_B (m := .now) (ev_call (out := fun _ : List (List Str) => D.bl true) (rows.map (·.1)) ⟨hrw.rows, hne, by rw [hfb]; exact fun z => nomatch z⟩ (ea_cons (ev_dat rfl) ea_nil))))) (run_next ?_))
  exact run_ret (ev_sameR (shp_run hok) (siz_run hok (by omega)) ((hlr _ _ _ hrows (ev_dat rfl)).is (mv_readD hok)) (ev_dat rfl)) rfl
end
end Fh

set_option Elab.async false
set_option linter.all false
set_option maxRecDepth 100000
set_option maxHeartbeats 0
namespace Fh
open PySem PySem.Spec PyProof.Rows L2
/-! ### the head (printed by genend.py) -/
def dd_number_of : Dq := ⟨fun K => gA K "number_of", "number_of", "number_of", defArgs s_number_of, defBody s_number_of, defScope s_number_of, fun _ => [], fun _ => []⟩
def dd_numbers_of : Dq := ⟨fun K => gA K "numbers_of", "numbers_of", "numbers_of", defArgs s_numbers_of, defBody s_numbers_of, defScope s_numbers_of, fun _ => [], fun _ => []⟩
def dd_run_text : Dq := ⟨fun K => gA K "run_text", "run_text", "run_text", defArgs s_run_text, defBody s_run_text, defScope s_run_text, fun _ => [], fun _ => []⟩
def dd_read_move : Dq := ⟨fun K => gA K "read_move", "read_move", "read_move", defArgs s_read_move, defBody s_read_move, defScope s_read_move, fun _ => [], fun _ => []⟩
def dd_read_run : Dq := ⟨fun K => gA K "read_run", "read_run", "read_run", defArgs s_read_run, defBody s_read_run, defScope s_read_run, fun _ => [], fun _ => []⟩
def dd_l_mixed : Dq := ⟨fun K => gA K "_law_mixed", "_law_mixed", "_law_mixed", defArgs s_l_mixed, defBody s_l_mixed, defScope s_l_mixed, fun _ => [], fun _ => []⟩
def dd_l_pool : Dq := ⟨fun K => gA K "_law_pool", "_law_pool", "_law_pool", defArgs s_l_pool, defBody s_l_pool, defScope s_l_pool, fun _ => [], fun _ => []⟩
def dd_l_same : Dq := ⟨fun K => gA K "_law_same", "_law_same", "_law_same", defArgs s_l_same, defBody s_l_same, defScope s_l_same, fun _ => [], fun _ => []⟩
def dd_l_moves : Dq := ⟨fun K => gA K "_law_moves", "_law_moves", "_law_moves", defArgs s_l_moves, defBody s_l_moves, defScope s_l_moves, fun _ => [], fun _ => []⟩
def dd_l_words : Dq := ⟨fun K => gA K "_law_words", "_law_words", "_law_words", defArgs s_l_words, defBody s_l_words, defScope s_l_words, fun _ => [], fun _ => []⟩
def dd_l_joined_rows : Dq := ⟨fun K => gA K "_law_joined_rows", "_law_joined_rows", "_law_joined_rows", defArgs s_l_joined_rows, defBody s_l_joined_rows, defScope s_l_joined_rows, fun _ => [], fun _ => []⟩
def dd_l_bad_words : Dq := ⟨fun K => gA K "_law_bad_words", "_law_bad_words", "_law_bad_words", defArgs s_l_bad_words, defBody s_l_bad_words, defScope s_l_bad_words, fun _ => [], fun _ => []⟩
def dd_l_changed : Dq := ⟨fun K => gA K "_law_changed", "_law_changed", "_law_changed", defArgs s_l_changed, defBody s_l_changed, defScope s_l_changed, fun _ => [], fun _ => []⟩
def dd_l_read : Dq := ⟨fun K => gA K "_law_read", "_law_read", "_law_read", defArgs s_l_read, defBody s_l_read, defScope s_l_read, fun _ => [], fun _ => []⟩
def dd_l_pure : Dq := ⟨fun K => gA K "_law_pure", "_law_pure", "_law_pure", defArgs s_l_pure, defBody s_l_pure, defScope s_l_pure, fun _ => [], fun _ => []⟩
def dd_law : Dq := ⟨fun K => gA K "law", "law", "law", defArgs s_law, defBody s_law, defScope s_law, fun _ => [], fun _ => []⟩
def dd_BadTable__init : Dq := ⟨fun K => mA K "BadTable" "__init__", "__init__", "BadTable.__init__", defArgs s_BadTable__init, defBody s_BadTable__init, defScope s_BadTable__init, fun _ => [], fun _ => []⟩
def dd_BadText__init : Dq := ⟨fun K => mA K "BadText" "__init__", "__init__", "BadText.__init__", defArgs s_BadText__init, defBody s_BadText__init, defScope s_BadText__init, fun _ => [], fun _ => []⟩
def dd_BadStanding__init : Dq := ⟨fun K => mA K "BadStanding" "__init__", "__init__", "BadStanding.__init__", defArgs s_BadStanding__init, defBody s_BadStanding__init, defScope s_BadStanding__init, fun _ => [], fun _ => []⟩
def dd_CannotMove__init : Dq := ⟨fun K => mA K "CannotMove" "__init__", "__init__", "CannotMove.__init__", defArgs s_CannotMove__init, defBody s_CannotMove__init, defScope s_CannotMove__init, fun _ => [], fun _ => []⟩
def dd_NoSuch__init : Dq := ⟨fun K => mA K "NoSuch" "__init__", "__init__", "NoSuch.__init__", defArgs s_NoSuch__init, defBody s_NoSuch__init, defScope s_NoSuch__init, fun _ => [], fun _ => []⟩
def dd_WrongGround__init : Dq := ⟨fun K => mA K "WrongGround" "__init__", "__init__", "WrongGround.__init__", defArgs s_WrongGround__init, defBody s_WrongGround__init, defScope s_WrongGround__init, fun _ => [], fun _ => []⟩
def dd_TooGreat__init : Dq := ⟨fun K => mA K "TooGreat" "__init__", "__init__", "TooGreat.__init__", defArgs s_TooGreat__init, defBody s_TooGreat__init, defScope s_TooGreat__init, fun _ => [], fun _ => []⟩
def dd_BadVector__init : Dq := ⟨fun K => mA K "BadVector" "__init__", "__init__", "BadVector.__init__", defArgs s_BadVector__init, defBody s_BadVector__init, defScope s_BadVector__init, fun _ => [], fun _ => []⟩
def dd_NotLocal__init : Dq := ⟨fun K => mA K "NotLocal" "__init__", "__init__", "NotLocal.__init__", defArgs s_NotLocal__init, defBody s_NotLocal__init, defScope s_NotLocal__init, fun _ => [], fun _ => []⟩
def dd_BadProgram__init : Dq := ⟨fun K => mA K "BadProgram" "__init__", "__init__", "BadProgram.__init__", defArgs s_BadProgram__init, defBody s_BadProgram__init, defScope s_BadProgram__init, fun _ => [], fun _ => []⟩
def dd_InUse__init : Dq := ⟨fun K => mA K "InUse" "__init__", "__init__", "InUse.__init__", defArgs s_InUse__init, defBody s_InUse__init, defScope s_InUse__init, fun _ => [], fun _ => []⟩
def dd_AttemptFailed__init : Dq := ⟨fun K => mA K "AttemptFailed" "__init__", "__init__", "AttemptFailed.__init__", defArgs s_AttemptFailed__init, defBody s_AttemptFailed__init, defScope s_AttemptFailed__init, fun _ => [], fun _ => []⟩
def fn : List Dq := [dd_number_of, dd_numbers_of, dd_run_text, dd_read_move, dd_read_run, dd_l_mixed, dd_l_pool, dd_l_same, dd_l_moves, dd_l_words, dd_l_joined_rows, dd_l_bad_words, dd_l_changed, dd_l_read, dd_l_pure, dd_law, dd_BadTable__init, dd_BadText__init, dd_BadStanding__init, dd_CannotMove__init, dd_NoSuch__init, dd_WrongGround__init, dd_TooGreat__init, dd_BadVector__init, dd_NotLocal__init, dd_BadProgram__init, dd_InUse__init, dd_AttemptFailed__init]
def fa : List (PySem.W.Frag → Bool) := [(He.Fa.glo "number_of").ok, (He.Fa.glo "numbers_of").ok, (He.Fa.glo "run_text").ok, (He.Fa.glo "read_move").ok, (He.Fa.glo "read_run").ok, (He.Fa.glo "_law_mixed").ok, (He.Fa.glo "_law_pool").ok, (He.Fa.glo "_law_same").ok, (He.Fa.glo "_law_moves").ok, (He.Fa.glo "_law_words").ok, (He.Fa.glo "_law_joined_rows").ok, (He.Fa.glo "_law_bad_words").ok, (He.Fa.glo "_law_changed").ok, (He.Fa.glo "_law_read").ok, (He.Fa.glo "_law_pure").ok, (He.Fa.glo "law").ok, (He.Fa.free "ValueError").ok, (He.Fa.free "abs").ok, (He.Fa.free "bool").ok, (He.Fa.free "enumerate").ok, (He.Fa.free "int").ok, (He.Fa.free "isinstance").ok, (He.Fa.free "len").ok, (He.Fa.free "list").ok, (He.Fa.free "range").ok, (He.Fa.free "str").ok, (He.Fa.free "tuple").ok, (He.Fa.str "DIGITS" "0123456789").ok, ((He.Fa.glo "FullhandsError").ok), (fun K => xcB K (gA K "FullhandsError")), (fun K => PySem.W.excIn K (gA K "FullhandsError") He.veBase "ValueError.__new__"), ((He.Fa.glo "BadTable").ok), (fun K => xcB K (gA K "BadTable")), ((He.Fa.meth "BadTable" "__init__").ok), (fun K => decide (PySem.W.typeIn K (.ref (mA K "BadTable" "__init__")) = some (.type "function"))), ((He.Fa.noat "BadTable" "place").ok), ((He.Fa.noat "BadTable" "index").ok), ((He.Fa.glo "BadText").ok), (fun K => xcB K (gA K "BadText")), ((He.Fa.meth "BadText" "__init__").ok), (fun K => decide (PySem.W.typeIn K (.ref (mA K "BadText" "__init__")) = some (.type "function"))), ((He.Fa.noat "BadText" "line").ok), ((He.Fa.glo "BadStanding").ok), (fun K => xcB K (gA K "BadStanding")), ((He.Fa.meth "BadStanding" "__init__").ok), (fun K => decide (PySem.W.typeIn K (.ref (mA K "BadStanding" "__init__")) = some (.type "function"))), ((He.Fa.noat "BadStanding" "place").ok), ((He.Fa.noat "BadStanding" "index").ok), ((He.Fa.glo "CannotMove").ok), (fun K => xcB K (gA K "CannotMove")), ((He.Fa.meth "CannotMove" "__init__").ok), (fun K => decide (PySem.W.typeIn K (.ref (mA K "CannotMove" "__init__")) = some (.type "function"))), ((He.Fa.noat "CannotMove" "index").ok), ((He.Fa.noat "CannotMove" "reason").ok), ((He.Fa.glo "NoSuch").ok), (fun K => xcB K (gA K "NoSuch")), ((He.Fa.meth "NoSuch" "__init__").ok), (fun K => decide (PySem.W.typeIn K (.ref (mA K "NoSuch" "__init__")) = some (.type "function"))), ((He.Fa.noat "NoSuch" "what").ok), ((He.Fa.glo "WrongGround").ok), (fun K => xcB K (gA K "WrongGround")), ((He.Fa.meth "WrongGround" "__init__").ok), (fun K => decide (PySem.W.typeIn K (.ref (mA K "WrongGround" "__init__")) = some (.type "function"))), ((He.Fa.noat "WrongGround" "needed").ok), ((He.Fa.glo "TooGreat").ok), (fun K => xcB K (gA K "TooGreat")), ((He.Fa.meth "TooGreat" "__init__").ok), (fun K => decide (PySem.W.typeIn K (.ref (mA K "TooGreat" "__init__")) = some (.type "function"))), ((He.Fa.noat "TooGreat" "what").ok), ((He.Fa.glo "BadVector").ok), (fun K => xcB K (gA K "BadVector")), ((He.Fa.meth "BadVector" "__init__").ok), (fun K => decide (PySem.W.typeIn K (.ref (mA K "BadVector" "__init__")) = some (.type "function"))), ((He.Fa.noat "BadVector" "index").ok), ((He.Fa.glo "NotLocal").ok), (fun K => xcB K (gA K "NotLocal")), ((He.Fa.meth "NotLocal" "__init__").ok), (fun K => decide (PySem.W.typeIn K (.ref (mA K "NotLocal" "__init__")) = some (.type "function"))), ((He.Fa.noat "NotLocal" "kind").ok), ((He.Fa.glo "BadProgram").ok), (fun K => xcB K (gA K "BadProgram")), ((He.Fa.meth "BadProgram" "__init__").ok), (fun K => decide (PySem.W.typeIn K (.ref (mA K "BadProgram" "__init__")) = some (.type "function"))), ((He.Fa.noat "BadProgram" "line").ok), ((He.Fa.noat "BadProgram" "word").ok), ((He.Fa.glo "InUse").ok), (fun K => xcB K (gA K "InUse")), ((He.Fa.meth "InUse" "__init__").ok), (fun K => decide (PySem.W.typeIn K (.ref (mA K "InUse" "__init__")) = some (.type "function"))), ((He.Fa.noat "InUse" "what").ok), ((He.Fa.glo "AttemptFailed").ok), (fun K => xcB K (gA K "AttemptFailed")), ((He.Fa.meth "AttemptFailed" "__init__").ok), (fun K => decide (PySem.W.typeIn K (.ref (mA K "AttemptFailed" "__init__")) = some (.type "function"))), ((He.Fa.noat "AttemptFailed" "index").ok), ((He.Fa.glo "BadLot").ok), (fun K => xcB K (gA K "BadLot")), (fun K => PySem.W.excIn K (gA K "BadLot") He.veBase "ValueError.__new__"), ((He.Fa.glo "BadDealing").ok), (fun K => xcB K (gA K "BadDealing")), (fun K => PySem.W.excIn K (gA K "BadDealing") He.veBase "ValueError.__new__"), ((He.Fa.glo "NotCore").ok), (fun K => xcB K (gA K "NotCore")), (fun K => PySem.W.excIn K (gA K "NotCore") He.veBase "ValueError.__new__"), ((He.Fa.glo "BadLoads").ok), (fun K => xcB K (gA K "BadLoads")), (fun K => PySem.W.excIn K (gA K "BadLoads") He.veBase "ValueError.__new__"), ((He.Fa.glo "Impossible").ok), (fun K => xcB K (gA K "Impossible")), (fun K => PySem.W.excIn K (gA K "Impossible") He.veBase "ValueError.__new__"), ((He.Fa.glo "BadLine").ok), (fun K => xcB K (gA K "BadLine")), (fun K => PySem.W.excIn K (gA K "BadLine") He.veBase "ValueError.__new__"), ((He.Fa.glo "NothingToUndo").ok), (fun K => xcB K (gA K "NothingToUndo")), (fun K => PySem.W.excIn K (gA K "NothingToUndo") He.veBase "ValueError.__new__"), ((He.Fa.glo "NothingToRedo").ok), (fun K => xcB K (gA K "NothingToRedo")), (fun K => PySem.W.excIn K (gA K "NothingToRedo") He.veBase "ValueError.__new__"), ((He.Fa.glo "NUMBERS").ok), (fun K => He.valsB K (gA K "NUMBERS") [("enter", .int 1), ("pass", .int 2), ("swap", .int 4)]), (kitTab ["BadTable", "BadText", "BadStanding", "CannotMove", "NoSuch", "WrongGround", "TooGreat", "BadVector", "NotLocal", "BadProgram", "InUse", "AttemptFailed", "BadLot", "BadDealing", "NotCore", "BadLoads", "Impossible", "BadLine", "NothingToUndo", "NothingToRedo"]), (exmTab ["BadTable", "BadText", "BadStanding", "CannotMove", "NoSuch", "WrongGround", "TooGreat", "BadVector", "NotLocal", "BadProgram", "InUse", "AttemptFailed", "BadLot", "BadDealing", "NotCore", "BadLoads", "Impossible", "BadLine", "NothingToUndo", "NothingToRedo"])]
def tabs : List Tb := [(fun K => gA K "NUMBERS", ["enter", "pass", "swap"])]
theorem tx_of {w : World} {K : PySem.W.Frag} {h : Heap} {mg : Str → Option Value} (X : K.In h) (G : h.Ns mainGlobals mg) (c : Tells fa fn tabs w K) : Tx K mg w where
  d_number_of := by
    obtain ⟨fd, F⟩ := c.fun_ 0 (d := dd_number_of) rfl
    exact ⟨_, fd, F, He.glo_ok X G (c.at 0 rfl)⟩
  d_numbers_of := by
    obtain ⟨fd, F⟩ := c.fun_ 1 (d := dd_numbers_of) rfl
    exact ⟨_, fd, F, He.glo_ok X G (c.at 1 rfl)⟩
  d_run_text := by
    obtain ⟨fd, F⟩ := c.fun_ 2 (d := dd_run_text) rfl
    exact ⟨_, fd, F, He.glo_ok X G (c.at 2 rfl)⟩
  d_read_move := by
    obtain ⟨fd, F⟩ := c.fun_ 3 (d := dd_read_move) rfl
    exact ⟨_, fd, F, He.glo_ok X G (c.at 3 rfl)⟩
  d_read_run := by
    obtain ⟨fd, F⟩ := c.fun_ 4 (d := dd_read_run) rfl
    exact ⟨_, fd, F, He.glo_ok X G (c.at 4 rfl)⟩
  d_l_mixed := by
    obtain ⟨fd, F⟩ := c.fun_ 5 (d := dd_l_mixed) rfl
    exact ⟨_, fd, F, He.glo_ok X G (c.at 5 rfl)⟩
  d_l_pool := by
    obtain ⟨fd, F⟩ := c.fun_ 6 (d := dd_l_pool) rfl
    exact ⟨_, fd, F, He.glo_ok X G (c.at 6 rfl)⟩
  d_l_same := by
    obtain ⟨fd, F⟩ := c.fun_ 7 (d := dd_l_same) rfl
    exact ⟨_, fd, F, He.glo_ok X G (c.at 7 rfl)⟩
  d_l_moves := by
    obtain ⟨fd, F⟩ := c.fun_ 8 (d := dd_l_moves) rfl
    exact ⟨_, fd, F, He.glo_ok X G (c.at 8 rfl)⟩
  d_l_words := by
    obtain ⟨fd, F⟩ := c.fun_ 9 (d := dd_l_words) rfl
    exact ⟨_, fd, F, He.glo_ok X G (c.at 9 rfl)⟩
  d_l_joined_rows := by
    obtain ⟨fd, F⟩ := c.fun_ 10 (d := dd_l_joined_rows) rfl
    exact ⟨_, fd, F, He.glo_ok X G (c.at 10 rfl)⟩
  d_l_bad_words := by
    obtain ⟨fd, F⟩ := c.fun_ 11 (d := dd_l_bad_words) rfl
    exact ⟨_, fd, F, He.glo_ok X G (c.at 11 rfl)⟩
  d_l_changed := by
    obtain ⟨fd, F⟩ := c.fun_ 12 (d := dd_l_changed) rfl
    exact ⟨_, fd, F, He.glo_ok X G (c.at 12 rfl)⟩
  d_l_read := by
    obtain ⟨fd, F⟩ := c.fun_ 13 (d := dd_l_read) rfl
    exact ⟨_, fd, F, He.glo_ok X G (c.at 13 rfl)⟩
  d_l_pure := by
    obtain ⟨fd, F⟩ := c.fun_ 14 (d := dd_l_pure) rfl
    exact ⟨_, fd, F, He.glo_ok X G (c.at 14 rfl)⟩
  d_law := by
    obtain ⟨fd, F⟩ := c.fun_ 15 (d := dd_law) rfl
    exact ⟨_, fd, F, He.glo_ok X G (c.at 15 rfl)⟩
  f_ValueError := He.free_ok X G (c.at 16 rfl)
  f_abs := He.free_ok X G (c.at 17 rfl)
  f_bool := He.free_ok X G (c.at 18 rfl)
  f_enumerate := He.free_ok X G (c.at 19 rfl)
  f_int := He.free_ok X G (c.at 20 rfl)
  f_isinstance := He.free_ok X G (c.at 21 rfl)
  f_len := He.free_ok X G (c.at 22 rfl)
  f_list := He.free_ok X G (c.at 23 rfl)
  f_range := He.free_ok X G (c.at 24 rfl)
  f_str := He.free_ok X G (c.at 25 rfl)
  f_tuple := He.free_ok X G (c.at 26 rfl)
  s_DIGITS := He.str_ok X G (c.at 27 rfl)
  g_FullhandsError := He.glo_ok X G (c.at 28 (f := ((He.Fa.glo "FullhandsError").ok)) rfl)
  x_FullhandsError := xcB_ok (c.at 29 (f := (fun K => xcB K (gA K "FullhandsError"))) rfl)
  e_FullhandsError := ⟨_, c.at 30 (f := (fun K => PySem.W.excIn K (gA K "FullhandsError") He.veBase "ValueError.__new__")) rfl, rfl⟩
  g_BadTable := He.glo_ok X G (c.at 31 (f := ((He.Fa.glo "BadTable").ok)) rfl)
  x_BadTable := xcB_ok (c.at 32 (f := (fun K => xcB K (gA K "BadTable"))) rfl)
  i_BadTable := (He.meth_ok (c.at 33 (f := ((He.Fa.meth "BadTable" "__init__").ok)) rfl)).at_
  t_BadTable := of_decide_eq_true (c.at 34 (f := (fun K => decide (PySem.W.typeIn K (.ref (mA K "BadTable" "__init__")) = some (.type "function")))) rfl)
  n_BadTable_place := He.noat_ok (c.at 35 (f := ((He.Fa.noat "BadTable" "place").ok)) rfl)
  n_BadTable_index := He.noat_ok (c.at 36 (f := ((He.Fa.noat "BadTable" "index").ok)) rfl)
  g_BadText := He.glo_ok X G (c.at 37 (f := ((He.Fa.glo "BadText").ok)) rfl)
  x_BadText := xcB_ok (c.at 38 (f := (fun K => xcB K (gA K "BadText"))) rfl)
  i_BadText := (He.meth_ok (c.at 39 (f := ((He.Fa.meth "BadText" "__init__").ok)) rfl)).at_
  t_BadText := of_decide_eq_true (c.at 40 (f := (fun K => decide (PySem.W.typeIn K (.ref (mA K "BadText" "__init__")) = some (.type "function")))) rfl)
  n_BadText_line := He.noat_ok (c.at 41 (f := ((He.Fa.noat "BadText" "line").ok)) rfl)
  g_BadStanding := He.glo_ok X G (c.at 42 (f := ((He.Fa.glo "BadStanding").ok)) rfl)
  x_BadStanding := xcB_ok (c.at 43 (f := (fun K => xcB K (gA K "BadStanding"))) rfl)
  i_BadStanding := (He.meth_ok (c.at 44 (f := ((He.Fa.meth "BadStanding" "__init__").ok)) rfl)).at_
  t_BadStanding := of_decide_eq_true (c.at 45 (f := (fun K => decide (PySem.W.typeIn K (.ref (mA K "BadStanding" "__init__")) = some (.type "function")))) rfl)
  n_BadStanding_place := He.noat_ok (c.at 46 (f := ((He.Fa.noat "BadStanding" "place").ok)) rfl)
  n_BadStanding_index := He.noat_ok (c.at 47 (f := ((He.Fa.noat "BadStanding" "index").ok)) rfl)
  g_CannotMove := He.glo_ok X G (c.at 48 (f := ((He.Fa.glo "CannotMove").ok)) rfl)
  x_CannotMove := xcB_ok (c.at 49 (f := (fun K => xcB K (gA K "CannotMove"))) rfl)
  i_CannotMove := (He.meth_ok (c.at 50 (f := ((He.Fa.meth "CannotMove" "__init__").ok)) rfl)).at_
  t_CannotMove := of_decide_eq_true (c.at 51 (f := (fun K => decide (PySem.W.typeIn K (.ref (mA K "CannotMove" "__init__")) = some (.type "function")))) rfl)
  n_CannotMove_index := He.noat_ok (c.at 52 (f := ((He.Fa.noat "CannotMove" "index").ok)) rfl)
  n_CannotMove_reason := He.noat_ok (c.at 53 (f := ((He.Fa.noat "CannotMove" "reason").ok)) rfl)
  g_NoSuch := He.glo_ok X G (c.at 54 (f := ((He.Fa.glo "NoSuch").ok)) rfl)
  x_NoSuch := xcB_ok (c.at 55 (f := (fun K => xcB K (gA K "NoSuch"))) rfl)
  i_NoSuch := (He.meth_ok (c.at 56 (f := ((He.Fa.meth "NoSuch" "__init__").ok)) rfl)).at_
  t_NoSuch := of_decide_eq_true (c.at 57 (f := (fun K => decide (PySem.W.typeIn K (.ref (mA K "NoSuch" "__init__")) = some (.type "function")))) rfl)
  n_NoSuch_what := He.noat_ok (c.at 58 (f := ((He.Fa.noat "NoSuch" "what").ok)) rfl)
  g_WrongGround := He.glo_ok X G (c.at 59 (f := ((He.Fa.glo "WrongGround").ok)) rfl)
  x_WrongGround := xcB_ok (c.at 60 (f := (fun K => xcB K (gA K "WrongGround"))) rfl)
  i_WrongGround := (He.meth_ok (c.at 61 (f := ((He.Fa.meth "WrongGround" "__init__").ok)) rfl)).at_
  t_WrongGround := of_decide_eq_true (c.at 62 (f := (fun K => decide (PySem.W.typeIn K (.ref (mA K "WrongGround" "__init__")) = some (.type "function")))) rfl)
  n_WrongGround_needed := He.noat_ok (c.at 63 (f := ((He.Fa.noat "WrongGround" "needed").ok)) rfl)
  g_TooGreat := He.glo_ok X G (c.at 64 (f := ((He.Fa.glo "TooGreat").ok)) rfl)
  x_TooGreat := xcB_ok (c.at 65 (f := (fun K => xcB K (gA K "TooGreat"))) rfl)
  i_TooGreat := (He.meth_ok (c.at 66 (f := ((He.Fa.meth "TooGreat" "__init__").ok)) rfl)).at_
  t_TooGreat := of_decide_eq_true (c.at 67 (f := (fun K => decide (PySem.W.typeIn K (.ref (mA K "TooGreat" "__init__")) = some (.type "function")))) rfl)
  n_TooGreat_what := He.noat_ok (c.at 68 (f := ((He.Fa.noat "TooGreat" "what").ok)) rfl)
  g_BadVector := He.glo_ok X G (c.at 69 (f := ((He.Fa.glo "BadVector").ok)) rfl)
  x_BadVector := xcB_ok (c.at 70 (f := (fun K => xcB K (gA K "BadVector"))) rfl)
  i_BadVector := (He.meth_ok (c.at 71 (f := ((He.Fa.meth "BadVector" "__init__").ok)) rfl)).at_
  t_BadVector := of_decide_eq_true (c.at 72 (f := (fun K => decide (PySem.W.typeIn K (.ref (mA K "BadVector" "__init__")) = some (.type "function")))) rfl)
  n_BadVector_index := He.noat_ok (c.at 73 (f := ((He.Fa.noat "BadVector" "index").ok)) rfl)
  g_NotLocal := He.glo_ok X G (c.at 74 (f := ((He.Fa.glo "NotLocal").ok)) rfl)
  x_NotLocal := xcB_ok (c.at 75 (f := (fun K => xcB K (gA K "NotLocal"))) rfl)
  i_NotLocal := (He.meth_ok (c.at 76 (f := ((He.Fa.meth "NotLocal" "__init__").ok)) rfl)).at_
  t_NotLocal := of_decide_eq_true (c.at 77 (f := (fun K => decide (PySem.W.typeIn K (.ref (mA K "NotLocal" "__init__")) = some (.type "function")))) rfl)
  n_NotLocal_kind := He.noat_ok (c.at 78 (f := ((He.Fa.noat "NotLocal" "kind").ok)) rfl)
  g_BadProgram := He.glo_ok X G (c.at 79 (f := ((He.Fa.glo "BadProgram").ok)) rfl)
  x_BadProgram := xcB_ok (c.at 80 (f := (fun K => xcB K (gA K "BadProgram"))) rfl)
  i_BadProgram := (He.meth_ok (c.at 81 (f := ((He.Fa.meth "BadProgram" "__init__").ok)) rfl)).at_
  t_BadProgram := of_decide_eq_true (c.at 82 (f := (fun K => decide (PySem.W.typeIn K (.ref (mA K "BadProgram" "__init__")) = some (.type "function")))) rfl)
  n_BadProgram_line := He.noat_ok (c.at 83 (f := ((He.Fa.noat "BadProgram" "line").ok)) rfl)
  n_BadProgram_word := He.noat_ok (c.at 84 (f := ((He.Fa.noat "BadProgram" "word").ok)) rfl)
  g_InUse := He.glo_ok X G (c.at 85 (f := ((He.Fa.glo "InUse").ok)) rfl)
  x_InUse := xcB_ok (c.at 86 (f := (fun K => xcB K (gA K "InUse"))) rfl)
  i_InUse := (He.meth_ok (c.at 87 (f := ((He.Fa.meth "InUse" "__init__").ok)) rfl)).at_
  t_InUse := of_decide_eq_true (c.at 88 (f := (fun K => decide (PySem.W.typeIn K (.ref (mA K "InUse" "__init__")) = some (.type "function")))) rfl)
  n_InUse_what := He.noat_ok (c.at 89 (f := ((He.Fa.noat "InUse" "what").ok)) rfl)
  g_AttemptFailed := He.glo_ok X G (c.at 90 (f := ((He.Fa.glo "AttemptFailed").ok)) rfl)
  x_AttemptFailed := xcB_ok (c.at 91 (f := (fun K => xcB K (gA K "AttemptFailed"))) rfl)
  i_AttemptFailed := (He.meth_ok (c.at 92 (f := ((He.Fa.meth "AttemptFailed" "__init__").ok)) rfl)).at_
  t_AttemptFailed := of_decide_eq_true (c.at 93 (f := (fun K => decide (PySem.W.typeIn K (.ref (mA K "AttemptFailed" "__init__")) = some (.type "function")))) rfl)
  n_AttemptFailed_index := He.noat_ok (c.at 94 (f := ((He.Fa.noat "AttemptFailed" "index").ok)) rfl)
  g_BadLot := He.glo_ok X G (c.at 95 (f := ((He.Fa.glo "BadLot").ok)) rfl)
  x_BadLot := xcB_ok (c.at 96 (f := (fun K => xcB K (gA K "BadLot"))) rfl)
  e_BadLot := ⟨_, c.at 97 (f := (fun K => PySem.W.excIn K (gA K "BadLot") He.veBase "ValueError.__new__")) rfl, rfl⟩
  g_BadDealing := He.glo_ok X G (c.at 98 (f := ((He.Fa.glo "BadDealing").ok)) rfl)
  x_BadDealing := xcB_ok (c.at 99 (f := (fun K => xcB K (gA K "BadDealing"))) rfl)
  e_BadDealing := ⟨_, c.at 100 (f := (fun K => PySem.W.excIn K (gA K "BadDealing") He.veBase "ValueError.__new__")) rfl, rfl⟩
  g_NotCore := He.glo_ok X G (c.at 101 (f := ((He.Fa.glo "NotCore").ok)) rfl)
  x_NotCore := xcB_ok (c.at 102 (f := (fun K => xcB K (gA K "NotCore"))) rfl)
  e_NotCore := ⟨_, c.at 103 (f := (fun K => PySem.W.excIn K (gA K "NotCore") He.veBase "ValueError.__new__")) rfl, rfl⟩
  g_BadLoads := He.glo_ok X G (c.at 104 (f := ((He.Fa.glo "BadLoads").ok)) rfl)
  x_BadLoads := xcB_ok (c.at 105 (f := (fun K => xcB K (gA K "BadLoads"))) rfl)
  e_BadLoads := ⟨_, c.at 106 (f := (fun K => PySem.W.excIn K (gA K "BadLoads") He.veBase "ValueError.__new__")) rfl, rfl⟩
  g_Impossible := He.glo_ok X G (c.at 107 (f := ((He.Fa.glo "Impossible").ok)) rfl)
  x_Impossible := xcB_ok (c.at 108 (f := (fun K => xcB K (gA K "Impossible"))) rfl)
  e_Impossible := ⟨_, c.at 109 (f := (fun K => PySem.W.excIn K (gA K "Impossible") He.veBase "ValueError.__new__")) rfl, rfl⟩
  g_BadLine := He.glo_ok X G (c.at 110 (f := ((He.Fa.glo "BadLine").ok)) rfl)
  x_BadLine := xcB_ok (c.at 111 (f := (fun K => xcB K (gA K "BadLine"))) rfl)
  e_BadLine := ⟨_, c.at 112 (f := (fun K => PySem.W.excIn K (gA K "BadLine") He.veBase "ValueError.__new__")) rfl, rfl⟩
  g_NothingToUndo := He.glo_ok X G (c.at 113 (f := ((He.Fa.glo "NothingToUndo").ok)) rfl)
  x_NothingToUndo := xcB_ok (c.at 114 (f := (fun K => xcB K (gA K "NothingToUndo"))) rfl)
  e_NothingToUndo := ⟨_, c.at 115 (f := (fun K => PySem.W.excIn K (gA K "NothingToUndo") He.veBase "ValueError.__new__")) rfl, rfl⟩
  g_NothingToRedo := He.glo_ok X G (c.at 116 (f := ((He.Fa.glo "NothingToRedo").ok)) rfl)
  x_NothingToRedo := xcB_ok (c.at 117 (f := (fun K => xcB K (gA K "NothingToRedo"))) rfl)
  e_NothingToRedo := ⟨_, c.at 118 (f := (fun K => PySem.W.excIn K (gA K "NothingToRedo") He.veBase "ValueError.__new__")) rfl, rfl⟩
  g_NUMBERS := He.glo_ok X G (c.at 119 (f := ((He.Fa.glo "NUMBERS").ok)) rfl)
  kv_NUMBERS := c.at 120 (f := (fun K => He.valsB K (gA K "NUMBERS") [("enter", .int 1), ("pass", .int 2), ("swap", .int 4)])) rfl
  kit := c.at 121 (f := (kitTab ["BadTable", "BadText", "BadStanding", "CannotMove", "NoSuch", "WrongGround", "TooGreat", "BadVector", "NotLocal", "BadProgram", "InUse", "AttemptFailed", "BadLot", "BadDealing", "NotCore", "BadLoads", "Impossible", "BadLine", "NothingToUndo", "NothingToRedo"])) rfl
  exm := c.at 122 (f := (exmTab ["BadTable", "BadText", "BadStanding", "CannotMove", "NoSuch", "WrongGround", "TooGreat", "BadVector", "NotLocal", "BadProgram", "InUse", "AttemptFailed", "BadLot", "BadDealing", "NotCore", "BadLoads", "Impossible", "BadLine", "NothingToUndo", "NothingToRedo"])) rfl
  kd_NUMBERS := c.tab 0 rfl
  m_BadTable := c.fun_ 16 (d := dd_BadTable__init) rfl
  m_BadText := c.fun_ 17 (d := dd_BadText__init) rfl
  m_BadStanding := c.fun_ 18 (d := dd_BadStanding__init) rfl
  m_CannotMove := c.fun_ 19 (d := dd_CannotMove__init) rfl
  m_NoSuch := c.fun_ 20 (d := dd_NoSuch__init) rfl
  m_WrongGround := c.fun_ 21 (d := dd_WrongGround__init) rfl
  m_TooGreat := c.fun_ 22 (d := dd_TooGreat__init) rfl
  m_BadVector := c.fun_ 23 (d := dd_BadVector__init) rfl
  m_NotLocal := c.fun_ 24 (d := dd_NotLocal__init) rfl
  m_BadProgram := c.fun_ 25 (d := dd_BadProgram__init) rfl
  m_InUse := c.fun_ 26 (d := dd_InUse__init) rfl
  m_AttemptFailed := c.fun_ 27 (d := dd_AttemptFailed__init) rfl
def spLaw (K : PySem.W.Frag) : Sp := SpR K [.now] (fun ns : List Int => [.rol (ns.map D.int)]) (fun ns => ns.length ≤ 63) (fun _ d => d = .bl true)
theorem facts {P : Program} {w : World} {K : PySem.W.Frag} {h : Heap} {mg : Str → Option Value} {f : Addr} (X : K.In h) (G : h.Ns mainGlobals mg) (hfa : mg ("law" : Str) = some (.ref f)) (c : Tells fa fn tabs w K) :
    ∃ fd : FuncData, (∀ (s : Shared) (v : Value), BindsTo s fd ⟨[v], []⟩ [("script", v)]) ∧ ∀ base : Heap, K.In base → base.Ns mainGlobals mg → FnOk P w K mg base CX0 8 f fd ["script"] (spLaw K) := by
  have T : Tx K mg w := tx_of X G c
  obtain ⟨f', fd, F, e'⟩ := T.d_law
  have e := hfa.symm.trans e'
  cases e
  have b := FunD.bindsA (ps := ["script"]) F fun _ _ _ _ _ _ us hl => match us, hl with | [_], _ => rfl
  exact ⟨fd, fun s v => b s [v] rfl, fun base _ _ => fn_ok F sc_law rfl (by decide) (body_law T)⟩

theorem walkK {l : PySem.W.OpenLaw} {q : Program} {loose : List Str} {XP : (Str → Option Value) → Heap → Prop} {YP : World → Heap → Prop} {d : DefRec} {K : Params → PySem.W.Frag} (hn : l.most = some 63) (hdf : d.params.defaults = []) (hd : d.name = ("law" : Str))
    (hY : ∀ (w : World) (h : Heap), YP w h → (K w.params).In h) (c : ∀ w : World, Tells fa fn tabs w (K w.params)) :
    PySem.W.WalkO q loose XP YP l.row.toRowW d [] (fun f vs => PySem.call f vs) :=
  L2.walk_of (n := 63) (k := 8) (x := "script") (CX := fun _ => CX0) (sp := fun w => spLaw (K w.params)) hn (by decide) hdf ⟨rfl, by decide, by decide⟩ hY
    (fun w mg fa h KX G hmg => facts KX G (hd ▸ hmg) (c w))
    (fun w H a ns hl _ hS => ⟨fun _ => none, ns, (fun _ _ z => nomatch z), hl, ⟨.rol hS (iss_ints ns), trivial⟩, fun d v H' T' hd _ i => by subst hd; cases i; rfl⟩) fun _ _ _ _ _ z => z
end Fh
open PySem PySem.W PyProof.Rows
set_option maxRecDepth 100000 in
set_option maxHeartbeats 0 in
theorem PySem.Challenge.cw_fullhands_k13_run_text_back_holds : PySem.Challenge.rw_fullhands_k13_run_text_back.Holds := by
  w_on; o_law; k_head; (case hw => w_witness2)
  k_fill
  exact Fh.walkK rfl rfl rfl (fun w h Y => PySem.W.kIn_of Y) (fun w => by show Fh.see Fh.fa Fh.fn Fh.tabs _ = Fh.due Fh.fn Fh.tabs w; kernel_rfl)

