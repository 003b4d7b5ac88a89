import PyProof.Rows.All
import Wide.All
import OpenK.AllK
import Wide.FinOn
import HandS.ForMost
import HandS.ForExc
import HandS.IsInst
import HandS.Style
import HandS.Wide
import HandS.WideMore
import HandS.Defaults
import HandS.TupAny
import PySem.Challenge.RW_fullhands_k60_long_rows
import KE.KStateDown
import Lean
import HandS.Head0
import HandS.Head1
import HandS.Head2
import HandS.HeadEnd
import HandS.HeadHook1
import HandS.HeadHook2
set_option Elab.async false
set_option linter.all false
set_option maxRecDepth 100000
set_option maxHeartbeats 4000000
/-! Fh: data as a whole (D), what stands for it in the heap (Is), a frame of slots (Sat), what an expression is worth (Ev), what a statement does (Ex) -/
namespace Fh
open PySem PySem.Spec PyProof.Rows L2

/-! ### data -/
inductive D where
  | non | bl (b : Bool) | int (i : Int) | str (x : Str)
  | lst (xs : List D) | tup (xs : List D)
  | ins (C : Addr) (fs : List (Str × D))
  | raw (v : V)
  /-- a list that is only read (the script, a table of the module) -/
  | rol (xs : List D)

/-- what was there is there -/
def Le (H H' : Hp) : Prop := ∀ a o, H a = some o → H' a = some o
theorem Le.refl (H : Hp) : Le H H := fun _ _ h => h
theorem Le.trans {H H1 H2 : Hp} (a : Le H H1) (b : Le H1 H2) : Le H H2 := fun x o h => b x o (a x o h)
theorem Le.back {H H' : Hp} (e : Le H H') {l : Addr} (h : H' l = none) : H l = none := by
  cases q : H l with
  | none => rfl
  | some o => rw [e l o q] at h; cases h
theorem Le.new {H : Hp} {p : Addr} {o : HO} (h : H p = none) : Le H (upd H p o) := fun a u e => by
  rw [upd_ne (ne_of_none e h)]; exact e
theorem Le.rd {H H' : Hp} (e : Le H H') {a : Addr} {u : HO} (h : Rd H a u) : Rd H' a u := by
  rcases h with h | ⟨o, h⟩
  · exact .inl (e _ _ h)
  · exact .inr ⟨o, e _ _ h⟩
theorem Le.sqL {K : PySem.W.Frag} {H H' : Hp} {a : Addr} {xs : List V} (e : Le H H') (h : SqL K H a xs) : SqL K H' a xs := by
  rcases h with h | h
  · exact .inl (e.rd h)
  · exact .inr h
theorem Le.sqT {K : PySem.W.Frag} {H H' : Hp} {a : Addr} {xs : List V} (e : Le H H') (h : SqT K H a xs) : SqT K H' a xs := by
  rcases h with h | h
  · exact .inl (e.rd h)
  · exact .inr h

mutual
inductive Is (K : PySem.W.Frag) (H : Hp) : V → D → Prop
  | non : Is K H .non .non
  | bl (b : Bool) : Is K H (.bl b) (.bl b)
  | int (i : Int) : Is K H (.int i) (.int i)
  | str (x : Str) : Is K H (.str x) (.str x)
  | raw (v : V) : Is K H v (.raw v)
  | lst {a : Addr} {vs : List V} {ds : List D} : H a = some (.lst vs) → Iss K H vs ds → Is K H (.ref a) (.lst ds)
  | tup {a : Addr} {vs : List V} {ds : List D} : SqT K H a vs → Iss K H vs ds → Is K H (.ref a) (.tup ds)
  | rol {a : Addr} {vs : List V} {ds : List D} : SqL K H a vs → Iss K H vs ds → Is K H (.ref a) (.rol ds)
  | ins {a C dx : Addr} {fvs : List (Str × V)} {fs : List (Str × D)} : H a = some (.ins C dx fvs) → Isf K H fvs fs → Is K H (.ref a) (.ins C fs)
inductive Iss (K : PySem.W.Frag) (H : Hp) : List V → List D → Prop
  | nil : Iss K H [] []
  | cons {v : V} {vs : List V} {d : D} {ds : List D} : Is K H v d → Iss K H vs ds → Iss K H (v :: vs) (d :: ds)
inductive Isf (K : PySem.W.Frag) (H : Hp) : List (Str × V) → List (Str × D) → Prop
  | nil : Isf K H [] []
  | cons {f : Str} {v : V} {vs : List (Str × V)} {d : D} {ds : List (Str × D)} : Is K H v d → Isf K H vs ds → Isf K H ((f, v) :: vs) ((f, d) :: ds)
end

section
variable {K : PySem.W.Frag} {H H' : Hp}
mutual
theorem Is.mono (e : Le H H') : ∀ (d : D) {v : V}, Is K H v d → Is K H' v d
  | .non, _, h => by cases h; exact .non
  | .bl b, _, h => by cases h; exact .bl b
  | .int i, _, h => by cases h; exact .int i
  | .str x, _, h => by cases h; exact .str x
  | .raw v, _, h => by cases h; exact .raw v
  | .lst ds, _, h => by
    cases h with
    | lst hs ha => exact .lst (e _ _ hs) (Iss.mono e ds ha)
  | .tup ds, _, h => by
    cases h with
    | tup hs ha => exact .tup (e.sqT hs) (Iss.mono e ds ha)
  | .rol ds, _, h => by
    cases h with
    | rol hs ha => exact .rol (e.sqL hs) (Iss.mono e ds ha)
  | .ins C fs, _, h => by
    cases h with
    | ins hs ha => exact .ins (e _ _ hs) (Isf.mono e fs ha)
theorem Iss.mono (e : Le H H') : ∀ (ds : List D) {vs : List V}, Iss K H vs ds → Iss K H' vs ds
  | [], _, h => by cases h; exact .nil
  | d :: ds, _, h => by
    cases h with
    | cons h1 h2 => exact .cons (Is.mono e d h1) (Iss.mono e ds h2)
theorem Isf.mono (e : Le H H') : ∀ (ds : List (Str × D)) {vs : List (Str × V)}, Isf K H vs ds → Isf K H' vs ds
  | [], _, h => by cases h; exact .nil
  | (f, d) :: ds, _, h => by
    cases h with
    | cons h1 h2 => exact .cons (Is.mono e d h1) (Isf.mono e ds h2)
end

theorem Iss.length : ∀ {ds : List D} {vs : List V}, Iss K H vs ds → vs.length = ds.length
  | [], _, h => by cases h; rfl
  | _ :: ds, _, h => by
    cases h with
    | cons _ h2 => rw [List.length_cons, List.length_cons, h2.length]
theorem Iss.get : ∀ {ds : List D} {vs : List V} {i : Nat} {d : D}, Iss K H vs ds → ds[i]? = some d → ∃ v, vs[i]? = some v ∧ Is K H v d
  | [], _, _, _, _, e => by simp at e
  | _ :: ds, _, 0, _, h, e => by
    cases h with
    | cons h1 _ => simp at e; subst e; exact ⟨_, rfl, h1⟩
  | _ :: ds, _, i + 1, _, h, e => by
    cases h with
    | cons _ h2 =>
      obtain ⟨v, q, r⟩ := h2.get (i := i) (by simpa using e)
      exact ⟨v, by simpa using q, r⟩
theorem Iss.getV : ∀ {ds : List D} {vs : List V} {i : Nat} {v : V}, Iss K H vs ds → vs[i]? = some v → ∃ d, ds[i]? = some d ∧ Is K H v d := fun {ds vs i v} h e => by
  have hi : i < ds.length := by rw [← h.length]; exact (List.getElem?_eq_some_iff.mp e).1
  obtain ⟨u, q, r⟩ := h.get (List.getElem?_eq_getElem hi)
  rw [e] at q; cases q
  exact ⟨_, List.getElem?_eq_getElem hi, r⟩
theorem Iss.append : ∀ {ds es : List D} {vs us : List V}, Iss K H vs ds → Iss K H us es → Iss K H (vs ++ us) (ds ++ es)
  | [], _, _, _, h, g => by cases h; exact g
  | _ :: ds, _, _, _, h, g => by
    cases h with
    | cons h1 h2 => exact .cons h1 (h2.append g)
theorem Iss.set : ∀ {ds : List D} {vs : List V} (i : Nat) {v : V} {d : D}, Iss K H vs ds → Is K H v d → Iss K H (vs.set i v) (ds.set i d)
  | [], _, _, _, _, h, _ => by cases h; exact .nil
  | _ :: ds, _, 0, _, _, h, g => by
    cases h with
    | cons _ h2 => exact .cons g h2
  | _ :: ds, _, i + 1, _, _, h, g => by
    cases h with
    | cons h1 h2 => exact .cons h1 (h2.set i g)
theorem Iss.drop : ∀ {ds : List D} {vs : List V} (n : Nat), Iss K H vs ds → Iss K H (vs.drop n) (ds.drop n)
  | _, _, 0, h => h
  | [], _, n + 1, h => by cases h; exact .nil
  | _ :: ds, _, n + 1, h => by
    cases h with
    | cons _ h2 => exact h2.drop n
theorem Iss.take : ∀ {ds : List D} {vs : List V} (n : Nat), Iss K H vs ds → Iss K H (vs.take n) (ds.take n)
  | _, _, 0, _ => .nil
  | [], _, n + 1, h => by cases h; exact .nil
  | _ :: ds, _, n + 1, h => by
    cases h with
    | cons h1 h2 => exact .cons h1 (h2.take n)
theorem Iss.reverse : ∀ {ds : List D} {vs : List V}, Iss K H vs ds → Iss K H vs.reverse ds.reverse
  | [], _, h => by cases h; exact .nil
  | _ :: ds, _, h => by
    cases h with
    | cons h1 h2 =>
      rw [List.reverse_cons, List.reverse_cons]
      exact h2.reverse.append (.cons h1 .nil)
theorem Iss.dropLast {ds : List D} {vs : List V} (h : Iss K H vs ds) : Iss K H vs.dropLast ds.dropLast := by
  rw [List.dropLast_eq_take, List.dropLast_eq_take, h.length]
  exact h.take _
theorem Iss.ints : ∀ {ns : List Int} {vs : List V}, Iss K H vs (ns.map D.int) → vs = ns.map V.int
  | [], _, h => by cases h; rfl
  | n :: ns, _, h => by
    cases h with
    | cons h1 h2 => cases h1; rw [h2.ints]; rfl
theorem iss_ints : ∀ ns : List Int, Iss K H (ns.map V.int) (ns.map D.int)
  | [] => .nil
  | n :: ns => .cons (.int n) (iss_ints ns)
theorem Iss.bls : ∀ {ns : List Bool} {vs : List V}, Iss K H vs (ns.map D.bl) → vs = ns.map V.bl
  | [], _, h => by cases h; rfl
  | n :: ns, _, h => by
    cases h with
    | cons h1 h2 => cases h1; rw [h2.bls]; rfl
theorem iss_bls : ∀ ns : List Bool, Iss K H (ns.map V.bl) (ns.map D.bl)
  | [] => .nil
  | n :: ns => .cons (.bl n) (iss_bls ns)
theorem Isf.lookup : ∀ {fs : List (Str × D)} {vs : List (Str × V)} {f : Str} {d : D}, Isf K H vs fs → fs.lookup f = some d → ∃ v, vs.lookup f = some v ∧ Is K H v d
  | [], _, _, _, _, e => by simp at e
  | (g, x) :: fs, _, f, d, h, e => by
    cases h with
    | cons h1 h2 =>
      by_cases q : (f == g) = true
      · rw [List.lookup_cons, q] at e
        rw [List.lookup_cons, q]
        have e' : x = d := Option.some.inj e
        subst e'
        exact ⟨_, rfl, h1⟩
      · have q' : (f == g) = false := by simpa using q
        rw [List.lookup_cons, q'] at e
        rw [List.lookup_cons, q']
        exact h2.lookup e
theorem Isf.lookup_none : ∀ {fs : List (Str × D)} {vs : List (Str × V)} {f : Str}, Isf K H vs fs → fs.lookup f = none → vs.lookup f = none
  | [], _, _, h, e => by cases h; rfl
  | (g, x) :: fs, _, f, h, e => by
    cases h with
    | cons h1 h2 =>
      by_cases q : (f == g) = true
      · rw [List.lookup_cons, q] at e; cases e
      · have q' : (f == g) = false := by simpa using q
        rw [List.lookup_cons, q'] at e
        rw [List.lookup_cons, q']
        exact h2.lookup_none e
theorem Isf.length : ∀ {fs : List (Str × D)} {vs : List (Str × V)}, Isf K H vs fs → vs.length = fs.length
  | [], _, h => by cases h; rfl
  | _ :: fs, _, h => by
    cases h with
    | cons _ h2 => rw [List.length_cons, List.length_cons, h2.length]
def putD (f : Str) (v : D) : List (Str × D) → List (Str × D)
  | [] => [(f, v)]
  | (g, u) :: r => if g = f then (g, v) :: r else (g, u) :: putD f v r
end

/-! ### growth, slots, the frame -/
structure Gr (H T H' T' : Hp) : Prop where
  h : Le H H'
  t : Le T T'
  s : Le T' H'
  n : ∀ a o, T' a = some o → T a = none → H a = none
theorem Gr.refl {H T : Hp} (s : Le T H) : Gr H T H T := ⟨Le.refl _, Le.refl _, s, fun _ _ h h' => by rw [h] at h'; cases h'⟩
theorem Gr.trans {H T H1 T1 H2 T2 : Hp} (a : Gr H T H1 T1) (b : Gr H1 T1 H2 T2) : Gr H T H2 T2 :=
  ⟨a.h.trans b.h, a.t.trans b.t, b.s, fun x o h h' => by
    cases q : T1 x with
    | none => exact a.h.back (b.n x o h q)
    | some u => exact a.n x u q h'⟩
/-- a new object, known for good -/
theorem Gr.new {H T : Hp} {p : Addr} {o : HO} (s : Le T H) (h : H p = none) : Gr H T (upd H p o) (upd T p o) :=
  ⟨Le.new h, Le.new (s.back h), fun a u e => by
    by_cases hb : a = p
    · subst hb; rw [upd_same] at e ⊢; exact e
    · rw [upd_ne hb] at e ⊢; exact s a u e, fun a u e e' => by
    by_cases hb : a = p
    · subst hb; exact h
    · rw [upd_ne hb] at e; rw [e] at e'; cases e'⟩
/-- a new object, one's own -/
theorem Gr.own {H T : Hp} {p : Addr} {o : HO} (s : Le T H) (h : H p = none) : Gr H T (upd H p o) T :=
  ⟨Le.new h, Le.refl _, s.trans (Le.new h), fun _ _ e e' => by rw [e] at e'; cases e'⟩

inductive Md | dat | bor | now
def MIs (m : Md) (K : PySem.W.Frag) (B H T : Hp) (v : V) (d : D) : Prop := match m with
  | .dat => Is K T v d
  | .bor => Is K T v d ∨ Is K B v d
  | .now => Is K H v d
theorem MIs.now {m : Md} {K : PySem.W.Frag} {B H T : Hp} {v : V} {d : D} (h : MIs m K B H T v d) (hb : Le B H) (ht : Le T H) : Is K H v d := by
  cases m with
  | dat => exact Is.mono ht d h
  | bor => rcases h with h | h; exact Is.mono ht d h; exact Is.mono hb d h
  | now => exact h
theorem MIs.mono {m : Md} {K : PySem.W.Frag} {B H T H' T' : Hp} {v : V} {d : D} (h : MIs m K B H T v d) (hh : Le H H') (ht : Le T T') : MIs m K B H' T' v d := by
  cases m with
  | dat => exact Is.mono ht d h
  | bor => rcases h with h | h; exact .inl (Is.mono ht d h); exact .inr h
  | now => exact Is.mono hh d h
/-- of data that is no object every mode says the same -/
theorem MIs.dat {m : Md} {K : PySem.W.Frag} {B H T : Hp} {v : V} {d : D} (h : Is K T v d) (ht : Le T H) : MIs m K B H T v d := by
  cases m with
  | dat => exact h
  | bor => exact .inl h
  | now => exact Is.mono ht d h

/-- what a frame alone holds -/
inductive OD where
  | lst (xs : List D) | ins (C : Addr) (fs : List (Str × D))
def OwnAt (K : PySem.W.Frag) (H T : Hp) (a : Addr) : OD → Prop
  | .lst ds => ∃ vs, H a = some (.lst vs) ∧ Iss K T vs ds
  | .ins C fs => ∃ dx fvs, H a = some (.ins C dx fvs) ∧ Isf K T fvs fs
def OD.d : OD → D
  | .lst xs => .lst xs
  | .ins C fs => .ins C fs
theorem OwnAt.mono {K : PySem.W.Frag} {H T H' T' : Hp} {a : Addr} {o : OD} (h : OwnAt K H T a o) (hh : H' a = H a) (ht : Le T T') : OwnAt K H' T' a o := by
  cases o with
  | lst ds => obtain ⟨vs, e, i⟩ := h; exact ⟨vs, hh.trans e, Iss.mono ht ds i⟩
  | ins C fs => obtain ⟨dx, fvs, e, i⟩ := h; exact ⟨dx, fvs, hh.trans e, Isf.mono ht fs i⟩
theorem OwnAt.ex {K : PySem.W.Frag} {H T : Hp} {a : Addr} {o : OD} (h : OwnAt K H T a o) : ∃ u, H a = some u := by
  cases o with
  | lst ds => obtain ⟨vs, e, _⟩ := h; exact ⟨_, e⟩
  | ins C fs => obtain ⟨dx, fvs, e, _⟩ := h; exact ⟨_, e⟩
/-- it becomes data -/
theorem OwnAt.give {K : PySem.W.Frag} {H T : Hp} {a : Addr} {o : OD} (h : OwnAt K H T a o) (hn : T a = none) : ∃ u, H a = some u ∧ Is K (upd T a u) (.ref a) o.d := by
  cases o with
  | lst ds => obtain ⟨vs, e, i⟩ := h; exact ⟨_, e, .lst upd_same (Iss.mono (Le.new hn) ds i)⟩
  | ins C fs => obtain ⟨dx, fvs, e, i⟩ := h; exact ⟨_, e, .ins upd_same (Isf.mono (Le.new hn) fs i)⟩

inductive Sl where
  | no | dat (d : D) | bor (d : D) | own (o : OD)
def SlotOk (K : PySem.W.Frag) (B H T : Hp) (x : Option V) : Sl → Prop
  | .no => True
  | .dat d => ∃ v, x = some v ∧ Is K T v d
  | .bor d => ∃ v, x = some v ∧ (Is K T v d ∨ Is K B v d)
  | .own o => ∃ a, x = some (.ref a) ∧ B a = none ∧ T a = none ∧ OwnAt K H T a o
abbrev En := List Sl
structure Sat (K : PySem.W.Frag) (B T0 : Hp) (e : En) (σ : L2.St) (H T : Hp) : Prop where
  gr : Gr B T0 H T
  len : σ.length = e.length
  sl : ∀ (i : Nat) s, e[i]? = some s → ∃ x, σ[i]? = some x ∧ SlotOk K B H T x s
  sep : ∀ (i j : Nat) o o' (a b : Addr), i ≠ j → e[i]? = some (.own o) → e[j]? = some (.own o') → σ[i]? = some (some (V.ref a)) → σ[j]? = some (some (V.ref b)) → a ≠ b
section
variable {K : PySem.W.Frag} {B T0 H T H' T' : Hp} {e : En} {σ : L2.St}
theorem Sat.grow (s : Sat K B T0 e σ H T) (g : Gr H T H' T') : Sat K B T0 e σ H' T' := by
  refine ⟨s.gr.trans g, s.len, fun i sl h => ?_, s.sep⟩
  obtain ⟨x, hx, q⟩ := s.sl i sl h
  refine ⟨x, hx, ?_⟩
  cases sl with
  | no => trivial
  | dat d => obtain ⟨v, e1, q⟩ := q; exact ⟨v, e1, Is.mono g.t d q⟩
  | bor d =>
    obtain ⟨v, e1, q⟩ := q
    rcases q with q | q
    · exact ⟨v, e1, .inl (Is.mono g.t d q)⟩
    · exact ⟨v, e1, .inr q⟩
  | own o =>
    obtain ⟨a, e1, b1, t1, q⟩ := q
    obtain ⟨u, hu⟩ := q.ex
    refine ⟨a, e1, b1, ?_, q.mono ((g.h _ _ hu).trans hu.symm) g.t⟩
    cases z : T' a with
    | none => rfl
    | some u' =>
      have := g.n a u' z t1
      rw [hu] at this; cases this
theorem Sat.rebase (s : Sat K B T0 e σ H T) : Sat K B T e σ H T := ⟨⟨s.gr.h, Le.refl _, s.gr.s, fun _ _ h h' => by rw [h] at h'; cases h'⟩, s.len, s.sl, s.sep⟩
theorem Sat.unbase (s : Sat K B T0 e σ H T) {e' : En} {σ' : L2.St} (s' : Sat K B T e' σ' H' T') : Sat K B T0 e' σ' H' T' :=
  ⟨⟨s'.gr.h, s.gr.t.trans s'.gr.t, s'.gr.s, fun a o h h' => by
    cases q : T a with
    | none => exact s'.gr.n a o h q
    | some u => exact s.gr.n a u q h'⟩, s'.len, s'.sl, s'.sep⟩
/-- the slot i is stored: data -/
theorem Sat.set (s : Sat K B T0 e σ H T) {i : Nat} {x : V} {m : Md} {d : D} (hm : m ≠ .now) (hx : MIs m K B H T x d) : Sat K B T0 (e.set i (match m with | .dat => .dat d | _ => .bor d)) (σ.set i (some x)) H T := by
  refine ⟨s.gr, by simp [s.len], fun j sl h => ?_, fun j k o o' a b hjk h1 h2 h3 h4 => ?_⟩
  · by_cases hj : i = j
    · subst hj
      have hi : i < e.length := by
        have := (List.getElem?_eq_some_iff.mp h).1
        simpa using this
      rw [List.getElem?_set_self hi] at h
      cases h
      refine ⟨some x, by rw [List.getElem?_set_self (by rw [s.len]; exact hi)], ?_⟩
      cases m with
      | dat => exact ⟨x, rfl, hx⟩
      | bor => exact ⟨x, rfl, hx⟩
      | now => exact absurd rfl hm
    · rw [List.getElem?_set_ne hj] at h ⊢
      exact s.sl j sl h
  · have hij : i ≠ j := fun q => by
      subst q
      have hi : i < e.length := by
        have := (List.getElem?_eq_some_iff.mp h1).1
        simpa using this
      rw [List.getElem?_set_self hi] at h1
      cases m <;> cases h1
    have hik : i ≠ k := fun q => by
      subst q
      have hi : i < e.length := by
        have := (List.getElem?_eq_some_iff.mp h2).1
        simpa using this
      rw [List.getElem?_set_self hi] at h2
      cases m <;> cases h2
    rw [List.getElem?_set_ne hij] at h1 h3
    rw [List.getElem?_set_ne hik] at h2 h4
    exact s.sep j k o o' a b hjk h1 h2 h3 h4
/-- .. something of one's own -/
theorem Sat.setO (s : Sat K B T0 e σ H T) {i : Nat} {a : Addr} {o : OD} (hb : B a = none) (ht : T a = none) (ho : OwnAt K H T a o)
    (hs : ∀ (j : Nat) o' (b : Addr), i ≠ j → e[j]? = some (.own o') → σ[j]? = some (some (V.ref b)) → a ≠ b) : Sat K B T0 (e.set i (.own o)) (σ.set i (some (.ref a))) H T := by
  refine ⟨s.gr, by simp [s.len], fun j sl h => ?_, fun j k o1 o2 b c hjk h1 h2 h3 h4 => ?_⟩
  · by_cases hj : i = j
    · subst hj
      have hi : i < e.length := by
        have := (List.getElem?_eq_some_iff.mp h).1
        simpa using this
      rw [List.getElem?_set_self hi] at h
      cases h
      exact ⟨_, by rw [List.getElem?_set_self (by rw [s.len]; exact hi)], a, rfl, hb, ht, ho⟩
    · rw [List.getElem?_set_ne hj] at h ⊢
      exact s.sl j sl h
  · by_cases hij : i = j
    · subst hij
      rw [List.getElem?_set_ne hjk] at h2 h4
      have hi : i < σ.length := by
        have := (List.getElem?_eq_some_iff.mp h3).1
        simpa using this
      rw [List.getElem?_set_self hi] at h3
      cases h3
      exact hs k o2 c hjk h2 h4
    · rw [List.getElem?_set_ne hij] at h1 h3
      by_cases hik : i = k
      · subst hik
        have hi : i < σ.length := by
          have := (List.getElem?_eq_some_iff.mp h4).1
          simpa using this
        rw [List.getElem?_set_self hi] at h4
        cases h4
        exact (hs j o1 b hij h1 h3).symm
      · rw [List.getElem?_set_ne hik] at h2 h4
        exact s.sep j k o1 o2 b c hjk h1 h2 h3 h4
/-- what is at i -/
theorem Sat.own (s : Sat K B T0 e σ H T) {i : Nat} {o : OD} (h : e[i]? = some (.own o)) : ∃ a, σ[i]? = some (some (V.ref a)) ∧ B a = none ∧ T a = none ∧ OwnAt K H T a o := by
  obtain ⟨x, hx, a, e1, q⟩ := s.sl i _ h
  subst e1
  exact ⟨a, hx, q⟩
/-- one's own becomes data -/
theorem Sat.give (s : Sat K B T0 e σ H T) {i : Nat} {o : OD} (h : e[i]? = some (.own o)) : ∃ T', Le T T' ∧ Sat K B T0 (e.set i (.dat o.d)) σ H T' := by
  obtain ⟨a, hx, hb, ht, q⟩ := s.own h
  obtain ⟨u, hu, hi⟩ := q.give ht
  have hl : Le T (upd T a u) := Le.new ht
  have hi0 : i < e.length := (List.getElem?_eq_some_iff.mp h).1
  refine ⟨upd T a u, hl, ⟨s.gr.h, s.gr.t.trans hl, fun b w z => ?_, fun b w z z' => ?_⟩, by simp [s.len], fun j sl hj => ?_, fun j k o1 o2 b c hjk h1 h2 h3 h4 => ?_⟩
  · by_cases hba : b = a
    · subst hba; rw [upd_same] at z; cases z; exact hu
    · rw [upd_ne hba] at z; exact s.gr.s b w z
  · by_cases hba : b = a
    · subst hba; exact hb
    · rw [upd_ne hba] at z; exact s.gr.n b w z z'
  · by_cases hij : i = j
    · subst hij
      rw [List.getElem?_set_self hi0] at hj
      cases hj
      exact ⟨_, hx, _, rfl, hi⟩
    · rw [List.getElem?_set_ne hij] at hj
      obtain ⟨x, hx', q'⟩ := s.sl j sl hj
      refine ⟨x, hx', ?_⟩
      cases sl with
      | no => trivial
      | dat d => obtain ⟨v, e1, q⟩ := q'; exact ⟨v, e1, Is.mono hl d q⟩
      | bor d =>
        obtain ⟨v, e1, q⟩ := q'
        rcases q with q | q
        · exact ⟨v, e1, .inl (Is.mono hl d q)⟩
        · exact ⟨v, e1, .inr q⟩
      | own o' =>
        obtain ⟨b, e1, b1, t1, q⟩ := q'
        subst e1
        have hab : a ≠ b := s.sep i j o o' a b hij h hj hx hx'
        exact ⟨b, rfl, b1, by rw [upd_ne hab.symm]; exact t1, q.mono rfl hl⟩
  · have hij : i ≠ j := fun q => by
      subst q
      rw [List.getElem?_set_self hi0] at h1; cases h1
    have hik : i ≠ k := fun q => by
      subst q
      rw [List.getElem?_set_self hi0] at h2; cases h2
    rw [List.getElem?_set_ne hij] at h1
    rw [List.getElem?_set_ne hik] at h2
    exact s.sep j k o1 o2 b c hjk h1 h2 h3 h4
/-- one's own is written -/
theorem Sat.wr (s : Sat K B T0 e σ H T) {i : Nat} {o o' : OD} {a : Addr} {u : HO} (h : e[i]? = some (.own o)) (hx : σ[i]? = some (some (V.ref a))) (hu : OwnAt K (upd H a u) T a o') : Sat K B T0 (e.set i (.own o')) σ (upd H a u) T := by
  obtain ⟨a', hx', hb, ht, q⟩ := s.own h
  rw [hx] at hx'
  cases hx'
  have hi0 : i < e.length := (List.getElem?_eq_some_iff.mp h).1
  refine ⟨⟨fun b w z => ?_, s.gr.t, fun b w z => ?_, s.gr.n⟩, by simp [s.len], fun j sl hj => ?_, fun j k o1 o2 b c hjk h1 h2 h3 h4 => ?_⟩
  · rw [upd_ne (ne_of_none z hb)]; exact s.gr.h b w z
  · rw [upd_ne (ne_of_none z ht)]; exact s.gr.s b w z
  · by_cases hij : i = j
    · subst hij
      rw [List.getElem?_set_self hi0] at hj
      cases hj
      exact ⟨_, hx, a, rfl, hb, ht, hu⟩
    · rw [List.getElem?_set_ne hij] at hj
      obtain ⟨x, hx', q'⟩ := s.sl j sl hj
      refine ⟨x, hx', ?_⟩
      cases sl with
      | no => trivial
      | dat d => exact q'
      | bor d => exact q'
      | own o2 =>
        obtain ⟨b, e1, b1, t1, q⟩ := q'
        subst e1
        have hab : a ≠ b := s.sep i j o o2 a b hij h hj hx hx'
        exact ⟨b, rfl, b1, t1, q.mono (upd_ne hab.symm) (Le.refl _)⟩
  · have f : ∀ (l : Nat) (o3 : OD), (e.set i (.own o'))[l]? = some (.own o3) → ∃ o4, e[l]? = some (.own o4) := fun l o3 hl => by
      by_cases q : i = l
      · subst q; exact ⟨o, h⟩
      · rw [List.getElem?_set_ne q] at hl; exact ⟨o3, hl⟩
    obtain ⟨o3, g1⟩ := f j o1 h1
    obtain ⟨o4, g2⟩ := f k o2 h2
    exact s.sep j k o3 o4 b c hjk g1 g2 h3 h4
end
end Fh

set_option Elab.async false
set_option linter.all false
set_option maxRecDepth 100000
set_option maxHeartbeats 4000000
/-! Fh, second part: what an expression is worth, what a statement does -/
namespace Fh
open PySem PySem.Spec PyProof.Rows L2

def MIss (K : PySem.W.Frag) (B H T : Hp) : List Md → List V → List D → Prop
  | [], [], [] => True
  | m :: ms, v :: vs, d :: ds => MIs m K B H T v d ∧ MIss K B H T ms vs ds
  | _, _, _ => False

section
variable (K : PySem.W.Frag)
def Ev (m : Md) (te : TE) (e : En) (d : D) : Prop := ∀ (B T0 : Hp) (σ : L2.St) (H T : Hp), Sat K B T0 e σ H T → ∀ Q : VK, (∀ v H' T', Gr H T H' T' → MIs m K B H' T' v d → Q v H') → te σ H Q
def EvO (te : TE) (e : En) (o : OD) : Prop := ∀ (B T0 : Hp) (σ : L2.St) (H T : Hp), Sat K B T0 e σ H T → ∀ Q : VK, (∀ a H' T', Gr H T H' T' → H a = none → T' a = none → OwnAt K H' T' a o → Q (.ref a) H') → te σ H Q
def EvT (tt : TT) (e : En) (b : Bool) : Prop := ∀ (B T0 : Hp) (σ : L2.St) (H T : Hp), Sat K B T0 e σ H T → ∀ Q : Bool → Hp → Prop, (∀ H' T', Gr H T H' T' → Q b H') → tt σ H Q
def EvA (ms : List Md) (ta : TA) (e : En) (ds : List D) : Prop := ∀ (B T0 : Hp) (σ : L2.St) (H T : Hp), Sat K B T0 e σ H T → ∀ Q : List V → Hp → Prop, (∀ vs H' T', Gr H T H' T' → MIss K B H' T' ms vs ds → Q vs H') → ta σ H Q
/-- an operation on two values; on one; on a list of values -/
def RD (m1 m2 m : Md) (r : R2) (d1 d2 d : D) : Prop := ∀ (B H T : Hp) (x y : V), Le B H → Le T H → MIs m1 K B H T x d1 → MIs m2 K B H T y d2 → ∀ Q : VK, (∀ v H' T', Gr H T H' T' → MIs m K B H' T' v d → Q v H') → r x y H Q
def RDO (m1 m2 : Md) (r : R2) (d1 d2 : D) (o : OD) : Prop := ∀ (B H T : Hp) (x y : V), Le B H → Le T H → MIs m1 K B H T x d1 → MIs m2 K B H T y d2 → ∀ Q : VK, (∀ a H' T', Gr H T H' T' → H a = none → T' a = none → OwnAt K H' T' a o → Q (.ref a) H') → r x y H Q
def RL (ms : List Md) (m : Md) (r : List V → Hp → VK → Prop) (ds : List D) (d : D) : Prop := ∀ (B H T : Hp) (vs : List V), Le B H → Le T H → MIss K B H T ms vs ds → ∀ Q : VK, (∀ v H' T', Gr H T H' T' → MIs m K B H' T' v d → Q v H') → r vs H Q
def RLO (ms : List Md) (r : List V → Hp → VK → Prop) (ds : List D) (o : OD) : Prop := ∀ (B H T : Hp) (vs : List V), Le B H → Le T H → MIss K B H T ms vs ds → ∀ Q : VK, (∀ a H' T', Gr H T H' T' → H a = none → T' a = none → OwnAt K H' T' a o → Q (.ref a) H') → r vs H Q
end
theorem MIss.mono {K : PySem.W.Frag} {B H T H' T' : Hp} (hh : Le H H') (ht : Le T T') : ∀ {ms : List Md} {vs : List V} {ds : List D}, MIss K B H T ms vs ds → MIss K B H' T' ms vs ds
  | [], [], [], _ => trivial
  | _ :: _, _ :: _, _ :: _, h => ⟨h.1.mono hh ht, MIss.mono hh ht h.2⟩
  | [], [], _ :: _, h => h.elim
  | [], _ :: _, _, h => h.elim
  | _ :: _, [], _, h => h.elim
  | _ :: _, _ :: _, [], h => h.elim

section
variable {K : PySem.W.Frag} {e : En} {d d1 d2 d3 : D} {ds : List D} {te ta tb tc : TE} {tt tu : TT} {m m1 m2 : Md} {b c : Bool} {r : R2} {o : OD}
theorem Ev.is (h : Ev K m te e d) {d' : D} (q : d = d') : Ev K m te e d' := q ▸ h
theorem EvT.is (h : EvT K tt e b) {c : Bool} (q : b = c) : EvT K tt e c := q ▸ h
theorem EvO.is (h : EvO K te e o) {o' : OD} (q : o = o') : EvO K te e o' := q ▸ h
theorem Ev.up (h : Ev K .dat te e d) : Ev K m te e d := fun B T0 σ H T s Q q => h B T0 σ H T s Q fun v H' T' g i => q v H' T' g (MIs.dat i g.s)
theorem Ev.nw (h : Ev K m te e d) : Ev K .now te e d := fun B T0 σ H T s Q q => h B T0 σ H T s Q fun v H' T' g i => q v H' T' g (i.now (s.gr.h.trans g.h) g.s)
theorem EvO.dat (h : EvO K te e o) : Ev K m te e o.d := fun B T0 σ H T s Q q => h B T0 σ H T s Q fun a H' T' g hn ht ho => by
  obtain ⟨u, hu, hi⟩ := ho.give ht
  have g2 : Gr H T H' (upd T' a u) := ⟨g.h, g.t.trans (Le.new ht), fun b w z => by
    by_cases hb : b = a
    · subst hb; rw [upd_same] at z; cases z; exact hu
    · rw [upd_ne hb] at z; exact g.s b w z, fun b w z z' => by
    by_cases hb : b = a
    · subst hb; exact hn
    · rw [upd_ne hb] at z; exact g.n b w z z'⟩
  exact q _ _ _ g2 (MIs.dat hi g2.s)
/-! names, constants -/
theorem ev_dat {i : Nat} (h : e[i]? = some (.dat d)) : Ev K m (tVar i) e d := Ev.up fun B T0 σ H T s Q q => by
  obtain ⟨x, hx, v, rfl, i⟩ := s.sl i _ h
  exact ⟨v, hx, q v H T (Gr.refl s.gr.s) i⟩
theorem ev_bor {i : Nat} (h : e[i]? = some (.bor d)) : Ev K .bor (tVar i) e d := fun B T0 σ H T s Q q => by
  obtain ⟨x, hx, v, rfl, i⟩ := s.sl i _ h
  exact ⟨v, hx, q v H T (Gr.refl s.gr.s) i⟩
theorem ev_own {i : Nat} (h : e[i]? = some (.own o)) : Ev K .now (tVar i) e o.d := fun B T0 σ H T s Q q => by
  obtain ⟨a, hx, hb, ht, ho⟩ := s.own h
  refine ⟨_, hx, q _ H T (Gr.refl s.gr.s) ?_⟩
  cases o with
  | lst xs => obtain ⟨vs, e1, i⟩ := ho; exact .lst e1 (Iss.mono s.gr.s _ i)
  | ins C fs => obtain ⟨dx, fvs, e1, i⟩ := ho; exact .ins e1 (Isf.mono s.gr.s _ i)
theorem ev_int {i : Int} : Ev K m (tC (.int i)) e (.int i) := Ev.up fun B T0 σ H T s Q q => q _ H T (Gr.refl s.gr.s) (.int i)
theorem ev_bl : Ev K m (tC (.bl b)) e (.bl b) := Ev.up fun B T0 σ H T s Q q => q _ H T (Gr.refl s.gr.s) (.bl b)
theorem ev_str {x : Str} : Ev K m (tC (.str x)) e (.str x) := Ev.up fun B T0 σ H T s Q q => q _ H T (Gr.refl s.gr.s) (.str x)
theorem ev_non : Ev K m (tC .non) e .non := Ev.up fun B T0 σ H T s Q q => q _ H T (Gr.refl s.gr.s) .non
theorem ev_raw {v : V} : Ev K m (tC v) e (.raw v) := Ev.up fun B T0 σ H T s Q q => q _ H T (Gr.refl s.gr.s) (.raw v)
/-! operators -/
theorem ev_op (ha : Ev K m1 ta e d1) (hb : Ev K m2 tb e d2) (hr : RD K m1 m2 m r d1 d2 d) : Ev K m (tOp r ta tb) e d := fun B T0 σ H T s Q q =>
  ha B T0 σ H T s _ fun x H1 T1 g1 i1 => hb B T0 σ H1 T1 (s.grow g1) _ fun y H2 T2 g2 i2 =>
    hr B H2 T2 x y (((s.grow g1).grow g2).gr.h) g2.s (i1.mono g2.h g2.t) i2 _ fun v H3 T3 g3 i3 => q v H3 T3 ((g1.trans g2).trans g3) i3
theorem ev_opO (ha : Ev K m1 ta e d1) (hb : Ev K m2 tb e d2) (hr : RDO K m1 m2 r d1 d2 o) : EvO K (tOp r ta tb) e o := fun B T0 σ H T s Q q =>
  ha B T0 σ H T s _ fun x H1 T1 g1 i1 => hb B T0 σ H1 T1 (s.grow g1) _ fun y H2 T2 g2 i2 =>
    hr B H2 T2 x y (((s.grow g1).grow g2).gr.h) g2.s (i1.mono g2.h g2.t) i2 _ fun a H3 T3 g3 n1 n2 i3 => q a H3 T3 ((g1.trans g2).trans g3) ((g1.trans g2).h.back n1) n2 i3
/-- ints -/
theorem rd_I0 {g : Int → Int → V} {gd : Int → Int → D} {i j : Int} (hg : ∀ T, Is K T (g i j) (gd i j)) : RD K m1 m2 m (rI0 g) (.int i) (.int j) (gd i j) := fun B H T x y hB hT h1 h2 Q q => by
  have e1 := h1.now hB hT; have e2 := h2.now hB hT
  cases e1; cases e2
  exact ⟨i, j, rfl, rfl, q _ H T (Gr.refl hT) (MIs.dat (hg T) hT)⟩
theorem rd_I {C : Int → Int → Prop} {g : Int → Int → V} {gd : Int → Int → D} {i j : Int} (hc : C i j) (hg : ∀ T, Is K T (g i j) (gd i j)) : RD K m1 m2 m (rI C g) (.int i) (.int j) (gd i j) := fun B H T x y hB hT h1 h2 Q q => by
  have e1 := h1.now hB hT; have e2 := h2.now hB hT
  cases e1; cases e2
  exact ⟨i, j, rfl, rfl, hc, q _ H T (Gr.refl hT) (MIs.dat (hg T) hT)⟩
theorem RD.orl {r r' : R2} (h : RD K m1 m2 m r d1 d2 d) : RD K m1 m2 m (fun x y H Q => r x y H Q ∨ r' x y H Q) d1 d2 d := fun B H T x y hB hT h1 h2 Q q => .inl (h B H T x y hB hT h1 h2 Q q)
theorem RD.orr {r r' : R2} (h : RD K m1 m2 m r' d1 d2 d) : RD K m1 m2 m (fun x y H Q => r x y H Q ∨ r' x y H Q) d1 d2 d := fun B H T x y hB hT h1 h2 Q q => .inr (h B H T x y hB hT h1 h2 Q q)
/-! tests -/
theorem et_test (h : Ev K m te e (.bl b)) : EvT K (tTest te) e b := fun B T0 σ H T s Q q => h B T0 σ H T s _ fun v H1 T1 g i => by
  have i := i.now (s.gr.h.trans g.h) g.s
  cases i
  exact ⟨b, rfl, q H1 T1 g⟩
theorem et_B (h : Ev K m te e (.bl b)) : EvT K (tB te) e b := fun B T0 σ H T s Q q => h B T0 σ H T s _ fun v H1 T1 g i => by
  have i := i.now (s.gr.h.trans g.h) g.s
  cases i
  exact ⟨b, rfl, q H1 T1 g⟩
theorem et_and (h1 : EvT K tt e b) (h2 : b = true → EvT K tu e c) : EvT K (tAnd tt tu) e (b && c) := fun B T0 σ H T s Q q => h1 B T0 σ H T s _ fun H1 T1 g => by
  cases b with
  | true =>
    rw [if_pos rfl]
    exact h2 rfl B T0 σ H1 T1 (s.grow g) Q fun H2 T2 g2 => q H2 T2 (g.trans g2)
  | false =>
    rw [if_neg Bool.false_ne_true]
    exact q H1 T1 g
theorem et_or (h1 : EvT K tt e b) (h2 : b = false → EvT K tu e c) : EvT K (tOr tt tu) e (b || c) := fun B T0 σ H T s Q q => h1 B T0 σ H T s _ fun H1 T1 g => by
  cases b with
  | true =>
    rw [if_pos rfl]
    exact q H1 T1 g
  | false =>
    rw [if_neg Bool.false_ne_true]
    exact h2 rfl B T0 σ H1 T1 (s.grow g) Q fun H2 T2 g2 => q H2 T2 (g.trans g2)
theorem et_not (h : EvT K tt e b) : EvT K (tNot tt) e (!b) := fun B T0 σ H T s Q q => h B T0 σ H T s _ fun H1 T1 g => q H1 T1 g
theorem ev_andV (h1 : Ev K m1 ta e (.bl b)) (h2 : b = true → Ev K m tb e (.bl c)) : Ev K m (tAndV ta tb) e (.bl (b && c)) := fun B T0 σ H T s Q q => h1 B T0 σ H T s _ fun v H1 T1 g i => by
  have i := i.now (s.gr.h.trans g.h) g.s
  cases i
  refine ⟨b, rfl, ?_⟩
  cases b with
  | true =>
    show tb σ H1 Q
    exact h2 rfl B T0 σ H1 T1 (s.grow g) Q fun v H2 T2 g2 i2 => q v H2 T2 (g.trans g2) i2
  | false => exact q _ H1 T1 g (MIs.dat (.bl false) g.s)
theorem ev_orV (h1 : Ev K m1 ta e (.bl b)) (h2 : b = false → Ev K m tb e (.bl c)) : Ev K m (tOrV ta tb) e (.bl (b || c)) := fun B T0 σ H T s Q q => h1 B T0 σ H T s _ fun v H1 T1 g i => by
  have i := i.now (s.gr.h.trans g.h) g.s
  cases i
  refine ⟨b, rfl, ?_⟩
  cases b with
  | false =>
    show tb σ H1 Q
    exact h2 rfl B T0 σ H1 T1 (s.grow g) Q fun v H2 T2 g2 i2 => q v H2 T2 (g.trans g2) i2
  | true => exact q _ H1 T1 g (MIs.dat (.bl true) g.s)
theorem ev_notV (h1 : Ev K m1 ta e (.bl b)) : Ev K m (tNotV ta) e (.bl (!b)) := fun B T0 σ H T s Q q => h1 B T0 σ H T s _ fun v H1 T1 g i => by
  have i := i.now (s.gr.h.trans g.h) g.s
  cases i
  exact ⟨b, rfl, q _ H1 T1 g (MIs.dat (.bl (!b)) g.s)⟩
theorem ev_if (h : EvT K tt e b) (h1 : b = true → Ev K m ta e d) (h2 : b = false → Ev K m tb e d) : Ev K m (tIf tt ta tb) e d := fun B T0 σ H T s Q q => h B T0 σ H T s _ fun H1 T1 g => by
  cases b with
  | true =>
    show ta σ H1 Q
    exact h1 rfl B T0 σ H1 T1 (s.grow g) Q fun v H2 T2 g2 i2 => q v H2 T2 (g.trans g2) i2
  | false =>
    show tb σ H1 Q
    exact h2 rfl B T0 σ H1 T1 (s.grow g) Q fun v H2 T2 g2 i2 => q v H2 T2 (g.trans g2) i2
/-! argument lists, displays -/
theorem ea_nil : EvA K [] tNil e [] := fun B T0 σ H T s Q q => q [] H T (Gr.refl s.gr.s) trivial
theorem ea_cons {ms : List Md} {ta : TA} (h : Ev K m te e d) (hr : EvA K ms ta e ds) : EvA K (m :: ms) (tCons te ta) e (d :: ds) := fun B T0 σ H T s Q q =>
  h B T0 σ H T s _ fun v H1 T1 g1 i1 => hr B T0 σ H1 T1 (s.grow g1) _ fun vs H2 T2 g2 i2 => q (v :: vs) H2 T2 (g1.trans g2) ⟨i1.mono g2.h g2.t, i2⟩
def allDat : List D → List Md
  | [] => []
  | _ :: ds => .dat :: allDat ds
theorem MIss.iss {B H T : Hp} : ∀ {ds : List D} {vs : List V}, MIss K B H T (allDat ds) vs ds → Iss K T vs ds
  | [], [], _ => .nil
  | _ :: _, _ :: _, h => .cons h.1 (MIss.iss h.2)
  | [], _ :: _, h => h.elim
  | _ :: _, [], h => h.elim
def EvD (K : PySem.W.Frag) (ta : TA) (e : En) (ds : List D) : Prop := EvA K (allDat ds) ta e ds
theorem ed_nil : EvD K tNil e [] := ea_nil
theorem ed_cons {ta : TA} (h : Ev K .dat te e d) (hr : EvD K ta e ds) : EvD K (tCons te ta) e (d :: ds) := ea_cons h hr
theorem ev_tup {ta : TA} (h : EvD K ta e ds) (hl : ds.length ≤ sizeLine) : Ev K m (tTup ta) e (.tup ds) := Ev.up fun B T0 σ H T s Q q => h B T0 σ H T s _ fun vs H1 T1 g1 i1 => by
  have i := i1.iss
  refine ⟨by rw [i.length]; exact hl, fun p hp => ?_⟩
  have g2 := Gr.new (o := .tup vs) g1.s hp
  exact q _ _ _ (g1.trans g2) (.tup (SqT.of upd_same) (Iss.mono g2.t _ i))
theorem ev_lstO {ta : TA} (h : EvD K ta e ds) (hl : ds.length ≤ sizeLine) : EvO K (tLst ta) e (.lst ds) := fun B T0 σ H T s Q q => h B T0 σ H T s _ fun vs H1 T1 g1 i1 => by
  have i := i1.iss
  refine ⟨by rw [i.length]; exact hl, fun p hp => ?_⟩
  have g2 := Gr.own (o := .lst vs) g1.s hp
  exact q _ _ _ (g1.trans g2) (g1.h.back hp) (g1.s.back hp) ⟨vs, upd_same, i⟩
theorem ev_lst {ta : TA} (h : EvD K ta e ds) (hl : ds.length ≤ sizeLine) : Ev K m (tLst ta) e (.lst ds) := (ev_lstO h hl).dat
theorem evo_nil : EvO K (tLst tNil) e (.lst []) := ev_lstO ed_nil (Nat.zero_le _)
theorem ev_nil : Ev K m (tLst tNil) e (.lst []) := ev_lst ed_nil (Nat.zero_le _)
/-- a call by values -/
theorem ev_cb {ms : List Md} {ta : TA} {r : List V → Hp → VK → Prop} (h : EvA K ms ta e ds) (hr : RL K ms m r ds d) : Ev K m (tCB r ta) e d := fun B T0 σ H T s Q q =>
  h B T0 σ H T s _ fun vs H1 T1 g1 i1 => hr B H1 T1 vs (s.gr.h.trans g1.h) g1.s i1 Q fun v H2 T2 g2 i2 => q v H2 T2 (g1.trans g2) i2
theorem ev_cbO {ms : List Md} {ta : TA} {r : List V → Hp → VK → Prop} (h : EvA K ms ta e ds) (hr : RLO K ms r ds o) : EvO K (tCB r ta) e o := fun B T0 σ H T s Q q =>
  h B T0 σ H T s _ fun vs H1 T1 g1 i1 => hr B H1 T1 vs (s.gr.h.trans g1.h) g1.s i1 Q fun v H2 T2 g2 n1 n2 i2 => q v H2 T2 (g1.trans g2) (g1.h.back n1) n2 i2
end

/-! ### statements -/
structure Po where
  nx : En → Prop
  rt : D → Prop
  bk : En → Prop := fun _ => False
  ct : En → Prop := fun _ => False
  ex : Addr → Option (List (Str × D)) → Prop := fun _ _ => False
def XIs (K : PySem.W.Frag) (H T : Hp) : Option Addr → Option (List (Str × D)) → Prop
  | none, none => True
  | some d, some fs => ∃ fvs, H d = some (.xd fvs) ∧ Isf K T fvs fs
  | _, _ => False
structure Fits (K : PySem.W.Frag) (E : XK) (B T0 : Hp) (P : Po) (D : Ends) : Prop where
  nx : ∀ e σ H T, P.nx e → Sat K B T0 e σ H T → D.nx σ H
  rt : ∀ d v H T, P.rt d → Gr B T0 H T → Is K T v d → D.rt v H
  bk : ∀ e σ H T, P.bk e → Sat K B T0 e σ H T → D.bk σ H
  ct : ∀ e σ H T, P.ct e → Sat K B T0 e σ H T → D.ct σ H
  ex : ∀ C o H T od, P.ex C o → Gr B T0 H T → XIs K H T od o → E (.ref C) od H
def Run (K : PySem.W.Frag) (E : XK) (t : TS) (e : En) (P : Po) : Prop := ∀ (B T0 : Hp) (σ : L2.St) (H T : Hp) (D : Ends), Sat K B T0 e σ H T → Fits K E B T0 P D → t D σ H

section
variable {K : PySem.W.Frag} {E : XK} {e : En} {d d1 d2 d3 : D} {ds : List D} {te ta tb tc : TE} {tt tu : TT} {m m1 m2 : Md} {b c : Bool} {r : R2} {o : OD} {P : Po} {t u : TS} {i : Nat}
theorem Fits.rebase {B T0 H T : Hp} {σ : L2.St} {Ds : Ends} (s : Sat K B T0 e σ H T) (f : Fits K E B T0 P Ds) : Fits K E B T P Ds :=
  ⟨fun e' σ' H' T' p s' => f.nx e' σ' H' T' p (s.unbase s'), fun d v H' T' p g i => f.rt d v H' T' p ⟨g.h, s.gr.t.trans g.t, g.s, fun a o h h' => by
    cases q : T a with
    | none => exact g.n a o h q
    | some u => exact s.gr.n a u q h'⟩ i, fun e' σ' H' T' p s' => f.bk e' σ' H' T' p (s.unbase s'), fun e' σ' H' T' p s' => f.ct e' σ' H' T' p (s.unbase s'),
    fun C o H' T' od p g x => f.ex C o H' T' od p ⟨g.h, s.gr.t.trans g.t, g.s, fun a o h h' => by
    cases q : T a with
    | none => exact g.n a o h q
    | some u => exact s.gr.n a u q h'⟩ x⟩
theorem Run.imp {P' : Po} (h : Run K E t e P) (h1 : ∀ e, P.nx e → P'.nx e) (h2 : ∀ d, P.rt d → P'.rt d) (h3 : ∀ e, P.bk e → P'.bk e) (h4 : ∀ e, P.ct e → P'.ct e) (h5 : ∀ C o, P.ex C o → P'.ex C o) : Run K E t e P' := fun B T0 σ H T D s f =>
  h B T0 σ H T D s ⟨fun e' σ' H' T' p => f.nx e' σ' H' T' (h1 _ p), fun d v H' T' p => f.rt d v H' T' (h2 _ p), fun e' σ' H' T' p => f.bk e' σ' H' T' (h3 _ p), fun e' σ' H' T' p => f.ct e' σ' H' T' (h4 _ p), fun C o H' T' od p => f.ex C o H' T' od (h5 _ _ p)⟩
theorem run_seqM (M : En → Prop) (h : Run K E t e { P with nx := M }) (k : ∀ e', M e' → Run K E u e' P) : Run K E (tSeq t u) e P := fun B T0 σ H T D s f =>
  h B T0 σ H T { D with nx := u D } s ⟨fun e' σ' H' T' p s' => k e' p B T0 σ' H' T' D s' f, f.rt, f.bk, f.ct, f.ex⟩
theorem run_seq (h : Run K E t e { P with nx := fun e' => Run K E u e' P }) : Run K E (tSeq t u) e P := run_seqM _ h fun _ p => p
theorem run_next (h : P.nx e) : Run K E tNext e P := fun B T0 σ H T D s f => f.nx e σ H T h s
theorem run_brk (h : P.bk e) : Run K E tBreak e P := fun B T0 σ H T D s f => f.bk e σ H T h s
theorem run_cont (h : P.ct e) : Run K E tCont e P := fun B T0 σ H T D s f => f.ct e σ H T h s
theorem run_asg (h : Ev K .dat te e d) (q : P.nx (e.set i (.dat d))) : Run K E (tAsg te (gName i)) e P := fun B T0 σ H T D s f =>
  h B T0 σ H T s _ fun v H1 T1 g i1 => f.nx _ _ H1 T1 q ((s.grow g).set (m := .dat) (fun z => nomatch z) i1)
theorem run_asgB (h : Ev K .bor te e d) (q : P.nx (e.set i (.bor d))) : Run K E (tAsg te (gName i)) e P := fun B T0 σ H T D s f =>
  h B T0 σ H T s _ fun v H1 T1 g i1 => f.nx _ _ H1 T1 q ((s.grow g).set (m := .bor) (fun z => nomatch z) i1)
theorem run_asgO (h : EvO K te e o) (q : P.nx (e.set i (.own o))) : Run K E (tAsg te (gName i)) e P := fun B T0 σ H T D s f =>
  h B T0 σ H T s _ fun a H1 T1 g n1 n2 i1 => f.nx _ _ H1 T1 q ((s.grow g).setO (s.gr.h.back n1) n2 i1 fun j o' b hij hj hb z => by
    obtain ⟨b', hb', _, _, q⟩ := s.own hj
    rw [hb] at hb'
    cases hb'
    obtain ⟨w, hw⟩ := q.ex
    rw [← z, n1] at hw
    cases hw)
theorem run_drop (h : Ev K m te e d) (q : P.nx e) : Run K E (tDrop te) e P := fun B T0 σ H T D s f => h B T0 σ H T s _ fun v H1 T1 g i1 => f.nx _ _ H1 T1 q (s.grow g)
theorem run_ret (h : Ev K .dat te e d) (q : P.rt d) : Run K E (tRet te) e P := fun B T0 σ H T D s f => h B T0 σ H T s _ fun v H1 T1 g i1 => f.rt d v H1 T1 q (s.gr.trans g) i1
theorem run_retN (q : P.rt .non) : Run K E tRetN e P := fun B T0 σ H T D s f => f.rt .non _ H T q s.gr .non
theorem run_if (h : EvT K tt e b) (h1 : b = true → Run K E t e P) (h2 : b = false → Run K E u e P) : Run K E (tIfS tt t u) e P := fun B T0 σ H T D s f => h B T0 σ H T s _ fun H1 T1 g => by
  cases b with
  | true => exact h1 rfl B T0 σ H1 T1 D (s.grow g) f
  | false => exact h2 rfl B T0 σ H1 T1 D (s.grow g) f
/-- one's own becomes data -/
theorem run_give (hi : e[i]? = some (.own o)) (h : Run K E t (e.set i (.dat o.d)) P) : Run K E t e P := fun B T0 σ H T D s f => by
  obtain ⟨T', hl, s'⟩ := s.give hi
  exact h B T0 σ H T' D s' f
theorem run_retO (hi : e[i]? = some (.own o)) (q : P.rt o.d) : Run K E (tRet (tVar i)) e P := run_give hi (run_ret (ev_dat (by rw [List.getElem?_set_self (List.getElem?_eq_some_iff.mp hi).1])) q)
theorem run_augI {f : Int → Int → Int} {x y : Int} (hi : e[i]? = some (.dat (.int x))) (h : Ev K m te e (.int y)) (q : P.nx (e.set i (.dat (.int (f x y))))) : Run K E (tAug i te (ipI f)) e P := fun B T0 σ H T D s ft => by
  obtain ⟨v, hx, w, rfl, iw⟩ := s.sl i _ hi
  cases iw
  refine ⟨_, hx, h B T0 σ H T s _ fun v H1 T1 g i1 => ?_⟩
  have i2 := i1.now (s.gr.h.trans g.h) g.s
  cases i2
  exact ⟨x, y, rfl, rfl, ft.nx _ _ H1 T1 q ((s.grow g).set (m := .dat) (fun z => nomatch z) (.int _))⟩
theorem run_app {xs : List D} (hi : e[i]? = some (.own (.lst xs))) (h : Ev K .dat te e d) (hz : xs.length < sizeLine) (q : P.nx (e.set i (.own (.lst (xs ++ [d]))))) :
    Run K E (tDrop (tBM K "list" rAppend (tVar i) (tCons te tNil))) e P := fun B T0 σ H T D s f => by
  obtain ⟨a, hx, hb, ht, vs, hv, iv⟩ := s.own hi
  refine ⟨_, hx, .inl ⟨rfl, _, SqL.of hv⟩, h B T0 σ H T s _ fun v H1 T1 g i1 => ?_⟩
  refine ⟨a, vs, v, rfl, rfl, g.h _ _ hv, by rw [iv.length]; exact hz, ?_⟩
  exact f.nx _ _ _ T1 q ((s.grow g).wr hi hx ⟨vs ++ [v], upd_same, (Iss.mono g.t _ iv).append (.cons i1 .nil)⟩)
theorem ixN_len {n : Nat} {k : Int} {j : Nat} (h0 : 0 ≤ k) (h1 : k < n) (h2 : j = k.toNat) : ixN n k = some j := by
  subst h2; unfold ixN; rw [if_pos h0, if_pos h1]
/-- xs[k] = v -/
theorem run_setI {ti : TE} {xs : List D} {k : Int} {j : Nat} (hi : e[i]? = some (.own (.lst xs))) (h : Ev K .dat te e d) (hk : Ev K m ti e (.int k)) (hj : ixN xs.length k = some j) (q : P.nx (e.set i (.own (.lst (xs.set j d))))) :
    Run K E (tAsg te (gSub (tVar i) ti rSetL)) e P := fun B T0 σ H T D s f => by
  refine h B T0 σ H T s _ fun v H1 T1 g1 i1 => ?_
  have s1 := s.grow g1
  obtain ⟨a, hx, hb, ht, vs, hv, iv⟩ := s1.own hi
  refine ⟨_, hx, hk B T0 σ H1 T1 s1 _ fun w H2 T2 g2 i2 => ?_⟩
  have i3 := i2.now (s1.gr.h.trans g2.h) g2.s
  cases i3
  refine ⟨a, vs, k, j, rfl, rfl, g2.h _ _ hv, by rw [iv.length]; exact hj, ?_⟩
  exact f.nx _ _ _ T2 q ((s1.grow g2).wr hi hx ⟨vs.set j v, upd_same, (Iss.mono g2.t _ iv).set j (Is.mono g2.t d i1)⟩)
end
end Fh

set_option Elab.async false
set_option linter.all false
set_option maxRecDepth 100000
set_option maxHeartbeats 4000000
/-! Fh, third part: loops, comprehensions, defs -/
namespace Fh
open PySem PySem.Spec PyProof.Rows L2

/-! ### what is walked -/
def ItD (K : PySem.W.Frag) (B : Hp) (m : Md) (J : It) (H T : Hp) (xs : List D) : Prop :=
  ∃ S : Hp → Hp → Prop, S H T ∧ (∀ H1 T1 H2 T2, S H1 T1 → Le T1 T2 → Le B H2 → Le T2 H2 → S H2 T2) ∧
    (∀ (i : Nat) d H1 T1, S H1 T1 → xs[i]? = some d → Le B H1 → Le T1 H1 → J.go i H1 ∧ ∀ v H2, J.yld i H1 v H2 → ∃ T2, Gr H1 T1 H2 T2 ∧ MIs m K B H2 T2 v d) ∧
    (∀ (i : Nat) H1 T1, S H1 T1 → Le B H1 → Le T1 H1 → xs.length ≤ i → J.stop i H1)
def EvI (K : PySem.W.Frag) (m : Md) (wi : TI) (e : En) (xs : List D) : Prop := ∀ (B T0 : Hp) (σ : L2.St) (H T : Hp), Sat K B T0 e σ H T → ∀ R : It → Hp → Prop, (∀ J H' T', Gr H T H' T' → ItD K B m J H' T' xs → R J H') → wi σ H R
/-- a list or a tuple -/
def iSeq (K : PySem.W.Frag) (tl : TE) : TI := fun σ H R => tl σ H fun x H1 => ∃ a, x = .ref a ∧ ((∃ xs, SqL K H1 a xs ∧ R (Itl K a) H1) ∨ (∃ xs, SqT K H1 a xs ∧ R (Itt K a) H1))
theorem pi_seq {X : Cx} {tg l : Expr} {tl : TE} (hl : PE X l tl) : PI X tg l (iSeq X.K tl) := by
  refine ⟨fun pins s σ H R I h => ?_⟩
  refine thn (hl.run pins s σ H _ I h) fun v s1 ⟨x, H1, I1, r1, q1⟩ => ?_
  obtain ⟨a, e, q⟩ := q1
  subst e
  cases r1
  rcases q with ⟨xs, hq, q⟩ | ⟨xs, hq, q⟩
  · obtain ⟨its, rv, p, hz⟩ := I1.list hq
    refine wpAny_pyIter_list p.isList ?_
    refine ⟨s1.heap.objs.size, [s1.heap.objs.size], _, _, H1, rfl, I1.kept (t' := s1.toks) fun b o e => Heap.get?_push_of_some _ e, turn_list a _, ⟨_, Heap.get?_push_size _ rfl, rfl, rfl⟩, fun b hb => ?_, q⟩
    have e : b = s1.heap.objs.size := by simpa using hb
    subst e
    exact I1.fpOk (Nat.le_refl _) (I1.hok.fresh (Nat.le_refl _))
  · obtain ⟨its, rv, p, hz⟩ := I1.tuple hq
    refine wpAny_pyIter_tuple (show s1.heap.IsTuple a its.toArray from p) ?_
    refine ⟨s1.heap.objs.size, [s1.heap.objs.size], _, _, H1, rfl, I1.kept (t' := s1.toks) fun b o e => Heap.get?_push_of_some _ e, turn_tuple a _, ⟨_, Heap.get?_push_size _ rfl, rfl, rfl⟩, fun b hb => ?_, q⟩
    have e : b = s1.heap.objs.size := by simpa using hb
    subst e
    exact I1.fpOk (Nat.le_refl _) (I1.hok.fresh (Nat.le_refl _))

section
variable {K : PySem.W.Frag} {E : XK} {e : En} {d d1 d2 d3 : D} {ds xs : List D} {te ta tb tc tl : TE} {tt tu : TT} {m m1 m2 : Md} {b c : Bool} {r : R2} {o : OD} {P : Po} {t u : TS} {i : Nat}
theorem itD_list {B H T : Hp} {a : Addr} {vs : List V} {U : Hp} (hm : (m = .dat ∧ U = T) ∨ (m = .bor ∧ (U = T ∨ U = B))) (hT : Le T H) (hB : Le B H) (h : U a = some (.lst vs)) (hi : Iss K U vs xs) : ItD K B m (Itl K a) H T xs := by
  have hUT : U = T ∨ U = B := by
    rcases hm with ⟨_, q⟩ | ⟨_, q⟩
    · exact .inl q
    · exact q
  refine ⟨fun H1 T1 => Le U H1 ∧ (U = T → Le T T1), ⟨?_, fun _ => Le.refl _⟩, fun H1 T1 H2 T2 s l lb l2 => ⟨?_, fun q => (s.2 q).trans l⟩, fun i d H1 T1 s hx hB1 hT1 => ⟨⟨vs, ?_⟩, ?_⟩, fun i H1 T1 s hB1 hT1 hi' => ⟨vs, SqL.of (s.1 _ _ h), by rw [hi.length]; exact hi'⟩⟩
  · rcases hUT with q | q
    · rw [q]; exact hT
    · rw [q]; exact hB
  · rcases hUT with q | q
    · rw [q]; exact ((s.2 q).trans l).trans l2
    · rw [q]; exact lb
  · obtain ⟨v, hv, _⟩ := hi.get hx
    exact ⟨v, SqL.of (s.1 _ _ h), hv⟩
  · rintro v H2 ⟨rfl, y⟩
    obtain ⟨v', hv, iv⟩ := hi.get hx
    have := y vs (SqL.of (s.1 _ _ h))
    rw [hv] at this
    cases this
    refine ⟨T1, Gr.refl hT1, ?_⟩
    rcases hm with ⟨rfl, q⟩ | ⟨rfl, q⟩
    · exact Is.mono (q ▸ s.2 q) d (q ▸ iv)
    · rcases q with q | q
      · exact .inl (Is.mono (q ▸ s.2 q) d (q ▸ iv))
      · exact .inr (q ▸ iv)

theorem itD_tup {B H T : Hp} {a : Addr} {vs : List V} {U : Hp} (hm : (m = .dat ∧ U = T) ∨ (m = .bor ∧ (U = T ∨ U = B))) (hT : Le T H) (hB : Le B H) (h : SqT K U a vs) (hi : Iss K U vs xs) : ItD K B m (Itt K a) H T xs := by
  have hUT : U = T ∨ U = B := by
    rcases hm with ⟨_, q⟩ | ⟨_, q⟩
    · exact .inl q
    · exact q
  refine ⟨fun H1 T1 => Le U H1 ∧ (U = T → Le T T1), ⟨?_, fun _ => Le.refl _⟩, fun H1 T1 H2 T2 s l lb l2 => ⟨?_, fun q => (s.2 q).trans l⟩, fun i d H1 T1 s hx hB1 hT1 => ⟨⟨vs, ?_⟩, ?_⟩, fun i H1 T1 s hB1 hT1 hi' => ⟨vs, s.1.sqT h, by rw [hi.length]; exact hi'⟩⟩
  · rcases hUT with q | q
    · rw [q]; exact hT
    · rw [q]; exact hB
  · rcases hUT with q | q
    · rw [q]; exact ((s.2 q).trans l).trans l2
    · rw [q]; exact lb
  · obtain ⟨v, hv, _⟩ := hi.get hx
    exact ⟨v, s.1.sqT h, hv⟩
  · rintro v H2 ⟨rfl, y⟩
    obtain ⟨v', hv, iv⟩ := hi.get hx
    have := y vs (s.1.sqT h)
    rw [hv] at this
    cases this
    refine ⟨T1, Gr.refl hT1, ?_⟩
    rcases hm with ⟨rfl, q⟩ | ⟨rfl, q⟩
    · exact Is.mono (q ▸ s.2 q) d (q ▸ iv)
    · rcases q with q | q
      · exact .inl (Is.mono (q ▸ s.2 q) d (q ▸ iv))
      · exact .inr (q ▸ iv)
theorem ei_lst (hm : m ≠ .now) (h : Ev K m tl e (.lst xs)) : EvI K m (iSeq K tl) e xs := fun B T0 σ H T s R q => h B T0 σ H T s _ fun v H1 T1 g i => by
  have hB := (s.gr.h.trans g.h)
  have fin : ∀ U : Hp, ((m = .dat ∧ U = T1) ∨ (m = .bor ∧ (U = T1 ∨ U = B))) → Is K U v (.lst xs) → ∃ a, v = .ref a ∧ ((∃ xs, SqL K H1 a xs ∧ R (Itl K a) H1) ∨ (∃ xs, SqT K H1 a xs ∧ R (Itt K a) H1)) := fun U hU iu => by
    cases iu with
    | @lst a vs _ ha hi =>
      have hl : Le U H1 := by
        rcases hU with ⟨_, z⟩ | ⟨_, z | z⟩
        · rw [z]; exact g.s
        · rw [z]; exact g.s
        · rw [z]; exact hB
      exact ⟨a, rfl, .inl ⟨vs, SqL.of (hl _ _ ha), q _ H1 T1 g (itD_list hU g.s hB ha hi)⟩⟩
  cases m with
  | dat => exact fin T1 (.inl ⟨rfl, rfl⟩) i
  | bor =>
    rcases i with i | i
    · exact fin T1 (.inr ⟨rfl, .inl rfl⟩) i
    · exact fin B (.inr ⟨rfl, .inr rfl⟩) i
  | now => exact absurd rfl hm
theorem ei_tup (hm : m ≠ .now) (h : Ev K m tl e (.tup xs)) : EvI K m (iSeq K tl) e xs := fun B T0 σ H T s R q => h B T0 σ H T s _ fun v H1 T1 g i => by
  have hB := (s.gr.h.trans g.h)
  have fin : ∀ U : Hp, ((m = .dat ∧ U = T1) ∨ (m = .bor ∧ (U = T1 ∨ U = B))) → Is K U v (.tup xs) → ∃ a, v = .ref a ∧ ((∃ xs, SqL K H1 a xs ∧ R (Itl K a) H1) ∨ (∃ xs, SqT K H1 a xs ∧ R (Itt K a) H1)) := fun U hU iu => by
    cases iu with
    | @tup a vs _ ha hi =>
      have hl : Le U H1 := by
        rcases hU with ⟨_, z⟩ | ⟨_, z | z⟩
        · rw [z]; exact g.s
        · rw [z]; exact g.s
        · rw [z]; exact hB
      exact ⟨a, rfl, .inr ⟨vs, hl.sqT ha, q _ H1 T1 g (itD_tup hU g.s hB ha hi)⟩⟩
  cases m with
  | dat => exact fin T1 (.inl ⟨rfl, rfl⟩) i
  | bor =>
    rcases i with i | i
    · exact fin T1 (.inr ⟨rfl, .inl rfl⟩) i
    · exact fin B (.inr ⟨rfl, .inr rfl⟩) i
  | now => exact absurd rfl hm
/-- lo, lo + 1, .. -/
def rgD (lo : Int) (n : Nat) : List D := (List.range n).map fun i => D.int (lo + (i : Nat))
theorem rgD_len (lo : Int) (n : Nat) : (rgD lo n).length = n := by unfold rgD; simp
theorem rgD_get {lo : Int} {n i : Nat} (h : i < n) : (rgD lo n)[i]? = some (.int (lo + (i : Nat))) := by
  unfold rgD; rw [List.getElem?_map, List.getElem?_range h]; rfl
theorem itD_rng {B H T : Hp} {lo : Int} {n : Nat} : ItD K B .dat (Itr lo n) H T (rgD lo n) := by
  refine ⟨fun _ _ => True, trivial, fun _ _ _ _ _ _ _ _ => trivial, fun i d H1 T1 _ hx hB1 hT1 => ?_, fun i H1 T1 _ _ _ hi => by rw [rgD_len] at hi; exact hi⟩
  have hi : i < n := by
    have := (List.getElem?_eq_some_iff.mp hx).1
    rwa [rgD_len] at this
  rw [rgD_get hi] at hx
  cases hx
  exact ⟨hi, fun v H2 ⟨e1, e2⟩ => by subst e1; subst e2; exact ⟨T1, Gr.refl hT1, .int _⟩⟩
theorem ei_rng1 {ta : TA} {n : Int} (h : EvA K [m] ta e [.int n]) (h1 : -(2 ^ 62) ≤ n) (h2 : n < 2 ^ 62) : EvI K .dat (iRng1 ta) e (rgD 0 n.toNat) := fun B T0 σ H T s R q => h B T0 σ H T s _ fun vs H1 T1 g i => by
  match vs, i with
  | [v], i =>
    have i1 := i.1.now (s.gr.h.trans g.h) g.s
    cases i1
    exact ⟨n, rfl, h1, h2, q _ H1 T1 g itD_rng⟩
theorem ei_rng2 {ta : TA} {lo n : Int} (h : EvA K [m1, m2] ta e [.int lo, .int n]) (hb : -(2 ^ 62) ≤ lo ∧ lo < 2 ^ 62 ∧ -(2 ^ 62) ≤ n ∧ n < 2 ^ 62) : EvI K .dat (iRng2 ta) e (rgD lo (n - lo).toNat) := fun B T0 σ H T s R q => h B T0 σ H T s _ fun vs H1 T1 g i => by
  match vs, i with
  | [v, w], i =>
    have i1 := i.1.now (s.gr.h.trans g.h) g.s
    have i2 := i.2.1.now (s.gr.h.trans g.h) g.s
    cases i1
    cases i2
    exact ⟨lo, n, rfl, hb, q _ H1 T1 g itD_rng⟩

/-! ### targets -/
/-- the frame's names but those of vs are as they were -/
def SameBut (vs : List Nat) (σ σ' : L2.St) : Prop := σ'.length = σ.length ∧ ∀ j, j ∉ vs → σ'[j]? = σ[j]?
def Tg (K : PySem.W.Frag) (vs : List Nat) (m : Md) (g : TG) (d : D) (e e' : En) : Prop := ∀ (B T0 : Hp) (σ : L2.St) (H T : Hp) (v : V), Sat K B T0 e σ H T → MIs m K B H T v d → ∀ Q : L2.St → Hp → Prop, (∀ σ', Sat K B T0 e' σ' H T → SameBut vs σ σ' → Q σ' H) → g v σ H Q
theorem sb_set {σ : L2.St} {x : Option V} {vs : List Nat} (h : i ∈ vs) : SameBut vs σ (σ.set i x) := ⟨by simp, fun j hj => List.getElem?_set_ne fun q => hj (by rw [← q]; exact h)⟩
theorem SameBut.trans {vs : List Nat} {σ σ1 σ2 : L2.St} (a : SameBut vs σ σ1) (b : SameBut vs σ1 σ2) : SameBut vs σ σ2 := ⟨b.1.trans a.1, fun j h => (b.2 j h).trans (a.2 j h)⟩
theorem tg_dat {vs : List Nat} (h : i ∈ vs := by simp) : Tg K vs .dat (gName i) d e (e.set i (.dat d)) := fun B T0 σ H T v s hv Q q => q _ (s.set (m := .dat) (fun z => nomatch z) hv) (sb_set h)
theorem tg_bor {vs : List Nat} (h : i ∈ vs := by simp) : Tg K vs .bor (gName i) d e (e.set i (.bor d)) := fun B T0 σ H T v s hv Q q => q _ (s.set (m := .bor) (fun z => nomatch z) hv) (sb_set h)
def Tgs (K : PySem.W.Frag) (vs : List Nat) (m : Md) (g : TGs) (ds : List D) (e e' : En) : Prop := ∀ (B T0 : Hp) (σ : L2.St) (H T U : Hp) (ws : List V), Sat K B T0 e σ H T → Iss K U ws ds → (m = .dat → Le U T) → (m = .bor → Le U T ∨ Le U B) → ∀ Q : L2.St → Hp → Prop, (∀ σ', Sat K B T0 e' σ' H T → SameBut vs σ σ' → Q σ' H) → g ws σ H Q
theorem tgs_nil {vs : List Nat} : Tgs K vs m gNil [] e e := fun B T0 σ H T U vs s hv _ _ Q q => by
  cases hv
  exact ⟨rfl, q σ s ⟨rfl, fun _ _ => rfl⟩⟩
theorem tgs_cons {vs : List Nat} (hm : m ≠ .now) {g : TG} {gs : TGs} {e1 e2 : En} (h : Tg K vs m g d e e1) (hr : Tgs K vs m gs ds e1 e2) : Tgs K vs m (gCons g gs) (d :: ds) e e2 := fun B T0 σ H T U ws s hv l1 l2 Q q => by
  cases hv with
  | @cons v ws _ _ iv ivs =>
    refine ⟨v, ws, rfl, h B T0 σ H T v s ?_ _ fun σ1 s1 b1 => hr B T0 σ1 H T U ws s1 ivs l1 l2 Q fun σ' s' b2 => q σ' s' (b1.trans b2)⟩
    cases m with
    | dat => exact Is.mono (l1 rfl) d iv
    | bor =>
      rcases l2 rfl with z | z
      · exact .inl (Is.mono z d iv)
      · exact .inr (Is.mono z d iv)
    | now => exact absurd rfl hm
theorem tg_tup {vs : List Nat} (hm : m ≠ .now) {gs : TGs} {n : Nat} {e2 : En} (h : Tgs K vs m gs ds e e2) (hn : ds.length = n) : Tg K vs m (gTup K n gs) (.tup ds) e e2 := fun B T0 σ H T v s hv Q q => by
  have fin : ∀ U : Hp, (m = .dat → Le U T) → (m = .bor → Le U T ∨ Le U B) → Le U H → Is K U v (.tup ds) → ∃ a xs, v = .ref a ∧ SqT K H a xs ∧ xs.length = n ∧ gs xs σ H Q := fun U h1 h2 h3 iu => by
    cases iu with
    | @tup a vs _ ha hi => exact ⟨a, vs, rfl, h3.sqT ha, by rw [hi.length]; exact hn, h B T0 σ H T U vs s hi h1 h2 Q q⟩
  cases m with
  | dat => exact fin T (fun _ => Le.refl _) (fun z => nomatch z) s.gr.s hv
  | bor =>
    rcases hv with i | i
    · exact fin T (fun z => nomatch z) (fun _ => .inl (Le.refl _)) s.gr.s i
    · exact fin B (fun z => nomatch z) (fun _ => .inr (Le.refl _)) s.gr.h i
  | now => exact absurd rfl hm

theorem dat_now : Md.dat ≠ .now := fun z => nomatch z
theorem bor_now : Md.bor ≠ .now := fun z => nomatch z
theorem tg_2 {vs : List Nat} {i j : Nat} (hi : i ∈ vs := by simp) (hj : j ∈ vs := by simp) : Tg K vs .dat (gTup K 2 (gCons (gName i) (gCons (gName j) gNil))) (.tup [d1, d2]) e ((e.set i (.dat d1)).set j (.dat d2)) :=
  tg_tup dat_now (tgs_cons dat_now (tg_dat hi) (tgs_cons dat_now (tg_dat hj) tgs_nil)) rfl
theorem tg_2b {vs : List Nat} {i j : Nat} (hi : i ∈ vs := by simp) (hj : j ∈ vs := by simp) : Tg K vs .bor (gTup K 2 (gCons (gName i) (gCons (gName j) gNil))) (.tup [d1, d2]) e ((e.set i (.bor d1)).set j (.bor d2)) :=
  tg_tup bor_now (tgs_cons bor_now (tg_bor hi) (tgs_cons bor_now (tg_bor hj) tgs_nil)) rfl
theorem tg_3 {vs : List Nat} {i j k : Nat} (hi : i ∈ vs := by simp) (hj : j ∈ vs := by simp) (hk : k ∈ vs := by simp) : Tg K vs .dat (gTup K 3 (gCons (gName i) (gCons (gName j) (gCons (gName k) gNil)))) (.tup [d1, d2, d3]) e (((e.set i (.dat d1)).set j (.dat d2)).set k (.dat d3)) :=
  tg_tup dat_now (tgs_cons dat_now (tg_dat hi) (tgs_cons dat_now (tg_dat hj) (tgs_cons dat_now (tg_dat hk) tgs_nil))) rfl

/-! ### for, while -/
theorem run_for {wi : TI} {g : TG} {tb : TS} (hi : EvI K m wi e xs) (I : Nat → En → Prop) (h0 : I 0 e)
    (hs : ∀ (i : Nat) d e, xs[i]? = some d → I i e → ∃ e' vs, Tg K vs m g d e e' ∧ Run K E tb e' { P with nx := I (i + 1), ct := I (i + 1), bk := P.nx }) (hd : ∀ e, I xs.length e → P.nx e) : Run K E (tFor wi g tb) e P := fun B T0 σ H T D s f =>
  hi B T0 σ H T s _ fun J H1 T1 g1 hJ => by
    obtain ⟨S, hS, st, go, stop⟩ := hJ
    have s1 := s.grow g1
    refine ⟨fun i m σ H => m = xs.length - i ∧ i ≤ xs.length ∧ ∃ e T, I i e ∧ Sat K B T0 e σ H T ∧ S H T, ⟨xs.length, by simp, Nat.zero_le _, e, T1, h0, s1, hS⟩, ?_⟩
    rintro i m' σ2 H2 ⟨rfl, hle, e2, T2, hI, s2, hS2⟩
    by_cases hlt : i < xs.length
    · have hx : xs[i]? = some xs[i] := List.getElem?_eq_getElem hlt
      obtain ⟨hgo, hy⟩ := go i _ H2 T2 hS2 hx s2.gr.h s2.gr.s
      refine .inr ⟨hgo, fun σ' H' => ∃ e T, I (i + 1) e ∧ Sat K B T0 e σ' H' T ∧ S H' T, fun σ' H' q => ⟨xs.length - (i + 1), by omega, rfl, hlt, q⟩, fun v H3 y => ?_⟩
      obtain ⟨T3, g3, iv⟩ := hy v H3 y
      have s3 := s2.grow g3
      obtain ⟨e4, vs4, htg, hrun⟩ := hs i _ e2 hx hI
      refine htg B T0 σ2 H3 T3 v s3 iv _ fun σ4 s4 _ => ?_
      have hS3 : S H3 T3 := st _ _ _ _ hS2 g3.t s3.gr.h s3.gr.s
      refine hrun B T3 σ4 H3 T3 _ s4.rebase ⟨fun e' σ' H' T' p s' => ⟨e', T', p, s4.unbase s', st _ _ _ _ hS3 s'.gr.t s'.gr.h s'.gr.s⟩, fun d v H' T' p g i => (Fits.rebase s4 f).rt d v H' T' p g i,
        fun e' σ' H' T' p s' => f.nx e' σ' H' T' p (s4.unbase s'), fun e' σ' H' T' p s' => ⟨e', T', p, s4.unbase s', st _ _ _ _ hS3 s'.gr.t s'.gr.h s'.gr.s⟩, fun C o H' T' od p g x => (Fits.rebase s4 f).ex C o H' T' od p g x⟩
    · have e0 : i = xs.length := by omega
      subst e0
      exact .inl ⟨stop _ H2 T2 hS2 s2.gr.h s2.gr.s (Nat.le_refl _), f.nx e2 σ2 H2 T2 (hd e2 hI) s2⟩
theorem run_while {tc : TT} {tb : TS} (I : Nat → En → Prop) (n0 : Nat) (h0 : I n0 e)
    (hs : ∀ n e, I n e → ∃ b, EvT K tc e b ∧ (b = true → Run K E tb e { P with nx := fun e' => ∃ n', n' < n ∧ I n' e', ct := fun e' => ∃ n', n' < n ∧ I n' e', bk := P.nx }) ∧ (b = false → P.nx e)) : Run K E (tWhile tc tb) e P := fun B T0 σ H T D s f => by
  refine ⟨fun n σ H => ∃ e T, I n e ∧ Sat K B T0 e σ H T, ⟨n0, e, T, h0, s⟩, ?_⟩
  rintro n σ2 H2 ⟨e2, T2, hI, s2⟩
  obtain ⟨b, ht, hb, hn⟩ := hs n e2 hI
  refine ht B T0 σ2 H2 T2 s2 _ fun H3 T3 g => ?_
  have s3 := s2.grow g
  cases b with
  | true =>
    rw [if_pos rfl]
    refine ⟨fun σ' H' => ∃ n', n' < n ∧ ∃ e T, I n' e ∧ Sat K B T0 e σ' H' T, fun σ' H' ⟨n', hn', q⟩ => ⟨n', hn', q⟩, ?_⟩
    exact hb rfl B T0 σ2 H3 T3 _ s3 ⟨fun e' σ' H' T' ⟨n', hn', p⟩ s' => ⟨n', hn', e', T', p, s'⟩, f.rt, f.nx, fun e' σ' H' T' ⟨n', hn', p⟩ s' => ⟨n', hn', e', T', p, s'⟩, f.ex⟩
  | false =>
    rw [if_neg Bool.false_ne_true]
    exact f.nx e2 σ2 H3 T3 (hn rfl) s3

/-! ### comprehensions -/
def wipeE (e : En) : List Nat → En
  | [] => e
  | v :: vs => (wipeE e vs).set v .no
theorem Sat.no {B T0 H T : Hp} {σ : L2.St} (s : Sat K B T0 e σ H T) (i : Nat) (x : Option V) : Sat K B T0 (e.set i .no) (σ.set i x) H T := by
  refine ⟨s.gr, by simp [s.len], fun j sl h => ?_, fun j k o o' a b hjk h1 h2 h3 h4 => ?_⟩
  · by_cases hj : i = j
    · subst hj
      have hi : i < e.length := by
        have := (List.getElem?_eq_some_iff.mp h).1
        simpa using this
      rw [List.getElem?_set_self hi] at h
      cases h
      exact ⟨x, by rw [List.getElem?_set_self (by rw [s.len]; exact hi)], trivial⟩
    · rw [List.getElem?_set_ne hj] at h ⊢
      exact s.sl j sl h
  · have f : ∀ (l : Nat) (o : OD), (e.set i .no)[l]? = some (.own o) → i ≠ l := fun l o hl q => by
      subst q
      have hi : i < e.length := by
        have := (List.getElem?_eq_some_iff.mp hl).1
        simpa using this
      rw [List.getElem?_set_self hi] at hl; cases hl
    have f1 := f j o h1
    have f2 := f k o' h2
    rw [List.getElem?_set_ne f1] at h1 h3
    rw [List.getElem?_set_ne f2] at h2 h4
    exact s.sep j k o o' a b hjk h1 h2 h3 h4
theorem Sat.wipe {B T0 H T : Hp} {σ : L2.St} (s : Sat K B T0 e σ H T) : ∀ vs : List Nat, Sat K B T0 (wipeE e vs) (wipe σ vs) H T
  | [] => s
  | v :: vs => (Sat.wipe s vs).no v none
theorem wipe_get {σ : L2.St} : ∀ {vs : List Nat} {j : Nat}, j ∉ vs → (wipe σ vs)[j]? = σ[j]?
  | [], _, _ => rfl
  | v :: vs, j, h => by
    unfold wipe
    rw [List.getElem?_set_ne (fun q => h (by simp [q]))]
    exact wipe_get fun q => h (by simp [q])
theorem wipe_at {σ : L2.St} : ∀ {vs : List Nat} {j : Nat}, j ∈ vs → j < σ.length → (wipe σ vs)[j]? = some none
  | v :: vs, j, h, hl => by
    unfold wipe
    by_cases q : v = j
    · subst q
      rw [List.getElem?_set_self (by rw [wipe_length]; exact hl)]
    · rw [List.getElem?_set_ne q]
      exact wipe_at (by rcases List.mem_cons.mp h with z | z; exact absurd z.symm q; exact z) hl
theorem wipe_same {vs : List Nat} {σ σ' : L2.St} (h : SameBut vs σ σ') : wipe σ' vs = wipe σ vs := by
  apply List.ext_getElem?
  intro j
  by_cases hj : j ∈ vs
  · by_cases hl : j < σ.length
    · rw [wipe_at hj hl, wipe_at hj (by rw [h.1]; exact hl)]
    · rw [List.getElem?_eq_none (by rw [wipe_length, h.1]; omega), List.getElem?_eq_none (by rw [wipe_length]; omega)]
  · rw [wipe_get hj, wipe_get hj]; exact h.2 j hj

def rem (H : Hp) (a : Addr) : Hp := fun b => if b = a then none else H b
theorem rem_at {H : Hp} {a : Addr} : rem H a a = none := by unfold rem; rw [if_pos rfl]
theorem rem_ne {H : Hp} {a b : Addr} (h : b ≠ a) : rem H a b = H b := by unfold rem; rw [if_neg h]
theorem upd_rem {H : Hp} {a : Addr} {o : HO} : upd (rem H a) a o = upd H a o := by
  funext b; unfold upd rem; split <;> rfl
theorem upd_get {H : Hp} {a : Addr} {o : HO} (h : H a = some o) : upd (rem H a) a o = H := by
  funext b
  by_cases q : b = a
  · subst q; rw [upd_same, h]
  · rw [upd_ne q, rem_ne q]
theorem gr_rem {H T H4 T4 : Hp} {a : Addr} {o : HO} (hm : H a = none) (hT : Le T H) (g : Gr (upd H a o) T H4 T4) : Gr H T (rem H4 a) T4 ∧ H4 a = some o ∧ T4 a = none := by
  have h4 : H4 a = some o := g.h _ _ upd_same
  have t4 : T4 a = none := by
    cases q : T4 a with
    | none => rfl
    | some u =>
      have := g.n a u q (hT.back hm)
      rw [upd_same] at this; cases this
  refine ⟨⟨fun b w z => ?_, g.t, fun b w z => ?_, fun b w z z' => ?_⟩, h4, t4⟩
  · have hb := ne_of_none z hm
    rw [rem_ne hb]
    exact g.h _ _ (by rw [upd_ne hb]; exact z)
  · have hb := ne_of_none z t4
    rw [rem_ne hb]
    exact g.s _ _ z
  · have hb := ne_of_none z t4
    have := g.n b w z z'
    rwa [upd_ne hb] at this
theorem filterMap_take {α β : Type} (F : α → Option β) {xs : List α} {i : Nat} {x : α} (h : xs[i]? = some x) : (xs.take (i + 1)).filterMap F = (xs.take i).filterMap F ++ (match F x with | some y => [y] | none => []) := by
  have e : xs.take (i + 1) = xs.take i ++ [x] := by
    rw [List.take_add_one, h]; rfl
  rw [e, List.filterMap_append]
  congr 1
  rw [List.filterMap_cons]
  cases F x <;> rfl
/-- [elt for target in iter if test] -/
theorem ev_lcO {wi : TI} {g : TG} {vs : List Nat} (F : D → Option D) (hi : EvI K m wi e xs) (hz : xs.length ≤ sizeLine)
    (hs : ∀ (i : Nat) d, xs[i]? = some d → ∃ e', Tg K vs m g d (wipeE e vs) e' ∧ ((∃ y, EvT K tt e' true ∧ F d = some y ∧ Ev K .dat te e' y) ∨ (EvT K tt e' false ∧ F d = none))) :
    EvO K (tLc wi g tt te vs) e (.lst (xs.filterMap F)) := fun B T0 σ H T s Q q => hi B T0 σ H T s _ fun J H1 T1 g1 hJ Dl hD => by
  obtain ⟨S, hS, st, go, stop⟩ := hJ
  have s1 := s.grow g1
  have hT1 : T1 Dl = none := g1.s.back hD
  refine ⟨fun i m H => m = xs.length - i ∧ i ≤ xs.length ∧ ∃ Hm T acc, H = upd Hm Dl (.lst acc) ∧ Hm Dl = none ∧ Gr H1 T1 Hm T ∧ S H T ∧ Iss K T acc ((xs.take i).filterMap F), ⟨xs.length, by simp, Nat.zero_le _, H1, T1, [], rfl, hD, Gr.refl g1.s, ?_, .nil⟩, ?_⟩
  · exact st _ _ _ _ hS (Le.refl _) (s1.gr.h.trans (Le.new hD)) (g1.s.trans (Le.new hD))
  rintro i m' H2 ⟨rfl, hle, Hm, T2, acc, rfl, hm, gm, hS2, hacc⟩
  have sm := s1.grow gm
  have gown : Gr Hm T2 (upd Hm Dl (.lst acc)) T2 := Gr.own gm.s hm
  have s2 := sm.grow gown
  by_cases hlt : i < xs.length
  · have hx : xs[i]? = some xs[i] := List.getElem?_eq_getElem hlt
    obtain ⟨hgo, hy⟩ := go i _ _ T2 hS2 hx s2.gr.h s2.gr.s
    refine .inr ⟨hgo, fun H' => ∃ Hm T acc, H' = upd Hm Dl (.lst acc) ∧ Hm Dl = none ∧ Gr H1 T1 Hm T ∧ S H' T ∧ Iss K T acc ((xs.take (i + 1)).filterMap F), fun H' q => ⟨xs.length - (i + 1), by omega, rfl, hlt, q⟩, fun v H3 y => ?_⟩
    obtain ⟨T3, g3, iv⟩ := hy v H3 y
    have s3 := s2.grow g3
    obtain ⟨e', htg, hev⟩ := hs i _ hx
    refine htg B T0 (wipe σ vs) H3 T3 v (s3.wipe vs) iv _ fun σ4 s4 b4 => ⟨?_, ?_⟩
    · have : SameBut vs σ σ4 := SameBut.trans ⟨wipe_length σ vs, fun j hj => wipe_get hj⟩ b4
      exact wipe_same this
    have fm := filterMap_take F hx
    rcases hev with ⟨y, ht, hF, he⟩ | ⟨ht, hF⟩
    · refine ht B T0 σ4 H3 T3 s4 _ fun H5 T5 g5 => ?_
      rw [if_pos rfl]
      refine he B T0 σ4 H5 T5 (s4.grow g5) _ fun w H6 T6 g6 iw => ?_
      have gall := (g3.trans g5).trans g6
      obtain ⟨gr', h6, t6⟩ := gr_rem hm gm.s gall
      refine ⟨acc, h6, ?_, rem H6 Dl, T6, acc ++ [w], upd_rem.symm, rem_at, gm.trans gr', ?_, ?_⟩
      · have := hacc.length
        have l1 : ((xs.take i).filterMap F).length ≤ (xs.take i).length := List.length_filterMap_le _ _
        rw [List.length_take] at l1
        omega
      · have gg : Gr (rem H6 Dl) T6 (upd (rem H6 Dl) Dl (.lst (acc ++ [w]))) T6 := Gr.own gr'.s rem_at
        rw [upd_rem] at gg
        exact st _ _ _ _ hS2 gall.t ((sm.grow gr').gr.h.trans gg.h) gg.s
      · rw [fm, hF]
        exact (Iss.mono gall.t _ hacc).append (.cons iw .nil)
    · refine ht B T0 σ4 H3 T3 s4 _ fun H5 T5 g5 => ?_
      rw [if_neg Bool.false_ne_true]
      have gall := g3.trans g5
      obtain ⟨gr', h6, t6⟩ := gr_rem hm gm.s gall
      refine ⟨rem H5 Dl, T5, acc, (upd_get h6).symm, rem_at, gm.trans gr', ?_, ?_⟩
      · have gg : Gr (rem H5 Dl) T5 (upd (rem H5 Dl) Dl (.lst acc)) T5 := Gr.own gr'.s rem_at
        rw [upd_get h6] at gg
        exact st _ _ _ _ hS2 gall.t ((sm.grow gr').gr.h.trans gg.h) gg.s
      · rw [fm, hF, List.append_nil]
        exact Iss.mono gall.t _ hacc
  · have e0 : i = xs.length := by omega
    subst e0
    refine .inl ⟨stop _ _ T2 hS2 s2.gr.h s2.gr.s (Nat.le_refl _), ?_⟩
    rw [List.take_length] at hacc
    have t2 : T2 Dl = none := gm.s.back hm
    exact q Dl _ T2 (g1.trans (gm.trans gown)) (g1.h.back hD) t2 ⟨acc, upd_same, hacc⟩
end
end Fh

set_option Elab.async false
set_option linter.all false
set_option maxRecDepth 100000
set_option maxHeartbeats 4000000
/-! Fh, fourth part: defs and their calls -/
namespace Fh
open PySem PySem.Spec PyProof.Rows L2

/-- a promise: the arguments' data (each known for good, .dat, or only lent), what the caller must show, what holds of the answer -/
def SpR (K : PySem.W.Frag) {α : Type} (ms : List Md) (args : α → List D) (pre : α → Prop) (out : α → D → Prop) : Sp := fun vs H Q _ =>
  ∃ (T : Hp) (x : α), Le T H ∧ pre x ∧ MIss K H H T ms vs (args x) ∧ ∀ d v H' T', out x d → Gr H T H' T' → Is K T' v d → Q v H'
abbrev SpP (K : PySem.W.Frag) {α : Type} (ms : List Md) (args : α → List D) (pre : α → Prop) (out : α → D) : Sp := SpR K ms args pre fun a d => d = out a
theorem MIss.len {K : PySem.W.Frag} {B H T : Hp} : ∀ {ms : List Md} {vs : List V} {ds : List D}, MIss K B H T ms vs ds → vs.length = ms.length ∧ ds.length = ms.length
  | [], [], [], _ => ⟨rfl, rfl⟩
  | _ :: _, _ :: _, _ :: _, h => by
    have := MIss.len h.2
    simp [this.1, this.2]
  | [], [], _ :: _, h => h.elim
  | [], _ :: _, _, h => h.elim
  | _ :: _, [], _, h => h.elim
  | _ :: _, _ :: _, [], h => h.elim
def slots : List Md → List D → En
  | .dat :: ms, d :: ds => .dat d :: slots ms ds
  | .bor :: ms, d :: ds => .bor d :: slots ms ds
  | .now :: ms, d :: ds => .bor d :: slots ms ds
  | _, _ => []
theorem slots_len : ∀ {ms : List Md} {ds : List D}, ds.length = ms.length → (slots ms ds).length = ms.length
  | [], [], _ => rfl
  | m :: ms, d :: ds, h => by
    have ih := slots_len (ms := ms) (ds := ds) (by simpa using h)
    cases m <;> simp [slots, ih]
  | [], _ :: _, h => by simp at h
  | _ :: _, [], h => by simp at h
theorem slots_ok {K : PySem.W.Frag} {H T : Hp} : ∀ {ms : List Md} {vs : List V} {ds : List D} {i : Nat} {s : Sl}, MIss K H H T ms vs ds → (slots ms ds)[i]? = some s → ∃ v, vs[i]? = some v ∧ SlotOk K H H T (some v) s ∧ ∀ o, s ≠ .own o
  | [], [], [], i, s, _, e => by simp [slots] at e
  | m :: ms, v :: vs, d :: ds, 0, s, h, e => by
    refine ⟨v, rfl, ?_⟩
    cases m with
    | dat => cases e; exact ⟨⟨v, rfl, h.1⟩, fun o q => nomatch q⟩
    | bor => cases e; exact ⟨⟨v, rfl, h.1⟩, fun o q => nomatch q⟩
    | now => cases e; exact ⟨⟨v, rfl, .inr h.1⟩, fun o q => nomatch q⟩
  | m :: ms, v :: vs, d :: ds, i + 1, s, h, e => by
    have e' : (slots ms ds)[i]? = some s := by cases m <;> simpa [slots] using e
    obtain ⟨w, hw, q⟩ := slots_ok h.2 e'
    exact ⟨w, by simpa using hw, q⟩
  | [], [], _ :: _, _, _, h, _ => h.elim
  | [], _ :: _, _, _, _, h, _ => h.elim
  | _ :: _, [], _, _, _, h, _ => h.elim
  | _ :: _, _ :: _, [], _, _, h, _ => h.elim
def En0 (ms : List Md) (ds : List D) (n : Nat) : En := slots ms ds ++ List.replicate n .no
theorem sat_start {K : PySem.W.Frag} {H T : Hp} {ms : List Md} {vs : List V} {ds : List D} {N : List Str} (hT : Le T H) (h : MIss K H H T ms vs ds) (hN : ms.length ≤ N.length) : Sat K H T (En0 ms ds (N.length - ms.length)) (L2.start N vs) H T := by
  obtain ⟨l1, l2⟩ := h.len
  have ls := slots_len l2
  have at_ : ∀ (i : Nat) s, (En0 ms ds (N.length - ms.length))[i]? = some s → ∃ x, (L2.start N vs)[i]? = some x ∧ SlotOk K H H T x s ∧ ∀ o, s ≠ .own o := fun i s e => by
    unfold En0 at e
    unfold L2.start
    by_cases hi : i < ms.length
    · rw [List.getElem?_append_left (by rw [ls]; exact hi)] at e
      obtain ⟨v, hv, q⟩ := slots_ok h e
      refine ⟨some v, ?_, q⟩
      rw [List.getElem?_append_left (by rw [List.length_map, l1]; exact hi), List.getElem?_map, hv]
      rfl
    · have hle : ms.length ≤ i := by omega
      rw [List.getElem?_append_right (by rw [ls]; exact hle), ls] at e
      have hi2 : i - ms.length < N.length - ms.length := by
        have := (List.getElem?_eq_some_iff.mp e).1
        simpa using this
      rw [List.getElem?_replicate_of_lt hi2] at e
      cases e
      refine ⟨none, ?_, trivial, fun o q => nomatch q⟩
      rw [List.getElem?_append_right (by rw [List.length_map, l1]; exact hle), List.length_map, l1, List.getElem?_replicate_of_lt hi2]
  refine ⟨Gr.refl hT, ?_, fun i s e => ?_, fun i j o o' a b hij h1 h2 => ?_⟩
  · unfold En0 L2.start
    simp [ls, l1]
  · obtain ⟨x, hx, q, _⟩ := at_ i s e
    exact ⟨x, hx, q⟩
  · obtain ⟨x, _, _, q⟩ := at_ i _ h1
    exact absurd rfl (q o)

section
variable {P : Program} {w : World} {K : PySem.W.Frag} {mg : Str → Option Value} {base : Heap}
/-- a def of the text as it stands behind the top -/
abbrev FnP (K : PySem.W.Frag) (x : Str) (st : Stmt) (dvs : List V) (kws : List (Str × V)) (f : Addr) (fd : FuncData) : Prop := FunD K x x (defArgs st) (defBody st) (defScope st) dvs kws f fd
def Dd (K : PySem.W.Frag) (mg : Str → Option Value) (x : Str) (st : Stmt) (dvs : List V) (kws : List (Str × V)) : Prop := ∃ f fd, FnP K x st dvs kws f fd ∧ mg x = some (.ref f)
/-- what a def is worth: it may be called by its name -/
structure Df (P : Program) (w : World) (K : PySem.W.Frag) (mg : Str → Option Value) (base : Heap) (x : Str) (k : Nat) (dvs : List V) (sp : Sp) : Prop where
  ex : ∃ (CX : CXT) (f : Addr) (fd : FuncData) (ps : List Str) (ds : List Value), FnOk P w K mg base CX k f fd ps sp ∧ mg x = some (.ref f) ∧ PySem.W.keepIn K (.ref f) = true ∧ Binds K fd ps ds ∧ Vals dvs ds ∧ ∀ X : Cx, X.prog = P → X.w = w → Passes CX X E0
/-- a body that holds what is promised -/
def BodyR (P : Program) (w : World) (K : PySem.W.Frag) (mg : Str → Option Value) (base : Heap) (x : Str) (st : Stmt) (N : List Str) (k : Nat) {α : Type} (ms : List Md) (args : α → List D) (pre : α → Prop) (out : α → D → Prop) : Prop :=
  ∀ (f : Addr) (cdv : Value) (A : Around) (outer : List Env) (s : Shared) (H : Hp) (E : XK), Room k (A.deeper (envOfC x (defScope st) s.heap.objs.size f cdv)) →
    ∃ t, PSs (cxOf CX0 P w K mg base N x (defScope st) f cdv A outer s H E).nox (defBody st) t ∧ ∀ a, pre a → Run K E t (En0 ms (args a) (N.length - ms.length)) { nx := fun _ => out a .non, rt := out a }
abbrev Body (P : Program) (w : World) (K : PySem.W.Frag) (mg : Str → Option Value) (base : Heap) (x : Str) (st : Stmt) (N : List Str) (k : Nat) {α : Type} (ms : List Md) (args : α → List D) (pre : α → Prop) (out : α → D) : Prop :=
  BodyR P w K mg base x st N k ms args pre fun a d => d = out a
theorem fn_ok {x : Str} {st : Stmt} {dvs : List V} {kws : List (Str × V)} {f : Addr} {fd : FuncData} {N ps : List Str} {k : Nat} {α : Type} {ms : List Md} {args : α → List D} {pre : α → Prop} {out : α → D → Prop}
    (F : FnP K x st dvs kws f fd) (S : FnScope N ps (defScope st)) (hn : ms.length = ps.length) (hN : ms.length ≤ N.length) (hb : BodyR P w K mg base x st N k ms args pre out) :
    FnOk P w K mg base CX0 (k + 1) f fd ps (SpR K ms args pre out) := by
  refine F.ok S (fun vs H Q E h => ?_) (fun cdv A outer s H vs Q E hr h => ?_)
  · obtain ⟨T, a, _, _, hm, _⟩ := h
    rw [hm.len.1, hn]
  · obtain ⟨t, ht, hrun⟩ := hb f cdv A outer s H E hr
    obtain ⟨T, a, hT, hp, hm, hq⟩ := h
    refine ⟨t, ht.nox, hrun a hp H T _ H T _ (sat_start hT hm hN) ⟨fun e σ H' T' p s' => ?_, fun d v H' T' p g i => ?_, fun _ _ _ _ p => p.elim, fun _ _ _ _ p => p.elim, fun _ _ _ _ _ p => p.elim⟩⟩
    · exact hq .non .non H' T' p s'.gr .non
    · exact hq d v H' T' p g i
theorem pass0' {X : Cx} {P : Program} {w : World} (h1 : X.prog = P) (h2 : X.w = w) : Passes CX0 X E0 := pass0
/-- no defaults -/
theorem Dd.df {x : Str} {st : Stmt} {N ps : List Str} {k : Nat} {α : Type} {ms : List Md} {args : α → List D} {pre : α → Prop} {out : α → D → Prop}
    (F : Dd K mg x st [] []) (S : FnScope N ps (defScope st)) (hn : ms.length = ps.length) (hN : ms.length ≤ N.length)
    (bd : ∀ (kV doc pm : Value) (an : Option Addr) (cdv ct : Value) (us : List Value), us.length = ps.length → bindArgs (PySem.W.fnOf x x (defArgs st) (defBody st) (defScope st) .none kV doc pm an cdv ct) ⟨us, []⟩ = pure (ps.zip us))
    (hb : BodyR P w K mg base x st N k ms args pre out) : Df P w K mg base x (k + 1) [] (SpR K ms args pre out) := by
  obtain ⟨f, fd, F, hm⟩ := F
  exact ⟨CX0, f, fd, ps, [], fn_ok F S hn hN hb, hm, F.kp, F.bindsN bd, .nil, fun X _ _ => pass0⟩
/-- a def that is never called -/
theorem Df.never {x : Str} {st : Stmt} {N : List Str} {k : Nat} {α : Type} {ms : List Md} {args : α → List D} {pre : α → Prop} {out : α → D → Prop} (F : Dd K mg x st [] []) (hp : ∀ a, ¬ pre a)
    (bd : ∀ (kV doc pm : Value) (an : Option Addr) (cdv ct : Value) (us : List Value), us.length = N.length → bindArgs (PySem.W.fnOf x x (defArgs st) (defBody st) (defScope st) .none kV doc pm an cdv ct) ⟨us, []⟩ = pure (N.zip us)) : Df P w K mg base x k [] (SpR K ms args pre out) := by
  obtain ⟨f, fd, F, hm⟩ := F
  exact ⟨CX0, f, fd, N, [], ⟨fun vs H Q E ⟨_, a, _, h, _⟩ => absurd h (hp a), fun A outer s H args us vs Q E _ _ _ _ ⟨_, a, _, h, _⟩ => absurd h (hp a)⟩, hm, F.kp, F.bindsN bd, .nil, fun X _ _ => pass0⟩
theorem Df.mono {x : Str} {j k : Nat} {dvs : List V} {sp : Sp} (F : Df P w K mg base x j dvs sp) (h : j ≤ k) : Df P w K mg base x k dvs sp := by
  obtain ⟨CX, f, fd, ps, ds, F, r⟩ := F.ex
  exact ⟨CX, f, fd, ps, ds, F.mono h, r⟩
theorem Df.imp {x : Str} {k : Nat} {dvs : List V} {sp sp' : Sp} (F : Df P w K mg base x k dvs sp) (h : ∀ vs H Q E, sp' vs H Q E → sp vs H Q E) : Df P w K mg base x k dvs sp' := by
  obtain ⟨CX, f, fd, ps, ds, F, r⟩ := F.ex
  exact ⟨CX, f, fd, ps, ds, F.imp h, r⟩
end
section
variable {X : Cx} {k : Nat} {sp : Sp} {dvs : List V} {x : Str} {p pos : Pos} {e : Expr} {es : List Expr} {t : TA}
theorem pe_df (G : Df X.prog X.w X.K X.mg X.base x k dvs sp) (hr : Room k X.A) (hg : Gl X x) (ha : PA X (e :: es) t) (hdb : (x == ("__debug__" : Str)) = false := by decide)
    (he : starEach (e :: es) X.env = (false, eval e X.env) :: starEach es X.env := by rfl) (hpl : (backTo pos (starEach es X.env)).any (·.1) = false := by rfl) :
    PE X (.Call (.Name x p) (e :: es) [] pos) (tCall sp dvs E0 t) := by
  obtain ⟨CX, f, fd, ps, ds, F, hm, hk, hb, hd, hx⟩ := G.ex
  exact pe_call F hr hg hm hk hb hd (hx X rfl rfl) ha hdb he hpl
theorem pe_df0 (G : Df X.prog X.w X.K X.mg X.base x k dvs sp) (hr : Room k X.A) (hg : Gl X x) (hdb : (x == ("__debug__" : Str)) = false := by decide) : PE X (.Call (.Name x p) [] [] pos) (tCall sp dvs E0 tNil) := by
  obtain ⟨CX, f, fd, ps, ds, F, hm, hk, hb, hd, hx⟩ := G.ex
  exact pe_call0 F hr hg hm hk hb hd (hx X rfl rfl) hdb
end
section
variable {K : PySem.W.Frag} {e : En} {d : D} {ds : List D} {m : Md} {α : Type} {ms : List Md} {args : α → List D} {pre : α → Prop} {out : α → D} {ta : TA}
theorem MIss.rebase {B H T : Hp} (hb : Le B H) (ht : Le T H) : ∀ {ms : List Md} {vs : List V} {ds : List D}, MIss K B H T ms vs ds → MIss K H H T ms vs ds
  | [], [], [], _ => trivial
  | m :: ms, v :: vs, d :: ds, h => by
    refine ⟨?_, MIss.rebase hb ht h.2⟩
    cases m with
    | dat => exact h.1
    | bor =>
      rcases h.1 with i | i
      · exact .inl i
      · exact .inr (Is.mono hb d i)
    | now => exact h.1
  | [], [], _ :: _, h => h.elim
  | [], _ :: _, _, h => h.elim
  | _ :: _, [], _, h => h.elim
  | _ :: _, _ :: _, [], h => h.elim
/-- f(..) -/
theorem ev_call (a : α) (hp : pre a) (h : EvA K ms ta e (args a)) : Ev K m (tCall (SpP K ms args pre out) [] E0 ta) e (out a) := Ev.up fun B T0 σ H T s Q q => h B T0 σ H T s _ fun vs H1 T1 g i => by
  show SpP K ms args pre out (vs ++ []) H1 Q E0
  rw [List.append_nil]
  exact ⟨T1, a, g.s, hp, i.rebase (s.gr.h.trans g.h) g.s, fun d v H2 T2 hd g2 i2 => q v H2 T2 (g.trans g2) (hd ▸ i2)⟩
/-- a value that is only known by what holds of it -/
def EvP (K : PySem.W.Frag) (te : TE) (e : En) (p : D → Prop) : Prop := ∀ (B T0 : Hp) (σ : L2.St) (H T : Hp), Sat K B T0 e σ H T → ∀ Q : VK, (∀ d v H' T', p d → Gr H T H' T' → Is K T' v d → Q v H') → te σ H Q
theorem evp_call {out : α → D → Prop} (a : α) (hp : pre a) (h : EvA K ms ta e (args a)) : EvP K (tCall (SpR K ms args pre out) [] E0 ta) e (out a) := fun B T0 σ H T s Q q => h B T0 σ H T s _ fun vs H1 T1 g i => by
  show SpR K ms args pre out (vs ++ []) H1 Q E0
  rw [List.append_nil]
  exact ⟨T1, a, g.s, hp, i.rebase (s.gr.h.trans g.h) g.s, fun d v H2 T2 hd g2 i2 => q d v H2 T2 hd (g.trans g2) i2⟩
end
end Fh
namespace Fh
open PySem PySem.Spec PyProof.Rows L2
/-! ### calls with keywords, constants of the module -/
structure DfK (P : Program) (w : World) (K : PySem.W.Frag) (mg : Str → Option Value) (base : Heap) (x : Str) (k n : Nat) (ks : List Str) (gV : List V → List V → List V) (sp : Sp) : Prop where
  ex : ∃ (CX : CXT) (f : Addr) (fd : FuncData) (ps : List Str) (g : List Value → List Value → List Value), FnOk P w K mg base CX k f fd ps sp ∧ mg x = some (.ref f) ∧ PySem.W.keepIn K (.ref f) = true ∧ KBn K fd ps n ks g gV ∧ ∀ X : Cx, X.prog = P → X.w = w → Passes CX X E0
theorem DfK.mono {P : Program} {w : World} {K : PySem.W.Frag} {mg : Str → Option Value} {base : Heap} {x : Str} {j k : Nat} {n : Nat} {ks : List Str} {gV : List V → List V → List V} {sp : Sp} (F : DfK P w K mg base x j n ks gV sp) (h : j ≤ k) : DfK P w K mg base x k n ks gV sp := by
  obtain ⟨CX, f, fd, ps, g, F, r⟩ := F.ex
  exact ⟨CX, f, fd, ps, g, F.mono h, r⟩
section
variable {X : Cx} {k n : Nat} {sp : Sp} {dvs : List V} {x : Str} {p pos : Pos} {e : Expr} {es : List Expr} {t tk : TA} {kws : List Keyword} {ks : List Str} {gV : List V → List V → List V}
theorem pe_dfK (G : DfK X.prog X.w X.K X.mg X.base x k n ks gV sp) (hr : Room k X.A) (hg : Gl X x) (ha : PA X (e :: es) t) (hkw : PK X kws tk) (hall : (backToKw pos (keywordEach kws X.env)).all (·.1.isSome) = true := by rfl) (hks : (backToKw pos (keywordEach kws X.env)).filterMap (·.1) = ks := by rfl)
    (hdb : (x == ("__debug__" : Str)) = false := by decide) (he : starEach (e :: es) X.env = (false, eval e X.env) :: starEach es X.env := by rfl)
    (hpl : ((backTo pos (starEach (e :: es) X.env)).any (·.1) || (backToKw pos (keywordEach kws X.env)).any (·.1.isNone)) = false := by rfl) {l : Nat} (hl : ks.length = l := by rfl) :
    PE X (.Call (.Name x p) (e :: es) kws pos) (tCallN n l sp gV E0 t tk) := by
  subst hl
  obtain ⟨CX, f, fd, ps, g, F, hm, hk, hb, hx⟩ := G.ex
  exact pe_callN F hr hg hm hk hb (hx X rfl rfl) ha hkw hall hks hdb he hpl
theorem pe_globI {i : Int} (hg : Gl X x) (h : ∃ t, X.mg x = some (.int i t)) (hd : (x == ("__debug__" : Str)) = false := by decide) : PE X (.Name x pos) (tC (.int i)) := by
  obtain ⟨t, h⟩ := h
  exact pe_glob hg h ⟨t, rfl⟩ hd
end
section
variable {K : PySem.W.Frag} {e : En} {d : D} {ds ds2 : List D} {m : Md} {α : Type} {ms ms1 ms2 : List Md} {args : α → List D} {pre : α → Prop} {out : α → D} {ta tk : TA}
theorem MIss.append {B H T : Hp} : ∀ {ms1 ms2 : List Md} {vs ws : List V} {ds es : List D}, MIss K B H T ms1 vs ds → MIss K B H T ms2 ws es → MIss K B H T (ms1 ++ ms2) (vs ++ ws) (ds ++ es)
  | [], _, [], _, [], _, _, h => h
  | _ :: _, _, _ :: _, _, _ :: _, _, h, g => ⟨h.1, h.2.append g⟩
  | [], _, [], _, _ :: _, _, h, _ => h.elim
  | [], _, _ :: _, _, _, _, h, _ => h.elim
  | _ :: _, _, [], _, _, _, h, _ => h.elim
  | _ :: _, _, _ :: _, _, [], _, h, _ => h.elim
/-- the defaults behind -/
theorem ev_callD {dvs : List V} (a : α) (hp : pre a) (ha : args a = ds ++ ds2) (hms : ms = ms1 ++ ms2) (h : EvA K ms1 ta e ds) (hd : ∀ H T, MIss K H H T ms2 dvs ds2) : Ev K m (tCall (SpP K ms args pre out) dvs E0 ta) e (out a) := Ev.up fun B T0 σ H T s Q q => h B T0 σ H T s _ fun vs H1 T1 g i => by
  refine ⟨T1, a, g.s, hp, ?_, fun d v H2 T2 hd g2 i2 => q v H2 T2 (g.trans g2) (hd ▸ i2)⟩
  rw [ha, hms]
  exact (i.rebase (s.gr.h.trans g.h) g.s).append (hd H1 T1)
theorem ev_callK {n l : Nat} (a : α) (hp : pre a) (ha : args a = ds ++ ds2) (hms : ms = ms1 ++ ms2) (h : EvA K ms1 ta e ds) (hk : EvA K ms2 tk e ds2) (hn : ms1.length = n) (hl : ms2.length = l) : Ev K m (tCallN n l (SpP K ms args pre out) (fun a b => a ++ b) E0 ta tk) e (out a) := Ev.up fun B T0 σ H T s Q q => h B T0 σ H T s _ fun vs H1 T1 g i => hk B T0 σ H1 T1 (s.grow g) _ fun ws H2 T2 g2 i2 => by
  refine ⟨i.len.1.trans hn, i2.len.1.trans hl, T2, a, g2.s, hp, ?_, fun d v H3 T3 hd g3 i3 => q v H3 T3 ((g.trans g2).trans g3) (hd ▸ i3)⟩
  rw [ha, hms]
  exact ((i.mono g2.h g2.t).append i2).rebase (((s.grow g).grow g2).gr.h) g2.s
end
/-! ### a def with defaults -/
section
variable {P : Program} {w : World} {K : PySem.W.Frag} {mg : Str → Option Value} {base : Heap} {x qual : Str} {params : Arguments} {body : List Stmt} {scope : Scope} {dvs : List V} {f : Addr} {fd : FuncData} {ps ks : List Str}
/-- positional arguments, then keywords for the parameters behind them, in their order; there are defaults -/
theorem kbinds1 (F : FunD K x qual params body scope dvs [] f fd) (n : Nat) (hd : dvs ≠ [])
    (h : ∀ (T : Addr) (kV doc pm : Value) (an : Option Addr) (cdv ct : Value) (us ws its : List Value), us.length = n → ws.length = ks.length → its.length = dvs.length →
      ∃ k, bindArgs (PySem.W.fnOf x qual params body scope (.ref T) kV doc pm an cdv ct) ⟨us, ks.zip ws⟩ = seqItems? (.ref T) >>= k ∧ k (some its.toArray) = pure (ps.zip (us ++ ws))) : KBn K fd ps n ks (fun a b => a ++ b) (fun a b => a ++ b) := by
  obtain ⟨oc, od, dV, kV, doc, pm, an, cdv, ct, osl, rfl, lk, hcd, hD, hK⟩ := F.ex
  rcases hD with ⟨e, _⟩ | ⟨_, T, o, its, m, rfl, lT, oT, rT⟩
  · exact absurd e hd
  · refine ⟨fun s us ws X l2 l3 => ?_, fun r z => r.append z⟩
    have l1 : its.length = dvs.length := rT.length.symm
    obtain ⟨k, e1, e2⟩ := h T kV doc pm an cdv ct us ws its l2 l3 l1
    refine BindsTo.of_looks fun M => ?_
    rw [e1]
    exact looks_items X lT oT (.of_pure e2)
end
end Fh

set_option Elab.async false
set_option linter.all false
set_option maxRecDepth 100000
set_option maxHeartbeats 4000000
/-! Fh, fifth part: operators and built-in calls, whatever the kinds of their operands -/
namespace Fh
open PySem PySem.Spec PyProof.Rows L2

/-! ### readings that ask by the values' kinds -/
def rAddS2 : R2 := fun x y H Q => ∃ i j, x = .str i ∧ y = .str j ∧ i.length + j.length ≤ sizeLine ∧ Q (.str (i ++ j)) H
def rPlus (K : PySem.W.Frag) : R2 := fun x y H Q => ((rI0 fun i j => .int (i + j)) x y H Q ∨ rCat x y H Q) ∨ (rCatA K x y H Q ∨ rAddS2 x y H Q)
def rMinus : R2 := rI0 fun i j => .int (i - j)
def rTimes : R2 := fun x y H Q => (rI CMul fun i j => .int (i * j)) x y H Q ∨ (rRep x y H Q ∨ (rI CMulW fun i j => .int (i * j)) x y H Q)
def rFdiv : R2 := fun x y H Q => (rI CDiv fun i j => .int (i / j)) x y H Q ∨ (rI CDivW fun i j => .int (i / j)) x y H Q
def rMod : R2 := rI (fun _ j => 0 < j) fun i j => .int (i % j)
def rPow : R2 := rI CPow fun i j => .int (i ^ j.toNat)
def rLt : R2 := rI0 fun i j => .bl (decide (i < j))
def rLe : R2 := rI0 fun i j => .bl (decide (i ≤ j))
def rGt2 : R2 := rI0 fun i j => .bl (decide (j < i))
def rGe2 : R2 := rI0 fun i j => .bl (decide (j ≤ i))
def rEqU (K : PySem.W.Frag) : R2 := fun x y H Q => rEq x y H Q ∨ rEqD K x y H Q
def rNeU (K : PySem.W.Frag) : R2 := fun x y H Q => rNe x y H Q ∨ rNeD K x y H Q
def rIsC : R2 := fun x y H Q => (y = .non ∨ ∃ b, y = .bl b) ∧ Q (.bl (decide (x = y))) H
def rIsNC : R2 := fun x y H Q => (y = .non ∨ ∃ b, y = .bl b) ∧ Q (.bl (!decide (x = y))) H
def rSlU (K : PySem.W.Frag) : V → Option Int → Option Int → Hp → VK → Prop := fun x lo hi H Q => rSlL K x lo hi H Q ∨ rSlA K x lo hi H Q
def rAbs : List V → Hp → VK → Prop := fun xs H Q => ∃ i, xs = [.int i] ∧ Q (.int (if i < 0 then -i else i)) H
def rMx2 : List V → Hp → VK → Prop := fun xs H Q => ∃ i j, xs = [.int i, .int j] ∧ Q (.int (if j > i then j else i)) H
def rMn2 : List V → Hp → VK → Prop := fun xs H Q => ∃ i j, xs = [.int i, .int j] ∧ Q (.int (if j < i then j else i)) H
def rIntC : List V → Hp → VK → Prop := fun xs H Q => (∃ i, xs = [.int i] ∧ Q (.int i) H) ∨ ∃ k, xs = [.bl k] ∧ Q (.int (if k then 1 else 0)) H
def rLenU (K : PySem.W.Frag) : List V → Hp → VK → Prop := fun xs H Q => ∃ x n, xs = [x] ∧ LenV K x H n ∧ Q (.int n) H
def rListU (K : PySem.W.Frag) : List V → Hp → VK → Prop := fun xs H Q => ∃ p ys, xs = [.ref p] ∧ (SqL K H p ys ∨ SqT K H p ys) ∧ ∀ l, H l = none → Q (.ref l) (upd H l (.lst ys))
def rTupU (K : PySem.W.Frag) : List V → Hp → VK → Prop := fun xs H Q => ∃ p ys, xs = [.ref p] ∧ ((SqL K H p ys ∧ ∀ l, H l = none → Q (.ref l) (upd H l (.tup ys))) ∨ (SqT K H p ys ∧ Q (.ref p) H))
section
variable {X : Cx}
theorem op_plus : OpR X (binaryOp .Add) (rPlus X.K) := (op_add.or op_cat).or (op_catA.or op_add_str)
theorem op_minus : OpR X (binaryOp .Sub) rMinus := op_sub
theorem op_times : OpR X (binaryOp .Mult) rTimes := op_mul.or (op_rep.or op_mulW)
theorem op_fdivU : OpR X (binaryOp .FloorDiv) rFdiv := op_fdiv.or op_fdivW
theorem op_modU : OpR X (binaryOp .Mod) rMod := op_mod
theorem op_powU : OpR X (binaryOp .Pow) rPow := op_pow
theorem op_ltU : OpR X (compareOp .Lt) rLt := op_lt
theorem op_leU : OpR X (compareOp .LtE) rLe := op_le
theorem op_gtU : OpR X (compareOp .Gt) rGt2 := op_gt
theorem op_geU : OpR X (compareOp .GtE) rGe2 := op_ge
theorem op_eqU {k : Nat} (hr : Room k X.A) : OpR X (compareOp .Eq) (rEqU X.K) := op_eq.or (op_eqD hr.units)
theorem op_neU {k : Nat} (hr : Room k X.A) : OpR X (compareOp .NotEq) (rNeU X.K) := op_ne.or (op_neD hr.units)
theorem is_dec {x : V} {u : Value} (r : RelV x u) : (u == Value.none) = decide (x = .non) ∧ plainIs u .none = true ∧ ∀ b, (u == Value.bool b) = decide (x = .bl b) ∧ plainIs u (.bool b) = true := by
  cases x with
  | non => cases r; exact ⟨rfl, rfl, fun b => ⟨rfl, rfl⟩⟩
  | bl c =>
    cases r
    refine ⟨rfl, rfl, fun b => ⟨?_, rfl⟩⟩
    cases b <;> cases c <;> rfl
  | int _ => obtain ⟨t, rfl⟩ := r; exact ⟨rfl, rfl, fun b => ⟨rfl, rfl⟩⟩
  | str _ => obtain ⟨t, rfl⟩ := r; exact ⟨rfl, rfl, fun b => ⟨rfl, rfl⟩⟩
  | byt _ => obtain ⟨t, rfl⟩ := r; exact ⟨rfl, rfl, fun b => ⟨rfl, rfl⟩⟩
  | flt _ => obtain ⟨t, rfl⟩ := r; exact ⟨rfl, rfl, fun b => ⟨rfl, rfl⟩⟩
  | ref _ => cases r; exact ⟨rfl, rfl, fun b => ⟨rfl, rfl⟩⟩
  | ty _ => cases r; exact ⟨rfl, rfl, fun b => ⟨rfl, rfl⟩⟩
theorem op_isC : OpR X (compareOp .Is) rIsC := by
  intro pins s σ H x y v u Q I rx ry h
  obtain ⟨hy, q⟩ := h
  obtain ⟨d1, p1, d2⟩ := is_dec rx
  rcases hy with rfl | ⟨b, rfl⟩
  · cases (show u = Value.none from ry)
    exact wpAny_is_plain p1 (fin_bl I q d1.symm)
  · cases (show u = Value.bool b from ry)
    exact wpAny_is_plain (d2 b).2 (fin_bl I q (d2 b).1.symm)
theorem op_isNC : OpR X (compareOp .IsNot) rIsNC := by
  intro pins s σ H x y v u Q I rx ry h
  obtain ⟨hy, q⟩ := h
  obtain ⟨d1, p1, d2⟩ := is_dec rx
  rcases hy with rfl | ⟨b, rfl⟩
  · cases (show u = Value.none from ry)
    exact wpAny_isNot_plain p1 (fin_bl I q (by rw [d1]))
  · cases (show u = Value.bool b from ry)
    exact wpAny_isNot_plain (d2 b).2 (fin_bl I q (by rw [(d2 b).1]))
theorem sl_U : SlR X (rSlU X.K) := sl_list.or sl_tupA
theorem call_absU : CallR X (.builtin "abs") rAbs := call_abs
theorem call_mx2 (hc : X.calm = true) : CallR X (.builtin "max") rMx2 := call_max2 hc
theorem call_mn2 (hc : X.calm = true) : CallR X (.builtin "min") rMn2 := call_min2 hc
theorem call_intU : CallR X (.type "int") rIntC := call_int1
theorem call_lenU : CallR X (.builtin "len") (rLenU X.K) := call_len
theorem call_listU : CallR X (.type "list") (rListU X.K) := call_list_of
theorem call_tupU : CallR X (.type "tuple") (rTupU X.K) := call_tuple_of
end

section
variable {K : PySem.W.Frag} {e : En} {d d1 d2 : D} {ds xs ys : List D} {m m1 m2 : Md} {te ta tb : TE} {i : Nat} {o : OD}
/-! ### ints -/
theorem rd_plus {i j : Int} : RD K m1 m2 m (rPlus K) (.int i) (.int j) (.int (i + j)) := (RD.orl (r' := rCat) (rd_I0 (gd := fun i j => .int (i + j)) fun T => .int _)).orl
theorem rd_minus {i j : Int} : RD K m1 m2 m rMinus (.int i) (.int j) (.int (i - j)) := rd_I0 (gd := fun i j => .int (i - j)) fun T => .int _
theorem rd_times {i j : Int} (h : CMul i j) : RD K m1 m2 m rTimes (.int i) (.int j) (.int (i * j)) := (rd_I (gd := fun i j => .int (i * j)) h fun T => .int _).orl
theorem rd_timesW {i j : Int} (h : CMulW i j) : RD K m1 m2 m rTimes (.int i) (.int j) (.int (i * j)) := (RD.orr (rd_I (gd := fun i j => .int (i * j)) h fun T => .int _)).orr
theorem rd_fdiv {i j : Int} (h : CDiv i j) : RD K m1 m2 m rFdiv (.int i) (.int j) (.int (i / j)) := (rd_I (gd := fun i j => .int (i / j)) h fun T => .int _).orl
theorem rd_fdivW {i j : Int} (h : CDivW i j) : RD K m1 m2 m rFdiv (.int i) (.int j) (.int (i / j)) := (rd_I (gd := fun i j => .int (i / j)) h fun T => .int _).orr
theorem rd_mod {i j : Int} (h : 0 < j) : RD K m1 m2 m rMod (.int i) (.int j) (.int (i % j)) := rd_I (gd := fun i j => .int (i % j)) h fun T => .int _
theorem rd_pow {i j : Int} (h : CPow i j) : RD K m1 m2 m rPow (.int i) (.int j) (.int (i ^ j.toNat)) := rd_I (gd := fun i j => .int (i ^ j.toNat)) h fun T => .int _
theorem rd_lt {i j : Int} : RD K m1 m2 m rLt (.int i) (.int j) (.bl (decide (i < j))) := rd_I0 (gd := fun i j => .bl (decide (i < j))) fun T => .bl _
theorem rd_le {i j : Int} : RD K m1 m2 m rLe (.int i) (.int j) (.bl (decide (i ≤ j))) := rd_I0 (gd := fun i j => .bl (decide (i ≤ j))) fun T => .bl _
theorem rd_gt {i j : Int} : RD K m1 m2 m rGt2 (.int i) (.int j) (.bl (decide (j < i))) := rd_I0 (gd := fun i j => .bl (decide (j < i))) fun T => .bl _
theorem rd_ge {i j : Int} : RD K m1 m2 m rGe2 (.int i) (.int j) (.bl (decide (j ≤ i))) := rd_I0 (gd := fun i j => .bl (decide (j ≤ i))) fun T => .bl _
/-! ### == -/
theorem rd_sc {r : R2} {x y : V} {b : Bool} (h1 : ∀ H v, Is K H v d1 → v = x) (h2 : ∀ H v, Is K H v d2 → v = y) (hr : ∀ H (Q : VK), Q (.bl b) H → r x y H Q) : RD K m1 m2 m r d1 d2 (.bl b) := fun B H T u v hB hT i1 i2 Q q => by
  rw [h1 _ _ (i1.now hB hT), h2 _ _ (i2.now hB hT)]
  exact hr H Q (q _ H T (Gr.refl hT) (MIs.dat (.bl b) hT))
theorem rd_eqI {i j : Int} : RD K m1 m2 m (rEqU K) (.int i) (.int j) (.bl (decide (i = j))) := rd_sc (x := .int i) (y := .int j) (fun H v h => by cases h; rfl) (fun H v h => by cases h; rfl) fun H Q q => .inl ⟨rfl, by
  rw [dec_int, Bool.beq_eq_decide_eq]; exact q⟩
theorem rd_neI {i j : Int} : RD K m1 m2 m (rNeU K) (.int i) (.int j) (.bl (decide (i ≠ j))) := rd_sc (x := .int i) (y := .int j) (fun H v h => by cases h; rfl) (fun H v h => by cases h; rfl) fun H Q q => .inl ⟨rfl, by
  rw [dec_int, Bool.beq_eq_decide_eq, ← decide_not]; exact q⟩
theorem rd_eqS {i j : Str} : RD K m1 m2 m (rEqU K) (.str i) (.str j) (.bl (decide (i = j))) := rd_sc (x := .str i) (y := .str j) (fun H v h => by cases h; rfl) (fun H v h => by cases h; rfl) fun H Q q => .inl ⟨rfl, by
  rw [dec_str, Bool.beq_eq_decide_eq]; exact q⟩
theorem rd_neS {i j : Str} : RD K m1 m2 m (rNeU K) (.str i) (.str j) (.bl (decide (i ≠ j))) := rd_sc (x := .str i) (y := .str j) (fun H v h => by cases h; rfl) (fun H v h => by cases h; rfl) fun H Q q => .inl ⟨rfl, by
  rw [dec_str, Bool.beq_eq_decide_eq, ← decide_not]; exact q⟩
/-- is, is not, against None, True, False -/
def isC : D → D → Option Bool
  | .raw _, _ => none
  | .non, .non => some true
  | .bl a, .bl b => some (a == b)
  | .bl _, .non => some false
  | .non, .bl _ => some false
  | .int _, .non => some false
  | .int _, .bl _ => some false
  | .str _, .non => some false
  | .str _, .bl _ => some false
  | .lst _, .non => some false
  | .lst _, .bl _ => some false
  | .tup _, .non => some false
  | .tup _, .bl _ => some false
  | .ins _ _, .non => some false
  | .ins _ _, .bl _ => some false
  | _, _ => none
theorem isC_ok {H : Hp} {x y : V} {b : Bool} (h : isC d1 d2 = some b) (i1 : Is K H x d1) (i2 : Is K H y d2) : (y = .non ∨ ∃ b, y = .bl b) ∧ decide (x = y) = b := by
  cases i1 <;> cases i2 <;> first
    | (cases h; done)
    | (cases h; refine ⟨.inr ⟨_, rfl⟩, ?_⟩; rw [dec_bl]; done)
    | (cases h; refine ⟨.inr ⟨_, rfl⟩, ?_⟩; rw [dec_bl, Bool.beq_eq_decide_eq]; done)
    | (cases h; refine ⟨.inl rfl, ?_⟩; simp; done)
    | (cases h; refine ⟨.inr ⟨_, rfl⟩, ?_⟩; simp; done)
theorem rd_is {b : Bool} (h : isC d1 d2 = some b) : RD K m1 m2 m rIsC d1 d2 (.bl b) := fun B H T u v hB hT i1 i2 Q q => by
  obtain ⟨p, e⟩ := isC_ok h (i1.now hB hT) (i2.now hB hT)
  exact ⟨p, by rw [e]; exact q _ H T (Gr.refl hT) (MIs.dat (.bl b) hT)⟩
theorem rd_isN {b : Bool} (h : isC d1 d2 = some b) : RD K m1 m2 m rIsNC d1 d2 (.bl (!b)) := fun B H T u v hB hT i1 i2 Q q => by
  obtain ⟨p, e⟩ := isC_ok h (i1.now hB hT) (i2.now hB hT)
  exact ⟨p, by rw [e]; exact q _ H T (Gr.refl hT) (MIs.dat (.bl (!b)) hT)⟩
/-! ### == of data -/
mutual
def toPy : D → PyData
  | .non => .none
  | .bl b => .bool b
  | .int i => .int i
  | .str x => .str x
  | .lst ds => .list (toPys ds)
  | .tup ds => .tuple (toPys ds)
  | _ => .none
def toPys : List D → List PyData
  | [] => []
  | d :: ds => toPy d :: toPys ds
end
mutual
/-- data that == reads: of a depth below n, no objects -/
def shp : Nat → D → Bool
  | _, .non => true
  | _, .bl _ => true
  | _, .int _ => true
  | _, .str x => PySem.PyData.strOk x
  | 0, .lst _ => false
  | n + 1, .lst ds => shps n ds
  | 0, .tup _ => false
  | n + 1, .tup ds => shps n ds
  | _, _ => false
def shps : Nat → List D → Bool
  | _, [] => true
  | n, d :: ds => shp n d && shps n ds
end
mutual
theorem toPy_dp {H : Hp} : ∀ (n : Nat) (d : D) {v : V}, shp n d = true → Is K H v d → Dp K H v (toPy d)
  | _, .non, _, _, i => by cases i; exact .non
  | _, .bl _, _, _, i => by cases i; exact .bl _
  | _, .int _, _, _, i => by cases i; exact .int _
  | _, .str _, _, _, i => by cases i; exact .str _
  | 0, .lst _, _, h, _ => by simp [shp] at h
  | n + 1, .lst ds, _, h, i => by
    cases i with
    | lst ha hi => exact .lst (SqL.of ha) (toPys_dp n ds (by simpa [shp] using h) hi)
  | 0, .tup _, _, h, _ => by simp [shp] at h
  | n + 1, .tup ds, _, h, i => by
    cases i with
    | tup ha hi => exact .tup ha (toPys_dp n ds (by simpa [shp] using h) hi)
  | _, .raw _, _, h, _ => by simp [shp] at h
  | _, .rol _, _, h, _ => by simp [shp] at h
  | _, .ins _ _, _, h, _ => by simp [shp] at h
theorem toPys_dp {H : Hp} : ∀ (n : Nat) (ds : List D) {vs : List V}, shps n ds = true → Iss K H vs ds → DpAll K H vs (toPys ds)
  | _, [], _, _, i => by cases i; exact .nil
  | n, d :: ds, _, h, i => by
    cases i with
    | cons i1 i2 =>
      have h2 : shp n d = true ∧ shps n ds = true := by simpa [shps] using h
      exact .cons (toPy_dp n d h2.1 i1) (toPys_dp n ds h2.2 i2)
end
mutual
theorem shp_lay : ∀ (n : Nat) (d : D), shp n d = true → (toPy d).canLay0 = true ∧ (toPy d).depth ≤ n
  | _, .non, _ => ⟨rfl, Nat.zero_le _⟩
  | _, .bl _, _ => ⟨rfl, Nat.zero_le _⟩
  | _, .int _, _ => ⟨rfl, Nat.zero_le _⟩
  | _, .str x, h => ⟨(show PyData.strOk x = true by simpa [shp] using h), Nat.zero_le _⟩
  | 0, .lst _, h => by simp [shp] at h
  | n + 1, .lst ds, h => by
    obtain ⟨h1, h2⟩ := shps_lay n ds (by simpa [shp] using h)
    exact ⟨h1, Nat.succ_le_succ h2⟩
  | 0, .tup _, h => by simp [shp] at h
  | n + 1, .tup ds, h => by
    obtain ⟨h1, h2⟩ := shps_lay n ds (by simpa [shp] using h)
    exact ⟨h1, Nat.succ_le_succ h2⟩
  | _, .raw _, h => by simp [shp] at h
  | _, .rol _, h => by simp [shp] at h
  | _, .ins _ _, h => by simp [shp] at h
theorem shps_lay : ∀ (n : Nat) (ds : List D), shps n ds = true → PyData.canLayAll0 (toPys ds) = true ∧ PyData.depthAll (toPys ds) ≤ n
  | _, [], _ => ⟨rfl, Nat.zero_le _⟩
  | n, d :: ds, h => by
    have h2 : shp n d = true ∧ shps n ds = true := by simpa [shps] using h
    obtain ⟨a1, a2⟩ := shp_lay n d h2.1
    obtain ⟨b1, b2⟩ := shps_lay n ds h2.2
    refine ⟨?_, Nat.max_le.mpr ⟨a2, b2⟩⟩
    show (PyData.canLay0 (toPy d) && PyData.canLayAll0 (toPys ds)) = true
    rw [a1, b1]; rfl
end
theorem shp_shaped {n : Nat} (h : shp n d = true) (hn : n ≤ 64) : SeqAt.shaped (toPy d) = true := by
  obtain ⟨a, b⟩ := shp_lay n d h
  unfold SeqAt.shaped
  rw [a, decide_eq_true (Nat.le_trans b hn)]; rfl
theorem rd_eqD {n1 n2 : Nat} (h1 : shp n1 d1 = true) (h2 : shp n2 d2 = true) (l1 : n1 ≤ 64 := by decide) (l2 : n2 ≤ 64 := by decide) : RD K m1 m2 m (rEqU K) d1 d2 (.bl (PyData.eqv (toPy d1) (toPy d2))) := fun B H T u v hB hT i1 i2 Q q =>
  .inr ⟨toPy d1, toPy d2, toPy_dp n1 d1 h1 (i1.now hB hT), toPy_dp n2 d2 h2 (i2.now hB hT), shp_shaped h1 l1, shp_shaped h2 l2, q _ H T (Gr.refl hT) (MIs.dat (.bl _) hT)⟩
theorem rd_neD {n1 n2 : Nat} (h1 : shp n1 d1 = true) (h2 : shp n2 d2 = true) (l1 : n1 ≤ 64 := by decide) (l2 : n2 ≤ 64 := by decide) : RD K m1 m2 m (rNeU K) d1 d2 (.bl (!PyData.eqv (toPy d1) (toPy d2))) := fun B H T u v hB hT i1 i2 Q q =>
  .inr ⟨toPy d1, toPy d2, toPy_dp n1 d1 h1 (i1.now hB hT), toPy_dp n2 d2 h2 (i2.now hB hT), shp_shaped h1 l1, shp_shaped h2 l2, q _ H T (Gr.refl hT) (MIs.dat (.bl _) hT)⟩
theorem shps_ints {n : Nat} : ∀ ns : List Int, shps n (ns.map D.int) = true
  | [] => rfl
  | _ :: ns => by
    have := shps_ints (n := n) ns
    simp only [List.map_cons, shps, shp, this, Bool.and_self]
theorem eqv_ints : ∀ ns ms : List Int, PyData.eqvAll (toPys (ns.map D.int)) (toPys (ms.map D.int)) = decide (ns = ms)
  | [], [] => rfl
  | [], _ :: _ => rfl
  | _ :: _, [] => rfl
  | n :: ns, k :: ms => by
    have ih := eqv_ints ns ms
    show ((n == k) && PyData.eqvAll (toPys (ns.map D.int)) (toPys (ms.map D.int))) = _
    rw [ih, Bool.beq_eq_decide_eq]
    by_cases h : n = k
    · subst h; simp
    · simp [h]
theorem rd_eqInts {ns ms : List Int} : RD K m1 m2 m (rEqU K) (.lst (ns.map D.int)) (.lst (ms.map D.int)) (.bl (decide (ns = ms))) := by
  have h := rd_eqD (K := K) (m1 := m1) (m2 := m2) (m := m) (n1 := 1) (n2 := 1) (d1 := .lst (ns.map D.int)) (d2 := .lst (ms.map D.int)) (shps_ints ns) (shps_ints ms)
  have e : PyData.eqv (toPy (.lst (ns.map D.int))) (toPy (.lst (ms.map D.int))) = decide (ns = ms) := eqv_ints ns ms
  rwa [e] at h
theorem rd_neInts {ns ms : List Int} : RD K m1 m2 m (rNeU K) (.lst (ns.map D.int)) (.lst (ms.map D.int)) (.bl (decide (ns ≠ ms))) := by
  have h := rd_neD (K := K) (m1 := m1) (m2 := m2) (m := m) (n1 := 1) (n2 := 1) (d1 := .lst (ns.map D.int)) (d2 := .lst (ms.map D.int)) (shps_ints ns) (shps_ints ms)
  have e : PyData.eqv (toPy (.lst (ns.map D.int))) (toPy (.lst (ms.map D.int))) = decide (ns = ms) := eqv_ints ns ms
  rw [e, ← decide_not] at h
  exact h
/-! ### an item -/
theorem rd_ixL {k : Int} (h : atI xs k = some d) : RD K m m2 m (rIx K) (.lst xs) (.int k) d := fun B H T u v hB hT i1 i2 Q q => by
  have i3 := i2.now hB hT
  cases i3
  have fin : ∀ U : Hp, Le U H → Is K U u (.lst xs) → (∀ w, Is K U w d → MIs m K B H T w d) → rIx K u (.int k) H Q := fun U hU iu tr => by
    cases iu with
    | @lst a vs _ ha hi =>
      obtain ⟨j, e1, e2, e3, e4, e5⟩ := atI_get h
      obtain ⟨w, hw, iw⟩ := hi.get e2
      have e6 : atI vs k = some w := by
        unfold atI at h ⊢
        rw [hi.length]
        cases z : ixN xs.length k with
        | none => rw [z] at h; cases h
        | some j' =>
          rw [z] at h
          have h' : xs[j']? = some d := h
          obtain ⟨w', hw', iw'⟩ := hi.get h'
          have := (ixN_seq z).1
          rw [e1] at this
          cases this
          show vs[j]? = some w
          exact hw
      exact .inl ⟨a, vs, k, w, rfl, rfl, SqL.of (hU _ _ ha), e6, q w H T (Gr.refl hT) (tr w iw)⟩
  cases m with
  | dat => exact fin T hT i1 fun w i => i
  | bor =>
    rcases i1 with i1 | i1
    · exact fin T hT i1 fun w i => .inl i
    · exact fin B hB i1 fun w i => .inr i
  | now => exact fin H (Le.refl _) i1 fun w i => i
theorem rd_ixT {k : Int} (h : atI xs k = some d) : RD K m m2 m (rIx K) (.tup xs) (.int k) d := fun B H T u v hB hT i1 i2 Q q => by
  have i3 := i2.now hB hT
  cases i3
  have fin : ∀ U : Hp, Le U H → Is K U u (.tup xs) → (∀ w, Is K U w d → MIs m K B H T w d) → rIx K u (.int k) H Q := fun U hU iu tr => by
    cases iu with
    | @tup a vs _ ha hi =>
      obtain ⟨j, e1, e2, e3, e4, e5⟩ := atI_get h
      obtain ⟨w, hw, iw⟩ := hi.get e2
      have e6 : atI vs k = some w := by
        unfold atI at h ⊢
        rw [hi.length]
        cases z : ixN xs.length k with
        | none => rw [z] at h; cases h
        | some j' =>
          have := (ixN_seq z).1
          rw [e1] at this
          cases this
          show vs[j]? = some w
          exact hw
      exact .inr (.inl ⟨a, vs, k, w, rfl, rfl, hU.sqT ha, e6, q w H T (Gr.refl hT) (tr w iw)⟩)
  cases m with
  | dat => exact fin T hT i1 fun w i => i
  | bor =>
    rcases i1 with i1 | i1
    · exact fin T hT i1 fun w i => .inl i
    · exact fin B hB i1 fun w i => .inr i
  | now => exact fin H (Le.refl _) i1 fun w i => i
/-- of scalars the mode is nothing -/
theorem Ev.sc {i : Int} (h : Ev K m1 te e (.int i)) : Ev K m te e (.int i) := Ev.up fun B T0 σ H T s Q q => h B T0 σ H T s Q fun v H' T' g j => by
  have j := j.now (s.gr.h.trans g.h) g.s
  cases j
  exact q _ H' T' g (.int i)
theorem Ev.scB {b : Bool} (h : Ev K m1 te e (.bl b)) : Ev K m te e (.bl b) := Ev.up fun B T0 σ H T s Q q => h B T0 σ H T s Q fun v H' T' g j => by
  have j := j.now (s.gr.h.trans g.h) g.s
  cases j
  exact q _ H' T' g (.bl b)
theorem Ev.scS {b : Str} (h : Ev K m1 te e (.str b)) : Ev K m te e (.str b) := Ev.up fun B T0 σ H T s Q q => h B T0 σ H T s Q fun v H' T' g j => by
  have j := j.now (s.gr.h.trans g.h) g.s
  cases j
  exact q _ H' T' g (.str b)
theorem Ev.scN (h : Ev K m1 te e .non) : Ev K m te e .non := Ev.up fun B T0 σ H T s Q q => h B T0 σ H T s Q fun v H' T' g j => by
  have j := j.now (s.gr.h.trans g.h) g.s
  cases j
  exact q _ H' T' g .non
/-- an item of a list of one's own is data -/
theorem ev_ixO {k : Int} (hi : e[i]? = some (.own (.lst xs))) (hk : Ev K m2 tb e (.int k)) (h : atI xs k = some d) : Ev K m (tOp (rIx K) (tVar i) tb) e d := Ev.up fun B T0 σ H T s Q q => by
  obtain ⟨a, hx, hb, ht, vs, hv, iv⟩ := s.own hi
  refine ⟨_, hx, hk B T0 σ H T s _ fun w H1 T1 g i1 => ?_⟩
  have i2 := i1.now (s.gr.h.trans g.h) g.s
  cases i2
  obtain ⟨j, e1, e2, e3, e4, e5⟩ := atI_get h
  obtain ⟨w, hw, iw⟩ := iv.get e2
  have e6 : atI vs k = some w := by
    unfold atI at h ⊢
    rw [iv.length]
    cases z : ixN xs.length k with
    | none => rw [z] at h; cases h
    | some j' =>
      have := (ixN_seq z).1
      rw [e1] at this
      cases this
      show vs[j]? = some w
      exact hw
  exact .inl ⟨a, vs, k, w, rfl, rfl, SqL.of (g.h _ _ hv), e6, q w H1 T1 g (Is.mono g.t d iw)⟩
theorem at_nat {k : Int} (h0 : 0 ≤ k) (h : xs[k.toNat]? = some d) : atI xs k = some d := by
  have e : k = ((k.toNat : Nat) : Int) := by omega
  rw [e]; exact atI_nat h
/-! ### built-in calls -/
theorem rl_abs {i : Int} : RL K [m1] m rAbs [.int i] (.int (if i < 0 then -i else i)) := fun B H T vs hB hT h Q q => by
  match vs, h with
  | [v], h =>
    have i1 := h.1.now hB hT
    cases i1
    exact ⟨i, rfl, q _ H T (Gr.refl hT) (MIs.dat (.int _) hT)⟩
theorem rl_mx2 {i j : Int} : RL K [m1, m2] m rMx2 [.int i, .int j] (.int (max i j)) := fun B H T vs hB hT h Q q => by
  match vs, h with
  | [v, w], h =>
    have i1 := h.1.now hB hT
    have i2 := h.2.1.now hB hT
    cases i1; cases i2
    refine ⟨i, j, rfl, ?_⟩
    have e : (if j > i then j else i) = max i j := by rw [Int.max_def]; split <;> split <;> omega
    rw [e]
    exact q _ H T (Gr.refl hT) (MIs.dat (.int _) hT)
theorem rl_mn2 {i j : Int} : RL K [m1, m2] m rMn2 [.int i, .int j] (.int (min i j)) := fun B H T vs hB hT h Q q => by
  match vs, h with
  | [v, w], h =>
    have i1 := h.1.now hB hT
    have i2 := h.2.1.now hB hT
    cases i1; cases i2
    refine ⟨i, j, rfl, ?_⟩
    have e : (if j < i then j else i) = min i j := by rw [Int.min_def]; split <;> split <;> omega
    rw [e]
    exact q _ H T (Gr.refl hT) (MIs.dat (.int _) hT)
theorem rl_int {i : Int} : RL K [m1] m rIntC [.int i] (.int i) := fun B H T vs hB hT h Q q => by
  match vs, h with
  | [v], h =>
    have i1 := h.1.now hB hT
    cases i1
    exact .inl ⟨i, rfl, q _ H T (Gr.refl hT) (MIs.dat (.int _) hT)⟩
theorem rl_intB {b : Bool} : RL K [m1] m rIntC [.bl b] (.int (if b then 1 else 0)) := fun B H T vs hB hT h Q q => by
  match vs, h with
  | [v], h =>
    have i1 := h.1.now hB hT
    cases i1
    exact .inr ⟨b, rfl, q _ H T (Gr.refl hT) (MIs.dat (.int _) hT)⟩
theorem rl_lenL : RL K [m1] m (rLenU K) [.lst xs] (.int (xs.length : Nat)) := fun B H T vs hB hT h Q q => by
  match vs, h with
  | [v], h =>
    have i1 := h.1.now hB hT
    cases i1 with
    | @lst a vs _ ha hi => exact ⟨_, xs.length, rfl, .inl ⟨vs, SqL.of ha, hi.length.symm⟩, q _ H T (Gr.refl hT) (MIs.dat (.int _) hT)⟩
theorem rl_lenT : RL K [m1] m (rLenU K) [.tup xs] (.int (xs.length : Nat)) := fun B H T vs hB hT h Q q => by
  match vs, h with
  | [v], h =>
    have i1 := h.1.now hB hT
    cases i1 with
    | @tup a vs _ ha hi => exact ⟨_, xs.length, rfl, .inr ⟨vs, ha, hi.length.symm⟩, q _ H T (Gr.refl hT) (MIs.dat (.int _) hT)⟩
theorem rl_lenR : RL K [m1] m (rLenU K) [.rol xs] (.int (xs.length : Nat)) := fun B H T vs hB hT h Q q => by
  match vs, h with
  | [v], h =>
    have i1 := h.1.now hB hT
    cases i1 with
    | @rol a vs _ ha hi => exact ⟨_, xs.length, rfl, .inl ⟨vs, ha, hi.length.symm⟩, q _ H T (Gr.refl hT) (MIs.dat (.int _) hT)⟩
/-- list(xs): a new list; its items are data -/
theorem rlo_list : RLO K [.dat] (rListU K) [.lst xs] (.lst xs) := fun B H T vs hB hT h Q q => by
  match vs, h with
  | [v], h =>
    have i1 : Is K T v (.lst xs) := h.1
    cases i1 with
    | @lst a vs _ ha hi => exact ⟨a, vs, rfl, .inl (SqL.of (hT _ _ ha)), fun l hl => q l _ T (Gr.own hT hl) hl (hT.back hl) ⟨vs, upd_same, hi⟩⟩
theorem rlo_listT : RLO K [.dat] (rListU K) [.tup xs] (.lst xs) := fun B H T vs hB hT h Q q => by
  match vs, h with
  | [v], h =>
    have i1 : Is K T v (.tup xs) := h.1
    cases i1 with
    | @tup a vs _ ha hi => exact ⟨a, vs, rfl, .inr (hT.sqT ha), fun l hl => q l _ T (Gr.own hT hl) hl (hT.back hl) ⟨vs, upd_same, hi⟩⟩
theorem rlo_listI {ns : List Int} : RLO K [m1] (rListU K) [.lst (ns.map D.int)] (.lst (ns.map D.int)) := fun B H T vs hB hT h Q q => by
  match vs, h with
  | [v], h =>
    have i1 := h.1.now hB hT
    cases i1 with
    | @lst a vs _ ha hi =>
      have e := hi.ints
      subst e
      exact ⟨a, _, rfl, .inl (SqL.of ha), fun l hl => q l _ T (Gr.own hT hl) hl (hT.back hl) ⟨_, upd_same, iss_ints ns⟩⟩
/-- tuple(xs) -/
theorem rl_tup : RL K [.dat] m (rTupU K) [.lst xs] (.tup xs) := fun B H T vs hB hT h Q q => by
  match vs, h with
  | [v], h =>
    have i1 : Is K T v (.lst xs) := h.1
    cases i1 with
    | @lst a vs _ ha hi =>
      refine ⟨a, vs, rfl, .inl ⟨SqL.of (hT _ _ ha), fun l hl => ?_⟩⟩
      have g := Gr.new (o := .tup vs) hT hl
      exact q _ _ _ g (MIs.dat (.tup (SqT.of upd_same) (Iss.mono g.t _ hi)) g.s)
theorem rl_tupT : RL K [m] m (rTupU K) [.tup xs] (.tup xs) := fun B H T vs hB hT h Q q => by
  match vs, h with
  | [v], h =>
    have i1 := h.1.now hB hT
    cases i1 with
    | @tup a vs _ ha hi => exact ⟨a, vs, rfl, .inr ⟨ha, q _ H T (Gr.refl hT) h.1⟩⟩
theorem rl_tupI {ns : List Int} : RL K [m1] m (rTupU K) [.lst (ns.map D.int)] (.tup (ns.map D.int)) := fun B H T vs hB hT h Q q => by
  match vs, h with
  | [v], h =>
    have i1 := h.1.now hB hT
    cases i1 with
    | @lst a vs _ ha hi =>
      have e := hi.ints
      subst e
      refine ⟨a, _, rfl, .inl ⟨SqL.of ha, fun l hl => ?_⟩⟩
      have g := Gr.new (o := .tup (ns.map V.int)) hT hl
      exact q _ _ _ g (MIs.dat (.tup (SqT.of upd_same) (iss_ints ns)) g.s)
theorem rl_sum {ns : List Int} : RL K [m1] m (rSum K) [.lst (ns.map D.int)] (.int ns.sum) := fun B H T vs hB hT h Q q => by
  match vs, h with
  | [v], h =>
    have i1 := h.1.now hB hT
    cases i1 with
    | @lst a vs _ ha hi =>
      have e := hi.ints
      subst e
      exact ⟨a, ns, rfl, SqL.of ha, q _ H T (Gr.refl hT) (MIs.dat (.int _) hT)⟩
theorem rl_min {ns : List Int} {k : Int} (h1 : k ∈ ns) (h2 : ∀ y ∈ ns, k ≤ y) : RL K [m1] m (rMin K) [.lst (ns.map D.int)] (.int k) := fun B H T vs hB hT h Q q => by
  match vs, h with
  | [v], h =>
    have i1 := h.1.now hB hT
    cases i1 with
    | @lst a vs _ ha hi =>
      have e := hi.ints
      subst e
      refine ⟨a, ns, rfl, SqL.of ha, List.length_pos_of_mem h1, fun z hz hm => ?_⟩
      have e : z = k := Int.le_antisymm (hm k h1) (h2 z hz)
      rw [e]
      exact q _ H T (Gr.refl hT) (MIs.dat (.int _) hT)
theorem rl_max {ns : List Int} {k : Int} (h1 : k ∈ ns) (h2 : ∀ y ∈ ns, y ≤ k) : RL K [m1] m (rMax K) [.lst (ns.map D.int)] (.int k) := fun B H T vs hB hT h Q q => by
  match vs, h with
  | [v], h =>
    have i1 := h.1.now hB hT
    cases i1 with
    | @lst a vs _ ha hi =>
      have e := hi.ints
      subst e
      refine ⟨a, ns, rfl, SqL.of ha, List.length_pos_of_mem h1, fun z hz hm => ?_⟩
      have e : z = k := Int.le_antisymm (h2 z hz) (hm k h1)
      rw [e]
      exact q _ H T (Gr.refl hT) (MIs.dat (.int _) hT)
/-! ### isinstance with a built-in class -/
def tyD : D → Option String
  | .non => some "NoneType"
  | .bl _ => some "bool"
  | .int _ => some "int"
  | .str _ => some "str"
  | .lst _ => some "list"
  | .tup _ => some "tuple"
  | _ => none
theorem tyX_of {H : Hp} {v : V} {n : String} (h : tyD d = some n) (i : Is K H v d) : TyX K H v (.type n) := by
  cases i with
  | non => cases h; exact .base .non
  | bl => cases h; exact .base (.bl _)
  | int => cases h; exact .base (.int _)
  | str => cases h; exact .base (.str _)
  | raw => cases h
  | rol => cases h
  | ins => cases h
  | lst ha => cases h; exact .base (.lst ha)
  | tup ha =>
    cases h
    rcases ha with (ha | ⟨o, ha⟩) | ⟨o, its, n, hk, hc, _⟩
    · exact .base (.tup ha)
    · exact .fTuple ha
    · exact .kTuple hk hc
theorem rl_isi {n c : String} {b : Bool} (h : tyD d = some n) (hk : kitB n c = some b) : RL K [m1, m2] m (rIsi K) [d, .raw (.ty c)] (.bl b) := fun B H T vs hB hT hm Q q => by
  match vs, hm with
  | [v, w], hm =>
    have i1 := hm.1.now hB hT
    have i2 := hm.2.1.now hB hT
    cases i2
    exact ⟨v, .ty c, .type n, .type c, b, rfl, .ty c, tyX_of h i1, kit_ty hk, q _ H T (Gr.refl hT) (MIs.dat (.bl b) hT)⟩
end
end Fh

set_option Elab.async false
set_option linter.all false
set_option maxRecDepth 100000
set_option maxHeartbeats 4000000
/-! Fh, sixth part: the rules as the evaluator takes them -/
namespace Fh
open PySem PySem.Spec PyProof.Rows L2
theorem sz {n : Nat} (h : n ≤ 100000) : n ≤ sizeLine := Nat.le_trans h (by decide)
theorem szl {n : Nat} (h : n < 100000) : n < sizeLine := Nat.lt_of_lt_of_le h (by decide)
section
variable {K : PySem.W.Frag} {E : XK} {e : En} {d d1 d2 : D} {ds xs ys : List D} {m m1 m2 : Md} {te ta tb tc : TE} {tt tu : TT} {i j k : Int} {b c : Bool} {o : OD} {P : Po} {t u : TS} {n : Nat} {ns : List Int}
theorem ev_addI (ha : Ev K .now ta e (.int i)) (hb : Ev K .now tb e (.int j)) : Ev K m (tOp (rPlus K) ta tb) e (.int (i + j)) := ev_op ha hb rd_plus
theorem ev_subI (ha : Ev K .now ta e (.int i)) (hb : Ev K .now tb e (.int j)) : Ev K m (tOp rMinus ta tb) e (.int (i - j)) := ev_op ha hb rd_minus
theorem ev_mulI (ha : Ev K .now ta e (.int i)) (hb : Ev K .now tb e (.int j)) (h : CMul i j) : Ev K m (tOp rTimes ta tb) e (.int (i * j)) := ev_op ha hb (rd_times h)
theorem ev_divI (ha : Ev K .now ta e (.int i)) (hb : Ev K .now tb e (.int j)) (h : CDiv i j) : Ev K m (tOp rFdiv ta tb) e (.int (i / j)) := ev_op ha hb (rd_fdiv h)
theorem ev_modI (ha : Ev K .now ta e (.int i)) (hb : Ev K .now tb e (.int j)) (h : 0 < j) : Ev K m (tOp rMod ta tb) e (.int (i % j)) := ev_op ha hb (rd_mod h)
theorem ev_powI (ha : Ev K .now ta e (.int i)) (hb : Ev K .now tb e (.int j)) (h : CPow i j) : Ev K m (tOp rPow ta tb) e (.int (i ^ j.toNat)) := ev_op ha hb (rd_pow h)
theorem ev_negI (ha : Ev K .now ta e (.int i)) : Ev K m (tUn (rU fun i => .int (-i)) ta) e (.int (-i)) := Ev.up fun B T0 σ H T s Q q => ha B T0 σ H T s _ fun v H1 T1 g i1 => by
  have i2 := i1.now (s.gr.h.trans g.h) g.s
  cases i2
  exact ⟨i, rfl, q _ H1 T1 g (.int _)⟩
theorem ev_ltI (ha : Ev K .now ta e (.int i)) (hb : Ev K .now tb e (.int j)) : Ev K m (tOp rLt ta tb) e (.bl (decide (i < j))) := ev_op ha hb rd_lt
theorem ev_leI (ha : Ev K .now ta e (.int i)) (hb : Ev K .now tb e (.int j)) : Ev K m (tOp rLe ta tb) e (.bl (decide (i ≤ j))) := ev_op ha hb rd_le
theorem ev_gtI (ha : Ev K .now ta e (.int i)) (hb : Ev K .now tb e (.int j)) : Ev K m (tOp rGt2 ta tb) e (.bl (decide (j < i))) := ev_op ha hb rd_gt
theorem ev_geI (ha : Ev K .now ta e (.int i)) (hb : Ev K .now tb e (.int j)) : Ev K m (tOp rGe2 ta tb) e (.bl (decide (j ≤ i))) := ev_op ha hb rd_ge
theorem ev_eqI (ha : Ev K .now ta e (.int i)) (hb : Ev K .now tb e (.int j)) : Ev K m (tOp (rEqU K) ta tb) e (.bl (decide (i = j))) := ev_op ha hb rd_eqI
theorem ev_neI (ha : Ev K .now ta e (.int i)) (hb : Ev K .now tb e (.int j)) : Ev K m (tOp (rNeU K) ta tb) e (.bl (decide (i ≠ j))) := ev_op ha hb rd_neI
theorem ev_eqS {x y : Str} (ha : Ev K .now ta e (.str x)) (hb : Ev K .now tb e (.str y)) : Ev K m (tOp (rEqU K) ta tb) e (.bl (decide (x = y))) := ev_op ha hb rd_eqS
theorem ev_neS {x y : Str} (ha : Ev K .now ta e (.str x)) (hb : Ev K .now tb e (.str y)) : Ev K m (tOp (rNeU K) ta tb) e (.bl (decide (x ≠ y))) := ev_op ha hb rd_neS
theorem ev_eqL {ns ms : List Int} (ha : Ev K .now ta e (.lst (ns.map D.int))) (hb : Ev K .now tb e (.lst (ms.map D.int))) : Ev K m (tOp (rEqU K) ta tb) e (.bl (decide (ns = ms))) := ev_op ha hb rd_eqInts
theorem ev_neL {ns ms : List Int} (ha : Ev K .now ta e (.lst (ns.map D.int))) (hb : Ev K .now tb e (.lst (ms.map D.int))) : Ev K m (tOp (rNeU K) ta tb) e (.bl (decide (ns ≠ ms))) := ev_op ha hb rd_neInts
theorem ev_is (ha : Ev K .now ta e d1) (hb : Ev K .now tb e d2) (h : isC d1 d2 = some b) : Ev K m (tOp rIsC ta tb) e (.bl b) := ev_op ha hb (rd_is h)
theorem ev_isN (ha : Ev K .now ta e d1) (hb : Ev K .now tb e d2) (h : isC d1 d2 = some b) : Ev K m (tOp rIsNC ta tb) e (.bl (!b)) := ev_op ha hb (rd_isN h)
/-! an item of a row of ints -/
def nth (ns : List Int) (k : Int) : Int := ns.getD k.toNat 0
theorem atI_ints (h0 : 0 ≤ k) (h1 : k < ns.length) : atI (ns.map D.int) k = some (.int (nth ns k)) := by
  refine at_nat h0 ?_
  have hk : k.toNat < ns.length := by omega
  rw [List.getElem?_map, List.getElem?_eq_getElem hk]
  unfold nth
  rw [List.getD_eq_getElem?_getD, List.getElem?_eq_getElem hk]
  rfl
theorem ev_ixI (ha : Ev K .now ta e (.lst (ns.map D.int))) (hb : Ev K .now tb e (.int k)) (h0 : 0 ≤ k) (h1 : k < ns.length) : Ev K m (tOp (rIx K) ta tb) e (.int (nth ns k)) := Ev.sc (m1 := .now) (ev_op ha hb (rd_ixL (atI_ints h0 h1)))
theorem ev_ixIT (ha : Ev K .now ta e (.tup (ns.map D.int))) (hb : Ev K .now tb e (.int k)) (h0 : 0 ≤ k) (h1 : k < ns.length) : Ev K m (tOp (rIx K) ta tb) e (.int (nth ns k)) := Ev.sc (m1 := .now) (ev_op ha hb (rd_ixT (atI_ints h0 h1)))
theorem ev_ixL (ha : Ev K m ta e (.lst xs)) (hb : Ev K .now tb e (.int k)) (h : atI xs k = some d) : Ev K m (tOp (rIx K) ta tb) e d := ev_op ha hb (rd_ixL h)
theorem ev_ixT (ha : Ev K m ta e (.tup xs)) (hb : Ev K .now tb e (.int k)) (h : atI xs k = some d) : Ev K m (tOp (rIx K) ta tb) e d := ev_op ha hb (rd_ixT h)
/-! calls -/
theorem ev_abs (ha : Ev K .now ta e (.int i)) : Ev K m (tCB rAbs (tCons ta tNil)) e (.int (if i < 0 then -i else i)) := ev_cb (ea_cons ha ea_nil) rl_abs
theorem ev_max2 (ha : Ev K .now ta e (.int i)) (hb : Ev K .now tb e (.int j)) : Ev K m (tCB rMx2 (tCons ta (tCons tb tNil))) e (.int (max i j)) := ev_cb (ea_cons ha (ea_cons hb ea_nil)) rl_mx2
theorem ev_min2 (ha : Ev K .now ta e (.int i)) (hb : Ev K .now tb e (.int j)) : Ev K m (tCB rMn2 (tCons ta (tCons tb tNil))) e (.int (min i j)) := ev_cb (ea_cons ha (ea_cons hb ea_nil)) rl_mn2
theorem ev_intc (ha : Ev K .now ta e (.int i)) : Ev K m (tCB rIntC (tCons ta tNil)) e (.int i) := ev_cb (ea_cons ha ea_nil) rl_int
theorem ev_len (ha : Ev K .now ta e (.lst xs)) : Ev K m (tCB (rLenU K) (tCons ta tNil)) e (.int (xs.length : Nat)) := ev_cb (ea_cons ha ea_nil) rl_lenL
theorem ev_lenT (ha : Ev K .now ta e (.tup xs)) : Ev K m (tCB (rLenU K) (tCons ta tNil)) e (.int (xs.length : Nat)) := ev_cb (ea_cons ha ea_nil) rl_lenT
theorem ev_lenM {α : Type} {f : α → D} {as : List α} (ha : Ev K .now ta e (.lst (as.map f))) : Ev K m (tCB (rLenU K) (tCons ta tNil)) e (.int (as.length : Nat)) := by
  have h := ev_len (m := m) ha
  rwa [List.length_map] at h
theorem ev_lenTM {α : Type} {f : α → D} {as : List α} (ha : Ev K .now ta e (.tup (as.map f))) : Ev K m (tCB (rLenU K) (tCons ta tNil)) e (.int (as.length : Nat)) := by
  have h := ev_lenT (m := m) ha
  rwa [List.length_map] at h
theorem ev_sum (ha : Ev K .now ta e (.lst (ns.map D.int))) : Ev K m (tCB (rSum K) (tCons ta tNil)) e (.int ns.sum) := ev_cb (ea_cons ha ea_nil) rl_sum
theorem ev_isi {s c : String} (ha : Ev K .now ta e d) (h : tyD d = some s) (hk : kitB s c = some b) : Ev K m (tCB (rIsi K) (tCons ta (tCons (tC (.ty c)) tNil))) e (.bl b) := ev_cb (ea_cons ha (ea_cons (m := .now) ev_raw ea_nil)) (rl_isi h hk)
theorem ev_chain {r r' : R2} (ha : Ev K .now ta e d1) (hb : Ev K .now tb e d2) (hr : RD K .now .now .now r d1 d2 (.bl b)) (hc : b = true → Ev K .now tc e d ∧ RD K .now .now .now r' d2 d (.bl c)) : Ev K m (tChain r r' ta tb tc) e (.bl (b && c)) := Ev.up fun B T0 σ H T s Q q =>
  ha B T0 σ H T s _ fun x H1 T1 g1 i1 => hb B T0 σ H1 T1 (s.grow g1) _ fun y H2 T2 g2 i2 => by
    have s2 := (s.grow g1).grow g2
    refine hr B H2 T2 x y s2.gr.h g2.s (i1.mono g2.h g2.t) i2 _ fun z H3 T3 g3 i3 => ?_
    have i3' : Is K H3 z (.bl b) := i3
    cases i3'
    refine ⟨b, rfl, ?_⟩
    have s3 := s2.grow g3
    have g13 := (g1.trans g2).trans g3
    cases b with
    | true =>
      obtain ⟨hc, hr'⟩ := hc rfl
      show tc σ H3 _
      refine hc B T0 σ H3 T3 s3 _ fun w H4 T4 g4 i4 => ?_
      have s4 := s3.grow g4
      refine hr' B H4 T4 y w s4.gr.h g4.s ((i2.mono g3.h g3.t).mono g4.h g4.t) i4 _ fun z H5 T5 g5 i5 => ?_
      have i5' : Is K H5 z (.bl c) := i5
      cases i5'
      exact q _ H5 T5 ((g13.trans g4).trans g5) (.bl _)
    | false => exact q _ H3 T3 g13 (.bl false)
theorem et_yes : EvT K tYes e true := fun B T0 σ H T s Q q => q H T (Gr.refl s.gr.s)
/-! list(xs), tuple(xs) -/
theorem evo_list (ha : Ev K .dat ta e (.lst xs)) : EvO K (tCB (rListU K) (tCons ta tNil)) e (.lst xs) := ev_cbO (ea_cons ha ea_nil) rlo_list
theorem evo_listT (ha : Ev K .dat ta e (.tup xs)) : EvO K (tCB (rListU K) (tCons ta tNil)) e (.lst xs) := ev_cbO (ea_cons ha ea_nil) rlo_listT
theorem evo_listI (ha : Ev K .now ta e (.lst (ns.map D.int))) : EvO K (tCB (rListU K) (tCons ta tNil)) e (.lst (ns.map D.int)) := ev_cbO (ea_cons ha ea_nil) rlo_listI
theorem ev_tupI (ha : Ev K .now ta e (.lst (ns.map D.int))) : Ev K m (tCB (rTupU K) (tCons ta tNil)) e (.tup (ns.map D.int)) := ev_cb (ea_cons ha ea_nil) rl_tupI
theorem ev_tupL (ha : Ev K .dat ta e (.lst xs)) : Ev K m (tCB (rTupU K) (tCons ta tNil)) e (.tup xs) := ev_cb (ea_cons ha ea_nil) rl_tup
/-! statements again, with what a test says as a fact -/
theorem run_ifD {p : Prop} [Decidable p] (h : EvT K tt e (decide p)) (h1 : p → Run K E t e P) (h2 : ¬ p → Run K E u e P) : Run K E (tIfS tt t u) e P := run_if h (fun q => h1 (of_decide_eq_true q)) (fun q => h2 (of_decide_eq_false q))
theorem run_ifT (h : EvT K tt e true) (h1 : Run K E t e P) : Run K E (tIfS tt t u) e P := run_if h (fun _ => h1) (fun q => nomatch q)
theorem run_ifF (h : EvT K tt e false) (h1 : Run K E u e P) : Run K E (tIfS tt t u) e P := run_if h (fun q => nomatch q) (fun _ => h1)
theorem run_asgP {p : D → Prop} (h : EvP K te e p) (q : ∀ d, p d → P.nx (e.set n (.dat d))) : Run K E (tAsg te (gName n)) e P := fun B T0 σ H T D s f =>
  h B T0 σ H T s _ fun d v H1 T1 pd g i1 => f.nx _ _ H1 T1 (q d pd) ((s.grow g).set (m := .dat) (fun z => nomatch z) i1)
theorem run_retP {p : D → Prop} (h : EvP K te e p) (q : ∀ d, p d → P.rt d) : Run K E (tRet te) e P := fun B T0 σ H T D s f =>
  h B T0 σ H T s _ fun d v H1 T1 pd g i1 => f.rt d v H1 T1 (q d pd) (s.gr.trans g) i1
/-! slices -/
def EvS (K : PySem.W.Frag) (tp : TO) (e : En) (o : Option Int) : Prop := ∀ (B T0 : Hp) (σ : L2.St) (H T : Hp), Sat K B T0 e σ H T → ∀ Q : Option Int → Hp → Prop, (∀ H' T', Gr H T H' T' → Q o H') → tp σ H Q
theorem es_no : EvS K tNoPart e none := fun B T0 σ H T s Q q => q H T (Gr.refl s.gr.s)
theorem es_some (h : Ev K .now te e (.int i)) : EvS K (tPart te) e (some i) := fun B T0 σ H T s Q q => h B T0 σ H T s _ fun v H1 T1 g i1 => by
  have i2 := i1.now (s.gr.h.trans g.h) g.s
  cases i2
  exact ⟨i, rfl, q H1 T1 g⟩
/-- xs[lo:hi] -/
def cut {α : Type} (xs : List α) (lo hi : Option Int) : List α := (xs.drop (HT.sIx xs.length 0 lo)).take (HT.sIx xs.length xs.length hi - HT.sIx xs.length 0 lo)
theorem cut_iss {H : Hp} {vs : List V} {lo hi : Option Int} (h : Iss K H vs xs) : Iss K H (cutV vs lo hi) (cut xs lo hi) := by
  unfold cutV cut
  rw [h.length]
  exact (h.drop _).take _
theorem cut_map {α β : Type} (f : α → β) (xs : List α) (lo hi : Option Int) : cut (xs.map f) lo hi = (cut xs lo hi).map f := by
  unfold cut
  rw [List.length_map, List.map_take, List.map_drop]
theorem evo_slR {tl th : TO} {lo hi : Option Int} (ha : Ev K .now te e (.rol (ns.map D.int))) (hl : EvS K tl e lo) (hh : EvS K th e hi) : EvO K (tSl (rSlU K) te tl th) e (.lst ((cut ns lo hi).map D.int)) := fun B T0 σ H T s Q q =>
  ha B T0 σ H T s _ fun v H1 T1 g1 i1 => hl B T0 σ H1 T1 (s.grow g1) _ fun H2 T2 g2 => hh B T0 σ H2 T2 ((s.grow g1).grow g2) _ fun H3 T3 g3 => by
    have i2 : Is K H3 v _ := Is.mono (g2.h.trans g3.h) _ i1
    cases i2 with
    | @rol a vs _ hv iv =>
      have ev := iv.ints
      subst ev
      refine .inl ⟨a, _, rfl, hv, fun p hp => ?_⟩
      have g := (g1.trans g2).trans g3
      refine q p _ T3 (g.trans (Gr.own g3.s hp)) (g.h.back hp) (g3.s.back hp) ⟨_, upd_same, ?_⟩
      have := cut_iss (lo := lo) (hi := hi) (iss_ints (K := K) (H := T3) ns)
      rwa [cut_map] at this
theorem evo_slI {tl th : TO} {lo hi : Option Int} (ha : Ev K .now te e (.lst (ns.map D.int))) (hl : EvS K tl e lo) (hh : EvS K th e hi) : EvO K (tSl (rSlU K) te tl th) e (.lst ((cut ns lo hi).map D.int)) := fun B T0 σ H T s Q q =>
  ha B T0 σ H T s _ fun v H1 T1 g1 i1 => hl B T0 σ H1 T1 (s.grow g1) _ fun H2 T2 g2 => hh B T0 σ H2 T2 ((s.grow g1).grow g2) _ fun H3 T3 g3 => by
    have i2 : Is K H3 v _ := Is.mono (g2.h.trans g3.h) _ i1
    cases i2 with
    | @lst a vs _ hv iv =>
      have ev := iv.ints
      subst ev
      refine .inl ⟨a, _, rfl, SqL.of hv, fun p hp => ?_⟩
      have g := (g1.trans g2).trans g3
      refine q p _ T3 (g.trans (Gr.own g3.s hp)) (g.h.back hp) (g3.s.back hp) ⟨_, upd_same, ?_⟩
      have := cut_iss (lo := lo) (hi := hi) (iss_ints (K := K) (H := T3) ns)
      rwa [cut_map] at this
theorem evo_slL {tl th : TO} {lo hi : Option Int} (ha : Ev K .dat te e (.lst xs)) (hl : EvS K tl e lo) (hh : EvS K th e hi) : EvO K (tSl (rSlU K) te tl th) e (.lst (cut xs lo hi)) := fun B T0 σ H T s Q q =>
  ha B T0 σ H T s _ fun v H1 T1 g1 i1 => hl B T0 σ H1 T1 (s.grow g1) _ fun H2 T2 g2 => hh B T0 σ H2 T2 ((s.grow g1).grow g2) _ fun H3 T3 g3 => by
    have i2 : Is K T3 v _ := Is.mono (g2.t.trans g3.t) _ (show Is K T1 v _ from i1)
    cases i2 with
    | @lst a vs _ hv iv =>
      refine .inl ⟨a, _, rfl, SqL.of (g3.s _ _ hv), fun p hp => ?_⟩
      have g := (g1.trans g2).trans g3
      exact q p _ T3 (g.trans (Gr.own g3.s hp)) (g.h.back hp) (g3.s.back hp) ⟨_, upd_same, cut_iss iv⟩
theorem ev_slT {tl th : TO} {lo hi : Option Int} (ha : Ev K .dat te e (.tup xs)) (hl : EvS K tl e lo) (hh : EvS K th e hi) : Ev K m (tSl (rSlU K) te tl th) e (.tup (cut xs lo hi)) := Ev.up fun B T0 σ H T s Q q =>
  ha B T0 σ H T s _ fun v H1 T1 g1 i1 => hl B T0 σ H1 T1 (s.grow g1) _ fun H2 T2 g2 => hh B T0 σ H2 T2 ((s.grow g1).grow g2) _ fun H3 T3 g3 => by
    have i2 : Is K T3 v (.tup xs) := Is.mono (g2.t.trans g3.t) _ (show Is K T1 v _ from i1)
    have g := (g1.trans g2).trans g3
    cases id i2 with
    | @tup a vs _ hv iv =>
      refine .inr ⟨a, vs, rfl, g3.s.sqT hv, fun ⟨z1, z2⟩ => ?_, fun _ p hp => ?_⟩
      · have : cut xs lo hi = xs := by
          unfold cut
          rw [← iv.length, z1, z2, List.drop_zero, Nat.sub_zero, iv.length, List.take_length]
        exact q _ H3 T3 g (show Is K T3 _ _ by rw [this]; exact i2)
      · have g4 := Gr.new (o := .tup (cutV vs lo hi)) g3.s hp
        exact q _ _ _ (g.trans g4) (.tup (SqT.of upd_same) (Iss.mono g4.t _ (cut_iss iv)))
theorem atI_map {α : Type} {f : α → D} {as : List α} {a0 : α} (h0 : 0 ≤ k) (h1 : k < as.length) : atI (as.map f) k = some (f (as.getD k.toNat a0)) := by
  refine at_nat h0 ?_
  have hk : k.toNat < as.length := by omega
  rw [List.getElem?_map, List.getElem?_eq_getElem hk, List.getD_eq_getElem?_getD, List.getElem?_eq_getElem hk]
  rfl
end
end Fh

set_option Elab.async false
set_option linter.all false
set_option maxRecDepth 100000
set_option maxHeartbeats 4000000
/-! Fh, seventh part: the drawing helpers that every law has: _law_mixed, _law_pool, _law_same -/
namespace Fh
open PySem PySem.Spec PyProof.Rows L2
local macro_rules | `(tactic| walk_at "side") => `(tactic| first
  | assumption | decide | omega
  | exact ⟨by decide, by decide⟩ | exact ⟨by omega, by omega⟩ | exact Or.inl ⟨by omega, by omega⟩ | exact Or.inr ⟨by omega, by omega⟩
  | exact ⟨by decide, by decide, by decide⟩ | exact sz (by simp) | exact szl (by simp) | rfl)
local macro_rules | `(tactic| walk_at "ev") => `(tactic| first
  | exact ev_int
  | exact ev_bl
  | exact ev_str
  | exact ev_non
  | exact ev_dat rfl
  | exact ev_bor rfl
  | exact (ev_bor rfl).nw
  | exact ev_own rfl
  | exact (ev_bor rfl).sc
  | exact (ev_bor rfl).scB
  | exact (ev_bor rfl).scS
  | exact (ev_bor rfl).scN
  | (apply ev_addI; walk_at "ev"; walk_at "ev")
  | (apply ev_subI; walk_at "ev"; walk_at "ev")
  | (apply ev_ltI; walk_at "ev"; walk_at "ev")
  | (apply ev_leI; walk_at "ev"; walk_at "ev")
  | (apply ev_gtI; walk_at "ev"; walk_at "ev")
  | (apply ev_geI; walk_at "ev"; walk_at "ev")
  | (apply ev_eqI; walk_at "ev"; walk_at "ev")
  | (apply ev_neI; walk_at "ev"; walk_at "ev")
  | (apply ev_eqS; walk_at "ev"; walk_at "ev")
  | (apply ev_neS; walk_at "ev"; walk_at "ev")
  | (apply ev_eqL; walk_at "ev"; walk_at "ev")
  | (apply ev_neL; walk_at "ev"; walk_at "ev")
  | (apply ev_max2; walk_at "ev"; walk_at "ev")
  | (apply ev_min2; walk_at "ev"; walk_at "ev")
  | (apply ev_mulI; walk_at "ev"; walk_at "ev"; walk_at "side")
  | (apply ev_divI; walk_at "ev"; walk_at "ev"; walk_at "side")
  | (apply ev_modI; walk_at "ev"; walk_at "ev"; walk_at "side")
  | (apply ev_powI; walk_at "ev"; walk_at "ev"; walk_at "side")
  | (apply ev_negI; walk_at "ev")
  | (apply ev_abs; walk_at "ev")
  | (apply ev_intc; walk_at "ev")
  | (apply ev_lenM; walk_at "ev")
  | (apply ev_lenTM; walk_at "ev")
  | (apply ev_len; walk_at "ev")
  | (apply ev_lenT; walk_at "ev")
  | (apply ev_sum; walk_at "ev")
  | (apply ev_notV; walk_at "ev")
  | (apply ev_tupI; walk_at "ev")
  | (apply ev_is; walk_at "ev"; walk_at "ev"; rfl)
  | (apply ev_isN; walk_at "ev"; walk_at "ev"; rfl)
  | (apply ev_ixI; walk_at "ev"; walk_at "ev"; walk_at "side"; walk_at "side")
  | (apply ev_ixIT; walk_at "ev"; walk_at "ev"; walk_at "side"; walk_at "side")
  | (apply ev_andV; walk_at "ev"; (intro _; walk_at "ev"))
  | (apply ev_orV; walk_at "ev"; (intro _; walk_at "ev"))
  | (apply ev_tup; walk_at "ed"; walk_at "side")
  | exact ev_nil
  | (apply ev_lst; walk_at "ed"; walk_at "side")
  | (apply ev_isi; walk_at "ev"; rfl; decide +kernel))
local macro_rules | `(tactic| walk_at "ea") => `(tactic| first
  | exact ea_nil
  | (apply ea_cons; walk_at "ev"; walk_at "ea"))
local macro_rules | `(tactic| walk_at "ed") => `(tactic| first
  | exact ed_nil
  | (apply ed_cons; walk_at "ev"; walk_at "ed"))
local macro_rules | `(tactic| walk_at "et") => `(tactic| first
  | exact et_yes
  | (apply et_and; walk_at "et"; (intro _; walk_at "et"))
  | (apply et_or; walk_at "et"; (intro _; walk_at "et"))
  | (apply et_not; walk_at "et")
  | (refine et_test (m := .now) ?_; walk_at "ev")
  | (refine et_B (m := .now) ?_; walk_at "ev"))
local macro_rules | `(tactic| walk_at "asg") => `(tactic| (first
  | (refine run_seq ?_; apply run_asg; walk_at "ev"; dsimp only [List.set])
  | (apply run_asg; walk_at "ev"; dsimp only [List.set])))
def rd_l_mixed (K : PySem.W.Frag) : TS :=
  (tSeq (tAsg (tOp (rMod) (tCB (rIntC) (tCons (tOp (rPlus K) (tOp (rPlus K) (tOp (rTimes) (tVar 0) (tC (.int 48271))) (tOp (rTimes) (tVar 1) (tC (.int 69621)))) (tC (.int 11))) tNil)) (tC (.int 2147483647))) (gName 2))
  (tSeq (tAsg (tOp (rMod) (tCB (rIntC) (tCons (tOp (rPlus K) (tOp (rPlus K) (tOp (rTimes) (tVar 2) (tVar 2)) (tOp (rTimes) (tVar 1) (tC (.int 40692)))) (tC (.int 7))) tNil)) (tC (.int 2147483399))) (gName 3))
  (tRet (tOp (rMod) (tCB (rIntC) (tCons (tOp (rFdiv) (tVar 3) (tC (.int 7))) tNil)) (tC (.int 1000))))))
def rd_l_pool (K : PySem.W.Frag) (sp_l_mixed : Sp) : TS :=
  (tSeq (tAsg (tLc (iSeq K (tSl (rSlU K) (tVar 0) tNoPart (tPart (tC (.int 63))))) (gName 4) tYes (tCB (rAbs) (tCons (tCB (rIntC) (tCons (tVar 4) tNil)) tNil)) [4]) (gName 2))
  (tSeq (tIfS (tTest (tOp (rEqU K) (tVar 2) (tLst tNil))) (tAsg (tLst (tCons (tC (.int 0)) tNil)) (gName 2)) tNext)
  (tSeq (tAsg (tLst tNil) (gName 3))
  (tSeq (tFor (iSeq K (tVar 2)) (gName 4) (tSeq (tAsg (tLst tNil) (gName 7))
  (tSeq (tAsg (tVar 4) (gName 8))
  (tSeq (tIfS (tTest (tOp (rGe2) (tVar 4) (tOp (rPow) (tC (.int 10)) (tC (.int 18))))) (tFor (iRng1 (tCons (tC (.int 90)) tNil)) (gName 10) (tIfS (tTest (tOp (rGt2) (tVar 8) (tC (.int 0)))) (tSeq (tDrop (tBM K "list" rAppend (tVar 7) (tCons (tOp (rMod) (tCB (rIntC) (tCons (tVar 8) tNil)) (tC (.int 1000))) tNil)))
  (tAsg (tOp (rFdiv) (tVar 8) (tC (.int 1000))) (gName 8))) tNext)) tNext)
  (tDrop (tBM K "list" rAppend (tVar 3) (tCons (tVar 7) tNil)))))))
  (tSeq (tAsg (tLst tNil) (gName 5))
  (tSeq (tFor (iRng1 (tCons (tVar 1) tNil)) (gName 6) (tSeq (tAsg (tOp (rMod) (tCB (rIntC) (tCons (tVar 6) tNil)) (tCB (rLenU K) (tCons (tVar 2) tNil))) (gName 9))
  (tSeq (tAsg (tOp (rFdiv) (tVar 6) (tCB (rLenU K) (tCons (tVar 2) tNil))) (gName 10))
  (tIfS (tTest (tOp (rLt) (tVar 10) (tCB (rLenU K) (tCons (tOp (rIx K) (tVar 3) (tVar 9)) tNil)))) (tDrop (tBM K "list" rAppend (tVar 5) (tCons (tOp (rIx K) (tOp (rIx K) (tVar 3) (tVar 9)) (tVar 10)) tNil))) (tDrop (tBM K "list" rAppend (tVar 5) (tCons (tCall sp_l_mixed [] E0 (tCons (tOp (rPlus K) (tOp (rMod) (tCB (rIntC) (tCons (tOp (rIx K) (tVar 2) (tVar 9)) tNil)) (tC (.int 1000003))) (tOp (rTimes) (tC (.int 7919)) (tVar 9))) (tCons (tOp (rPlus K) (tVar 10) (tC (.int 1))) tNil))) tNil)))))))
  (tRet (tVar 5))))))))
def rd_l_same (K : PySem.W.Frag) (sp_l_same : Sp) : TS :=
  (tSeq (tIfS (tTest (tOp (rIsC) (tVar 1) (tC .non))) (tRet (tOp (rIsC) (tVar 0) (tC .non))) tNext)
  (tSeq (tIfS (tTest (tOp (rIsC) (tVar 1) (tC (.bl true)))) (tRet (tOp (rIsC) (tVar 0) (tC (.bl true)))) tNext)
  (tSeq (tIfS (tTest (tOp (rIsC) (tVar 1) (tC (.bl false)))) (tRet (tOp (rIsC) (tVar 0) (tC (.bl false)))) tNext)
  (tSeq (tIfS (tB (tCB (rIsi K) (tCons (tVar 1) (tCons (tC (.ty "int")) tNil)))) (tRet (tAndV (tCB (rIsi K) (tCons (tVar 0) (tCons (tC (.ty "int")) tNil))) (tAndV (tNotV (tCB (rIsi K) (tCons (tVar 0) (tCons (tC (.ty "bool")) tNil)))) (tOp (rEqU K) (tVar 0) (tVar 1))))) tNext)
  (tSeq (tIfS (tB (tCB (rIsi K) (tCons (tVar 1) (tCons (tC (.ty "str")) tNil)))) (tRet (tAndV (tCB (rIsi K) (tCons (tVar 0) (tCons (tC (.ty "str")) tNil))) (tOp (rEqU K) (tVar 0) (tVar 1)))) tNext)
  (tSeq (tIfS (tB (tCB (rIsi K) (tCons (tVar 1) (tCons (tC (.ty "tuple")) tNil)))) (tIfS (tOr (tNot (tB (tCB (rIsi K) (tCons (tVar 0) (tCons (tC (.ty "tuple")) tNil))))) (tTest (tOp (rNeU K) (tCB (rLenU K) (tCons (tVar 0) tNil)) (tCB (rLenU K) (tCons (tVar 1) tNil))))) (tRet (tC (.bl false))) tNext) (tIfS (tOr (tNot (tB (tCB (rIsi K) (tCons (tVar 0) (tCons (tC (.ty "list")) tNil))))) (tTest (tOp (rNeU K) (tCB (rLenU K) (tCons (tVar 0) tNil)) (tCB (rLenU K) (tCons (tVar 1) tNil))))) (tRet (tC (.bl false))) tNext))
  (tSeq (tFor (iRng1 (tCons (tCB (rLenU K) (tCons (tVar 1) tNil)) tNil)) (gName 2) (tIfS (tNot (tB (tCall sp_l_same [] E0 (tCons (tOp (rIx K) (tVar 0) (tVar 2)) (tCons (tOp (rIx K) (tVar 1) (tVar 2)) tNil))))) (tRet (tC (.bl false))) tNext))
  (tRet (tC (.bl true))))))))))
section
variable {K : PySem.W.Frag} {E : XK}
/-! ### _law_mixed -/
def mixed1 (n t : Int) : Int := (n * 48271 + t * 69621 + 11) % 2147483647
def mixed (n t : Int) : Int := ((mixed1 n t * mixed1 n t + t * 40692 + 7) % 2147483399 / 7) % 1000
theorem mixed_lt (n t : Int) : 0 ≤ mixed n t ∧ mixed n t < 1000 := by
  unfold mixed
  exact ⟨Int.emod_nonneg _ (by decide), Int.emod_lt_of_pos _ (by decide)⟩
def spMixed (K : PySem.W.Frag) : Sp := SpP K [.dat, .dat] (fun a : Int × Int => [.int a.1, .int a.2]) (fun _ => True) (fun a => .int (mixed a.1 a.2))
theorem run_mixed (n t : Int) : Run K E (rd_l_mixed K) (En0 [.dat, .dat] [.int n, .int t] 2) { nx := fun _ => D.non = .int (mixed n t), rt := fun d => d = .int (mixed n t) } := by
  unfold rd_l_mixed
  show Run K E _ [.dat (.int n), .dat (.int t), .no, .no] _
  walk_at "asg"
  have h0 : 0 ≤ mixed1 n t := Int.emod_nonneg _ (by decide)
  have h1 : mixed1 n t < 2147483647 := Int.emod_lt_of_pos _ (by decide)
  show Run K E _ [.dat (.int n), .dat (.int t), .dat (.int (mixed1 n t)), .no] _
  walk_at "asg"
  exact run_ret (by walk_at "ev") rfl
/-! ### _law_pool -/
def Unit1000 (ns : List Int) : Prop := ∀ x ∈ ns, 0 ≤ x ∧ x < 1000
theorem Unit1000.nil : Unit1000 [] := fun _ h => nomatch h
theorem Unit1000.snoc {ns : List Int} {x : Int} (h : Unit1000 ns) (h0 : 0 ≤ x) (h1 : x < 1000) : Unit1000 (ns ++ [x]) := fun y hy => by
  rcases List.mem_append.mp hy with q | q
  · exact h y q
  · rw [List.mem_singleton.mp q]; exact ⟨h0, h1⟩
theorem Unit1000.nth {ns : List Int} (h : Unit1000 ns) (k : Int) : 0 ≤ nth ns k ∧ nth ns k < 1000 := by
  unfold Fh.nth
  rw [List.getD_eq_getElem?_getD]
  cases q : ns[k.toNat]? with
  | none => exact ⟨by decide, by decide⟩
  | some x => exact h x (List.mem_of_getElem? q)
def rowD (r : List Int) : D := .lst (r.map D.int)
def spPool (K : PySem.W.Frag) : Sp := SpR K [.now, .dat] (fun a : List Int × Nat => [.rol (a.1.map D.int), .int (a.2 : Nat)]) (fun a => a.2 ≤ 100000) (fun a d => ∃ ns : List Int, d = rowD ns ∧ ns.length = a.2 ∧ Unit1000 ns)
def absI (i : Int) : Int := if i < 0 then -i else i
theorem filterMap_ints (f : Int → Int) (ns : List Int) : (ns.map D.int).filterMap (fun d => match d with | .int i => some (D.int (f i)) | _ => none) = (ns.map f).map D.int := by
  induction ns with
  | nil => rfl
  | cons n ns ih => simp only [List.map_cons, List.filterMap_cons, ih]
theorem get_ints {ns : List Int} {i : Nat} {d : D} (h : (ns.map D.int)[i]? = some d) : ∃ n, ns[i]? = some n ∧ d = .int n := by
  rw [List.getElem?_map] at h
  cases q : ns[i]? with
  | none => rw [q] at h; cases h
  | some n => rw [q] at h; exact ⟨n, rfl, (Option.some.inj h).symm⟩
theorem get_rg {lo : Int} {n i : Nat} {d : D} (h : (rgD lo n)[i]? = some d) : i < n ∧ d = .int (lo + (i : Nat)) := by
  have hi : i < n := by
    have := (List.getElem?_eq_some_iff.mp h).1
    rwa [rgD_len] at this
  rw [rgD_get hi] at h
  cases h
  exact ⟨hi, rfl⟩
theorem cut63 (ns : List Int) : (cut ns none (some 63)).length ≤ 63 := by
  unfold cut
  rw [List.length_take]
  have : HT.sIx ns.length ns.length (some 63) ≤ 63 := by
    rw [show (63 : Int) = ((63 : Nat) : Int) from rfl, HT.sIx_nat]
    omega
  omega
end
section
variable {K : PySem.W.Frag} {E : XK}
/-- one turn's digits -/
theorem run_pool (ns : List Int) (many : Nat) (hm : many ≤ 100000) :
    Run K E (rd_l_pool K (spMixed K)) (En0 [.now, .dat] [.rol (ns.map D.int), .int (many : Nat)] 9) { nx := fun _ => ∃ ms : List Int, D.non = rowD ms ∧ ms.length = many ∧ Unit1000 ms, rt := fun d => ∃ ms : List Int, d = rowD ms ∧ ms.length = many ∧ Unit1000 ms } := by
  unfold rd_l_pool
  show Run K E _ [.bor (.rol (ns.map D.int)), .dat (.int (many : Nat)), .no, .no, .no, .no, .no, .no, .no, .no, .no] _
  -- cells = [abs(int(cell)) for cell in script[:63]]
  have hc := cut63 ns
  obtain ⟨cs, hcs⟩ : ∃ cs, cs = (cut ns none (some 63)).map absI := ⟨_, rfl⟩
  have hlc : cs.length ≤ 63 := by rw [hcs, List.length_map]; exact hc
  refine run_seq (run_asg (d := rowD cs) ?_ ?_)
  · refine ((ev_lcO (m := .dat) (xs := (cut ns none (some 63)).map D.int) (fun d => match d with | .int i => some (D.int (absI i)) | _ => none) ?_ ?_ ?_).dat).is ?_
    · exact ei_lst (fun z => nomatch z) ((evo_slR (ev_bor rfl).nw es_no (es_some ev_int)).dat)
    · rw [List.length_map]; exact sz (by omega)
    · intro i d h
      obtain ⟨n, _, rfl⟩ := get_ints h
      exact ⟨_, tg_dat, .inl ⟨_, et_yes, rfl, by walk_at "ev"⟩⟩
    · rw [filterMap_ints, hcs]; rfl
  dsimp only [List.set]
  -- if cells == []: cells = [0]
  refine run_seqM (fun e => ∃ cs : List Int, 0 < cs.length ∧ cs.length ≤ 63 ∧ e = [.bor (.rol (ns.map D.int)), .dat (.int (many : Nat)), .dat (rowD cs), .no, .no, .no, .no, .no, .no, .no, .no]) ?_ ?_
  · refine run_ifD (p := cs = []) (et_test (m := .now) (ev_eqL (ns := cs) (ms := []) (ev_dat rfl) ev_nil)) (fun _ => ?_) (fun h => run_next ⟨cs, ?_, hlc, rfl⟩)
    · exact run_asg (d := rowD [0]) (ev_lst (ed_cons ev_int ed_nil) (by decide)) ⟨[0], by decide, by decide, rfl⟩
    · cases cs with
      | nil => exact absurd rfl h
      | cons a r => exact Nat.succ_pos _
  clear hcs hlc cs
  rintro _ ⟨cs, hc0, hc1, rfl⟩
  -- digits = []
  refine run_seq (run_asgO evo_nil ?_)
  dsimp only [List.set]
  -- for cell in cells: ..
  refine run_seq (run_for (m := .dat) (xs := cs.map D.int) (ei_lst (fun z => nomatch z) (ev_dat rfl))
    (fun i e => ∃ (ds : List (List Int)) (s4 s7 s8 s10 : Sl), ds.length = i ∧ (∀ r ∈ ds, Unit1000 r) ∧ e = [.bor (.rol (ns.map D.int)), .dat (.int (many : Nat)), .dat (rowD cs), .own (.lst (ds.map rowD)), s4, .no, .no, s7, s8, .no, s10])
    ⟨[], .no, .no, .no, .no, rfl, (fun _ h => nomatch h), rfl⟩ ?_ ?_)
  · rintro i _ _ hx ⟨ds, s4, s7, s8, s10, hl, hu, rfl⟩
    have hi : i < 63 := by
      have := (List.getElem?_eq_some_iff.mp hx).1
      rw [List.length_map] at this
      omega
    obtain ⟨cell, _, rfl⟩ := get_ints hx
    refine ⟨_, [4], tg_dat, ?_⟩
    dsimp only [List.set]
    -- row = []; rest = cell
    refine run_seq (run_asgO evo_nil ?_)
    dsimp only [List.set]
    walk_at "asg"
    refine run_seqM (fun e => ∃ (r : List Int) (s8 s10 : Sl), Unit1000 r ∧ e = [.bor (.rol (ns.map D.int)), .dat (.int (many : Nat)), .dat (rowD cs), .own (.lst (ds.map rowD)), .dat (.int cell), .no, .no, .own (.lst (r.map D.int)), s8, .no, s10]) ?_ ?_
    · refine run_ifD (p := (10 : Int) ^ (18 : Int).toNat ≤ cell) (by walk_at "et") (fun _ => ?_) (fun _ => run_next ⟨[], _, s10, Unit1000.nil, rfl⟩)
      refine run_for (m := .dat) (ei_rng1 (m := .dat) (ea_cons ev_int ea_nil) (by decide) (by decide))
        (fun j e => ∃ (r : List Int) (rest : Int) (s10 : Sl), r.length ≤ j ∧ Unit1000 r ∧ e = [.bor (.rol (ns.map D.int)), .dat (.int (many : Nat)), .dat (rowD cs), .own (.lst (ds.map rowD)), .dat (.int cell), .no, .no, .own (.lst (r.map D.int)), .dat (.int rest), .no, s10])
        ⟨[], cell, s10, Nat.le_refl _, Unit1000.nil, rfl⟩ ?_ ?_
      · rintro j _ _ hx ⟨r, rest, s10, hj, hr, rfl⟩
        obtain ⟨hj2, rfl⟩ := get_rg hx
        refine ⟨_, [10], tg_dat, ?_⟩
        dsimp only [List.set]
        refine run_ifD (p := 0 < rest) (by walk_at "et") (fun h => ?_) (fun _ => run_next ⟨r, rest, _, by omega, hr, rfl⟩)
        refine run_seq (run_app (d := .int (rest % 1000)) rfl (by walk_at "ev") (by rw [List.length_map]; exact szl (by have : (90 : Int).toNat = 90 := rfl; omega)) ?_)
        dsimp only [List.set]
        walk_at "asg"
        exact ⟨r ++ [rest % 1000], rest / 1000, _, by rw [List.length_append]; show r.length + 1 ≤ j + 1; omega, hr.snoc (Int.emod_nonneg _ (by decide)) (Int.emod_lt_of_pos _ (by decide)), by rw [List.map_append]; rfl⟩
      · rintro _ ⟨r, rest, s10, _, hr, rfl⟩
        exact ⟨r, _, _, hr, rfl⟩
    · rintro _ ⟨r, s8', s10', hr, rfl⟩
      -- digits.append(row)
      refine run_give (i := 7) rfl ?_
      dsimp only [List.set, OD.d]
      refine run_app (d := rowD r) rfl (ev_dat rfl) (by rw [List.length_map, hl]; exact szl (by omega)) ?_
      dsimp only [List.set]
      exact ⟨ds ++ [r], _, _, _, _, by rw [List.length_append, hl]; rfl, fun q hq => (List.mem_append.mp hq).elim (hu q) fun z => by rw [List.mem_singleton.mp z]; exact hr, by rw [List.map_append]; rfl⟩
  rintro _ ⟨ds, s4, s7, s8, s10, hl, hu, rfl⟩
  rw [List.length_map] at hl
  refine run_give (i := 3) rfl ?_
  dsimp only [List.set, OD.d]
  -- pool = []
  refine run_seq (run_asgO evo_nil ?_)
  dsimp only [List.set]
  refine run_seq (run_for (m := .dat) (ei_rng1 (m := .dat) (ea_cons (ev_dat rfl) ea_nil) (by omega) (by omega))
    (fun i e => ∃ (ps : List Int) (s6 s9 s10 : Sl), ps.length = i ∧ Unit1000 ps ∧ e = [.bor (.rol (ns.map D.int)), .dat (.int (many : Nat)), .dat (rowD cs), .dat (.lst (ds.map rowD)), s4, .own (.lst (ps.map D.int)), s6, s7, s8, s9, s10])
    ⟨[], _, _, _, rfl, Unit1000.nil, rfl⟩ ?_ ?_)
  · rintro i _ _ hx ⟨ps, s6, s9, s10, hp, hu2, rfl⟩
    obtain ⟨hi, rfl⟩ := get_rg hx
    have hi2 : i < 100000 := by omega
    refine ⟨_, [6], tg_dat, ?_⟩
    dsimp only [List.set]
    have hcl : (0 : Int) < (cs.length : Nat) := by omega
    walk_at "asg"
    walk_at "asg"
    obtain ⟨a, ha⟩ : ∃ a : Int, a = (0 + (i : Nat)) % (cs.length : Nat) := ⟨_, rfl⟩
    obtain ⟨t, ht⟩ : ∃ t : Int, t = (0 + (i : Nat)) / (cs.length : Nat) := ⟨_, rfl⟩
    rw [← ha, ← ht]
    have ha0 : 0 ≤ a := by rw [ha]; exact Int.emod_nonneg _ (by omega)
    have ha1 : a < (cs.length : Nat) := by rw [ha]; exact Int.emod_lt_of_pos _ hcl
    have ht0 : 0 ≤ t := by rw [ht]; exact Int.ediv_nonneg (by omega) (by omega)
    have hix : Ev K .dat (tOp (rIx K) (tVar 3) (tVar 9)) [.bor (.rol (ns.map D.int)), .dat (.int (many : Nat)), .dat (rowD cs), .dat (.lst (ds.map rowD)), s4, .own (.lst (ps.map D.int)), .dat (.int (0 + (i : Nat))), s7, s8, .dat (.int a), .dat (.int t)] (rowD (ds.getD a.toNat [])) :=
      ev_ixL (ev_dat rfl) (ev_dat rfl) (atI_map ha0 (by rw [hl]; exact ha1))
    have hrow : Unit1000 (ds.getD a.toNat []) := by
      rw [List.getD_eq_getElem?_getD]
      cases q : ds[a.toNat]? with
      | none => exact Unit1000.nil
      | some r => exact hu r (List.mem_of_getElem? q)
    generalize ds.getD a.toNat [] = row at hix hrow
    refine run_ifD (p := t < (row.length : Nat)) (et_test (m := .now) (ev_ltI (ev_dat rfl) (ev_lenM (f := D.int) hix.nw))) (fun h => ?_) (fun _ => ?_)
    · refine run_app (d := .int (nth row t)) rfl (ev_ixI hix.nw (ev_dat rfl) ht0 h) (by rw [List.length_map, hp]; exact szl hi2) ?_
      dsimp only [List.set]
      exact ⟨ps ++ [nth row t], _, _, _, by rw [List.length_append, hp]; rfl, hu2.snoc (hrow.nth t).1 (hrow.nth t).2, by rw [List.map_append]; rfl⟩
    · refine run_app (d := .int (mixed (nth cs a % 1000003 + 7919 * a) (t + 1))) rfl ?_ (by rw [List.length_map, hp]; exact szl hi2) ?_
      · exact ev_call (out := fun a : Int × Int => D.int (mixed a.1 a.2)) (nth cs a % 1000003 + 7919 * a, t + 1) trivial (by walk_at "ea")
      · dsimp only [List.set]
        exact ⟨ps ++ [mixed (nth cs a % 1000003 + 7919 * a) (t + 1)], _, _, _, by rw [List.length_append, hp]; rfl, hu2.snoc (mixed_lt _ _).1 (mixed_lt _ _).2, by rw [List.map_append]; rfl⟩
  rintro _ ⟨ps, s6, s9, s10', hp, hu2, rfl⟩
  rw [rgD_len] at hp
  exact run_retO (o := .lst (ps.map D.int)) rfl ⟨ps, rfl, by rw [hp]; omega, hu2⟩
end
/-! ### _law_same -/
theorem kb_NoneType_int : kitB "NoneType" "int" = some false := by decide +kernel
theorem kb_NoneType_bool : kitB "NoneType" "bool" = some false := by decide +kernel
theorem kb_NoneType_str : kitB "NoneType" "str" = some false := by decide +kernel
theorem kb_NoneType_list : kitB "NoneType" "list" = some false := by decide +kernel
theorem kb_NoneType_tuple : kitB "NoneType" "tuple" = some false := by decide +kernel
theorem kb_bool_int : kitB "bool" "int" = some true := by decide +kernel
theorem kb_bool_bool : kitB "bool" "bool" = some true := by decide +kernel
theorem kb_bool_str : kitB "bool" "str" = some false := by decide +kernel
theorem kb_bool_list : kitB "bool" "list" = some false := by decide +kernel
theorem kb_bool_tuple : kitB "bool" "tuple" = some false := by decide +kernel
theorem kb_int_int : kitB "int" "int" = some true := by decide +kernel
theorem kb_int_bool : kitB "int" "bool" = some false := by decide +kernel
theorem kb_int_str : kitB "int" "str" = some false := by decide +kernel
theorem kb_int_list : kitB "int" "list" = some false := by decide +kernel
theorem kb_int_tuple : kitB "int" "tuple" = some false := by decide +kernel
theorem kb_str_int : kitB "str" "int" = some false := by decide +kernel
theorem kb_str_bool : kitB "str" "bool" = some false := by decide +kernel
theorem kb_str_str : kitB "str" "str" = some true := by decide +kernel
theorem kb_str_list : kitB "str" "list" = some false := by decide +kernel
theorem kb_str_tuple : kitB "str" "tuple" = some false := by decide +kernel
theorem kb_list_int : kitB "list" "int" = some false := by decide +kernel
theorem kb_list_bool : kitB "list" "bool" = some false := by decide +kernel
theorem kb_list_str : kitB "list" "str" = some false := by decide +kernel
theorem kb_list_list : kitB "list" "list" = some true := by decide +kernel
theorem kb_list_tuple : kitB "list" "tuple" = some false := by decide +kernel
theorem kb_tuple_int : kitB "tuple" "int" = some false := by decide +kernel
theorem kb_tuple_bool : kitB "tuple" "bool" = some false := by decide +kernel
theorem kb_tuple_str : kitB "tuple" "str" = some false := by decide +kernel
theorem kb_tuple_list : kitB "tuple" "list" = some false := by decide +kernel
theorem kb_tuple_tuple : kitB "tuple" "tuple" = some true := by decide +kernel
mutual
/-- the same data, kinds and all -/
def sm : D → D → Bool
  | .non, .non => true
  | .bl a, .bl b => a == b
  | .int i, .int j => decide (i = j)
  | .str x, .str y => decide (x = y)
  | .tup as, .tup bs => sms as bs
  | .lst as, .lst bs => sms as bs
  | _, _ => false
def sms : List D → List D → Bool
  | [], [] => true
  | a :: as, b :: bs => sm a b && sms as bs
  | _, _ => false
end
mutual
theorem sm_eq : ∀ a b : D, sm a b = true → a = b
  | .non, b, h => by cases b <;> simp [sm] at h <;> rfl
  | .bl a, b, h => by cases b <;> simp [sm] at h; rw [h]
  | .int a, b, h => by cases b <;> simp [sm] at h; rw [h]
  | .str a, b, h => by cases b <;> simp [sm] at h; rw [h]
  | .tup as, .tup bs, h => by rw [sms_eq as bs (by simpa [sm] using h)]
  | .lst as, .lst bs, h => by rw [sms_eq as bs (by simpa [sm] using h)]
  | .tup as, .non, h => by simp [sm] at h
  | .tup as, .bl _, h => by simp [sm] at h
  | .tup as, .int _, h => by simp [sm] at h
  | .tup as, .str _, h => by simp [sm] at h
  | .tup as, .lst _, h => by simp [sm] at h
  | .tup as, .ins _ _, h => by simp [sm] at h
  | .tup as, .raw _, h => by simp [sm] at h
  | .tup as, .rol _, h => by simp [sm] at h
  | .lst as, .non, h => by simp [sm] at h
  | .lst as, .bl _, h => by simp [sm] at h
  | .lst as, .int _, h => by simp [sm] at h
  | .lst as, .str _, h => by simp [sm] at h
  | .lst as, .tup _, h => by simp [sm] at h
  | .lst as, .ins _ _, h => by simp [sm] at h
  | .lst as, .raw _, h => by simp [sm] at h
  | .lst as, .rol _, h => by simp [sm] at h
  | .ins _ _, b, h => by cases b <;> simp [sm] at h
  | .raw _, b, h => by cases b <;> simp [sm] at h
  | .rol _, b, h => by cases b <;> simp [sm] at h
theorem sms_eq : ∀ as bs : List D, sms as bs = true → as = bs
  | [], [], _ => rfl
  | [], _ :: _, h => by simp [sms] at h
  | _ :: _, [], h => by simp [sms] at h
  | a :: as, b :: bs, h => by
    have h2 : sm a b = true ∧ sms as bs = true := by simpa [sms] using h
    rw [sm_eq a b h2.1, sms_eq as bs h2.2]
end
mutual
theorem sm_refl : ∀ (n : Nat) (a : D), shp n a = true → sm a a = true
  | _, .non, _ => rfl
  | _, .bl _, _ => by simp [sm]
  | _, .int _, _ => by simp [sm]
  | _, .str _, _ => by simp [sm]
  | 0, .lst _, h => by simp [shp] at h
  | n + 1, .lst ds, h => by
    simp only [sm]
    exact sms_refl n ds (by simpa [shp] using h)
  | 0, .tup _, h => by simp [shp] at h
  | n + 1, .tup ds, h => by
    simp only [sm]
    exact sms_refl n ds (by simpa [shp] using h)
  | _, .raw _, h => by simp [shp] at h
  | _, .rol _, h => by simp [shp] at h
  | _, .ins _ _, h => by simp [shp] at h
theorem sms_refl : ∀ (n : Nat) (as : List D), shps n as = true → sms as as = true
  | _, [], _ => rfl
  | n, a :: as, h => by
    have h2 : shp n a = true ∧ shps n as = true := by simpa [shps] using h
    simp only [sms, sm_refl n a h2.1, sms_refl n as h2.2, Bool.and_self]
end
theorem shps_get : ∀ {n : Nat} {ds : List D} {i : Nat} {d : D}, shps n ds = true → ds[i]? = some d → shp n d = true
  | _, [], _, _, _, e => by simp at e
  | n, a :: ds, 0, d, h, e => by
    have h2 : shp n a = true ∧ shps n ds = true := by simpa [shps] using h
    simp at e
    rw [← e]; exact h2.1
  | n, a :: ds, i + 1, d, h, e => by
    have h2 : shp n a = true ∧ shps n ds = true := by simpa [shps] using h
    exact shps_get (i := i) h2.2 (by simpa using e)
theorem sms_len : ∀ {as bs : List D}, as.length ≠ bs.length → sms as bs = false
  | [], [], h => absurd rfl h
  | [], _ :: _, _ => by simp [sms]
  | _ :: _, [], _ => by simp [sms]
  | a :: as, b :: bs, h => by
    have := sms_len (as := as) (bs := bs) (fun q => h (by simp [q]))
    simp [sms, this]
theorem sms_at : ∀ {as bs : List D} {i : Nat} {a b : D}, as[i]? = some a → bs[i]? = some b → sm a b = false → sms as bs = false
  | [], _, _, _, _, e, _, _ => by simp at e
  | _ :: _, [], _, _, _, _, e, _ => by simp at e
  | x :: as, y :: bs, 0, a, b, e, e', h => by
    simp at e e'
    simp [sms, e, e', h]
  | x :: as, y :: bs, i + 1, a, b, e, e', h => by
    have := sms_at (as := as) (bs := bs) (i := i) (by simpa using e) (by simpa using e') h
    simp [sms, this]
theorem sms_all : ∀ {as bs : List D}, as.length = bs.length → (∀ (i : Nat) a b, as[i]? = some a → bs[i]? = some b → sm a b = true) → sms as bs = true
  | [], [], _, _ => rfl
  | [], _ :: _, h, _ => by simp at h
  | _ :: _, [], h, _ => by simp at h
  | a :: as, b :: bs, h, k => by
    have h0 := k 0 a b rfl rfl
    have := sms_all (as := as) (bs := bs) (by simpa using h) fun i x y e e' => k (i + 1) x y (by simpa using e) (by simpa using e')
    simp [sms, h0, this]
/-- data of any depth -/
def Pl (d : D) : Prop := ∃ n, shp n d = true
theorem Pl.item {ds : List D} {i : Nat} {d : D} (h : Pl (.lst ds)) (e : ds[i]? = some d) : Pl d := by
  obtain ⟨n, h⟩ := h
  cases n with
  | zero => simp [shp] at h
  | succ n => exact ⟨n, shps_get (by simpa [shp] using h) e⟩
theorem Pl.itemT {ds : List D} {i : Nat} {d : D} (h : Pl (.tup ds)) (e : ds[i]? = some d) : Pl d := by
  obtain ⟨n, h⟩ := h
  cases n with
  | zero => simp [shp] at h
  | succ n => exact ⟨n, shps_get (by simpa [shp] using h) e⟩
theorem Pl.isN {a : D} (h : Pl a) : isC a .non = some (sm a .non) := by
  obtain ⟨n, h⟩ := h
  cases a <;> first | rfl | (simp [shp] at h)
theorem Pl.isB {a : D} {b : Bool} (h : Pl a) : isC a (.bl b) = some (sm a (.bl b)) := by
  obtain ⟨n, h⟩ := h
  cases a <;> first | rfl | (simp [shp] at h)
def tyN : D → String
  | .non => "NoneType"
  | .bl _ => "bool"
  | .int _ => "int"
  | .str _ => "str"
  | .lst _ => "list"
  | .tup _ => "tuple"
  | _ => ""
theorem Pl.ty {a : D} (h : Pl a) : tyD a = some (tyN a) := by
  obtain ⟨n, h⟩ := h
  cases a <;> first | rfl | (simp [shp] at h)
mutual
/-- no list in it is longer than a range may be -/
def siz : D → Bool
  | .lst ds => decide (ds.length < 2 ^ 62) && sizs ds
  | .tup ds => decide (ds.length < 2 ^ 62) && sizs ds
  | _ => true
def sizs : List D → Bool
  | [] => true
  | d :: ds => siz d && sizs ds
end
theorem sizs_get : ∀ {ds : List D} {i : Nat} {d : D}, sizs ds = true → ds[i]? = some d → siz d = true
  | [], _, _, _, e => by simp at e
  | a :: ds, 0, d, h, e => by
    have h2 : siz a = true ∧ sizs ds = true := by simpa [sizs] using h
    simp at e
    rw [← e]; exact h2.1
  | a :: ds, i + 1, d, h, e => by
    have h2 : siz a = true ∧ sizs ds = true := by simpa [sizs] using h
    exact sizs_get (i := i) h2.2 (by simpa using e)
theorem sizs_ints : ∀ ns : List Int, sizs (ns.map D.int) = true
  | [] => rfl
  | _ :: ns => by simp [sizs, siz, sizs_ints ns]
def spSame (K : PySem.W.Frag) (n : Nat) : Sp := SpP K [.now, .now] (fun p : D × D => [p.1, p.2]) (fun p => shp n p.2 = true ∧ Pl p.1 ∧ siz p.2 = true) (fun p => .bl (sm p.1 p.2))
section
variable {K : PySem.W.Frag} {E : XK}
theorem atI_at {xs : List D} {i : Nat} {d : D} (h : xs[i]? = some d) : atI xs (0 + (i : Nat)) = some d := by
  rw [Int.zero_add]; exact atI_nat h
theorem ev_isi' {e : En} {m : Md} {te : TE} {d : D} {c : String} {b : Bool} (ha : Ev K .now te e d) (h : Pl d) (hk : kitB (tyN d) c = some b) : Ev K m (tCB (rIsi K) (tCons te (tCons (tC (.ty c)) tNil))) e (.bl b) := ev_isi ha h.ty hk
theorem run_same_loop {n : Nat} {a d : D} {as ds : List D} (hn : shps n ds = true) (hl : as.length = ds.length) (hz : ds.length < 2 ^ 62) (hsz : sizs ds = true) (ha : ∀ (i : Nat) x, as[i]? = some x → Pl x)
    (ia : ∀ (s : Sl) (i : Nat) x, as[i]? = some x → Ev K .now (tOp (rIx K) (tVar 0) (tVar 2)) [.bor a, .bor d, .dat (.int (0 + (i : Nat)))] x)
    (id_ : ∀ (s : Sl) (i : Nat) x, ds[i]? = some x → Ev K .now (tOp (rIx K) (tVar 1) (tVar 2)) [.bor a, .bor d, .dat (.int (0 + (i : Nat)))] x)
    (il : Ev K .now (tCB (rLenU K) (tCons (tVar 1) tNil)) [.bor a, .bor d, .no] (.int (ds.length : Nat))) :
    Run K E (tSeq (tFor (iRng1 (tCons (tCB (rLenU K) (tCons (tVar 1) tNil)) tNil)) (gName 2) (tIfS (tNot (tB (tCall (spSame K n) [] E0 (tCons (tOp (rIx K) (tVar 0) (tVar 2)) (tCons (tOp (rIx K) (tVar 1) (tVar 2)) tNil))))) (tRet (tC (.bl false))) tNext))
      (tRet (tC (.bl true)))) [.bor a, .bor d, .no] { nx := fun _ => D.non = .bl (sms as ds), rt := fun q => q = .bl (sms as ds) } := by
  refine run_seq (run_for (m := .dat) (ei_rng1 (m := .now) (ea_cons il ea_nil) (by omega) (by omega))
    (fun k e => (∀ (i : Nat) x y, i < k → as[i]? = some x → ds[i]? = some y → sm x y = true) ∧ ∃ s : Sl, e = [.bor a, .bor d, s]) ⟨fun i _ _ h => absurd h (Nat.not_lt_zero i), _, rfl⟩ ?_ ?_)
  · rintro k _ _ hx ⟨hk, s, rfl⟩
    obtain ⟨hk2, rfl⟩ := get_rg hx
    have hk3 : k < ds.length := by omega
    refine ⟨_, [2], tg_dat, ?_⟩
    dsimp only [List.set]
    obtain ⟨x, hxa⟩ : ∃ x, as[k]? = some x := ⟨_, List.getElem?_eq_getElem (by omega)⟩
    obtain ⟨y, hya⟩ : ∃ y, ds[k]? = some y := ⟨_, List.getElem?_eq_getElem hk3⟩
    have hc : Ev K .now (tCall (spSame K n) [] E0 (tCons (tOp (rIx K) (tVar 0) (tVar 2)) (tCons (tOp (rIx K) (tVar 1) (tVar 2)) tNil))) [.bor a, .bor d, .dat (.int (0 + (k : Nat)))] (.bl (sm x y)) :=
      ev_call (out := fun p : D × D => D.bl (sm p.1 p.2)) (x, y) ⟨shps_get hn hya, ha k x hxa, sizs_get hsz hya⟩ (ea_cons (ia s k x hxa) (ea_cons (id_ s k y hya) ea_nil))
    refine run_if (et_not (et_B hc)) (fun h => ?_) (fun h => run_next ⟨fun i u v hi hu hv => ?_, _, rfl⟩)
    · have h2 : sm x y = false := by simpa using h
      exact run_ret ev_bl (by rw [sms_at hxa hya h2])
    · by_cases q : i = k
      · subst q
        rw [hxa] at hu; rw [hya] at hv
        cases hu; cases hv
        simpa using h
      · exact hk i u v (by omega) hu hv
  · rintro _ ⟨hk, s, rfl⟩
    rw [rgD_len] at hk
    refine run_ret ev_bl ?_
    rw [sms_all hl fun i x y hx hy => hk i x y (by have := (List.getElem?_eq_some_iff.mp hy).1; omega) hx hy]
theorem run_same (n : Nat) (sp : Sp) (hsp : ∀ m, n = m + 1 → sp = spSame K m) (a d : D) (hd : shp n d = true) (ha : Pl a) (hz : siz d = true) :
    Run K E (rd_l_same K sp) (En0 [.now, .now] [a, d] 1) { nx := fun _ => D.non = .bl (sm a d), rt := fun q => q = .bl (sm a d) } := by
  unfold rd_l_same
  show Run K E _ [.bor a, .bor d, .no] _
  have pd : Pl d := ⟨n, hd⟩
  have v0 : ∀ s : Sl, Ev K .now (tVar 0) [.bor a, .bor d, s] a := fun s => (ev_bor rfl).nw
  have v1 : ∀ s : Sl, Ev K .now (tVar 1) [.bor a, .bor d, s] d := fun s => (ev_bor rfl).nw
  cases d with
  | raw v => simp [shp] at hd
  | rol v => simp [shp] at hd
  | ins C fs => simp [shp] at hd
  | non => exact run_seq (run_ifT (et_test (m := .now) (ev_is (v1 _) ev_non rfl)) (run_ret (ev_is (v0 _) ev_non ha.isN) rfl))
  | bl b =>
    refine run_seq (run_ifF (et_test (m := .now) (ev_is (v1 _) ev_non rfl)) (run_next ?_))
    cases b with
    | true => exact run_seq (run_ifT (et_test (m := .now) (ev_is (v1 _) ev_bl rfl)) (run_ret (ev_is (v0 _) ev_bl ha.isB) rfl))
    | false =>
      refine run_seq (run_ifF (et_test (m := .now) (ev_is (v1 _) ev_bl rfl)) (run_next ?_))
      exact run_seq (run_ifT (et_test (m := .now) (ev_is (v1 _) ev_bl rfl)) (run_ret (ev_is (v0 _) ev_bl ha.isB) rfl))
  | int j =>
    refine run_seq (run_ifF (et_test (m := .now) (ev_is (v1 _) ev_non rfl)) (run_next ?_))
    refine run_seq (run_ifF (et_test (m := .now) (ev_is (v1 _) ev_bl rfl)) (run_next ?_))
    refine run_seq (run_ifF (et_test (m := .now) (ev_is (v1 _) ev_bl rfl)) (run_next ?_))
    refine run_seq (run_ifT (et_B (m := .now) (ev_isi' (v1 _) pd kb_int_int)) ?_)
    cases a with
    | int i => exact run_ret (ev_andV (m1 := .now) (ev_isi' (v0 _) ha kb_int_int) fun _ => ev_andV (m1 := .now) (ev_notV (m1 := .now) (ev_isi' (v0 _) ha kb_int_bool)) fun _ => ev_eqI (v0 _) (v1 _)) rfl
    | bl b => exact run_ret (ev_andV (m1 := .now) (ev_isi' (v0 _) ha kb_bool_int) fun _ => ev_andV (c := false) (m1 := .now) (ev_notV (m1 := .now) (ev_isi' (b := true) (v0 _) ha kb_bool_bool)) fun z => nomatch z) rfl
    | non => exact run_ret (ev_andV (m1 := .now) (c := false) (ev_isi' (b := false) (v0 _) ha kb_NoneType_int) fun z => nomatch z) rfl
    | str x => exact run_ret (ev_andV (m1 := .now) (c := false) (ev_isi' (b := false) (v0 _) ha kb_str_int) fun z => nomatch z) rfl
    | lst x => exact run_ret (ev_andV (m1 := .now) (c := false) (ev_isi' (b := false) (v0 _) ha kb_list_int) fun z => nomatch z) rfl
    | tup x => exact run_ret (ev_andV (m1 := .now) (c := false) (ev_isi' (b := false) (v0 _) ha kb_tuple_int) fun z => nomatch z) rfl
    | raw v => obtain ⟨_, h⟩ := ha; simp [shp] at h
    | rol v => obtain ⟨_, h⟩ := ha; simp [shp] at h
    | ins C fs => obtain ⟨_, h⟩ := ha; simp [shp] at h
  | str y =>
    refine run_seq (run_ifF (et_test (m := .now) (ev_is (v1 _) ev_non rfl)) (run_next ?_))
    refine run_seq (run_ifF (et_test (m := .now) (ev_is (v1 _) ev_bl rfl)) (run_next ?_))
    refine run_seq (run_ifF (et_test (m := .now) (ev_is (v1 _) ev_bl rfl)) (run_next ?_))
    refine run_seq (run_ifF (et_B (m := .now) (ev_isi' (v1 _) pd kb_str_int)) (run_next ?_))
    refine run_seq (run_ifT (et_B (m := .now) (ev_isi' (v1 _) pd kb_str_str)) ?_)
    cases a with
    | str i => exact run_ret (ev_andV (m1 := .now) (ev_isi' (v0 _) ha kb_str_str) fun _ => ev_eqS (v0 _) (v1 _)) rfl
    | bl b => exact run_ret (ev_andV (m1 := .now) (c := false) (ev_isi' (b := false) (v0 _) ha kb_bool_str) fun z => nomatch z) rfl
    | non => exact run_ret (ev_andV (m1 := .now) (c := false) (ev_isi' (b := false) (v0 _) ha kb_NoneType_str) fun z => nomatch z) rfl
    | int x => exact run_ret (ev_andV (m1 := .now) (c := false) (ev_isi' (b := false) (v0 _) ha kb_int_str) fun z => nomatch z) rfl
    | lst x => exact run_ret (ev_andV (m1 := .now) (c := false) (ev_isi' (b := false) (v0 _) ha kb_list_str) fun z => nomatch z) rfl
    | tup x => exact run_ret (ev_andV (m1 := .now) (c := false) (ev_isi' (b := false) (v0 _) ha kb_tuple_str) fun z => nomatch z) rfl
    | raw v => obtain ⟨_, h⟩ := ha; simp [shp] at h
    | rol v => obtain ⟨_, h⟩ := ha; simp [shp] at h
    | ins C fs => obtain ⟨_, h⟩ := ha; simp [shp] at h
  | tup ds =>
    refine run_seq (run_ifF (et_test (m := .now) (ev_is (v1 _) ev_non rfl)) (run_next ?_))
    refine run_seq (run_ifF (et_test (m := .now) (ev_is (v1 _) ev_bl rfl)) (run_next ?_))
    refine run_seq (run_ifF (et_test (m := .now) (ev_is (v1 _) ev_bl rfl)) (run_next ?_))
    refine run_seq (run_ifF (et_B (m := .now) (ev_isi' (v1 _) pd kb_tuple_int)) (run_next ?_))
    refine run_seq (run_ifF (et_B (m := .now) (ev_isi' (v1 _) pd kb_tuple_str)) (run_next ?_))
    refine run_seq (run_ifT (et_B (m := .now) (ev_isi' (v1 _) pd kb_tuple_tuple)) ?_)
    cases a with
    | tup as =>
      refine run_if (et_or (et_not (et_B (m := .now) (ev_isi' (b := true) (v0 _) ha kb_tuple_tuple))) fun _ => et_test (m := .now) (ev_neI (ev_lenT (v0 _)) (ev_lenT (v1 _)))) (fun h => ?_) (fun h => run_next ?_)
      · have h2 : as.length ≠ ds.length := by
          have h3 : ((as.length : Nat) : Int) ≠ (ds.length : Nat) := by simpa using h
          omega
        exact run_ret ev_bl (by show D.bl false = .bl (sms as ds); rw [sms_len h2])
      · have h2 : as.length = ds.length := by
          have h3 : ((as.length : Nat) : Int) = (ds.length : Nat) := by simpa using h
          omega
        cases n with
        | zero => simp [shp] at hd
        | succ n =>
          rw [hsp n rfl]
          exact run_same_loop (n := n) (by simpa [shp] using hd) h2 (by simp [siz] at hz; omega) (by simp [siz] at hz; exact hz.2) (fun i x e => ha.itemT e) (fun s i x e => ev_op (m2 := .now) (v0 _) (ev_dat rfl) (rd_ixT (atI_at e))) (fun s i x e => ev_op (m2 := .now) (v1 _) (ev_dat rfl) (rd_ixT (atI_at e))) (ev_lenT (v1 _))
    | bl b => exact run_ifT (et_or (c := true) (et_not (et_B (m := .now) (ev_isi' (b := false) (v0 _) ha kb_bool_tuple))) fun z => nomatch z) (run_ret ev_bl rfl)
    | non => exact run_ifT (et_or (c := true) (et_not (et_B (m := .now) (ev_isi' (b := false) (v0 _) ha kb_NoneType_tuple))) fun z => nomatch z) (run_ret ev_bl rfl)
    | int x => exact run_ifT (et_or (c := true) (et_not (et_B (m := .now) (ev_isi' (b := false) (v0 _) ha kb_int_tuple))) fun z => nomatch z) (run_ret ev_bl rfl)
    | lst x => exact run_ifT (et_or (c := true) (et_not (et_B (m := .now) (ev_isi' (b := false) (v0 _) ha kb_list_tuple))) fun z => nomatch z) (run_ret ev_bl rfl)
    | str x => exact run_ifT (et_or (c := true) (et_not (et_B (m := .now) (ev_isi' (b := false) (v0 _) ha kb_str_tuple))) fun z => nomatch z) (run_ret ev_bl rfl)
    | raw v => obtain ⟨_, h⟩ := ha; simp [shp] at h
    | rol v => obtain ⟨_, h⟩ := ha; simp [shp] at h
    | ins C fs => obtain ⟨_, h⟩ := ha; simp [shp] at h
  | lst ds =>
    refine run_seq (run_ifF (et_test (m := .now) (ev_is (v1 _) ev_non rfl)) (run_next ?_))
    refine run_seq (run_ifF (et_test (m := .now) (ev_is (v1 _) ev_bl rfl)) (run_next ?_))
    refine run_seq (run_ifF (et_test (m := .now) (ev_is (v1 _) ev_bl rfl)) (run_next ?_))
    refine run_seq (run_ifF (et_B (m := .now) (ev_isi' (v1 _) pd kb_list_int)) (run_next ?_))
    refine run_seq (run_ifF (et_B (m := .now) (ev_isi' (v1 _) pd kb_list_str)) (run_next ?_))
    refine run_seq (run_ifF (et_B (m := .now) (ev_isi' (v1 _) pd kb_list_tuple)) ?_)
    cases a with
    | lst as =>
      refine run_if (et_or (et_not (et_B (m := .now) (ev_isi' (b := true) (v0 _) ha kb_list_list))) fun _ => et_test (m := .now) (ev_neI (ev_len (v0 _)) (ev_len (v1 _)))) (fun h => ?_) (fun h => run_next ?_)
      · have h2 : as.length ≠ ds.length := by
          have h3 : ((as.length : Nat) : Int) ≠ (ds.length : Nat) := by simpa using h
          omega
        exact run_ret ev_bl (by show D.bl false = .bl (sms as ds); rw [sms_len h2])
      · have h2 : as.length = ds.length := by
          have h3 : ((as.length : Nat) : Int) = (ds.length : Nat) := by simpa using h
          omega
        cases n with
        | zero => simp [shp] at hd
        | succ n =>
          rw [hsp n rfl]
          exact run_same_loop (n := n) (by simpa [shp] using hd) h2 (by simp [siz] at hz; omega) (by simp [siz] at hz; exact hz.2) (fun i x e => ha.item e) (fun s i x e => ev_op (m2 := .now) (v0 _) (ev_dat rfl) (rd_ixL (atI_at e))) (fun s i x e => ev_op (m2 := .now) (v1 _) (ev_dat rfl) (rd_ixL (atI_at e))) (ev_len (v1 _))
    | bl b => exact run_ifT (et_or (c := true) (et_not (et_B (m := .now) (ev_isi' (b := false) (v0 _) ha kb_bool_list))) fun z => nomatch z) (run_ret ev_bl rfl)
    | non => exact run_ifT (et_or (c := true) (et_not (et_B (m := .now) (ev_isi' (b := false) (v0 _) ha kb_NoneType_list))) fun z => nomatch z) (run_ret ev_bl rfl)
    | int x => exact run_ifT (et_or (c := true) (et_not (et_B (m := .now) (ev_isi' (b := false) (v0 _) ha kb_int_list))) fun z => nomatch z) (run_ret ev_bl rfl)
    | tup x => exact run_ifT (et_or (c := true) (et_not (et_B (m := .now) (ev_isi' (b := false) (v0 _) ha kb_tuple_list))) fun z => nomatch z) (run_ret ev_bl rfl)
    | str x => exact run_ifT (et_or (c := true) (et_not (et_B (m := .now) (ev_isi' (b := false) (v0 _) ha kb_str_list))) fun z => nomatch z) (run_ret ev_bl rfl)
    | raw v => obtain ⟨_, h⟩ := ha; simp [shp] at h
    | rol v => obtain ⟨_, h⟩ := ha; simp [shp] at h
    | ins C fs => obtain ⟨_, h⟩ := ha; simp [shp] at h
end
end Fh

set_option Elab.async false
set_option linter.all false
set_option maxRecDepth 100000
set_option maxHeartbeats 4000000
namespace Fh
open PySem PySem.Spec PyProof.Rows L2
/-! ### the text by places (printed by gen.py) -/
def top (i : Nat) : Stmt := PySem.Challenge.pw_fullhands_k60_long_rows.main.body.getD i (.Pass ⟨0, 0, 0, 0⟩)
abbrev s_dishes_together : Stmt := top 1
abbrev N_dishes_together : List Str := ["forward", "backward", "both"]
theorem sc_dishes_together : FnScope N_dishes_together ["forward", "backward", "both"] (defScope s_dishes_together) := ⟨rfl, rfl, rfl, by decide +kernel, rfl, by decide +kernel, by decide +kernel⟩
abbrev s_full_stretches : Stmt := top 2
abbrev N_full_stretches : List Str := ["pattern", "many", "forward", "backward", "both", "most", "found", "first", "hands", "last", "end"]
theorem sc_full_stretches : FnScope N_full_stretches ["pattern", "many", "forward", "backward", "both"] (defScope s_full_stretches) := ⟨rfl, rfl, rfl, by decide +kernel, rfl, by decide +kernel, by decide +kernel⟩
abbrev s_row_least : Stmt := top 3
abbrev N_row_least : List Str := ["pattern", "many", "forward", "backward", "both", "found", "_", "hands"]
theorem sc_row_least : FnScope N_row_least ["pattern", "many", "forward", "backward", "both"] (defScope s_row_least) := ⟨rfl, rfl, rfl, by decide +kernel, rfl, by decide +kernel, by decide +kernel⟩
abbrev s_row_first_stuck : Stmt := top 4
abbrev N_row_first_stuck : List Str := ["pattern", "forward", "backward", "both", "many", "found", "last", "_"]
theorem sc_row_first_stuck : FnScope N_row_first_stuck ["pattern", "forward", "backward", "both"] (defScope s_row_first_stuck) := ⟨rfl, rfl, rfl, by decide +kernel, rfl, by decide +kernel, by decide +kernel⟩
abbrev s_l_mixed : Stmt := top 6
abbrev N_l_mixed : List Str := ["number", "turn", "first", "second"]
theorem sc_l_mixed : FnScope N_l_mixed ["number", "turn"] (defScope s_l_mixed) := ⟨rfl, rfl, rfl, by decide +kernel, rfl, by decide +kernel, by decide +kernel⟩
abbrev s_l_pool : Stmt := top 7
abbrev N_l_pool : List Str := ["script", "many", "cells", "digits", "cell", "pool", "k", "row", "rest", "at", "turn"]
theorem sc_l_pool : FnScope N_l_pool ["script", "many"] (defScope s_l_pool) := ⟨rfl, rfl, rfl, by decide +kernel, rfl, by decide +kernel, by decide +kernel⟩
abbrev s_l_same : Stmt := top 8
abbrev N_l_same : List Str := ["actual", "due", "k"]
theorem sc_l_same : FnScope N_l_same ["actual", "due"] (defScope s_l_same) := ⟨rfl, rfl, rfl, by decide +kernel, rfl, by decide +kernel, by decide +kernel⟩
abbrev s_l_number : Stmt := top 9
abbrev N_l_number : List Str := ["pool", "start", "total", "k"]
theorem sc_l_number : FnScope N_l_number ["pool", "start"] (defScope s_l_number) := ⟨rfl, rfl, rfl, by decide +kernel, rfl, by decide +kernel, by decide +kernel⟩
abbrev s_l_stretches : Stmt := top 10
abbrev N_l_stretches : List Str := ["pattern", "many", "forward", "backward", "joint", "room", "hands", "least", "nearest", "last", "total", "gap", "k"]
theorem sc_l_stretches : FnScope N_l_stretches ["pattern", "many", "forward", "backward", "joint"] (defScope s_l_stretches) := ⟨rfl, rfl, rfl, by decide +kernel, rfl, by decide +kernel, by decide +kernel⟩
abbrev s_l_least_told : Stmt := top 11
abbrev N_l_least_told : List Str := ["pattern", "many", "forward", "backward", "joint"]
theorem sc_l_least_told : FnScope N_l_least_told ["pattern", "many", "forward", "backward", "joint"] (defScope s_l_least_told) := ⟨rfl, rfl, rfl, by decide +kernel, rfl, by decide +kernel, by decide +kernel⟩
abbrev s_l_first_told : Stmt := top 12
abbrev N_l_first_told : List Str := ["pattern", "forward", "backward", "joint"]
theorem sc_l_first_told : FnScope N_l_first_told ["pattern", "forward", "backward", "joint"] (defScope s_l_first_told) := ⟨rfl, rfl, rfl, by decide +kernel, rfl, by decide +kernel, by decide +kernel⟩
abbrev s_l_turns : Stmt := top 13
abbrev N_l_turns : List Str := ["pattern", "forward", "backward", "joint", "nearest", "due"]
theorem sc_l_turns : FnScope N_l_turns ["pattern", "forward", "backward", "joint", "nearest"] (defScope s_l_turns) := ⟨rfl, rfl, rfl, by decide +kernel, rfl, by decide +kernel, by decide +kernel⟩
abbrev s_law : Stmt := top 14
abbrev N_law : List Str := ["script", "pool", "size", "pattern", "many", "cap", "low", "forward", "backward", "joint", "other", "least", "nearest", "handed", "k", "later"]
theorem sc_law : FnScope N_law ["script"] (defScope s_law) := ⟨rfl, rfl, rfl, by decide +kernel, rfl, by decide +kernel, by decide +kernel⟩
/-- what the top has left -/
structure Tx (K : PySem.W.Frag) (mg : Str → Option Value) : Prop where
  f_abs : mg "abs" = none
  f_bool : mg "bool" = none
  f_int : mg "int" = none
  f_isinstance : mg "isinstance" = none
  f_len : mg "len" = none
  f_list : mg "list" = none
  f_min : mg "min" = none
  f_range : mg "range" = none
  f_str : mg "str" = none
  f_tuple : mg "tuple" = none
  d_dishes_together : Dd K mg "dishes_together" s_dishes_together [] []
  d_full_stretches : Dd K mg "full_stretches" s_full_stretches [] []
  d_row_least : Dd K mg "row_least" s_row_least [.non] []
  d_row_first_stuck : Dd K mg "row_first_stuck" s_row_first_stuck [.non] []
  d_l_mixed : Dd K mg "_law_mixed" s_l_mixed [] []
  d_l_pool : Dd K mg "_law_pool" s_l_pool [] []
  d_l_same : Dd K mg "_law_same" s_l_same [] []
  d_l_number : Dd K mg "_law_number" s_l_number [] []
  d_l_stretches : Dd K mg "_law_stretches" s_l_stretches [] []
  d_l_least_told : Dd K mg "_law_least_told" s_l_least_told [] []
  d_l_first_told : Dd K mg "_law_first_told" s_l_first_told [] []
  d_l_turns : Dd K mg "_law_turns" s_l_turns [] []
  d_law : Dd K mg "law" s_law [] []
section
variable {P : Program} {w : World} {K : PySem.W.Frag} {mg : Str → Option Value} {base : Heap}
def rd_dishes_together (K : PySem.W.Frag) : TS :=
  (tSeq (tIfS (tTest (tOp (rIsC) (tVar 2) (tC .non))) (tRet (tOp (rPlus K) (tVar 0) (tVar 1))) tNext)
  (tRet (tCB (rMn2) (tCons (tVar 2) (tCons (tOp (rPlus K) (tVar 0) (tVar 1)) tNil)))))
theorem tm_dishes_together (T : Tx K mg) {f : Addr} {cdv : Value} {A : Around} {outer : List Env} {s : Shared} {H : Hp} {E : XK}
    (hr : Room 0 (A.deeper (envOfC "dishes_together" (defScope s_dishes_together) s.heap.objs.size f cdv))) :
    PSs (cxOf CX0 P w K mg base N_dishes_together "dishes_together" (defScope s_dishes_together) f cdv A outer s H E).nox (defBody s_dishes_together) (rd_dishes_together K  ) :=
  (pss_cons (ps_if (pt_cmpR op_isC (pv 2) pe_non (nomark _)) (pss_one (ps_ret (pe_op op_plus (pv 0) (pv 1)))) pss_nil)
      (pss_one (ps_ret (pe_callB (call_mn2 rfl) (by rfl) T.f_min (by decide +kernel) (pa_cons (pv 2) (pa_cons (pe_op op_plus (pv 0) (pv 1)) pa_nil))))))
def rd_full_stretches (K : PySem.W.Frag) (sp_dishes_together : Sp) : TS :=
  (tSeq (tAsg (tCall sp_dishes_together [] E0 (tCons (tVar 2) (tCons (tVar 3) (tCons (tVar 4) tNil)))) (gName 5))
  (tSeq (tAsg (tLst tNil) (gName 6))
  (tSeq (tFor (iRng1 (tCons (tCB (rMn2) (tCons (tCB (rLenU K) (tCons (tVar 0) tNil)) (tCons (tOp (rMinus) (tVar 1) (tC (.int 1))) tNil))) tNil)) (gName 7) (tSeq (tAsg (tOp (rIx K) (tVar 0) (tVar 7)) (gName 8))
  (tFor (iRng2 (tCons (tOp (rPlus K) (tVar 7) (tC (.int 1))) (tCons (tCB (rMn2) (tCons (tVar 1) (tCons (tOp (rPlus K) (tVar 7) (tVar 5)) tNil))) tNil))) (gName 9) (tSeq (tAsg (tOp (rIx K) (tVar 0) (tOp (rMod) (tVar 9) (tCB (rLenU K) (tCons (tVar 0) tNil)))) (gName 10))
  (tSeq (tAsg (tOp (rPlus K) (tVar 8) (tVar 10)) (gName 8))
  (tIfS (tAnd (tTest (tOp (rLe) (tOp (rIx K) (tVar 0) (tVar 7)) (tVar 2))) (tAnd (tTest (tOp (rLe) (tVar 10) (tVar 3))) (tTest (tOp (rLe) (tVar 8) (tVar 5))))) (tDrop (tBM K "list" rAppend (tVar 6) (tCons (tTup (tCons (tVar 9) (tCons (tVar 8) tNil))) tNil))) tNext))))))
  (tRet (tVar 6)))))
theorem tm_full_stretches {sp_dishes_together : Sp} (T : Tx K mg) (G_dishes_together : Df P w K mg base "dishes_together" 1 [] sp_dishes_together) {f : Addr} {cdv : Value} {A : Around} {outer : List Env} {s : Shared} {H : Hp} {E : XK}
    (hr : Room 1 (A.deeper (envOfC "full_stretches" (defScope s_full_stretches) s.heap.objs.size f cdv))) :
    PSs (cxOf CX0 P w K mg base N_full_stretches "full_stretches" (defScope s_full_stretches) f cdv A outer s H E).nox (defBody s_full_stretches) (rd_full_stretches K sp_dishes_together ) :=
  (pss_cons (ps_set (i := 5) sc_full_stretches.nd rfl (by first | exact Or.inl rfl | exact Or.inr rfl) (pe_df G_dishes_together (hr.mono (by decide)) (by rfl) (pa_cons (pv 2) (pa_cons (pv 3) (pa_cons (pv 4) pa_nil)))))
      (pss_cons (ps_set (i := 6) sc_full_stretches.nd rfl (by first | exact Or.inl rfl | exact Or.inr rfl) (pe_lst pa_nil))
      (pss_cons (ps_for PassesOwn.never rfl (pi_range1 (by rfl) T.f_range (pa_cons (pe_callB (call_mn2 rfl) (by rfl) T.f_min (by decide +kernel) (pa_cons (pe_callB call_lenU (by rfl) T.f_len boot_len (pa_cons (pv 0) pa_nil)) (pa_cons (pe_op op_minus (pv 1) pe_int) pa_nil))) pa_nil)) (pg_name (i := 7) sc_full_stretches.nd rfl (by first | exact Or.inl rfl | exact Or.inr rfl)) (pss_cons (ps_set (i := 8) sc_full_stretches.nd rfl (by first | exact Or.inl rfl | exact Or.inr rfl) (pe_ix ix_seq (pv 0) (pv 7) (fun _ _ => rfl)))
      (pss_one (ps_for PassesOwn.never rfl (pi_range2 (by rfl) T.f_range (pa_cons (pe_op op_plus (pv 7) pe_int) (pa_cons (pe_callB (call_mn2 rfl) (by rfl) T.f_min (by decide +kernel) (pa_cons (pv 1) (pa_cons (pe_op op_plus (pv 7) (pv 5)) pa_nil))) pa_nil))) (pg_name (i := 9) sc_full_stretches.nd rfl (by first | exact Or.inl rfl | exact Or.inr rfl)) (pss_cons (ps_set (i := 10) sc_full_stretches.nd rfl (by first | exact Or.inl rfl | exact Or.inr rfl) (pe_ix ix_seq (pv 0) (pe_op op_modU (pv 9) (pe_callB call_lenU (by rfl) T.f_len boot_len (pa_cons (pv 0) pa_nil))) (fun _ _ => rfl)))
      (pss_cons (ps_set (i := 8) sc_full_stretches.nd rfl (by first | exact Or.inl rfl | exact Or.inr rfl) (pe_op op_plus (pv 8) (pv 10)))
      (pss_one (ps_if (PW.pt (pw_and (pt_cmpR op_leU (pe_ix ix_seq (pv 0) (pv 7) (fun _ _ => rfl)) (pv 2) (nomark _)) (pw_and (pt_cmpR op_leU (pv 10) (pv 3) (nomark _)) (pw_and1 (pt_cmpR op_leU (pv 8) (pv 5) (nomark _)))))) (pss_one (ps_expr (pe_bm PySem.F.plainAttrs_list PySem.F.slot_list_append PySem.F.type_list_append mt_append (pv 6) (pa_cons (pe_tup (pa_cons (pv 9) (pa_cons (pv 8) pa_nil))) pa_nil)))) pss_nil))))))))
      (pss_one (ps_ret (pv 6))))))
def rd_row_least (K : PySem.W.Frag) (sp_full_stretches : Sp) : TS :=
  (tSeq (tAsg (tCall sp_full_stretches [] E0 (tCons (tVar 0) (tCons (tVar 1) (tCons (tVar 2) (tCons (tVar 3) (tCons (tVar 4) tNil)))))) (gName 5))
  (tSeq (tIfS (tTest (tOp (rEqU K) (tCB (rLenU K) (tCons (tVar 5) tNil)) (tC (.int 0)))) (tRet (tC .non)) tNext)
  (tRet (tCB (rMin K) (tCons (tLc (iSeq K (tVar 5)) (gTup K 2 (gCons (gName 6) (gCons (gName 7) gNil))) tYes (tVar 7) [6, 7]) tNil)))))
theorem tm_row_least {sp_full_stretches : Sp} (T : Tx K mg) (G_full_stretches : Df P w K mg base "full_stretches" 2 [] sp_full_stretches) {f : Addr} {cdv : Value} {A : Around} {outer : List Env} {s : Shared} {H : Hp} {E : XK}
    (hr : Room 2 (A.deeper (envOfC "row_least" (defScope s_row_least) s.heap.objs.size f cdv))) :
    PSs (cxOf CX0 P w K mg base N_row_least "row_least" (defScope s_row_least) f cdv A outer s H E).nox (defBody s_row_least) (rd_row_least K sp_full_stretches ) :=
  (pss_cons (ps_set (i := 5) sc_row_least.nd rfl (by first | exact Or.inl rfl | exact Or.inr rfl) (pe_df G_full_stretches (hr.mono (by decide)) (by rfl) (pa_cons (pv 0) (pa_cons (pv 1) (pa_cons (pv 2) (pa_cons (pv 3) (pa_cons (pv 4) pa_nil)))))))
      (pss_cons (ps_if (pt_cmpR (op_eqU hr) (pe_callB call_lenU (by rfl) T.f_len boot_len (pa_cons (pv 5) pa_nil)) pe_int (nomark _)) (pss_one (ps_ret pe_non)) pss_nil)
      (pss_one (ps_ret (pe_callB (cr_min rfl) (by rfl) T.f_min (by decide +kernel) (pa_cons (pe_lc (own := [(("_" : Str), 6), (("hands" : Str), 7)]) (wi := (iSeq K (tVar 5))) (g := (gTup K 2 (gCons (gName 6) (gCons (gName 7) gNil)))) (tt := tYes) (te := (tVar 7)) rfl sc_row_least.nd (pi_seq (pv 5)) (blkOk_by (N := N_row_least) (sc := defScope s_row_least) (by decide +kernel)) (fun _ _ _ _ _ => (pg_tup (by rfl) (pgs_cons (pg_name (i := 6) sc_row_least.nd rfl (by first | exact Or.inl rfl | exact Or.inr rfl)) (pgs_cons (pg_name (i := 7) sc_row_least.nd rfl (by first | exact Or.inl rfl | exact Or.inr rfl)) pgs_nil)))) (fun _ _ _ _ _ => pts_nil) (fun _ _ _ _ _ => (pv 7))) pa_nil))))))
def rd_row_first_stuck (K : PySem.W.Frag) (sp_dishes_together sp_full_stretches : Sp) : TS :=
  (tSeq (tAsg (tOp (rPlus K) (tCB (rLenU K) (tCons (tVar 0) tNil)) (tCall sp_dishes_together [] E0 (tCons (tVar 1) (tCons (tVar 2) (tCons (tVar 3) tNil))))) (gName 4))
  (tSeq (tAsg (tCall sp_full_stretches [] E0 (tCons (tVar 0) (tCons (tVar 4) (tCons (tVar 1) (tCons (tVar 2) (tCons (tVar 3) tNil)))))) (gName 5))
  (tSeq (tIfS (tTest (tOp (rEqU K) (tCB (rLenU K) (tCons (tVar 5) tNil)) (tC (.int 0)))) (tRet (tC .non)) tNext)
  (tRet (tOp (rPlus K) (tCB (rMin K) (tCons (tLc (iSeq K (tVar 5)) (gTup K 2 (gCons (gName 6) (gCons (gName 7) gNil))) tYes (tVar 6) [6, 7]) tNil)) (tC (.int 1)))))))
theorem tm_row_first_stuck {sp_dishes_together sp_full_stretches : Sp} (T : Tx K mg) (G_dishes_together : Df P w K mg base "dishes_together" 1 [] sp_dishes_together) (G_full_stretches : Df P w K mg base "full_stretches" 2 [] sp_full_stretches) {f : Addr} {cdv : Value} {A : Around} {outer : List Env} {s : Shared} {H : Hp} {E : XK}
    (hr : Room 2 (A.deeper (envOfC "row_first_stuck" (defScope s_row_first_stuck) s.heap.objs.size f cdv))) :
    PSs (cxOf CX0 P w K mg base N_row_first_stuck "row_first_stuck" (defScope s_row_first_stuck) f cdv A outer s H E).nox (defBody s_row_first_stuck) (rd_row_first_stuck K sp_dishes_together sp_full_stretches ) :=
  (pss_cons (ps_set (i := 4) sc_row_first_stuck.nd rfl (by first | exact Or.inl rfl | exact Or.inr rfl) (pe_op op_plus (pe_callB call_lenU (by rfl) T.f_len boot_len (pa_cons (pv 0) pa_nil)) (pe_df G_dishes_together (hr.mono (by decide)) (by rfl) (pa_cons (pv 1) (pa_cons (pv 2) (pa_cons (pv 3) pa_nil))))))
      (pss_cons (ps_set (i := 5) sc_row_first_stuck.nd rfl (by first | exact Or.inl rfl | exact Or.inr rfl) (pe_df G_full_stretches (hr.mono (by decide)) (by rfl) (pa_cons (pv 0) (pa_cons (pv 4) (pa_cons (pv 1) (pa_cons (pv 2) (pa_cons (pv 3) pa_nil)))))))
      (pss_cons (ps_if (pt_cmpR (op_eqU hr) (pe_callB call_lenU (by rfl) T.f_len boot_len (pa_cons (pv 5) pa_nil)) pe_int (nomark _)) (pss_one (ps_ret pe_non)) pss_nil)
      (pss_one (ps_ret (pe_op op_plus (pe_callB (cr_min rfl) (by rfl) T.f_min (by decide +kernel) (pa_cons (pe_lc (own := [(("last" : Str), 6), (("_" : Str), 7)]) (wi := (iSeq K (tVar 5))) (g := (gTup K 2 (gCons (gName 6) (gCons (gName 7) gNil)))) (tt := tYes) (te := (tVar 6)) rfl sc_row_first_stuck.nd (pi_seq (pv 5)) (blkOk_by (N := N_row_first_stuck) (sc := defScope s_row_first_stuck) (by decide +kernel)) (fun _ _ _ _ _ => (pg_tup (by rfl) (pgs_cons (pg_name (i := 6) sc_row_first_stuck.nd rfl (by first | exact Or.inl rfl | exact Or.inr rfl)) (pgs_cons (pg_name (i := 7) sc_row_first_stuck.nd rfl (by first | exact Or.inl rfl | exact Or.inr rfl)) pgs_nil)))) (fun _ _ _ _ _ => pts_nil) (fun _ _ _ _ _ => (pv 6))) pa_nil)) pe_int))))))
theorem tm_l_mixed (T : Tx K mg) {f : Addr} {cdv : Value} {A : Around} {outer : List Env} {s : Shared} {H : Hp} {E : XK}
    (hr : Room 0 (A.deeper (envOfC "_law_mixed" (defScope s_l_mixed) s.heap.objs.size f cdv))) :
    PSs (cxOf CX0 P w K mg base N_l_mixed "_law_mixed" (defScope s_l_mixed) f cdv A outer s H E).nox (defBody s_l_mixed) (rd_l_mixed K  ) :=
  (pss_cons (ps_set (i := 2) sc_l_mixed.nd rfl (by first | exact Or.inl rfl | exact Or.inr rfl) (pe_op op_modU (pe_callTy call_intU (by rfl) T.f_int (by decide +kernel) (pa_cons (pe_op op_plus (pe_op op_plus (pe_op op_times (pv 0) pe_int) (pe_op op_times (pv 1) pe_int)) pe_int) pa_nil)) pe_int))
      (pss_cons (ps_set (i := 3) sc_l_mixed.nd rfl (by first | exact Or.inl rfl | exact Or.inr rfl) (pe_op op_modU (pe_callTy call_intU (by rfl) T.f_int (by decide +kernel) (pa_cons (pe_op op_plus (pe_op op_plus (pe_op op_times (pv 2) (pv 2)) (pe_op op_times (pv 1) pe_int)) pe_int) pa_nil)) pe_int))
      (pss_one (ps_ret (pe_op op_modU (pe_callTy call_intU (by rfl) T.f_int (by decide +kernel) (pa_cons (pe_op op_fdivU (pv 3) pe_int) pa_nil)) pe_int)))))
theorem tm_l_pool {sp_l_mixed : Sp} (T : Tx K mg) (G_l_mixed : Df P w K mg base "_law_mixed" 1 [] sp_l_mixed) {f : Addr} {cdv : Value} {A : Around} {outer : List Env} {s : Shared} {H : Hp} {E : XK}
    (hr : Room 1 (A.deeper (envOfC "_law_pool" (defScope s_l_pool) s.heap.objs.size f cdv))) :
    PSs (cxOf CX0 P w K mg base N_l_pool "_law_pool" (defScope s_l_pool) f cdv A outer s H E).nox (defBody s_l_pool) (rd_l_pool K sp_l_mixed ) :=
  (pss_cons (ps_setLc (i := 2) (own := [(("cell" : Str), 4)]) (wi := (iSeq K (tSl (rSlU K) (tVar 0) tNoPart (tPart (tC (.int 63)))))) (g := (gName 4)) (tt := tYes) (te := (tCB (rAbs) (tCons (tCB (rIntC) (tCons (tVar 4) tNil)) tNil))) rfl sc_l_pool.nd rfl rfl (sw_true rfl rfl rfl (by decide +kernel)) (pi_seq (pe_slice sl_U (pv 0) po_none (po_some pe_int))) (blkOk_by (N := N_l_pool) (sc := defScope s_l_pool) (by decide +kernel)) (fun _ _ _ _ _ => (pg_name (i := 4) sc_l_pool.nd rfl (by first | exact Or.inl rfl | exact Or.inr rfl))) (fun _ _ _ _ _ => pts_nil) (fun _ _ _ _ _ => (pe_callB call_absU (by rfl) T.f_abs boot_abs (pa_cons (pe_callTy call_intU (by rfl) T.f_int (by decide +kernel) (pa_cons (pv 4) pa_nil)) pa_nil))))
      (pss_cons (ps_if (pt_cmpR (op_eqU hr) (pv 2) (pe_lst pa_nil) (nomark _)) (pss_one (ps_set (i := 2) sc_l_pool.nd rfl (by first | exact Or.inl rfl | exact Or.inr rfl) (pe_lst (pa_cons pe_int pa_nil)))) pss_nil)
      (pss_cons (ps_set (i := 3) sc_l_pool.nd rfl (by first | exact Or.inl rfl | exact Or.inr rfl) (pe_lst pa_nil))
      (pss_cons (ps_for PassesOwn.never rfl (pi_seq (pv 2)) (pg_name (i := 4) sc_l_pool.nd rfl (by first | exact Or.inl rfl | exact Or.inr rfl)) (pss_cons (ps_set (i := 7) sc_l_pool.nd rfl (by first | exact Or.inl rfl | exact Or.inr rfl) (pe_lst pa_nil))
      (pss_cons (ps_set (i := 8) sc_l_pool.nd rfl (by first | exact Or.inl rfl | exact Or.inr rfl) (pv 4))
      (pss_cons (ps_if (pt_cmpR op_geU (pv 4) (pe_op op_powU pe_int pe_int) (nomark _)) (pss_one (ps_for PassesOwn.never rfl (pi_range1 (by rfl) T.f_range (pa_cons pe_int pa_nil)) (pg_name (i := 10) sc_l_pool.nd rfl (by first | exact Or.inl rfl | exact Or.inr rfl)) (pss_one (ps_if (pt_cmpR op_gtU (pv 8) pe_int (nomark _)) (pss_cons (ps_expr (pe_bm PySem.F.plainAttrs_list PySem.F.slot_list_append PySem.F.type_list_append mt_append (pv 7) (pa_cons (pe_op op_modU (pe_callTy call_intU (by rfl) T.f_int (by decide +kernel) (pa_cons (pv 8) pa_nil)) pe_int) pa_nil)))
      (pss_one (ps_set (i := 8) sc_l_pool.nd rfl (by first | exact Or.inl rfl | exact Or.inr rfl) (pe_op op_fdivU (pv 8) pe_int)))) pss_nil)))) pss_nil)
      (pss_one (ps_expr (pe_bm PySem.F.plainAttrs_list PySem.F.slot_list_append PySem.F.type_list_append mt_append (pv 3) (pa_cons (pv 7) pa_nil))))))))
      (pss_cons (ps_set (i := 5) sc_l_pool.nd rfl (by first | exact Or.inl rfl | exact Or.inr rfl) (pe_lst pa_nil))
      (pss_cons (ps_for PassesOwn.never rfl (pi_range1 (by rfl) T.f_range (pa_cons (pv 1) pa_nil)) (pg_name (i := 6) sc_l_pool.nd rfl (by first | exact Or.inl rfl | exact Or.inr rfl)) (pss_cons (ps_set (i := 9) sc_l_pool.nd rfl (by first | exact Or.inl rfl | exact Or.inr rfl) (pe_op op_modU (pe_callTy call_intU (by rfl) T.f_int (by decide +kernel) (pa_cons (pv 6) pa_nil)) (pe_callB call_lenU (by rfl) T.f_len boot_len (pa_cons (pv 2) pa_nil))))
      (pss_cons (ps_set (i := 10) sc_l_pool.nd rfl (by first | exact Or.inl rfl | exact Or.inr rfl) (pe_op op_fdivU (pv 6) (pe_callB call_lenU (by rfl) T.f_len boot_len (pa_cons (pv 2) pa_nil))))
      (pss_one (ps_if (pt_cmpR op_ltU (pv 10) (pe_callB call_lenU (by rfl) T.f_len boot_len (pa_cons (pe_ix ix_seq (pv 3) (pv 9) (fun _ _ => rfl)) pa_nil)) (nomark _)) (pss_one (ps_expr (pe_bm PySem.F.plainAttrs_list PySem.F.slot_list_append PySem.F.type_list_append mt_append (pv 5) (pa_cons (pe_ix ix_seq (pe_ix ix_seq (pv 3) (pv 9) (fun _ _ => rfl)) (pv 10) (fun _ _ => rfl)) pa_nil)))) (pss_one (ps_expr (pe_bm PySem.F.plainAttrs_list PySem.F.slot_list_append PySem.F.type_list_append mt_append (pv 5) (pa_cons (pe_df G_l_mixed (hr.mono (by decide)) (by rfl) (pa_cons (pe_op op_plus (pe_op op_modU (pe_callTy call_intU (by rfl) T.f_int (by decide +kernel) (pa_cons (pe_ix ix_seq (pv 2) (pv 9) (fun _ _ => rfl)) pa_nil)) pe_int) (pe_op op_times pe_int (pv 9))) (pa_cons (pe_op op_plus (pv 10) pe_int) pa_nil))) pa_nil)))))))))
      (pss_one (ps_ret (pv 5)))))))))
theorem tm_l_same {sp_l_same : Sp} (T : Tx K mg) {kk : Nat} (hk : 0 ≤ kk) (G_l_same : Df P w K mg base "_law_same" kk [] sp_l_same) {f : Addr} {cdv : Value} {A : Around} {outer : List Env} {s : Shared} {H : Hp} {E : XK}
    (hr : Room kk (A.deeper (envOfC "_law_same" (defScope s_l_same) s.heap.objs.size f cdv))) :
    PSs (cxOf CX0 P w K mg base N_l_same "_law_same" (defScope s_l_same) f cdv A outer s H E).nox (defBody s_l_same) (rd_l_same K sp_l_same ) :=
  (pss_cons (ps_if (pt_cmpR op_isC (pv 1) pe_non (nomark _)) (pss_one (ps_ret (pe_cmpR op_isC (pv 0) pe_non (nomark _)))) pss_nil)
      (pss_cons (ps_if (pt_cmpR op_isC (pv 1) pe_bl (nomark _)) (pss_one (ps_ret (pe_cmpR op_isC (pv 0) pe_bl (nomark _)))) pss_nil)
      (pss_cons (ps_if (pt_cmpR op_isC (pv 1) pe_bl (nomark _)) (pss_one (ps_ret (pe_cmpR op_isC (pv 0) pe_bl (nomark _)))) pss_nil)
      (pss_cons (ps_if (pt_val (pe_callB call_isi (by rfl) T.f_isinstance boot_isinstance (pa_cons (pv 1) (pa_cons (pe_bltn (v := .ty "int") (by rfl) T.f_int (by decide +kernel) rfl) pa_nil)))) (pss_one (ps_ret (pe_and (pe_callB call_isi (by rfl) T.f_isinstance boot_isinstance (pa_cons (pv 0) (pa_cons (pe_bltn (v := .ty "int") (by rfl) T.f_int (by decide +kernel) rfl) pa_nil))) (pe_and (pe_not (pe_callB call_isi (by rfl) T.f_isinstance boot_isinstance (pa_cons (pv 0) (pa_cons (pe_bltn (v := .ty "bool") (by rfl) T.f_bool (by decide +kernel) rfl) pa_nil)))) (pe_one (pe_cmpR (op_eqU hr) (pv 0) (pv 1) (nomark _))))))) pss_nil)
      (pss_cons (ps_if (pt_val (pe_callB call_isi (by rfl) T.f_isinstance boot_isinstance (pa_cons (pv 1) (pa_cons (pe_bltn (v := .ty "str") (by rfl) T.f_str (by decide +kernel) rfl) pa_nil)))) (pss_one (ps_ret (pe_and (pe_callB call_isi (by rfl) T.f_isinstance boot_isinstance (pa_cons (pv 0) (pa_cons (pe_bltn (v := .ty "str") (by rfl) T.f_str (by decide +kernel) rfl) pa_nil))) (pe_one (pe_cmpR (op_eqU hr) (pv 0) (pv 1) (nomark _)))))) pss_nil)
      (pss_cons (ps_if (pt_val (pe_callB call_isi (by rfl) T.f_isinstance boot_isinstance (pa_cons (pv 1) (pa_cons (pe_bltn (v := .ty "tuple") (by rfl) T.f_tuple (by decide +kernel) rfl) pa_nil)))) (pss_one (ps_if (PW.pt (pw_or (pt_not (pt_val (pe_callB call_isi (by rfl) T.f_isinstance boot_isinstance (pa_cons (pv 0) (pa_cons (pe_bltn (v := .ty "tuple") (by rfl) T.f_tuple (by decide +kernel) rfl) pa_nil))))) (pw_or1 (pt_cmpR (op_neU hr) (pe_callB call_lenU (by rfl) T.f_len boot_len (pa_cons (pv 0) pa_nil)) (pe_callB call_lenU (by rfl) T.f_len boot_len (pa_cons (pv 1) pa_nil)) (nomark _))))) (pss_one (ps_ret pe_bl)) pss_nil)) (pss_one (ps_if (PW.pt (pw_or (pt_not (pt_val (pe_callB call_isi (by rfl) T.f_isinstance boot_isinstance (pa_cons (pv 0) (pa_cons (pe_bltn (v := .ty "list") (by rfl) T.f_list (by decide +kernel) rfl) pa_nil))))) (pw_or1 (pt_cmpR (op_neU hr) (pe_callB call_lenU (by rfl) T.f_len boot_len (pa_cons (pv 0) pa_nil)) (pe_callB call_lenU (by rfl) T.f_len boot_len (pa_cons (pv 1) pa_nil)) (nomark _))))) (pss_one (ps_ret pe_bl)) pss_nil)))
      (pss_cons (ps_for PassesOwn.never rfl (pi_range1 (by rfl) T.f_range (pa_cons (pe_callB call_lenU (by rfl) T.f_len boot_len (pa_cons (pv 1) pa_nil)) pa_nil)) (pg_name (i := 2) sc_l_same.nd rfl (by first | exact Or.inl rfl | exact Or.inr rfl)) (pss_one (ps_if (pt_not (pt_val (pe_df G_l_same hr (by rfl) (pa_cons (pe_ix ix_seq (pv 0) (pv 2) (fun _ _ => rfl)) (pa_cons (pe_ix ix_seq (pv 1) (pv 2) (fun _ _ => rfl)) pa_nil))))) (pss_one (ps_ret pe_bl)) pss_nil)))
      (pss_one (ps_ret pe_bl)))))))))
def rd_l_number (K : PySem.W.Frag) : TS :=
  (tSeq (tAsg (tC (.int 0)) (gName 2))
  (tSeq (tFor (iRng1 (tCons (tC (.int 10)) tNil)) (gName 3) (tAsg (tOp (rPlus K) (tOp (rTimes) (tVar 2) (tC (.int 1000))) (tOp (rIx K) (tVar 0) (tOp (rPlus K) (tVar 1) (tVar 3)))) (gName 2)))
  (tRet (tVar 2))))
theorem tm_l_number (T : Tx K mg) {f : Addr} {cdv : Value} {A : Around} {outer : List Env} {s : Shared} {H : Hp} {E : XK}
    (hr : Room 0 (A.deeper (envOfC "_law_number" (defScope s_l_number) s.heap.objs.size f cdv))) :
    PSs (cxOf CX0 P w K mg base N_l_number "_law_number" (defScope s_l_number) f cdv A outer s H E).nox (defBody s_l_number) (rd_l_number K  ) :=
  (pss_cons (ps_set (i := 2) sc_l_number.nd rfl (by first | exact Or.inl rfl | exact Or.inr rfl) pe_int)
      (pss_cons (ps_for PassesOwn.never rfl (pi_range1 (by rfl) T.f_range (pa_cons pe_int pa_nil)) (pg_name (i := 3) sc_l_number.nd rfl (by first | exact Or.inl rfl | exact Or.inr rfl)) (pss_one (ps_set (i := 2) sc_l_number.nd rfl (by first | exact Or.inl rfl | exact Or.inr rfl) (pe_op op_plus (pe_op op_times (pv 2) pe_int) (pe_ix ix_seq (pv 0) (pe_op op_plus (pv 1) (pv 3)) (fun _ _ => rfl))))))
      (pss_one (ps_ret (pv 2)))))
def rd_l_stretches (K : PySem.W.Frag) : TS :=
  (tSeq (tAsg (tOp (rPlus K) (tVar 2) (tVar 3)) (gName 5))
  (tSeq (tIfS (tAnd (tTest (tOp (rIsNC) (tVar 4) (tC .non))) (tTest (tOp (rLt) (tVar 4) (tVar 5)))) (tAsg (tVar 4) (gName 5)) tNext)
  (tSeq (tAsg (tLc (iRng1 (tCons (tCB (rMn2) (tCons (tVar 1) (tCons (tC (.int 54)) tNil))) tNil)) (gName 12) tYes (tOp (rIx K) (tVar 0) (tOp (rMod) (tCB (rIntC) (tCons (tVar 12) tNil)) (tCB (rLenU K) (tCons (tVar 0) tNil)))) [12]) (gName 6))
  (tSeq (tAsg (tC .non) (gName 7))
  (tSeq (tAsg (tC .non) (gName 8))
  (tSeq (tFor (iRng2 (tCons (tC (.int 1)) (tCons (tCB (rLenU K) (tCons (tVar 6) tNil)) tNil))) (gName 9) (tSeq (tAsg (tOp (rIx K) (tVar 6) (tVar 9)) (gName 10))
  (tFor (iRng2 (tCons (tC (.int 1)) (tCons (tOp (rPlus K) (tVar 9) (tC (.int 1))) tNil))) (gName 11) (tSeq (tAsg (tOp (rPlus K) (tVar 10) (tOp (rIx K) (tVar 6) (tOp (rMinus) (tVar 9) (tVar 11)))) (gName 10))
  (tSeq (tIfS (tTest (tOp (rGt2) (tVar 10) (tVar 5))) tBreak tNext)
  (tIfS (tAnd (tTest (tOp (rLe) (tOp (rIx K) (tVar 6) (tOp (rMinus) (tVar 9) (tVar 11))) (tVar 2))) (tTest (tOp (rLe) (tOp (rIx K) (tVar 6) (tVar 9)) (tVar 3)))) (tSeq (tIfS (tOr (tTest (tOp (rIsC) (tVar 7) (tC .non))) (tTest (tOp (rLt) (tVar 10) (tVar 7)))) (tAsg (tVar 10) (gName 7)) tNext)
  (tIfS (tTest (tOp (rIsC) (tVar 8) (tC .non))) (tAsg (tOp (rPlus K) (tVar 9) (tC (.int 1))) (gName 8)) tNext)) tNext))))))
  (tRet (tTup (tCons (tVar 7) (tCons (tVar 8) tNil))))))))))
theorem tm_l_stretches (T : Tx K mg) {f : Addr} {cdv : Value} {A : Around} {outer : List Env} {s : Shared} {H : Hp} {E : XK}
    (hr : Room 0 (A.deeper (envOfC "_law_stretches" (defScope s_l_stretches) s.heap.objs.size f cdv))) :
    PSs (cxOf CX0 P w K mg base N_l_stretches "_law_stretches" (defScope s_l_stretches) f cdv A outer s H E).nox (defBody s_l_stretches) (rd_l_stretches K  ) :=
  (pss_cons (ps_set (i := 5) sc_l_stretches.nd rfl (by first | exact Or.inl rfl | exact Or.inr rfl) (pe_op op_plus (pv 2) (pv 3)))
      (pss_cons (ps_if (PW.pt (pw_and (pt_cmpR op_isNC (pv 4) pe_non (nomark _)) (pw_and1 (pt_cmpR op_ltU (pv 4) (pv 5) (nomark _))))) (pss_one (ps_set (i := 5) sc_l_stretches.nd rfl (by first | exact Or.inl rfl | exact Or.inr rfl) (pv 4))) pss_nil)
      (pss_cons (ps_setLc (i := 6) (own := [(("k" : Str), 12)]) (wi := (iRng1 (tCons (tCB (rMn2) (tCons (tVar 1) (tCons (tC (.int 54)) tNil))) tNil))) (g := (gName 12)) (tt := tYes) (te := (tOp (rIx K) (tVar 0) (tOp (rMod) (tCB (rIntC) (tCons (tVar 12) tNil)) (tCB (rLenU K) (tCons (tVar 0) tNil))))) rfl sc_l_stretches.nd rfl rfl (sw_true rfl rfl rfl (by decide +kernel)) (pi_range1 (by rfl) T.f_range (pa_cons (pe_callB (call_mn2 rfl) (by rfl) T.f_min (by decide +kernel) (pa_cons (pv 1) (pa_cons pe_int pa_nil))) pa_nil)) (blkOk_by (N := N_l_stretches) (sc := defScope s_l_stretches) (by decide +kernel)) (fun _ _ _ _ _ => (pg_name (i := 12) sc_l_stretches.nd rfl (by first | exact Or.inl rfl | exact Or.inr rfl))) (fun _ _ _ _ _ => pts_nil) (fun _ _ _ _ _ => (pe_ix ix_seq (pv 0) (pe_op op_modU (pe_callTy call_intU (by rfl) T.f_int (by decide +kernel) (pa_cons (pv 12) pa_nil)) (pe_callB call_lenU (by rfl) T.f_len boot_len (pa_cons (pv 0) pa_nil))) (fun _ _ => rfl))))
      (pss_cons (ps_set (i := 7) sc_l_stretches.nd rfl (by first | exact Or.inl rfl | exact Or.inr rfl) pe_non)
      (pss_cons (ps_set (i := 8) sc_l_stretches.nd rfl (by first | exact Or.inl rfl | exact Or.inr rfl) pe_non)
      (pss_cons (ps_for PassesOwn.never rfl (pi_range2 (by rfl) T.f_range (pa_cons pe_int (pa_cons (pe_callB call_lenU (by rfl) T.f_len boot_len (pa_cons (pv 6) pa_nil)) pa_nil))) (pg_name (i := 9) sc_l_stretches.nd rfl (by first | exact Or.inl rfl | exact Or.inr rfl)) (pss_cons (ps_set (i := 10) sc_l_stretches.nd rfl (by first | exact Or.inl rfl | exact Or.inr rfl) (pe_ix ix_seq (pv 6) (pv 9) (fun _ _ => rfl)))
      (pss_one (ps_for PassesOwn.never rfl (pi_range2 (by rfl) T.f_range (pa_cons pe_int (pa_cons (pe_op op_plus (pv 9) pe_int) pa_nil))) (pg_name (i := 11) sc_l_stretches.nd rfl (by first | exact Or.inl rfl | exact Or.inr rfl)) (pss_cons (ps_set (i := 10) sc_l_stretches.nd rfl (by first | exact Or.inl rfl | exact Or.inr rfl) (pe_op op_plus (pv 10) (pe_ix ix_seq (pv 6) (pe_op op_minus (pv 9) (pv 11)) (fun _ _ => rfl))))
      (pss_cons (ps_if (pt_cmpR op_gtU (pv 10) (pv 5) (nomark _)) (pss_one ps_break) pss_nil)
      (pss_one (ps_if (PW.pt (pw_and (pt_cmpR op_leU (pe_ix ix_seq (pv 6) (pe_op op_minus (pv 9) (pv 11)) (fun _ _ => rfl)) (pv 2) (nomark _)) (pw_and1 (pt_cmpR op_leU (pe_ix ix_seq (pv 6) (pv 9) (fun _ _ => rfl)) (pv 3) (nomark _))))) (pss_cons (ps_if (PW.pt (pw_or (pt_cmpR op_isC (pv 7) pe_non (nomark _)) (pw_or1 (pt_cmpR op_ltU (pv 10) (pv 7) (nomark _))))) (pss_one (ps_set (i := 7) sc_l_stretches.nd rfl (by first | exact Or.inl rfl | exact Or.inr rfl) (pv 10))) pss_nil)
      (pss_one (ps_if (pt_cmpR op_isC (pv 8) pe_non (nomark _)) (pss_one (ps_set (i := 8) sc_l_stretches.nd rfl (by first | exact Or.inl rfl | exact Or.inr rfl) (pe_op op_plus (pv 9) pe_int))) pss_nil))) pss_nil))))))))
      (pss_one (ps_ret (pe_tup (pa_cons (pv 7) (pa_cons (pv 8) pa_nil)))))))))))
def rd_l_least_told (K : PySem.W.Frag) (sp_row_least : Sp) (dv_row_least_4 : List V) : TS :=
  (tSeq (tIfS (tTest (tOp (rIsC) (tVar 4) (tC .non))) (tRet (tCall sp_row_least dv_row_least_4 E0 (tCons (tVar 0) (tCons (tVar 1) (tCons (tVar 2) (tCons (tVar 3) tNil)))))) tNext)
  (tRet (tCallN 4 1 sp_row_least (fun a b => a ++ b) E0 (tCons (tVar 0) (tCons (tVar 1) (tCons (tVar 2) (tCons (tVar 3) tNil)))) (tCons (tVar 4) tNil))))
theorem tm_l_least_told {sp_row_least : Sp} {dv_row_least_4 : List V} (T : Tx K mg) (G_row_least_4 : Df P w K mg base "row_least" 3 dv_row_least_4 sp_row_least) (G_row_least_4_both : DfK P w K mg base "row_least" 3 4 ["both"] (fun a b => a ++ b) sp_row_least) {f : Addr} {cdv : Value} {A : Around} {outer : List Env} {s : Shared} {H : Hp} {E : XK}
    (hr : Room 3 (A.deeper (envOfC "_law_least_told" (defScope s_l_least_told) s.heap.objs.size f cdv))) :
    PSs (cxOf CX0 P w K mg base N_l_least_told "_law_least_told" (defScope s_l_least_told) f cdv A outer s H E).nox (defBody s_l_least_told) (rd_l_least_told K sp_row_least dv_row_least_4) :=
  (pss_cons (ps_if (pt_cmpR op_isC (pv 4) pe_non (nomark _)) (pss_one (ps_ret (pe_df G_row_least_4 (hr.mono (by decide)) (by rfl) (pa_cons (pv 0) (pa_cons (pv 1) (pa_cons (pv 2) (pa_cons (pv 3) pa_nil))))))) pss_nil)
      (pss_one (ps_ret (pe_dfK G_row_least_4_both (hr.mono (by decide)) (by rfl) (pa_cons (pv 0) (pa_cons (pv 1) (pa_cons (pv 2) (pa_cons (pv 3) pa_nil)))) (pk_cons (pv 4) pk_nil)))))
def rd_l_first_told (K : PySem.W.Frag) (sp_row_first_stuck : Sp) (dv_row_first_stuck_3 : List V) : TS :=
  (tSeq (tIfS (tTest (tOp (rIsC) (tVar 3) (tC .non))) (tRet (tCall sp_row_first_stuck dv_row_first_stuck_3 E0 (tCons (tVar 0) (tCons (tVar 1) (tCons (tVar 2) tNil))))) tNext)
  (tRet (tCallN 3 1 sp_row_first_stuck (fun a b => a ++ b) E0 (tCons (tVar 0) (tCons (tVar 1) (tCons (tVar 2) tNil))) (tCons (tVar 3) tNil))))
theorem tm_l_first_told {sp_row_first_stuck : Sp} {dv_row_first_stuck_3 : List V} (T : Tx K mg) (G_row_first_stuck_3 : Df P w K mg base "row_first_stuck" 3 dv_row_first_stuck_3 sp_row_first_stuck) (G_row_first_stuck_3_both : DfK P w K mg base "row_first_stuck" 3 3 ["both"] (fun a b => a ++ b) sp_row_first_stuck) {f : Addr} {cdv : Value} {A : Around} {outer : List Env} {s : Shared} {H : Hp} {E : XK}
    (hr : Room 3 (A.deeper (envOfC "_law_first_told" (defScope s_l_first_told) s.heap.objs.size f cdv))) :
    PSs (cxOf CX0 P w K mg base N_l_first_told "_law_first_told" (defScope s_l_first_told) f cdv A outer s H E).nox (defBody s_l_first_told) (rd_l_first_told K sp_row_first_stuck dv_row_first_stuck_3) :=
  (pss_cons (ps_if (pt_cmpR op_isC (pv 3) pe_non (nomark _)) (pss_one (ps_ret (pe_df G_row_first_stuck_3 (hr.mono (by decide)) (by rfl) (pa_cons (pv 0) (pa_cons (pv 1) (pa_cons (pv 2) pa_nil)))))) pss_nil)
      (pss_one (ps_ret (pe_dfK G_row_first_stuck_3_both (hr.mono (by decide)) (by rfl) (pa_cons (pv 0) (pa_cons (pv 1) (pa_cons (pv 2) pa_nil))) (pk_cons (pv 3) pk_nil)))))
def rd_l_turns (K : PySem.W.Frag) (sp_row_least sp_l_stretches sp_l_same : Sp) : TS :=
  (tSeq (tIfS (tTest (tOp (rIsC) (tVar 4) (tC .non))) (tRet (tOp (rIsC) (tCall sp_row_least [] E0 (tCons (tCB (rListU K) (tCons (tVar 0) tNil)) (tCons (tOp (rPow) (tC (.int 10)) (tC (.int 30))) (tCons (tVar 1) (tCons (tVar 2) (tCons (tVar 3) tNil)))))) (tC .non))) tNext)
  (tSeq (tAsg (tOp (rIx K) (tCall sp_l_stretches [] E0 (tCons (tVar 0) (tCons (tVar 4) (tCons (tVar 1) (tCons (tVar 2) (tCons (tVar 3) tNil)))))) (tC (.int 0))) (gName 5))
  (tSeq (tIfS (tOr (tTest (tOp (rIsC) (tVar 5) (tC .non))) (tNot (tB (tCall sp_l_same [] E0 (tCons (tCall sp_row_least [] E0 (tCons (tCB (rListU K) (tCons (tVar 0) tNil)) (tCons (tVar 4) (tCons (tVar 1) (tCons (tVar 2) (tCons (tVar 3) tNil)))))) (tCons (tVar 5) tNil)))))) (tRet (tC (.bl false))) tNext)
  (tSeq (tIfS (tTest (tOp (rGt2) (tVar 4) (tC (.int 2)))) (tRet (tOp (rIsC) (tCall sp_row_least [] E0 (tCons (tCB (rListU K) (tCons (tVar 0) tNil)) (tCons (tOp (rMinus) (tVar 4) (tC (.int 1))) (tCons (tVar 1) (tCons (tVar 2) (tCons (tVar 3) tNil)))))) (tC .non))) tNext)
  (tRet (tC (.bl true)))))))
theorem tm_l_turns {sp_row_least sp_l_stretches sp_l_same : Sp} (T : Tx K mg) (G_row_least : Df P w K mg base "row_least" 3 [] sp_row_least) (G_l_stretches : Df P w K mg base "_law_stretches" 1 [] sp_l_stretches) (G_l_same : Df P w K mg base "_law_same" 1 [] sp_l_same) {f : Addr} {cdv : Value} {A : Around} {outer : List Env} {s : Shared} {H : Hp} {E : XK}
    (hr : Room 3 (A.deeper (envOfC "_law_turns" (defScope s_l_turns) s.heap.objs.size f cdv))) :
    PSs (cxOf CX0 P w K mg base N_l_turns "_law_turns" (defScope s_l_turns) f cdv A outer s H E).nox (defBody s_l_turns) (rd_l_turns K sp_row_least sp_l_stretches sp_l_same ) :=
  (pss_cons (ps_if (pt_cmpR op_isC (pv 4) pe_non (nomark _)) (pss_one (ps_ret (pe_cmpR op_isC (pe_df G_row_least (hr.mono (by decide)) (by rfl) (pa_cons (pe_callTy call_listU (by rfl) T.f_list (by decide +kernel) (pa_cons (pv 0) pa_nil)) (pa_cons (pe_op op_powU pe_int pe_int) (pa_cons (pv 1) (pa_cons (pv 2) (pa_cons (pv 3) pa_nil)))))) pe_non (nomark _)))) pss_nil)
      (pss_cons (ps_set (i := 5) sc_l_turns.nd rfl (by first | exact Or.inl rfl | exact Or.inr rfl) (pe_ix ix_seq (pe_df G_l_stretches (hr.mono (by decide)) (by rfl) (pa_cons (pv 0) (pa_cons (pv 4) (pa_cons (pv 1) (pa_cons (pv 2) (pa_cons (pv 3) pa_nil)))))) pe_int (fun _ _ => rfl)))
      (pss_cons (ps_if (PW.pt (pw_or (pt_cmpR op_isC (pv 5) pe_non (nomark _)) (pw_or1 (pt_not (pt_val (pe_df G_l_same (hr.mono (by decide)) (by rfl) (pa_cons (pe_df G_row_least (hr.mono (by decide)) (by rfl) (pa_cons (pe_callTy call_listU (by rfl) T.f_list (by decide +kernel) (pa_cons (pv 0) pa_nil)) (pa_cons (pv 4) (pa_cons (pv 1) (pa_cons (pv 2) (pa_cons (pv 3) pa_nil)))))) (pa_cons (pv 5) pa_nil)))))))) (pss_one (ps_ret pe_bl)) pss_nil)
      (pss_cons (ps_if (pt_cmpR op_gtU (pv 4) pe_int (nomark _)) (pss_one (ps_ret (pe_cmpR op_isC (pe_df G_row_least (hr.mono (by decide)) (by rfl) (pa_cons (pe_callTy call_listU (by rfl) T.f_list (by decide +kernel) (pa_cons (pv 0) pa_nil)) (pa_cons (pe_op op_minus (pv 4) pe_int) (pa_cons (pv 1) (pa_cons (pv 2) (pa_cons (pv 3) pa_nil)))))) pe_non (nomark _)))) pss_nil)
      (pss_one (ps_ret pe_bl))))))
def rd_law (K : PySem.W.Frag) (sp_l_pool sp_l_number sp_l_stretches sp_l_same sp_l_least_told sp_l_first_told sp_row_least sp_row_first_stuck sp_l_turns : Sp) : TS :=
  (tSeq (tAsg (tCall sp_l_pool [] E0 (tCons (tVar 0) (tCons (tC (.int 27)) tNil))) (gName 1))
  (tSeq (tAsg (tOp (rPlus K) (tC (.int 1)) (tOp (rMod) (tCB (rIntC) (tCons (tOp (rIx K) (tVar 1) (tC (.int 0))) tNil)) (tC (.int 6)))) (gName 2))
  (tSeq (tAsg (tLc (iRng1 (tCons (tVar 2) tNil)) (gName 14) tYes (tOp (rPlus K) (tC (.int 1)) (tOp (rMod) (tCB (rIntC) (tCons (tOp (rIx K) (tVar 1) (tOp (rPlus K) (tC (.int 1)) (tVar 14))) tNil)) (tC (.int 4)))) [14]) (gName 3))
  (tSeq (tAsg (tOp (rPlus K) (tC (.int 2)) (tOp (rMod) (tCB (rIntC) (tCons (tOp (rIx K) (tVar 1) (tC (.int 8))) tNil)) (tC (.int 12)))) (gName 4))
  (tSeq (tIfS (tTest (tOp (rEqU K) (tOp (rMod) (tCB (rIntC) (tCons (tOp (rIx K) (tVar 1) (tC (.int 7))) tNil)) (tC (.int 2))) (tC (.int 1)))) (tAsg (tOp (rPlus K) (tC (.int 2)) (tOp (rMod) (tCB (rIntC) (tCons (tCall sp_l_number [] E0 (tCons (tVar 1) (tCons (tC (.int 9)) tNil))) tNil)) (tOp (rMinus) (tOp (rPow) (tC (.int 10)) (tC (.int 30))) (tC (.int 1))))) (gName 4)) tNext)
  (tSeq (tAsg (tOp (rIx K) (tLst (tCons (tC (.int 3)) (tCons (tC (.int 4)) (tCons (tC (.int 8)) (tCons (tC (.int 24)) tNil))))) (tOp (rMod) (tCB (rIntC) (tCons (tOp (rIx K) (tVar 1) (tC (.int 19))) tNil)) (tC (.int 4)))) (gName 5))
  (tSeq (tAsg (tOp (rMinus) (tC (.int 1)) (tOp (rFdiv) (tOp (rMod) (tCB (rIntC) (tCons (tOp (rIx K) (tVar 1) (tC (.int 19))) tNil)) (tC (.int 8))) (tC (.int 4)))) (gName 6))
  (tSeq (tAsg (tOp (rPlus K) (tVar 6) (tOp (rMod) (tCB (rIntC) (tCons (tOp (rIx K) (tVar 1) (tC (.int 20))) tNil)) (tOp (rMinus) (tOp (rPlus K) (tVar 5) (tC (.int 1))) (tVar 6)))) (gName 7))
  (tSeq (tAsg (tOp (rPlus K) (tVar 6) (tOp (rMod) (tCB (rIntC) (tCons (tOp (rIx K) (tVar 1) (tC (.int 21))) tNil)) (tOp (rMinus) (tOp (rPlus K) (tVar 5) (tC (.int 1))) (tVar 6)))) (gName 8))
  (tSeq (tIfS (tTest (tOp (rEqU K) (tOp (rMod) (tCB (rIntC) (tCons (tOp (rIx K) (tVar 1) (tC (.int 26))) tNil)) (tC (.int 4))) (tC (.int 0)))) (tSeq (tAsg (tLc (iRng1 (tCons (tVar 2) tNil)) (gName 14) tYes (tOp (rPlus K) (tC (.int 1)) (tOp (rTimes) (tC (.int 3)) (tOp (rMod) (tCB (rIntC) (tCons (tOp (rIx K) (tVar 1) (tOp (rPlus K) (tC (.int 1)) (tVar 14))) tNil)) (tC (.int 2))))) [14]) (gName 3))
  (tSeq (tAsg (tC (.int 3)) (gName 7))
  (tAsg (tC (.int 3)) (gName 8)))) tNext)
  (tSeq (tAsg (tC .non) (gName 9))
  (tSeq (tIfS (tTest (tOp (rEqU K) (tOp (rMod) (tCB (rIntC) (tCons (tOp (rIx K) (tVar 1) (tC (.int 22))) tNil)) (tC (.int 3))) (tC (.int 1)))) (tAsg (tOp (rMod) (tCB (rIntC) (tCons (tOp (rIx K) (tVar 1) (tC (.int 23))) tNil)) (tC (.int 25))) (gName 9)) tNext)
  (tSeq (tIfS (tTest (tOp (rEqU K) (tOp (rMod) (tCB (rIntC) (tCons (tOp (rIx K) (tVar 1) (tC (.int 22))) tNil)) (tC (.int 3))) (tC (.int 2)))) (tAsg (tCB (rMn2) (tCons (tC (.int 24)) (tCons (tOp (rMod) (tCB (rIntC) (tCons (tOp (rIx K) (tVar 1) (tC (.int 23))) tNil)) (tOp (rPlus K) (tOp (rPlus K) (tVar 7) (tVar 8)) (tC (.int 2)))) tNil))) (gName 9)) tNext)
  (tSeq (tAsg (tCB (rListU K) (tCons (tVar 3) tNil)) (gName 10))
  (tSeq (tAsg (tOp (rPlus K) (tC (.int 1)) (tOp (rMod) (tCB (rIntC) (tCons (tOp (rIx K) (tVar 1) (tC (.int 25))) tNil)) (tC (.int 4)))) (gSub (tVar 10) (tOp (rMod) (tCB (rIntC) (tCons (tOp (rIx K) (tVar 1) (tC (.int 24))) tNil)) (tVar 2)) rSetL))
  (tSeq (tAsg (tOp (rIx K) (tCall sp_l_stretches [] E0 (tCons (tVar 3) (tCons (tVar 4) (tCons (tVar 7) (tCons (tVar 8) (tCons (tVar 9) tNil)))))) (tC (.int 0))) (gName 11))
  (tSeq (tAsg (tOp (rIx K) (tCall sp_l_stretches [] E0 (tCons (tVar 3) (tCons (tC (.int 54)) (tCons (tVar 7) (tCons (tVar 8) (tCons (tVar 9) tNil)))))) (tC (.int 1))) (gName 12))
  (tSeq (tAsg (tCB (rListU K) (tCons (tVar 3) tNil)) (gName 13))
  (tSeq (tIfS (tNot (tB (tCall sp_l_same [] E0 (tCons (tCall sp_l_least_told [] E0 (tCons (tVar 13) (tCons (tVar 4) (tCons (tVar 7) (tCons (tVar 8) (tCons (tVar 9) tNil)))))) (tCons (tVar 11) tNil))))) (tRet (tC (.bl false))) tNext)
  (tSeq (tIfS (tOr (tNot (tB (tCall sp_l_same [] E0 (tCons (tCall sp_l_first_told [] E0 (tCons (tVar 13) (tCons (tVar 7) (tCons (tVar 8) (tCons (tVar 9) tNil))))) (tCons (tVar 12) tNil))))) (tTest (tOp (rNeU K) (tVar 13) (tVar 3)))) (tRet (tC (.bl false))) tNext)
  (tSeq (tIfS (tNot (tB (tCall sp_l_same [] E0 (tCons (tCall sp_row_least [] E0 (tCons (tCB (rTupU K) (tCons (tVar 3) tNil)) (tCons (tVar 4) (tCons (tVar 7) (tCons (tVar 8) (tCons (tVar 9) tNil)))))) (tCons (tVar 11) tNil))))) (tRet (tC (.bl false))) tNext)
  (tSeq (tIfS (tNot (tB (tCall sp_l_same [] E0 (tCons (tCall sp_row_first_stuck [] E0 (tCons (tCB (rTupU K) (tCons (tVar 3) tNil)) (tCons (tVar 7) (tCons (tVar 8) (tCons (tVar 9) tNil))))) (tCons (tVar 12) tNil))))) (tRet (tC (.bl false))) tNext)
  (tSeq (tIfS (tNot (tB (tCall sp_l_turns [] E0 (tCons (tVar 3) (tCons (tVar 7) (tCons (tVar 8) (tCons (tVar 9) (tCons (tVar 12) tNil)))))))) (tRet (tC (.bl false))) tNext)
  (tSeq (tFor (iRng1 (tCons (tVar 2) tNil)) (gName 14) (tAsg (tOp (rIx K) (tVar 10) (tVar 14)) (gSub (tVar 13) (tVar 14) rSetL)))
  (tSeq (tAsg (tOp (rIx K) (tCall sp_l_stretches [] E0 (tCons (tVar 10) (tCons (tVar 4) (tCons (tVar 7) (tCons (tVar 8) (tCons (tVar 9) tNil)))))) (tC (.int 0))) (gName 15))
  (tSeq (tIfS (tOr (tNot (tB (tCall sp_l_same [] E0 (tCons (tCall sp_l_least_told [] E0 (tCons (tVar 13) (tCons (tVar 4) (tCons (tVar 7) (tCons (tVar 8) (tCons (tVar 9) tNil)))))) (tCons (tVar 15) tNil))))) (tTest (tOp (rNeU K) (tVar 13) (tVar 10)))) (tRet (tC (.bl false))) tNext)
  (tSeq (tAsg (tOp (rIx K) (tCall sp_l_stretches [] E0 (tCons (tVar 10) (tCons (tC (.int 54)) (tCons (tVar 7) (tCons (tVar 8) (tCons (tVar 9) tNil)))))) (tC (.int 1))) (gName 15))
  (tSeq (tIfS (tNot (tB (tCall sp_l_same [] E0 (tCons (tCall sp_l_first_told [] E0 (tCons (tVar 13) (tCons (tVar 7) (tCons (tVar 8) (tCons (tVar 9) tNil))))) (tCons (tVar 15) tNil))))) (tRet (tC (.bl false))) tNext)
  (tRet (tCall sp_l_same [] E0 (tCons (tCall sp_l_least_told [] E0 (tCons (tCB (rListU K) (tCons (tVar 3) tNil)) (tCons (tVar 4) (tCons (tVar 7) (tCons (tVar 8) (tCons (tVar 9) tNil)))))) (tCons (tVar 11) tNil))))))))))))))))))))))))))))))))
theorem tm_law {sp_l_pool sp_l_number sp_l_stretches sp_l_same sp_l_least_told sp_l_first_told sp_row_least sp_row_first_stuck sp_l_turns : Sp} (T : Tx K mg) (G_l_pool : Df P w K mg base "_law_pool" 2 [] sp_l_pool) (G_l_number : Df P w K mg base "_law_number" 1 [] sp_l_number) (G_l_stretches : Df P w K mg base "_law_stretches" 1 [] sp_l_stretches) (G_l_same : Df P w K mg base "_law_same" 1 [] sp_l_same) (G_l_least_told : Df P w K mg base "_law_least_told" 4 [] sp_l_least_told) (G_l_first_told : Df P w K mg base "_law_first_told" 4 [] sp_l_first_told) (G_row_least : Df P w K mg base "row_least" 3 [] sp_row_least) (G_row_first_stuck : Df P w K mg base "row_first_stuck" 3 [] sp_row_first_stuck) (G_l_turns : Df P w K mg base "_law_turns" 4 [] sp_l_turns) {f : Addr} {cdv : Value} {A : Around} {outer : List Env} {s : Shared} {H : Hp} {E : XK}
    (hr : Room 4 (A.deeper (envOfC "law" (defScope s_law) s.heap.objs.size f cdv))) :
    PSs (cxOf CX0 P w K mg base N_law "law" (defScope s_law) f cdv A outer s H E).nox (defBody s_law) (rd_law K sp_l_pool sp_l_number sp_l_stretches sp_l_same sp_l_least_told sp_l_first_told sp_row_least sp_row_first_stuck sp_l_turns ) :=
  (pss_cons (ps_set (i := 1) sc_law.nd rfl (by first | exact Or.inl rfl | exact Or.inr rfl) (pe_df G_l_pool (hr.mono (by decide)) (by rfl) (pa_cons (pv 0) (pa_cons pe_int pa_nil))))
      (pss_cons (ps_set (i := 2) sc_law.nd rfl (by first | exact Or.inl rfl | exact Or.inr rfl) (pe_op op_plus pe_int (pe_op op_modU (pe_callTy call_intU (by rfl) T.f_int (by decide +kernel) (pa_cons (pe_ix ix_seq (pv 1) pe_int (fun _ _ => rfl)) pa_nil)) pe_int)))
      (pss_cons (ps_setLc (i := 3) (own := [(("k" : Str), 14)]) (wi := (iRng1 (tCons (tVar 2) tNil))) (g := (gName 14)) (tt := tYes) (te := (tOp (rPlus K) (tC (.int 1)) (tOp (rMod) (tCB (rIntC) (tCons (tOp (rIx K) (tVar 1) (tOp (rPlus K) (tC (.int 1)) (tVar 14))) tNil)) (tC (.int 4))))) rfl sc_law.nd rfl rfl (sw_true rfl rfl rfl (by decide +kernel)) (pi_range1 (by rfl) T.f_range (pa_cons (pv 2) pa_nil)) (blkOk_by (N := N_law) (sc := defScope s_law) (by decide +kernel)) (fun _ _ _ _ _ => (pg_name (i := 14) sc_law.nd rfl (by first | exact Or.inl rfl | exact Or.inr rfl))) (fun _ _ _ _ _ => pts_nil) (fun _ _ _ _ _ => (pe_op op_plus pe_int (pe_op op_modU (pe_callTy call_intU (by rfl) T.f_int (by decide +kernel) (pa_cons (pe_ix ix_seq (pv 1) (pe_op op_plus pe_int (pv 14)) (fun _ _ => rfl)) pa_nil)) pe_int))))
      (pss_cons (ps_set (i := 4) sc_law.nd rfl (by first | exact Or.inl rfl | exact Or.inr rfl) (pe_op op_plus pe_int (pe_op op_modU (pe_callTy call_intU (by rfl) T.f_int (by decide +kernel) (pa_cons (pe_ix ix_seq (pv 1) pe_int (fun _ _ => rfl)) pa_nil)) pe_int)))
      (pss_cons (ps_if (pt_cmpR (op_eqU hr) (pe_op op_modU (pe_callTy call_intU (by rfl) T.f_int (by decide +kernel) (pa_cons (pe_ix ix_seq (pv 1) pe_int (fun _ _ => rfl)) pa_nil)) pe_int) pe_int (nomark _)) (pss_one (ps_set (i := 4) sc_law.nd rfl (by first | exact Or.inl rfl | exact Or.inr rfl) (pe_op op_plus pe_int (pe_op op_modU (pe_callTy call_intU (by rfl) T.f_int (by decide +kernel) (pa_cons (pe_df G_l_number (hr.mono (by decide)) (by rfl) (pa_cons (pv 1) (pa_cons pe_int pa_nil))) pa_nil)) (pe_op op_minus (pe_op op_powU pe_int pe_int) pe_int))))) pss_nil)
      (pss_cons (ps_set (i := 5) sc_law.nd rfl (by first | exact Or.inl rfl | exact Or.inr rfl) (pe_ix ix_seq (pe_lst (pa_cons pe_int (pa_cons pe_int (pa_cons pe_int (pa_cons pe_int pa_nil))))) (pe_op op_modU (pe_callTy call_intU (by rfl) T.f_int (by decide +kernel) (pa_cons (pe_ix ix_seq (pv 1) pe_int (fun _ _ => rfl)) pa_nil)) pe_int) (fun _ _ => rfl)))
      (pss_cons (ps_set (i := 6) sc_law.nd rfl (by first | exact Or.inl rfl | exact Or.inr rfl) (pe_op op_minus pe_int (pe_op op_fdivU (pe_op op_modU (pe_callTy call_intU (by rfl) T.f_int (by decide +kernel) (pa_cons (pe_ix ix_seq (pv 1) pe_int (fun _ _ => rfl)) pa_nil)) pe_int) pe_int)))
      (pss_cons (ps_set (i := 7) sc_law.nd rfl (by first | exact Or.inl rfl | exact Or.inr rfl) (pe_op op_plus (pv 6) (pe_op op_modU (pe_callTy call_intU (by rfl) T.f_int (by decide +kernel) (pa_cons (pe_ix ix_seq (pv 1) pe_int (fun _ _ => rfl)) pa_nil)) (pe_op op_minus (pe_op op_plus (pv 5) pe_int) (pv 6)))))
      (pss_cons (ps_set (i := 8) sc_law.nd rfl (by first | exact Or.inl rfl | exact Or.inr rfl) (pe_op op_plus (pv 6) (pe_op op_modU (pe_callTy call_intU (by rfl) T.f_int (by decide +kernel) (pa_cons (pe_ix ix_seq (pv 1) pe_int (fun _ _ => rfl)) pa_nil)) (pe_op op_minus (pe_op op_plus (pv 5) pe_int) (pv 6)))))
      (pss_cons (ps_if (pt_cmpR (op_eqU hr) (pe_op op_modU (pe_callTy call_intU (by rfl) T.f_int (by decide +kernel) (pa_cons (pe_ix ix_seq (pv 1) pe_int (fun _ _ => rfl)) pa_nil)) pe_int) pe_int (nomark _)) (pss_cons (ps_setLc (i := 3) (own := [(("k" : Str), 14)]) (wi := (iRng1 (tCons (tVar 2) tNil))) (g := (gName 14)) (tt := tYes) (te := (tOp (rPlus K) (tC (.int 1)) (tOp (rTimes) (tC (.int 3)) (tOp (rMod) (tCB (rIntC) (tCons (tOp (rIx K) (tVar 1) (tOp (rPlus K) (tC (.int 1)) (tVar 14))) tNil)) (tC (.int 2)))))) rfl sc_law.nd rfl rfl (sw_true rfl rfl rfl (by decide +kernel)) (pi_range1 (by rfl) T.f_range (pa_cons (pv 2) pa_nil)) (blkOk_by (N := N_law) (sc := defScope s_law) (by decide +kernel)) (fun _ _ _ _ _ => (pg_name (i := 14) sc_law.nd rfl (by first | exact Or.inl rfl | exact Or.inr rfl))) (fun _ _ _ _ _ => pts_nil) (fun _ _ _ _ _ => (pe_op op_plus pe_int (pe_op op_times pe_int (pe_op op_modU (pe_callTy call_intU (by rfl) T.f_int (by decide +kernel) (pa_cons (pe_ix ix_seq (pv 1) (pe_op op_plus pe_int (pv 14)) (fun _ _ => rfl)) pa_nil)) pe_int)))))
      (pss_cons (ps_set (i := 7) sc_law.nd rfl (by first | exact Or.inl rfl | exact Or.inr rfl) pe_int)
      (pss_one (ps_set (i := 8) sc_law.nd rfl (by first | exact Or.inl rfl | exact Or.inr rfl) pe_int)))) pss_nil)
      (pss_cons (ps_set (i := 9) sc_law.nd rfl (by first | exact Or.inl rfl | exact Or.inr rfl) pe_non)
      (pss_cons (ps_if (pt_cmpR (op_eqU hr) (pe_op op_modU (pe_callTy call_intU (by rfl) T.f_int (by decide +kernel) (pa_cons (pe_ix ix_seq (pv 1) pe_int (fun _ _ => rfl)) pa_nil)) pe_int) pe_int (nomark _)) (pss_one (ps_set (i := 9) sc_law.nd rfl (by first | exact Or.inl rfl | exact Or.inr rfl) (pe_op op_modU (pe_callTy call_intU (by rfl) T.f_int (by decide +kernel) (pa_cons (pe_ix ix_seq (pv 1) pe_int (fun _ _ => rfl)) pa_nil)) pe_int))) pss_nil)
      (pss_cons (ps_if (pt_cmpR (op_eqU hr) (pe_op op_modU (pe_callTy call_intU (by rfl) T.f_int (by decide +kernel) (pa_cons (pe_ix ix_seq (pv 1) pe_int (fun _ _ => rfl)) pa_nil)) pe_int) pe_int (nomark _)) (pss_one (ps_set (i := 9) sc_law.nd rfl (by first | exact Or.inl rfl | exact Or.inr rfl) (pe_callB (call_mn2 rfl) (by rfl) T.f_min (by decide +kernel) (pa_cons pe_int (pa_cons (pe_op op_modU (pe_callTy call_intU (by rfl) T.f_int (by decide +kernel) (pa_cons (pe_ix ix_seq (pv 1) pe_int (fun _ _ => rfl)) pa_nil)) (pe_op op_plus (pe_op op_plus (pv 7) (pv 8)) pe_int)) pa_nil))))) pss_nil)
      (pss_cons (ps_set (i := 10) sc_law.nd rfl (by first | exact Or.inl rfl | exact Or.inr rfl) (pe_callTy call_listU (by rfl) T.f_list (by decide +kernel) (pa_cons (pv 3) pa_nil)))
      (pss_cons (ps_asg (pe_op op_plus pe_int (pe_op op_modU (pe_callTy call_intU (by rfl) T.f_int (by decide +kernel) (pa_cons (pe_ix ix_seq (pv 1) pe_int (fun _ _ => rfl)) pa_nil)) pe_int)) (pg_sub (pv 10) (pe_op op_modU (pe_callTy call_intU (by rfl) T.f_int (by decide +kernel) (pa_cons (pe_ix ix_seq (pv 1) pe_int (fun _ _ => rfl)) pa_nil)) (pv 2)) set_list))
      (pss_cons (ps_set (i := 11) sc_law.nd rfl (by first | exact Or.inl rfl | exact Or.inr rfl) (pe_ix ix_seq (pe_df G_l_stretches (hr.mono (by decide)) (by rfl) (pa_cons (pv 3) (pa_cons (pv 4) (pa_cons (pv 7) (pa_cons (pv 8) (pa_cons (pv 9) pa_nil)))))) pe_int (fun _ _ => rfl)))
      (pss_cons (ps_set (i := 12) sc_law.nd rfl (by first | exact Or.inl rfl | exact Or.inr rfl) (pe_ix ix_seq (pe_df G_l_stretches (hr.mono (by decide)) (by rfl) (pa_cons (pv 3) (pa_cons pe_int (pa_cons (pv 7) (pa_cons (pv 8) (pa_cons (pv 9) pa_nil)))))) pe_int (fun _ _ => rfl)))
      (pss_cons (ps_set (i := 13) sc_law.nd rfl (by first | exact Or.inl rfl | exact Or.inr rfl) (pe_callTy call_listU (by rfl) T.f_list (by decide +kernel) (pa_cons (pv 3) pa_nil)))
      (pss_cons (ps_if (pt_not (pt_val (pe_df G_l_same (hr.mono (by decide)) (by rfl) (pa_cons (pe_df G_l_least_told (hr.mono (by decide)) (by rfl) (pa_cons (pv 13) (pa_cons (pv 4) (pa_cons (pv 7) (pa_cons (pv 8) (pa_cons (pv 9) pa_nil)))))) (pa_cons (pv 11) pa_nil))))) (pss_one (ps_ret pe_bl)) pss_nil)
      (pss_cons (ps_if (PW.pt (pw_or (pt_not (pt_val (pe_df G_l_same (hr.mono (by decide)) (by rfl) (pa_cons (pe_df G_l_first_told (hr.mono (by decide)) (by rfl) (pa_cons (pv 13) (pa_cons (pv 7) (pa_cons (pv 8) (pa_cons (pv 9) pa_nil))))) (pa_cons (pv 12) pa_nil))))) (pw_or1 (pt_cmpR (op_neU hr) (pv 13) (pv 3) (nomark _))))) (pss_one (ps_ret pe_bl)) pss_nil)
      (pss_cons (ps_if (pt_not (pt_val (pe_df G_l_same (hr.mono (by decide)) (by rfl) (pa_cons (pe_df G_row_least (hr.mono (by decide)) (by rfl) (pa_cons (pe_callTy call_tupU (by rfl) T.f_tuple (by decide +kernel) (pa_cons (pv 3) pa_nil)) (pa_cons (pv 4) (pa_cons (pv 7) (pa_cons (pv 8) (pa_cons (pv 9) pa_nil)))))) (pa_cons (pv 11) pa_nil))))) (pss_one (ps_ret pe_bl)) pss_nil)
      (pss_cons (ps_if (pt_not (pt_val (pe_df G_l_same (hr.mono (by decide)) (by rfl) (pa_cons (pe_df G_row_first_stuck (hr.mono (by decide)) (by rfl) (pa_cons (pe_callTy call_tupU (by rfl) T.f_tuple (by decide +kernel) (pa_cons (pv 3) pa_nil)) (pa_cons (pv 7) (pa_cons (pv 8) (pa_cons (pv 9) pa_nil))))) (pa_cons (pv 12) pa_nil))))) (pss_one (ps_ret pe_bl)) pss_nil)
      (pss_cons (ps_if (pt_not (pt_val (pe_df G_l_turns (hr.mono (by decide)) (by rfl) (pa_cons (pv 3) (pa_cons (pv 7) (pa_cons (pv 8) (pa_cons (pv 9) (pa_cons (pv 12) pa_nil)))))))) (pss_one (ps_ret pe_bl)) pss_nil)
      (pss_cons (ps_for PassesOwn.never rfl (pi_range1 (by rfl) T.f_range (pa_cons (pv 2) pa_nil)) (pg_name (i := 14) sc_law.nd rfl (by first | exact Or.inl rfl | exact Or.inr rfl)) (pss_one (ps_asg (pe_ix ix_seq (pv 10) (pv 14) (fun _ _ => rfl)) (pg_sub (pv 13) (pv 14) set_list))))
      (pss_cons (ps_set (i := 15) sc_law.nd rfl (by first | exact Or.inl rfl | exact Or.inr rfl) (pe_ix ix_seq (pe_df G_l_stretches (hr.mono (by decide)) (by rfl) (pa_cons (pv 10) (pa_cons (pv 4) (pa_cons (pv 7) (pa_cons (pv 8) (pa_cons (pv 9) pa_nil)))))) pe_int (fun _ _ => rfl)))
      (pss_cons (ps_if (PW.pt (pw_or (pt_not (pt_val (pe_df G_l_same (hr.mono (by decide)) (by rfl) (pa_cons (pe_df G_l_least_told (hr.mono (by decide)) (by rfl) (pa_cons (pv 13) (pa_cons (pv 4) (pa_cons (pv 7) (pa_cons (pv 8) (pa_cons (pv 9) pa_nil)))))) (pa_cons (pv 15) pa_nil))))) (pw_or1 (pt_cmpR (op_neU hr) (pv 13) (pv 10) (nomark _))))) (pss_one (ps_ret pe_bl)) pss_nil)
      (pss_cons (ps_set (i := 15) sc_law.nd rfl (by first | exact Or.inl rfl | exact Or.inr rfl) (pe_ix ix_seq (pe_df G_l_stretches (hr.mono (by decide)) (by rfl) (pa_cons (pv 10) (pa_cons pe_int (pa_cons (pv 7) (pa_cons (pv 8) (pa_cons (pv 9) pa_nil)))))) pe_int (fun _ _ => rfl)))
      (pss_cons (ps_if (pt_not (pt_val (pe_df G_l_same (hr.mono (by decide)) (by rfl) (pa_cons (pe_df G_l_first_told (hr.mono (by decide)) (by rfl) (pa_cons (pv 13) (pa_cons (pv 7) (pa_cons (pv 8) (pa_cons (pv 9) pa_nil))))) (pa_cons (pv 15) pa_nil))))) (pss_one (ps_ret pe_bl)) pss_nil)
      (pss_one (ps_ret (pe_df G_l_same (hr.mono (by decide)) (by rfl) (pa_cons (pe_df G_l_least_told (hr.mono (by decide)) (by rfl) (pa_cons (pe_callTy call_listU (by rfl) T.f_list (by decide +kernel) (pa_cons (pv 3) pa_nil)) (pa_cons (pv 4) (pa_cons (pv 7) (pa_cons (pv 8) (pa_cons (pv 9) pa_nil)))))) (pa_cons (pv 11) pa_nil)))))))))))))))))))))))))))))))))
end
end Fh

set_option Elab.async false
set_option linter.all false
set_option maxHeartbeats 4000000
namespace Fh
/-! ### the mathematics of long rows -/
def per (p : List Int) (k : Nat) : Int := p.getD (k % p.length) 0
/-- the hands of j + 1 people from a on -/
def hs (p : List Int) (a : Nat) : Nat → Int
  | 0 => per p a
  | j + 1 => hs p a j + per p (a + j + 1)
theorem per_mod (p : List Int) (k : Nat) : per p (k % p.length) = per p k := by unfold per; rw [Nat.mod_mod]
theorem per_add (p : List Int) (a j : Nat) : per p (a % p.length + j) = per p (a + j) := by
  unfold per; rw [Nat.mod_add_mod]
theorem hs_mod (p : List Int) (a : Nat) : ∀ j, hs p (a % p.length) j = hs p a j
  | 0 => per_mod p a
  | j + 1 => by
    show hs p (a % p.length) j + per p (a % p.length + j + 1) = hs p a j + per p (a + j + 1)
    rw [hs_mod p a j, Nat.add_assoc, per_add, Nat.add_assoc]
theorem per_pos {p : List Int} (h1 : ∀ x ∈ p, 1 ≤ x) (h0 : 0 < p.length) (k : Nat) : 1 ≤ per p k := by
  unfold per
  have hk : k % p.length < p.length := Nat.mod_lt _ h0
  rw [List.getD_eq_getElem?_getD, List.getElem?_eq_getElem hk]
  exact h1 _ (List.getElem_mem hk)
theorem hs_pos {p : List Int} (h1 : ∀ x ∈ p, 1 ≤ x) (h0 : 0 < p.length) (a : Nat) : ∀ j : Nat, (j : Int) + 1 ≤ hs p a j
  | 0 => by have := per_pos h1 h0 a; simpa [hs] using this
  | j + 1 => by
    have h2 := hs_pos h1 h0 a j
    have h3 := per_pos h1 h0 (a + j + 1)
    simp only [hs]
    omega
/-- people a to a + j, full -/
def Wn (p : List Int) (f b R : Int) (a j : Nat) (v : Int) : Prop := 1 ≤ j ∧ v = hs p a j ∧ per p a ≤ f ∧ per p (a + j) ≤ b ∧ v ≤ R
theorem Wn.mod {p : List Int} {f b R : Int} {a j : Nat} {v : Int} (h : Wn p f b R a j v) : Wn p f b R (a % p.length) j v := by
  obtain ⟨h1, h2, h3, h4, h5⟩ := h
  exact ⟨h1, by rw [hs_mod]; exact h2, by rw [per_mod]; exact h3, by rw [per_add]; exact h4, h5⟩
def MinIs (S : Int → Prop) : Option Int → Prop
  | none => ∀ v, ¬ S v
  | some m => S m ∧ ∀ w, S w → m ≤ w
theorem MinIs.uniq {S : Int → Prop} : ∀ {a b : Option Int}, MinIs S a → MinIs S b → a = b
  | none, none, _, _ => rfl
  | none, some m, h, g => absurd g.1 (h m)
  | some m, none, h, g => absurd h.1 (g m)
  | some m, some k, h, g => by rw [Int.le_antisymm (h.2 k g.1) (g.2 m h.1)]
open Classical in
noncomputable def minOf (S : Int → Prop) : Option Int := if h : ∃ o, MinIs S o then Classical.choose h else none
theorem MinIs.eq {S : Int → Prop} {o : Option Int} (h : MinIs S o) : minOf S = o := by
  unfold minOf
  rw [dif_pos ⟨o, h⟩]
  exact (Classical.choose_spec (⟨o, h⟩ : ∃ o, MinIs S o)).uniq h
theorem MinIs.congr {S S' : Int → Prop} (h : ∀ v, S v ↔ S' v) : ∀ {o : Option Int}, MinIs S o → MinIs S' o
  | none, q => fun v z => q v ((h v).mpr z)
  | some m, q => ⟨(h m).mp q.1, fun w z => q.2 w ((h w).mpr z)⟩
/-- one more -/
def mins (t : Int) : Option Int → Int
  | none => t
  | some m => if t < m then t else m
theorem MinIs.more {S : Int → Prop} {t : Int} : ∀ {o : Option Int}, MinIs S o → MinIs (fun v => S v ∨ v = t) (some (mins t o))
  | none, q => ⟨.inr rfl, fun w z => z.elim (fun z => absurd z (q w)) fun z => by rw [z]; exact Int.le_refl _⟩
  | some m, q => by
    show (fun v => S v ∨ v = t) (if t < m then t else m) ∧ _
    by_cases h : t < m
    · rw [if_pos h]
      refine ⟨.inr rfl, fun w z => ?_⟩
      show (if t < m then t else m) ≤ w
      rw [if_pos h]
      rcases z with z | z
      · have := q.2 w z; omega
      · omega
    · rw [if_neg h]
      refine ⟨.inl q.1, fun w z => ?_⟩
      show (if t < m then t else m) ≤ w
      rw [if_neg h]
      rcases z with z | z
      · exact q.2 w z
      · omega
theorem minIs_list : ∀ (l : List Int), ∃ o, MinIs (fun v => v ∈ l) o
  | [] => ⟨none, fun v h => nomatch h⟩
  | x :: l => by
    obtain ⟨o, h⟩ := minIs_list l
    exact ⟨_, MinIs.congr (fun v => by simp [or_comm]) (h.more (t := x))⟩
def SW (p : List Int) (many f b R : Int) (v : Int) : Prop := ∃ a j : Nat, ((a + j : Nat) : Int) < many ∧ Wn p f b R a j v
def NW (p : List Int) (f b R : Int) (v : Int) : Prop := ∃ (a j : Nat) (u : Int), Wn p f b R a j u ∧ v = ((a + j : Nat) : Int) + 1
/-- what full_stretches finds with first = a -/
def inn (p : List Int) (f b R : Int) (a : Nat) (cnt : Nat) : List (Int × Int) :=
  (List.range cnt).filterMap fun i => if per p a ≤ f ∧ per p (a + (i + 1)) ≤ b ∧ hs p a (i + 1) ≤ R then some (((a + (i + 1) : Nat) : Int), hs p a (i + 1)) else none
def cntOf (many R : Int) (a : Nat) : Nat := (min many ((a : Nat) + R) - ((a : Nat) + 1)).toNat
def fullL (p : List Int) (many f b R : Int) (n : Nat) : List (Int × Int) := (List.range n).flatMap fun a => inn p f b R a (cntOf many R a)
theorem inn_succ (p : List Int) (f b R : Int) (a i : Nat) : inn p f b R a (i + 1) = inn p f b R a i ++ (if per p a ≤ f ∧ per p (a + (i + 1)) ≤ b ∧ hs p a (i + 1) ≤ R then [(((a + (i + 1) : Nat) : Int), hs p a (i + 1))] else []) := by
  unfold inn
  rw [List.range_succ, List.filterMap_append]
  congr 1
  simp only [List.filterMap_cons, List.filterMap_nil]
  split <;> rename_i h <;> split at h <;> simp_all
theorem inn_len (p : List Int) (f b R : Int) (a i : Nat) : (inn p f b R a i).length ≤ i := by
  unfold inn
  have := List.length_filterMap_le (fun i => if per p a ≤ f ∧ per p (a + (i + 1)) ≤ b ∧ hs p a (i + 1) ≤ R then some (((a + (i + 1) : Nat) : Int), hs p a (i + 1)) else none) (List.range i)
  simpa using this
theorem fullL_succ (p : List Int) (many f b R : Int) (n : Nat) : fullL p many f b R (n + 1) = fullL p many f b R n ++ inn p f b R n (cntOf many R n) := by
  unfold fullL
  rw [List.range_succ, List.flatMap_append]
  simp
theorem fullL_len {p : List Int} {many f b R : Int} (hR : R ≤ 1000) : ∀ n, (fullL p many f b R n).length ≤ n * 1000
  | 0 => Nat.le_refl _
  | n + 1 => by
    rw [fullL_succ, List.length_append]
    have h1 := fullL_len (p := p) (many := many) (f := f) (b := b) (R := R) hR n
    have h2 := inn_len p f b R n (cntOf many R n)
    have h3 : cntOf many R n ≤ 1000 := by unfold cntOf; omega
    omega
theorem mem_inn {p : List Int} {f b R : Int} {a cnt : Nat} {x : Int × Int} : x ∈ inn p f b R a cnt ↔ ∃ j, 1 ≤ j ∧ j ≤ cnt ∧ x.1 = ((a + j : Nat) : Int) ∧ Wn p f b R a j x.2 := by
  unfold inn
  rw [List.mem_filterMap]
  constructor
  · rintro ⟨i, hi, h⟩
    rw [List.mem_range] at hi
    split at h
    · rename_i hc
      cases h
      exact ⟨i + 1, by omega, hi, rfl, by omega, rfl, hc.1, hc.2.1, hc.2.2⟩
    · cases h
  · rintro ⟨j, h1, h2, h3, h4, h5, h6, h7, h8⟩
    refine ⟨j - 1, by rw [List.mem_range]; omega, ?_⟩
    have e : j - 1 + 1 = j := by omega
    rw [e, if_pos ⟨h6, h7, h5 ▸ h8⟩]
    obtain ⟨x1, x2⟩ := x
    simp only at h3 h5
    rw [h3, h5]
theorem mem_fullL {p : List Int} {many f b R : Int} {n : Nat} {x : Int × Int} : x ∈ fullL p many f b R n ↔ ∃ a, a < n ∧ x ∈ inn p f b R a (cntOf many R a) := by
  unfold fullL
  simp [List.mem_flatMap]
def firsts (p : List Int) (many : Int) : Nat := (min (p.length : Int) (many - 1)).toNat
section
variable {p : List Int} {many f b R : Int}
theorem full_iff (h1 : ∀ x ∈ p, 1 ≤ x) (h0 : 0 < p.length) (v : Int) : (∃ x ∈ fullL p many f b R (firsts p many), x.2 = v) ↔ SW p many f b R v := by
  constructor
  · rintro ⟨x, hx, rfl⟩
    obtain ⟨a, ha, hi⟩ := mem_fullL.mp hx
    obtain ⟨j, hj1, hj2, _, hw⟩ := mem_inn.mp hi
    refine ⟨a, j, ?_, hw⟩
    unfold cntOf at hj2
    omega
  · rintro ⟨a, j, hm, hw⟩
    have hw2 := hw.mod
    have hl := hs_pos h1 h0 (a % p.length) j
    obtain ⟨q1, q2, _, _, q5⟩ := id hw2
    have hlt := Nat.mod_lt a h0
    have hle := Nat.mod_le a p.length
    refine ⟨(((a % p.length + j : Nat) : Int), v), mem_fullL.mpr ⟨a % p.length, ?_, mem_inn.mpr ⟨j, q1, ?_, rfl, hw2⟩⟩, rfl⟩
    · unfold firsts; omega
    · unfold cntOf; omega
theorem first_iff (h1 : ∀ x ∈ p, 1 ≤ x) (h0 : 0 < p.length) : (∀ x ∈ fullL p ((p.length : Int) + R) f b R (firsts p ((p.length : Int) + R)), NW p f b R (x.1 + 1)) ∧
    ∀ v, NW p f b R v → ∃ x ∈ fullL p ((p.length : Int) + R) f b R (firsts p ((p.length : Int) + R)), x.1 + 1 ≤ v := by
  constructor
  · intro x hx
    obtain ⟨a, ha, hi⟩ := mem_fullL.mp hx
    obtain ⟨j, hj1, hj2, e, hw⟩ := mem_inn.mp hi
    exact ⟨a, j, x.2, hw, by rw [e]⟩
  · rintro v ⟨a, j, u, hw, rfl⟩
    have hw2 := hw.mod
    have hl := hs_pos h1 h0 (a % p.length) j
    obtain ⟨q1, q2, _, _, q5⟩ := id hw2
    have hlt := Nat.mod_lt a h0
    have hle := Nat.mod_le a p.length
    refine ⟨(((a % p.length + j : Nat) : Int), u), mem_fullL.mpr ⟨a % p.length, ?_, mem_inn.mpr ⟨j, q1, ?_, rfl, hw2⟩⟩, by show ((a % p.length + j : Nat) : Int) + 1 ≤ _; omega⟩
    · unfold firsts; omega
    · unfold cntOf; omega
theorem map_min {l : List (Int × Int)} {g : Int × Int → Int} : ∃ o, MinIs (fun v => v ∈ l.map g) o := minIs_list _
end
end Fh

set_option Elab.async false
set_option linter.all false
set_option maxRecDepth 100000
set_option maxHeartbeats 4000000
namespace Fh
open PySem PySem.Spec PyProof.Rows L2
local macro_rules | `(tactic| walk_at "side") => `(tactic| first
  | assumption | decide | omega
  | exact ⟨by decide, by decide⟩ | exact ⟨by omega, by omega⟩ | exact Or.inl ⟨by omega, by omega⟩ | exact Or.inr ⟨by omega, by omega⟩
  | exact ⟨by decide, by decide, by decide⟩ | exact sz (by simp) | exact szl (by simp) | rfl)
local macro_rules | `(tactic| walk_at "ev") => `(tactic| first
  | exact ev_int
  | exact ev_bl
  | exact ev_str
  | exact ev_non
  | exact ev_dat rfl
  | exact ev_bor rfl
  | exact (ev_bor rfl).nw
  | exact ev_own rfl
  | exact (ev_bor rfl).sc
  | exact (ev_bor rfl).scB
  | exact (ev_bor rfl).scS
  | exact (ev_bor rfl).scN
  | (apply ev_addI; walk_at "ev"; walk_at "ev")
  | (apply ev_subI; walk_at "ev"; walk_at "ev")
  | (apply ev_ltI; walk_at "ev"; walk_at "ev")
  | (apply ev_leI; walk_at "ev"; walk_at "ev")
  | (apply ev_gtI; walk_at "ev"; walk_at "ev")
  | (apply ev_geI; walk_at "ev"; walk_at "ev")
  | (apply ev_eqI; walk_at "ev"; walk_at "ev")
  | (apply ev_neI; walk_at "ev"; walk_at "ev")
  | (apply ev_eqS; walk_at "ev"; walk_at "ev")
  | (apply ev_neS; walk_at "ev"; walk_at "ev")
  | (apply ev_eqL; walk_at "ev"; walk_at "ev")
  | (apply ev_neL; walk_at "ev"; walk_at "ev")
  | (apply ev_max2; walk_at "ev"; walk_at "ev")
  | (apply ev_min2; walk_at "ev"; walk_at "ev")
  | (apply ev_mulI; walk_at "ev"; walk_at "ev"; walk_at "side")
  | (apply ev_divI; walk_at "ev"; walk_at "ev"; walk_at "side")
  | (apply ev_modI; walk_at "ev"; walk_at "ev"; walk_at "side")
  | (apply ev_powI; walk_at "ev"; walk_at "ev"; walk_at "side")
  | (apply ev_negI; walk_at "ev")
  | (apply ev_abs; walk_at "ev")
  | (apply ev_intc; walk_at "ev")
  | (apply ev_lenM; walk_at "ev")
  | (apply ev_lenTM; walk_at "ev")
  | (apply ev_len; walk_at "ev")
  | (apply ev_lenT; walk_at "ev")
  | (apply ev_sum; walk_at "ev")
  | (apply ev_notV; walk_at "ev")
  | (apply ev_tupI; walk_at "ev")
  | (apply ev_is; walk_at "ev"; walk_at "ev"; rfl)
  | (apply ev_isN; walk_at "ev"; walk_at "ev"; rfl)
  | (apply ev_ixI; walk_at "ev"; walk_at "ev"; walk_at "side"; walk_at "side")
  | (apply ev_ixIT; walk_at "ev"; walk_at "ev"; walk_at "side"; walk_at "side")
  | (apply ev_andV; walk_at "ev"; (intro _; walk_at "ev"))
  | (apply ev_orV; walk_at "ev"; (intro _; walk_at "ev"))
  | (apply ev_tup; walk_at "ed"; walk_at "side")
  | exact ev_nil
  | (apply ev_lst; walk_at "ed"; walk_at "side")
  | (apply ev_isi; walk_at "ev"; rfl; decide +kernel))
local macro_rules | `(tactic| walk_at "ea") => `(tactic| first
  | exact ea_nil
  | (apply ea_cons; walk_at "ev"; walk_at "ea"))
local macro_rules | `(tactic| walk_at "ed") => `(tactic| first
  | exact ed_nil
  | (apply ed_cons; walk_at "ev"; walk_at "ed"))
local macro_rules | `(tactic| walk_at "et") => `(tactic| first
  | exact et_yes
  | (apply et_and; walk_at "et"; (intro _; walk_at "et"))
  | (apply et_or; walk_at "et"; (intro _; walk_at "et"))
  | (apply et_not; walk_at "et")
  | (refine et_test (m := .now) ?_; walk_at "ev")
  | (refine et_B (m := .now) ?_; walk_at "ev"))
local macro_rules | `(tactic| walk_at "asg") => `(tactic| (first
  | (refine run_seq ?_; apply run_asg; walk_at "ev"; dsimp only [List.set])
  | (apply run_asg; walk_at "ev"; dsimp only [List.set])))
def optD : Option Int → D
  | none => .non
  | some i => .int i
theorem optD_pl (o : Option Int) : Pl (optD o) := by cases o <;> exact ⟨0, rfl⟩
theorem optD_shp (o : Option Int) (n : Nat) : shp n (optD o) = true := by cases o <;> cases n <;> rfl
theorem optD_isN (o : Option Int) : isC (optD o) .non = some o.isNone := by cases o <;> rfl
theorem sm_opt (a b : Option Int) : sm (optD a) (optD b) = decide (a = b) := by
  cases a <;> cases b <;> simp [optD, sm]
section
variable {P : Program} {w : World} {K : PySem.W.Frag} {mg : Str → Option Value} {base : Heap}
/-! dishes_together -/
def dt (f b : Int) : Option Int → Int
  | none => f + b
  | some c => min c (f + b)
abbrev spDt (K : PySem.W.Frag) : Sp := SpP K [.dat, .dat, .dat] (fun a : Int × Int × Option Int => [.int a.1, .int a.2.1, optD a.2.2]) (fun _ => True) (fun a => .int (dt a.1 a.2.1 a.2.2))
theorem df_dt (T : Tx K mg) : Df P w K mg base "dishes_together" 1 [] (spDt K) := by
  refine T.d_dishes_together.df sc_dishes_together rfl (by decide) (fun _ _ _ _ _ _ us hl => match us, hl with | [_, _, _], _ => rfl) ?_
  intro f cdv A outer s H E hr
  refine ⟨rd_dishes_together K, tm_dishes_together T hr, ?_⟩
  rintro ⟨x, y, o⟩ _
  unfold rd_dishes_together
  cases o with
  | none =>
    refine run_seq (run_ifT (et_test (m := .now) (by walk_at "ev")) ?_)
    refine run_ret (by walk_at "ev") rfl
  | some c =>
    refine run_seq (run_ifF (et_test (m := .now) (by walk_at "ev")) (run_next ?_))
    refine run_ret (by walk_at "ev") rfl
/-! the drawing helpers -/
theorem df_mixed (T : Tx K mg) : Df P w K mg base "_law_mixed" 1 [] (spMixed K) :=
  T.d_l_mixed.df sc_l_mixed rfl (by decide) (fun _ _ _ _ _ _ us hl => match us, hl with | [_, _], _ => rfl) fun f cdv A outer s H E hr => ⟨rd_l_mixed K, tm_l_mixed T hr, fun a _ => run_mixed a.1 a.2⟩
theorem df_pool (T : Tx K mg) : Df P w K mg base "_law_pool" 2 [] (spPool K) :=
  T.d_l_pool.df sc_l_pool rfl (by decide) (fun _ _ _ _ _ _ us hl => match us, hl with | [_, _], _ => rfl) fun f cdv A outer s H E hr => ⟨rd_l_pool K (spMixed K), tm_l_pool T (df_mixed T) hr, fun a h => run_pool a.1 a.2 h⟩
abbrev spNo (K : PySem.W.Frag) : Sp := SpP K [.now, .now] (fun p : D × D => [p.1, p.2]) (fun _ => False) (fun p => .bl (sm p.1 p.2))
theorem df_no (T : Tx K mg) : Df P w K mg base "_law_same" 0 [] (spNo K) := Df.never T.d_l_same (fun _ h => h) (N := ["actual", "due"]) (fun _ _ _ _ _ _ us hl => match us, hl with | [_, _], _ => rfl)
theorem df_same (T : Tx K mg) : ∀ n : Nat, Df P w K mg base "_law_same" (n + 1) [] (spSame K n)
  | 0 => T.d_l_same.df sc_l_same rfl (by decide) (fun _ _ _ _ _ _ us hl => match us, hl with | [_, _], _ => rfl) fun f cdv A outer s H E hr => ⟨rd_l_same K (spNo K), tm_l_same T (kk := 0) (Nat.zero_le _) (df_no T) hr, fun a h => run_same 0 _ (fun m h => nomatch h) a.1 a.2 h.1 h.2.1 h.2.2⟩
  | n + 1 => T.d_l_same.df sc_l_same rfl (by decide) (fun _ _ _ _ _ _ us hl => match us, hl with | [_, _], _ => rfl) fun f cdv A outer s H E hr => ⟨rd_l_same K (spSame K n), tm_l_same T (kk := n + 1) (Nat.zero_le _) (df_same T n) hr, fun a h => run_same (n + 1) _ (fun m h => by cases h; rfl) a.1 a.2 h.1 h.2.1 h.2.2⟩
end
end Fh

set_option Elab.async false
set_option linter.all false
set_option maxRecDepth 100000
set_option maxHeartbeats 4000000
namespace Fh
open PySem PySem.Spec PyProof.Rows L2
local macro_rules | `(tactic| walk_at "side") => `(tactic| first
  | assumption | decide | omega
  | exact ⟨by decide, by decide⟩ | exact ⟨by omega, by omega⟩ | exact Or.inl ⟨by omega, by omega⟩ | exact Or.inr ⟨by omega, by omega⟩
  | exact ⟨by decide, by decide, by decide⟩ | exact sz (by simp) | exact szl (by simp) | rfl)
local macro_rules | `(tactic| walk_at "ev") => `(tactic| first
  | exact ev_int
  | exact ev_bl
  | exact ev_str
  | exact ev_non
  | exact ev_dat rfl
  | exact ev_bor rfl
  | exact (ev_bor rfl).nw
  | exact ev_own rfl
  | exact (ev_bor rfl).sc
  | exact (ev_bor rfl).scB
  | exact (ev_bor rfl).scS
  | exact (ev_bor rfl).scN
  | (apply ev_addI; walk_at "ev"; walk_at "ev")
  | (apply ev_subI; walk_at "ev"; walk_at "ev")
  | (apply ev_ltI; walk_at "ev"; walk_at "ev")
  | (apply ev_leI; walk_at "ev"; walk_at "ev")
  | (apply ev_gtI; walk_at "ev"; walk_at "ev")
  | (apply ev_geI; walk_at "ev"; walk_at "ev")
  | (apply ev_eqI; walk_at "ev"; walk_at "ev")
  | (apply ev_neI; walk_at "ev"; walk_at "ev")
  | (apply ev_eqS; walk_at "ev"; walk_at "ev")
  | (apply ev_neS; walk_at "ev"; walk_at "ev")
  | (apply ev_eqL; walk_at "ev"; walk_at "ev")
  | (apply ev_neL; walk_at "ev"; walk_at "ev")
  | (apply ev_max2; walk_at "ev"; walk_at "ev")
  | (apply ev_min2; walk_at "ev"; walk_at "ev")
  | (apply ev_mulI; walk_at "ev"; walk_at "ev"; walk_at "side")
  | (apply ev_divI; walk_at "ev"; walk_at "ev"; walk_at "side")
  | (apply ev_modI; walk_at "ev"; walk_at "ev"; walk_at "side")
  | (apply ev_powI; walk_at "ev"; walk_at "ev"; walk_at "side")
  | (apply ev_negI; walk_at "ev")
  | (apply ev_abs; walk_at "ev")
  | (apply ev_intc; walk_at "ev")
  | (apply ev_lenM; walk_at "ev")
  | (apply ev_lenTM; walk_at "ev")
  | (apply ev_len; walk_at "ev")
  | (apply ev_lenT; walk_at "ev")
  | (apply ev_sum; walk_at "ev")
  | (apply ev_notV; walk_at "ev")
  | (apply ev_tupI; walk_at "ev")
  | (apply ev_is; walk_at "ev"; walk_at "ev"; rfl)
  | (apply ev_isN; walk_at "ev"; walk_at "ev"; rfl)
  | (apply ev_ixI; walk_at "ev"; walk_at "ev"; walk_at "side"; walk_at "side")
  | (apply ev_ixIT; walk_at "ev"; walk_at "ev"; walk_at "side"; walk_at "side")
  | (apply ev_andV; walk_at "ev"; (intro _; walk_at "ev"))
  | (apply ev_orV; walk_at "ev"; (intro _; walk_at "ev"))
  | (apply ev_tup; walk_at "ed"; walk_at "side")
  | exact ev_nil
  | (apply ev_lst; walk_at "ed"; walk_at "side")
  | (apply ev_isi; walk_at "ev"; rfl; decide +kernel))
local macro_rules | `(tactic| walk_at "ea") => `(tactic| first
  | exact ea_nil
  | (apply ea_cons; walk_at "ev"; walk_at "ea"))
local macro_rules | `(tactic| walk_at "ed") => `(tactic| first
  | exact ed_nil
  | (apply ed_cons; walk_at "ev"; walk_at "ed"))
local macro_rules | `(tactic| walk_at "et") => `(tactic| first
  | exact et_yes
  | (apply et_and; walk_at "et"; (intro _; walk_at "et"))
  | (apply et_or; walk_at "et"; (intro _; walk_at "et"))
  | (apply et_not; walk_at "et")
  | (refine et_test (m := .now) ?_; walk_at "ev")
  | (refine et_B (m := .now) ?_; walk_at "ev"))
local macro_rules | `(tactic| walk_at "asg") => `(tactic| (first
  | (refine run_seq ?_; apply run_asg; walk_at "ev"; dsimp only [List.set])
  | (apply run_asg; walk_at "ev"; dsimp only [List.set])))
/-! the pattern: a list or a tuple -/
def PatD (kd : Bool) (p : List Int) : D := if kd then .tup (p.map D.int) else .lst (p.map D.int)
section
variable {P : Program} {w : World} {K : PySem.W.Frag} {mg : Str → Option Value} {base : Heap} {kd : Bool} {p : List Int} {e : En} {m : Md} {tb : TE} {k : Int} {i : Nat}
theorem ev_patL {ta : TE} (ha : Ev K .now ta e (PatD kd p)) : Ev K m (tCB (rLenU K) (tCons ta tNil)) e (.int (p.length : Nat)) := by
  cases kd with
  | true => exact ev_lenTM (f := D.int) ha
  | false => exact ev_lenM (f := D.int) ha
theorem ev_patI {ta : TE} (ha : Ev K .now ta e (PatD kd p)) (hk : Ev K .now tb e (.int k)) (h0 : 0 ≤ k) (h1 : k < p.length) : Ev K m (tOp (rIx K) ta tb) e (.int (nth p k)) := by
  cases kd with
  | true => exact ev_ixIT ha hk h0 h1
  | false => exact ev_ixI ha hk h0 h1
theorem nth_per (k : Nat) (h0 : 0 < p.length) : nth p (((k : Nat) : Int) % (p.length : Nat)) = per p k := by
  unfold nth per
  have e : (((k : Nat) : Int) % (p.length : Nat)).toNat = k % p.length := by omega
  rw [e]
theorem nth_per' {k : Int} {n : Nat} (h0 : 0 < p.length) (h : k = (n : Nat)) (hn : n < p.length) : nth p k = per p n := by
  unfold nth per
  rw [h, Nat.mod_eq_of_lt hn]
  rfl
def pairD (x : Int × Int) : D := .tup [.int x.1, .int x.2]
abbrev spFull (K : PySem.W.Frag) : Sp := SpP K [.now, .dat, .dat, .dat, .dat] (fun a : (Bool × List Int) × Int × Int × Int × Option Int => [PatD a.1.1 a.1.2, .int a.2.1, .int a.2.2.1, .int a.2.2.2.1, optD a.2.2.2.2])
  (fun a => 0 < a.1.2.length ∧ a.1.2.length ≤ 6 ∧ 1 ≤ a.2.1 ∧ -1000 ≤ dt a.2.2.1 a.2.2.2.1 a.2.2.2.2 ∧ dt a.2.2.1 a.2.2.2.1 a.2.2.2.2 ≤ 1000)
  (fun a => .lst ((fullL a.1.2 a.2.1 a.2.2.1 a.2.2.2.1 (dt a.2.2.1 a.2.2.2.1 a.2.2.2.2) (firsts a.1.2 a.2.1)).map pairD))
theorem df_full (T : Tx K mg) : Df P w K mg base "full_stretches" 2 [] (spFull K) := by
  refine T.d_full_stretches.df sc_full_stretches rfl (by decide) (fun _ _ _ _ _ _ us hl => match us, hl with | [_, _, _, _, _], _ => rfl) ?_
  intro f cdv A outer s H E hr
  refine ⟨rd_full_stretches K (spDt K), tm_full_stretches T (df_dt T) hr, ?_⟩
  rintro ⟨⟨kd, p⟩, many, f, b, o⟩ ⟨h0, h6, hm, hR1, hR2⟩
  simp only at h0 h6 hm hR1 hR2
  unfold rd_full_stretches
  show Run K E _ [.bor (PatD kd p), .dat (.int many), .dat (.int f), .dat (.int b), .dat (optD o), .no, .no, .no, .no, .no, .no] _
  refine run_seq (run_asg (d := .int (dt f b o)) (ev_call (out := fun a : Int × Int × Option Int => D.int (dt a.1 a.2.1 a.2.2)) (f, b, o) trivial (by walk_at "ea")) ?_)
  dsimp only [List.set]
  obtain ⟨R, hR⟩ : ∃ R, R = dt f b o := ⟨_, rfl⟩
  simp only [← hR] at hR1 hR2 ⊢
  refine run_seq (run_asgO evo_nil ?_)
  dsimp only [List.set]
  have hfst : (min ((p.length : Nat) : Int) (many - 1)).toNat = firsts p many := rfl
  refine run_seq (run_for (m := .dat) (ei_rng1 (m := .now) (ea_cons (ev_min2 (ev_patL (ev_bor rfl).nw) (by walk_at "ev")) ea_nil) (by omega) (by omega))
    (fun a e => ∃ s7 s8 s9 s10 : Sl, e = [.bor (PatD kd p), .dat (.int many), .dat (.int f), .dat (.int b), .dat (optD o), .dat (.int R), .own (.lst ((fullL p many f b R a).map pairD)), s7, s8, s9, s10]) ⟨.no, .no, .no, .no, rfl⟩ ?_ ?_)
  · rintro a _ _ hx ⟨s7, s8, s9, s10, rfl⟩
    obtain ⟨ha, rfl⟩ := get_rg hx
    rw [hfst] at ha
    have ha2 : a < p.length := by unfold firsts at ha; omega
    refine ⟨_, [7], tg_dat, ?_⟩
    dsimp only [List.set]
    have hix : ∀ s8 s9 s10 : Sl, Ev K .dat (tOp (rIx K) (tVar 0) (tVar 7)) [.bor (PatD kd p), .dat (.int many), .dat (.int f), .dat (.int b), .dat (optD o), .dat (.int R), s8, .dat (.int (0 + (a : Nat))), s9, s10] (.int (per p a)) := fun s8 s9 s10 =>
      (ev_patI (ev_bor rfl).nw (ev_dat rfl) (by omega) (by omega)).is (by rw [nth_per' h0 (by omega) ha2])
    refine run_seq (run_asg (d := .int (hs p a 0)) ?_ ?_)
    · exact (ev_patI (ev_bor rfl).nw (ev_dat rfl) (by omega) (by omega)).is (by rw [nth_per' h0 (by omega) ha2]; rfl)
    dsimp only [List.set]
    refine run_for (m := .dat) (ei_rng2 (m1 := .now) (m2 := .now) (ea_cons (by walk_at "ev") (ea_cons (ev_min2 (by walk_at "ev") (by walk_at "ev")) ea_nil)) ⟨by omega, by omega, by omega, by omega⟩)
      (fun i e => ∃ s9 s10 : Sl, e = [.bor (PatD kd p), .dat (.int many), .dat (.int f), .dat (.int b), .dat (optD o), .dat (.int R), .own (.lst ((fullL p many f b R a ++ inn p f b R a i).map pairD)), .dat (.int (0 + (a : Nat))), .dat (.int (hs p a i)), s9, s10]) ⟨s9, s10, by simp [inn, hs]⟩ ?_ ?_
    · rintro i _ _ hx ⟨s9, s10, rfl⟩
      obtain ⟨hi, rfl⟩ := get_rg hx
      refine ⟨_, [9], tg_dat, ?_⟩
      dsimp only [List.set]
      refine run_seq (run_asg (d := .int (per p (a + (i + 1)))) ?_ ?_)
      · refine (ev_patI (k := (0 + (a : Nat) + 1 + (i : Nat)) % (p.length : Nat)) (ev_bor rfl).nw (ev_modI (ev_dat rfl) (ev_patL (ev_bor rfl).nw) (by omega)) (Int.emod_nonneg _ (by omega)) (Int.emod_lt_of_pos _ (by omega))).is ?_
        rw [show (0 + (a : Nat) + 1 + (i : Nat) : Int) = ((a + (i + 1) : Nat) : Int) by omega, nth_per _ h0]
      dsimp only [List.set]
      refine run_seq (run_asg (d := .int (hs p a (i + 1))) ?_ ?_)
      · exact (ev_addI (ev_dat rfl) (ev_dat rfl)).is rfl
      dsimp only [List.set]
      have hlen : ((fullL p many f b R a ++ inn p f b R a i).map pairD).length < sizeLine := by
        rw [List.length_map, List.length_append]
        have h1 := fullL_len (p := p) (many := many) (f := f) (b := b) hR2 a
        have h2 := inn_len p f b R a i
        exact szl (by omega)
      refine run_if (et_and (b := decide (per p a ≤ f)) (et_test (m := .now) (ev_leI ?_ (ev_dat rfl))) fun _ => et_and (b := decide (per p (a + (i + 1)) ≤ b)) (c := decide (hs p a (i + 1) ≤ R)) (by walk_at "et") fun _ => by walk_at "et") (fun h => ?_) (fun h => run_next ?_)
      · exact (ev_patI (ev_bor rfl).nw (ev_dat rfl) (by omega) (by omega)).is (by rw [nth_per' h0 (by omega) ha2])
      · have hc : per p a ≤ f ∧ per p (a + (i + 1)) ≤ b ∧ hs p a (i + 1) ≤ R := by simpa using h
        refine run_app (d := pairD (((a + (i + 1) : Nat) : Int), hs p a (i + 1))) rfl ?_ hlen ?_
        · exact (ev_tup (ed_cons (ev_dat rfl) (ed_cons (ev_dat rfl) ed_nil)) (sz (by simp))).is (by show D.tup _ = D.tup _; rw [show (0 + (a : Nat) + 1 + (i : Nat) : Int) = ((a + (i + 1) : Nat) : Int) by omega])
        · dsimp only [List.set]
          exact ⟨_, _, by rw [inn_succ, if_pos hc, ← List.append_assoc, List.map_append (l₂ := [_])]; rfl⟩
      · have hc : ¬ (per p a ≤ f ∧ per p (a + (i + 1)) ≤ b ∧ hs p a (i + 1) ≤ R) := by simpa using h
        exact ⟨_, _, by rw [inn_succ, if_neg hc, List.append_nil]⟩
    · rintro _ ⟨s9, s10, rfl⟩
      rw [rgD_len]
      have e : (min many (0 + (a : Nat) + R) - (0 + (a : Nat) + 1)).toNat = cntOf many R a := by unfold cntOf; rw [Int.zero_add]
      rw [e, ← fullL_succ]
      exact ⟨_, _, _, _, rfl⟩
  · rintro _ ⟨s7, s8, s9, s10, rfl⟩
    rw [rgD_len, hfst]
    exact run_retO (o := .lst _) rfl rfl
end
end Fh

set_option Elab.async false
set_option linter.all false
set_option maxRecDepth 100000
set_option maxHeartbeats 4000000
namespace Fh
open PySem PySem.Spec PyProof.Rows L2
local macro_rules | `(tactic| walk_at "side") => `(tactic| first
  | assumption | decide | omega
  | exact ⟨by decide, by decide⟩ | exact ⟨by omega, by omega⟩ | exact Or.inl ⟨by omega, by omega⟩ | exact Or.inr ⟨by omega, by omega⟩
  | exact ⟨by decide, by decide, by decide⟩ | exact sz (by simp) | exact szl (by simp) | rfl)
local macro_rules | `(tactic| walk_at "ev") => `(tactic| first
  | exact ev_int
  | exact ev_bl
  | exact ev_str
  | exact ev_non
  | exact ev_dat rfl
  | exact ev_bor rfl
  | exact (ev_bor rfl).nw
  | exact ev_own rfl
  | exact (ev_bor rfl).sc
  | exact (ev_bor rfl).scB
  | exact (ev_bor rfl).scS
  | exact (ev_bor rfl).scN
  | (apply ev_addI; walk_at "ev"; walk_at "ev")
  | (apply ev_subI; walk_at "ev"; walk_at "ev")
  | (apply ev_ltI; walk_at "ev"; walk_at "ev")
  | (apply ev_leI; walk_at "ev"; walk_at "ev")
  | (apply ev_gtI; walk_at "ev"; walk_at "ev")
  | (apply ev_geI; walk_at "ev"; walk_at "ev")
  | (apply ev_eqI; walk_at "ev"; walk_at "ev")
  | (apply ev_neI; walk_at "ev"; walk_at "ev")
  | (apply ev_eqS; walk_at "ev"; walk_at "ev")
  | (apply ev_neS; walk_at "ev"; walk_at "ev")
  | (apply ev_eqL; walk_at "ev"; walk_at "ev")
  | (apply ev_neL; walk_at "ev"; walk_at "ev")
  | (apply ev_max2; walk_at "ev"; walk_at "ev")
  | (apply ev_min2; walk_at "ev"; walk_at "ev")
  | (apply ev_mulI; walk_at "ev"; walk_at "ev"; walk_at "side")
  | (apply ev_divI; walk_at "ev"; walk_at "ev"; walk_at "side")
  | (apply ev_modI; walk_at "ev"; walk_at "ev"; walk_at "side")
  | (apply ev_powI; walk_at "ev"; walk_at "ev"; walk_at "side")
  | (apply ev_negI; walk_at "ev")
  | (apply ev_abs; walk_at "ev")
  | (apply ev_intc; walk_at "ev")
  | (apply ev_lenM; walk_at "ev")
  | (apply ev_lenTM; walk_at "ev")
  | (apply ev_len; walk_at "ev")
  | (apply ev_lenT; walk_at "ev")
  | (apply ev_sum; walk_at "ev")
  | (apply ev_notV; walk_at "ev")
  | (apply ev_tupI; walk_at "ev")
  | (apply ev_is; walk_at "ev"; walk_at "ev"; rfl)
  | (apply ev_isN; walk_at "ev"; walk_at "ev"; rfl)
  | (apply ev_ixI; walk_at "ev"; walk_at "ev"; walk_at "side"; walk_at "side")
  | (apply ev_ixIT; walk_at "ev"; walk_at "ev"; walk_at "side"; walk_at "side")
  | (apply ev_andV; walk_at "ev"; (intro _; walk_at "ev"))
  | (apply ev_orV; walk_at "ev"; (intro _; walk_at "ev"))
  | (apply ev_tup; walk_at "ed"; walk_at "side")
  | exact ev_nil
  | (apply ev_lst; walk_at "ed"; walk_at "side")
  | (apply ev_isi; walk_at "ev"; rfl; decide +kernel))
local macro_rules | `(tactic| walk_at "ea") => `(tactic| first
  | exact ea_nil
  | (apply ea_cons; walk_at "ev"; walk_at "ea"))
local macro_rules | `(tactic| walk_at "ed") => `(tactic| first
  | exact ed_nil
  | (apply ed_cons; walk_at "ev"; walk_at "ed"))
local macro_rules | `(tactic| walk_at "et") => `(tactic| first
  | exact et_yes
  | (apply et_and; walk_at "et"; (intro _; walk_at "et"))
  | (apply et_or; walk_at "et"; (intro _; walk_at "et"))
  | (apply et_not; walk_at "et")
  | (refine et_test (m := .now) ?_; walk_at "ev")
  | (refine et_B (m := .now) ?_; walk_at "ev"))
local macro_rules | `(tactic| walk_at "asg") => `(tactic| (first
  | (refine run_seq ?_; apply run_asg; walk_at "ev"; dsimp only [List.set])
  | (apply run_asg; walk_at "ev"; dsimp only [List.set])))
section
variable {P : Program} {w : World} {K : PySem.W.Frag} {mg : Str → Option Value} {base : Heap} {kd : Bool} {p : List Int} {e : En} {m : Md} {tb : TE} {k : Int} {i : Nat}
def okP (p : List Int) : Prop := (∀ x ∈ p, 1 ≤ x) ∧ 0 < p.length ∧ p.length ≤ 6
def okR (R : Int) : Prop := 0 ≤ R ∧ R ≤ 48
theorem fm_snd (L : List (Int × Int)) : (L.map pairD).filterMap (fun d => match d with | .tup [_, .int h] => some (D.int h) | _ => none) = (L.map (·.2)).map D.int := by
  induction L with
  | nil => rfl
  | cons x L ih => simp only [List.map_cons, List.filterMap_cons, pairD, ih]
theorem fm_fst (L : List (Int × Int)) : (L.map pairD).filterMap (fun d => match d with | .tup [.int h, _] => some (D.int h) | _ => none) = (L.map (·.1)).map D.int := by
  induction L with
  | nil => rfl
  | cons x L ih => simp only [List.map_cons, List.filterMap_cons, pairD, ih]
theorem get_map {α : Type} {f : α → D} {as : List α} {i : Nat} {d : D} (h : (as.map f)[i]? = some d) : ∃ a, as[i]? = some a ∧ d = f a := by
  rw [List.getElem?_map] at h
  cases q : as[i]? with
  | none => rw [q] at h; cases h
  | some n => rw [q] at h; exact ⟨n, rfl, (Option.some.inj h).symm⟩
abbrev spLeast (K : PySem.W.Frag) : Sp := SpP K [.now, .dat, .dat, .dat, .dat] (fun a : (Bool × List Int) × Int × Int × Int × Option Int => [PatD a.1.1 a.1.2, .int a.2.1, .int a.2.2.1, .int a.2.2.2.1, optD a.2.2.2.2])
  (fun a => okP a.1.2 ∧ 1 ≤ a.2.1 ∧ okR (dt a.2.2.1 a.2.2.2.1 a.2.2.2.2)) (fun a => optD (minOf (SW a.1.2 a.2.1 a.2.2.1 a.2.2.2.1 (dt a.2.2.1 a.2.2.2.1 a.2.2.2.2))))
theorem run_least (a : (Bool × List Int) × Int × Int × Int × Option Int) (h : okP a.1.2 ∧ 1 ≤ a.2.1 ∧ okR (dt a.2.2.1 a.2.2.2.1 a.2.2.2.2)) {E : XK} :
    Run K E (rd_row_least K (spFull K)) (En0 [.now, .dat, .dat, .dat, .dat] [PatD a.1.1 a.1.2, .int a.2.1, .int a.2.2.1, .int a.2.2.2.1, optD a.2.2.2.2] 3) { nx := fun _ => D.non = optD (minOf (SW a.1.2 a.2.1 a.2.2.1 a.2.2.2.1 (dt a.2.2.1 a.2.2.2.1 a.2.2.2.2))), rt := fun d => d = optD (minOf (SW a.1.2 a.2.1 a.2.2.1 a.2.2.2.1 (dt a.2.2.1 a.2.2.2.1 a.2.2.2.2))) } := by
  obtain ⟨⟨kd, p⟩, many, f, b, o⟩ := a
  obtain ⟨⟨h1, h0, h6⟩, hm, hR0, hR1⟩ := h
  simp only at h1 h0 h6 hm hR0 hR1 ⊢
  unfold rd_row_least
  show Run K E _ [.bor (PatD kd p), .dat (.int many), .dat (.int f), .dat (.int b), .dat (optD o), .no, .no, .no] _
  obtain ⟨L, hL⟩ : ∃ L, L = fullL p many f b (dt f b o) (firsts p many) := ⟨_, rfl⟩
  have hiff := full_iff (many := many) (f := f) (b := b) (R := dt f b o) h1 h0
  have hlen := fullL_len (p := p) (many := many) (f := f) (b := b) (R := dt f b o) (by omega) (firsts p many)
  rw [← hL] at hlen
  have hfl : firsts p many ≤ 6 := by unfold firsts; omega
  refine run_seq (run_asg (d := .lst (L.map pairD)) ?_ ?_)
  · exact (ev_call (out := fun a : (Bool × List Int) × Int × Int × Int × Option Int => D.lst ((fullL a.1.2 a.2.1 a.2.2.1 a.2.2.2.1 (dt a.2.2.1 a.2.2.2.1 a.2.2.2.2) (firsts a.1.2 a.2.1)).map pairD)) ((kd, p), many, f, b, o) ⟨h0, h6, hm, by show -1000 ≤ dt f b o; omega, by show dt f b o ≤ 1000; omega⟩ (by walk_at "ea")).is (by rw [hL])
  dsimp only [List.set]
  refine run_seq (run_ifD (p := ((L.length : Nat) : Int) = 0) (et_test (m := .now) (ev_eqI (ev_lenM (f := pairD) (ev_dat rfl)) ev_int)) (fun hl => ?_) (fun hl => run_next ?_))
  · refine run_ret ev_non ?_
    have e : MinIs (SW p many f b (dt f b o)) none := fun v hv => by
      obtain ⟨x, hx, _⟩ := (hiff v).mpr hv
      rw [← hL, List.eq_nil_of_length_eq_zero (show L.length = 0 by omega)] at hx
      cases hx
    rw [e.eq]; rfl
  · obtain ⟨o', ho⟩ := minIs_list (L.map (·.2))
    cases o' with
    | none =>
      cases L with
      | nil => exact absurd rfl hl
      | cons x L => exact absurd (by simp) (ho x.2)
    | some v =>
      have e : MinIs (SW p many f b (dt f b o)) (some v) := by
        refine MinIs.congr (fun v => ?_) ho
        rw [← hiff v, ← hL, List.mem_map]
      rw [e.eq]
      refine run_ret (ev_cb (ea_cons (m := .now) ?_ ea_nil) (rl_min (ns := L.map (·.2)) ho.1 ho.2)) rfl
      refine ((ev_lcO (m := .dat) (xs := L.map pairD) (fun d => match d with | .tup [_, .int h] => some (D.int h) | _ => none) (ei_lst (fun z => nomatch z) (ev_dat rfl)) (by rw [List.length_map]; exact sz (by omega)) ?_).dat).is (by rw [fm_snd]; rfl)
      intro i d hd
      obtain ⟨x, _, rfl⟩ := get_map hd
      exact ⟨_, tg_2, .inl ⟨_, et_yes, rfl, ev_dat rfl⟩⟩
theorem fo_least (T : Tx K mg) : ∃ f fd, FnP K "row_least" s_row_least [.non] [] f fd ∧ mg "row_least" = some (.ref f) ∧ FnOk P w K mg base CX0 3 f fd ["pattern", "many", "forward", "backward", "both"] (spLeast K) := by
  obtain ⟨f, fd, F, hm⟩ := T.d_row_least
  exact ⟨f, fd, F, hm, fn_ok F sc_row_least rfl (by decide) fun f cdv A outer s H E hr => ⟨rd_row_least K (spFull K), tm_row_least T (df_full T) hr, fun a h => run_least a h⟩⟩
abbrev spFirst (K : PySem.W.Frag) : Sp := SpP K [.now, .dat, .dat, .dat] (fun a : (Bool × List Int) × Int × Int × Option Int => [PatD a.1.1 a.1.2, .int a.2.1, .int a.2.2.1, optD a.2.2.2])
  (fun a => okP a.1.2 ∧ okR (dt a.2.1 a.2.2.1 a.2.2.2)) (fun a => optD (minOf (NW a.1.2 a.2.1 a.2.2.1 (dt a.2.1 a.2.2.1 a.2.2.2))))
theorem run_first (a : (Bool × List Int) × Int × Int × Option Int) (h : okP a.1.2 ∧ okR (dt a.2.1 a.2.2.1 a.2.2.2)) {E : XK} :
    Run K E (rd_row_first_stuck K (spDt K) (spFull K)) (En0 [.now, .dat, .dat, .dat] [PatD a.1.1 a.1.2, .int a.2.1, .int a.2.2.1, optD a.2.2.2] 4) { nx := fun _ => D.non = optD (minOf (NW a.1.2 a.2.1 a.2.2.1 (dt a.2.1 a.2.2.1 a.2.2.2))), rt := fun d => d = optD (minOf (NW a.1.2 a.2.1 a.2.2.1 (dt a.2.1 a.2.2.1 a.2.2.2))) } := by
  obtain ⟨⟨kd, p⟩, f, b, o⟩ := a
  obtain ⟨⟨h1, h0, h6⟩, hR0, hR1⟩ := h
  simp only at h1 h0 h6 hR0 hR1 ⊢
  unfold rd_row_first_stuck
  show Run K E _ [.bor (PatD kd p), .dat (.int f), .dat (.int b), .dat (optD o), .no, .no, .no, .no] _
  refine run_seq (run_asg (d := .int ((p.length : Nat) + dt f b o)) (ev_addI (ev_patL (ev_bor rfl).nw) (ev_call (out := fun a : Int × Int × Option Int => D.int (dt a.1 a.2.1 a.2.2)) (f, b, o) trivial (by walk_at "ea"))) ?_)
  dsimp only [List.set]
  obtain ⟨many, hmany⟩ : ∃ many : Int, many = (p.length : Nat) + dt f b o := ⟨_, rfl⟩
  rw [← hmany]
  obtain ⟨L, hL⟩ : ∃ L, L = fullL p many f b (dt f b o) (firsts p many) := ⟨_, rfl⟩
  obtain ⟨f1, f2⟩ := first_iff (f := f) (b := b) (R := dt f b o) h1 h0
  rw [← hmany, ← hL] at f1 f2
  have hlen := fullL_len (p := p) (many := many) (f := f) (b := b) (R := dt f b o) (by omega) (firsts p many)
  rw [← hL] at hlen
  have hfl : firsts p many ≤ 6 := by unfold firsts; omega
  refine run_seq (run_asg (d := .lst (L.map pairD)) ?_ ?_)
  · exact (ev_call (out := fun a : (Bool × List Int) × Int × Int × Int × Option Int => D.lst ((fullL a.1.2 a.2.1 a.2.2.1 a.2.2.2.1 (dt a.2.2.1 a.2.2.2.1 a.2.2.2.2) (firsts a.1.2 a.2.1)).map pairD)) ((kd, p), many, f, b, o) ⟨h0, h6, (by show 1 ≤ many; omega), by show -1000 ≤ dt f b o; omega, by show dt f b o ≤ 1000; omega⟩ (by walk_at "ea")).is (by rw [hL])
  dsimp only [List.set]
  refine run_seq (run_ifD (p := ((L.length : Nat) : Int) = 0) (et_test (m := .now) (ev_eqI (ev_lenM (f := pairD) (ev_dat rfl)) ev_int)) (fun hl => ?_) (fun hl => run_next ?_))
  · refine run_ret ev_non ?_
    have e : MinIs (NW p f b (dt f b o)) none := fun v hv => by
      obtain ⟨x, hx, _⟩ := f2 v hv
      rw [List.eq_nil_of_length_eq_zero (show L.length = 0 by omega)] at hx
      cases hx
    rw [e.eq]; rfl
  · obtain ⟨o', ho⟩ := minIs_list (L.map (·.1))
    cases o' with
    | none =>
      cases L with
      | nil => exact absurd rfl hl
      | cons x L => exact absurd (by simp) (ho x.1)
    | some v =>
      have e : MinIs (NW p f b (dt f b o)) (some (v + 1)) := by
        obtain ⟨g1, g2⟩ := ho
        obtain ⟨x, hx, e⟩ := List.mem_map.mp g1
        refine ⟨by rw [← e]; exact f1 x hx, fun u hu => ?_⟩
        obtain ⟨y, hy, hle⟩ := f2 u hu
        have := g2 y.1 (List.mem_map.mpr ⟨y, hy, rfl⟩)
        omega
      rw [e.eq]
      refine run_ret (ev_addI (ev_cb (ea_cons (m := .now) ?_ ea_nil) (rl_min (ns := L.map (·.1)) ho.1 ho.2)) ev_int) rfl
      refine ((ev_lcO (m := .dat) (xs := L.map pairD) (fun d => match d with | .tup [.int h, _] => some (D.int h) | _ => none) (ei_lst (fun z => nomatch z) (ev_dat rfl)) (by rw [List.length_map]; exact sz (by omega)) ?_).dat).is (by rw [fm_fst]; rfl)
      intro i d hd
      obtain ⟨x, _, rfl⟩ := get_map hd
      exact ⟨_, tg_2, .inl ⟨_, et_yes, rfl, ev_dat rfl⟩⟩
theorem fo_first (T : Tx K mg) : ∃ f fd, FnP K "row_first_stuck" s_row_first_stuck [.non] [] f fd ∧ mg "row_first_stuck" = some (.ref f) ∧ FnOk P w K mg base CX0 3 f fd ["pattern", "forward", "backward", "both"] (spFirst K) := by
  obtain ⟨f, fd, F, hm⟩ := T.d_row_first_stuck
  exact ⟨f, fd, F, hm, fn_ok F sc_row_first_stuck rfl (by decide) fun f cdv A outer s H E hr => ⟨rd_row_first_stuck K (spDt K) (spFull K), tm_row_first_stuck T (df_dt T) (df_full T) hr, fun a h => run_first a h⟩⟩
/-! called with all, with the default, with the keyword -/
theorem df_least (T : Tx K mg) : Df P w K mg base "row_least" 3 [] (spLeast K) := by
  obtain ⟨f, fd, F, hm, ok⟩ := fo_least (P := P) (w := w) (base := base) T
  obtain ⟨ds, r, b⟩ := FunD.binds1 (ps := ["pattern", "many", "forward", "backward", "both"]) F 5 1 (by decide) rfl fun T kV doc pm an cdv ct us its hl hi => match us, its, hl, hi with | [_, _, _, _, _], [_], _, _ => ⟨_, rfl, rfl⟩
  exact ⟨CX0, f, fd, _, ds, ok, hm, F.kp, b, r, fun X _ _ => pass0⟩
theorem df_least4 (T : Tx K mg) : Df P w K mg base "row_least" 3 [.non] (spLeast K) := by
  obtain ⟨f, fd, F, hm, ok⟩ := fo_least (P := P) (w := w) (base := base) T
  obtain ⟨ds, r, b⟩ := FunD.binds1 (ps := ["pattern", "many", "forward", "backward", "both"]) F 4 0 (by decide) rfl fun T kV doc pm an cdv ct us its hl hi => match us, its, hl, hi with | [_, _, _, _], [_], _, _ => ⟨_, rfl, rfl⟩
  exact ⟨CX0, f, fd, _, ds, ok, hm, F.kp, b, r, fun X _ _ => pass0⟩
theorem dk_least (T : Tx K mg) : DfK P w K mg base "row_least" 3 4 ["both"] (fun a b => a ++ b) (spLeast K) := by
  obtain ⟨f, fd, F, hm, ok⟩ := fo_least (P := P) (w := w) (base := base) T
  exact ⟨CX0, f, fd, _, _, ok, hm, F.kp, kbinds1 (ps := ["pattern", "many", "forward", "backward", "both"]) (ks := ["both"]) F 4 (by decide) fun T kV doc pm an cdv ct us ws its hl hw hi => match us, ws, its, hl, hw, hi with | [_, _, _, _], [_], [_], _, _, _ => ⟨_, rfl, rfl⟩, fun X _ _ => pass0⟩
theorem df_first (T : Tx K mg) : Df P w K mg base "row_first_stuck" 3 [] (spFirst K) := by
  obtain ⟨f, fd, F, hm, ok⟩ := fo_first (P := P) (w := w) (base := base) T
  obtain ⟨ds, r, b⟩ := FunD.binds1 (ps := ["pattern", "forward", "backward", "both"]) F 4 1 (by decide) rfl fun T kV doc pm an cdv ct us its hl hi => match us, its, hl, hi with | [_, _, _, _], [_], _, _ => ⟨_, rfl, rfl⟩
  exact ⟨CX0, f, fd, _, ds, ok, hm, F.kp, b, r, fun X _ _ => pass0⟩
theorem df_first3 (T : Tx K mg) : Df P w K mg base "row_first_stuck" 3 [.non] (spFirst K) := by
  obtain ⟨f, fd, F, hm, ok⟩ := fo_first (P := P) (w := w) (base := base) T
  obtain ⟨ds, r, b⟩ := FunD.binds1 (ps := ["pattern", "forward", "backward", "both"]) F 3 0 (by decide) rfl fun T kV doc pm an cdv ct us its hl hi => match us, its, hl, hi with | [_, _, _], [_], _, _ => ⟨_, rfl, rfl⟩
  exact ⟨CX0, f, fd, _, ds, ok, hm, F.kp, b, r, fun X _ _ => pass0⟩
theorem dk_first (T : Tx K mg) : DfK P w K mg base "row_first_stuck" 3 3 ["both"] (fun a b => a ++ b) (spFirst K) := by
  obtain ⟨f, fd, F, hm, ok⟩ := fo_first (P := P) (w := w) (base := base) T
  exact ⟨CX0, f, fd, _, _, ok, hm, F.kp, kbinds1 (ps := ["pattern", "forward", "backward", "both"]) (ks := ["both"]) F 3 (by decide) fun T kV doc pm an cdv ct us ws its hl hw hi => match us, ws, its, hl, hw, hi with | [_, _, _], [_], [_], _, _, _ => ⟨_, rfl, rfl⟩, fun X _ _ => pass0⟩
end
end Fh

set_option Elab.async false
set_option linter.all false
set_option maxRecDepth 100000
set_option maxHeartbeats 4000000
namespace Fh
open PySem PySem.Spec PyProof.Rows L2
local macro_rules | `(tactic| walk_at "side") => `(tactic| first
  | assumption | decide | omega
  | exact ⟨by decide, by decide⟩ | exact ⟨by omega, by omega⟩ | exact Or.inl ⟨by omega, by omega⟩ | exact Or.inr ⟨by omega, by omega⟩
  | exact ⟨by decide, by decide, by decide⟩ | exact sz (by simp) | exact szl (by simp) | rfl)
local macro_rules | `(tactic| walk_at "ev") => `(tactic| first
  | exact ev_int
  | exact ev_bl
  | exact ev_str
  | exact ev_non
  | exact ev_dat rfl
  | exact ev_bor rfl
  | exact (ev_bor rfl).nw
  | exact ev_own rfl
  | exact (ev_bor rfl).sc
  | exact (ev_bor rfl).scB
  | exact (ev_bor rfl).scS
  | exact (ev_bor rfl).scN
  | (apply ev_addI; walk_at "ev"; walk_at "ev")
  | (apply ev_subI; walk_at "ev"; walk_at "ev")
  | (apply ev_ltI; walk_at "ev"; walk_at "ev")
  | (apply ev_leI; walk_at "ev"; walk_at "ev")
  | (apply ev_gtI; walk_at "ev"; walk_at "ev")
  | (apply ev_geI; walk_at "ev"; walk_at "ev")
  | (apply ev_eqI; walk_at "ev"; walk_at "ev")
  | (apply ev_neI; walk_at "ev"; walk_at "ev")
  | (apply ev_eqS; walk_at "ev"; walk_at "ev")
  | (apply ev_neS; walk_at "ev"; walk_at "ev")
  | (apply ev_eqL; walk_at "ev"; walk_at "ev")
  | (apply ev_neL; walk_at "ev"; walk_at "ev")
  | (apply ev_max2; walk_at "ev"; walk_at "ev")
  | (apply ev_min2; walk_at "ev"; walk_at "ev")
  | (apply ev_mulI; walk_at "ev"; walk_at "ev"; walk_at "side")
  | (apply ev_divI; walk_at "ev"; walk_at "ev"; walk_at "side")
  | (apply ev_modI; walk_at "ev"; walk_at "ev"; walk_at "side")
  | (apply ev_powI; walk_at "ev"; walk_at "ev"; walk_at "side")
  | (apply ev_negI; walk_at "ev")
  | (apply ev_abs; walk_at "ev")
  | (apply ev_intc; walk_at "ev")
  | (apply ev_lenM; walk_at "ev")
  | (apply ev_lenTM; walk_at "ev")
  | (apply ev_len; walk_at "ev")
  | (apply ev_lenT; walk_at "ev")
  | (apply ev_sum; walk_at "ev")
  | (apply ev_notV; walk_at "ev")
  | (apply ev_tupI; walk_at "ev")
  | (apply ev_is; walk_at "ev"; walk_at "ev"; rfl)
  | (apply ev_isN; walk_at "ev"; walk_at "ev"; rfl)
  | (apply ev_ixI; walk_at "ev"; walk_at "ev"; walk_at "side"; walk_at "side")
  | (apply ev_ixIT; walk_at "ev"; walk_at "ev"; walk_at "side"; walk_at "side")
  | (apply ev_andV; walk_at "ev"; (intro _; walk_at "ev"))
  | (apply ev_orV; walk_at "ev"; (intro _; walk_at "ev"))
  | (apply ev_tup; walk_at "ed"; walk_at "side")
  | exact ev_nil
  | (apply ev_lst; walk_at "ed"; walk_at "side")
  | (apply ev_isi; walk_at "ev"; rfl; decide +kernel))
local macro_rules | `(tactic| walk_at "ea") => `(tactic| first
  | exact ea_nil
  | (apply ea_cons; walk_at "ev"; walk_at "ea"))
local macro_rules | `(tactic| walk_at "ed") => `(tactic| first
  | exact ed_nil
  | (apply ed_cons; walk_at "ev"; walk_at "ed"))
local macro_rules | `(tactic| walk_at "et") => `(tactic| first
  | exact et_yes
  | (apply et_and; walk_at "et"; (intro _; walk_at "et"))
  | (apply et_or; walk_at "et"; (intro _; walk_at "et"))
  | (apply et_not; walk_at "et")
  | (refine et_test (m := .now) ?_; walk_at "ev")
  | (refine et_B (m := .now) ?_; walk_at "ev"))
local macro_rules | `(tactic| walk_at "asg") => `(tactic| (first
  | (refine run_seq ?_; apply run_asg; walk_at "ev"; dsimp only [List.set])
  | (apply run_asg; walk_at "ev"; dsimp only [List.set])))
/-! ### more of long rows: the law's own search -/
theorem hs_left (p : List Int) (a : Nat) : ∀ j, hs p a (j + 1) = per p a + hs p (a + 1) j
  | 0 => by simp [hs]
  | j + 1 => by
    show hs p a (j + 1) + per p (a + (j + 1) + 1) = per p a + (hs p (a + 1) j + per p (a + 1 + j + 1))
    rw [hs_left p a j, show a + (j + 1) + 1 = a + 1 + j + 1 by omega]
    omega
theorem hs_back {p : List Int} {l j : Nat} (h : j + 1 ≤ l) : hs p (l - (j + 1)) (j + 1) = per p (l - (j + 1)) + hs p (l - j) j := by
  rw [hs_left, show l - (j + 1) + 1 = l - j by omega]
theorem hs_grow {p : List Int} (h1 : ∀ x ∈ p, 1 ≤ x) (h0 : 0 < p.length) {l : Nat} : ∀ {i j : Nat}, i ≤ j → j ≤ l → hs p (l - i) i ≤ hs p (l - j) j
  | i, 0, h, _ => by
    have : i = 0 := by omega
    subst this; exact Int.le_refl _
  | i, j + 1, h, hl => by
    by_cases q : i = j + 1
    · subst q; exact Int.le_refl _
    · have := hs_grow h1 h0 (i := i) (j := j) (l := l) (by omega) (by omega)
      rw [hs_back hl]
      have := per_pos h1 h0 (l - (j + 1))
      omega
/-- windows that end at L or before -/
def SL (p : List Int) (f b R : Int) (L : Nat) (v : Int) : Prop := ∃ a j : Nat, a + j ≤ L ∧ Wn p f b R a j v
def NL (p : List Int) (f b R : Int) (L : Nat) (v : Int) : Prop := ∃ (a j : Nat) (u : Int), a + j ≤ L ∧ Wn p f b R a j u ∧ v = ((a + j : Nat) : Int) + 1
/-- .. and those that end at l and begin at l - g or behind it -/
def SG (p : List Int) (f b R : Int) (l g : Nat) (v : Int) : Prop := SL p f b R (l - 1) v ∨ ∃ j, j ≤ g ∧ Wn p f b R (l - j) j v
def NG (p : List Int) (f b R : Int) (l g : Nat) (v : Int) : Prop := NL p f b R (l - 1) v ∨ ∃ (j : Nat) (u : Int), j ≤ g ∧ Wn p f b R (l - j) j u ∧ v = (l : Nat) + 1
section
variable {p : List Int} {f b R : Int}
theorem SG_zero {l : Nat} (v : Int) : SL p f b R (l - 1) v ↔ SG p f b R l 0 v := by
  constructor
  · exact fun h => .inl h
  · rintro (h | ⟨j, hj, h, _⟩)
    · exact h
    · omega
theorem NG_zero {l : Nat} (v : Int) : NL p f b R (l - 1) v ↔ NG p f b R l 0 v := by
  constructor
  · exact fun h => .inl h
  · rintro (h | ⟨j, u, hj, ⟨h, _⟩, _⟩)
    · exact h
    · omega
theorem SG_yes {l g : Nat} (hw : Wn p f b R (l - (g + 1)) (g + 1) (hs p (l - (g + 1)) (g + 1))) (v : Int) : (SG p f b R l g v ∨ v = hs p (l - (g + 1)) (g + 1)) ↔ SG p f b R l (g + 1) v := by
  constructor
  · rintro ((h | ⟨j, hj, h⟩) | h)
    · exact .inl h
    · exact .inr ⟨j, by omega, h⟩
    · exact .inr ⟨g + 1, Nat.le_refl _, by rw [h]; exact hw⟩
  · rintro (h | ⟨j, hj, h⟩)
    · exact .inl (.inl h)
    · by_cases q : j = g + 1
      · subst q; exact .inr h.2.1
      · exact .inl (.inr ⟨j, by omega, h⟩)
theorem SG_no {l g : Nat} (hw : ¬ Wn p f b R (l - (g + 1)) (g + 1) (hs p (l - (g + 1)) (g + 1))) (v : Int) : SG p f b R l g v ↔ SG p f b R l (g + 1) v := by
  constructor
  · rintro (h | ⟨j, hj, h⟩)
    · exact .inl h
    · exact .inr ⟨j, by omega, h⟩
  · rintro (h | ⟨j, hj, h⟩)
    · exact .inl h
    · by_cases q : j = g + 1
      · subst q; exact absurd (by rw [← h.2.1]; exact h) hw
      · exact .inr ⟨j, by omega, h⟩
theorem NG_yes {l g : Nat} (hw : Wn p f b R (l - (g + 1)) (g + 1) (hs p (l - (g + 1)) (g + 1))) (v : Int) : (NG p f b R l g v ∨ v = (l : Nat) + 1) ↔ NG p f b R l (g + 1) v := by
  constructor
  · rintro ((h | ⟨j, u, hj, h, e⟩) | h)
    · exact .inl h
    · exact .inr ⟨j, u, by omega, h, e⟩
    · exact .inr ⟨g + 1, _, Nat.le_refl _, hw, h⟩
  · rintro (h | ⟨j, u, hj, h, e⟩)
    · exact .inl (.inl h)
    · by_cases q : j = g + 1
      · exact .inr e
      · exact .inl (.inr ⟨j, u, by omega, h, e⟩)
theorem NG_no {l g : Nat} (hw : ¬ Wn p f b R (l - (g + 1)) (g + 1) (hs p (l - (g + 1)) (g + 1))) (v : Int) : NG p f b R l g v ↔ NG p f b R l (g + 1) v := by
  constructor
  · rintro (h | ⟨j, u, hj, h, e⟩)
    · exact .inl h
    · exact .inr ⟨j, u, by omega, h, e⟩
  · rintro (h | ⟨j, u, hj, h, e⟩)
    · exact .inl h
    · by_cases q : j = g + 1
      · subst q; exact absurd (by rw [← h.2.1]; exact h) hw
      · exact .inr ⟨j, u, by omega, h, e⟩
theorem SG_end {l g : Nat} (hl : 1 ≤ l) (hgl : g ≤ l) (hg : ∀ j, g < j → j ≤ l → ¬ Wn p f b R (l - j) j (hs p (l - j) j)) (v : Int) : SG p f b R l g v ↔ SL p f b R l v := by
  constructor
  · rintro (⟨a, j, h, w⟩ | ⟨j, hj, w⟩)
    · exact ⟨a, j, by omega, w⟩
    · exact ⟨l - j, j, by omega, w⟩
  · rintro ⟨a, j, h, w⟩
    by_cases q : a + j = l
    · have e : a = l - j := by omega
      subst e
      by_cases q2 : j ≤ g
      · exact .inr ⟨j, q2, w⟩
      · exact absurd (by rw [← w.2.1]; exact w) (hg j (by omega) (by omega))
    · exact .inl ⟨a, j, by omega, w⟩
theorem NG_end {l g : Nat} (hl : 1 ≤ l) (hgl : g ≤ l) (hg : ∀ j, g < j → j ≤ l → ¬ Wn p f b R (l - j) j (hs p (l - j) j)) (v : Int) : NG p f b R l g v ↔ NL p f b R l v := by
  constructor
  · rintro (⟨a, j, u, h, w, e⟩ | ⟨j, u, hj, w, e⟩)
    · exact ⟨a, j, u, by omega, w, e⟩
    · exact ⟨l - j, j, u, by omega, w, by omega⟩
  · rintro ⟨a, j, u, h, w, e⟩
    by_cases q : a + j = l
    · have ea : a = l - j := by omega
      subst ea
      by_cases q2 : j ≤ g
      · exact .inr ⟨j, u, q2, w, by omega⟩
      · exact absurd (by rw [← w.2.1]; exact w) (hg j (by omega) (by omega))
    · exact .inl ⟨a, j, u, by omega, w, e⟩
/-- behind all of them -/
theorem SL_all {many : Int} {M : Nat} (h1 : ∀ x ∈ p, 1 ≤ x) (h0 : 0 < p.length) (h6 : p.length ≤ 6) (hR : R ≤ 48) (hM : (M : Int) + 1 = min many 54) (v : Int) : SL p f b R M v ↔ SW p many f b R v := by
  constructor
  · rintro ⟨a, j, h, w⟩
    exact ⟨a, j, by omega, w⟩
  · rintro ⟨a, j, h, w⟩
    have w2 := w.mod
    have hl := hs_pos h1 h0 (a % p.length) j
    have hlt := Nat.mod_lt a h0
    have hle := Nat.mod_le a p.length
    obtain ⟨q1, q2, _, _, q5⟩ := id w2
    exact ⟨a % p.length, j, by omega, w2⟩
theorem SL_none {many : Int} (hM : min many 54 ≤ 1) (v : Int) : ¬ SW p many f b R v ∨ 54 ≤ 1 := by
  refine .inl ?_
  rintro ⟨a, j, h, w⟩
  have := w.1
  omega
theorem NL_all (h1 : ∀ x ∈ p, 1 ≤ x) (h0 : 0 < p.length) (h6 : p.length ≤ 6) (hR : R ≤ 48) : ∀ {o : Option Int}, MinIs (NL p f b R 53) o → MinIs (NW p f b R) o := by
  have key : ∀ v, NW p f b R v → ∃ u, NL p f b R 53 u ∧ u ≤ v := by
    rintro v ⟨a, j, u, w, rfl⟩
    have w2 := w.mod
    have hl := hs_pos h1 h0 (a % p.length) j
    have hlt := Nat.mod_lt a h0
    have hle := Nat.mod_le a p.length
    obtain ⟨q1, q2, _, _, q5⟩ := id w2
    exact ⟨_, ⟨a % p.length, j, u, by omega, w2, rfl⟩, by omega⟩
  intro o h
  cases o with
  | none =>
    intro v hv
    obtain ⟨u, hu, _⟩ := key v hv
    exact h u hu
  | some m =>
    obtain ⟨⟨a, j, u, _, w, e⟩, h2⟩ := h
    refine ⟨⟨a, j, u, w, e⟩, fun v hv => ?_⟩
    obtain ⟨u, hu, hle⟩ := key v hv
    exact Int.le_trans (h2 u hu) hle
/-- a later end is no first one -/
theorem NG_first {l g : Nat} (hl : 1 ≤ l) : ∀ {o : Option Int}, MinIs (NG p f b R l g) o → MinIs (fun v => NG p f b R l g v ∨ v = (l : Nat) + 1) (some (o.getD ((l : Nat) + 1)))
  | none, h => ⟨.inr rfl, fun w z => z.elim (fun z => absurd z (h w)) fun z => by rw [z]; exact Int.le_refl _⟩
  | some m, h => by
    refine ⟨.inl h.1, fun w z => ?_⟩
    show m ≤ w
    rcases z with z | z
    · exact h.2 w z
    · rcases h.1 with ⟨a, j, u, q, _, e⟩ | ⟨j, u, _, _, e⟩ <;> omega
end
section
variable {P : Program} {w : World} {K : PySem.W.Frag} {mg : Str → Option Value} {base : Heap} {p : List Int} {f b R : Int}
/-! _law_number -/
def num (ns : List Int) (st : Int) : Nat → Int
  | 0 => 0
  | k + 1 => num ns st k * 1000 + nth ns (st + k)
theorem num_lt {ns : List Int} (h : Unit1000 ns) (st : Int) : ∀ k, 0 ≤ num ns st k ∧ num ns st k < 1000 ^ k
  | 0 => ⟨Int.le_refl _, by simp [num]⟩
  | k + 1 => by
    obtain ⟨h1, h2⟩ := num_lt h st k
    obtain ⟨h3, h4⟩ := h.nth (st + k)
    simp only [num]
    rw [Int.pow_succ]
    omega
abbrev spNum (K : PySem.W.Frag) : Sp := SpP K [.now, .dat] (fun a : List Int × Int => [rowD a.1, .int a.2]) (fun a => 0 ≤ a.2 ∧ a.2 + 10 ≤ (a.1.length : Nat)) (fun a => .int (num a.1 a.2 10))
theorem df_num (T : Tx K mg) : Df P w K mg base "_law_number" 1 [] (spNum K) := by
  refine T.d_l_number.df sc_l_number rfl (by decide) (fun _ _ _ _ _ _ us hl => match us, hl with | [_, _], _ => rfl) ?_
  intro f cdv A outer s H E hr
  refine ⟨rd_l_number K, tm_l_number T hr, ?_⟩
  rintro ⟨ns, st⟩ ⟨h0, h1⟩
  simp only at h0 h1
  unfold rd_l_number
  show Run K E _ [.bor (rowD ns), .dat (.int st), .no, .no] _
  walk_at "asg"
  refine run_seq (run_for (m := .dat) (ei_rng1 (m := .dat) (ea_cons ev_int ea_nil) (by decide) (by decide)) (fun k e => ∃ s3 : Sl, e = [.bor (rowD ns), .dat (.int st), .dat (.int (num ns st k)), s3]) ⟨_, rfl⟩ ?_ ?_)
  · rintro k _ _ hx ⟨s3, rfl⟩
    obtain ⟨hk, rfl⟩ := get_rg hx
    have hk2 : k < 10 := hk
    refine ⟨_, [3], tg_dat, ?_⟩
    dsimp only [List.set]
    refine run_asg (d := .int (num ns st (k + 1))) ((ev_addI (i := num ns st k * 1000) (ev_mulI (ev_dat rfl) ev_int (.inr ⟨by decide, by decide⟩)) (ev_ixI (ns := ns) (k := st + (0 + (k : Nat))) (ev_bor rfl).nw (by walk_at "ev") (by omega) (by omega))).is ?_) ⟨_, rfl⟩
    simp only [num, Int.zero_add]
  · rintro _ ⟨s3, rfl⟩
    exact run_ret (ev_dat rfl) rfl
/-! _law_stretches -/
abbrev spStr (K : PySem.W.Frag) : Sp := SpP K [.now, .dat, .dat, .dat, .dat] (fun a : List Int × Int × Int × Int × Option Int => [rowD a.1, .int a.2.1, .int a.2.2.1, .int a.2.2.2.1, optD a.2.2.2.2])
  (fun a => okP a.1 ∧ 2 ≤ a.2.1 ∧ okR (dt a.2.2.1 a.2.2.2.1 a.2.2.2.2))
  (fun a => .tup [optD (minOf (SW a.1 a.2.1 a.2.2.1 a.2.2.2.1 (dt a.2.2.1 a.2.2.2.1 a.2.2.2.2))), optD (minOf (NL a.1 a.2.2.1 a.2.2.2.1 (dt a.2.2.1 a.2.2.2.1 a.2.2.2.2) ((min a.2.1 54).toNat - 1)))])
def perL (p : List Int) (M : Nat) : List Int := (List.range M).map (per p)
theorem perL_len (p : List Int) (M : Nat) : (perL p M).length = M := by unfold perL; simp
theorem nth_perL {p : List Int} {M n : Nat} {k : Int} (h : k = (n : Nat)) (hn : n < M) : nth (perL p M) k = per p n := by
  unfold nth perL
  rw [h, List.getD_eq_getElem?_getD, List.getElem?_map, show ((n : Nat) : Int).toNat = n by omega, List.getElem?_range hn]
  rfl
theorem fm_per (p : List Int) (M : Nat) : (rgD 0 M).filterMap (fun d => match d with | .int x => some (D.int (per p x.toNat)) | _ => none) = (perL p M).map D.int := by
  unfold rgD perL
  rw [List.filterMap_map, List.map_map]
  rw [← List.filterMap_eq_map]
  congr 1
  funext i
  simp
theorem run_str (a : List Int × Int × Int × Int × Option Int) (h : okP a.1 ∧ 2 ≤ a.2.1 ∧ okR (dt a.2.2.1 a.2.2.2.1 a.2.2.2.2)) {E : XK} :
    Run K E (rd_l_stretches K) (En0 [.now, .dat, .dat, .dat, .dat] [rowD a.1, .int a.2.1, .int a.2.2.1, .int a.2.2.2.1, optD a.2.2.2.2] 8)
      { nx := fun _ => D.non = .tup [optD (minOf (SW a.1 a.2.1 a.2.2.1 a.2.2.2.1 (dt a.2.2.1 a.2.2.2.1 a.2.2.2.2))), optD (minOf (NL a.1 a.2.2.1 a.2.2.2.1 (dt a.2.2.1 a.2.2.2.1 a.2.2.2.2) ((min a.2.1 54).toNat - 1)))],
        rt := fun d => d = .tup [optD (minOf (SW a.1 a.2.1 a.2.2.1 a.2.2.2.1 (dt a.2.2.1 a.2.2.2.1 a.2.2.2.2))), optD (minOf (NL a.1 a.2.2.1 a.2.2.2.1 (dt a.2.2.1 a.2.2.2.1 a.2.2.2.2) ((min a.2.1 54).toNat - 1)))] } := by
  obtain ⟨p, many, f, b, o⟩ := a
  obtain ⟨⟨h1, h0, h6⟩, hm, hR0, hR1⟩ := h
  simp only at h1 h0 h6 hm hR0 hR1 ⊢
  unfold rd_l_stretches
  obtain ⟨R, hR⟩ : ∃ R, R = dt f b o := ⟨_, rfl⟩
  show Run K E _ [.bor (rowD p), .dat (.int many), .dat (.int f), .dat (.int b), .dat (optD o), .no, .no, .no, .no, .no, .no, .no, .no] _
  walk_at "asg"
  refine run_seqM (fun e => e = [.bor (rowD p), .dat (.int many), .dat (.int f), .dat (.int b), .dat (optD o), .dat (.int R), .no, .no, .no, .no, .no, .no, .no]) ?_ ?_
  · cases o with
    | none => exact run_ifF (et_and (b := false) (c := false) (et_test (m := .now) (ev_isN (b := true) (ev_dat rfl) ev_non rfl)) fun z => nomatch z) (run_next (by rw [hR]; rfl))
    | some c =>
      refine run_if (et_and (b := true) (c := decide (c < f + b)) (et_test (m := .now) (ev_isN (b := false) (ev_dat rfl) ev_non rfl)) fun _ => by walk_at "et") (fun h => ?_) (fun h => run_next ?_)
      · have h2 : c < f + b := by simpa using h
        exact run_asg (d := .int c) (ev_dat rfl) (by show [_, _, _, _, _, _, _, _, _, _, _, _, _] = _; rw [hR, show dt f b (some c) = c by simp only [dt]; omega])
      · have h2 : ¬ c < f + b := by simpa using h
        rw [hR, show dt f b (some c) = f + b by simp only [dt]; omega]
  rintro _ rfl
  simp only [← hR] at hR0 hR1 ⊢
  obtain ⟨M, hM⟩ : ∃ M : Nat, M = (min many 54).toNat := ⟨_, rfl⟩
  have hM2 : (M : Int) = min many 54 := by omega
  have hM3 : 2 ≤ M ∧ M ≤ 54 := by omega
  refine run_seq (run_asg (d := rowD (perL p M)) ?_ ?_)
  · refine ((ev_lcO (m := .dat) (xs := rgD 0 M) (fun d => match d with | .int x => some (D.int (per p x.toNat)) | _ => none) ?_ ?_ ?_).dat).is ?_
    · have := ei_rng1 (K := K) (m := .now) (n := min many 54) (ea_cons (m := .now) (e := [.bor (rowD p), .dat (.int many), .dat (.int f), .dat (.int b), .dat (optD o), .dat (.int R), .no, .no, .no, .no, .no, .no, .no]) (te := tCB (rMn2) (tCons (tVar 1) (tCons (tC (.int 54)) tNil))) (by walk_at "ev") ea_nil) (by omega) (by omega)
      rwa [← hM] at this
    · rw [rgD_len]; exact sz (by omega)
    · intro i d hd
      obtain ⟨hi, rfl⟩ := get_rg hd
      refine ⟨_, tg_dat, .inl ⟨_, et_yes, rfl, ?_⟩⟩
      refine (ev_ixI (ns := p) (k := (0 + (i : Nat)) % (p.length : Nat)) (ev_bor rfl).nw (ev_modI (by walk_at "ev") (ev_lenM (f := D.int) (ev_bor rfl).nw) (by omega)) (Int.emod_nonneg _ (by omega)) (Int.emod_lt_of_pos _ (by omega))).is ?_
      rw [Int.zero_add, nth_per _ h0]
      rfl
    · rw [fm_per]; rfl
  dsimp only [List.set]
  walk_at "asg"
  walk_at "asg"
  refine run_seq (run_for (m := .dat) (ei_rng2 (m1 := .now) (m2 := .now) (lo := 1) (n := (M : Nat)) (ea_cons ev_int (ea_cons ((ev_lenM (f := D.int) (as := perL p M) (ev_dat rfl)).is (by rw [perL_len])) ea_nil)) ⟨by omega, by omega, by omega, by omega⟩)
    (fun i e => ∃ (o1 o2 : Option Int) (s9 s10 s11 s12 : Sl), MinIs (SL p f b R i) o1 ∧ MinIs (NL p f b R i) o2 ∧ e = [.bor (rowD p), .dat (.int many), .dat (.int f), .dat (.int b), .dat (optD o), .dat (.int R), .dat (rowD (perL p M)), .dat (optD o1), .dat (optD o2), s9, s10, s11, s12])
    ⟨none, none, _, _, _, _, ?_, ?_, rfl⟩ ?_ ?_)
  · rintro v ⟨a, j, h, w, _⟩; omega
  · rintro v ⟨a, j, u, h, ⟨w, _⟩, _⟩; omega
  · rintro i _ _ hx ⟨o1, o2, s9, s10, s11, s12, m1, m2, rfl⟩
    obtain ⟨hi, rfl⟩ := get_rg hx
    refine ⟨_, [9], tg_dat, ?_⟩
    dsimp only [List.set]
    obtain ⟨l, hl⟩ : ∃ l : Nat, l = i + 1 := ⟨_, rfl⟩
    have hlM : l < M := by omega
    have hl1 : 1 ≤ l := by omega
    have el : (1 + (i : Nat) : Int) = (l : Nat) := by omega
    rw [el]
    refine run_seq (run_asg (d := .int (hs p (l - 0) 0)) ((ev_ixI (ns := perL p M) (k := (l : Nat)) (ev_dat rfl) (ev_dat rfl) (by omega) (by rw [perL_len]; omega)).is (by rw [nth_perL rfl hlM]; rfl)) ?_)
    dsimp only [List.set]
    have m1' : MinIs (SG p f b R l 0) o1 := MinIs.congr (fun v => by rw [← SG_zero, hl]; rfl) m1
    have m2' : MinIs (NG p f b R l 0) o2 := MinIs.congr (fun v => by rw [← NG_zero, hl]; rfl) m2
    refine run_for (m := .dat) (ei_rng2 (m1 := .now) (m2 := .now) (lo := 1) (n := (l : Nat) + 1) (ea_cons ev_int (ea_cons (by walk_at "ev") ea_nil)) ⟨by omega, by omega, by omega, by omega⟩)
      (fun g e => ∃ (o1 o2 : Option Int) (s11 : Sl), MinIs (SG p f b R l g) o1 ∧ MinIs (NG p f b R l g) o2 ∧ e = [.bor (rowD p), .dat (.int many), .dat (.int f), .dat (.int b), .dat (optD o), .dat (.int R), .dat (rowD (perL p M)), .dat (optD o1), .dat (optD o2), .dat (.int (l : Nat)), .dat (.int (hs p (l - g) g)), s11, s12])
      ⟨o1, o2, _, m1', m2', rfl⟩ ?_ ?_
    · clear m1 m2 m1' m2' o1 o2
      rintro g _ _ hx ⟨o1, o2, s11, m1, m2, rfl⟩
      obtain ⟨hg, rfl⟩ := get_rg hx
      have hg2 : g + 1 ≤ l := by omega
      refine ⟨_, [11], tg_dat, ?_⟩
      dsimp only [List.set]
      have hix : ∀ s7 s8 s10 : Sl, Ev K .now (tOp (rIx K) (tVar 6) (tOp (rMinus) (tVar 9) (tVar 11))) [.bor (rowD p), .dat (.int many), .dat (.int f), .dat (.int b), .dat (optD o), .dat (.int R), .dat (rowD (perL p M)), s7, s8, .dat (.int (l : Nat)), s10, .dat (.int (1 + (g : Nat))), s12] (.int (per p (l - (g + 1)))) := fun s7 s8 s10 =>
        (ev_ixI (ns := perL p M) (k := (l : Nat) - (1 + (g : Nat))) (ev_dat rfl) (by walk_at "ev") (by omega) (by rw [perL_len]; omega)).is (by rw [nth_perL (n := l - (g + 1)) (by omega) (by omega)])
      have hil : ∀ s7 s8 s10 : Sl, Ev K .now (tOp (rIx K) (tVar 6) (tVar 9)) [.bor (rowD p), .dat (.int many), .dat (.int f), .dat (.int b), .dat (optD o), .dat (.int R), .dat (rowD (perL p M)), s7, s8, .dat (.int (l : Nat)), s10, .dat (.int (1 + (g : Nat))), s12] (.int (per p l)) := fun s7 s8 s10 =>
        (ev_ixI (ns := perL p M) (k := (l : Nat)) (ev_dat rfl) (ev_dat rfl) (by omega) (by rw [perL_len]; omega)).is (by rw [nth_perL rfl hlM])
      refine run_seq (run_asg (d := .int (hs p (l - (g + 1)) (g + 1))) ((ev_addI (ev_dat rfl) (hix _ _ _)).is (by rw [hs_back hg2, Int.add_comm])) ?_)
      dsimp only [List.set]
      have hpos := h1
      refine run_seq (run_ifD (p := R < hs p (l - (g + 1)) (g + 1)) (by walk_at "et") (fun h => run_brk ?_) (fun h => run_next ?_))
      · -- all longer ones are too much
        have hno : ∀ j, g < j → j ≤ l → ¬ Wn p f b R (l - j) j (hs p (l - j) j) := fun j hj1 hj2 hw => by
          have := hs_grow h1 h0 (l := l) (i := g + 1) (j := j) (by omega) hj2
          have := hw.2.2.2.2
          omega
        exact ⟨o1, o2, _, _, _, _, MinIs.congr (fun v => by rw [SG_end hl1 (by omega) hno, hl]) m1, MinIs.congr (fun v => by rw [NG_end hl1 (by omega) hno, hl]) m2, rfl⟩
      · refine run_if (et_and (b := decide (per p (l - (g + 1)) ≤ f)) (c := decide (per p l ≤ b)) (et_test (m := .now) (ev_leI (hix _ _ _) (ev_dat rfl))) fun _ => et_test (m := .now) (ev_leI (hil _ _ _) (ev_dat rfl))) (fun hc => ?_) (fun hc => run_next ?_)
        · have hc2 : per p (l - (g + 1)) ≤ f ∧ per p l ≤ b := by simpa using hc
          have hw : Wn p f b R (l - (g + 1)) (g + 1) (hs p (l - (g + 1)) (g + 1)) := ⟨by omega, rfl, hc2.1, by rw [show l - (g + 1) + (g + 1) = l by omega]; exact hc2.2, by omega⟩
          have n1 := MinIs.congr (SG_yes hw) (m1.more (t := hs p (l - (g + 1)) (g + 1)))
          have n2 := MinIs.congr (NG_yes hw) (NG_first hl1 m2)
          obtain ⟨t, ht⟩ : ∃ t, t = hs p (l - (g + 1)) (g + 1) := ⟨_, rfl⟩
          rw [← ht] at n1 ⊢
          refine run_seqM (fun e => e = [.bor (rowD p), .dat (.int many), .dat (.int f), .dat (.int b), .dat (optD o), .dat (.int R), .dat (rowD (perL p M)), .dat (.int (mins t o1)), .dat (optD o2), .dat (.int (l : Nat)), .dat (.int t), .dat (.int (1 + (g : Nat))), s12]) ?_ ?_
          · cases o1 with
            | none => exact run_ifT (et_or (b := true) (c := false) (et_test (m := .now) (ev_is (ev_dat rfl) ev_non rfl)) fun z => nomatch z) (run_asg (d := .int t) (ev_dat rfl) rfl)
            | some m =>
              refine run_if (et_or (b := false) (c := decide (t < m)) (et_test (m := .now) (ev_is (ev_dat rfl) ev_non rfl)) fun _ => by walk_at "et") (fun h => run_asg (d := .int t) (ev_dat rfl) ?_) (fun h => run_next ?_)
              · have h2 : t < m := by simpa using h
                show [_, _, _, _, _, _, _, _, _, _, _, _, _] = _
                rw [show mins t (some m) = t by simp only [mins]; rw [if_pos h2]]
              · have h2 : ¬ t < m := by simpa using h
                rw [show mins t (some m) = m by simp only [mins]; rw [if_neg h2]]
                rfl
          · rintro _ rfl
            cases o2 with
            | none => exact run_ifT (et_test (m := .now) (ev_is (ev_dat rfl) ev_non rfl)) (run_asg (d := .int ((l : Nat) + 1)) (by walk_at "ev") ⟨_, some ((l : Nat) + 1), _, n1, n2, by rw [ht]; rfl⟩)
            | some m => exact run_ifF (et_test (m := .now) (ev_is (ev_dat rfl) ev_non rfl)) (run_next ⟨_, some m, _, n1, n2, by rw [ht]; rfl⟩)
        · have hw : ¬ Wn p f b R (l - (g + 1)) (g + 1) (hs p (l - (g + 1)) (g + 1)) := fun hw => by
            obtain ⟨_, _, a1, a2, _⟩ := hw
            rw [show l - (g + 1) + (g + 1) = l by omega] at a2
            simp [a1, a2] at hc
          exact ⟨o1, o2, _, MinIs.congr (SG_no hw) m1, MinIs.congr (NG_no hw) m2, rfl⟩
    · clear m1 m2 m1' m2' o1 o2
      rintro _ ⟨o1, o2, s11, m1, m2, rfl⟩
      rw [rgD_len] at m1 m2
      have e : ((l : Nat) + 1 - 1 : Int).toNat = l := by omega
      rw [e] at m1 m2
      exact ⟨o1, o2, _, _, _, _, MinIs.congr (fun v => by rw [SG_end hl1 (Nat.le_refl _) (fun j h1 h2 => absurd h1 (by omega)), hl]) m1, MinIs.congr (fun v => by rw [NG_end hl1 (Nat.le_refl _) (fun j h1 h2 => absurd h1 (by omega)), hl]) m2, rfl⟩
  · rintro _ ⟨o1, o2, s9, s10, s11, s12, m1, m2, rfl⟩
    rw [rgD_len] at m1 m2
    have e : ((M : Nat) - 1 : Int).toNat = M - 1 := by omega
    rw [e] at m1 m2
    have k1 : MinIs (SW p many f b R) o1 := MinIs.congr (fun v => SL_all h1 h0 h6 hR1 (by omega) v) m1
    rw [k1.eq, ← hM, m2.eq]
    exact run_ret (by walk_at "ev") rfl
theorem df_str (T : Tx K mg) : Df P w K mg base "_law_stretches" 1 [] (spStr K) :=
  T.d_l_stretches.df sc_l_stretches rfl (by decide) (fun _ _ _ _ _ _ us hl => match us, hl with | [_, _, _, _, _], _ => rfl) fun f cdv A outer s H E hr => ⟨rd_l_stretches K, tm_l_stretches T hr, fun a h => run_str a h⟩
end
end Fh

set_option Elab.async false
set_option linter.all false
set_option maxRecDepth 100000
set_option maxHeartbeats 4000000
namespace Fh
open PySem PySem.Spec PyProof.Rows L2
local macro_rules | `(tactic| walk_at "side") => `(tactic| first
  | assumption | decide | omega
  | exact ⟨by decide, by decide⟩ | exact ⟨by omega, by omega⟩ | exact Or.inl ⟨by omega, by omega⟩ | exact Or.inr ⟨by omega, by omega⟩
  | exact ⟨by decide, by decide, by decide⟩ | exact sz (by simp) | exact szl (by simp) | rfl)
local macro_rules | `(tactic| walk_at "ev") => `(tactic| first
  | exact ev_int
  | exact ev_bl
  | exact ev_str
  | exact ev_non
  | exact ev_dat rfl
  | exact ev_bor rfl
  | exact (ev_bor rfl).nw
  | exact ev_own rfl
  | exact (ev_bor rfl).sc
  | exact (ev_bor rfl).scB
  | exact (ev_bor rfl).scS
  | exact (ev_bor rfl).scN
  | (apply ev_addI; walk_at "ev"; walk_at "ev")
  | (apply ev_subI; walk_at "ev"; walk_at "ev")
  | (apply ev_ltI; walk_at "ev"; walk_at "ev")
  | (apply ev_leI; walk_at "ev"; walk_at "ev")
  | (apply ev_gtI; walk_at "ev"; walk_at "ev")
  | (apply ev_geI; walk_at "ev"; walk_at "ev")
  | (apply ev_eqI; walk_at "ev"; walk_at "ev")
  | (apply ev_neI; walk_at "ev"; walk_at "ev")
  | (apply ev_eqS; walk_at "ev"; walk_at "ev")
  | (apply ev_neS; walk_at "ev"; walk_at "ev")
  | (apply ev_eqL; walk_at "ev"; walk_at "ev")
  | (apply ev_neL; walk_at "ev"; walk_at "ev")
  | (apply ev_max2; walk_at "ev"; walk_at "ev")
  | (apply ev_min2; walk_at "ev"; walk_at "ev")
  | (apply ev_mulI; walk_at "ev"; walk_at "ev"; walk_at "side")
  | (apply ev_divI; walk_at "ev"; walk_at "ev"; walk_at "side")
  | (apply ev_modI; walk_at "ev"; walk_at "ev"; walk_at "side")
  | (apply ev_powI; walk_at "ev"; walk_at "ev"; walk_at "side")
  | (apply ev_negI; walk_at "ev")
  | (apply ev_abs; walk_at "ev")
  | (apply ev_intc; walk_at "ev")
  | (apply ev_lenM; walk_at "ev")
  | (apply ev_lenTM; walk_at "ev")
  | (apply ev_len; walk_at "ev")
  | (apply ev_lenT; walk_at "ev")
  | (apply ev_sum; walk_at "ev")
  | (apply ev_notV; walk_at "ev")
  | (apply ev_tupI; walk_at "ev")
  | (apply ev_is; walk_at "ev"; walk_at "ev"; rfl)
  | (apply ev_isN; walk_at "ev"; walk_at "ev"; rfl)
  | (apply ev_ixI; walk_at "ev"; walk_at "ev"; walk_at "side"; walk_at "side")
  | (apply ev_ixIT; walk_at "ev"; walk_at "ev"; walk_at "side"; walk_at "side")
  | (apply ev_andV; walk_at "ev"; (intro _; walk_at "ev"))
  | (apply ev_orV; walk_at "ev"; (intro _; walk_at "ev"))
  | (apply ev_tup; walk_at "ed"; walk_at "side")
  | exact ev_nil
  | (apply ev_lst; walk_at "ed"; walk_at "side")
  | (apply ev_isi; walk_at "ev"; rfl; decide +kernel))
local macro_rules | `(tactic| walk_at "ea") => `(tactic| first
  | exact ea_nil
  | (apply ea_cons; walk_at "ev"; walk_at "ea"))
local macro_rules | `(tactic| walk_at "ed") => `(tactic| first
  | exact ed_nil
  | (apply ed_cons; walk_at "ev"; walk_at "ed"))
local macro_rules | `(tactic| walk_at "et") => `(tactic| first
  | exact et_yes
  | (apply et_and; walk_at "et"; (intro _; walk_at "et"))
  | (apply et_or; walk_at "et"; (intro _; walk_at "et"))
  | (apply et_not; walk_at "et")
  | (refine et_test (m := .now) ?_; walk_at "ev")
  | (refine et_B (m := .now) ?_; walk_at "ev"))
local macro_rules | `(tactic| walk_at "asg") => `(tactic| (first
  | (refine run_seq ?_; apply run_asg; walk_at "ev"; dsimp only [List.set])
  | (apply run_asg; walk_at "ev"; dsimp only [List.set])))
section
variable {P : Program} {w : World} {K : PySem.W.Frag} {mg : Str → Option Value} {base : Heap} {p : List Int} {f b R : Int}
theorem df_lt (T : Tx K mg) : Df P w K mg base "_law_least_told" 4 [] (spLeast K) := by
  refine T.d_l_least_told.df sc_l_least_told rfl (by decide) (fun _ _ _ _ _ _ us hl => match us, hl with | [_, _, _, _, _], _ => rfl) ?_
  intro f cdv A outer s H E hr
  refine ⟨rd_l_least_told K (spLeast K) [.non], tm_l_least_told T (df_least4 T) (dk_least T) hr, ?_⟩
  rintro ⟨⟨kd, p⟩, many, f, b, o⟩ h
  unfold rd_l_least_told
  show Run K E _ [.bor (PatD kd p), .dat (.int many), .dat (.int f), .dat (.int b), .dat (optD o)] _
  cases o with
  | none =>
    refine run_seq (run_ifT (et_test (m := .now) (ev_is (ev_dat rfl) ev_non rfl)) (run_ret ?_ rfl))
    exact ev_callD (out := fun a : (Bool × List Int) × Int × Int × Int × Option Int => optD (minOf (SW a.1.2 a.2.1 a.2.2.1 a.2.2.2.1 (dt a.2.2.1 a.2.2.2.1 a.2.2.2.2)))) (ms1 := [.now, .dat, .dat, .dat]) (ms2 := [.dat]) (ds := [PatD kd p, .int many, .int f, .int b]) (ds2 := [.non]) ((kd, p), many, f, b, none) h rfl rfl
      (ea_cons (ev_bor rfl).nw (by walk_at "ea")) fun H T => ⟨.non, trivial⟩
  | some c =>
    refine run_seq (run_ifF (et_test (m := .now) (ev_is (ev_dat rfl) ev_non rfl)) (run_next (run_ret ?_ rfl)))
    exact ev_callK (out := fun a : (Bool × List Int) × Int × Int × Int × Option Int => optD (minOf (SW a.1.2 a.2.1 a.2.2.1 a.2.2.2.1 (dt a.2.2.1 a.2.2.2.1 a.2.2.2.2)))) (ms1 := [.now, .dat, .dat, .dat]) (ms2 := [.dat]) (ds := [PatD kd p, .int many, .int f, .int b]) (ds2 := [optD (some c)]) ((kd, p), many, f, b, some c) h rfl rfl
      (ea_cons (ev_bor rfl).nw (by walk_at "ea")) (by walk_at "ea") rfl rfl
theorem df_ft (T : Tx K mg) : Df P w K mg base "_law_first_told" 4 [] (spFirst K) := by
  refine T.d_l_first_told.df sc_l_first_told rfl (by decide) (fun _ _ _ _ _ _ us hl => match us, hl with | [_, _, _, _], _ => rfl) ?_
  intro f cdv A outer s H E hr
  refine ⟨rd_l_first_told K (spFirst K) [.non], tm_l_first_told T (df_first3 T) (dk_first T) hr, ?_⟩
  rintro ⟨⟨kd, p⟩, f, b, o⟩ h
  unfold rd_l_first_told
  show Run K E _ [.bor (PatD kd p), .dat (.int f), .dat (.int b), .dat (optD o)] _
  cases o with
  | none =>
    refine run_seq (run_ifT (et_test (m := .now) (ev_is (ev_dat rfl) ev_non rfl)) (run_ret ?_ rfl))
    exact ev_callD (out := fun a : (Bool × List Int) × Int × Int × Option Int => optD (minOf (NW a.1.2 a.2.1 a.2.2.1 (dt a.2.1 a.2.2.1 a.2.2.2)))) (ms1 := [.now, .dat, .dat]) (ms2 := [.dat]) (ds := [PatD kd p, .int f, .int b]) (ds2 := [.non]) ((kd, p), f, b, none) h rfl rfl
      (ea_cons (ev_bor rfl).nw (by walk_at "ea")) fun H T => ⟨.non, trivial⟩
  | some c =>
    refine run_seq (run_ifF (et_test (m := .now) (ev_is (ev_dat rfl) ev_non rfl)) (run_next (run_ret ?_ rfl)))
    exact ev_callK (out := fun a : (Bool × List Int) × Int × Int × Option Int => optD (minOf (NW a.1.2 a.2.1 a.2.2.1 (dt a.2.1 a.2.2.1 a.2.2.2)))) (ms1 := [.now, .dat, .dat]) (ms2 := [.dat]) (ds := [PatD kd p, .int f, .int b]) (ds2 := [optD (some c)]) ((kd, p), f, b, some c) h rfl rfl
      (ea_cons (ev_bor rfl).nw (by walk_at "ea")) (by walk_at "ea") rfl rfl
/-! what each call is worth, in any frame -/
theorem ev_same {e : En} {m : Md} {ta tb : TE} {x y : Option Int} (ha : Ev K .now ta e (optD x)) (hb : Ev K .now tb e (optD y)) : Ev K m (tCall (spSame K 0) [] E0 (tCons ta (tCons tb tNil))) e (.bl (decide (x = y))) :=
  (ev_call (out := fun p : D × D => D.bl (sm p.1 p.2)) (optD x, optD y) ⟨optD_shp _ _, optD_pl _, by cases y <;> rfl⟩ (ea_cons ha (ea_cons hb ea_nil))).is (by show D.bl (sm (optD x) (optD y)) = _; rw [sm_opt])
theorem ev_least {e : En} {m : Md} {ta tb tc td te : TE} {kd : Bool} {p : List Int} {many f b : Int} {o : Option Int} (hp : okP p) (hm : 1 ≤ many) (hR : okR (dt f b o)) (ha : Ev K .now ta e (PatD kd p)) (hb : Ev K .dat tb e (.int many)) (hc : Ev K .dat tc e (.int f)) (hd : Ev K .dat td e (.int b)) (he : Ev K .dat te e (optD o)) :
    Ev K m (tCall (spLeast K) [] E0 (tCons ta (tCons tb (tCons tc (tCons td (tCons te tNil)))))) e (optD (minOf (SW p many f b (dt f b o)))) :=
  ev_call (out := fun a : (Bool × List Int) × Int × Int × Int × Option Int => optD (minOf (SW a.1.2 a.2.1 a.2.2.1 a.2.2.2.1 (dt a.2.2.1 a.2.2.2.1 a.2.2.2.2)))) ((kd, p), many, f, b, o) ⟨hp, hm, hR⟩ (ea_cons ha (ea_cons hb (ea_cons hc (ea_cons hd (ea_cons he ea_nil)))))
theorem ev_first {e : En} {m : Md} {ta tc td te : TE} {kd : Bool} {p : List Int} {f b : Int} {o : Option Int} (hp : okP p) (hR : okR (dt f b o)) (ha : Ev K .now ta e (PatD kd p)) (hc : Ev K .dat tc e (.int f)) (hd : Ev K .dat td e (.int b)) (he : Ev K .dat te e (optD o)) :
    Ev K m (tCall (spFirst K) [] E0 (tCons ta (tCons tc (tCons td (tCons te tNil))))) e (optD (minOf (NW p f b (dt f b o)))) :=
  ev_call (out := fun a : (Bool × List Int) × Int × Int × Option Int => optD (minOf (NW a.1.2 a.2.1 a.2.2.1 (dt a.2.1 a.2.2.1 a.2.2.2)))) ((kd, p), f, b, o) ⟨hp, hR⟩ (ea_cons ha (ea_cons hc (ea_cons hd (ea_cons he ea_nil))))
theorem ev_str0 {e : En} {m : Md} {ta tb tc td te : TE} {p : List Int} {many f b : Int} {o : Option Int} (hp : okP p) (hm : 2 ≤ many) (hR : okR (dt f b o)) (ha : Ev K .now ta e (rowD p)) (hb : Ev K .dat tb e (.int many)) (hc : Ev K .dat tc e (.int f)) (hd : Ev K .dat td e (.int b)) (he : Ev K .dat te e (optD o)) :
    Ev K m (tOp (rIx K) (tCall (spStr K) [] E0 (tCons ta (tCons tb (tCons tc (tCons td (tCons te tNil)))))) (tC (.int 0))) e (optD (minOf (SW p many f b (dt f b o)))) :=
  ev_ixT (ev_call (out := fun a : List Int × Int × Int × Int × Option Int => D.tup [optD (minOf (SW a.1 a.2.1 a.2.2.1 a.2.2.2.1 (dt a.2.2.1 a.2.2.2.1 a.2.2.2.2))), optD (minOf (NL a.1 a.2.2.1 a.2.2.2.1 (dt a.2.2.1 a.2.2.2.1 a.2.2.2.2) ((min a.2.1 54).toNat - 1)))]) (p, many, f, b, o) ⟨hp, hm, hR⟩ (ea_cons ha (ea_cons hb (ea_cons hc (ea_cons hd (ea_cons he ea_nil)))))) ev_int (at_nat (by decide) rfl)
theorem nw_eq {p : List Int} {f b R : Int} (hp : okP p) (hR : okR R) : minOf (NL p f b R 53) = minOf (NW p f b R) := by
  have key : ∃ o, MinIs (NL p f b R 53) o := by
    have fin : ∀ L : Nat, ∃ l : List Int, ∀ v, NL p f b R L v ↔ v ∈ l := by
      intro L
      have one : ∀ a j : Nat, ∃ l : List Int, ∀ v, (∃ u, Wn p f b R a j u ∧ v = ((a + j : Nat) : Int) + 1) ↔ v ∈ l := fun a j => by
        by_cases h : Wn p f b R a j (hs p a j)
        · exact ⟨[((a + j : Nat) : Int) + 1], fun v => by
            rw [List.mem_singleton]
            exact ⟨fun ⟨_, _, e⟩ => e, fun e => ⟨_, h, e⟩⟩⟩
        · exact ⟨[], fun v => ⟨fun ⟨u, hu, _⟩ => absurd (by rw [← hu.2.1]; exact hu) h, fun h => nomatch h⟩⟩
      refine ⟨(List.range (L + 1)).flatMap fun a => (List.range (L + 1)).flatMap fun j => if a + j ≤ L then Classical.choose (one a j) else [], fun v => ?_⟩
      simp only [List.mem_flatMap, List.mem_range]
      constructor
      · rintro ⟨a, j, u, h, w, e⟩
        exact ⟨a, by omega, j, by omega, by rw [if_pos h]; exact (Classical.choose_spec (one a j) v).mp ⟨u, w, e⟩⟩
      · rintro ⟨a, _, j, _, h⟩
        by_cases q : a + j ≤ L
        · rw [if_pos q] at h
          obtain ⟨u, w, e⟩ := (Classical.choose_spec (one a j) v).mpr h
          exact ⟨a, j, u, q, w, e⟩
        · rw [if_neg q] at h; cases h
    obtain ⟨l, hl⟩ := fin 53
    obtain ⟨o, ho⟩ := minIs_list l
    exact ⟨o, MinIs.congr (fun v => (hl v).symm) ho⟩
  obtain ⟨o, ho⟩ := key
  rw [ho.eq, (NL_all hp.1 hp.2.1 hp.2.2 hR.2 ho).eq]
theorem ev_str1 {e : En} {m : Md} {ta tc td te : TE} {p : List Int} {f b : Int} {o : Option Int} (hp : okP p) (hR : okR (dt f b o)) (ha : Ev K .now ta e (rowD p)) (hc : Ev K .dat tc e (.int f)) (hd : Ev K .dat td e (.int b)) (he : Ev K .dat te e (optD o)) :
    Ev K m (tOp (rIx K) (tCall (spStr K) [] E0 (tCons ta (tCons (tC (.int 54)) (tCons tc (tCons td (tCons te tNil)))))) (tC (.int 1))) e (optD (minOf (NW p f b (dt f b o)))) :=
  (ev_ixT (ev_call (out := fun a : List Int × Int × Int × Int × Option Int => D.tup [optD (minOf (SW a.1 a.2.1 a.2.2.1 a.2.2.2.1 (dt a.2.2.1 a.2.2.2.1 a.2.2.2.2))), optD (minOf (NL a.1 a.2.2.1 a.2.2.2.1 (dt a.2.2.1 a.2.2.2.1 a.2.2.2.2) ((min a.2.1 54).toNat - 1)))]) (p, 54, f, b, o) ⟨hp, (show (2 : Int) ≤ 54 by decide), hR⟩ (ea_cons ha (ea_cons ev_int (ea_cons hc (ea_cons hd (ea_cons he ea_nil)))))) ev_int (at_nat (by decide) rfl)).is (by
    show optD (minOf (NL p f b (dt f b o) 53)) = _
    rw [nw_eq hp hR])
/-! _law_turns -/
theorem sw_none {p : List Int} {many f b R : Int} (h : ∀ v, NW p f b R v → many < v) : minOf (SW p many f b R) = none := by
  apply MinIs.eq
  rintro v ⟨a, j, hm, w⟩
  have := h _ ⟨a, j, v, w, rfl⟩
  omega
abbrev spTurns (K : PySem.W.Frag) : Sp := SpP K [.now, .dat, .dat, .dat, .dat] (fun a : List Int × Int × Int × Option Int × Option Int => [rowD a.1, .int a.2.1, .int a.2.2.1, optD a.2.2.2.1, optD a.2.2.2.2])
  (fun a => okP a.1 ∧ okR (dt a.2.1 a.2.2.1 a.2.2.2.1) ∧ MinIs (NW a.1 a.2.1 a.2.2.1 (dt a.2.1 a.2.2.1 a.2.2.2.1)) a.2.2.2.2) (fun _ => .bl true)
theorem ev_lst_pat {e : En} {ta : TE} {p : List Int} (ha : Ev K .now ta e (rowD p)) : Ev K .now (tCB (rListU K) (tCons ta tNil)) e (PatD false p) := (evo_listI ha).dat
theorem ev_tup_pat {e : En} {ta : TE} {p : List Int} (ha : Ev K .now ta e (rowD p)) : Ev K .now (tCB (rTupU K) (tCons ta tNil)) e (PatD true p) := ev_tupI ha
theorem df_turns (T : Tx K mg) : Df P w K mg base "_law_turns" 4 [] (spTurns K) := by
  refine T.d_l_turns.df sc_l_turns rfl (by decide) (fun _ _ _ _ _ _ us hl => match us, hl with | [_, _, _, _, _], _ => rfl) ?_
  intro f cdv A outer s H E hr
  refine ⟨rd_l_turns K (spLeast K) (spStr K) (spSame K 0), tm_l_turns T (df_least T) (df_str T) (df_same T 0) hr, ?_⟩
  rintro ⟨p, f, b, o, near⟩ ⟨hp, hR, hn⟩
  simp only at hp hR hn
  unfold rd_l_turns
  show Run K E _ [.bor (rowD p), .dat (.int f), .dat (.int b), .dat (optD o), .dat (optD near), .no] _
  cases near with
  | none =>
    refine run_seq (run_ifT (et_test (m := .now) (ev_is (ev_dat rfl) ev_non rfl)) (run_ret (d := .bl true) ?_ rfl))
    refine ev_is (ev_least (kd := false) hp (many := 10 ^ (30 : Int).toNat) (by decide) hR (ev_lst_pat (ev_bor rfl).nw) (by walk_at "ev") (ev_dat rfl) (ev_dat rfl) (ev_dat rfl)) ev_non ?_
    rw [optD_isN, sw_none fun v hv => absurd hv (hn v)]
    rfl
  | some nr =>
    obtain ⟨⟨a, j, u, hw, e⟩, hmin⟩ := id hn
    have h2 : 2 ≤ nr := by have := hw.1; omega
    refine run_seq (run_ifF (et_test (m := .now) (ev_is (ev_dat rfl) ev_non rfl)) (run_next ?_))
    obtain ⟨lo, hlo⟩ : ∃ lo, lo = minOf (SW p nr f b (dt f b o)) := ⟨_, rfl⟩
    refine run_seq (run_asg (d := optD lo) ((ev_str0 hp h2 hR (ev_bor rfl).nw (ev_dat rfl) (ev_dat rfl) (ev_dat rfl) (ev_dat rfl)).is (by rw [hlo])) ?_)
    dsimp only [List.set]
    have hls : ∃ v, lo = some v := by
      cases lo with
      | some v => exact ⟨v, rfl⟩
      | none =>
        exfalso
        have hw2 : SW p nr f b (dt f b o) u := ⟨a, j, by omega, hw⟩
        obtain ⟨o', ho'⟩ : ∃ o', MinIs (SW p nr f b (dt f b o)) o' := by
          obtain ⟨o', ho⟩ := minIs_list ((fullL p nr f b (dt f b o) (firsts p nr)).map (·.2))
          exact ⟨o', MinIs.congr (fun v => by rw [← full_iff hp.1 hp.2.1 v, List.mem_map]) ho⟩
        rw [ho'.eq] at hlo
        subst hlo
        exact ho' u hw2
    obtain ⟨v, rfl⟩ := hls
    refine run_seq (run_ifF ((et_or (b := false) (c := false) (et_test (m := .now) (ev_is (ev_dat rfl) ev_non rfl)) fun _ => (et_not (et_B (m := .now) (ev_same (y := some v) (ev_least (kd := false) hp (by omega) hR (ev_lst_pat (ev_bor rfl).nw) (ev_dat rfl) (ev_dat rfl) (ev_dat rfl) (ev_dat rfl)) (ev_dat rfl)))).is (by rw [← hlo]; simp))) (run_next ?_))
    refine run_seq (run_ifD (p := 2 < nr) (by walk_at "et") (fun h3 => run_ret (d := .bl true) ?_ rfl) (fun h3 => run_next (run_ret ev_bl rfl)))
    refine ev_is (ev_least (kd := false) hp (many := nr - 1) (by omega) hR (ev_lst_pat (ev_bor rfl).nw) (by walk_at "ev") (ev_dat rfl) (ev_dat rfl) (ev_dat rfl)) ev_non ?_
    rw [optD_isN, sw_none fun v hv => by have := hmin v hv; omega]
    rfl
end
end Fh

set_option Elab.async false
set_option linter.all false
set_option maxRecDepth 100000
set_option maxHeartbeats 4000000
namespace Fh
open PySem PySem.Spec PyProof.Rows L2
local macro_rules | `(tactic| walk_at "side") => `(tactic| first
  | assumption | decide | omega
  | exact ⟨by decide, by decide⟩ | exact ⟨by omega, by omega⟩ | exact Or.inl ⟨by omega, by omega⟩ | exact Or.inr ⟨by omega, by omega⟩
  | exact ⟨by decide, by decide, by decide⟩ | exact sz (by simp) | exact szl (by simp) | rfl)
local macro_rules | `(tactic| walk_at "ev") => `(tactic| first
  | exact ev_int
  | exact ev_bl
  | exact ev_str
  | exact ev_non
  | exact ev_dat rfl
  | exact ev_bor rfl
  | exact (ev_bor rfl).nw
  | exact ev_own rfl
  | exact (ev_bor rfl).sc
  | exact (ev_bor rfl).scB
  | exact (ev_bor rfl).scS
  | exact (ev_bor rfl).scN
  | (apply ev_addI; walk_at "ev"; walk_at "ev")
  | (apply ev_subI; walk_at "ev"; walk_at "ev")
  | (apply ev_ltI; walk_at "ev"; walk_at "ev")
  | (apply ev_leI; walk_at "ev"; walk_at "ev")
  | (apply ev_gtI; walk_at "ev"; walk_at "ev")
  | (apply ev_geI; walk_at "ev"; walk_at "ev")
  | (apply ev_eqI; walk_at "ev"; walk_at "ev")
  | (apply ev_neI; walk_at "ev"; walk_at "ev")
  | (apply ev_eqS; walk_at "ev"; walk_at "ev")
  | (apply ev_neS; walk_at "ev"; walk_at "ev")
  | (apply ev_eqL; walk_at "ev"; walk_at "ev")
  | (apply ev_neL; walk_at "ev"; walk_at "ev")
  | (apply ev_max2; walk_at "ev"; walk_at "ev")
  | (apply ev_min2; walk_at "ev"; walk_at "ev")
  | (apply ev_mulI; walk_at "ev"; walk_at "ev"; walk_at "side")
  | (apply ev_divI; walk_at "ev"; walk_at "ev"; walk_at "side")
  | (apply ev_modI; walk_at "ev"; walk_at "ev"; walk_at "side")
  | (apply ev_powI; walk_at "ev"; walk_at "ev"; walk_at "side")
  | (apply ev_negI; walk_at "ev")
  | (apply ev_abs; walk_at "ev")
  | (apply ev_intc; walk_at "ev")
  | (apply ev_lenM; walk_at "ev")
  | (apply ev_lenTM; walk_at "ev")
  | (apply ev_len; walk_at "ev")
  | (apply ev_lenT; walk_at "ev")
  | (apply ev_sum; walk_at "ev")
  | (apply ev_notV; walk_at "ev")
  | (apply ev_tupI; walk_at "ev")
  | (apply ev_is; walk_at "ev"; walk_at "ev"; rfl)
  | (apply ev_isN; walk_at "ev"; walk_at "ev"; rfl)
  | (apply ev_ixI; walk_at "ev"; walk_at "ev"; walk_at "side"; walk_at "side")
  | (apply ev_ixIT; walk_at "ev"; walk_at "ev"; walk_at "side"; walk_at "side")
  | (apply ev_andV; walk_at "ev"; (intro _; walk_at "ev"))
  | (apply ev_orV; walk_at "ev"; (intro _; walk_at "ev"))
  | (apply ev_tup; walk_at "ed"; walk_at "side")
  | exact ev_nil
  | (apply ev_lst; walk_at "ed"; walk_at "side")
  | (apply ev_isi; walk_at "ev"; rfl; decide +kernel))
local macro_rules | `(tactic| walk_at "ea") => `(tactic| first
  | exact ea_nil
  | (apply ea_cons; walk_at "ev"; walk_at "ea"))
local macro_rules | `(tactic| walk_at "ed") => `(tactic| first
  | exact ed_nil
  | (apply ed_cons; walk_at "ev"; walk_at "ed"))
local macro_rules | `(tactic| walk_at "et") => `(tactic| first
  | exact et_yes
  | (apply et_and; walk_at "et"; (intro _; walk_at "et"))
  | (apply et_or; walk_at "et"; (intro _; walk_at "et"))
  | (apply et_not; walk_at "et")
  | (refine et_test (m := .now) ?_; walk_at "ev")
  | (refine et_B (m := .now) ?_; walk_at "ev"))
local macro_rules | `(tactic| walk_at "asg") => `(tactic| (first
  | (refine run_seq ?_; apply run_asg; walk_at "ev"; dsimp only [List.set])
  | (apply run_asg; walk_at "ev"; dsimp only [List.set])))
section
variable {P : Program} {w : World} {K : PySem.W.Frag} {mg : Str → Option Value} {base : Heap} {p : List Int} {f b R : Int}
theorem fm_ints {xs : List D} {g : D → Option D} {n : Nat} {h : Nat → Int} (hx : xs = rgD 0 n) (hg : ∀ i : Nat, g (.int (0 + (i : Nat))) = some (D.int (h i))) : xs.filterMap g = ((List.range n).map h).map D.int := by
  subst hx
  unfold rgD
  rw [List.filterMap_map, List.map_map, ← List.filterMap_eq_map]
  congr 1
  funext i
  exact hg i
theorem mem_map_range {h : Nat → Int} {n : Nat} {q : Int → Prop} (hq : ∀ i, q (h i)) : ∀ x ∈ (List.range n).map h, q x := fun x hx => by
  obtain ⟨i, _, rfl⟩ := List.mem_map.mp hx
  exact hq i
theorem setN {xs : List Int} {j : Nat} {v : Int} : (xs.map D.int).set j (.int v) = (xs.set j v).map D.int := by rw [List.map_set]
theorem nth_get {xs : List Int} {k : Nat} (h : k < xs.length) : nth xs (0 + (k : Nat)) = xs[k] := by
  unfold nth
  rw [Int.zero_add, show ((k : Nat) : Int).toNat = k by omega, List.getD_eq_getElem?_getD, List.getElem?_eq_getElem h]
  rfl
theorem ev_own_pat {e : En} {i : Nat} {p : List Int} (h : e[i]? = some (.own (.lst (p.map D.int)))) : Ev K .now (tVar i) e (PatD false p) := ev_own h
theorem body_law (T : Tx K mg) : BodyR P w K mg base "law" s_law N_law 4 [.now] (fun ns : List Int => [.rol (ns.map D.int)]) (fun ns => ns.length ≤ 63) (fun _ d => d = .bl true) := by
  intro f' cdv A outer s H E hr
  refine ⟨rd_law K (spPool K) (spNum K) (spStr K) (spSame K 0) (spLeast K) (spFirst K) (spLeast K) (spFirst K) (spTurns K), tm_law T (df_pool T) (df_num T) (df_str T) (df_same T 0) (df_lt T) (df_ft T) (df_least T) (df_first T) (df_turns T) hr, ?_⟩
  intro ns _
  unfold rd_law
  show Run K E _ [.bor (.rol (ns.map D.int)), .no, .no, .no, .no, .no, .no, .no, .no, .no, .no, .no, .no, .no, .no, .no] _
  refine run_seq (run_asgP (evp_call (out := fun (a : List Int × Nat) d => ∃ ms : List Int, d = rowD ms ∧ ms.length = a.2 ∧ Unit1000 ms) (ns, 27) (by show 27 ≤ 100000; decide) (ea_cons (ev_bor rfl).nw (ea_cons ev_int ea_nil))) ?_)
  rintro _ ⟨ps, rfl, hps, hu⟩
  simp only at hps
  dsimp only [List.set]
  have hpl : ((ps.length : Nat) : Int) = 27 := by omega
  have un := fun k => hu.nth k
  -- size
  obtain ⟨n, hn⟩ : ∃ n : Nat, (n : Int) = 1 + nth ps 0 % 6 := ⟨(1 + nth ps 0 % 6).toNat, by have := un 0; omega⟩
  have hn1 : 1 ≤ n ∧ n ≤ 6 := by have := un 0; omega
  refine run_seq (run_asg (d := .int (n : Nat)) ((ev_addI (i := 1) (j := nth ps 0 % 6) ev_int (by walk_at "ev")).is (by rw [hn])) ?_)
  dsimp only [List.set]
  have hnu : ∀ i : Nat, i < n → 1 + (i : Int) < (ps.length : Nat) := fun i hi => by omega
  -- pattern
  refine run_seq (run_asg (d := rowD ((List.range n).map fun i => 1 + nth ps (1 + (0 + (i : Nat))) % 4)) ?_ ?_)
  · refine ((ev_lcO (m := .dat) (xs := rgD 0 n) (fun d => match d with | .int x => some (D.int (1 + nth ps (1 + x) % 4)) | _ => none) ?_ (by rw [rgD_len]; exact sz (by omega)) ?_).dat).is ?_
    · exact ei_rng1 (m := .now) (n := (n : Nat)) (ea_cons (ev_dat rfl) ea_nil) (by omega) (by omega)
    · intro i d hd
      obtain ⟨hi, rfl⟩ := get_rg hd
      have := hnu i hi
      exact ⟨_, tg_dat, .inl ⟨_, et_yes, rfl, by walk_at "ev"⟩⟩
    · exact congrArg D.lst (fm_ints (h := fun i => 1 + nth ps (1 + (0 + (i : Nat))) % 4) rfl fun i => rfl)
  dsimp only [List.set]
  obtain ⟨p, hp⟩ : ∃ p, p = (List.range n).map fun i => 1 + nth ps (1 + (0 + (i : Nat))) % 4 := ⟨_, rfl⟩
  have okp : okP p ∧ p.length = n := by
    rw [hp]
    refine ⟨⟨mem_map_range fun i => ?_, by simp; omega, by simp; omega⟩, by simp⟩
    have := un (1 + (0 + (i : Nat)))
    omega
  rw [← hp]
  clear hp
  -- many
  have u8 := un 8
  walk_at "asg"
  refine run_seqM (fun e => ∃ many : Int, 2 ≤ many ∧ e = [.bor (.rol (ns.map D.int)), .dat (rowD ps), .dat (.int (n : Nat)), .dat (rowD p), .dat (.int many), .no, .no, .no, .no, .no, .no, .no, .no, .no, .no, .no]) ?_ ?_
  · refine run_ifD (p := nth ps 7 % 2 = 1) (by walk_at "et") (fun _ => ?_) (fun _ => run_next ⟨_, by omega, rfl⟩)
    obtain ⟨h1, h2⟩ := num_lt hu 9 10
    refine run_asg (d := .int (2 + num ps 9 10 % (10 ^ (30 : Int).toNat - 1))) (ev_addI ev_int (ev_modI (ev_intc (ev_call (out := fun a : List Int × Int => D.int (num a.1 a.2 10)) (ps, 9) ⟨(show (0 : Int) ≤ 9 by decide), by show (9 : Int) + 10 ≤ (ps.length : Nat); omega⟩ (ea_cons (ev_dat rfl) (ea_cons ev_int ea_nil)))) (by walk_at "ev") (by decide))) ⟨_, ?_, rfl⟩
    have := Int.emod_nonneg (num ps 9 10) (show ((10 : Int) ^ (30 : Int).toNat - 1) ≠ 0 by decide)
    omega
  rintro _ ⟨many, hm2, rfl⟩
  -- cap, low
  have u19 := un 19
  obtain ⟨cap, hcap, hcap2⟩ : ∃ cap : Int, atI [D.int 3, D.int 4, D.int 8, D.int 24] (nth ps 19 % 4) = some (.int cap) ∧ (3 ≤ cap ∧ cap ≤ 24) := by
    have h : nth ps 19 % 4 = 0 ∨ nth ps 19 % 4 = 1 ∨ nth ps 19 % 4 = 2 ∨ nth ps 19 % 4 = 3 := by omega
    rcases h with h | h | h | h <;> rw [h]
    · exact ⟨3, rfl, by decide⟩
    · exact ⟨4, rfl, by decide⟩
    · exact ⟨8, rfl, by decide⟩
    · exact ⟨24, rfl, by decide⟩
  refine run_seq (run_asg (d := .int cap) (ev_ixL (by walk_at "ev") (by walk_at "ev") hcap) ?_)
  dsimp only [List.set]
  obtain ⟨low, hlow⟩ : ∃ low : Int, low = 1 - nth ps 19 % 8 / 4 := ⟨_, rfl⟩
  have hlow2 : 0 ≤ low ∧ low ≤ 1 := by omega
  refine run_seq (run_asg (d := .int low) (by rw [hlow]; walk_at "ev") ?_)
  dsimp only [List.set]
  have hd : 0 < cap + 1 - low := by omega
  have w20 := Int.emod_nonneg (nth ps 20) (show cap + 1 - low ≠ 0 by omega)
  have w20' := Int.emod_lt_of_pos (nth ps 20) hd
  have w21 := Int.emod_nonneg (nth ps 21) (show cap + 1 - low ≠ 0 by omega)
  have w21' := Int.emod_lt_of_pos (nth ps 21) hd
  walk_at "asg"
  walk_at "asg"
  refine run_seqM (fun e => ∃ (p : List Int) (f b : Int) (s14 : Sl), okP p ∧ p.length = n ∧ (0 ≤ f ∧ f ≤ 24) ∧ (0 ≤ b ∧ b ≤ 24) ∧ e = [.bor (.rol (ns.map D.int)), .dat (rowD ps), .dat (.int (n : Nat)), .dat (rowD p), .dat (.int many), .dat (.int cap), .dat (.int low), .dat (.int f), .dat (.int b), .no, .no, .no, .no, .no, s14, .no]) ?_ ?_
  · refine run_ifD (p := nth ps 26 % 4 = 0) (by walk_at "et") (fun _ => ?_) (fun _ => run_next ⟨p, _, _, _, okp.1, okp.2, by omega, by omega, rfl⟩)
    refine run_seq (run_asg (d := rowD ((List.range n).map fun i => 1 + 3 * (nth ps (1 + (0 + (i : Nat))) % 2))) ?_ ?_)
    · refine ((ev_lcO (m := .dat) (xs := rgD 0 n) (fun d => match d with | .int x => some (D.int (1 + 3 * (nth ps (1 + x) % 2))) | _ => none) ?_ (by rw [rgD_len]; exact sz (by omega)) ?_).dat).is ?_
      · exact ei_rng1 (m := .now) (n := (n : Nat)) (ea_cons (ev_dat rfl) ea_nil) (by omega) (by omega)
      · intro i d hd
        obtain ⟨hi, rfl⟩ := get_rg hd
        have := hnu i hi
        exact ⟨_, tg_dat, .inl ⟨_, et_yes, rfl, by walk_at "ev"⟩⟩
      · exact congrArg D.lst (fm_ints (h := fun i => 1 + 3 * (nth ps (1 + (0 + (i : Nat))) % 2)) rfl fun i => rfl)
    dsimp only [List.set]
    walk_at "asg"
    refine run_asg (d := .int 3) ev_int ⟨_, 3, 3, _, ⟨mem_map_range fun i => ?_, by simp; omega, by simp; omega⟩, by simp, by decide, by decide, rfl⟩
    have := un (1 + (0 + (i : Nat)))
    omega
  clear okp p
  rintro _ ⟨p, f, b, s14, okp, hpn, hf, hb, rfl⟩
  -- joint
  walk_at "asg"
  have u22 := un 22
  have u23 := un 23
  refine run_seqM (fun e => ∃ o : Option Int, (∀ c, o = some c → 0 ≤ c) ∧ e = [.bor (.rol (ns.map D.int)), .dat (rowD ps), .dat (.int (n : Nat)), .dat (rowD p), .dat (.int many), .dat (.int cap), .dat (.int low), .dat (.int f), .dat (.int b), .dat (optD o), .no, .no, .no, .no, s14, .no]) ?_ ?_
  · refine run_ifD (p := nth ps 22 % 3 = 1) (by walk_at "et") (fun _ => ?_) (fun _ => run_next ⟨none, (fun c h => nomatch h), rfl⟩)
    exact run_asg (d := .int (nth ps 23 % 25)) (by walk_at "ev") ⟨some (nth ps 23 % 25), fun c h => by cases h; omega, rfl⟩
  rintro _ ⟨o, ho, rfl⟩
  refine run_seqM (fun e => ∃ o : Option Int, (∀ c, o = some c → 0 ≤ c) ∧ e = [.bor (.rol (ns.map D.int)), .dat (rowD ps), .dat (.int (n : Nat)), .dat (rowD p), .dat (.int many), .dat (.int cap), .dat (.int low), .dat (.int f), .dat (.int b), .dat (optD o), .no, .no, .no, .no, s14, .no]) ?_ ?_
  · refine run_ifD (p := nth ps 22 % 3 = 2) (by walk_at "et") (fun _ => ?_) (fun _ => run_next ⟨o, ho, rfl⟩)
    have := Int.emod_nonneg (nth ps 23) (show f + b + 2 ≠ 0 by omega)
    exact run_asg (d := .int (min 24 (nth ps 23 % (f + b + 2)))) (by walk_at "ev") ⟨some (min 24 (nth ps 23 % (f + b + 2))), fun c h => by cases h; omega, rfl⟩
  clear ho o
  rintro _ ⟨o, ho, rfl⟩
  have hR : okR (dt f b o) := by
    cases o with
    | none => exact ⟨by simp only [dt]; omega, by simp only [dt]; omega⟩
    | some c => have := ho c rfl; exact ⟨by simp only [dt]; omega, by simp only [dt]; omega⟩
  -- other
  refine run_seq (run_asgO (evo_listI (ev_dat rfl)) ?_)
  dsimp only [List.set]
  have u24 := un 24
  have u25 := un 25
  have w24 := Int.emod_nonneg (nth ps 24) (show (n : Int) ≠ 0 by omega)
  have w24' := Int.emod_lt_of_pos (nth ps 24) (show (0 : Int) < n by omega)
  obtain ⟨j, hj⟩ : ∃ j : Nat, j = (nth ps 24 % (n : Int)).toNat := ⟨_, rfl⟩
  obtain ⟨v, hv⟩ : ∃ v : Int, v = 1 + nth ps 25 % 4 := ⟨_, rfl⟩
  refine run_seq (run_setI (d := .int v) (k := nth ps 24 % (n : Int)) (j := j) (m := .dat) rfl (by rw [hv]; walk_at "ev") (by walk_at "ev") (ixN_len w24 (by rw [List.length_map, hpn]; exact w24') hj) ?_)
  dsimp only [List.set]
  rw [setN]
  obtain ⟨q, hq⟩ : ∃ q, q = p.set j v := ⟨_, rfl⟩
  rw [← hq]
  have okq : okP q ∧ q.length = n := by
    rw [hq]
    refine ⟨⟨fun x hx => ?_, by rw [List.length_set]; exact okp.2.1, by rw [List.length_set]; exact okp.2.2⟩, by rw [List.length_set]; exact hpn⟩
    rcases List.mem_or_eq_of_mem_set hx with h | h
    · exact okp.1 x h
    · omega
  clear hq
  refine run_give (i := 10) rfl ?_
  dsimp only [List.set, OD.d]
  -- least, nearest
  refine run_seq (run_asg (ev_str0 okp hm2 hR (ev_dat rfl) (ev_dat rfl) (ev_dat rfl) (ev_dat rfl) (ev_dat rfl)) ?_)
  dsimp only [List.set]
  refine run_seq (run_asg (ev_str1 okp hR (ev_dat rfl) (ev_dat rfl) (ev_dat rfl) (ev_dat rfl)) ?_)
  dsimp only [List.set]
  -- handed
  refine run_seq (run_asgO (evo_listI (ev_dat rfl)) ?_)
  dsimp only [List.set]
  have hm1 : 1 ≤ many := by omega
  refine run_seq (run_ifF ((et_not (et_B (m := .now) (ev_same (ev_least (kd := false) okp hm1 hR (ev_own_pat rfl) (ev_dat rfl) (ev_dat rfl) (ev_dat rfl) (ev_dat rfl)) (ev_dat rfl)))).is (by simp)) (run_next ?_))
  refine run_seq (run_ifF ((et_or (et_not (et_B (m := .now) (ev_same (ev_first (kd := false) okp hR (ev_own_pat rfl) (ev_dat rfl) (ev_dat rfl) (ev_dat rfl)) (ev_dat rfl)))) fun _ => et_test (m := .now) (ev_neL (ns := p) (ms := p) (ev_own_pat rfl) (ev_dat rfl))).is (by simp)) (run_next ?_))
  refine run_seq (run_ifF ((et_not (et_B (m := .now) (ev_same (ev_least (kd := true) okp hm1 hR (ev_tup_pat (ev_dat rfl)) (ev_dat rfl) (ev_dat rfl) (ev_dat rfl) (ev_dat rfl)) (ev_dat rfl)))).is (by simp)) (run_next ?_))
  refine run_seq (run_ifF ((et_not (et_B (m := .now) (ev_same (ev_first (kd := true) okp hR (ev_tup_pat (ev_dat rfl)) (ev_dat rfl) (ev_dat rfl) (ev_dat rfl)) (ev_dat rfl)))).is (by simp)) (run_next ?_))
  have hnear : MinIs (NW p f b (dt f b o)) (minOf (NW p f b (dt f b o))) := by
    have hx : ∃ o', MinIs (NW p f b (dt f b o)) o' := by
      obtain ⟨f1, f2⟩ := first_iff (f := f) (b := b) (R := dt f b o) okp.1 okp.2.1
      obtain ⟨o', h⟩ := minIs_list ((fullL p ((p.length : Int) + dt f b o) f b (dt f b o) (firsts p ((p.length : Int) + dt f b o))).map fun x => x.1 + 1)
      refine ⟨o', ?_⟩
      cases o' with
      | none =>
        intro u hu
        obtain ⟨x, hx, _⟩ := f2 u hu
        exact h _ (List.mem_map.mpr ⟨x, hx, rfl⟩)
      | some m =>
        obtain ⟨x, hx, e⟩ := List.mem_map.mp h.1
        refine ⟨by rw [← e]; exact f1 x hx, fun u hu => ?_⟩
        obtain ⟨y, hy, hle⟩ := f2 u hu
        exact Int.le_trans (h.2 _ (List.mem_map.mpr ⟨y, hy, rfl⟩)) hle
    obtain ⟨o', h⟩ := hx
    rw [h.eq]; exact h
  refine run_seq (run_ifF ((et_not (et_B (m := .now) (ev_call (out := fun _ : List Int × Int × Int × Option Int × Option Int => D.bl true) (p, f, b, o, minOf (NW p f b (dt f b o))) ⟨okp, hR, hnear⟩ (ea_cons (ev_dat rfl) (ea_cons (ev_dat rfl) (ea_cons (ev_dat rfl) (ea_cons (ev_dat rfl) (ea_cons (ev_dat rfl) ea_nil)))))))).is rfl) (run_next ?_))
  -- for k in range(size): handed[k] = other[k]
  refine run_seq (run_for (m := .dat) (ei_rng1 (m := .now) (n := (n : Nat)) (ea_cons (ev_dat rfl) ea_nil) (by omega) (by omega))
    (fun k e => ∃ (h : List Int) (s14 : Sl), h.length = n ∧ (∀ i, i < k → h[i]? = q[i]?) ∧ e = [.bor (.rol (ns.map D.int)), .dat (rowD ps), .dat (.int (n : Nat)), .dat (rowD p), .dat (.int many), .dat (.int cap), .dat (.int low), .dat (.int f), .dat (.int b), .dat (optD o), .dat (rowD q), .dat (optD (minOf (SW p many f b (dt f b o)))), .dat (optD (minOf (NW p f b (dt f b o)))), .own (.lst (h.map D.int)), s14, .no])
    ⟨p, s14, hpn, fun i hi => absurd hi (Nat.not_lt_zero i), rfl⟩ ?_ ?_)
  · rintro k _ _ hx ⟨h, s14, hl, hh, rfl⟩
    obtain ⟨hk, rfl⟩ := get_rg hx
    have hk2 : k < n := by omega
    refine ⟨_, [14], tg_dat, ?_⟩
    dsimp only [List.set]
    refine run_setI (d := .int (nth q (0 + (k : Nat)))) (k := 0 + (k : Nat)) (j := k) (m := .dat) rfl (ev_ixI (ev_dat rfl) (ev_dat rfl) (by omega) (by omega)) (ev_dat rfl) (ixN_len (by omega) (by rw [List.length_map, hl]; omega) (by omega)) ?_
    dsimp only [List.set]
    rw [setN]
    refine ⟨h.set k (nth q (0 + (k : Nat))), _, by rw [List.length_set]; exact hl, fun i hi => ?_, rfl⟩
    by_cases e : k = i
    · subst e
      rw [List.getElem?_set_self (by omega), nth_get (by omega), List.getElem?_eq_getElem (by omega)]
    · rw [List.getElem?_set_ne e]
      exact hh i (by omega)
  rintro _ ⟨h, s14', hl, hh, rfl⟩
  have ehq : h = q := by
    apply List.ext_getElem?
    intro i
    by_cases hi : i < n
    · exact hh i (by rw [rgD_len]; omega)
    · rw [List.getElem?_eq_none (by omega), List.getElem?_eq_none (by omega)]
  subst ehq
  refine run_seq (run_asg (ev_str0 okq.1 hm2 hR (ev_dat rfl) (ev_dat rfl) (ev_dat rfl) (ev_dat rfl) (ev_dat rfl)) ?_)
  dsimp only [List.set]
  refine run_seq (run_ifF ((et_or (et_not (et_B (m := .now) (ev_same (ev_least (kd := false) okq.1 hm1 hR (ev_own_pat rfl) (ev_dat rfl) (ev_dat rfl) (ev_dat rfl) (ev_dat rfl)) (ev_dat rfl)))) fun _ => et_test (m := .now) (ev_neL (ns := h) (ms := h) (ev_own_pat rfl) (ev_dat rfl))).is (by simp)) (run_next ?_))
  refine run_seq (run_asg (ev_str1 okq.1 hR (ev_dat rfl) (ev_dat rfl) (ev_dat rfl) (ev_dat rfl)) ?_)
  dsimp only [List.set]
  refine run_seq (run_ifF ((et_not (et_B (m := .now) (ev_same (ev_first (kd := false) okq.1 hR (ev_own_pat rfl) (ev_dat rfl) (ev_dat rfl) (ev_dat rfl)) (ev_dat rfl)))).is (by simp)) (run_next ?_))
  exact run_ret ((ev_same (ev_least (kd := false) okp hm1 hR (ev_lst_pat (ev_dat rfl)) (ev_dat rfl) (ev_dat rfl) (ev_dat rfl) (ev_dat rfl)) (ev_dat rfl)).is (by simp)) rfl
end
end Fh

set_option Elab.async false
set_option linter.all false
set_option maxRecDepth 100000
set_option maxHeartbeats 0
namespace Fh
open PySem PySem.Spec PyProof.Rows L2
/-! ### the head (printed by genend.py) -/
def dd_dishes_together : He.DefD := ⟨("dishes_together", none), "dishes_together", "dishes_together", defArgs s_dishes_together, defBody s_dishes_together, defScope s_dishes_together, [], []⟩
def dd_full_stretches : He.DefD := ⟨("full_stretches", none), "full_stretches", "full_stretches", defArgs s_full_stretches, defBody s_full_stretches, defScope s_full_stretches, [], []⟩
def dd_row_least : He.DefD := ⟨("row_least", none), "row_least", "row_least", defArgs s_row_least, defBody s_row_least, defScope s_row_least, [.non], []⟩
def dd_row_first_stuck : He.DefD := ⟨("row_first_stuck", none), "row_first_stuck", "row_first_stuck", defArgs s_row_first_stuck, defBody s_row_first_stuck, defScope s_row_first_stuck, [.non], []⟩
def dd_l_mixed : He.DefD := ⟨("_law_mixed", none), "_law_mixed", "_law_mixed", defArgs s_l_mixed, defBody s_l_mixed, defScope s_l_mixed, [], []⟩
def dd_l_pool : He.DefD := ⟨("_law_pool", none), "_law_pool", "_law_pool", defArgs s_l_pool, defBody s_l_pool, defScope s_l_pool, [], []⟩
def dd_l_same : He.DefD := ⟨("_law_same", none), "_law_same", "_law_same", defArgs s_l_same, defBody s_l_same, defScope s_l_same, [], []⟩
def dd_l_number : He.DefD := ⟨("_law_number", none), "_law_number", "_law_number", defArgs s_l_number, defBody s_l_number, defScope s_l_number, [], []⟩
def dd_l_stretches : He.DefD := ⟨("_law_stretches", none), "_law_stretches", "_law_stretches", defArgs s_l_stretches, defBody s_l_stretches, defScope s_l_stretches, [], []⟩
def dd_l_least_told : He.DefD := ⟨("_law_least_told", none), "_law_least_told", "_law_least_told", defArgs s_l_least_told, defBody s_l_least_told, defScope s_l_least_told, [], []⟩
def dd_l_first_told : He.DefD := ⟨("_law_first_told", none), "_law_first_told", "_law_first_told", defArgs s_l_first_told, defBody s_l_first_told, defScope s_l_first_told, [], []⟩
def dd_l_turns : He.DefD := ⟨("_law_turns", none), "_law_turns", "_law_turns", defArgs s_l_turns, defBody s_l_turns, defScope s_l_turns, [], []⟩
def dd_law : He.DefD := ⟨("law", none), "law", "law", defArgs s_law, defBody s_law, defScope s_law, [], []⟩
def fn : List He.DefD := [dd_dishes_together, dd_full_stretches, dd_row_least, dd_row_first_stuck, dd_l_mixed, dd_l_pool, dd_l_same, dd_l_number, dd_l_stretches, dd_l_least_told, dd_l_first_told, dd_l_turns, dd_law]
def fa : List He.Fa := [.glo "dishes_together", .glo "full_stretches", .glo "row_least", .glo "row_first_stuck", .glo "_law_mixed", .glo "_law_pool", .glo "_law_same", .glo "_law_number", .glo "_law_stretches", .glo "_law_least_told", .glo "_law_first_told", .glo "_law_turns", .glo "law", .free "abs", .free "bool", .free "int", .free "isinstance", .free "len", .free "list", .free "min", .free "range", .free "str", .free "tuple"]
abbrev R : PySem.W.OpenRow := PySem.W.OpenLaw.row PySem.Challenge.rw_fullhands_k60_long_rows
abbrev hk : PySem.W.Hook := He.hookD 4 fa fn
def ob (s : PySem.W.SharedT) : He.AlD := He.obsDG 4 fa fn (HandSHeadRun.getT s)
theorem ob_eq (s : PySem.W.SharedT) : ob s = hk.obs s.abs := He.obsDG_eq (HandSHeadRun.getT_eq s)
def names : List Str := (["dishes_together", "full_stretches", "row_least", "row_first_stuck", "_law_mixed", "_law_pool", "_law_same", "_law_number", "_law_stretches", "_law_least_told", "_law_first_told", "_law_turns"] : List Str)
theorem headrun (w : World) : HandSHeadRun.RunEq R (PySem.W.view R.prog [14]) hk ob 4000 names w := by
  intro os
  kernel_rfl
theorem tx_of {K : PySem.W.Frag} {h : Heap} {mg : Str → Option Value} (X : K.In h) (G : h.Ns mainGlobals mg) (c : He.SaysD fa fn K) : Tx K mg where
  d_dishes_together := by
    obtain ⟨fd, F⟩ := c.def_ 0 (d := dd_dishes_together) rfl
    exact ⟨_, fd, F, He.glo_ok X G (c.fact 0 (f := .glo "dishes_together") rfl)⟩
  d_full_stretches := by
    obtain ⟨fd, F⟩ := c.def_ 1 (d := dd_full_stretches) rfl
    exact ⟨_, fd, F, He.glo_ok X G (c.fact 1 (f := .glo "full_stretches") rfl)⟩
  d_row_least := by
    obtain ⟨fd, F⟩ := c.def_ 2 (d := dd_row_least) rfl
    exact ⟨_, fd, F, He.glo_ok X G (c.fact 2 (f := .glo "row_least") rfl)⟩
  d_row_first_stuck := by
    obtain ⟨fd, F⟩ := c.def_ 3 (d := dd_row_first_stuck) rfl
    exact ⟨_, fd, F, He.glo_ok X G (c.fact 3 (f := .glo "row_first_stuck") rfl)⟩
  d_l_mixed := by
    obtain ⟨fd, F⟩ := c.def_ 4 (d := dd_l_mixed) rfl
    exact ⟨_, fd, F, He.glo_ok X G (c.fact 4 (f := .glo "_law_mixed") rfl)⟩
  d_l_pool := by
    obtain ⟨fd, F⟩ := c.def_ 5 (d := dd_l_pool) rfl
    exact ⟨_, fd, F, He.glo_ok X G (c.fact 5 (f := .glo "_law_pool") rfl)⟩
  d_l_same := by
    obtain ⟨fd, F⟩ := c.def_ 6 (d := dd_l_same) rfl
    exact ⟨_, fd, F, He.glo_ok X G (c.fact 6 (f := .glo "_law_same") rfl)⟩
  d_l_number := by
    obtain ⟨fd, F⟩ := c.def_ 7 (d := dd_l_number) rfl
    exact ⟨_, fd, F, He.glo_ok X G (c.fact 7 (f := .glo "_law_number") rfl)⟩
  d_l_stretches := by
    obtain ⟨fd, F⟩ := c.def_ 8 (d := dd_l_stretches) rfl
    exact ⟨_, fd, F, He.glo_ok X G (c.fact 8 (f := .glo "_law_stretches") rfl)⟩
  d_l_least_told := by
    obtain ⟨fd, F⟩ := c.def_ 9 (d := dd_l_least_told) rfl
    exact ⟨_, fd, F, He.glo_ok X G (c.fact 9 (f := .glo "_law_least_told") rfl)⟩
  d_l_first_told := by
    obtain ⟨fd, F⟩ := c.def_ 10 (d := dd_l_first_told) rfl
    exact ⟨_, fd, F, He.glo_ok X G (c.fact 10 (f := .glo "_law_first_told") rfl)⟩
  d_l_turns := by
    obtain ⟨fd, F⟩ := c.def_ 11 (d := dd_l_turns) rfl
    exact ⟨_, fd, F, He.glo_ok X G (c.fact 11 (f := .glo "_law_turns") rfl)⟩
  d_law := by
    obtain ⟨fd, F⟩ := c.def_ 12 (d := dd_law) rfl
    exact ⟨_, fd, F, He.glo_ok X G (c.fact 12 (f := .glo "law") rfl)⟩
  f_abs := He.free_ok X G (c.fact 13 (f := .free "abs") rfl)
  f_bool := He.free_ok X G (c.fact 14 (f := .free "bool") rfl)
  f_int := He.free_ok X G (c.fact 15 (f := .free "int") rfl)
  f_isinstance := He.free_ok X G (c.fact 16 (f := .free "isinstance") rfl)
  f_len := He.free_ok X G (c.fact 17 (f := .free "len") rfl)
  f_list := He.free_ok X G (c.fact 18 (f := .free "list") rfl)
  f_min := He.free_ok X G (c.fact 19 (f := .free "min") rfl)
  f_range := He.free_ok X G (c.fact 20 (f := .free "range") rfl)
  f_str := He.free_ok X G (c.fact 21 (f := .free "str") rfl)
  f_tuple := He.free_ok X G (c.fact 22 (f := .free "tuple") rfl)
def spLaw (K : PySem.W.Frag) : Sp := SpR K [.now] (fun ns : List Int => [.rol (ns.map D.int)]) (fun ns => ns.length ≤ 63) (fun _ d => d = .bl true)
theorem facts {P : Program} {w : World} {K : PySem.W.Frag} {h : Heap} {mg : Str → Option Value} {f : Addr} (X : K.In h) (G : h.Ns mainGlobals mg) (hfa : mg ("law" : Str) = some (.ref f)) (c : He.SaysD fa fn K) :
    ∃ fd : FuncData, (∀ (s : Shared) (v : Value), BindsTo s fd ⟨[v], []⟩ [("script", v)]) ∧ ∀ base : Heap, K.In base → base.Ns mainGlobals mg → FnOk P w K mg base CX0 5 f fd ["script"] (spLaw K) := by
  have T : Tx K mg := tx_of X G c
  obtain ⟨f', fd, F, e'⟩ := T.d_law
  have e := hfa.symm.trans e'
  cases e
  have b := FunD.bindsA (ps := ["script"]) F fun _ _ _ _ _ _ us hl => match us, hl with | [_], _ => rfl
  exact ⟨fd, fun s v => b s [v] rfl, fun base _ _ => fn_ok F sc_law rfl (by decide) (body_law T)⟩
end Fh
open PySem PySem.W PySem.Calls PyProof.Rows
set_option maxRecDepth 100000 in
set_option maxHeartbeats 0 in
theorem PySem.Challenge.cw_fullhands_k60_long_rows_holds : PySem.Challenge.rw_fullhands_k60_long_rows.Holds := by
  w_on; o_law
  refine HandSHeadRun.head_any (r := OpenLaw.row PySem.Challenge.rw_fullhands_k60_long_rows) (q := view (OpenLaw.row PySem.Challenge.rw_fullhands_k60_long_rows).prog [14]) (H := Fh.hk) (ob := Fh.ob) (M := 4000) (loose := Fh.names) (d := HandSHeadRun.topDef (OpenLaw.row PySem.Challenge.rw_fullhands_k60_long_rows).prog 14) (kwd := []) Fh.ob_eq
    (by kernel_rfl) (fun s => by kernel_rfl) Fh.headrun (by kernel_rfl) (by kernel_rfl) (by kernel_rfl) (by rfl) (by first | assumption | decide +kernel) (by decide +kernel) ⟨rfl, rfl, rfl, rfl, rfl, by decide +kernel⟩ ?hw ?hc
  case hw => w_witness2
  case hc =>
    refine L2.walk_ofE (l := PySem.Challenge.rw_fullhands_k60_long_rows) (n := 63) (k := 5) (x := "script") (CX := L2.CX0) rfl (by decide) (by kernel_rfl) ⟨rfl, by decide, by decide⟩ ?F (fun _ _ _ _ z => z)
    intro w mg fa h Y G hmg0
    obtain ⟨K, KX, c⟩ := Y
    have hmg : mg ("law" : PySem.Str) = some (.ref fa) := by
      have e : (HandSHeadRun.topDef (OpenLaw.row PySem.Challenge.rw_fullhands_k60_long_rows).prog 14).name = ("law" : PySem.Str) := by kernel_rfl
      rw [← e]
      exact hmg0
    obtain ⟨fd, hb, hF⟩ := Fh.facts (P := (PySem.Challenge.rw_fullhands_k60_long_rows).prog) (w := w) KX G hmg c
    refine ⟨K, fd, Fh.spLaw K, KX, hb, fun H a ns hl _ hS => ⟨fun _ => none, ns, (fun _ _ z => nomatch z), hl, ⟨.rol hS (Fh.iss_ints ns), trivial⟩, fun d v H' T' hd _ i => ?_⟩, hF⟩
    subst hd
    cases i
    rfl

