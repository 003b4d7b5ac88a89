import PyProof.Rows.All
import Wide.All
import OpenK.AllK
import Wide.FinOn
import HandS.ForMost
import HandS.ForExc
import HandS.IsInst
import HandS.Style
import HandS.Wide
import HandS.WideMore
import HandS.Defaults
import HandS.TupAny
import KE.KStateDown
import Lean
import HandS.Head0
import HandS.Head1
import HandS.Head2
import HandS.HeadEnd
import HandS.HeadHook1
import HandS.HeadHook2
import HandS.HeadHook3
import HandS.ExcInit
import HandS.ExcValue
import HandS.ExcIs
import HandS.ExcField
import KE.KExcIs
import HandS.CallSlots
import HandS.TryMany
import KE.GoesMore
import HandS.RaiseMore
import KE.DatumIndex
import KE.DatumOrd
import KE.SortData
import HandS.TupSets
import HandS.SetKeys
import HandS.Conv
import HandS.MakeKw
import HandS.MakeKwOnly
import HandS.Property
import HandS.SlotsOwn
import HandS.OwnIter
import HandS.IterVal
import PyProof.CollectIter
import HandS.Lambda
import KE.KOpsOwn
import PySem.Challenge.RW_fullhands_k62_loads_added
set_option Elab.async false
set_option linter.all false
set_option maxRecDepth 100000
set_option maxHeartbeats 4000000
/-! Fh: data as a whole (D), what stands for it in the heap (Is), a frame of slots (Sat), what an expression is worth (Ev), what a statement does (Ex) -/
namespace Fh
open PySem PySem.Spec PyProof.Rows L2

/-! ### data -/
inductive D where
  | non | bl (b : Bool) | int (i : Int) | str (x : Str)
  | lst (xs : List D) | tup (xs : List D)
  | ins (C : Addr) (fs : List (Str × D))
  | raw (v : V)
  /-- a list that is only read (the script, a table of the module) -/
  | rol (xs : List D)
  /-- whatever stays as the heap grows: an exception, a set, .. -/
  | abs (p : Hp → V → Prop)

/-- what was there is there -/
def Le (H H' : Hp) : Prop := ∀ a o, H a = some o → H' a = some o
theorem Le.refl (H : Hp) : Le H H := fun _ _ h => h
theorem Le.trans {H H1 H2 : Hp} (a : Le H H1) (b : Le H1 H2) : Le H H2 := fun x o h => b x o (a x o h)
theorem Le.back {H H' : Hp} (e : Le H H') {l : Addr} (h : H' l = none) : H l = none := by
  cases q : H l with
  | none => rfl
  | some o => rw [e l o q] at h; cases h
theorem Le.new {H : Hp} {p : Addr} {o : HO} (h : H p = none) : Le H (upd H p o) := fun a u e => by
  rw [upd_ne (ne_of_none e h)]; exact e
theorem Le.rd {H H' : Hp} (e : Le H H') {a : Addr} {u : HO} (h : Rd H a u) : Rd H' a u := by
  rcases h with h | ⟨o, h⟩
  · exact .inl (e _ _ h)
  · exact .inr ⟨o, e _ _ h⟩
theorem Le.sqL {K : PySem.W.Frag} {H H' : Hp} {a : Addr} {xs : List V} (e : Le H H') (h : SqL K H a xs) : SqL K H' a xs := by
  rcases h with h | h
  · exact .inl (e.rd h)
  · exact .inr h
theorem Le.sqT {K : PySem.W.Frag} {H H' : Hp} {a : Addr} {xs : List V} (e : Le H H') (h : SqT K H a xs) : SqT K H' a xs := by
  rcases h with h | h
  · exact .inl (e.rd h)
  · exact .inr h
/-- the object there has no dict -/
def NoD (K : PySem.W.Frag) (H : Hp) (a : Addr) : Prop := (∃ o, K.lookup a = some o ∧ o.dict = none) ∨ ∃ o u, H a = some (.frz o u) ∧ o.dict = none
theorem Le.noD {K : PySem.W.Frag} {H H' : Hp} {a : Addr} (e : Le H H') (h : NoD K H a) : NoD K H' a := by
  rcases h with h | ⟨o, u, h, hd⟩
  · exact .inl h
  · exact .inr ⟨o, u, e _ _ h, hd⟩
/-- a tuple without a dict -/
structure SqN (K : PySem.W.Frag) (H : Hp) (a : Addr) (xs : List V) : Prop where
  t : SqT K H a xs
  n : NoD K H a
theorem SqN.of {K : PySem.W.Frag} {H : Hp} {a : Addr} {xs : List V} {o : Obj} (h : H a = some (.frz o (.tup xs))) (hd : o.dict = none) : SqN K H a xs := ⟨.inl (.inr ⟨o, h⟩), .inr ⟨o, _, h, hd⟩⟩
theorem Le.sqN {K : PySem.W.Frag} {H H' : Hp} {a : Addr} {xs : List V} (e : Le H H') (h : SqN K H a xs) : SqN K H' a xs := ⟨e.sqT h.t, e.noD h.n⟩

mutual
inductive Is (K : PySem.W.Frag) (H : Hp) : V → D → Prop
  | non : Is K H .non .non
  | bl (b : Bool) : Is K H (.bl b) (.bl b)
  | int (i : Int) : Is K H (.int i) (.int i)
  | str (x : Str) : Is K H (.str x) (.str x)
  | raw (v : V) : Is K H v (.raw v)
  | lst {a : Addr} {vs : List V} {ds : List D} : H a = some (.lst vs) → Iss K H vs ds → ds.length ≤ sizeLine → Is K H (.ref a) (.lst ds)
  | tup {a : Addr} {vs : List V} {ds : List D} : SqN K H a vs → Iss K H vs ds → ds.length ≤ sizeLine → Is K H (.ref a) (.tup ds)
  | rol {a : Addr} {vs : List V} {ds : List D} : SqL K H a vs → Iss K H vs ds → ds.length ≤ sizeLine → Is K H (.ref a) (.rol ds)
  | ins {a C dx : Addr} {fvs : List (Str × V)} {fs : List (Str × D)} : H a = some (.ins C dx fvs) → Isf K H fvs fs → Is K H (.ref a) (.ins C fs)
  | abs {v : V} {p : Hp → V → Prop} : (∀ H', Le H H' → p H' v) → Is K H v (.abs p)
inductive Iss (K : PySem.W.Frag) (H : Hp) : List V → List D → Prop
  | nil : Iss K H [] []
  | cons {v : V} {vs : List V} {d : D} {ds : List D} : Is K H v d → Iss K H vs ds → Iss K H (v :: vs) (d :: ds)
inductive Isf (K : PySem.W.Frag) (H : Hp) : List (Str × V) → List (Str × D) → Prop
  | nil : Isf K H [] []
  | cons {f : Str} {v : V} {vs : List (Str × V)} {d : D} {ds : List (Str × D)} : Is K H v d → Isf K H vs ds → Isf K H ((f, v) :: vs) ((f, d) :: ds)
end

section
variable {K : PySem.W.Frag} {H H' : Hp}
mutual
theorem Is.mono (e : Le H H') : ∀ (d : D) {v : V}, Is K H v d → Is K H' v d
  | .non, _, h => by cases h; exact .non
  | .bl b, _, h => by cases h; exact .bl b
  | .int i, _, h => by cases h; exact .int i
  | .str x, _, h => by cases h; exact .str x
  | .raw v, _, h => by cases h; exact .raw v
  | .abs p, _, h => by
    cases h with
    | abs hh => exact .abs fun H2 e2 => hh H2 (e.trans e2)
  | .lst ds, _, h => by
    cases h with
    | lst hs ha hz => exact .lst (e _ _ hs) (Iss.mono e ds ha) hz
  | .tup ds, _, h => by
    cases h with
    | tup hs ha hz => exact .tup (e.sqN hs) (Iss.mono e ds ha) hz
  | .rol ds, _, h => by
    cases h with
    | rol hs ha hz => exact .rol (e.sqL hs) (Iss.mono e ds ha) hz
  | .ins C fs, _, h => by
    cases h with
    | ins hs ha => exact .ins (e _ _ hs) (Isf.mono e fs ha)
theorem Iss.mono (e : Le H H') : ∀ (ds : List D) {vs : List V}, Iss K H vs ds → Iss K H' vs ds
  | [], _, h => by cases h; exact .nil
  | d :: ds, _, h => by
    cases h with
    | cons h1 h2 => exact .cons (Is.mono e d h1) (Iss.mono e ds h2)
theorem Isf.mono (e : Le H H') : ∀ (ds : List (Str × D)) {vs : List (Str × V)}, Isf K H vs ds → Isf K H' vs ds
  | [], _, h => by cases h; exact .nil
  | (f, d) :: ds, _, h => by
    cases h with
    | cons h1 h2 => exact .cons (Is.mono e d h1) (Isf.mono e ds h2)
end

theorem Iss.length : ∀ {ds : List D} {vs : List V}, Iss K H vs ds → vs.length = ds.length
  | [], _, h => by cases h; rfl
  | _ :: ds, _, h => by
    cases h with
    | cons _ h2 => rw [List.length_cons, List.length_cons, h2.length]
theorem Iss.get : ∀ {ds : List D} {vs : List V} {i : Nat} {d : D}, Iss K H vs ds → ds[i]? = some d → ∃ v, vs[i]? = some v ∧ Is K H v d
  | [], _, _, _, _, e => by simp at e
  | _ :: ds, _, 0, _, h, e => by
    cases h with
    | cons h1 _ => simp at e; subst e; exact ⟨_, rfl, h1⟩
  | _ :: ds, _, i + 1, _, h, e => by
    cases h with
    | cons _ h2 =>
      obtain ⟨v, q, r⟩ := h2.get (i := i) (by simpa using e)
      exact ⟨v, by simpa using q, r⟩
theorem Iss.getV : ∀ {ds : List D} {vs : List V} {i : Nat} {v : V}, Iss K H vs ds → vs[i]? = some v → ∃ d, ds[i]? = some d ∧ Is K H v d := fun {ds vs i v} h e => by
  have hi : i < ds.length := by rw [← h.length]; exact (List.getElem?_eq_some_iff.mp e).1
  obtain ⟨u, q, r⟩ := h.get (List.getElem?_eq_getElem hi)
  rw [e] at q; cases q
  exact ⟨_, List.getElem?_eq_getElem hi, r⟩
theorem Iss.append : ∀ {ds es : List D} {vs us : List V}, Iss K H vs ds → Iss K H us es → Iss K H (vs ++ us) (ds ++ es)
  | [], _, _, _, h, g => by cases h; exact g
  | _ :: ds, _, _, _, h, g => by
    cases h with
    | cons h1 h2 => exact .cons h1 (h2.append g)
theorem Iss.set : ∀ {ds : List D} {vs : List V} (i : Nat) {v : V} {d : D}, Iss K H vs ds → Is K H v d → Iss K H (vs.set i v) (ds.set i d)
  | [], _, _, _, _, h, _ => by cases h; exact .nil
  | _ :: ds, _, 0, _, _, h, g => by
    cases h with
    | cons _ h2 => exact .cons g h2
  | _ :: ds, _, i + 1, _, _, h, g => by
    cases h with
    | cons h1 h2 => exact .cons h1 (h2.set i g)
theorem Iss.drop : ∀ {ds : List D} {vs : List V} (n : Nat), Iss K H vs ds → Iss K H (vs.drop n) (ds.drop n)
  | _, _, 0, h => h
  | [], _, n + 1, h => by cases h; exact .nil
  | _ :: ds, _, n + 1, h => by
    cases h with
    | cons _ h2 => exact h2.drop n
theorem Iss.take : ∀ {ds : List D} {vs : List V} (n : Nat), Iss K H vs ds → Iss K H (vs.take n) (ds.take n)
  | _, _, 0, _ => .nil
  | [], _, n + 1, h => by cases h; exact .nil
  | _ :: ds, _, n + 1, h => by
    cases h with
    | cons h1 h2 => exact .cons h1 (h2.take n)
theorem Iss.reverse : ∀ {ds : List D} {vs : List V}, Iss K H vs ds → Iss K H vs.reverse ds.reverse
  | [], _, h => by cases h; exact .nil
  | _ :: ds, _, h => by
    cases h with
    | cons h1 h2 =>
      rw [List.reverse_cons, List.reverse_cons]
      exact h2.reverse.append (.cons h1 .nil)
theorem Iss.dropLast {ds : List D} {vs : List V} (h : Iss K H vs ds) : Iss K H vs.dropLast ds.dropLast := by
  rw [List.dropLast_eq_take, List.dropLast_eq_take, h.length]
  exact h.take _
theorem Iss.ints : ∀ {ns : List Int} {vs : List V}, Iss K H vs (ns.map D.int) → vs = ns.map V.int
  | [], _, h => by cases h; rfl
  | n :: ns, _, h => by
    cases h with
    | cons h1 h2 => cases h1; rw [h2.ints]; rfl
theorem iss_ints : ∀ ns : List Int, Iss K H (ns.map V.int) (ns.map D.int)
  | [] => .nil
  | n :: ns => .cons (.int n) (iss_ints ns)
theorem Iss.bls : ∀ {ns : List Bool} {vs : List V}, Iss K H vs (ns.map D.bl) → vs = ns.map V.bl
  | [], _, h => by cases h; rfl
  | n :: ns, _, h => by
    cases h with
    | cons h1 h2 => cases h1; rw [h2.bls]; rfl
theorem iss_bls : ∀ ns : List Bool, Iss K H (ns.map V.bl) (ns.map D.bl)
  | [] => .nil
  | n :: ns => .cons (.bl n) (iss_bls ns)
theorem Isf.lookup : ∀ {fs : List (Str × D)} {vs : List (Str × V)} {f : Str} {d : D}, Isf K H vs fs → fs.lookup f = some d → ∃ v, vs.lookup f = some v ∧ Is K H v d
  | [], _, _, _, _, e => by simp at e
  | (g, x) :: fs, _, f, d, h, e => by
    cases h with
    | cons h1 h2 =>
      by_cases q : (f == g) = true
      · rw [List.lookup_cons, q] at e
        rw [List.lookup_cons, q]
        have e' : x = d := Option.some.inj e
        subst e'
        exact ⟨_, rfl, h1⟩
      · have q' : (f == g) = false := by simpa using q
        rw [List.lookup_cons, q'] at e
        rw [List.lookup_cons, q']
        exact h2.lookup e
theorem Isf.lookup_none : ∀ {fs : List (Str × D)} {vs : List (Str × V)} {f : Str}, Isf K H vs fs → fs.lookup f = none → vs.lookup f = none
  | [], _, _, h, e => by cases h; rfl
  | (g, x) :: fs, _, f, h, e => by
    cases h with
    | cons h1 h2 =>
      by_cases q : (f == g) = true
      · rw [List.lookup_cons, q] at e; cases e
      · have q' : (f == g) = false := by simpa using q
        rw [List.lookup_cons, q'] at e
        rw [List.lookup_cons, q']
        exact h2.lookup_none e
theorem Isf.length : ∀ {fs : List (Str × D)} {vs : List (Str × V)}, Isf K H vs fs → vs.length = fs.length
  | [], _, h => by cases h; rfl
  | _ :: fs, _, h => by
    cases h with
    | cons _ h2 => rw [List.length_cons, List.length_cons, h2.length]
def putD (f : Str) (v : D) : List (Str × D) → List (Str × D)
  | [] => [(f, v)]
  | (g, u) :: r => if g = f then (g, v) :: r else (g, u) :: putD f v r
end

/-! ### growth, slots, the frame -/
/-- an object that is never written -/
def Hard : HO → Prop
  | .tup _ => True
  | .frz _ _ => True
  | _ => False
structure Gr (H T H' T' : Hp) : Prop where
  h : Le H H'
  t : Le T T'
  s : Le T' H'
  n : ∀ a o, T' a = some o → T a = none → H a = none ∨ Hard o
theorem Gr.refl {H T : Hp} (s : Le T H) : Gr H T H T := ⟨Le.refl _, Le.refl _, s, fun _ _ h h' => by rw [h] at h'; cases h'⟩
theorem Gr.trans {H T H1 T1 H2 T2 : Hp} (a : Gr H T H1 T1) (b : Gr H1 T1 H2 T2) : Gr H T H2 T2 :=
  ⟨a.h.trans b.h, a.t.trans b.t, b.s, fun x o h h' => by
    cases q : T1 x with
    | none => exact (b.n x o h q).imp a.h.back id
    | some u =>
      have e := b.t x u q
      rw [h] at e
      cases e
      exact a.n x _ q h'⟩
/-- a new object, known for good -/
theorem Gr.new {H T : Hp} {p : Addr} {o : HO} (s : Le T H) (h : H p = none) : Gr H T (upd H p o) (upd T p o) :=
  ⟨Le.new h, Le.new (s.back h), fun a u e => by
    by_cases hb : a = p
    · subst hb; rw [upd_same] at e ⊢; exact e
    · rw [upd_ne hb] at e ⊢; exact s a u e, fun a u e e' => by
    by_cases hb : a = p
    · subst hb; exact .inl h
    · rw [upd_ne hb] at e; rw [e] at e'; cases e'⟩
/-- a new object, one's own -/
theorem Gr.own {H T : Hp} {p : Addr} {o : HO} (s : Le T H) (h : H p = none) : Gr H T (upd H p o) T :=
  ⟨Le.new h, Le.refl _, s.trans (Le.new h), fun _ _ e e' => by rw [e] at e'; cases e'⟩

/-- all that is never written becomes known for good -/
def hardUp (H T : Hp) : Hp := fun a => match T a with
  | some o => some o
  | none => match H a with
    | some (.tup vs) => some (.tup vs)
    | some (.frz o u) => some (.frz o u)
    | _ => none
theorem hardUp_T {H T : Hp} : Le T (hardUp H T) := fun a o h => by unfold hardUp; rw [h]
theorem hardUp_H {H T : Hp} (s : Le T H) : Le (hardUp H T) H := fun a o h => by
  unfold hardUp at h
  cases q : T a with
  | some u => rw [q] at h; cases h; exact s a _ q
  | none =>
    rw [q] at h
    dsimp only at h
    split at h
    · rename_i e; cases h; exact e
    · rename_i e; cases h; exact e
    · cases h
theorem hardUp_gr {H T : Hp} (s : Le T H) : Gr H T H (hardUp H T) := ⟨Le.refl _, hardUp_T, hardUp_H s, fun a o h h' => by
  unfold hardUp at h
  rw [h'] at h
  dsimp only at h
  split at h
  · cases h; exact .inr trivial
  · cases h; exact .inr trivial
  · cases h⟩
theorem hardUp_rd {H T U : Hp} (u : Le U H) (s : Le T H) {a : Addr} {o : HO} (ho : Hard o) (h : Rd U a o) : Rd (hardUp H T) a o := by
  rcases h with h | ⟨w, h⟩
  · refine .inl ?_
    have h2 := u _ _ h
    unfold hardUp
    cases q : T a with
    | some v => have := s a v q; rw [h2] at this; cases this; rfl
    | none =>
      dsimp only
      rw [h2]
      cases o <;> first | rfl | exact ho.elim
  · refine .inr ⟨w, ?_⟩
    have h2 := u _ _ h
    unfold hardUp
    cases q : T a with
    | some v => have := s a v q; rw [h2] at this; cases this; rfl
    | none =>
      dsimp only
      rw [h2]
mutual
/-- numbers, texts, tuples of such -/
def imm : D → Bool
  | .non => true
  | .bl _ => true
  | .int _ => true
  | .str _ => true
  | .raw _ => true
  | .tup ds => imms ds
  | _ => false
def imms : List D → Bool
  | [] => true
  | d :: ds => imm d && imms ds
end
theorem imms_iff : ∀ {ds : List D}, imms ds = true ↔ ∀ d ∈ ds, imm d = true
  | [] => ⟨fun _ _ h => (nomatch h), fun _ => rfl⟩
  | d :: ds => by
    rw [imms, Bool.and_eq_true, imms_iff, List.forall_mem_cons]
mutual
theorem Is.hard {K : PySem.W.Frag} {H T U : Hp} (u : Le U H) (s : Le T H) : ∀ (d : D) {v : V}, imm d = true → Is K U v d → Is K (hardUp H T) v d
  | .non, _, _, h => by cases h; exact .non
  | .bl b, _, _, h => by cases h; exact .bl b
  | .int i, _, _, h => by cases h; exact .int i
  | .str x, _, _, h => by cases h; exact .str x
  | .raw v, _, _, h => by cases h; exact .raw v
  | .tup ds, _, q, h => by
    cases h with
    | tup hs ha hz =>
      refine .tup ⟨?_, ?_⟩ (Iss.hard u s ds (by simpa [imm] using q) ha) hz
      · rcases hs.t with hs | hs
        · exact .inl (hardUp_rd u s trivial hs)
        · exact .inr hs
      · rcases hs.n with hs | ⟨o, w, h, hd⟩
        · exact .inl hs
        · refine .inr ⟨o, w, ?_, hd⟩
          have h2 := u _ _ h
          unfold hardUp
          cases q : T _ with
          | some v => have := s _ v q; rw [h2] at this; cases this; rfl
          | none => dsimp only; rw [h2]
  | .lst _, _, q, _ => by simp [imm] at q
  | .rol _, _, q, _ => by simp [imm] at q
  | .abs _, _, q, _ => by simp [imm] at q
  | .ins _ _, _, q, _ => by simp [imm] at q
theorem Iss.hard {K : PySem.W.Frag} {H T U : Hp} (u : Le U H) (s : Le T H) : ∀ (ds : List D) {vs : List V}, imms ds = true → Iss K U vs ds → Iss K (hardUp H T) vs ds
  | [], _, _, h => by cases h; exact .nil
  | d :: ds, _, q, h => by
    have q2 : imm d = true ∧ imms ds = true := by simpa [imms] using q
    cases h with
    | cons h1 h2 => exact .cons (Is.hard u s d q2.1 h1) (Iss.hard u s ds q2.2 h2)
end
inductive Md | dat | bor | now
def MIs (m : Md) (K : PySem.W.Frag) (B H T : Hp) (v : V) (d : D) : Prop := match m with
  | .dat => Is K T v d
  | .bor => Is K T v d ∨ Is K B v d
  | .now => Is K H v d
theorem MIs.now {m : Md} {K : PySem.W.Frag} {B H T : Hp} {v : V} {d : D} (h : MIs m K B H T v d) (hb : Le B H) (ht : Le T H) : Is K H v d := by
  cases m with
  | dat => exact Is.mono ht d h
  | bor => rcases h with h | h; exact Is.mono ht d h; exact Is.mono hb d h
  | now => exact h
theorem MIs.mono {m : Md} {K : PySem.W.Frag} {B H T H' T' : Hp} {v : V} {d : D} (h : MIs m K B H T v d) (hh : Le H H') (ht : Le T T') : MIs m K B H' T' v d := by
  cases m with
  | dat => exact Is.mono ht d h
  | bor => rcases h with h | h; exact .inl (Is.mono ht d h); exact .inr h
  | now => exact Is.mono hh d h
/-- of data that is no object every mode says the same -/
theorem MIs.dat {m : Md} {K : PySem.W.Frag} {B H T : Hp} {v : V} {d : D} (h : Is K T v d) (ht : Le T H) : MIs m K B H T v d := by
  cases m with
  | dat => exact h
  | bor => exact .inl h
  | now => exact Is.mono ht d h

/-- what a frame alone holds -/
inductive OD where
  | lst (xs : List D) | ins (C : Addr) (fs : List (Str × D))
  /-- an object of another kind (a set): what holds of it and of what is known for good -/
  | ext (R : Addr → HO → Hp → Prop)
def OwnAt (K : PySem.W.Frag) (H T : Hp) (a : Addr) : OD → Prop
  | .lst ds => ∃ vs, H a = some (.lst vs) ∧ Iss K T vs ds ∧ ds.length ≤ sizeLine
  | .ins C fs => ∃ dx fvs, H a = some (.ins C dx fvs) ∧ Isf K T fvs fs
  | .ext R => ∃ o, H a = some o ∧ ¬ Hard o ∧ ∀ T', Le T T' → R a o T'
def OD.d : OD → D
  | .lst xs => .lst xs
  | .ins C fs => .ins C fs
  | .ext _ => .abs fun _ _ => True
theorem OwnAt.mono {K : PySem.W.Frag} {H T H' T' : Hp} {a : Addr} {o : OD} (h : OwnAt K H T a o) (hh : H' a = H a) (ht : Le T T') : OwnAt K H' T' a o := by
  cases o with
  | lst ds => obtain ⟨vs, e, i, z⟩ := h; exact ⟨vs, hh.trans e, Iss.mono ht ds i, z⟩
  | ins C fs => obtain ⟨dx, fvs, e, i⟩ := h; exact ⟨dx, fvs, hh.trans e, Isf.mono ht fs i⟩
  | ext R => obtain ⟨o, e, n, r⟩ := h; exact ⟨o, hh.trans e, n, fun T2 h2 => r T2 (ht.trans h2)⟩
theorem OwnAt.soft {K : PySem.W.Frag} {H T : Hp} {a : Addr} {o : OD} (h : OwnAt K H T a o) : ∃ u, H a = some u ∧ ¬ Hard u := by
  cases o with
  | lst ds => obtain ⟨vs, e, _⟩ := h; exact ⟨_, e, id⟩
  | ins C fs => obtain ⟨dx, fvs, e, _⟩ := h; exact ⟨_, e, id⟩
  | ext R => obtain ⟨o, e, n, r⟩ := h; exact ⟨o, e, n⟩
/-- what is one's own stays out of what is known -/
theorem Gr.keep {K : PySem.W.Frag} {H T H' T' : Hp} {a : Addr} {o : OD} (g : Gr H T H' T') (h : OwnAt K H T a o) (ht : T a = none) : T' a = none := by
  obtain ⟨u, hu, hs⟩ := h.soft
  cases z : T' a with
  | none => rfl
  | some w =>
    rcases g.n a w z ht with q | q
    · rw [hu] at q; cases q
    · have e := g.s a w z
      rw [g.h a u hu] at e
      cases e
      exact absurd q hs
theorem OwnAt.ex {K : PySem.W.Frag} {H T : Hp} {a : Addr} {o : OD} (h : OwnAt K H T a o) : ∃ u, H a = some u := by
  cases o with
  | lst ds => obtain ⟨vs, e, _⟩ := h; exact ⟨_, e⟩
  | ins C fs => obtain ⟨dx, fvs, e, _⟩ := h; exact ⟨_, e⟩
  | ext R => obtain ⟨o, e, _⟩ := h; exact ⟨_, e⟩
/-- it becomes data -/
theorem OwnAt.give {K : PySem.W.Frag} {H T : Hp} {a : Addr} {o : OD} (h : OwnAt K H T a o) (hn : T a = none) : ∃ u, H a = some u ∧ Is K (upd T a u) (.ref a) o.d := by
  cases o with
  | lst ds => obtain ⟨vs, e, i, z⟩ := h; exact ⟨_, e, .lst upd_same (Iss.mono (Le.new hn) ds i) z⟩
  | ins C fs => obtain ⟨dx, fvs, e, i⟩ := h; exact ⟨_, e, .ins upd_same (Isf.mono (Le.new hn) fs i)⟩
  | ext R => obtain ⟨o, e, _⟩ := h; exact ⟨_, e, .abs fun _ _ => trivial⟩

inductive Sl where
  | no | dat (d : D) | bor (d : D) | own (o : OD)
def SlotOk (K : PySem.W.Frag) (B H T : Hp) (x : Option V) : Sl → Prop
  | .no => True
  | .dat d => ∃ v, x = some v ∧ Is K T v d
  | .bor d => ∃ v, x = some v ∧ (Is K T v d ∨ Is K B v d)
  | .own o => ∃ a, x = some (.ref a) ∧ B a = none ∧ T a = none ∧ OwnAt K H T a o
abbrev En := List Sl
structure Sat (K : PySem.W.Frag) (B T0 : Hp) (e : En) (σ : L2.St) (H T : Hp) : Prop where
  gr : Gr B T0 H T
  len : σ.length = e.length
  sl : ∀ (i : Nat) s, e[i]? = some s → ∃ x, σ[i]? = some x ∧ SlotOk K B H T x s
  sep : ∀ (i j : Nat) o o' (a b : Addr), i ≠ j → e[i]? = some (.own o) → e[j]? = some (.own o') → σ[i]? = some (some (V.ref a)) → σ[j]? = some (some (V.ref b)) → a ≠ b
section
variable {K : PySem.W.Frag} {B T0 H T H' T' : Hp} {e : En} {σ : L2.St}
theorem Sat.grow (s : Sat K B T0 e σ H T) (g : Gr H T H' T') : Sat K B T0 e σ H' T' := by
  refine ⟨s.gr.trans g, s.len, fun i sl h => ?_, s.sep⟩
  obtain ⟨x, hx, q⟩ := s.sl i sl h
  refine ⟨x, hx, ?_⟩
  cases sl with
  | no => trivial
  | dat d => obtain ⟨v, e1, q⟩ := q; exact ⟨v, e1, Is.mono g.t d q⟩
  | bor d =>
    obtain ⟨v, e1, q⟩ := q
    rcases q with q | q
    · exact ⟨v, e1, .inl (Is.mono g.t d q)⟩
    · exact ⟨v, e1, .inr q⟩
  | own o =>
    obtain ⟨a, e1, b1, t1, q⟩ := q
    obtain ⟨u, hu⟩ := q.ex
    exact ⟨a, e1, b1, g.keep q t1, q.mono ((g.h _ _ hu).trans hu.symm) g.t⟩
theorem Sat.rebase (s : Sat K B T0 e σ H T) : Sat K B T e σ H T := ⟨⟨s.gr.h, Le.refl _, s.gr.s, fun _ _ h h' => by rw [h] at h'; cases h'⟩, s.len, s.sl, s.sep⟩
theorem Sat.unbase (s : Sat K B T0 e σ H T) {e' : En} {σ' : L2.St} (s' : Sat K B T e' σ' H' T') : Sat K B T0 e' σ' H' T' :=
  ⟨⟨s'.gr.h, s.gr.t.trans s'.gr.t, s'.gr.s, fun a o h h' => by
    cases q : T a with
    | none => exact s'.gr.n a o h q
    | some u =>
      have e := s'.gr.t a u q
      rw [h] at e
      cases e
      exact s.gr.n a _ q h'⟩, s'.len, s'.sl, s'.sep⟩
/-- the slot i is stored: data -/
theorem Sat.set (s : Sat K B T0 e σ H T) {i : Nat} {x : V} {m : Md} {d : D} (hm : m ≠ .now) (hx : MIs m K B H T x d) : Sat K B T0 (e.set i (match m with | .dat => .dat d | _ => .bor d)) (σ.set i (some x)) H T := by
  refine ⟨s.gr, by simp [s.len], fun j sl h => ?_, fun j k o o' a b hjk h1 h2 h3 h4 => ?_⟩
  · by_cases hj : i = j
    · subst hj
      have hi : i < e.length := by
        have := (List.getElem?_eq_some_iff.mp h).1
        simpa using this
      rw [List.getElem?_set_self hi] at h
      cases h
      refine ⟨some x, by rw [List.getElem?_set_self (by rw [s.len]; exact hi)], ?_⟩
      cases m with
      | dat => exact ⟨x, rfl, hx⟩
      | bor => exact ⟨x, rfl, hx⟩
      | now => exact absurd rfl hm
    · rw [List.getElem?_set_ne hj] at h ⊢
      exact s.sl j sl h
  · have hij : i ≠ j := fun q => by
      subst q
      have hi : i < e.length := by
        have := (List.getElem?_eq_some_iff.mp h1).1
        simpa using this
      rw [List.getElem?_set_self hi] at h1
      cases m <;> cases h1
    have hik : i ≠ k := fun q => by
      subst q
      have hi : i < e.length := by
        have := (List.getElem?_eq_some_iff.mp h2).1
        simpa using this
      rw [List.getElem?_set_self hi] at h2
      cases m <;> cases h2
    rw [List.getElem?_set_ne hij] at h1 h3
    rw [List.getElem?_set_ne hik] at h2 h4
    exact s.sep j k o o' a b hjk h1 h2 h3 h4
/-- .. something of one's own -/
theorem Sat.setO (s : Sat K B T0 e σ H T) {i : Nat} {a : Addr} {o : OD} (hb : B a = none) (ht : T a = none) (ho : OwnAt K H T a o)
    (hs : ∀ (j : Nat) o' (b : Addr), i ≠ j → e[j]? = some (.own o') → σ[j]? = some (some (V.ref b)) → a ≠ b) : Sat K B T0 (e.set i (.own o)) (σ.set i (some (.ref a))) H T := by
  refine ⟨s.gr, by simp [s.len], fun j sl h => ?_, fun j k o1 o2 b c hjk h1 h2 h3 h4 => ?_⟩
  · by_cases hj : i = j
    · subst hj
      have hi : i < e.length := by
        have := (List.getElem?_eq_some_iff.mp h).1
        simpa using this
      rw [List.getElem?_set_self hi] at h
      cases h
      exact ⟨_, by rw [List.getElem?_set_self (by rw [s.len]; exact hi)], a, rfl, hb, ht, ho⟩
    · rw [List.getElem?_set_ne hj] at h ⊢
      exact s.sl j sl h
  · by_cases hij : i = j
    · subst hij
      rw [List.getElem?_set_ne hjk] at h2 h4
      have hi : i < σ.length := by
        have := (List.getElem?_eq_some_iff.mp h3).1
        simpa using this
      rw [List.getElem?_set_self hi] at h3
      cases h3
      exact hs k o2 c hjk h2 h4
    · rw [List.getElem?_set_ne hij] at h1 h3
      by_cases hik : i = k
      · subst hik
        have hi : i < σ.length := by
          have := (List.getElem?_eq_some_iff.mp h4).1
          simpa using this
        rw [List.getElem?_set_self hi] at h4
        cases h4
        exact (hs j o1 b hij h1 h3).symm
      · rw [List.getElem?_set_ne hik] at h2 h4
        exact s.sep j k o1 o2 b c hjk h1 h2 h3 h4
/-- what is at i -/
theorem Sat.own (s : Sat K B T0 e σ H T) {i : Nat} {o : OD} (h : e[i]? = some (.own o)) : ∃ a, σ[i]? = some (some (V.ref a)) ∧ B a = none ∧ T a = none ∧ OwnAt K H T a o := by
  obtain ⟨x, hx, a, e1, q⟩ := s.sl i _ h
  subst e1
  exact ⟨a, hx, q⟩
/-- one's own becomes data -/
theorem Sat.give (s : Sat K B T0 e σ H T) {i : Nat} {o : OD} (h : e[i]? = some (.own o)) : ∃ T', Le T T' ∧ Sat K B T0 (e.set i (.dat o.d)) σ H T' := by
  obtain ⟨a, hx, hb, ht, q⟩ := s.own h
  obtain ⟨u, hu, hi⟩ := q.give ht
  have hl : Le T (upd T a u) := Le.new ht
  have hi0 : i < e.length := (List.getElem?_eq_some_iff.mp h).1
  refine ⟨upd T a u, hl, ⟨s.gr.h, s.gr.t.trans hl, fun b w z => ?_, fun b w z z' => ?_⟩, by simp [s.len], fun j sl hj => ?_, fun j k o1 o2 b c hjk h1 h2 h3 h4 => ?_⟩
  · by_cases hba : b = a
    · subst hba; rw [upd_same] at z; cases z; exact hu
    · rw [upd_ne hba] at z; exact s.gr.s b w z
  · by_cases hba : b = a
    · subst hba; exact .inl hb
    · rw [upd_ne hba] at z; exact s.gr.n b w z z'
  · by_cases hij : i = j
    · subst hij
      rw [List.getElem?_set_self hi0] at hj
      cases hj
      exact ⟨_, hx, _, rfl, hi⟩
    · rw [List.getElem?_set_ne hij] at hj
      obtain ⟨x, hx', q'⟩ := s.sl j sl hj
      refine ⟨x, hx', ?_⟩
      cases sl with
      | no => trivial
      | dat d => obtain ⟨v, e1, q⟩ := q'; exact ⟨v, e1, Is.mono hl d q⟩
      | bor d =>
        obtain ⟨v, e1, q⟩ := q'
        rcases q with q | q
        · exact ⟨v, e1, .inl (Is.mono hl d q)⟩
        · exact ⟨v, e1, .inr q⟩
      | own o' =>
        obtain ⟨b, e1, b1, t1, q⟩ := q'
        subst e1
        have hab : a ≠ b := s.sep i j o o' a b hij h hj hx hx'
        exact ⟨b, rfl, b1, by rw [upd_ne hab.symm]; exact t1, q.mono rfl hl⟩
  · have hij : i ≠ j := fun q => by
      subst q
      rw [List.getElem?_set_self hi0] at h1; cases h1
    have hik : i ≠ k := fun q => by
      subst q
      rw [List.getElem?_set_self hi0] at h2; cases h2
    rw [List.getElem?_set_ne hij] at h1
    rw [List.getElem?_set_ne hik] at h2
    exact s.sep j k o1 o2 b c hjk h1 h2 h3 h4
/-- one's own is written -/
theorem Sat.wr (s : Sat K B T0 e σ H T) {i : Nat} {o o' : OD} {a : Addr} {u : HO} (h : e[i]? = some (.own o)) (hx : σ[i]? = some (some (V.ref a))) (hu : OwnAt K (upd H a u) T a o') : Sat K B T0 (e.set i (.own o')) σ (upd H a u) T := by
  obtain ⟨a', hx', hb, ht, q⟩ := s.own h
  rw [hx] at hx'
  cases hx'
  have hi0 : i < e.length := (List.getElem?_eq_some_iff.mp h).1
  refine ⟨⟨fun b w z => ?_, s.gr.t, fun b w z => ?_, s.gr.n⟩, by simp [s.len], fun j sl hj => ?_, fun j k o1 o2 b c hjk h1 h2 h3 h4 => ?_⟩
  · rw [upd_ne (ne_of_none z hb)]; exact s.gr.h b w z
  · rw [upd_ne (ne_of_none z ht)]; exact s.gr.s b w z
  · by_cases hij : i = j
    · subst hij
      rw [List.getElem?_set_self hi0] at hj
      cases hj
      exact ⟨_, hx, a, rfl, hb, ht, hu⟩
    · rw [List.getElem?_set_ne hij] at hj
      obtain ⟨x, hx', q'⟩ := s.sl j sl hj
      refine ⟨x, hx', ?_⟩
      cases sl with
      | no => trivial
      | dat d => exact q'
      | bor d => exact q'
      | own o2 =>
        obtain ⟨b, e1, b1, t1, q⟩ := q'
        subst e1
        have hab : a ≠ b := s.sep i j o o2 a b hij h hj hx hx'
        exact ⟨b, rfl, b1, t1, q.mono (upd_ne hab.symm) (Le.refl _)⟩
  · have f : ∀ (l : Nat) (o3 : OD), (e.set i (.own o'))[l]? = some (.own o3) → ∃ o4, e[l]? = some (.own o4) := fun l o3 hl => by
      by_cases q : i = l
      · subst q; exact ⟨o, h⟩
      · rw [List.getElem?_set_ne q] at hl; exact ⟨o3, hl⟩
    obtain ⟨o3, g1⟩ := f j o1 h1
    obtain ⟨o4, g2⟩ := f k o2 h2
    exact s.sep j k o3 o4 b c hjk g1 g2 h3 h4
end
end Fh

set_option Elab.async false
set_option linter.all false
set_option maxRecDepth 100000
set_option maxHeartbeats 4000000
/-! Fh, second part: what an expression is worth, what a statement does -/
namespace Fh
open PySem PySem.Spec PyProof.Rows L2

def MIss (K : PySem.W.Frag) (B H T : Hp) : List Md → List V → List D → Prop
  | [], [], [] => True
  | m :: ms, v :: vs, d :: ds => MIs m K B H T v d ∧ MIss K B H T ms vs ds
  | _, _, _ => False

section
variable (K : PySem.W.Frag)
def Ev (m : Md) (te : TE) (e : En) (d : D) : Prop := ∀ (B T0 : Hp) (σ : L2.St) (H T : Hp), Sat K B T0 e σ H T → ∀ Q : VK, (∀ v H' T', Gr H T H' T' → MIs m K B H' T' v d → Q v H') → te σ H Q
def EvO (te : TE) (e : En) (o : OD) : Prop := ∀ (B T0 : Hp) (σ : L2.St) (H T : Hp), Sat K B T0 e σ H T → ∀ Q : VK, (∀ a H' T', Gr H T H' T' → H a = none → T' a = none → OwnAt K H' T' a o → Q (.ref a) H') → te σ H Q
def EvT (tt : TT) (e : En) (b : Bool) : Prop := ∀ (B T0 : Hp) (σ : L2.St) (H T : Hp), Sat K B T0 e σ H T → ∀ Q : Bool → Hp → Prop, (∀ H' T', Gr H T H' T' → Q b H') → tt σ H Q
def EvA (ms : List Md) (ta : TA) (e : En) (ds : List D) : Prop := ∀ (B T0 : Hp) (σ : L2.St) (H T : Hp), Sat K B T0 e σ H T → ∀ Q : List V → Hp → Prop, (∀ vs H' T', Gr H T H' T' → MIss K B H' T' ms vs ds → Q vs H') → ta σ H Q
/-- an operation on two values; on one; on a list of values -/
def RD (m1 m2 m : Md) (r : R2) (d1 d2 d : D) : Prop := ∀ (B H T : Hp) (x y : V), Le B H → Le T H → MIs m1 K B H T x d1 → MIs m2 K B H T y d2 → ∀ Q : VK, (∀ v H' T', Gr H T H' T' → MIs m K B H' T' v d → Q v H') → r x y H Q
def RDO (m1 m2 : Md) (r : R2) (d1 d2 : D) (o : OD) : Prop := ∀ (B H T : Hp) (x y : V), Le B H → Le T H → MIs m1 K B H T x d1 → MIs m2 K B H T y d2 → ∀ Q : VK, (∀ a H' T', Gr H T H' T' → H a = none → T' a = none → OwnAt K H' T' a o → Q (.ref a) H') → r x y H Q
def RL (ms : List Md) (m : Md) (r : List V → Hp → VK → Prop) (ds : List D) (d : D) : Prop := ∀ (B H T : Hp) (vs : List V), Le B H → Le T H → MIss K B H T ms vs ds → ∀ Q : VK, (∀ v H' T', Gr H T H' T' → MIs m K B H' T' v d → Q v H') → r vs H Q
def RLO (ms : List Md) (r : List V → Hp → VK → Prop) (ds : List D) (o : OD) : Prop := ∀ (B H T : Hp) (vs : List V), Le B H → Le T H → MIss K B H T ms vs ds → ∀ Q : VK, (∀ a H' T', Gr H T H' T' → H a = none → T' a = none → OwnAt K H' T' a o → Q (.ref a) H') → r vs H Q
end
theorem MIss.mono {K : PySem.W.Frag} {B H T H' T' : Hp} (hh : Le H H') (ht : Le T T') : ∀ {ms : List Md} {vs : List V} {ds : List D}, MIss K B H T ms vs ds → MIss K B H' T' ms vs ds
  | [], [], [], _ => trivial
  | _ :: _, _ :: _, _ :: _, h => ⟨h.1.mono hh ht, MIss.mono hh ht h.2⟩
  | [], [], _ :: _, h => h.elim
  | [], _ :: _, _, h => h.elim
  | _ :: _, [], _, h => h.elim
  | _ :: _, _ :: _, [], h => h.elim

section
variable {K : PySem.W.Frag} {e : En} {d d1 d2 d3 : D} {ds : List D} {te ta tb tc : TE} {tt tu : TT} {m m1 m2 : Md} {b c : Bool} {r : R2} {o : OD}
theorem Ev.is (h : Ev K m te e d) {d' : D} (q : d = d') : Ev K m te e d' := q ▸ h
theorem EvT.is (h : EvT K tt e b) {c : Bool} (q : b = c) : EvT K tt e c := q ▸ h
theorem EvO.is (h : EvO K te e o) {o' : OD} (q : o = o') : EvO K te e o' := q ▸ h
theorem Ev.up (h : Ev K .dat te e d) : Ev K m te e d := fun B T0 σ H T s Q q => h B T0 σ H T s Q fun v H' T' g i => q v H' T' g (MIs.dat i g.s)
theorem Ev.nw (h : Ev K m te e d) : Ev K .now te e d := fun B T0 σ H T s Q q => h B T0 σ H T s Q fun v H' T' g i => q v H' T' g (i.now (s.gr.h.trans g.h) g.s)
theorem EvO.dat (h : EvO K te e o) : Ev K m te e o.d := fun B T0 σ H T s Q q => h B T0 σ H T s Q fun a H' T' g hn ht ho => by
  obtain ⟨u, hu, hi⟩ := ho.give ht
  have g2 : Gr H T H' (upd T' a u) := ⟨g.h, g.t.trans (Le.new ht), fun b w z => by
    by_cases hb : b = a
    · subst hb; rw [upd_same] at z; cases z; exact hu
    · rw [upd_ne hb] at z; exact g.s b w z, fun b w z z' => by
    by_cases hb : b = a
    · subst hb; exact .inl hn
    · rw [upd_ne hb] at z; exact g.n b w z z'⟩
  exact q _ _ _ g2 (MIs.dat hi g2.s)
/-! names, constants -/
theorem ev_dat {i : Nat} (h : e[i]? = some (.dat d)) : Ev K m (tVar i) e d := Ev.up fun B T0 σ H T s Q q => by
  obtain ⟨x, hx, v, rfl, i⟩ := s.sl i _ h
  exact ⟨v, hx, q v H T (Gr.refl s.gr.s) i⟩
theorem ev_bor {i : Nat} (h : e[i]? = some (.bor d)) : Ev K .bor (tVar i) e d := fun B T0 σ H T s Q q => by
  obtain ⟨x, hx, v, rfl, i⟩ := s.sl i _ h
  exact ⟨v, hx, q v H T (Gr.refl s.gr.s) i⟩
theorem ev_own {i : Nat} (h : e[i]? = some (.own o)) : Ev K .now (tVar i) e o.d := fun B T0 σ H T s Q q => by
  obtain ⟨a, hx, hb, ht, ho⟩ := s.own h
  refine ⟨_, hx, q _ H T (Gr.refl s.gr.s) ?_⟩
  cases o with
  | lst xs => obtain ⟨vs, e1, i, z⟩ := ho; exact .lst e1 (Iss.mono s.gr.s _ i) z
  | ins C fs => obtain ⟨dx, fvs, e1, i⟩ := ho; exact .ins e1 (Isf.mono s.gr.s _ i)
  | ext R => exact .abs fun _ _ => trivial
theorem ev_int {i : Int} : Ev K m (tC (.int i)) e (.int i) := Ev.up fun B T0 σ H T s Q q => q _ H T (Gr.refl s.gr.s) (.int i)
theorem ev_bl : Ev K m (tC (.bl b)) e (.bl b) := Ev.up fun B T0 σ H T s Q q => q _ H T (Gr.refl s.gr.s) (.bl b)
theorem ev_str {x : Str} : Ev K m (tC (.str x)) e (.str x) := Ev.up fun B T0 σ H T s Q q => q _ H T (Gr.refl s.gr.s) (.str x)
theorem ev_non : Ev K m (tC .non) e .non := Ev.up fun B T0 σ H T s Q q => q _ H T (Gr.refl s.gr.s) .non
theorem ev_raw {v : V} : Ev K m (tC v) e (.raw v) := Ev.up fun B T0 σ H T s Q q => q _ H T (Gr.refl s.gr.s) (.raw v)
/-! operators -/
theorem ev_op (ha : Ev K m1 ta e d1) (hb : Ev K m2 tb e d2) (hr : RD K m1 m2 m r d1 d2 d) : Ev K m (tOp r ta tb) e d := fun B T0 σ H T s Q q =>
  ha B T0 σ H T s _ fun x H1 T1 g1 i1 => hb B T0 σ H1 T1 (s.grow g1) _ fun y H2 T2 g2 i2 =>
    hr B H2 T2 x y (((s.grow g1).grow g2).gr.h) g2.s (i1.mono g2.h g2.t) i2 _ fun v H3 T3 g3 i3 => q v H3 T3 ((g1.trans g2).trans g3) i3
theorem ev_opO (ha : Ev K m1 ta e d1) (hb : Ev K m2 tb e d2) (hr : RDO K m1 m2 r d1 d2 o) : EvO K (tOp r ta tb) e o := fun B T0 σ H T s Q q =>
  ha B T0 σ H T s _ fun x H1 T1 g1 i1 => hb B T0 σ H1 T1 (s.grow g1) _ fun y H2 T2 g2 i2 =>
    hr B H2 T2 x y (((s.grow g1).grow g2).gr.h) g2.s (i1.mono g2.h g2.t) i2 _ fun a H3 T3 g3 n1 n2 i3 => q a H3 T3 ((g1.trans g2).trans g3) ((g1.trans g2).h.back n1) n2 i3
/-- ints -/
theorem rd_I0 {g : Int → Int → V} {gd : Int → Int → D} {i j : Int} (hg : ∀ T, Is K T (g i j) (gd i j)) : RD K m1 m2 m (rI0 g) (.int i) (.int j) (gd i j) := fun B H T x y hB hT h1 h2 Q q => by
  have e1 := h1.now hB hT; have e2 := h2.now hB hT
  cases e1; cases e2
  exact ⟨i, j, rfl, rfl, q _ H T (Gr.refl hT) (MIs.dat (hg T) hT)⟩
theorem rd_I {C : Int → Int → Prop} {g : Int → Int → V} {gd : Int → Int → D} {i j : Int} (hc : C i j) (hg : ∀ T, Is K T (g i j) (gd i j)) : RD K m1 m2 m (rI C g) (.int i) (.int j) (gd i j) := fun B H T x y hB hT h1 h2 Q q => by
  have e1 := h1.now hB hT; have e2 := h2.now hB hT
  cases e1; cases e2
  exact ⟨i, j, rfl, rfl, hc, q _ H T (Gr.refl hT) (MIs.dat (hg T) hT)⟩
theorem RD.orl {r r' : R2} (h : RD K m1 m2 m r d1 d2 d) : RD K m1 m2 m (fun x y H Q => r x y H Q ∨ r' x y H Q) d1 d2 d := fun B H T x y hB hT h1 h2 Q q => .inl (h B H T x y hB hT h1 h2 Q q)
theorem RD.orr {r r' : R2} (h : RD K m1 m2 m r' d1 d2 d) : RD K m1 m2 m (fun x y H Q => r x y H Q ∨ r' x y H Q) d1 d2 d := fun B H T x y hB hT h1 h2 Q q => .inr (h B H T x y hB hT h1 h2 Q q)
/-! tests -/
theorem et_test (h : Ev K m te e (.bl b)) : EvT K (tTest te) e b := fun B T0 σ H T s Q q => h B T0 σ H T s _ fun v H1 T1 g i => by
  have i := i.now (s.gr.h.trans g.h) g.s
  cases i
  exact ⟨b, rfl, q H1 T1 g⟩
theorem et_B (h : Ev K m te e (.bl b)) : EvT K (tB te) e b := fun B T0 σ H T s Q q => h B T0 σ H T s _ fun v H1 T1 g i => by
  have i := i.now (s.gr.h.trans g.h) g.s
  cases i
  exact ⟨b, rfl, q H1 T1 g⟩
theorem et_and (h1 : EvT K tt e b) (h2 : b = true → EvT K tu e c) : EvT K (tAnd tt tu) e (b && c) := fun B T0 σ H T s Q q => h1 B T0 σ H T s _ fun H1 T1 g => by
  cases b with
  | true =>
    rw [if_pos rfl]
    exact h2 rfl B T0 σ H1 T1 (s.grow g) Q fun H2 T2 g2 => q H2 T2 (g.trans g2)
  | false =>
    rw [if_neg Bool.false_ne_true]
    exact q H1 T1 g
theorem et_or (h1 : EvT K tt e b) (h2 : b = false → EvT K tu e c) : EvT K (tOr tt tu) e (b || c) := fun B T0 σ H T s Q q => h1 B T0 σ H T s _ fun H1 T1 g => by
  cases b with
  | true =>
    rw [if_pos rfl]
    exact q H1 T1 g
  | false =>
    rw [if_neg Bool.false_ne_true]
    exact h2 rfl B T0 σ H1 T1 (s.grow g) Q fun H2 T2 g2 => q H2 T2 (g.trans g2)
theorem et_not (h : EvT K tt e b) : EvT K (tNot tt) e (!b) := fun B T0 σ H T s Q q => h B T0 σ H T s _ fun H1 T1 g => q H1 T1 g
theorem ev_andV (h1 : Ev K m1 ta e (.bl b)) (h2 : b = true → Ev K m tb e (.bl c)) : Ev K m (tAndV ta tb) e (.bl (b && c)) := fun B T0 σ H T s Q q => h1 B T0 σ H T s _ fun v H1 T1 g i => by
  have i := i.now (s.gr.h.trans g.h) g.s
  cases i
  refine ⟨b, rfl, ?_⟩
  cases b with
  | true =>
    show tb σ H1 Q
    exact h2 rfl B T0 σ H1 T1 (s.grow g) Q fun v H2 T2 g2 i2 => q v H2 T2 (g.trans g2) i2
  | false => exact q _ H1 T1 g (MIs.dat (.bl false) g.s)
theorem ev_orV (h1 : Ev K m1 ta e (.bl b)) (h2 : b = false → Ev K m tb e (.bl c)) : Ev K m (tOrV ta tb) e (.bl (b || c)) := fun B T0 σ H T s Q q => h1 B T0 σ H T s _ fun v H1 T1 g i => by
  have i := i.now (s.gr.h.trans g.h) g.s
  cases i
  refine ⟨b, rfl, ?_⟩
  cases b with
  | false =>
    show tb σ H1 Q
    exact h2 rfl B T0 σ H1 T1 (s.grow g) Q fun v H2 T2 g2 i2 => q v H2 T2 (g.trans g2) i2
  | true => exact q _ H1 T1 g (MIs.dat (.bl true) g.s)
theorem ev_notV (h1 : Ev K m1 ta e (.bl b)) : Ev K m (tNotV ta) e (.bl (!b)) := fun B T0 σ H T s Q q => h1 B T0 σ H T s _ fun v H1 T1 g i => by
  have i := i.now (s.gr.h.trans g.h) g.s
  cases i
  exact ⟨b, rfl, q _ H1 T1 g (MIs.dat (.bl (!b)) g.s)⟩
theorem ev_if (h : EvT K tt e b) (h1 : b = true → Ev K m ta e d) (h2 : b = false → Ev K m tb e d) : Ev K m (tIf tt ta tb) e d := fun B T0 σ H T s Q q => h B T0 σ H T s _ fun H1 T1 g => by
  cases b with
  | true =>
    show ta σ H1 Q
    exact h1 rfl B T0 σ H1 T1 (s.grow g) Q fun v H2 T2 g2 i2 => q v H2 T2 (g.trans g2) i2
  | false =>
    show tb σ H1 Q
    exact h2 rfl B T0 σ H1 T1 (s.grow g) Q fun v H2 T2 g2 i2 => q v H2 T2 (g.trans g2) i2
/-! argument lists, displays -/
theorem ea_nil : EvA K [] tNil e [] := fun B T0 σ H T s Q q => q [] H T (Gr.refl s.gr.s) trivial
theorem ea_cons {ms : List Md} {ta : TA} (h : Ev K m te e d) (hr : EvA K ms ta e ds) : EvA K (m :: ms) (tCons te ta) e (d :: ds) := fun B T0 σ H T s Q q =>
  h B T0 σ H T s _ fun v H1 T1 g1 i1 => hr B T0 σ H1 T1 (s.grow g1) _ fun vs H2 T2 g2 i2 => q (v :: vs) H2 T2 (g1.trans g2) ⟨i1.mono g2.h g2.t, i2⟩
def allDat : List D → List Md
  | [] => []
  | _ :: ds => .dat :: allDat ds
theorem MIss.iss {B H T : Hp} : ∀ {ds : List D} {vs : List V}, MIss K B H T (allDat ds) vs ds → Iss K T vs ds
  | [], [], _ => .nil
  | _ :: _, _ :: _, h => .cons h.1 (MIss.iss h.2)
  | [], _ :: _, h => h.elim
  | _ :: _, [], h => h.elim
def EvD (K : PySem.W.Frag) (ta : TA) (e : En) (ds : List D) : Prop := EvA K (allDat ds) ta e ds
theorem ed_nil : EvD K tNil e [] := ea_nil
theorem ed_cons {ta : TA} (h : Ev K .dat te e d) (hr : EvD K ta e ds) : EvD K (tCons te ta) e (d :: ds) := ea_cons h hr
/-- a written tuple, its object without a dict -/
def tTupN (t : TA) : TE := fun σ H Q => t σ H fun xs H1 => xs.length ≤ sizeLine ∧ ∀ p (o : Obj), o.dict = none → H1 p = none → Q (.ref p) (upd H1 p (.frz o (.tup xs)))
theorem pe_tupN {X : Cx} {es : List Expr} {t : TA} {x1 : _} {pos : Pos} (h : PA X es t) : PE X (.Tuple es x1 pos) (tTupN t) := by
  refine ⟨fun pins s σ H Q I hq => ?_⟩
  refine wpAny_Tuple_spliced (thn (h.run pos pins s σ H _ I hq) fun us s1 ⟨xs, H1, I1, r, z, q⟩ => ⟨by rw [← r.length]; exact z, ?_⟩)
  have hf : H1 s1.heap.objs.size = none := I1.hok.fresh (Nat.le_refl _)
  exact ⟨.ref s1.heap.objs.size, _, I1.laid (t' := s1.toks) (o := .frz { cls := .type "tuple", data := .seq us.toArray } (.tup xs)) (fun b u e => Heap.get?_push_of_some _ e) (Nat.le_refl _) ⟨Heap.get?_push_size _ rfl, z, us, r, ⟨_, Heap.get?_push_size _ rfl, rfl, _, rfl⟩⟩, rfl, q _ _ rfl hf⟩
theorem ev_tup {ta : TA} (h : EvD K ta e ds) (hl : ds.length ≤ sizeLine) : Ev K m (tTupN ta) e (.tup ds) := Ev.up fun B T0 σ H T s Q q => h B T0 σ H T s _ fun vs H1 T1 g1 i1 => by
  have i := i1.iss
  refine ⟨by rw [i.length]; exact hl, fun p o ho hp => ?_⟩
  have g2 := Gr.new (o := .frz o (.tup vs)) g1.s hp
  exact q _ _ _ (g1.trans g2) (.tup (SqN.of upd_same ho) (Iss.mono g2.t _ i) hl)
theorem ev_lstO {ta : TA} (h : EvD K ta e ds) (hl : ds.length ≤ sizeLine) : EvO K (tLst ta) e (.lst ds) := fun B T0 σ H T s Q q => h B T0 σ H T s _ fun vs H1 T1 g1 i1 => by
  have i := i1.iss
  refine ⟨by rw [i.length]; exact hl, fun p hp => ?_⟩
  have g2 := Gr.own (o := .lst vs) g1.s hp
  exact q _ _ _ (g1.trans g2) (g1.h.back hp) (g1.s.back hp) ⟨vs, upd_same, i, hl⟩
theorem ev_lst {ta : TA} (h : EvD K ta e ds) (hl : ds.length ≤ sizeLine) : Ev K m (tLst ta) e (.lst ds) := (ev_lstO h hl).dat
theorem evo_nil : EvO K (tLst tNil) e (.lst []) := ev_lstO ed_nil (Nat.zero_le _)
theorem ev_nil : Ev K m (tLst tNil) e (.lst []) := ev_lst ed_nil (Nat.zero_le _)
/-- a call by values -/
theorem ev_cb {ms : List Md} {ta : TA} {r : List V → Hp → VK → Prop} (h : EvA K ms ta e ds) (hr : RL K ms m r ds d) : Ev K m (tCB r ta) e d := fun B T0 σ H T s Q q =>
  h B T0 σ H T s _ fun vs H1 T1 g1 i1 => hr B H1 T1 vs (s.gr.h.trans g1.h) g1.s i1 Q fun v H2 T2 g2 i2 => q v H2 T2 (g1.trans g2) i2
theorem ev_cbO {ms : List Md} {ta : TA} {r : List V → Hp → VK → Prop} (h : EvA K ms ta e ds) (hr : RLO K ms r ds o) : EvO K (tCB r ta) e o := fun B T0 σ H T s Q q =>
  h B T0 σ H T s _ fun vs H1 T1 g1 i1 => hr B H1 T1 vs (s.gr.h.trans g1.h) g1.s i1 Q fun v H2 T2 g2 n1 n2 i2 => q v H2 T2 (g1.trans g2) (g1.h.back n1) n2 i2
end

/-! ### statements -/
structure Po where
  nx : En → Prop
  rt : D → Prop
  bk : En → Prop := fun _ => False
  ct : En → Prop := fun _ => False
  ex : En → Addr → Option (List (Str × D)) → Prop := fun _ _ _ => False
  ro : OD → Prop := fun _ => False
/-- a wish about exceptions that does not look at the slots -/
abbrev lift (E : XK) : WX := fun c d _ H => E c d H
def XIs (K : PySem.W.Frag) (T : Hp) : Option Addr → Option (List (Str × D)) → Prop
  | none, none => True
  | some d, some fs => ∃ fvs, T d = some (.xd fvs) ∧ Isf K T fvs fs
  | _, _ => False
structure Fits (K : PySem.W.Frag) (E : WX) (B T0 : Hp) (P : Po) (D : Ends) : Prop where
  nx : ∀ e σ H T, P.nx e → Sat K B T0 e σ H T → D.nx σ H
  rt : ∀ d v H T, P.rt d → Gr B T0 H T → Is K T v d → D.rt v H
  bk : ∀ e σ H T, P.bk e → Sat K B T0 e σ H T → D.bk σ H
  ct : ∀ e σ H T, P.ct e → Sat K B T0 e σ H T → D.ct σ H
  ex : ∀ e σ H T C od o, P.ex e C o → Sat K B T0 e σ H T → XIs K T od o → E (.ref C) od σ H
  ro : ∀ o a H T, P.ro o → Gr B T0 H T → B a = none → T a = none → OwnAt K H T a o → D.rt (.ref a) H
def Run (K : PySem.W.Frag) (E : WX) (t : TS) (e : En) (P : Po) : Prop := ∀ (B T0 : Hp) (σ : L2.St) (H T : Hp) (D : Ends), Sat K B T0 e σ H T → Fits K E B T0 P D → t D σ H

section
variable {K : PySem.W.Frag} {E : WX} {e : En} {d d1 d2 d3 : D} {ds : List D} {te ta tb tc : TE} {tt tu : TT} {m m1 m2 : Md} {b c : Bool} {r : R2} {o : OD} {P : Po} {t u : TS} {i : Nat}
theorem Fits.rebase {B T0 H T : Hp} {σ : L2.St} {Ds : Ends} (s : Sat K B T0 e σ H T) (f : Fits K E B T0 P Ds) : Fits K E B T P Ds :=
  ⟨fun e' σ' H' T' p s' => f.nx e' σ' H' T' p (s.unbase s'), fun d v H' T' p g i => f.rt d v H' T' p ⟨g.h, s.gr.t.trans g.t, g.s, fun a o h h' => by
    cases q : T a with
    | none => exact g.n a o h q
    | some u =>
      have e := g.t a u q
      rw [h] at e
      cases e
      exact s.gr.n a _ q h'⟩ i, fun e' σ' H' T' p s' => f.bk e' σ' H' T' p (s.unbase s'), fun e' σ' H' T' p s' => f.ct e' σ' H' T' p (s.unbase s'),
    fun e' σ' H' T' C od o p s' x => f.ex e' σ' H' T' C od o p (s.unbase s') x,
    fun o a H' T' p g hb ht ho => f.ro o a H' T' p ⟨g.h, s.gr.t.trans g.t, g.s, fun b u h h' => by
    cases q : T b with
    | none => exact g.n b u h q
    | some u2 =>
      have e := g.t b u2 q
      rw [h] at e
      cases e
      exact s.gr.n b _ q h'⟩ hb ht ho⟩
theorem Run.imp {P' : Po} (h : Run K E t e P) (h1 : ∀ e, P.nx e → P'.nx e) (h2 : ∀ d, P.rt d → P'.rt d) (h3 : ∀ e, P.bk e → P'.bk e) (h4 : ∀ e, P.ct e → P'.ct e) (h5 : ∀ e C o, P.ex e C o → P'.ex e C o) (h6 : ∀ o, P.ro o → P'.ro o) : Run K E t e P' := fun B T0 σ H T D s f =>
  h B T0 σ H T D s ⟨fun e' σ' H' T' p => f.nx e' σ' H' T' (h1 _ p), fun d v H' T' p => f.rt d v H' T' (h2 _ p), fun e' σ' H' T' p => f.bk e' σ' H' T' (h3 _ p), fun e' σ' H' T' p => f.ct e' σ' H' T' (h4 _ p), fun e' σ' H' T' C od o p => f.ex e' σ' H' T' C od o (h5 _ _ _ p), fun o a H' T' p => f.ro o a H' T' (h6 _ p)⟩
theorem run_seqM (M : En → Prop) (h : Run K E t e { P with nx := M }) (k : ∀ e', M e' → Run K E u e' P) : Run K E (tSeq t u) e P := fun B T0 σ H T D s f =>
  h B T0 σ H T { D with nx := u D } s ⟨fun e' σ' H' T' p s' => k e' p B T0 σ' H' T' D s' f, f.rt, f.bk, f.ct, f.ex, f.ro⟩
theorem run_seq (h : Run K E t e { P with nx := fun e' => Run K E u e' P }) : Run K E (tSeq t u) e P := run_seqM _ h fun _ p => p
theorem run_next (h : P.nx e) : Run K E tNext e P := fun B T0 σ H T D s f => f.nx e σ H T h s
theorem run_brk (h : P.bk e) : Run K E tBreak e P := fun B T0 σ H T D s f => f.bk e σ H T h s
theorem run_cont (h : P.ct e) : Run K E tCont e P := fun B T0 σ H T D s f => f.ct e σ H T h s
theorem run_asg (h : Ev K .dat te e d) (q : P.nx (e.set i (.dat d))) : Run K E (tAsg te (gName i)) e P := fun B T0 σ H T D s f =>
  h B T0 σ H T s _ fun v H1 T1 g i1 => f.nx _ _ H1 T1 q ((s.grow g).set (m := .dat) (fun z => nomatch z) i1)
theorem run_asgB (h : Ev K .bor te e d) (q : P.nx (e.set i (.bor d))) : Run K E (tAsg te (gName i)) e P := fun B T0 σ H T D s f =>
  h B T0 σ H T s _ fun v H1 T1 g i1 => f.nx _ _ H1 T1 q ((s.grow g).set (m := .bor) (fun z => nomatch z) i1)
theorem run_asgO (h : EvO K te e o) (q : P.nx (e.set i (.own o))) : Run K E (tAsg te (gName i)) e P := fun B T0 σ H T D s f =>
  h B T0 σ H T s _ fun a H1 T1 g n1 n2 i1 => f.nx _ _ H1 T1 q ((s.grow g).setO (s.gr.h.back n1) n2 i1 fun j o' b hij hj hb z => by
    obtain ⟨b', hb', _, _, q⟩ := s.own hj
    rw [hb] at hb'
    cases hb'
    obtain ⟨w, hw⟩ := q.ex
    rw [← z, n1] at hw
    cases hw)
theorem run_drop (h : Ev K m te e d) (q : P.nx e) : Run K E (tDrop te) e P := fun B T0 σ H T D s f => h B T0 σ H T s _ fun v H1 T1 g i1 => f.nx _ _ H1 T1 q (s.grow g)
theorem run_ret (h : Ev K .dat te e d) (q : P.rt d) : Run K E (tRet te) e P := fun B T0 σ H T D s f => h B T0 σ H T s _ fun v H1 T1 g i1 => f.rt d v H1 T1 q (s.gr.trans g) i1
theorem run_retN (q : P.rt .non) : Run K E tRetN e P := fun B T0 σ H T D s f => f.rt .non _ H T q s.gr .non
theorem run_if (h : EvT K tt e b) (h1 : b = true → Run K E t e P) (h2 : b = false → Run K E u e P) : Run K E (tIfS tt t u) e P := fun B T0 σ H T D s f => h B T0 σ H T s _ fun H1 T1 g => by
  cases b with
  | true => exact h1 rfl B T0 σ H1 T1 D (s.grow g) f
  | false => exact h2 rfl B T0 σ H1 T1 D (s.grow g) f
/-- one's own becomes data -/
theorem run_give (hi : e[i]? = some (.own o)) (h : Run K E t (e.set i (.dat o.d)) P) : Run K E t e P := fun B T0 σ H T D s f => by
  obtain ⟨T', hl, s'⟩ := s.give hi
  exact h B T0 σ H T' D s' f
theorem run_retO (hi : e[i]? = some (.own o)) (q : P.rt o.d) : Run K E (tRet (tVar i)) e P := run_give hi (run_ret (ev_dat (by rw [List.getElem?_set_self (List.getElem?_eq_some_iff.mp hi).1])) q)
/-- a list of one's own is handed out as such -/
theorem run_retOwn (hi : e[i]? = some (.own o)) (q : P.ro o) : Run K E (tRet (tVar i)) e P := fun B T0 σ H T D s f => by
  obtain ⟨a, hx, hb, ht, ho⟩ := s.own hi
  exact ⟨_, hx, f.ro o a H T q s.gr hb ht ho⟩
theorem run_retEO (h : EvO K te e o) (q : P.ro o) : Run K E (tRet te) e P := fun B T0 σ H T D s f => h B T0 σ H T s _ fun a H1 T1 g n1 n2 ho => f.ro o a H1 T1 q (s.gr.trans g) (s.gr.h.back n1) n2 ho
theorem run_augI {f : Int → Int → Int} {x y : Int} (hi : e[i]? = some (.dat (.int x))) (h : Ev K m te e (.int y)) (q : P.nx (e.set i (.dat (.int (f x y))))) : Run K E (tAug i te (ipI f)) e P := fun B T0 σ H T D s ft => by
  obtain ⟨v, hx, w, rfl, iw⟩ := s.sl i _ hi
  cases iw
  refine ⟨_, hx, h B T0 σ H T s _ fun v H1 T1 g i1 => ?_⟩
  have i2 := i1.now (s.gr.h.trans g.h) g.s
  cases i2
  exact ⟨x, y, rfl, rfl, ft.nx _ _ H1 T1 q ((s.grow g).set (m := .dat) (fun z => nomatch z) (.int _))⟩
theorem run_app {xs : List D} (hi : e[i]? = some (.own (.lst xs))) (h : Ev K .dat te e d) (hz : xs.length < sizeLine) (q : P.nx (e.set i (.own (.lst (xs ++ [d]))))) :
    Run K E (tDrop (tBM K "list" rAppend (tVar i) (tCons te tNil))) e P := fun B T0 σ H T D s f => by
  obtain ⟨a, hx, hb, ht, vs, hv, iv, _⟩ := s.own hi
  refine ⟨_, hx, .inl ⟨rfl, _, SqL.of hv⟩, h B T0 σ H T s _ fun v H1 T1 g i1 => ?_⟩
  refine ⟨a, vs, v, rfl, rfl, g.h _ _ hv, by rw [iv.length]; exact hz, ?_⟩
  exact f.nx _ _ _ T1 q ((s.grow g).wr hi hx ⟨vs ++ [v], upd_same, (Iss.mono g.t _ iv).append (.cons i1 .nil), by rw [List.length_append]; exact hz⟩)
theorem ixN_len {n : Nat} {k : Int} {j : Nat} (h0 : 0 ≤ k) (h1 : k < n) (h2 : j = k.toNat) : ixN n k = some j := by
  subst h2; unfold ixN; rw [if_pos h0, if_pos h1]
/-- xs[k] = v -/
theorem run_setI {ti : TE} {xs : List D} {k : Int} {j : Nat} (hi : e[i]? = some (.own (.lst xs))) (h : Ev K .dat te e d) (hk : Ev K m ti e (.int k)) (hj : ixN xs.length k = some j) (q : P.nx (e.set i (.own (.lst (xs.set j d))))) :
    Run K E (tAsg te (gSub (tVar i) ti rSetL)) e P := fun B T0 σ H T D s f => by
  refine h B T0 σ H T s _ fun v H1 T1 g1 i1 => ?_
  have s1 := s.grow g1
  obtain ⟨a, hx, hb, ht, vs, hv, iv, z⟩ := s1.own hi
  refine ⟨_, hx, hk B T0 σ H1 T1 s1 _ fun w H2 T2 g2 i2 => ?_⟩
  have i3 := i2.now (s1.gr.h.trans g2.h) g2.s
  cases i3
  refine ⟨a, vs, k, j, rfl, rfl, g2.h _ _ hv, by rw [iv.length]; exact hj, ?_⟩
  exact f.nx _ _ _ T2 q ((s1.grow g2).wr hi hx ⟨vs.set j v, upd_same, (Iss.mono g2.t _ iv).set j (Is.mono g2.t d i1), by rw [List.length_set]; exact z⟩)
end
end Fh

set_option Elab.async false
set_option linter.all false
set_option maxRecDepth 100000
set_option maxHeartbeats 4000000
/-! Fh, third part: loops, comprehensions, defs -/
namespace Fh
open PySem PySem.Spec PyProof.Rows L2

/-! ### what is walked -/
def ItD (K : PySem.W.Frag) (B : Hp) (m : Md) (J : It) (H T : Hp) (xs : List D) : Prop :=
  ∃ S : Hp → Hp → Prop, S H T ∧ (∀ H1 T1 H2 T2, S H1 T1 → Le T1 T2 → Le B H2 → Le T2 H2 → S H2 T2) ∧
    (∀ (i : Nat) d H1 T1, S H1 T1 → xs[i]? = some d → Le B H1 → Le T1 H1 → J.go i H1 ∧ ∀ v H2, J.yld i H1 v H2 → ∃ T2, Gr H1 T1 H2 T2 ∧ MIs m K B H2 T2 v d) ∧
    (∀ (i : Nat) H1 T1, S H1 T1 → Le B H1 → Le T1 H1 → xs.length ≤ i → J.stop i H1)
def EvIz (K : PySem.W.Frag) (m : Md) (wi : TI) (e : En) (xs : List D) : Prop := ∀ (B T0 : Hp) (σ : L2.St) (H T : Hp), Sat K B T0 e σ H T → ∀ R : It → Hp → Prop, (∀ J H' T', Gr H T H' T' → xs.length ≤ sizeLine → ItD K B m J H' T' xs → R J H') → wi σ H R
def EvI (K : PySem.W.Frag) (m : Md) (wi : TI) (e : En) (xs : List D) : Prop := ∀ (B T0 : Hp) (σ : L2.St) (H T : Hp), Sat K B T0 e σ H T → ∀ R : It → Hp → Prop, (∀ J H' T', Gr H T H' T' → ItD K B m J H' T' xs → R J H') → wi σ H R
/-- a list or a tuple -/
def iSeq (K : PySem.W.Frag) (tl : TE) : TI := fun σ H R => tl σ H fun x H1 => ∃ a, x = .ref a ∧ ((∃ xs, SqL K H1 a xs ∧ R (Itl K a) H1) ∨ (∃ xs, SqT K H1 a xs ∧ R (Itt K a) H1))
theorem pi_seq {X : Cx} {tg l : Expr} {tl : TE} (hl : PE X l tl) : PI X tg l (iSeq X.K tl) := by
  refine ⟨fun pins s σ H R I h => ?_⟩
  refine thn (hl.run pins s σ H _ I h) fun v s1 ⟨x, H1, I1, r1, q1⟩ => ?_
  obtain ⟨a, e, q⟩ := q1
  subst e
  cases r1
  rcases q with ⟨xs, hq, q⟩ | ⟨xs, hq, q⟩
  · obtain ⟨its, rv, p, hz⟩ := I1.list hq
    refine wpAny_pyIter_list p.isList ?_
    refine ⟨s1.heap.objs.size, [s1.heap.objs.size], _, _, H1, rfl, I1.kept (t' := s1.toks) fun b o e => Heap.get?_push_of_some _ e, turn_list a _, ⟨_, Heap.get?_push_size _ rfl, rfl, rfl⟩, fun b hb => ?_, q⟩
    have e : b = s1.heap.objs.size := by simpa using hb
    subst e
    exact I1.fpOk (Nat.le_refl _) (I1.hok.fresh (Nat.le_refl _))
  · obtain ⟨its, rv, p, hz⟩ := I1.tuple hq
    refine wpAny_pyIter_tuple (show s1.heap.IsTuple a its.toArray from p) ?_
    refine ⟨s1.heap.objs.size, [s1.heap.objs.size], _, _, H1, rfl, I1.kept (t' := s1.toks) fun b o e => Heap.get?_push_of_some _ e, turn_tuple a _, ⟨_, Heap.get?_push_size _ rfl, rfl, rfl⟩, fun b hb => ?_, q⟩
    have e : b = s1.heap.objs.size := by simpa using hb
    subst e
    exact I1.fpOk (Nat.le_refl _) (I1.hok.fresh (Nat.le_refl _))

section
variable {K : PySem.W.Frag} {E : WX} {e : En} {d d1 d2 d3 : D} {ds xs : List D} {te ta tb tc tl : TE} {tt tu : TT} {m m1 m2 : Md} {b c : Bool} {r : R2} {o : OD} {P : Po} {t u : TS} {i : Nat}
theorem itD_list {B H T : Hp} {a : Addr} {vs : List V} {U : Hp} (hm : (m = .dat ∧ U = T) ∨ (m = .bor ∧ (U = T ∨ U = B))) (hT : Le T H) (hB : Le B H) (h : U a = some (.lst vs)) (hi : Iss K U vs xs) : ItD K B m (Itl K a) H T xs := by
  have hUT : U = T ∨ U = B := by
    rcases hm with ⟨_, q⟩ | ⟨_, q⟩
    · exact .inl q
    · exact q
  refine ⟨fun H1 T1 => Le U H1 ∧ (U = T → Le T T1), ⟨?_, fun _ => Le.refl _⟩, fun H1 T1 H2 T2 s l lb l2 => ⟨?_, fun q => (s.2 q).trans l⟩, fun i d H1 T1 s hx hB1 hT1 => ⟨⟨vs, ?_⟩, ?_⟩, fun i H1 T1 s hB1 hT1 hi' => ⟨vs, SqL.of (s.1 _ _ h), by rw [hi.length]; exact hi'⟩⟩
  · rcases hUT with q | q
    · rw [q]; exact hT
    · rw [q]; exact hB
  · rcases hUT with q | q
    · rw [q]; exact ((s.2 q).trans l).trans l2
    · rw [q]; exact lb
  · obtain ⟨v, hv, _⟩ := hi.get hx
    exact ⟨v, SqL.of (s.1 _ _ h), hv⟩
  · rintro v H2 ⟨rfl, y⟩
    obtain ⟨v', hv, iv⟩ := hi.get hx
    have := y vs (SqL.of (s.1 _ _ h))
    rw [hv] at this
    cases this
    refine ⟨T1, Gr.refl hT1, ?_⟩
    rcases hm with ⟨rfl, q⟩ | ⟨rfl, q⟩
    · exact Is.mono (q ▸ s.2 q) d (q ▸ iv)
    · rcases q with q | q
      · exact .inl (Is.mono (q ▸ s.2 q) d (q ▸ iv))
      · exact .inr (q ▸ iv)

theorem itD_tup {B H T : Hp} {a : Addr} {vs : List V} {U : Hp} (hm : (m = .dat ∧ U = T) ∨ (m = .bor ∧ (U = T ∨ U = B))) (hT : Le T H) (hB : Le B H) (h : SqT K U a vs) (hi : Iss K U vs xs) : ItD K B m (Itt K a) H T xs := by
  have hUT : U = T ∨ U = B := by
    rcases hm with ⟨_, q⟩ | ⟨_, q⟩
    · exact .inl q
    · exact q
  refine ⟨fun H1 T1 => Le U H1 ∧ (U = T → Le T T1), ⟨?_, fun _ => Le.refl _⟩, fun H1 T1 H2 T2 s l lb l2 => ⟨?_, fun q => (s.2 q).trans l⟩, fun i d H1 T1 s hx hB1 hT1 => ⟨⟨vs, ?_⟩, ?_⟩, fun i H1 T1 s hB1 hT1 hi' => ⟨vs, s.1.sqT h, by rw [hi.length]; exact hi'⟩⟩
  · rcases hUT with q | q
    · rw [q]; exact hT
    · rw [q]; exact hB
  · rcases hUT with q | q
    · rw [q]; exact ((s.2 q).trans l).trans l2
    · rw [q]; exact lb
  · obtain ⟨v, hv, _⟩ := hi.get hx
    exact ⟨v, s.1.sqT h, hv⟩
  · rintro v H2 ⟨rfl, y⟩
    obtain ⟨v', hv, iv⟩ := hi.get hx
    have := y vs (s.1.sqT h)
    rw [hv] at this
    cases this
    refine ⟨T1, Gr.refl hT1, ?_⟩
    rcases hm with ⟨rfl, q⟩ | ⟨rfl, q⟩
    · exact Is.mono (q ▸ s.2 q) d (q ▸ iv)
    · rcases q with q | q
      · exact .inl (Is.mono (q ▸ s.2 q) d (q ▸ iv))
      · exact .inr (q ▸ iv)
theorem EvIz.toI {wi : TI} (h : EvIz K m wi e xs) : EvI K m wi e xs := fun B T0 σ H T s R q => h B T0 σ H T s R fun J H' T' g _ i => q J H' T' g i
theorem ei_lstZ (hm : m ≠ .now) (h : Ev K m tl e (.lst xs)) : EvIz K m (iSeq K tl) e xs := fun B T0 σ H T s R q => h B T0 σ H T s _ fun v H1 T1 g i => by
  have hB := (s.gr.h.trans g.h)
  have fin : ∀ U : Hp, ((m = .dat ∧ U = T1) ∨ (m = .bor ∧ (U = T1 ∨ U = B))) → Is K U v (.lst xs) → ∃ a, v = .ref a ∧ ((∃ xs, SqL K H1 a xs ∧ R (Itl K a) H1) ∨ (∃ xs, SqT K H1 a xs ∧ R (Itt K a) H1)) := fun U hU iu => by
    cases iu with
    | @lst a vs _ ha hi hz =>
      have hl : Le U H1 := by
        rcases hU with ⟨_, z⟩ | ⟨_, z | z⟩
        · rw [z]; exact g.s
        · rw [z]; exact g.s
        · rw [z]; exact hB
      exact ⟨a, rfl, .inl ⟨vs, SqL.of (hl _ _ ha), q _ H1 T1 g hz (itD_list hU g.s hB ha hi)⟩⟩
  cases m with
  | dat => exact fin T1 (.inl ⟨rfl, rfl⟩) i
  | bor =>
    rcases i with i | i
    · exact fin T1 (.inr ⟨rfl, .inl rfl⟩) i
    · exact fin B (.inr ⟨rfl, .inr rfl⟩) i
  | now => exact absurd rfl hm
theorem ei_lst (hm : m ≠ .now) (h : Ev K m tl e (.lst xs)) : EvI K m (iSeq K tl) e xs := (ei_lstZ hm h).toI
theorem ei_tupZ (hm : m ≠ .now) (h : Ev K m tl e (.tup xs)) : EvIz K m (iSeq K tl) e xs := fun B T0 σ H T s R q => h B T0 σ H T s _ fun v H1 T1 g i => by
  have hB := (s.gr.h.trans g.h)
  have fin : ∀ U : Hp, ((m = .dat ∧ U = T1) ∨ (m = .bor ∧ (U = T1 ∨ U = B))) → Is K U v (.tup xs) → ∃ a, v = .ref a ∧ ((∃ xs, SqL K H1 a xs ∧ R (Itl K a) H1) ∨ (∃ xs, SqT K H1 a xs ∧ R (Itt K a) H1)) := fun U hU iu => by
    cases iu with
    | @tup a vs _ ha hi hz =>
      have hl : Le U H1 := by
        rcases hU with ⟨_, z⟩ | ⟨_, z | z⟩
        · rw [z]; exact g.s
        · rw [z]; exact g.s
        · rw [z]; exact hB
      exact ⟨a, rfl, .inr ⟨vs, hl.sqT ha.t, q _ H1 T1 g hz (itD_tup hU g.s hB ha.t hi)⟩⟩
  cases m with
  | dat => exact fin T1 (.inl ⟨rfl, rfl⟩) i
  | bor =>
    rcases i with i | i
    · exact fin T1 (.inr ⟨rfl, .inl rfl⟩) i
    · exact fin B (.inr ⟨rfl, .inr rfl⟩) i
  | now => exact absurd rfl hm
theorem ei_tup (hm : m ≠ .now) (h : Ev K m tl e (.tup xs)) : EvI K m (iSeq K tl) e xs := (ei_tupZ hm h).toI
/-- lo, lo + 1, .. -/
def rgD (lo : Int) (n : Nat) : List D := (List.range n).map fun i => D.int (lo + (i : Nat))
theorem rgD_len (lo : Int) (n : Nat) : (rgD lo n).length = n := by unfold rgD; simp
theorem rgD_get {lo : Int} {n i : Nat} (h : i < n) : (rgD lo n)[i]? = some (.int (lo + (i : Nat))) := by
  unfold rgD; rw [List.getElem?_map, List.getElem?_range h]; rfl
theorem itD_rng {B H T : Hp} {lo : Int} {n : Nat} : ItD K B .dat (Itr lo n) H T (rgD lo n) := by
  refine ⟨fun _ _ => True, trivial, fun _ _ _ _ _ _ _ _ => trivial, fun i d H1 T1 _ hx hB1 hT1 => ?_, fun i H1 T1 _ _ _ hi => by rw [rgD_len] at hi; exact hi⟩
  have hi : i < n := by
    have := (List.getElem?_eq_some_iff.mp hx).1
    rwa [rgD_len] at this
  rw [rgD_get hi] at hx
  cases hx
  exact ⟨hi, fun v H2 ⟨e1, e2⟩ => by subst e1; subst e2; exact ⟨T1, Gr.refl hT1, .int _⟩⟩
theorem ei_rng1 {ta : TA} {n : Int} (h : EvA K [m] ta e [.int n]) (h1 : -(2 ^ 62) ≤ n) (h2 : n < 2 ^ 62) : EvI K .dat (iRng1 ta) e (rgD 0 n.toNat) := fun B T0 σ H T s R q => h B T0 σ H T s _ fun vs H1 T1 g i => by
  match vs, i with
  | [v], i =>
    have i1 := i.1.now (s.gr.h.trans g.h) g.s
    cases i1
    exact ⟨n, rfl, h1, h2, q _ H1 T1 g itD_rng⟩
theorem ei_rng2 {ta : TA} {lo n : Int} (h : EvA K [m1, m2] ta e [.int lo, .int n]) (hb : -(2 ^ 62) ≤ lo ∧ lo < 2 ^ 62 ∧ -(2 ^ 62) ≤ n ∧ n < 2 ^ 62) : EvI K .dat (iRng2 ta) e (rgD lo (n - lo).toNat) := fun B T0 σ H T s R q => h B T0 σ H T s _ fun vs H1 T1 g i => by
  match vs, i with
  | [v, w], i =>
    have i1 := i.1.now (s.gr.h.trans g.h) g.s
    have i2 := i.2.1.now (s.gr.h.trans g.h) g.s
    cases i1
    cases i2
    exact ⟨lo, n, rfl, hb, q _ H1 T1 g itD_rng⟩

/-! ### targets -/
/-- the frame's names but those of vs are as they were -/
def SameBut (vs : List Nat) (σ σ' : L2.St) : Prop := σ'.length = σ.length ∧ ∀ j, j ∉ vs → σ'[j]? = σ[j]?
def Tg (K : PySem.W.Frag) (vs : List Nat) (m : Md) (g : TG) (d : D) (e e' : En) : Prop := ∀ (B T0 : Hp) (σ : L2.St) (H T : Hp) (v : V), Sat K B T0 e σ H T → MIs m K B H T v d → ∀ Q : L2.St → Hp → Prop, (∀ σ', Sat K B T0 e' σ' H T → SameBut vs σ σ' → Q σ' H) → g v σ H Q
theorem sb_set {σ : L2.St} {x : Option V} {vs : List Nat} (h : i ∈ vs) : SameBut vs σ (σ.set i x) := ⟨by simp, fun j hj => List.getElem?_set_ne fun q => hj (by rw [← q]; exact h)⟩
theorem SameBut.trans {vs : List Nat} {σ σ1 σ2 : L2.St} (a : SameBut vs σ σ1) (b : SameBut vs σ1 σ2) : SameBut vs σ σ2 := ⟨b.1.trans a.1, fun j h => (b.2 j h).trans (a.2 j h)⟩
theorem tg_dat {vs : List Nat} (h : i ∈ vs := by simp) : Tg K vs .dat (gName i) d e (e.set i (.dat d)) := fun B T0 σ H T v s hv Q q => q _ (s.set (m := .dat) (fun z => nomatch z) hv) (sb_set h)
theorem tg_bor {vs : List Nat} (h : i ∈ vs := by simp) : Tg K vs .bor (gName i) d e (e.set i (.bor d)) := fun B T0 σ H T v s hv Q q => q _ (s.set (m := .bor) (fun z => nomatch z) hv) (sb_set h)
def Tgs (K : PySem.W.Frag) (vs : List Nat) (m : Md) (g : TGs) (ds : List D) (e e' : En) : Prop := ∀ (B T0 : Hp) (σ : L2.St) (H T U : Hp) (ws : List V), Sat K B T0 e σ H T → Iss K U ws ds → (m = .dat → Le U T) → (m = .bor → Le U T ∨ Le U B) → ∀ Q : L2.St → Hp → Prop, (∀ σ', Sat K B T0 e' σ' H T → SameBut vs σ σ' → Q σ' H) → g ws σ H Q
theorem tgs_nil {vs : List Nat} : Tgs K vs m gNil [] e e := fun B T0 σ H T U vs s hv _ _ Q q => by
  cases hv
  exact ⟨rfl, q σ s ⟨rfl, fun _ _ => rfl⟩⟩
theorem tgs_cons {vs : List Nat} (hm : m ≠ .now) {g : TG} {gs : TGs} {e1 e2 : En} (h : Tg K vs m g d e e1) (hr : Tgs K vs m gs ds e1 e2) : Tgs K vs m (gCons g gs) (d :: ds) e e2 := fun B T0 σ H T U ws s hv l1 l2 Q q => by
  cases hv with
  | @cons v ws _ _ iv ivs =>
    refine ⟨v, ws, rfl, h B T0 σ H T v s ?_ _ fun σ1 s1 b1 => hr B T0 σ1 H T U ws s1 ivs l1 l2 Q fun σ' s' b2 => q σ' s' (b1.trans b2)⟩
    cases m with
    | dat => exact Is.mono (l1 rfl) d iv
    | bor =>
      rcases l2 rfl with z | z
      · exact .inl (Is.mono z d iv)
      · exact .inr (Is.mono z d iv)
    | now => exact absurd rfl hm
theorem tg_tup {vs : List Nat} (hm : m ≠ .now) {gs : TGs} {n : Nat} {e2 : En} (h : Tgs K vs m gs ds e e2) (hn : ds.length = n) : Tg K vs m (gTup K n gs) (.tup ds) e e2 := fun B T0 σ H T v s hv Q q => by
  have fin : ∀ U : Hp, (m = .dat → Le U T) → (m = .bor → Le U T ∨ Le U B) → Le U H → Is K U v (.tup ds) → ∃ a xs, v = .ref a ∧ SqT K H a xs ∧ xs.length = n ∧ gs xs σ H Q := fun U h1 h2 h3 iu => by
    cases iu with
    | @tup a vs _ ha hi => exact ⟨a, vs, rfl, h3.sqT ha.t, by rw [hi.length]; exact hn, h B T0 σ H T U vs s hi h1 h2 Q q⟩
  cases m with
  | dat => exact fin T (fun _ => Le.refl _) (fun z => nomatch z) s.gr.s hv
  | bor =>
    rcases hv with i | i
    · exact fin T (fun z => nomatch z) (fun _ => .inl (Le.refl _)) s.gr.s i
    · exact fin B (fun z => nomatch z) (fun _ => .inr (Le.refl _)) s.gr.h i
  | now => exact absurd rfl hm

theorem dat_now : Md.dat ≠ .now := fun z => nomatch z
theorem bor_now : Md.bor ≠ .now := fun z => nomatch z
theorem tg_2 {vs : List Nat} {i j : Nat} (hi : i ∈ vs := by simp) (hj : j ∈ vs := by simp) : Tg K vs .dat (gTup K 2 (gCons (gName i) (gCons (gName j) gNil))) (.tup [d1, d2]) e ((e.set i (.dat d1)).set j (.dat d2)) :=
  tg_tup dat_now (tgs_cons dat_now (tg_dat hi) (tgs_cons dat_now (tg_dat hj) tgs_nil)) rfl
theorem tg_2b {vs : List Nat} {i j : Nat} (hi : i ∈ vs := by simp) (hj : j ∈ vs := by simp) : Tg K vs .bor (gTup K 2 (gCons (gName i) (gCons (gName j) gNil))) (.tup [d1, d2]) e ((e.set i (.bor d1)).set j (.bor d2)) :=
  tg_tup bor_now (tgs_cons bor_now (tg_bor hi) (tgs_cons bor_now (tg_bor hj) tgs_nil)) rfl
theorem tg_3 {vs : List Nat} {i j k : Nat} (hi : i ∈ vs := by simp) (hj : j ∈ vs := by simp) (hk : k ∈ vs := by simp) : Tg K vs .dat (gTup K 3 (gCons (gName i) (gCons (gName j) (gCons (gName k) gNil)))) (.tup [d1, d2, d3]) e (((e.set i (.dat d1)).set j (.dat d2)).set k (.dat d3)) :=
  tg_tup dat_now (tgs_cons dat_now (tg_dat hi) (tgs_cons dat_now (tg_dat hj) (tgs_cons dat_now (tg_dat hk) tgs_nil))) rfl

/-! ### for, while -/
theorem run_for {wi : TI} {g : TG} {tb : TS} (hi : EvI K m wi e xs) (I : Nat → En → Prop) (h0 : I 0 e)
    (hs : ∀ (i : Nat) d e, xs[i]? = some d → I i e → ∃ e' vs, Tg K vs m g d e e' ∧ Run K E tb e' { P with nx := I (i + 1), ct := I (i + 1), bk := P.nx }) (hd : ∀ e, I xs.length e → P.nx e) : Run K E (tFor wi g tb) e P := fun B T0 σ H T D s f =>
  hi B T0 σ H T s _ fun J H1 T1 g1 hJ => by
    obtain ⟨S, hS, st, go, stop⟩ := hJ
    have s1 := s.grow g1
    refine ⟨fun i m σ H => m = xs.length - i ∧ i ≤ xs.length ∧ ∃ e T, I i e ∧ Sat K B T0 e σ H T ∧ S H T, ⟨xs.length, by simp, Nat.zero_le _, e, T1, h0, s1, hS⟩, ?_⟩
    rintro i m' σ2 H2 ⟨rfl, hle, e2, T2, hI, s2, hS2⟩
    by_cases hlt : i < xs.length
    · have hx : xs[i]? = some xs[i] := List.getElem?_eq_getElem hlt
      obtain ⟨hgo, hy⟩ := go i _ H2 T2 hS2 hx s2.gr.h s2.gr.s
      refine .inr ⟨hgo, fun σ' H' => ∃ e T, I (i + 1) e ∧ Sat K B T0 e σ' H' T ∧ S H' T, fun σ' H' q => ⟨xs.length - (i + 1), by omega, rfl, hlt, q⟩, fun v H3 y => ?_⟩
      obtain ⟨T3, g3, iv⟩ := hy v H3 y
      have s3 := s2.grow g3
      obtain ⟨e4, vs4, htg, hrun⟩ := hs i _ e2 hx hI
      refine htg B T0 σ2 H3 T3 v s3 iv _ fun σ4 s4 _ => ?_
      have hS3 : S H3 T3 := st _ _ _ _ hS2 g3.t s3.gr.h s3.gr.s
      refine hrun B T3 σ4 H3 T3 _ s4.rebase ⟨fun e' σ' H' T' p s' => ⟨e', T', p, s4.unbase s', st _ _ _ _ hS3 s'.gr.t s'.gr.h s'.gr.s⟩, fun d v H' T' p g i => (Fits.rebase s4 f).rt d v H' T' p g i,
        fun e' σ' H' T' p s' => f.nx e' σ' H' T' p (s4.unbase s'), fun e' σ' H' T' p s' => ⟨e', T', p, s4.unbase s', st _ _ _ _ hS3 s'.gr.t s'.gr.h s'.gr.s⟩, fun e' σ' H' T' C od o p s' x => f.ex e' σ' H' T' C od o p (s4.unbase s') x, (Fits.rebase s4 f).ro⟩
    · have e0 : i = xs.length := by omega
      subst e0
      exact .inl ⟨stop _ H2 T2 hS2 s2.gr.h s2.gr.s (Nat.le_refl _), f.nx e2 σ2 H2 T2 (hd e2 hI) s2⟩
theorem run_while {tc : TT} {tb : TS} (I : Nat → En → Prop) (n0 : Nat) (h0 : I n0 e)
    (hs : ∀ n e, I n e → ∃ b, EvT K tc e b ∧ (b = true → Run K E tb e { P with nx := fun e' => ∃ n', n' < n ∧ I n' e', ct := fun e' => ∃ n', n' < n ∧ I n' e', bk := P.nx }) ∧ (b = false → P.nx e)) : Run K E (tWhile tc tb) e P := fun B T0 σ H T D s f => by
  refine ⟨fun n σ H => ∃ e T, I n e ∧ Sat K B T0 e σ H T, ⟨n0, e, T, h0, s⟩, ?_⟩
  rintro n σ2 H2 ⟨e2, T2, hI, s2⟩
  obtain ⟨b, ht, hb, hn⟩ := hs n e2 hI
  refine ht B T0 σ2 H2 T2 s2 _ fun H3 T3 g => ?_
  have s3 := s2.grow g
  cases b with
  | true =>
    rw [if_pos rfl]
    refine ⟨fun σ' H' => ∃ n', n' < n ∧ ∃ e T, I n' e ∧ Sat K B T0 e σ' H' T, fun σ' H' ⟨n', hn', q⟩ => ⟨n', hn', q⟩, ?_⟩
    exact hb rfl B T0 σ2 H3 T3 _ s3 ⟨fun e' σ' H' T' ⟨n', hn', p⟩ s' => ⟨n', hn', e', T', p, s'⟩, f.rt, f.nx, fun e' σ' H' T' ⟨n', hn', p⟩ s' => ⟨n', hn', e', T', p, s'⟩, f.ex, f.ro⟩
  | false =>
    rw [if_neg Bool.false_ne_true]
    exact f.nx e2 σ2 H3 T3 (hn rfl) s3

/-! ### comprehensions -/
def wipeE (e : En) : List Nat → En
  | [] => e
  | v :: vs => (wipeE e vs).set v .no
theorem Sat.no {B T0 H T : Hp} {σ : L2.St} (s : Sat K B T0 e σ H T) (i : Nat) (x : Option V) : Sat K B T0 (e.set i .no) (σ.set i x) H T := by
  refine ⟨s.gr, by simp [s.len], fun j sl h => ?_, fun j k o o' a b hjk h1 h2 h3 h4 => ?_⟩
  · by_cases hj : i = j
    · subst hj
      have hi : i < e.length := by
        have := (List.getElem?_eq_some_iff.mp h).1
        simpa using this
      rw [List.getElem?_set_self hi] at h
      cases h
      exact ⟨x, by rw [List.getElem?_set_self (by rw [s.len]; exact hi)], trivial⟩
    · rw [List.getElem?_set_ne hj] at h ⊢
      exact s.sl j sl h
  · have f : ∀ (l : Nat) (o : OD), (e.set i .no)[l]? = some (.own o) → i ≠ l := fun l o hl q => by
      subst q
      have hi : i < e.length := by
        have := (List.getElem?_eq_some_iff.mp hl).1
        simpa using this
      rw [List.getElem?_set_self hi] at hl; cases hl
    have f1 := f j o h1
    have f2 := f k o' h2
    rw [List.getElem?_set_ne f1] at h1 h3
    rw [List.getElem?_set_ne f2] at h2 h4
    exact s.sep j k o o' a b hjk h1 h2 h3 h4
theorem Sat.wipe {B T0 H T : Hp} {σ : L2.St} (s : Sat K B T0 e σ H T) : ∀ vs : List Nat, Sat K B T0 (wipeE e vs) (wipe σ vs) H T
  | [] => s
  | v :: vs => (Sat.wipe s vs).no v none
theorem wipe_get {σ : L2.St} : ∀ {vs : List Nat} {j : Nat}, j ∉ vs → (wipe σ vs)[j]? = σ[j]?
  | [], _, _ => rfl
  | v :: vs, j, h => by
    unfold wipe
    rw [List.getElem?_set_ne (fun q => h (by simp [q]))]
    exact wipe_get fun q => h (by simp [q])
theorem wipe_at {σ : L2.St} : ∀ {vs : List Nat} {j : Nat}, j ∈ vs → j < σ.length → (wipe σ vs)[j]? = some none
  | v :: vs, j, h, hl => by
    unfold wipe
    by_cases q : v = j
    · subst q
      rw [List.getElem?_set_self (by rw [wipe_length]; exact hl)]
    · rw [List.getElem?_set_ne q]
      exact wipe_at (by rcases List.mem_cons.mp h with z | z; exact absurd z.symm q; exact z) hl
theorem wipe_same {vs : List Nat} {σ σ' : L2.St} (h : SameBut vs σ σ') : wipe σ' vs = wipe σ vs := by
  apply List.ext_getElem?
  intro j
  by_cases hj : j ∈ vs
  · by_cases hl : j < σ.length
    · rw [wipe_at hj hl, wipe_at hj (by rw [h.1]; exact hl)]
    · rw [List.getElem?_eq_none (by rw [wipe_length, h.1]; omega), List.getElem?_eq_none (by rw [wipe_length]; omega)]
  · rw [wipe_get hj, wipe_get hj]; exact h.2 j hj

def rem (H : Hp) (a : Addr) : Hp := fun b => if b = a then none else H b
theorem rem_at {H : Hp} {a : Addr} : rem H a a = none := by unfold rem; rw [if_pos rfl]
theorem rem_ne {H : Hp} {a b : Addr} (h : b ≠ a) : rem H a b = H b := by unfold rem; rw [if_neg h]
theorem upd_rem {H : Hp} {a : Addr} {o : HO} : upd (rem H a) a o = upd H a o := by
  funext b; unfold upd rem; split <;> rfl
theorem upd_get {H : Hp} {a : Addr} {o : HO} (h : H a = some o) : upd (rem H a) a o = H := by
  funext b
  by_cases q : b = a
  · subst q; rw [upd_same, h]
  · rw [upd_ne q, rem_ne q]
theorem gr_rem {H T H4 T4 : Hp} {a : Addr} {o : HO} (hm : H a = none) (hT : Le T H) (g : Gr (upd H a o) T H4 T4) (ho : ¬ Hard o := by exact id) : Gr H T (rem H4 a) T4 ∧ H4 a = some o ∧ T4 a = none := by
  have h4 : H4 a = some o := g.h _ _ upd_same
  have t4 : T4 a = none := by
    cases q : T4 a with
    | none => rfl
    | some u =>
      rcases g.n a u q (hT.back hm) with z | z
      · rw [upd_same] at z; cases z
      · have e := g.s a u q
        rw [h4] at e; cases e
        exact absurd z ho
  refine ⟨⟨fun b w z => ?_, g.t, fun b w z => ?_, fun b w z z' => ?_⟩, h4, t4⟩
  · have hb := ne_of_none z hm
    rw [rem_ne hb]
    exact g.h _ _ (by rw [upd_ne hb]; exact z)
  · have hb := ne_of_none z t4
    rw [rem_ne hb]
    exact g.s _ _ z
  · have hb := ne_of_none z t4
    have := g.n b w z z'
    rwa [upd_ne hb] at this
theorem filterMap_take {α β : Type} (F : α → Option β) {xs : List α} {i : Nat} {x : α} (h : xs[i]? = some x) : (xs.take (i + 1)).filterMap F = (xs.take i).filterMap F ++ (match F x with | some y => [y] | none => []) := by
  have e : xs.take (i + 1) = xs.take i ++ [x] := by
    rw [List.take_add_one, h]; rfl
  rw [e, List.filterMap_append]
  congr 1
  rw [List.filterMap_cons]
  cases F x <;> rfl
/-- [elt for target in iter if test] -/
theorem ev_lcO {wi : TI} {g : TG} {vs : List Nat} (F : D → Option D) (hi : EvI K m wi e xs) (hz : xs.length ≤ sizeLine)
    (hs : ∀ (i : Nat) d, xs[i]? = some d → ∃ e', Tg K vs m g d (wipeE e vs) e' ∧ ((∃ y, EvT K tt e' true ∧ F d = some y ∧ Ev K .dat te e' y) ∨ (EvT K tt e' false ∧ F d = none))) :
    EvO K (tLc wi g tt te vs) e (.lst (xs.filterMap F)) := fun B T0 σ H T s Q q => hi B T0 σ H T s _ fun J H1 T1 g1 hJ Dl hD => by
  obtain ⟨S, hS, st, go, stop⟩ := hJ
  have s1 := s.grow g1
  have hT1 : T1 Dl = none := g1.s.back hD
  refine ⟨fun i m H => m = xs.length - i ∧ i ≤ xs.length ∧ ∃ Hm T acc, H = upd Hm Dl (.lst acc) ∧ Hm Dl = none ∧ Gr H1 T1 Hm T ∧ S H T ∧ Iss K T acc ((xs.take i).filterMap F), ⟨xs.length, by simp, Nat.zero_le _, H1, T1, [], rfl, hD, Gr.refl g1.s, ?_, .nil⟩, ?_⟩
  · exact st _ _ _ _ hS (Le.refl _) (s1.gr.h.trans (Le.new hD)) (g1.s.trans (Le.new hD))
  rintro i m' H2 ⟨rfl, hle, Hm, T2, acc, rfl, hm, gm, hS2, hacc⟩
  have sm := s1.grow gm
  have gown : Gr Hm T2 (upd Hm Dl (.lst acc)) T2 := Gr.own gm.s hm
  have s2 := sm.grow gown
  by_cases hlt : i < xs.length
  · have hx : xs[i]? = some xs[i] := List.getElem?_eq_getElem hlt
    obtain ⟨hgo, hy⟩ := go i _ _ T2 hS2 hx s2.gr.h s2.gr.s
    refine .inr ⟨hgo, fun H' => ∃ Hm T acc, H' = upd Hm Dl (.lst acc) ∧ Hm Dl = none ∧ Gr H1 T1 Hm T ∧ S H' T ∧ Iss K T acc ((xs.take (i + 1)).filterMap F), fun H' q => ⟨xs.length - (i + 1), by omega, rfl, hlt, q⟩, fun v H3 y => ?_⟩
    obtain ⟨T3, g3, iv⟩ := hy v H3 y
    have s3 := s2.grow g3
    obtain ⟨e', htg, hev⟩ := hs i _ hx
    refine htg B T0 (wipe σ vs) H3 T3 v (s3.wipe vs) iv _ fun σ4 s4 b4 => ⟨?_, ?_⟩
    · have : SameBut vs σ σ4 := SameBut.trans ⟨wipe_length σ vs, fun j hj => wipe_get hj⟩ b4
      exact wipe_same this
    have fm := filterMap_take F hx
    rcases hev with ⟨y, ht, hF, he⟩ | ⟨ht, hF⟩
    · refine ht B T0 σ4 H3 T3 s4 _ fun H5 T5 g5 => ?_
      rw [if_pos rfl]
      refine he B T0 σ4 H5 T5 (s4.grow g5) _ fun w H6 T6 g6 iw => ?_
      have gall := (g3.trans g5).trans g6
      obtain ⟨gr', h6, t6⟩ := gr_rem hm gm.s gall
      refine ⟨acc, h6, ?_, rem H6 Dl, T6, acc ++ [w], upd_rem.symm, rem_at, gm.trans gr', ?_, ?_⟩
      · have := hacc.length
        have l1 : ((xs.take i).filterMap F).length ≤ (xs.take i).length := List.length_filterMap_le _ _
        rw [List.length_take] at l1
        omega
      · have gg : Gr (rem H6 Dl) T6 (upd (rem H6 Dl) Dl (.lst (acc ++ [w]))) T6 := Gr.own gr'.s rem_at
        rw [upd_rem] at gg
        exact st _ _ _ _ hS2 gall.t ((sm.grow gr').gr.h.trans gg.h) gg.s
      · rw [fm, hF]
        exact (Iss.mono gall.t _ hacc).append (.cons iw .nil)
    · refine ht B T0 σ4 H3 T3 s4 _ fun H5 T5 g5 => ?_
      rw [if_neg Bool.false_ne_true]
      have gall := g3.trans g5
      obtain ⟨gr', h6, t6⟩ := gr_rem hm gm.s gall
      refine ⟨rem H5 Dl, T5, acc, (upd_get h6).symm, rem_at, gm.trans gr', ?_, ?_⟩
      · have gg : Gr (rem H5 Dl) T5 (upd (rem H5 Dl) Dl (.lst acc)) T5 := Gr.own gr'.s rem_at
        rw [upd_get h6] at gg
        exact st _ _ _ _ hS2 gall.t ((sm.grow gr').gr.h.trans gg.h) gg.s
      · rw [fm, hF, List.append_nil]
        exact Iss.mono gall.t _ hacc
  · have e0 : i = xs.length := by omega
    subst e0
    refine .inl ⟨stop _ _ T2 hS2 s2.gr.h s2.gr.s (Nat.le_refl _), ?_⟩
    rw [List.take_length] at hacc
    have t2 : T2 Dl = none := gm.s.back hm
    exact q Dl _ T2 (g1.trans (gm.trans gown)) (g1.h.back hD) t2 ⟨acc, upd_same, hacc, Nat.le_trans (List.length_filterMap_le _ _) hz⟩
end
end Fh

set_option Elab.async false
set_option linter.all false
set_option maxRecDepth 100000
set_option maxHeartbeats 4000000
/-! Fh, fourth part: defs and their calls -/
namespace Fh
open PySem PySem.Spec PyProof.Rows L2

/-- a promise: the arguments' data (each known for good, .dat, or only lent), what the caller must show, what holds of the answer -/
def SpR (K : PySem.W.Frag) {α : Type} (ms : List Md) (args : α → List D) (pre : α → Prop) (out : α → D → Prop) : Sp := fun vs H Q _ =>
  ∃ (T : Hp) (x : α), Le T H ∧ pre x ∧ MIss K H H T ms vs (args x) ∧ ∀ d v H' T', out x d → Gr H T H' T' → Is K T' v d → Q v H'
abbrev SpP (K : PySem.W.Frag) {α : Type} (ms : List Md) (args : α → List D) (pre : α → Prop) (out : α → D) : Sp := SpR K ms args pre fun a d => d = out a
theorem MIss.len {K : PySem.W.Frag} {B H T : Hp} : ∀ {ms : List Md} {vs : List V} {ds : List D}, MIss K B H T ms vs ds → vs.length = ms.length ∧ ds.length = ms.length
  | [], [], [], _ => ⟨rfl, rfl⟩
  | _ :: _, _ :: _, _ :: _, h => by
    have := MIss.len h.2
    simp [this.1, this.2]
  | [], [], _ :: _, h => h.elim
  | [], _ :: _, _, h => h.elim
  | _ :: _, [], _, h => h.elim
  | _ :: _, _ :: _, [], h => h.elim
def slots : List Md → List D → En
  | .dat :: ms, d :: ds => .dat d :: slots ms ds
  | .bor :: ms, d :: ds => .bor d :: slots ms ds
  | .now :: ms, d :: ds => .bor d :: slots ms ds
  | _, _ => []
theorem slots_len : ∀ {ms : List Md} {ds : List D}, ds.length = ms.length → (slots ms ds).length = ms.length
  | [], [], _ => rfl
  | m :: ms, d :: ds, h => by
    have ih := slots_len (ms := ms) (ds := ds) (by simpa using h)
    cases m <;> simp [slots, ih]
  | [], _ :: _, h => by simp at h
  | _ :: _, [], h => by simp at h
theorem slots_ok {K : PySem.W.Frag} {H T : Hp} : ∀ {ms : List Md} {vs : List V} {ds : List D} {i : Nat} {s : Sl}, MIss K H H T ms vs ds → (slots ms ds)[i]? = some s → ∃ v, vs[i]? = some v ∧ SlotOk K H H T (some v) s ∧ ∀ o, s ≠ .own o
  | [], [], [], i, s, _, e => by simp [slots] at e
  | m :: ms, v :: vs, d :: ds, 0, s, h, e => by
    refine ⟨v, rfl, ?_⟩
    cases m with
    | dat => cases e; exact ⟨⟨v, rfl, h.1⟩, fun o q => nomatch q⟩
    | bor => cases e; exact ⟨⟨v, rfl, h.1⟩, fun o q => nomatch q⟩
    | now => cases e; exact ⟨⟨v, rfl, .inr h.1⟩, fun o q => nomatch q⟩
  | m :: ms, v :: vs, d :: ds, i + 1, s, h, e => by
    have e' : (slots ms ds)[i]? = some s := by cases m <;> simpa [slots] using e
    obtain ⟨w, hw, q⟩ := slots_ok h.2 e'
    exact ⟨w, by simpa using hw, q⟩
  | [], [], _ :: _, _, _, h, _ => h.elim
  | [], _ :: _, _, _, _, h, _ => h.elim
  | _ :: _, [], _, _, _, h, _ => h.elim
  | _ :: _, _ :: _, [], _, _, h, _ => h.elim
def En0 (ms : List Md) (ds : List D) (n : Nat) : En := slots ms ds ++ List.replicate n .no
theorem sat_start {K : PySem.W.Frag} {H T : Hp} {ms : List Md} {vs : List V} {ds : List D} {N : List Str} (hT : Le T H) (h : MIss K H H T ms vs ds) (hN : ms.length ≤ N.length) : Sat K H T (En0 ms ds (N.length - ms.length)) (L2.start N vs) H T := by
  obtain ⟨l1, l2⟩ := h.len
  have ls := slots_len l2
  have at_ : ∀ (i : Nat) s, (En0 ms ds (N.length - ms.length))[i]? = some s → ∃ x, (L2.start N vs)[i]? = some x ∧ SlotOk K H H T x s ∧ ∀ o, s ≠ .own o := fun i s e => by
    unfold En0 at e
    unfold L2.start
    by_cases hi : i < ms.length
    · rw [List.getElem?_append_left (by rw [ls]; exact hi)] at e
      obtain ⟨v, hv, q⟩ := slots_ok h e
      refine ⟨some v, ?_, q⟩
      rw [List.getElem?_append_left (by rw [List.length_map, l1]; exact hi), List.getElem?_map, hv]
      rfl
    · have hle : ms.length ≤ i := by omega
      rw [List.getElem?_append_right (by rw [ls]; exact hle), ls] at e
      have hi2 : i - ms.length < N.length - ms.length := by
        have := (List.getElem?_eq_some_iff.mp e).1
        simpa using this
      rw [List.getElem?_replicate_of_lt hi2] at e
      cases e
      refine ⟨none, ?_, trivial, fun o q => nomatch q⟩
      rw [List.getElem?_append_right (by rw [List.length_map, l1]; exact hle), List.length_map, l1, List.getElem?_replicate_of_lt hi2]
  refine ⟨Gr.refl hT, ?_, fun i s e => ?_, fun i j o o' a b hij h1 h2 => ?_⟩
  · unfold En0 L2.start
    simp [ls, l1]
  · obtain ⟨x, hx, q, _⟩ := at_ i s e
    exact ⟨x, hx, q⟩
  · obtain ⟨x, _, _, q⟩ := at_ i _ h1
    exact absurd rfl (q o)

section
variable {P : Program} {w : World} {K : PySem.W.Frag} {mg : Str → Option Value} {base : Heap}
/-- a def of the text as it stands behind the top -/
abbrev FnP (K : PySem.W.Frag) (x : Str) (st : Stmt) (dvs : List V) (kws : List (Str × V)) (f : Addr) (fd : FuncData) : Prop := FunD K x x (defArgs st) (defBody st) (defScope st) dvs kws f fd
def Dd (K : PySem.W.Frag) (mg : Str → Option Value) (x : Str) (st : Stmt) (dvs : List V) (kws : List (Str × V)) : Prop := ∃ f fd, FnP K x st dvs kws f fd ∧ mg x = some (.ref f)
/-- what a def is worth: it may be called by its name -/
structure Df (P : Program) (w : World) (K : PySem.W.Frag) (mg : Str → Option Value) (base : Heap) (x : Str) (k : Nat) (dvs : List V) (sp : Sp) : Prop where
  ex : ∃ (CX : CXT) (f : Addr) (fd : FuncData) (ps : List Str) (ds : List Value), FnOk P w K mg base CX k f fd ps sp ∧ mg x = some (.ref f) ∧ PySem.W.keepIn K (.ref f) = true ∧ Binds K fd ps ds ∧ Vals dvs ds ∧ ∀ X : Cx, X.prog = P → X.w = w → Passes CX X E0
/-- a body that holds what is promised -/
def BodyR (P : Program) (w : World) (K : PySem.W.Frag) (mg : Str → Option Value) (base : Heap) (x : Str) (st : Stmt) (N : List Str) (k : Nat) {α : Type} (ms : List Md) (args : α → List D) (pre : α → Prop) (out : α → D → Prop) : Prop :=
  ∀ (f : Addr) (cdv : Value) (A : Around) (outer : List Env) (s : Shared) (H : Hp) (E : XK), Room k (A.deeper (envOfC x (defScope st) s.heap.objs.size f cdv)) →
    ∃ t, PSs (cxOf CX0 P w K mg base N x (defScope st) f cdv A outer s H E).nox (defBody st) t ∧ ∀ a, pre a → Run K (lift E) t (En0 ms (args a) (N.length - ms.length)) { nx := fun _ => out a .non, rt := out a }
abbrev Body (P : Program) (w : World) (K : PySem.W.Frag) (mg : Str → Option Value) (base : Heap) (x : Str) (st : Stmt) (N : List Str) (k : Nat) {α : Type} (ms : List Md) (args : α → List D) (pre : α → Prop) (out : α → D) : Prop :=
  BodyR P w K mg base x st N k ms args pre fun a d => d = out a
theorem fn_ok {x : Str} {st : Stmt} {dvs : List V} {kws : List (Str × V)} {f : Addr} {fd : FuncData} {N ps : List Str} {k : Nat} {α : Type} {ms : List Md} {args : α → List D} {pre : α → Prop} {out : α → D → Prop}
    (F : FnP K x st dvs kws f fd) (S : FnScope N ps (defScope st)) (hn : ms.length = ps.length) (hN : ms.length ≤ N.length) (hb : BodyR P w K mg base x st N k ms args pre out) :
    FnOk P w K mg base CX0 (k + 1) f fd ps (SpR K ms args pre out) := by
  refine F.ok S (fun vs H Q E h => ?_) (fun cdv A outer s H vs Q E hr h => ?_)
  · obtain ⟨T, a, _, _, hm, _⟩ := h
    rw [hm.len.1, hn]
  · obtain ⟨t, ht, hrun⟩ := hb f cdv A outer s H E hr
    obtain ⟨T, a, hT, hp, hm, hq⟩ := h
    refine ⟨t, ht.nox, hrun a hp H T _ H T _ (sat_start hT hm hN) ⟨fun e σ H' T' p s' => ?_, fun d v H' T' p g i => ?_, fun _ _ _ _ p => p.elim, fun _ _ _ _ p => p.elim, fun _ _ _ _ _ _ _ p => p.elim, fun _ _ _ _ p => p.elim⟩⟩
    · exact hq .non .non H' T' p s'.gr .non
    · exact hq d v H' T' p g i
theorem pass0' {X : Cx} {P : Program} {w : World} (h1 : X.prog = P) (h2 : X.w = w) : Passes CX0 X E0 := pass0
/-- no defaults -/
theorem Dd.df {x : Str} {st : Stmt} {N ps : List Str} {k : Nat} {α : Type} {ms : List Md} {args : α → List D} {pre : α → Prop} {out : α → D → Prop}
    (F : Dd K mg x st [] []) (S : FnScope N ps (defScope st)) (hn : ms.length = ps.length) (hN : ms.length ≤ N.length)
    (bd : ∀ (kV doc pm : Value) (an : Option Addr) (cdv ct : Value) (us : List Value), us.length = ps.length → bindArgs (PySem.W.fnOf x x (defArgs st) (defBody st) (defScope st) .none kV doc pm an cdv ct) ⟨us, []⟩ = pure (ps.zip us))
    (hb : BodyR P w K mg base x st N k ms args pre out) : Df P w K mg base x (k + 1) [] (SpR K ms args pre out) := by
  obtain ⟨f, fd, F, hm⟩ := F
  exact ⟨CX0, f, fd, ps, [], fn_ok F S hn hN hb, hm, F.kp, F.bindsN bd, .nil, fun X _ _ => pass0⟩
/-- a def that is never called -/
theorem Df.never {x : Str} {st : Stmt} {N : List Str} {k : Nat} {α : Type} {ms : List Md} {args : α → List D} {pre : α → Prop} {out : α → D → Prop} (F : Dd K mg x st [] []) (hp : ∀ a, ¬ pre a)
    (bd : ∀ (kV doc pm : Value) (an : Option Addr) (cdv ct : Value) (us : List Value), us.length = N.length → bindArgs (PySem.W.fnOf x x (defArgs st) (defBody st) (defScope st) .none kV doc pm an cdv ct) ⟨us, []⟩ = pure (N.zip us)) : Df P w K mg base x k [] (SpR K ms args pre out) := by
  obtain ⟨f, fd, F, hm⟩ := F
  exact ⟨CX0, f, fd, N, [], ⟨fun vs H Q E ⟨_, a, _, h, _⟩ => absurd h (hp a), fun A outer s H args us vs Q E _ _ _ _ ⟨_, a, _, h, _⟩ => absurd h (hp a)⟩, hm, F.kp, F.bindsN bd, .nil, fun X _ _ => pass0⟩
theorem Df.mono {x : Str} {j k : Nat} {dvs : List V} {sp : Sp} (F : Df P w K mg base x j dvs sp) (h : j ≤ k) : Df P w K mg base x k dvs sp := by
  obtain ⟨CX, f, fd, ps, ds, F, r⟩ := F.ex
  exact ⟨CX, f, fd, ps, ds, F.mono h, r⟩
theorem Df.imp {x : Str} {k : Nat} {dvs : List V} {sp sp' : Sp} (F : Df P w K mg base x k dvs sp) (h : ∀ vs H Q E, sp' vs H Q E → sp vs H Q E) : Df P w K mg base x k dvs sp' := by
  obtain ⟨CX, f, fd, ps, ds, F, r⟩ := F.ex
  exact ⟨CX, f, fd, ps, ds, F.imp h, r⟩
end
section
variable {X : Cx} {k : Nat} {sp : Sp} {dvs : List V} {x : Str} {p pos : Pos} {e : Expr} {es : List Expr} {t : TA}
theorem pe_df (G : Df X.prog X.w X.K X.mg X.base x k dvs sp) (hr : Room k X.A) (hg : Gl X x) (ha : PA X (e :: es) t) (hdb : (x == ("__debug__" : Str)) = false := by decide)
    (he : starEach (e :: es) X.env = (false, eval e X.env) :: starEach es X.env := by rfl) (hpl : (backTo pos (starEach es X.env)).any (·.1) = false := by rfl) :
    PE X (.Call (.Name x p) (e :: es) [] pos) (tCall sp dvs E0 t) := by
  obtain ⟨CX, f, fd, ps, ds, F, hm, hk, hb, hd, hx⟩ := G.ex
  exact pe_call F hr hg hm hk hb hd (hx X rfl rfl) ha hdb he hpl
theorem pe_df0 (G : Df X.prog X.w X.K X.mg X.base x k dvs sp) (hr : Room k X.A) (hg : Gl X x) (hdb : (x == ("__debug__" : Str)) = false := by decide) : PE X (.Call (.Name x p) [] [] pos) (tCall sp dvs E0 tNil) := by
  obtain ⟨CX, f, fd, ps, ds, F, hm, hk, hb, hd, hx⟩ := G.ex
  exact pe_call0 F hr hg hm hk hb hd (hx X rfl rfl) hdb
end
section
variable {K : PySem.W.Frag} {e : En} {d : D} {ds : List D} {m : Md} {α : Type} {ms : List Md} {args : α → List D} {pre : α → Prop} {out : α → D} {ta : TA}
theorem MIss.rebase {B H T : Hp} (hb : Le B H) (ht : Le T H) : ∀ {ms : List Md} {vs : List V} {ds : List D}, MIss K B H T ms vs ds → MIss K H H T ms vs ds
  | [], [], [], _ => trivial
  | m :: ms, v :: vs, d :: ds, h => by
    refine ⟨?_, MIss.rebase hb ht h.2⟩
    cases m with
    | dat => exact h.1
    | bor =>
      rcases h.1 with i | i
      · exact .inl i
      · exact .inr (Is.mono hb d i)
    | now => exact h.1
  | [], [], _ :: _, h => h.elim
  | [], _ :: _, _, h => h.elim
  | _ :: _, [], _, h => h.elim
  | _ :: _, _ :: _, [], h => h.elim
/-- f(..) -/
theorem ev_call (a : α) (hp : pre a) (h : EvA K ms ta e (args a)) : Ev K m (tCall (SpP K ms args pre out) [] E0 ta) e (out a) := Ev.up fun B T0 σ H T s Q q => h B T0 σ H T s _ fun vs H1 T1 g i => by
  show SpP K ms args pre out (vs ++ []) H1 Q E0
  rw [List.append_nil]
  exact ⟨T1, a, g.s, hp, i.rebase (s.gr.h.trans g.h) g.s, fun d v H2 T2 hd g2 i2 => q v H2 T2 (g.trans g2) (hd ▸ i2)⟩
/-- a value that is only known by what holds of it -/
def EvP (K : PySem.W.Frag) (te : TE) (e : En) (p : D → Prop) : Prop := ∀ (B T0 : Hp) (σ : L2.St) (H T : Hp), Sat K B T0 e σ H T → ∀ Q : VK, (∀ d v H' T', p d → Gr H T H' T' → Is K T' v d → Q v H') → te σ H Q
theorem evp_call {out : α → D → Prop} (a : α) (hp : pre a) (h : EvA K ms ta e (args a)) : EvP K (tCall (SpR K ms args pre out) [] E0 ta) e (out a) := fun B T0 σ H T s Q q => h B T0 σ H T s _ fun vs H1 T1 g i => by
  show SpR K ms args pre out (vs ++ []) H1 Q E0
  rw [List.append_nil]
  exact ⟨T1, a, g.s, hp, i.rebase (s.gr.h.trans g.h) g.s, fun d v H2 T2 hd g2 i2 => q d v H2 T2 hd (g.trans g2) i2⟩
end
end Fh
namespace Fh
open PySem PySem.Spec PyProof.Rows L2
/-! ### calls with keywords, constants of the module -/
structure DfK (P : Program) (w : World) (K : PySem.W.Frag) (mg : Str → Option Value) (base : Heap) (x : Str) (k n : Nat) (ks : List Str) (gV : List V → List V → List V) (sp : Sp) : Prop where
  ex : ∃ (CX : CXT) (f : Addr) (fd : FuncData) (ps : List Str) (g : List Value → List Value → List Value), FnOk P w K mg base CX k f fd ps sp ∧ mg x = some (.ref f) ∧ PySem.W.keepIn K (.ref f) = true ∧ KBn K fd ps n ks g gV ∧ ∀ X : Cx, X.prog = P → X.w = w → Passes CX X E0
theorem DfK.mono {P : Program} {w : World} {K : PySem.W.Frag} {mg : Str → Option Value} {base : Heap} {x : Str} {j k : Nat} {n : Nat} {ks : List Str} {gV : List V → List V → List V} {sp : Sp} (F : DfK P w K mg base x j n ks gV sp) (h : j ≤ k) : DfK P w K mg base x k n ks gV sp := by
  obtain ⟨CX, f, fd, ps, g, F, r⟩ := F.ex
  exact ⟨CX, f, fd, ps, g, F.mono h, r⟩
section
variable {X : Cx} {k n : Nat} {sp : Sp} {dvs : List V} {x : Str} {p pos : Pos} {e : Expr} {es : List Expr} {t tk : TA} {kws : List Keyword} {ks : List Str} {gV : List V → List V → List V}
theorem pe_dfK (G : DfK X.prog X.w X.K X.mg X.base x k n ks gV sp) (hr : Room k X.A) (hg : Gl X x) (ha : PA X (e :: es) t) (hkw : PK X kws tk) (hall : (backToKw pos (keywordEach kws X.env)).all (·.1.isSome) = true := by rfl) (hks : (backToKw pos (keywordEach kws X.env)).filterMap (·.1) = ks := by rfl)
    (hdb : (x == ("__debug__" : Str)) = false := by decide) (he : starEach (e :: es) X.env = (false, eval e X.env) :: starEach es X.env := by rfl)
    (hpl : ((backTo pos (starEach (e :: es) X.env)).any (·.1) || (backToKw pos (keywordEach kws X.env)).any (·.1.isNone)) = false := by rfl) {l : Nat} (hl : ks.length = l := by rfl) :
    PE X (.Call (.Name x p) (e :: es) kws pos) (tCallN n l sp gV E0 t tk) := by
  subst hl
  obtain ⟨CX, f, fd, ps, g, F, hm, hk, hb, hx⟩ := G.ex
  exact pe_callN F hr hg hm hk hb (hx X rfl rfl) ha hkw hall hks hdb he hpl
theorem pe_globI {i : Int} (hg : Gl X x) (h : ∃ t, X.mg x = some (.int i t)) (hd : (x == ("__debug__" : Str)) = false := by decide) : PE X (.Name x pos) (tC (.int i)) := by
  obtain ⟨t, h⟩ := h
  exact pe_glob hg h ⟨t, rfl⟩ hd
end
section
variable {K : PySem.W.Frag} {e : En} {d : D} {ds ds2 : List D} {m : Md} {α : Type} {ms ms1 ms2 : List Md} {args : α → List D} {pre : α → Prop} {out : α → D} {ta tk : TA}
theorem MIss.append {B H T : Hp} : ∀ {ms1 ms2 : List Md} {vs ws : List V} {ds es : List D}, MIss K B H T ms1 vs ds → MIss K B H T ms2 ws es → MIss K B H T (ms1 ++ ms2) (vs ++ ws) (ds ++ es)
  | [], _, [], _, [], _, _, h => h
  | _ :: _, _, _ :: _, _, _ :: _, _, h, g => ⟨h.1, h.2.append g⟩
  | [], _, [], _, _ :: _, _, h, _ => h.elim
  | [], _, _ :: _, _, _, _, h, _ => h.elim
  | _ :: _, _, [], _, _, _, h, _ => h.elim
  | _ :: _, _, _ :: _, _, [], _, h, _ => h.elim
/-- the defaults behind -/
theorem ev_callD {dvs : List V} (a : α) (hp : pre a) (ha : args a = ds ++ ds2) (hms : ms = ms1 ++ ms2) (h : EvA K ms1 ta e ds) (hd : ∀ H T, MIss K H H T ms2 dvs ds2) : Ev K m (tCall (SpP K ms args pre out) dvs E0 ta) e (out a) := Ev.up fun B T0 σ H T s Q q => h B T0 σ H T s _ fun vs H1 T1 g i => by
  refine ⟨T1, a, g.s, hp, ?_, fun d v H2 T2 hd g2 i2 => q v H2 T2 (g.trans g2) (hd ▸ i2)⟩
  rw [ha, hms]
  exact (i.rebase (s.gr.h.trans g.h) g.s).append (hd H1 T1)
theorem ev_callK {n l : Nat} (a : α) (hp : pre a) (ha : args a = ds ++ ds2) (hms : ms = ms1 ++ ms2) (h : EvA K ms1 ta e ds) (hk : EvA K ms2 tk e ds2) (hn : ms1.length = n) (hl : ms2.length = l) : Ev K m (tCallN n l (SpP K ms args pre out) (fun a b => a ++ b) E0 ta tk) e (out a) := Ev.up fun B T0 σ H T s Q q => h B T0 σ H T s _ fun vs H1 T1 g i => hk B T0 σ H1 T1 (s.grow g) _ fun ws H2 T2 g2 i2 => by
  refine ⟨i.len.1.trans hn, i2.len.1.trans hl, T2, a, g2.s, hp, ?_, fun d v H3 T3 hd g3 i3 => q v H3 T3 ((g.trans g2).trans g3) (hd ▸ i3)⟩
  rw [ha, hms]
  exact ((i.mono g2.h g2.t).append i2).rebase (((s.grow g).grow g2).gr.h) g2.s
end
/-! ### a def with defaults -/
section
variable {P : Program} {w : World} {K : PySem.W.Frag} {mg : Str → Option Value} {base : Heap} {x qual : Str} {params : Arguments} {body : List Stmt} {scope : Scope} {dvs : List V} {f : Addr} {fd : FuncData} {ps ks : List Str}
/-- positional arguments, then keywords for the parameters behind them, in their order; there are defaults -/
theorem kbinds1 (F : FunD K x qual params body scope dvs [] f fd) (n : Nat) (hd : dvs ≠ [])
    (h : ∀ (T : Addr) (kV doc pm : Value) (an : Option Addr) (cdv ct : Value) (us ws its : List Value), us.length = n → ws.length = ks.length → its.length = dvs.length →
      ∃ k, bindArgs (PySem.W.fnOf x qual params body scope (.ref T) kV doc pm an cdv ct) ⟨us, ks.zip ws⟩ = seqItems? (.ref T) >>= k ∧ k (some its.toArray) = pure (ps.zip (us ++ ws))) : KBn K fd ps n ks (fun a b => a ++ b) (fun a b => a ++ b) := by
  obtain ⟨oc, od, dV, kV, doc, pm, an, cdv, ct, osl, rfl, lk, hcd, hD, hK⟩ := F.ex
  rcases hD with ⟨e, _⟩ | ⟨_, T, o, its, m, rfl, lT, oT, rT⟩
  · exact absurd e hd
  · refine ⟨fun s us ws X l2 l3 => ?_, fun r z => r.append z⟩
    have l1 : its.length = dvs.length := rT.length.symm
    obtain ⟨k, e1, e2⟩ := h T kV doc pm an cdv ct us ws its l2 l3 l1
    refine BindsTo.of_looks fun M => ?_
    rw [e1]
    exact looks_items X lT oT (.of_pure e2)
end
end Fh

set_option Elab.async false
set_option linter.all false
set_option maxRecDepth 100000
set_option maxHeartbeats 4000000
/-! Fh, fifth part: operators and built-in calls, whatever the kinds of their operands -/
namespace Fh
open PySem PySem.Spec PyProof.Rows L2

/-! ### readings that ask by the values' kinds -/
def rAddS2 : R2 := fun x y H Q => ∃ i j, x = .str i ∧ y = .str j ∧ i.length + j.length ≤ sizeLine ∧ Q (.str (i ++ j)) H
def rCatN (K : PySem.W.Frag) : R2 := fun x y H Q => ∃ a b xs ys, x = .ref a ∧ y = .ref b ∧ SqT K H a xs ∧ SqT K H b ys ∧ xs.length + ys.length ≤ sizeLine ∧
  (xs = [] → Q (.ref b) H) ∧ (xs ≠ [] → ys = [] → Q (.ref a) H) ∧ (xs ≠ [] → ys ≠ [] → ∀ p (o : Obj), o.dict = none → H p = none → Q (.ref p) (upd H p (.frz o (.tup (xs ++ ys)))))
theorem op_catN {X : Cx} : OpR X (binaryOp .Add) (rCatN X.K) := by
  intro pins s σ H x y v u Q I rx ry h
  obtain ⟨a, b, xs, ys, rfl, rfl, ha, hb, hz, q0, q1, q2⟩ := h
  cases rx
  cases ry
  obtain ⟨its, r1, p1, _⟩ := I.tuple ha
  obtain ⟨its2, r2, p2, _⟩ := I.tuple hb
  by_cases hx : xs = []
  · subst hx
    cases r1
    exact cat_tup0 p1 p2 ⟨.ref b, H, I, rfl, q0 rfl⟩
  · refine HT.cat_tup p1 p2 (fun z => hx (r1.nil_iff.mp z)) (fun z => ⟨.ref a, H, I, rfl, q1 hx (r2.nil_iff.mp z)⟩) (fun z => ?_) (by rw [← r1.length, ← r2.length]; exact hz)
    refine ⟨.ref s.heap.objs.size, _, I.laid (t' := s.toks) (o := .frz _ (.tup (xs ++ ys))) (fun b ob q => Heap.get?_push_of_some _ q) (Nat.le_refl _) ⟨Heap.get?_push_size _ rfl, ?_⟩, rfl, q2 hx (fun w => z (r2.nil_iff.mpr w)) _ _ rfl (I.hok.fresh (Nat.le_refl _))⟩
    exact ⟨by rw [List.length_append]; exact hz, _, r1.append r2, IsTup.new _ _⟩
def rPlus (K : PySem.W.Frag) : R2 := fun x y H Q => ((rI0 fun i j => .int (i + j)) x y H Q ∨ rCat x y H Q) ∨ (rCatN K x y H Q ∨ rAddS2 x y H Q)
def rMinus : R2 := rI0 fun i j => .int (i - j)
def rTimes : R2 := fun x y H Q => (rI CMul fun i j => .int (i * j)) x y H Q ∨ (rRep x y H Q ∨ (rI CMulW fun i j => .int (i * j)) x y H Q)
def rFdiv : R2 := fun x y H Q => (rI CDiv fun i j => .int (i / j)) x y H Q ∨ (rI CDivW fun i j => .int (i / j)) x y H Q
def rMod : R2 := rI (fun _ j => 0 < j) fun i j => .int (i % j)
def rPow : R2 := rI CPow fun i j => .int (i ^ j.toNat)
def rLt : R2 := rI0 fun i j => .bl (decide (i < j))
def rLe : R2 := rI0 fun i j => .bl (decide (i ≤ j))
def rGt2 : R2 := rI0 fun i j => .bl (decide (j < i))
def rGe2 : R2 := rI0 fun i j => .bl (decide (j ≤ i))
def rEqU (K : PySem.W.Frag) : R2 := fun x y H Q => rEq x y H Q ∨ rEqD K x y H Q
def rNeU (K : PySem.W.Frag) : R2 := fun x y H Q => rNe x y H Q ∨ rNeD K x y H Q
def rIsC : R2 := fun x y H Q => (y = .non ∨ ∃ b, y = .bl b) ∧ Q (.bl (decide (x = y))) H
def rIsNC : R2 := fun x y H Q => (y = .non ∨ ∃ b, y = .bl b) ∧ Q (.bl (!decide (x = y))) H
def rSlN (K : PySem.W.Frag) : V → Option Int → Option Int → Hp → VK → Prop := fun x lo hi H Q => ∃ a xs, x = .ref a ∧ SqT K H a xs ∧
  (HT.sIx xs.length 0 lo = 0 ∧ HT.sIx xs.length xs.length hi = xs.length → Q (.ref a) H) ∧ (¬ (HT.sIx xs.length 0 lo = 0 ∧ HT.sIx xs.length xs.length hi = xs.length) → ∀ p (o : Obj), o.dict = none → H p = none → Q (.ref p) (upd H p (.frz o (.tup (cutV xs lo hi)))))
def rSlU (K : PySem.W.Frag) : V → Option Int → Option Int → Hp → VK → Prop := fun x lo hi H Q => rSlL K x lo hi H Q ∨ rSlN K x lo hi H Q
def rAbs : List V → Hp → VK → Prop := fun xs H Q => ∃ i, xs = [.int i] ∧ Q (.int (if i < 0 then -i else i)) H
def rMx2 : List V → Hp → VK → Prop := fun xs H Q => ∃ i j, xs = [.int i, .int j] ∧ Q (.int (if j > i then j else i)) H
def rMn2 : List V → Hp → VK → Prop := fun xs H Q => ∃ i j, xs = [.int i, .int j] ∧ Q (.int (if j < i then j else i)) H
def rIntC : List V → Hp → VK → Prop := fun xs H Q => (∃ i, xs = [.int i] ∧ Q (.int i) H) ∨ ∃ k, xs = [.bl k] ∧ Q (.int (if k then 1 else 0)) H
def rLenU (K : PySem.W.Frag) : List V → Hp → VK → Prop := fun xs H Q => ∃ x n, xs = [x] ∧ LenV K x H n ∧ Q (.int n) H
def rListU (K : PySem.W.Frag) : List V → Hp → VK → Prop := fun xs H Q => ∃ p ys, xs = [.ref p] ∧ (SqL K H p ys ∨ SqT K H p ys) ∧ ∀ l, H l = none → Q (.ref l) (upd H l (.lst ys))
def rTupU (K : PySem.W.Frag) : List V → Hp → VK → Prop := fun xs H Q => ∃ p ys, xs = [.ref p] ∧ ((SqL K H p ys ∧ ∀ l (o : Obj), o.dict = none → H l = none → Q (.ref l) (upd H l (.frz o (.tup ys)))) ∨ (SqT K H p ys ∧ Q (.ref p) H))
section
variable {X : Cx}
theorem op_plus : OpR X (binaryOp .Add) (rPlus X.K) := (op_add.or op_cat).or (op_catN.or op_add_str)
theorem op_minus : OpR X (binaryOp .Sub) rMinus := op_sub
theorem op_times : OpR X (binaryOp .Mult) rTimes := op_mul.or (op_rep.or op_mulW)
theorem op_fdivU : OpR X (binaryOp .FloorDiv) rFdiv := op_fdiv.or op_fdivW
theorem op_modU : OpR X (binaryOp .Mod) rMod := op_mod
theorem op_powU : OpR X (binaryOp .Pow) rPow := op_pow
theorem op_ltU : OpR X (compareOp .Lt) rLt := op_lt
theorem op_leU : OpR X (compareOp .LtE) rLe := op_le
theorem op_gtU : OpR X (compareOp .Gt) rGt2 := op_gt
theorem op_geU : OpR X (compareOp .GtE) rGe2 := op_ge
theorem op_eqU {k : Nat} (hr : Room k X.A) : OpR X (compareOp .Eq) (rEqU X.K) := op_eq.or (op_eqD hr.units)
theorem op_neU {k : Nat} (hr : Room k X.A) : OpR X (compareOp .NotEq) (rNeU X.K) := op_ne.or (op_neD hr.units)
theorem is_dec {x : V} {u : Value} (r : RelV x u) : (u == Value.none) = decide (x = .non) ∧ plainIs u .none = true ∧ ∀ b, (u == Value.bool b) = decide (x = .bl b) ∧ plainIs u (.bool b) = true := by
  cases x with
  | non => cases r; exact ⟨rfl, rfl, fun b => ⟨rfl, rfl⟩⟩
  | bl c =>
    cases r
    refine ⟨rfl, rfl, fun b => ⟨?_, rfl⟩⟩
    cases b <;> cases c <;> rfl
  | int _ => obtain ⟨t, rfl⟩ := r; exact ⟨rfl, rfl, fun b => ⟨rfl, rfl⟩⟩
  | str _ => obtain ⟨t, rfl⟩ := r; exact ⟨rfl, rfl, fun b => ⟨rfl, rfl⟩⟩
  | byt _ => obtain ⟨t, rfl⟩ := r; exact ⟨rfl, rfl, fun b => ⟨rfl, rfl⟩⟩
  | flt _ => obtain ⟨t, rfl⟩ := r; exact ⟨rfl, rfl, fun b => ⟨rfl, rfl⟩⟩
  | ref _ => cases r; exact ⟨rfl, rfl, fun b => ⟨rfl, rfl⟩⟩
  | ty _ => cases r; exact ⟨rfl, rfl, fun b => ⟨rfl, rfl⟩⟩
theorem op_isC : OpR X (compareOp .Is) rIsC := by
  intro pins s σ H x y v u Q I rx ry h
  obtain ⟨hy, q⟩ := h
  obtain ⟨d1, p1, d2⟩ := is_dec rx
  rcases hy with rfl | ⟨b, rfl⟩
  · cases (show u = Value.none from ry)
    exact wpAny_is_plain p1 (fin_bl I q d1.symm)
  · cases (show u = Value.bool b from ry)
    exact wpAny_is_plain (d2 b).2 (fin_bl I q (d2 b).1.symm)
theorem op_isNC : OpR X (compareOp .IsNot) rIsNC := by
  intro pins s σ H x y v u Q I rx ry h
  obtain ⟨hy, q⟩ := h
  obtain ⟨d1, p1, d2⟩ := is_dec rx
  rcases hy with rfl | ⟨b, rfl⟩
  · cases (show u = Value.none from ry)
    exact wpAny_isNot_plain p1 (fin_bl I q (by rw [d1]))
  · cases (show u = Value.bool b from ry)
    exact wpAny_isNot_plain (d2 b).2 (fin_bl I q (by rw [(d2 b).1]))
theorem sl_tupN : SlR X (rSlN X.K) := by
  intro pins s σ H x v vl vu lo hi sl Q I rx hs pl pu h
  obtain ⟨a, xs, rfl, hx, q1, q2⟩ := h
  cases rx
  obtain ⟨its, r, ht, hz⟩ := I.tuple hx
  have hlen : its.toArray.size = xs.length := by rw [List.size_toArray]; exact r.length.symm
  refine ⟨"tuple", _, PyProof.Rows.slot_tuple_getitem.lookup, ht.typeIs, ?_⟩
  by_cases hw : HT.sIx xs.length 0 lo = 0 ∧ HT.sIx xs.length xs.length hi = xs.length
  · exact getItem_tuple_whole ht hs pl pu (by rw [hlen]; exact hw) ⟨.ref a, H, I, rfl, q1 hw⟩
  · refine HT.getItem_tuple_cut ht hs pl pu (by rw [hlen]; exact hw) ?_ (by rw [hlen]; exact hz)
    rw [hlen]
    refine ⟨.ref s.heap.objs.size, _, I.laid (t' := s.toks) (o := .frz _ (.tup (cutV xs lo hi))) (fun b ob q => Heap.get?_push_of_some _ q) (Nat.le_refl _) ⟨Heap.get?_push_size _ rfl, ?_⟩, rfl, q2 hw _ _ rfl (I.hok.fresh (Nat.le_refl _))⟩
    exact ⟨Nat.le_trans (cutV_length xs lo hi) hz, _, (r.drop (HT.sIx xs.length 0 lo)).take (HT.sIx xs.length xs.length hi - HT.sIx xs.length 0 lo), IsTup.new _ _⟩
theorem sl_U : SlR X (rSlU X.K) := sl_list.or sl_tupN
theorem call_absU : CallR X (.builtin "abs") rAbs := call_abs
theorem call_mx2 (hc : X.calm = true) : CallR X (.builtin "max") rMx2 := call_max2 hc
theorem call_mn2 (hc : X.calm = true) : CallR X (.builtin "min") rMn2 := call_min2 hc
theorem call_intU : CallR X (.type "int") rIntC := call_int1
theorem call_lenU : CallR X (.builtin "len") (rLenU X.K) := call_len
theorem call_listU : CallR X (.type "list") (rListU X.K) := call_list_of
theorem call_tupU : CallR X (.type "tuple") (rTupU X.K) := by
  intro pins s σ H xs us Q I r h
  obtain ⟨p, ys, rfl, h⟩ := h
  obtain ⟨u, rfl, rx⟩ := vals1 r
  cases rx
  rcases h with ⟨hq, q⟩ | ⟨hq, q⟩
  · obtain ⟨its, r', pl, hz⟩ := I.list hq
    have hlen := r'.length
    refine call_tuple_list pl.isList (fun h' kp => ?_) (by simp only [List.size_toArray] <;> omega)
    have I1 : Inv X pins σ H { s with heap := h' } := I.kept (t' := s.toks) kp
    have I2 : Inv X pins σ (upd H h'.objs.size (.frz { cls := .type "tuple", data := .seq its.toArray } (.tup ys))) { s with heap := h'.push { cls := .type "tuple", data := .seq its.toArray } } :=
      I1.laid (t' := s.toks) (fun b o e => Heap.get?_push_of_some _ e) (Nat.le_refl _) (show ObjOk X.prog X.w _ _ _ (.frz _ (.tup ys)) from ⟨Heap.get?_push_size _ rfl, hz, its, r', IsTup.new _ _⟩)
    exact ⟨.ref h'.objs.size, _, I2, rfl, q _ _ rfl (I1.hok.fresh (Nat.le_refl _))⟩
  · obtain ⟨its, r', pl, hz⟩ := I.tuple hq
    exact call_tuple_same pl ⟨.ref p, H, I, rfl, q⟩
end

section
variable {K : PySem.W.Frag} {e : En} {d d1 d2 : D} {ds xs ys : List D} {m m1 m2 : Md} {te ta tb : TE} {i : Nat} {o : OD}
/-! ### ints -/
theorem rd_plus {i j : Int} : RD K m1 m2 m (rPlus K) (.int i) (.int j) (.int (i + j)) := (RD.orl (r' := rCat) (rd_I0 (gd := fun i j => .int (i + j)) fun T => .int _)).orl
theorem rd_minus {i j : Int} : RD K m1 m2 m rMinus (.int i) (.int j) (.int (i - j)) := rd_I0 (gd := fun i j => .int (i - j)) fun T => .int _
theorem rd_times {i j : Int} (h : CMul i j) : RD K m1 m2 m rTimes (.int i) (.int j) (.int (i * j)) := (rd_I (gd := fun i j => .int (i * j)) h fun T => .int _).orl
theorem rd_timesW {i j : Int} (h : CMulW i j) : RD K m1 m2 m rTimes (.int i) (.int j) (.int (i * j)) := (RD.orr (rd_I (gd := fun i j => .int (i * j)) h fun T => .int _)).orr
theorem rd_fdiv {i j : Int} (h : CDiv i j) : RD K m1 m2 m rFdiv (.int i) (.int j) (.int (i / j)) := (rd_I (gd := fun i j => .int (i / j)) h fun T => .int _).orl
theorem rd_fdivW {i j : Int} (h : CDivW i j) : RD K m1 m2 m rFdiv (.int i) (.int j) (.int (i / j)) := (rd_I (gd := fun i j => .int (i / j)) h fun T => .int _).orr
theorem rd_mod {i j : Int} (h : 0 < j) : RD K m1 m2 m rMod (.int i) (.int j) (.int (i % j)) := rd_I (gd := fun i j => .int (i % j)) h fun T => .int _
theorem rd_pow {i j : Int} (h : CPow i j) : RD K m1 m2 m rPow (.int i) (.int j) (.int (i ^ j.toNat)) := rd_I (gd := fun i j => .int (i ^ j.toNat)) h fun T => .int _
theorem rd_lt {i j : Int} : RD K m1 m2 m rLt (.int i) (.int j) (.bl (decide (i < j))) := rd_I0 (gd := fun i j => .bl (decide (i < j))) fun T => .bl _
theorem rd_le {i j : Int} : RD K m1 m2 m rLe (.int i) (.int j) (.bl (decide (i ≤ j))) := rd_I0 (gd := fun i j => .bl (decide (i ≤ j))) fun T => .bl _
theorem rd_gt {i j : Int} : RD K m1 m2 m rGt2 (.int i) (.int j) (.bl (decide (j < i))) := rd_I0 (gd := fun i j => .bl (decide (j < i))) fun T => .bl _
theorem rd_ge {i j : Int} : RD K m1 m2 m rGe2 (.int i) (.int j) (.bl (decide (j ≤ i))) := rd_I0 (gd := fun i j => .bl (decide (j ≤ i))) fun T => .bl _
/-! ### == -/
theorem rd_sc {r : R2} {x y : V} {b : Bool} (h1 : ∀ H v, Is K H v d1 → v = x) (h2 : ∀ H v, Is K H v d2 → v = y) (hr : ∀ H (Q : VK), Q (.bl b) H → r x y H Q) : RD K m1 m2 m r d1 d2 (.bl b) := fun B H T u v hB hT i1 i2 Q q => by
  rw [h1 _ _ (i1.now hB hT), h2 _ _ (i2.now hB hT)]
  exact hr H Q (q _ H T (Gr.refl hT) (MIs.dat (.bl b) hT))
theorem rd_eqI {i j : Int} : RD K m1 m2 m (rEqU K) (.int i) (.int j) (.bl (decide (i = j))) := rd_sc (x := .int i) (y := .int j) (fun H v h => by cases h; rfl) (fun H v h => by cases h; rfl) fun H Q q => .inl ⟨rfl, by
  rw [dec_int, Bool.beq_eq_decide_eq]; exact q⟩
theorem rd_neI {i j : Int} : RD K m1 m2 m (rNeU K) (.int i) (.int j) (.bl (decide (i ≠ j))) := rd_sc (x := .int i) (y := .int j) (fun H v h => by cases h; rfl) (fun H v h => by cases h; rfl) fun H Q q => .inl ⟨rfl, by
  rw [dec_int, Bool.beq_eq_decide_eq, ← decide_not]; exact q⟩
theorem rd_eqS {i j : Str} : RD K m1 m2 m (rEqU K) (.str i) (.str j) (.bl (decide (i = j))) := rd_sc (x := .str i) (y := .str j) (fun H v h => by cases h; rfl) (fun H v h => by cases h; rfl) fun H Q q => .inl ⟨rfl, by
  rw [dec_str, Bool.beq_eq_decide_eq]; exact q⟩
theorem rd_neS {i j : Str} : RD K m1 m2 m (rNeU K) (.str i) (.str j) (.bl (decide (i ≠ j))) := rd_sc (x := .str i) (y := .str j) (fun H v h => by cases h; rfl) (fun H v h => by cases h; rfl) fun H Q q => .inl ⟨rfl, by
  rw [dec_str, Bool.beq_eq_decide_eq, ← decide_not]; exact q⟩
/-- is, is not, against None, True, False -/
def isC : D → D → Option Bool
  | .raw _, _ => none
  | .non, .non => some true
  | .bl a, .bl b => some (a == b)
  | .bl _, .non => some false
  | .non, .bl _ => some false
  | .int _, .non => some false
  | .int _, .bl _ => some false
  | .str _, .non => some false
  | .str _, .bl _ => some false
  | .lst _, .non => some false
  | .lst _, .bl _ => some false
  | .tup _, .non => some false
  | .tup _, .bl _ => some false
  | .ins _ _, .non => some false
  | .ins _ _, .bl _ => some false
  | _, _ => none
theorem isC_ok {H : Hp} {x y : V} {b : Bool} (h : isC d1 d2 = some b) (i1 : Is K H x d1) (i2 : Is K H y d2) : (y = .non ∨ ∃ b, y = .bl b) ∧ decide (x = y) = b := by
  cases i1 <;> cases i2 <;> first
    | (cases h; done)
    | (cases h; refine ⟨.inr ⟨_, rfl⟩, ?_⟩; rw [dec_bl]; done)
    | (cases h; refine ⟨.inr ⟨_, rfl⟩, ?_⟩; rw [dec_bl, Bool.beq_eq_decide_eq]; done)
    | (cases h; refine ⟨.inl rfl, ?_⟩; simp; done)
    | (cases h; refine ⟨.inr ⟨_, rfl⟩, ?_⟩; simp; done)
theorem rd_is {b : Bool} (h : isC d1 d2 = some b) : RD K m1 m2 m rIsC d1 d2 (.bl b) := fun B H T u v hB hT i1 i2 Q q => by
  obtain ⟨p, e⟩ := isC_ok h (i1.now hB hT) (i2.now hB hT)
  exact ⟨p, by rw [e]; exact q _ H T (Gr.refl hT) (MIs.dat (.bl b) hT)⟩
theorem rd_isN {b : Bool} (h : isC d1 d2 = some b) : RD K m1 m2 m rIsNC d1 d2 (.bl (!b)) := fun B H T u v hB hT i1 i2 Q q => by
  obtain ⟨p, e⟩ := isC_ok h (i1.now hB hT) (i2.now hB hT)
  exact ⟨p, by rw [e]; exact q _ H T (Gr.refl hT) (MIs.dat (.bl (!b)) hT)⟩
/-! ### == of data -/
mutual
def toPy : D → PyData
  | .non => .none
  | .bl b => .bool b
  | .int i => .int i
  | .str x => .str x
  | .lst ds => .list (toPys ds)
  | .tup ds => .tuple (toPys ds)
  | _ => .none
def toPys : List D → List PyData
  | [] => []
  | d :: ds => toPy d :: toPys ds
end
mutual
/-- data that == reads: of a depth below n, no objects -/
def shp : Nat → D → Bool
  | _, .non => true
  | _, .bl _ => true
  | _, .int _ => true
  | _, .str x => PySem.PyData.strOk x
  | 0, .lst _ => false
  | n + 1, .lst ds => shps n ds
  | 0, .tup _ => false
  | n + 1, .tup ds => shps n ds
  | _, _ => false
def shps : Nat → List D → Bool
  | _, [] => true
  | n, d :: ds => shp n d && shps n ds
end
mutual
theorem toPy_dp {H : Hp} : ∀ (n : Nat) (d : D) {v : V}, shp n d = true → Is K H v d → Dp K H v (toPy d)
  | _, .non, _, _, i => by cases i; exact .non
  | _, .bl _, _, _, i => by cases i; exact .bl _
  | _, .int _, _, _, i => by cases i; exact .int _
  | _, .str _, _, _, i => by cases i; exact .str _
  | 0, .lst _, _, h, _ => by simp [shp] at h
  | n + 1, .lst ds, _, h, i => by
    cases i with
    | lst ha hi => exact .lst (SqL.of ha) (toPys_dp n ds (by simpa [shp] using h) hi)
  | 0, .tup _, _, h, _ => by simp [shp] at h
  | n + 1, .tup ds, _, h, i => by
    cases i with
    | tup ha hi => exact .tup ha.t (toPys_dp n ds (by simpa [shp] using h) hi)
  | _, .raw _, _, h, _ => by simp [shp] at h
  | _, .rol _, _, h, _ => by simp [shp] at h
  | _, .ins _ _, _, h, _ => by simp [shp] at h
theorem toPys_dp {H : Hp} : ∀ (n : Nat) (ds : List D) {vs : List V}, shps n ds = true → Iss K H vs ds → DpAll K H vs (toPys ds)
  | _, [], _, _, i => by cases i; exact .nil
  | n, d :: ds, _, h, i => by
    cases i with
    | cons i1 i2 =>
      have h2 : shp n d = true ∧ shps n ds = true := by simpa [shps] using h
      exact .cons (toPy_dp n d h2.1 i1) (toPys_dp n ds h2.2 i2)
end
mutual
theorem shp_lay : ∀ (n : Nat) (d : D), shp n d = true → (toPy d).canLay0 = true ∧ (toPy d).depth ≤ n
  | _, .non, _ => ⟨rfl, Nat.zero_le _⟩
  | _, .bl _, _ => ⟨rfl, Nat.zero_le _⟩
  | _, .int _, _ => ⟨rfl, Nat.zero_le _⟩
  | _, .str x, h => ⟨(show PyData.strOk x = true by simpa [shp] using h), Nat.zero_le _⟩
  | 0, .lst _, h => by simp [shp] at h
  | n + 1, .lst ds, h => by
    obtain ⟨h1, h2⟩ := shps_lay n ds (by simpa [shp] using h)
    exact ⟨h1, Nat.succ_le_succ h2⟩
  | 0, .tup _, h => by simp [shp] at h
  | n + 1, .tup ds, h => by
    obtain ⟨h1, h2⟩ := shps_lay n ds (by simpa [shp] using h)
    exact ⟨h1, Nat.succ_le_succ h2⟩
  | _, .raw _, h => by simp [shp] at h
  | _, .rol _, h => by simp [shp] at h
  | _, .ins _ _, h => by simp [shp] at h
theorem shps_lay : ∀ (n : Nat) (ds : List D), shps n ds = true → PyData.canLayAll0 (toPys ds) = true ∧ PyData.depthAll (toPys ds) ≤ n
  | _, [], _ => ⟨rfl, Nat.zero_le _⟩
  | n, d :: ds, h => by
    have h2 : shp n d = true ∧ shps n ds = true := by simpa [shps] using h
    obtain ⟨a1, a2⟩ := shp_lay n d h2.1
    obtain ⟨b1, b2⟩ := shps_lay n ds h2.2
    refine ⟨?_, Nat.max_le.mpr ⟨a2, b2⟩⟩
    show (PyData.canLay0 (toPy d) && PyData.canLayAll0 (toPys ds)) = true
    rw [a1, b1]; rfl
end
theorem shp_shaped {n : Nat} (h : shp n d = true) (hn : n ≤ 64) : SeqAt.shaped (toPy d) = true := by
  obtain ⟨a, b⟩ := shp_lay n d h
  unfold SeqAt.shaped
  rw [a, decide_eq_true (Nat.le_trans b hn)]; rfl
theorem rd_eqD {n1 n2 : Nat} (h1 : shp n1 d1 = true) (h2 : shp n2 d2 = true) (l1 : n1 ≤ 64 := by decide) (l2 : n2 ≤ 64 := by decide) : RD K m1 m2 m (rEqU K) d1 d2 (.bl (PyData.eqv (toPy d1) (toPy d2))) := fun B H T u v hB hT i1 i2 Q q =>
  .inr ⟨toPy d1, toPy d2, toPy_dp n1 d1 h1 (i1.now hB hT), toPy_dp n2 d2 h2 (i2.now hB hT), shp_shaped h1 l1, shp_shaped h2 l2, q _ H T (Gr.refl hT) (MIs.dat (.bl _) hT)⟩
theorem rd_neD {n1 n2 : Nat} (h1 : shp n1 d1 = true) (h2 : shp n2 d2 = true) (l1 : n1 ≤ 64 := by decide) (l2 : n2 ≤ 64 := by decide) : RD K m1 m2 m (rNeU K) d1 d2 (.bl (!PyData.eqv (toPy d1) (toPy d2))) := fun B H T u v hB hT i1 i2 Q q =>
  .inr ⟨toPy d1, toPy d2, toPy_dp n1 d1 h1 (i1.now hB hT), toPy_dp n2 d2 h2 (i2.now hB hT), shp_shaped h1 l1, shp_shaped h2 l2, q _ H T (Gr.refl hT) (MIs.dat (.bl _) hT)⟩
theorem shps_ints {n : Nat} : ∀ ns : List Int, shps n (ns.map D.int) = true
  | [] => rfl
  | _ :: ns => by
    have := shps_ints (n := n) ns
    simp only [List.map_cons, shps, shp, this, Bool.and_self]
theorem eqv_ints : ∀ ns ms : List Int, PyData.eqvAll (toPys (ns.map D.int)) (toPys (ms.map D.int)) = decide (ns = ms)
  | [], [] => rfl
  | [], _ :: _ => rfl
  | _ :: _, [] => rfl
  | n :: ns, k :: ms => by
    have ih := eqv_ints ns ms
    show ((n == k) && PyData.eqvAll (toPys (ns.map D.int)) (toPys (ms.map D.int))) = _
    rw [ih, Bool.beq_eq_decide_eq]
    by_cases h : n = k
    · subst h; simp
    · simp [h]
theorem rd_eqInts {ns ms : List Int} : RD K m1 m2 m (rEqU K) (.lst (ns.map D.int)) (.lst (ms.map D.int)) (.bl (decide (ns = ms))) := by
  have h := rd_eqD (K := K) (m1 := m1) (m2 := m2) (m := m) (n1 := 1) (n2 := 1) (d1 := .lst (ns.map D.int)) (d2 := .lst (ms.map D.int)) (shps_ints ns) (shps_ints ms)
  have e : PyData.eqv (toPy (.lst (ns.map D.int))) (toPy (.lst (ms.map D.int))) = decide (ns = ms) := eqv_ints ns ms
  rwa [e] at h
theorem rd_neInts {ns ms : List Int} : RD K m1 m2 m (rNeU K) (.lst (ns.map D.int)) (.lst (ms.map D.int)) (.bl (decide (ns ≠ ms))) := by
  have h := rd_neD (K := K) (m1 := m1) (m2 := m2) (m := m) (n1 := 1) (n2 := 1) (d1 := .lst (ns.map D.int)) (d2 := .lst (ms.map D.int)) (shps_ints ns) (shps_ints ms)
  have e : PyData.eqv (toPy (.lst (ns.map D.int))) (toPy (.lst (ms.map D.int))) = decide (ns = ms) := eqv_ints ns ms
  rw [e, ← decide_not] at h
  exact h
/-! ### an item -/
theorem rd_ixL {k : Int} (h : atI xs k = some d) : RD K m m2 m (rIx K) (.lst xs) (.int k) d := fun B H T u v hB hT i1 i2 Q q => by
  have i3 := i2.now hB hT
  cases i3
  have fin : ∀ U : Hp, Le U H → Is K U u (.lst xs) → (∀ w, Is K U w d → MIs m K B H T w d) → rIx K u (.int k) H Q := fun U hU iu tr => by
    cases iu with
    | @lst a vs _ ha hi =>
      obtain ⟨j, e1, e2, e3, e4, e5⟩ := atI_get h
      obtain ⟨w, hw, iw⟩ := hi.get e2
      have e6 : atI vs k = some w := by
        unfold atI at h ⊢
        rw [hi.length]
        cases z : ixN xs.length k with
        | none => rw [z] at h; cases h
        | some j' =>
          rw [z] at h
          have h' : xs[j']? = some d := h
          obtain ⟨w', hw', iw'⟩ := hi.get h'
          have := (ixN_seq z).1
          rw [e1] at this
          cases this
          show vs[j]? = some w
          exact hw
      exact .inl ⟨a, vs, k, w, rfl, rfl, SqL.of (hU _ _ ha), e6, q w H T (Gr.refl hT) (tr w iw)⟩
  cases m with
  | dat => exact fin T hT i1 fun w i => i
  | bor =>
    rcases i1 with i1 | i1
    · exact fin T hT i1 fun w i => .inl i
    · exact fin B hB i1 fun w i => .inr i
  | now => exact fin H (Le.refl _) i1 fun w i => i
theorem rd_ixT {k : Int} (h : atI xs k = some d) : RD K m m2 m (rIx K) (.tup xs) (.int k) d := fun B H T u v hB hT i1 i2 Q q => by
  have i3 := i2.now hB hT
  cases i3
  have fin : ∀ U : Hp, Le U H → Is K U u (.tup xs) → (∀ w, Is K U w d → MIs m K B H T w d) → rIx K u (.int k) H Q := fun U hU iu tr => by
    cases iu with
    | @tup a vs _ ha hi =>
      obtain ⟨j, e1, e2, e3, e4, e5⟩ := atI_get h
      obtain ⟨w, hw, iw⟩ := hi.get e2
      have e6 : atI vs k = some w := by
        unfold atI at h ⊢
        rw [hi.length]
        cases z : ixN xs.length k with
        | none => rw [z] at h; cases h
        | some j' =>
          have := (ixN_seq z).1
          rw [e1] at this
          cases this
          show vs[j]? = some w
          exact hw
      exact .inr (.inl ⟨a, vs, k, w, rfl, rfl, hU.sqT ha.t, e6, q w H T (Gr.refl hT) (tr w iw)⟩)
  cases m with
  | dat => exact fin T hT i1 fun w i => i
  | bor =>
    rcases i1 with i1 | i1
    · exact fin T hT i1 fun w i => .inl i
    · exact fin B hB i1 fun w i => .inr i
  | now => exact fin H (Le.refl _) i1 fun w i => i
/-- of scalars the mode is nothing -/
theorem Ev.sc {i : Int} (h : Ev K m1 te e (.int i)) : Ev K m te e (.int i) := Ev.up fun B T0 σ H T s Q q => h B T0 σ H T s Q fun v H' T' g j => by
  have j := j.now (s.gr.h.trans g.h) g.s
  cases j
  exact q _ H' T' g (.int i)
theorem Ev.scB {b : Bool} (h : Ev K m1 te e (.bl b)) : Ev K m te e (.bl b) := Ev.up fun B T0 σ H T s Q q => h B T0 σ H T s Q fun v H' T' g j => by
  have j := j.now (s.gr.h.trans g.h) g.s
  cases j
  exact q _ H' T' g (.bl b)
theorem Ev.scS {b : Str} (h : Ev K m1 te e (.str b)) : Ev K m te e (.str b) := Ev.up fun B T0 σ H T s Q q => h B T0 σ H T s Q fun v H' T' g j => by
  have j := j.now (s.gr.h.trans g.h) g.s
  cases j
  exact q _ H' T' g (.str b)
theorem Ev.scN (h : Ev K m1 te e .non) : Ev K m te e .non := Ev.up fun B T0 σ H T s Q q => h B T0 σ H T s Q fun v H' T' g j => by
  have j := j.now (s.gr.h.trans g.h) g.s
  cases j
  exact q _ H' T' g .non
/-- an item of a list of one's own is data -/
theorem ev_ixO {k : Int} (hi : e[i]? = some (.own (.lst xs))) (hk : Ev K m2 tb e (.int k)) (h : atI xs k = some d) : Ev K m (tOp (rIx K) (tVar i) tb) e d := Ev.up fun B T0 σ H T s Q q => by
  obtain ⟨a, hx, hb, ht, vs, hv, iv, _⟩ := s.own hi
  refine ⟨_, hx, hk B T0 σ H T s _ fun w H1 T1 g i1 => ?_⟩
  have i2 := i1.now (s.gr.h.trans g.h) g.s
  cases i2
  obtain ⟨j, e1, e2, e3, e4, e5⟩ := atI_get h
  obtain ⟨w, hw, iw⟩ := iv.get e2
  have e6 : atI vs k = some w := by
    unfold atI at h ⊢
    rw [iv.length]
    cases z : ixN xs.length k with
    | none => rw [z] at h; cases h
    | some j' =>
      have := (ixN_seq z).1
      rw [e1] at this
      cases this
      show vs[j]? = some w
      exact hw
  exact .inl ⟨a, vs, k, w, rfl, rfl, SqL.of (g.h _ _ hv), e6, q w H1 T1 g (Is.mono g.t d iw)⟩
theorem at_nat {k : Int} (h0 : 0 ≤ k) (h : xs[k.toNat]? = some d) : atI xs k = some d := by
  have e : k = ((k.toNat : Nat) : Int) := by omega
  rw [e]; exact atI_nat h
/-! ### built-in calls -/
theorem rl_abs {i : Int} : RL K [m1] m rAbs [.int i] (.int (if i < 0 then -i else i)) := fun B H T vs hB hT h Q q => by
  match vs, h with
  | [v], h =>
    have i1 := h.1.now hB hT
    cases i1
    exact ⟨i, rfl, q _ H T (Gr.refl hT) (MIs.dat (.int _) hT)⟩
theorem rl_mx2 {i j : Int} : RL K [m1, m2] m rMx2 [.int i, .int j] (.int (max i j)) := fun B H T vs hB hT h Q q => by
  match vs, h with
  | [v, w], h =>
    have i1 := h.1.now hB hT
    have i2 := h.2.1.now hB hT
    cases i1; cases i2
    refine ⟨i, j, rfl, ?_⟩
    have e : (if j > i then j else i) = max i j := by rw [Int.max_def]; split <;> split <;> omega
    rw [e]
    exact q _ H T (Gr.refl hT) (MIs.dat (.int _) hT)
theorem rl_mn2 {i j : Int} : RL K [m1, m2] m rMn2 [.int i, .int j] (.int (min i j)) := fun B H T vs hB hT h Q q => by
  match vs, h with
  | [v, w], h =>
    have i1 := h.1.now hB hT
    have i2 := h.2.1.now hB hT
    cases i1; cases i2
    refine ⟨i, j, rfl, ?_⟩
    have e : (if j < i then j else i) = min i j := by rw [Int.min_def]; split <;> split <;> omega
    rw [e]
    exact q _ H T (Gr.refl hT) (MIs.dat (.int _) hT)
theorem rl_int {i : Int} : RL K [m1] m rIntC [.int i] (.int i) := fun B H T vs hB hT h Q q => by
  match vs, h with
  | [v], h =>
    have i1 := h.1.now hB hT
    cases i1
    exact .inl ⟨i, rfl, q _ H T (Gr.refl hT) (MIs.dat (.int _) hT)⟩
theorem rl_intB {b : Bool} : RL K [m1] m rIntC [.bl b] (.int (if b then 1 else 0)) := fun B H T vs hB hT h Q q => by
  match vs, h with
  | [v], h =>
    have i1 := h.1.now hB hT
    cases i1
    exact .inr ⟨b, rfl, q _ H T (Gr.refl hT) (MIs.dat (.int _) hT)⟩
theorem rl_lenL : RL K [m1] m (rLenU K) [.lst xs] (.int (xs.length : Nat)) := fun B H T vs hB hT h Q q => by
  match vs, h with
  | [v], h =>
    have i1 := h.1.now hB hT
    cases i1 with
    | @lst a vs _ ha hi => exact ⟨_, xs.length, rfl, .inl ⟨vs, SqL.of ha, hi.length.symm⟩, q _ H T (Gr.refl hT) (MIs.dat (.int _) hT)⟩
theorem rl_lenT : RL K [m1] m (rLenU K) [.tup xs] (.int (xs.length : Nat)) := fun B H T vs hB hT h Q q => by
  match vs, h with
  | [v], h =>
    have i1 := h.1.now hB hT
    cases i1 with
    | @tup a vs _ ha hi => exact ⟨_, xs.length, rfl, .inr ⟨vs, ha.t, hi.length.symm⟩, q _ H T (Gr.refl hT) (MIs.dat (.int _) hT)⟩
theorem rl_lenR : RL K [m1] m (rLenU K) [.rol xs] (.int (xs.length : Nat)) := fun B H T vs hB hT h Q q => by
  match vs, h with
  | [v], h =>
    have i1 := h.1.now hB hT
    cases i1 with
    | @rol a vs _ ha hi => exact ⟨_, xs.length, rfl, .inl ⟨vs, ha, hi.length.symm⟩, q _ H T (Gr.refl hT) (MIs.dat (.int _) hT)⟩
/-- list(xs): a new list; its items are data -/
theorem rlo_list : RLO K [.dat] (rListU K) [.lst xs] (.lst xs) := fun B H T vs hB hT h Q q => by
  match vs, h with
  | [v], h =>
    have i1 : Is K T v (.lst xs) := h.1
    cases i1 with
    | @lst a vs _ ha hi hz => exact ⟨a, vs, rfl, .inl (SqL.of (hT _ _ ha)), fun l hl => q l _ T (Gr.own hT hl) hl (hT.back hl) ⟨vs, upd_same, hi, hz⟩⟩
theorem rlo_listT : RLO K [.dat] (rListU K) [.tup xs] (.lst xs) := fun B H T vs hB hT h Q q => by
  match vs, h with
  | [v], h =>
    have i1 : Is K T v (.tup xs) := h.1
    cases i1 with
    | @tup a vs _ ha hi hz => exact ⟨a, vs, rfl, .inr (hT.sqT ha.t), fun l hl => q l _ T (Gr.own hT hl) hl (hT.back hl) ⟨vs, upd_same, hi, hz⟩⟩
theorem rlo_listI {ns : List Int} : RLO K [m1] (rListU K) [.lst (ns.map D.int)] (.lst (ns.map D.int)) := fun B H T vs hB hT h Q q => by
  match vs, h with
  | [v], h =>
    have i1 := h.1.now hB hT
    cases i1 with
    | @lst a vs _ ha hi hz =>
      have e := hi.ints
      subst e
      exact ⟨a, _, rfl, .inl (SqL.of ha), fun l hl => q l _ T (Gr.own hT hl) hl (hT.back hl) ⟨_, upd_same, iss_ints ns, hz⟩⟩
/-- tuple(xs) -/
theorem rl_tup : RL K [.dat] m (rTupU K) [.lst xs] (.tup xs) := fun B H T vs hB hT h Q q => by
  match vs, h with
  | [v], h =>
    have i1 : Is K T v (.lst xs) := h.1
    cases i1 with
    | @lst a vs _ ha hi hz =>
      refine ⟨a, vs, rfl, .inl ⟨SqL.of (hT _ _ ha), fun l o ho hl => ?_⟩⟩
      have g := Gr.new (o := .frz o (.tup vs)) hT hl
      exact q _ _ _ g (MIs.dat (.tup (SqN.of upd_same ho) (Iss.mono g.t _ hi) hz) g.s)
theorem rl_tupT : RL K [m] m (rTupU K) [.tup xs] (.tup xs) := fun B H T vs hB hT h Q q => by
  match vs, h with
  | [v], h =>
    have i1 := h.1.now hB hT
    cases i1 with
    | @tup a vs _ ha hi => exact ⟨a, vs, rfl, .inr ⟨ha.t, q _ H T (Gr.refl hT) h.1⟩⟩
theorem rl_tupI {ns : List Int} : RL K [m1] m (rTupU K) [.lst (ns.map D.int)] (.tup (ns.map D.int)) := fun B H T vs hB hT h Q q => by
  match vs, h with
  | [v], h =>
    have i1 := h.1.now hB hT
    cases i1 with
    | @lst a vs _ ha hi hz =>
      have e := hi.ints
      subst e
      refine ⟨a, _, rfl, .inl ⟨SqL.of ha, fun l o ho hl => ?_⟩⟩
      have g := Gr.new (o := .frz o (.tup (ns.map V.int))) hT hl
      exact q _ _ _ g (MIs.dat (.tup (SqN.of upd_same ho) (iss_ints ns) hz) g.s)
theorem rl_sum {ns : List Int} : RL K [m1] m (rSum K) [.lst (ns.map D.int)] (.int ns.sum) := fun B H T vs hB hT h Q q => by
  match vs, h with
  | [v], h =>
    have i1 := h.1.now hB hT
    cases i1 with
    | @lst a vs _ ha hi =>
      have e := hi.ints
      subst e
      exact ⟨a, ns, rfl, SqL.of ha, q _ H T (Gr.refl hT) (MIs.dat (.int _) hT)⟩
theorem rl_min {ns : List Int} {k : Int} (h1 : k ∈ ns) (h2 : ∀ y ∈ ns, k ≤ y) : RL K [m1] m (rMin K) [.lst (ns.map D.int)] (.int k) := fun B H T vs hB hT h Q q => by
  match vs, h with
  | [v], h =>
    have i1 := h.1.now hB hT
    cases i1 with
    | @lst a vs _ ha hi =>
      have e := hi.ints
      subst e
      refine ⟨a, ns, rfl, SqL.of ha, List.length_pos_of_mem h1, fun z hz hm => ?_⟩
      have e : z = k := Int.le_antisymm (hm k h1) (h2 z hz)
      rw [e]
      exact q _ H T (Gr.refl hT) (MIs.dat (.int _) hT)
theorem rl_max {ns : List Int} {k : Int} (h1 : k ∈ ns) (h2 : ∀ y ∈ ns, y ≤ k) : RL K [m1] m (rMax K) [.lst (ns.map D.int)] (.int k) := fun B H T vs hB hT h Q q => by
  match vs, h with
  | [v], h =>
    have i1 := h.1.now hB hT
    cases i1 with
    | @lst a vs _ ha hi =>
      have e := hi.ints
      subst e
      refine ⟨a, ns, rfl, SqL.of ha, List.length_pos_of_mem h1, fun z hz hm => ?_⟩
      have e : z = k := Int.le_antisymm (h2 z hz) (hm k h1)
      rw [e]
      exact q _ H T (Gr.refl hT) (MIs.dat (.int _) hT)
/-! ### isinstance with a built-in class -/
def tyD : D → Option String
  | .non => some "NoneType"
  | .bl _ => some "bool"
  | .int _ => some "int"
  | .str _ => some "str"
  | .lst _ => some "list"
  | .tup _ => some "tuple"
  | _ => none
theorem tyX_of {H : Hp} {v : V} {n : String} (h : tyD d = some n) (i : Is K H v d) : TyX K H v (.type n) := by
  cases i with
  | non => cases h; exact .base .non
  | bl => cases h; exact .base (.bl _)
  | int => cases h; exact .base (.int _)
  | str => cases h; exact .base (.str _)
  | raw => cases h
  | rol => cases h
  | abs => cases h
  | ins => cases h
  | lst ha => cases h; exact .base (.lst ha)
  | tup ha =>
    cases h
    rcases ha.t with (ha | ⟨o, ha⟩) | ⟨o, its, n, hk, hc, _⟩
    · exact .base (.tup ha)
    · exact .fTuple ha
    · exact .kTuple hk hc
theorem rl_isi {n c : String} {b : Bool} (h : tyD d = some n) (hk : kitB n c = some b) : RL K [m1, m2] m (rIsi K) [d, .raw (.ty c)] (.bl b) := fun B H T vs hB hT hm Q q => by
  match vs, hm with
  | [v, w], hm =>
    have i1 := hm.1.now hB hT
    have i2 := hm.2.1.now hB hT
    cases i2
    exact ⟨v, .ty c, .type n, .type c, b, rfl, .ty c, tyX_of h i1, kit_ty hk, q _ H T (Gr.refl hT) (MIs.dat (.bl b) hT)⟩
end
end Fh

set_option Elab.async false
set_option linter.all false
set_option maxRecDepth 100000
set_option maxHeartbeats 4000000
/-! Fh, sixth part: the rules as the evaluator takes them -/
namespace Fh
open PySem PySem.Spec PyProof.Rows L2
theorem sz {n : Nat} (h : n ≤ 100000) : n ≤ sizeLine := Nat.le_trans h (by decide)
theorem szl {n : Nat} (h : n < 100000) : n < sizeLine := Nat.lt_of_lt_of_le h (by decide)
section
variable {K : PySem.W.Frag} {E : WX} {e : En} {d d1 d2 : D} {ds xs ys : List D} {m m1 m2 : Md} {te ta tb tc : TE} {tt tu : TT} {i j k : Int} {b c : Bool} {o : OD} {P : Po} {t u : TS} {n : Nat} {ns : List Int}
theorem ev_addI (ha : Ev K .now ta e (.int i)) (hb : Ev K .now tb e (.int j)) : Ev K m (tOp (rPlus K) ta tb) e (.int (i + j)) := ev_op ha hb rd_plus
theorem ev_subI (ha : Ev K .now ta e (.int i)) (hb : Ev K .now tb e (.int j)) : Ev K m (tOp rMinus ta tb) e (.int (i - j)) := ev_op ha hb rd_minus
theorem ev_mulI (ha : Ev K .now ta e (.int i)) (hb : Ev K .now tb e (.int j)) (h : CMul i j) : Ev K m (tOp rTimes ta tb) e (.int (i * j)) := ev_op ha hb (rd_times h)
theorem ev_divI (ha : Ev K .now ta e (.int i)) (hb : Ev K .now tb e (.int j)) (h : CDiv i j) : Ev K m (tOp rFdiv ta tb) e (.int (i / j)) := ev_op ha hb (rd_fdiv h)
theorem ev_modI (ha : Ev K .now ta e (.int i)) (hb : Ev K .now tb e (.int j)) (h : 0 < j) : Ev K m (tOp rMod ta tb) e (.int (i % j)) := ev_op ha hb (rd_mod h)
theorem ev_powI (ha : Ev K .now ta e (.int i)) (hb : Ev K .now tb e (.int j)) (h : CPow i j) : Ev K m (tOp rPow ta tb) e (.int (i ^ j.toNat)) := ev_op ha hb (rd_pow h)
theorem ev_negI (ha : Ev K .now ta e (.int i)) : Ev K m (tUn (rU fun i => .int (-i)) ta) e (.int (-i)) := Ev.up fun B T0 σ H T s Q q => ha B T0 σ H T s _ fun v H1 T1 g i1 => by
  have i2 := i1.now (s.gr.h.trans g.h) g.s
  cases i2
  exact ⟨i, rfl, q _ H1 T1 g (.int _)⟩
theorem ev_ltI (ha : Ev K .now ta e (.int i)) (hb : Ev K .now tb e (.int j)) : Ev K m (tOp rLt ta tb) e (.bl (decide (i < j))) := ev_op ha hb rd_lt
theorem ev_leI (ha : Ev K .now ta e (.int i)) (hb : Ev K .now tb e (.int j)) : Ev K m (tOp rLe ta tb) e (.bl (decide (i ≤ j))) := ev_op ha hb rd_le
theorem ev_gtI (ha : Ev K .now ta e (.int i)) (hb : Ev K .now tb e (.int j)) : Ev K m (tOp rGt2 ta tb) e (.bl (decide (j < i))) := ev_op ha hb rd_gt
theorem ev_geI (ha : Ev K .now ta e (.int i)) (hb : Ev K .now tb e (.int j)) : Ev K m (tOp rGe2 ta tb) e (.bl (decide (j ≤ i))) := ev_op ha hb rd_ge
theorem ev_eqI (ha : Ev K .now ta e (.int i)) (hb : Ev K .now tb e (.int j)) : Ev K m (tOp (rEqU K) ta tb) e (.bl (decide (i = j))) := ev_op ha hb rd_eqI
theorem ev_neI (ha : Ev K .now ta e (.int i)) (hb : Ev K .now tb e (.int j)) : Ev K m (tOp (rNeU K) ta tb) e (.bl (decide (i ≠ j))) := ev_op ha hb rd_neI
theorem ev_eqS {x y : Str} (ha : Ev K .now ta e (.str x)) (hb : Ev K .now tb e (.str y)) : Ev K m (tOp (rEqU K) ta tb) e (.bl (decide (x = y))) := ev_op ha hb rd_eqS
theorem ev_neS {x y : Str} (ha : Ev K .now ta e (.str x)) (hb : Ev K .now tb e (.str y)) : Ev K m (tOp (rNeU K) ta tb) e (.bl (decide (x ≠ y))) := ev_op ha hb rd_neS
theorem ev_eqL {ns ms : List Int} (ha : Ev K .now ta e (.lst (ns.map D.int))) (hb : Ev K .now tb e (.lst (ms.map D.int))) : Ev K m (tOp (rEqU K) ta tb) e (.bl (decide (ns = ms))) := ev_op ha hb rd_eqInts
theorem ev_neL {ns ms : List Int} (ha : Ev K .now ta e (.lst (ns.map D.int))) (hb : Ev K .now tb e (.lst (ms.map D.int))) : Ev K m (tOp (rNeU K) ta tb) e (.bl (decide (ns ≠ ms))) := ev_op ha hb rd_neInts
theorem ev_is (ha : Ev K .now ta e d1) (hb : Ev K .now tb e d2) (h : isC d1 d2 = some b) : Ev K m (tOp rIsC ta tb) e (.bl b) := ev_op ha hb (rd_is h)
theorem ev_isN (ha : Ev K .now ta e d1) (hb : Ev K .now tb e d2) (h : isC d1 d2 = some b) : Ev K m (tOp rIsNC ta tb) e (.bl (!b)) := ev_op ha hb (rd_isN h)
/-! an item of a row of ints -/
def nth (ns : List Int) (k : Int) : Int := ns.getD k.toNat 0
theorem atI_ints (h0 : 0 ≤ k) (h1 : k < ns.length) : atI (ns.map D.int) k = some (.int (nth ns k)) := by
  refine at_nat h0 ?_
  have hk : k.toNat < ns.length := by omega
  rw [List.getElem?_map, List.getElem?_eq_getElem hk]
  unfold nth
  rw [List.getD_eq_getElem?_getD, List.getElem?_eq_getElem hk]
  rfl
theorem ev_ixI (ha : Ev K .now ta e (.lst (ns.map D.int))) (hb : Ev K .now tb e (.int k)) (h0 : 0 ≤ k) (h1 : k < ns.length) : Ev K m (tOp (rIx K) ta tb) e (.int (nth ns k)) := Ev.sc (m1 := .now) (ev_op ha hb (rd_ixL (atI_ints h0 h1)))
theorem ev_ixIT (ha : Ev K .now ta e (.tup (ns.map D.int))) (hb : Ev K .now tb e (.int k)) (h0 : 0 ≤ k) (h1 : k < ns.length) : Ev K m (tOp (rIx K) ta tb) e (.int (nth ns k)) := Ev.sc (m1 := .now) (ev_op ha hb (rd_ixT (atI_ints h0 h1)))
theorem ev_ixL (ha : Ev K m ta e (.lst xs)) (hb : Ev K .now tb e (.int k)) (h : atI xs k = some d) : Ev K m (tOp (rIx K) ta tb) e d := ev_op ha hb (rd_ixL h)
theorem ev_ixT (ha : Ev K m ta e (.tup xs)) (hb : Ev K .now tb e (.int k)) (h : atI xs k = some d) : Ev K m (tOp (rIx K) ta tb) e d := ev_op ha hb (rd_ixT h)
/-! calls -/
theorem ev_abs (ha : Ev K .now ta e (.int i)) : Ev K m (tCB rAbs (tCons ta tNil)) e (.int (if i < 0 then -i else i)) := ev_cb (ea_cons ha ea_nil) rl_abs
theorem ev_max2 (ha : Ev K .now ta e (.int i)) (hb : Ev K .now tb e (.int j)) : Ev K m (tCB rMx2 (tCons ta (tCons tb tNil))) e (.int (max i j)) := ev_cb (ea_cons ha (ea_cons hb ea_nil)) rl_mx2
theorem ev_min2 (ha : Ev K .now ta e (.int i)) (hb : Ev K .now tb e (.int j)) : Ev K m (tCB rMn2 (tCons ta (tCons tb tNil))) e (.int (min i j)) := ev_cb (ea_cons ha (ea_cons hb ea_nil)) rl_mn2
theorem ev_intc (ha : Ev K .now ta e (.int i)) : Ev K m (tCB rIntC (tCons ta tNil)) e (.int i) := ev_cb (ea_cons ha ea_nil) rl_int
theorem ev_len (ha : Ev K .now ta e (.lst xs)) : Ev K m (tCB (rLenU K) (tCons ta tNil)) e (.int (xs.length : Nat)) := ev_cb (ea_cons ha ea_nil) rl_lenL
theorem ev_lenT (ha : Ev K .now ta e (.tup xs)) : Ev K m (tCB (rLenU K) (tCons ta tNil)) e (.int (xs.length : Nat)) := ev_cb (ea_cons ha ea_nil) rl_lenT
theorem ev_lenM {α : Type} {f : α → D} {as : List α} (ha : Ev K .now ta e (.lst (as.map f))) : Ev K m (tCB (rLenU K) (tCons ta tNil)) e (.int (as.length : Nat)) := by
  have h := ev_len (m := m) ha
  rwa [List.length_map] at h
theorem ev_lenTM {α : Type} {f : α → D} {as : List α} (ha : Ev K .now ta e (.tup (as.map f))) : Ev K m (tCB (rLenU K) (tCons ta tNil)) e (.int (as.length : Nat)) := by
  have h := ev_lenT (m := m) ha
  rwa [List.length_map] at h
theorem ev_sum (ha : Ev K .now ta e (.lst (ns.map D.int))) : Ev K m (tCB (rSum K) (tCons ta tNil)) e (.int ns.sum) := ev_cb (ea_cons ha ea_nil) rl_sum
theorem ev_isi {s c : String} (ha : Ev K .now ta e d) (h : tyD d = some s) (hk : kitB s c = some b) : Ev K m (tCB (rIsi K) (tCons ta (tCons (tC (.ty c)) tNil))) e (.bl b) := ev_cb (ea_cons ha (ea_cons (m := .now) ev_raw ea_nil)) (rl_isi h hk)
theorem ev_chain {r r' : R2} (ha : Ev K .now ta e d1) (hb : Ev K .now tb e d2) (hr : RD K .now .now .now r d1 d2 (.bl b)) (hc : b = true → Ev K .now tc e d ∧ RD K .now .now .now r' d2 d (.bl c)) : Ev K m (tChain r r' ta tb tc) e (.bl (b && c)) := Ev.up fun B T0 σ H T s Q q =>
  ha B T0 σ H T s _ fun x H1 T1 g1 i1 => hb B T0 σ H1 T1 (s.grow g1) _ fun y H2 T2 g2 i2 => by
    have s2 := (s.grow g1).grow g2
    refine hr B H2 T2 x y s2.gr.h g2.s (i1.mono g2.h g2.t) i2 _ fun z H3 T3 g3 i3 => ?_
    have i3' : Is K H3 z (.bl b) := i3
    cases i3'
    refine ⟨b, rfl, ?_⟩
    have s3 := s2.grow g3
    have g13 := (g1.trans g2).trans g3
    cases b with
    | true =>
      obtain ⟨hc, hr'⟩ := hc rfl
      show tc σ H3 _
      refine hc B T0 σ H3 T3 s3 _ fun w H4 T4 g4 i4 => ?_
      have s4 := s3.grow g4
      refine hr' B H4 T4 y w s4.gr.h g4.s ((i2.mono g3.h g3.t).mono g4.h g4.t) i4 _ fun z H5 T5 g5 i5 => ?_
      have i5' : Is K H5 z (.bl c) := i5
      cases i5'
      exact q _ H5 T5 ((g13.trans g4).trans g5) (.bl _)
    | false => exact q _ H3 T3 g13 (.bl false)
theorem et_yes : EvT K tYes e true := fun B T0 σ H T s Q q => q H T (Gr.refl s.gr.s)
/-! list(xs), tuple(xs) -/
theorem evo_list (ha : Ev K .dat ta e (.lst xs)) : EvO K (tCB (rListU K) (tCons ta tNil)) e (.lst xs) := ev_cbO (ea_cons ha ea_nil) rlo_list
theorem evo_listT (ha : Ev K .dat ta e (.tup xs)) : EvO K (tCB (rListU K) (tCons ta tNil)) e (.lst xs) := ev_cbO (ea_cons ha ea_nil) rlo_listT
theorem evo_listI (ha : Ev K .now ta e (.lst (ns.map D.int))) : EvO K (tCB (rListU K) (tCons ta tNil)) e (.lst (ns.map D.int)) := ev_cbO (ea_cons ha ea_nil) rlo_listI
theorem ev_tupI (ha : Ev K .now ta e (.lst (ns.map D.int))) : Ev K m (tCB (rTupU K) (tCons ta tNil)) e (.tup (ns.map D.int)) := ev_cb (ea_cons ha ea_nil) rl_tupI
theorem ev_tupL (ha : Ev K .dat ta e (.lst xs)) : Ev K m (tCB (rTupU K) (tCons ta tNil)) e (.tup xs) := ev_cb (ea_cons ha ea_nil) rl_tup
/-! statements again, with what a test says as a fact -/
theorem run_ifD {p : Prop} [Decidable p] (h : EvT K tt e (decide p)) (h1 : p → Run K E t e P) (h2 : ¬ p → Run K E u e P) : Run K E (tIfS tt t u) e P := run_if h (fun q => h1 (of_decide_eq_true q)) (fun q => h2 (of_decide_eq_false q))
theorem run_ifT (h : EvT K tt e true) (h1 : Run K E t e P) : Run K E (tIfS tt t u) e P := run_if h (fun _ => h1) (fun q => nomatch q)
theorem run_ifF (h : EvT K tt e false) (h1 : Run K E u e P) : Run K E (tIfS tt t u) e P := run_if h (fun q => nomatch q) (fun _ => h1)
theorem run_asgP {p : D → Prop} (h : EvP K te e p) (q : ∀ d, p d → P.nx (e.set n (.dat d))) : Run K E (tAsg te (gName n)) e P := fun B T0 σ H T D s f =>
  h B T0 σ H T s _ fun d v H1 T1 pd g i1 => f.nx _ _ H1 T1 (q d pd) ((s.grow g).set (m := .dat) (fun z => nomatch z) i1)
theorem run_retP {p : D → Prop} (h : EvP K te e p) (q : ∀ d, p d → P.rt d) : Run K E (tRet te) e P := fun B T0 σ H T D s f =>
  h B T0 σ H T s _ fun d v H1 T1 pd g i1 => f.rt d v H1 T1 (q d pd) (s.gr.trans g) i1
/-! slices -/
def EvS (K : PySem.W.Frag) (tp : TO) (e : En) (o : Option Int) : Prop := ∀ (B T0 : Hp) (σ : L2.St) (H T : Hp), Sat K B T0 e σ H T → ∀ Q : Option Int → Hp → Prop, (∀ H' T', Gr H T H' T' → Q o H') → tp σ H Q
theorem es_no : EvS K tNoPart e none := fun B T0 σ H T s Q q => q H T (Gr.refl s.gr.s)
theorem es_some (h : Ev K .now te e (.int i)) : EvS K (tPart te) e (some i) := fun B T0 σ H T s Q q => h B T0 σ H T s _ fun v H1 T1 g i1 => by
  have i2 := i1.now (s.gr.h.trans g.h) g.s
  cases i2
  exact ⟨i, rfl, q H1 T1 g⟩
/-- xs[lo:hi] -/
def cut {α : Type} (xs : List α) (lo hi : Option Int) : List α := (xs.drop (HT.sIx xs.length 0 lo)).take (HT.sIx xs.length xs.length hi - HT.sIx xs.length 0 lo)
theorem cut_iss {H : Hp} {vs : List V} {lo hi : Option Int} (h : Iss K H vs xs) : Iss K H (cutV vs lo hi) (cut xs lo hi) := by
  unfold cutV cut
  rw [h.length]
  exact (h.drop _).take _
theorem cut_len {α : Type} (xs : List α) (lo hi : Option Int) : (cut xs lo hi).length ≤ xs.length := by
  unfold cut
  rw [List.length_take, List.length_drop]
  omega
theorem cut_map {α β : Type} (f : α → β) (xs : List α) (lo hi : Option Int) : cut (xs.map f) lo hi = (cut xs lo hi).map f := by
  unfold cut
  rw [List.length_map, List.map_take, List.map_drop]
theorem evo_slR {tl th : TO} {lo hi : Option Int} (ha : Ev K .now te e (.rol (ns.map D.int))) (hl : EvS K tl e lo) (hh : EvS K th e hi) : EvO K (tSl (rSlU K) te tl th) e (.lst ((cut ns lo hi).map D.int)) := fun B T0 σ H T s Q q =>
  ha B T0 σ H T s _ fun v H1 T1 g1 i1 => hl B T0 σ H1 T1 (s.grow g1) _ fun H2 T2 g2 => hh B T0 σ H2 T2 ((s.grow g1).grow g2) _ fun H3 T3 g3 => by
    have i2 : Is K H3 v _ := Is.mono (g2.h.trans g3.h) _ i1
    cases i2 with
    | @rol a vs _ hv iv hz =>
      have ev := iv.ints
      subst ev
      refine .inl ⟨a, _, rfl, hv, fun p hp => ?_⟩
      have g := (g1.trans g2).trans g3
      refine q p _ T3 (g.trans (Gr.own g3.s hp)) (g.h.back hp) (g3.s.back hp) ⟨_, upd_same, ?_, by
        rw [List.length_map] at hz ⊢
        exact Nat.le_trans (cut_len ..) hz⟩
      have := cut_iss (lo := lo) (hi := hi) (iss_ints (K := K) (H := T3) ns)
      rwa [cut_map] at this
theorem evo_slI {tl th : TO} {lo hi : Option Int} (ha : Ev K .now te e (.lst (ns.map D.int))) (hl : EvS K tl e lo) (hh : EvS K th e hi) : EvO K (tSl (rSlU K) te tl th) e (.lst ((cut ns lo hi).map D.int)) := fun B T0 σ H T s Q q =>
  ha B T0 σ H T s _ fun v H1 T1 g1 i1 => hl B T0 σ H1 T1 (s.grow g1) _ fun H2 T2 g2 => hh B T0 σ H2 T2 ((s.grow g1).grow g2) _ fun H3 T3 g3 => by
    have i2 : Is K H3 v _ := Is.mono (g2.h.trans g3.h) _ i1
    cases i2 with
    | @lst a vs _ hv iv hz =>
      have ev := iv.ints
      subst ev
      refine .inl ⟨a, _, rfl, SqL.of hv, fun p hp => ?_⟩
      have g := (g1.trans g2).trans g3
      refine q p _ T3 (g.trans (Gr.own g3.s hp)) (g.h.back hp) (g3.s.back hp) ⟨_, upd_same, ?_, by
        rw [List.length_map] at hz ⊢
        exact Nat.le_trans (cut_len ..) hz⟩
      have := cut_iss (lo := lo) (hi := hi) (iss_ints (K := K) (H := T3) ns)
      rwa [cut_map] at this
theorem evo_slL {tl th : TO} {lo hi : Option Int} (ha : Ev K .dat te e (.lst xs)) (hl : EvS K tl e lo) (hh : EvS K th e hi) : EvO K (tSl (rSlU K) te tl th) e (.lst (cut xs lo hi)) := fun B T0 σ H T s Q q =>
  ha B T0 σ H T s _ fun v H1 T1 g1 i1 => hl B T0 σ H1 T1 (s.grow g1) _ fun H2 T2 g2 => hh B T0 σ H2 T2 ((s.grow g1).grow g2) _ fun H3 T3 g3 => by
    have i2 : Is K T3 v _ := Is.mono (g2.t.trans g3.t) _ (show Is K T1 v _ from i1)
    cases i2 with
    | @lst a vs _ hv iv hz =>
      refine .inl ⟨a, _, rfl, SqL.of (g3.s _ _ hv), fun p hp => ?_⟩
      have g := (g1.trans g2).trans g3
      exact q p _ T3 (g.trans (Gr.own g3.s hp)) (g.h.back hp) (g3.s.back hp) ⟨_, upd_same, cut_iss iv, Nat.le_trans (cut_len ..) hz⟩
theorem ev_slT {tl th : TO} {lo hi : Option Int} (ha : Ev K .dat te e (.tup xs)) (hl : EvS K tl e lo) (hh : EvS K th e hi) : Ev K m (tSl (rSlU K) te tl th) e (.tup (cut xs lo hi)) := Ev.up fun B T0 σ H T s Q q =>
  ha B T0 σ H T s _ fun v H1 T1 g1 i1 => hl B T0 σ H1 T1 (s.grow g1) _ fun H2 T2 g2 => hh B T0 σ H2 T2 ((s.grow g1).grow g2) _ fun H3 T3 g3 => by
    have i2 : Is K T3 v (.tup xs) := Is.mono (g2.t.trans g3.t) _ (show Is K T1 v _ from i1)
    have g := (g1.trans g2).trans g3
    cases id i2 with
    | @tup a vs _ hv iv hz =>
      refine .inr ⟨a, vs, rfl, g3.s.sqT hv.t, fun ⟨z1, z2⟩ => ?_, fun _ p o ho hp => ?_⟩
      · have : cut xs lo hi = xs := by
          unfold cut
          rw [← iv.length, z1, z2, List.drop_zero, Nat.sub_zero, iv.length, List.take_length]
        exact q _ H3 T3 g (show Is K T3 _ _ by rw [this]; exact i2)
      · have g4 := Gr.new (o := .frz o (.tup (cutV vs lo hi))) g3.s hp
        exact q _ _ _ (g.trans g4) (.tup (SqN.of upd_same ho) (Iss.mono g4.t _ (cut_iss iv)) (Nat.le_trans (cut_len ..) hz))
theorem atI_map {α : Type} {f : α → D} {as : List α} {a0 : α} (h0 : 0 ≤ k) (h1 : k < as.length) : atI (as.map f) k = some (f (as.getD k.toNat a0)) := by
  refine at_nat h0 ?_
  have hk : k.toNat < as.length := by omega
  rw [List.getElem?_map, List.getElem?_eq_getElem hk, List.getD_eq_getElem?_getD, List.getElem?_eq_getElem hk]
  rfl
/-- range(len(xs)) -/
theorem ei_rngLenL (ha : Ev K .now ta e (.lst xs)) : EvI K .dat (iRng1 (tCons (tCB (rLenU K) (tCons ta tNil)) tNil)) e (rgD 0 xs.length) := fun B T0 σ H T s R q => ha B T0 σ H T s _ fun v H1 T1 g1 i1 => by
  have i2 : Is K H1 v (.lst xs) := i1
  cases i2 with
  | @lst p vs _ hp hv hz =>
    have hsl := sizeLine_eq
    refine ⟨_, vs.length, rfl, .inl ⟨vs, SqL.of hp, rfl⟩, (vs.length : Nat), rfl, by omega, by rw [hv.length]; omega, ?_⟩
    rw [Int.toNat_natCast, hv.length]
    exact q _ H1 T1 g1 itD_rng
theorem ei_rngLenT (ha : Ev K .now ta e (.tup xs)) : EvI K .dat (iRng1 (tCons (tCB (rLenU K) (tCons ta tNil)) tNil)) e (rgD 0 xs.length) := fun B T0 σ H T s R q => ha B T0 σ H T s _ fun v H1 T1 g1 i1 => by
  have i2 : Is K H1 v (.tup xs) := i1
  cases i2 with
  | @tup p vs _ hp hv hz =>
    have hsl := sizeLine_eq
    refine ⟨_, vs.length, rfl, .inr ⟨vs, hp.t, rfl⟩, (vs.length : Nat), rfl, by omega, by rw [hv.length]; omega, ?_⟩
    rw [Int.toNat_natCast, hv.length]
    exact q _ H1 T1 g1 itD_rng
end
end Fh

set_option Elab.async false
set_option linter.all false
set_option maxRecDepth 100000
set_option maxHeartbeats 4000000
/-! Fh, seventh part: the drawing helpers that every law has: _law_mixed, _law_pool, _law_same -/
namespace Fh
open PySem PySem.Spec PyProof.Rows L2
local macro_rules | `(tactic| walk_at "side") => `(tactic| first
  | assumption | decide | omega
  | exact ⟨by decide, by decide⟩ | exact ⟨by omega, by omega⟩ | exact Or.inl ⟨by omega, by omega⟩ | exact Or.inr ⟨by omega, by omega⟩
  | exact ⟨by decide, by decide, by decide⟩ | exact sz (by simp) | exact szl (by simp) | rfl)
local macro_rules | `(tactic| walk_at "ev") => `(tactic| first
  | exact ev_int
  | exact ev_bl
  | exact ev_str
  | exact ev_non
  | exact ev_dat rfl
  | exact ev_bor rfl
  | exact (ev_bor rfl).nw
  | exact ev_own rfl
  | exact (ev_bor rfl).sc
  | exact (ev_bor rfl).scB
  | exact (ev_bor rfl).scS
  | exact (ev_bor rfl).scN
  | (apply ev_addI; walk_at "ev"; walk_at "ev")
  | (apply ev_subI; walk_at "ev"; walk_at "ev")
  | (apply ev_ltI; walk_at "ev"; walk_at "ev")
  | (apply ev_leI; walk_at "ev"; walk_at "ev")
  | (apply ev_gtI; walk_at "ev"; walk_at "ev")
  | (apply ev_geI; walk_at "ev"; walk_at "ev")
  | (apply ev_eqI; walk_at "ev"; walk_at "ev")
  | (apply ev_neI; walk_at "ev"; walk_at "ev")
  | (apply ev_eqS; walk_at "ev"; walk_at "ev")
  | (apply ev_neS; walk_at "ev"; walk_at "ev")
  | (apply ev_eqL; walk_at "ev"; walk_at "ev")
  | (apply ev_neL; walk_at "ev"; walk_at "ev")
  | (apply ev_max2; walk_at "ev"; walk_at "ev")
  | (apply ev_min2; walk_at "ev"; walk_at "ev")
  | (apply ev_mulI; walk_at "ev"; walk_at "ev"; walk_at "side")
  | (apply ev_divI; walk_at "ev"; walk_at "ev"; walk_at "side")
  | (apply ev_modI; walk_at "ev"; walk_at "ev"; walk_at "side")
  | (apply ev_powI; walk_at "ev"; walk_at "ev"; walk_at "side")
  | (apply ev_negI; walk_at "ev")
  | (apply ev_abs; walk_at "ev")
  | (apply ev_intc; walk_at "ev")
  | (apply ev_lenM; walk_at "ev")
  | (apply ev_lenTM; walk_at "ev")
  | (apply ev_len; walk_at "ev")
  | (apply ev_lenT; walk_at "ev")
  | (apply ev_sum; walk_at "ev")
  | (apply ev_notV; walk_at "ev")
  | (apply ev_tupI; walk_at "ev")
  | (apply ev_is; walk_at "ev"; walk_at "ev"; rfl)
  | (apply ev_isN; walk_at "ev"; walk_at "ev"; rfl)
  | (apply ev_ixI; walk_at "ev"; walk_at "ev"; walk_at "side"; walk_at "side")
  | (apply ev_ixIT; walk_at "ev"; walk_at "ev"; walk_at "side"; walk_at "side")
  | (apply ev_andV; walk_at "ev"; (intro _; walk_at "ev"))
  | (apply ev_orV; walk_at "ev"; (intro _; walk_at "ev"))
  | (apply ev_tup; walk_at "ed"; walk_at "side")
  | exact ev_nil
  | (apply ev_lst; walk_at "ed"; walk_at "side")
  | (apply ev_isi; walk_at "ev"; rfl; decide +kernel))
local macro_rules | `(tactic| walk_at "ea") => `(tactic| first
  | exact ea_nil
  | (apply ea_cons; walk_at "ev"; walk_at "ea"))
local macro_rules | `(tactic| walk_at "ed") => `(tactic| first
  | exact ed_nil
  | (apply ed_cons; walk_at "ev"; walk_at "ed"))
local macro_rules | `(tactic| walk_at "et") => `(tactic| first
  | exact et_yes
  | (apply et_and; walk_at "et"; (intro _; walk_at "et"))
  | (apply et_or; walk_at "et"; (intro _; walk_at "et"))
  | (apply et_not; walk_at "et")
  | (refine et_test (m := .now) ?_; walk_at "ev")
  | (refine et_B (m := .now) ?_; walk_at "ev"))
local macro_rules | `(tactic| walk_at "asg") => `(tactic| (first
  | (refine run_seq ?_; apply run_asg; walk_at "ev"; dsimp only [List.set])
  | (apply run_asg; walk_at "ev"; dsimp only [List.set])))
def rd_l_mixed (K : PySem.W.Frag) : TS :=
  (tSeq (tAsg (tOp (rMod) (tCB (rIntC) (tCons (tOp (rPlus K) (tOp (rPlus K) (tOp (rTimes) (tVar 0) (tC (.int 48271))) (tOp (rTimes) (tVar 1) (tC (.int 69621)))) (tC (.int 11))) tNil)) (tC (.int 2147483647))) (gName 2))
  (tSeq (tAsg (tOp (rMod) (tCB (rIntC) (tCons (tOp (rPlus K) (tOp (rPlus K) (tOp (rTimes) (tVar 2) (tVar 2)) (tOp (rTimes) (tVar 1) (tC (.int 40692)))) (tC (.int 7))) tNil)) (tC (.int 2147483399))) (gName 3))
  (tRet (tOp (rMod) (tCB (rIntC) (tCons (tOp (rFdiv) (tVar 3) (tC (.int 7))) tNil)) (tC (.int 1000))))))
def rd_l_pool (K : PySem.W.Frag) (sp_l_mixed : Sp) : TS :=
  (tSeq (tAsg (tLc (iSeq K (tSl (rSlU K) (tVar 0) tNoPart (tPart (tC (.int 63))))) (gName 4) tYes (tCB (rAbs) (tCons (tCB (rIntC) (tCons (tVar 4) tNil)) tNil)) [4]) (gName 2))
  (tSeq (tIfS (tTest (tOp (rEqU K) (tVar 2) (tLst tNil))) (tAsg (tLst (tCons (tC (.int 0)) tNil)) (gName 2)) tNext)
  (tSeq (tAsg (tLst tNil) (gName 3))
  (tSeq (tFor (iSeq K (tVar 2)) (gName 4) (tSeq (tAsg (tLst tNil) (gName 7))
  (tSeq (tAsg (tVar 4) (gName 8))
  (tSeq (tIfS (tTest (tOp (rGe2) (tVar 4) (tOp (rPow) (tC (.int 10)) (tC (.int 18))))) (tFor (iRng1 (tCons (tC (.int 90)) tNil)) (gName 10) (tIfS (tTest (tOp (rGt2) (tVar 8) (tC (.int 0)))) (tSeq (tDrop (tBM K "list" rAppend (tVar 7) (tCons (tOp (rMod) (tCB (rIntC) (tCons (tVar 8) tNil)) (tC (.int 1000))) tNil)))
  (tAsg (tOp (rFdiv) (tVar 8) (tC (.int 1000))) (gName 8))) tNext)) tNext)
  (tDrop (tBM K "list" rAppend (tVar 3) (tCons (tVar 7) tNil)))))))
  (tSeq (tAsg (tLst tNil) (gName 5))
  (tSeq (tFor (iRng1 (tCons (tVar 1) tNil)) (gName 6) (tSeq (tAsg (tOp (rMod) (tCB (rIntC) (tCons (tVar 6) tNil)) (tCB (rLenU K) (tCons (tVar 2) tNil))) (gName 9))
  (tSeq (tAsg (tOp (rFdiv) (tVar 6) (tCB (rLenU K) (tCons (tVar 2) tNil))) (gName 10))
  (tIfS (tTest (tOp (rLt) (tVar 10) (tCB (rLenU K) (tCons (tOp (rIx K) (tVar 3) (tVar 9)) tNil)))) (tDrop (tBM K "list" rAppend (tVar 5) (tCons (tOp (rIx K) (tOp (rIx K) (tVar 3) (tVar 9)) (tVar 10)) tNil))) (tDrop (tBM K "list" rAppend (tVar 5) (tCons (tCall sp_l_mixed [] E0 (tCons (tOp (rPlus K) (tOp (rMod) (tCB (rIntC) (tCons (tOp (rIx K) (tVar 2) (tVar 9)) tNil)) (tC (.int 1000003))) (tOp (rTimes) (tC (.int 7919)) (tVar 9))) (tCons (tOp (rPlus K) (tVar 10) (tC (.int 1))) tNil))) tNil)))))))
  (tRet (tVar 5))))))))
def rd_l_same (K : PySem.W.Frag) (sp_l_same : Sp) : TS :=
  (tSeq (tIfS (tTest (tOp (rIsC) (tVar 1) (tC .non))) (tRet (tOp (rIsC) (tVar 0) (tC .non))) tNext)
  (tSeq (tIfS (tTest (tOp (rIsC) (tVar 1) (tC (.bl true)))) (tRet (tOp (rIsC) (tVar 0) (tC (.bl true)))) tNext)
  (tSeq (tIfS (tTest (tOp (rIsC) (tVar 1) (tC (.bl false)))) (tRet (tOp (rIsC) (tVar 0) (tC (.bl false)))) tNext)
  (tSeq (tIfS (tB (tCB (rIsi K) (tCons (tVar 1) (tCons (tC (.ty "int")) tNil)))) (tRet (tAndV (tCB (rIsi K) (tCons (tVar 0) (tCons (tC (.ty "int")) tNil))) (tAndV (tNotV (tCB (rIsi K) (tCons (tVar 0) (tCons (tC (.ty "bool")) tNil)))) (tOp (rEqU K) (tVar 0) (tVar 1))))) tNext)
  (tSeq (tIfS (tB (tCB (rIsi K) (tCons (tVar 1) (tCons (tC (.ty "str")) tNil)))) (tRet (tAndV (tCB (rIsi K) (tCons (tVar 0) (tCons (tC (.ty "str")) tNil))) (tOp (rEqU K) (tVar 0) (tVar 1)))) tNext)
  (tSeq (tIfS (tB (tCB (rIsi K) (tCons (tVar 1) (tCons (tC (.ty "tuple")) tNil)))) (tIfS (tOr (tNot (tB (tCB (rIsi K) (tCons (tVar 0) (tCons (tC (.ty "tuple")) tNil))))) (tTest (tOp (rNeU K) (tCB (rLenU K) (tCons (tVar 0) tNil)) (tCB (rLenU K) (tCons (tVar 1) tNil))))) (tRet (tC (.bl false))) tNext) (tIfS (tOr (tNot (tB (tCB (rIsi K) (tCons (tVar 0) (tCons (tC (.ty "list")) tNil))))) (tTest (tOp (rNeU K) (tCB (rLenU K) (tCons (tVar 0) tNil)) (tCB (rLenU K) (tCons (tVar 1) tNil))))) (tRet (tC (.bl false))) tNext))
  (tSeq (tFor (iRng1 (tCons (tCB (rLenU K) (tCons (tVar 1) tNil)) tNil)) (gName 2) (tIfS (tNot (tB (tCall sp_l_same [] E0 (tCons (tOp (rIx K) (tVar 0) (tVar 2)) (tCons (tOp (rIx K) (tVar 1) (tVar 2)) tNil))))) (tRet (tC (.bl false))) tNext))
  (tRet (tC (.bl true))))))))))
section
variable {K : PySem.W.Frag} {E : WX}
/-! ### _law_mixed -/
def mixed1 (n t : Int) : Int := (n * 48271 + t * 69621 + 11) % 2147483647
def mixed (n t : Int) : Int := ((mixed1 n t * mixed1 n t + t * 40692 + 7) % 2147483399 / 7) % 1000
theorem mixed_lt (n t : Int) : 0 ≤ mixed n t ∧ mixed n t < 1000 := by
  unfold mixed
  exact ⟨Int.emod_nonneg _ (by decide), Int.emod_lt_of_pos _ (by decide)⟩
def spMixed (K : PySem.W.Frag) : Sp := SpP K [.dat, .dat] (fun a : Int × Int => [.int a.1, .int a.2]) (fun _ => True) (fun a => .int (mixed a.1 a.2))
theorem run_mixed (n t : Int) : Run K E (rd_l_mixed K) (En0 [.dat, .dat] [.int n, .int t] 2) { nx := fun _ => D.non = .int (mixed n t), rt := fun d => d = .int (mixed n t) } := by
  unfold rd_l_mixed
  show Run K E _ [.dat (.int n), .dat (.int t), .no, .no] _
  walk_at "asg"
  have h0 : 0 ≤ mixed1 n t := Int.emod_nonneg _ (by decide)
  have h1 : mixed1 n t < 2147483647 := Int.emod_lt_of_pos _ (by decide)
  show Run K E _ [.dat (.int n), .dat (.int t), .dat (.int (mixed1 n t)), .no] _
  walk_at "asg"
  exact run_ret (by walk_at "ev") rfl
/-! ### _law_pool -/
def Unit1000 (ns : List Int) : Prop := ∀ x ∈ ns, 0 ≤ x ∧ x < 1000
theorem Unit1000.nil : Unit1000 [] := fun _ h => nomatch h
theorem Unit1000.snoc {ns : List Int} {x : Int} (h : Unit1000 ns) (h0 : 0 ≤ x) (h1 : x < 1000) : Unit1000 (ns ++ [x]) := fun y hy => by
  rcases List.mem_append.mp hy with q | q
  · exact h y q
  · rw [List.mem_singleton.mp q]; exact ⟨h0, h1⟩
theorem Unit1000.nth {ns : List Int} (h : Unit1000 ns) (k : Int) : 0 ≤ nth ns k ∧ nth ns k < 1000 := by
  unfold Fh.nth
  rw [List.getD_eq_getElem?_getD]
  cases q : ns[k.toNat]? with
  | none => exact ⟨by decide, by decide⟩
  | some x => exact h x (List.mem_of_getElem? q)
def rowD (r : List Int) : D := .lst (r.map D.int)
def spPool (K : PySem.W.Frag) : Sp := SpR K [.now, .dat] (fun a : List Int × Nat => [.rol (a.1.map D.int), .int (a.2 : Nat)]) (fun a => a.2 ≤ 100000) (fun a d => ∃ ns : List Int, d = rowD ns ∧ ns.length = a.2 ∧ Unit1000 ns)
def absI (i : Int) : Int := if i < 0 then -i else i
theorem filterMap_ints (f : Int → Int) (ns : List Int) : (ns.map D.int).filterMap (fun d => match d with | .int i => some (D.int (f i)) | _ => none) = (ns.map f).map D.int := by
  induction ns with
  | nil => rfl
  | cons n ns ih => simp only [List.map_cons, List.filterMap_cons, ih]
theorem get_ints {ns : List Int} {i : Nat} {d : D} (h : (ns.map D.int)[i]? = some d) : ∃ n, ns[i]? = some n ∧ d = .int n := by
  rw [List.getElem?_map] at h
  cases q : ns[i]? with
  | none => rw [q] at h; cases h
  | some n => rw [q] at h; exact ⟨n, rfl, (Option.some.inj h).symm⟩
theorem get_rg {lo : Int} {n i : Nat} {d : D} (h : (rgD lo n)[i]? = some d) : i < n ∧ d = .int (lo + (i : Nat)) := by
  have hi : i < n := by
    have := (List.getElem?_eq_some_iff.mp h).1
    rwa [rgD_len] at this
  rw [rgD_get hi] at h
  cases h
  exact ⟨hi, rfl⟩
theorem cut63 (ns : List Int) : (cut ns none (some 63)).length ≤ 63 := by
  unfold cut
  rw [List.length_take]
  have : HT.sIx ns.length ns.length (some 63) ≤ 63 := by
    rw [show (63 : Int) = ((63 : Nat) : Int) from rfl, HT.sIx_nat]
    omega
  omega
end
section
variable {K : PySem.W.Frag} {E : WX}
/-- one turn's digits -/
theorem run_pool (ns : List Int) (many : Nat) (hm : many ≤ 100000) :
    Run K E (rd_l_pool K (spMixed K)) (En0 [.now, .dat] [.rol (ns.map D.int), .int (many : Nat)] 9) { nx := fun _ => ∃ ms : List Int, D.non = rowD ms ∧ ms.length = many ∧ Unit1000 ms, rt := fun d => ∃ ms : List Int, d = rowD ms ∧ ms.length = many ∧ Unit1000 ms } := by
  unfold rd_l_pool
  show Run K E _ [.bor (.rol (ns.map D.int)), .dat (.int (many : Nat)), .no, .no, .no, .no, .no, .no, .no, .no, .no] _
  -- cells = [abs(int(cell)) for cell in script[:63]]
  have hc := cut63 ns
  obtain ⟨cs, hcs⟩ : ∃ cs, cs = (cut ns none (some 63)).map absI := ⟨_, rfl⟩
  have hlc : cs.length ≤ 63 := by rw [hcs, List.length_map]; exact hc
  refine run_seq (run_asg (d := rowD cs) ?_ ?_)
  · refine ((ev_lcO (m := .dat) (xs := (cut ns none (some 63)).map D.int) (fun d => match d with | .int i => some (D.int (absI i)) | _ => none) ?_ ?_ ?_).dat).is ?_
    · exact ei_lst (fun z => nomatch z) ((evo_slR (ev_bor rfl).nw es_no (es_some ev_int)).dat)
    · rw [List.length_map]; exact sz (by omega)
    · intro i d h
      obtain ⟨n, _, rfl⟩ := get_ints h
      exact ⟨_, tg_dat, .inl ⟨_, et_yes, rfl, by walk_at "ev"⟩⟩
    · rw [filterMap_ints, hcs]; rfl
  dsimp only [List.set]
  -- if cells == []: cells = [0]
  refine run_seqM (fun e => ∃ cs : List Int, 0 < cs.length ∧ cs.length ≤ 63 ∧ e = [.bor (.rol (ns.map D.int)), .dat (.int (many : Nat)), .dat (rowD cs), .no, .no, .no, .no, .no, .no, .no, .no]) ?_ ?_
  · refine run_ifD (p := cs = []) (et_test (m := .now) (ev_eqL (ns := cs) (ms := []) (ev_dat rfl) ev_nil)) (fun _ => ?_) (fun h => run_next ⟨cs, ?_, hlc, rfl⟩)
    · exact run_asg (d := rowD [0]) (ev_lst (ed_cons ev_int ed_nil) (by decide)) ⟨[0], by decide, by decide, rfl⟩
    · cases cs with
      | nil => exact absurd rfl h
      | cons a r => exact Nat.succ_pos _
  clear hcs hlc cs
  rintro _ ⟨cs, hc0, hc1, rfl⟩
  -- digits = []
  refine run_seq (run_asgO evo_nil ?_)
  dsimp only [List.set]
  -- for cell in cells: ..
  refine run_seq (run_for (m := .dat) (xs := cs.map D.int) (ei_lst (fun z => nomatch z) (ev_dat rfl))
    (fun i e => ∃ (ds : List (List Int)) (s4 s7 s8 s10 : Sl), ds.length = i ∧ (∀ r ∈ ds, Unit1000 r) ∧ e = [.bor (.rol (ns.map D.int)), .dat (.int (many : Nat)), .dat (rowD cs), .own (.lst (ds.map rowD)), s4, .no, .no, s7, s8, .no, s10])
    ⟨[], .no, .no, .no, .no, rfl, (fun _ h => nomatch h), rfl⟩ ?_ ?_)
  · rintro i _ _ hx ⟨ds, s4, s7, s8, s10, hl, hu, rfl⟩
    have hi : i < 63 := by
      have := (List.getElem?_eq_some_iff.mp hx).1
      rw [List.length_map] at this
      omega
    obtain ⟨cell, _, rfl⟩ := get_ints hx
    refine ⟨_, [4], tg_dat, ?_⟩
    dsimp only [List.set]
    -- row = []; rest = cell
    refine run_seq (run_asgO evo_nil ?_)
    dsimp only [List.set]
    walk_at "asg"
    refine run_seqM (fun e => ∃ (r : List Int) (s8 s10 : Sl), Unit1000 r ∧ e = [.bor (.rol (ns.map D.int)), .dat (.int (many : Nat)), .dat (rowD cs), .own (.lst (ds.map rowD)), .dat (.int cell), .no, .no, .own (.lst (r.map D.int)), s8, .no, s10]) ?_ ?_
    · refine run_ifD (p := (10 : Int) ^ (18 : Int).toNat ≤ cell) (by walk_at "et") (fun _ => ?_) (fun _ => run_next ⟨[], _, s10, Unit1000.nil, rfl⟩)
      refine run_for (m := .dat) (ei_rng1 (m := .dat) (ea_cons ev_int ea_nil) (by decide) (by decide))
        (fun j e => ∃ (r : List Int) (rest : Int) (s10 : Sl), r.length ≤ j ∧ Unit1000 r ∧ e = [.bor (.rol (ns.map D.int)), .dat (.int (many : Nat)), .dat (rowD cs), .own (.lst (ds.map rowD)), .dat (.int cell), .no, .no, .own (.lst (r.map D.int)), .dat (.int rest), .no, s10])
        ⟨[], cell, s10, Nat.le_refl _, Unit1000.nil, rfl⟩ ?_ ?_
      · rintro j _ _ hx ⟨r, rest, s10, hj, hr, rfl⟩
        obtain ⟨hj2, rfl⟩ := get_rg hx
        refine ⟨_, [10], tg_dat, ?_⟩
        dsimp only [List.set]
        refine run_ifD (p := 0 < rest) (by walk_at "et") (fun h => ?_) (fun _ => run_next ⟨r, rest, _, by omega, hr, rfl⟩)
        refine run_seq (run_app (d := .int (rest % 1000)) rfl (by walk_at "ev") (by rw [List.length_map]; exact szl (by have : (90 : Int).toNat = 90 := rfl; omega)) ?_)
        dsimp only [List.set]
        walk_at "asg"
        exact ⟨r ++ [rest % 1000], rest / 1000, _, by rw [List.length_append]; show r.length + 1 ≤ j + 1; omega, hr.snoc (Int.emod_nonneg _ (by decide)) (Int.emod_lt_of_pos _ (by decide)), by rw [List.map_append]; rfl⟩
      · rintro _ ⟨r, rest, s10, _, hr, rfl⟩
        exact ⟨r, _, _, hr, rfl⟩
    · rintro _ ⟨r, s8', s10', hr, rfl⟩
      -- digits.append(row)
      refine run_give (i := 7) rfl ?_
      dsimp only [List.set, OD.d]
      refine run_app (d := rowD r) rfl (ev_dat rfl) (by rw [List.length_map, hl]; exact szl (by omega)) ?_
      dsimp only [List.set]
      exact ⟨ds ++ [r], _, _, _, _, by rw [List.length_append, hl]; rfl, fun q hq => (List.mem_append.mp hq).elim (hu q) fun z => by rw [List.mem_singleton.mp z]; exact hr, by rw [List.map_append]; rfl⟩
  rintro _ ⟨ds, s4, s7, s8, s10, hl, hu, rfl⟩
  rw [List.length_map] at hl
  refine run_give (i := 3) rfl ?_
  dsimp only [List.set, OD.d]
  -- pool = []
  refine run_seq (run_asgO evo_nil ?_)
  dsimp only [List.set]
  refine run_seq (run_for (m := .dat) (ei_rng1 (m := .dat) (ea_cons (ev_dat rfl) ea_nil) (by omega) (by omega))
    (fun i e => ∃ (ps : List Int) (s6 s9 s10 : Sl), ps.length = i ∧ Unit1000 ps ∧ e = [.bor (.rol (ns.map D.int)), .dat (.int (many : Nat)), .dat (rowD cs), .dat (.lst (ds.map rowD)), s4, .own (.lst (ps.map D.int)), s6, s7, s8, s9, s10])
    ⟨[], _, _, _, rfl, Unit1000.nil, rfl⟩ ?_ ?_)
  · rintro i _ _ hx ⟨ps, s6, s9, s10, hp, hu2, rfl⟩
    obtain ⟨hi, rfl⟩ := get_rg hx
    have hi2 : i < 100000 := by omega
    refine ⟨_, [6], tg_dat, ?_⟩
    dsimp only [List.set]
    have hcl : (0 : Int) < (cs.length : Nat) := by omega
    walk_at "asg"
    walk_at "asg"
    obtain ⟨a, ha⟩ : ∃ a : Int, a = (0 + (i : Nat)) % (cs.length : Nat) := ⟨_, rfl⟩
    obtain ⟨t, ht⟩ : ∃ t : Int, t = (0 + (i : Nat)) / (cs.length : Nat) := ⟨_, rfl⟩
    rw [← ha, ← ht]
    have ha0 : 0 ≤ a := by rw [ha]; exact Int.emod_nonneg _ (by omega)
    have ha1 : a < (cs.length : Nat) := by rw [ha]; exact Int.emod_lt_of_pos _ hcl
    have ht0 : 0 ≤ t := by rw [ht]; exact Int.ediv_nonneg (by omega) (by omega)
    have hix : Ev K .dat (tOp (rIx K) (tVar 3) (tVar 9)) [.bor (.rol (ns.map D.int)), .dat (.int (many : Nat)), .dat (rowD cs), .dat (.lst (ds.map rowD)), s4, .own (.lst (ps.map D.int)), .dat (.int (0 + (i : Nat))), s7, s8, .dat (.int a), .dat (.int t)] (rowD (ds.getD a.toNat [])) :=
      ev_ixL (ev_dat rfl) (ev_dat rfl) (atI_map ha0 (by rw [hl]; exact ha1))
    have hrow : Unit1000 (ds.getD a.toNat []) := by
      rw [List.getD_eq_getElem?_getD]
      cases q : ds[a.toNat]? with
      | none => exact Unit1000.nil
      | some r => exact hu r (List.mem_of_getElem? q)
    generalize ds.getD a.toNat [] = row at hix hrow
    refine run_ifD (p := t < (row.length : Nat)) (et_test (m := .now) (ev_ltI (ev_dat rfl) (ev_lenM (f := D.int) hix.nw))) (fun h => ?_) (fun _ => ?_)
    · refine run_app (d := .int (nth row t)) rfl (ev_ixI hix.nw (ev_dat rfl) ht0 h) (by rw [List.length_map, hp]; exact szl hi2) ?_
      dsimp only [List.set]
      exact ⟨ps ++ [nth row t], _, _, _, by rw [List.length_append, hp]; rfl, hu2.snoc (hrow.nth t).1 (hrow.nth t).2, by rw [List.map_append]; rfl⟩
    · refine run_app (d := .int (mixed (nth cs a % 1000003 + 7919 * a) (t + 1))) rfl ?_ (by rw [List.length_map, hp]; exact szl hi2) ?_
      · exact ev_call (out := fun a : Int × Int => D.int (mixed a.1 a.2)) (nth cs a % 1000003 + 7919 * a, t + 1) trivial (by walk_at "ea")
      · dsimp only [List.set]
        exact ⟨ps ++ [mixed (nth cs a % 1000003 + 7919 * a) (t + 1)], _, _, _, by rw [List.length_append, hp]; rfl, hu2.snoc (mixed_lt _ _).1 (mixed_lt _ _).2, by rw [List.map_append]; rfl⟩
  rintro _ ⟨ps, s6, s9, s10', hp, hu2, rfl⟩
  rw [rgD_len] at hp
  exact run_retO (o := .lst (ps.map D.int)) rfl ⟨ps, rfl, by rw [hp]; omega, hu2⟩
end
/-! ### _law_same -/
theorem kb_NoneType_int : kitB "NoneType" "int" = some false := by decide +kernel
theorem kb_NoneType_bool : kitB "NoneType" "bool" = some false := by decide +kernel
theorem kb_NoneType_str : kitB "NoneType" "str" = some false := by decide +kernel
theorem kb_NoneType_list : kitB "NoneType" "list" = some false := by decide +kernel
theorem kb_NoneType_tuple : kitB "NoneType" "tuple" = some false := by decide +kernel
theorem kb_bool_int : kitB "bool" "int" = some true := by decide +kernel
theorem kb_bool_bool : kitB "bool" "bool" = some true := by decide +kernel
theorem kb_bool_str : kitB "bool" "str" = some false := by decide +kernel
theorem kb_bool_list : kitB "bool" "list" = some false := by decide +kernel
theorem kb_bool_tuple : kitB "bool" "tuple" = some false := by decide +kernel
theorem kb_int_int : kitB "int" "int" = some true := by decide +kernel
theorem kb_int_bool : kitB "int" "bool" = some false := by decide +kernel
theorem kb_int_str : kitB "int" "str" = some false := by decide +kernel
theorem kb_int_list : kitB "int" "list" = some false := by decide +kernel
theorem kb_int_tuple : kitB "int" "tuple" = some false := by decide +kernel
theorem kb_str_int : kitB "str" "int" = some false := by decide +kernel
theorem kb_str_bool : kitB "str" "bool" = some false := by decide +kernel
theorem kb_str_str : kitB "str" "str" = some true := by decide +kernel
theorem kb_str_list : kitB "str" "list" = some false := by decide +kernel
theorem kb_str_tuple : kitB "str" "tuple" = some false := by decide +kernel
theorem kb_list_int : kitB "list" "int" = some false := by decide +kernel
theorem kb_list_bool : kitB "list" "bool" = some false := by decide +kernel
theorem kb_list_str : kitB "list" "str" = some false := by decide +kernel
theorem kb_list_list : kitB "list" "list" = some true := by decide +kernel
theorem kb_list_tuple : kitB "list" "tuple" = some false := by decide +kernel
theorem kb_tuple_int : kitB "tuple" "int" = some false := by decide +kernel
theorem kb_tuple_bool : kitB "tuple" "bool" = some false := by decide +kernel
theorem kb_tuple_str : kitB "tuple" "str" = some false := by decide +kernel
theorem kb_tuple_list : kitB "tuple" "list" = some false := by decide +kernel
theorem kb_tuple_tuple : kitB "tuple" "tuple" = some true := by decide +kernel
mutual
/-- the same data, kinds and all -/
def sm : D → D → Bool
  | .non, .non => true
  | .bl a, .bl b => a == b
  | .int i, .int j => decide (i = j)
  | .str x, .str y => decide (x = y)
  | .tup as, .tup bs => sms as bs
  | .lst as, .lst bs => sms as bs
  | _, _ => false
def sms : List D → List D → Bool
  | [], [] => true
  | a :: as, b :: bs => sm a b && sms as bs
  | _, _ => false
end
mutual
theorem sm_eq : ∀ a b : D, sm a b = true → a = b
  | .non, b, h => by cases b <;> simp [sm] at h <;> rfl
  | .bl a, b, h => by cases b <;> simp [sm] at h; rw [h]
  | .int a, b, h => by cases b <;> simp [sm] at h; rw [h]
  | .str a, b, h => by cases b <;> simp [sm] at h; rw [h]
  | .tup as, .tup bs, h => by rw [sms_eq as bs (by simpa [sm] using h)]
  | .lst as, .lst bs, h => by rw [sms_eq as bs (by simpa [sm] using h)]
  | .tup as, .non, h => by simp [sm] at h
  | .tup as, .bl _, h => by simp [sm] at h
  | .tup as, .int _, h => by simp [sm] at h
  | .tup as, .str _, h => by simp [sm] at h
  | .tup as, .lst _, h => by simp [sm] at h
  | .tup as, .ins _ _, h => by simp [sm] at h
  | .tup as, .raw _, h => by simp [sm] at h
  | .tup as, .rol _, h => by simp [sm] at h
  | .lst as, .non, h => by simp [sm] at h
  | .lst as, .bl _, h => by simp [sm] at h
  | .lst as, .int _, h => by simp [sm] at h
  | .lst as, .str _, h => by simp [sm] at h
  | .lst as, .tup _, h => by simp [sm] at h
  | .lst as, .ins _ _, h => by simp [sm] at h
  | .lst as, .raw _, h => by simp [sm] at h
  | .lst as, .rol _, h => by simp [sm] at h
  | .ins _ _, b, h => by cases b <;> simp [sm] at h
  | .raw _, b, h => by cases b <;> simp [sm] at h
  | .rol _, b, h => by cases b <;> simp [sm] at h
theorem sms_eq : ∀ as bs : List D, sms as bs = true → as = bs
  | [], [], _ => rfl
  | [], _ :: _, h => by simp [sms] at h
  | _ :: _, [], h => by simp [sms] at h
  | a :: as, b :: bs, h => by
    have h2 : sm a b = true ∧ sms as bs = true := by simpa [sms] using h
    rw [sm_eq a b h2.1, sms_eq as bs h2.2]
end
mutual
theorem sm_refl : ∀ (n : Nat) (a : D), shp n a = true → sm a a = true
  | _, .non, _ => rfl
  | _, .bl _, _ => by simp [sm]
  | _, .int _, _ => by simp [sm]
  | _, .str _, _ => by simp [sm]
  | 0, .lst _, h => by simp [shp] at h
  | n + 1, .lst ds, h => by
    simp only [sm]
    exact sms_refl n ds (by simpa [shp] using h)
  | 0, .tup _, h => by simp [shp] at h
  | n + 1, .tup ds, h => by
    simp only [sm]
    exact sms_refl n ds (by simpa [shp] using h)
  | _, .raw _, h => by simp [shp] at h
  | _, .rol _, h => by simp [shp] at h
  | _, .ins _ _, h => by simp [shp] at h
theorem sms_refl : ∀ (n : Nat) (as : List D), shps n as = true → sms as as = true
  | _, [], _ => rfl
  | n, a :: as, h => by
    have h2 : shp n a = true ∧ shps n as = true := by simpa [shps] using h
    simp only [sms, sm_refl n a h2.1, sms_refl n as h2.2, Bool.and_self]
end
theorem shps_get : ∀ {n : Nat} {ds : List D} {i : Nat} {d : D}, shps n ds = true → ds[i]? = some d → shp n d = true
  | _, [], _, _, _, e => by simp at e
  | n, a :: ds, 0, d, h, e => by
    have h2 : shp n a = true ∧ shps n ds = true := by simpa [shps] using h
    simp at e
    rw [← e]; exact h2.1
  | n, a :: ds, i + 1, d, h, e => by
    have h2 : shp n a = true ∧ shps n ds = true := by simpa [shps] using h
    exact shps_get (i := i) h2.2 (by simpa using e)
theorem sms_len : ∀ {as bs : List D}, as.length ≠ bs.length → sms as bs = false
  | [], [], h => absurd rfl h
  | [], _ :: _, _ => by simp [sms]
  | _ :: _, [], _ => by simp [sms]
  | a :: as, b :: bs, h => by
    have := sms_len (as := as) (bs := bs) (fun q => h (by simp [q]))
    simp [sms, this]
theorem sms_at : ∀ {as bs : List D} {i : Nat} {a b : D}, as[i]? = some a → bs[i]? = some b → sm a b = false → sms as bs = false
  | [], _, _, _, _, e, _, _ => by simp at e
  | _ :: _, [], _, _, _, _, e, _ => by simp at e
  | x :: as, y :: bs, 0, a, b, e, e', h => by
    simp at e e'
    simp [sms, e, e', h]
  | x :: as, y :: bs, i + 1, a, b, e, e', h => by
    have := sms_at (as := as) (bs := bs) (i := i) (by simpa using e) (by simpa using e') h
    simp [sms, this]
theorem sms_all : ∀ {as bs : List D}, as.length = bs.length → (∀ (i : Nat) a b, as[i]? = some a → bs[i]? = some b → sm a b = true) → sms as bs = true
  | [], [], _, _ => rfl
  | [], _ :: _, h, _ => by simp at h
  | _ :: _, [], h, _ => by simp at h
  | a :: as, b :: bs, h, k => by
    have h0 := k 0 a b rfl rfl
    have := sms_all (as := as) (bs := bs) (by simpa using h) fun i x y e e' => k (i + 1) x y (by simpa using e) (by simpa using e')
    simp [sms, h0, this]
/-- data of any depth -/
def Pl (d : D) : Prop := ∃ n, shp n d = true
theorem Pl.item {ds : List D} {i : Nat} {d : D} (h : Pl (.lst ds)) (e : ds[i]? = some d) : Pl d := by
  obtain ⟨n, h⟩ := h
  cases n with
  | zero => simp [shp] at h
  | succ n => exact ⟨n, shps_get (by simpa [shp] using h) e⟩
theorem Pl.itemT {ds : List D} {i : Nat} {d : D} (h : Pl (.tup ds)) (e : ds[i]? = some d) : Pl d := by
  obtain ⟨n, h⟩ := h
  cases n with
  | zero => simp [shp] at h
  | succ n => exact ⟨n, shps_get (by simpa [shp] using h) e⟩
theorem Pl.isN {a : D} (h : Pl a) : isC a .non = some (sm a .non) := by
  obtain ⟨n, h⟩ := h
  cases a <;> first | rfl | (simp [shp] at h)
theorem Pl.isB {a : D} {b : Bool} (h : Pl a) : isC a (.bl b) = some (sm a (.bl b)) := by
  obtain ⟨n, h⟩ := h
  cases a <;> first | rfl | (simp [shp] at h)
def tyN : D → String
  | .non => "NoneType"
  | .bl _ => "bool"
  | .int _ => "int"
  | .str _ => "str"
  | .lst _ => "list"
  | .tup _ => "tuple"
  | _ => ""
theorem Pl.ty {a : D} (h : Pl a) : tyD a = some (tyN a) := by
  obtain ⟨n, h⟩ := h
  cases a <;> first | rfl | (simp [shp] at h)
mutual
/-- no list in it is longer than a range may be -/
def siz : D → Bool
  | .lst ds => decide (ds.length < 2 ^ 62) && sizs ds
  | .tup ds => decide (ds.length < 2 ^ 62) && sizs ds
  | _ => true
def sizs : List D → Bool
  | [] => true
  | d :: ds => siz d && sizs ds
end
theorem sizs_get : ∀ {ds : List D} {i : Nat} {d : D}, sizs ds = true → ds[i]? = some d → siz d = true
  | [], _, _, _, e => by simp at e
  | a :: ds, 0, d, h, e => by
    have h2 : siz a = true ∧ sizs ds = true := by simpa [sizs] using h
    simp at e
    rw [← e]; exact h2.1
  | a :: ds, i + 1, d, h, e => by
    have h2 : siz a = true ∧ sizs ds = true := by simpa [sizs] using h
    exact sizs_get (i := i) h2.2 (by simpa using e)
theorem sizs_ints : ∀ ns : List Int, sizs (ns.map D.int) = true
  | [] => rfl
  | _ :: ns => by simp [sizs, siz, sizs_ints ns]
def spSame (K : PySem.W.Frag) (n : Nat) : Sp := SpP K [.now, .now] (fun p : D × D => [p.1, p.2]) (fun p => shp n p.2 = true ∧ Pl p.1) (fun p => .bl (sm p.1 p.2))
section
variable {K : PySem.W.Frag} {E : WX}
theorem atI_at {xs : List D} {i : Nat} {d : D} (h : xs[i]? = some d) : atI xs (0 + (i : Nat)) = some d := by
  rw [Int.zero_add]; exact atI_nat h
theorem ev_isi' {e : En} {m : Md} {te : TE} {d : D} {c : String} {b : Bool} (ha : Ev K .now te e d) (h : Pl d) (hk : kitB (tyN d) c = some b) : Ev K m (tCB (rIsi K) (tCons te (tCons (tC (.ty c)) tNil))) e (.bl b) := ev_isi ha h.ty hk
theorem run_same_loop {n : Nat} {a d : D} {as ds : List D} (hn : shps n ds = true) (hl : as.length = ds.length) (ha : ∀ (i : Nat) x, as[i]? = some x → Pl x)
    (ia : ∀ (s : Sl) (i : Nat) x, as[i]? = some x → Ev K .now (tOp (rIx K) (tVar 0) (tVar 2)) [.bor a, .bor d, .dat (.int (0 + (i : Nat)))] x)
    (id_ : ∀ (s : Sl) (i : Nat) x, ds[i]? = some x → Ev K .now (tOp (rIx K) (tVar 1) (tVar 2)) [.bor a, .bor d, .dat (.int (0 + (i : Nat)))] x)
    (il : EvI K .dat (iRng1 (tCons (tCB (rLenU K) (tCons (tVar 1) tNil)) tNil)) [.bor a, .bor d, .no] (rgD 0 ds.length)) :
    Run K E (tSeq (tFor (iRng1 (tCons (tCB (rLenU K) (tCons (tVar 1) tNil)) tNil)) (gName 2) (tIfS (tNot (tB (tCall (spSame K n) [] E0 (tCons (tOp (rIx K) (tVar 0) (tVar 2)) (tCons (tOp (rIx K) (tVar 1) (tVar 2)) tNil))))) (tRet (tC (.bl false))) tNext))
      (tRet (tC (.bl true)))) [.bor a, .bor d, .no] { nx := fun _ => D.non = .bl (sms as ds), rt := fun q => q = .bl (sms as ds) } := by
  refine run_seq (run_for (m := .dat) il
    (fun k e => (∀ (i : Nat) x y, i < k → as[i]? = some x → ds[i]? = some y → sm x y = true) ∧ ∃ s : Sl, e = [.bor a, .bor d, s]) ⟨fun i _ _ h => absurd h (Nat.not_lt_zero i), _, rfl⟩ ?_ ?_)
  · rintro k _ _ hx ⟨hk, s, rfl⟩
    obtain ⟨hk2, rfl⟩ := get_rg hx
    have hk3 : k < ds.length := by omega
    refine ⟨_, [2], tg_dat, ?_⟩
    dsimp only [List.set]
    obtain ⟨x, hxa⟩ : ∃ x, as[k]? = some x := ⟨_, List.getElem?_eq_getElem (by omega)⟩
    obtain ⟨y, hya⟩ : ∃ y, ds[k]? = some y := ⟨_, List.getElem?_eq_getElem hk3⟩
    have hc : Ev K .now (tCall (spSame K n) [] E0 (tCons (tOp (rIx K) (tVar 0) (tVar 2)) (tCons (tOp (rIx K) (tVar 1) (tVar 2)) tNil))) [.bor a, .bor d, .dat (.int (0 + (k : Nat)))] (.bl (sm x y)) :=
      ev_call (out := fun p : D × D => D.bl (sm p.1 p.2)) (x, y) ⟨shps_get hn hya, ha k x hxa⟩ (ea_cons (ia s k x hxa) (ea_cons (id_ s k y hya) ea_nil))
    refine run_if (et_not (et_B hc)) (fun h => ?_) (fun h => run_next ⟨fun i u v hi hu hv => ?_, _, rfl⟩)
    · have h2 : sm x y = false := by simpa using h
      exact run_ret ev_bl (by rw [sms_at hxa hya h2])
    · by_cases q : i = k
      · subst q
        rw [hxa] at hu; rw [hya] at hv
        cases hu; cases hv
        simpa using h
      · exact hk i u v (by omega) hu hv
  · rintro _ ⟨hk, s, rfl⟩
    rw [rgD_len] at hk
    refine run_ret ev_bl ?_
    rw [sms_all hl fun i x y hx hy => hk i x y (by have := (List.getElem?_eq_some_iff.mp hy).1; omega) hx hy]
theorem run_same (n : Nat) (sp : Sp) (hsp : ∀ m, n = m + 1 → sp = spSame K m) (a d : D) (hd : shp n d = true) (ha : Pl a) :
    Run K E (rd_l_same K sp) (En0 [.now, .now] [a, d] 1) { nx := fun _ => D.non = .bl (sm a d), rt := fun q => q = .bl (sm a d) } := by
  unfold rd_l_same
  show Run K E _ [.bor a, .bor d, .no] _
  have pd : Pl d := ⟨n, hd⟩
  have v0 : ∀ s : Sl, Ev K .now (tVar 0) [.bor a, .bor d, s] a := fun s => (ev_bor rfl).nw
  have v1 : ∀ s : Sl, Ev K .now (tVar 1) [.bor a, .bor d, s] d := fun s => (ev_bor rfl).nw
  cases d with
  | raw v => simp [shp] at hd
  | rol v => simp [shp] at hd
  | abs v => simp [shp] at hd
  | ins C fs => simp [shp] at hd
  | non => exact run_seq (run_ifT (et_test (m := .now) (ev_is (v1 _) ev_non rfl)) (run_ret (ev_is (v0 _) ev_non ha.isN) rfl))
  | bl b =>
    refine run_seq (run_ifF (et_test (m := .now) (ev_is (v1 _) ev_non rfl)) (run_next ?_))
    cases b with
    | true => exact run_seq (run_ifT (et_test (m := .now) (ev_is (v1 _) ev_bl rfl)) (run_ret (ev_is (v0 _) ev_bl ha.isB) rfl))
    | false =>
      refine run_seq (run_ifF (et_test (m := .now) (ev_is (v1 _) ev_bl rfl)) (run_next ?_))
      exact run_seq (run_ifT (et_test (m := .now) (ev_is (v1 _) ev_bl rfl)) (run_ret (ev_is (v0 _) ev_bl ha.isB) rfl))
  | int j =>
    refine run_seq (run_ifF (et_test (m := .now) (ev_is (v1 _) ev_non rfl)) (run_next ?_))
    refine run_seq (run_ifF (et_test (m := .now) (ev_is (v1 _) ev_bl rfl)) (run_next ?_))
    refine run_seq (run_ifF (et_test (m := .now) (ev_is (v1 _) ev_bl rfl)) (run_next ?_))
    refine run_seq (run_ifT (et_B (m := .now) (ev_isi' (v1 _) pd kb_int_int)) ?_)
    cases a with
    | int i => exact run_ret (ev_andV (m1 := .now) (ev_isi' (v0 _) ha kb_int_int) fun _ => ev_andV (m1 := .now) (ev_notV (m1 := .now) (ev_isi' (v0 _) ha kb_int_bool)) fun _ => ev_eqI (v0 _) (v1 _)) rfl
    | bl b => exact run_ret (ev_andV (m1 := .now) (ev_isi' (v0 _) ha kb_bool_int) fun _ => ev_andV (c := false) (m1 := .now) (ev_notV (m1 := .now) (ev_isi' (b := true) (v0 _) ha kb_bool_bool)) fun z => nomatch z) rfl
    | non => exact run_ret (ev_andV (m1 := .now) (c := false) (ev_isi' (b := false) (v0 _) ha kb_NoneType_int) fun z => nomatch z) rfl
    | str x => exact run_ret (ev_andV (m1 := .now) (c := false) (ev_isi' (b := false) (v0 _) ha kb_str_int) fun z => nomatch z) rfl
    | lst x => exact run_ret (ev_andV (m1 := .now) (c := false) (ev_isi' (b := false) (v0 _) ha kb_list_int) fun z => nomatch z) rfl
    | tup x => exact run_ret (ev_andV (m1 := .now) (c := false) (ev_isi' (b := false) (v0 _) ha kb_tuple_int) fun z => nomatch z) rfl
    | raw v => obtain ⟨_, h⟩ := ha; simp [shp] at h
    | rol v => obtain ⟨_, h⟩ := ha; simp [shp] at h
    | abs v => obtain ⟨_, h⟩ := ha; simp [shp] at h
    | ins C fs => obtain ⟨_, h⟩ := ha; simp [shp] at h
  | str y =>
    refine run_seq (run_ifF (et_test (m := .now) (ev_is (v1 _) ev_non rfl)) (run_next ?_))
    refine run_seq (run_ifF (et_test (m := .now) (ev_is (v1 _) ev_bl rfl)) (run_next ?_))
    refine run_seq (run_ifF (et_test (m := .now) (ev_is (v1 _) ev_bl rfl)) (run_next ?_))
    refine run_seq (run_ifF (et_B (m := .now) (ev_isi' (v1 _) pd kb_str_int)) (run_next ?_))
    refine run_seq (run_ifT (et_B (m := .now) (ev_isi' (v1 _) pd kb_str_str)) ?_)
    cases a with
    | str i => exact run_ret (ev_andV (m1 := .now) (ev_isi' (v0 _) ha kb_str_str) fun _ => ev_eqS (v0 _) (v1 _)) rfl
    | bl b => exact run_ret (ev_andV (m1 := .now) (c := false) (ev_isi' (b := false) (v0 _) ha kb_bool_str) fun z => nomatch z) rfl
    | non => exact run_ret (ev_andV (m1 := .now) (c := false) (ev_isi' (b := false) (v0 _) ha kb_NoneType_str) fun z => nomatch z) rfl
    | int x => exact run_ret (ev_andV (m1 := .now) (c := false) (ev_isi' (b := false) (v0 _) ha kb_int_str) fun z => nomatch z) rfl
    | lst x => exact run_ret (ev_andV (m1 := .now) (c := false) (ev_isi' (b := false) (v0 _) ha kb_list_str) fun z => nomatch z) rfl
    | tup x => exact run_ret (ev_andV (m1 := .now) (c := false) (ev_isi' (b := false) (v0 _) ha kb_tuple_str) fun z => nomatch z) rfl
    | raw v => obtain ⟨_, h⟩ := ha; simp [shp] at h
    | rol v => obtain ⟨_, h⟩ := ha; simp [shp] at h
    | abs v => obtain ⟨_, h⟩ := ha; simp [shp] at h
    | ins C fs => obtain ⟨_, h⟩ := ha; simp [shp] at h
  | tup ds =>
    refine run_seq (run_ifF (et_test (m := .now) (ev_is (v1 _) ev_non rfl)) (run_next ?_))
    refine run_seq (run_ifF (et_test (m := .now) (ev_is (v1 _) ev_bl rfl)) (run_next ?_))
    refine run_seq (run_ifF (et_test (m := .now) (ev_is (v1 _) ev_bl rfl)) (run_next ?_))
    refine run_seq (run_ifF (et_B (m := .now) (ev_isi' (v1 _) pd kb_tuple_int)) (run_next ?_))
    refine run_seq (run_ifF (et_B (m := .now) (ev_isi' (v1 _) pd kb_tuple_str)) (run_next ?_))
    refine run_seq (run_ifT (et_B (m := .now) (ev_isi' (v1 _) pd kb_tuple_tuple)) ?_)
    cases a with
    | tup as =>
      refine run_if (et_or (et_not (et_B (m := .now) (ev_isi' (b := true) (v0 _) ha kb_tuple_tuple))) fun _ => et_test (m := .now) (ev_neI (ev_lenT (v0 _)) (ev_lenT (v1 _)))) (fun h => ?_) (fun h => run_next ?_)
      · have h2 : as.length ≠ ds.length := by
          have h3 : ((as.length : Nat) : Int) ≠ (ds.length : Nat) := by simpa using h
          omega
        exact run_ret ev_bl (by show D.bl false = .bl (sms as ds); rw [sms_len h2])
      · have h2 : as.length = ds.length := by
          have h3 : ((as.length : Nat) : Int) = (ds.length : Nat) := by simpa using h
          omega
        cases n with
        | zero => simp [shp] at hd
        | succ n =>
          rw [hsp n rfl]
          exact run_same_loop (n := n) (by simpa [shp] using hd) h2 (fun i x e => ha.itemT e) (fun s i x e => ev_op (m2 := .now) (v0 _) (ev_dat rfl) (rd_ixT (atI_at e))) (fun s i x e => ev_op (m2 := .now) (v1 _) (ev_dat rfl) (rd_ixT (atI_at e))) (ei_rngLenT (v1 _))
    | bl b => exact run_ifT (et_or (c := true) (et_not (et_B (m := .now) (ev_isi' (b := false) (v0 _) ha kb_bool_tuple))) fun z => nomatch z) (run_ret ev_bl rfl)
    | non => exact run_ifT (et_or (c := true) (et_not (et_B (m := .now) (ev_isi' (b := false) (v0 _) ha kb_NoneType_tuple))) fun z => nomatch z) (run_ret ev_bl rfl)
    | int x => exact run_ifT (et_or (c := true) (et_not (et_B (m := .now) (ev_isi' (b := false) (v0 _) ha kb_int_tuple))) fun z => nomatch z) (run_ret ev_bl rfl)
    | lst x => exact run_ifT (et_or (c := true) (et_not (et_B (m := .now) (ev_isi' (b := false) (v0 _) ha kb_list_tuple))) fun z => nomatch z) (run_ret ev_bl rfl)
    | str x => exact run_ifT (et_or (c := true) (et_not (et_B (m := .now) (ev_isi' (b := false) (v0 _) ha kb_str_tuple))) fun z => nomatch z) (run_ret ev_bl rfl)
    | raw v => obtain ⟨_, h⟩ := ha; simp [shp] at h
    | rol v => obtain ⟨_, h⟩ := ha; simp [shp] at h
    | abs v => obtain ⟨_, h⟩ := ha; simp [shp] at h
    | ins C fs => obtain ⟨_, h⟩ := ha; simp [shp] at h
  | lst ds =>
    refine run_seq (run_ifF (et_test (m := .now) (ev_is (v1 _) ev_non rfl)) (run_next ?_))
    refine run_seq (run_ifF (et_test (m := .now) (ev_is (v1 _) ev_bl rfl)) (run_next ?_))
    refine run_seq (run_ifF (et_test (m := .now) (ev_is (v1 _) ev_bl rfl)) (run_next ?_))
    refine run_seq (run_ifF (et_B (m := .now) (ev_isi' (v1 _) pd kb_list_int)) (run_next ?_))
    refine run_seq (run_ifF (et_B (m := .now) (ev_isi' (v1 _) pd kb_list_str)) (run_next ?_))
    refine run_seq (run_ifF (et_B (m := .now) (ev_isi' (v1 _) pd kb_list_tuple)) ?_)
    cases a with
    | lst as =>
      refine run_if (et_or (et_not (et_B (m := .now) (ev_isi' (b := true) (v0 _) ha kb_list_list))) fun _ => et_test (m := .now) (ev_neI (ev_len (v0 _)) (ev_len (v1 _)))) (fun h => ?_) (fun h => run_next ?_)
      · have h2 : as.length ≠ ds.length := by
          have h3 : ((as.length : Nat) : Int) ≠ (ds.length : Nat) := by simpa using h
          omega
        exact run_ret ev_bl (by show D.bl false = .bl (sms as ds); rw [sms_len h2])
      · have h2 : as.length = ds.length := by
          have h3 : ((as.length : Nat) : Int) = (ds.length : Nat) := by simpa using h
          omega
        cases n with
        | zero => simp [shp] at hd
        | succ n =>
          rw [hsp n rfl]
          exact run_same_loop (n := n) (by simpa [shp] using hd) h2 (fun i x e => ha.item e) (fun s i x e => ev_op (m2 := .now) (v0 _) (ev_dat rfl) (rd_ixL (atI_at e))) (fun s i x e => ev_op (m2 := .now) (v1 _) (ev_dat rfl) (rd_ixL (atI_at e))) (ei_rngLenL (v1 _))
    | bl b => exact run_ifT (et_or (c := true) (et_not (et_B (m := .now) (ev_isi' (b := false) (v0 _) ha kb_bool_list))) fun z => nomatch z) (run_ret ev_bl rfl)
    | non => exact run_ifT (et_or (c := true) (et_not (et_B (m := .now) (ev_isi' (b := false) (v0 _) ha kb_NoneType_list))) fun z => nomatch z) (run_ret ev_bl rfl)
    | int x => exact run_ifT (et_or (c := true) (et_not (et_B (m := .now) (ev_isi' (b := false) (v0 _) ha kb_int_list))) fun z => nomatch z) (run_ret ev_bl rfl)
    | tup x => exact run_ifT (et_or (c := true) (et_not (et_B (m := .now) (ev_isi' (b := false) (v0 _) ha kb_tuple_list))) fun z => nomatch z) (run_ret ev_bl rfl)
    | str x => exact run_ifT (et_or (c := true) (et_not (et_B (m := .now) (ev_isi' (b := false) (v0 _) ha kb_str_list))) fun z => nomatch z) (run_ret ev_bl rfl)
    | raw v => obtain ⟨_, h⟩ := ha; simp [shp] at h
    | rol v => obtain ⟨_, h⟩ := ha; simp [shp] at h
    | abs v => obtain ⟨_, h⟩ := ha; simp [shp] at h
    | ins C fs => obtain ⟨_, h⟩ := ha; simp [shp] at h
end
end Fh

set_option Elab.async false
set_option linter.all false
set_option maxRecDepth 100000
set_option maxHeartbeats 4000000
/-! Fh: what the head tells, by truth values of the written part; defs by any path -/
namespace Fh
open PySem PySem.Spec PyProof.Rows L2

/-! ### places -/
abbrev gA (K : PySem.W.Frag) (x : Str) : Addr := He.ga K x
abbrev mA (K : PySem.W.Frag) (C m : Str) : Addr := He.ma K (He.ga K C) m
/-- the first entry of the record at p: a property's getter, a static method's def -/
def r0 (K : PySem.W.Frag) (p : Addr) : Addr := match K.lookup p with
  | some o => (match o.data with
    | .fields vs => (match vs.toList with
      | .ref g :: _ => g
      | _ => 0)
    | _ => 0)
  | none => 0
abbrev qA (K : PySem.W.Frag) (C m : Str) : Addr := r0 K (mA K C m)
/-! ### defs -/
structure Dq where
  place : PySem.W.Frag → Addr
  nm : Str
  qn : Str
  pr : Arguments
  bd : List Stmt
  sc : Scope
  dv : PySem.W.Frag → List V
  kw : PySem.W.Frag → List (Str × V)
abbrev Fv : Type := Option (Str × Str × Arguments × FuncBody × Scope × Addr × List (Str × Addr) × Addr)
def fv (K : PySem.W.Frag) (a : Addr) : Fv := (K.lookup a).bind fun o => match o.data with
  | .func g => some (g.name, g.qualname, g.params, g.body, g.scope, g.globals, g.closure, g.builtins)
  | _ => none
def Dq.is (d : Dq) : Fv := some (d.nm, d.qn, d.pr, .stmts d.bd, d.sc, mainGlobals, [], builtinsNs)
def Dq.rest (K : PySem.W.Frag) (d : Dq) : Bool := PySem.W.keepIn K (.ref (d.place K)) && (match K.lookup (d.place K) with
  | some o => (match o.data with
    | .func g => PySem.W.codeIn K g.code d.qn && (He.dflB K g.defaults (d.dv K) && He.kwdB K g.kwdefaults (d.kw K))
    | _ => false)
  | none => false)
theorem Dq.fun_ {K : PySem.W.Frag} {d : Dq} (e : fv K (d.place K) = d.is) (c : d.rest K = true) : ∃ fd, FunD K d.nm d.qn d.pr d.bd d.sc (d.dv K) (d.kw K) (d.place K) fd := by
  unfold Dq.rest at c
  obtain ⟨kp, c⟩ := Bool.and_eq_true_iff.mp c
  unfold fv at e
  cases q : K.lookup (d.place K) with
  | none => rw [q] at c; cases c
  | some o =>
    rw [q] at c e
    obtain ⟨oc, od, dt, osl⟩ := o
    cases dt with
    | func g =>
      obtain ⟨n1, n2, n3, n4, n5, n6, n7, n8, n9, n10, n11, n12, n13, n14, n15⟩ := g
      have e2 : (some (n1, n2, n3, n4, n5, n6, n7, n15) : Fv) = d.is := e
      unfold Dq.is at e2
      injection e2 with e2
      injection e2 with a1 e2
      injection e2 with a2 e2
      injection e2 with a3 e2
      injection e2 with a4 e2
      injection e2 with a5 e2
      injection e2 with a6 e2
      injection e2 with a7 a8
      subst a1 a2 a3 a4 a5 a6 a7 a8
      obtain ⟨k1, k2⟩ := Bool.and_eq_true_iff.mp (show (PySem.W.codeIn K n13 d.qn && (He.dflB K n8 (d.dv K) && He.kwdB K n9 (d.kw K))) = true from c)
      obtain ⟨k3, k4⟩ := Bool.and_eq_true_iff.mp k2
      exact ⟨_, ⟨oc, od, n8, n9, n10, n11, n12, n13, n14, osl, rfl, q, k1, He.dflB_ok k3, He.kwdB_ok k4⟩, kp⟩
    | _ => cases c
/-! ### the hook -/
/-- a dict of the module with texts as keys: where, its keys -/
abbrev Tb : Type := (PySem.W.Frag → Addr) × List Str
abbrev Ob : Type := Bool × List Fv × List (Option (List (Option (Str × Int))))
def see (fa : List (PySem.W.Frag → Bool)) (fn : List Dq) (ts : List Tb) (K : PySem.W.Frag) : Ob := ((fa.all fun f => f K) && fn.all fun d => d.rest K, fn.map fun d => fv K (d.place K), ts.map fun t => He.dicW K (t.1 K))
def due (fn : List Dq) (ts : List Tb) (w : World) : Ob := (true, fn.map Dq.is, ts.map fun t => some (He.keysIn w.params t.2))
def Tells (fa : List (PySem.W.Frag → Bool)) (fn : List Dq) (ts : List Tb) (w : World) (K : PySem.W.Frag) : Prop := see fa fn ts K = due fn ts w
def seeG (n : Nat) (fa : List (PySem.W.Frag → Bool)) (fn : List Dq) (ts : List Tb) (g : Addr → Option Obj) : Ob := see fa fn ts (He.frG g (He.asD g n))
def hookQ (n : Nat) (fa : List (PySem.W.Frag → Bool)) (fn : List Dq) (ts : List Tb) : PySem.W.Hook where
  α := Ob
  obs := fun s => seeG n fa fn ts s.heap.get?
  val := fun w => due fn ts w
  says := fun w h => ∃ K : PySem.W.Frag, K.In h ∧ Tells fa fn ts w K
  of := fun _ _ e => ⟨_, He.frG_in, e⟩
  keeps := fun _ _ _ ⟨K, hK, c⟩ k => ⟨K, PySem.W.Frag.In.keeps hK k, c⟩
theorem seeG_eq {n : Nat} {fa : List (PySem.W.Frag → Bool)} {fn : List Dq} {ts : List Tb} {g : Addr → Option Obj} {s : Shared} (h : ∀ a, g a = s.heap.get? a) : seeG n fa fn ts g = (hookQ n fa fn ts).obs s := by
  obtain rfl : g = s.heap.get? := funext h
  rfl
section
variable {fa : List (PySem.W.Frag → Bool)} {fn : List Dq} {ts : List Tb} {w : World} {K : PySem.W.Frag}
theorem Tells.at (c : Tells fa fn ts w K) (i : Nat) {f : PySem.W.Frag → Bool} (h : fa[i]? = some f := by rfl) : f K = true := by
  have e : ((fa.all fun f => f K) && fn.all fun d => d.rest K) = true := congrArg Prod.fst c
  exact List.all_eq_true.mp (Bool.and_eq_true_iff.mp e).1 f (List.mem_of_getElem? h)
theorem Tells.fun_ (c : Tells fa fn ts w K) (i : Nat) {d : Dq} (h : fn[i]? = some d := by rfl) : ∃ fd, FunD K d.nm d.qn d.pr d.bd d.sc (d.dv K) (d.kw K) (d.place K) fd := by
  have e : ((fa.all fun f => f K) && fn.all fun d => d.rest K) = true := congrArg Prod.fst c
  have e2 : fn.map (fun d => fv K (d.place K)) = fn.map Dq.is := congrArg (fun z : Ob => z.2.1) c
  have e3 := congrArg (fun l => l[i]?) e2
  simp only [List.getElem?_map, h, Option.map_some, Option.some.injEq] at e3
  exact Dq.fun_ e3 (List.all_eq_true.mp (Bool.and_eq_true_iff.mp e).2 d (List.mem_of_getElem? h))
theorem Tells.tab (c : Tells fa fn ts w K) (i : Nat) {t : Tb} (h : ts[i]? = some t := by rfl) : He.dicW K (t.1 K) = some (He.keysIn w.params t.2) := by
  have e2 : ts.map (fun t => He.dicW K (t.1 K)) = ts.map fun t => some (He.keysIn w.params t.2) := congrArg (fun z : Ob => z.2.2) c
  have e3 := congrArg (fun l => l[i]?) e2
  simpa only [List.getElem?_map, h, Option.map_some, Option.some.injEq] using e3
end
/-! ### a dict of the module -/
section
variable {K : PySem.W.Frag} {w : World} {a : Addr} {ks : List Str} {z : Str}
theorem dict_off : ∀ (l : List DictEntry) (ks : List Str) (P : Params), l.map He.keyOf = He.keysIn P ks → z ∉ ks → l.find? (·.key.isStr z) = none ∧ l.any (·.refKey) = false
  | [], _, _, _, _ => ⟨rfl, rfl⟩
  | e :: r, [], _, h, _ => by cases h
  | e :: r, k :: ks, P, h, hz => by
    have h1 : He.keyOf e :: r.map He.keyOf = some (k, PyData.keyHash P k) :: He.keysIn P ks := h
    injection h1 with h2 h3
    obtain ⟨i1, i2⟩ := dict_off r ks P h3 fun q => hz (List.mem_cons_of_mem _ q)
    unfold He.keyOf at h2
    split at h2
    · rename_i x t q
      have h4 := Option.some.inj h2
      obtain ⟨h5, h6⟩ := Prod.mk.inj h4
      subst h5
      have hne : ¬ x = z := fun q => hz (by rw [← q]; exact List.mem_cons_self)
      have hb : e.key.isStr z = false := by
        rw [q]
        show (x == z) = false
        simpa using hne
      have hr : e.refKey = false := by
        show (match e.key with | .ref _ => true | _ => false) = false
        rw [q]
      exact ⟨by rw [List.find?_cons, hb]; exact i1, by rw [List.any_cons, hr, i2]; rfl⟩
    · cases h2
theorem dict_none (h : He.dicW K a = some (He.keysIn w.params ks)) (hz : z ∉ ks) : PySem.W.nsIn K a z = some none := by
  unfold He.dicW at h
  unfold PySem.W.nsIn
  split at h
  · rename_i c es n sl hl
    rw [hl]
    split at h
    · obtain ⟨h1, h2⟩ := dict_off es.toList ks w.params (Option.some.inj h) hz
      dsimp only
      rw [h1, h2]
      rfl
    · cases h
  · cases h
end
end Fh

set_option Elab.async false
set_option linter.all false
set_option maxRecDepth 100000
set_option maxHeartbeats 4000000
/-! Fh: own exceptions as values: made, their fields read, isinstance -/
namespace Fh
open PySem PySem.Spec PyProof.Rows L2

/-- the j-th statement of a class -/
def mem (st : Stmt) (j : Nat) : Stmt := match st with
  | .ClassDef (body := l) .. => l.getD j (.Pass ⟨0, 0, 0, 0⟩)
  | other => other
/-- a method as it stands behind the top -/
def DdM (K : PySem.W.Frag) (a : Addr) (nm qn : Str) (st : Stmt) (dvs : List V) (kws : List (Str × V)) : Prop := ∃ fd, FunD K nm qn (defArgs st) (defBody st) (defScope st) dvs kws a fd

/-! ### what the written part says of an exception class -/
structure XC (K : PySem.W.Frag) (C : Addr) : Prop where
  o : OexC K C
  e : ExcC K C
def xcB (K : PySem.W.Frag) (C : Addr) : Bool :=
  ((match K.lookup C with
    | some ob => ob.cls == .type "type" && (match ob.data with
      | .cls cd => (cd.hasDict && !cd.hasDel) && (match cd.mro, ob.slots.toList with
        | mh :: bm, [_, _, _, _, some mk, _] => (mh == .ref C && mk == .builtin "ValueError.__new__") && PySem.HandSPX.refsVE bm
        | _, _ => false)
      | _ => false)
    | none => false) &&
  (decide (PySem.W.findIn K (.ref C) "__setattr__" = some (some (.builtin "object.__setattr__"))) &&
  (decide (PySem.W.subIn K (.ref C) (.type "BaseException") = some true) &&
  (decide (PySem.W.typeIn K (.ref C) = some (.type "type")) && PySem.W.keepIn K (.ref C))))) &&
  ((decide (PySem.W.findIn K (.ref C) "__getattribute__" = some (some (.builtin "BaseException.__getattribute__"))) &&
  decide (PySem.W.findIn K (.ref C) "__getattr__" = some none)) &&
  ((PySem.W.hasDictIn K C && decide (PySem.W.findIn K (.ref C) "__class__" = some (some (.builtin "object.__class__")))) &&
  (decide (PySem.W.specialIn K (.builtin "object.__class__") "__get__" = some (some (.builtin "getset_descriptor.__get__"))) &&
  (decide (PySem.W.takesIn K (.builtin "object.__class__") = some true) && decide (PySem.W.mroIn K C (.type "object") = some true)))))
theorem and2 {a b : Bool} (h : (a && b) = true) : a = true ∧ b = true := Bool.and_eq_true_iff.mp h
theorem xcB_ok {K : PySem.W.Frag} {C : Addr} (h : xcB K C = true) : XC K C := by
  obtain ⟨h1, h2⟩ := and2 h
  obtain ⟨hl, h1⟩ := and2 h1
  obtain ⟨hs, h1⟩ := and2 h1
  obtain ⟨he, h1⟩ := and2 h1
  obtain ⟨ht, hk⟩ := and2 h1
  obtain ⟨h3, h2⟩ := and2 h2
  obtain ⟨hg, hgg⟩ := and2 h3
  obtain ⟨h4, h2⟩ := and2 h2
  obtain ⟨hd, hc⟩ := and2 h4
  obtain ⟨hn, h2⟩ := and2 h2
  obtain ⟨htk, hm⟩ := and2 h2
  refine ⟨⟨?_, of_decide_eq_true hs, of_decide_eq_true he, of_decide_eq_true ht, hk⟩, ⟨of_decide_eq_true hg, of_decide_eq_true hgg, of_decide_eq_true he, hd, of_decide_eq_true hc, of_decide_eq_true hn, of_decide_eq_true htk, of_decide_eq_true hm⟩⟩
  cases q : K.lookup C with
  | none => rw [q] at hl; cases hl
  | some ob =>
    rw [q] at hl
    obtain ⟨oc, od, dt, osl⟩ := ob
    obtain ⟨h5, hl⟩ := and2 hl
    cases dt with
    | cls cd =>
      obtain ⟨h6, hl⟩ := and2 hl
      obtain ⟨h7, h8⟩ := and2 h6
      obtain ⟨nm, bs, mro, ns, qn, hd', sn, sub, ab, col, del⟩ := cd
      obtain ⟨sl⟩ := osl
      dsimp only at h7 h8 hl
      split at hl
      · rename_i mh bm k0 k1 k2 k3 mk k5 _ _
        obtain ⟨h9, h10⟩ := and2 hl
        obtain ⟨h11, h12⟩ := and2 h9
        obtain rfl := beq_iff_eq.mp h11
        obtain rfl := beq_iff_eq.mp h12
        obtain rfl := beq_iff_eq.mp h5
        subst h7
        have h8 : del = false := by simpa using h8
        subst h8
        exact ⟨nm, qn, ns, bs, bm, sn, sub, ab, col, od, k0, k1, k2, k3, k5, rfl, h10⟩
      · cases hl
    | _ => cases hl
/-- made by its own __init__ -/
structure XM (K : PySem.W.Frag) (mg : Str → Option Value) (x : Str) (C fI : Addr) : Prop where
  c : XC K C
  g : mg x = some (.ref C)
  i : PySem.W.findIn K (.ref C) "__init__" = some (some (.ref fI))
  t : PySem.W.typeIn K (.ref fI) = some (.type "function")
/-- made without one -/
structure XN (K : PySem.W.Frag) (mg : Str → Option Value) (x : Str) (C : Addr) : Prop where
  c : XC K C
  g : mg x = some (.ref C)
  i : ∃ bm, PySem.W.excIn K C bm "ValueError.__new__" = true ∧ bm = He.veBase

/-! ### the objects -/
def ExH (K : PySem.W.Frag) (C : Addr) (fs : List (Str × D)) (H : Hp) (v : V) : Prop := ∃ a d fvs, v = .ref a ∧ H a = some (exo a C (some d)) ∧ H d = some (exd d fvs) ∧ Isf K H fvs fs
def excD (K : PySem.W.Frag) (C : Addr) (fs : List (Str × D)) : D := .abs (ExH K C fs)
def ExH0 (C : Addr) (H : Hp) (v : V) : Prop := ∃ a, v = .ref a ∧ H a = some (ExO (.ref C) a)
def excD0 (C : Addr) : D := .abs (ExH0 C)
theorem ExH.mono {K : PySem.W.Frag} {C : Addr} {fs : List (Str × D)} {H H' : Hp} {v : V} (e : Le H H') (h : ExH K C fs H v) : ExH K C fs H' v := by
  obtain ⟨a, d, fvs, rfl, h1, h2, h3⟩ := h
  exact ⟨a, d, fvs, rfl, e _ _ h1, e _ _ h2, Isf.mono e _ h3⟩
theorem is_exc {K : PySem.W.Frag} {C : Addr} {fs : List (Str × D)} {H : Hp} {v : V} (h : ExH K C fs H v) : Is K H v (excD K C fs) := .abs fun _ e => h.mono e
theorem is_exc0 {K : PySem.W.Frag} {C : Addr} {H : Hp} {v : V} (h : ExH0 C H v) : Is K H v (excD0 C) := .abs fun _ e => by
  obtain ⟨a, rfl, h⟩ := h
  exact ⟨a, rfl, e _ _ h⟩
theorem exc_is {K : PySem.W.Frag} {C : Addr} {fs : List (Str × D)} {H : Hp} {v : V} (h : Is K H v (excD K C fs)) : ExH K C fs H v := by
  unfold excD at h
  cases h with
  | abs h => exact h H (Le.refl H)
theorem exc0_is {K : PySem.W.Frag} {C : Addr} {H : Hp} {v : V} (h : Is K H v (excD0 C)) : ExH0 C H v := by
  unfold excD0 at h
  cases h with
  | abs h => exact h H (Le.refl H)

/-! ### __init__ -/
def spX1 (C : Addr) (f : Str) : Sp := fun vs H Q _ => ∃ a y, vs = [.ref a, y] ∧ H a = some (exo a C none) ∧ ∀ d, H d = none → d ≠ a → Q .non (upd (upd H d (exd d [(f, y)])) a (exo a C (some d)))
def spX2 (C : Addr) (f g : Str) : Sp := fun vs H Q _ => ∃ a y z, vs = [.ref a, y, z] ∧ H a = some (exo a C none) ∧ ∀ d, H d = none → d ≠ a → Q .non (upd (upd H d (exd d [(g, z), (f, y)])) a (exo a C (some d)))
section
variable {P : Program} {w : World} {K : PySem.W.Frag} {mg : Str → Option Value} {base : Heap} {C fI : Addr} {fd : FuncData} {nm qn : Str} {st : Stmt} {N ps : List Str} {f g : Str} {p1 p2 : Str}
theorem ok_x1 (F : FunD K nm qn (defArgs st) (defBody st) (defScope st) [] [] fI fd) (S : FnScope ["self", p1] ["self", p1] (defScope st)) (c : XC K C) (n1 : NoAttr K C f)
    (tm : ∀ (cdv : Value) (A : Around) (outer : List Env) (s : Shared) (H : Hp) (E : XK), PSs (cxOf CX0 P w K mg base ["self", p1] qn (defScope st) fI cdv A outer s H E).nox (defBody st) (tOst K f (tVar 0) (tVar 1))) :
    FnOk P w K mg base CX0 1 fI fd ["self", p1] (spX1 C f) := by
  refine F.ok S (fun vs H Q E h => ?_) (fun cdv A outer s H vs Q E hr h => ⟨_, (tm cdv A outer s H E).nox, ?_⟩)
  · obtain ⟨a, y, rfl, _⟩ := h
    rfl
  · obtain ⟨a, y, rfl, ha, q⟩ := h
    exact ⟨y, rfl, .ref a, rfl, a, C, rfl, c.o, n1, .inl ⟨ha, fun d hd hne => q d hd hne⟩⟩
theorem ok_x2 (F : FunD K nm qn (defArgs st) (defBody st) (defScope st) [] [] fI fd) (S : FnScope ["self", p1, p2] ["self", p1, p2] (defScope st)) (c : XC K C) (n1 : NoAttr K C f) (n2 : NoAttr K C g)
    (tm : ∀ (cdv : Value) (A : Around) (outer : List Env) (s : Shared) (H : Hp) (E : XK), PSs (cxOf CX0 P w K mg base ["self", p1, p2] qn (defScope st) fI cdv A outer s H E).nox (defBody st) (tSeq (tOst K f (tVar 0) (tVar 1)) (tOst K g (tVar 0) (tVar 2)))) :
    FnOk P w K mg base CX0 1 fI fd ["self", p1, p2] (spX2 C f g) := by
  refine F.ok S (fun vs H Q E h => ?_) (fun cdv A outer s H vs Q E hr h => ⟨_, (tm cdv A outer s H E).nox, ?_⟩)
  · obtain ⟨a, y, z, rfl, _⟩ := h
    rfl
  · obtain ⟨a, y, z, rfl, ha, q⟩ := h
    refine ⟨y, rfl, .ref a, rfl, a, C, rfl, c.o, n1, .inl ⟨ha, fun d hd hne => ?_⟩⟩
    refine ⟨z, rfl, .ref a, rfl, a, C, rfl, c.o, n2, .inr ⟨d, [(f, y)], upd_same, by rw [upd_ne hne, upd_same], (show 1 ≤ 900 by decide), ?_⟩⟩
    have e : upd (upd (upd H d (exd d [(f, y)])) a (exo a C (some d))) d (exd d [(g, z), (f, y)]) = upd (upd H d (exd d [(g, z), (f, y)])) a (exo a C (some d)) := by
      funext b
      by_cases h1 : b = d
      · subst h1; rw [upd_same, upd_ne hne, upd_same]
      · by_cases h2 : b = a
        · subst h2; rw [upd_ne h1, upd_same, upd_same]
        · rw [upd_ne h1, upd_ne h2, upd_ne h1, upd_ne h2, upd_ne h1]
    rw [e]
    exact q d hd hne
end

/-! ### C(..) as an expression -/
def tMkX (C : Addr) (sp : Sp) (ta : TA) : TE := fun σ H Q => ta σ H fun vs H1 => vs.length ≤ 1000 ∧ ∀ a, H1 a = none → sp (.ref a :: vs) (upd H1 a (exo a C none)) (fun v H2 => v = .non ∧ Q (.ref a) H2) E0
def tMkX0 (C : Addr) : TE := fun σ H Q => ∀ a, H a = none → Q (.ref a) (upd H a (ExO (.ref C) a))
/-- an exception's call by its __init__ -/
structure DX (P : Program) (w : World) (K : PySem.W.Frag) (mg : Str → Option Value) (base : Heap) (x : Str) (C : Addr) (sp : Sp) : Prop where
  ex : ∃ (fI : Addr) (fd : FuncData) (ps : List Str), FnOk P w K mg base CX0 1 fI fd ps sp ∧ XM K mg x C fI ∧ Binds K fd ps []
section
variable {X : Cx} {C : Addr} {sp : Sp} {x : Str} {e : Expr} {es : List Expr} {p pos : Pos} {ta : TA}
theorem pe_mkX (G : DX X.prog X.w X.K X.mg X.base x C sp) (hr : Room 2 X.A) (hg : Gl X x) (ha : PA X (e :: es) ta) (hdb : (x == ("__debug__" : Str)) = false := by decide)
    (he : starEach (e :: es) X.env = (false, eval e X.env) :: starEach es X.env := by rfl) (hpl : (backTo pos (starEach es X.env)).any (·.1) = false := by rfl) :
    PE X (.Call (.Name x p) (e :: es) [] pos) (tMkX C sp ta) := by
  obtain ⟨fI, fd, ps, Fn, M, hb⟩ := G.ex
  obtain ⟨nm, q, N, bs, bm, sn, sub, ab, col, dd, k0, k1, k2, k3, k5, hC, hbm⟩ := M.c.o.cls
  refine ⟨fun pins s σ H Q I h => ?_⟩
  refine wpAny_Call_Name_kw (ld_glob I hg M.g ?_ hdb)
  refine PySem.W.callWith_K (h₀ := X.base) I.ok.mod.kin M.c.o.kC (thn (ha.run pos pins s σ H _ I h) fun us s1 y => ?_) he hpl
  obtain ⟨vs, H1, I1, r1, hz, q1⟩ := y
  refine ⟨I1.kIn, ?_⟩
  show wpAny _ _ (call (.ref C) us) _ _ _
  obtain ⟨hp, g, dr, tk, os⟩ := s1
  have hn : H1 (hp.objs.size + 1) = none := I1.hok.fresh (Nat.le_succ _)
  have hq := q1 (hp.objs.size + 1) hn
  have I2 : Inv X pins σ (upd H1 (hp.objs.size + 1) (exo (hp.objs.size + 1) C none)) ⟨(hp.push (PySem.W.kdv_tup us)).push (PySem.HandSPX.excO C hp.objs.size), g, dr, tk, os⟩ := I1.laid (t' := tk) (a := hp.objs.size + 1) (o := exo (hp.objs.size + 1) C none) (h' := (hp.push (PySem.W.kdv_tup us)).push (PySem.HandSPX.excO C hp.objs.size))
    (fun b o z => Heap.get?_push_of_some _ (Heap.get?_push_of_some _ z)) (Nat.le_succ _) (exo_ok (by heap_get))
  have r2 : Vals (V.ref (hp.objs.size + 1) :: (vs ++ [])) (Value.ref (hp.objs.size + 1) :: (us ++ [])) := .cons rfl (r1.append .nil)
  rw [List.append_nil, List.append_nil] at r2
  have hl : (Value.ref (hp.objs.size + 1) :: us).length = ps.length := by
    rw [← Fn.len _ _ _ _ hq]
    exact r2.length.symm
  have hus : us.length ≤ sizeLine := by
    rw [← Paired.length r1, sizeLine_eq]
    omega
  refine wpAny_call (PySem.HandSPX.call_own PySem.F.excBase_ValueError (fun Y => PySem.HandSPX.refsVE_contains Y bm hbm) (I1.kIn _ _ hC) (PySem.W.looks_findIn I1.kIn M.i) (fun self => PySem.W.bind_fn I1.kIn self M.t) hus
    (codeAny_mono (Fn.run _ X.stack _ _ ⟨Value.ref (hp.objs.size + 1) :: us, []⟩ (Value.ref (hp.objs.size + 1) :: us) _ _ E0 (hr.make C us []) (I2.env0.make C us []) (by
      have := hb _ (Value.ref (hp.objs.size + 1) :: us) I2.kIn (by simpa using hl)
      simpa using this) r2 hq) fun r s' hq' => ?_))
  cases r with
  | error er => exact pass0 pins σ _ _ er s' I2 hq'
  | ok fl =>
    cases fl with
    | ret u =>
      obtain ⟨v, H', I3, rv, ev, q3⟩ := I2.after hq'
      subst ev
      exact ⟨rv, ⟨.ref (hp.objs.size + 1), H', I3, rfl, q3⟩⟩
    | next => exact False.elim hq'
    | brk => exact False.elim hq'
    | cont => exact False.elim hq'
theorem pe_mkX0 (M : XN X.K X.mg x C) (hg : Gl X x) (hdb : (x == ("__debug__" : Str)) = false := by decide) : PE X (.Call (.Name x p) [] [] pos) (tMkX0 C) := by
  obtain ⟨bb, hi, rfl⟩ := M.i
  refine ⟨fun pins s σ H Q I h => ?_⟩
  refine wpAny_Call_Name_kw (ld_glob I hg M.g ?_ hdb)
  refine PySem.W.callWith_K0 I.kIn M.c.o.kC ?_
  show wpAny _ _ (call (.ref C) []) _ _ _
  obtain ⟨bm, N, nm, qn, bs, hdct, sn, sub, ab, col, dd, k0, k1, k2, k3, k5, mN, hC, hN, hni, T⟩ := exc_obj I.kIn hi
  obtain ⟨hp, g, dr, tk, os⟩ := s
  refine wpAny_call_exc_subT PySem.F.excBase_ValueError T hC hN hni (fun h' a hm => ?_) (Nat.zero_le _)
  have hn : H a = none := I.hok.gone hm.new
  obtain ⟨t, ht, _, _⟩ := hm.there
  exact ⟨.ref a, upd H a (ExO (.ref C) a), I.laidN hm.keeps hm.new hn (exO_ok ht ⟨rfl, rfl⟩ rfl rfl rfl (show 4 < 6 by decide)), rfl, h a hn⟩
end

/-! ### e.f of an instance or of an exception; isinstance -/
def rAt (K : PySem.W.Frag) (f : Str) (x : V) (H : Hp) (Q : VK) : Prop :=
  (∃ a C dx fs v, x = .ref a ∧ H a = some (.ins C dx fs) ∧ (Cls K C ∧ NoAttr K C f) ∧ fs.lookup f = some v ∧ Q v H) ∨
  ∃ a C d fvs v, x = .ref a ∧ (XC K C ∧ NoAttr K C f) ∧ H a = some (exo a C (some d)) ∧ H d = some (exd d fvs) ∧ fvs.lookup f = some v ∧ Q v H
def tAt (K : PySem.W.Frag) (te : TE) (f : Str) : TE := fun σ H Q => te σ H fun x H1 => rAt K f x H1 Q
/-- what the look at an exception's own dict needs -/
theorem exo_inst {X : Cx} {pins : List (Addr × Obj)} {σ : L2.St} {H : Hp} {s : Shared} {a C d : Addr} {fvs : List (Str × V)} (I : Inv X pins σ H s) (ha : H a = some (exo a C (some d))) (hd : H d = some (exd d fvs)) :
    ∃ (ox od : Obj) (m : Str → Option Value), PySem.W.InstAt s.heap a ox C (some od) ∧ (∀ f, PySem.W.lookIn f od = some (m f)) ∧ ∀ f, RelO (fvs.lookup f) (m f) := by
  obtain ⟨t1, ho⟩ := exo_at I.hok ha
  obtain ⟨m, hns, r⟩ := exd_at I.hok hd
  obtain ⟨o, h1, l⟩ := lookIn_ns hns
  exact ⟨_, o, m, ⟨ho, rfl, rfl, h1⟩, l, r⟩
section
variable {X : Cx} {C : Addr} {e : Expr} {f : Str} {pos : Pos} {te : TE}
theorem pe_at (he : PE X e te) (hb : attributeBase e f X.env (eval e X.env) = eval e X.env := by rfl) : PE X (.Attribute e f pos) (tAt X.K te f) := by
  refine ⟨fun pins s σ H Q I h => ?_⟩
  refine attr_of hb (thn (he.run pins s σ H _ I h) fun u s1 y => ?_)
  obtain ⟨x, H1, I1, rx, y⟩ := y
  rcases y with ⟨a, C, dx, fs, v, rfl, ea, c, l, q⟩ | ⟨a, C, d, fvs, v, rfl, c, ea, ed, l, q⟩
  · cases rx
    exact getattr_ok I1 ea c.1 c.2 l fun u' s2 I2 ru => ⟨v, H1, I2, ru, q⟩
  · cases rx
    obtain ⟨ox, od, m, J, hl, hr⟩ := exo_inst I1 ea ed
    obtain ⟨u, hu, ru⟩ := RelO.some_of (v := v) (o := m f) (by rw [← l]; exact hr f)
    exact HandSPX.exc_get I1.kIn J c.1.e.hg c.1.e.hk c.1.e.hs (PySem.W.findObj_own c.1.e.hd c.2 rfl (by rw [hl f, hu])) (handed_of ru) ⟨v, H1, I1.tok _, ru, q⟩
/-- x is an exception of the class at C -/
def ExA (C : Addr) (x : V) (H : Hp) : Prop := ∃ a, x = .ref a ∧ ((∃ d fvs, H a = some (exo a C (some d)) ∧ H d = some (exd d fvs)) ∨ H a = some (ExO (.ref C) a))
theorem exa_kit {pins : List (Addr × Obj)} {σ : L2.St} {H : Hp} {s : Shared} {x : V} {u : Value} (I : Inv X pins σ H s) (c : XC X.K C) (h : ExA C x H) (r : RelV x u) :
    ∃ P : Heap → Prop, PySem.W.KitX X.K u (.ref C) P ∧ P s.heap ∧ u ≠ .builtin "__main__.__loader__#opaque" := by
  obtain ⟨a, rfl, h⟩ := h
  cases r
  have hc : (PySem.W.clsIn X.K C).isSome = true := by
    obtain ⟨cd, h1, _⟩ := PySem.W.any_some c.e.hd
    rw [h1]; rfl
  rcases h with ⟨d, fvs, ea, ed⟩ | ea
  · obtain ⟨ox, od, m, J, _, _⟩ := exo_inst I ea ed
    exact ⟨_, PySem.W.kitx_exc (ox := ox) (od := some od) hc c.e.hg c.e.hk c.e.hs c.e.ha c.e.hn c.e.ht c.e.hm, J, fun z => nomatch z⟩
  · obtain ⟨⟨oe, vs, ho, hz, hd, _⟩, _, _⟩ := I.hok a _ ea
    have J : PySem.W.InstAt s.heap a oe C none := by
      obtain ⟨oc, odc, oda, osl⟩ := oe
      obtain ⟨h1, h2⟩ := hz
      dsimp only at h1 h2 hd
      subst h1 h2 hd
      exact ⟨ho, rfl, rfl, trivial⟩
    exact ⟨_, PySem.W.kitx_exc (ox := oe) (od := none) hc c.e.hg c.e.hk c.e.hs c.e.ha c.e.hn c.e.ht c.e.hm, J, fun z => nomatch z⟩
def rIsiX (K : PySem.W.Frag) : List V → Hp → VK → Prop := fun xs H Q => ∃ (x c : V) (C : Addr) (u : Value) (b : Bool), xs = [x, c] ∧ ClsV c u ∧ XC K C ∧ ExA C x H ∧ PySem.W.kitOne K (.ref C) u = some b ∧ Q (.bl b) H
theorem call_isiX : CallR X (.builtin "isinstance") (rIsiX X.K) := by
  intro pins s σ H xs us Q I r h
  obtain ⟨x, c, C, u, b, rfl, k, xc, ex, hk, q⟩ := h
  obtain ⟨u1, u2, rfl, r1, r2⟩ := vals2 r
  obtain rfl := k.eq r2
  obtain ⟨P, Z, p, hx⟩ := exa_kit I xc ex r1
  exact PySem.W.kia_one Z I.kIn p hk hx fun tk => ⟨.bl b, H, I.tok tk, rfl, q⟩
def rIsiU (K : PySem.W.Frag) : List V → Hp → VK → Prop := fun xs H Q => rIsi K xs H Q ∨ rIsiX K xs H Q
theorem call_isiU : CallR X (.builtin "isinstance") (rIsiU X.K) := call_isi.or call_isiX
end

/-! ### what they are worth -/
section
variable {K : PySem.W.Frag} {e : En} {d d1 d2 : D} {m m1 m2 : Md} {te : TE} {ta : TA} {C : Addr} {f g : Str} {fs : List (Str × D)} {b : Bool}
theorem gr_exc {H T : Hp} {a dd : Addr} {fvs : List (Str × V)} (s : Le T H) (ha : H a = none) (hd : H dd = none) (hne : dd ≠ a) :
    Gr H T (upd (upd H dd (exd dd fvs)) a (exo a C (some dd))) (upd (upd T dd (exd dd fvs)) a (exo a C (some dd))) :=
  (Gr.new s hd).trans (Gr.new (Gr.new s hd).s (by rw [upd_ne hne.symm]; exact ha))
theorem upd_over {H : Hp} {a dd : Addr} {u v w : HO} (hne : dd ≠ a) : upd (upd (upd H a u) dd w) a v = upd (upd H dd w) a v := by
  funext b
  by_cases h1 : b = a
  · subst h1; rw [upd_same, upd_same]
  · rw [upd_ne h1, upd_ne h1]
    by_cases h2 : b = dd
    · subst h2; rw [upd_same, upd_same]
    · rw [upd_ne h2, upd_ne h2, upd_ne h1]
theorem ev_mkX1 (h : EvD K ta e [d1]) : Ev K m (tMkX C (spX1 C f) ta) e (excD K C [(f, d1)]) := Ev.up fun B T0 σ H T s Q q => h B T0 σ H T s _ fun vs H1 T1 g1 i1 => by
  have i := i1.iss
  cases i with
  | @cons v _ _ _ ia i2 =>
    cases i2
    refine ⟨by simp, fun a ha => ⟨a, v, rfl, upd_same, fun dd hd hne => ⟨rfl, ?_⟩⟩⟩
    rw [upd_ne hne] at hd
    rw [upd_over hne]
    have g2 := gr_exc (C := C) (fvs := [(f, v)]) g1.s ha hd hne
    exact q _ _ _ (g1.trans g2) (is_exc ⟨a, dd, _, rfl, upd_same, by rw [upd_ne hne, upd_same], .cons (Is.mono g2.t _ ia) .nil⟩)
theorem ev_mkX2 (h : EvD K ta e [d1, d2]) : Ev K m (tMkX C (spX2 C f g) ta) e (excD K C [(g, d2), (f, d1)]) := Ev.up fun B T0 σ H T s Q q => h B T0 σ H T s _ fun vs H1 T1 g1 i1 => by
  have i := i1.iss
  cases i with
  | @cons v _ _ _ ia i2 =>
    cases i2 with
    | @cons v2 _ _ _ ib i3 =>
      cases i3
      refine ⟨by simp, fun a ha => ⟨a, v, v2, rfl, upd_same, fun dd hd hne => ⟨rfl, ?_⟩⟩⟩
      rw [upd_ne hne] at hd
      rw [upd_over hne]
      have g2 := gr_exc (C := C) (fvs := [(g, v2), (f, v)]) g1.s ha hd hne
      exact q _ _ _ (g1.trans g2) (is_exc ⟨a, dd, _, rfl, upd_same, by rw [upd_ne hne, upd_same], .cons (Is.mono g2.t _ ib) (.cons (Is.mono g2.t _ ia) .nil)⟩)
theorem ev_mkX0 : Ev K m (tMkX0 C) e (excD0 C) := Ev.up fun B T0 σ H T s Q q a ha => by
  have g2 := Gr.new (o := ExO (.ref C) a) s.gr.s ha
  exact q _ _ _ g2 (is_exc0 ⟨a, rfl, upd_same⟩)
theorem abs_any {p : Hp → V → Prop} {B H T : Hp} {v : V} (h : MIs m K B H T v (.abs p)) (hB : Le B H) (hT : Le T H) : ∃ H0, Le H0 H ∧ p H0 v ∧ ((m = .dat ∧ H0 = T) ∨ (m = .now ∧ H0 = H) ∨ (m = .bor ∧ (H0 = T ∨ H0 = B))) := by
  cases m with
  | dat =>
    have h' : Is K T v (.abs p) := h
    cases h' with
    | abs h => exact ⟨T, hT, h T (Le.refl T), .inl ⟨rfl, rfl⟩⟩
  | now =>
    have h' : Is K H v (.abs p) := h
    cases h' with
    | abs h => exact ⟨H, Le.refl H, h H (Le.refl H), .inr (.inl ⟨rfl, rfl⟩)⟩
  | bor =>
    rcases h with h | h
    · cases h with
      | abs h => exact ⟨T, hT, h T (Le.refl T), .inr (.inr ⟨rfl, .inl rfl⟩)⟩
    · cases h with
      | abs h => exact ⟨B, hB, h B (Le.refl B), .inr (.inr ⟨rfl, .inr rfl⟩)⟩
/-- a field of an exception -/
theorem ev_atX (h : Ev K m te e (excD K C fs)) (c : XC K C) (n : NoAttr K C f) (hl : fs.lookup f = some d) : Ev K m (tAt K te f) e d := fun B T0 σ H T s Q q => h B T0 σ H T s _ fun v H1 T1 g i => by
  obtain ⟨H0, h0, h1, hm⟩ := abs_any i (s.gr.h.trans g.h) g.s
  obtain ⟨a, dd, fvs, rfl, ha, hd, hf⟩ := h1
  obtain ⟨v, l, iv⟩ := hf.lookup hl
  refine .inr ⟨a, C, dd, fvs, v, rfl, ⟨c, n⟩, h0 _ _ ha, h0 _ _ hd, l, q v H1 T1 g ?_⟩
  rcases hm with ⟨rfl, rfl⟩ | ⟨rfl, rfl⟩ | ⟨rfl, rfl | rfl⟩
  · exact iv
  · exact iv
  · exact .inl iv
  · exact .inr iv
/-- a field of an instance -/
theorem ev_at (h : Ev K m te e (.ins C fs)) (c : Cls K C) (n : NoAttr K C f) (hl : fs.lookup f = some d) : Ev K m (tAt K te f) e d := fun B T0 σ H T s Q q => h B T0 σ H T s _ fun v H1 T1 g i => by
  have key : ∃ H0, Le H0 H1 ∧ Is K H0 v (.ins C fs) ∧ ∀ u, Is K H0 u d → MIs m K B H1 T1 u d := by
    cases m with
    | dat => exact ⟨T1, g.s, i, fun _ h => h⟩
    | now => exact ⟨H1, Le.refl _, i, fun _ h => h⟩
    | bor =>
      rcases i with i | i
      · exact ⟨T1, g.s, i, fun _ h => .inl h⟩
      · exact ⟨B, s.gr.h.trans g.h, i, fun _ h => .inr h⟩
  obtain ⟨H0, h0, i0, k⟩ := key
  cases i0 with
  | @ins a _ dx fvs _ ha hf =>
    obtain ⟨v, l, iv⟩ := hf.lookup hl
    exact .inl ⟨a, C, dx, fvs, v, rfl, h0 _ _ ha, ⟨c, n⟩, l, q v H1 T1 g (k v iv)⟩
/-- isinstance of an exception -/
theorem exa_of {H : Hp} {v : V} (h : ExH K C fs H v) : ExA C v H := by
  obtain ⟨a, dd, fvs, rfl, h1, h2, _⟩ := h
  exact ⟨a, rfl, .inl ⟨dd, fvs, h1, h2⟩⟩
theorem exa_of0 {H : Hp} {v : V} (h : ExH0 C H v) : ExA C v H := by
  obtain ⟨a, rfl, h1⟩ := h
  exact ⟨a, rfl, .inr h1⟩
/-- the data is an exception of that class -/
def IsX (K : PySem.W.Frag) (C : Addr) (d : D) : Prop := ∀ H v, Is K H v d → ExA C v H
theorem isX_excD : IsX K C (excD K C fs) := fun H v h => exa_of (exc_is h)
theorem isX_excD0 : IsX K C (excD0 C) := fun H v h => exa_of0 (exc0_is h)
theorem rl_isiX {c : V} {u : Value} (hx : IsX K C d) (xc : XC K C) (hc : ClsV c u) (hk : PySem.W.kitOne K (.ref C) u = some b) : RL K [m1, m2] m (rIsiU K) [d, .raw c] (.bl b) := fun B H T vs hB hT hm Q q => by
  match vs, hm with
  | [v, w], hm =>
    have i1 := hm.1.now hB hT
    have i2 := hm.2.1.now hB hT
    cases i2
    exact .inr ⟨v, c, C, u, b, rfl, hc, xc, hx _ _ i1, hk, q _ H T (Gr.refl hT) (MIs.dat (.bl b) hT)⟩
theorem RL.isl {ds : List D} {ms : List Md} (h : RL K ms m (rIsi K) ds d) : RL K ms m (rIsiU K) ds d := fun B H T vs hB hT hm Q q => .inl (h B H T vs hB hT hm Q q)
end
/-! ### which class is above which -/
/-- own error classes without one below: none is above another one; ValueError and FullhandsError are above all -/
def kitTab (l : List Str) (K : PySem.W.Frag) : Bool := l.all fun x => (decide (PySem.W.kitOne K (.ref (gA K x)) (.type "ValueError") = some true) && decide (PySem.W.kitOne K (.ref (gA K x)) (.ref (gA K "FullhandsError")) = some true)) &&
  l.all fun y => decide (PySem.W.kitOne K (.ref (gA K x)) (.ref (gA K y)) = some (decide (x = y)))
section
variable {K : PySem.W.Frag} {l : List Str} {x y : Str}
theorem kitTab.one (h : kitTab l K = true) (hx : x ∈ l) (hy : y ∈ l) : PySem.W.kitOne K (.ref (gA K x)) (.ref (gA K y)) = some (decide (x = y)) := by
  have h1 := List.all_eq_true.mp h x hx
  exact of_decide_eq_true (List.all_eq_true.mp (and2 h1).2 y hy)
theorem kitTab.val (h : kitTab l K = true) (hx : x ∈ l) : PySem.W.kitOne K (.ref (gA K x)) (.type "ValueError") = some true := of_decide_eq_true (and2 (and2 (List.all_eq_true.mp h x hx)).1).1
theorem kitTab.own (h : kitTab l K = true) (hx : x ∈ l) : PySem.W.kitOne K (.ref (gA K x)) (.ref (gA K "FullhandsError")) = some true := of_decide_eq_true (and2 (and2 (List.all_eq_true.mp h x hx)).1).2
end
end Fh

set_option Elab.async false
set_option linter.all false
set_option maxRecDepth 100000
set_option maxHeartbeats 4000000
/-! Fh: more words: lists and tuples put together, == of data, what stands at a place -/
namespace Fh
open PySem PySem.Spec PyProof.Rows L2
section
variable {K : PySem.W.Frag} {e : En} {d d1 d2 : D} {ds xs ys : List D} {m m1 m2 : Md} {te ta tb : TE} {o : OD} {b : Bool}
/-! ### + of lists, of tuples -/
theorem rdo_cat (hz : xs.length + ys.length ≤ sizeLine) : RDO K .dat .dat (rPlus K) (.lst xs) (.lst ys) (.lst (xs ++ ys)) := fun B H T x y hB hT h1 h2 Q q => by
  cases h1 with
  | @lst a vs _ ha hi =>
    cases h2 with
    | @lst a2 vs2 _ ha2 hi2 =>
      refine .inl (.inr ⟨a, a2, vs, vs2, rfl, rfl, hT _ _ ha, hT _ _ ha2, by rw [hi.length, hi2.length]; exact hz, fun p hp => ?_⟩)
      exact q p _ _ (Gr.own hT hp) hp (hT.back hp) ⟨_, upd_same, hi.append hi2, by rw [List.length_append]; exact hz⟩
theorem evo_cat (ha : Ev K .dat ta e (.lst xs)) (hb : Ev K .dat tb e (.lst ys)) (hz : xs.length + ys.length ≤ sizeLine) : EvO K (tOp (rPlus K) ta tb) e (.lst (xs ++ ys)) := ev_opO ha hb (rdo_cat hz)
theorem ev_cat (ha : Ev K .dat ta e (.lst xs)) (hb : Ev K .dat tb e (.lst ys)) (hz : xs.length + ys.length ≤ sizeLine) : Ev K m (tOp (rPlus K) ta tb) e (.lst (xs ++ ys)) := (evo_cat ha hb hz).dat
theorem ev_catT (ha : Ev K .dat ta e (.tup xs)) (hb : Ev K .dat tb e (.tup ys)) (hz : xs.length + ys.length ≤ sizeLine) : Ev K m (tOp (rPlus K) ta tb) e (.tup (xs ++ ys)) := ev_op ha hb fun B H T x y hB hT h1 h2 Q q => by
  cases h1 with
  | @tup a vs _ ha hi hz1 =>
    cases h2 with
    | @tup a2 vs2 _ ha2 hi2 hz2 =>
      refine .inr (.inl ⟨a, a2, vs, vs2, rfl, rfl, hT.sqT ha.t, hT.sqT ha2.t, by rw [hi.length, hi2.length]; exact hz, fun h => ?_, fun h h' => ?_, fun _ _ p o ho hp => ?_⟩)
      · subst h
        cases hi
        exact q _ _ _ (Gr.refl hT) (MIs.dat (.tup ha2 hi2 hz2) hT)
      · subst h'
        cases hi2
        rw [List.append_nil] at q
        exact q _ _ _ (Gr.refl hT) (MIs.dat (.tup ha hi hz1) hT)
      · have g := Gr.new (o := .frz o (.tup (vs ++ vs2))) hT hp
        exact q _ _ _ g (MIs.dat (.tup (SqN.of upd_same ho) (Iss.mono g.t _ (hi.append hi2)) (by rw [List.length_append]; exact hz)) g.s)
/-! ### == of lists of truth values; of data without them -/
theorem shps_bls {n : Nat} : ∀ ns : List Bool, shps n (ns.map D.bl) = true
  | [] => rfl
  | _ :: ns => by
    have := shps_bls (n := n) ns
    simp only [List.map_cons, shps, shp, this, Bool.and_self]
theorem eqv_bls : ∀ ns ms : List Bool, PyData.eqvAll (toPys (ns.map D.bl)) (toPys (ms.map D.bl)) = decide (ns = ms)
  | [], [] => rfl
  | [], _ :: _ => rfl
  | _ :: _, [] => rfl
  | n :: ns, k :: ms => by
    have ih := eqv_bls ns ms
    show ((n == k) && PyData.eqvAll (toPys (ns.map D.bl)) (toPys (ms.map D.bl))) = _
    rw [ih, Bool.beq_eq_decide_eq]
    by_cases h : n = k
    · subst h; simp
    · simp [h]
theorem ev_eqB {ns ms : List Bool} (ha : Ev K .now ta e (.lst (ns.map D.bl))) (hb : Ev K .now tb e (.lst (ms.map D.bl))) : Ev K m (tOp (rEqU K) ta tb) e (.bl (decide (ns = ms))) := by
  have e : PyData.eqv (toPy (.lst (ns.map D.bl))) (toPy (.lst (ms.map D.bl))) = decide (ns = ms) := eqv_bls ns ms
  rw [← e]
  exact ev_op ha hb (rd_eqD (n1 := 1) (n2 := 1) (shps_bls ns) (shps_bls ms))
theorem ev_neB {ns ms : List Bool} (ha : Ev K .now ta e (.lst (ns.map D.bl))) (hb : Ev K .now tb e (.lst (ms.map D.bl))) : Ev K m (tOp (rNeU K) ta tb) e (.bl (decide (ns ≠ ms))) := by
  have e : PyData.eqv (toPy (.lst (ns.map D.bl))) (toPy (.lst (ms.map D.bl))) = decide (ns = ms) := eqv_bls ns ms
  rw [decide_not, ← e]
  exact ev_op ha hb (rd_neD (n1 := 1) (n2 := 1) (shps_bls ns) (shps_bls ms))
mutual
/-- no truth value in it -/
def noB : D → Bool
  | .bl _ => false
  | .lst ds => noBs ds
  | .tup ds => noBs ds
  | _ => true
def noBs : List D → Bool
  | [] => true
  | d :: ds => noB d && noBs ds
end
mutual
theorem eqv_sm : ∀ (n : Nat) (a b : D), shp n a = true → shp n b = true → noB a = true → noB b = true → PyData.eqv (toPy a) (toPy b) = sm a b
  | n, a, b, ha, hb, na, nb => by
    cases a with
    | bl x => simp [noB] at na
    | raw x => simp [shp] at ha
    | rol x => simp [shp] at ha
    | abs x => simp [shp] at ha
    | ins x y => simp [shp] at ha
    | non => cases b <;> first | rfl | (simp [noB] at nb; done) | (simp [shp] at hb; done)
    | int x => cases b <;> first | (simp [noB] at nb; done) | (simp [shp] at hb; done) | rfl | (show (x == _) = decide _; rw [Bool.beq_eq_decide_eq])
    | str x => cases b <;> first | (simp [noB] at nb; done) | (simp [shp] at hb; done) | rfl | (show (x == _) = decide _; rw [Bool.beq_eq_decide_eq])
    | lst xs =>
      cases b with
      | lst ys =>
        cases n with
        | zero => simp [shp] at ha
        | succ n =>
          show PyData.eqvAll (toPys xs) (toPys ys) = sms xs ys
          exact eqv_sms n xs ys (by simpa [shp] using ha) (by simpa [shp] using hb) (by simpa [noB] using na) (by simpa [noB] using nb)
      | bl x => simp [noB] at nb
      | raw x => simp [shp] at hb
      | rol x => simp [shp] at hb
      | abs x => simp [shp] at hb
      | ins x y => simp [shp] at hb
      | non => rfl
      | int x => rfl
      | str x => rfl
      | tup x => rfl
    | tup xs =>
      cases b with
      | tup ys =>
        cases n with
        | zero => simp [shp] at ha
        | succ n =>
          show PyData.eqvAll (toPys xs) (toPys ys) = sms xs ys
          exact eqv_sms n xs ys (by simpa [shp] using ha) (by simpa [shp] using hb) (by simpa [noB] using na) (by simpa [noB] using nb)
      | bl x => simp [noB] at nb
      | raw x => simp [shp] at hb
      | rol x => simp [shp] at hb
      | abs x => simp [shp] at hb
      | ins x y => simp [shp] at hb
      | non => rfl
      | int x => rfl
      | str x => rfl
      | lst x => rfl
theorem eqv_sms : ∀ (n : Nat) (as bs : List D), shps n as = true → shps n bs = true → noBs as = true → noBs bs = true → PyData.eqvAll (toPys as) (toPys bs) = sms as bs
  | _, [], [], _, _, _, _ => rfl
  | _, [], _ :: _, _, _, _, _ => rfl
  | _, _ :: _, [], _, _, _, _ => rfl
  | n, a :: as, b :: bs, ha, hb, na, nb => by
    simp only [shps, Bool.and_eq_true] at ha hb
    simp only [noBs, Bool.and_eq_true] at na nb
    show (PyData.eqv (toPy a) (toPy b) && PyData.eqvAll (toPys as) (toPys bs)) = (sm a b && sms as bs)
    rw [eqv_sm n a b ha.1 hb.1 na.1 nb.1, eqv_sms n as bs ha.2 hb.2 na.2 nb.2]
end
theorem ev_eqD (n : Nat) (ha : Ev K .now ta e d1) (hb : Ev K .now tb e d2) (h1 : shp n d1 = true) (h2 : shp n d2 = true) (n1 : noB d1 = true) (n2 : noB d2 = true) (hn : n ≤ 64 := by decide) : Ev K m (tOp (rEqU K) ta tb) e (.bl (sm d1 d2)) := by
  rw [← eqv_sm n d1 d2 h1 h2 n1 n2]
  exact ev_op ha hb (rd_eqD h1 h2 hn hn)
theorem ev_neD (n : Nat) (ha : Ev K .now ta e d1) (hb : Ev K .now tb e d2) (h1 : shp n d1 = true) (h2 : shp n d2 = true) (n1 : noB d1 = true) (n2 : noB d2 = true) (hn : n ≤ 64 := by decide) : Ev K m (tOp (rNeU K) ta tb) e (.bl (!sm d1 d2)) := by
  rw [← eqv_sm n d1 d2 h1 h2 n1 n2]
  exact ev_op ha hb (rd_neD h1 h2 hn hn)
/-! ### isinstance where own classes stand about -/
theorem ev_isiX {C : Addr} {c : V} {u : Value} {tc : TE} (ha : Ev K .now ta e d) (hb : Ev K .now tc e (.raw c)) (hx : IsX K C d) (xc : XC K C) (hc : ClsV c u) (hk : PySem.W.kitOne K (.ref C) u = some b) : Ev K m (tCB (rIsiU K) (tCons ta (tCons tc tNil))) e (.bl b) :=
  ev_cb (ea_cons ha (ea_cons hb ea_nil)) (rl_isiX hx xc hc hk)
end
end Fh

set_option Elab.async false
set_option linter.all false
set_option maxRecDepth 100000
set_option maxHeartbeats 4000000
/-! Fh: defs that may raise, raise, try .. except -/
namespace Fh
open PySem PySem.Spec PyProof.Rows L2

/-! ### promises -/
def SpRX (K : PySem.W.Frag) {α : Type} (ms : List Md) (args : α → List D) (pre : α → Prop) (out : α → D → Prop) (exc : α → Addr → Option (List (Str × D)) → Prop) : Sp := fun vs H Q E =>
  ∃ (T : Hp) (x : α), Le T H ∧ pre x ∧ MIss K H H T ms vs (args x) ∧ (∀ d v H' T', out x d → Gr H T H' T' → Is K T' v d → Q v H') ∧ ∀ C o od H' T', exc x C o → Gr H T H' T' → XIs K T' od o → E (.ref C) od H'
/-- a def that may raise, callable by its name -/
structure DfX (P : Program) (w : World) (K : PySem.W.Frag) (mg : Str → Option Value) (base : Heap) (x : Str) (k : Nat) (dvs : List V) (sp : Sp) : Prop where
  ex : ∃ (f : Addr) (fd : FuncData) (ps : List Str) (ds : List Value), FnOk P w K mg base (L2.CX P w) k f fd ps sp ∧ mg x = some (.ref f) ∧ PySem.W.keepIn K (.ref f) = true ∧ Binds K fd ps ds ∧ Vals dvs ds
def BodyX (P : Program) (w : World) (K : PySem.W.Frag) (mg : Str → Option Value) (base : Heap) (x : Str) (st : Stmt) (N : List Str) (k : Nat) {α : Type} (ms : List Md) (args : α → List D) (pre : α → Prop) (out : α → D → Prop) (exc : α → Addr → Option (List (Str × D)) → Prop) : Prop :=
  ∀ (f : Addr) (cdv : Value) (A : Around) (outer : List Env) (s : Shared) (H : Hp) (E : XK), Room k (A.deeper (envOfC x (defScope st) s.heap.objs.size f cdv)) →
    ∃ t, PSs (cxOf (L2.CX P w) P w K mg base N x (defScope st) f cdv A outer s H E) (defBody st) t ∧ ∀ a, pre a → Run K (lift E) t (En0 ms (args a) (N.length - ms.length)) { nx := fun _ => out a .non, rt := out a, ex := fun _ => exc a }
section
variable {P : Program} {w : World} {K : PySem.W.Frag} {mg : Str → Option Value} {base : Heap}
theorem fn_okX {nm x : Str} {st : Stmt} {dvs : List V} {kws : List (Str × V)} {f : Addr} {fd : FuncData} {N ps : List Str} {k : Nat} {α : Type} {ms : List Md} {args : α → List D} {pre : α → Prop} {out : α → D → Prop} {exc : α → Addr → Option (List (Str × D)) → Prop}
    (F : FunD K nm x (defArgs st) (defBody st) (defScope st) dvs kws f fd) (S : FnScope N ps (defScope st)) (hn : ms.length = ps.length) (hN : ms.length ≤ N.length) (hb : BodyX P w K mg base x st N k ms args pre out exc) :
    FnOk P w K mg base (L2.CX P w) (k + 1) f fd ps (SpRX K ms args pre out exc) := by
  refine F.ok S (fun vs H Q E h => ?_) (fun cdv A outer s H vs Q E hr h => ?_)
  · obtain ⟨T, a, _, _, hm, _⟩ := h
    rw [hm.len.1, hn]
  · obtain ⟨t, ht, hrun⟩ := hb f cdv A outer s H E hr
    obtain ⟨T, a, hT, hp, hm, hq, hx⟩ := h
    refine ⟨t, ht, hrun a hp H T _ H T _ (sat_start hT hm hN) ⟨fun e σ H' T' p s' => ?_, fun d v H' T' p g i => ?_, fun _ _ _ _ p => p.elim, fun _ _ _ _ p => p.elim, fun e σ H' T' C od o p s' x => ?_, fun _ _ _ _ p => p.elim⟩⟩
    · exact hq .non .non H' T' p s'.gr .non
    · exact hq d v H' T' p g i
    · exact hx C o od H' T' p s'.gr x
theorem Dd.dfX {x : Str} {st : Stmt} {N ps : List Str} {k : Nat} {α : Type} {ms : List Md} {args : α → List D} {pre : α → Prop} {out : α → D → Prop} {exc : α → Addr → Option (List (Str × D)) → Prop}
    (F : Dd K mg x st [] []) (S : FnScope N ps (defScope st)) (hn : ms.length = ps.length) (hN : ms.length ≤ N.length)
    (bd : ∀ (kV doc pm : Value) (an : Option Addr) (cdv ct : Value) (us : List Value), us.length = ps.length → bindArgs (PySem.W.fnOf x x (defArgs st) (defBody st) (defScope st) .none kV doc pm an cdv ct) ⟨us, []⟩ = pure (ps.zip us))
    (hb : BodyX P w K mg base x st N k ms args pre out exc) : DfX P w K mg base x (k + 1) [] (SpRX K ms args pre out exc) := by
  obtain ⟨f, fd, F, hm⟩ := F
  exact ⟨f, fd, ps, [], fn_okX F S hn hN hb, hm, F.kp, F.bindsN bd, .nil⟩
theorem DfX.mono {x : Str} {j k : Nat} {dvs : List V} {sp : Sp} (F : DfX P w K mg base x j dvs sp) (h : j ≤ k) : DfX P w K mg base x k dvs sp := by
  obtain ⟨f, fd, ps, ds, F, r⟩ := F.ex
  exact ⟨f, fd, ps, ds, F.mono h, r⟩
end
section
variable {X : Cx} {k : Nat} {sp : Sp} {dvs : List V} {x : Str} {p pos : Pos} {e : Expr} {es : List Expr} {t : TA} {W : WX}
theorem pe_dfX (G : DfX X.prog X.w X.K X.mg X.base x k [] sp) (hr : Room k X.A) (hg : Gl X x) (tk : Takes X W) (ha : PA X (e :: es) t) (hdb : (x == ("__debug__" : Str)) = false := by decide)
    (he : starEach (e :: es) X.env = (false, eval e X.env) :: starEach es X.env := by rfl) (hpl : (backTo pos (starEach es X.env)).any (·.1) = false := by rfl) :
    PE X (.Call (.Name x p) (e :: es) [] pos) (tCallS sp (WE W) t) := by
  obtain ⟨f, fd, ps, ds, F, hm, hk, hb, hd⟩ := G.ex
  cases hd
  exact pe_callS F hr hg hm hk hb (fun σ => passAt tk σ) ha hdb he hpl
/-- raise C(..), C's own __init__ -/
theorem ps_raiseX {C : Addr} {pos2 : Pos} (hc : X.calm = true) (G : DX X.prog X.w X.K X.mg X.base x C sp) (hr : Room 2 X.A) (hg : Gl X x) (tk : Takes X W) (ha : PA X (e :: es) t) (hdb : (x == ("__debug__" : Str)) = false := by decide)
    (he : starEach (e :: es) X.env = (false, eval e X.env) :: starEach es X.env := by rfl) (hpl : (backTo pos (starEach es X.env)).any (·.1) = false := by rfl) :
    PS X (.Raise (some (.Call (.Name x p) (e :: es) [] pos)) none pos2) (fun _ σ H => tMkO C sp [] t σ H fun cls d H' => W cls d σ H') := by
  obtain ⟨fI, fd, ps, F, M, hb⟩ := G.ex
  exact ps_raise hc tk (pmk_oex M.c.o M.i M.t F hr hb .nil pass0 hg M.g ha hdb he hpl)
/-- raise C(), no __init__ -/
theorem ps_raiseX0 {C : Addr} {pos2 : Pos} (hc : X.calm = true) (M : XN X.K X.mg x C) (hg : Gl X x) (tk : Takes X W) (hdb : (x == ("__debug__" : Str)) = false := by decide) :
    PS X (.Raise (some (.Call (.Name x p) [] [] pos)) none pos2) (fun _ σ H => W (.ref C) none σ H) := by
  refine ps_raise (t := fun _ H Q => Q (.ref C) none H) hc tk ?_
  obtain ⟨bb, hi, rfl⟩ := M.i
  intro pins s σ H Q I h
  refine wpAny_Call_Name_kw (ld_glob I hg M.g ?_ hdb)
  refine PySem.W.callWith_K0 I.kIn M.c.o.kC ?_
  show wpAny _ _ (call (.ref C) []) _ _ _
  obtain ⟨bm, N, nm, qn, bs, hdct, sn, sub, ab, col, dd, k0, k1, k2, k3, k5, mN, hC, hN, hni, T⟩ := exc_obj I.kIn hi
  refine wpAny_call_exc_subT PySem.F.excBase_ValueError T hC hN hni (fun h' a hm => ?_) (Nat.zero_le _)
  exact mk_of I hm (raises_own M.c.o.exC M.c.o.tyC) h (I.hok.gone hm.new)
end

/-! ### expressions that may raise -/
def EvX (K : PySem.W.Frag) (W : WX) (te : TE) (e : En) (pr : D → Prop) (pe : Addr → Option (List (Str × D)) → Prop) : Prop := ∀ (B T0 : Hp) (σ : L2.St) (H T : Hp), Sat K B T0 e σ H T → ∀ Q : VK,
  (∀ d v H' T', pr d → Gr H T H' T' → Is K T' v d → Q v H') → (∀ C o od H' T', pe C o → Gr H T H' T' → XIs K T' od o → W (.ref C) od σ H') → te σ H Q
def EvAX (K : PySem.W.Frag) (W : WX) (ta : TA) (e : En) (pr : List D → Prop) (pe : Addr → Option (List (Str × D)) → Prop) : Prop := ∀ (B T0 : Hp) (σ : L2.St) (H T : Hp), Sat K B T0 e σ H T → ∀ Q : List V → Hp → Prop,
  (∀ ds vs H' T', pr ds → Gr H T H' T' → Iss K T' vs ds → Q vs H') → (∀ C o od H' T', pe C o → Gr H T H' T' → XIs K T' od o → W (.ref C) od σ H') → ta σ H Q
theorem XIs.mono {K : PySem.W.Frag} {T T' : Hp} (e : Le T T') : ∀ {od : Option Addr} {o : Option (List (Str × D))}, XIs K T od o → XIs K T' od o
  | none, none, _ => trivial
  | some _, some fs, h => by
    obtain ⟨fvs, h1, h2⟩ := h
    exact ⟨fvs, e _ _ h1, Isf.mono e fs h2⟩
  | none, some _, h => h.elim
  | some _, none, h => h.elim
section
variable {K : PySem.W.Frag} {W : WX} {e : En} {d d1 d2 : D} {te : TE} {ta : TA} {pr pr' : D → Prop} {prs : List D → Prop} {pe pe' : Addr → Option (List (Str × D)) → Prop} {P : Po} {i : Nat} {m : Md} {ms : List Md} {α : Type} {args : α → List D} {pre : α → Prop} {out : α → D → Prop} {exc : α → Addr → Option (List (Str × D)) → Prop}
theorem evx_call (a : α) (hp : pre a) (h : EvA K ms ta e (args a)) : EvX K W (tCallS (SpRX K ms args pre out exc) (WE W) ta) e (out a) (exc a) := fun B T0 σ H T s Q q qx => h B T0 σ H T s _ fun vs H1 T1 g i =>
  ⟨T1, a, g.s, hp, i.rebase (s.gr.h.trans g.h) g.s, fun d v H2 T2 hd g2 i2 => q d v H2 T2 hd (g.trans g2) i2, fun C o od H2 T2 hx g2 x => qx C o od H2 T2 hx (g.trans g2) x⟩
theorem evx_of (h : Ev K .dat te e d) : EvX K W te e (fun x => x = d) (fun _ _ => False) := fun B T0 σ H T s Q q _ => h B T0 σ H T s Q fun v H' T' g i => q d v H' T' rfl g i
theorem EvX.imp (h : EvX K W te e pr pe) (h1 : ∀ d, pr d → pr' d) (h2 : ∀ C o, pe C o → pe' C o) : EvX K W te e pr' pe' := fun B T0 σ H T s Q q qx => h B T0 σ H T s Q (fun d v H' T' p => q d v H' T' (h1 d p)) fun C o od H' T' p => qx C o od H' T' (h2 C o p)
theorem eax_nil : EvAX K W tNil e (fun ds => ds = []) pe := fun B T0 σ H T s Q q _ => q [] [] H T rfl (Gr.refl s.gr.s) .nil
theorem eax_cons (h : EvX K W te e pr pe) (hr : EvAX K W ta e prs pe) : EvAX K W (tCons te ta) e (fun l => ∃ d ds, l = d :: ds ∧ pr d ∧ prs ds) pe := fun B T0 σ H T s Q q qx =>
  h B T0 σ H T s _ (fun d v H1 T1 p g1 i1 => hr B T0 σ H1 T1 (s.grow g1) _ (fun ds vs H2 T2 ps g2 i2 => q (d :: ds) (v :: vs) H2 T2 ⟨d, ds, rfl, p, ps⟩ (g1.trans g2) (.cons (Is.mono g2.t d i1) i2))
    fun C o od H2 T2 p g2 x => qx C o od H2 T2 p (g1.trans g2) x) qx
theorem evx_tup (h : EvAX K W ta e prs pe) (hl : ∀ ds, prs ds → ds.length ≤ sizeLine) : EvX K W (tTupN ta) e (fun d => ∃ ds, prs ds ∧ d = .tup ds) pe := fun B T0 σ H T s Q q qx =>
  h B T0 σ H T s _ (fun ds vs H1 T1 p g1 i1 => ⟨by rw [i1.length]; exact hl ds p, fun a o ho ha => by
    have g2 := Gr.new (o := .frz o (.tup vs)) g1.s ha
    exact q (.tup ds) _ _ _ ⟨ds, p, rfl⟩ (g1.trans g2) (.tup (SqN.of upd_same ho) (Iss.mono g2.t _ i1) (hl ds p))⟩) qx
theorem run_asgX (h : EvX K W te e pr pe) (q : ∀ d, pr d → P.nx (e.set i (.dat d))) (qx : ∀ C o, pe C o → P.ex e C o) : Run K W (tAsg te (gName i)) e P := fun B T0 σ H T D s f =>
  h B T0 σ H T s _ (fun d v H1 T1 p g i1 => f.nx _ _ H1 T1 (q d p) ((s.grow g).set (m := .dat) (fun z => nomatch z) i1)) fun C o od H1 T1 p g x => f.ex _ _ H1 T1 C od o (qx C o p) (s.grow g) x
theorem run_retX (h : EvX K W te e pr pe) (q : ∀ d, pr d → P.rt d) (qx : ∀ C o, pe C o → P.ex e C o) : Run K W (tRet te) e P := fun B T0 σ H T D s f =>
  h B T0 σ H T s _ (fun d v H1 T1 p g i1 => f.rt d v H1 T1 (q d p) (s.gr.trans g) i1) fun C o od H1 T1 p g x => f.ex _ _ H1 T1 C od o (qx C o p) (s.grow g) x
theorem run_dropX (h : EvX K W te e pr pe) (q : ∀ d, pr d → P.nx e) (qx : ∀ C o, pe C o → P.ex e C o) : Run K W (tDrop te) e P := fun B T0 σ H T D s f =>
  h B T0 σ H T s _ (fun d v H1 T1 p g i1 => f.nx _ _ H1 T1 (q d p) (s.grow g)) fun C o od H1 T1 p g x => f.ex _ _ H1 T1 C od o (qx C o p) (s.grow g) x

/-! ### raise -/
theorem del_two {H : Hp} {a dd C : Addr} {fvs : List (Str × V)} (ha : H a = none) (hd : H dd = none) (hne : dd ≠ a) : upd (del (upd (upd (upd H a (exo a C none)) dd (exd dd fvs)) a (exo a C (some dd))) a) dd (.xd fvs) = upd H dd (.xd fvs) := by
  funext b
  by_cases h1 : b = dd
  · subst h1; rw [upd_same, upd_same]
  · rw [upd_ne h1, upd_ne h1]
    by_cases h2 : b = a
    · subst h2; rw [del_same, ha]
    · rw [del_ne h2, upd_ne h2, upd_ne h1, upd_ne h2]
theorem run_raise1 {C : Addr} {f : Str} (h : EvD K ta e [d1]) (q : P.ex e C (some [(f, d1)])) : Run K W (fun _ σ H => tMkO C (spX1 C f) [] ta σ H fun cls d H' => W cls d σ H') e P := fun B T0 σ H T Dn s ft => h B T0 σ H T s _ fun vs H1 T1 g1 i1 => by
  have i := i1.iss
  cases i with
  | @cons v _ _ _ ia i2 =>
    cases i2
    refine ⟨by simp, fun a ha => ⟨a, v, rfl, upd_same, fun dd hd hne => ⟨rfl, dd, [(f, v)], upd_same, by rw [upd_ne hne, upd_same], ?_, ?_⟩⟩⟩
    · rw [upd_ne hne] at hd; exact hd
    · rw [upd_ne hne] at hd
      rw [del_two ha hd hne]
      have g2 := Gr.new (o := .xd [(f, v)]) g1.s hd
      exact ft.ex e σ _ _ C (some dd) _ q ((s.grow g1).grow g2) ⟨[(f, v)], upd_same, .cons (Is.mono g2.t _ ia) .nil⟩
theorem run_raise2 {C : Addr} {f g : Str} (h : EvD K ta e [d1, d2]) (q : P.ex e C (some [(g, d2), (f, d1)])) : Run K W (fun _ σ H => tMkO C (spX2 C f g) [] ta σ H fun cls d H' => W cls d σ H') e P := fun B T0 σ H T Dn s ft => h B T0 σ H T s _ fun vs H1 T1 g1 i1 => by
  have i := i1.iss
  cases i with
  | @cons v _ _ _ ia i2 =>
    cases i2 with
    | @cons v2 _ _ _ ib i3 =>
      cases i3
      refine ⟨by simp, fun a ha => ⟨a, v, v2, rfl, upd_same, fun dd hd hne => ⟨rfl, dd, [(g, v2), (f, v)], upd_same, by rw [upd_ne hne, upd_same], ?_, ?_⟩⟩⟩
      · rw [upd_ne hne] at hd; exact hd
      · rw [upd_ne hne] at hd
        rw [del_two ha hd hne]
        have g2 := Gr.new (o := .xd [(g, v2), (f, v)]) g1.s hd
        exact ft.ex e σ _ _ C (some dd) _ q ((s.grow g1).grow g2) ⟨[(g, v2), (f, v)], upd_same, .cons (Is.mono g2.t _ ib) (.cons (Is.mono g2.t _ ia) .nil)⟩
theorem run_raise0 {C : Addr} (q : P.ex e C none) : Run K W (fun _ σ H => W (.ref C) none σ H) e P := fun B T0 σ H T D s f => f.ex e σ H T C none none q s trivial

/-! ### try .. except -/
/-- what the suite knows of the exception that it holds: at a, its dict od -/
def heldD (K : PySem.W.Frag) (a : Addr) (od : Option Addr) (o : Option (List (Str × D))) : D := .abs fun H v => v = .ref a ∧ XIs K H od o
theorem is_held {H : Hp} {a : Addr} {od : Option Addr} {o : Option (List (Str × D))} (h : XIs K H od o) : Is K H (.ref a) (heldD K a od o) := .abs fun _ e => ⟨rfl, h.mono e⟩
theorem held_is {H : Hp} {v : V} {a : Addr} {od : Option Addr} {o : Option (List (Str × D))} (h : Is K H v (heldD K a od o)) : v = .ref a ∧ XIs K H od o := by
  unfold heldD at h
  cases h with
  | abs h => exact h H (Le.refl H)
theorem Sat.setNo {B T0 H T : Hp} {σ : L2.St} (s : Sat K B T0 e σ H T) (i : Nat) : Sat K B T0 (e.set i .no) (σ.set i none) H T := by
  refine ⟨s.gr, by simp [s.len], fun j sl h => ?_, fun j k o1 o2 b c hjk h1 h2 h3 h4 => ?_⟩
  · by_cases hj : i = j
    · subst hj
      have hi : i < e.length := by
        have := (List.getElem?_eq_some_iff.mp h).1
        simpa using this
      rw [List.getElem?_set_self hi] at h
      cases h
      exact ⟨none, by rw [List.getElem?_set_self (by rw [s.len]; exact hi)], trivial⟩
    · rw [List.getElem?_set_ne hj] at h ⊢
      exact s.sl j sl h
  · have f : ∀ (l : Nat) o, (e.set i .no)[l]? = some (.own o) → i ≠ l := fun l o hl q => by
      subst q
      have hi : i < e.length := by
        have := (List.getElem?_eq_some_iff.mp hl).1
        simpa using this
      rw [List.getElem?_set_self hi] at hl
      cases hl
    have n1 := f j o1 h1
    have n2 := f k o2 h2
    rw [List.getElem?_set_ne n1] at h1 h3
    rw [List.getElem?_set_ne n2] at h2 h4
    exact s.sep j k o1 o2 b c hjk h1 h2 h3 h4
theorem run_tryAs {tb : WX → TS} {ts : Addr → Value → Option Addr → TS} {Wout : WX} {c : Value} (PX : En → Addr → Option (List (Str × D)) → Prop)
    (hb : ∀ W, Run K W (tb W) e { P with ex := PX })
    (hs : ∀ e' C o, PX e' C o → ∃ b, PySem.W.exmOne K (.ref C) c = some b ∧
      (b = true → ∀ a od, Run K (fun _ _ _ _ => False) (ts a (.ref C) od) (e'.set i (.dat (heldD K a od o))) { nx := fun e2 => P.nx (e2.set i .no), rt := P.rt, bk := fun e2 => P.bk (e2.set i .no), ct := fun e2 => P.ct (e2.set i .no), ro := P.ro }) ∧ (b = false → P.ex e' C o)) :
    Run K Wout (fun D σ H => tb (wAs K c i ts Wout D) D σ H) e P := fun B T0 σ H T Dn s f => by
  refine hb (wAs K c i ts Wout Dn) B T0 σ H T Dn s ⟨f.nx, f.rt, f.bk, f.ct, fun e' σ' H' T' C od o p s' x => ?_, f.ro⟩
  obtain ⟨b, h1, h2, h3⟩ := hs e' C o p
  refine ⟨b, h1, fun hb a ha => ?_, fun hb => f.ex e' σ' H' T' C od o (h3 hb) s' x⟩
  refine h2 hb a od B T0 _ H' T' _ (s'.set (m := .dat) (fun z => nomatch z) (is_held x)) ⟨fun e2 σ2 H2 T2 p2 s2 => f.nx _ _ H2 T2 p2 (s2.setNo i), f.rt, fun e2 σ2 H2 T2 p2 s2 => f.bk _ _ H2 T2 p2 (s2.setNo i), fun e2 σ2 H2 T2 p2 s2 => f.ct _ _ H2 T2 p2 (s2.setNo i), fun _ _ _ _ _ _ _ q => q.elim, f.ro⟩
theorem run_tryOnly {tb : WX → TS} {ts : Addr → Value → Option Addr → TS} {Wout : WX} {c : Value} (PX : En → Addr → Option (List (Str × D)) → Prop)
    (hb : ∀ W, Run K W (tb W) e { P with ex := PX })
    (hs : ∀ e' C o, PX e' C o → ∃ b, PySem.W.exmOne K (.ref C) c = some b ∧ (b = true → ∀ a od, Run K (fun _ _ _ _ => False) (ts a (.ref C) od) e' { P with ex := fun _ _ _ => False }) ∧ (b = false → P.ex e' C o)) :
    Run K Wout (fun D σ H => tb (wOnly K c ts Wout D) D σ H) e P := fun B T0 σ H T Dn s f => by
  refine hb (wOnly K c ts Wout Dn) B T0 σ H T Dn s ⟨f.nx, f.rt, f.bk, f.ct, fun e' σ' H' T' C od o p s' x => ?_, f.ro⟩
  obtain ⟨b, h1, h2, h3⟩ := hs e' C o p
  exact ⟨b, h1, fun hb a ha => h2 hb a od B T0 _ H' T' _ s' ⟨f.nx, f.rt, f.bk, f.ct, fun _ _ _ _ _ _ _ q => q.elim, f.ro⟩, fun hb => f.ex e' σ' H' T' C od o (h3 hb) s' x⟩
end

/-! ### in the suite: the exception's fields, isinstance -/
/-- e.f of an exception that the suite holds -/
def tAtS (K : PySem.W.Frag) (a : Addr) (cls : Value) (d : Option Addr) (f : Str) (te : TE) : TE := fun σ H Q => te σ H fun x H1 => ∃ C, cls = .ref C ∧ XC K C ∧ NoAttr K C f ∧ x = .ref a ∧ ∃ (dd : Addr) (fs : List (Str × V)) (v : V), d = some dd ∧ H1 dd = some (.xd fs) ∧ fs.lookup f = some v ∧ Q v H1
def rIsiS (K : PySem.W.Frag) (a : Addr) (cls : Value) (d : Option Addr) : List V → Hp → VK → Prop := fun xs H Q => ∃ (c : V) (C : Addr) (b : Bool), cls = .ref C ∧ XC K C ∧ (∀ dd, d = some dd → ∃ fs, H dd = some (.xd fs)) ∧ Q (.bl b) H ∧
  ((∃ u, xs = [.ref a, c] ∧ ClsV c u ∧ PySem.W.kitOne K (.ref C) u = some b) ∨ ∃ tp cs us, xs = [.ref a, .ref tp] ∧ H tp = some (.tup cs) ∧ Paired ClsV cs us ∧ PySem.W.kitAny K (.ref C) us = some b)
section
variable {X : Cx} {a : Addr} {oe : Obj} {cls : Value} {d : Option Addr} {pn : List (Addr × Obj)}
/-- the pinned exception as an instance -/
theorem pin_inst {C : Addr} {pins : List (Addr × Obj)} {σ : L2.St} {H : Hp} {s : Shared} (hz : Zc cls d oe) (hf : ∃ vs, oe.data = .fields vs) (hc : cls = .ref C) (I : Inv (X.suite a ((a, oe) :: pn)) pins σ H s)
    (hd : ∀ dd, d = some dd → ∃ fs, H dd = some (.xd fs)) :
    ∃ od, PySem.W.InstAt s.heap a oe C od ∧ ∀ dd fs f v, d = some dd → H dd = some (.xd fs) → fs.lookup f = some v → ∃ o u, od = some o ∧ PySem.W.lookIn f o = some (some u) ∧ RelV v u := by
  subst hc
  obtain ⟨ha, _⟩ := I.pin (a, oe) (List.mem_append_left _ List.mem_cons_self)
  obtain ⟨vs, hv⟩ := hf
  cases d with
  | none =>
    refine ⟨none, ?_, fun dd fs f v h => nomatch h⟩
    obtain ⟨oc, od, oda, osl⟩ := oe
    obtain ⟨h1, h2⟩ := hz
    dsimp only at h1 h2 hv
    subst h1 h2 hv
    exact ⟨ha, rfl, rfl, trivial⟩
  | some dd =>
    obtain ⟨fs, hx⟩ := hd dd rfl
    have hxo : ObjOk X.prog X.w H s.heap dd (.xd fs) := I.hok dd _ hx
    obtain ⟨mA, hns, hr⟩ := hxo
    obtain ⟨od, ho, hl⟩ := lookIn_ns hns
    refine ⟨some od, ⟨ha, hz.1, by unfold PySem.W.notCls; rw [hv] <;> rfl, by rw [hz.2]; exact ho⟩, fun dd' fs' f v e1 e2 e3 => ?_⟩
    cases e1
    rw [hx] at e2
    cases e2
    obtain ⟨u, hu, ru⟩ := RelO.some_of (v := v) (o := mA f) (by rw [← e3]; exact hr f)
    exact ⟨od, u, rfl, by rw [hl, hu], ru⟩
theorem pe_atS {e : Expr} {te : TE} {pos : Pos} {f : Str} (hz : Zc cls d oe) (hf : ∃ vs, oe.data = .fields vs) (he : PE (X.suite a ((a, oe) :: pn)) e te) (hb : attributeBase e f X.env (eval e X.env) = eval e X.env := by rfl) :
    PE (X.suite a ((a, oe) :: pn)) (.Attribute e f pos) (tAtS X.K a cls d f te) := by
  refine ⟨fun pins s σ H Q I h => ?_⟩
  refine attr_of hb (thn (he.run pins s σ H _ I h) fun u s1 hh => ?_)
  obtain ⟨x, H1, I1, rx, C, hc, xc, n, ex, dd, fs, v, ed, ea, l, q⟩ := hh
  subst ex
  obtain rfl : u = Value.ref a := rx
  obtain ⟨od, J, k⟩ := pin_inst hz hf hc I1 (fun dd' e' => by rw [ed] at e'; cases e'; exact ⟨fs, ea⟩)
  obtain ⟨o, u, rfl, hl, ru⟩ := k dd fs f v ed ea l
  exact HandSPX.exc_get I1.kIn J xc.e.hg xc.e.hk xc.e.hs (PySem.W.findObj_own xc.e.hd n rfl hl) (handed_of ru) ⟨v, H1, I1.tok _, ru, q⟩
theorem call_isiS (hz : Zc cls d oe) (hf : ∃ vs, oe.data = .fields vs) : CallR (X.suite a ((a, oe) :: pn)) (.builtin "isinstance") (rIsiS X.K a cls d) := by
  intro pins s σ H xs us Q I r h
  obtain ⟨c, C, b, hc, xc, hd, q, h⟩ := h
  obtain ⟨od, J, _⟩ := pin_inst hz hf hc I hd
  have hcl : (PySem.W.clsIn X.K C).isSome = true := by
    obtain ⟨cd, h1, _⟩ := PySem.W.any_some xc.e.hd
    rw [h1]; rfl
  have Z := PySem.W.kitx_exc (K := X.K) (x := a) (ox := oe) (od := od) hcl xc.e.hg xc.e.hk xc.e.hs xc.e.ha xc.e.hn xc.e.ht xc.e.hm
  rcases h with ⟨u, rfl, hv, hk⟩ | ⟨tp, cs, us', rfl, htp, hp, hk⟩
  · obtain ⟨u1, u2, rfl, r1, r2⟩ := vals2 r
    cases r1
    obtain rfl := hv.eq r2
    exact PySem.W.kia_one Z I.kIn J hk (fun z => nomatch z) fun tk => ⟨.bl b, H, I.tok tk, rfl, q⟩
  · obtain ⟨u1, u2, rfl, r1, r2⟩ := vals2 r
    cases r1
    cases r2
    have ho := (show ObjOk X.prog X.w H s.heap tp (.tup cs) from I.hok tp _ htp)
    obtain ⟨_, its, rv, o, h1, h2, n, h3⟩ := ho
    obtain rfl := ClsV.all hp rv
    obtain ⟨oc, odd, dt, sl⟩ := o
    dsimp only at h2 h3
    subst h2 h3
    exact PySem.W.kia_tup Z I.kIn J h1 hk (fun z => nomatch z) fun tk => ⟨.bl b, H, I.tok tk, rfl, q⟩
end

/-! ### what they are worth in the suite -/
section
variable {K : PySem.W.Frag} {e : En} {d : D} {m : Md} {te : TE} {ta : TA} {C a : Addr} {f : Str} {fs : List (Str × D)} {od : Option Addr} {o : Option (List (Str × D))} {b : Bool} {cs : List V} {us : List Value}
theorem ev_atS (h : Ev K .dat te e (heldD K a od (some fs))) (xc : XC K C) (n : NoAttr K C f) (hl : fs.lookup f = some d) : Ev K m (tAtS K a (.ref C) od f te) e d := Ev.up fun B T0 σ H T s Q q => h B T0 σ H T s _ fun v H1 T1 g i => by
  obtain ⟨rfl, hx⟩ := held_is i
  cases od with
  | none => exact hx.elim
  | some dd =>
    obtain ⟨fvs, h1, h2⟩ := hx
    obtain ⟨v, l, iv⟩ := h2.lookup hl
    exact ⟨C, rfl, xc, n, rfl, dd, fvs, v, rfl, g.s _ _ h1, l, q v H1 T1 g iv⟩
/-- the values of constants -/
def ConstA (ta : TA) (cs : List V) : Prop := ∀ σ H (Q : List V → Hp → Prop), Q cs H → ta σ H Q
theorem ca_nil : ConstA tNil [] := fun σ H Q q => q
theorem ca_cons {c : V} (h : ConstA ta cs) : ConstA (tCons (tC c) ta) (c :: cs) := fun σ H Q q => h σ H _ q
theorem held_xd {T H : Hp} (hs : Le T H) (hx : XIs K T od o) : ∀ dd, od = some dd → ∃ fs, H dd = some (.xd fs) := fun dd e => by
  subst e
  cases o with
  | none => exact hx.elim
  | some fs =>
    obtain ⟨fvs, h1, _⟩ := hx
    exact ⟨fvs, hs _ _ h1⟩
theorem ev_isiS {c : V} {u : Value} (h : Ev K .dat te e (heldD K a od o)) (xc : XC K C) (hc : ClsV c u) (hk : PySem.W.kitOne K (.ref C) u = some b) : Ev K m (tCB (rIsiS K a (.ref C) od) (tCons te (tCons (tC c) tNil))) e (.bl b) := Ev.up fun B T0 σ H T s Q q => h B T0 σ H T s _ fun v H1 T1 g i => by
  obtain ⟨rfl, hx⟩ := held_is i
  exact ⟨c, C, b, rfl, xc, held_xd g.s hx, q _ H1 T1 g (.bl b), .inl ⟨u, rfl, hc, hk⟩⟩
theorem ev_isiST (h : Ev K .dat te e (heldD K a od o)) (xc : XC K C) (ha : ConstA ta cs) (hp : Paired ClsV cs us) (hl : cs.length ≤ sizeLine) (hk : PySem.W.kitAny K (.ref C) us = some b) :
    Ev K m (tCB (rIsiS K a (.ref C) od) (tCons te (tCons (tTup ta) tNil))) e (.bl b) := Ev.up fun B T0 σ H T s Q q => h B T0 σ H T s _ fun v H1 T1 g i => by
  obtain ⟨rfl, hx⟩ := held_is i
  refine ha σ H1 _ ⟨hl, fun p hpn => ?_⟩
  have g2 := Gr.new (o := .tup cs) g.s hpn
  exact ⟨.non, C, b, rfl, xc, fun dd e => by
    obtain ⟨fs, z⟩ := held_xd g.s hx dd e
    exact ⟨fs, g2.h _ _ z⟩, q _ _ _ (g.trans g2) (.bl b), .inr ⟨p, cs, us, rfl, upd_same, hp, hk⟩⟩
end
section
variable {K : PySem.W.Frag} {l ys : List Str} {x : Str}
theorem kitTab.any (h : kitTab l K = true) (hx : x ∈ l) : ∀ ys : List Str, (∀ y ∈ ys, y ∈ l) → PySem.W.kitAny K (.ref (gA K x)) (ys.map fun y => .ref (gA K y)) = some (ys.any fun y => decide (x = y))
  | [], _ => rfl
  | y :: ys, hy => by
    refine kitAny_cons (kitTab.one h hx (hy y List.mem_cons_self)) (fun e => ?_) (fun e => ?_)
    · rw [kitTab.any h hx ys fun z hz => hy z (List.mem_cons_of_mem _ hz), List.any_cons, e]; rfl
    · rw [List.any_cons, e]; rfl
theorem paired_own (K : PySem.W.Frag) : ∀ ys : List Str, Paired ClsV (ys.map fun y => V.ref (gA K y)) (ys.map fun y => Value.ref (gA K y))
  | [] => .nil
  | _ :: ys => .cons (.own _) (paired_own K ys)
/-- except clauses -/
def exmTab (l : List Str) (K : PySem.W.Frag) : Bool := l.all fun x => (decide (PySem.W.exmOne K (.ref (gA K x)) (.type "ValueError") = some true) && decide (PySem.W.exmOne K (.ref (gA K x)) (.ref (gA K "FullhandsError")) = some true)) &&
  l.all fun y => decide (PySem.W.exmOne K (.ref (gA K x)) (.ref (gA K y)) = some (decide (x = y)))
theorem exmTab.one {y : Str} (h : exmTab l K = true) (hx : x ∈ l) (hy : y ∈ l) : PySem.W.exmOne K (.ref (gA K x)) (.ref (gA K y)) = some (decide (x = y)) := by
  have h1 := List.all_eq_true.mp h x hx
  exact of_decide_eq_true (List.all_eq_true.mp (and2 h1).2 y hy)
theorem exmTab.own (h : exmTab l K = true) (hx : x ∈ l) : PySem.W.exmOne K (.ref (gA K x)) (.ref (gA K "FullhandsError")) = some true := of_decide_eq_true (and2 (and2 (List.all_eq_true.mp h x hx)).1).2
end
/-! ### readings, named -/
def tRaise0 (K : PySem.W.Frag) (x : Str) (W : WX) : TS := fun _ σ H => W (.ref (gA K x)) none σ H
def tRaiseX (K : PySem.W.Frag) (x : Str) (sp : Sp) (ta : TA) (W : WX) : TS := fun _ σ H => tMkO (gA K x) sp [] ta σ H fun cls d H' => W cls d σ H'
def tTryA (K : PySem.W.Frag) (c : Value) (i : Nat) (tb : WX → TS) (ts : Addr → Value → Option Addr → TS) (Wout : WX) : TS := fun D σ H => tb (wAs K c i ts Wout D) D σ H
def tTryO (K : PySem.W.Frag) (c : Value) (tb : WX → TS) (ts : Addr → Value → Option Addr → TS) (Wout : WX) : TS := fun D σ H => tb (wOnly K c ts Wout D) D σ H

/-! ### defs that hand out a list of one's own -/
def SpO (K : PySem.W.Frag) {α : Type} (ms : List Md) (args : α → List D) (pre : α → Prop) (out : α → OD) : Sp := fun vs H Q _ =>
  ∃ (T : Hp) (x : α), Le T H ∧ pre x ∧ MIss K H H T ms vs (args x) ∧ ∀ a H' T', Gr H T H' T' → H a = none → T' a = none → OwnAt K H' T' a (out x) → Q (.ref a) H'
def SpXO (K : PySem.W.Frag) {α : Type} (ms : List Md) (args : α → List D) (pre : α → Prop) (out : α → OD) (good : α → Prop) (exc : α → Addr → Option (List (Str × D)) → Prop) : Sp := fun vs H Q E =>
  ∃ (T : Hp) (x : α), Le T H ∧ pre x ∧ MIss K H H T ms vs (args x) ∧ (good x → ∀ a H' T', Gr H T H' T' → H a = none → T' a = none → OwnAt K H' T' a (out x) → Q (.ref a) H') ∧ ∀ C o od H' T', exc x C o → Gr H T H' T' → XIs K T' od o → E (.ref C) od H'
def BodyO (P : Program) (w : World) (K : PySem.W.Frag) (mg : Str → Option Value) (base : Heap) (x : Str) (st : Stmt) (N : List Str) (k : Nat) {α : Type} (ms : List Md) (args : α → List D) (pre : α → Prop) (out : α → OD) : Prop :=
  ∀ (f : Addr) (cdv : Value) (A : Around) (outer : List Env) (s : Shared) (H : Hp) (E : XK), Room k (A.deeper (envOfC x (defScope st) s.heap.objs.size f cdv)) →
    ∃ t, PSs (cxOf CX0 P w K mg base N x (defScope st) f cdv A outer s H E).nox (defBody st) t ∧ ∀ a, pre a → Run K (lift E) t (En0 ms (args a) (N.length - ms.length)) { nx := fun _ => False, rt := fun _ => False, ro := fun o => o = out a }
def BodyXO (P : Program) (w : World) (K : PySem.W.Frag) (mg : Str → Option Value) (base : Heap) (x : Str) (st : Stmt) (N : List Str) (k : Nat) {α : Type} (ms : List Md) (args : α → List D) (pre : α → Prop) (out : α → OD) (good : α → Prop) (exc : α → Addr → Option (List (Str × D)) → Prop) : Prop :=
  ∀ (f : Addr) (cdv : Value) (A : Around) (outer : List Env) (s : Shared) (H : Hp) (E : XK), Room k (A.deeper (envOfC x (defScope st) s.heap.objs.size f cdv)) →
    ∃ t, PSs (cxOf (L2.CX P w) P w K mg base N x (defScope st) f cdv A outer s H E) (defBody st) t ∧ ∀ a, pre a → Run K (lift E) t (En0 ms (args a) (N.length - ms.length)) { nx := fun _ => False, rt := fun _ => False, ex := fun _ => exc a, ro := fun o => o = out a ∧ good a }
section
variable {P : Program} {w : World} {K : PySem.W.Frag} {mg : Str → Option Value} {base : Heap} {x : Str} {st : Stmt} {N ps : List Str} {k : Nat} {α : Type} {ms : List Md} {args : α → List D} {pre good : α → Prop} {out : α → OD} {exc : α → Addr → Option (List (Str × D)) → Prop}
theorem Dd.dfO (F : Dd K mg x st [] []) (S : FnScope N ps (defScope st)) (hn : ms.length = ps.length) (hN : ms.length ≤ N.length)
    (bd : ∀ (kV doc pm : Value) (an : Option Addr) (cdv ct : Value) (us : List Value), us.length = ps.length → bindArgs (PySem.W.fnOf x x (defArgs st) (defBody st) (defScope st) .none kV doc pm an cdv ct) ⟨us, []⟩ = pure (ps.zip us))
    (hb : BodyO P w K mg base x st N k ms args pre out) : Df P w K mg base x (k + 1) [] (SpO K ms args pre out) := by
  obtain ⟨f, fd, F, hm⟩ := F
  refine ⟨CX0, f, fd, ps, [], F.ok S (fun vs H Q E h => ?_) (fun cdv A outer s H vs Q E hr h => ?_), hm, F.kp, F.bindsN bd, .nil, fun X _ _ => pass0⟩
  · obtain ⟨T, a, _, _, hm, _⟩ := h
    rw [hm.len.1, hn]
  · obtain ⟨t, ht, hrun⟩ := hb f cdv A outer s H E hr
    obtain ⟨T, a, hT, hp, hm, hq⟩ := h
    refine ⟨t, ht.nox, hrun a hp H T _ H T _ (sat_start hT hm hN) ⟨fun _ _ _ _ p => p.elim, fun _ _ _ _ p => p.elim, fun _ _ _ _ p => p.elim, fun _ _ _ _ p => p.elim, fun _ _ _ _ _ _ _ p => p.elim, fun o b H' T' p g hb ht ho => ?_⟩⟩
    subst p
    exact hq b H' T' g hb ht ho
theorem Dd.dfXO (F : Dd K mg x st [] []) (S : FnScope N ps (defScope st)) (hn : ms.length = ps.length) (hN : ms.length ≤ N.length)
    (bd : ∀ (kV doc pm : Value) (an : Option Addr) (cdv ct : Value) (us : List Value), us.length = ps.length → bindArgs (PySem.W.fnOf x x (defArgs st) (defBody st) (defScope st) .none kV doc pm an cdv ct) ⟨us, []⟩ = pure (ps.zip us))
    (hb : BodyXO P w K mg base x st N k ms args pre out good exc) : DfX P w K mg base x (k + 1) [] (SpXO K ms args pre out good exc) := by
  obtain ⟨f, fd, F, hm⟩ := F
  refine ⟨f, fd, ps, [], F.ok S (fun vs H Q E h => ?_) (fun cdv A outer s H vs Q E hr h => ?_), hm, F.kp, F.bindsN bd, .nil⟩
  · obtain ⟨T, a, _, _, hm, _⟩ := h
    rw [hm.len.1, hn]
  · obtain ⟨t, ht, hrun⟩ := hb f cdv A outer s H E hr
    obtain ⟨T, a, hT, hp, hm, hq, hx⟩ := h
    refine ⟨t, ht, hrun a hp H T _ H T _ (sat_start hT hm hN) ⟨fun _ _ _ _ p => p.elim, fun _ _ _ _ p => p.elim, fun _ _ _ _ p => p.elim, fun _ _ _ _ p => p.elim, fun e σ H' T' C od o p s' x => hx C o od H' T' p s'.gr x, fun o b H' T' p g hb ht ho => ?_⟩⟩
    obtain ⟨rfl, hg⟩ := p
    exact hq hg b H' T' g hb ht ho
/-- where it raises nothing -/
theorem DfX.df {sp sp' : Sp} (F : DfX P w K mg base x k [] sp) (h : ∀ vs H Q E, sp' vs H Q E → sp vs H Q E) : Df P w K mg base x k [] sp' := by
  obtain ⟨f, fd, ps, ds, F, hm, hk, hb, hd⟩ := F.ex
  exact ⟨L2.CX P w, f, fd, ps, ds, F.imp h, hm, hk, hb, hd, fun X h1 h2 => by subst h1 h2; exact passL⟩
theorem SpXO.quiet {pre' : α → Prop} (hp : ∀ a, pre' a → pre a ∧ good a ∧ ∀ C o, ¬ exc a C o) : ∀ vs H Q E, SpO K ms args pre' out vs H Q E → SpXO K ms args pre out good exc vs H Q E := fun vs H Q E ⟨T, a, hT, h1, hm, hq⟩ =>
  ⟨T, a, hT, (hp a h1).1, hm, fun _ => hq, fun C o od H' T' hx => absurd hx ((hp a h1).2.2 C o)⟩
end
section
variable {K : PySem.W.Frag} {W : WX} {e : En} {te : TE} {ta : TA} {α : Type} {ms : List Md} {args : α → List D} {pre good : α → Prop} {out : α → OD} {exc : α → Addr → Option (List (Str × D)) → Prop}
theorem ev_callO (a : α) (hp : pre a) (h : EvA K ms ta e (args a)) : EvO K (tCall (SpO K ms args pre out) [] E0 ta) e (out a) := fun B T0 σ H T s Q q => h B T0 σ H T s _ fun vs H1 T1 g i => by
  show SpO K ms args pre out (vs ++ []) H1 Q E0
  rw [List.append_nil]
  exact ⟨T1, a, g.s, hp, i.rebase (s.gr.h.trans g.h) g.s, fun b H2 T2 g2 n1 n2 ho => q b H2 T2 (g.trans g2) (g.h.back n1) n2 ho⟩
theorem evx_callO (a : α) (hp : pre a) (h : EvA K ms ta e (args a)) : EvX K W (tCallS (SpXO K ms args pre out good exc) (WE W) ta) e (fun d => good a ∧ d = (out a).d) (exc a) := fun B T0 σ H T s Q q qx => h B T0 σ H T s _ fun vs H1 T1 g i => by
  refine ⟨T1, a, g.s, hp, i.rebase (s.gr.h.trans g.h) g.s, fun hg b H2 T2 g2 n1 n2 ho => ?_, fun C o od H2 T2 hx g2 x => qx C o od H2 T2 hx (g.trans g2) x⟩
  obtain ⟨u, hu, hi⟩ := ho.give n2
  have g3 : Gr H1 T1 H2 (upd T2 b u) := ⟨g2.h, g2.t.trans (Le.new n2), fun c w z => by
    by_cases hb : c = b
    · subst hb; rw [upd_same] at z; cases z; exact hu
    · rw [upd_ne hb] at z; exact g2.s c w z, fun c w z z' => by
    by_cases hb : c = b
    · subst hb; exact .inl n1
    · rw [upd_ne hb] at z; exact g2.n c w z z'⟩
  exact q _ _ H2 _ ⟨hg, rfl⟩ (g.trans g3) hi
end
section
variable {K : PySem.W.Frag} {W : WX} {e : En} {P : Po} {i : Nat}
theorem run_tryA {tb : WX → TS} {ts : Addr → Value → Option Addr → TS} {c : Value} (PX : En → Addr → Option (List (Str × D)) → Prop)
    (hb : ∀ W, Run K W (tb W) e { P with ex := PX })
    (hs : ∀ e' C o, PX e' C o → ∃ b, PySem.W.exmOne K (.ref C) c = some b ∧
      (b = true → ∀ a od, Run K (fun _ _ _ _ => False) (ts a (.ref C) od) (e'.set i (.dat (heldD K a od o))) { nx := fun e2 => P.nx (e2.set i .no), rt := P.rt, bk := fun e2 => P.bk (e2.set i .no), ct := fun e2 => P.ct (e2.set i .no), ro := P.ro }) ∧ (b = false → P.ex e' C o)) :
    Run K W (tTryA K c i tb ts W) e P := run_tryAs PX hb hs
/-- nothing is let out -/
theorem run_tryA0 {tb : WX → TS} {ts : Addr → Value → Option Addr → TS} {c : Value} (PX : En → Addr → Option (List (Str × D)) → Prop)
    (hb : ∀ W, Run K W (tb W) e { P with ex := PX })
    (hs : ∀ e' C o, PX e' C o → PySem.W.exmOne K (.ref C) c = some true ∧
      ∀ a od, Run K (fun _ _ _ _ => False) (ts a (.ref C) od) (e'.set i (.dat (heldD K a od o))) { nx := fun e2 => P.nx (e2.set i .no), rt := P.rt, bk := fun e2 => P.bk (e2.set i .no), ct := fun e2 => P.ct (e2.set i .no), ro := P.ro }) :
    Run K W (tTryA K c i tb ts (fun _ _ _ _ => False)) e P := fun B T0 σ H T Dn s f =>
  run_tryAs (Wout := fun _ _ _ _ => False) (P := { P with ex := fun _ _ _ => False }) (i := i) PX hb (fun e' C o h => ⟨true, (hs e' C o h).1, fun _ => (hs e' C o h).2, fun z => nomatch z⟩) B T0 σ H T Dn s ⟨f.nx, f.rt, f.bk, f.ct, fun _ _ _ _ _ _ _ q => q.elim, f.ro⟩
end
end Fh

set_option Elab.async false
set_option linter.all false
set_option maxRecDepth 100000
set_option maxHeartbeats 4000000
/-! FhEn: enumerate of a list, its pairs without a dict -/
namespace Fh
open PySem PySem.Spec PyProof.Rows L2
def IteN (K : PySem.W.Frag) (a : Addr) : It :=
  ⟨fun i H => ∃ (xs : List V) (x : V), SqL K H a xs ∧ xs[i]? = some x, fun i H v H' => ∃ T x, ∃ ob : Obj, v = .ref T ∧ ob.dict = none ∧ H T = none ∧ H' = upd H T (.frz ob (.tup [.int (i : Nat), x])) ∧ ∀ xs, SqL K H a xs → xs[i]? = some x, fun i H => ∃ xs : List V, SqL K H a xs ∧ xs.length ≤ i⟩
theorem turn_enumN {P : Program} {w : World} {K : PySem.W.Frag} {elts : List Expr} {kk : Nat} {tpos : Pos} (a e it : Addr) :
    Turn P w K (.Tuple elts kk tpos) (IteN K a) [e, it] e (fun i h => (∃ old, IsEnum h e it ((i : Nat) : Int) old) ∧ h.IsListIter it a i ∧ e ≠ it) where
  mem := by simp
  obj := fun i h st b hb => by
    obtain ⟨⟨old, he⟩, ⟨o, ho, hc, hd⟩, _⟩ := st
    have e' : b = e ∨ b = it := by simpa using hb
    rcases e' with z | z
    · rw [z]; exact ⟨_, he, fun v q => nomatch q⟩
    · rw [z]; exact ⟨o, ho, fun v q => by rw [hd] at q; cases q⟩
  keep := fun i h h' st k => let ⟨⟨old, he⟩, hi, hne⟩ := st; ⟨⟨old, k e (by simp) _ he⟩, hi.at fun o q => k it (by simp) o q, hne⟩
  item := by
    intro X hP hw hK hc i pins s σ H E I hf st hg
    subst hP hw hK
    obtain ⟨⟨old, he⟩, hit, hne⟩ := st
    obtain ⟨xs, x, hq, hx⟩ := hg
    obtain ⟨its, rv, p, hz⟩ := I.list hq
    have p2 : s.heap.IsList a its.toArray := p.isList
    obtain ⟨u, hu, ru⟩ := rv.get hx
    have hil' : i < its.toArray.size := by
      have := (List.getElem?_eq_some_iff.mp hu).1
      simpa using this
    have hel : e < s.heap.objs.size := Heap.lt_size he
    have hil : it < s.heap.objs.size := by obtain ⟨_, q, _⟩ := hit; exact Heap.lt_size q
    have hai : a ≠ it := by
      intro q
      obtain ⟨o1, q1, c1, _⟩ := p2
      obtain ⟨o2, q2, c2, _⟩ := hit
      rw [q, q2] at q1; cases q1
      rw [c2] at c1; injection c1 with c3; exact absurd c3 (by decide)
    have hae : a ≠ e := by
      intro q
      obtain ⟨o1, q1, c1, _⟩ := p2
      have q2 := he
      unfold IsEnum at q2
      rw [q, q2] at q1; cases q1
      injection c1 with c3; exact absurd c3 (by decide)
    refine wpAny_pyNext_enum_itemD (Draws.list (A := X.A.in1) (I.ok.hd hc) it a hai its.toArray) he ⟨hit, p2⟩ hil' hne (by simp; exact ⟨hne, fun q => hae q.symm⟩) fun x' h' tk hx' ho hst hT hsz hk => ?_
    have hxu : x' = u := by
      have h1 : its.toArray[i]? = some x' := hx'
      have h2 : its.toArray[i]? = some u := by simpa using hu
      rw [h2] at h1
      exact (Option.some.inj h1).symm
    subst hxu
    refine ⟨_, rfl, wpAny_letOwnedTupleGo_enum (s := { s with heap := h', toks := tk + 1 }) ho fun h'' he' sb => ?_⟩
    have hT2 : h''.get? s.heap.objs.size = some { cls := .type "tuple", data := .seq #[.int i tk, x'] } := (sb.2 _ (Nat.ne_of_gt hel)).trans hT
    have new : ObjOk X.prog X.w (upd H s.heap.objs.size (.frz { cls := .type "tuple", data := .seq #[.int i tk, x'] } (.tup [.int (i : Nat), x]))) h'' s.heap.objs.size (.frz { cls := .type "tuple", data := .seq #[.int i tk, x'] } (.tup [.int (i : Nat), x])) :=
      ⟨hT2, by show 2 ≤ sizeLine; decide, [.int i tk, x'], .cons ⟨_, rfl⟩ (.cons ru .nil), ⟨_, hT2, rfl, _, rfl⟩⟩
    have I1 : Inv X pins σ (upd H s.heap.objs.size (.frz { cls := .type "tuple", data := .seq #[.int i tk, x'] } (.tup [.int (i : Nat), x]))) { s with heap := h'', toks := tk + 1 } :=
      I.turnedNew (ch := [e, it]) (fun b ob hb q => (sb.2 b (fun z => hb (by simp [z]))).trans (hk b ob (fun z => hb (by simp [z])) (fun z => hb (by simp [z])) q)) hf (Nat.le_refl _) new
    refine ⟨.ref s.heap.objs.size, _, I1, rfl, ⟨_, x, _, rfl, rfl, I.hok.fresh (Nat.le_refl _), rfl, fun ys hy => by rw [I.list_inj hy hq]; exact hx⟩, ⟨⟨x', ?_⟩, hst.1.at fun o q => (sb.2 it (Ne.symm hne)).trans q, hne⟩, fun b hb => ?_⟩
    · have e1 : ((i + 1 : Nat) : Int) = (i : Int) + 1 := by omega
      rw [e1]; exact he'
    · have hb' : b < s.heap.objs.size := by
        have e' : b = e ∨ b = it := by simpa using hb
        rcases e' with z | z
        · rw [z]; exact hel
        · rw [z]; exact hil
      rw [upd_ne (Nat.ne_of_lt hb')]
      exact (hf b hb).1
  done := by
    intro X hP hw hK hc i pins s σ H E I hf st hg
    subst hP hw hK
    obtain ⟨⟨old, he⟩, hit, hne⟩ := st
    obtain ⟨xs, hq, hx⟩ := hg
    obtain ⟨its, rv, p, hz⟩ := I.list hq
    have p2 : s.heap.IsList a its.toArray := p.isList
    obtain ⟨f0, f1, f2, f3, f4, f5⟩ := hf it (by simp)
    have hl := rv.length
    have hai : a ≠ it := by
      intro q
      obtain ⟨o1, q1, c1, _⟩ := p2
      obtain ⟨o2, q2, c2, _⟩ := hit
      rw [q, q2] at q1; cases q1
      rw [c2] at c1; injection c1 with c3; exact absurd c3 (by decide)
    exact wpAny_pyNext_enum_end (I.ok.hd hc) he hit p2 (by simp; omega) fun h' eb => ⟨rfl, I.turned (t' := s.toks) (fun b o hb q => eb b o hb q) f0 f1 f3 f4 f5⟩
  self := fun A i s Q E st h => let ⟨⟨_, he⟩, _⟩ := st; wpAny_pyIter_enum he h
def iEnumN (K : PySem.W.Frag) (ta : TA) : TI := fun σ H R => ta σ H fun vs H1 => ∃ a xs, vs = [.ref a] ∧ SqL K H1 a xs ∧ R (IteN K a) H1
theorem pi_enumN {X : Cx} {e : Expr} {ta : TA} {p pos tpos : Pos} {elts : List Expr} {kk : Nat} (hg : Gl X "enumerate") (hm : X.mg "enumerate" = none) (ha : PA X [e] ta) (hs : starEach [e] X.env = [(false, eval e X.env)] := by rfl) :
    PI X (.Tuple elts kk tpos) (.Call (.Name "enumerate" p) [e] [] pos) (iEnumN X.K ta) := by
  refine ⟨fun pins s σ H R I h => ?_⟩
  refine Call_ (ld_blt I hg hm boot_enumerate (PyProof.Rows.callWith_type1 (thn (ha.run pos pins s σ H _ I h) fun us s1 ⟨vs, H1, I1, r1, q1⟩ => ?_) hs rfl))
  obtain ⟨a, xs, ex, hq, q⟩ := q1
  subst ex
  cases r1 with
  | cons r rr =>
    cases rr
    cases r
    obtain ⟨its, rv, p', hz⟩ := I1.list hq
    have p2 : s1.heap.IsList a its.toArray := p'.isList
    refine call_enumerate_list p2 fun h' he hit hsz hk => wpAny_pyIter_enum he ?_
    have I2 : Inv X pins σ H1 { s1 with heap := h' } := I1.kept (t' := s1.toks) hk
    refine ⟨s1.heap.objs.size + 1, [s1.heap.objs.size + 1, s1.heap.objs.size], _, _, H1, rfl, I2, turn_enumN a (s1.heap.objs.size + 1) s1.heap.objs.size, ⟨⟨.none, he⟩, hit, Nat.succ_ne_self _⟩, fun b hb => ?_, q⟩
    have e' : b = s1.heap.objs.size + 1 ∨ b = s1.heap.objs.size := by simpa using hb
    have hle : s1.heap.objs.size ≤ b := by
      rcases e' with z | z
      · rw [z]; exact Nat.le_add_right _ _
      · rw [z]; exact Nat.le_refl _
    exact I1.fpOk hle (I1.hok.fresh hle)
end Fh

set_option Elab.async false
set_option linter.all false
set_option maxRecDepth 100000
set_option maxHeartbeats 4000000
/-! Fh: texts; lists repeated; enumerate -/
namespace Fh
open PySem PySem.Spec PyProof.Rows L2

def rSplit : V → List V → Hp → VK → Prop := fun x xs H Q => ∃ a b, x = .str a ∧ xs = [.str b] ∧ (b.length == 0) = false ∧ a.length + 2 ≤ sizeLine ∧ rNewStrs (Txt.split a b) H Q
def rJoin (K : PySem.W.Frag) : V → List V → Hp → VK → Prop := fun x xs H Q => ∃ a p, ∃ ys : List Str, x = .str a ∧ xs = [.ref p] ∧ (SqL K H p (ys.map V.str) ∨ SqT K H p (ys.map V.str)) ∧ (ys.map (·.length)).sum + ys.length * a.length ≤ 16777216 ∧ Q (.str (Txt.join a ys)) H
def rStrU : List V → Hp → VK → Prop := fun xs H Q => (∃ a, xs = [.str a] ∧ Q (.str a) H) ∨ ∃ i, xs = [.int i] ∧ i.natAbs.log2 < 1920 ∧ Q (.str (toString i)) H
def rIntU : List V → Hp → VK → Prop := fun xs H Q => rIntC xs H Q ∨ ∃ a n, xs = [.str a] ∧ PySem.intText? a = some n ∧ a.length ≤ 640 ∧ Q (.int n) H
def rInT (neg : Bool) : R2 := fun x y H Q => ∃ (c : Nat) (z : Str), x = .str ⟨#[c]⟩ ∧ y = .str z ∧ Q (.bl (if neg then !decide (c ∈ z.cps.toList) else decide (c ∈ z.cps.toList))) H
section
variable {X : Cx}
theorem mt_splitU : MtR X "str.split" rSplit := mt_split
theorem mt_joinU : MtR X "str.join" (rJoin X.K) := mt_join
theorem call_strU : CallR X (.type "str") rStrU := SkE.call_str_str.or call_str_int
theorem call_intS : CallR X (.type "int") rIntU := call_intU.or call_int_str
theorem op_inT : OpR X (compareOp .In) (rInT false) := op_in_sign
theorem op_notInT : OpR X (compareOp .NotIn) (rInT true) := op_notIn_sign
end
section
variable {K : PySem.W.Frag} {e : En} {d d1 d2 : D} {xs ys : List D} {m m1 m2 : Md} {te ta tb : TE} {x y z : Str} {i : Int} {c : Nat} {ss : List Str} {b : Bool}
theorem str_now {B H T : Hp} {v : V} (h : MIs m K B H T v (.str x)) (hB : Le B H) (hT : Le T H) : v = .str x := by
  have h2 := h.now hB hT
  cases h2
  rfl
theorem ev_ixS (ha : Ev K .now ta e (.str z)) (hb : Ev K .now tb e (.int i)) (hz : z.length ≤ sizeLine) (h : atI z.cps.toList i = some c) : Ev K m (tOp (rIx K) ta tb) e (.str ⟨#[c]⟩) := ev_op ha hb fun B H T u v hB hT i1 i2 Q q => by
  obtain rfl := str_now i1 hB hT
  have i3 := i2.now hB hT
  cases i3
  exact .inr (.inr ⟨z, i, c, rfl, rfl, hz, h, q _ H T (Gr.refl hT) (MIs.dat (.str _) hT)⟩)
theorem ev_catS (ha : Ev K .now ta e (.str x)) (hb : Ev K .now tb e (.str y)) (hz : x.length + y.length ≤ sizeLine) : Ev K m (tOp (rPlus K) ta tb) e (.str (x ++ y)) := ev_op ha hb fun B H T u v hB hT i1 i2 Q q => by
  obtain rfl := str_now i1 hB hT
  obtain rfl := str_now i2 hB hT
  exact .inr (.inr ⟨x, y, rfl, rfl, hz, q _ H T (Gr.refl hT) (MIs.dat (.str _) hT)⟩)
theorem ev_strS (h : Ev K .now te e (.str x)) : Ev K m (tCB rStrU (tCons te tNil)) e (.str x) := ev_cb (ea_cons h ea_nil) fun B H T vs hB hT hm Q q => by
  match vs, hm with
  | [v], hm =>
    obtain rfl := str_now hm.1 hB hT
    exact .inl ⟨x, rfl, q _ H T (Gr.refl hT) (MIs.dat (.str _) hT)⟩
theorem ev_strI (h : Ev K .now te e (.int i)) (hi : i.natAbs.log2 < 1920) : Ev K m (tCB rStrU (tCons te tNil)) e (.str (toString i)) := ev_cb (ea_cons h ea_nil) fun B H T vs hB hT hm Q q => by
  match vs, hm with
  | [v], hm =>
    have i1 := hm.1.now hB hT
    cases i1
    exact .inr ⟨i, rfl, hi, q _ H T (Gr.refl hT) (MIs.dat (.str _) hT)⟩
theorem ev_intS (h : Ev K .now te e (.str x)) (hn : PySem.intText? x = some i) (hl : x.length ≤ 640) : Ev K m (tCB rIntU (tCons te tNil)) e (.int i) := ev_cb (ea_cons h ea_nil) fun B H T vs hB hT hm Q q => by
  match vs, hm with
  | [v], hm =>
    obtain rfl := str_now hm.1 hB hT
    exact .inr ⟨x, i, rfl, hn, hl, q _ H T (Gr.refl hT) (MIs.dat (.int _) hT)⟩
theorem ev_lenS (h : Ev K .now te e (.str x)) (hz : x.length ≤ sizeLine) : Ev K m (tCB (rLenU K) (tCons te tNil)) e (.int (x.length : Nat)) := ev_cb (ea_cons h ea_nil) fun B H T vs hB hT hm Q q => by
  match vs, hm with
  | [v], hm =>
    obtain rfl := str_now hm.1 hB hT
    exact ⟨_, x.length, rfl, ⟨hz, rfl⟩, q _ H T (Gr.refl hT) (MIs.dat (.int _) hT)⟩
theorem ev_inT {neg : Bool} (ha : Ev K .now ta e (.str ⟨#[c]⟩)) (hb : Ev K .now tb e (.str z)) : Ev K m (tOp (rInT neg) ta tb) e (.bl (if neg then !decide (c ∈ z.cps.toList) else decide (c ∈ z.cps.toList))) := ev_op ha hb fun B H T u v hB hT i1 i2 Q q => by
  obtain rfl := str_now i1 hB hT
  obtain rfl := str_now i2 hB hT
  exact ⟨c, z, rfl, rfl, q _ H T (Gr.refl hT) (MIs.dat (.bl _) hT)⟩
theorem iss_strs {H : Hp} : ∀ ss : List Str, Iss K H (ss.map V.str) (ss.map D.str)
  | [] => .nil
  | s :: ss => .cons (.str s) (iss_strs ss)
theorem Iss.strs {H : Hp} : ∀ {ss : List Str} {vs : List V}, Iss K H vs (ss.map D.str) → vs = ss.map V.str
  | [], _, h => by cases h; rfl
  | s :: ss, _, h => by
    cases h with
    | cons h1 h2 => cases h1; rw [h2.strs]; rfl
theorem evo_split (ha : Ev K .now ta e (.str x)) (hb : Ev K .now tb e (.str y)) (hy : (y.length == 0) = false) (hz : x.length + 2 ≤ sizeLine) (hzs : (Txt.split x y).length ≤ sizeLine) : EvO K (tBM K "str" rSplit ta (tCons tb tNil)) e (.lst ((Txt.split x y).map D.str)) := fun B T0 σ H T s Q q =>
  ha B T0 σ H T s _ fun v H1 T1 g1 i1 => by
    obtain rfl := str_now i1 (s.gr.h.trans g1.h) g1.s
    refine ⟨rfl, hb B T0 σ H1 T1 (s.grow g1) _ fun w H2 T2 g2 i2 => ?_⟩
    obtain rfl := str_now i2 ((s.grow g1).gr.h.trans g2.h) g2.s
    refine ⟨x, y, rfl, rfl, hy, hz, fun p hp => ?_⟩
    exact q p _ _ ((g1.trans g2).trans (Gr.own g2.s hp)) ((g1.trans g2).h.back hp) (g2.s.back hp) ⟨_, upd_same, iss_strs _, by rw [List.length_map]; exact hzs⟩
theorem ev_join (ha : Ev K .now ta e (.str x)) (hb : Ev K .now tb e (.lst (ss.map D.str))) (hz : (ss.map (·.length)).sum + ss.length * x.length ≤ 16777216) : Ev K m (tBM K "str" (rJoin K) ta (tCons tb tNil)) e (.str (Txt.join x ss)) := Ev.up fun B T0 σ H T s Q q =>
  ha B T0 σ H T s _ fun v H1 T1 g1 i1 => by
    obtain rfl := str_now i1 (s.gr.h.trans g1.h) g1.s
    refine ⟨rfl, hb B T0 σ H1 T1 (s.grow g1) _ fun w H2 T2 g2 i2 => ?_⟩
    have i3 := i2.now ((s.grow g1).gr.h.trans g2.h) g2.s
    cases i3 with
    | @lst a vs _ ha hi =>
      obtain rfl := hi.strs
      exact ⟨x, a, ss, rfl, rfl, .inl (SqL.of ha), hz, q _ H2 T2 (g1.trans g2) (.str _)⟩
theorem evo_rep {k : Int} (ha : Ev K .dat ta e (.lst xs)) (hb : Ev K .now tb e (.int k)) (h0 : -(2 ^ 63) ≤ k) (h1 : k < 2 ^ 63) (hz : xs.length * k.toNat ≤ sizeLine) : EvO K (tOp rTimes ta tb) e (.lst (List.replicate k.toNat xs).flatten) := ev_opO ha hb fun B H T u v hB hT i1 i2 Q q => by
  have i3 := i2.now hB hT
  cases i3
  cases i1 with
  | @lst a vs _ ha hi =>
    refine .inr (.inl ⟨a, k, vs, rfl, rfl, hT _ _ ha, h0, h1, by rw [hi.length]; exact hz, fun p hp => ?_⟩)
    refine q p _ _ (Gr.own hT hp) hp (hT.back hp) ⟨_, upd_same, ?_⟩
    have key : ∀ n : Nat, Iss K T (List.replicate n vs).flatten (List.replicate n xs).flatten := by
      intro n
      induction n with
      | zero => exact .nil
      | succ n ih => exact hi.append ih
    refine ⟨key _, ?_⟩
    rw [List.length_flatten, List.map_replicate, List.sum_replicate_nat, Nat.mul_comm]; exact hz
/-! ### what is walked: a text's signs, enumerate of a list -/
theorem ei_str (h : Ev K .now te e (.str z)) : EvI K .dat (iStr te) e (z.cps.toList.map fun c => D.str ⟨#[c]⟩) := fun B T0 σ H T s R q => h B T0 σ H T s _ fun v H1 T1 g i => by
  obtain rfl := str_now i (s.gr.h.trans g.h) g.s
  refine ⟨z, rfl, q _ H1 T1 g ⟨fun H T => Le T H, g.s, fun _ _ _ _ _ _ _ h => h, fun i d H2 T2 hs hx hB hT => ?_, fun i H2 T2 hs hB hT hi => ?_⟩⟩
  · rw [List.getElem?_map] at hx
    have hi : i < z.cps.toList.length := by
      cases q : z.cps.toList[i]? with
      | none => rw [q] at hx; cases hx
      | some c => exact (List.getElem?_eq_some_iff.mp q).1
    refine ⟨(show i < z.cps.size by simpa using hi), fun v H3 y => ?_⟩
    obtain ⟨rfl, c, hc, rfl⟩ := y
    have hc2 : z.cps.toList[i]? = some c := by simpa using hc
    rw [hc2] at hx
    cases hx
    exact ⟨T2, Gr.refl hT, .str _⟩
  · show z.cps.size ≤ i
    simpa using hi
theorem ei_enumZ (h : Ev K .dat te e (.lst xs)) : EvIz K .dat (iEnumN K (tCons te tNil)) e (xs.zipIdx.map fun p => D.tup [.int (p.2 : Nat), p.1]) := fun B T0 σ H T s R q => h B T0 σ H T s _ fun v H1 T1 g i => by
  cases i with
  | @lst a vs _ ha hi hz0 =>
    refine ⟨a, vs, rfl, SqL.of (g.s _ _ ha), q _ H1 T1 g (by simpa using hz0) ⟨fun H T => Le T1 T ∧ Le T H, ⟨Le.refl _, g.s⟩, fun _ _ _ _ hs h1 _ h2 => ⟨hs.1.trans h1, h2⟩, fun i d H2 T2 hs hx hB hT => ?_, fun i H2 T2 hs hB hT hl => ?_⟩⟩
    · rw [List.getElem?_map, List.getElem?_zipIdx] at hx
      cases qd : xs[i]? with
      | none => rw [qd] at hx; cases hx
      | some d0 =>
        rw [qd] at hx
        simp only [Option.map_some, Option.some.injEq, Nat.zero_add] at hx
        subst hx
        obtain ⟨v0, hv0, iv0⟩ := hi.get qd
        have hs1 : SqL K H2 a vs := SqL.of (hT _ _ (hs.1 _ _ ha))
        refine ⟨⟨vs, v0, hs1, hv0⟩, fun v H3 y => ?_⟩
        obtain ⟨t, x, ob, rfl, hob, ht, rfl, hy⟩ := y
        have hx2 := hy vs hs1
        rw [hv0] at hx2
        cases hx2
        have g2 := Gr.new (o := .frz ob (.tup [.int (i : Nat), v0])) hT ht
        exact ⟨_, g2, .tup (SqN.of upd_same hob) (.cons (.int _) (.cons (Is.mono (hs.1.trans g2.t) _ iv0) .nil)) (show 2 ≤ sizeLine by decide)⟩
    · have hs1 : SqL K H2 a vs := SqL.of (hT _ _ (hs.1 _ _ ha))
      have hl2 : vs.length ≤ i := by rw [hi.length]; simpa using hl
      first
        | exact ⟨vs, hs1, hl2⟩
        | exact ⟨vs, hs1, by rw [List.getElem?_eq_none hl2]⟩
end
theorem ei_enum' {K : PySem.W.Frag} {e : En} {xs : List D} {te : TE} (h : Ev K .dat te e (.lst xs)) : EvI K .dat (iEnumN K (tCons te tNil)) e (xs.zipIdx.map fun p => D.tup [.int (p.2 : Nat), p.1]) := (ei_enumZ h).toI
/-! ### a dict of the module -/
def rInKd (K : PySem.W.Frag) (d : Addr) (neg : Bool) : R2 := fun x y H Q => ∃ (z : Str) (r : Option Value), x = .str z ∧ y = .ref d ∧ PySem.W.nsIn K d z = some r ∧ Q (.bl (if neg then !r.isSome else r.isSome)) H
section
variable {X : Cx} {d : Addr}
theorem op_inKd (D : ∃ es n, KDict X.K X.w d es n) : OpR X (compareOp .In) (rInKd X.K d false) := by
  obtain ⟨es, n, D⟩ := D
  exact op_in_kd D
theorem op_notInKd (D : ∃ es n, KDict X.K X.w d es n) : OpR X (compareOp .NotIn) (rInKd X.K d true) := by
  obtain ⟨es, n, D⟩ := D
  exact op_notIn_kd D
end
section
variable {K : PySem.W.Frag} {w : World} {e : En} {d : Addr} {ta tb : TE} {m : Md} {z : Str} {r : Option Value} {ks : List Str} {kvs : List (Str × He.Dv)} {i : Int} {neg : Bool}
theorem ev_inKd (ha : Ev K .now ta e (.str z)) (hb : Ev K .now tb e (.raw (.ref d))) (h : PySem.W.nsIn K d z = some r) : Ev K m (tOp (rInKd K d neg) ta tb) e (.bl (if neg then !r.isSome else r.isSome)) := ev_op ha hb fun B H T u v hB hT i1 i2 Q q => by
  obtain rfl := str_now i1 hB hT
  have i3 := i2.now hB hT
  cases i3
  exact ⟨z, r, rfl, rfl, h, q _ H T (Gr.refl hT) (MIs.dat (.bl _) hT)⟩
theorem ev_ixKd (ha : Ev K .now ta e (.raw (.ref d))) (hb : Ev K .now tb e (.str z)) (hd : He.dicW K d = some (He.keysIn w.params ks)) (hv : He.valsB K d kvs = true) (hz : (z, He.Dv.int i) ∈ kvs) : Ev K m (tOp (rIxD K w) ta tb) e (.int i) := ev_op ha hb fun B H T u v hB hT i1 i2 Q q => by
  obtain rfl := str_now i2 hB hT
  have i3 := i1.now hB hT
  cases i3
  obtain ⟨es, n, D⟩ := He.dicW_ok hd
  obtain ⟨u, hu, ru⟩ := He.valsB_ok hv hz
  exact ⟨d, z, .int i, rfl, rfl, ⟨es, n, u, D.at_, D.lit, hu, ru⟩, q _ H T (Gr.refl hT) (MIs.dat (.int _) hT)⟩
end
section
variable {X : Cx} {x z : Str} {pos : Pos}
theorem pe_globS (hg : Gl X x) (h : ∃ t, X.mg x = some (.str z t)) (hd : (x == ("__debug__" : Str)) = false := by decide) : PE X (.Name x pos) (tC (.str z)) := by
  obtain ⟨t, h⟩ := h
  exact pe_glob hg h ⟨t, rfl⟩ hd
end
end Fh

set_option Elab.async false
set_option linter.all false
set_option maxRecDepth 100000
set_option maxHeartbeats 4000000
/-! FhM: rules for typed mirrors: a def's value as a total function, what it needs as a proposition -/
namespace Fh
open PySem PySem.Spec PyProof.Rows L2

/-! ### how values stand as data -/
abbrev eI : Int → D := D.int
abbrev eB : Bool → D := D.bl
abbrev eS : Str → D := D.str
abbrev eN : Unit → D := fun _ => .non
abbrev eX : D → D := fun d => d
abbrev eL {α : Type} (f : α → D) : List α → D := fun l => .lst (l.map f)
abbrev eT {α : Type} (f : α → D) : List α → D := fun l => .tup (l.map f)
abbrev eQ {α : Type} (f : α → D) : Bool × List α → D := fun p => if p.1 = true then .tup (p.2.map f) else .lst (p.2.map f)
abbrev e1 {α : Type} (f : α → D) : α → D := fun a => .tup [f a]
abbrev e2 {α β : Type} (f : α → D) (g : β → D) : α × β → D := fun p => .tup [f p.1, g p.2]
abbrev e3 {α β γ : Type} (f : α → D) (g : β → D) (h : γ → D) : α × β × γ → D := fun p => .tup [f p.1, g p.2.1, h p.2.2]
abbrev e4 {α β γ δ : Type} (f : α → D) (g : β → D) (h : γ → D) (i : δ → D) : α × β × γ × δ → D := fun p => .tup [f p.1, g p.2.1, h p.2.2.1, i p.2.2.2]
abbrev e5 {α β γ δ ε : Type} (f : α → D) (g : β → D) (h : γ → D) (i : δ → D) (j : ε → D) : α × β × γ × δ × ε → D := fun p => .tup [f p.1, g p.2.1, h p.2.2.1, i p.2.2.2.1, j p.2.2.2.2]
def eO {α : Type} (f : α → D) : Option α → D
  | none => .non
  | some a => f a
abbrev oL {α : Type} (f : α → D) : List α → OD := fun l => .lst (l.map f)

/-! ### values with names -/
def letO {α : Type} {β : Sort _} (v : α) (f : α → β) : β := f v
/-- how a turn of a loop ends -/
inductive Fl (S R : Type) where
  | nx (s : S) | bk (s : S) | rt (r : R)
def bindF {S R O : Type} (x : Fl S R) (k : S → O) (kr : R → O) : O := match x with
  | .nx s => k s
  | .bk s => k s
  | .rt r => kr r
def forF {S R X : Type} (step : S → X → Fl S R) : S → List X → Fl S R
  | s, [] => .nx s
  | s, x :: xs => match step s x with
    | .nx s => forF step s xs
    | .bk s => .bk s
    | .rt r => .rt r
/-- every turn's needs, and the needs of what follows -/
def okF {S R X : Type} (step : S → X → Fl S R) (oks : S → X → Prop) (okr : S → Prop) : S → List X → Prop
  | s, [] => okr s
  | s, x :: xs => oks s x ∧ match step s x with
    | .nx s => okF step oks okr s xs
    | .bk s => okr s
    | .rt _ => True
def okS {S X : Type} (step : S → X → S) (oks : S → X → Prop) (okr : S → Prop) : S → List X → Prop
  | s, [] => okr s
  | s, x :: xs => oks s x ∧ okS step oks okr (step s x) xs
def whileS {S : Type} (c : S → Bool) (step : S → S) : Nat → S → S
  | 0, s => s
  | n + 1, s => if c s = true then whileS c step n (step s) else s
def okW {S : Type} (c : S → Bool) (step : S → S) (okc oks okr : S → Prop) : Nat → S → Prop
  | 0, s => okc s ∧ c s = false ∧ okr s
  | n + 1, s => okc s ∧ (c s = true → oks s ∧ okW c step okc oks okr n (step s)) ∧ (c s = false → okr s)
def whileF {S R : Type} (c : S → Bool) (step : S → Fl S R) : Nat → S → Fl S R
  | 0, s => .nx s
  | n + 1, s => if c s = true then (match step s with
    | .nx s => whileF c step n s
    | .bk s => .bk s
    | .rt r => .rt r) else .nx s
def okWF {S R : Type} (c : S → Bool) (step : S → Fl S R) (okc oks okr : S → Prop) : Nat → S → Prop
  | 0, s => okc s ∧ c s = false ∧ okr s
  | n + 1, s => okc s ∧ (c s = true → oks s ∧ match step s with
    | .nx s => okWF c step okc oks okr n s
    | .bk s => okr s
    | .rt _ => True) ∧ (c s = false → okr s)

/-! ### ends -/
abbrev PoR {R : Type} (enc : R → D) (r : R) : Po := { nx := fun _ => D.non = enc r, rt := fun d => d = enc r }
abbrev PoO {R : Type} (enc : R → OD) (r : R) : Po := { nx := fun _ => False, rt := fun _ => False, ro := fun o => o = enc r }
abbrev PoS {S : Type} (env : S → En) (dead : List Nat) (s : S) : Po := { nx := fun e => wipeE e dead = env s, rt := fun _ => False, ct := fun e => wipeE e dead = env s }
abbrev PoJ {S : Type} (env : S → En) (dead : List Nat) (s : S) : Po := { nx := fun e => wipeE e dead = env s, rt := fun _ => False }
abbrev PoL {S R : Type} (env : S → En) (dead : List Nat) (Pk : R → Po) (o : Fl S R) : Po := { nx := fun e => ∃ s, o = .nx s ∧ wipeE e dead = env s, ct := fun e => ∃ s, o = .nx s ∧ wipeE e dead = env s, bk := fun e => ∃ s, o = .bk s ∧ wipeE e dead = env s, rt := fun d => ∃ r, o = .rt r ∧ (Pk r).rt d, ro := fun d => ∃ r, o = .rt r ∧ (Pk r).ro d, ex := fun e C x => ∃ r, o = .rt r ∧ (Pk r).ex (wipeE e dead) C x }

section
variable {K : PySem.W.Frag} {E : WX} {e e0 : En} {te ta tb tc : TE} {tt tu : TT} {m m1 m2 : Md} {b c : Bool} {P : Po} {t u w : TS} {i : Nat} {O S R X α β : Type} {Pf : O → Po} {rest : α → O} {okr : α → Prop} {enc : α → D} {v : α}
theorem Sat.drop {B T0 H T : Hp} {σ : L2.St} (s : Sat K B T0 e σ H T) : ∀ dead : List Nat, Sat K B T0 (wipeE e dead) σ H T
  | [] => s
  | i :: l => by
    have h := (Sat.drop s l).no i (σ.getD i none)
    have q : σ.set i (σ.getD i none) = σ := by
      apply List.ext_getElem?
      intro j
      by_cases hj : i = j
      · subst hj
        by_cases hl : i < σ.length
        · rw [List.getElem?_set_self hl, List.getD_eq_getElem?_getD, List.getElem?_eq_getElem hl]; rfl
        · rw [List.getElem?_eq_none (by rw [List.length_set]; omega), List.getElem?_eq_none (by omega)]
      · rw [List.getElem?_set_ne hj]
    rw [q] at h
    exact h
/-- less is known of the slots -/
theorem Run.drop (dead : List Nat) (h : Run K E t (wipeE e dead) P) : Run K E t e P := fun B T0 σ H T D s f => h B T0 σ H T D (s.drop dead) f
theorem run_last (h : Run K E (tSeq t tNext) e P) : Run K E t e P := h
theorem run_asc (h : Run K E (tSeq t (tSeq u w)) e P) : Run K E (tSeq (tSeq t u) w) e P := h
theorem run_skip (h : Run K E w e P) : Run K E (tSeq tNext w) e P := h
/-! names -/
theorem r_asg (hv : Ev K .dat te e (enc v)) (hk : letO v okr) (h : ∀ x, okr x → Run K E u (e.set i (.dat (enc x))) (Pf (rest x))) : Run K E (tSeq (tAsg te (gName i)) u) e (Pf (letO v rest)) := run_seq (run_asg hv (h v hk))
theorem r_asgB (hv : Ev K .bor te e (enc v)) (hk : letO v okr) (h : ∀ x, okr x → Run K E u (e.set i (.bor (enc x))) (Pf (rest x))) : Run K E (tSeq (tAsg te (gName i)) u) e (Pf (letO v rest)) := run_seq (run_asgB hv (h v hk))
theorem r_asgO {od : α → OD} (hv : EvO K te e (od v)) (hk : letO v okr) (h : ∀ x, okr x → Run K E u (e.set i (.own (od x))) (Pf (rest x))) : Run K E (tSeq (tAsg te (gName i)) u) e (Pf (letO v rest)) := run_seq (run_asgO hv (h v hk))
/-- a statement that changes one slot -/
theorem r_stm {sl : α → Sl} (h0 : ∀ P : Po, P.nx (e.set i (sl v)) → Run K E t e P) (hk : letO v okr) (h : ∀ x, okr x → Run K E u (e.set i (sl x)) (Pf (rest x))) : Run K E (tSeq t u) e (Pf (letO v rest)) := run_seq (h0 _ (h v hk))
/-- one's own becomes data -/
theorem r_give {od : OD} (hi : e[i]? = some (.own od)) (h : Run K E t (e.set i (.dat od.d)) P) : Run K E t e P := run_give hi h
/-! ends -/
theorem r_ret {d : D} (h : Ev K .dat te e d) (q : P.rt d) : Run K E (tRet te) e P := run_ret h q
theorem r_retS {d : D} (h : Ev K .dat te e d) (q : P.rt d) : Run K E (tSeq (tRet te) u) e P := run_seq (run_ret h q)
theorem r_retO {o : OD} (h : EvO K te e o) (q : P.ro o) : Run K E (tRet te) e P := run_retEO h q
theorem r_retOS {o : OD} (h : EvO K te e o) (q : P.ro o) : Run K E (tSeq (tRet te) u) e P := run_seq (run_retEO h q)
theorem r_retV {o : OD} (h : e[i]? = some (.own o)) (q : P.ro o) : Run K E (tRet (tVar i)) e P := run_retOwn h q
theorem r_retVS {o : OD} (h : e[i]? = some (.own o)) (q : P.ro o) : Run K E (tSeq (tRet (tVar i)) u) e P := run_seq (run_retOwn h q)
theorem r_retN (q : P.rt .non) : Run K E tRetN e P := run_retN q
theorem r_retNS (q : P.rt .non) : Run K E (tSeq tRetN u) e P := run_seq (run_retN q)
theorem r_cont (q : P.ct e) : Run K E tCont e P := run_cont q
theorem r_contS (q : P.ct e) : Run K E (tSeq tCont u) e P := run_seq (run_cont q)
theorem r_brk (q : P.bk e) : Run K E tBreak e P := run_brk q
theorem r_brkS (q : P.bk e) : Run K E (tSeq tBreak u) e P := run_seq (run_brk q)
theorem r_end (q : P.nx e) : Run K E tNext e P := run_next q
/-! if -/
theorem r_if {A B : O} {okA okB : Prop} (hc : EvT K tt e c) (hk : (c = true → okA) ∧ (c = false → okB)) (h1 : c = true → okA → Run K E t e (Pf A)) (h2 : c = false → okB → Run K E u e (Pf B)) : Run K E (tIfS tt t u) e (Pf (if c = true then A else B)) := by
  cases c with
  | true => exact run_if hc (fun _ => h1 rfl (hk.1 rfl)) (fun z => nomatch z)
  | false => exact run_if hc (fun z => nomatch z) (fun _ => h2 rfl (hk.2 rfl))
theorem run_ifSeq (h : EvT K tt e c) (h1 : c = true → Run K E (tSeq t w) e P) (h2 : c = false → Run K E (tSeq u w) e P) : Run K E (tSeq (tIfS tt t u) w) e P := fun B T0 σ H T D s f => h B T0 σ H T s _ fun H1 T1 g => by
  cases c with
  | true => exact h1 rfl B T0 σ H1 T1 D (s.grow g) f
  | false => exact h2 rfl B T0 σ H1 T1 D (s.grow g) f
theorem r_ifS {A B : O} {okA okB : Prop} (hc : EvT K tt e c) (hk : (c = true → okA) ∧ (c = false → okB)) (h1 : c = true → okA → Run K E (tSeq t w) e (Pf A)) (h2 : c = false → okB → Run K E (tSeq u w) e (Pf B)) : Run K E (tSeq (tIfS tt t u) w) e (Pf (if c = true then A else B)) := by
  cases c with
  | true => exact run_ifSeq hc (fun _ => h1 rfl (hk.1 rfl)) (fun z => nomatch z)
  | false => exact run_ifSeq hc (fun z => nomatch z) (fun _ => h2 rfl (hk.2 rfl))
/-- both branches go on -/
theorem r_join {s : S} {rest : S → O} {okr : S → Prop} (env : S → En) (dead : List Nat) (h1 : Run K E t e (PoJ env dead s)) (hk : letO s okr) (h2 : ∀ s, okr s → Run K E u (env s) (Pf (rest s))) : Run K E (tSeq t u) e (Pf (letO s rest)) := by
  refine run_seqM (fun e' => wipeE e' dead = env s) ?_ fun e' he => Run.drop dead (by rw [he]; exact h2 s hk)
  exact h1.imp (fun _ h => h) (fun _ h => h.elim) (fun _ h => h.elim) (fun _ h => h.elim) (fun _ _ _ h => h.elim) (fun _ h => h.elim)
theorem Run.dropO (dead : List Nat) (h : Run K E t e { P with nx := fun e' => P.nx (wipeE e' dead), ct := fun e' => P.ct (wipeE e' dead), bk := fun e' => P.bk (wipeE e' dead), ex := fun e' C o => P.ex (wipeE e' dead) C o }) : Run K E t e P := fun B T0 σ H T D s f =>
  h B T0 σ H T D s ⟨fun e' σ' H' T' p s' => f.nx _ σ' H' T' p (s'.drop dead), f.rt, fun e' σ' H' T' p s' => f.bk _ σ' H' T' p (s'.drop dead), fun e' σ' H' T' p s' => f.ct _ σ' H' T' p (s'.drop dead), fun e' σ' H' T' C od o p s' x => f.ex _ σ' H' T' C od o p (s'.drop dead) x, f.ro⟩
/-! loops -/
section
variable {X : Type} {wi : TI} {g : TG} {encX : X → D} {items : List X} {s0 : S} {restS : S → O} {okrS : S → Prop} {oks : S → X → Prop} {ub : TS}
theorem r_forS {step : S → X → S} (env : S → En) (dead : List Nat) (he : wipeE e dead = env s0)
    (hi : EvI K m wi (env s0) (items.map encX)) (hk : okS step oks okrS s0 items)
    (hb : ∀ s x, oks s x → ∃ e' vs, Tg K vs m g (encX x) (env s) e' ∧ Run K E ub e' (PoS env dead (step s x)))
    (h : ∀ s, okrS s → Run K E u (env s) (Pf (restS s))) : Run K E (tSeq (tFor wi g ub) u) e (Pf (letO (items.foldl step s0) restS)) := by
  have key : ∀ (k : Nat), k ≤ items.length → okS step oks okrS ((items.take k).foldl step s0) (items.drop k) := by
    intro k
    induction k with
    | zero => intro _; exact hk
    | succ k ih =>
      intro hl
      have h1 := ih (by omega)
      have hx : items.drop k = items[k] :: items.drop (k + 1) := List.drop_eq_getElem_cons (by omega)
      rw [hx] at h1
      have h2 := h1.2
      rw [List.take_add_one, List.getElem?_eq_getElem (by omega), List.foldl_append]
      exact h2
  have hend := key items.length (Nat.le_refl _)
  rw [List.take_length, List.drop_length] at hend
  refine Run.drop dead ?_
  rw [he]
  refine run_seqM (fun e' => e' = env (items.foldl step s0)) ?_ (fun e' he' => by rw [he']; exact h _ hend)
  refine run_for hi (fun k e' => e' = env ((items.take k).foldl step s0)) rfl ?_ ?_
  · rintro k d _ hx rfl
    rw [List.getElem?_map] at hx
    cases hx2 : items[k]? with
    | none => rw [hx2] at hx; cases hx
    | some x =>
      rw [hx2] at hx
      cases hx
      have hl : k < items.length := (List.getElem?_eq_some_iff.mp hx2).1
      have h1 := key k (by omega)
      have hx3 : items.drop k = x :: items.drop (k + 1) := by
        rw [List.drop_eq_getElem_cons hl]
        rw [List.getElem?_eq_getElem hl] at hx2
        rw [Option.some.inj hx2]
      rw [hx3] at h1
      obtain ⟨e', vs, htg, hrun⟩ := hb _ x h1.1
      have hs : (items.take (k + 1)).foldl step s0 = step ((items.take k).foldl step s0) x := by
        rw [List.take_add_one, hx2, List.foldl_append]; rfl
      refine ⟨e', vs, htg, Run.dropO dead (hrun.imp (fun e1 h1 => ?_) (fun _ z => z.elim) (fun _ z => z.elim) (fun e1 h1 => ?_) (fun _ _ _ z => z.elim) (fun _ z => z.elim))⟩
      · show wipeE e1 dead = _
        rw [hs]; exact h1
      · show wipeE e1 dead = _
        rw [hs]; exact h1
  · rintro _ rfl
    rw [List.length_map, List.take_length]
theorem r_for {step : S → X → Fl S R} {kr : R → O} (env : S → En) (dead : List Nat) (he : wipeE e dead = env s0)
    (hi : EvI K m wi (env s0) (items.map encX)) (hk : okF step oks okrS s0 items)
    (hb : ∀ s x, oks s x → ∃ e' vs, Tg K vs m g (encX x) (env s) e' ∧ Run K E ub e' (PoL env dead (fun r => Pf (kr r)) (step s x)))
    (h : ∀ s, okrS s → Run K E u (env s) (Pf (restS s))) : Run K E (tSeq (tFor wi g ub) u) e (Pf (bindF (forF step s0 items) restS kr)) := by
  refine Run.drop dead ?_
  rw [he]
  obtain ⟨o, ho⟩ : ∃ o, o = forF step s0 items := ⟨_, rfl⟩
  rw [← ho]
  refine run_seqM (fun e' => ∃ s, (o = .nx s ∨ o = .bk s) ∧ okrS s ∧ e' = env s) ?_ ?_
  · refine run_for hi (fun k e' => ∃ s, o = forF step s (items.drop k) ∧ okF step oks okrS s (items.drop k) ∧ e' = env s) ⟨s0, ho, hk, rfl⟩ ?_ ?_
    · rintro k d _ hx ⟨s, ho2, hk2, rfl⟩
      rw [List.getElem?_map] at hx
      cases hx2 : items[k]? with
      | none => rw [hx2] at hx; cases hx
      | some x =>
        rw [hx2] at hx
        cases hx
        have hl : k < items.length := (List.getElem?_eq_some_iff.mp hx2).1
        have hx3 : items.drop k = x :: items.drop (k + 1) := by
          rw [List.drop_eq_getElem_cons hl]
          rw [List.getElem?_eq_getElem hl] at hx2
          rw [Option.some.inj hx2]
        rw [hx3] at ho2 hk2
        obtain ⟨hks, hk3⟩ := hk2
        obtain ⟨e', vs, htg, hrun⟩ := hb s x hks
        refine ⟨e', vs, htg, Run.dropO dead (hrun.imp (fun e1 h1 => ?_) (fun d h1 => ?_) (fun e1 h1 => ?_) (fun e1 h1 => ?_) (fun e1 C x h1 => ?_) (fun d h1 => ?_))⟩
        · obtain ⟨s2, q1, q2⟩ := h1
          rw [forF, q1] at ho2
          rw [q1] at hk3
          exact ⟨s2, ho2, hk3, q2⟩
        · obtain ⟨r, q1, q2⟩ := h1
          rw [forF, q1] at ho2
          show (Pf (bindF o restS kr)).rt d
          rw [ho2]; exact q2
        · obtain ⟨s2, q1, q2⟩ := h1
          rw [forF, q1] at ho2
          rw [q1] at hk3
          exact ⟨s2, .inr ho2, hk3, q2⟩
        · obtain ⟨s2, q1, q2⟩ := h1
          rw [forF, q1] at ho2
          rw [q1] at hk3
          exact ⟨s2, ho2, hk3, q2⟩
        · obtain ⟨r, q1, q2⟩ := h1
          rw [forF, q1] at ho2
          show (Pf (bindF o restS kr)).ex _ C x
          rw [ho2]; exact q2
        · obtain ⟨r, q1, q2⟩ := h1
          rw [forF, q1] at ho2
          show (Pf (bindF o restS kr)).ro d
          rw [ho2]; exact q2
    · rintro _ ⟨s, ho2, hk2, rfl⟩
      rw [List.length_map, List.drop_length] at ho2 hk2
      exact ⟨s, .inl ho2, hk2, rfl⟩
  · rintro _ ⟨s, hs, hk2, rfl⟩
    have := h s hk2
    rcases hs with hs | hs
    · rw [hs]; exact this
    · rw [hs]; exact this
theorem r_whileS {c : S → Bool} {step : S → S} {okc oks okr : S → Prop} (n : Nat) (env : S → En) (dead : List Nat) (he : wipeE e dead = env s0)
    (hk : okW c step okc oks okr n s0) (hc : ∀ s, okc s → EvT K tt (env s) (c s))
    (hb : ∀ s, oks s → Run K E ub (env s) (PoS env dead (step s)))
    (h : ∀ s, okr s → Run K E u (env s) (Pf (restS s))) : Run K E (tSeq (tWhile tt ub) u) e (Pf (letO (whileS c step n s0) restS)) := by
  refine Run.drop dead ?_
  rw [he]
  obtain ⟨o, ho⟩ : ∃ o, o = whileS c step n s0 := ⟨_, rfl⟩
  rw [← ho]
  refine run_seqM (fun e' => okr o ∧ e' = env o) ?_ (fun e' he' => by rw [he'.2]; exact h o he'.1)
  refine run_while (fun k e' => ∃ s, o = whileS c step k s ∧ okW c step okc oks okr k s ∧ e' = env s) n ⟨s0, ho, hk, rfl⟩ ?_
  rintro k _ ⟨s, ho2, hk2, rfl⟩
  cases k with
  | zero =>
    obtain ⟨q1, q2, q3⟩ := hk2
    refine ⟨c s, hc s q1, fun z => ?_, fun _ => ?_⟩
    · rw [q2] at z; cases z
    · rw [show o = s from ho2]; exact ⟨q3, rfl⟩
  | succ k =>
    obtain ⟨q1, q2, q3⟩ := hk2
    refine ⟨c s, hc s q1, fun z => ?_, fun z => ?_⟩
    · obtain ⟨q4, q5⟩ := q2 z
      rw [whileS, if_pos z] at ho2
      refine Run.dropO dead ((hb s q4).imp (fun e1 h1 => ?_) (fun _ z => z.elim) (fun _ z => z.elim) (fun e1 h1 => ?_) (fun _ _ _ z => z.elim) (fun _ z => z.elim))
      · exact ⟨k, Nat.lt_succ_self k, _, ho2, q5, h1⟩
      · exact ⟨k, Nat.lt_succ_self k, _, ho2, q5, h1⟩
    · rw [whileS, if_neg (by rw [z]; exact Bool.false_ne_true)] at ho2
      rw [ho2]; exact ⟨q3 z, rfl⟩
theorem r_while {c : S → Bool} {step : S → Fl S R} {okc oks okr : S → Prop} {kr : R → O} (n : Nat) (env : S → En) (dead : List Nat) (he : wipeE e dead = env s0)
    (hk : okWF c step okc oks okr n s0) (hc : ∀ s, okc s → EvT K tt (env s) (c s))
    (hb : ∀ s, oks s → Run K E ub (env s) (PoL env dead (fun r => Pf (kr r)) (step s)))
    (h : ∀ s, okr s → Run K E u (env s) (Pf (restS s))) : Run K E (tSeq (tWhile tt ub) u) e (Pf (bindF (whileF c step n s0) restS kr)) := by
  refine Run.drop dead ?_
  rw [he]
  obtain ⟨o, ho⟩ : ∃ o, o = whileF c step n s0 := ⟨_, rfl⟩
  rw [← ho]
  refine run_seqM (fun e' => ∃ s, (o = .nx s ∨ o = .bk s) ∧ okr s ∧ e' = env s) ?_ ?_
  · refine run_while (fun k e' => ∃ s, o = whileF c step k s ∧ okWF c step okc oks okr k s ∧ e' = env s) n ⟨s0, ho, hk, rfl⟩ ?_
    rintro k _ ⟨s, ho2, hk2, rfl⟩
    cases k with
    | zero =>
      obtain ⟨q1, q2, q3⟩ := hk2
      refine ⟨c s, hc s q1, fun z => ?_, fun _ => ?_⟩
      · rw [q2] at z; cases z
      · exact ⟨s, .inl ho2, q3, rfl⟩
    | succ k =>
      obtain ⟨q1, q2, q3⟩ := hk2
      refine ⟨c s, hc s q1, fun z => ?_, fun z => ?_⟩
      · obtain ⟨q4, q5⟩ := q2 z
        rw [whileF, if_pos z] at ho2
        refine Run.dropO dead ((hb s q4).imp (fun e1 h1 => ?_) (fun d h1 => ?_) (fun e1 h1 => ?_) (fun e1 h1 => ?_) (fun e1 C x h1 => ?_) (fun d h1 => ?_))
        · obtain ⟨s2, z1, z2⟩ := h1
          rw [z1] at ho2 q5
          exact ⟨k, Nat.lt_succ_self k, s2, ho2, q5, z2⟩
        · obtain ⟨r, z1, z2⟩ := h1
          rw [z1] at ho2
          show (Pf (bindF o restS kr)).rt d
          rw [ho2]; exact z2
        · obtain ⟨s2, z1, z2⟩ := h1
          rw [z1] at ho2 q5
          exact ⟨s2, .inr ho2, q5, z2⟩
        · obtain ⟨s2, z1, z2⟩ := h1
          rw [z1] at ho2 q5
          exact ⟨k, Nat.lt_succ_self k, s2, ho2, q5, z2⟩
        · obtain ⟨r, z1, z2⟩ := h1
          rw [z1] at ho2
          show (Pf (bindF o restS kr)).ex _ C x
          rw [ho2]; exact z2
        · obtain ⟨r, z1, z2⟩ := h1
          rw [z1] at ho2
          show (Pf (bindF o restS kr)).ro d
          rw [ho2]; exact z2
      · rw [whileF, if_neg (by rw [z]; exact Bool.false_ne_true)] at ho2
        exact ⟨s, .inl ho2, q3 z, rfl⟩
  · rintro _ ⟨s, hs, hk2, rfl⟩
    have := h s hk2
    rcases hs with hs | hs
    · rw [hs]; exact this
    · rw [hs]; exact this
end
end
end Fh

set_option Elab.async false
set_option linter.all false
set_option maxRecDepth 100000
set_option maxHeartbeats 4000000
/-! FhN: operations on data by their Lean values: ==, in, index, <, sorted, min, max -/
namespace Fh
open PySem PySem.Spec PyProof.Rows L2

/-! ### data that == reads -/
mutual
def plD : D → Bool
  | .non => true
  | .bl _ => true
  | .int _ => true
  | .str _ => true
  | .lst ds => plDs ds
  | .tup ds => plDs ds
  | _ => false
def plDs : List D → Bool
  | [] => true
  | d :: ds => plD d && plDs ds
end
theorem plDs_iff : ∀ {ds : List D}, plDs ds = true ↔ ∀ d ∈ ds, plD d = true
  | [] => ⟨fun _ _ h => (nomatch h), fun _ => rfl⟩
  | d :: ds => by rw [plDs, Bool.and_eq_true, plDs_iff, List.forall_mem_cons]
mutual
theorem plD_dp {K : PySem.W.Frag} {H : Hp} : ∀ (d : D) {v : V}, plD d = true → Is K H v d → Dp K H v (toPy d)
  | .non, _, _, i => by cases i; exact .non
  | .bl _, _, _, i => by cases i; exact .bl _
  | .int _, _, _, i => by cases i; exact .int _
  | .str _, _, _, i => by cases i; exact .str _
  | .lst ds, _, h, i => by
    cases i with
    | lst ha hi => exact .lst (SqL.of ha) (plDs_dp ds (by simpa [plD] using h) hi)
  | .tup ds, _, h, i => by
    cases i with
    | tup ha hi => exact .tup ha.t (plDs_dp ds (by simpa [plD] using h) hi)
  | .raw _, _, h, _ => by simp [plD] at h
  | .rol _, _, h, _ => by simp [plD] at h
  | .ins _ _, _, h, _ => by simp [plD] at h
  | .abs _, _, h, _ => by simp [plD] at h
theorem plDs_dp {K : PySem.W.Frag} {H : Hp} : ∀ (ds : List D) {vs : List V}, plDs ds = true → Iss K H vs ds → DpAll K H vs (toPys ds)
  | [], _, _, i => by cases i; exact .nil
  | d :: ds, _, h, i => by
    cases i with
    | cons i1 i2 =>
      have h2 : plD d = true ∧ plDs ds = true := by simpa [plDs] using h
      exact .cons (plD_dp d h2.1 i1) (plDs_dp ds h2.2 i2)
end
mutual
theorem plD_plain : ∀ (d : D), plD d = true → (toPy d).plain = true
  | .non, _ => rfl
  | .bl _, _ => rfl
  | .int _, _ => rfl
  | .str _, _ => rfl
  | .lst ds, h => by
    show PyData.plain (.list (toPys ds)) = true
    simp only [PyData.plain]
    exact plDs_plain ds (by simpa [plD] using h)
  | .tup ds, h => by
    show PyData.plain (.tuple (toPys ds)) = true
    simp only [PyData.plain]
    exact plDs_plain ds (by simpa [plD] using h)
  | .raw _, h => by simp [plD] at h
  | .rol _, h => by simp [plD] at h
  | .ins _ _, h => by simp [plD] at h
  | .abs _, h => by simp [plD] at h
theorem plDs_plain : ∀ (ds : List D), plDs ds = true → PyData.plainAll (toPys ds) = true
  | [], _ => rfl
  | d :: ds, h => by
    have h2 : plD d = true ∧ plDs ds = true := by simpa [plDs] using h
    show (PyData.plain (toPy d) && PyData.plainAll (toPys ds)) = true
    rw [plD_plain d h2.1, plDs_plain ds h2.2]; rfl
end
theorem toPys_map {α : Type} (f : α → D) : ∀ l : List α, toPys (l.map f) = l.map fun a => toPy (f a)
  | [] => rfl
  | a :: l => by rw [List.map_cons, toPys, toPys_map f l]; rfl
/-- values that stand as plain data, told apart by == -/
structure Dt {α : Type} [DecidableEq α] (enc : α → D) (n : Nat) : Prop where
  pl : ∀ a, plD (enc a) = true
  dep : ∀ a, (toPy (enc a)).depth ≤ n
  eqv : ∀ a b, PyData.eqv (toPy (enc a)) (toPy (enc b)) = decide (a = b)
@[reducible] def Dt.datum {α : Type} [DecidableEq α] {enc : α → D} {n : Nat} (h : Dt enc n) : PySem.W.Datum α where
  toD a := toPy (enc a)
  plain a := plD_plain _ (h.pl a)
  eqv := h.eqv
  depth := n
  depth_le := h.dep
section
variable {α β γ δ ε : Type} [DecidableEq α] [DecidableEq β] [DecidableEq γ] [DecidableEq δ] [DecidableEq ε] {f : α → D} {g : β → D} {h : γ → D} {i : δ → D} {j : ε → D} {n n1 n2 n3 n4 n5 : Nat}
theorem Dt.I : Dt eI 0 := ⟨fun _ => rfl, fun _ => Nat.zero_le _, fun a b => by show (a == b) = _; rw [Bool.beq_eq_decide_eq]⟩
theorem Dt.B : Dt eB 0 := ⟨fun _ => rfl, fun _ => Nat.zero_le _, fun a b => by show (a == b) = _; rw [Bool.beq_eq_decide_eq]⟩
theorem Dt.S : Dt eS 0 := ⟨fun _ => rfl, fun _ => Nat.zero_le _, fun a b => by show (a == b) = _; rw [Bool.beq_eq_decide_eq]⟩
theorem Dt.N : Dt eN 0 := ⟨fun _ => rfl, fun _ => Nat.zero_le _, fun a b => by cases a; cases b; rfl⟩
theorem Dt.all (h : Dt f n) (l : List α) : plDs (l.map f) = true := plDs_iff.mpr fun d hd => by
  obtain ⟨a, _, rfl⟩ := List.mem_map.mp hd
  exact h.pl a
theorem Dt.depAll (h : Dt f n) : ∀ l : List α, PyData.depthAll (toPys (l.map f)) ≤ n
  | [] => Nat.zero_le _
  | a :: l => Nat.max_le.mpr ⟨h.dep a, h.depAll l⟩
theorem Dt.eqvAll (h : Dt f n) : ∀ xs ys : List α, PyData.eqvAll (toPys (xs.map f)) (toPys (ys.map f)) = decide (xs = ys)
  | [], [] => by rfl
  | [], _ :: _ => by simp [toPys, PyData.eqvAll]
  | _ :: _, [] => by simp [toPys, PyData.eqvAll]
  | x :: xs, y :: ys => by
    show (PyData.eqv (toPy (f x)) (toPy (f y)) && PyData.eqvAll (toPys (xs.map f)) (toPys (ys.map f))) = _
    rw [h.eqv x y, h.eqvAll xs ys, ← Bool.decide_and]
    exact decide_eq_decide.mpr (by rw [List.cons.injEq])
theorem Dt.L (h : Dt f n) : Dt (eL f) (n + 1) := ⟨fun l => h.all l, fun l => Nat.succ_le_succ (h.depAll l), fun a b => h.eqvAll a b⟩
theorem Dt.T (h : Dt f n) : Dt (eT f) (n + 1) := ⟨fun l => h.all l, fun l => Nat.succ_le_succ (h.depAll l), fun a b => h.eqvAll a b⟩
theorem and_tt {a : Bool} (h : a = true) {b : Bool} (h2 : b = true) : (a && b) = true := by rw [h, h2]; rfl
theorem Dt.e1 (hf : Dt f n) : Dt (e1 f) (n + 1) := ⟨fun a => and_tt (hf.pl a) rfl, fun a => Nat.succ_le_succ (Nat.max_le.mpr ⟨hf.dep a, Nat.zero_le _⟩), fun a b => by
  show (PyData.eqv (toPy (f a)) (toPy (f b)) && true) = _
  rw [hf.eqv, Bool.and_true]⟩
theorem Dt.e2 (hf : Dt f n1) (hg : Dt g n2) : Dt (e2 f g) (n1 + n2 + 1) := ⟨fun a => and_tt (hf.pl a.1) (and_tt (hg.pl a.2) rfl), fun a => Nat.succ_le_succ (Nat.max_le.mpr ⟨Nat.le_trans (hf.dep a.1) (by omega), Nat.max_le.mpr ⟨Nat.le_trans (hg.dep a.2) (by omega), Nat.zero_le _⟩⟩), fun a b => by
  show (PyData.eqv (toPy (f a.1)) (toPy (f b.1)) && (PyData.eqv (toPy (g a.2)) (toPy (g b.2)) && true)) = _
  rw [hf.eqv, hg.eqv, Bool.and_true, ← Bool.decide_and]
  exact decide_eq_decide.mpr ⟨fun q => Prod.ext q.1 q.2, fun q => by rw [q]; exact ⟨rfl, rfl⟩⟩⟩
theorem Dt.e3 (hf : Dt f n1) (hg : Dt g n2) (hh : Dt h n3) : Dt (e3 f g h) (n1 + n2 + n3 + 1) := ⟨fun a => and_tt (hf.pl a.1) (and_tt (hg.pl a.2.1) (and_tt (hh.pl a.2.2) rfl)), fun a => Nat.succ_le_succ (Nat.max_le.mpr ⟨Nat.le_trans (hf.dep a.1) (by omega), Nat.max_le.mpr ⟨Nat.le_trans (hg.dep a.2.1) (by omega), Nat.max_le.mpr ⟨Nat.le_trans (hh.dep a.2.2) (by omega), Nat.zero_le _⟩⟩⟩), fun a b => by
  show (PyData.eqv (toPy (f a.1)) (toPy (f b.1)) && (PyData.eqv (toPy (g a.2.1)) (toPy (g b.2.1)) && (PyData.eqv (toPy (h a.2.2)) (toPy (h b.2.2)) && true))) = _
  rw [hf.eqv, hg.eqv, hh.eqv, Bool.and_true, ← Bool.decide_and, ← Bool.decide_and]
  exact decide_eq_decide.mpr ⟨fun q => Prod.ext q.1 (Prod.ext q.2.1 q.2.2), fun q => by rw [q]; exact ⟨rfl, rfl, rfl⟩⟩⟩
/-- unlike None -/
def NoN (f : α → D) : Prop := ∀ a, PyData.eqv .none (toPy (f a)) = false ∧ PyData.eqv (toPy (f a)) .none = false
theorem NoN.I : NoN eI := fun a => ⟨rfl, rfl⟩
theorem NoN.B : NoN eB := fun a => ⟨rfl, rfl⟩
theorem NoN.S : NoN eS := fun a => ⟨rfl, rfl⟩
theorem NoN.L : NoN (eL f) := fun a => ⟨rfl, rfl⟩
theorem NoN.T : NoN (eT f) := fun a => ⟨rfl, rfl⟩
theorem NoN.e2 : NoN (e2 f g) := fun a => ⟨rfl, rfl⟩
theorem NoN.e3 : NoN (e3 f g h) := fun a => ⟨rfl, rfl⟩
theorem Dt.O (hf : Dt f n) (hn : NoN f) : Dt (eO f) n := ⟨fun a => by cases a with
  | none => rfl
  | some a => exact hf.pl a, fun a => by cases a with
  | none => exact Nat.zero_le _
  | some a => exact hf.dep a, fun a b => by
  cases a with
  | none => cases b with
    | none => rfl
    | some b => exact (hn b).1.trans (by simp)
  | some a => cases b with
    | none => exact (hn a).2.trans (by simp)
    | some b => exact (hf.eqv a b).trans (decide_eq_decide.mpr (by rw [Option.some.injEq]))⟩
theorem Dt.mono (hf : Dt f n) {k : Nat} (hk : n ≤ k) : Dt f k := ⟨hf.pl, fun a => Nat.le_trans (hf.dep a) hk, hf.eqv⟩
end
/-! numbers, texts, tuples of such: known for good -/
section
variable {α β γ : Type} {f : α → D} {g : β → D} {h : γ → D}
def Im (f : α → D) : Prop := ∀ a, imm (f a) = true
theorem Im.I : Im eI := fun _ => rfl
theorem Im.B : Im eB := fun _ => rfl
theorem Im.S : Im eS := fun _ => rfl
theorem Im.N : Im eN := fun _ => rfl
theorem Im.T (hf : Im f) : Im (eT f) := fun l => imms_iff.mpr fun d hd => by
  obtain ⟨a, _, rfl⟩ := List.mem_map.mp hd
  exact hf a
theorem Im.e1 (hf : Im f) : Im (e1 f) := fun a => and_tt (hf a) rfl
theorem Im.e2 (hf : Im f) (hg : Im g) : Im (e2 f g) := fun a => and_tt (hf a.1) (and_tt (hg a.2) rfl)
theorem Im.e3 (hf : Im f) (hg : Im g) (hh : Im h) : Im (e3 f g h) := fun a => and_tt (hf a.1) (and_tt (hg a.2.1) (and_tt (hh a.2.2) rfl))
theorem Im.O (hf : Im f) : Im (eO f) := fun a => by cases a with
  | none => rfl
  | some a => exact hf a
end
section
variable {K : PySem.W.Frag} {E : WX} {e : En} {d d1 d2 : D} {te ta tb : TE} {m m1 m2 : Md}
/-- what is never written is known for good -/
theorem Ev.hard (h : Ev K m1 te e d) (q : imm d = true) : Ev K m te e d := Ev.up fun B T0 σ H T s Q k => h B T0 σ H T s Q fun v H' T' g i => by
  have i2 := i.now (s.gr.h.trans g.h) g.s
  have g2 := hardUp_gr g.s
  exact k v H' _ (g.trans g2) (Is.hard (Le.refl _) g.s d q i2)
theorem Ev.im {α : Type} {f : α → D} {a : α} (h : Ev K m1 te e (f a)) (q : Im f) : Ev K m te e (f a) := h.hard (q a)
end
end Fh

set_option Elab.async false
set_option linter.all false
set_option maxRecDepth 100000
set_option maxHeartbeats 4000000
/-! FhO: the operators of FhN as rules -/
namespace Fh
open PySem PySem.Spec PyProof.Rows L2

def rEqP (K : PySem.W.Frag) (neg : Bool) : R2 := fun x y H Q => ∃ d e, Dp K H x d ∧ Dp K H y e ∧ d.plain = true ∧ e.plain = true ∧ d.depth ≤ 100 ∧ Q (.bl (if neg = true then !PyData.eqv d e else PyData.eqv d e)) H
def seqP (tp : Bool) (ds : List PyData) : PyData := if tp = true then .tuple ds else .list ds
def rInP (K : PySem.W.Frag) (neg : Bool) : R2 := fun x y H Q => ∃ d ds tp, Dp K H x d ∧ Dp K H y (seqP tp ds) ∧ PyData.plainAll ds = true ∧ d.plain = true ∧ d.depth ≤ 100 ∧ Q (.bl (if neg = true then !(ds.any fun z => PyData.eqv z d) else ds.any fun z => PyData.eqv z d)) H
def rLtP (K : PySem.W.Frag) : R2 := fun x y H Q => ∃ d e, Dp K H x d ∧ Dp K H y e ∧ PySem.W.alike d e = true ∧ d ≠ .none ∧ d.depth ≤ 100 ∧ Q (.bl (PySem.W.dataLt d e)) H
def rIndexP (K : PySem.W.Frag) : V → List V → Hp → VK → Prop := fun x args H Q => ∃ (a : Addr) (y : V) (α : Type) (i1 : DecidableEq α) (i2 : @PySem.W.Datum α i1) (z : α) (zs : List α), x = .ref a ∧ args = [y] ∧ Dp K H y (i2.toD z) ∧ Dp K H (.ref a) (.list (zs.map i2.toD)) ∧ i2.depth ≤ 100 ∧ z ∈ zs ∧ Q (.int (zs.idxOf z : Nat)) H
/-- sorted(xs): the items stand for bs, by P -/
def rSortP (K : PySem.W.Frag) : List V → Hp → VK → Prop := fun args H Q => ∃ (a : Addr) (vs : List V) (α : Type) (bs : List α) (enc : α → PyData) (P : V → α → Prop), args = [.ref a] ∧ (SqL K H a vs ∨ SqT K H a vs) ∧ PySem.W.EachIs P vs bs ∧ (∀ v b, P v b → Dp K H v (enc b)) ∧
  PySem.W.AllAlike (bs.map enc) ∧ PySem.W.Sortable (bs.map enc) ∧ (∀ b ∈ bs, (enc b).depth ≤ 100) ∧ ∀ out p, PySem.W.EachIs P out (bs.mergeSort (PySem.W.dataLe false enc)) → out.length = bs.length → H p = none → Q (.ref p) (upd H p (.lst out))
theorem room100 {X : Cx} {k n m : Nat} (hr : Room k X.A) (h : n ≤ 100) : X.A.units + min n m < cLine := by
  have := hr.un
  have := Nat.min_le_left n m
  omega
section
open PySem.Calls PySem.F
variable {prog : Program} {w : World} {A : Around} {E : Value → Shared → Prop} {s : Shared}
theorem fh_collect_tup {l : Addr} {vs : List Value} {Q : List Value → Shared → Prop} (hl : s.heap.IsTuple l vs.toArray)
    (h : Q vs { s with heap := (s.heap.push (seqObj "list" #[] 0)).update s.heap.objs.size (Obj.mapSeq (· ++ vs.toArray)) }) (hsz : vs.length ≤ sizeLine) :
    wpAny (model prog w) A (collect (.ref l)) Q E s := by
  obtain ⟨o, ho, hc, n, hd⟩ := id hl
  unfold collect
  refine wpAny_bind (wpAny_runValue (codeAny_builtin entry_proto_collect' ?_))
  show wpAny _ _ (do again (.builtin "list.__iadd__" ⟨[← newList [], .ref l], []⟩)) _ _ s
  refine wpAny_bind (wpAny_newList (wpAny_pure ⟨Code.quiet_builtin _ (by decide +kernel), codeAny_builtin entry_list_iadd' ?_⟩))
  show wpAny _ _ (Builtin.List.listExtendWith (.ref s.heap.objs.size) (.ref l) (.ref s.heap.objs.size)) _ _ { s with heap := s.heap.push (seqObj "list" #[] 0) }
  unfold Builtin.List.listExtendWith
  have ho' : (s.heap.push (seqObj "list" #[] 0)).get? l = some o := Heap.get?_push_of_some _ ho
  refine wpAny_bind (wpAny_typeOf (T := "tuple") ⟨o, ho', hc⟩ ?_)
  have ht : (Value.type "tuple" == Value.type "tuple") = true := by rfl
  rw [if_pos (by rw [ht]; simp)]
  refine wpAny_bind (listItems_at ho' hd ?_)
  refine wpAny_bind (listItems_at (xs := #[]) (n := 0) (Heap.get?_push_size _ rfl) rfl ?_)
  rw [if_neg (by simp)]
  refine wpAny_bind (listUpdate_at (xs := #[]) (n := 0) (Heap.get?_push_size _ rfl) rfl ?_ (Nat.zero_le _) (by show (#[] ++ vs.toArray).size ≤ sizeLine + 1; simp only [Array.size_append, List.size_toArray, List.length_nil]; omega))
  refine wpAny_pure ?_
  show wpAny (model prog w) A (do
      let o ← load s.heap.objs.size
      match o.data with
      | .seq xs _ => pure xs.toList
      | _ => unsupported "internal:collect") Q E { s with heap := (s.heap.push (seqObj "list" #[] 0)).update s.heap.objs.size (Obj.mapSeq (· ++ vs.toArray)) }
  refine wpAny_bind (wpAny_load (get?_update_seq (Heap.get?_push_size _ rfl) _) ?_)
  show wpAny _ _ (pure ((#[] : Array Value) ++ vs.toArray).toList) Q E _
  rw [show ((#[] : Array Value) ++ vs.toArray).toList = vs by simp]
  exact wpAny_pure h
theorem fh_sorted_of_sort_tup {l : Addr} {vs : List Value} {Q : Value → Shared → Prop} (hl : s.heap.IsTuple l vs.toArray) (hL : vs.length ≤ sizeLine)
    (body : ∀ E' : Value → Shared → Prop, wpAny (model prog w) A.in1.in1 (Builtin.«list.sort» ⟨[.ref (s.heap.objs.size + 1)], []⟩) (fun f s' => f = .done (.ret .none) ∧ Q (.ref (s.heap.objs.size + 1)) s') E' { s with heap := PySem.W.copyHeap s.heap vs }) :
    wpAny (model prog w) A (call (.builtin "sorted") [.ref l]) Q E s := by
  refine call_function_entry_kw kind_sorted plain_sorted entry_sorted (args_sorted1 _) ?_
  unfold Builtin.«sorted»
  refine wpAny_bind (m := checkCount "sorted" 1 1 _) (wpAny_pure ?_)
  refine wpAny_bind (fh_collect_tup hl ?_ hL)
  refine wpAny_bind (wpAny_newList ?_ hL)
  have hsz : ((s.heap.push (seqObj "list" #[] 0)).update s.heap.objs.size (Obj.mapSeq (· ++ vs.toArray))).objs.size = s.heap.objs.size + 1 := by
    rw [Heap.size_update, size_push']
  show wpAny _ _ _ _ _ { s with heap := PySem.W.copyHeap s.heap vs }
  rw [hsz]
  refine wpAny_bind (wpAny_holding (wpAny_call_entry_kw PyProof.Rows.slot_list_sort ⟨_, PySem.W.copyHeap_at s.heap vs, rfl⟩ PyProof.Rows.entry_list_sort ?body (args_list_sort _)))
  case body =>
    show wpAny (model prog w) A.in1.in1 (Builtin.«list.sort» ⟨[.ref (s.heap.objs.size + 1)], []⟩) _ _ _
    refine wpAny_mono (body _) (fun f s' hf => ?_) fun _ _ e => e
    obtain ⟨rfl, hq⟩ := hf
    exact ⟨_, rfl, wpAny_pure ⟨_, rfl, hq⟩⟩
/-- sorted of a tuple -/
theorem fh_sorted_tup {β : Type} {vs : List Value} {bs : List β} {enc : β → PyData} {R : Value → β → Prop} {l : Addr} {Q : Value → Shared → Prop} (hl : s.heap.IsTuple l vs.toArray) (e : PySem.W.EachIs R vs bs) (er : PySem.W.EachIs (fun v b => ∃ as, Reads s.heap v (enc b) as) vs bs) (hal : PySem.W.AllAlike (bs.map enc)) (hk : PySem.W.Sortable (bs.map enc)) (hL : bs.length ≤ sizeLine)
    (hu : ∀ b, b ∈ bs → A.units + 2 + (enc b).depth < cLine) (h : ∀ out, out.length = bs.length → PySem.W.EachIs R out (bs.mergeSort (PySem.W.dataLe false enc)) → Q (.ref (s.heap.objs.size + 1)) { s with heap := sortedAll s.heap vs (List.toArray out) }) :
    wpAny (model prog w) A (call (.builtin "sorted") [.ref l]) Q E s := by
  have er' : PySem.W.EachIs (fun v b => ∃ as, Reads (PySem.W.sortingHeap (PySem.W.copyHeap s.heap vs) (s.heap.objs.size + 1) vs) v (enc b) as) vs bs := er.mono fun _ _ ⟨as, r⟩ => ⟨as, PyProof.Rows.Reads.keeps (fun _ _ => PySem.W.sorting_copy_old) r⟩
  have S := PySem.W.SortsAt.data (prog := prog) (w := w) (A := A.in1.in1) (s := { s with heap := PySem.W.sortingHeap (PySem.W.copyHeap s.heap vs) (s.heap.objs.size + 1) vs }) (PySem.W.each_map (R := fun v d => ∃ as, Reads (PySem.W.sortingHeap (PySem.W.copyHeap s.heap vs) (s.heap.objs.size + 1) vs) v d as) enc er') hal hk (PySem.W.bound_map hu)
  have hL' : vs.length ≤ sizeLine := by rw [e.length]; exact hL
  exact fh_sorted_of_sort_tup hl hL' fun _ => PySem.W.list_sort_vals (s := { s with heap := PySem.W.copyHeap s.heap vs }) (PySem.W.copyHeap_at s.heap vs) S hL' ⟨rfl, h _ (by rw [PySem.W.sortVals_length false rfl]; exact e.length) (PySem.W.sortVals_data false e er' hal)⟩
end
section
variable {X : Cx} {k : Nat}
theorem op_eqP (hr : Room k X.A) : OpR X (compareOp .Eq) (rEqP X.K false) := by
  intro pins s σ H x y v u Q I rx ry h
  obtain ⟨d, e, hd, he, pd, pe, dp, q⟩ := h
  obtain ⟨as, r1⟩ := Dp.reads I d x v hd rx
  obtain ⟨bs, r2⟩ := Dp.reads I e y u he ry
  exact SeqAt.eq_plain r1 r2 pd pe (room100 hr dp) ⟨.bl _, H, I, rfl, q⟩
theorem op_neP (hr : Room k X.A) : OpR X (compareOp .NotEq) (rEqP X.K true) := by
  intro pins s σ H x y v u Q I rx ry h
  obtain ⟨d, e, hd, he, pd, pe, dp, q⟩ := h
  obtain ⟨as, r1⟩ := Dp.reads I d x v hd rx
  obtain ⟨bs, r2⟩ := Dp.reads I e y u he ry
  exact SeqAt.ne_plain r1 r2 pd pe (room100 hr dp) ⟨.bl _, H, I, rfl, q⟩
theorem op_inP (hr : Room k X.A) : OpR X (compareOp .In) (rInP X.K false) := by
  intro pins s σ H x y v u Q I rx ry h
  obtain ⟨d, ds, tp, hd, he, pds, pd, dp, q⟩ := h
  obtain ⟨as, r1⟩ := Dp.reads I d x v hd rx
  obtain ⟨bs, r2⟩ := Dp.reads I (seqP tp ds) y u he ry
  have hu : X.A.units + 1 + min (PyData.depthAll ds) d.depth < cLine := by
    have := hr.un
    have := Nat.min_le_right (PyData.depthAll ds) d.depth
    omega
  cases tp with
  | true => exact SeqAt.in_tuple_data r2 r1 pds pd hu ⟨.bl _, H, I, rfl, q⟩
  | false => exact SeqAt.in_list_data r2 r1 pds pd hu ⟨.bl _, H, I, rfl, q⟩
theorem op_ninP (hr : Room k X.A) : OpR X (compareOp .NotIn) (rInP X.K true) := by
  intro pins s σ H x y v u Q I rx ry h
  obtain ⟨d, ds, tp, hd, he, pds, pd, dp, q⟩ := h
  obtain ⟨as, r1⟩ := Dp.reads I d x v hd rx
  obtain ⟨bs, r2⟩ := Dp.reads I (seqP tp ds) y u he ry
  have hu : X.A.units + 1 + min (PyData.depthAll ds) d.depth < cLine := by
    have := hr.un
    have := Nat.min_le_right (PyData.depthAll ds) d.depth
    omega
  cases tp with
  | true => exact SeqAt.notIn_tuple_data r2 r1 pds pd hu ⟨.bl _, H, I, rfl, q⟩
  | false => exact SeqAt.notIn_list_data r2 r1 pds pd hu ⟨.bl _, H, I, rfl, q⟩
theorem op_ltP (hr : Room k X.A) : OpR X (compareOp .Lt) (rLtP X.K) := by
  intro pins s σ H x y v u Q I rx ry h
  obtain ⟨d, e, hd, he, ha, hn, dp, q⟩ := h
  obtain ⟨as, r1⟩ := Dp.reads I d x v hd rx
  obtain ⟨bs, r2⟩ := Dp.reads I e y u he ry
  exact PySem.W.lt_data r1 r2 ha hn (room100 hr dp) ⟨.bl _, H, I, rfl, q⟩
theorem mt_indexP (hr : Room k X.A) : MtR X "list.index" (rIndexP X.K) := by
  intro pins s σ H x xs v us Q I rx rxs h
  obtain ⟨a, y, α, i1, i2, z, zs, rfl, rfl, hy, hl, dp, hz, q⟩ := h
  cases rx
  cases rxs with
  | cons ry rt =>
    rename_i uy ut
    cases rt
    obtain ⟨bs, r1⟩ := Dp.reads I _ y uy hy ry
    cases hl with
    | lst hs ha =>
      obtain ⟨its, rv, ⟨⟨cls, dd, data, sls⟩, n, ho, hc, hdn, hdt⟩, hlen⟩ := I.list hs
      simp only at hc hdt
      subst hc hdt
      obtain ⟨as, h4⟩ := Dp.readsAll I _ _ its ha rv
      have hn : its.length = zs.length := by
        have := SeqAt.ReadsAll.length _ its as h4
        rwa [List.length_map] at this
      refine PySem.W.index_list_datum (vs := its) ⟨_, ho, rfl, n, rfl⟩ ⟨as, h4⟩ ⟨bs, r1⟩ (by have := hr.un; omega) (by rw [← hn, ← rv.length]; exact hlen) hz ⟨.int _, H, I.tok _, ⟨_, rfl⟩, q⟩
theorem each_of_vals {P : V → α → Prop} : ∀ {vs : List V} {us : List Value} {bs : List α}, Vals vs us → PySem.W.EachIs P vs bs → PySem.W.EachIs (fun (u : Value) b => ∃ v, RelV v u ∧ P v b) us bs
  | _, _, _, .nil, .nil => .nil
  | _, _, _, .cons r rs, .cons h hs => .cons ⟨_, r, h⟩ (each_of_vals rs hs)
theorem vals_of_each {P : V → α → Prop} : ∀ {us : List Value} {bs : List α}, PySem.W.EachIs (fun (u : Value) b => ∃ v, RelV v u ∧ P v b) us bs → ∃ vs, Vals vs us ∧ PySem.W.EachIs P vs bs
  | _, _, .nil => ⟨[], .nil, .nil⟩
  | _, _, .cons ⟨v, r, h⟩ hs => by
    obtain ⟨vs, rs, hs⟩ := vals_of_each hs
    exact ⟨v :: vs, .cons r rs, .cons h hs⟩
theorem EachIs.len {R : α → β → Prop} : ∀ {as : List α} {bs : List β}, PySem.W.EachIs R as bs → as.length = bs.length
  | _, _, .nil => rfl
  | _, _, .cons _ t => by rw [List.length_cons, List.length_cons, EachIs.len t]
theorem EachIs.map {R S : α → β → Prop} (h : ∀ a b, R a b → S a b) : ∀ {as : List α} {bs : List β}, PySem.W.EachIs R as bs → PySem.W.EachIs S as bs
  | _, _, .nil => .nil
  | _, _, .cons r t => .cons (h _ _ r) (EachIs.map h t)
theorem cr_sortP (hr : Room k X.A) : CallR X (.builtin "sorted") (rSortP X.K) := by
  intro pins s σ H vs us Q I r h
  obtain ⟨a, xs, α, bs, enc, P, rfl, hs, he, hP, hal, hso, hdp, q⟩ := h
  obtain ⟨u, rfl, ru⟩ := vals1 r
  obtain rfl : u = Value.ref a := ru
  have hlen : xs.length = bs.length := EachIs.len he
  rcases hs with hs | hs
  · obtain ⟨its, rv, hl, hz⟩ := I.list hs
    have e1 := each_of_vals rv he
    refine PySem.W.sorted_data (R := fun (u : Value) b => ∃ v, RelV v u ∧ P v b) (enc := enc) (bs := bs) hl.isList e1 (EachIs.map (fun u b ⟨v, r1, r2⟩ => Dp.reads I _ v u (hP v b r2) r1) e1) hal hso (by rw [← hlen]; exact hz) (fun b hb => by have := hr.un; have := hdp b hb; omega) fun out ho hout => ?_
    obtain ⟨ws, rw', hw⟩ := vals_of_each hout
    obtain ⟨ep, he'⟩ := PyProof.Rows.sortedAll_at s.heap its out.toArray
    have hwl : ws.length = bs.length := by rw [EachIs.len hw, List.length_mergeSort]
    exact ⟨.ref _, upd H (s.heap.objs.size + 1) (.lst ws), I.laid (t' := s.toks) (fun _ _ => PyProof.Rows.sortedAll_old) (Nat.le_succ _) ⟨by rw [hwl, ← hlen]; exact hz, out, ep, rw', he'⟩, rfl, q ws _ hw hwl (I.hok.fresh (Nat.le_succ _))⟩
  · obtain ⟨its, rv, hl, hz⟩ := I.tuple hs
    have e1 := each_of_vals rv he
    refine fh_sorted_tup (R := fun (u : Value) b => ∃ v, RelV v u ∧ P v b) (enc := enc) (bs := bs) (show s.heap.IsTuple a its.toArray from hl) e1 (EachIs.map (fun u b ⟨v, r1, r2⟩ => Dp.reads I _ v u (hP v b r2) r1) e1) hal hso (by rw [← hlen]; exact hz) (fun b hb => by have := hr.un; have := hdp b hb; omega) fun out ho hout => ?_
    obtain ⟨ws, rw', hw⟩ := vals_of_each hout
    obtain ⟨ep, he'⟩ := PyProof.Rows.sortedAll_at s.heap its out.toArray
    have hwl : ws.length = bs.length := by rw [EachIs.len hw, List.length_mergeSort]
    exact ⟨.ref _, upd H (s.heap.objs.size + 1) (.lst ws), I.laid (t' := s.toks) (fun _ _ => PyProof.Rows.sortedAll_old) (Nat.le_succ _) ⟨by rw [hwl, ← hlen]; exact hz, out, ep, rw', he'⟩, rfl, q ws _ hw hwl (I.hok.fresh (Nat.le_succ _))⟩
end
end Fh

set_option Elab.async false
set_option linter.all false
set_option maxRecDepth 100000
set_option maxHeartbeats 4000000
/-! FhQ: what expressions are worth, by typed values -/
namespace Fh
open PySem PySem.Spec PyProof.Rows L2

/-- an item by its place -/
def getI {α : Type} [Inhabited α] (xs : List α) (k : Int) : α := xs.getD k.toNat default
/-- lo, lo + 1, .., hi - 1 -/
def rangeI (lo hi : Int) : List Int := (List.range (hi - lo).toNat).map fun i => lo + (i : Nat)
/-- Python's order of data -/
def srt {α : Type} (f : α → D) (xs : List α) : List α := xs.mergeSort (PySem.W.dataLe false fun a => toPy (f a))
def enumI {α : Type} (xs : List α) : List (Int × α) := xs.zipIdx.map fun p => ((p.2 : Nat), p.1)
def slcI {α : Type} (xs : List α) (lo hi : Option Int) : List α := cut xs lo hi
theorem rangeI_D (lo hi : Int) : (rangeI lo hi).map eI = rgD lo (hi - lo).toNat := by
  unfold rangeI rgD; rw [List.map_map]; rfl
theorem rangeI_len (lo hi : Int) : (rangeI lo hi).length = (hi - lo).toNat := by unfold rangeI; simp
theorem enumI_len {α : Type} (xs : List α) : (enumI xs).length = xs.length := by unfold enumI; simp
section
variable {K : PySem.W.Frag} {E : WX} {e : En} {d d1 d2 : D} {te ta tb tc : TE} {tt : TT} {m m1 m2 : Md} {b c : Bool} {α β γ : Type} {f : α → D} {g : β → D} {h : γ → D} {xs ys : List α} {a a' : α} {k i j : Int} {n : Nat}
/-! == and in -/
theorem ev_eqP [DecidableEq α] (hd : Dt f n) (ha : Ev K .now ta e (f a)) (hb : Ev K .now tb e (f a')) (hn : n ≤ 100 := by decide) : Ev K m (tOp (rEqP K false) ta tb) e (.bl (decide (a = a'))) := ev_op ha hb fun B H T u v hB hT i1 i2 Q q => by
  refine ⟨toPy (f a), toPy (f a'), plD_dp _ (hd.pl a) (i1.now hB hT), plD_dp _ (hd.pl a') (i2.now hB hT), plD_plain _ (hd.pl a), plD_plain _ (hd.pl a'), Nat.le_trans (hd.dep a) hn, ?_⟩
  rw [if_neg Bool.false_ne_true, hd.eqv]
  exact q _ H T (Gr.refl hT) (MIs.dat (.bl _) hT)
theorem ev_neP [DecidableEq α] (hd : Dt f n) (ha : Ev K .now ta e (f a)) (hb : Ev K .now tb e (f a')) (hn : n ≤ 100 := by decide) : Ev K m (tOp (rEqP K true) ta tb) e (.bl (!decide (a = a'))) := ev_op ha hb fun B H T u v hB hT i1 i2 Q q => by
  refine ⟨toPy (f a), toPy (f a'), plD_dp _ (hd.pl a) (i1.now hB hT), plD_dp _ (hd.pl a') (i2.now hB hT), plD_plain _ (hd.pl a), plD_plain _ (hd.pl a'), Nat.le_trans (hd.dep a) hn, ?_⟩
  rw [if_pos rfl, hd.eqv]
  exact q _ H T (Gr.refl hT) (MIs.dat (.bl _) hT)
theorem any_eqv [DecidableEq α] (hd : Dt f n) (a : α) : ∀ xs : List α, ((toPys (xs.map f)).any fun z => PyData.eqv z (toPy (f a))) = decide (a ∈ xs)
  | [] => by simp [toPys]
  | x :: xs => by
    rw [List.map_cons, toPys, List.any_cons, any_eqv hd a xs, hd.eqv, ← Bool.decide_or]
    exact decide_eq_decide.mpr (by rw [List.mem_cons, eq_comm])
theorem ev_inX [DecidableEq α] (neg tp : Bool) (hd : Dt f n) (ha : Ev K .now ta e (f a)) (hb : Ev K .now tb e (if tp = true then eT f xs else eL f xs)) (hn : n ≤ 100 := by decide) : Ev K m (tOp (rInP K neg) ta tb) e (.bl (if neg = true then !decide (a ∈ xs) else decide (a ∈ xs))) := ev_op ha hb fun B H T u v hB hT i1 i2 Q q => by
  refine ⟨toPy (f a), toPys (xs.map f), tp, plD_dp _ (hd.pl a) (i1.now hB hT), ?_, plDs_plain _ (hd.all xs), plD_plain _ (hd.pl a), Nat.le_trans (hd.dep a) hn, ?_⟩
  · have i3 := i2.now hB hT
    cases tp with
    | true => exact plD_dp (eT f xs) (hd.all xs) i3
    | false => exact plD_dp (eL f xs) (hd.all xs) i3
  · rw [any_eqv hd]
    exact q _ H T (Gr.refl hT) (MIs.dat (.bl _) hT)
theorem ev_inL [DecidableEq α] (hd : Dt f n) (ha : Ev K .now ta e (f a)) (hb : Ev K .now tb e (eL f xs)) (hn : n ≤ 100 := by decide) : Ev K m (tOp (rInP K false) ta tb) e (.bl (decide (a ∈ xs))) := ev_inX false false hd ha hb hn
theorem ev_inT' [DecidableEq α] (hd : Dt f n) (ha : Ev K .now ta e (f a)) (hb : Ev K .now tb e (eT f xs)) (hn : n ≤ 100 := by decide) : Ev K m (tOp (rInP K false) ta tb) e (.bl (decide (a ∈ xs))) := ev_inX false true hd ha hb hn
theorem ev_niL [DecidableEq α] (hd : Dt f n) (ha : Ev K .now ta e (f a)) (hb : Ev K .now tb e (eL f xs)) (hn : n ≤ 100 := by decide) : Ev K m (tOp (rInP K true) ta tb) e (.bl (!decide (a ∈ xs))) := ev_inX true false hd ha hb hn
theorem ev_niT [DecidableEq α] (hd : Dt f n) (ha : Ev K .now ta e (f a)) (hb : Ev K .now tb e (eT f xs)) (hn : n ≤ 100 := by decide) : Ev K m (tOp (rInP K true) ta tb) e (.bl (!decide (a ∈ xs))) := ev_inX true true hd ha hb hn
/-- of what may be None -/
theorem mapO (xs : List α) : (xs.map some).map (eO f) = xs.map f := by rw [List.map_map]; rfl
theorem asO_L (hb : Ev K m tb e (eL f xs)) : Ev K m tb e (eL (eO f) (xs.map some)) := by
  show Ev K m tb e (.lst _)
  rw [mapO]; exact hb
theorem asO_T (hb : Ev K m tb e (eT f xs)) : Ev K m tb e (eT (eO f) (xs.map some)) := by
  show Ev K m tb e (.tup _)
  rw [mapO]; exact hb
/-! None -/
theorem isC_O (hf : ∀ a, isC (f a) .non = some false) (o : Option α) : isC (eO f o) .non = some o.isNone := by cases o with
  | none => rfl
  | some a => exact hf a
theorem ev_isO {o : Option α} (ha : Ev K .now ta e (eO f o)) (hb : Ev K .now tb e .non) (hf : ∀ a, isC (f a) .non = some false := by intro _; rfl) : Ev K m (tOp rIsC ta tb) e (.bl o.isNone) := ev_is ha hb (isC_O hf o)
theorem ev_isnO {o : Option α} (ha : Ev K .now ta e (eO f o)) (hb : Ev K .now tb e .non) (hf : ∀ a, isC (f a) .non = some false := by intro _; rfl) : Ev K m (tOp rIsNC ta tb) e (.bl o.isSome) := (ev_isN ha hb (isC_O hf o)).is (by cases o <;> rfl)
/-! items -/
theorem getI_at [Inhabited α] (h0 : 0 ≤ k) (h1 : k < xs.length) : atI (xs.map f) k = some (f (getI xs k)) := by
  refine at_nat h0 ?_
  have hk : k.toNat < xs.length := by omega
  rw [List.getElem?_map, List.getElem?_eq_getElem hk]
  unfold getI
  rw [List.getD_eq_getElem?_getD, List.getElem?_eq_getElem hk]
  rfl
theorem ev_getL [Inhabited α] (ha : Ev K m ta e (eL f xs)) (hb : Ev K .now tb e (.int k)) (hk : 0 ≤ k ∧ k < xs.length) : Ev K m (tOp (rIx K) ta tb) e (f (getI xs k)) := ev_ixL ha hb (getI_at hk.1 hk.2)
theorem ev_getT [Inhabited α] (ha : Ev K m ta e (eT f xs)) (hb : Ev K .now tb e (.int k)) (hk : 0 ≤ k ∧ k < xs.length) : Ev K m (tOp (rIx K) ta tb) e (f (getI xs k)) := ev_ixT ha hb (getI_at hk.1 hk.2)
theorem ev_getOw [Inhabited α] {s : Nat} (hi : e[s]? = some (.own (oL f xs))) (hb : Ev K .now tb e (.int k)) (hk : 0 ≤ k ∧ k < xs.length) : Ev K m (tOp (rIx K) (tVar s) tb) e (f (getI xs k)) := ev_ixO hi hb (getI_at hk.1 hk.2)
theorem last_at [Inhabited α] (hk : xs ≠ []) : atI (xs.map f) (-1) = some (f (xs.getLastD default)) := by
  have hp := List.length_pos_iff.mpr hk
  have e : ixN (xs.map f).length (-1) = some (xs.length - 1) := by
    unfold ixN
    rw [List.length_map, if_neg (by decide), if_pos (by omega)]
    congr 1
    omega
  unfold atI
  rw [e, Option.bind_some, List.getElem?_map, ← List.getLast?_eq_getElem?, List.getLast?_eq_some_getLast hk, List.getLastD_eq_getLast?, List.getLast?_eq_some_getLast hk]
  rfl
theorem ev_lastL [Inhabited α] (ha : Ev K m ta e (eL f xs)) (hk : xs ≠ []) : Ev K m (tOp (rIx K) ta (tUn (rU fun i => .int (-i)) (tC (.int 1)))) e (f (xs.getLastD default)) := ev_ixL ha (ev_negI ev_int) (last_at hk)
theorem ev_lastT [Inhabited α] (ha : Ev K m ta e (eT f xs)) (hk : xs ≠ []) : Ev K m (tOp (rIx K) ta (tUn (rU fun i => .int (-i)) (tC (.int 1)))) e (f (xs.getLastD default)) := ev_ixT ha (ev_negI ev_int) (last_at hk)
theorem ev_lastOw [Inhabited α] {s : Nat} (hi : e[s]? = some (.own (oL f xs))) (hk : xs ≠ []) : Ev K m (tOp (rIx K) (tVar s) (tUn (rU fun i => .int (-i)) (tC (.int 1)))) e (f (xs.getLastD default)) := ev_ixO (m2 := .now) hi (ev_negI ev_int) (last_at hk)
theorem at_i {ds : List D} {j : Nat} (h : ds[j]? = some d) : atI ds (j : Int) = some d := atI_nat h
/-- item j of a written tuple -/
theorem ev_proj {ds : List D} (j : Nat) (ha : Ev K m ta e (.tup ds)) (h : ds[j]? = some d) : Ev K m (tOp (rIx K) ta (tC (.int (j : Nat)))) e d := ev_ixT ha ev_int (atI_nat h)
theorem ev_projN {ds : List D} (j : Nat) (i : Int) (hi : i = ((j : Nat) : Int)) (ha : Ev K m ta e (.tup ds)) (h : ds[j]? = some d) : Ev K m (tOp (rIx K) ta (tC (.int i))) e d := by subst hi; exact ev_proj j ha h
/-! lengths -/
theorem ev_lenL (ha : Ev K .now ta e (eL f xs)) : Ev K m (tCB (rLenU K) (tCons ta tNil)) e (.int (xs.length : Nat)) := ev_lenM ha
theorem ev_lenTu (ha : Ev K .now ta e (eT f xs)) : Ev K m (tCB (rLenU K) (tCons ta tNil)) e (.int (xs.length : Nat)) := ev_lenTM ha
/-! new lists, tuples -/
theorem rlo_hard (hi : Im f) : RLO K [m1] (rListU K) [eL f xs] (oL f xs) := fun B H T vs hB hT hm Q q => by
  match vs, hm with
  | [v], hm =>
    have i1 := hm.1.now hB hT
    cases i1 with
    | @lst a vs _ ha hv hz =>
      have g2 := hardUp_gr hT
      exact ⟨a, vs, rfl, .inl (SqL.of ha), fun l hl => q l _ _ (g2.trans (Gr.own g2.s hl)) hl (g2.s.back hl) ⟨vs, upd_same, Iss.hard (Le.refl _) hT _ (imms_iff.mpr fun d hd => by
        obtain ⟨a, _, rfl⟩ := List.mem_map.mp hd
        exact hi a) hv, hz⟩⟩
theorem rlo_hardT (hi : Im f) : RLO K [m1] (rListU K) [eT f xs] (oL f xs) := fun B H T vs hB hT hm Q q => by
  match vs, hm with
  | [v], hm =>
    have i1 := hm.1.now hB hT
    cases i1 with
    | @tup a vs _ ha hv hz =>
      have g2 := hardUp_gr hT
      exact ⟨a, vs, rfl, .inr ha.t, fun l hl => q l _ _ (g2.trans (Gr.own g2.s hl)) hl (g2.s.back hl) ⟨vs, upd_same, Iss.hard (Le.refl _) hT _ (imms_iff.mpr fun d hd => by
        obtain ⟨a, _, rfl⟩ := List.mem_map.mp hd
        exact hi a) hv, hz⟩⟩
theorem rl_hard (hi : Im f) : RL K [m1] m (rTupU K) [eL f xs] (eT f xs) := fun B H T vs hB hT hm Q q => by
  match vs, hm with
  | [v], hm =>
    have i1 := hm.1.now hB hT
    cases i1 with
    | @lst a vs _ ha hv hz =>
      have g2 := hardUp_gr hT
      refine ⟨a, vs, rfl, .inl ⟨SqL.of ha, fun l o ho hl => ?_⟩⟩
      have g := Gr.new (o := .frz o (.tup vs)) g2.s hl
      exact q _ _ _ (g2.trans g) (MIs.dat (.tup (SqN.of upd_same ho) (Iss.mono g.t _ (Iss.hard (Le.refl _) hT _ (imms_iff.mpr fun d hd => by
        obtain ⟨a, _, rfl⟩ := List.mem_map.mp hd
        exact hi a) hv)) hz) g.s)
/-- list(xs) -/
theorem evo_listL (ha : Ev K .dat ta e (eL f xs)) : EvO K (tCB (rListU K) (tCons ta tNil)) e (oL f xs) := evo_list ha
theorem evo_listLI (hi : Im f) (ha : Ev K .now ta e (eL f xs)) : EvO K (tCB (rListU K) (tCons ta tNil)) e (oL f xs) := ev_cbO (ea_cons ha ea_nil) (rlo_hard hi)
theorem evo_listTu (ha : Ev K .dat ta e (eT f xs)) : EvO K (tCB (rListU K) (tCons ta tNil)) e (oL f xs) := evo_listT ha
theorem evo_listTuI (hi : Im f) (ha : Ev K .now ta e (eT f xs)) : EvO K (tCB (rListU K) (tCons ta tNil)) e (oL f xs) := ev_cbO (ea_cons ha ea_nil) (rlo_hardT hi)
/-- tuple(xs) -/
theorem ev_tupleL (ha : Ev K .dat ta e (eL f xs)) : Ev K m (tCB (rTupU K) (tCons ta tNil)) e (eT f xs) := ev_tupL ha
theorem ev_tupleLI (hi : Im f) (ha : Ev K .now ta e (eL f xs)) : Ev K m (tCB (rTupU K) (tCons ta tNil)) e (eT f xs) := ev_cb (ea_cons ha ea_nil) (rl_hard hi)
theorem ev_tupleT (ha : Ev K m ta e (eT f xs)) : Ev K m (tCB (rTupU K) (tCons ta tNil)) e (eT f xs) := ev_cb (ea_cons ha ea_nil) rl_tupT
/-! sums, any, all -/
theorem ev_sumL {ns : List Int} (ha : Ev K .now ta e (eL eI ns)) : Ev K m (tCB (rSum K) (tCons ta tNil)) e (.int ns.sum) := ev_sum ha
theorem ev_anyL {bs : List Bool} (ha : Ev K .now ta e (eL eB bs)) : Ev K m (tCB (rAny K) (tCons ta tNil)) e (.bl (bs.any id)) := ev_cb (ea_cons ha ea_nil) fun B H T vs hB hT hm Q q => by
  match vs, hm with
  | [v], hm =>
    have i1 := hm.1.now hB hT
    cases i1 with
    | @lst a vs _ ha hi =>
      obtain rfl := hi.bls
      exact ⟨a, bs, rfl, SqL.of ha, q _ H T (Gr.refl hT) (MIs.dat (.bl _) hT)⟩
theorem ev_allL {bs : List Bool} (ha : Ev K .now ta e (eL eB bs)) : Ev K m (tCB (rAll K) (tCons ta tNil)) e (.bl (bs.all id)) := ev_cb (ea_cons ha ea_nil) fun B H T vs hB hT hm Q q => by
  match vs, hm with
  | [v], hm =>
    have i1 := hm.1.now hB hT
    cases i1 with
    | @lst a vs _ ha hi =>
      obtain rfl := hi.bls
      exact ⟨a, bs, rfl, SqL.of ha, q _ H T (Gr.refl hT) (MIs.dat (.bl _) hT)⟩
/-! sorted -/
structure Al (f : α → D) : Prop where
  al : ∀ a b, PySem.W.alike (toPy (f a)) (toPy (f b)) = true
theorem Al.I : Al eI := ⟨fun a b => by show PySem.W.alike (.int _) (.int _) = true; simp only [PySem.W.alike]⟩
theorem Al.S : Al eS := ⟨fun a b => by show PySem.W.alike (.str _) (.str _) = true; simp only [PySem.W.alike]⟩
theorem Al.B : Al eB := ⟨fun a b => by show PySem.W.alike (.bool _) (.bool _) = true; simp only [PySem.W.alike]⟩
theorem Al.all (h : Al f) : ∀ xs ys : List α, PySem.W.alikeAll (toPys (xs.map f)) (toPys (ys.map f)) = true
  | [], _ => by rw [List.map_nil, toPys, PySem.W.alikeAll]
  | _ :: _, [] => by rw [List.map_nil, List.map_cons, toPys, toPys, PySem.W.alikeAll]
  | x :: xs, y :: ys => by
    rw [List.map_cons, List.map_cons, toPys, toPys, PySem.W.alikeAll, h.al x y, h.all xs ys]; rfl
theorem Al.L (h : Al f) : Al (eL f) := ⟨fun a b => by show PySem.W.alike (.list _) (.list _) = true; simp only [PySem.W.alike]; exact h.all a b⟩
theorem Al.T (h : Al f) : Al (eT f) := ⟨fun a b => by show PySem.W.alike (.tuple _) (.tuple _) = true; simp only [PySem.W.alike]; exact h.all a b⟩
theorem Al.e1 (hf : Al f) : Al (e1 f) := ⟨fun a b => by show PySem.W.alike (.tuple _) (.tuple _) = true; simp only [PySem.W.alike, toPys, PySem.W.alikeAll, hf.al, Bool.and_self]⟩
theorem Al.e2 (hf : Al f) (hg : Al g) : Al (e2 f g) := ⟨fun a b => by show PySem.W.alike (.tuple _) (.tuple _) = true; simp only [PySem.W.alike, toPys, PySem.W.alikeAll, hf.al, hg.al, Bool.and_self]⟩
theorem Al.e3 (hf : Al f) (hg : Al g) (hh : Al h) : Al (e3 f g h) := ⟨fun a b => by show PySem.W.alike (.tuple _) (.tuple _) = true; simp only [PySem.W.alike, toPys, PySem.W.alikeAll, hf.al, hg.al, hh.al, Bool.and_self]⟩
/-- sorted may be asked -/
def So (f : α → D) : Prop := (∀ a, ∃ x r, toPy (f a) = .tuple (x :: r)) ∨ ∀ a, toPy (f a) ≠ .none ∧ ∀ xs, toPy (f a) ≠ .tuple xs
theorem So.I : So eI := .inr fun _ => ⟨fun q => (nomatch q), fun _ q => (nomatch q)⟩
theorem So.S : So eS := .inr fun _ => ⟨fun q => (nomatch q), fun _ q => (nomatch q)⟩
theorem So.L : So (eL f) := .inr fun _ => ⟨fun q => (nomatch q), fun _ q => (nomatch q)⟩
theorem So.e1 : So (e1 f) := .inl fun _ => ⟨_, _, rfl⟩
theorem So.e2 : So (e2 f g) := .inl fun _ => ⟨_, _, rfl⟩
theorem So.e3 : So (e3 f g h) := .inl fun _ => ⟨_, _, rfl⟩
theorem each_iss {H : Hp} : ∀ {vs : List V} {xs : List α}, Iss K H vs (xs.map f) → PySem.W.EachIs (fun v a => Is K H v (f a)) vs xs
  | [], [], _ => .nil
  | v :: vs, x :: xs, h => by
    cases h with
    | cons h1 h2 => exact .cons h1 (each_iss h2)
  | [], _ :: _, h => by cases h
  | _ :: _, [], h => by cases h
theorem iss_each {H : Hp} : ∀ {vs : List V} {xs : List α}, PySem.W.EachIs (fun v a => Is K H v (f a)) vs xs → Iss K H vs (xs.map f)
  | _, _, .nil => .nil
  | _, _, .cons h t => .cons h (iss_each t)
theorem sortable {xs : List α} (h : So f) : PySem.W.Sortable (xs.map fun a => toPy (f a)) := by
  rcases h with h | h
  · exact PySem.W.Sortable.tuples h
  · exact PySem.W.Sortable.others h
/-- sorted(xs), the order being asked of So -/
theorem rlo_sort [DecidableEq α] (hd : Dt f n) (hal : Al f) (hs : PySem.W.Sortable (xs.map fun a => toPy (f a))) (hn : n ≤ 100) : RLO K [.dat] (rSortP K) [eL f xs] (oL f (srt f xs)) := fun B H T vs hB hT hm Q q => by
  match vs, hm with
  | [v], hm =>
    have i1 : Is K T v (eL f xs) := hm.1
    cases i1 with
    | @lst a vs _ ha hv hz =>
      refine ⟨a, vs, α, xs, fun a => toPy (f a), fun v b => Is K T v (f b), rfl, .inl (SqL.of (hT _ _ ha)), each_iss hv, fun v b i => plD_dp _ (hd.pl b) (Is.mono hT _ i), PySem.W.AllAlike.of hal.al, hs, fun b _ => Nat.le_trans (hd.dep b) hn, fun out p ho hl hp => ?_⟩
      exact q p _ T (Gr.own hT hp) hp (hT.back hp) ⟨out, upd_same, iss_each ho, by
        show ((srt f xs).map f).length ≤ _
        rw [List.length_map] at hz ⊢
        unfold srt
        rw [List.length_mergeSort]; exact hz⟩
theorem rlo_sortI [DecidableEq α] (hi : Im f) (hd : Dt f n) (hal : Al f) (hs : PySem.W.Sortable (xs.map fun a => toPy (f a))) (hn : n ≤ 100) : RLO K [m1] (rSortP K) [eL f xs] (oL f (srt f xs)) := fun B H T vs hB hT hm Q q => by
  match vs, hm with
  | [v], hm =>
    have i1 := hm.1.now hB hT
    cases i1 with
    | @lst a vs _ ha hv hz =>
      have g2 := hardUp_gr hT
      have hv2 := Iss.hard (Le.refl _) hT _ (imms_iff.mpr fun d hd => by
        obtain ⟨a, _, rfl⟩ := List.mem_map.mp hd
        exact hi a) hv
      refine ⟨a, vs, α, xs, fun a => toPy (f a), fun v b => Is K (hardUp H T) v (f b), rfl, .inl (SqL.of ha), each_iss hv2, fun v b i => plD_dp _ (hd.pl b) (Is.mono g2.s _ i), PySem.W.AllAlike.of hal.al, hs, fun b _ => Nat.le_trans (hd.dep b) hn, fun out p ho hl hp => ?_⟩
      exact q p _ _ (g2.trans (Gr.own g2.s hp)) hp (g2.s.back hp) ⟨out, upd_same, iss_each ho, by
        show ((srt f xs).map f).length ≤ _
        rw [List.length_map] at hz ⊢
        unfold srt
        rw [List.length_mergeSort]; exact hz⟩
theorem evo_sort [DecidableEq α] (hd : Dt f n) (hal : Al f) (hs : So f) (ha : Ev K .dat ta e (eL f xs)) (hn : n ≤ 100 := by decide) : EvO K (tCB (rSortP K) (tCons ta tNil)) e (oL f (srt f xs)) := ev_cbO (ea_cons ha ea_nil) (rlo_sort hd hal (sortable hs) hn)
theorem evo_sortI [DecidableEq α] (hi : Im f) (hd : Dt f n) (hal : Al f) (hs : So f) (ha : Ev K .now ta e (eL f xs)) (hn : n ≤ 100 := by decide) : EvO K (tCB (rSortP K) (tCons ta tNil)) e (oL f (srt f xs)) := ev_cbO (ea_cons ha ea_nil) (rlo_sortI hi hd hal (sortable hs) hn)
/-- sorted(xs), the order being asked of So -/
theorem rlo_sortT [DecidableEq α] (hd : Dt f n) (hal : Al f) (hs : PySem.W.Sortable (xs.map fun a => toPy (f a))) (hn : n ≤ 100) : RLO K [.dat] (rSortP K) [eT f xs] (oL f (srt f xs)) := fun B H T vs hB hT hm Q q => by
  match vs, hm with
  | [v], hm =>
    have i1 : Is K T v (eT f xs) := hm.1
    cases i1 with
    | @tup a vs _ ha hv hz =>
      refine ⟨a, vs, α, xs, fun a => toPy (f a), fun v b => Is K T v (f b), rfl, .inr (hT.sqT ha.t), each_iss hv, fun v b i => plD_dp _ (hd.pl b) (Is.mono hT _ i), PySem.W.AllAlike.of hal.al, hs, fun b _ => Nat.le_trans (hd.dep b) hn, fun out p ho hl hp => ?_⟩
      exact q p _ T (Gr.own hT hp) hp (hT.back hp) ⟨out, upd_same, iss_each ho, by
        show ((srt f xs).map f).length ≤ _
        rw [List.length_map] at hz ⊢
        unfold srt
        rw [List.length_mergeSort]; exact hz⟩
theorem rlo_sortTI [DecidableEq α] (hi : Im f) (hd : Dt f n) (hal : Al f) (hs : PySem.W.Sortable (xs.map fun a => toPy (f a))) (hn : n ≤ 100) : RLO K [m1] (rSortP K) [eT f xs] (oL f (srt f xs)) := fun B H T vs hB hT hm Q q => by
  match vs, hm with
  | [v], hm =>
    have i1 := hm.1.now hB hT
    cases i1 with
    | @tup a vs _ ha hv hz =>
      have g2 := hardUp_gr hT
      have hv2 := Iss.hard (Le.refl _) hT _ (imms_iff.mpr fun d hd => by
        obtain ⟨a, _, rfl⟩ := List.mem_map.mp hd
        exact hi a) hv
      refine ⟨a, vs, α, xs, fun a => toPy (f a), fun v b => Is K (hardUp H T) v (f b), rfl, .inr ha.t, each_iss hv2, fun v b i => plD_dp _ (hd.pl b) (Is.mono g2.s _ i), PySem.W.AllAlike.of hal.al, hs, fun b _ => Nat.le_trans (hd.dep b) hn, fun out p ho hl hp => ?_⟩
      exact q p _ _ (g2.trans (Gr.own g2.s hp)) hp (g2.s.back hp) ⟨out, upd_same, iss_each ho, by
        show ((srt f xs).map f).length ≤ _
        rw [List.length_map] at hz ⊢
        unfold srt
        rw [List.length_mergeSort]; exact hz⟩
theorem evo_sortT [DecidableEq α] (hd : Dt f n) (hal : Al f) (hs : So f) (ha : Ev K .dat ta e (eT f xs)) (hn : n ≤ 100 := by decide) : EvO K (tCB (rSortP K) (tCons ta tNil)) e (oL f (srt f xs)) := ev_cbO (ea_cons ha ea_nil) (rlo_sortT hd hal (sortable hs) hn)
theorem evo_sortTI [DecidableEq α] (hi : Im f) (hd : Dt f n) (hal : Al f) (hs : So f) (ha : Ev K .now ta e (eT f xs)) (hn : n ≤ 100 := by decide) : EvO K (tCB (rSortP K) (tCons ta tNil)) e (oL f (srt f xs)) := ev_cbO (ea_cons ha ea_nil) (rlo_sortTI hi hd hal (sortable hs) hn)
/-! index -/
theorem ev_indexL [DecidableEq α] (hd : Dt f n) (ha : Ev K .now ta e (eL f xs)) (hb : Ev K .now tb e (f a)) (hk : a ∈ xs) (hn : n ≤ 100 := by decide) : Ev K m (tBM K "list" (rIndexP K) ta (tCons tb tNil)) e (.int (xs.idxOf a : Nat)) := Ev.up fun B T0 σ H T s Q q =>
  ha B T0 σ H T s _ fun v H1 T1 g1 i1 => by
    have i2 := i1.now (s.gr.h.trans g1.h) g1.s
    cases id i2 with
    | @lst p vs _ hp hv hz =>
      refine ⟨.inl ⟨rfl, vs, SqL.of hp⟩, hb B T0 σ H1 T1 (s.grow g1) _ fun w H2 T2 g2 i3 => ?_⟩
      have i4 := i3.now ((s.grow g1).gr.h.trans g2.h) g2.s
      refine ⟨p, w, α, inferInstance, hd.datum, a, xs, rfl, rfl, plD_dp _ (hd.pl a) i4, ?_, hn, hk, q _ H2 T2 (g1.trans g2) (.int _)⟩
      have := plD_dp (eL f xs) (hd.all xs) (Is.mono g2.h _ i2)
      rw [show toPy (eL f xs) = .list (xs.map fun a => toPy (f a)) from congrArg PyData.list (toPys_map f xs)] at this
      exact this
/-! what is walked -/
theorem ez_L (hm : m ≠ .now) (ha : Ev K m ta e (eL f xs)) : EvIz K m (iSeq K ta) e (xs.map f) := ei_lstZ hm ha
theorem ez_T (hm : m ≠ .now) (ha : Ev K m ta e (eT f xs)) : EvIz K m (iSeq K ta) e (xs.map f) := ei_tupZ hm ha
theorem ei_range1 {ta : TA} (ha : EvA K [m1] ta e [.int k]) (hk : k < 2 ^ 62 ∧ -(2 ^ 62) ≤ k) : EvI K .dat (iRng1 ta) e ((rangeI 0 k).map eI) := by
  rw [rangeI_D, Int.sub_zero]
  exact ei_rng1 ha hk.2 hk.1
theorem ei_range2 {ta : TA} (ha : EvA K [m1, m2] ta e [.int i, .int j]) (hk : -(2 ^ 62) ≤ i ∧ i < 2 ^ 62 ∧ -(2 ^ 62) ≤ j ∧ j < 2 ^ 62) : EvI K .dat (iRng2 ta) e ((rangeI i j).map eI) := by
  rw [rangeI_D]
  exact ei_rng2 ha hk
theorem EvI.z {wi : TI} {ds : List D} (h : EvI K m wi e ds) (hz : ds.length ≤ sizeLine) : EvIz K m wi e ds := fun B T0 σ H T s R q => h B T0 σ H T s R fun J H' T' g i => q J H' T' g hz i
/-- range(len(xs)) -/
theorem ez_rangeLen (tp : Bool) (ha : Ev K .now ta e (if tp = true then eT f xs else eL f xs)) : EvIz K .dat (iRng1 (tCons (tCB (rLenU K) (tCons ta tNil)) tNil)) e ((rangeI 0 (xs.length : Nat)).map eI) := fun B T0 σ H T s R q => ha B T0 σ H T s _ fun v H1 T1 g1 i1 => by
  have i2 := i1.now (s.gr.h.trans g1.h) g1.s
  have e0 : (rangeI 0 (xs.length : Nat)).map eI = rgD 0 xs.length := by rw [rangeI_D, Int.sub_zero, Int.toNat_natCast]
  have key : (∃ n, LenV K v H1 n ∧ n = xs.length) ∧ xs.length ≤ sizeLine := by
    cases tp with
    | true =>
      cases i2 with
      | @tup p vs _ hp hv hz =>
        rw [List.length_map] at hz
        exact ⟨⟨_, .inr ⟨vs, hp.t, rfl⟩, by rw [hv.length, List.length_map]⟩, hz⟩
    | false =>
      cases i2 with
      | @lst p vs _ hp hv hz =>
        rw [List.length_map] at hz
        exact ⟨⟨_, .inl ⟨vs, SqL.of hp, rfl⟩, by rw [hv.length, List.length_map]⟩, hz⟩
  obtain ⟨⟨n, hn, rfl⟩, hz⟩ := key
  have hsl := sizeLine_eq
  refine ⟨v, xs.length, rfl, hn, (xs.length : Nat), rfl, by omega, by omega, ?_⟩
  rw [Int.toNat_natCast]
  refine q _ H1 T1 g1 (by rw [List.length_map, rangeI_len]; omega) ?_
  rw [e0]
  exact itD_rng
theorem ez_rlL (ha : Ev K .now ta e (eL f xs)) : EvIz K .dat (iRng1 (tCons (tCB (rLenU K) (tCons ta tNil)) tNil)) e ((rangeI 0 (xs.length : Nat)).map eI) := ez_rangeLen false ha
theorem ez_rlT (ha : Ev K .now ta e (eT f xs)) : EvIz K .dat (iRng1 (tCons (tCB (rLenU K) (tCons ta tNil)) tNil)) e ((rangeI 0 (xs.length : Nat)).map eI) := ez_rangeLen true ha
theorem ez_enumL (ha : Ev K .dat ta e (eL f xs)) : EvIz K .dat (iEnumN K (tCons ta tNil)) e ((enumI xs).map (e2 eI f)) := by
  have h := ei_enumZ ha
  have e0 : ((enumI xs).map (e2 eI f)) = ((xs.map f).zipIdx.map fun p => D.tup [.int (p.2 : Nat), p.1]) := by
    unfold enumI
    rw [List.zipIdx_map, List.map_map, List.map_map]
    rfl
  rw [e0]; exact h
/-! comprehensions -/
theorem evo_lc {wi : TI} {tg : TG} {vs : List Nat} {cs : α → Bool} {hx : α → β} {okx : α → Prop} (hi : EvIz K m wi e (xs.map f)) (hk : ∀ x ∈ xs, okx x)
    (hs : ∀ x, okx x → ∃ e', Tg K vs m tg (f x) (wipeE e vs) e' ∧ EvT K tt e' (cs x) ∧ (cs x = true → Ev K .dat te e' (g (hx x)))) :
    EvO K (tLc wi tg tt te vs) e (oL g ((xs.filter cs).map hx)) := fun B T0 σ H T s Q q => hi B T0 σ H T s _ fun J H1 T1 g1 hz0 hJ Dl hD => by
  obtain ⟨S, hS, st, go, stop⟩ := hJ
  have hz : xs.length ≤ sizeLine := by rwa [List.length_map] at hz0
  have s1 := s.grow g1
  have hT1 : T1 Dl = none := g1.s.back hD
  refine ⟨fun i m H => m = xs.length - i ∧ i ≤ xs.length ∧ ∃ Hm T acc, H = upd Hm Dl (.lst acc) ∧ Hm Dl = none ∧ Gr H1 T1 Hm T ∧ S H T ∧ Iss K T acc ((((xs.take i).filter cs).map hx).map g), ⟨xs.length, by simp, Nat.zero_le _, H1, T1, [], rfl, hD, Gr.refl g1.s, ?_, .nil⟩, ?_⟩
  · exact st _ _ _ _ hS (Le.refl _) (s1.gr.h.trans (Le.new hD)) (g1.s.trans (Le.new hD))
  rintro i m' H2 ⟨rfl, hle, Hm, T2, acc, rfl, hm, gm, hS2, hacc⟩
  have sm := s1.grow gm
  have gown : Gr Hm T2 (upd Hm Dl (.lst acc)) T2 := Gr.own gm.s hm
  have s2 := sm.grow gown
  by_cases hlt : i < xs.length
  · have hx0 : xs[i]? = some xs[i] := List.getElem?_eq_getElem hlt
    have hx1 : (xs.map f)[i]? = some (f xs[i]) := by rw [List.getElem?_map, hx0]; rfl
    obtain ⟨hgo, hy⟩ := go i _ _ T2 hS2 hx1 s2.gr.h s2.gr.s
    refine .inr ⟨hgo, fun H' => ∃ Hm T acc, H' = upd Hm Dl (.lst acc) ∧ Hm Dl = none ∧ Gr H1 T1 Hm T ∧ S H' T ∧ Iss K T acc ((((xs.take (i + 1)).filter cs).map hx).map g), fun H' q => ⟨xs.length - (i + 1), by omega, rfl, hlt, q⟩, fun v H3 y => ?_⟩
    obtain ⟨T3, g3, iv⟩ := hy v H3 y
    have s3 := s2.grow g3
    obtain ⟨e', htg, hcs, hev⟩ := hs xs[i] (hk _ (List.getElem_mem hlt))
    refine htg B T0 (wipe σ vs) H3 T3 v (s3.wipe vs) iv _ fun σ4 s4 b4 => ⟨?_, ?_⟩
    · have : SameBut vs σ σ4 := SameBut.trans ⟨wipe_length σ vs, fun j hj => wipe_get hj⟩ b4
      exact wipe_same this
    have ftk : (xs.take (i + 1)).filter cs = (xs.take i).filter cs ++ (if cs xs[i] = true then [xs[i]] else []) := by
      rw [List.take_add_one, hx0, List.filter_append]
      congr 1
      show List.filter cs [xs[i]] = _
      rw [List.filter_cons, List.filter_nil]
    refine hcs B T0 σ4 H3 T3 s4 _ fun H5 T5 g5 => ?_
    cases hb : cs xs[i] with
    | true =>
      rw [if_pos rfl]
      refine hev hb B T0 σ4 H5 T5 (s4.grow g5) _ fun w H6 T6 g6 iw => ?_
      have gall := (g3.trans g5).trans g6
      obtain ⟨gr', h6, t6⟩ := gr_rem hm gm.s gall
      refine ⟨acc, h6, ?_, rem H6 Dl, T6, acc ++ [w], upd_rem.symm, rem_at, gm.trans gr', ?_, ?_⟩
      · have := hacc.length
        have l1 : ((xs.take i).filter cs).length ≤ (xs.take i).length := List.length_filter_le _ _
        rw [List.length_take] at l1
        rw [List.length_map, List.length_map] at this
        omega
      · have gg : Gr (rem H6 Dl) T6 (upd (rem H6 Dl) Dl (.lst (acc ++ [w]))) T6 := Gr.own gr'.s rem_at
        rw [upd_rem] at gg
        exact st _ _ _ _ hS2 gall.t ((sm.grow gr').gr.h.trans gg.h) gg.s
      · rw [ftk, hb, if_pos rfl, List.map_append, List.map_append]
        exact (Iss.mono gall.t _ hacc).append (.cons iw .nil)
    | false =>
      rw [if_neg Bool.false_ne_true]
      have gall := g3.trans g5
      obtain ⟨gr', h6, t6⟩ := gr_rem hm gm.s gall
      refine ⟨rem H5 Dl, T5, acc, (upd_get h6).symm, rem_at, gm.trans gr', ?_, ?_⟩
      · have gg : Gr (rem H5 Dl) T5 (upd (rem H5 Dl) Dl (.lst acc)) T5 := Gr.own gr'.s rem_at
        rw [upd_get h6] at gg
        exact st _ _ _ _ hS2 gall.t ((sm.grow gr').gr.h.trans gg.h) gg.s
      · rw [ftk, hb, if_neg Bool.false_ne_true, List.append_nil]
        exact Iss.mono gall.t _ hacc
  · have e0 : i = xs.length := by omega
    subst e0
    refine .inl ⟨stop _ _ T2 hS2 s2.gr.h s2.gr.s (by rw [List.length_map]; exact Nat.le_refl _), ?_⟩
    rw [List.take_length] at hacc
    have t2 : T2 Dl = none := gm.s.back hm
    exact q Dl _ T2 (g1.trans (gm.trans gown)) (g1.h.back hD) t2 ⟨acc, upd_same, hacc, by
      rw [List.length_map, List.length_map]
      exact Nat.le_trans (List.length_filter_le _ _) hz⟩
theorem evo_lm {wi : TI} {tg : TG} {vs : List Nat} {hx : α → β} {okx : α → Prop} (hi : EvIz K m wi e (xs.map f)) (hk : ∀ x ∈ xs, okx x)
    (hs : ∀ x, okx x → ∃ e', Tg K vs m tg (f x) (wipeE e vs) e' ∧ Ev K .dat te e' (g (hx x))) :
    EvO K (tLc wi tg tYes te vs) e (oL g (xs.map hx)) := by
  have h := evo_lc (cs := fun _ => true) hi hk fun x hx => by
    obtain ⟨e', h1, h2⟩ := hs x hx
    exact ⟨e', h1, et_yes, fun _ => h2⟩
  have e0 : xs.filter (fun _ => true) = xs := List.filter_eq_self.mpr fun _ _ => rfl
  rwa [e0] at h
end
end Fh

set_option Elab.async false
set_option linter.all false
set_option maxRecDepth 100000
set_option maxHeartbeats 4000000
/-! FhS: typed statements, the least of some ints, slices, _law_same -/
namespace Fh
open PySem PySem.Spec PyProof.Rows L2

def minL : List Int → Int
  | [] => 0
  | x :: xs => xs.foldl min x
def maxL : List Int → Int
  | [] => 0
  | x :: xs => xs.foldl max x
def rMinP (K : PySem.W.Frag) : List V → Hp → VK → Prop := fun args H Q => ∃ (a : Addr) (vs : List V) (ns : List Int), args = [.ref a] ∧ (SqL K H a vs ∨ SqT K H a vs) ∧ vs = ns.map V.int ∧ ns ≠ [] ∧ Q (.int (minL ns)) H
def rMaxP (K : PySem.W.Frag) : List V → Hp → VK → Prop := fun args H Q => ∃ (a : Addr) (vs : List V) (ns : List Int), args = [.ref a] ∧ (SqL K H a vs ∨ SqT K H a vs) ∧ vs = ns.map V.int ∧ ns ≠ [] ∧ Q (.int (maxL ns)) H
theorem readsInts {h : Heap} : ∀ {us : List Value} {ns : List Int}, Vals (ns.map V.int) us → ReadsAll h us (ns.map PyData.int) []
  | [], [], _ => .nil
  | u :: us, n :: ns, h => by
    cases h with
    | cons r t =>
      obtain ⟨tk, rfl⟩ := r
      exact .cons (.int _ _) (readsInts t)
  | [], _ :: _, h => by cases h
  | _ :: _, [], h => by cases h
theorem alikeInts (ns : List Int) : PySem.W.AlikeAll (ns.map PyData.int) := by
  refine ⟨fun x hx y hy => ?_, fun x hx e => ?_⟩
  · obtain ⟨a, _, rfl⟩ := List.mem_map.mp hx
    obtain ⟨b, _, rfl⟩ := List.mem_map.mp hy
    simp only [PySem.W.alike]
  · obtain ⟨a, _, rfl⟩ := List.mem_map.mp hx
    cases e
theorem depthInts : ∀ ns : List Int, PyData.depthAll (ns.map PyData.int) = 0
  | [] => rfl
  | n :: ns => by
    show max 0 (PyData.depthAll (ns.map PyData.int)) = 0
    rw [depthInts ns]; rfl
section
variable {X : Cx} {k : Nat}
theorem cr_minP (hr : Room k X.A) : CallR X (.builtin "min") (rMinP X.K) := by
  intro pins s σ H vs us Q I r h
  obtain ⟨a, xs, ns, rfl, hs, rfl, hne, q⟩ := h
  obtain ⟨u, rfl, ru⟩ := vals1 r
  obtain rfl : u = Value.ref a := ru
  obtain ⟨n, ns', rfl⟩ := List.exists_cons_of_ne_nil hne
  have hu : X.A.units + 1 + PyData.depthAll (PyData.int n :: ns'.map PyData.int) < cLine := by
    have e : PyData.depthAll (PyData.int n :: ns'.map PyData.int) = 0 := depthInts (n :: ns')
    have := hr.un
    omega
  have fin : ∀ (v : Value) (h' : Heap) (tk : Nat) (bs : List Addr), Reads h' v (PySem.W.minD (.int n) (ns'.map PyData.int)) bs → (∀ b o, s.heap.get? b = some o → h'.get? b = some o) → EP X pins σ Q v { s with heap := h', toks := tk } := fun v h' tk bs rd kp => by
    rw [PySem.W.minD_ints] at rd
    cases rd with
    | int i t => exact ⟨.int _, H, I.kept kp, ⟨_, rfl⟩, q⟩
  rcases hs with hs | hs
  · obtain ⟨its, rv, hl, hz⟩ := I.list hs
    exact PySem.W.min_list_data hr.hd hl.isList (readsInts rv) (alikeInts (n :: ns')) hu fun i v h' tk bs _ rd kp => fin v h' tk bs rd kp
  · obtain ⟨its, rv, hl, hz⟩ := I.tuple hs
    exact PySem.W.min_tuple_data hr.hd (show s.heap.IsTuple a its.toArray from hl) (readsInts rv) (alikeInts (n :: ns')) hu fun i v h' tk bs _ rd kp => fin v h' tk bs rd kp
theorem cr_maxP (hr : Room k X.A) : CallR X (.builtin "max") (rMaxP X.K) := by
  intro pins s σ H vs us Q I r h
  obtain ⟨a, xs, ns, rfl, hs, rfl, hne, q⟩ := h
  obtain ⟨u, rfl, ru⟩ := vals1 r
  obtain rfl : u = Value.ref a := ru
  obtain ⟨n, ns', rfl⟩ := List.exists_cons_of_ne_nil hne
  have hu : X.A.units + 1 + PyData.depthAll (PyData.int n :: ns'.map PyData.int) < cLine := by
    have e : PyData.depthAll (PyData.int n :: ns'.map PyData.int) = 0 := depthInts (n :: ns')
    have := hr.un
    omega
  have fin : ∀ (v : Value) (h' : Heap) (tk : Nat) (bs : List Addr), Reads h' v (PySem.W.maxD (.int n) (ns'.map PyData.int)) bs → (∀ b o, s.heap.get? b = some o → h'.get? b = some o) → EP X pins σ Q v { s with heap := h', toks := tk } := fun v h' tk bs rd kp => by
    rw [PySem.W.maxD_ints] at rd
    cases rd with
    | int i t => exact ⟨.int _, H, I.kept kp, ⟨_, rfl⟩, q⟩
  rcases hs with hs | hs
  · obtain ⟨its, rv, hl, hz⟩ := I.list hs
    exact PySem.W.max_list_data hr.hd hl.isList (readsInts rv) (alikeInts (n :: ns')) hu fun i v h' tk bs _ rd kp => fin v h' tk bs rd kp
  · obtain ⟨its, rv, hl, hz⟩ := I.tuple hs
    exact PySem.W.max_tuple_data hr.hd (show s.heap.IsTuple a its.toArray from hl) (readsInts rv) (alikeInts (n :: ns')) hu fun i v h' tk bs _ rd kp => fin v h' tk bs rd kp
end
section
variable {K : PySem.W.Frag} {E : WX} {e : En} {d d1 d2 : D} {te ta tb tc : TE} {tt : TT} {m m1 m2 : Md} {b c : Bool} {α β γ : Type} {f : α → D} {g : β → D} {xs ys : List α} {a a' : α} {k i j : Int} {n s : Nat} {P : Po} {tl th : TO} {lo hi : Option Int}
theorem ev_minL {ns : List Int} (ha : Ev K .now ta e (eL eI ns)) (h : ns ≠ []) : Ev K m (tCB (rMinP K) (tCons ta tNil)) e (.int (minL ns)) := ev_cb (ea_cons ha ea_nil) fun B H T vs hB hT hm Q q => by
  match vs, hm with
  | [v], hm =>
    have i1 := hm.1.now hB hT
    cases i1 with
    | @lst p vs _ hp hv hz => exact ⟨p, vs, ns, rfl, .inl (SqL.of hp), hv.ints, h, q _ H T (Gr.refl hT) (MIs.dat (.int _) hT)⟩
theorem ev_maxL {ns : List Int} (ha : Ev K .now ta e (eL eI ns)) (h : ns ≠ []) : Ev K m (tCB (rMaxP K) (tCons ta tNil)) e (.int (maxL ns)) := ev_cb (ea_cons ha ea_nil) fun B H T vs hB hT hm Q q => by
  match vs, hm with
  | [v], hm =>
    have i1 := hm.1.now hB hT
    cases i1 with
    | @lst p vs _ hp hv hz => exact ⟨p, vs, ns, rfl, .inl (SqL.of hp), hv.ints, h, q _ H T (Gr.refl hT) (MIs.dat (.int _) hT)⟩
theorem ev_minT {ns : List Int} (ha : Ev K .now ta e (eT eI ns)) (h : ns ≠ []) : Ev K m (tCB (rMinP K) (tCons ta tNil)) e (.int (minL ns)) := ev_cb (ea_cons ha ea_nil) fun B H T vs hB hT hm Q q => by
  match vs, hm with
  | [v], hm =>
    have i1 := hm.1.now hB hT
    cases i1 with
    | @tup p vs _ hp hv hz => exact ⟨p, vs, ns, rfl, .inr hp.t, hv.ints, h, q _ H T (Gr.refl hT) (MIs.dat (.int _) hT)⟩
theorem ev_maxT {ns : List Int} (ha : Ev K .now ta e (eT eI ns)) (h : ns ≠ []) : Ev K m (tCB (rMaxP K) (tCons ta tNil)) e (.int (maxL ns)) := ev_cb (ea_cons ha ea_nil) fun B H T vs hB hT hm Q q => by
  match vs, hm with
  | [v], hm =>
    have i1 := hm.1.now hB hT
    cases i1 with
    | @tup p vs _ hp hv hz => exact ⟨p, vs, ns, rfl, .inr hp.t, hv.ints, h, q _ H T (Gr.refl hT) (MIs.dat (.int _) hT)⟩
theorem ev_minPr {p : Int × Int} (ha : Ev K .now ta e (e2 eI eI p)) : Ev K m (tCB (rMinP K) (tCons ta tNil)) e (.int (min p.1 p.2)) := ev_minT (ns := [p.1, p.2]) ha (List.cons_ne_nil _ _)
theorem ev_maxPr {p : Int × Int} (ha : Ev K .now ta e (e2 eI eI p)) : Ev K m (tCB (rMaxP K) (tCons ta tNil)) e (.int (max p.1 p.2)) := ev_maxT (ns := [p.1, p.2]) ha (List.cons_ne_nil _ _)
/-! names of one's own lists -/
theorem ev_ownL (h : e[s]? = some (.own (oL f xs))) : Ev K .now (tVar s) e (eL f xs) := ev_own h
theorem EvO.datL (h : EvO K te e (oL f xs)) : Ev K m te e (eL f xs) := h.dat
theorem ev_ifV {x y : α} (hc : EvT K tt e c) (h1 : c = true → Ev K m ta e (f x)) (h2 : c = false → Ev K m tb e (f y)) : Ev K m (tIf tt ta tb) e (f (if c = true then x else y)) := by
  cases c with
  | true => exact ev_if hc (fun _ => h1 rfl) (fun z => nomatch z)
  | false => exact ev_if hc (fun z => nomatch z) (fun _ => h2 rfl)
/-! + of lists, of tuples; slices; lists repeated -/
theorem evo_catL (ha : Ev K .dat ta e (eL f xs)) (hb : Ev K .dat tb e (eL f ys)) (hz : xs.length + ys.length ≤ sizeLine) : EvO K (tOp (rPlus K) ta tb) e (oL f (xs ++ ys)) := by
  have h := evo_cat ha hb (by rw [List.length_map, List.length_map]; exact hz)
  rwa [← List.map_append] at h
theorem ev_catTu (ha : Ev K .dat ta e (eT f xs)) (hb : Ev K .dat tb e (eT f ys)) (hz : xs.length + ys.length ≤ sizeLine) : Ev K m (tOp (rPlus K) ta tb) e (eT f (xs ++ ys)) := by
  have h := ev_catT (m := m) ha hb (by rw [List.length_map, List.length_map]; exact hz)
  rwa [← List.map_append] at h
theorem evo_cutL (ha : Ev K .dat ta e (eL f xs)) (hl : EvS K tl e lo) (hh : EvS K th e hi) : EvO K (tSl (rSlU K) ta tl th) e (oL f (cut xs lo hi)) := by
  have h := evo_slL ha hl hh
  rwa [cut_map] at h
theorem ev_cutT (ha : Ev K .dat ta e (eT f xs)) (hl : EvS K tl e lo) (hh : EvS K th e hi) : Ev K m (tSl (rSlU K) ta tl th) e (eT f (cut xs lo hi)) := by
  have h := ev_slT (m := m) ha hl hh
  rwa [cut_map] at h
theorem evo_cutLI (hi' : Im f) (ha : Ev K .now ta e (eL f xs)) (hl : EvS K tl e lo) (hh : EvS K th e hi) : EvO K (tSl (rSlU K) ta tl th) e (oL f (cut xs lo hi)) := fun B T0 σ H T s Q q =>
  ha B T0 σ H T s _ fun v H1 T1 g1 i1 => hl B T0 σ H1 T1 (s.grow g1) _ fun H2 T2 g2 => hh B T0 σ H2 T2 ((s.grow g1).grow g2) _ fun H3 T3 g3 => by
    have i2 : Is K H3 v _ := Is.mono (g2.h.trans g3.h) _ i1
    cases i2 with
    | @lst a vs _ hv iv hz =>
      have g := (g1.trans g2).trans g3
      have g4 := hardUp_gr g3.s
      have iv2 := Iss.hard (Le.refl _) g3.s _ (imms_iff.mpr fun d hd => by
        obtain ⟨a, _, rfl⟩ := List.mem_map.mp hd
        exact hi' a) iv
      refine .inl ⟨a, vs, rfl, SqL.of hv, fun p hp => ?_⟩
      refine q p _ _ ((g.trans g4).trans (Gr.own g4.s hp)) (g.h.back hp) (g4.s.back hp) ⟨_, upd_same, ?_, by
        rw [List.length_map] at hz ⊢
        exact Nat.le_trans (cut_len ..) hz⟩
      have := cut_iss (lo := lo) (hi := hi) iv2
      rwa [cut_map] at this
theorem evo_repL (ha : Ev K .dat ta e (eL f [a])) (hb : Ev K .now tb e (.int k)) (h : k < 2 ^ 63 ∧ -(2 ^ 63) ≤ k ∧ k.toNat ≤ sizeLine) : EvO K (tOp rTimes ta tb) e (oL f (List.replicate k.toNat a)) := by
  have h1 := evo_rep ha hb h.2.1 h.1 (by
    show 1 * k.toNat ≤ sizeLine
    omega)
  have e0 : ∀ n : Nat, (List.replicate n ([a].map f)).flatten = (List.replicate n a).map f := by
    intro n
    induction n with
    | zero => rfl
    | succ n ih => rw [List.replicate_succ, List.flatten_cons, ih, List.replicate_succ]; rfl
  rwa [e0] at h1
/-! statements that change a list of one's own -/
theorem st_app (hi : e[s]? = some (.own (oL f xs))) (h : Ev K .dat te e (f a)) (hz : xs.length < sizeLine) (P : Po) (q : P.nx (e.set s (.own (oL f (xs ++ [a]))))) : Run K E (tDrop (tBM K "list" rAppend (tVar s) (tCons te tNil))) e P :=
  run_app hi h (by rw [List.length_map]; exact hz) (by
    have e0 : xs.map f ++ [f a] = (xs ++ [a]).map f := by rw [List.map_append]; rfl
    rw [e0]; exact q)
theorem map_set (xs : List α) (j : Nat) (a : α) : (xs.set j a).map f = (xs.map f).set j (f a) := List.map_set
theorem st_set (hi : e[s]? = some (.own (oL f xs))) (h : Ev K .dat te e (f a)) (hk : Ev K .now tb e (.int k)) (h0 : 0 ≤ k ∧ k < xs.length) (P : Po) (q : P.nx (e.set s (.own (oL f (xs.set k.toNat a))))) : Run K E (tAsg te (gSub (tVar s) tb rSetL)) e P :=
  run_setI hi h hk (ixN_len h0.1 (by rw [List.length_map]; exact h0.2) rfl) (by
    have e0 : (xs.map f).set k.toNat (f a) = (xs.set k.toNat a).map f := List.map_set.symm
    rw [e0]; exact q)
def insI (xs : List α) (k : Int) (a : α) : List α := xs.take k.toNat ++ [a] ++ xs.drop k.toNat
theorem insI_len (xs : List α) (k : Int) (a : α) : (insI xs k a).length = xs.length + 1 := by unfold insI; simp; omega
def rInsert : V → List V → Hp → VK → Prop := fun x vs H Q => ∃ (l : Addr) (xs : List V) (i : Int) (y : V), x = .ref l ∧ vs = [.int i, y] ∧ H l = some (.lst xs) ∧ xs.length < sizeLine ∧ 0 ≤ i ∧ i < 2 ^ 63 ∧ Q .non (upd H l (.lst (xs.take i.toNat ++ [y] ++ xs.drop i.toNat)))
theorem mt_insertU {X : Cx} : MtR X "list.insert" rInsert := mt_insert
theorem st_ins (hi : e[s]? = some (.own (oL f xs))) (hk : Ev K .now tb e (.int k)) (h : Ev K .dat te e (f a)) (h0 : xs.length < sizeLine ∧ 0 ≤ k ∧ k < 2 ^ 63) (P : Po) (q : P.nx (e.set s (.own (oL f (insI xs k a))))) : Run K E (tDrop (tBM K "list" rInsert (tVar s) (tCons tb (tCons te tNil)))) e P := fun B T0 σ H T D s0 ft => by
  obtain ⟨p, hx, hb, ht, vs, hv, iv, hz⟩ := s0.own hi
  refine ⟨_, hx, .inl ⟨rfl, _, SqL.of hv⟩, hk B T0 σ H T s0 _ fun v H1 T1 g1 i1 => ?_⟩
  have s1 := s0.grow g1
  have i2 := i1.now (s0.gr.h.trans g1.h) g1.s
  cases i2
  refine h B T0 σ H1 T1 s1 _ fun w H2 T2 g2 i3 => ?_
  have g := g1.trans g2
  refine ⟨p, vs, k, w, rfl, rfl, g.h _ _ hv, by rw [iv.length, List.length_map]; exact h0.1, h0.2.1, h0.2.2, ?_⟩
  have iv2 := Iss.mono g.t _ iv
  refine ft.nx _ _ _ T2 q ((s0.grow g).wr hi hx ⟨_, upd_same, ?_, ?_⟩)
  · show Iss K T2 _ ((insI xs k a).map f)
    unfold insI
    rw [List.map_append, List.map_append, List.map_take, List.map_drop]
    exact ((iv2.take _).append (.cons i3 .nil)).append (iv2.drop _)
  · show ((insI xs k a).map f).length ≤ _
    rw [List.length_map, insI_len]; exact h0.1
theorem st_clr (hi : e[s]? = some (.own (oL f xs))) (P : Po) (q : P.nx (e.set s (.own (oL f [])))) : Run K E (tDrop (tBM0 K "list" rClear (tVar s))) e P := fun B T0 σ H T D s0 ft => by
  obtain ⟨p, hx, hb, ht, vs, hv, iv, hz⟩ := s0.own hi
  refine ⟨_, hx, .inl ⟨rfl, _, SqL.of hv⟩, p, vs, rfl, rfl, hv, ?_⟩
  exact ft.nx _ _ _ T q (s0.wr hi hx ⟨_, upd_same, .nil, Nat.zero_le _⟩)
theorem st_rev (hi : e[s]? = some (.own (oL f xs))) (P : Po) (q : P.nx (e.set s (.own (oL f xs.reverse)))) : Run K E (tDrop (tBM0 K "list" rReverse (tVar s))) e P := fun B T0 σ H T D s0 ft => by
  obtain ⟨p, hx, hb, ht, vs, hv, iv, hz⟩ := s0.own hi
  refine ⟨_, hx, .inl ⟨rfl, _, SqL.of hv⟩, p, vs, rfl, rfl, hv, ?_⟩
  refine ft.nx _ _ _ T q (s0.wr hi hx ⟨_, upd_same, ?_, ?_⟩)
  · show Iss K T _ (xs.reverse.map f)
    rw [List.map_reverse]; exact iv.reverse
  · show (xs.reverse.map f).length ≤ _
    rw [List.length_map, List.length_reverse]
    rw [List.length_map] at hz; exact hz
theorem st_ext (hi : e[s]? = some (.own (oL f xs))) (h : Ev K .dat te e (eL f ys)) (h0 : xs.length + ys.length ≤ sizeLine) (P : Po) (q : P.nx (e.set s (.own (oL f (xs ++ ys))))) : Run K E (tDrop (tBM K "list" rExtend (tVar s) (tCons te tNil))) e P := fun B T0 σ H T D s0 ft => by
  obtain ⟨p, hx, hb, ht, vs, hv, iv, hz⟩ := s0.own hi
  refine ⟨_, hx, .inl ⟨rfl, _, SqL.of hv⟩, h B T0 σ H T s0 _ fun v H1 T1 g1 i1 => ?_⟩
  cases i1 with
  | @lst p2 vs2 _ hp2 hv2 hz2 =>
    refine ⟨p, p2, vs, vs2, rfl, rfl, g1.h _ _ hv, g1.s _ _ hp2, by rw [iv.length, hv2.length, List.length_map, List.length_map]; exact h0, ?_⟩
    refine ft.nx _ _ _ T1 q ((s0.grow g1).wr hi hx ⟨_, upd_same, ?_, ?_⟩)
    · show Iss K T1 _ ((xs ++ ys).map f)
      rw [List.map_append]
      exact (Iss.mono g1.t _ iv).append hv2
    · show ((xs ++ ys).map f).length ≤ _
      rw [List.length_map, List.length_append]; exact h0
theorem st_aug {fi : Int → Int → Int} {x y : Int} (hi : e[s]? = some (.dat (.int x))) (h : Ev K .now te e (.int y)) (P : Po) (q : P.nx (e.set s (.dat (.int (fi x y))))) : Run K E (tAug s te (ipI fi)) e P := run_augI hi h q
/-! _law_same -/
def Sh (n : Nat) (f : α → D) : Prop := ∀ a, shp n (f a) = true
theorem sm_eqD {n : Nat} {a b : D} (h : shp n a = true) : sm a b = true ↔ a = b := ⟨sm_eq a b, fun q => by subst q; exact sm_refl n a h⟩
theorem Dt.inj [DecidableEq α] (hd : Dt f n) {a b : α} (h : f a = f b) : a = b := by
  have h1 := hd.eqv a b
  rw [h] at h1
  rw [hd.eqv b b, decide_eq_true rfl] at h1
  exact of_decide_eq_true h1.symm
theorem ev_sameT [DecidableEq α] (hd : Dt f n) (hs : shp 6 (f a) = true) (hs' : shp 6 (f a') = true) (ha : Ev K .now ta e (f a)) (hb : Ev K .now tb e (f a')) : Ev K m (tCall (spSame K 6) [] E0 (tCons ta (tCons tb tNil))) e (.bl (decide (a = a'))) :=
  (ev_call (out := fun p : D × D => D.bl (sm p.1 p.2)) (f a, f a') ⟨hs', ⟨6, hs⟩⟩ (ea_cons ha (ea_cons hb ea_nil))).is (by
    show D.bl (sm (f a) (f a')) = _
    congr 1
    by_cases h : a = a'
    · subst h
      rw [decide_eq_true rfl]; exact sm_refl 6 _ hs
    · rw [decide_eq_false h]
      cases q : sm (f a) (f a') with
      | false => rfl
      | true => exact absurd (hd.inj (sm_eq _ _ q)) h)
theorem Sh.I : Sh n eI := fun _ => by cases n <;> rfl
theorem Sh.B : Sh n eB := fun _ => by cases n <;> rfl
theorem Sh.N : Sh n eN := fun _ => by cases n <;> rfl
theorem shps_of {n : Nat} : ∀ {ds : List D}, (∀ d ∈ ds, shp n d = true) → shps n ds = true
  | [], _ => rfl
  | d :: ds, h => by
    rw [shps, h d List.mem_cons_self, shps_of fun x hx => h x (List.mem_cons_of_mem _ hx)]; rfl
theorem Sh.L (h : Sh n f) : Sh (n + 1) (eL f) := fun l => shps_of fun d hd => by
  obtain ⟨a, _, rfl⟩ := List.mem_map.mp hd
  exact h a
theorem Sh.T (h : Sh n f) : Sh (n + 1) (eT f) := fun l => shps_of fun d hd => by
  obtain ⟨a, _, rfl⟩ := List.mem_map.mp hd
  exact h a
theorem Sh.e1 (h : Sh n f) : Sh (n + 1) (e1 f) := fun a => and_tt (h a) rfl
theorem Sh.e2 (h : Sh n f) (h2 : Sh n g) : Sh (n + 1) (e2 f g) := fun a => and_tt (h a.1) (and_tt (h2 a.2) rfl)
theorem Sh.e3 {k : γ → D} (h : Sh n f) (h2 : Sh n g) (h3 : Sh n k) : Sh (n + 1) (e3 f g k) := fun a => and_tt (h a.1) (and_tt (h2 a.2.1) (and_tt (h3 a.2.2) rfl))
theorem Sh.O (h : Sh n f) : Sh n (eO f) := fun a => by cases a with
  | none => cases n <;> rfl
  | some a => exact h a
end
end Fh

set_option Elab.async false
set_option linter.all false
set_option maxRecDepth 100000
set_option maxHeartbeats 4000000
/-! FhU: small rules that the printed walks take; invariants -/
namespace Fh
open PySem PySem.Spec PyProof.Rows L2
theorem letT {α : Type} {v : α} : letO v (fun _ => True) := trivial
theorem ifT {c : Bool} : (c = true → True) ∧ (c = false → True) := ⟨fun _ => trivial, fun _ => trivial⟩
theorem okS_T {S X : Type} {step : S → X → S} : ∀ {s : S} {xs : List X}, okS step (fun _ _ => True) (fun _ => True) s xs
  | _, [] => trivial
  | _, _ :: xs => ⟨trivial, okS_T (xs := xs)⟩
theorem okF_T {S R X : Type} {step : S → X → Fl S R} : ∀ {s : S} {xs : List X}, okF step (fun _ _ => True) (fun _ => True) s xs
  | _, [] => trivial
  | s, x :: xs => ⟨trivial, by
    cases h : step s x with
    | nx s => exact okF_T (xs := xs)
    | bk s => trivial
    | rt r => trivial⟩
section
variable {S R X : Type}
/-- by an invariant -/
theorem okS_at {step : S → X → S} {oks : S → X → Prop} {okr : S → Prop} (I : Nat → S → Prop) : ∀ (xs : List X) (k : Nat) (s : S), I k s → (∀ (j : Nat) s x, xs[j]? = some x → I (k + j) s → oks s x ∧ I (k + j + 1) (step s x)) → (∀ s, I (k + xs.length) s → okr s) → okS step oks okr s xs
  | [], k, s, h0, hs, hr => hr s h0
  | x :: xs, k, s, h0, hs, hr => by
    have h1 := hs 0 s x rfl h0
    refine ⟨h1.1, okS_at I xs (k + 1) (step s x) h1.2 (fun j s y hy hI => ?_) (fun s hI => hr s (by rw [List.length_cons]; rwa [show k + (xs.length + 1) = k + 1 + xs.length by omega]))⟩
    have h2 := hs (j + 1) s y (by simpa using hy) (by rwa [show k + (j + 1) = k + 1 + j by omega])
    rwa [show k + (j + 1) + 1 = k + 1 + j + 1 by omega] at h2
theorem okS_inv {step : S → X → S} {oks : S → X → Prop} {okr : S → Prop} (I : Nat → S → Prop) {s0 : S} {xs : List X} (h0 : I 0 s0)
    (hs : ∀ (k : Nat) s x, xs[k]? = some x → I k s → oks s x ∧ I (k + 1) (step s x)) (hr : ∀ s, I xs.length s → okr s) : okS step oks okr s0 xs :=
  okS_at I xs 0 s0 h0 (fun j s x hx hI => by
    rw [Nat.zero_add] at hI ⊢
    exact hs j s x hx hI) (fun s hI => hr s (by rwa [Nat.zero_add] at hI))
/-- the place plays no part -/
theorem okS_all {step : S → X → S} {oks : S → X → Prop} {okr : S → Prop} (I : S → Prop) {s0 : S} {xs : List X} (h0 : I s0)
    (hs : ∀ s x, x ∈ xs → I s → oks s x ∧ I (step s x)) (hr : ∀ s, I s → okr s) : okS step oks okr s0 xs :=
  okS_inv (fun _ => I) h0 (fun k s x hx hI => hs s x (List.mem_of_getElem? hx) hI) hr
theorem foldl_inv {step : S → X → S} (I : Nat → S → Prop) : ∀ (xs : List X) (k : Nat) (s : S), I k s → (∀ (j : Nat) s x, xs[j]? = some x → I (k + j) s → I (k + j + 1) (step s x)) → I (k + xs.length) (xs.foldl step s)
  | [], k, s, h0, hs => h0
  | x :: xs, k, s, h0, hs => by
    have h := foldl_inv I xs (k + 1) (step s x) (hs 0 s x rfl h0) (fun j s y hy hI => by
      have h2 := hs (j + 1) s y (by simpa using hy) (by rwa [show k + (j + 1) = k + 1 + j by omega])
      rwa [show k + (j + 1) + 1 = k + 1 + j + 1 by omega] at h2)
    rw [List.length_cons]
    rwa [show k + (xs.length + 1) = k + 1 + xs.length by omega]
theorem foldl_at {step : S → X → S} (I : Nat → S → Prop) {s0 : S} {xs : List X} (h0 : I 0 s0) (hs : ∀ (k : Nat) s x, xs[k]? = some x → I k s → I (k + 1) (step s x)) : I xs.length (xs.foldl step s0) := by
  have h := foldl_inv I xs 0 s0 h0 (fun j s x hx hI => by
    rw [Nat.zero_add] at hI ⊢
    exact hs j s x hx hI)
  rwa [Nat.zero_add] at h
theorem okF_at {step : S → X → Fl S R} {oks : S → X → Prop} {okr : S → Prop} (I : Nat → S → Prop) : ∀ (xs : List X) (k : Nat) (s : S), I k s → (∀ (j : Nat) s x, xs[j]? = some x → I (k + j) s → oks s x ∧ (∀ s', step s x = .nx s' → I (k + j + 1) s') ∧ (∀ s', step s x = .bk s' → okr s')) → (∀ s, I (k + xs.length) s → okr s) → okF step oks okr s xs
  | [], k, s, h0, hs, hr => hr s h0
  | x :: xs, k, s, h0, hs, hr => by
    have h1 := hs 0 s x rfl h0
    refine ⟨h1.1, ?_⟩
    cases h : step s x with
    | nx s' =>
      refine okF_at I xs (k + 1) s' (h1.2.1 s' h) (fun j s y hy hI => ?_) (fun s hI => hr s (by rw [List.length_cons]; rwa [show k + (xs.length + 1) = k + 1 + xs.length by omega]))
      have h2 := hs (j + 1) s y (by simpa using hy) (by rwa [show k + (j + 1) = k + 1 + j by omega])
      rwa [show k + (j + 1) + 1 = k + 1 + j + 1 by omega] at h2
    | bk s' => exact h1.2.2 s' h
    | rt r => trivial
theorem okF_inv {step : S → X → Fl S R} {oks : S → X → Prop} {okr : S → Prop} (I : Nat → S → Prop) {s0 : S} {xs : List X} (h0 : I 0 s0)
    (hs : ∀ (k : Nat) s x, xs[k]? = some x → I k s → oks s x ∧ (∀ s', step s x = .nx s' → I (k + 1) s') ∧ (∀ s', step s x = .bk s' → okr s')) (hr : ∀ s, I xs.length s → okr s) : okF step oks okr s0 xs :=
  okF_at I xs 0 s0 h0 (fun j s x hx hI => by
    rw [Nat.zero_add] at hI ⊢
    exact hs j s x hx hI) (fun s hI => hr s (by rwa [Nat.zero_add] at hI))
theorem okF_all {step : S → X → Fl S R} {oks : S → X → Prop} {okr : S → Prop} (I : S → Prop) {s0 : S} {xs : List X} (h0 : I s0)
    (hs : ∀ s x, x ∈ xs → I s → oks s x ∧ (∀ s', step s x = .nx s' → I s') ∧ (∀ s', step s x = .bk s' → okr s')) (hr : ∀ s, I s → okr s) : okF step oks okr s0 xs :=
  okF_inv (fun _ => I) h0 (fun k s x hx hI => hs s x (List.mem_of_getElem? hx) hI) hr
/-- a while: a number falls -/
theorem okW_inv {c : S → Bool} {step : S → S} {okc oks okr : S → Prop} (I : S → Prop) (μ : S → Nat) : ∀ (n : Nat) (s : S), I s → μ s ≤ n → (∀ s, I s → okc s) → (∀ s, I s → c s = true → oks s ∧ I (step s) ∧ μ (step s) < μ s) → (∀ s, I s → c s = false → okr s) → okW c step okc oks okr n s
  | 0, s, h0, hn, hc, hs, hr => by
    have h1 : c s = false := by
      cases h : c s with
      | false => rfl
      | true => have := (hs s h0 h).2.2; omega
    exact ⟨hc s h0, h1, hr s h0 h1⟩
  | n + 1, s, h0, hn, hc, hs, hr => ⟨hc s h0, fun h => ⟨(hs s h0 h).1, okW_inv I μ n _ (hs s h0 h).2.1 (by have := (hs s h0 h).2.2; omega) hc hs hr⟩, fun h => hr s h0 h⟩
theorem whileS_inv {c : S → Bool} {step : S → S} (I : S → Prop) (μ : S → Nat) : ∀ (n : Nat) (s : S), I s → μ s ≤ n → (∀ s, I s → c s = true → I (step s) ∧ μ (step s) < μ s) → I (whileS c step n s) ∧ c (whileS c step n s) = false
  | 0, s, h0, hn, hs => by
    refine ⟨h0, ?_⟩
    show c s = false
    cases h : c s with
    | false => rfl
    | true => have := (hs s h0 h).2; omega
  | n + 1, s, h0, hn, hs => by
    rw [whileS]
    by_cases h : c s = true
    · rw [if_pos h]
      exact whileS_inv I μ n _ (hs s h0 h).1 (by have := (hs s h0 h).2; omega) hs
    · rw [if_neg h]
      exact ⟨h0, by simpa using h⟩
end
section
variable {K : PySem.W.Frag} {E : WX} {e : En} {te : TE} {m : Md} {u : TS} {O : Type} {Pf : O → Po} {o : O} {d : D}
theorem r_drop (h : Ev K m te e d) (h2 : Run K E u e (Pf o)) : Run K E (tSeq (tDrop te) u) e (Pf o) := run_seq (run_drop h h2)
end
/-- how often a while may turn -/
def wFuel : Nat := 1000000
end Fh

set_option Elab.async false
set_option linter.all false
set_option maxRecDepth 100000
set_option maxHeartbeats 4000000
/-! FhI: enumerate of a tuple -/
namespace PySem
open Sem (wp)
open AutoSeq1 (wpAny_loadPart')
theorem fh_enum_newT (l : Addr) (items : Array Value) (n : Nat) (dct : Option Addr) (sl : Array (Option Value)) :
    Meets (Builtin.«enumerate.__new__» ⟨[.type "enumerate", .ref l], []⟩) (fun _ R s => s.heap.get? l = some { cls := .type "tuple", dict := dct, data := .seq items n, slots := sl } ∧
      R (.ok (.ret (.ref (s.heap.push { cls := .type "tuple_iterator", data := .fields #[.ref l, .int 0 0] }).objs.size)))
        { s with heap := (s.heap.push { cls := .type "tuple_iterator", data := .fields #[.ref l, .int 0 0] }).push { cls := .type "enumerate", data := .fields #[.none, .bool false, .ref s.heap.objs.size, rawInt 0, .none, .none] } }) :=
  .of_wp fun prog w A R s h => by
    obtain ⟨hp, g, d, tk, os⟩ := s; obtain ⟨hl, h⟩ := h
    have hsub := sub_enumerate
    have hL : Heap.IsTuple (Shared.heap ⟨hp, g, d, tk, os⟩) l items := ⟨_, hl, rfl, n, rfl⟩
    wp_walk using wpAny_loadPart' hl
    refine wpAny_stack_any fun st => wpAny_pure ?_
    split
    · rename_i c _ _ _ _ _
      cases (c == Value.type "enumerate")
      · wp_walk using wpAny_loadPart' hl, wpAny_pyIter_tuple hL
        exact ⟨_, rfl, h⟩
      · wp_walk using wpAny_loadPart' hl, wpAny_pyIter_tuple hL
        exact ⟨_, rfl, h⟩
    · wp_walk using wpAny_loadPart' hl, wpAny_pyIter_tuple hL
      exact ⟨_, rfl, h⟩
section
variable {prog : Program} {w : World} {A : Around} {E : Value → Shared → Prop} {s : Shared}
theorem fh_call_enumT {l : Addr} {items : Array Value} {Q : Value → Shared → Prop} (hL : s.heap.IsTuple l items)
    (h : ∀ h', IsEnum h' (s.heap.objs.size + 1) s.heap.objs.size 0 .none → h'.IsTupleIter s.heap.objs.size l 0 → h'.objs.size = s.heap.objs.size + 2 →
      (∀ b o, s.heap.get? b = some o → h'.get? b = some o) → Q (.ref (s.heap.objs.size + 1)) { s with heap := h' }) :
    wpAny (model prog w) A (call (.type "enumerate") [.ref l]) Q E s := by
  obtain ⟨⟨c, dct, dt, sl⟩, hl, hc, n, hd⟩ := hL
  replace hc : c = .type "tuple" := hc
  replace hd : dt = .seq items n := hd
  subst hc hd
  refine callType_new F.called_enumerate (by decide) (F.typeCall_enumerate_1 _) (F.newCall_enumerate_1 _) (fun obj => F.args_object_init_2 obj _) F.entry_enumerate_new
    (fh_enum_newT l items n dct sl) ⟨hl, ?_⟩
  have hz : (s.heap.push { cls := .type "tuple_iterator", data := .fields #[.ref l, .int 0 0] }).objs.size = s.heap.objs.size + 1 := Heap.size_push ..
  show _ ∧ _
  rw [hz]
  have he : IsEnum ((s.heap.push { cls := .type "tuple_iterator", data := .fields #[.ref l, .int 0 0] }).push
      { cls := .type "enumerate", data := .fields #[.none, .bool false, .ref s.heap.objs.size, rawInt 0, .none, .none] }) (s.heap.objs.size + 1) s.heap.objs.size 0 .none := by
    have := Heap.get?_push_size (s.heap.push { cls := .type "tuple_iterator", data := .fields #[.ref l, .int 0 0] })
      (o := { cls := .type "enumerate", data := .fields #[.none, .bool false, .ref s.heap.objs.size, rawInt 0, .none, .none] }) rfl
    rw [hz] at this; exact this
  refine ⟨⟨_, he, rfl⟩, h _ he ⟨_, Heap.get?_push_of_some _ (Heap.get?_push_size _ rfl), rfl, rfl⟩ (by rw [Heap.size_push, hz]) fun b o x => Heap.get?_push_of_some _ (Heap.get?_push_of_some _ x)⟩
theorem fh_enumT_end {e it l : Addr} {i : Nat} {c : Int} {items : Array Value} {old : Value} {Q : Option Value → Shared → Prop} (hh : A.handled = none)
    (he : IsEnum s.heap e it c old) (hit : s.heap.IsTupleIter it l i) (hl : s.heap.IsTuple l items) (hx : items[i]? = none)
    (hQ : ∀ h', Heap.ExtBut it s.heap h' → Q none { s with heap := h' }) : wpAny (model prog w) A (pyNext (.ref e)) Q E s := by
  have hT : s.TypeIs (.ref e) "enumerate" := ⟨_, he, rfl⟩
  unfold pyNext
  refine wpAny_bind (wpAny_attempt (wpAny_callSpecial?_slot (name := Str.ofString "__next__") hT F.slot_enumerate_next
    (wpAny_call_entry F.slot_enumerate_next hT F.entry_enumerate_next ?_ (F.args_enumerate_next_1 _))))
  show wpAny _ _ (field (.ref e) 2 >>= _) _ _ _
  refine wpAny_bind (wpAny_field he rfl (x := .ref it) rfl ?_)
  refine wpAny_bind (wpAny_nextOf_tuple_end hh hit hl hx fun h' x he' hx' => ?_)
  obtain ⟨o, ho, hc⟩ := hx'
  refine wpAny_bind (wpAny_isInstance (T := "StopIteration") (b := true) ⟨o, ho, hc⟩ isSubtype_stop ?_)
  exact wpAny_pure (hQ _ he')
end
end PySem
namespace Fh
open PySem PySem.Spec PyProof.Rows L2
/-- membership; the place of the first -/
def memB {α : Type} [DecidableEq α] (a : α) (xs : List α) : Bool := decide (a ∈ xs)
theorem memB_iff {α : Type} [DecidableEq α] {a : α} {xs : List α} : memB a xs = true ↔ a ∈ xs := decide_eq_true_iff
def idxB {α : Type} [DecidableEq α] (xs : List α) (a : α) : Int := (xs.idxOf a : Nat)
def IteT (K : PySem.W.Frag) (a : Addr) : It :=
  ⟨fun i H => ∃ (xs : List V) (x : V), SqT K H a xs ∧ xs[i]? = some x, fun i H v H' => ∃ T x, ∃ ob : Obj, v = .ref T ∧ ob.dict = none ∧ H T = none ∧ H' = upd H T (.frz ob (.tup [.int (i : Nat), x])) ∧ ∀ xs, SqT K H a xs → xs[i]? = some x, fun i H => ∃ xs : List V, SqT K H a xs ∧ xs.length ≤ i⟩
theorem turn_enumT {P : Program} {w : World} {K : PySem.W.Frag} {elts : List Expr} {kk : Nat} {tpos : Pos} (a e it : Addr) :
    Turn P w K (.Tuple elts kk tpos) (IteT K a) [e, it] e (fun i h => (∃ old, IsEnum h e it ((i : Nat) : Int) old) ∧ h.IsTupleIter it a i ∧ e ≠ it) where
  mem := by simp
  obj := fun i h st b hb => by
    obtain ⟨⟨old, he⟩, ⟨o, ho, hc, hd⟩, _⟩ := st
    have e' : b = e ∨ b = it := by simpa using hb
    rcases e' with z | z
    · rw [z]; exact ⟨_, he, fun v q => nomatch q⟩
    · rw [z]; exact ⟨o, ho, fun v q => by rw [hd] at q; cases q⟩
  keep := fun i h h' st k => let ⟨⟨old, he⟩, hi, hne⟩ := st; ⟨⟨old, k e (by simp) _ he⟩, hi.at fun o q => k it (by simp) o q, hne⟩
  item := by
    intro X hP hw hK hc i pins s σ H E I hf st hg
    subst hP hw hK
    obtain ⟨⟨old, he⟩, hit, hne⟩ := st
    obtain ⟨xs, x, hq, hx⟩ := hg
    obtain ⟨its, rv, p, hz⟩ := I.tuple hq
    have p2 : s.heap.IsTuple a its.toArray := p
    obtain ⟨u, hu, ru⟩ := rv.get hx
    have hil' : i < its.toArray.size := by
      have := (List.getElem?_eq_some_iff.mp hu).1
      simpa using this
    have hel : e < s.heap.objs.size := Heap.lt_size he
    have hil : it < s.heap.objs.size := by obtain ⟨_, q, _⟩ := hit; exact Heap.lt_size q
    have hai : a ≠ it := by
      intro q
      obtain ⟨o1, q1, c1, _⟩ := p2
      obtain ⟨o2, q2, c2, _⟩ := hit
      rw [q, q2] at q1; cases q1
      rw [c2] at c1; injection c1 with c3; exact absurd c3 (by decide)
    have hae : a ≠ e := by
      intro q
      obtain ⟨o1, q1, c1, _⟩ := p2
      have q2 := he
      unfold IsEnum at q2
      rw [q, q2] at q1; cases q1
      injection c1 with c3; exact absurd c3 (by decide)
    refine wpAny_pyNext_enum_itemD (Draws.tuple (A := X.A.in1) (I.ok.hd hc) it a hai its.toArray) he ⟨hit, p2⟩ hil' hne (by simp; exact ⟨hne, fun q => hae q.symm⟩) fun x' h' tk hx' ho hst hT hsz hk => ?_
    have hxu : x' = u := by
      have h1 : its.toArray[i]? = some x' := hx'
      have h2 : its.toArray[i]? = some u := by simpa using hu
      rw [h2] at h1
      exact (Option.some.inj h1).symm
    subst hxu
    refine ⟨_, rfl, wpAny_letOwnedTupleGo_enum (s := { s with heap := h', toks := tk + 1 }) ho fun h'' he' sb => ?_⟩
    have hT2 : h''.get? s.heap.objs.size = some { cls := .type "tuple", data := .seq #[.int i tk, x'] } := (sb.2 _ (Nat.ne_of_gt hel)).trans hT
    have new : ObjOk X.prog X.w (upd H s.heap.objs.size (.frz { cls := .type "tuple", data := .seq #[.int i tk, x'] } (.tup [.int (i : Nat), x]))) h'' s.heap.objs.size (.frz { cls := .type "tuple", data := .seq #[.int i tk, x'] } (.tup [.int (i : Nat), x])) :=
      ⟨hT2, by show 2 ≤ sizeLine; decide, [.int i tk, x'], .cons ⟨_, rfl⟩ (.cons ru .nil), ⟨_, hT2, rfl, _, rfl⟩⟩
    have I1 : Inv X pins σ (upd H s.heap.objs.size (.frz { cls := .type "tuple", data := .seq #[.int i tk, x'] } (.tup [.int (i : Nat), x]))) { s with heap := h'', toks := tk + 1 } :=
      I.turnedNew (ch := [e, it]) (fun b ob hb q => (sb.2 b (fun z => hb (by simp [z]))).trans (hk b ob (fun z => hb (by simp [z])) (fun z => hb (by simp [z])) q)) hf (Nat.le_refl _) new
    refine ⟨.ref s.heap.objs.size, _, I1, rfl, ⟨_, x, _, rfl, rfl, I.hok.fresh (Nat.le_refl _), rfl, fun ys hy => by rw [I.tuple_inj hy hq]; exact hx⟩, ⟨⟨x', ?_⟩, hst.1.at fun o q => (sb.2 it (Ne.symm hne)).trans q, hne⟩, fun b hb => ?_⟩
    · have e1 : ((i + 1 : Nat) : Int) = (i : Int) + 1 := by omega
      rw [e1]; exact he'
    · have hb' : b < s.heap.objs.size := by
        have e' : b = e ∨ b = it := by simpa using hb
        rcases e' with z | z
        · rw [z]; exact hel
        · rw [z]; exact hil
      rw [upd_ne (Nat.ne_of_lt hb')]
      exact (hf b hb).1
  done := by
    intro X hP hw hK hc i pins s σ H E I hf st hg
    subst hP hw hK
    obtain ⟨⟨old, he⟩, hit, hne⟩ := st
    obtain ⟨xs, hq, hx⟩ := hg
    obtain ⟨its, rv, p, hz⟩ := I.tuple hq
    have p2 : s.heap.IsTuple a its.toArray := p
    obtain ⟨f0, f1, f2, f3, f4, f5⟩ := hf it (by simp)
    have hl := rv.length
    have hai : a ≠ it := by
      intro q
      obtain ⟨o1, q1, c1, _⟩ := p2
      obtain ⟨o2, q2, c2, _⟩ := hit
      rw [q, q2] at q1; cases q1
      rw [c2] at c1; injection c1 with c3; exact absurd c3 (by decide)
    exact fh_enumT_end (I.ok.hd hc) he hit p2 (by simp; omega) fun h' eb => ⟨rfl, I.turned (t' := s.toks) (fun b o hb q => eb b o hb q) f0 f1 f3 f4 f5⟩
  self := fun A i s Q E st h => let ⟨⟨_, he⟩, _⟩ := st; wpAny_pyIter_enum he h
def iEnumT (K : PySem.W.Frag) (ta : TA) : TI := fun σ H R => ta σ H fun vs H1 => ∃ a xs, vs = [.ref a] ∧ SqT K H1 a xs ∧ R (IteT K a) H1
theorem pi_enumT {X : Cx} {e : Expr} {ta : TA} {p pos tpos : Pos} {elts : List Expr} {kk : Nat} (hg : Gl X "enumerate") (hm : X.mg "enumerate" = none) (ha : PA X [e] ta) (hs : starEach [e] X.env = [(false, eval e X.env)] := by rfl) :
    PI X (.Tuple elts kk tpos) (.Call (.Name "enumerate" p) [e] [] pos) (iEnumT X.K ta) := by
  refine ⟨fun pins s σ H R I h => ?_⟩
  refine Call_ (ld_blt I hg hm boot_enumerate (PyProof.Rows.callWith_type1 (thn (ha.run pos pins s σ H _ I h) fun us s1 ⟨vs, H1, I1, r1, q1⟩ => ?_) hs rfl))
  obtain ⟨a, xs, ex, hq, q⟩ := q1
  subst ex
  cases r1 with
  | cons r rr =>
    cases rr
    cases r
    obtain ⟨its, rv, p', hz⟩ := I1.tuple hq
    have p2 : s1.heap.IsTuple a its.toArray := p'
    refine fh_call_enumT p2 fun h' he hit hsz hk => wpAny_pyIter_enum he ?_
    have I2 : Inv X pins σ H1 { s1 with heap := h' } := I1.kept (t' := s1.toks) hk
    refine ⟨s1.heap.objs.size + 1, [s1.heap.objs.size + 1, s1.heap.objs.size], _, _, H1, rfl, I2, turn_enumT a (s1.heap.objs.size + 1) s1.heap.objs.size, ⟨⟨.none, he⟩, hit, Nat.succ_ne_self _⟩, fun b hb => ?_, q⟩
    have e' : b = s1.heap.objs.size + 1 ∨ b = s1.heap.objs.size := by simpa using hb
    have hle : s1.heap.objs.size ≤ b := by
      rcases e' with z | z
      · rw [z]; exact Nat.le_add_right _ _
      · rw [z]; exact Nat.le_refl _
    exact I1.fpOk hle (I1.hok.fresh hle)
/-! what enumerate yields -/
section
variable {K : PySem.W.Frag} {e : En} {te : TE} {m m1 : Md} {xs : List D} {α : Type} {f : α → D} {as : List α}
theorem itD_enumT {B H T : Hp} {a : Addr} {vs : List V} (ha : SqT K T a vs) (hi : Iss K T vs xs) (hT : Le T H) : ItD K B .dat (IteT K a) H T (xs.zipIdx.map fun p => D.tup [.int (p.2 : Nat), p.1]) := by
  refine ⟨fun H2 T2 => Le T T2 ∧ Le T2 H2, ⟨Le.refl _, hT⟩, fun _ _ _ _ hs h1 _ h2 => ⟨hs.1.trans h1, h2⟩, fun i d H2 T2 hs hx hB hT => ?_, fun i H2 T2 hs hB hT hl => ?_⟩
  · rw [List.getElem?_map, List.getElem?_zipIdx] at hx
    cases qd : xs[i]? with
    | none => rw [qd] at hx; cases hx
    | some d0 =>
      rw [qd] at hx
      simp only [Option.map_some, Option.some.injEq, Nat.zero_add] at hx
      subst hx
      obtain ⟨v0, hv0, iv0⟩ := hi.get qd
      have hs1 : SqT K H2 a vs := (hs.1.trans hT).sqT ha
      refine ⟨⟨vs, v0, hs1, hv0⟩, fun v H3 y => ?_⟩
      obtain ⟨t, x, ob, rfl, hob, ht, rfl, hy⟩ := y
      have hx2 := hy vs hs1
      rw [hv0] at hx2
      cases hx2
      have g2 := Gr.new (o := .frz ob (.tup [.int (i : Nat), v0])) hT ht
      exact ⟨_, g2, .tup (SqN.of upd_same hob) (.cons (.int _) (.cons (Is.mono (hs.1.trans g2.t) _ iv0) .nil)) (show 2 ≤ sizeLine by decide)⟩
  · have hs1 : SqT K H2 a vs := (hs.1.trans hT).sqT ha
    exact ⟨vs, hs1, by rw [hi.length]; simpa using hl⟩
theorem itD_enumL {B H T : Hp} {a : Addr} {vs : List V} (ha : SqL K H a vs) (hk : ∀ H2 T2, Le T T2 → Le T2 H2 → Le B H2 → SqL K H2 a vs) (hi : Iss K T vs xs) (hT : Le T H) : ItD K B .dat (IteN K a) H T (xs.zipIdx.map fun p => D.tup [.int (p.2 : Nat), p.1]) := by
  refine ⟨fun H2 T2 => Le T T2 ∧ Le T2 H2, ⟨Le.refl _, hT⟩, fun _ _ _ _ hs h1 _ h2 => ⟨hs.1.trans h1, h2⟩, fun i d H2 T2 hs hx hB hT => ?_, fun i H2 T2 hs hB hT hl => ?_⟩
  · rw [List.getElem?_map, List.getElem?_zipIdx] at hx
    cases qd : xs[i]? with
    | none => rw [qd] at hx; cases hx
    | some d0 =>
      rw [qd] at hx
      simp only [Option.map_some, Option.some.injEq, Nat.zero_add] at hx
      subst hx
      obtain ⟨v0, hv0, iv0⟩ := hi.get qd
      have hs1 : SqL K H2 a vs := hk _ _ hs.1 hs.2 hB
      refine ⟨⟨vs, v0, hs1, hv0⟩, fun v H3 y => ?_⟩
      obtain ⟨t, x, ob, rfl, hob, ht, rfl, hy⟩ := y
      have hx2 := hy vs hs1
      rw [hv0] at hx2
      cases hx2
      have g2 := Gr.new (o := .frz ob (.tup [.int (i : Nat), v0])) hT ht
      exact ⟨_, g2, .tup (SqN.of upd_same hob) (.cons (.int _) (.cons (Is.mono (hs.1.trans g2.t) _ iv0) .nil)) (show 2 ≤ sizeLine by decide)⟩
  · have hs1 : SqL K H2 a vs := hk _ _ hs.1 hs.2 hB
    exact ⟨vs, hs1, by rw [hi.length]; simpa using hl⟩
theorem enumI_map : ((enumI as).map (e2 eI f)) = ((as.map f).zipIdx.map fun p => D.tup [.int (p.2 : Nat), p.1]) := by
  unfold enumI
  rw [List.zipIdx_map, List.map_map, List.map_map]
  rfl
theorem ez_enumT (ha : Ev K .dat te e (eT f as)) : EvIz K .dat (iEnumT K (tCons te tNil)) e ((enumI as).map (e2 eI f)) := fun B T0 σ H T s R q => ha B T0 σ H T s _ fun v H1 T1 g i => by
  cases i with
  | @tup a vs _ ha hi hz0 =>
    refine ⟨a, vs, rfl, g.s.sqT ha.t, q _ H1 T1 g (by rw [List.length_map, enumI_len]; simpa using hz0) ?_⟩
    rw [enumI_map]
    exact itD_enumT ha.t hi g.s
theorem ez_enumTI (hm : Im f) (ha : Ev K .now te e (eT f as)) : EvIz K .dat (iEnumT K (tCons te tNil)) e ((enumI as).map (e2 eI f)) := ez_enumT (Ev.im ha (Im.T hm))
/-- a lent list of what is never written -/
theorem ez_enumLI (hm : Im f) (ha : Ev K .bor te e (eL f as)) : EvIz K .dat (iEnumN K (tCons te tNil)) e ((enumI as).map (e2 eI f)) := fun B T0 σ H T s R q => ha B T0 σ H T s _ fun v H1 T1 g i => by
  have hB1 : Le B H1 := s.gr.h.trans g.h
  have i2 := i.now hB1 g.s
  have hard := fun {vs : List V} (hv : Iss K H1 vs (as.map f)) => Iss.hard (Le.refl _) g.s _ (imms_iff.mpr fun d hd => by
    obtain ⟨a, _, rfl⟩ := List.mem_map.mp hd
    exact hm a) hv
  have g2 := hardUp_gr g.s
  rcases i with i | i
  · cases i with
    | @lst a vs _ ha hv hz =>
      refine ⟨a, vs, rfl, SqL.of (g.s _ _ ha), q _ H1 T1 g (by rw [List.length_map, enumI_len]; simpa using hz) ?_⟩
      rw [enumI_map]
      exact itD_enumL (SqL.of (g.s _ _ ha)) (fun H2 T2 h1 h2 _ => SqL.of (h2 _ _ (h1 _ _ ha))) hv g.s
  · cases i with
    | @lst a vs _ ha hv hz =>
      refine ⟨a, vs, rfl, SqL.of (hB1 _ _ ha), q _ H1 _ (g.trans g2) (by rw [List.length_map, enumI_len]; simpa using hz) ?_⟩
      rw [enumI_map]
      exact itD_enumL (SqL.of (hB1 _ _ ha)) (fun H2 T2 _ _ hB => SqL.of (hB _ _ ha)) (hard (Iss.mono hB1 _ hv)) g2.s
end
end Fh

set_option Elab.async false
set_option linter.all false
set_option maxRecDepth 100000
set_option maxHeartbeats 4000000
/-! FhK: sets of ints and of tuples of ints as a frame's own -/
namespace L2
open PySem PySem.Spec PyProof.Rows
section
variable {P : Program} {w : World} {A : Around} {E : Value → Shared → Prop} {s : Shared} {a : Addr} {L : List (Addr × List Int)} {es : Array (Int × Value)} {ep : Nat} {t : SetTable}
theorem fh_find_from (R : SetTR P w s.heap a L es ep t) {x : Addr} {k : List Int} (hx : IsT P w s.heap k x) (hu : A.units < cLine) {K : Nat} (hKf : K < 10 * SetTable.turns t.mask)
    (hK : way t.mask (thash P w k) K ∉ t.place.toList) (hKb : ∀ c, c < K → way t.mask (thash P w k) c ∈ t.place.toList) {Q : SetFound → Shared → Prop}
    (hin : k ∈ L.map (·.2) → ∀ i, Q (.there (some i)) s) (hout : k ∉ L.map (·.2) → Q (.free (way t.mask (thash P w k) K) false) s) :
    ∀ (f c : Nat) (stand : Option SetTable.Probe), stand.getD (t.probeStart (thash P w k)) = nth t.mask (runAt t.mask (SetTable.bits (thash P w k) % (t.mask + 1)) (SetTable.bits (thash P w k))) c → c ≤ K → K - c < f →
      (∀ (i : Nat) p, L[i]? = some p → p.2 = k → ∃ c', c ≤ c' ∧ c' < K ∧ t.place.toList[i]? = some (way t.mask (thash P w k) c')) →
      wpAny (model P w) A (setSearchFrom a (.ref x) (thash P w k) false f stand) Q E s
  | 0, c, stand, _, _, hf, _ => absurd hf (Nat.not_lt_zero _)
  | f + 1, c, stand, hst, hc, hf, hre => by
    obtain ⟨o, ho, hex, hd⟩ := R.ob
    rw [setSearchFrom_succ]
    refine wpAny_bind (wpAny_setState_of ho hd R.fits ?_)
    dsimp only
    refine wp_if_neg R.gw ?_
    try refine wpAny_bind (wpAny_pure ?_)
    have hnd : (nth t.mask (runAt t.mask (SetTable.bits (thash P w k) % (t.mask + 1)) (SetTable.bits (thash P w k))) c).dummy = none := by
      have key : ∀ (n : Nat) (p : SetTable.Probe), p.dummy = none → (nth t.mask p n).dummy = none := by
        intro n
        induction n with
        | zero => intro p h; exact h
        | succ n ih =>
          intro p h
          refine ih (adv t.mask p) ?_
          unfold adv
          split <;> exact h
      exact key c _ rfl
    have sh : ∀ q, nth t.mask (nth t.mask (runAt t.mask (SetTable.bits (thash P w k) % (t.mask + 1)) (SetTable.bits (thash P w k))) c) q = nth t.mask (runAt t.mask (SetTable.bits (thash P w k) % (t.mask + 1)) (SetTable.bits (thash P w k))) (c + q) := fun q => (nth_add t.mask c _ q).symm
    have e1 : ∀ q, (nth t.mask (nth t.mask (runAt t.mask (SetTable.bits (thash P w k) % (t.mask + 1)) (SetTable.bits (thash P w k))) c) q).j = way t.mask (thash P w k) (c + q) := fun q => congrArg SetTable.Probe.j (sh q)
    have spec := go_spec t R.tab.ris R.tab.dm (fun i => (es[i]?.map (·.1)).getD 0) (thash P w k) (10 * SetTable.turns t.mask) (K - c) _ hnd (by omega)
      (fun q hq => by rw [e1]; exact hKb (c + q) (by omega)) (by rw [e1, show c + (K - c) = K by omega]; exact hK)
    have hashAt : ∀ (i : Nat) p, L[i]? = some p → (fun i => (es[i]?.map (·.1)).getD 0) i = thash P w p.2 := fun i p hp => by
      show (es[i]?.map (·.1)).getD 0 = _
      rw [R.entry hp] <;> rfl
    rcases spec with ⟨q, i, hq, hi, hh, hno, hpr⟩ | ⟨hno, hpr⟩
    · -- a candidate
      have hpr' : t.probe (fun i => (es[i]?.map (·.1)).getD 0) (thash P w k) (stand.getD (t.probeStart (thash P w k))) = some (.candidate (way t.mask (thash P w k) (c + q)) i (nth t.mask (runAt t.mask (SetTable.bits (thash P w k) % (t.mask + 1)) (SetTable.bits (thash P w k))) (c + (q + 1)))) := by
        rw [hst, ← e1, ← sh]
        exact hpr
      rw [hpr']
      dsimp only
      rw [e1] at hi
      -- the entry
      have hil : i < L.length := by
        have h1 : i < t.place.toList.length := (List.getElem?_eq_some_iff.mp hi).1
        have h2 := R.tab.sz
        rw [List.length_map] at h2
        rw [Array.length_toList] at h1
        omega
      have hp : L[i]? = some L[i] := List.getElem?_eq_getElem hil
      generalize hpe : L[i] = p at hp
      have hmem : p ∈ L := List.mem_of_getElem? hp
      have hpt := R.tup p hmem
      have rest : wpAny (model P w) A (searchRest a (.ref x) (thash P w k) false f es t (way t.mask (thash P w k) (c + q)) i (nth t.mask (runAt t.mask (SetTable.bits (thash P w k) % (t.mask + 1)) (SetTable.bits (thash P w k))) (c + (q + 1)))) Q E s := by
        unfold searchRest
        rw [R.entry hp]
        dsimp only
        refine wpAny_bind (wpAny_holding (wpAny_eqBool_tuple hu hpt hx ?_))
        refine wpAny_bind (wpAny_setState_of ho hd R.fits ?_)
        dsimp only
        refine wp_if_neg (by simp) ?_
        try refine wpAny_bind (wpAny_pure ?_)
        by_cases hkk : p.2 = k
        · rw [sameMem]
          dsimp only
          have hsl : t.slot (way t.mask (thash P w k) (c + q)) = .live i := slot_live R.tab.ris hi
          simp only [if_true, hsl, R.entry hp]
          refine wpAny_bind (wpAny_isSame_ref_self (wpAny_bind (wpAny_pure ?_)))
          simp only [if_true]
          refine wp_if_pos (by simp [hkk]) ?_
          exact wpAny_pure (hin (List.mem_map.mpr ⟨p, hmem, hkk⟩) i)
        · rw [sameMem]
          dsimp only
          have hsl : t.slot (way t.mask (thash P w k) (c + q)) = .live i := slot_live R.tab.ris hi
          simp only [if_true, hsl, R.entry hp]
          refine wpAny_bind (wpAny_isSame_ref_self (wpAny_bind (wpAny_pure ?_)))
          simp only [if_true]
          refine wp_if_neg (by simp [hkk]) ?_
          refine fh_find_from R hx hu hKf hK hKb hin hout f (c + (q + 1)) _ rfl (by omega) (by omega) fun i0 p0 h0 hk0 => ?_
          obtain ⟨c', a1, a2, a3⟩ := hre i0 p0 h0 hk0
          refine ⟨c', ?_, a2, a3⟩
          -- it isn't passed
          rcases Nat.lt_or_ge c' (c + q) with z | z
          · exfalso
            refine hno (c' - c) i0 (by omega) (by rw [e1, show c + (c' - c) = c' by omega]; exact a3) ?_
            exact (hashAt i0 p0 h0).trans (congrArg (thash P w) hk0)
          · rcases Nat.lt_or_ge (c + q) c' with y | y
            · omega
            · exfalso
              have ec : c' = c + q := Nat.le_antisymm y z
              rw [ec] at a3
              have s0 := slot_live R.tab.ris a3
              rw [hsl] at s0
              injection s0 with s0
              rw [← s0, hp] at h0
              exact hkk ((congrArg Prod.snd (Option.some.inj h0)).trans hk0)
      by_cases hl : t.led = true
      · refine wp_if_neg (by simp [hl]) ?_
        try refine wpAny_bind (wpAny_pure ?_)
        exact rest
      · refine wp_if_pos (by simp [hl]) ?_
        refine wpAny_bind (seen_tup hx (fun y hy => ?_) ?_)
        · obtain ⟨e, he, ee⟩ := List.mem_map.mp hy
          have he1 : e ∈ es ∧ e.1 = thash P w k := by simpa using he
          have he2 : e ∈ es.toList := by simpa using he1.1
          rw [R.rows] at he2
          obtain ⟨p2, hp2, e2⟩ := List.mem_map.mp he2
          refine ⟨p2.2, p2.1, ?_, R.tup p2 hp2⟩
          rw [← ee, ← e2]
        · refine wp_if_neg (by decide) ?_
          try refine wpAny_bind (wpAny_pure ?_)
          exact rest
    · -- the empty slot
      have hpr' : t.probe (fun i => (es[i]?.map (·.1)).getD 0) (thash P w k) (stand.getD (t.probeStart (thash P w k))) = some (.empty (way t.mask (thash P w k) K) none) := by
        have e2 : way t.mask (thash P w k) K = (nth t.mask (nth t.mask (runAt t.mask (SetTable.bits (thash P w k) % (t.mask + 1)) (SetTable.bits (thash P w k))) c) (K - c)).j := by
          rw [e1, show c + (K - c) = K by omega]
        rw [hst, e2]
        exact hpr
      rw [hpr']
      dsimp only
      refine wpAny_pure (hout fun hm => ?_)
      obtain ⟨p0, h0, hk0⟩ := List.mem_map.mp hm
      obtain ⟨i0, hi0, e0⟩ := List.getElem_of_mem h0
      have h00 : L[i0]? = some p0 := by rw [List.getElem?_eq_getElem hi0, e0]
      obtain ⟨c', a1, a2, a3⟩ := hre i0 p0 h00 hk0
      refine hno (c' - c) i0 (by omega) (by rw [e1, show c + (c' - c) = c' by omega]; exact a3) ?_
      exact (hashAt i0 p0 h00).trans (congrArg (thash P w) hk0)

theorem fh_find_at (R : SetTR P w s.heap a L es ep t) {x : Addr} {k : List Int} (hx : IsT P w s.heap k x) (hu : A.units < cLine) {Q : SetFound → Shared → Prop}
    (hin : k ∈ L.map (·.2) → ∀ i, Q (.there (some i)) s) (hout : ∀ j, k ∉ L.map (·.2) → Q (.free j false) s) :
    wpAny (model P w) A (setSearch a (.ref x) (thash P w k)) Q E s := by
  have hroom := R.room
  obtain ⟨K, hKf, hK, hKb⟩ := R.tab.first (by rw [List.length_map]; omega) (thash P w k)
  have hbig : K < 100000 := by
    have : 10 * SetTable.turns t.mask ≤ 1420 := by
      unfold SetTable.turns
      rcases R.tab.mok with e | e | e <;> omega
    omega
  unfold setSearch
  refine fh_find_from R hx hu hKf hK hKb hin (fun hn => hout _ hn) 100000 0 none rfl (Nat.zero_le _) (by omega) fun i p hp hk => ?_
  have hi : (L.map fun p => thash P w p.2)[i]? = some (thash P w k) := by rw [List.getElem?_map, hp, ← hk] <;> rfl
  have hil : i < t.place.toList.length := by
    have h1 : i < L.length := (List.getElem?_eq_some_iff.mp hp).1
    have h2 := R.tab.sz
    rw [List.length_map] at h2
    rw [Array.length_toList]
    omega
  have hj := List.getElem?_eq_getElem hil
  obtain ⟨c, hc, e⟩ := R.tab.before hK hi hj
  exact ⟨c, Nat.zero_le _, hc, by rw [hj, e]⟩
theorem fh_setFind (R : SetTR P w s.heap a L es ep t) {x : Addr} {k : List Int} (hx : IsT P w s.heap k x) (hu : A.units < cLine) {Q : Option Nat → Shared → Prop}
    (h : ∀ r : Option Nat, r.isSome = decide (k ∈ L.map (·.2)) → Q r s) : wpAny (model P w) A (setFind a (.ref x) (thash P w k)) Q E s := by
  obtain ⟨o, ho, hex, hd⟩ := R.ob
  unfold setFind
  rw [show (100000 : Nat) = 99999 + 1 from rfl]
  unfold setFindIn
  refine wpAny_bind (wpAny_setState_of ho hd R.fits ?_)
  dsimp only
  refine wp_if_neg (by simp [byScan, Value.scannable]) ?_
  try refine wpAny_bind (wpAny_pure ?_)
  refine wpAny_bind (fh_find_at R hx hu (fun hm i => ?_) fun j hm => ?_)
  · exact wpAny_pure (h _ (by simp [hm]))
  · exact wpAny_pure (h _ (by simp [hm]))
theorem SetTR.typeIs (R : SetTR P w s.heap a L es ep t) : s.TypeIs (.ref a) "set" := by
  obtain ⟨o, ho, hex, hd⟩ := R.ob
  exact ⟨o, ho, hex.1⟩
theorem SetTR.noDict (R : SetTR P w s.heap a L es ep t) : ∀ b, Value.ref a = .ref b → ∃ ob, s.heap.get? b = some ob ∧ ob.dict = none := fun b e => by
  injection e with e; subst e
  obtain ⟨o, ho, hex, hd⟩ := R.ob
  exact ⟨o, ho, hex.2.1⟩
theorem fh_contains (R : SetTR P w s.heap a L es ep t) {x : Addr} {k : List Int} (hx : IsT P w s.heap k x) (hu : A.units + 8 < cLine) {Q : Bool → Shared → Prop}
    (h : ∀ n, Q (decide (k ∈ L.map (·.2))) { s with toks := n }) : wpAny (model P w) A (contains (.ref a) (.ref x)) Q E s := by
  unfold contains
  try with_reducible refine wpAny_holding ?_
  refine wpAny_bind (wpAny_specialOf R.typeIs F.slot_set_contains.lookup ?_)
  show wpAny _ _ (if (some (Value.builtin "set.__contains__") == some Value.none) = true then _ else _) _ E s
  rw [if_neg (by rw [beq_builtin_none]; exact Bool.false_ne_true)]
  refine wpAny_bind (wpAny_callSpecialUnlessNone?_slot (name := Str.ofString "__contains__") R.typeIs F.slot_set_contains
    (wpAny_call_entry F.slot_set_contains R.typeIs entry_set_contains ?_ (F.args_set_contains_2 _ _)))
  unfold Builtin.«frozenset.__contains__» Builtin.Frozenset.oneOther
  simp only [List.isEmpty_nil, bind_assoc]
  unfold Builtin.Frozenset.addrOf Builtin.Frozenset.withSetAsKey setContains
  refine wpAny_bind (wpAny_pure ?_)
  try dsimp only
  refine wpAny_bind (wpAny_pure ?_)
  try dsimp only
  refine wpAny_bind (wpAny_tryCatch ?_)
  refine wpAny_holding ?_
  refine wpAny_bind (wpAny_pyHash_tuple (by first | exact hu | (simp [Around.in1]; omega) | omega) hx ?_)
  refine wpAny_bind (fh_setFind (s := { s with toks := s.toks + (k.length + 1) }) R hx (by first | omega | (simp [Around.in1]; omega)) fun r hr => ?_)
  refine wpAny_pure ?_
  show wpAny _ _ (ret (Value.bool r.isSome)) _ _ _
  rw [hr]
  exact wpAny_pure ⟨_, rfl, wpAny_truthy_bool (h _)⟩
theorem fh_setT_add (R : SetTR P w s.heap a L es ep t) {x : Addr} {k : List Int} (hx : IsT P w s.heap k x) (hu : A.units + 8 < cLine) (hfew : L.length + 1 < 64) {Q : Value → Shared → Prop}
    (hQ : ∀ h' n L' es' ep' t', Heap.SameBut a s.heap h' → SetTR P w h' a L' es' ep' t' → (k ∈ L.map (·.2) → L' = L) → (k ∉ L.map (·.2) → L'.Perm ((x, k) :: L)) → Q .none { s with heap := h', toks := n }) :
    wpAny (model P w) A (call (.builtin "set.add") [.ref a, .ref x]) Q E s := by
  refine wpAny_call_entry F.slot_set_add R.typeIs F.entry_set_add ?_ (F.args_set_add_2 _ _)
  unfold Builtin.«set.add» Builtin.Frozenset.oneOther
  simp only [List.isEmpty_nil, bind_assoc]
  unfold Builtin.Frozenset.addrOf setAdd
  refine wpAny_bind (wpAny_pure ?_)
  try dsimp only
  refine wpAny_bind (wpAny_pure ?_)
  try dsimp only
  refine wpAny_bind ?_
  refine wpAny_holding ?_
  refine wpAny_bind (wpAny_pyHash_tuple (by first | exact hu | (simp [Around.in1]; omega) | omega) hx ?_)
  refine add_at (s := { s with toks := s.toks + (k.length + 1) }) R hx (by first | omega | (simp [Around.in1]; omega)) hfew fun b h' L' es' ep' t' sb R' c1 c2 => ?_
  show wpAny _ _ (ret Value.none) _ _ _
  exact wpAny_pure ⟨_, rfl, hQ h' _ L' es' ep' t' sb R' c1 c2⟩
end
end L2

namespace Fh
open PySem PySem.Spec PyProof.Rows L2
/-! ### readings -/
def rSet0T (P : Program) (w : World) : List V → Hp → VK → Prop := fun xs H Q => xs = [] ∧ ∀ p, H p = none → Q (.ref p) (upd H p (SetTO P w p []))
def rSAddT (K : PySem.W.Frag) (P : Program) (w : World) : V → List V → Hp → VK → Prop := fun x xs H Q => ∃ (a b : Addr) (k : List Int) (L : List (Addr × List Int)), x = V.ref a ∧ xs = [.ref b] ∧ SqT K H b (k.map V.int) ∧ H a = some (SetTO P w a L) ∧ (∀ p ∈ L, SqT K H p.1 (p.2.map V.int)) ∧ L.length + 1 < 64 ∧
  ∀ L', (k ∈ L.map (·.2) → L' = L) → (k ∉ L.map (·.2) → L'.Perm ((b, k) :: L)) → Q .non (upd H a (SetTO P w a L'))
def rSInT (K : PySem.W.Frag) (P : Program) (w : World) (neg : Bool) : R2 := fun x y H Q => ∃ (a b : Addr) (k : List Int) (L : List (Addr × List Int)), x = .ref b ∧ y = .ref a ∧ SqT K H b (k.map V.int) ∧ H a = some (SetTO P w a L) ∧ (∀ p ∈ L, SqT K H p.1 (p.2.map V.int)) ∧ Q (.bl (if neg = true then !decide (k ∈ L.map (·.2)) else decide (k ∈ L.map (·.2)))) H
section
variable {X : Cx} {n : Nat}
theorem cr_set0T : CallR X (.type "set") (rSet0T X.prog X.w) := by
  intro pins s σ H xs us Q I r h
  obtain ⟨rfl, q⟩ := h
  cases r
  refine setR_new fun _ => ?_
  have R := setTR_fresh (P := X.prog) (w := X.w) (h := s.heap.push { cls := .type "set", dict := none, data := .set #[] 0 (.fresh 0 0 (!X.w.params.followText "set-order")) }) (Heap.get?_push_size _ rfl)
  exact ⟨.ref _, upd H s.heap.objs.size (SetTO X.prog X.w s.heap.objs.size []), I.laid (t' := s.toks) (fun b u e => Heap.get?_push_of_some _ e) (Nat.le_refl _) (setTO_new R.t0), rfl, q _ (I.hok.fresh (Nat.le_refl _))⟩
theorem setTO_full {pins : List (Addr × Obj)} {σ : L2.St} {H : Hp} {s : Shared} {a : Addr} {L : List (Addr × List Int)} (I : Inv X pins σ H s) (ha : H a = some (SetTO X.prog X.w a L)) (hL : ∀ p ∈ L, SqT X.K H p.1 (p.2.map V.int)) : ∃ es ep t, SetTR X.prog X.w s.heap a L es ep t :=
  SetT0.full (show SetT0 X.prog X.w s.heap a L from (I.hok a _ ha).1) fun p hp => Inv.isT I (hL p hp)
theorem mt_saddT (hr : Room n X.A) : MtR X "set.add" (rSAddT X.K X.prog X.w) := by
  intro pins s σ H x xs v us Q I rx rxs h
  obtain ⟨a, b, k, L, rfl, rfl, hk, ha, hL, few, q⟩ := h
  cases rx
  cases rxs with
  | cons ry rt =>
    cases rt
    cases ry
    obtain ⟨es, ep, t, R⟩ := setTO_full I ha hL
    refine fh_setT_add R (Inv.isT I hk) (by have := hr.un; omega) few fun h' nn L' es' ep' t' sb R' c1 c2 => ?_
    have he : ∃ u, h'.get? a = some u := by
      obtain ⟨o, ho, _⟩ := R'.ob
      exact ⟨o, ho⟩
    exact ⟨.non, upd H a (SetTO X.prog X.w a L'), I.write (e := a) (t' := nn) (by rw [ha]; trivial) (.inl rfl) (fun b u hb hu => (sb.2 b hb).trans hu) he (setTO_new R'.t0), rfl, q L' c1 c2⟩
theorem or_sinT (hr : Room n X.A) : OpR X (compareOp .In) (rSInT X.K X.prog X.w false) := by
  intro pins s σ H x y v u Q I rx ry h
  obtain ⟨a, b, k, L, rfl, rfl, hk, ha, hL, q⟩ := h
  cases ry
  cases rx
  obtain ⟨es, ep, t, R⟩ := setTO_full I ha hL
  show wpAny _ _ (do return Value.bool (← contains (.ref a) (.ref b))) _ _ s
  refine wpAny_bind (fh_contains R (Inv.isT I hk) (by have := hr.un; omega) fun nn => ?_)
  exact wpAny_pure ⟨.bl _, H, I.tok _, rfl, q⟩
theorem or_sninT (hr : Room n X.A) : OpR X (compareOp .NotIn) (rSInT X.K X.prog X.w true) := by
  intro pins s σ H x y v u Q I rx ry h
  obtain ⟨a, b, k, L, rfl, rfl, hk, ha, hL, q⟩ := h
  cases ry
  cases rx
  obtain ⟨es, ep, t, R⟩ := setTO_full I ha hL
  show wpAny _ _ (do return Value.bool (!(← contains (.ref a) (.ref b)))) _ _ s
  refine wpAny_bind (fh_contains R (Inv.isT I hk) (by have := hr.un; omega) fun nn => ?_)
  exact wpAny_pure ⟨.bl _, H, I.tok _, rfl, q⟩
def tSAddT (K : PySem.W.Frag) (P : Program) (w : World) (to : TE) (t : TA) : TE := fun σ H Q => to σ H fun x H1 => (∃ a L, x = V.ref a ∧ H1 a = some (SetTO P w a L)) ∧ t σ H1 fun xs H2 => rSAddT K P w x xs H2 Q
variable {o e : Expr} {es : List Expr} {to : TE} {t : TA} {apos cpos : Pos}
theorem pe_saddT (hr : Room n X.A) (ho : PE X o to) (ha : PA X (e :: es) t)
    (hbase : attributeBase o "add" X.env (eval o X.env) = eval o X.env := by rfl)
    (hfew : ((backTo cpos (starEach (e :: es) X.env)).all (fun x => !x.1) && (backToKw cpos (keywordEach [] X.env)).all (fun x => x.1.isSome)
      && decide ((e :: es).length + ([] : List Keyword).length + (if ([] : List Keyword).isEmpty then 0 else 1) < 30)) = true := by rfl)
    (hline : (apos.endLine == cpos.line) = true := by rfl) (hs : starEach (e :: es) X.env = (false, eval e X.env) :: starEach es X.env := by rfl) (hplain : (backTo cpos (starEach es X.env)).any (·.1) = false := by rfl) :
    PE X (.Call (.Attribute o "add" apos) (e :: es) [] cpos) (tSAddT X.K X.prog X.w to t) := by
  refine ⟨fun pins s σ H Q I h => ?_⟩
  refine wpAny_Call_method_late hbase hfew hline rfl (thn (ho.run pins s σ H _ I h) fun v s1 ⟨x, H1, I1, r1, ty, q1⟩ => ?_)
  obtain ⟨a, L, rfl, hka⟩ := ty
  have hS : SetT0 X.prog X.w s1.heap a L := (I1.hok a _ hka).1
  cases r1
  obtain ⟨es0, ep0, t0, ⟨ob, hob, hex, hdd⟩, _⟩ := hS.ex
  refine ⟨"set", "set.add", F.plainAttrs_set, F.slot_set_add, F.type_set_add, ⟨ob, hob, hex.1⟩, (fun b e => by injection e with e; subst e; exact ⟨ob, hob, hex.2.1⟩), ?_⟩
  have hA := ha.run cpos pins s1 σ H1 _ I1 q1
  rw [hs] at hA ⊢
  refine Calls.callWith_builtin (by show (false || (backTo cpos (starEach es X.env)).any (·.1)) = false; rw [hplain] <;> rfl) (Calls.evalArgs_plain ?_)
  exact thn hA fun us s2 ⟨vs, H2, I2, r2, q2⟩ => mt_saddT hr pins s2 σ H2 (.ref a) vs (.ref a) us Q I2 rfl r2 q2
end
/-! ### as a frame's own -/
/-- a set of ints that holds just xs -/
def oSI (P : Program) (w : World) (xs : List Int) : OD := .ext fun a o _ => ∃ S n, o = SetK P w a S n ∧ (∀ k : Int, S (.inl k) = decide (k ∈ xs)) ∧ n ≤ xs.length
/-- a set of pairs of ints that holds just xs -/
def oSP (K : PySem.W.Frag) (P : Program) (w : World) (xs : List (Int × Int)) : OD := .ext fun a o T => ∃ L, o = SetTO P w a L ∧ (∀ x y : Int, [x, y] ∈ L.map (·.2) ↔ (x, y) ∈ xs) ∧ L.length ≤ xs.length ∧ ∀ p ∈ L, SqT K T p.1 (p.2.map V.int)
section
variable {K : PySem.W.Frag} {E : WX} {P : Program} {w : World} {e : En} {ta tb te : TE} {m : Md} {i : Nat} {x : Int} {p : Int × Int} {xs : List Int} {ys : List (Int × Int)} {neg : Bool}
theorem Ext.not_hard {h : Heap → Prop} : ¬ Hard (.ext h) := id
theorem evo_setI : EvO K (tCB (rSet0K P w) tNil) e (oSI P w []) := fun B T0 σ H T s Q q => by
  refine ⟨rfl, fun a ha => q a _ T (Gr.own s.gr.s ha) ha (s.gr.s.back ha) ⟨_, upd_same, id, fun T' _ => ⟨_, 0, rfl, fun k => rfl, Nat.le_refl _⟩⟩⟩
theorem evo_setP : EvO K (tCB (rSet0T P w) tNil) e (oSP K P w []) := fun B T0 σ H T s Q q => by
  refine ⟨rfl, fun a ha => q a _ T (Gr.own s.gr.s ha) ha (s.gr.s.back ha) ⟨_, upd_same, id, fun T' _ => ⟨[], rfl, fun _ _ => ⟨fun h => (nomatch h), fun h => (nomatch h)⟩, Nat.le_refl _, fun _ h => nomatch h⟩⟩⟩
theorem ev_inSI (ha : Ev K .now ta e (.int x)) (hi : e[i]? = some (.own (oSI P w xs))) : Ev K m (tOp (rSInK P w neg) ta (tVar i)) e (.bl (if neg = true then !memB x xs else memB x xs)) := Ev.up fun B T0 σ H T s Q q => ha B T0 σ H T s _ fun v H1 T1 g1 i1 => by
  have i2 := i1.now (s.gr.h.trans g1.h) g1.s
  cases i2
  have s1 := s.grow g1
  obtain ⟨a, hx, hb, ht, o, ho, hh, hR⟩ := s1.own hi
  obtain ⟨S, n, rfl, hS, hn⟩ := hR T1 (Le.refl _)
  refine ⟨_, hx, .inl x, a, S, n, rfl, rfl, ho, ?_⟩
  rw [hS]
  exact q _ H1 T1 g1 (.bl _)
theorem ev_inSP (ha : Ev K .dat ta e (e2 eI eI p)) (hi : e[i]? = some (.own (oSP K P w ys))) : Ev K m (tOp (rSInT K P w neg) ta (tVar i)) e (.bl (if neg = true then !memB p ys else memB p ys)) := Ev.up fun B T0 σ H T s Q q => ha B T0 σ H T s _ fun v H1 T1 g1 i1 => by
  have s1 := s.grow g1
  obtain ⟨a, hx, hb, ht, o, ho, hh, hR⟩ := s1.own hi
  obtain ⟨L, rfl, hL, hn, hT⟩ := hR T1 (Le.refl _)
  cases i1 with
  | @tup b vs _ hp hv hz =>
    obtain rfl : vs = [p.1, p.2].map V.int := Iss.ints (ns := [p.1, p.2]) hv
    refine ⟨_, hx, a, b, [p.1, p.2], L, rfl, rfl, g1.s.sqT hp.t, ho, fun z hz => g1.s.sqT (hT z hz), ?_⟩
    have e0 : decide ([p.1, p.2] ∈ L.map (·.2)) = memB p ys := decide_eq_decide.mpr (hL p.1 p.2)
    rw [e0]
    exact q _ H1 T1 g1 (.bl _)
theorem st_addSI (hi : e[i]? = some (.own (oSI P w xs))) (ha : Ev K .now ta e (.int x)) (hz : xs.length < 60) (Po' : Po) (q : Po'.nx (e.set i (.own (oSI P w (xs ++ [x]))))) : Run K E (tDrop (tSAddK P w (tVar i) (tCons ta tNil))) e Po' := fun B T0 σ H T D s ft => by
  obtain ⟨a, hx, hb, ht, o, ho, hh, hR⟩ := s.own hi
  obtain ⟨S0, n0, rfl, _, _⟩ := hR T (Le.refl _)
  refine ⟨_, hx, ⟨a, S0, n0, rfl, ho⟩, ha B T0 σ H T s _ fun v H1 T1 g1 i1 => ?_⟩
  have i2 := i1.now (s.gr.h.trans g1.h) g1.s
  cases i2
  have s1 := s.grow g1
  obtain ⟨a', hx', hb', ht', o', ho', hh', hR'⟩ := s1.own hi
  rw [hx] at hx'; cases hx'
  obtain ⟨S, n, rfl, hS, hn⟩ := hR' T1 (Le.refl _)
  refine ⟨a, .inl x, S, n, rfl, rfl, ho', Nat.lt_of_le_of_lt (Nat.succ_le_of_lt (Nat.lt_of_le_of_lt hn hz)) (by decide), ?_⟩
  refine ft.nx _ _ _ T1 q (s1.wr hi hx ⟨_, upd_same, id, fun T' _ => ⟨_, _, rfl, fun k => ?_, ?_⟩⟩)
  · show (S (.inl k) || decide ((.inl k : Key) = .inl x)) = _
    rw [hS, ← Bool.decide_or]
    exact decide_eq_decide.mpr (by rw [List.mem_append, List.mem_singleton]; exact or_congr Iff.rfl ⟨fun h => Sum.inl.inj h, fun h => congrArg _ h⟩)
  · rw [List.length_append, List.length_singleton]
    split <;> omega
theorem st_addSP (hi : e[i]? = some (.own (oSP K P w ys))) (ha : Ev K .dat ta e (e2 eI eI p)) (hz : ys.length < 60) (Po' : Po) (q : Po'.nx (e.set i (.own (oSP K P w (ys ++ [p]))))) : Run K E (tDrop (tSAddT K P w (tVar i) (tCons ta tNil))) e Po' := fun B T0 σ H T D s ft => by
  obtain ⟨a, hx, hb, ht, o, ho, hh, hR⟩ := s.own hi
  obtain ⟨L0, rfl, _, _, _⟩ := hR T (Le.refl _)
  refine ⟨_, hx, ⟨a, L0, rfl, ho⟩, ha B T0 σ H T s _ fun v H1 T1 g1 i1 => ?_⟩
  have s1 := s.grow g1
  obtain ⟨a', hx', hb', ht', o', ho', hh', hR'⟩ := s1.own hi
  rw [hx] at hx'; cases hx'
  obtain ⟨L, rfl, hL, hn, hT⟩ := hR' T1 (Le.refl _)
  cases i1 with
  | @tup b vs _ hp hv hz2 =>
    obtain rfl : vs = [p.1, p.2].map V.int := Iss.ints (ns := [p.1, p.2]) hv
    refine ⟨a, b, [p.1, p.2], L, rfl, rfl, g1.s.sqT hp.t, ho', fun z hz => g1.s.sqT (hT z hz), by omega, fun L' c1 c2 => ?_⟩
    refine ft.nx _ _ _ T1 q (s1.wr hi hx ⟨_, upd_same, id, fun T' hT' => ⟨L', rfl, ?_, ?_, ?_⟩⟩)
    · intro x y
      by_cases hk : [p.1, p.2] ∈ L.map (·.2)
      · rw [c1 hk, hL, List.mem_append, List.mem_singleton]
        refine ⟨.inl, fun h => h.elim id fun h => ?_⟩
        rw [h]; exact (hL p.1 p.2).mp hk
      · rw [(c2 hk).map (·.2) |>.mem_iff, List.map_cons, List.mem_cons, hL, List.mem_append, List.mem_singleton, or_comm]
        refine or_congr Iff.rfl ⟨fun h => ?_, fun h => by rw [← h]⟩
        have h1 : x = p.1 ∧ y = p.2 := by simpa using h
        exact Prod.ext h1.1 h1.2
    · rw [List.length_append, List.length_singleton]
      by_cases hk : [p.1, p.2] ∈ L.map (·.2)
      · rw [c1 hk]; omega
      · rw [(c2 hk).length_eq, List.length_cons]; omega
    · intro z hz
      by_cases hk : [p.1, p.2] ∈ L.map (·.2)
      · rw [c1 hk] at hz; exact hT'.sqT (hT z hz)
      · rcases List.mem_cons.mp ((c2 hk).mem_iff.mp hz) with h | h
        · rw [h]; exact hT'.sqT hp.t
        · exact hT'.sqT (hT z h)
end
end Fh

set_option Elab.async false
set_option linter.all false
set_option maxRecDepth 100000
set_option maxHeartbeats 4000000
/-! FhJ: range downwards, list(range(..)), sets asked -/
namespace Fh
open PySem PySem.Spec PyProof.Rows L2
def rangeDn (a b : Int) : List Int := (List.range (a - b).toNat).map fun i => a - (i : Nat)
theorem rangeDn_len (a b : Int) : (rangeDn a b).length = (a - b).toNat := by unfold rangeDn; simp
section
variable {K : PySem.W.Frag} {E : WX} {P : Program} {w : World} {e : En} {ta tb te : TE} {m m1 : Md} {i j k : Int} {s : Nat} {x : Int} {p : Int × Int} {xs : List Int} {ys : List (Int × Int)}
theorem ez_r3 (ha : Ev K .now ta e (.int i)) (hb : Ev K .now tb e (.int j)) (h : -8388608 ≤ i ∧ i ≤ 8388608 ∧ -8388608 ≤ j ∧ j ≤ 8388608) : EvIz K .dat (iRng3 (tCons ta (tCons tb (tCons (tUn (rU fun i => .int (-i)) (tC (.int 1))) tNil)))) e ((rangeDn i j).map eI) := fun B T0 σ H T s R q => by
  refine (ea_cons ha (ea_cons hb (ea_cons (m := .now) (ev_negI ev_int) ea_nil))) B T0 σ H T s _ fun vs H1 T1 g1 i1 => ?_
  match vs, i1 with
  | [v1, v2, v3], i1 =>
    have hB := s.gr.h.trans g1.h
    have a1 := i1.1.now hB g1.s
    have a2 := i1.2.1.now hB g1.s
    have a3 := i1.2.2.1.now hB g1.s
    cases a1; cases a2; cases a3
    refine ⟨i, j, -1, (i - j).toNat, rfl, RgC.neg (by omega) (by omega) (by omega) (by omega), q _ H1 T1 g1 (by rw [List.length_map, rangeDn_len, sizeLine_eq]; omega) ?_⟩
    have hl : (rangeDn i j).length = (i - j).toNat := rangeDn_len i j
    refine ⟨fun H T => Le T H, g1.s, fun _ _ _ _ _ _ _ h => h, fun n d H2 T2 hs hx hB hT => ?_, fun n H2 T2 hs hB hT hl2 => ?_⟩
    · rw [List.getElem?_map] at hx
      unfold rangeDn at hx
      rw [List.getElem?_map] at hx
      by_cases hn : n < (i - j).toNat
      · rw [List.getElem?_range hn] at hx
        cases hx
        refine ⟨hn, fun v H3 y => ?_⟩
        obtain ⟨rfl, rfl⟩ := y
        refine ⟨T2, Gr.refl hT, ?_⟩
        have e0 : i + (n : Nat) * (-1) = i - (n : Nat) := by omega
        show MIs _ K B _ _ (.int (i + (n : Nat) * (-1))) (.int (i - (n : Nat)))
        rw [e0]
        exact .int _
      · rw [List.getElem?_eq_none (by rw [List.length_range]; omega)] at hx
        cases hx
    · show (i - j).toNat ≤ n
      rw [List.length_map, hl] at hl2
      exact hl2
theorem rgV_ints (i j : Int) : rgV i j = (rangeI i j).map V.int := by unfold rgV rangeI; rw [List.map_map]; rfl
theorem evo_listR1 (ha : Ev K .now ta e (.int k)) (h : -(2 ^ 62) ≤ k ∧ k ≤ 16777216) : EvO K (tLstRg (tRg1 ta)) e (oL eI (rangeI 0 k)) := fun B T0 σ H T s Q q => ha B T0 σ H T s _ fun v H1 T1 g1 i1 => by
  have a1 := i1.now (s.gr.h.trans g1.h) g1.s
  cases a1
  refine ⟨k, rfl, ⟨by omega, by omega, h.1, by omega, by omega⟩, fun a ha => q a _ T1 (g1.trans (Gr.own g1.s ha)) (g1.h.back ha) (g1.s.back ha) ⟨_, upd_same, ?_, ?_⟩⟩
  · rw [rgV_ints]; exact iss_ints _
  · rw [List.length_map, rangeI_len, sizeLine_eq]; omega
theorem evo_listR2 (ha : Ev K .now ta e (.int i)) (hb : Ev K .now tb e (.int j)) (h : -8388608 ≤ i ∧ i ≤ 8388608 ∧ -8388608 ≤ j ∧ j ≤ 8388608) : EvO K (tLstRg (tRg2 ta tb)) e (oL eI (rangeI i j)) := fun B T0 σ H T s Q q => ha B T0 σ H T s _ fun v H1 T1 g1 i1 => by
  refine hb B T0 σ H1 T1 (s.grow g1) _ fun v2 H2 T2 g2 i2 => ?_
  have a1 := i1.now (s.gr.h.trans g1.h) g1.s
  have a2 := i2.now ((s.grow g1).gr.h.trans g2.h) g2.s
  cases a1; cases a2
  have g := g1.trans g2
  refine ⟨i, j, rfl, rfl, ⟨by omega, by omega, by omega, by omega, by omega⟩, fun a ha => q a _ T2 (g.trans (Gr.own g.s ha)) (g.h.back ha) (g.s.back ha) ⟨_, upd_same, ?_, ?_⟩⟩
  · rw [rgV_ints]; exact iss_ints _
  · rw [List.length_map, rangeI_len, sizeLine_eq]; omega
theorem ev_isSI (ha : Ev K .now ta e (.int x)) (hi : e[s]? = some (.own (oSI P w xs))) : Ev K m (tOp (rSInK P w false) ta (tVar s)) e (.bl (memB x xs)) := ev_inSI (neg := false) ha hi
theorem ev_nsSI (ha : Ev K .now ta e (.int x)) (hi : e[s]? = some (.own (oSI P w xs))) : Ev K m (tOp (rSInK P w true) ta (tVar s)) e (.bl (!memB x xs)) := ev_inSI (neg := true) ha hi
theorem ev_isSP (ha : Ev K .dat ta e (e2 eI eI p)) (hi : e[s]? = some (.own (oSP K P w ys))) : Ev K m (tOp (rSInT K P w false) ta (tVar s)) e (.bl (memB p ys)) := ev_inSP (neg := false) ha hi
theorem ev_nsSP (ha : Ev K .dat ta e (e2 eI eI p)) (hi : e[s]? = some (.own (oSP K P w ys))) : Ev K m (tOp (rSInT K P w true) ta (tVar s)) e (.bl (!memB p ys)) := ev_inSP (neg := true) ha hi
end
end Fh

set_option Elab.async false
set_option linter.all false
set_option maxRecDepth 100000
set_option maxHeartbeats 4000000
/-! FhC: instances of the program's own classes -/
namespace Fh
open PySem PySem.Spec PyProof.Rows L2
/-! ### fields of an instance one makes -/
theorem Isf.put {K : PySem.W.Frag} {H : Hp} {f : Str} {v : V} {d : D} (h : Is K H v d) : ∀ {fvs : List (Str × V)} {fs : List (Str × D)}, Isf K H fvs fs → Isf K H (putF f v fvs) (putD f d fs)
  | [], [], _ => .cons h .nil
  | (g, u) :: fvs, (_, d2) :: fs, .cons h1 h2 => by
    unfold putF putD
    by_cases q : g = f
    · rw [if_pos q, if_pos q]; exact .cons h h2
    · rw [if_neg q, if_neg q]; exact .cons h1 (Isf.put h h2)
section
variable {K : PySem.W.Frag} {E : WX} {e : En} {d : D} {ds : List D} {te ta : TE} {t : TA} {m : Md} {i : Nat} {C : Addr} {f : Str} {fs : List (Str × D)} {P : Po}
/-- the object that __init__ fills -/
def oSelf (K : PySem.W.Frag) (a0 C : Addr) (fs : List (Str × D)) : OD := .ext fun a o T => a = a0 ∧ ∃ dx fvs, o = .ins C dx fvs ∧ Isf K T fvs fs
theorem run_fld {a0 : Addr} (hi : e[i]? = some (.own (oSelf K a0 C fs))) (c : Cls K C) (n : NoAttr K C f) (hl : fs.length < 1000) (h : Ev K .dat te e d) (q : P.nx (e.set i (.own (oSelf K a0 C (putD f d fs))))) : Run K E (sFld K (tVar i) te f) e P := fun B T0 σ H T D s ft =>
  h B T0 σ H T s _ fun v H1 T1 g1 i1 => by
    have s1 := s.grow g1
    obtain ⟨a, hx, hb, ht, o, ho, hh, hR⟩ := s1.own hi
    obtain ⟨rfl, dx, fvs, rfl, hf⟩ := hR T1 (Le.refl _)
    refine ⟨_, hx, a, C, dx, fvs, rfl, ho, c, n, by rw [hf.length]; exact hl, ?_⟩
    exact ft.nx _ _ _ T1 q (s1.wr hi hx ⟨_, upd_same, id, fun T' hT' => ⟨rfl, dx, _, rfl, (Isf.mono hT' fs hf).put (Is.mono hT' _ i1)⟩⟩)
/-- its fields are data -/
theorem ev_atSf {s : Nat} {a0 : Addr} (hi : e[s]? = some (.own (oSelf K a0 C fs))) (c : Cls K C) (n : NoAttr K C f) (hl : fs.lookup f = some d) : Ev K m (tAt K (tVar s) f) e d := Ev.up fun B T0 σ H T s0 Q q => by
  obtain ⟨a, hx, hb, ht, o, ho, hh, hR⟩ := s0.own hi
  obtain ⟨rfl, dx, fvs, rfl, hf⟩ := hR T (Le.refl _)
  obtain ⟨v, l, iv⟩ := hf.lookup hl
  exact ⟨_, hx, .inl ⟨a, C, dx, fvs, v, rfl, ho, ⟨c, n⟩, l, q v H T (Gr.refl s0.gr.s) iv⟩⟩
end
/-! ### __init__ -/
def SpI (K : PySem.W.Frag) (C : Addr) {α : Type} (ms : List Md) (args : α → List D) (pre : α → Prop) (out : α → List (Str × D)) : Sp := fun vs H Q _ =>
  ∃ (a dx : Addr) (H0 T : Hp) (rest : List V) (x : α), vs = .ref a :: rest ∧ H = upd H0 a (.ins C dx []) ∧ H0 a = none ∧ Le T H0 ∧ pre x ∧ MIss K H0 H0 T ms rest (args x) ∧
    ∀ H' T', Gr H0 T H' T' → T' a = none → OwnAt K H' T' a (.ins C (out x)) → Q .non H'
theorem sat_startI {K : PySem.W.Frag} {H0 T : Hp} {C a dx : Addr} {ms : List Md} {vs : List V} {ds : List D} {N : List Str} (hT : Le T H0) (ha : H0 a = none) (h : MIss K H0 H0 T ms vs ds) (hN : ms.length + 1 ≤ N.length) :
    Sat K H0 T (.own (oSelf K a C []) :: (slots ms ds ++ List.replicate (N.length - (ms.length + 1)) .no)) (L2.start N (.ref a :: vs)) (upd H0 a (.ins C dx [])) T := by
  obtain ⟨l1, l2⟩ := h.len
  have ls := slots_len l2
  have Ta : T a = none := hT.back ha
  have at_ : ∀ (i : Nat) s, (slots ms ds ++ List.replicate (N.length - (ms.length + 1)) Sl.no)[i]? = some s → ∃ x, (L2.start N (.ref a :: vs))[i + 1]? = some x ∧ SlotOk K H0 (upd H0 a (.ins C dx [])) T x s ∧ ∀ o, s ≠ .own o := fun i s e => by
    unfold L2.start
    by_cases hi : i < ms.length
    · rw [List.getElem?_append_left (by rw [ls]; exact hi)] at e
      obtain ⟨v, hv, q, q2⟩ := slots_ok h e
      refine ⟨some v, ?_, ?_, q2⟩
      · rw [List.getElem?_append_left (by rw [List.length_map, List.length_cons, l1]; omega), List.getElem?_map, List.getElem?_cons_succ, hv]
        rfl
      · cases s with
        | no => trivial
        | dat d => exact q
        | bor d => exact q
        | own o => exact absurd rfl (q2 o)
    · have hle : ms.length ≤ i := by omega
      rw [List.getElem?_append_right (by rw [ls]; exact hle), ls] at e
      have hi2 : i - ms.length < N.length - (ms.length + 1) := by
        have := (List.getElem?_eq_some_iff.mp e).1
        simpa using this
      rw [List.getElem?_replicate_of_lt hi2] at e
      cases e
      refine ⟨none, ?_, trivial, fun o q => nomatch q⟩
      rw [List.getElem?_append_right (by rw [List.length_map, List.length_cons, l1]; omega), List.length_map, List.length_cons, l1, List.getElem?_replicate_of_lt (by omega)]
  refine ⟨⟨Le.new ha, Le.refl _, hT.trans (Le.new ha), fun _ _ z z' => by rw [z] at z'; cases z'⟩, ?_, fun i s e => ?_, fun i j o o' b b' hij h1 h2 => ?_⟩
  · unfold L2.start
    simp [ls, l1]
  · cases i with
    | zero =>
      cases e
      refine ⟨some (.ref a), ?_, a, rfl, ha, Ta, _, upd_same, id, fun T' _ => ⟨rfl, dx, [], rfl, .nil⟩⟩
      unfold L2.start
      rfl
    | succ i =>
      obtain ⟨x, hx, q, _⟩ := at_ i s e
      exact ⟨x, hx, q⟩
  · cases i with
    | zero =>
      cases j with
      | zero => exact absurd rfl hij
      | succ j =>
        obtain ⟨x, _, _, q⟩ := at_ j _ h2
        exact absurd rfl (q o')
    | succ i =>
      obtain ⟨x, _, _, q⟩ := at_ i _ h1
      exact absurd rfl (q o)
section
variable {P : Program} {w : World} {K : PySem.W.Frag} {mg : Str → Option Value} {base : Heap} {nm qn : Str} {st : Stmt} {N ps : List Str} {k : Nat} {α : Type} {ms : List Md} {args : α → List D} {pre : α → Prop}
/-- a method that may be called -/
structure DfM (P : Program) (w : World) (K : PySem.W.Frag) (mg : Str → Option Value) (base : Heap) (a : Addr) (k : Nat) (dvs : List V) (sp : Sp) : Prop where
  ex : ∃ (CX : CXT) (fd : FuncData) (ps : List Str) (ds : List Value), FnOk P w K mg base CX k a fd ps sp ∧ Binds K fd ps ds ∧ Vals dvs ds ∧ ∀ X : Cx, X.prog = P → X.w = w → Passes CX X E0
def BodyM (P : Program) (w : World) (K : PySem.W.Frag) (mg : Str → Option Value) (base : Heap) (qn : Str) (st : Stmt) (N : List Str) (k : Nat) (run : (XK → TS → Prop)) : Prop :=
  ∀ (f : Addr) (cdv : Value) (A : Around) (outer : List Env) (s : Shared) (H : Hp) (E : XK), Room k (A.deeper (envOfC qn (defScope st) s.heap.objs.size f cdv)) →
    ∃ t, PSs (cxOf CX0 P w K mg base N qn (defScope st) f cdv A outer s H E).nox (defBody st) t ∧ run E t
theorem DdM.df {a : Addr} {out : α → D} (F : DdM K a nm qn st [] []) (S : FnScope N ps (defScope st)) (hn : ms.length = ps.length) (hN : ms.length ≤ N.length)
    (bd : ∀ (kV doc pm : Value) (an : Option Addr) (cdv ct : Value) (us : List Value), us.length = ps.length → bindArgs (PySem.W.fnOf nm qn (defArgs st) (defBody st) (defScope st) .none kV doc pm an cdv ct) ⟨us, []⟩ = pure (ps.zip us))
    (hb : BodyM P w K mg base qn st N k fun E t => ∀ a, pre a → Run K (lift E) t (En0 ms (args a) (N.length - ms.length)) { nx := fun _ => D.non = out a, rt := fun d => d = out a }) : DfM P w K mg base a (k + 1) [] (SpP K ms args pre out) := by
  obtain ⟨fd, F⟩ := F
  refine ⟨CX0, fd, ps, [], F.ok S (fun vs H Q E h => ?_) (fun cdv A outer s H vs Q E hr h => ?_), F.bindsN bd, .nil, fun X _ _ => pass0⟩
  · obtain ⟨T, a, _, _, hm, _⟩ := h
    rw [hm.len.1, hn]
  · obtain ⟨t, ht, hrun⟩ := hb a cdv A outer s H E hr
    obtain ⟨T, a, hT, hp, hm, hq⟩ := h
    refine ⟨t, ht.nox, hrun a hp H T _ H T _ (sat_start hT hm hN) ⟨fun e σ H' T' p s' => ?_, fun d v H' T' p g i => ?_, fun _ _ _ _ p => p.elim, fun _ _ _ _ p => p.elim, fun _ _ _ _ _ _ _ p => p.elim, fun _ _ _ _ p => p.elim⟩⟩
    · exact hq .non .non H' T' p s'.gr .non
    · exact hq d v H' T' p g i
theorem DdM.dfO {a : Addr} {out : α → OD} (F : DdM K a nm qn st [] []) (S : FnScope N ps (defScope st)) (hn : ms.length = ps.length) (hN : ms.length ≤ N.length)
    (bd : ∀ (kV doc pm : Value) (an : Option Addr) (cdv ct : Value) (us : List Value), us.length = ps.length → bindArgs (PySem.W.fnOf nm qn (defArgs st) (defBody st) (defScope st) .none kV doc pm an cdv ct) ⟨us, []⟩ = pure (ps.zip us))
    (hb : BodyM P w K mg base qn st N k fun E t => ∀ a, pre a → Run K (lift E) t (En0 ms (args a) (N.length - ms.length)) { nx := fun _ => False, rt := fun _ => False, ro := fun o => o = out a }) : DfM P w K mg base a (k + 1) [] (SpO K ms args pre out) := by
  obtain ⟨fd, F⟩ := F
  refine ⟨CX0, fd, ps, [], F.ok S (fun vs H Q E h => ?_) (fun cdv A outer s H vs Q E hr h => ?_), F.bindsN bd, .nil, fun X _ _ => pass0⟩
  · obtain ⟨T, a, _, _, hm, _⟩ := h
    rw [hm.len.1, hn]
  · obtain ⟨t, ht, hrun⟩ := hb a cdv A outer s H E hr
    obtain ⟨T, a, hT, hp, hm, hq⟩ := h
    refine ⟨t, ht.nox, hrun a hp H T _ H T _ (sat_start hT hm hN) ⟨fun _ _ _ _ p => p.elim, fun _ _ _ _ p => p.elim, fun _ _ _ _ p => p.elim, fun _ _ _ _ p => p.elim, fun _ _ _ _ _ _ _ p => p.elim, fun o b H' T' p g hb ht ho => ?_⟩⟩
    subst p
    exact hq b H' T' g hb ht ho
/-- an __init__: how its parameters are bound -/
structure DfI (P : Program) (w : World) (K : PySem.W.Frag) (mg : Str → Option Value) (base : Heap) (a : Addr) (k : Nat) (sp : Sp) : Prop where
  ex : ∃ (fd : FuncData) (ps : List Str), FnOk P w K mg base CX0 k a fd ps sp ∧ ∃ (nm qn : Str) (st : Stmt) (dvs : List V) (kws : List (Str × V)), FunD K nm qn (defArgs st) (defBody st) (defScope st) dvs kws a fd
theorem initOk {a C : Addr} {fd : FuncData} {dvs : List V} {kws : List (Str × V)} {out : α → List (Str × D)} (F : FunD K nm qn (defArgs st) (defBody st) (defScope st) dvs kws a fd) (S : FnScope N ps (defScope st)) (hn : ms.length + 1 = ps.length) (hN : ms.length + 1 ≤ N.length)
    (hb : BodyM P w K mg base qn st N k fun E t => ∀ a0 x, pre x → Run K (lift E) t (.own (oSelf K a0 C []) :: (slots ms (args x) ++ List.replicate (N.length - (ms.length + 1)) .no)) { nx := fun e => e[0]? = some (.own (oSelf K a0 C (out x))), rt := fun _ => False }) : FnOk P w K mg base CX0 (k + 1) a fd ps (SpI K C ms args pre out) := by
  refine F.ok S (fun vs H Q E h => ?_) (fun cdv A outer s H vs Q E hr h => ?_)
  · obtain ⟨b, dx, H0, T, rest, x, rfl, _, _, _, _, hm, _⟩ := h
    rw [List.length_cons, hm.len.1, hn]
  · obtain ⟨t, ht, hrun⟩ := hb a cdv A outer s H E hr
    obtain ⟨b, dx, H0, T, rest, x, rfl, rfl, hb0, hT, hp, hm, hq⟩ := h
    refine ⟨t, ht.nox, hrun b x hp H0 T _ _ T _ (sat_startI hT hb0 hm hN) ⟨fun e σ H' T' p s' => ?_, fun _ _ _ _ p => p.elim, fun _ _ _ _ p => p.elim, fun _ _ _ _ p => p.elim, fun _ _ _ _ _ _ _ p => p.elim, fun _ _ _ _ p => p.elim⟩⟩
    obtain ⟨c, hx, hc, htc, o, ho, hh, hR⟩ := s'.own p
    obtain ⟨rfl, dx', fvs, rfl, hf⟩ := hR T' (Le.refl _)
    exact hq H' T' s'.gr htc ⟨dx', fvs, ho, hf⟩
end
/-! ### calls of methods, properties, classes -/
section
variable {X : Cx} {k n : Nat} {C f p : Addr} {m x : Str} {sp : Sp} {dvs : List V} {o e : Expr} {es : List Expr} {ta : TE} {t tk : TA} {apos pos cp : Pos} {kws : List Keyword} {ks : List Str} {gV : List V → List V → List V}
theorem pe_mth {pl : Sem Bool} (G : DfM X.prog X.w X.K X.mg X.base f k dvs sp) (c : Cls X.K C) (hm : Meth X.K C m f) (hr : Room k X.A) (he : PE X o ta) (ha : PA X (e :: es) t)
    (hst : starEach (e :: es) X.env = (false, eval e X.env) :: starEach es X.env := by rfl) (hpl : (backTo pos (starEach es X.env)).any (·.1) = false := by rfl)
    (ht : eval (.Call (.Attribute o m apos) (e :: es) [] pos) X.env = (do
      let ov ← eval o X.env
      standAt apos.atName
      let (f, first) ← holding [ov] (getMethod ov m pl)
      callWith pos f first (backTo pos (starEach (e :: es) X.env)) (backToKw pos (keywordEach [] X.env))) := by rfl) :
    PE X (.Call (.Attribute o m apos) (e :: es) [] pos) (tMeth C m sp dvs E0 ta t) := by
  obtain ⟨CX, fd, ps, ds, F, hb, hd, hx⟩ := G.ex
  exact pe_meth (pl := pl) he c hm F hr hb hd (hx X rfl rfl) ha hst hpl ht
theorem pe_mth0 {pl : Sem Bool} (G : DfM X.prog X.w X.K X.mg X.base f k dvs sp) (c : Cls X.K C) (hm : Meth X.K C m f) (hr : Room k X.A) (he : PE X o ta)
    (ht : eval (.Call (.Attribute o m apos) [] [] pos) X.env = (do
      let ov ← eval o X.env
      standAt apos.atName
      let (f, first) ← holding [ov] (getMethod ov m pl)
      callWith pos f first (backTo pos (starEach [] X.env)) (backToKw pos (keywordEach [] X.env))) := by rfl) :
    PE X (.Call (.Attribute o m apos) [] [] pos) (tMeth C m sp dvs E0 ta tNil) := by
  obtain ⟨CX, fd, ps, ds, F, hb, hd, hx⟩ := G.ex
  exact pe_meth0 (pl := pl) he c hm F hr hb hd (hx X rfl rfl) ht
theorem pe_prp (G : DfM X.prog X.w X.K X.mg X.base f k dvs sp) (c : Cls X.K C) (hp : PropOf X.K C m p f) (hr : Room (k + 1) X.A) (he : PE X o ta)
    (hab : attributeBase o m X.env (eval o X.env) = eval o X.env := by rfl) : PE X (.Attribute o m pos) (tProp C sp dvs E0 ta) := by
  obtain ⟨CX, fd, ps, ds, F, hb, hd, hx⟩ := G.ex
  exact pe_prop he c hp F hr hb hd (hx X.nox rfl rfl) hab
/-- a class whose __init__ keeps sp: n values and the keywords ks -/
structure DfC (P : Program) (w : World) (K : PySem.W.Frag) (mg : Str → Option Value) (base : Heap) (x : Str) (C : Addr) (k n : Nat) (ks : List Str) (gV : List V → List V → List V) (sp : Sp) : Prop where
  ex : ∃ (CX : CXT) (f : Addr) (fd : FuncData) (ps : List Str) (g : List Value → List Value → List Value), FnOk P w K mg base CX k f fd ps sp ∧ Mk K C f ∧ mg x = some (.ref C) ∧ KBn K fd ps (n + 1) ks g gV ∧ ∀ X : Cx, X.prog = P → X.w = w → Passes CX X E0
theorem pe_cls (G : DfC X.prog X.w X.K X.mg X.base x C k n ks gV sp) (hr : Room (k + 1) X.A) (hg : Gl X x) (ha : PA X (e :: es) t) (hkw : PK X kws tk)
    (hall : (backToKw pos (keywordEach kws X.env)).all (·.1.isSome) = true := by rfl) (hks : (backToKw pos (keywordEach kws X.env)).filterMap (·.1) = ks := by rfl)
    (hdb : (x == ("__debug__" : Str)) = false := by decide) (he : starEach (e :: es) X.env = (false, eval e X.env) :: starEach es X.env := by rfl)
    (hpl : ((backTo pos (starEach (e :: es) X.env)).any (·.1) || (backToKw pos (keywordEach kws X.env)).any (·.1.isNone)) = false := by rfl) {l : Nat} (hl : ks.length = l := by rfl) :
    PE X (.Call (.Name x cp) (e :: es) kws pos) (tMakeN C n l sp gV E0 t tk) := by
  subst hl
  obtain ⟨CX, f, fd, ps, g, F, M, hm, hb, hx⟩ := G.ex
  exact pe_makeN M F hr hg hm hb (hx X rfl rfl) ha hkw hall hks hdb he hpl
end
section
variable {K : PySem.W.Frag} {e : En} {d : D} {ds es2 : List D} {m m0 : Md} {α : Type} {ms ms1 ms2 : List Md} {args : α → List D} {pre : α → Prop} {out : α → D} {outO : α → OD} {outI : α → List (Str × D)} {ta tk : TA} {te : TE} {C : Addr} {nm : Str} {fs : List (Str × D)}
theorem ins_at {B H T : Hp} {v : V} (h : MIs m0 K B H T v (.ins C fs)) (hB : Le B H) (hT : Le T H) : ∃ a dx fvs, v = .ref a ∧ H a = some (.ins C dx fvs) ∧ Isf K H fvs fs := by
  have i := h.now hB hT
  cases i with
  | @ins a _ dx fvs _ ha hf => exact ⟨a, dx, fvs, rfl, ha, hf⟩
theorem ev_mth (a : α) (hp : pre a) (ho : Ev K m0 te e (.ins C fs)) (hn : fs.lookup nm = none) (h : EvA K ms ta e ds) (ha : args a = .ins C fs :: ds) : Ev K m (tMeth C nm (SpP K (m0 :: ms) args pre out) [] E0 te ta) e (out a) := Ev.up fun B T0 σ H T s Q q => ho B T0 σ H T s _ fun v H1 T1 g1 i1 => by
  obtain ⟨b, dx, fvs, rfl, hb, hf⟩ := ins_at i1 (s.gr.h.trans g1.h) g1.s
  refine ⟨b, dx, fvs, rfl, hb, hf.lookup_none hn, h B T0 σ H1 T1 (s.grow g1) _ fun vs H2 T2 g2 i2 => ?_⟩
  rw [List.append_nil]
  refine ⟨T2, a, g2.s, hp, ?_, fun d v H3 T3 hd g3 i3 => q v H3 T3 ((g1.trans g2).trans g3) (hd ▸ i3)⟩
  rw [ha]
  have hB := ((s.grow g1).gr.h.trans g2.h)
  have i1' : MIss K B H1 T1 [m0] [.ref b] [.ins C fs] := ⟨i1, trivial⟩
  exact ((i1'.mono g2.h g2.t).append i2).rebase hB g2.s
theorem ev_mthO (a : α) (hp : pre a) (ho : Ev K m0 te e (.ins C fs)) (hn : fs.lookup nm = none) (h : EvA K ms ta e ds) (ha : args a = .ins C fs :: ds) : EvO K (tMeth C nm (SpO K (m0 :: ms) args pre outO) [] E0 te ta) e (outO a) := fun B T0 σ H T s Q q => ho B T0 σ H T s _ fun v H1 T1 g1 i1 => by
  obtain ⟨b, dx, fvs, rfl, hb, hf⟩ := ins_at i1 (s.gr.h.trans g1.h) g1.s
  refine ⟨b, dx, fvs, rfl, hb, hf.lookup_none hn, h B T0 σ H1 T1 (s.grow g1) _ fun vs H2 T2 g2 i2 => ?_⟩
  rw [List.append_nil]
  have g12 := g1.trans g2
  refine ⟨T2, a, g2.s, hp, ?_, fun p H3 T3 g3 h1 h2 h3 => q p H3 T3 (g12.trans g3) (g12.h.back h1) h2 h3⟩
  rw [ha]
  have hB := ((s.grow g1).gr.h.trans g2.h)
  have i1' : MIss K B H1 T1 [m0] [.ref b] [.ins C fs] := ⟨i1, trivial⟩
  exact ((i1'.mono g2.h g2.t).append i2).rebase hB g2.s
theorem ev_prp (a : α) (hp : pre a) (ho : Ev K m0 te e (.ins C fs)) (ha : args a = [.ins C fs]) : Ev K m (tProp C (SpP K [m0] args pre out) [] E0 te) e (out a) := Ev.up fun B T0 σ H T s Q q => ho B T0 σ H T s _ fun v H1 T1 g1 i1 => by
  obtain ⟨b, dx, fvs, rfl, hb, hf⟩ := ins_at i1 (s.gr.h.trans g1.h) g1.s
  refine ⟨b, dx, fvs, rfl, hb, T1, a, g1.s, hp, ?_, fun d v H3 T3 hd g3 i3 => q v H3 T3 (g1.trans g3) (hd ▸ i3)⟩
  rw [ha]
  have i1' : MIss K B H1 T1 [m0] [.ref b] [.ins C fs] := ⟨i1, trivial⟩
  exact i1'.rebase (s.gr.h.trans g1.h) g1.s
theorem ev_prpO (a : α) (hp : pre a) (ho : Ev K m0 te e (.ins C fs)) (ha : args a = [.ins C fs]) : EvO K (tProp C (SpO K [m0] args pre outO) [] E0 te) e (outO a) := fun B T0 σ H T s Q q => ho B T0 σ H T s _ fun v H1 T1 g1 i1 => by
  obtain ⟨b, dx, fvs, rfl, hb, hf⟩ := ins_at i1 (s.gr.h.trans g1.h) g1.s
  refine ⟨b, dx, fvs, rfl, hb, T1, a, g1.s, hp, ?_, fun p H3 T3 g3 h1 h2 h3 => q p H3 T3 (g1.trans g3) (g1.h.back h1) h2 h3⟩
  rw [ha]
  have i1' : MIss K B H1 T1 [m0] [.ref b] [.ins C fs] := ⟨i1, trivial⟩
  exact i1'.rebase (s.gr.h.trans g1.h) g1.s
/-- a new instance; gV puts the values in their order, defaults among them -/
theorem evo_cls {n l : Nat} {gV : List V → List V → List V} (a : α) (hp : pre a) (h : EvA K ms1 ta e ds) (hk : EvA K ms2 tk e es2) (hn : ms1.length = n) (hl : ms2.length = l)
    (hg : ∀ (x : V) (vs zs : List V) (B H T : Hp), MIss K B H T ms1 vs ds → MIss K B H T ms2 zs es2 → ∃ rest, gV (x :: vs) zs = x :: rest ∧ MIss K B H T ms rest (args a)) :
    EvO K (tMakeN C n l (SpI K C ms args pre outI) gV E0 ta tk) e (.ins C (outI a)) := fun B T0 σ H T s Q q => h B T0 σ H T s _ fun vs H1 T1 g1 i1 => hk B T0 σ H1 T1 (s.grow g1) _ fun zs H2 T2 g2 i2 => by
  refine ⟨i1.len.1.trans hn, i2.len.1.trans hl, fun x dx hx hdx hne => ?_⟩
  have hB := ((s.grow g1).gr.h.trans g2.h)
  have g12 := g1.trans g2
  have go : Gr H2 T2 (upd H2 dx (.own x)) T2 := Gr.own g2.s hdx
  obtain ⟨rest, hr, hm⟩ := hg (.ref x) vs zs B (upd H2 dx (.own x)) T2 (i1.mono (g2.h.trans go.h) g2.t) (i2.mono go.h (Le.refl _))
  rw [hr]
  have hx2 : upd H2 dx (.own x) x = none := by rw [upd_ne (Ne.symm hne)]; exact hx
  refine ⟨x, dx, upd H2 dx (.own x), T2, rest, a, rfl, rfl, hx2, go.s, hp, hm.rebase (hB.trans go.h) go.s, fun H' T' g' hT' ho => ⟨rfl, ?_⟩⟩
  exact q x H' T' ((g12.trans go).trans g') (g12.h.back hx) hT' ho
end
/-! ### defaults by keyword that are empty tuples; properties -/
def kwA (K : PySem.W.Frag) (a : Addr) (f : Str) : Addr := match K.lookup a with
  | some o => (match o.data with
    | .func g => (match g.kwdefaults with
      | .ref D => (match PySem.W.nsIn K D f with
        | some (some (.ref b)) => b
        | _ => 0)
      | _ => 0)
    | _ => 0)
  | none => 0
def emB (K : PySem.W.Frag) (b : Addr) : Bool := match K.lookup b with
  | some ⟨.type c, none, .seq its _, _⟩ => decide (c = "tuple") && decide (its = #[])
  | _ => false
theorem emB_ok {K : PySem.W.Frag} {b : Addr} (h : emB K b = true) (H : Hp) : SqN K H b [] := by
  unfold emB at h
  split at h
  · rename_i c its _ _ e
    obtain ⟨h1, h2⟩ := and2 h
    have h3 := of_decide_eq_true h1
    have h4 := of_decide_eq_true h2
    subst h3 h4
    exact ⟨.inr ⟨_, _, _, e, rfl, rfl, Nat.zero_le _, .nil⟩, .inl ⟨_, e, rfl⟩⟩
  · cases h
def proB (K : PySem.W.Frag) (C : Addr) (f : Str) (p g : Addr) : Bool :=
  decide (PySem.W.findIn K (.ref C) f = some (some (.ref p))) && (decide (PySem.W.specialIn K (.ref p) "__get__" = some (some (.builtin "property.__get__"))) && (decide (PySem.W.takesIn K (.ref p) = some true) &&
    (match PySem.W.recIn K p "property" with
    | some (.ref g' :: _) => decide (g' = g)
    | _ => false)))
theorem proB_ok {K : PySem.W.Frag} {C : Addr} {f : Str} {p g : Addr} (h : proB K C f p g = true) : PropOf K C f p g := by
  unfold proB at h
  obtain ⟨h1, h2⟩ := and2 h
  obtain ⟨h2, h3⟩ := and2 h2
  obtain ⟨h3, h4⟩ := and2 h3
  refine ⟨of_decide_eq_true h1, of_decide_eq_true h2, of_decide_eq_true h3, ?_⟩
  split at h4
  · rename_i g' r e
    have := of_decide_eq_true h4
    subst this
    exact ⟨r, e⟩
  · cases h4
theorem putD_new {f : Str} {d : D} : ∀ {fs : List (Str × D)}, fs.lookup f = none → putD f d fs = fs ++ [(f, d)]
  | [], _ => rfl
  | (g, x) :: fs, h => by
    rw [List.lookup_cons] at h
    unfold putD
    by_cases q : g = f
    · subst q
      rw [beq_self_eq_true] at h
      cases h
    · rw [if_neg q]
      have q2 : (f == g) = false := by
        rw [beq_eq_false_iff_ne]; exact fun z => q z.symm
      rw [q2] at h
      rw [putD_new h]
      rfl
section
variable {K : PySem.W.Frag} {E : WX} {e : En} {te : TE} {i : Nat} {C a0 : Addr} {f : Str} {fs : List (Str × D)} {u : TS} {α O : Type} {enc : α → D} {v : α} {Pf : O → Po} {okr : α → Prop} {rest : α → O}
theorem r_fld (hi : e[i]? = some (.own (oSelf K a0 C fs))) (c : Cls K C) (n : NoAttr K C f) (hn : fs.lookup f = none) (hv : Ev K .dat te e (enc v)) (hk : letO v okr) (h : ∀ x, okr x → Run K E u (e.set i (.own (oSelf K a0 C (fs ++ [(f, enc x)])))) (Pf (rest x))) (hl : fs.length < 1000 := by exact of_decide_eq_true rfl) : Run K E (tSeq (sFld K (tVar i) te f) u) e (Pf (letO v rest)) :=
  run_seq (run_fld hi c n hl hv (by
    rw [putD_new hn]
    exact h v hk))
/-- __init__ has come to its end -/
abbrev PoI {R : Type} (K : PySem.W.Frag) (a0 C : Addr) (enc : R → List (Str × D)) (r : R) : Po := { nx := fun e => e[0]? = some (.own (oSelf K a0 C (enc r))), rt := fun _ => False }
end
end Fh

set_option Elab.async false
set_option linter.all false
set_option maxRecDepth 100000
set_option maxHeartbeats 4000000
/-! FhA2: comprehensions of two clauses -/
namespace Fh
open PySem PySem.Spec PyProof.Rows L2
section
variable {K : PySem.W.Frag} {e : En} {te : TE} {tt tt1 : TT} {wi wi1 : TI} {g1 : TG} {vs vs1 : List Nat} {i : Nat} {m1 : Md} {α β γ : Type} {f : α → D} {f1 : β → D} {g : γ → D} {xs : List α} {ys : α → List β} {c1 : α → Bool} {c2 : α → β → Bool} {hx : α → β → γ} {okx : α → Prop} {oky : α → β → Prop}
/-- what the first n of xs give -/
def lc2 (c1 : α → Bool) (ys : α → List β) (c2 : α → β → Bool) (hx : α → β → γ) (xs : List α) : List γ := (xs.filter c1).flatMap fun x => ((ys x).filter (c2 x)).map (hx x)
theorem lc2_app (xs zs : List α) : lc2 c1 ys c2 hx (xs ++ zs) = lc2 c1 ys c2 hx xs ++ lc2 c1 ys c2 hx zs := by
  unfold lc2; rw [List.filter_append, List.flatMap_append]
theorem lc2_one (x : α) : lc2 c1 ys c2 hx [x] = if c1 x = true then ((ys x).filter (c2 x)).map (hx x) else [] := by
  unfold lc2
  rw [List.filter_cons, List.filter_nil]
  split <;> simp
theorem evo_lc2 (hi : EvIz K .dat wi e (xs.map f)) (hv : i ∈ vs) (hk : ∀ x ∈ xs, okx x)
    (ht : ∀ x, okx x → EvT K tt ((wipeE e vs).set i (.dat (f x))) (c1 x))
    (hy : ∀ x, okx x → c1 x = true → EvIz K m1 wi1 ((wipeE e vs).set i (.dat (f x))) ((ys x).map f1) ∧ ∀ y ∈ ys x, oky x y)
    (hs : ∀ x y, oky x y → ∃ e', Tg K vs1 m1 g1 (f1 y) (wipeE ((wipeE e vs).set i (.dat (f x))) vs1) e' ∧ EvT K tt1 e' (c2 x y) ∧ (c2 x y = true → Ev K .dat te e' (g (hx x y))))
    (hz : (lc2 c1 ys c2 hx xs).length ≤ sizeLine) : EvO K (tLc2 wi (gName i) tt wi1 g1 tt1 te vs vs1) e (oL g (lc2 c1 ys c2 hx xs)) := fun B T0 σ H T s Q q => hi B T0 σ H T s _ fun J H1 T1 gr1 hz0 hJ Dl hD => by
  obtain ⟨S, hS, st, go, stop⟩ := hJ
  have s1 := s.grow gr1
  have hT1 : T1 Dl = none := gr1.s.back hD
  have pre : ∀ n, (lc2 c1 ys c2 hx (xs.take n)).length ≤ (lc2 c1 ys c2 hx xs).length := fun n => by
    rw [← List.take_append_drop n xs, lc2_app, List.length_append, List.take_append_drop]; omega
  refine ⟨fun j m H => m = xs.length - j ∧ j ≤ xs.length ∧ ∃ Hm T acc, H = upd Hm Dl (.lst acc) ∧ Hm Dl = none ∧ Gr H1 T1 Hm T ∧ S H T ∧ Iss K T acc ((lc2 c1 ys c2 hx (xs.take j)).map g), ⟨xs.length, by simp, Nat.zero_le _, H1, T1, [], rfl, hD, Gr.refl gr1.s, ?_, .nil⟩, ?_⟩
  · exact st _ _ _ _ hS (Le.refl _) (s1.gr.h.trans (Le.new hD)) (gr1.s.trans (Le.new hD))
  rintro j m' H2 ⟨rfl, hle, Hm, T2, acc, rfl, hm, gm, hS2, hacc⟩
  have sm := s1.grow gm
  have gown : Gr Hm T2 (upd Hm Dl (.lst acc)) T2 := Gr.own gm.s hm
  have s2 := sm.grow gown
  by_cases hlt : j < xs.length
  · have hx0 : xs[j]? = some xs[j] := List.getElem?_eq_getElem hlt
    have hx1 : (xs.map f)[j]? = some (f xs[j]) := by rw [List.getElem?_map, hx0]; rfl
    have hx2 : xs.take (j + 1) = xs.take j ++ [xs[j]] := by rw [List.take_add_one, hx0]; rfl
    obtain ⟨hgo, hyl⟩ := go j _ _ T2 hS2 hx1 s2.gr.h s2.gr.s
    refine .inr ⟨hgo, fun H' => ∃ Hm T acc, H' = upd Hm Dl (.lst acc) ∧ Hm Dl = none ∧ Gr H1 T1 Hm T ∧ S H' T ∧ Iss K T acc ((lc2 c1 ys c2 hx (xs.take (j + 1))).map g), fun H' q => ⟨xs.length - (j + 1), by omega, rfl, hlt, q⟩, fun v H3 y => ?_⟩
    obtain ⟨T3, g3, iv⟩ := hyl v H3 y
    have hokx := hk _ (List.getElem_mem hlt)
    -- the frame of a turn, in any heap that has grown
    have fr : ∀ {H' T' : Hp}, Sat K B T0 e σ H' T' → Is K T' v (f xs[j]) → Sat K B T0 ((wipeE e vs).set i (.dat (f xs[j]))) ((wipe σ vs).set i (some v)) H' T' := fun s' i' => (s'.wipe vs).set (m := .dat) (fun z => nomatch z) i'
    show wipe ((wipe σ vs).set i (some v)) vs = wipe σ vs ∧ tt ((wipe σ vs).set i (some v)) H3 _
    refine ⟨wipe_same (vs := vs) (σ := σ) (SameBut.trans ⟨wipe_length σ vs, fun j hj => wipe_get hj⟩ (sb_set hv)), ?_⟩
    refine ht _ hokx B T0 _ H3 T3 (fr (s2.grow g3) iv) _ fun H5 T5 g5 => ?_
    cases hb : c1 xs[j] with
    | true =>
      rw [if_pos rfl]
      obtain ⟨hi1, hoky⟩ := hy _ hokx hb
      have hiv5 : Is K T5 v (f xs[j]) := Is.mono g5.t _ iv
      refine hi1 B T0 _ H5 T5 (fr ((s2.grow g3).grow g5) hiv5) _ fun J1 H6 T6 g6 hz1 hJ1 => ?_
      obtain ⟨S1, hS1, st1, go1, stop1⟩ := hJ1
      have gall := (g3.trans g5).trans g6
      obtain ⟨gr6, h6, t6⟩ := gr_rem hm gm.s gall
      have hiv6 : Is K T6 v (f xs[j]) := Is.mono g6.t _ hiv5
      have sub : ∀ n, (((ys xs[j]).take n).filter (c2 xs[j])).length ≤ ((ys xs[j]).filter (c2 xs[j])).length := fun n => by
        have := List.filter_append (p := c2 xs[j]) ((ys xs[j]).take n) ((ys xs[j]).drop n)
        rw [List.take_append_drop] at this
        rw [this, List.length_append]; omega
      have hlen : (lc2 c1 ys c2 hx (xs.take j)).length + ((ys xs[j]).filter (c2 xs[j])).length ≤ sizeLine := by
        have h1 := pre (j + 1)
        rw [hx2, lc2_app, lc2_one, if_pos hb, List.length_append, List.length_map] at h1
        omega
      refine ⟨fun n k H => k = (ys xs[j]).length - n ∧ n ≤ (ys xs[j]).length ∧ ∃ Hm' T' acc', H = upd Hm' Dl (.lst acc') ∧ Hm' Dl = none ∧ Gr Hm T2 Hm' T' ∧ Le T6 T' ∧ S1 H T' ∧ Iss K T' acc' ((lc2 c1 ys c2 hx (xs.take j) ++ (((ys xs[j]).take n).filter (c2 xs[j])).map (hx xs[j])).map g), ⟨(ys xs[j]).length, by simp, Nat.zero_le _, rem H6 Dl, T6, acc, (upd_get h6).symm, rem_at, gr6, Le.refl _, hS1, ?_⟩, ?_⟩
      · rw [List.take_zero, List.filter_nil, List.map_nil, List.append_nil]
        exact Iss.mono gall.t _ hacc
      rintro n k H7 ⟨rfl, hnle, Hm', T7, acc', rfl, hm', gm', l67, hS7, hacc'⟩
      have s7 := (sm.grow gm').grow (Gr.own (o := .lst acc') gm'.s hm')
      have e7 := fr s7 (Is.mono l67 _ hiv6)
      by_cases hn : n < (ys xs[j]).length
      · have hy0 : (ys xs[j])[n]? = some (ys xs[j])[n] := List.getElem?_eq_getElem hn
        have hy1 : ((ys xs[j]).map f1)[n]? = some (f1 (ys xs[j])[n]) := by rw [List.getElem?_map, hy0]; rfl
        have ftk : ((ys xs[j]).take (n + 1)).filter (c2 xs[j]) = ((ys xs[j]).take n).filter (c2 xs[j]) ++ (if c2 xs[j] (ys xs[j])[n] = true then [(ys xs[j])[n]] else []) := by
          rw [List.take_add_one, hy0, List.filter_append]
          congr 1
          show List.filter (c2 xs[j]) [(ys xs[j])[n]] = _
          rw [List.filter_cons, List.filter_nil]
        obtain ⟨hgo1, hyl1⟩ := go1 n _ _ T7 hS7 hy1 s7.gr.h s7.gr.s
        refine .inr ⟨hgo1, fun H' => ∃ Hm' T' acc', H' = upd Hm' Dl (.lst acc') ∧ Hm' Dl = none ∧ Gr Hm T2 Hm' T' ∧ Le T6 T' ∧ S1 H' T' ∧ Iss K T' acc' ((lc2 c1 ys c2 hx (xs.take j) ++ (((ys xs[j]).take (n + 1)).filter (c2 xs[j])).map (hx xs[j])).map g), fun H' q => ⟨(ys xs[j]).length - (n + 1), by omega, rfl, hn, q⟩, fun v1 H8 y1 => ?_⟩
        obtain ⟨T8, g8, iv1⟩ := hyl1 v1 H8 y1
        obtain ⟨e', htg, hcs, hev⟩ := hs xs[j] (ys xs[j])[n] (hoky _ (List.getElem_mem hn))
        refine htg B T0 _ H8 T8 v1 ((e7.grow g8).wipe vs1) iv1 _ fun σ9 s9 b9 => ⟨?_, ?_⟩
        · have : SameBut vs1 ((wipe σ vs).set i (some v)) σ9 := SameBut.trans ⟨wipe_length _ vs1, fun j hj => wipe_get hj⟩ b9
          exact wipe_same this
        refine hcs B T0 σ9 H8 T8 s9 _ fun H10 T10 g10 => ?_
        cases hb2 : c2 xs[j] (ys xs[j])[n] with
        | true =>
          rw [if_pos rfl]
          refine hev hb2 B T0 σ9 H10 T10 (s9.grow g10) _ fun w H11 T11 g11 iw => ?_
          have ga := (g8.trans g10).trans g11
          obtain ⟨gr', h11, t11⟩ := gr_rem hm' gm'.s ga
          refine ⟨acc', h11, ?_, rem H11 Dl, T11, acc' ++ [w], upd_rem.symm, rem_at, gm'.trans gr', l67.trans ga.t, ?_, ?_⟩
          · have h1 := hacc'.length
            rw [List.length_map, List.length_append, List.length_map] at h1
            have h2 := sub (n + 1)
            rw [ftk, hb2, if_pos rfl, List.length_append, List.length_singleton] at h2
            omega
          · have gg : Gr (rem H11 Dl) T11 (upd (rem H11 Dl) Dl (.lst (acc' ++ [w]))) T11 := Gr.own gr'.s rem_at
            rw [upd_rem] at gg
            exact st1 _ _ _ _ hS7 ga.t (((sm.grow gm').grow gr').gr.h.trans gg.h) gg.s
          · have e9 : (lc2 c1 ys c2 hx (xs.take j) ++ (((ys xs[j]).take (n + 1)).filter (c2 xs[j])).map (hx xs[j])).map g = (lc2 c1 ys c2 hx (xs.take j) ++ (((ys xs[j]).take n).filter (c2 xs[j])).map (hx xs[j])).map g ++ [g (hx xs[j] (ys xs[j])[n])] := by
              rw [ftk, hb2, if_pos rfl, List.map_append (l₂ := [(ys xs[j])[n]]), ← List.append_assoc, List.map_append]; rfl
            rw [e9]
            exact (Iss.mono ga.t _ hacc').append (.cons iw .nil)
        | false =>
          rw [if_neg Bool.false_ne_true]
          have ga := g8.trans g10
          obtain ⟨gr', h11, t11⟩ := gr_rem hm' gm'.s ga
          refine ⟨rem H10 Dl, T10, acc', (upd_get h11).symm, rem_at, gm'.trans gr', l67.trans ga.t, ?_, ?_⟩
          · have gg : Gr (rem H10 Dl) T10 (upd (rem H10 Dl) Dl (.lst acc')) T10 := Gr.own gr'.s rem_at
            rw [upd_get h11] at gg
            exact st1 _ _ _ _ hS7 ga.t (((sm.grow gm').grow gr').gr.h.trans gg.h) gg.s
          · rw [ftk, hb2, if_neg Bool.false_ne_true, List.append_nil]
            exact Iss.mono ga.t _ hacc'
      · have e0 : n = (ys xs[j]).length := by omega
        subst e0
        refine .inl ⟨stop1 _ _ T7 hS7 s7.gr.h s7.gr.s (by rw [List.length_map]; exact Nat.le_refl _), Hm', T7, acc', rfl, hm', gm.trans gm', ?_, ?_⟩
        · exact st _ _ _ _ hS2 gm'.t s7.gr.h s7.gr.s
        · rw [List.take_length] at hacc'
          rw [hx2, lc2_app, lc2_one, if_pos hb]
          exact hacc'
    | false =>
      rw [if_neg Bool.false_ne_true]
      have gall := g3.trans g5
      obtain ⟨gr', h6, t6⟩ := gr_rem hm gm.s gall
      refine ⟨rem H5 Dl, T5, acc, (upd_get h6).symm, rem_at, gm.trans gr', ?_, ?_⟩
      · have gg : Gr (rem H5 Dl) T5 (upd (rem H5 Dl) Dl (.lst acc)) T5 := Gr.own gr'.s rem_at
        rw [upd_get h6] at gg
        exact st _ _ _ _ hS2 gall.t ((sm.grow gr').gr.h.trans gg.h) gg.s
      · rw [hx2, lc2_app, lc2_one, if_neg (by rw [hb]; exact Bool.false_ne_true), List.append_nil]
        exact Iss.mono gall.t _ hacc
  · have e0 : j = xs.length := by omega
    subst e0
    refine .inl ⟨stop _ _ T2 hS2 s2.gr.h s2.gr.s (by rw [List.length_map]; exact Nat.le_refl _), ?_⟩
    rw [List.take_length] at hacc
    have t2 : T2 Dl = none := gm.s.back hm
    exact q Dl _ T2 (gr1.trans (gm.trans gown)) (gr1.h.back hD) t2 ⟨acc, upd_same, hacc, by rw [List.length_map]; exact hz⟩
end
end Fh

set_option Elab.async false
set_option linter.all false
set_option maxRecDepth 100000
set_option maxHeartbeats 4000000
/-! FhG: more rules that the printed walks take -/
namespace Fh
open PySem PySem.Spec PyProof.Rows L2
theorem szr {n : Nat} (h : Nat.ble n 100000 = true) : n ≤ sizeLine := Nat.le_trans (Nat.le_of_ble_eq_true h) (by decide)
def unO {α : Type} [Inhabited α] (o : Option α) : α := o.getD default
section
variable {K : PySem.W.Frag} {E : WX} {e : En} {d : D} {te ta tb : TE} {m m1 m2 : Md} {α β : Type} {f : α → D} {xs : List α} {i j k : Int} {u : TS} {O : Type} {Pf : O → Po} {b c : Bool}
theorem ev_unO [Inhabited α] {o : Option α} (h : Ev K m te e (eO f o)) (hs : o.isSome = true) : Ev K m te e (f (unO o)) := by
  cases o with
  | none => cases hs
  | some a => exact h
theorem ez_r1 (ha : Ev K .now ta e (.int k)) (h : -(2 ^ 62) ≤ k ∧ k ≤ 16777216) : EvIz K .dat (iRng1 (tCons ta tNil)) e ((rangeI 0 k).map eI) :=
  (ei_range1 (ea_cons ha ea_nil) ⟨by omega, h.1⟩).z (by rw [List.length_map, rangeI_len, sizeLine_eq]; omega)
theorem ez_r2 (ha : Ev K .now ta e (.int i)) (hb : Ev K .now tb e (.int j)) (h : -8388608 ≤ i ∧ i ≤ 8388608 ∧ -8388608 ≤ j ∧ j ≤ 8388608) : EvIz K .dat (iRng2 (tCons ta (tCons tb tNil))) e ((rangeI i j).map eI) :=
  (ei_range2 (ea_cons ha (ea_cons hb ea_nil)) ⟨by omega, by omega, by omega, by omega⟩).z (by rw [List.length_map, rangeI_len, sizeLine_eq]; omega)
section
variable [DecidableEq α] {a : α} {n : Nat}
theorem ev_inLB (hd : Dt f n) (ha : Ev K .now ta e (f a)) (hb : Ev K .now tb e (eL f xs)) (hn : n ≤ 100 := by decide) : Ev K m (tOp (rInP K false) ta tb) e (.bl (memB a xs)) := ev_inL hd ha hb hn
theorem ev_inTB (hd : Dt f n) (ha : Ev K .now ta e (f a)) (hb : Ev K .now tb e (eT f xs)) (hn : n ≤ 100 := by decide) : Ev K m (tOp (rInP K false) ta tb) e (.bl (memB a xs)) := ev_inT' hd ha hb hn
theorem ev_niLB (hd : Dt f n) (ha : Ev K .now ta e (f a)) (hb : Ev K .now tb e (eL f xs)) (hn : n ≤ 100 := by decide) : Ev K m (tOp (rInP K true) ta tb) e (.bl (!memB a xs)) := ev_niL hd ha hb hn
theorem ev_niTB (hd : Dt f n) (ha : Ev K .now ta e (f a)) (hb : Ev K .now tb e (eT f xs)) (hn : n ≤ 100 := by decide) : Ev K m (tOp (rInP K true) ta tb) e (.bl (!memB a xs)) := ev_niT hd ha hb hn
theorem ev_indexLB (hd : Dt f n) (ha : Ev K .now ta e (eL f xs)) (hb : Ev K .now tb e (f a)) (hk : memB a xs = true) (hn : n ≤ 100 := by decide) : Ev K m (tBM K "list" (rIndexP K) ta (tCons tb tNil)) e (.int (idxB xs a)) := ev_indexL hd ha hb (memB_iff.mp hk) hn
end
/-- a tuple's parts get names -/
theorem r_tgt {vs : List Nat} {g : TG} {enc : α → D} {v : α} {okr : α → Prop} {rest : α → O} (hv : Ev K .dat te e (enc v)) (hk : letO v okr) (h : ∀ x, okr x → ∃ e', Tg K vs .dat g (enc x) e e' ∧ Run K E u e' (Pf (rest x))) : Run K E (tSeq (tAsg te g) u) e (Pf (letO v rest)) := by
  obtain ⟨e', htg, hrun⟩ := h v hk
  refine run_seqM (fun e1 => e1 = e') ?_ fun e1 h1 => by rw [h1]; exact hrun
  intro B T0 σ H T D s ft
  exact hv B T0 σ H T s _ fun w H1 T1 g1 i1 => htg B T0 σ H1 T1 w (s.grow g1) i1 _ fun σ' s' _ => ft.nx _ _ _ T1 rfl s'
end
section
variable {K : PySem.W.Frag} {e : En} {ds es2 : List D} {m : Md} {α : Type} {ms ms1 ms2 : List Md} {args : α → List D} {pre : α → Prop} {out : α → D} {outO : α → OD} {ta tk : TA}
/-- defaults among the values, by gV -/
theorem ev_callG {n l : Nat} {gV : List V → List V → List V} (a : α) (hp : pre a) (h : EvA K ms1 ta e ds) (hk : EvA K ms2 tk e es2) (hn : ms1.length = n) (hl : ms2.length = l)
    (hg : ∀ (vs zs : List V) (B H T : Hp), MIss K B H T ms1 vs ds → MIss K B H T ms2 zs es2 → MIss K B H T ms (gV vs zs) (args a)) : Ev K m (tCallN n l (SpP K ms args pre out) gV E0 ta tk) e (out a) := Ev.up fun B T0 σ H T s Q q => h B T0 σ H T s _ fun vs H1 T1 g i => hk B T0 σ H1 T1 (s.grow g) _ fun ws H2 T2 g2 i2 => by
  refine ⟨i.len.1.trans hn, i2.len.1.trans hl, T2, a, g2.s, hp, ?_, fun d v H3 T3 hd g3 i3 => q v H3 T3 ((g.trans g2).trans g3) (hd ▸ i3)⟩
  exact (hg vs ws B H2 T2 (i.mono g2.h g2.t) i2).rebase (((s.grow g).grow g2).gr.h) g2.s
theorem ev_callGO {n l : Nat} {gV : List V → List V → List V} (a : α) (hp : pre a) (h : EvA K ms1 ta e ds) (hk : EvA K ms2 tk e es2) (hn : ms1.length = n) (hl : ms2.length = l)
    (hg : ∀ (vs zs : List V) (B H T : Hp), MIss K B H T ms1 vs ds → MIss K B H T ms2 zs es2 → MIss K B H T ms (gV vs zs) (args a)) : EvO K (tCallN n l (SpO K ms args pre outO) gV E0 ta tk) e (outO a) := fun B T0 σ H T s Q q => h B T0 σ H T s _ fun vs H1 T1 g i => hk B T0 σ H1 T1 (s.grow g) _ fun ws H2 T2 g2 i2 => by
  have g12 := g.trans g2
  refine ⟨i.len.1.trans hn, i2.len.1.trans hl, T2, a, g2.s, hp, ?_, fun p H3 T3 g3 h1 h2 h3 => q p H3 T3 (g12.trans g3) (g12.h.back h1) h2 h3⟩
  exact (hg vs ws B H2 T2 (i.mono g2.h g2.t) i2).rebase (((s.grow g).grow g2).gr.h) g2.s
end
section
variable {P : Program} {w : World} {K : PySem.W.Frag} {mg : Str → Option Value} {base : Heap} {x : Str} {st : Stmt} {N ps ks : List Str} {k n : Nat} {α : Type} {ms : List Md} {args : α → List D} {pre : α → Prop} {dvs : List V} {kws : List (Str × V)}
/-- a def with defaults: a call's shape -/
theorem dfK_of {out : α → D} {gV : List V → List V → List V} (F : Dd K mg x st dvs kws) (S : FnScope N ps (defScope st)) (hn : ms.length = ps.length) (hN : ms.length ≤ N.length)
    (hb : ∀ (f : Addr) (fd : FuncData), FnP K x st dvs kws f fd → ∃ g, KBn K fd ps n ks g gV) (h : BodyR P w K mg base x st N k ms args pre fun a d => d = out a) : DfK P w K mg base x (k + 1) n ks gV (SpP K ms args pre out) := by
  obtain ⟨f, fd, F, hm⟩ := F
  obtain ⟨g, hk⟩ := hb f fd F
  exact ⟨CX0, f, fd, ps, g, fn_ok F S hn hN h, hm, F.kp, hk, fun X _ _ => pass0⟩
theorem dfK_ofO {out : α → OD} {gV : List V → List V → List V} (F : Dd K mg x st dvs kws) (S : FnScope N ps (defScope st)) (hn : ms.length = ps.length) (hN : ms.length ≤ N.length)
    (hb' : ∀ (f : Addr) (fd : FuncData), FnP K x st dvs kws f fd → ∃ g, KBn K fd ps n ks g gV) (hb : BodyO P w K mg base x st N k ms args pre out) : DfK P w K mg base x (k + 1) n ks gV (SpO K ms args pre out) := by
  obtain ⟨f, fd, F, hm⟩ := F
  obtain ⟨g, hk⟩ := hb' f fd F
  refine ⟨CX0, f, fd, ps, g, F.ok S (fun vs H Q E h => ?_) (fun cdv A outer s H vs Q E hr h => ?_), hm, F.kp, hk, fun X _ _ => pass0⟩
  · obtain ⟨T, a, _, _, hm, _⟩ := h
    rw [hm.len.1, hn]
  · obtain ⟨t, ht, hrun⟩ := hb f cdv A outer s H E hr
    obtain ⟨T, a, hT, hp, hm, hq⟩ := h
    refine ⟨t, ht.nox, hrun a hp H T _ H T _ (sat_start hT hm hN) ⟨fun _ _ _ _ p => p.elim, fun _ _ _ _ p => p.elim, fun _ _ _ _ p => p.elim, fun _ _ _ _ p => p.elim, fun _ _ _ _ _ _ _ p => p.elim, fun o b H' T' p g hb ht ho => ?_⟩⟩
    subst p
    exact hq b H' T' g hb ht ho
end
end Fh

set_option Elab.async false
set_option linter.all false
set_option maxRecDepth 100000
set_option maxHeartbeats 4000000
/-! FhTi: xs.index(x) of a list or a tuple -/
namespace L2
open PySem PySem.Spec PyProof.Rows
/-- the value is a tuple without a dict -/
def tyT (K : PySem.W.Frag) (x : V) (H : Hp) : Prop := ∃ p xs, x = .ref p ∧ Fh.SqN K H p xs
theorem tyT_is {X : Cx} {pins : List (Addr × Obj)} {σ : St} {H : Hp} {s : Shared} {x : V} {v : Value} (I : Inv X pins σ H s) (r : RelV x v) (ty : tyT X.K x H) :
    s.TypeIs v "tuple" ∧ ∀ a, v = .ref a → ∃ ob, s.heap.get? a = some ob ∧ ob.dict = none := by
  obtain ⟨p, xs, rfl, hs⟩ := ty
  cases r
  obtain ⟨its, _, ⟨o, ho, hc, _⟩, _⟩ := I.tuple hs.t
  refine ⟨⟨o, ho, hc⟩, fun a e => ?_⟩
  cases e
  rcases hs.n with ⟨o2, hk, hd⟩ | ⟨o2, u, hh, hd⟩
  · exact ⟨o2, I.kIn p o2 hk, hd⟩
  · exact ⟨o2, (I.hok p _ hh).1, hd⟩
/-- a method of a list or a tuple -/
def tEi (K : PySem.W.Frag) (r q : V → List V → Hp → VK → Prop) (to : TE) (t : TA) : TE := fun σ H Q => to σ H fun x H1 => (tyV K "list" x H1 ∧ t σ H1 fun xs H2 => r x xs H2 Q) ∨ (tyT K x H1 ∧ t σ H1 fun xs H2 => q x xs H2 Q)
section
variable {X : Cx} {o e : Expr} {es : List Expr} {to : TE} {t : TA} {name : Str} {apos cpos : Pos} {id jd : String} {r q : V → List V → Hp → VK → Prop}
theorem pe_ei (slot : Slot "list" name id) (hty : typeOf (.builtin id) = pure (.type "method_descriptor")) (hm : MtR X id r)
    (slot' : Slot "tuple" name jd) (hty' : typeOf (.builtin jd) = pure (.type "method_descriptor")) (hm' : MtR X jd q) (ho : PE X o to) (ha : PA X (e :: es) t)
    (hbase : attributeBase o name X.env (eval o X.env) = eval o X.env := by rfl)
    (hfew : ((backTo cpos (starEach (e :: es) X.env)).all (fun x => !x.1) && (backToKw cpos (keywordEach [] X.env)).all (fun x => x.1.isSome)
      && decide ((e :: es).length + ([] : List Keyword).length + (if ([] : List Keyword).isEmpty then 0 else 1) < 30)) = true := by rfl)
    (hline : (apos.endLine == cpos.line) = true := by rfl) (hs : starEach (e :: es) X.env = (false, eval e X.env) :: starEach es X.env := by rfl) (hplain : (backTo cpos (starEach es X.env)).any (·.1) = false := by rfl) :
    PE X (.Call (.Attribute o name apos) (e :: es) [] cpos) (tEi X.K r q to t) := by
  refine ⟨fun pins s σ H Q I h => ?_⟩
  refine wpAny_Call_method_late hbase hfew hline rfl (thn (ho.run pins s σ H _ I h) fun v s1 ⟨x, H1, I1, r1, q1⟩ => ?_)
  rcases q1 with ⟨ty, q1⟩ | ⟨ty, q1⟩
  · obtain ⟨h1, h2⟩ := tyV_is I1 r1 ty
    refine ⟨"list", id, PySem.F.plainAttrs_list, slot, hty, h1, h2, ?_⟩
    have hA := ha.run cpos pins s1 σ H1 _ I1 q1
    rw [hs] at hA ⊢
    refine Calls.callWith_builtin (by show (false || (backTo cpos (starEach es X.env)).any (·.1)) = false; rw [hplain] <;> rfl) (Calls.evalArgs_plain ?_)
    exact thn hA fun us s2 ⟨vs, H2, I2, r2, q2⟩ => hm pins s2 σ H2 x vs v us Q I2 r1 r2 q2
  · obtain ⟨h1, h2⟩ := tyT_is I1 r1 ty
    refine ⟨"tuple", jd, PySem.F.plainAttrs_tuple, slot', hty', h1, h2, ?_⟩
    have hA := ha.run cpos pins s1 σ H1 _ I1 q1
    rw [hs] at hA ⊢
    refine Calls.callWith_builtin (by show (false || (backTo cpos (starEach es X.env)).any (·.1)) = false; rw [hplain] <;> rfl) (Calls.evalArgs_plain ?_)
    exact thn hA fun us s2 ⟨vs, H2, I2, r2, q2⟩ => hm' pins s2 σ H2 x vs v us Q I2 r1 r2 q2
end
end L2
namespace Fh
open PySem PySem.Spec PyProof.Rows L2
def rIndexT (K : PySem.W.Frag) : V → List V → Hp → VK → Prop := fun x args H Q => ∃ (a : Addr) (y : V) (α : Type) (i1 : DecidableEq α) (i2 : @PySem.W.Datum α i1) (z : α) (zs : List α), x = .ref a ∧ args = [y] ∧ Dp K H y (i2.toD z) ∧ Dp K H (.ref a) (.tuple (zs.map i2.toD)) ∧ i2.depth ≤ 100 ∧ z ∈ zs ∧ Q (.int (zs.idxOf z : Nat)) H
theorem mt_indexT {X : Cx} {k : Nat} (hr : Room k X.A) : MtR X "tuple.index" (rIndexT X.K) := by
  intro pins s σ H x xs v us Q I rx rxs h
  obtain ⟨a, y, α, i1, i2, z, zs, rfl, rfl, hy, hl, dp, hz, q⟩ := h
  cases rx
  cases rxs with
  | cons ry rt =>
    rename_i uy ut
    cases rt
    obtain ⟨bs, r1⟩ := Dp.reads I _ y uy hy ry
    cases hl with
    | tup hs ha =>
      obtain ⟨its, rv, p, hlen⟩ := I.tuple hs
      obtain ⟨as, h4⟩ := Dp.readsAll I _ _ its ha rv
      exact PySem.W.index_tuple_datum (vs := its) (show s.heap.IsTuple a its.toArray from p) ⟨as, h4⟩ ⟨bs, r1⟩ (by have := hr.un; omega) hz ⟨.int _, H, I.tok _, ⟨_, rfl⟩, q⟩
abbrev tIdx (K : PySem.W.Frag) (ta tb : TE) : TE := tEi K (rIndexP K) (rIndexT K) ta (tCons tb tNil)
section
variable {K : PySem.W.Frag} {e : En} {ta tb : TE} {m : Md} {α : Type} [DecidableEq α] {f : α → D} {xs : List α} {a : α} {n : Nat}
theorem ev_idxL (hd : Dt f n) (ha : Ev K .now ta e (eL f xs)) (hb : Ev K .now tb e (f a)) (hk : memB a xs = true) (hn : n ≤ 100 := by decide) : Ev K m (tIdx K ta tb) e (.int (idxB xs a)) := Ev.up fun B T0 σ H T s Q q =>
  ha B T0 σ H T s _ fun v H1 T1 g1 i1 => by
    have i2 := i1.now (s.gr.h.trans g1.h) g1.s
    cases id i2 with
    | @lst p vs _ hp hv hz =>
      refine .inl ⟨.inl ⟨rfl, vs, SqL.of hp⟩, hb B T0 σ H1 T1 (s.grow g1) _ fun w H2 T2 g2 i3 => ?_⟩
      have i4 := i3.now ((s.grow g1).gr.h.trans g2.h) g2.s
      refine ⟨p, w, α, inferInstance, hd.datum, a, xs, rfl, rfl, plD_dp _ (hd.pl a) i4, ?_, hn, memB_iff.mp hk, q _ H2 T2 (g1.trans g2) (.int _)⟩
      have := plD_dp (eL f xs) (hd.all xs) (Is.mono g2.h _ i2)
      rw [show toPy (eL f xs) = .list (xs.map fun a => toPy (f a)) from congrArg PyData.list (toPys_map f xs)] at this
      exact this
theorem ev_idxT (hd : Dt f n) (ha : Ev K .now ta e (eT f xs)) (hb : Ev K .now tb e (f a)) (hk : memB a xs = true) (hn : n ≤ 100 := by decide) : Ev K m (tIdx K ta tb) e (.int (idxB xs a)) := Ev.up fun B T0 σ H T s Q q =>
  ha B T0 σ H T s _ fun v H1 T1 g1 i1 => by
    have i2 := i1.now (s.gr.h.trans g1.h) g1.s
    cases id i2 with
    | @tup p vs _ hp hv hz =>
      refine .inr ⟨⟨p, vs, rfl, hp⟩, hb B T0 σ H1 T1 (s.grow g1) _ fun w H2 T2 g2 i3 => ?_⟩
      have i4 := i3.now ((s.grow g1).gr.h.trans g2.h) g2.s
      refine ⟨p, w, α, inferInstance, hd.datum, a, xs, rfl, rfl, plD_dp _ (hd.pl a) i4, ?_, hn, memB_iff.mp hk, q _ H2 T2 (g1.trans g2) (.int _)⟩
      have := plD_dp (eT f xs) (hd.all xs) (Is.mono g2.h _ i2)
      rw [show toPy (eT f xs) = .tuple (xs.map fun a => toPy (f a)) from congrArg PyData.tuple (toPys_map f xs)] at this
      exact this
end
/-! tuples of four, of five -/
theorem Dt.e4 {α β γ δ : Type} [DecidableEq α] [DecidableEq β] [DecidableEq γ] [DecidableEq δ] {f : α → D} {g : β → D} {h : γ → D} {i : δ → D} {n1 n2 n3 n4 : Nat} (hf : Dt f n1) (hg : Dt g n2) (hh : Dt h n3) (hi : Dt i n4) : Dt (e4 f g h i) (n1 + n2 + n3 + n4 + 1) := ⟨fun a => (and_tt (hf.pl a.1) (and_tt (hg.pl a.2.1) (and_tt (hh.pl a.2.2.1) (and_tt (hi.pl a.2.2.2) rfl)))), fun a => Nat.succ_le_succ (Nat.max_le.mpr ⟨Nat.le_trans (hf.dep a.1) (by omega), Nat.max_le.mpr ⟨Nat.le_trans (hg.dep a.2.1) (by omega), Nat.max_le.mpr ⟨Nat.le_trans (hh.dep a.2.2.1) (by omega), Nat.max_le.mpr ⟨Nat.le_trans (hi.dep a.2.2.2) (by omega), Nat.zero_le _⟩⟩⟩⟩), fun a b => by
  show (PyData.eqv (toPy (f a.1)) (toPy (f b.1)) && (PyData.eqv (toPy (g a.2.1)) (toPy (g b.2.1)) && (PyData.eqv (toPy (h a.2.2.1)) (toPy (h b.2.2.1)) && (PyData.eqv (toPy (i a.2.2.2)) (toPy (i b.2.2.2)) && true)))) = _
  rw [hf.eqv, hg.eqv, hh.eqv, hi.eqv, Bool.and_true, ← Bool.decide_and, ← Bool.decide_and, ← Bool.decide_and]
  exact decide_eq_decide.mpr ⟨fun q => Prod.ext q.1 (Prod.ext q.2.1 (Prod.ext q.2.2.1 q.2.2.2)), fun q => by rw [q]; exact ⟨rfl, rfl, rfl, rfl⟩⟩⟩
theorem NoN.e4 {α β γ δ : Type} {f : α → D} {g : β → D} {h : γ → D} {i : δ → D} : NoN (e4 f g h i) := fun a => ⟨rfl, rfl⟩
theorem Im.e4 {α β γ δ : Type} {f : α → D} {g : β → D} {h : γ → D} {i : δ → D} (hf : Im f) (hg : Im g) (hh : Im h) (hi : Im i) : Im (e4 f g h i) := fun a => (and_tt (hf a.1) (and_tt (hg a.2.1) (and_tt (hh a.2.2.1) (and_tt (hi a.2.2.2) rfl))))
theorem Sh.e4 {α β γ δ : Type} {f : α → D} {g : β → D} {h : γ → D} {i : δ → D} {n : Nat} (hf : Sh n f) (hg : Sh n g) (hh : Sh n h) (hi : Sh n i) : Sh (n + 1) (e4 f g h i) := fun a => (and_tt (hf a.1) (and_tt (hg a.2.1) (and_tt (hh a.2.2.1) (and_tt (hi a.2.2.2) rfl))))
theorem So.e4 {α β γ δ : Type} {f : α → D} {g : β → D} {h : γ → D} {i : δ → D} : So (e4 f g h i) := .inl fun _ => ⟨_, _, rfl⟩
theorem Dt.e5 {α β γ δ ε : Type} [DecidableEq α] [DecidableEq β] [DecidableEq γ] [DecidableEq δ] [DecidableEq ε] {f : α → D} {g : β → D} {h : γ → D} {i : δ → D} {j : ε → D} {n1 n2 n3 n4 n5 : Nat} (hf : Dt f n1) (hg : Dt g n2) (hh : Dt h n3) (hi : Dt i n4) (hj : Dt j n5) : Dt (e5 f g h i j) (n1 + n2 + n3 + n4 + n5 + 1) := ⟨fun a => (and_tt (hf.pl a.1) (and_tt (hg.pl a.2.1) (and_tt (hh.pl a.2.2.1) (and_tt (hi.pl a.2.2.2.1) (and_tt (hj.pl a.2.2.2.2) rfl))))), fun a => Nat.succ_le_succ (Nat.max_le.mpr ⟨Nat.le_trans (hf.dep a.1) (by omega), Nat.max_le.mpr ⟨Nat.le_trans (hg.dep a.2.1) (by omega), Nat.max_le.mpr ⟨Nat.le_trans (hh.dep a.2.2.1) (by omega), Nat.max_le.mpr ⟨Nat.le_trans (hi.dep a.2.2.2.1) (by omega), Nat.max_le.mpr ⟨Nat.le_trans (hj.dep a.2.2.2.2) (by omega), Nat.zero_le _⟩⟩⟩⟩⟩), fun a b => by
  show (PyData.eqv (toPy (f a.1)) (toPy (f b.1)) && (PyData.eqv (toPy (g a.2.1)) (toPy (g b.2.1)) && (PyData.eqv (toPy (h a.2.2.1)) (toPy (h b.2.2.1)) && (PyData.eqv (toPy (i a.2.2.2.1)) (toPy (i b.2.2.2.1)) && (PyData.eqv (toPy (j a.2.2.2.2)) (toPy (j b.2.2.2.2)) && true))))) = _
  rw [hf.eqv, hg.eqv, hh.eqv, hi.eqv, hj.eqv, Bool.and_true, ← Bool.decide_and, ← Bool.decide_and, ← Bool.decide_and, ← Bool.decide_and]
  exact decide_eq_decide.mpr ⟨fun q => Prod.ext q.1 (Prod.ext q.2.1 (Prod.ext q.2.2.1 (Prod.ext q.2.2.2.1 q.2.2.2.2))), fun q => by rw [q]; exact ⟨rfl, rfl, rfl, rfl, rfl⟩⟩⟩
theorem NoN.e5 {α β γ δ ε : Type} {f : α → D} {g : β → D} {h : γ → D} {i : δ → D} {j : ε → D} : NoN (e5 f g h i j) := fun a => ⟨rfl, rfl⟩
theorem Im.e5 {α β γ δ ε : Type} {f : α → D} {g : β → D} {h : γ → D} {i : δ → D} {j : ε → D} (hf : Im f) (hg : Im g) (hh : Im h) (hi : Im i) (hj : Im j) : Im (e5 f g h i j) := fun a => (and_tt (hf a.1) (and_tt (hg a.2.1) (and_tt (hh a.2.2.1) (and_tt (hi a.2.2.2.1) (and_tt (hj a.2.2.2.2) rfl)))))
theorem Sh.e5 {α β γ δ ε : Type} {f : α → D} {g : β → D} {h : γ → D} {i : δ → D} {j : ε → D} {n : Nat} (hf : Sh n f) (hg : Sh n g) (hh : Sh n h) (hi : Sh n i) (hj : Sh n j) : Sh (n + 1) (e5 f g h i j) := fun a => (and_tt (hf a.1) (and_tt (hg a.2.1) (and_tt (hh a.2.2.1) (and_tt (hi a.2.2.2.1) (and_tt (hj a.2.2.2.2) rfl)))))
theorem So.e5 {α β γ δ ε : Type} {f : α → D} {g : β → D} {h : γ → D} {i : δ → D} {j : ε → D} : So (e5 f g h i j) := .inl fun _ => ⟨_, _, rfl⟩
end Fh

set_option Elab.async false
set_option linter.all false
set_option maxRecDepth 100000
set_option maxHeartbeats 4000000
/-! FhEx: typed mirrors of defs that may raise, of raise and of try -/
namespace Fh
open PySem PySem.Spec PyProof.Rows L2

/-! ### values -/
instance : Inhabited D := ⟨.non⟩
inductive Rz (X α : Type) where
  | ok (a : α) | ex (x : X)
instance {X α : Type} [Inhabited α] : Inhabited (Rz X α) := ⟨.ok default⟩
def Rz.isOk {X α : Type} : Rz X α → Bool
  | .ok _ => true
  | .ex _ => false
def Rz.val {X α : Type} [Inhabited α] : Rz X α → α
  | .ok a => a
  | .ex _ => default
theorem Rz.ok_val {X α : Type} [Inhabited α] {o : Rz X α} (h : o.isOk = true) : o = .ok o.val := by
  cases o with
  | ok a => rfl
  | ex x => cases h
def bindR {X α O : Type} (o : Rz X α) (k : α → O) (kx : X → O) : O := match o with
  | .ok a => k a
  | .ex x => kx x
def okR {X α : Type} (o : Rz X α) (ok : α → Prop) : Prop := match o with
  | .ok a => ok a
  | .ex _ => True
/-- .. where nothing may be raised -/
def okRN {X α : Type} (o : Rz X α) (ok : α → Prop) : Prop := match o with
  | .ok a => ok a
  | .ex _ => False
/-- how the body of a try ends -/
inductive Tr (S R X : Type) where
  | nx (s : S) | rt (r : R) | ex (x : X)
def tryF {S R X : Type} (o : Tr S R X) (hd : X → Fl S R) : Fl S R := match o with
  | .nx s => .nx s
  | .rt r => .rt r
  | .ex x => hd x
def okX {S R X : Type} (o : Tr S R X) (ok : X → Prop) : Prop := match o with
  | .ex x => ok x
  | _ => True
def okE {S R : Type} (o : Fl S R) (ok : S → Prop) : Prop := match o with
  | .nx s => ok s
  | .bk s => ok s
  | .rt _ => True
theorem okE_T {S R : Type} {o : Fl S R} : okE o fun _ => True := by
  cases o <;> trivial
theorem okR_T {X α : Type} {o : Rz X α} {ok : α → Prop} (h : ∀ a, ok a) : okR o ok := by
  cases o with
  | ok a => exact h a
  | ex x => trivial

section
variable (K : PySem.W.Frag) {X R S α : Type} (cC : X → Addr) (cF : X → Option (List (Str × D)))
abbrev PoZ (enc : R → D) (o : Rz X R) : Po := { nx := fun _ => ∃ r, o = .ok r ∧ D.non = enc r, rt := fun d => ∃ r, o = .ok r ∧ d = enc r, ex := fun _ C f => ∃ x, o = .ex x ∧ C = cC x ∧ f = cF x }
abbrev PoZO (enc : R → OD) (o : Rz X R) : Po := { nx := fun _ => False, rt := fun _ => False, ro := fun d => ∃ r, o = .ok r ∧ d = enc r, ex := fun _ C f => ∃ x, o = .ex x ∧ C = cC x ∧ f = cF x }
abbrev PoZI (a0 C : Addr) (enc : R → List (Str × D)) (o : Rz X R) : Po := { nx := fun e => ∃ r, o = .ok r ∧ e[0]? = some (.own (oSelf K a0 C (enc r))), rt := fun _ => False, ex := fun _ C f => ∃ x, o = .ex x ∧ C = cC x ∧ f = cF x }
/-- a try's body -/
abbrev PoT (env : S → En) (dead : List Nat) (Pk : R → Po) (envx : En) (deadx : List Nat) (o : Tr S R X) : Po := { nx := fun e => ∃ s, o = .nx s ∧ wipeE e dead = env s, rt := fun d => ∃ r, o = .rt r ∧ (Pk r).rt d, ro := fun d => ∃ r, o = .rt r ∧ (Pk r).ro d, ex := fun e C f => ∃ x, o = .ex x ∧ wipeE e deadx = envx ∧ C = cC x ∧ f = cF x }
/-- a handler -/
abbrev PoH (env : S → En) (dead : List Nat) (Pk : R → Po) (o : Fl S R) : Po := { nx := fun e => ∃ s, o = .nx s ∧ wipeE e dead = env s, rt := fun d => ∃ r, o = .rt r ∧ (Pk r).rt d, ro := fun d => ∃ r, o = .rt r ∧ (Pk r).ro d }
end

/-! ### an expression that does not come to its end -/
def Dv (K : PySem.W.Frag) (W : WX) (te : TE) (e : En) (C : Addr) (o : Option (List (Str × D))) : Prop := ∀ (B T0 : Hp) (σ : L2.St) (H T : Hp), Sat K B T0 e σ H T → ∀ Q : VK, (∀ od H' T', Gr H T H' T' → XIs K T' od o → W (.ref C) od σ H') → te σ H Q
def DvA (K : PySem.W.Frag) (W : WX) (ta : TA) (e : En) (C : Addr) (o : Option (List (Str × D))) : Prop := ∀ (B T0 : Hp) (σ : L2.St) (H T : Hp), Sat K B T0 e σ H T → ∀ Q : List V → Hp → Prop, (∀ od H' T', Gr H T H' T' → XIs K T' od o → W (.ref C) od σ H') → ta σ H Q
def DvT (K : PySem.W.Frag) (W : WX) (tt : TT) (e : En) (C : Addr) (o : Option (List (Str × D))) : Prop := ∀ (B T0 : Hp) (σ : L2.St) (H T : Hp), Sat K B T0 e σ H T → ∀ Q : Bool → Hp → Prop, (∀ od H' T', Gr H T H' T' → XIs K T' od o → W (.ref C) od σ H') → tt σ H Q
section
variable {K : PySem.W.Frag} {W : WX} {e : En} {C C' : Addr} {o : Option (List (Str × D))} {te ta tb : TE} {tA tB' : TA} {tt tu : TT} {m : Md} {d : D} {r r' : R2} {b : Bool}
theorem dv_op1 (h : Dv K W ta e C o) : Dv K W (tOp r ta tb) e C o := fun B T0 σ H T s Q q => h B T0 σ H T s _ q
theorem dv_op2 (h1 : Ev K m ta e d) (h : Dv K W tb e C o) : Dv K W (tOp r ta tb) e C o := fun B T0 σ H T s Q q => h1 B T0 σ H T s _ fun v H1 T1 g i => h B T0 σ H1 T1 (s.grow g) _ fun od H2 T2 g2 x => q od H2 T2 (g.trans g2) x
theorem dva_1 (h : Dv K W te e C o) : DvA K W (tCons te tA) e C o := fun B T0 σ H T s Q q => h B T0 σ H T s _ q
theorem dva_2 (h1 : Ev K m te e d) (h : DvA K W tA e C o) : DvA K W (tCons te tA) e C o := fun B T0 σ H T s Q q => h1 B T0 σ H T s _ fun v H1 T1 g i => h B T0 σ H1 T1 (s.grow g) _ fun od H2 T2 g2 x => q od H2 T2 (g.trans g2) x
theorem dv_tupN (h : DvA K W tA e C o) : Dv K W (tTupN tA) e C o := fun B T0 σ H T s Q q => h B T0 σ H T s _ q
theorem dv_lst (h : DvA K W tA e C o) : Dv K W (tLst tA) e C o := fun B T0 σ H T s Q q => h B T0 σ H T s _ q
theorem dv_cb {rr : List V → Hp → VK → Prop} (h : DvA K W tA e C o) : Dv K W (tCB rr tA) e C o := fun B T0 σ H T s Q q => h B T0 σ H T s _ q
theorem dv_callA {sp : Sp} {dvs : List V} {E : XK} (h : DvA K W tA e C o) : Dv K W (tCall sp dvs E tA) e C o := fun B T0 σ H T s Q q => h B T0 σ H T s _ q
theorem dv_callSA {sp : Sp} {E : L2.St → XK} (h : DvA K W tA e C o) : Dv K W (tCallS sp E tA) e C o := fun B T0 σ H T s Q q => h B T0 σ H T s _ q
theorem dv_prop {sp : Sp} {dvs : List V} {E : XK} {C1 : Addr} (h : Dv K W te e C o) : Dv K W (tProp C1 sp dvs E te) e C o := fun B T0 σ H T s Q q => h B T0 σ H T s _ q
theorem dv_at {f : Str} (h : Dv K W te e C o) : Dv K W (tAt K te f) e C o := fun B T0 σ H T s Q q => h B T0 σ H T s _ q
theorem dv_not (h : Dv K W te e C o) : Dv K W (tNotV te) e C o := fun B T0 σ H T s Q q => h B T0 σ H T s _ q
theorem dv_and (h : Dv K W ta e C o) : Dv K W (tAndV ta tb) e C o := fun B T0 σ H T s Q q => h B T0 σ H T s _ q
theorem dv_or (h : Dv K W ta e C o) : Dv K W (tOrV ta tb) e C o := fun B T0 σ H T s Q q => h B T0 σ H T s _ q
theorem dv_if (h : DvT K W tt e C o) : Dv K W (tIf tt ta tb) e C o := fun B T0 σ H T s Q q => h B T0 σ H T s _ q
theorem dvt_test (h : Dv K W te e C o) : DvT K W (tTest te) e C o := fun B T0 σ H T s Q q => h B T0 σ H T s _ q
theorem dvt_B (h : Dv K W te e C o) : DvT K W (L2.tB te) e C o := fun B T0 σ H T s Q q => h B T0 σ H T s _ q
theorem dvt_not (h : DvT K W tt e C o) : DvT K W (tNot tt) e C o := fun B T0 σ H T s Q q => h B T0 σ H T s _ q
theorem dvt_and1 (h : DvT K W tt e C o) : DvT K W (tAnd tt tu) e C o := fun B T0 σ H T s Q q => h B T0 σ H T s _ q
theorem dvt_or1 (h : DvT K W tt e C o) : DvT K W (tOr tt tu) e C o := fun B T0 σ H T s Q q => h B T0 σ H T s _ q
theorem dvt_and2 (h1 : EvT K tt e true) (h : DvT K W tu e C o) : DvT K W (tAnd tt tu) e C o := fun B T0 σ H T s Q q => h1 B T0 σ H T s _ fun H1 T1 g => by
  rw [if_pos rfl]
  exact h B T0 σ H1 T1 (s.grow g) _ fun od H2 T2 g2 x => q od H2 T2 (g.trans g2) x
theorem dvt_or2 (h1 : EvT K tt e false) (h : DvT K W tu e C o) : DvT K W (tOr tt tu) e C o := fun B T0 σ H T s Q q => h1 B T0 σ H T s _ fun H1 T1 g => by
  rw [if_neg Bool.false_ne_true]
  exact h B T0 σ H1 T1 (s.grow g) _ fun od H2 T2 g2 x => q od H2 T2 (g.trans g2) x
/-! statements -/
section
variable {P : Po} {u : TS} {g : TG} {f : Str} {wi : TI}
theorem Run.dvSeq {t : TS} (h : Run K W t e { P with nx := fun _ => False, rt := fun _ => False, bk := fun _ => False, ct := fun _ => False, ro := fun _ => False }) : Run K W (tSeq t u) e P :=
  run_seqM (fun _ => False) (h.imp (fun _ z => z) (fun _ z => z.elim) (fun _ z => z.elim) (fun _ z => z.elim) (fun _ _ _ z => z) (fun _ z => z.elim)) fun _ z => z.elim
abbrev PoD (P : Po) : Po := { P with nx := fun _ => False, rt := fun _ => False, bk := fun _ => False, ct := fun _ => False, ro := fun _ => False }
theorem run_dvAsg (h : Dv K W te e C o) (q : P.ex e C o) : Run K W (tAsg te g) e P := fun B T0 σ H T D s f => h B T0 σ H T s _ fun od H1 T1 g x => f.ex e σ H1 T1 C od o q (s.grow g) x
theorem run_dvRet (h : Dv K W te e C o) (q : P.ex e C o) : Run K W (tRet te) e P := fun B T0 σ H T D s f => h B T0 σ H T s _ fun od H1 T1 g x => f.ex e σ H1 T1 C od o q (s.grow g) x
theorem run_dvDrop (h : Dv K W te e C o) (q : P.ex e C o) : Run K W (tDrop te) e P := fun B T0 σ H T D s f => h B T0 σ H T s _ fun od H1 T1 g x => f.ex e σ H1 T1 C od o q (s.grow g) x
theorem run_dvIf {t t' : TS} (h : DvT K W tt e C o) (q : P.ex e C o) : Run K W (tIfS tt t t') e P := fun B T0 σ H T D s f => h B T0 σ H T s _ fun od H1 T1 g x => f.ex e σ H1 T1 C od o q (s.grow g) x
theorem run_dvFld {to : TE} (h : Dv K W te e C o) (q : P.ex e C o) : Run K W (sFld K to te f) e P := fun B T0 σ H T D s f => h B T0 σ H T s _ fun od H1 T1 g x => f.ex e σ H1 T1 C od o q (s.grow g) x
theorem run_dvIfS {t t' : TS} (h : DvT K W tt e C o) (q : P.ex e C o) : Run K W (tSeq (tIfS tt t t') u) e P := Run.dvSeq (run_dvIf h q)
theorem run_dvAsgS (h : Dv K W te e C o) (q : P.ex e C o) : Run K W (tSeq (tAsg te g) u) e P := Run.dvSeq (run_dvAsg h q)
theorem run_dvRetS (h : Dv K W te e C o) (q : P.ex e C o) : Run K W (tSeq (tRet te) u) e P := Run.dvSeq (run_dvRet h q)
theorem run_dvDropS (h : Dv K W te e C o) (q : P.ex e C o) : Run K W (tSeq (tDrop te) u) e P := Run.dvSeq (run_dvDrop h q)
theorem run_dvFldS {to : TE} (h : Dv K W te e C o) (q : P.ex e C o) : Run K W (tSeq (sFld K to te f) u) e P := Run.dvSeq (run_dvFld h q)
theorem run_dvForS {tb' : TS} (h : Dv K W te e C o) (q : P.ex e C o) : Run K W (tSeq (tFor (iSeq K te) g tb') u) e P := Run.dvSeq fun B T0 σ H T D s f => h B T0 σ H T s _ fun od H1 T1 g x => f.ex e σ H1 T1 C od o q (s.grow g) x
end
end
/-! ### rules of statements -/
section
variable {K : PySem.W.Frag} {E : WX} {e : En} {t u : TS} {X S R O α : Type} {Pf : O → Po} {cC : X → Addr} {cF : X → Option (List (Str × D))} {ta : TA} {d d1 d2 : D} {C : Addr} {P : Po}
theorem r_bindR {o : Rz X α} {rest : α → O} {kx : X → O} {okv : α → Prop} (hk : okR o okv) (h1 : ∀ v, o = .ok v → okv v → Run K E t e (Pf (rest v))) (h2 : ∀ x, o = .ex x → Run K E t e (Pf (kx x))) : Run K E t e (Pf (bindR o rest kx)) := by
  cases ho : o with
  | ok v => rw [ho] at hk; exact h1 v ho hk
  | ex x => exact h2 x ho
theorem r_raise0 {x : Str} (q : P.ex e (gA K x) none) : Run K E (tRaise0 K x E) e P := run_raise0 q
theorem r_raise0S {x : Str} (q : P.ex e (gA K x) none) : Run K E (tSeq (tRaise0 K x E) u) e P := Run.dvSeq (run_raise0 q)
theorem r_raise1 {x f : Str} (h : EvD K ta e [d1]) (q : P.ex e (gA K x) (some [(f, d1)])) : Run K E (tRaiseX K x (spX1 (gA K x) f) ta E) e P := run_raise1 h q
theorem r_raise1S {x f : Str} (h : EvD K ta e [d1]) (q : P.ex e (gA K x) (some [(f, d1)])) : Run K E (tSeq (tRaiseX K x (spX1 (gA K x) f) ta E) u) e P := Run.dvSeq (run_raise1 h q)
theorem r_raise2 {x f g : Str} (h : EvD K ta e [d1, d2]) (q : P.ex e (gA K x) (some [(g, d2), (f, d1)])) : Run K E (tRaiseX K x (spX2 (gA K x) f g) ta E) e P := run_raise2 h q
theorem r_raise2S {x f g : Str} (h : EvD K ta e [d1, d2]) (q : P.ex e (gA K x) (some [(g, d2), (f, d1)])) : Run K E (tSeq (tRaiseX K x (spX2 (gA K x) f g) ta E) u) e P := Run.dvSeq (run_raise2 h q)
/-! try -/
theorem wipe_set {i : Nat} {x : Sl} : ∀ {l : List Nat} {e : En}, i ∉ l → wipeE (e.set i x) l = (wipeE e l).set i x
  | [], _, _ => rfl
  | j :: l, e, h => by
    have h1 : i ≠ j := fun z => h (z ▸ List.mem_cons_self)
    have h2 : i ∉ l := fun z => h (List.mem_cons_of_mem _ z)
    show (wipeE (e.set i x) l).set j .no = ((wipeE e l).set j .no).set i x
    rw [wipe_set h2, List.set_comm _ _ h1]
theorem wipe_no {i : Nat} : ∀ {l : List Nat} {e : En}, i ∈ l → wipeE (e.set i .no) l = wipeE e l
  | [], _, h => by cases h
  | j :: l, e, h => by
    show (wipeE (e.set i .no) l).set j .no = (wipeE e l).set j .no
    by_cases hl : i ∈ l
    · rw [wipe_no hl]
    · have hj : i = j := by
        rcases List.mem_cons.mp h with z | z
        · exact z
        · exact absurd z hl
      subst hj
      rw [wipe_set hl, List.set_set]
theorem r_tryA0 {tb : WX → TS} {ts : Addr → Value → Option Addr → TS} {c : Value} {i : Nat} {o : Tr S R X} {hd : X → Fl S R} {rest : S → O} {kr : R → O} {okx : X → Prop} {okr : S → Prop} (env : S → En) (dead : List Nat) (envx : En) (deadx : List Nat)
    (hi : i ∉ deadx) (hi2 : i ∈ dead) (hkx : okX o okx) (hkr : okE (tryF o hd) okr)
    (hb : ∀ W, Run K W (tb W) e (PoT cC cF env dead (fun r => Pf (kr r)) envx deadx o))
    (hs : ∀ x, o = .ex x → okx x → PySem.W.exmOne K (.ref (cC x)) c = some true ∧ ∀ a od, Run K (fun _ _ _ _ => False) (ts a (.ref (cC x)) od) (envx.set i (.dat (heldD K a od (cF x)))) (PoH env dead (fun r => Pf (kr r)) (hd x)))
    (h : ∀ s, okr s → Run K E u (env s) (Pf (rest s))) : Run K E (tSeq (tTryA K c i tb ts (fun _ _ _ _ => False)) u) e (Pf (bindF (tryF o hd) rest kr)) := by
  obtain ⟨z, hz⟩ : ∃ z, z = tryF o hd := ⟨_, rfl⟩
  rw [← hz] at hkr ⊢
  refine run_seqM (fun e' => ∃ s, z = .nx s ∧ wipeE e' dead = env s) ?_ fun e' ⟨s, hs1, hs2⟩ => ?_
  · refine run_tryA0 (fun e' C f => ∃ x, o = .ex x ∧ wipeE e' deadx = envx ∧ C = cC x ∧ f = cF x) (fun W => (hb W).imp (fun e1 h1 => ?_) (fun d h1 => ?_) (fun _ z => z.elim) (fun _ z => z.elim) (fun _ _ _ z => z) (fun d h1 => ?_)) ?_
    · obtain ⟨s, h1, h2⟩ := h1
      exact ⟨s, by rw [hz, h1]; rfl, h2⟩
    · obtain ⟨r, h1, h2⟩ := h1
      show (Pf (bindF z rest kr)).rt d
      rw [hz, h1]; exact h2
    · obtain ⟨r, h1, h2⟩ := h1
      show (Pf (bindF z rest kr)).ro d
      rw [hz, h1]; exact h2
    · rintro e' C f ⟨x, hx, he, rfl, rfl⟩
      obtain ⟨q1, q2⟩ := hs x hx (by rw [hx] at hkx; exact hkx)
      refine ⟨q1, fun a od => ?_⟩
      have hzx : z = hd x := by rw [hz, hx]; rfl
      refine Run.drop deadx ?_
      rw [wipe_set hi, he]
      refine (q2 a od).imp (fun e2 h2 => ?_) (fun d h2 => ?_) (fun _ z => z.elim) (fun _ z => z.elim) (fun _ _ _ z => z.elim) (fun d h2 => ?_)
      · obtain ⟨s, h2, h3⟩ := h2
        exact ⟨s, hzx.trans h2, by rw [wipe_no hi2]; exact h3⟩
      · obtain ⟨r, h2, h3⟩ := h2
        show (Pf (bindF z rest kr)).rt d
        rw [hzx, h2]; exact h3
      · obtain ⟨r, h2, h3⟩ := h2
        show (Pf (bindF z rest kr)).ro d
        rw [hzx, h2]; exact h3
  · rw [hs1] at hkr ⊢
    refine Run.drop dead ?_
    rw [hs2]
    exact h s hkr
end
end Fh

set_option Elab.async false
set_option linter.all false
set_option maxRecDepth 100000
set_option maxHeartbeats 4000000
/-! FhEy: calls of defs, methods, classes that may raise -/
namespace Fh
open PySem PySem.Spec PyProof.Rows L2

theorem Rz.no {X R : Type} {o : Rz X R} {r : R} {x : X} {p : Prop} (h1 : o = .ok r) (h2 : o = .ex x) : p := by rw [h1] at h2; cases h2
theorem Rz.inj {X R : Type} {o : Rz X R} {r r' : R} (h1 : o = .ok r) (h2 : o = .ok r') : r' = r := by rw [h1] at h2; cases h2; rfl
theorem Rz.injX {X R : Type} {o : Rz X R} {r r' : X} (h1 : o = .ex r) (h2 : o = .ex r') : r' = r := by rw [h1] at h2; cases h2; rfl
theorem Rz.vok {X R : Type} [Inhabited R] {o : Rz X R} {r : R} (h : o = .ok r) : o.val = r := by rw [h]; rfl
theorem Rz.nok {X R : Type} {o : Rz X R} {x : X} {p : Prop} (h : o.isOk = true) (h2 : o = .ex x) : p := by rw [h2] at h; cases h
section
variable (K : PySem.W.Frag) {α X R : Type} (cC : X → Addr) (cF : X → Option (List (Str × D))) (ms : List Md) (args : α → List D) (pre : α → Prop) (out : α → Rz X R)
abbrev SpZ (enc : R → D) : Sp := SpRX K ms args pre (fun a d => ∃ r, out a = .ok r ∧ d = enc r) (fun a C o => ∃ x, out a = .ex x ∧ C = cC x ∧ o = cF x)
/-- .. that hands out a list of one's own -/
def SpZO (enc : R → OD) : Sp := fun vs H Q E =>
  ∃ (T : Hp) (a : α), Le T H ∧ pre a ∧ MIss K H H T ms vs (args a) ∧ (∀ r, out a = .ok r → ∀ p H' T', Gr H T H' T' → H p = none → T' p = none → OwnAt K H' T' p (enc r) → Q (.ref p) H') ∧
    ∀ x od H' T', out a = .ex x → Gr H T H' T' → XIs K T' od (cF x) → E (.ref (cC x)) od H'
def SpZI (C : Addr) (enc : R → List (Str × D)) : Sp := fun vs H Q E =>
  ∃ (p dx : Addr) (H0 T : Hp) (rest : List V) (a : α), vs = .ref p :: rest ∧ H = upd H0 p (.ins C dx []) ∧ H0 p = none ∧ Le T H0 ∧ pre a ∧ MIss K H0 H0 T ms rest (args a) ∧
    (∀ r, out a = .ok r → ∀ H' T', Gr H0 T H' T' → T' p = none → OwnAt K H' T' p (.ins C (enc r)) → Q .non H') ∧
    ∀ x od H' T', out a = .ex x → Gr H0 T H' T' → XIs K T' od (cF x) → E (.ref (cC x)) od H'
end
section
variable {K : PySem.W.Frag} {α X R : Type} [Inhabited R] {cC : X → Addr} {cF : X → Option (List (Str × D))} {ms : List Md} {args : α → List D} {pre : α → Prop} {out : α → Rz X R} {enc : R → D} {encO : R → OD} {encI : R → List (Str × D)} {C : Addr}
/-- where nothing is raised -/
theorem spZ_quiet : ∀ vs H Q E, SpP K ms args (fun a => pre a ∧ (out a).isOk = true) (fun a => enc (out a).val) vs H Q E → SpZ K cC cF ms args pre out enc vs H Q E := fun vs H Q E ⟨T, a, hT, hp, hm, hq⟩ =>
  ⟨T, a, hT, hp.1, hm, fun d v H' T' ⟨r, hr, hd⟩ => hq d v H' T' (hd.trans (congrArg enc (Rz.vok hr).symm)), fun C o od H' T' ⟨x, hx, _⟩ => Rz.nok hp.2 hx⟩
theorem spZO_quiet : ∀ vs H Q E, SpO K ms args (fun a => pre a ∧ (out a).isOk = true) (fun a => encO (out a).val) vs H Q E → SpZO K cC cF ms args pre out encO vs H Q E := fun vs H Q E ⟨T, a, hT, hp, hm, hq⟩ =>
  ⟨T, a, hT, hp.1, hm, fun r hr => Rz.vok hr ▸ hq, fun x od H' T' hx => Rz.nok hp.2 hx⟩
theorem spZI_quiet : ∀ vs H Q E, SpI K C ms args (fun a => pre a ∧ (out a).isOk = true) (fun a => encI (out a).val) vs H Q E → SpZI K cC cF ms args pre out C encI vs H Q E := fun vs H Q E ⟨p, dx, H0, T, rest, a, h1, h2, h3, h4, hp, h5, hq⟩ =>
  ⟨p, dx, H0, T, rest, a, h1, h2, h3, h4, hp.1, h5, fun r hr => Rz.vok hr ▸ hq, fun x od H' T' hx => Rz.nok hp.2 hx⟩
end
/-! ### defs -/
section
variable {P : Program} {w : World} {K : PySem.W.Frag} {mg : Str → Option Value} {base : Heap} {x nm qn : Str} {st : Stmt} {N ps : List Str} {k : Nat} {α X R : Type} {ms : List Md} {args : α → List D} {pre : α → Prop} {out : α → Rz X R} {cC : X → Addr} {cF : X → Option (List (Str × D))} {enc : R → D} {encO : R → OD} {encI : R → List (Str × D)}
def BodyZ (P : Program) (w : World) (K : PySem.W.Frag) (mg : Str → Option Value) (base : Heap) (qn : Str) (st : Stmt) (N : List Str) (k : Nat) (run : XK → TS → Prop) : Prop :=
  ∀ (f : Addr) (cdv : Value) (A : Around) (outer : List Env) (s : Shared) (H : Hp) (E : XK), Room k (A.deeper (envOfC qn (defScope st) s.heap.objs.size f cdv)) →
    ∃ t, PSs (cxOf (L2.CX P w) P w K mg base N qn (defScope st) f cdv A outer s H E) (defBody st) t ∧ run E t
theorem fn_okZ {f : Addr} {fd : FuncData} {dvs : List V} {kws : List (Str × V)} (F : FunD K nm qn (defArgs st) (defBody st) (defScope st) dvs kws f fd) (S : FnScope N ps (defScope st)) (hn : ms.length = ps.length) (hN : ms.length ≤ N.length)
    (hb : BodyZ P w K mg base qn st N k fun E t => ∀ a, pre a → Run K (lift E) t (En0 ms (args a) (N.length - ms.length)) (PoZ cC cF enc (out a))) : FnOk P w K mg base (L2.CX P w) (k + 1) f fd ps (SpZ K cC cF ms args pre out enc) := by
  refine F.ok S (fun vs H Q E h => ?_) (fun cdv A outer s H vs Q E hr h => ?_)
  · obtain ⟨T, a, _, _, hm, _⟩ := h
    exact hm.len.1.trans hn
  · obtain ⟨t, ht, hrun⟩ := hb f cdv A outer s H E hr
    obtain ⟨T, a, hT, hp, hm, hq, hx⟩ := h
    refine ⟨t, ht, hrun a hp H T _ H T _ (sat_start hT hm hN) ⟨fun e σ H' T' p s' => hq .non .non H' T' p s'.gr .non, fun d v H' T' p g i => hq d v H' T' p g i, fun _ _ _ _ p => p.elim, fun _ _ _ _ p => p.elim, fun e σ H' T' C od o p s' z => hx C o od H' T' p s'.gr z, fun _ _ _ _ p => p.elim⟩⟩
theorem fn_okZO {f : Addr} {fd : FuncData} {dvs : List V} {kws : List (Str × V)} (F : FunD K nm qn (defArgs st) (defBody st) (defScope st) dvs kws f fd) (S : FnScope N ps (defScope st)) (hn : ms.length = ps.length) (hN : ms.length ≤ N.length)
    (hb : BodyZ P w K mg base qn st N k fun E t => ∀ a, pre a → Run K (lift E) t (En0 ms (args a) (N.length - ms.length)) (PoZO cC cF encO (out a))) : FnOk P w K mg base (L2.CX P w) (k + 1) f fd ps (SpZO K cC cF ms args pre out encO) := by
  refine F.ok S (fun vs H Q E h => ?_) (fun cdv A outer s H vs Q E hr h => ?_)
  · obtain ⟨T, a, _, _, hm, _⟩ := h
    exact hm.len.1.trans hn
  · obtain ⟨t, ht, hrun⟩ := hb f cdv A outer s H E hr
    obtain ⟨T, a, hT, hp, hm, hq, hx⟩ := h
    refine ⟨t, ht, hrun a hp H T _ H T _ (sat_start hT hm hN) ⟨fun _ _ _ _ p => p.elim, fun _ _ _ _ p => p.elim, fun _ _ _ _ p => p.elim, fun _ _ _ _ p => p.elim, fun e σ H' T' C od o p s' z => ?_, fun o b H' T' p g hb ht ho => ?_⟩⟩
    · obtain ⟨y, hy, rfl, rfl⟩ := p
      exact hx y od H' T' hy s'.gr z
    · obtain ⟨r, hr, rfl⟩ := p
      exact hq r hr b H' T' g hb ht ho
theorem fn_okZI {f C : Addr} {fd : FuncData} {dvs : List V} {kws : List (Str × V)} (F : FunD K nm qn (defArgs st) (defBody st) (defScope st) dvs kws f fd) (S : FnScope N ps (defScope st)) (hn : ms.length + 1 = ps.length) (hN : ms.length + 1 ≤ N.length)
    (hb : BodyZ P w K mg base qn st N k fun E t => ∀ a0 x, pre x → Run K (lift E) t (.own (oSelf K a0 C []) :: (slots ms (args x) ++ List.replicate (N.length - (ms.length + 1)) .no)) (PoZI K cC cF a0 C encI (out x))) : FnOk P w K mg base (L2.CX P w) (k + 1) f fd ps (SpZI K cC cF ms args pre out C encI) := by
  refine F.ok S (fun vs H Q E h => ?_) (fun cdv A outer s H vs Q E hr h => ?_)
  · obtain ⟨b, dx, H0, T, rest, x, rfl, _, _, _, _, hm, _⟩ := h
    rw [List.length_cons, hm.len.1, hn]
  · obtain ⟨t, ht, hrun⟩ := hb f cdv A outer s H E hr
    obtain ⟨b, dx, H0, T, rest, x, rfl, rfl, hb0, hT, hp, hm, hq, hx⟩ := h
    refine ⟨t, ht, hrun b x hp H0 T _ _ T _ (sat_startI hT hb0 hm hN) ⟨fun e σ H' T' p s' => ?_, fun _ _ _ _ p => p.elim, fun _ _ _ _ p => p.elim, fun _ _ _ _ p => p.elim, fun e σ H' T' C od o p s' z => ?_, fun _ _ _ _ p => p.elim⟩⟩
    · obtain ⟨r, hr, p⟩ := p
      obtain ⟨c, hx, hc, htc, o, ho, hh, hR⟩ := s'.own p
      obtain ⟨rfl, dx', fvs, rfl, hf⟩ := hR T' (Le.refl _)
      exact hq r hr H' T' s'.gr htc ⟨dx', fvs, ho, hf⟩
    · obtain ⟨y, hy, rfl, rfl⟩ := p
      exact hx y od H' T' hy s'.gr z
theorem Dd.dfZ (F : Dd K mg x st [] []) (S : FnScope N ps (defScope st)) (hn : ms.length = ps.length) (hN : ms.length ≤ N.length)
    (bd : ∀ (kV doc pm : Value) (an : Option Addr) (cdv ct : Value) (us : List Value), us.length = ps.length → bindArgs (PySem.W.fnOf x x (defArgs st) (defBody st) (defScope st) .none kV doc pm an cdv ct) ⟨us, []⟩ = pure (ps.zip us))
    (hb : BodyZ P w K mg base x st N k fun E t => ∀ a, pre a → Run K (lift E) t (En0 ms (args a) (N.length - ms.length)) (PoZ cC cF enc (out a))) : DfX P w K mg base x (k + 1) [] (SpZ K cC cF ms args pre out enc) := by
  obtain ⟨f, fd, F, hm⟩ := F
  exact ⟨f, fd, ps, [], fn_okZ F S hn hN hb, hm, F.kp, F.bindsN bd, .nil⟩
theorem Dd.dfZO (F : Dd K mg x st [] []) (S : FnScope N ps (defScope st)) (hn : ms.length = ps.length) (hN : ms.length ≤ N.length)
    (bd : ∀ (kV doc pm : Value) (an : Option Addr) (cdv ct : Value) (us : List Value), us.length = ps.length → bindArgs (PySem.W.fnOf x x (defArgs st) (defBody st) (defScope st) .none kV doc pm an cdv ct) ⟨us, []⟩ = pure (ps.zip us))
    (hb : BodyZ P w K mg base x st N k fun E t => ∀ a, pre a → Run K (lift E) t (En0 ms (args a) (N.length - ms.length)) (PoZO cC cF encO (out a))) : DfX P w K mg base x (k + 1) [] (SpZO K cC cF ms args pre out encO) := by
  obtain ⟨f, fd, F, hm⟩ := F
  exact ⟨f, fd, ps, [], fn_okZO F S hn hN hb, hm, F.kp, F.bindsN bd, .nil⟩
/-- methods -/
structure DfMX (P : Program) (w : World) (K : PySem.W.Frag) (mg : Str → Option Value) (base : Heap) (a : Addr) (k : Nat) (sp : Sp) : Prop where
  ex : ∃ (fd : FuncData) (ps : List Str), FnOk P w K mg base (L2.CX P w) k a fd ps sp ∧ Binds K fd ps []
theorem DfMX.quiet {a : Addr} {sp sp' : Sp} (F : DfMX P w K mg base a k sp) (h : ∀ vs H Q E, sp' vs H Q E → sp vs H Q E) : DfM P w K mg base a k [] sp' := by
  obtain ⟨fd, ps, F, b⟩ := F.ex
  exact ⟨L2.CX P w, fd, ps, [], F.imp h, b, .nil, fun X h1 h2 => by subst h1 h2; exact passL⟩
theorem DdM.dfZ {a : Addr} (F : DdM K a nm qn st [] []) (S : FnScope N ps (defScope st)) (hn : ms.length = ps.length) (hN : ms.length ≤ N.length)
    (bd : ∀ (kV doc pm : Value) (an : Option Addr) (cdv ct : Value) (us : List Value), us.length = ps.length → bindArgs (PySem.W.fnOf nm qn (defArgs st) (defBody st) (defScope st) .none kV doc pm an cdv ct) ⟨us, []⟩ = pure (ps.zip us))
    (hb : BodyZ P w K mg base qn st N k fun E t => ∀ a, pre a → Run K (lift E) t (En0 ms (args a) (N.length - ms.length)) (PoZ cC cF enc (out a))) : DfMX P w K mg base a (k + 1) (SpZ K cC cF ms args pre out enc) := by
  obtain ⟨fd, F⟩ := F
  exact ⟨fd, ps, fn_okZ F S hn hN hb, F.bindsN bd⟩
theorem DdM.dfZO {a : Addr} (F : DdM K a nm qn st [] []) (S : FnScope N ps (defScope st)) (hn : ms.length = ps.length) (hN : ms.length ≤ N.length)
    (bd : ∀ (kV doc pm : Value) (an : Option Addr) (cdv ct : Value) (us : List Value), us.length = ps.length → bindArgs (PySem.W.fnOf nm qn (defArgs st) (defBody st) (defScope st) .none kV doc pm an cdv ct) ⟨us, []⟩ = pure (ps.zip us))
    (hb : BodyZ P w K mg base qn st N k fun E t => ∀ a, pre a → Run K (lift E) t (En0 ms (args a) (N.length - ms.length)) (PoZO cC cF encO (out a))) : DfMX P w K mg base a (k + 1) (SpZO K cC cF ms args pre out encO) := by
  obtain ⟨fd, F⟩ := F
  exact ⟨fd, ps, fn_okZO F S hn hN hb, F.bindsN bd⟩
/-- classes whose __init__ may raise -/
structure DfCX (P : Program) (w : World) (K : PySem.W.Frag) (mg : Str → Option Value) (base : Heap) (x : Str) (C : Addr) (k n : Nat) (ks : List Str) (gV : List V → List V → List V) (sp : Sp) : Prop where
  ex : ∃ (f : Addr) (fd : FuncData) (ps : List Str) (g : List Value → List Value → List Value), FnOk P w K mg base (L2.CX P w) k f fd ps sp ∧ Mk K C f ∧ mg x = some (.ref C) ∧ KBn K fd ps (n + 1) ks g gV
theorem DfCX.quiet {C : Addr} {n : Nat} {ks : List Str} {gV : List V → List V → List V} {sp sp' : Sp} (F : DfCX P w K mg base x C k n ks gV sp) (h : ∀ vs H Q E, sp' vs H Q E → sp vs H Q E) : DfC P w K mg base x C k n ks gV sp' := by
  obtain ⟨f, fd, ps, g, F, M, hm, hb⟩ := F.ex
  exact ⟨L2.CX P w, f, fd, ps, g, F.imp h, M, hm, hb, fun X h1 h2 => by subst h1 h2; exact passL⟩
end
/-! ### their calls -/
def tMethS (C : Addr) (m : Str) (sp : Sp) (W : WX) (ta : TE) (t : TA) : TE := fun σ H Q => tMeth C m sp [] (WE W σ) ta t σ H Q
def tMakeS (C : Addr) (n m : Nat) (sp : Sp) (gV : List V → List V → List V) (W : WX) (t tk : TA) : TE := fun σ H Q => tMakeN C n m sp gV (WE W σ) t tk σ H Q
section
variable {X : Cx} {k n : Nat} {C f p : Addr} {m x : Str} {sp : Sp} {o e : Expr} {es : List Expr} {ta : TE} {t tk : TA} {apos pos cp : Pos} {kws : List Keyword} {ks : List Str} {gV : List V → List V → List V} {W : WX}
theorem pe_mthX {pl : Sem Bool} (G : DfMX X.prog X.w X.K X.mg X.base f k sp) (c : Cls X.K C) (hm : Meth X.K C m f) (hr : Room k X.A) (tw : Takes X W) (he : PE X o ta) (ha : PA X (e :: es) t)
    (hst : starEach (e :: es) X.env = (false, eval e X.env) :: starEach es X.env := by rfl) (hpl : (backTo pos (starEach es X.env)).any (·.1) = false := by rfl)
    (ht : eval (.Call (.Attribute o m apos) (e :: es) [] pos) X.env = (do
      let ov ← eval o X.env
      standAt apos.atName
      let (f, first) ← holding [ov] (getMethod ov m pl)
      callWith pos f first (backTo pos (starEach (e :: es) X.env)) (backToKw pos (keywordEach [] X.env))) := by rfl) :
    PE X (.Call (.Attribute o m apos) (e :: es) [] pos) (tMethS C m sp W ta t) := by
  obtain ⟨fd, ps, F, hb⟩ := G.ex
  constructor; intro pins s σ H Q I h
  refine PySem.W.methodCall_KW (pl := pl) (thn (he.run pins s σ H _ I h) fun u s1 hh => ?_) ht
  obtain ⟨x, H1, I1, rx, a, dx, fs, ex, ea, l, q⟩ := hh
  subst ex
  cases (show u = Value.ref a from rx)
  refine getmeth_ok I1 ea c hm l ?_
  refine PySem.W.callWith_K (first := [.ref a]) (h₀ := X.base) I1.ok.mod.kin hm.kp (thn (ha.run pos pins s1 σ H1 _ I1 q) fun us s2 hh2 => ?_) hst hpl
  obtain ⟨vs, H2, I2, r, q2⟩ := hh2
  exact ⟨I2.kIn, run_fnSD (E := WE W) (us := .ref a :: us) (vs := .ref a :: vs) F hr hb .nil (passAt tw σ) I2 (.cons rfl r) q2⟩
theorem pe_mthX0 {pl : Sem Bool} (G : DfMX X.prog X.w X.K X.mg X.base f k sp) (c : Cls X.K C) (hm : Meth X.K C m f) (hr : Room k X.A) (tw : Takes X W) (he : PE X o ta)
    (ht : eval (.Call (.Attribute o m apos) [] [] pos) X.env = (do
      let ov ← eval o X.env
      standAt apos.atName
      let (f, first) ← holding [ov] (getMethod ov m pl)
      callWith pos f first (backTo pos (starEach [] X.env)) (backToKw pos (keywordEach [] X.env))) := by rfl) :
    PE X (.Call (.Attribute o m apos) [] [] pos) (tMethS C m sp W ta tNil) := by
  obtain ⟨fd, ps, F, hb⟩ := G.ex
  constructor; intro pins s σ H Q I h
  refine PySem.W.methodCall_KW (pl := pl) (thn (he.run pins s σ H _ I h) fun u s1 hh => ?_) ht
  obtain ⟨x, H1, I1, rx, a, dx, fs, ex, ea, l, q⟩ := hh
  subst ex
  cases (show u = Value.ref a from rx)
  refine getmeth_ok I1 ea c hm l ?_
  exact PySem.W.callWith_K0 (first := [.ref a]) I1.kIn hm.kp (run_fnSD (E := WE W) (us := [.ref a]) (vs := [.ref a]) F hr hb .nil (passAt tw σ) I1 (.cons rfl .nil) q)
theorem run_makeS {fd : FuncData} {ps : List Str} {g : List Value → List Value → List Value} {pins : List (Addr × Obj)} {σ : L2.St} {H : Hp} {s : Shared} {Q : VK} {us ws : List Value} {vs zs : List V} (M : Mk X.K C f) (F : FnOk X.prog X.w X.K X.mg X.base (L2.CX X.prog X.w) k f fd ps sp)
    (hr : Room (k + 1) X.A) (hb : KBn X.K fd ps (n + 1) ks g gV) (tw : Takes X W) (I : Inv X pins σ H s) (r : Vals vs us) (rz : Vals zs ws) (l1 : vs.length = n) (l2 : zs.length = ks.length)
    (h : ∀ x dx, H x = none → H dx = none → dx ≠ x → sp (gV (.ref x :: vs) zs) (upd (upd H dx (.own x)) x (.ins C dx [])) (fun v H2 => v = .non ∧ Q (.ref x) H2) (WE W σ)) :
    wpAny (model X.prog X.w) X.A (call (.ref C) us (ks.zip ws)) (EP X pins σ Q) X.xe s := by
  have hq := h (s.heap.objs.size + 1) s.heap.objs.size (I.hok.fresh (Nat.le_add_right _ _)) (I.hok.fresh (Nat.le_refl _)) (Nat.ne_of_lt (Nat.lt_add_one _))
  have I2 := Inv.made (C := C) I
  have r1 : Vals (V.ref (s.heap.objs.size + 1) :: vs) (Value.ref (s.heap.objs.size + 1) :: us) := .cons rfl r
  have r2 := hb.rel r1 rz
  have e1 : (Value.ref (s.heap.objs.size + 1) :: us).length = n + 1 := r1.length.symm.trans (by rw [List.length_cons, l1])
  have e2 : ws.length = ks.length := by rw [← rz.length, l2]
  have run := F.run _ X.stack _ _ ⟨Value.ref (s.heap.objs.size + 1) :: us, ks.zip ws⟩ (g (Value.ref (s.heap.objs.size + 1) :: us) ws) _ _ (WE W σ) (hr.make C us (ks.zip ws)) (I2.env0.make C us (ks.zip ws)) (hb.to _ (Value.ref (s.heap.objs.size + 1) :: us) ws I2.kIn e1 e2) r2 hq
  refine wpAny_call (make_map (f := f) I.kIn M.makes M.init (beq_iff_eq.mp M.fn) (codeAny_mono run fun r s' hq' => ?_))
  cases r with
  | error e => exact passAt tw σ pins _ _ e s' I2 hq'
  | ok fl =>
    cases fl with
    | ret u =>
      obtain ⟨v, H', I3, rv, ev, q3⟩ := I2.after hq'
      subst ev
      exact ⟨rv, .ref (s.heap.objs.size + 1), H', I3, rfl, q3⟩
    | _ => exact False.elim hq'
theorem pe_clsX (G : DfCX X.prog X.w X.K X.mg X.base x C k n ks gV sp) (hr : Room (k + 1) X.A) (hg : Gl X x) (tw : Takes X W) (ha : PA X (e :: es) t) (hkw : PK X kws tk)
    (hall : (backToKw pos (keywordEach kws X.env)).all (·.1.isSome) = true := by rfl) (hks : (backToKw pos (keywordEach kws X.env)).filterMap (·.1) = ks := by rfl)
    (hdb : (x == ("__debug__" : Str)) = false := by decide) (he : starEach (e :: es) X.env = (false, eval e X.env) :: starEach es X.env := by rfl)
    (hpl : ((backTo pos (starEach (e :: es) X.env)).any (·.1) || (backToKw pos (keywordEach kws X.env)).any (·.1.isNone)) = false := by rfl) {l : Nat} (hl : ks.length = l := by rfl) :
    PE X (.Call (.Name x cp) (e :: es) kws pos) (tMakeS C n l sp gV W t tk) := by
  subst hl
  obtain ⟨f, fd, ps, g, F, M, hm, hb⟩ := G.ex
  constructor; intro pins s σ H Q I h
  refine wpAny_Call_Name_kw (ld_glob I hg hm ?_ hdb)
  refine PySem.W.callWith_KW (h₀ := X.base) I.ok.mod.kin M.kp hall (thn (ha.run pos pins s σ H _ I h) fun us s1 hh => ?_) hpl he
  obtain ⟨vs, H1, I1, r, q⟩ := hh
  refine thn (hkw.run pos pins s1 σ H1 _ I1 q) fun ws s2 hh2 => ?_
  obtain ⟨zs, H2, I2, rz, l1, l2, q2⟩ := hh2
  refine ⟨I2.kIn, ?_⟩
  rw [hks]
  exact run_makeS M F hr hb tw I2 r rz l1 l2 q2
end
/-! ### what they are worth -/
section
variable {K : PySem.W.Frag} {W : WX} {e : En} {ds es2 : List D} {m m0 : Md} {α X R : Type} {ms ms1 ms2 : List Md} {args : α → List D} {pre : α → Prop} {out : α → Rz X R} {cC : X → Addr} {cF : X → Option (List (Str × D))} {enc : R → D} {encO : R → OD} {encI : R → List (Str × D)} {ta tk : TA} {te : TE} {C C' : Addr} {nm : Str} {fs : List (Str × D)} {r : R} {x : X} {o : Option (List (Str × D))}
theorem ev_callZ (a : α) (hp : pre a) (hv : out a = .ok r) (h : EvA K ms ta e (args a)) : Ev K m (tCallS (SpZ K cC cF ms args pre out enc) (WE W) ta) e (enc r) := Ev.up fun B T0 σ H T s Q q => h B T0 σ H T s _ fun vs H1 T1 g i =>
  ⟨T1, a, g.s, hp, i.rebase (s.gr.h.trans g.h) g.s, fun d v H2 T2 ⟨r', hr, hd⟩ g2 i2 => q v H2 T2 (g.trans g2) (hd.trans (congrArg enc (Rz.inj hv hr)) ▸ i2), fun C o od H2 T2 ⟨x, hx, _⟩ => Rz.no hv hx⟩
theorem dv_callZ (a : α) (hp : pre a) (hx : out a = .ex x) (h : EvA K ms ta e (args a)) : Dv K W (tCallS (SpZ K cC cF ms args pre out enc) (WE W) ta) e (cC x) (cF x) := fun B T0 σ H T s Q q => h B T0 σ H T s _ fun vs H1 T1 g i =>
  ⟨T1, a, g.s, hp, i.rebase (s.gr.h.trans g.h) g.s, fun d v H2 T2 ⟨r', hr, hd⟩ => Rz.no hr hx, fun C o od H2 T2 ⟨y, hy, hC, ho⟩ g2 z => by
    cases Rz.injX hx hy; subst hC ho
    exact q od H2 T2 (g.trans g2) z⟩
theorem evo_callZ (a : α) (hp : pre a) (hv : out a = .ok r) (h : EvA K ms ta e (args a)) : EvO K (tCallS (SpZO K cC cF ms args pre out encO) (WE W) ta) e (encO r) := fun B T0 σ H T s Q q => h B T0 σ H T s _ fun vs H1 T1 g i =>
  ⟨T1, a, g.s, hp, i.rebase (s.gr.h.trans g.h) g.s, fun r' hr p H2 T2 g2 h1 h2 h3 => by
    cases Rz.inj hv hr
    exact q p H2 T2 (g.trans g2) (g.h.back h1) h2 h3, fun x od H2 T2 hx => Rz.no hv hx⟩
theorem dv_callZO (a : α) (hp : pre a) (hx : out a = .ex x) (h : EvA K ms ta e (args a)) : Dv K W (tCallS (SpZO K cC cF ms args pre out encO) (WE W) ta) e (cC x) (cF x) := fun B T0 σ H T s Q q => h B T0 σ H T s _ fun vs H1 T1 g i =>
  ⟨T1, a, g.s, hp, i.rebase (s.gr.h.trans g.h) g.s, fun r' hr => Rz.no hr hx, fun y od H2 T2 hy g2 z => by
    cases Rz.injX hx hy
    exact q od H2 T2 (g.trans g2) z⟩
theorem mth_args {B H1 T1 H2 T2 : Hp} {b : Addr} {vs : List V} (i1 : MIs m0 K B H1 T1 (.ref b) (.ins C fs)) (hh : Le H1 H2) (ht : Le T1 T2) (i2 : MIss K B H2 T2 ms vs ds) (hB : Le B H2) (hT : Le T2 H2) : MIss K H2 H2 T2 (m0 :: ms) (.ref b :: vs) (.ins C fs :: ds) := by
  have i3 : MIss K B H2 T2 (m0 :: ms) (.ref b :: vs) (.ins C fs :: ds) := ⟨i1.mono hh ht, i2⟩
  exact i3.rebase hB hT
theorem ev_mthZ (a : α) (hp : pre a) (hv : out a = .ok r) (ho : Ev K m0 te e (.ins C fs)) (hn : fs.lookup nm = none) (h : EvA K ms ta e ds) (ha : args a = .ins C fs :: ds) : Ev K m (tMethS C nm (SpZ K cC cF (m0 :: ms) args pre out enc) W te ta) e (enc r) := Ev.up fun B T0 σ H T s Q q => ho B T0 σ H T s _ fun v H1 T1 g1 i1 => by
  obtain ⟨b, dx, fvs, rfl, hb, hf⟩ := ins_at i1 (s.gr.h.trans g1.h) g1.s
  refine ⟨b, dx, fvs, rfl, hb, hf.lookup_none hn, h B T0 σ H1 T1 (s.grow g1) _ fun vs H2 T2 g2 i2 => ?_⟩
  rw [List.append_nil]
  refine ⟨T2, a, g2.s, hp, ?_, fun d v H3 T3 ⟨r', hr, hd⟩ g3 i3 => ?_, fun C o od H2 T2 ⟨x, hx, _⟩ => Rz.no hv hx⟩
  · rw [ha]
    exact mth_args i1 g2.h g2.t i2 ((s.grow g1).gr.h.trans g2.h) g2.s
  · rw [hv] at hr
    cases hr
    subst hd
    exact q v H3 T3 ((g1.trans g2).trans g3) i3
theorem dv_mthZ (a : α) (hp : pre a) (hx : out a = .ex x) (ho : Ev K m0 te e (.ins C fs)) (hn : fs.lookup nm = none) (h : EvA K ms ta e ds) (ha : args a = .ins C fs :: ds) : Dv K W (tMethS C nm (SpZ K cC cF (m0 :: ms) args pre out enc) W te ta) e (cC x) (cF x) := fun B T0 σ H T s Q q => ho B T0 σ H T s _ fun v H1 T1 g1 i1 => by
  obtain ⟨b, dx, fvs, rfl, hb, hf⟩ := ins_at i1 (s.gr.h.trans g1.h) g1.s
  refine ⟨b, dx, fvs, rfl, hb, hf.lookup_none hn, h B T0 σ H1 T1 (s.grow g1) _ fun vs H2 T2 g2 i2 => ?_⟩
  rw [List.append_nil]
  refine ⟨T2, a, g2.s, hp, ?_, fun d v H3 T3 ⟨r', hr, hd⟩ => Rz.no hr hx, fun C o od H3 T3 ⟨y, hy, hC, hF⟩ g3 z => ?_⟩
  · rw [ha]
    exact mth_args i1 g2.h g2.t i2 ((s.grow g1).gr.h.trans g2.h) g2.s
  · rw [hx] at hy
    cases hy
    subst hC hF
    exact q od H3 T3 ((g1.trans g2).trans g3) z
theorem evo_mthZ (a : α) (hp : pre a) (hv : out a = .ok r) (ho : Ev K m0 te e (.ins C fs)) (hn : fs.lookup nm = none) (h : EvA K ms ta e ds) (ha : args a = .ins C fs :: ds) : EvO K (tMethS C nm (SpZO K cC cF (m0 :: ms) args pre out encO) W te ta) e (encO r) := fun B T0 σ H T s Q q => ho B T0 σ H T s _ fun v H1 T1 g1 i1 => by
  obtain ⟨b, dx, fvs, rfl, hb, hf⟩ := ins_at i1 (s.gr.h.trans g1.h) g1.s
  refine ⟨b, dx, fvs, rfl, hb, hf.lookup_none hn, h B T0 σ H1 T1 (s.grow g1) _ fun vs H2 T2 g2 i2 => ?_⟩
  rw [List.append_nil]
  refine ⟨T2, a, g2.s, hp, ?_, fun r' hr p H3 T3 g3 h1 h2 h3 => ?_, fun x od H2 T2 hx => Rz.no hv hx⟩
  · rw [ha]
    exact mth_args i1 g2.h g2.t i2 ((s.grow g1).gr.h.trans g2.h) g2.s
  · rw [hv] at hr
    cases hr
    exact q p H3 T3 ((g1.trans g2).trans g3) ((g1.trans g2).h.back h1) h2 h3
theorem dv_mthZO (a : α) (hp : pre a) (hx : out a = .ex x) (ho : Ev K m0 te e (.ins C fs)) (hn : fs.lookup nm = none) (h : EvA K ms ta e ds) (ha : args a = .ins C fs :: ds) : Dv K W (tMethS C nm (SpZO K cC cF (m0 :: ms) args pre out encO) W te ta) e (cC x) (cF x) := fun B T0 σ H T s Q q => ho B T0 σ H T s _ fun v H1 T1 g1 i1 => by
  obtain ⟨b, dx, fvs, rfl, hb, hf⟩ := ins_at i1 (s.gr.h.trans g1.h) g1.s
  refine ⟨b, dx, fvs, rfl, hb, hf.lookup_none hn, h B T0 σ H1 T1 (s.grow g1) _ fun vs H2 T2 g2 i2 => ?_⟩
  rw [List.append_nil]
  refine ⟨T2, a, g2.s, hp, ?_, fun r' hr => Rz.no hr hx, fun y od H3 T3 hy g3 z => ?_⟩
  · rw [ha]
    exact mth_args i1 g2.h g2.t i2 ((s.grow g1).gr.h.trans g2.h) g2.s
  · rw [hx] at hy
    cases hy
    exact q od H3 T3 ((g1.trans g2).trans g3) z
theorem evo_clsZ {n l : Nat} {gV : List V → List V → List V} (a : α) (hp : pre a) (hv : out a = .ok r) (h : EvA K ms1 ta e ds) (hk : EvA K ms2 tk e es2) (hn : ms1.length = n) (hl : ms2.length = l)
    (hg : ∀ (x : V) (vs zs : List V) (B H T : Hp), MIss K B H T ms1 vs ds → MIss K B H T ms2 zs es2 → ∃ rest, gV (x :: vs) zs = x :: rest ∧ MIss K B H T ms rest (args a)) :
    EvO K (tMakeS C n l (SpZI K cC cF ms args pre out C encI) gV W ta tk) e (.ins C (encI r)) := fun B T0 σ H T s Q q => h B T0 σ H T s _ fun vs H1 T1 g1 i1 => hk B T0 σ H1 T1 (s.grow g1) _ fun zs H2 T2 g2 i2 => by
  refine ⟨i1.len.1.trans hn, i2.len.1.trans hl, fun x dx hx hdx hne => ?_⟩
  have hB := (s.grow g1).gr.h.trans g2.h
  have g12 := g1.trans g2
  have go : Gr H2 T2 (upd H2 dx (.own x)) T2 := Gr.own g2.s hdx
  obtain ⟨rest, hr, hm⟩ := hg (.ref x) vs zs B (upd H2 dx (.own x)) T2 (i1.mono (g2.h.trans go.h) g2.t) (i2.mono go.h (Le.refl _))
  rw [hr]
  have hx2 : upd H2 dx (.own x) x = none := (upd_ne (Ne.symm hne)).trans hx
  refine ⟨x, dx, upd H2 dx (.own x), T2, rest, a, rfl, rfl, hx2, go.s, hp, hm.rebase (hB.trans go.h) go.s, fun r' hr' H' T' g' hT' ho => ?_, fun y od H2 T2 hy => Rz.no hv hy⟩
  rw [hv] at hr'
  cases hr'
  exact ⟨rfl, q x H' T' ((g12.trans go).trans g') (g12.h.back hx) hT' ho⟩
theorem dv_clsZ {n l : Nat} {gV : List V → List V → List V} (a : α) (hp : pre a) (hv : out a = .ex x) (h : EvA K ms1 ta e ds) (hk : EvA K ms2 tk e es2) (hn : ms1.length = n) (hl : ms2.length = l)
    (hg : ∀ (x : V) (vs zs : List V) (B H T : Hp), MIss K B H T ms1 vs ds → MIss K B H T ms2 zs es2 → ∃ rest, gV (x :: vs) zs = x :: rest ∧ MIss K B H T ms rest (args a)) :
    Dv K W (tMakeS C n l (SpZI K cC cF ms args pre out C encI) gV W ta tk) e (cC x) (cF x) := fun B T0 σ H T s Q q => h B T0 σ H T s _ fun vs H1 T1 g1 i1 => hk B T0 σ H1 T1 (s.grow g1) _ fun zs H2 T2 g2 i2 => by
  refine ⟨i1.len.1.trans hn, i2.len.1.trans hl, fun b dx hx hdx hne => ?_⟩
  have hB := (s.grow g1).gr.h.trans g2.h
  have g12 := g1.trans g2
  have go : Gr H2 T2 (upd H2 dx (.own b)) T2 := Gr.own g2.s hdx
  obtain ⟨rest, hr, hm⟩ := hg (.ref b) vs zs B (upd H2 dx (.own b)) T2 (i1.mono (g2.h.trans go.h) g2.t) (i2.mono go.h (Le.refl _))
  rw [hr]
  have hx2 : upd H2 dx (.own b) b = none := (upd_ne (Ne.symm hne)).trans hx
  refine ⟨b, dx, upd H2 dx (.own b), T2, rest, a, rfl, rfl, hx2, go.s, hp, hm.rebase (hB.trans go.h) go.s, fun r' hr' => Rz.no hr' hv, fun y od H' T' hy g' z => ?_⟩
  rw [hv] at hy
  cases hy
  exact q od H' T' ((g12.trans go).trans g') z
/-! parts that do not come to their end -/
theorem dv_meth1 {sp : Sp} {dvs : List V} {E : XK} (h : Dv K W te e C' o) : Dv K W (tMeth C nm sp dvs E te ta) e C' o := fun B T0 σ H T s Q q => h B T0 σ H T s _ q
theorem dv_methS1 {sp : Sp} {W' : WX} (h : Dv K W te e C' o) : Dv K W (tMethS C nm sp W' te ta) e C' o := fun B T0 σ H T s Q q => h B T0 σ H T s _ q
theorem dv_methA {sp : Sp} {dvs : List V} {E : XK} (ho : Ev K m0 te e (.ins C fs)) (hn : fs.lookup nm = none) (h : DvA K W ta e C' o) : Dv K W (tMeth C nm sp dvs E te ta) e C' o := fun B T0 σ H T s Q q => ho B T0 σ H T s _ fun v H1 T1 g1 i1 => by
  obtain ⟨b, dx, fvs, rfl, hb, hf⟩ := ins_at i1 (s.gr.h.trans g1.h) g1.s
  exact ⟨b, dx, fvs, rfl, hb, hf.lookup_none hn, h B T0 σ H1 T1 (s.grow g1) _ fun od H2 T2 g2 x => q od H2 T2 (g1.trans g2) x⟩
theorem dv_methSA {sp : Sp} {W' : WX} (ho : Ev K m0 te e (.ins C fs)) (hn : fs.lookup nm = none) (h : DvA K W ta e C' o) : Dv K W (tMethS C nm sp W' te ta) e C' o := fun B T0 σ H T s Q q => ho B T0 σ H T s _ fun v H1 T1 g1 i1 => by
  obtain ⟨b, dx, fvs, rfl, hb, hf⟩ := ins_at i1 (s.gr.h.trans g1.h) g1.s
  exact ⟨b, dx, fvs, rfl, hb, hf.lookup_none hn, h B T0 σ H1 T1 (s.grow g1) _ fun od H2 T2 g2 x => q od H2 T2 (g1.trans g2) x⟩
theorem dv_make1 {n l : Nat} {sp : Sp} {gV : List V → List V → List V} {E : XK} (h : DvA K W ta e C' o) : Dv K W (tMakeN C n l sp gV E ta tk) e C' o := fun B T0 σ H T s Q q => h B T0 σ H T s _ q
theorem dv_makeS1 {n l : Nat} {sp : Sp} {gV : List V → List V → List V} {W' : WX} (h : DvA K W ta e C' o) : Dv K W (tMakeS C n l sp gV W' ta tk) e C' o := fun B T0 σ H T s Q q => h B T0 σ H T s _ q
end
/-! ### values of several kinds in one place: data as such -/
section
variable {K : PySem.W.Frag} {e : En} {ta tb : TE} {m : Md} {d d' : D}
theorem ev_sameU (hs : shp 6 d = true) (hs' : shp 6 d' = true) (ha : Ev K .now ta e d) (hb : Ev K .now tb e d') : Ev K m (tCall (spSame K 6) [] E0 (tCons ta (tCons tb tNil))) e (.bl (sm d d')) :=
  ev_call (out := fun p : D × D => .bl (sm p.1 p.2)) (d, d') ⟨hs', 6, hs⟩ (ea_cons ha (ea_cons hb ea_nil))
end
end Fh

set_option Elab.async false
set_option linter.all false
set_option maxRecDepth 100000
set_option maxHeartbeats 4000000
/-! FhD1: operators of the text's own classes: + | &, ==, in, [..], len -/
namespace Fh
open PySem PySem.Spec PyProof.Rows L2

/-- the class at C has the def at g for the name nm -/
structure Dun (K : PySem.W.Frag) (C g : Addr) (nm : Str) : Prop where
  at_ : PySem.W.findIn K (.ref C) nm = some (some (.ref g))
  fn : PySem.W.isFn K (.ref g) = true
def dunB (C g : PySem.W.Frag → Addr) (nm : Str) (K : PySem.W.Frag) : Bool := decide (PySem.W.findIn K (.ref (C K)) nm = some (some (.ref (g K)))) && PySem.W.isFn K (.ref (g K))
theorem dunB_ok {C g : PySem.W.Frag → Addr} {nm : Str} {K : PySem.W.Frag} (h : dunB C g nm K = true) : Dun K (C K) (g K) nm := by
  obtain ⟨h1, h2⟩ := and2 h
  exact ⟨of_decide_eq_true h1, h2⟩
section
variable {X : Cx} {CX : CXT} {C g a b dx dy : Addr} {fd : FuncData} {ps : List Str} {sp : Sp} {k : Nat} {pins : List (Addr × Obj)} {σ : L2.St} {H : Hp} {s : Shared} {E : XK} {Q : VK} {fs gs : List (Str × V)} {v : V} {u : Value}
theorem ins_inst (I : Inv X pins σ H s) (ha : H a = some (.ins C dx fs)) : ∃ o d, PySem.W.InstAt s.heap a o C d := by
  obtain ⟨mA, J, _⟩ := ins_get I.hok ha
  obtain ⟨od, J, _⟩ := J.look
  exact ⟨_, _, J⟩
theorem bin_at {op : Operator} (F : FnOk X.prog X.w X.K X.mg X.base CX k g fd ps sp) (hb : Binds X.K fd ps []) (D : Dun X.K C g (PySem.dunder op.info.2)) (hc : PySem.W.selfFirst X.K C = true) (hr : Room k X.A) (hx : PassesAt CX X σ E)
    (I : Inv X pins σ H s) (ha : H a = some (.ins C dx fs)) (hb' : H b = some (.ins C dy gs)) (q : sp [.ref a, .ref b] H Q E) : wpAny (model X.prog X.w) X.A (binaryOp op (.ref a) (.ref b)) (EP X pins σ Q) X.xe s := by
  obtain ⟨o1, d1, J⟩ := ins_inst I ha
  obtain ⟨o2, d2, J'⟩ := ins_inst I hb'
  obtain ⟨m, hF⟩ := I.fr
  refine PySem.W.binop_K hF I.ok.mod.kin J J'.type hc D.at_ D.fn ?_
  refine wpAny_mono (run_fnSD (E := fun _ => E) (us := [.ref a, .ref b]) (vs := [.ref a, .ref b]) F hr hb .nil hx I (.cons rfl (.cons rfl .nil)) q) (fun w s' z => ?_) fun _ _ x => x
  obtain ⟨z', H', I', rz, qz⟩ := z
  exact SlX.cmpback rz ⟨z', H', I', rz, qz⟩
theorem eq_at (F : FnOk X.prog X.w X.K X.mg X.base CX k g fd ps sp) (hb : Binds X.K fd ps []) (D : Dun X.K C g "__eq__") (hr : Room k X.A) (hx : PassesAt CX X σ E)
    (I : Inv X pins σ H s) (ha : H a = some (.ins C dx fs)) (hb' : H b = some (.ins C dy gs)) (q : sp [.ref a, .ref b] H Q E) : wpAny (model X.prog X.w) X.A (compareOp .Eq (.ref a) (.ref b)) (EP X pins σ Q) X.xe s := by
  obtain ⟨o1, d1, J⟩ := ins_inst I ha
  obtain ⟨o2, d2, J'⟩ := ins_inst I hb'
  obtain ⟨m, hF⟩ := I.fr
  show wpAny _ _ (richCompare .Eq (.ref a) (.ref b)) _ _ _
  refine PySem.W.cmp_K (op := .Eq) (tb := .ref C) hr.units0 hF I.ok.mod.kin J J'.type (by simp [PySem.W.notFirst]) D.at_ D.fn ?_
  refine wpAny_mono (run_fnSD (E := fun _ => E) (us := [.ref a, .ref b]) (vs := [.ref a, .ref b]) F hr hb .nil hx I (.cons rfl (.cons rfl .nil)) q) (fun w s' z => ?_) fun _ _ x => x
  obtain ⟨z', H', I', rz, qz⟩ := z
  exact SlX.cmpback rz ⟨z', H', I', rz, qz⟩
theorem in_at {neg : Bool} (F : FnOk X.prog X.w X.K X.mg X.base CX k g fd ps sp) (hb : Binds X.K fd ps []) (D : Dun X.K C g "__contains__") (hr : Room k X.A) (hx : PassesAt CX X σ E)
    (I : Inv X pins σ H s) (ha : H a = some (.ins C dx fs)) (rv : RelV v u) (q : sp [.ref a, v] H (fun z H' => ∃ c, z = .bl c ∧ Q (.bl (if neg then !c else c)) H') E) :
    wpAny (model X.prog X.w) X.A (compareOp (if neg then .NotIn else .In) u (.ref a)) (EP X pins σ Q) X.xe s := by
  obtain ⟨o1, d1, J⟩ := ins_inst I ha
  obtain ⟨m, hF⟩ := I.fr
  have run := run_fnSD (E := fun _ => E) (us := [.ref a, u]) (vs := [.ref a, v]) F hr hb .nil hx I (.cons rfl (.cons rv .nil)) q
  cases neg with
  | false =>
    refine PySem.W.in_K hF I.ok.mod.kin J D.at_ D.fn (wpAny_mono run (fun w s' z => ?_) fun _ _ x => x)
    obtain ⟨z', H', I', rz, c, rfl, qz⟩ := z
    cases rz
    exact wpAny_truthy_bool ⟨.bl c, H', I', rfl, qz⟩
  | true =>
    refine PySem.W.notIn_K hF I.ok.mod.kin J D.at_ D.fn (wpAny_mono run (fun w s' z => ?_) fun _ _ x => x)
    obtain ⟨z', H', I', rz, c, rfl, qz⟩ := z
    cases rz
    exact wpAny_truthy_bool ⟨.bl (!c), H', I', rfl, qz⟩
theorem len_at (F : FnOk X.prog X.w X.K X.mg X.base CX k g fd ps sp) (hb : Binds X.K fd ps []) (D : Dun X.K C g "__len__") (hr : Room (k + 1) X.A) (hx : ∀ (pins : List (Addr × Obj)) (H : Hp) (s : Shared) (e : Value) (s' : Shared), Inv X pins σ H s → CX X.stack H s E e s' → X.xe e s')
    (I : Inv X pins σ H s) (ha : H a = some (.ins C dx fs)) (q : sp [.ref a] H (fun z H' => ∃ i, z = .int i ∧ (0 ≤ i ∧ i < 2 ^ 63) ∧ Q (.int i) H') E) : wpAny (model X.prog X.w) X.A (call (.builtin "len") [.ref a]) (EP X pins σ Q) X.xe s := by
  obtain ⟨o1, d1, J⟩ := ins_inst I ha
  obtain ⟨m, hF⟩ := I.fr
  refine PySem.W.len_K hF I.ok.mod.kin J D.at_ D.fn ?_
  have hl := F.len _ _ _ _ q
  have bt := hb s [.ref a] I.kIn (by simpa using hl)
  refine wpAny_call (codeAny_mono (F.run X.A.in1 X.stack s H ⟨[.ref a], []⟩ [.ref a] [.ref a] _ E hr.in1 I.env0.in1 (by simpa using bt) (.cons rfl .nil) q) fun r s' hq => ?_)
  cases r with
  | error e => exact hx pins H s e s' I hq
  | ok fl =>
    cases fl with
    | ret w =>
      obtain ⟨z', H', I', rz, i, rfl, hi, qz⟩ := I.after hq
      obtain ⟨t, rfl⟩ := rz
      exact ⟨hi, .int i, H', I'.tok _, ⟨_, rfl⟩, qz⟩
    | _ => exact False.elim hq
theorem sub_at {value slice : Expr} (F : FnOk X.prog X.w X.K X.mg X.base CX k g fd ps sp) (hb : Binds X.K fd ps []) (D : Dun X.K C g "__getitem__") (hf : PySem.W.fnIn X.K g = true) (hr : Room (k + 1) X.A) (hx : PassesAt CX X σ E)
    (I : Inv X pins σ H s) (ha : H a = some (.ins C dx fs)) (rv : RelV v u) (q : sp [.ref a, v] H Q E) (hsl : subscripted slice true (.ref a) u = runValue (.builtin "lifetime.subscript" ⟨[.ref a, u], []⟩)) :
    wpAny (model X.prog X.w) X.A (subscriptTail value slice (.ref a) u) (EP X pins σ Q) X.xe s := by
  obtain ⟨o1, d1, J⟩ := ins_inst I ha
  obtain ⟨m, hF⟩ := I.fr
  refine PySem.W.sub_K hF I.ok.mod.kin J D.at_ hf D.fn ?_ hsl
  have hl := F.len _ _ _ _ q
  have bt := hb s [.ref a, u] I.kIn (by simpa using hl)
  refine wpAny_call (codeAny_mono (F.run X.A.in1 X.stack s H ⟨[.ref a, u], []⟩ [.ref a, u] [.ref a, v] _ E hr.in1 I.env0.in1 (by simpa using bt) (.cons rfl (.cons rv .nil)) q) fun r s' hq => ?_)
  cases r with
  | error e => exact hx pins H s e s' I hq
  | ok fl =>
    cases fl with
    | ret w => exact I.after hq
    | _ => exact False.elim hq
end
/-! ### readings -/
def tBinO (C : Addr) (sp : Sp) (E : L2.St → XK) (ta tb : TE) : TE := fun σ H Q => ta σ H fun x H1 => tb σ H1 fun y H2 => ∃ a dx fs b dy gs, x = .ref a ∧ y = .ref b ∧ H2 a = some (.ins C dx fs) ∧ H2 b = some (.ins C dy gs) ∧ sp [x, y] H2 Q (E σ)
def tInO (C : Addr) (neg : Bool) (sp : Sp) (E : L2.St → XK) (ta tb : TE) : TE := fun σ H Q => ta σ H fun x H1 => tb σ H1 fun y H2 => ∃ b dy gs, y = .ref b ∧ H2 b = some (.ins C dy gs) ∧ sp [y, x] H2 (fun z H' => ∃ c, z = .bl c ∧ Q (.bl (if neg then !c else c)) H') (E σ)
def tLenO (C : Addr) (sp : Sp) (E : L2.St → XK) (ta : TA) : TE := fun σ H Q => ta σ H fun vs H1 => ∃ a dx fs, vs = [.ref a] ∧ H1 a = some (.ins C dx fs) ∧ sp [.ref a] H1 (fun z H' => ∃ i, z = .int i ∧ (0 ≤ i ∧ i < 2 ^ 63) ∧ Q (.int i) H') (E σ)
def tSubO (C : Addr) (sp : Sp) (E : L2.St → XK) (ta tb : TE) : TE := fun σ H Q => ta σ H fun x H1 => tb σ H1 fun y H2 => ∃ a dx fs, x = .ref a ∧ H2 a = some (.ins C dx fs) ∧ sp [x, y] H2 Q (E σ)
section
variable {X : Cx} {C g : Addr} {sp : Sp} {k : Nat} {W : WX} {a b : Expr} {ta tb : TE} {pos p1 : Pos}
theorem quietAt {CX : CXT} (h : ∀ X : Cx, X.prog = X.prog → CX = CX → Passes CX X E0) {σ : L2.St} : PassesAt CX X σ E0 := fun pins H s e s' I c => h X rfl rfl pins σ H s e s' I c
theorem pe_binO {op : Operator} (G : DfM X.prog X.w X.K X.mg X.base g k [] sp) (D : Dun X.K C g (PySem.dunder op.info.2)) (hc : PySem.W.selfFirst X.K C = true) (hr : Room k X.A) (ha : PE X a ta) (hb : PE X b tb) : PE X (.BinOp a op b pos) (tBinO C sp (fun _ => E0) ta tb) := by
  obtain ⟨CX, fd, ps, ds, F, hbd, hd, hx⟩ := G.ex
  cases hd
  constructor; intro pins s σ H Q I h
  exact wpAny_BinOp (binT ha hb I h fun v u s2 x y H2 I2 rx ry q => by
    obtain ⟨a', dx, fs, b', dy, gs, rfl, rfl, h1, h2, q⟩ := q
    cases rx; cases ry
    exact bin_at F hbd D hc hr (fun pins H s e s' I c => hx X rfl rfl pins σ H s e s' I c) I2 h1 h2 q)
theorem pe_binOX {op : Operator} (G : DfMX X.prog X.w X.K X.mg X.base g k sp) (D : Dun X.K C g (PySem.dunder op.info.2)) (hc : PySem.W.selfFirst X.K C = true) (hr : Room k X.A) (tw : Takes X W) (ha : PE X a ta) (hb : PE X b tb) : PE X (.BinOp a op b pos) (tBinO C sp (WE W) ta tb) := by
  obtain ⟨fd, ps, F, hbd⟩ := G.ex
  constructor; intro pins s σ H Q I h
  exact wpAny_BinOp (binT ha hb I h fun v u s2 x y H2 I2 rx ry q => by
    obtain ⟨a', dx, fs, b', dy, gs, rfl, rfl, h1, h2, q⟩ := q
    cases rx; cases ry
    exact bin_at F hbd D hc hr (passAt tw σ) I2 h1 h2 q)
theorem pe_eqO (G : DfM X.prog X.w X.K X.mg X.base g k [] sp) (D : Dun X.K C g "__eq__") (hr : Room k X.A) (ha : PE X a ta) (hb : PE X b tb) (hm : behindInMarks .Eq b = false) : PE X (.Compare a [.Eq] [b] pos) (tBinO C sp (fun _ => E0) ta tb) := by
  obtain ⟨CX, fd, ps, ds, F, hbd, hd, hx⟩ := G.ex
  cases hd
  constructor; intro pins s σ H Q I h
  exact wpAny_Compare1 (binT ha hb I h fun v u s2 x y H2 I2 rx ry q => by
    obtain ⟨a', dx, fs, b', dy, gs, rfl, rfl, h1, h2, q⟩ := q
    cases rx; cases ry
    exact eq_at F hbd D hr (fun pins H s e s' I c => hx X rfl rfl pins σ H s e s' I c) I2 h1 h2 q) hm
theorem pe_inO (G : DfM X.prog X.w X.K X.mg X.base g k [] sp) (D : Dun X.K C g "__contains__") (hr : Room k X.A) (ha : PE X a ta) (hb : PE X b tb) (hm : behindInMarks .In b = false) : PE X (.Compare a [.In] [b] pos) (tInO C false sp (fun _ => E0) ta tb) := by
  obtain ⟨CX, fd, ps, ds, F, hbd, hd, hx⟩ := G.ex
  cases hd
  constructor; intro pins s σ H Q I h
  exact wpAny_Compare1 (binT ha hb I h fun v u s2 x y H2 I2 rx ry q => by
    obtain ⟨b', dy, gs, rfl, h1, q⟩ := q
    cases ry
    exact in_at (neg := false) F hbd D hr (fun pins H s e s' I c => hx X rfl rfl pins σ H s e s' I c) I2 h1 rx q) hm
theorem pe_ninO (G : DfM X.prog X.w X.K X.mg X.base g k [] sp) (D : Dun X.K C g "__contains__") (hr : Room k X.A) (ha : PE X a ta) (hb : PE X b tb) (hm : behindInMarks .NotIn b = false) : PE X (.Compare a [.NotIn] [b] pos) (tInO C true sp (fun _ => E0) ta tb) := by
  obtain ⟨CX, fd, ps, ds, F, hbd, hd, hx⟩ := G.ex
  cases hd
  constructor; intro pins s σ H Q I h
  exact wpAny_Compare1 (binT ha hb I h fun v u s2 x y H2 I2 rx ry q => by
    obtain ⟨b', dy, gs, rfl, h1, q⟩ := q
    cases ry
    exact in_at (neg := true) F hbd D hr (fun pins H s e s' I c => hx X rfl rfl pins σ H s e s' I c) I2 h1 rx q) hm
theorem pe_lenO {cp : Pos} (G : DfM X.prog X.w X.K X.mg X.base g k [] sp) (D : Dun X.K C g "__len__") (hr : Room (k + 1) X.A) (hg : Gl X "len") (hm : X.mg "len" = none) (hbb : bootBuiltins "len" = some (.builtin "len")) {tl : TA} (ha : PA X [a] tl)
    (hst : starEach [a] X.env = (false, eval a X.env) :: starEach [] X.env := by rfl) : PE X (.Call (.Name "len" cp) [a] [] pos) (tLenO C sp (fun _ => E0) tl) := by
  obtain ⟨CX, fd, ps, ds, F, hbd, hd, hx⟩ := G.ex
  cases hd
  constructor; intro pins s σ H Q I h
  refine wpAny_Call_Name_kw (ld_blt (u := .builtin "len") I hg hm hbb ?_ (by decide) (by decide))
  refine PyProof.Rows.callWith_builtin1 (thn (ha.run pos pins s σ H _ I h) fun u s1 hh => ?_) hst rfl
  obtain ⟨x, H1, I1, rx, a', dx, fs, rfl, h1, q⟩ := hh
  obtain ⟨u1, rfl, ru⟩ := rx.one
  cases ru
  exact len_at F hbd D hr (fun pins H s e s' I c => hx X rfl rfl pins σ H s e s' I c) I1 h1 q
theorem pe_subO (G : DfM X.prog X.w X.K X.mg X.base g k [] sp) (D : Dun X.K C g "__getitem__") (hf : PySem.W.fnIn X.K g = true) (hr : Room (k + 1) X.A) (ha : PE X a ta) (hb : PE X b tb)
    (hsl : ∀ o i, subscripted b true o i = runValue (.builtin "lifetime.subscript" ⟨[o, i], []⟩) := by intro _ _; with_unfolding_all rfl) : PE X (.Subscript a b pos) (tSubO C sp (fun _ => E0) ta tb) := by
  obtain ⟨CX, fd, ps, ds, F, hbd, hd, hx⟩ := G.ex
  cases hd
  constructor; intro pins s σ H Q I h
  exact Subscript_ (binT ha hb I h fun v u s2 x y H2 I2 rx ry q => by
    obtain ⟨a', dx, fs, rfl, h1, q⟩ := q
    cases rx
    exact sub_at F hbd D hf hr (fun pins H s e s' I c => hx X rfl rfl pins σ H s e s' I c) I2 h1 ry q (hsl _ _))
theorem pe_subOX (G : DfMX X.prog X.w X.K X.mg X.base g k sp) (D : Dun X.K C g "__getitem__") (hf : PySem.W.fnIn X.K g = true) (hr : Room (k + 1) X.A) (tw : Takes X W) (ha : PE X a ta) (hb : PE X b tb)
    (hsl : ∀ o i, subscripted b true o i = runValue (.builtin "lifetime.subscript" ⟨[o, i], []⟩) := by intro _ _; with_unfolding_all rfl) : PE X (.Subscript a b pos) (tSubO C sp (WE W) ta tb) := by
  obtain ⟨fd, ps, F, hbd⟩ := G.ex
  constructor; intro pins s σ H Q I h
  exact Subscript_ (binT ha hb I h fun v u s2 x y H2 I2 rx ry q => by
    obtain ⟨a', dx, fs, rfl, h1, q⟩ := q
    cases rx
    exact sub_at F hbd D hf hr (passAt tw σ) I2 h1 ry q (hsl _ _))
end
/-! ### what they are worth -/
section
variable {K : PySem.W.Frag} {e : En} {m m1 m2 : Md} {α X R : Type} {args : α → List D} {pre : α → Prop} {out : α → D} {outO : α → OD} {outZ : α → Rz X R} {cC : X → Addr} {cF : X → Option (List (Str × D))} {enc : R → D} {ta tb : TE} {C : Addr} {fs gs : List (Str × D)} {d : D} {W : WX} {r : R} {x : X}
theorem two_args {B H1 T1 H2 T2 : Hp} {v w : V} {d1 d2 : D} (i1 : MIs m1 K B H1 T1 v d1) (hh : Le H1 H2) (ht : Le T1 T2) (i2 : MIs m2 K B H2 T2 w d2) (hB : Le B H2) (hT : Le T2 H2) : MIss K H2 H2 T2 [m1, m2] [v, w] [d1, d2] := by
  have i3 : MIss K B H2 T2 [m1, m2] [v, w] [d1, d2] := ⟨i1.mono hh ht, i2, trivial⟩
  exact i3.rebase hB hT
theorem ev_binO (a : α) (hp : pre a) (h1 : Ev K m1 ta e (.ins C fs)) (h2 : Ev K m2 tb e (.ins C gs)) (ha : args a = [.ins C fs, .ins C gs]) : Ev K m (tBinO C (SpP K [m1, m2] args pre out) (fun _ => E0) ta tb) e (out a) := Ev.up fun B T0 σ H T s Q q => h1 B T0 σ H T s _ fun v H1 T1 g1 i1 => h2 B T0 σ H1 T1 (s.grow g1) _ fun w H2 T2 g2 i2 => by
  have hB := (s.grow g1).gr.h.trans g2.h
  obtain ⟨a1, dx, fvs, rfl, hb, hf⟩ := ins_at (i1.mono g2.h g2.t) hB g2.s
  obtain ⟨a2, dy, gvs, rfl, hb2, hf2⟩ := ins_at i2 hB g2.s
  refine ⟨a1, dx, fvs, a2, dy, gvs, rfl, rfl, hb, hb2, T2, a, g2.s, hp, ?_, fun d v H3 T3 hd g3 i3 => q v H3 T3 ((g1.trans g2).trans g3) (hd ▸ i3)⟩
  rw [ha]
  exact two_args i1 g2.h g2.t i2 hB g2.s
theorem evo_binO (a : α) (hp : pre a) (h1 : Ev K m1 ta e (.ins C fs)) (h2 : Ev K m2 tb e (.ins C gs)) (ha : args a = [.ins C fs, .ins C gs]) : EvO K (tBinO C (SpO K [m1, m2] args pre outO) (fun _ => E0) ta tb) e (outO a) := fun B T0 σ H T s Q q => h1 B T0 σ H T s _ fun v H1 T1 g1 i1 => h2 B T0 σ H1 T1 (s.grow g1) _ fun w H2 T2 g2 i2 => by
  have hB := (s.grow g1).gr.h.trans g2.h
  obtain ⟨a1, dx, fvs, rfl, hb, hf⟩ := ins_at (i1.mono g2.h g2.t) hB g2.s
  obtain ⟨a2, dy, gvs, rfl, hb2, hf2⟩ := ins_at i2 hB g2.s
  refine ⟨a1, dx, fvs, a2, dy, gvs, rfl, rfl, hb, hb2, T2, a, g2.s, hp, ?_, fun p H3 T3 g3 h1 h2 h3 => q p H3 T3 ((g1.trans g2).trans g3) ((g1.trans g2).h.back h1) h2 h3⟩
  rw [ha]
  exact two_args i1 g2.h g2.t i2 hB g2.s
theorem ev_binZ (a : α) (hp : pre a) (hv : outZ a = .ok r) (h1 : Ev K m1 ta e (.ins C fs)) (h2 : Ev K m2 tb e (.ins C gs)) (ha : args a = [.ins C fs, .ins C gs]) : Ev K m (tBinO C (SpZ K cC cF [m1, m2] args pre outZ enc) (WE W) ta tb) e (enc r) := Ev.up fun B T0 σ H T s Q q => h1 B T0 σ H T s _ fun v H1 T1 g1 i1 => h2 B T0 σ H1 T1 (s.grow g1) _ fun w H2 T2 g2 i2 => by
  have hB := (s.grow g1).gr.h.trans g2.h
  obtain ⟨a1, dx, fvs, rfl, hb, hf⟩ := ins_at (i1.mono g2.h g2.t) hB g2.s
  obtain ⟨a2, dy, gvs, rfl, hb2, hf2⟩ := ins_at i2 hB g2.s
  refine ⟨a1, dx, fvs, a2, dy, gvs, rfl, rfl, hb, hb2, T2, a, g2.s, hp, ?_, fun d v H3 T3 ⟨r', hr, hd⟩ g3 i3 => ?_, fun C o od H2 T2 ⟨x, hx, _⟩ => Rz.no hv hx⟩
  · rw [ha]
    exact two_args i1 g2.h g2.t i2 hB g2.s
  · cases Rz.inj hv hr; subst hd
    exact q v H3 T3 ((g1.trans g2).trans g3) i3
theorem dv_binZ (a : α) (hp : pre a) (hx : outZ a = .ex x) (h1 : Ev K m1 ta e (.ins C fs)) (h2 : Ev K m2 tb e (.ins C gs)) (ha : args a = [.ins C fs, .ins C gs]) : Dv K W (tBinO C (SpZ K cC cF [m1, m2] args pre outZ enc) (WE W) ta tb) e (cC x) (cF x) := fun B T0 σ H T s Q q => h1 B T0 σ H T s _ fun v H1 T1 g1 i1 => h2 B T0 σ H1 T1 (s.grow g1) _ fun w H2 T2 g2 i2 => by
  have hB := (s.grow g1).gr.h.trans g2.h
  obtain ⟨a1, dx, fvs, rfl, hb, hf⟩ := ins_at (i1.mono g2.h g2.t) hB g2.s
  obtain ⟨a2, dy, gvs, rfl, hb2, hf2⟩ := ins_at i2 hB g2.s
  refine ⟨a1, dx, fvs, a2, dy, gvs, rfl, rfl, hb, hb2, T2, a, g2.s, hp, ?_, fun d v H3 T3 ⟨r', hr, hd⟩ => Rz.no hr hx, fun C o od H3 T3 ⟨y, hy, hC, hF⟩ g3 z => ?_⟩
  · rw [ha]
    exact two_args i1 g2.h g2.t i2 hB g2.s
  · cases Rz.injX hx hy; subst hC hF
    exact q od H3 T3 ((g1.trans g2).trans g3) z
theorem ev_inO {neg b : Bool} (a : α) (hp : pre a) (h1 : Ev K m2 ta e d) (h2 : Ev K m1 tb e (.ins C gs)) (ha : args a = [.ins C gs, d]) (ho : out a = .bl b) : Ev K m (tInO C neg (SpP K [m1, m2] args pre out) (fun _ => E0) ta tb) e (.bl (if neg then !b else b)) := Ev.up fun B T0 σ H T s Q q => h1 B T0 σ H T s _ fun v H1 T1 g1 i1 => h2 B T0 σ H1 T1 (s.grow g1) _ fun w H2 T2 g2 i2 => by
  have hB := (s.grow g1).gr.h.trans g2.h
  obtain ⟨a2, dy, gvs, rfl, hb2, hf2⟩ := ins_at i2 hB g2.s
  refine ⟨a2, dy, gvs, rfl, hb2, T2, a, g2.s, hp, ?_, fun d v H3 T3 hd g3 i3 => ?_⟩
  · rw [ha]
    have i3 : MIss K B H2 T2 [m1, m2] [.ref a2, v] [.ins C gs, d] := ⟨i2, i1.mono g2.h g2.t, trivial⟩
    exact i3.rebase hB g2.s
  · rw [hd, ho] at i3
    cases i3
    exact ⟨b, rfl, q _ H3 T3 ((g1.trans g2).trans g3) (.bl _)⟩
theorem ev_lenO {i : Int} (a : α) (hp : pre a) (h1 : Ev K m1 ta e (.ins C fs)) (ha : args a = [.ins C fs]) (ho : out a = .int i) (hi : 0 ≤ i ∧ i < 2 ^ 63) : Ev K m (tLenO C (SpP K [m1] args pre out) (fun _ => E0) (tCons ta tNil)) e (.int i) := Ev.up fun B T0 σ H T s Q q => h1 B T0 σ H T s _ fun v H1 T1 g1 i1 => by
  have hB := s.gr.h.trans g1.h
  obtain ⟨a2, dy, gvs, rfl, hb2, hf2⟩ := ins_at i1 hB g1.s
  refine ⟨a2, dy, gvs, rfl, hb2, T1, a, g1.s, hp, ?_, fun d v H3 T3 hd g3 i3 => ?_⟩
  · rw [ha]
    have i3 : MIss K B H1 T1 [m1] [.ref a2] [.ins C fs] := ⟨i1, trivial⟩
    exact i3.rebase hB g1.s
  · rw [hd, ho] at i3
    cases i3
    exact ⟨i, rfl, hi, q _ H3 T3 (g1.trans g3) (.int _)⟩
theorem ev_subO (a : α) (hp : pre a) (h1 : Ev K m1 ta e (.ins C fs)) (h2 : Ev K m2 tb e d) (ha : args a = [.ins C fs, d]) : Ev K m (tSubO C (SpP K [m1, m2] args pre out) (fun _ => E0) ta tb) e (out a) := Ev.up fun B T0 σ H T s Q q => h1 B T0 σ H T s _ fun v H1 T1 g1 i1 => h2 B T0 σ H1 T1 (s.grow g1) _ fun w H2 T2 g2 i2 => by
  have hB := (s.grow g1).gr.h.trans g2.h
  obtain ⟨a1, dx, fvs, rfl, hb, hf⟩ := ins_at (i1.mono g2.h g2.t) hB g2.s
  refine ⟨a1, dx, fvs, rfl, hb, T2, a, g2.s, hp, ?_, fun d v H3 T3 hd g3 i3 => q v H3 T3 ((g1.trans g2).trans g3) (hd ▸ i3)⟩
  rw [ha]
  exact two_args i1 g2.h g2.t i2 hB g2.s
theorem ev_subZ (a : α) (hp : pre a) (hv : outZ a = .ok r) (h1 : Ev K m1 ta e (.ins C fs)) (h2 : Ev K m2 tb e d) (ha : args a = [.ins C fs, d]) : Ev K m (tSubO C (SpZ K cC cF [m1, m2] args pre outZ enc) (WE W) ta tb) e (enc r) := Ev.up fun B T0 σ H T s Q q => h1 B T0 σ H T s _ fun v H1 T1 g1 i1 => h2 B T0 σ H1 T1 (s.grow g1) _ fun w H2 T2 g2 i2 => by
  have hB := (s.grow g1).gr.h.trans g2.h
  obtain ⟨a1, dx, fvs, rfl, hb, hf⟩ := ins_at (i1.mono g2.h g2.t) hB g2.s
  refine ⟨a1, dx, fvs, rfl, hb, T2, a, g2.s, hp, ?_, fun d v H3 T3 ⟨r', hr, hd⟩ g3 i3 => ?_, fun C o od H2 T2 ⟨x, hx, _⟩ => Rz.no hv hx⟩
  · rw [ha]
    exact two_args i1 g2.h g2.t i2 hB g2.s
  · cases Rz.inj hv hr; subst hd
    exact q v H3 T3 ((g1.trans g2).trans g3) i3
theorem dv_subZ (a : α) (hp : pre a) (hx : outZ a = .ex x) (h1 : Ev K m1 ta e (.ins C fs)) (h2 : Ev K m2 tb e d) (ha : args a = [.ins C fs, d]) : Dv K W (tSubO C (SpZ K cC cF [m1, m2] args pre outZ enc) (WE W) ta tb) e (cC x) (cF x) := fun B T0 σ H T s Q q => h1 B T0 σ H T s _ fun v H1 T1 g1 i1 => h2 B T0 σ H1 T1 (s.grow g1) _ fun w H2 T2 g2 i2 => by
  have hB := (s.grow g1).gr.h.trans g2.h
  obtain ⟨a1, dx, fvs, rfl, hb, hf⟩ := ins_at (i1.mono g2.h g2.t) hB g2.s
  refine ⟨a1, dx, fvs, rfl, hb, T2, a, g2.s, hp, ?_, fun d v H3 T3 ⟨r', hr, hd⟩ => Rz.no hr hx, fun C o od H3 T3 ⟨y, hy, hC, hF⟩ g3 z => ?_⟩
  · rw [ha]
    exact two_args i1 g2.h g2.t i2 hB g2.s
  · cases Rz.injX hx hy; subst hC hF
    exact q od H3 T3 ((g1.trans g2).trans g3) z
end
end Fh

set_option Elab.async false
set_option linter.all false
set_option maxRecDepth 100000
set_option maxHeartbeats 4000000
/-! FhD2: walking over instances whose __iter__ gives iter(self.f), f a tuple; list(..) of such -/
namespace Fh
open PySem PySem.Spec PyProof.Rows L2

/-- a tuple's iterator at its start -/
def TiO (t it : Addr) (i : Nat) : HO := .ext fun h => h.IsTupleIter it t i
theorem tiO_ok {P : Program} {w : World} {H : Hp} {h : Heap} {t it : Addr} {i : Nat} (e : h.IsTupleIter it t i) : ObjOk P w H h it (TiO t it i) := ⟨e, (let ⟨o, ho, _⟩ := e; ⟨o, ho⟩), fun h1 h2 q k => Heap.IsTupleIter.at q k⟩
def rIterT (K : PySem.W.Frag) (n : Nat) : List V → Hp → VK → Prop := fun xs H Q => ∃ (t : Addr) (zs : List V), xs = [.ref t] ∧ SqT K H t zs ∧ ∀ it, H it = none → n ≤ it → Q (.ref it) (upd H it (TiO t it 0))
section
variable {X : Cx}
theorem call_iterT : CallR X (.builtin "iter") (rIterT X.K X.s_0.heap.objs.size) := by
  intro pins s σ H xs us Q I r h
  obtain ⟨t, zs, rfl, hq, q⟩ := h
  obtain ⟨u, rfl, ru⟩ := vals1 r
  cases ru
  obtain ⟨its, rv, pl, hz⟩ := I.tuple hq
  refine Calls.call_function_entry (by decide +kernel) (by decide +kernel) PySem.W.kdk_entry_iter (PySem.W.kdk_args_iter _) ?_
  unfold Builtin.«iter»
  refine wpAny_bind (m := someArgs "iter" 1 2 _) (wpAny_of_eq (a := [Value.ref t]) (by first | rfl | kernel_rfl!) ?_)
  show wpAny _ _ (pyIter (.ref t) >>= _) _ _ _
  refine wpAny_bind (wpAny_pyIter_tuple (show s.heap.IsTuple t its.toArray from pl) ?_)
  refine wpAny_pure ⟨_, rfl, ?_⟩
  have e : (s.heap.push { cls := .type "tuple_iterator", data := .fields #[.ref t, .int 0 0] }).IsTupleIter s.heap.objs.size t 0 := ⟨_, Heap.get?_push_size _ rfl, rfl, rfl⟩
  exact ⟨.ref s.heap.objs.size, _, I.laid (t' := s.toks) (fun b u e => Heap.get?_push_of_some _ e) (Nat.le_refl _) (tiO_ok e), rfl, q _ (I.hok.fresh (Nat.le_refl _)) I.sz⟩
end
/-- an __iter__ that hands out the iterator of the tuple in the field f -/
structure DfIt (P : Program) (w : World) (K : PySem.W.Frag) (mg : Str → Option Value) (base : Heap) (g : Addr) (k : Nat) (C : Addr) (f : Str) : Prop where
  run : ∀ (A : Around) (outer : List Env) (s : Shared) (H : Hp) (a dx t : Addr) (fs : List (Str × V)) (items : List V) (Q : VK), Room k A → Env0 P w K mg base A outer s H → H a = some (.ins C dx fs) → fs.lookup f = some (.ref t) → SqT K H t items →
    (∀ it, H it = none → s.heap.objs.size ≤ it → Q (.ref it) (upd H it (TiO t it 0))) → codeAny (model P w) A (.call (.ref g) ⟨[.ref a], []⟩) (CR CX0 outer P w H s Q E0) s
section
variable {P : Program} {w : World} {K : PySem.W.Frag} {mg : Str → Option Value} {base : Heap} {nm qn : Str} {st : Stmt} {N : List Str} {k : Nat}
theorem DdM.dfIt {a C : Addr} {f : Str} (F : DdM K a nm qn st [] []) (c : Cls K C) (n : NoAttr K C f) (S : FnScope N [("self" : Str)] (defScope st))
    (bd : ∀ (kV doc pm : Value) (an : Option Addr) (cdv ct : Value) (us : List Value), us.length = [("self" : Str)].length → bindArgs (PySem.W.fnOf nm qn (defArgs st) (defBody st) (defScope st) .none kV doc pm an cdv ct) ⟨us, []⟩ = pure ([("self" : Str)].zip us))
    (hb : ∀ (fa : Addr) (cdv : Value) (A : Around) (outer : List Env) (s : Shared) (H : Hp) (E : XK), Room k (A.deeper (envOfC qn (defScope st) s.heap.objs.size fa cdv)) →
      PSs (cxOf CX0 P w K mg base N qn (defScope st) fa cdv A outer s H E).nox (defBody st) (tRet (tCB (rIterT K s.heap.objs.size) (tCons (tAt K (tVar 0) f) tNil)))) : DfIt P w K mg base a (k + 1) C f := by
  obtain ⟨fd, F⟩ := F
  have bn := F.bindsN bd
  obtain ⟨oc, od, dV, kV, doc, pm, an, cdv, ct, osl, rfl, lk, hcd, _, _⟩ := F.ex
  refine ⟨fun A outer s H x dx t fs items Q hr e0 hx hl hq q => ?_⟩
  have KX : K.In s.heap := e0.mod.kin.keeps fun b o e => (e0.bs b o e).1
  have b := bn s [.ref x] KX rfl
  rw [List.append_nil] at b
  refine LamX.run_ofS (us := [.ref x]) (vs := [.ref x]) lk hcd S hr e0 b (.cons rfl .nil) rfl fun hr' => ⟨_, (hb a cdv A outer s H E0 hr').nox, ?_⟩
  have hs : (L2.start N [V.ref x])[0]? = some (some (.ref x)) := by unfold L2.start; rfl
  exact ⟨_, hs, .inl ⟨x, C, dx, fs, .ref t, rfl, hx, ⟨c, n⟩, hl, t, items, rfl, hq, q⟩⟩
end
/-! ### walks -/
theorem next_tupiter : typeLookup (.type "tuple_iterator") "__next__" = pure (some (.builtin "tuple_iterator.__next__")) := PySem.F.slot_tuple_iterator_next.lookup
section
variable {X : Cx} {CX : CXT} {C g a dx : Addr} {fd : FuncData} {ps : List Str} {f : Str} {k : Nat} {pins : List (Addr × Obj)} {σ : L2.St} {H : Hp} {s : Shared} {fs : List (Str × V)} {t : Addr} {items : List V}
/-- what stands when the iterator has come: nothing new is known, the iterator is young -/
structure ItHere (X : Cx) (pins : List (Addr × Obj)) (σ : L2.St) (H : Hp) (t it : Addr) (i : Nat) (s : Shared) : Prop where
  inv : Inv X pins σ H s
  fp : FpOk X pins H it
  st : s.heap.IsTupleIter it t i
theorem iter_own {A1 : Around} {Q : Value → Shared → Prop} (G : DfIt X.prog X.w X.K X.mg X.base g k C f) (D : Dun X.K C g "__iter__") (hr : Room k A1) (hfr : A1.frames = X.A.frames)
    (I : Inv X pins σ H s) (ha : H a = some (.ins C dx fs)) (hl : fs.lookup f = some (.ref t)) (hq : SqT X.K H t items) {xe : Value → Shared → Prop} (h : ∀ it s', ItHere X pins σ H t it 0 s' → Q (.ref it) s') : wpAny (model X.prog X.w) A1 (pyIter (.ref a)) Q xe s := by
  obtain ⟨o1, d1, J⟩ := ins_inst I ha
  obtain ⟨m, hF⟩ := I.fr
  refine PySem.W.owit_iter hF I.ok.mod.kin J D.at_ D.fn ?_
  have e0 : Env0 X.prog X.w X.K X.mg X.base A1 X.stack s H := by
    have e := I.env0
    exact ⟨by rw [hfr]; exact e.frames, e.mod, e.bs, e.bsz, e.funs, e.frf, e.hok, e.bare⟩
  refine wpAny_call (codeAny_mono (G.run A1 X.stack s H a dx t fs items (fun v H' => ∃ it, v = .ref it ∧ H it = none ∧ s.heap.objs.size ≤ it ∧ H' = upd H it (TiO t it 0)) hr e0 ha hl hq fun it h1 h2 => ⟨it, rfl, h1, h2, rfl⟩) fun r s' hq' => ?_)
  cases r with
  | error e => exact False.elim hq'
  | ok fl =>
    cases fl with
    | ret u =>
      obtain ⟨v, H', I', rv, it, rfl, hn, hs, eH⟩ := I.after hq'
      cases rv
      rw [eH] at I'
      have st : s'.heap.IsTupleIter it t 0 := (I'.hok it _ upd_same).1
      have I2 := ItX.inv_drop (φ := fun h => h.IsTupleIter it t 0) I' upd_same
      have F2 := ItX.inv_fp I' (u := TiO t it 0) upd_same (Nat.le_trans I.sz hs)
      rw [ItX.dropH_upd hn] at I2 F2
      show PySem.W.OwitIt _ _ _ _ _ _
      unfold PySem.W.OwitIt
      exact wpAny_specialOf st.typeIs next_tupiter (h it s' ⟨I2, F2, st⟩)
    | _ => exact False.elim hq'
end
/-- for x in o -/
def iOwn (K : PySem.W.Frag) (C : Addr) (f : Str) (te : TE) : TI := fun σ H R => te σ H fun x H1 => ∃ a dx fs t items, x = .ref a ∧ H1 a = some (.ins C dx fs) ∧ fs.lookup f = some (.ref t) ∧ SqT K H1 t items ∧ R (Itt K t) H1
theorem pi_own {X : Cx} {C g : Addr} {f : Str} {k : Nat} {l tg : Expr} {te : TE} (G : DfIt X.prog X.w X.K X.mg X.base g k C f) (D : Dun X.K C g "__iter__") (hr : Room k X.A) (hl : PE X l te) : PI X tg l (iOwn X.K C f te) := by
  constructor; intro pins s σ H R I h
  refine thn (hl.run pins s σ H _ I h) fun v s1 hh => ?_
  obtain ⟨x, H1, I1, r1, a, dx, fs, t, items, rfl, ha, hf, hq, q⟩ := hh
  cases r1
  refine iter_own G D hr rfl I1 ha hf hq fun it s2 h2 => ?_
  exact ⟨it, [it], _, Itt X.K t, H1, rfl, h2.inv, turn_tuple t it, h2.st, fun b hb => by rw [List.mem_singleton.mp hb]; exact h2.fp, q⟩
/-! ### list(o) -/
section
variable {X : Cx} {C g q it : Addr} {f : Str} {k : Nat} {pins : List (Addr × Obj)} {σ : L2.St} {H : Hp} {A1 : Around} {t : Addr} {items : List V} {Rs : Result → Shared → Prop}
theorem take_snoc {α : Type} {l : List α} {i : Nat} {x : α} (h : l[i]? = some x) : l.take (i + 1) = l.take i ++ [x] := by
  rw [List.take_add_one, h]; rfl
/-- the tuple's items, one by one, into the list at q -/
theorem fill_own (hh : A1.handled = none) (hq0 : H q = none) (hq : SqT X.K H t items) (hz : items.length ≤ sizeLine) (hfin : ∀ s, Inv X pins σ (upd H q (.lst items)) s → Rs (.ok (.ret .none)) s) :
    ∀ (n i : Nat) (s : Shared), items.length - i = n → i ≤ items.length → ItHere X pins σ (upd H q (.lst (items.take i))) t it i s → codeAny (model X.prog X.w) A1 (.builtin "list.extend.loop" ⟨[.ref q, .ref it, .none], []⟩) Rs s := by
  intro n
  induction n with
  | zero =>
    intro i s hn hi S
    have e : i = items.length := by omega
    subst e
    refine codeAny_builtin PySem.F.entry_extend_loop ?_
    rw [Around.under_plainId PySem.F.plain_extend_loop _]
    show wpAny _ A1.in1 (pyNext (.ref it) >>= _) _ _ s
    obtain ⟨f0, f1, f2, f3, f4, f5⟩ := S.fp
    have hq' : SqT X.K (upd H q (.lst (items.take items.length))) t items := (Le.new hq0).sqT hq
    obtain ⟨its, rv, p, _⟩ := S.inv.tuple hq'
    have hl := rv.length
    refine wpAny_bind (wpAny_pyNext_tuple_end (A := A1.in1) hh S.st (show s.heap.IsTuple t its.toArray from p) (by simp; omega) fun h' eb => ?_)
    have I1 := S.inv.turned (t' := s.toks) (fun b o hb e => eb b o hb e) f0 f1 f3 f4 f5
    refine wpAny_pure (hfin _ ?_)
    rw [List.take_length] at I1
    exact I1
  | succ n ih =>
    intro i s hn hi S
    have hi2 : i < items.length := by omega
    refine codeAny_builtin PySem.F.entry_extend_loop ?_
    rw [Around.under_plainId PySem.F.plain_extend_loop _]
    show wpAny _ A1.in1 (pyNext (.ref it) >>= _) _ _ s
    obtain ⟨f0, f1, f2, f3, f4, f5⟩ := S.fp
    have hq' : SqT X.K (upd H q (.lst (items.take i))) t items := (Le.new hq0).sqT hq
    obtain ⟨its, rv, p, _⟩ := S.inv.tuple hq'
    obtain ⟨u, hu, ru⟩ := rv.get (List.getElem?_eq_getElem hi2)
    refine wpAny_bind (wpAny_pyNext_tuple_item (A := A1.in1) S.st (show s.heap.IsTuple t its.toArray from p) (x := u) (by simpa using hu) fun h' st' sb => ?_)
    have I1 : Inv X pins σ (upd H q (.lst (items.take i))) { s with heap := h' } := S.inv.turned (t' := s.toks) (fun b o hb e => (sb.2 b hb).trans e) f0 f1 f3 f4 f5
    show wpAny _ A1.in1 (updateSeq q (·.push u) >>= _) _ _ _
    obtain ⟨z, its2, k2, r2, hl2, e2⟩ := I1.lstM upd_same
    have hl3 : (items.take i).length = its2.length := r2.length
    rw [List.length_take] at hl3
    have I2 := I1.lset (f := (·.push u)) (its' := its2 ++ [u]) (ys := items.take i ++ [items[i]]) (t' := s.toks) upd_same e2 (by simp) (r2.append (.cons ru .nil)) (by rw [List.length_append, List.length_take, List.length_singleton]; omega)
    rw [upd_upd, ← take_snoc (List.getElem?_eq_getElem hi2)] at I2
    have hne : it ≠ q := fun z => by rw [z, upd_same] at f0; cases f0
    refine wpAny_bind (wpAny_updateSeq e2 rfl (wpAny_pure ⟨plainId_quiet PySem.F.plain_extend_loop _, ?_⟩) (by rw [List.size_toArray]; omega) (by show (its2.toArray.push u).size ≤ sizeLine + 1; rw [Array.size_push, List.size_toArray]; omega))
    refine ih (i + 1) _ (by omega) (by omega) ⟨I2, ⟨by rw [upd_ne hne]; rw [upd_ne hne] at f0; exact f0, f1, f2, f3, f4, f5⟩, ?_⟩
    exact Heap.IsTupleIter.at st' fun o e => by
      show (Heap.update _ _ _).get? it = some o
      rw [Heap.get?_update_ne _ _ _ _ hne]; exact e
end
end Fh

set_option Elab.async false
set_option linter.all false
set_option maxRecDepth 100000
set_option maxHeartbeats 4000000
/-! FhD3: list(o) of an instance that is walked over by its __iter__; the rules -/
namespace Fh
open PySem PySem.Spec PyProof.Rows L2

/-- the class says nothing of a length -/
structure NoLn (K : PySem.W.Frag) (C : Addr) : Prop where
  nolen : PySem.W.findIn K (.ref C) "__len__" = some none
  nohint : PySem.W.findIn K (.ref C) "__length_hint__" = some none
def noLnB (C : PySem.W.Frag → Addr) (K : PySem.W.Frag) : Bool := decide (PySem.W.findIn K (.ref (C K)) "__len__" = some none) && decide (PySem.W.findIn K (.ref (C K)) "__length_hint__" = some none)
theorem noLnB_ok {C : PySem.W.Frag → Addr} {K : PySem.W.Frag} (h : noLnB C K = true) : NoLn K (C K) := by
  obtain ⟨h1, h2⟩ := and2 h
  exact ⟨of_decide_eq_true h1, of_decide_eq_true h2⟩
theorem hint_own {M : Model} {A : Around} {E : Value → Shared → Prop} {Q : Bool → Shared → Prop} {K : PySem.W.Frag} {s : Shared} {C a : Addr} {ox : Obj} {od : Option Obj} (hc : NoLn K C) (hK : K.In s.heap) (J : PySem.W.InstAt s.heap a ox C od) (h : Q true s) :
    wpAny M A (Builtin.List.listLengthHint (.ref a)) Q E s := by
  unfold Builtin.List.listLengthHint
  refine wpAny_bind (wpAny_bind (J.type.here ((PySem.W.looks_findIn hK hc.nolen).here ?_)))
  refine PySem.W.KFB.if_not rfl ?_
  refine PySem.W.KFB.if_not rfl ?_
  refine wpAny_bind (wpAny_bind (J.type.here ((PySem.W.looks_findIn hK hc.nohint).here ?_)))
  exact wpAny_pure h
/-- list(o) -/
def rListO (K : PySem.W.Frag) (C : Addr) (f : Str) : List V → Hp → VK → Prop := fun xs H Q => ∃ a dx fs t items, xs = [.ref a] ∧ H a = some (.ins C dx fs) ∧ fs.lookup f = some (.ref t) ∧ SqT K H t items ∧ items.length ≤ sizeLine ∧ ∀ q, H q = none → Q (.ref q) (upd H q (.lst items))
section
variable {X : Cx} {C g : Addr} {f : Str} {k : Nat}
theorem call_listO (G : DfIt X.prog X.w X.K X.mg X.base g k C f) (D : Dun X.K C g "__iter__") (L : NoLn X.K C) (hr : Room (k + 2) X.A) (hc : X.calm = true) : CallR X (.type "list") (rListO X.K C f) := by
  intro pins s σ H xs us Q I rv h
  have hh := I.ok.hd hc
  obtain ⟨a, dx, fs, t, items, rfl, ha, hl, ht, hz, hq⟩ := h
  obtain ⟨u, rfl, ru⟩ := rv.one
  cases ru
  refine callType_codes (Q₁ := fun obj s₁ => obj = .ref s.heap.objs.size ∧ s₁ = { s with heap := s.heap.push { cls := .type "list", data := .seq #[] } }) PySem.F.called_list (PySem.F.typeCall_list_1 _) PySem.F.entry_list_init
    (code_list_new _ ⟨rfl, rfl⟩) fun obj s₁ h₁ => ?_
  obtain ⟨rfl, rfl⟩ := h₁
  have hS : (s.heap.push { cls := .type "list", data := .seq #[] }).get? s.heap.objs.size = some { cls := .type "list", data := .seq #[] } := Heap.get?_push_size _ rfl
  refine ⟨⟨_, hS, rfl⟩, PySem.F.args_list_init_2 _ _, ?_⟩
  have fr : H s.heap.objs.size = none := I.hok.fresh (Nat.le_refl _)
  have hq2 := hq _ fr
  have I1 : Inv X pins σ (upd H s.heap.objs.size (.lst [])) { s with heap := s.heap.push { cls := .type "list", data := .seq #[] } } := I.lnew (its := []) (t' := s.toks) .nil (Nat.zero_le _)
  show wpAny _ _ (do let old ← Builtin.List.listItems (.ref s.heap.objs.size); Builtin.List.listUpdate (.ref s.heap.objs.size) (fun _ => #[]); letGo old.toList.reverse; Builtin.List.listExtendWith (.ref s.heap.objs.size) (.ref a) .none) _ _ _
  refine wpAny_bind ?_
  unfold Builtin.List.listItems
  refine wpAny_bind (wpAny_seqItems hS rfl (wpAny_pure ?_))
  show wpAny _ _ (updateSeq s.heap.objs.size (fun _ => #[]) >>= fun _ => letGo (#[] : Array Value).toList.reverse >>= fun _ => Builtin.List.listExtendWith (.ref s.heap.objs.size) (.ref a) .none) _ _ _
  refine wpAny_bind (wpAny_updateSeq hS rfl ?_)
  have I2 := I1.lset (f := fun _ => #[]) (its := []) (its' := []) (ys := []) (t' := s.toks) upd_same hS rfl .nil (Nat.zero_le _)
  rw [upd_upd] at I2
  refine wpAny_bind (wpAny_letGo ?_)
  have hne : s.heap.objs.size ≠ a := fun z => by rw [← z, fr] at ha; cases ha
  have ha2 : upd H s.heap.objs.size (.lst []) a = some (.ins C dx fs) := by rw [upd_ne (ne_of_none ha fr)]; exact ha
  have ht2 : SqT X.K (upd H s.heap.objs.size (.lst [])) t items := (Le.new fr).sqT ht
  obtain ⟨mA, J, _⟩ := ins_get I2.hok ha2
  obtain ⟨od, J, _⟩ := J.look
  unfold Builtin.List.listExtendWith
  refine wpAny_bind (J.type.here ?_)
  have h1 : Builtin.List.listSameRef (.ref s.heap.objs.size) (.ref a) = false := by simp [Builtin.List.listSameRef, hne]
  have h2 : (Value.ref C == Value.type "list") = false := rfl
  have h3 : (Value.ref C == Value.type "tuple") = false := rfl
  simp only [h1, h2, h3, Bool.or_false, Bool.false_eq_true, if_false]
  refine wpAny_bind (iter_own G D ((hr.in1).in1) rfl I2 ha2 hl ht2 fun it s2 h2 => ?_)
  obtain ⟨mA', J', _⟩ := ins_get h2.inv.hok ha2
  obtain ⟨od', J', _⟩ := J'.look
  refine wpAny_bind (wpAny_holding (hint_own L h2.inv.kIn J' ?_))
  have fin : ∀ s', ItHere X pins σ (upd H s.heap.objs.size (.lst [])) t it 0 s' → codeAny (model X.prog X.w) X.A.in1 (.builtin "list.extend.loop" ⟨[.ref s.heap.objs.size, .ref it, .none], []⟩) (wants (fun r s₂ => r = .none ∧ EP X pins σ Q (.ref s.heap.objs.size) s₂) X.xe) s' := fun s' h' =>
    fill_own (A1 := X.A.in1) hh fr ht hz (fun s' I' => ⟨rfl, .ref s.heap.objs.size, _, I', rfl, hq2⟩) _ 0 s' rfl (Nat.zero_le _) h'
  obtain ⟨f0, f1, f2, f3, f4, f5⟩ := h2.fp
  have hne2 : it ≠ s.heap.objs.size := fun z => by rw [z, upd_same] at f0; cases f0
  obtain ⟨z, its, k', r3, hl3, e3⟩ := h2.inv.lstM upd_same
  cases r3
  refine wpAny_ite_split (fun _ => ?_) (fun _ => wpAny_pure ⟨plainId_quiet PySem.F.plain_extend_loop _, fin _ h2⟩)
  refine wpAny_bind (wpAny_rule ?_)
  refine wpAny_bind ?_
  show wpAny _ _ (updateSeq s.heap.objs.size (·.push .none) >>= fun _ => updateSeq s.heap.objs.size (·.pop)) _ _ _
  refine wpAny_bind (wpAny_updateSeq e3 rfl ?_)
  have I3 := h2.inv.lset (f := (·.push Value.none)) (its' := [Value.none]) (ys := [.non]) (t' := s2.toks) upd_same e3 (by simp) (.cons rfl .nil) (by rw [List.length_singleton, sizeLine_eq]; decide)
  obtain ⟨z4, its4, k4, r4, hl4, e4⟩ := I3.lstM upd_same
  obtain ⟨u4, rfl, ru4⟩ := r4.one
  refine wpAny_updateSeq e4 rfl ?_ (by show 1 ≤ sizeLine; rw [sizeLine_eq]; decide) (by show 0 ≤ sizeLine + 1; exact Nat.zero_le _)
  refine wpAny_pure ⟨plainId_quiet PySem.F.plain_extend_loop _, fin _ ?_⟩
  have I4 := I3.lset (f := (·.pop)) (its := [u4]) (its' := []) (ys := []) (t' := s2.toks) upd_same e4 (by rfl) .nil (Nat.zero_le _)
  rw [upd_upd, upd_upd] at I4
  refine ⟨I4, ⟨f0, f1, f2, f3, f4, f5⟩, ?_⟩
  exact Heap.IsTupleIter.at h2.st fun o e => by
    show (Heap.update (Heap.update _ _ _) _ _).get? it = some o
    rw [Heap.get?_update_ne _ _ _ _ hne2, Heap.get?_update_ne _ _ _ _ hne2]; exact e
end
section
variable {K : PySem.W.Frag} {e : En} {m m1 m2 : Md} {α : Type} {ta tb te : TE} {C : Addr} {fs gs : List (Str × D)} {d : D} {f : Str} {xs : List D}
/-- the tuple in a field -/
theorem ins_tup {U : Hp} {v : V} (i : Is K U v (.ins C fs)) (hl : fs.lookup f = some (.tup xs)) : ∃ a dx fvs t vs, v = .ref a ∧ U a = some (.ins C dx fvs) ∧ fvs.lookup f = some (.ref t) ∧ SqT K U t vs ∧ Iss K U vs xs ∧ xs.length ≤ sizeLine := by
  cases i with
  | @ins a _ dx fvs _ ha hf =>
    obtain ⟨v, l, iv⟩ := hf.lookup hl
    cases iv with
    | @tup t vs _ ht hi hz => exact ⟨a, dx, fvs, t, vs, rfl, ha, l, ht.t, hi, hz⟩
theorem rlo_ownI (hl : fs.lookup f = some (.tup xs)) (hi : imms xs = true) : RLO K [m1] (rListO K C f) [.ins C fs] (.lst xs) := fun B H T vs hB hT hm Q q => by
  match vs, hm with
  | [v], hm =>
    obtain ⟨a, dx, fvs, t, vs, rfl, ha, hf, ht, hv, hz⟩ := ins_tup (hm.1.now hB hT) hl
    have g2 := hardUp_gr hT
    exact ⟨a, dx, fvs, t, vs, rfl, ha, hf, ht, by rw [hv.length]; exact hz, fun l hl => q l _ _ (g2.trans (Gr.own g2.s hl)) hl (g2.s.back hl) ⟨vs, upd_same, Iss.hard (Le.refl _) hT _ hi hv, hz⟩⟩
theorem rlo_own (hl : fs.lookup f = some (.tup xs)) : RLO K [.dat] (rListO K C f) [.ins C fs] (.lst xs) := fun B H T vs hB hT hm Q q => by
  match vs, hm with
  | [v], hm =>
    have i1 : Is K T v (.ins C fs) := hm.1
    obtain ⟨a, dx, fvs, t, vs, rfl, ha, hf, ht, hv, hz⟩ := ins_tup i1 hl
    exact ⟨a, dx, fvs, t, vs, rfl, hT _ _ ha, hf, hT.sqT ht, by rw [hv.length]; exact hz, fun l hl => q l _ T (Gr.own hT hl) hl (hT.back hl) ⟨vs, upd_same, hv, hz⟩⟩
theorem evo_listO (ha : Ev K .dat ta e (.ins C fs)) (hl : fs.lookup f = some (.tup xs)) : EvO K (tCB (rListO K C f) (tCons ta tNil)) e (.lst xs) := ev_cbO (ea_cons ha ea_nil) (rlo_own hl)
theorem evo_listOI (hi : imms xs = true) (ha : Ev K .now ta e (.ins C fs)) (hl : fs.lookup f = some (.tup xs)) : EvO K (tCB (rListO K C f) (tCons ta tNil)) e (.lst xs) := ev_cbO (ea_cons ha ea_nil) (rlo_ownI hl hi)
theorem ei_ownZ (hm : m ≠ .now) (h : Ev K m te e (.ins C fs)) (hl : fs.lookup f = some (.tup xs)) : EvIz K m (iOwn K C f te) e xs := fun B T0 σ H T s R q => h B T0 σ H T s _ fun v H1 T1 g i => by
  have hB := (s.gr.h.trans g.h)
  have fin : ∀ U : Hp, ((m = .dat ∧ U = T1) ∨ (m = .bor ∧ (U = T1 ∨ U = B))) → Is K U v (.ins C fs) → ∃ a dx fs t items, v = .ref a ∧ H1 a = some (.ins C dx fs) ∧ fs.lookup f = some (.ref t) ∧ SqT K H1 t items ∧ R (Itt K t) H1 := fun U hU iu => by
    obtain ⟨a, dx, fvs, t, vs, rfl, ha, hf, ht, hv, hz⟩ := ins_tup iu hl
    have hl : Le U H1 := by
      rcases hU with ⟨_, z⟩ | ⟨_, z | z⟩
      · rw [z]; exact g.s
      · rw [z]; exact g.s
      · rw [z]; exact hB
    exact ⟨a, dx, fvs, t, vs, rfl, hl _ _ ha, hf, hl.sqT ht, q _ H1 T1 g hz (itD_tup hU g.s hB ht hv)⟩
  cases m with
  | dat => exact fin T1 (.inl ⟨rfl, rfl⟩) i
  | bor =>
    rcases i with i | i
    · exact fin T1 (.inr ⟨rfl, .inl rfl⟩) i
    · exact fin B (.inr ⟨rfl, .inr rfl⟩) i
  | now => exact absurd rfl hm
theorem ei_own (hm : m ≠ .now) (h : Ev K m te e (.ins C fs)) (hl : fs.lookup f = some (.tup xs)) : EvI K m (iOwn K C f te) e xs := (ei_ownZ hm h hl).toI
end
/-! ### isinstance of an instance -/
/-- what isinstance asks of the class besides -/
structure OI (K : PySem.W.Frag) (C : Addr) : Prop where
  ha : PySem.W.findIn K (.ref C) "__class__" = some (some (.builtin "object.__class__"))
  hn : PySem.W.specialIn K (.builtin "object.__class__") "__get__" = some (some (.builtin "getset_descriptor.__get__"))
  htk : PySem.W.takesIn K (.builtin "object.__class__") = some true
  hm : PySem.W.mroIn K C (.type "object") = some true
  ks : PySem.W.kitOne K (.ref C) (.ref C) = some true
def oiB (C : PySem.W.Frag → Addr) (K : PySem.W.Frag) : Bool := (decide (PySem.W.findIn K (.ref (C K)) "__class__" = some (some (.builtin "object.__class__"))) && decide (PySem.W.specialIn K (.builtin "object.__class__") "__get__" = some (some (.builtin "getset_descriptor.__get__")))) &&
  ((decide (PySem.W.takesIn K (.builtin "object.__class__") = some true) && decide (PySem.W.mroIn K (C K) (.type "object") = some true)) && decide (PySem.W.kitOne K (.ref (C K)) (.ref (C K)) = some true))
theorem oiB_ok {C : PySem.W.Frag → Addr} {K : PySem.W.Frag} (h : oiB C K = true) : OI K (C K) := by
  obtain ⟨h1, h2⟩ := and2 h
  obtain ⟨h1, h3⟩ := and2 h1
  obtain ⟨h2, h5⟩ := and2 h2
  obtain ⟨h2, h4⟩ := and2 h2
  exact ⟨of_decide_eq_true h1, of_decide_eq_true h3, of_decide_eq_true h2, of_decide_eq_true h4, of_decide_eq_true h5⟩
section
variable {K : PySem.W.Frag} {e : En} {m m1 m2 : Md} {ta : TE} {C : Addr} {fs : List (Str × D)}
theorem rl_isiO (c : Cls K C) (o : OI K C) : RL K [m1, m2] m (rIsiU K) [.ins C fs, .raw (.ref C)] (.bl true) := fun B H T vs hB hT hm Q q => by
  match vs, hm with
  | [v, w], hm =>
    have i1 := hm.1.now hB hT
    have i2 := hm.2.1.now hB hT
    cases i2
    cases i1 with
    | @ins a _ dx fvs _ ha hf =>
      exact .inl ⟨.ref a, .ref C, .ref C, .ref C, true, rfl, .own C, .base (.ins ha c o.ha o.hn o.htk o.hm), o.ks, q _ H T (Gr.refl hT) (MIs.dat (.bl true) hT)⟩
theorem ev_isiO (ha : Ev K .now ta e (.ins C fs)) (c : Cls K C) (o : OI K C) : Ev K m (tCB (rIsiU K) (tCons ta (tCons (tC (.ref C)) tNil))) e (.bl true) := ev_cb (ea_cons ha (ea_cons (m := .now) ev_raw ea_nil)) (rl_isiO c o)
end
theorem asO_Lo {K : PySem.W.Frag} {e : En} {te : TE} {α : Type} {f : α → D} {xs : List α} (h : EvO K te e (oL f xs)) : EvO K te e (oL (eO f) (xs.map some)) := by
  show EvO K te e (.lst _)
  rw [mapO]; exact h
theorem kbn_all {K : PySem.W.Frag} {fd : FuncData} {ps : List Str} {n : Nat} (h : Binds K fd ps []) (hn : ps.length = n) : KBn K fd ps n [] (fun us _ => us) (fun vs _ => vs) where
  to := fun s us ws X l1 l2 => by
    have b := h s us X (by rw [List.append_nil, l1, hn])
    rw [List.append_nil] at b
    exact b
  rel := fun r _ => r
end Fh

set_option Elab.async false
set_option linter.all false
set_option maxRecDepth 100000
set_option maxHeartbeats 4000000
/-! FhD4: static methods without arguments; += of own classes -/
namespace Fh
open PySem PySem.Spec PyProof.Rows L2

/-- C.m is a static method, its def at g -/
structure SMet (K : PySem.W.Frag) (C : Addr) (m : Str) (g : Addr) : Prop where
  ty : PySem.W.typeIn K (.ref C) = some (.type "type")
  rd : PySem.W.readsIn K C (.type "type") = true
  ga : PySem.W.specialIn K (.ref C) "__getattribute__" = some (some (.builtin "type.__getattribute__"))
  at_ : ∃ p, PySem.W.findCls K (.ref C) (.type "type") m = some (.get (.builtin "staticmethod.__get__") (.ref p) .none (.ref C)) ∧ ∃ rest, PySem.W.recIn K p "staticmethod" = some (.ref g :: rest)
  kp : PySem.W.keepIn K (.ref g) = true
def smetB (C p g : PySem.W.Frag → Addr) (m : Str) (K : PySem.W.Frag) : Bool := (decide (PySem.W.typeIn K (.ref (C K)) = some (.type "type")) && PySem.W.readsIn K (C K) (.type "type")) &&
  ((decide (PySem.W.specialIn K (.ref (C K)) "__getattribute__" = some (some (.builtin "type.__getattribute__"))) && PySem.W.keepIn K (.ref (g K))) &&
  ((match PySem.W.findCls K (.ref (C K)) (.type "type") m with
    | some (.get (.builtin d) (.ref q) .none (.ref D)) => decide (d = "staticmethod.__get__") && (decide (q = p K) && decide (D = C K))
    | _ => false) && (match PySem.W.recIn K (p K) "staticmethod" with
    | some (.ref f :: _) => decide (f = g K)
    | _ => false)))
theorem smetB_ok {C p g : PySem.W.Frag → Addr} {m : Str} {K : PySem.W.Frag} (h : smetB C p g m K = true) : SMet K (C K) m (g K) := by
  obtain ⟨h1, h2⟩ := and2 h
  obtain ⟨h1, h3⟩ := and2 h1
  obtain ⟨h2, h4⟩ := and2 h2
  obtain ⟨h2, h5⟩ := and2 h2
  obtain ⟨h4, h6⟩ := and2 h4
  refine ⟨of_decide_eq_true h1, h3, of_decide_eq_true h2, ⟨p K, ?_, ?_⟩, h5⟩
  · clear h6
    split at h4
    · rename_i d q D e
      obtain ⟨k1, k⟩ := and2 h4
      obtain ⟨k2, k3⟩ := and2 k
      rw [e, of_decide_eq_true k1, of_decide_eq_true k2, of_decide_eq_true k3]
    · cases h4
  · split at h6
    · rename_i f r e
      exact ⟨r, by rw [e, of_decide_eq_true h6]⟩
    · cases h6
def tStat0 (C : Addr) (sp : Sp) (E : XK) (ta : TE) : TE := fun σ H Q => ta σ H fun x H1 => x = .ref C ∧ sp [] H1 Q E
section
variable {X : Cx} {C g : Addr} {sp : Sp} {k : Nat} {o : Expr} {m : Str} {pos apos : Pos} {ta : TE} {pl : Sem Bool}
theorem pe_stat0 (G : DfM X.prog X.w X.K X.mg X.base g k [] sp) (c : SMet X.K C m g) (hr : Room k X.A) (he : PE X o ta)
    (ht : eval (.Call (.Attribute o m apos) [] [] pos) X.env = (do
      let ov ← eval o X.env
      standAt apos.atName
      let (f, first) ← holding [ov] (getMethod ov m pl)
      callWith pos f first (backTo pos (starEach [] X.env)) (backToKw pos (keywordEach [] X.env))) := by rfl) :
    PE X (.Call (.Attribute o m apos) [] [] pos) (tStat0 C sp E0 ta) := by
  obtain ⟨CX, fd, ps, ds, F, hb, hd, hx⟩ := G.ex
  refine ⟨fun pins s σ H Q I h => ?_⟩
  refine PySem.W.methodCall_KW (pl := pl) (thn (he.run pins s σ H _ I h) fun u s1 ⟨x, H1, I1, rx, ex, q⟩ => ?_) ht
  subst ex
  obtain rfl : u = Value.ref C := rx
  obtain ⟨p, hf, rest, hp⟩ := c.at_
  obtain ⟨mm, hF⟩ := I1.fr
  refine PySem.W.method_of_cls hF I1.ok.mod.kin c.ga (PySem.W.cls_sm hF I1.ok.mod.kin c.ty c.rd hf hp rfl ?_)
  have I2 := I1.tok (s1.toks + 1)
  exact PySem.W.callWith_K0 (first := []) I2.kIn c.kp (run_fn (us := []) (vs := []) F hr hb hd (hx X rfl rfl) I2 .nil q)
end
section
variable {K : PySem.W.Frag} {e : En} {m m1 m2 : Md} {α : Type} {args : α → List D} {pre : α → Prop} {out : α → D} {C : Addr} {fs gs : List (Str × D)} {ta te : TE}
theorem ev_stat0 (a : α) (hp : pre a) (ha : args a = []) : Ev K m (tStat0 C (SpP K [] args pre out) E0 (tC (.ref C))) e (out a) := Ev.up fun B T0 σ H T s Q q =>
  ⟨rfl, T, a, s.gr.s, hp, by rw [ha]; exact trivial, fun d v H3 T3 hd g3 i3 => q v H3 T3 g3 (hd ▸ i3)⟩
end
/-! ### += -/
structure NoI (K : PySem.W.Frag) (C : Addr) (nm : Str) : Prop where
  mro : ∃ cd, PySem.W.clsIn K C = some cd ∧ cd.mro = [.ref C, .type "object"]
  own : PySem.W.findIn K (.ref C) nm = some none
  obj : PySem.W.findIn K (.type "object") nm = some none
def noIB (C : PySem.W.Frag → Addr) (nm : Str) (K : PySem.W.Frag) : Bool := (match PySem.W.clsIn K (C K) with
    | some cd => decide (cd.mro = [.ref (C K), .type "object"])
    | none => false) && (decide (PySem.W.findIn K (.ref (C K)) nm = some none) && decide (PySem.W.findIn K (.type "object") nm = some none))
theorem noIB_ok {C : PySem.W.Frag → Addr} {nm : Str} {K : PySem.W.Frag} (h : noIB C nm K = true) : NoI K (C K) nm := by
  obtain ⟨h1, h2⟩ := and2 h
  obtain ⟨h2, h3⟩ := and2 h2
  refine ⟨?_, of_decide_eq_true h2, of_decide_eq_true h3⟩
  split at h1
  · rename_i cd e
    exact ⟨cd, e, of_decide_eq_true h1⟩
  · cases h1
theorem noFill {M : Model} {h : Heap} {K : PySem.W.Frag} {C : Addr} {nm : String} {add : Bool} (X : K.In h) (n : NoI K C (dunderI nm)) : PySem.W.Looks M h (fillsInplaceSlot (.ref C) nm add) false := by
  intro A Q E s k q
  obtain ⟨cd, hc, hm⟩ := n.mro
  have Lm : PySem.W.Looks M h (mroOf (.ref C)) cd.mro := (PySem.W.looks_clsIn X hc).andThen (f := fun cd => pure cd.mro) .now
  have Lm' := Lm.keeps k
  obtain ⟨hh, g, d, tt, os⟩ := s
  have X' : K.In hh := X.keeps k
  have L1 : PySem.W.Looks M hh (typeLookup (.ref C) (dunderI nm)) none := PySem.W.looks_findIn X' n.own
  have L2 : PySem.W.Looks M hh (typeLookup (.type "object") (dunderI nm)) none := PySem.W.looks_findIn X' n.obj
  unfold fillsInplaceSlot
  refine wpAny_bind (Lm'.at ?_)
  rw [hm, List.anyM_cons]
  refine wpAny_bind (wpAny_bind (L1.at (wpAny_pure ?_)))
  trace_state
  rw [if_neg (by decide), List.anyM_cons]
  refine wpAny_bind (wpAny_bind (L2.at (wpAny_pure ?_)))
  exact wpAny_pure q
theorem inplace_own {prog : Program} {w : World} {A : Around} {E : Value → Shared → Prop} {s : Shared} {K : PySem.W.Frag} {x C L f : Addr} {h₀ : Heap} {mm : Str → Option Value} {ox : Obj} {od : Option Obj} {op : Operator} {b : Value} {Q : Value → Shared → Prop}
    (F : Fr h₀ L s.heap mm) (X₀ : K.In h₀) (I : PySem.W.InstAt s.heap x ox C od) (hb : PySem.W.Looks (model prog w) s.heap (typeOf b) (.ref C)) (hc : PySem.W.selfFirst K C = true) (n : NoI K C (dunderI op.info.2))
    (hs : PySem.W.findIn K (.ref C) (PySem.dunder op.info.2) = some (some (.ref f))) (hf : PySem.W.isFn K (.ref f) = true)
    (h : wpAny (model prog w) A (call (.ref f) [.ref x, b]) (PySem.W.CmpBack Q) E s) : wpAny (model prog w) A (inplaceOp op (.ref x) b) Q E s := by
  have X := X₀.keeps F.keep
  obtain ⟨cd, rest, hcd, hm⟩ := PySem.W.ksp_first hc
  unfold inplaceOp
  refine wpAny_holding (wpAny_bind (I.type.here (wpAny_bind ((noFill X n).here ?_))))
  simp only [Bool.false_eq_true, if_false]
  refine wpAny_bind ?_
  unfold binaryOp1
  refine wpAny_bind (I.type.here (wpAny_bind (hb.here (wpAny_bind ((PySem.W.fills_K X hcd hm hs).here ?_)))))
  simp only [beq_self_eq_true, if_true]
  refine wpAny_bind (wpAny_pure ?_)
  simp only [Bool.and_false, Bool.false_eq_true, if_false, Bool.false_and]
  refine wpAny_bind (wpAny_pure ?_)
  simp only [Bool.false_eq_true, if_false]
  refine wpAny_bind (m := tryMethod (.ref x) _ b) ?_
  unfold tryMethod
  refine wpAny_bind (PySem.W.special_fn X I hs (beq_iff_eq.mp hf) (wpAny_mono h (fun v s' hv => ?_) fun _ _ e => e))
  cases v <;> first | exact hv.elim | exact wpAny_pure (wpAny_pure (wpAny_pure hv))
def ipO (C : Addr) (sp : Sp) : TIp := fun x y H Q => ∃ a dx fs b dy gs, x = .ref a ∧ y = .ref b ∧ H a = some (.ins C dx fs) ∧ H b = some (.ins C dy gs) ∧ sp [x, y] H Q E0
theorem ip_own {X : Cx} {C g : Addr} {sp : Sp} {k : Nat} {op : Operator} (G : DfM X.prog X.w X.K X.mg X.base g k [] sp) (D : Dun X.K C g (PySem.dunder op.info.2)) (hc : PySem.W.selfFirst X.K C = true) (n : NoI X.K C (dunderI op.info.2)) (hr : Room k X.A) : PIp X op (ipO C sp) := by
  intro pins s σ H x y v u Q I rx ry h
  obtain ⟨a, dx, fs, b, dy, gs, rfl, rfl, ha, hb', q⟩ := h
  cases rx; cases ry
  obtain ⟨CX, fd, ps, ds, F, hbd, hd, hx⟩ := G.ex
  cases hd
  obtain ⟨o1, d1, J⟩ := ins_inst I ha
  obtain ⟨o2, d2, J'⟩ := ins_inst I hb'
  obtain ⟨m, hF⟩ := I.fr
  refine inplace_own hF I.ok.mod.kin J J'.type hc n D.at_ D.fn ?_
  refine wpAny_mono (run_fnSD (E := fun _ => E0) (us := [.ref a, .ref b]) (vs := [.ref a, .ref b]) F hr hbd .nil (fun pins H s e s' I c => hx X rfl rfl pins σ H s e s' I c) I (.cons rfl (.cons rfl .nil)) q) (fun w s' z => ?_) fun _ _ x => x
  obtain ⟨z', H', I', rz, qz⟩ := z
  exact SlX.cmpback rz ⟨z', H', I', rz, qz⟩
section
variable {K : PySem.W.Frag} {E : WX} {e : En} {m1 m2 : Md} {α : Type} {args : α → List D} {pre : α → Prop} {out : α → D} {C : Addr} {fs gs : List (Str × D)} {ta te : TE} {i : Nat}
theorem st_augO (a : α) (hp : pre a) (hi : e[i]? = some (.dat (.ins C fs))) (h : Ev K m2 te e (.ins C gs)) (ha : args a = [.ins C fs, .ins C gs]) (P : Po) (q : P.nx (e.set i (.dat (out a)))) : Run K E (tAug i te (ipO C (SpP K [.dat, m2] args pre out))) e P := fun B T0 σ H T D s f => by
  obtain ⟨x, hx, v, rfl, iv⟩ := s.sl i _ hi
  refine ⟨_, hx, h B T0 σ H T s _ fun w H1 T1 g i1 => ?_⟩
  have hB := s.gr.h.trans g.h
  have iv1 : MIs .dat K B H1 T1 v (.ins C fs) := Is.mono g.t _ iv
  obtain ⟨a1, dx, fvs, rfl, hb, hf⟩ := ins_at iv1 hB g.s
  obtain ⟨a2, dy, gvs, rfl, hb2, hf2⟩ := ins_at i1 hB g.s
  refine ⟨a1, dx, fvs, a2, dy, gvs, rfl, rfl, hb, hb2, T1, a, g.s, hp, ?_, fun d v H3 T3 hd g3 i3 => ?_⟩
  · rw [ha]
    exact two_args iv1 (Le.refl _) (Le.refl _) i1 hB g.s
  · subst hd
    exact f.nx _ _ H3 T3 q ((s.grow (g.trans g3)).set (m := .dat) (fun z => nomatch z) i3)
end
end Fh

set_option Elab.async false
set_option linter.all false
set_option maxRecDepth 100000
set_option maxHeartbeats 4000000
set_option synthInstance.maxHeartbeats 400000
set_option synthInstance.maxSize 4000
namespace Fh
open PySem PySem.Spec PyProof.Rows L2

structure Ty_Loads where
  p_entries : (List (Option Int))
deriving Inhabited
abbrev fs_Loads (K : PySem.W.Frag) (t : Ty_Loads) : List (Str × D) := [("_entries", (eT (eO eI)) t.p_entries)]
abbrev eC_Loads (K : PySem.W.Frag) (t : Ty_Loads) : D := .ins (gA K "Loads") (fs_Loads K t)
theorem lk_Loads__entries (K : PySem.W.Frag) (t : Ty_Loads) : (fs_Loads K t).lookup ("_entries" : Str) = some ((eT (eO eI)) t.p_entries) := rfl
theorem lkn_Loads_times (K : PySem.W.Frag) (t : Ty_Loads) : (fs_Loads K t).lookup ("times" : Str) = none := rfl
structure Cf (K : PySem.W.Frag) : Prop where
  c_Loads : Cls K (gA K "Loads")
  n_Loads__entries : NoAttr K (gA K "Loads") "_entries"
  oi_Loads : OI K (gA K "Loads")
theorem at_Loads__entries {K : PySem.W.Frag} {m : Md} {te : TE} {e : En} {t : Ty_Loads} (cf : Cf K) (h : Ev K m te e (eC_Loads K t)) : Ev K m (tAt K te "_entries") e ((eT (eO eI)) t.p_entries) := ev_at h cf.c_Loads cf.n_Loads__entries (lk_Loads__entries K t)
def f_l_number_L1 (v_pool : (List Int)) (v_start : Int) (v_total : Int) (v_k : Int) : Int :=
 letO (α := Int) ((v_total * (1000 : Int)) + (getI v_pool (v_start + v_k))) fun v_total =>
 v_total
def ok_l_number_L1 (v_pool : (List Int)) (v_start : Int) (v_total : Int) (v_k : Int) : Prop :=
 0 ≤ (v_start + v_k) ∧ (v_start + v_k) < (v_pool.length : Nat)
/-- _law_number(L(int), int) -> int -/
def f_l_number (v_pool : (List Int)) (v_start : Int) : Int :=
 letO (α := Int) (0 : Int) fun v_total =>
 letO (α := Int) (((rangeI 0 (10 : Int))).foldl (f_l_number_L1 v_pool v_start) v_total) fun v_total =>
 v_total
def ok_l_number (v_pool : (List Int)) (v_start : Int) : Prop :=
 letO (α := Int) (0 : Int) fun v_total =>
 okS (f_l_number_L1 v_pool v_start) (ok_l_number_L1 v_pool v_start) (fun (v_total : Int) =>
 True) v_total (rangeI 0 (10 : Int))
def f_l_entries_L1 (v_pool : (List Int)) (v_which : Int) (s : ((List (Option Int)) × Int)) (v_r : Int) : ((List (Option Int)) × Int) :=
 letO (α := Int) ((getI v_pool (((1 : Int) + ((5 : Int) * v_which)) + v_r)) % (5 : Int)) fun v_rise =>
 letO (α := Int) (if ((decide (((getI v_pool (0 : Int)) % (4 : Int)) = (0 : Int))) && (decide ((0 : Int) < v_rise))) = true then
 letO (α := Int) (f_l_number v_pool (((20 : Int) + ((40 : Int) * v_which)) + ((10 : Int) * v_r))) fun v_rise =>
 v_rise
 else
 v_rise) fun v_rise =>
 letO (α := Int) (s.2 + v_rise) fun v_last =>
 letO (α := (List (Option Int))) (s.1 ++ [(some v_last)]) fun v_entries =>
 (v_entries, v_last)
def ok_l_entries_L1 (v_pool : (List Int)) (v_which : Int) (s : ((List (Option Int)) × Int)) (v_r : Int) : Prop :=
 (0 ≤ (((1 : Int) + ((5 : Int) * v_which)) + v_r) ∧ (((1 : Int) + ((5 : Int) * v_which)) + v_r) < (v_pool.length : Nat)) ∧ (letO (α := Int) ((getI v_pool (((1 : Int) + ((5 : Int) * v_which)) + v_r)) % (5 : Int)) fun v_rise =>
 (0 ≤ (0 : Int) ∧ (0 : Int) < (v_pool.length : Nat)) ∧ ((((decide (((getI v_pool (0 : Int)) % (4 : Int)) = (0 : Int))) && (decide ((0 : Int) < v_rise))) = true → ok_l_number v_pool (((20 : Int) + ((40 : Int) * v_which)) + ((10 : Int) * v_r))) ∧ (((decide (((getI v_pool (0 : Int)) % (4 : Int)) = (0 : Int))) && (decide ((0 : Int) < v_rise))) = false → True)) ∧ (letO (α := Int) (if ((decide (((getI v_pool (0 : Int)) % (4 : Int)) = (0 : Int))) && (decide ((0 : Int) < v_rise))) = true then
 letO (α := Int) (f_l_number v_pool (((20 : Int) + ((40 : Int) * v_which)) + ((10 : Int) * v_r))) fun v_rise =>
 v_rise
 else
 v_rise) fun v_rise =>
 letO (α := Int) (s.2 + v_rise) fun v_last =>
 s.1.length < sizeLine))
def f_l_entries_L2  (v_entries : (List (Option Int))) (v_r : Int) : (List (Option Int)) :=
 letO (α := (List (Option Int))) (v_entries.set ((3 : Int) - v_r).toNat none) fun v_entries =>
 v_entries
def ok_l_entries_L2  (v_entries : (List (Option Int))) (v_r : Int) : Prop :=
 0 ≤ ((3 : Int) - v_r) ∧ ((3 : Int) - v_r) < (v_entries.length : Nat)
/-- _law_entries(L(int), int) -> L(O(int)) (own) -/
def f_l_entries (v_pool : (List Int)) (v_which : Int) : (List (Option Int)) :=
 letO (α := (List (Option Int))) ([] : (List (Option Int))) fun v_entries =>
 letO (α := Int) (0 : Int) fun v_last =>
 letO (α := ((List (Option Int)) × Int)) (((rangeI 0 (4 : Int))).foldl (f_l_entries_L1 v_pool v_which) (v_entries, v_last)) fun s12 =>
 letO (α := (List (Option Int))) (((rangeI 0 ((getI v_pool ((5 : Int) + ((5 : Int) * v_which))) % (5 : Int)))).foldl (f_l_entries_L2 ) s12.1) fun v_entries =>
 v_entries
def ok_l_entries (v_pool : (List Int)) (v_which : Int) : Prop :=
 letO (α := (List (Option Int))) ([] : (List (Option Int))) fun v_entries =>
 letO (α := Int) (0 : Int) fun v_last =>
 okS (f_l_entries_L1 v_pool v_which) (ok_l_entries_L1 v_pool v_which) (fun (s12 : ((List (Option Int)) × Int)) =>
 (0 ≤ ((5 : Int) + ((5 : Int) * v_which)) ∧ ((5 : Int) + ((5 : Int) * v_which)) < (v_pool.length : Nat)) ∧ (-(2 ^ 62) ≤ ((getI v_pool ((5 : Int) + ((5 : Int) * v_which))) % (5 : Int)) ∧ ((getI v_pool ((5 : Int) + ((5 : Int) * v_which))) % (5 : Int)) ≤ 16777216) ∧ (okS (f_l_entries_L2 ) (ok_l_entries_L2 ) (fun (v_entries : (List (Option Int))) =>
 True) s12.1 (rangeI 0 ((getI v_pool ((5 : Int) + ((5 : Int) * v_which))) % (5 : Int))))) (v_entries, v_last) (rangeI 0 (4 : Int))
/-- is_greater(O(int), O(int)) -> bool -/
def f_is_greater (v_one : (Option Int)) (v_other : (Option Int)) : Bool :=
 if (v_other.isNone) = true then
 (false)
 else
 (((v_one.isNone) || (decide ((unO v_other) < (unO v_one)))))
def ok_is_greater (v_one : (Option Int)) (v_other : (Option Int)) : Prop :=
 ((v_other.isNone) = true → True) ∧ ((v_other.isNone) = false → (v_one.isNone) = false → ((v_one.isSome = true) ∧ (v_other.isSome = true)))
def f_check_entries_L1  (v_before : (Option Int)) (v_entry : (Option Int)) : (Option Int) :=
 if (f_is_greater v_before v_entry) = true then
 (v_before)
 else
 (letO (α := (Option Int)) v_entry fun v_before =>
 v_before)
def ok_check_entries_L1  (v_before : (Option Int)) (v_entry : (Option Int)) : Prop :=
 (ok_is_greater v_before v_entry) ∧ (((f_is_greater v_before v_entry) = true → False) ∧ ((f_is_greater v_before v_entry) = false → True))
/-- check_entries(T(O(int))) -> none -/
def f_check_entries (v_row : (List (Option Int))) : Unit :=
 if (!decide ((v_row.length : Int) = (4 : Int))) = true then
 ((default : Unit))
 else
 (letO (α := (Option Int)) (some (0 : Int)) fun v_before =>
 letO (α := (Option Int)) ((v_row).foldl (f_check_entries_L1 ) v_before) fun v_before =>
 ())
def ok_check_entries (v_row : (List (Option Int))) : Prop :=
 ((!decide ((v_row.length : Int) = (4 : Int))) = true → False) ∧ ((!decide ((v_row.length : Int) = (4 : Int))) = false → letO (α := (Option Int)) (some (0 : Int)) fun v_before =>
 okS (f_check_entries_L1 ) (ok_check_entries_L1 ) (fun (v_before : (Option Int)) =>
 True) v_before v_row)
/-- Loads.__init__(Loads, L(O(int))) -> Loads -/
def f_Loads___init__ (v_entries : (List (Option Int))) : Ty_Loads :=
 letO (α := (List (Option Int))) v_entries fun v_row =>
 letO (α := (List (Option Int))) v_row fun v_self__entries =>
 ({ p_entries := v_self__entries } : Ty_Loads)
def ok_Loads___init__ (v_entries : (List (Option Int))) : Prop :=
 letO (α := (List (Option Int))) v_entries fun v_row =>
 ok_check_entries v_row
/-- Loads.__init__(Loads, T(O(int))) -> Loads -/
def f_Loads___init___2 (v_entries : (List (Option Int))) : Ty_Loads :=
 letO (α := (List (Option Int))) v_entries fun v_row =>
 letO (α := (List (Option Int))) v_row fun v_self__entries =>
 ({ p_entries := v_self__entries } : Ty_Loads)
def ok_Loads___init___2 (v_entries : (List (Option Int))) : Prop :=
 letO (α := (List (Option Int))) v_entries fun v_row =>
 ok_check_entries v_row
/-- Loads.__getitem__(Loads, int) -> O(int) -/
def f_Loads___getitem__ (v_self : Ty_Loads) (v_at : Int) : (Option Int) :=
 if (!(decide ((0 : Int) ≤ v_at) && decide (v_at ≤ (4 : Int)))) = true then
 ((default : (Option Int)))
 else
 (if (decide (v_at = (0 : Int))) = true then
 ((some (0 : Int)))
 else
 ((getI v_self.p_entries (v_at - (1 : Int)))))
def ok_Loads___getitem__ (v_self : Ty_Loads) (v_at : Int) : Prop :=
 ((!(decide ((0 : Int) ≤ v_at) && decide (v_at ≤ (4 : Int)))) = true → False) ∧ ((!(decide ((0 : Int) ≤ v_at) && decide (v_at ≤ (4 : Int)))) = false → ((decide (v_at = (0 : Int))) = true → True) ∧ ((decide (v_at = (0 : Int))) = false → 0 ≤ (v_at - (1 : Int)) ∧ (v_at - (1 : Int)) < (v_self.p_entries.length : Nat)))
/-- added(O(int), O(int)) -> O(int) -/
def f_added (v_one : (Option Int)) (v_other : (Option Int)) : (Option Int) :=
 if ((v_one.isNone) || (v_other.isNone)) = true then
 (none)
 else
 ((some ((unO v_one) + (unO v_other))))
def ok_added (v_one : (Option Int)) (v_other : (Option Int)) : Prop :=
 (((v_one.isNone) || (v_other.isNone)) = true → True) ∧ (((v_one.isNone) || (v_other.isNone)) = false → (v_one.isSome = true) ∧ (v_other.isSome = true))
/-- lesser(O(int), O(int)) -> O(int) -/
def f_lesser (v_one : (Option Int)) (v_other : (Option Int)) : (Option Int) :=
 if (f_is_greater v_one v_other) = true then
 (v_other)
 else
 (v_one)
def ok_lesser (v_one : (Option Int)) (v_other : (Option Int)) : Prop :=
 ok_is_greater v_one v_other
def f_least_sum_L1 (v_one : Ty_Loads) (v_other : Ty_Loads) (v_hands : Int) (v_best : (Option Int)) (v_many : Int) : (Option Int) :=
 letO (α := (Option Int)) (f_lesser v_best (f_added (f_Loads___getitem__ v_one v_many) (f_Loads___getitem__ v_other (v_hands - v_many)))) fun v_best =>
 v_best
def ok_least_sum_L1 (v_one : Ty_Loads) (v_other : Ty_Loads) (v_hands : Int) (v_best : (Option Int)) (v_many : Int) : Prop :=
 (ok_Loads___getitem__ v_one v_many) ∧ (ok_Loads___getitem__ v_other (v_hands - v_many)) ∧ (ok_added (f_Loads___getitem__ v_one v_many) (f_Loads___getitem__ v_other (v_hands - v_many))) ∧ (ok_lesser v_best (f_added (f_Loads___getitem__ v_one v_many) (f_Loads___getitem__ v_other (v_hands - v_many))))
/-- least_sum(Loads, Loads, int) -> O(int) -/
def f_least_sum (v_one : Ty_Loads) (v_other : Ty_Loads) (v_hands : Int) : (Option Int) :=
 letO (α := (Option Int)) none fun v_best =>
 letO (α := (Option Int)) (((rangeI 0 (v_hands + (1 : Int)))).foldl (f_least_sum_L1 v_one v_other v_hands) v_best) fun v_best =>
 v_best
def ok_least_sum (v_one : Ty_Loads) (v_other : Ty_Loads) (v_hands : Int) : Prop :=
 letO (α := (Option Int)) none fun v_best =>
 (-(2 ^ 62) ≤ (v_hands + (1 : Int)) ∧ (v_hands + (1 : Int)) ≤ 16777216) ∧ (okS (f_least_sum_L1 v_one v_other v_hands) (ok_least_sum_L1 v_one v_other v_hands) (fun (v_best : (Option Int)) =>
 True) v_best (rangeI 0 (v_hands + (1 : Int))))
/-- Loads.__add__(Loads, Loads) -> Loads -/
def f_Loads___add__ (v_self : Ty_Loads) (v_other : Ty_Loads) : Ty_Loads :=
 (f_Loads___init__ ((rangeI (1 : Int) ((4 : Int) + (1 : Int))).map fun (x1 : Int) => (f_least_sum v_self v_other x1)))
def ok_Loads___add__ (v_self : Ty_Loads) (v_other : Ty_Loads) : Prop :=
 (-8388608 ≤ (1 : Int) ∧ (1 : Int) ≤ 8388608 ∧ -8388608 ≤ ((4 : Int) + (1 : Int)) ∧ ((4 : Int) + (1 : Int)) ≤ 8388608) ∧ (∀ x1 ∈ (rangeI (1 : Int) ((4 : Int) + (1 : Int))), ok_least_sum v_self v_other x1) ∧ (ok_Loads___init__ ((rangeI (1 : Int) ((4 : Int) + (1 : Int))).map fun (x1 : Int) => (f_least_sum v_self v_other x1)))
def f_l_splits_L3 (v_split : (List Int)) (v_longer : (List (List Int))) (v_many : Int) : (List (List Int)) :=
 letO (α := (List (List Int))) (v_longer ++ [(v_split ++ ([v_many] : (List Int)))]) fun v_longer =>
 v_longer
def ok_l_splits_L3 (v_split : (List Int)) (v_longer : (List (List Int))) (v_many : Int) : Prop :=
 (v_split.length + ([v_many] : (List Int)).length ≤ sizeLine) ∧ (v_longer.length < sizeLine)
def f_l_splits_L2 (v_hands : Int) (v_longer : (List (List Int))) (v_split : (List Int)) : (List (List Int)) :=
 letO (α := (List (List Int))) (((rangeI 0 ((v_hands - v_split.sum) + (1 : Int)))).foldl (f_l_splits_L3 v_split) v_longer) fun v_longer =>
 v_longer
def ok_l_splits_L2 (v_hands : Int) (v_longer : (List (List Int))) (v_split : (List Int)) : Prop :=
 (-(2 ^ 62) ≤ ((v_hands - v_split.sum) + (1 : Int)) ∧ ((v_hands - v_split.sum) + (1 : Int)) ≤ 16777216) ∧ (okS (f_l_splits_L3 v_split) (ok_l_splits_L3 v_split) (fun (v_longer : (List (List Int))) =>
 True) v_longer (rangeI 0 ((v_hands - v_split.sum) + (1 : Int))))
def f_l_splits_L1 (v_hands : Int) (v_found : (List (List Int))) (v_k : Int) : (List (List Int)) :=
 letO (α := (List (List Int))) ([] : (List (List Int))) fun v_longer =>
 letO (α := (List (List Int))) ((v_found).foldl (f_l_splits_L2 v_hands) v_longer) fun v_longer =>
 letO (α := (List (List Int))) v_longer fun v_found =>
 v_found
def ok_l_splits_L1 (v_hands : Int) (v_found : (List (List Int))) (v_k : Int) : Prop :=
 letO (α := (List (List Int))) ([] : (List (List Int))) fun v_longer =>
 okS (f_l_splits_L2 v_hands) (ok_l_splits_L2 v_hands) (fun (v_longer : (List (List Int))) =>
 True) v_longer v_found
/-- _law_splits(int, int) -> L(L(int)) (own) -/
def f_l_splits (v_parts : Int) (v_hands : Int) : (List (List Int)) :=
 letO (α := (List (List Int))) ([([] : (List Int))] : (List (List Int))) fun v_found =>
 letO (α := (List (List Int))) (((rangeI 0 v_parts)).foldl (f_l_splits_L1 v_hands) v_found) fun v_found =>
 ((v_found.filter fun (x8 : (List Int)) => (decide (x8.sum = v_hands))).map fun (x8 : (List Int)) => x8)
def ok_l_splits (v_parts : Int) (v_hands : Int) : Prop :=
 letO (α := (List (List Int))) ([([] : (List Int))] : (List (List Int))) fun v_found =>
 (-(2 ^ 62) ≤ v_parts ∧ v_parts ≤ 16777216) ∧ (okS (f_l_splits_L1 v_hands) (ok_l_splits_L1 v_hands) (fun (v_found : (List (List Int))) =>
 True) v_found (rangeI 0 v_parts))
def f_l_parted_L2 (v_rows : (List (List (Option Int)))) (v_split : (List Int)) (v_total : (Option Int)) (v_k : Int) : (Option Int) :=
 letO (α := (Option Int)) (some (0 : Int)) fun v_entry =>
 letO (α := (Option Int)) (if (decide ((0 : Int) < (getI v_split v_k))) = true then
 letO (α := (Option Int)) (getI (getI v_rows v_k) ((getI v_split v_k) - (1 : Int))) fun v_entry =>
 v_entry
 else
 v_entry) fun v_entry =>
 if ((v_total.isNone) || (v_entry.isNone)) = true then
 (letO (α := (Option Int)) none fun v_total =>
 v_total)
 else
 (letO (α := (Option Int)) (some ((unO v_total) + (unO v_entry))) fun v_total =>
 v_total)
def ok_l_parted_L2 (v_rows : (List (List (Option Int)))) (v_split : (List Int)) (v_total : (Option Int)) (v_k : Int) : Prop :=
 letO (α := (Option Int)) (some (0 : Int)) fun v_entry =>
 (0 ≤ v_k ∧ v_k < (v_split.length : Nat)) ∧ (((decide ((0 : Int) < (getI v_split v_k))) = true → (0 ≤ v_k ∧ v_k < (v_rows.length : Nat)) ∧ (0 ≤ v_k ∧ v_k < (v_split.length : Nat)) ∧ (0 ≤ ((getI v_split v_k) - (1 : Int)) ∧ ((getI v_split v_k) - (1 : Int)) < ((getI v_rows v_k).length : Nat))) ∧ ((decide ((0 : Int) < (getI v_split v_k))) = false → True)) ∧ (letO (α := (Option Int)) (if (decide ((0 : Int) < (getI v_split v_k))) = true then
 letO (α := (Option Int)) (getI (getI v_rows v_k) ((getI v_split v_k) - (1 : Int))) fun v_entry =>
 v_entry
 else
 v_entry) fun v_entry =>
 (((v_total.isNone) || (v_entry.isNone)) = true → True) ∧ (((v_total.isNone) || (v_entry.isNone)) = false → (v_total.isSome = true) ∧ (v_entry.isSome = true)))
def f_l_parted_L1 (v_rows : (List (List (Option Int)))) (v_best : (Option Int)) (v_split : (List Int)) : (Option Int) :=
 letO (α := (Option Int)) (some (0 : Int)) fun v_total =>
 letO (α := (Option Int)) (((rangeI 0 (v_rows.length : Nat))).foldl (f_l_parted_L2 v_rows v_split) v_total) fun v_total =>
 if ((v_total.isSome) && ((v_best.isNone) || (decide ((unO v_total) < (unO v_best))))) = true then
 (letO (α := (Option Int)) v_total fun v_best =>
 v_best)
 else
 (v_best)
def ok_l_parted_L1 (v_rows : (List (List (Option Int)))) (v_best : (Option Int)) (v_split : (List Int)) : Prop :=
 letO (α := (Option Int)) (some (0 : Int)) fun v_total =>
 okS (f_l_parted_L2 v_rows v_split) (ok_l_parted_L2 v_rows v_split) (fun (v_total : (Option Int)) =>
 (v_total.isSome) = true → (v_best.isNone) = false → ((v_total.isSome = true) ∧ (v_best.isSome = true))) v_total (rangeI 0 (v_rows.length : Nat))
/-- _law_parted(L(L(O(int))), int) -> O(int) -/
def f_l_parted (v_rows : (List (List (Option Int)))) (v_hands : Int) : (Option Int) :=
 letO (α := (Option Int)) none fun v_best =>
 letO (α := (Option Int)) (((f_l_splits (v_rows.length : Int) v_hands)).foldl (f_l_parted_L1 v_rows) v_best) fun v_best =>
 v_best
def ok_l_parted (v_rows : (List (List (Option Int)))) (v_hands : Int) : Prop :=
 letO (α := (Option Int)) none fun v_best =>
 (ok_l_splits (v_rows.length : Int) v_hands) ∧ (okS (f_l_parted_L1 v_rows) (ok_l_parted_L1 v_rows) (fun (v_best : (Option Int)) =>
 True) v_best (f_l_splits (v_rows.length : Int) v_hands))
/-- _law_sum_due(L(L(O(int)))) -> L(O(int)) (own) -/
def f_l_sum_due (v_rows : (List (List (Option Int)))) : (List (Option Int)) :=
 ((rangeI (1 : Int) (5 : Int)).map fun (x1 : Int) => (f_l_parted v_rows x1))
def ok_l_sum_due (v_rows : (List (List (Option Int)))) : Prop :=
 (-8388608 ≤ (1 : Int) ∧ (1 : Int) ≤ 8388608 ∧ -8388608 ≤ (5 : Int) ∧ (5 : Int) ≤ 8388608) ∧ (∀ x1 ∈ (rangeI (1 : Int) (5 : Int)), ok_l_parted v_rows x1)
/-- _law_is_sum(Loads, L(L(O(int)))) -> bool -/
def f_l_is_sum (v_told : Ty_Loads) (v_rows : (List (List (Option Int)))) : Bool :=
 (true && (decide (v_told.p_entries = (f_l_sum_due v_rows))))
def ok_l_is_sum (v_told : Ty_Loads) (v_rows : (List (List (Option Int)))) : Prop :=
 true = true → ok_l_sum_due v_rows
/-- Loads.__eq__(Loads, Loads) -> bool -/
def f_Loads___eq__ (v_self : Ty_Loads) (v_other : Ty_Loads) : Bool :=
 (true && (decide (v_self.p_entries = v_other.p_entries)))
/-- Loads.none() -> Loads -/
def f_Loads_none  : Ty_Loads :=
 (f_Loads___init__ ([none, none, none, none] : (List (Option Int))))
def ok_Loads_none  : Prop :=
 ok_Loads___init__ ([none, none, none, none] : (List (Option Int)))
def f_Loads_times_L1 (v_self : Ty_Loads) (v_found : Ty_Loads) (v__ : Int) : Ty_Loads :=
 letO (α := Ty_Loads) (f_Loads___add__ v_found v_self) fun v_found =>
 v_found
def ok_Loads_times_L1 (v_self : Ty_Loads) (v_found : Ty_Loads) (v__ : Int) : Prop :=
 ok_Loads___add__ v_found v_self
/-- Loads.times(Loads, int) -> Loads -/
def f_Loads_times (v_self : Ty_Loads) (v_many : Int) : Ty_Loads :=
 letO (α := Ty_Loads) f_Loads_none fun v_found =>
 letO (α := Ty_Loads) (((rangeI 0 (min v_many (4 : Int)))).foldl (f_Loads_times_L1 v_self) v_found) fun v_found =>
 v_found
def ok_Loads_times (v_self : Ty_Loads) (v_many : Int) : Prop :=
 (ok_Loads_none) ∧ (letO (α := Ty_Loads) f_Loads_none fun v_found =>
 (-(2 ^ 62) ≤ (min v_many (4 : Int)) ∧ (min v_many (4 : Int)) ≤ 16777216) ∧ (okS (f_Loads_times_L1 v_self) (ok_Loads_times_L1 v_self) (fun (v_found : Ty_Loads) =>
 True) v_found (rangeI 0 (min v_many (4 : Int)))))
/-- law(L(int)) -> bool -/
def f_law (v_pool : (List Int)) : Bool :=
 letO (α := (List (List (Option Int)))) ((rangeI 0 (3 : Int)).map fun (x1 : Int) => (f_l_entries v_pool x1)) fun v_rows =>
 letO (α := (List (Option Int))) (getI v_rows (0 : Int)) fun v_handed =>
 letO (α := Ty_Loads) (f_Loads___init__ v_handed) fun v_one =>
 letO (α := Ty_Loads) (f_Loads___init___2 (getI v_rows (1 : Int))) fun v_two =>
 letO (α := Ty_Loads) (f_Loads___init__ (getI v_rows (2 : Int))) fun v_three =>
 letO (α := (List (Option Int))) (v_handed.set (0 : Int).toNat none) fun v_handed =>
 letO (α := (List (Option Int))) (v_handed ++ [(some (0 : Int))]) fun v_handed =>
 letO (α := Ty_Loads) (f_Loads___add__ v_one v_two) fun v_pair =>
 letO (α := Ty_Loads) (f_Loads___add__ v_pair v_three) fun v_whole =>
 if ((!(f_l_is_sum v_pair ([(getI v_rows (0 : Int)), (getI v_rows (1 : Int))] : (List (List (Option Int)))))) || (!(f_l_is_sum v_whole v_rows))) = true then
 (false)
 else
 (if ((!(decide ((f_Loads___eq__ (f_Loads___add__ v_two v_one) v_pair) = true))) || (!(decide ((f_Loads___eq__ (f_Loads___add__ v_one (f_Loads___add__ v_two v_three)) v_whole) = true)))) = true then
 (false)
 else
 (if ((!(decide ((f_Loads___eq__ v_one v_two) = (decide ((getI v_rows (0 : Int)) = (getI v_rows (1 : Int))))))) || (!(decide ((f_Loads___eq__ v_three v_one) = (decide ((getI v_rows (2 : Int)) = (getI v_rows (0 : Int)))))))) = true then
 (false)
 else
 (letO (α := Ty_Loads) v_one fun v_grown =>
 letO (α := Ty_Loads) (f_Loads___add__ v_grown v_two) fun v_grown =>
 if ((!(f_l_is_sum v_grown ([(getI v_rows (0 : Int)), (getI v_rows (1 : Int))] : (List (List (Option Int)))))) || (!(decide (v_one.p_entries = (getI v_rows (0 : Int)))))) = true then
 (false)
 else
 (letO (α := Ty_Loads) f_Loads_none fun v_nothing =>
 if ((!(decide (v_nothing.p_entries = ([none, none, none, none] : (List (Option Int)))))) || (!(decide ((f_Loads___eq__ (f_Loads___add__ v_one v_nothing) v_one) = true)))) = true then
 (false)
 else
 (if ((!(decide ((f_Loads___add__ v_nothing v_two).p_entries = (getI v_rows (1 : Int))))) || (!(decide ((f_Loads___add__ v_nothing f_Loads_none).p_entries = v_nothing.p_entries)))) = true then
 (false)
 else
 (letO (α := Int) ((getI v_pool (16 : Int)) % (7 : Int)) fun v_many =>
 letO (α := Int) ((f_l_number v_pool (140 : Int)) + ((getI v_pool (17 : Int)) % (2 : Int))) fun v_great =>
 if (!(f_l_is_sum (f_Loads_times v_one v_many) ((rangeI 0 v_many).map fun (x35 : Int) => (getI v_rows (0 : Int))))) = true then
 (false)
 else
 (if (!(f_l_is_sum (f_Loads_times v_two v_great) ((rangeI 0 (min v_great (4 : Int))).map fun (x39 : Int) => (getI v_rows (1 : Int))))) = true then
 (false)
 else
 (if ((!(decide ((f_Loads___eq__ (f_Loads_times v_one (2 : Int)) (f_Loads___add__ v_one v_one)) = true))) || (!(decide ((f_Loads___eq__ (f_Loads_times v_three (1 : Int)) v_three) = true)))) = true then
 (false)
 else
 (if (!(f_l_is_sum (f_Loads_times v_one v_many) ((rangeI 0 v_many).map fun (x46 : Int) => (getI v_rows (0 : Int))))) = true then
 (false)
 else
 (if (!(f_l_is_sum (f_Loads___add__ v_one v_two) ([(getI v_rows (0 : Int)), (getI v_rows (1 : Int))] : (List (List (Option Int)))))) = true then
 (false)
 else
 ((decide (([v_one.p_entries, v_two.p_entries, v_three.p_entries] : (List (List (Option Int)))) = v_rows)))))))))))))
def ok_law (v_pool : (List Int)) : Prop :=
 (∀ x1 ∈ (rangeI 0 (3 : Int)), ok_l_entries v_pool x1) ∧ (letO (α := (List (List (Option Int)))) ((rangeI 0 (3 : Int)).map fun (x1 : Int) => (f_l_entries v_pool x1)) fun v_rows =>
 (0 ≤ (0 : Int) ∧ (0 : Int) < (v_rows.length : Nat)) ∧ (letO (α := (List (Option Int))) (getI v_rows (0 : Int)) fun v_handed =>
 (ok_Loads___init__ v_handed) ∧ (letO (α := Ty_Loads) (f_Loads___init__ v_handed) fun v_one =>
 (0 ≤ (1 : Int) ∧ (1 : Int) < (v_rows.length : Nat)) ∧ (ok_Loads___init___2 (getI v_rows (1 : Int))) ∧ (letO (α := Ty_Loads) (f_Loads___init___2 (getI v_rows (1 : Int))) fun v_two =>
 (0 ≤ (2 : Int) ∧ (2 : Int) < (v_rows.length : Nat)) ∧ (ok_Loads___init__ (getI v_rows (2 : Int))) ∧ (letO (α := Ty_Loads) (f_Loads___init__ (getI v_rows (2 : Int))) fun v_three =>
 (0 ≤ (0 : Int) ∧ (0 : Int) < (v_handed.length : Nat)) ∧ (letO (α := (List (Option Int))) (v_handed.set (0 : Int).toNat none) fun v_handed =>
 (v_handed.length < sizeLine) ∧ (letO (α := (List (Option Int))) (v_handed ++ [(some (0 : Int))]) fun v_handed =>
 (ok_Loads___add__ v_one v_two) ∧ (letO (α := Ty_Loads) (f_Loads___add__ v_one v_two) fun v_pair =>
 (ok_Loads___add__ v_pair v_three) ∧ (letO (α := Ty_Loads) (f_Loads___add__ v_pair v_three) fun v_whole =>
 (0 ≤ (0 : Int) ∧ (0 : Int) < (v_rows.length : Nat)) ∧ (0 ≤ (1 : Int) ∧ (1 : Int) < (v_rows.length : Nat)) ∧ (ok_l_is_sum v_pair ([(getI v_rows (0 : Int)), (getI v_rows (1 : Int))] : (List (List (Option Int))))) ∧ ((!(f_l_is_sum v_pair ([(getI v_rows (0 : Int)), (getI v_rows (1 : Int))] : (List (List (Option Int)))))) = false → ok_l_is_sum v_whole v_rows) ∧ ((((!(f_l_is_sum v_pair ([(getI v_rows (0 : Int)), (getI v_rows (1 : Int))] : (List (List (Option Int)))))) || (!(f_l_is_sum v_whole v_rows))) = true → True) ∧ (((!(f_l_is_sum v_pair ([(getI v_rows (0 : Int)), (getI v_rows (1 : Int))] : (List (List (Option Int)))))) || (!(f_l_is_sum v_whole v_rows))) = false → (ok_Loads___add__ v_two v_one) ∧ ((!(decide ((f_Loads___eq__ (f_Loads___add__ v_two v_one) v_pair) = true))) = false → ((ok_Loads___add__ v_two v_three) ∧ (ok_Loads___add__ v_one (f_Loads___add__ v_two v_three)))) ∧ ((((!(decide ((f_Loads___eq__ (f_Loads___add__ v_two v_one) v_pair) = true))) || (!(decide ((f_Loads___eq__ (f_Loads___add__ v_one (f_Loads___add__ v_two v_three)) v_whole) = true)))) = true → True) ∧ (((!(decide ((f_Loads___eq__ (f_Loads___add__ v_two v_one) v_pair) = true))) || (!(decide ((f_Loads___eq__ (f_Loads___add__ v_one (f_Loads___add__ v_two v_three)) v_whole) = true)))) = false → (0 ≤ (0 : Int) ∧ (0 : Int) < (v_rows.length : Nat)) ∧ (0 ≤ (1 : Int) ∧ (1 : Int) < (v_rows.length : Nat)) ∧ ((!(decide ((f_Loads___eq__ v_one v_two) = (decide ((getI v_rows (0 : Int)) = (getI v_rows (1 : Int))))))) = false → ((0 ≤ (2 : Int) ∧ (2 : Int) < (v_rows.length : Nat)) ∧ (0 ≤ (0 : Int) ∧ (0 : Int) < (v_rows.length : Nat)))) ∧ ((((!(decide ((f_Loads___eq__ v_one v_two) = (decide ((getI v_rows (0 : Int)) = (getI v_rows (1 : Int))))))) || (!(decide ((f_Loads___eq__ v_three v_one) = (decide ((getI v_rows (2 : Int)) = (getI v_rows (0 : Int)))))))) = true → True) ∧ (((!(decide ((f_Loads___eq__ v_one v_two) = (decide ((getI v_rows (0 : Int)) = (getI v_rows (1 : Int))))))) || (!(decide ((f_Loads___eq__ v_three v_one) = (decide ((getI v_rows (2 : Int)) = (getI v_rows (0 : Int)))))))) = false → letO (α := Ty_Loads) v_one fun v_grown =>
 (ok_Loads___add__ v_grown v_two) ∧ (letO (α := Ty_Loads) (f_Loads___add__ v_grown v_two) fun v_grown =>
 (0 ≤ (0 : Int) ∧ (0 : Int) < (v_rows.length : Nat)) ∧ (0 ≤ (1 : Int) ∧ (1 : Int) < (v_rows.length : Nat)) ∧ (ok_l_is_sum v_grown ([(getI v_rows (0 : Int)), (getI v_rows (1 : Int))] : (List (List (Option Int))))) ∧ ((!(f_l_is_sum v_grown ([(getI v_rows (0 : Int)), (getI v_rows (1 : Int))] : (List (List (Option Int)))))) = false → 0 ≤ (0 : Int) ∧ (0 : Int) < (v_rows.length : Nat)) ∧ ((((!(f_l_is_sum v_grown ([(getI v_rows (0 : Int)), (getI v_rows (1 : Int))] : (List (List (Option Int)))))) || (!(decide (v_one.p_entries = (getI v_rows (0 : Int)))))) = true → True) ∧ (((!(f_l_is_sum v_grown ([(getI v_rows (0 : Int)), (getI v_rows (1 : Int))] : (List (List (Option Int)))))) || (!(decide (v_one.p_entries = (getI v_rows (0 : Int)))))) = false → (ok_Loads_none) ∧ (letO (α := Ty_Loads) f_Loads_none fun v_nothing =>
 ((!(decide (v_nothing.p_entries = ([none, none, none, none] : (List (Option Int)))))) = false → ok_Loads___add__ v_one v_nothing) ∧ ((((!(decide (v_nothing.p_entries = ([none, none, none, none] : (List (Option Int)))))) || (!(decide ((f_Loads___eq__ (f_Loads___add__ v_one v_nothing) v_one) = true)))) = true → True) ∧ (((!(decide (v_nothing.p_entries = ([none, none, none, none] : (List (Option Int)))))) || (!(decide ((f_Loads___eq__ (f_Loads___add__ v_one v_nothing) v_one) = true)))) = false → (ok_Loads___add__ v_nothing v_two) ∧ (0 ≤ (1 : Int) ∧ (1 : Int) < (v_rows.length : Nat)) ∧ ((!(decide ((f_Loads___add__ v_nothing v_two).p_entries = (getI v_rows (1 : Int))))) = false → ((ok_Loads_none) ∧ (ok_Loads___add__ v_nothing f_Loads_none))) ∧ ((((!(decide ((f_Loads___add__ v_nothing v_two).p_entries = (getI v_rows (1 : Int))))) || (!(decide ((f_Loads___add__ v_nothing f_Loads_none).p_entries = v_nothing.p_entries)))) = true → True) ∧ (((!(decide ((f_Loads___add__ v_nothing v_two).p_entries = (getI v_rows (1 : Int))))) || (!(decide ((f_Loads___add__ v_nothing f_Loads_none).p_entries = v_nothing.p_entries)))) = false → (0 ≤ (16 : Int) ∧ (16 : Int) < (v_pool.length : Nat)) ∧ (letO (α := Int) ((getI v_pool (16 : Int)) % (7 : Int)) fun v_many =>
 (ok_l_number v_pool (140 : Int)) ∧ (0 ≤ (17 : Int) ∧ (17 : Int) < (v_pool.length : Nat)) ∧ (letO (α := Int) ((f_l_number v_pool (140 : Int)) + ((getI v_pool (17 : Int)) % (2 : Int))) fun v_great =>
 (ok_Loads_times v_one v_many) ∧ (-(2 ^ 62) ≤ v_many ∧ v_many ≤ 16777216) ∧ (∀ x35 ∈ (rangeI 0 v_many), 0 ≤ (0 : Int) ∧ (0 : Int) < (v_rows.length : Nat)) ∧ (ok_l_is_sum (f_Loads_times v_one v_many) ((rangeI 0 v_many).map fun (x35 : Int) => (getI v_rows (0 : Int)))) ∧ (((!(f_l_is_sum (f_Loads_times v_one v_many) ((rangeI 0 v_many).map fun (x35 : Int) => (getI v_rows (0 : Int))))) = true → True) ∧ ((!(f_l_is_sum (f_Loads_times v_one v_many) ((rangeI 0 v_many).map fun (x35 : Int) => (getI v_rows (0 : Int))))) = false → (ok_Loads_times v_two v_great) ∧ (-(2 ^ 62) ≤ (min v_great (4 : Int)) ∧ (min v_great (4 : Int)) ≤ 16777216) ∧ (∀ x39 ∈ (rangeI 0 (min v_great (4 : Int))), 0 ≤ (1 : Int) ∧ (1 : Int) < (v_rows.length : Nat)) ∧ (ok_l_is_sum (f_Loads_times v_two v_great) ((rangeI 0 (min v_great (4 : Int))).map fun (x39 : Int) => (getI v_rows (1 : Int)))) ∧ (((!(f_l_is_sum (f_Loads_times v_two v_great) ((rangeI 0 (min v_great (4 : Int))).map fun (x39 : Int) => (getI v_rows (1 : Int))))) = true → True) ∧ ((!(f_l_is_sum (f_Loads_times v_two v_great) ((rangeI 0 (min v_great (4 : Int))).map fun (x39 : Int) => (getI v_rows (1 : Int))))) = false → (ok_Loads_times v_one (2 : Int)) ∧ (ok_Loads___add__ v_one v_one) ∧ ((!(decide ((f_Loads___eq__ (f_Loads_times v_one (2 : Int)) (f_Loads___add__ v_one v_one)) = true))) = false → ok_Loads_times v_three (1 : Int)) ∧ ((((!(decide ((f_Loads___eq__ (f_Loads_times v_one (2 : Int)) (f_Loads___add__ v_one v_one)) = true))) || (!(decide ((f_Loads___eq__ (f_Loads_times v_three (1 : Int)) v_three) = true)))) = true → True) ∧ (((!(decide ((f_Loads___eq__ (f_Loads_times v_one (2 : Int)) (f_Loads___add__ v_one v_one)) = true))) || (!(decide ((f_Loads___eq__ (f_Loads_times v_three (1 : Int)) v_three) = true)))) = false → (ok_Loads_times v_one v_many) ∧ (-(2 ^ 62) ≤ v_many ∧ v_many ≤ 16777216) ∧ (∀ x46 ∈ (rangeI 0 v_many), 0 ≤ (0 : Int) ∧ (0 : Int) < (v_rows.length : Nat)) ∧ (ok_l_is_sum (f_Loads_times v_one v_many) ((rangeI 0 v_many).map fun (x46 : Int) => (getI v_rows (0 : Int)))) ∧ (((!(f_l_is_sum (f_Loads_times v_one v_many) ((rangeI 0 v_many).map fun (x46 : Int) => (getI v_rows (0 : Int))))) = true → True) ∧ ((!(f_l_is_sum (f_Loads_times v_one v_many) ((rangeI 0 v_many).map fun (x46 : Int) => (getI v_rows (0 : Int))))) = false → (ok_Loads___add__ v_one v_two) ∧ (0 ≤ (0 : Int) ∧ (0 : Int) < (v_rows.length : Nat)) ∧ (0 ≤ (1 : Int) ∧ (1 : Int) < (v_rows.length : Nat)) ∧ (ok_l_is_sum (f_Loads___add__ v_one v_two) ([(getI v_rows (0 : Int)), (getI v_rows (1 : Int))] : (List (List (Option Int))))))))))))))))))))))))))))))))))))))
end Fh

set_option Elab.async false
set_option linter.all false
set_option maxRecDepth 100000
set_option maxHeartbeats 4000000
set_option synthInstance.maxHeartbeats 400000
set_option synthInstance.maxSize 4000
namespace Fh
open PySem PySem.Spec PyProof.Rows L2
/-! ### the text by places (printed by gen3.py) -/
def top (i : Nat) : Stmt := PySem.Challenge.pw_fullhands_k62_loads_added.main.body.getD i (.Pass ⟨0, 0, 0, 0⟩)
abbrev s_is_greater : Stmt := top 6
abbrev N_is_greater : List Str := ["one", "other"]
theorem sc_is_greater : FnScope N_is_greater ["one", "other"] (defScope s_is_greater) := ⟨rfl, rfl, rfl, by decide +kernel, rfl, by decide +kernel, by decide +kernel⟩
abbrev s_lesser : Stmt := top 7
abbrev N_lesser : List Str := ["one", "other"]
theorem sc_lesser : FnScope N_lesser ["one", "other"] (defScope s_lesser) := ⟨rfl, rfl, rfl, by decide +kernel, rfl, by decide +kernel, by decide +kernel⟩
abbrev s_added : Stmt := top 8
abbrev N_added : List Str := ["one", "other"]
theorem sc_added : FnScope N_added ["one", "other"] (defScope s_added) := ⟨rfl, rfl, rfl, by decide +kernel, rfl, by decide +kernel, by decide +kernel⟩
abbrev s_check_entries : Stmt := top 11
abbrev N_check_entries : List Str := ["row", "before", "entry"]
theorem sc_check_entries : FnScope N_check_entries ["row"] (defScope s_check_entries) := ⟨rfl, rfl, rfl, by decide +kernel, rfl, by decide +kernel, by decide +kernel⟩
abbrev s_least_sum : Stmt := top 12
abbrev N_least_sum : List Str := ["one", "other", "hands", "best", "many"]
theorem sc_least_sum : FnScope N_least_sum ["one", "other", "hands"] (defScope s_least_sum) := ⟨rfl, rfl, rfl, by decide +kernel, rfl, by decide +kernel, by decide +kernel⟩
abbrev s_l_mixed : Stmt := top 15
abbrev N_l_mixed : List Str := ["number", "turn", "first", "second"]
theorem sc_l_mixed : FnScope N_l_mixed ["number", "turn"] (defScope s_l_mixed) := ⟨rfl, rfl, rfl, by decide +kernel, rfl, by decide +kernel, by decide +kernel⟩
abbrev s_l_pool : Stmt := top 16
abbrev N_l_pool : List Str := ["script", "many", "cells", "digits", "cell", "pool", "k", "row", "rest", "at", "turn"]
theorem sc_l_pool : FnScope N_l_pool ["script", "many"] (defScope s_l_pool) := ⟨rfl, rfl, rfl, by decide +kernel, rfl, by decide +kernel, by decide +kernel⟩
abbrev s_l_same : Stmt := top 17
abbrev N_l_same : List Str := ["actual", "due", "k"]
theorem sc_l_same : FnScope N_l_same ["actual", "due"] (defScope s_l_same) := ⟨rfl, rfl, rfl, by decide +kernel, rfl, by decide +kernel, by decide +kernel⟩
abbrev s_l_number : Stmt := top 18
abbrev N_l_number : List Str := ["pool", "start", "total", "k"]
theorem sc_l_number : FnScope N_l_number ["pool", "start"] (defScope s_l_number) := ⟨rfl, rfl, rfl, by decide +kernel, rfl, by decide +kernel, by decide +kernel⟩
abbrev s_l_entries : Stmt := top 19
abbrev N_l_entries : List Str := ["pool", "which", "entries", "last", "r", "rise"]
theorem sc_l_entries : FnScope N_l_entries ["pool", "which"] (defScope s_l_entries) := ⟨rfl, rfl, rfl, by decide +kernel, rfl, by decide +kernel, by decide +kernel⟩
abbrev s_l_splits : Stmt := top 20
abbrev N_l_splits : List Str := ["parts", "hands", "found", "k", "longer", "split", "many"]
theorem sc_l_splits : FnScope N_l_splits ["parts", "hands"] (defScope s_l_splits) := ⟨rfl, rfl, rfl, by decide +kernel, rfl, by decide +kernel, by decide +kernel⟩
abbrev s_l_parted : Stmt := top 21
abbrev N_l_parted : List Str := ["rows", "hands", "best", "split", "total", "k", "entry"]
theorem sc_l_parted : FnScope N_l_parted ["rows", "hands"] (defScope s_l_parted) := ⟨rfl, rfl, rfl, by decide +kernel, rfl, by decide +kernel, by decide +kernel⟩
abbrev s_l_sum_due : Stmt := top 22
abbrev N_l_sum_due : List Str := ["rows", "hands"]
theorem sc_l_sum_due : FnScope N_l_sum_due ["rows"] (defScope s_l_sum_due) := ⟨rfl, rfl, rfl, by decide +kernel, rfl, by decide +kernel, by decide +kernel⟩
abbrev s_l_is_sum : Stmt := top 23
abbrev N_l_is_sum : List Str := ["told", "rows"]
theorem sc_l_is_sum : FnScope N_l_is_sum ["told", "rows"] (defScope s_l_is_sum) := ⟨rfl, rfl, rfl, by decide +kernel, rfl, by decide +kernel, by decide +kernel⟩
abbrev s_law : Stmt := top 24
abbrev N_law : List Str := ["script", "pool", "rows", "handed", "one", "two", "three", "pair", "whole", "grown", "nothing", "many", "great", "which", "k"]
theorem sc_law : FnScope N_law ["script"] (defScope s_law) := ⟨rfl, rfl, rfl, by decide +kernel, rfl, by decide +kernel, by decide +kernel⟩
abbrev s_Loads___init__ : Stmt := mem (top 13) 0
abbrev N_Loads___init__ : List Str := ["self", "entries", "row"]
theorem sc_Loads___init__ : FnScope N_Loads___init__ ["self", "entries"] (defScope s_Loads___init__) := ⟨rfl, rfl, rfl, by decide +kernel, rfl, by decide +kernel, by decide +kernel⟩
abbrev s_Loads___getitem__ : Stmt := mem (top 13) 4
abbrev N_Loads___getitem__ : List Str := ["self", "at"]
theorem sc_Loads___getitem__ : FnScope N_Loads___getitem__ ["self", "at"] (defScope s_Loads___getitem__) := ⟨rfl, rfl, rfl, by decide +kernel, rfl, by decide +kernel, by decide +kernel⟩
abbrev s_Loads___add__ : Stmt := mem (top 13) 2
abbrev N_Loads___add__ : List Str := ["self", "other", "hands"]
theorem sc_Loads___add__ : FnScope N_Loads___add__ ["self", "other"] (defScope s_Loads___add__) := ⟨rfl, rfl, rfl, by decide +kernel, rfl, by decide +kernel, by decide +kernel⟩
abbrev s_Loads___eq__ : Stmt := mem (top 13) 3
abbrev N_Loads___eq__ : List Str := ["self", "other"]
theorem sc_Loads___eq__ : FnScope N_Loads___eq__ ["self", "other"] (defScope s_Loads___eq__) := ⟨rfl, rfl, rfl, by decide +kernel, rfl, by decide +kernel, by decide +kernel⟩
abbrev s_Loads_none : Stmt := mem (top 13) 1
abbrev N_Loads_none : List Str := []
theorem sc_Loads_none : FnScope N_Loads_none [] (defScope s_Loads_none) := ⟨rfl, rfl, rfl, by decide +kernel, rfl, by decide +kernel, by decide +kernel⟩
abbrev s_Loads_times : Stmt := mem (top 13) 7
abbrev N_Loads_times : List Str := ["self", "many", "found", "_"]
theorem sc_Loads_times : FnScope N_Loads_times ["self", "many"] (defScope s_Loads_times) := ⟨rfl, rfl, rfl, by decide +kernel, rfl, by decide +kernel, by decide +kernel⟩
abbrev s_Loads___iter__ : Stmt := mem (top 13) 5
abbrev N_Loads___iter__ : List Str := ["self"]
theorem sc_Loads___iter__ : FnScope N_Loads___iter__ ["self"] (defScope s_Loads___iter__) := ⟨rfl, rfl, rfl, by decide +kernel, rfl, by decide +kernel, by decide +kernel⟩
abbrev s_NoSuch__init : Stmt := mem (top 3) 0
theorem sc_NoSuch__init : FnScope ["self", "what"] ["self", "what"] (defScope s_NoSuch__init) := ⟨rfl, rfl, rfl, by decide +kernel, rfl, by decide +kernel, by decide +kernel⟩
structure Tx (K : PySem.W.Frag) (mg : Str → Option Value) : Prop where
  f_abs : mg "abs" = none
  f_bool : mg "bool" = none
  f_int : mg "int" = none
  f_isinstance : mg "isinstance" = none
  f_iter : mg "iter" = none
  f_len : mg "len" = none
  f_list : mg "list" = none
  f_min : mg "min" = none
  f_range : mg "range" = none
  f_str : mg "str" = none
  f_sum : mg "sum" = none
  f_tuple : mg "tuple" = none
  c_ENTRIES : ∃ t, mg "ENTRIES" = some (.int 4 t)
  g_Loads : mg "Loads" = some (.ref (gA K "Loads"))
  mk_Loads : Mk K (gA K "Loads") (mA K "Loads" "__init__")
  m_Loads_times : Meth K (gA K "Loads") "times" (mA K "Loads" "times")
  du_Loads___add__ : Dun K (gA K "Loads") (mA K "Loads" "__add__") "__add__"
  du_Loads___eq__ : Dun K (gA K "Loads") (mA K "Loads" "__eq__") "__eq__"
  du_Loads___getitem__ : Dun K (gA K "Loads") (mA K "Loads" "__getitem__") "__getitem__"
  du_Loads___iter__ : Dun K (gA K "Loads") (mA K "Loads" "__iter__") "__iter__"
  sf_Loads : PySem.W.selfFirst K (gA K "Loads") = true
  fi_Loads___getitem__ : PySem.W.fnIn K (mA K "Loads" "__getitem__") = true
  ni_Loads___add__ : NoI K (gA K "Loads") "__iadd__"
  st_Loads_none : SMet K (gA K "Loads") "none" (qA K "Loads" "none")
  nl_Loads : NoLn K (gA K "Loads")
  g_NoSuch : mg "NoSuch" = some (.ref (gA K "NoSuch"))
  x_NoSuch : XC K (gA K "NoSuch")
  i_NoSuch : PySem.W.findIn K (.ref (gA K "NoSuch")) "__init__" = some (some (.ref (mA K "NoSuch" "__init__")))
  t_NoSuch : PySem.W.typeIn K (.ref (mA K "NoSuch" "__init__")) = some (.type "function")
  n_NoSuch_what : NoAttr K (gA K "NoSuch") "what"
  g_BadLoads : mg "BadLoads" = some (.ref (gA K "BadLoads"))
  x_BadLoads : XC K (gA K "BadLoads")
  e_BadLoads : ∃ bm, PySem.W.excIn K (gA K "BadLoads") bm "ValueError.__new__" = true ∧ bm = He.veBase
  d_is_greater : Dd K mg "is_greater" s_is_greater [] []
  d_lesser : Dd K mg "lesser" s_lesser [] []
  d_added : Dd K mg "added" s_added [] []
  d_check_entries : Dd K mg "check_entries" s_check_entries [] []
  d_least_sum : Dd K mg "least_sum" s_least_sum [] []
  d_l_mixed : Dd K mg "_law_mixed" s_l_mixed [] []
  d_l_pool : Dd K mg "_law_pool" s_l_pool [] []
  d_l_same : Dd K mg "_law_same" s_l_same [] []
  d_l_number : Dd K mg "_law_number" s_l_number [] []
  d_l_entries : Dd K mg "_law_entries" s_l_entries [] []
  d_l_splits : Dd K mg "_law_splits" s_l_splits [] []
  d_l_parted : Dd K mg "_law_parted" s_l_parted [] []
  d_l_sum_due : Dd K mg "_law_sum_due" s_l_sum_due [] []
  d_l_is_sum : Dd K mg "_law_is_sum" s_l_is_sum [] []
  d_law : Dd K mg "law" s_law [] []
  dm_Loads___init__ : DdM K (mA K "Loads" "__init__") "__init__" "Loads.__init__" s_Loads___init__ [] []
  dm_Loads___getitem__ : DdM K (mA K "Loads" "__getitem__") "__getitem__" "Loads.__getitem__" s_Loads___getitem__ [] []
  dm_Loads___add__ : DdM K (mA K "Loads" "__add__") "__add__" "Loads.__add__" s_Loads___add__ [] []
  dm_Loads___eq__ : DdM K (mA K "Loads" "__eq__") "__eq__" "Loads.__eq__" s_Loads___eq__ [] []
  dm_Loads_none : DdM K (qA K "Loads" "none") "none" "Loads.none" s_Loads_none [] []
  dm_Loads_times : DdM K (mA K "Loads" "times") "times" "Loads.times" s_Loads_times [] []
  dm_Loads___iter__ : DdM K (mA K "Loads" "__iter__") "__iter__" "Loads.__iter__" s_Loads___iter__ [] []
  m_NoSuch : DdM K (mA K "NoSuch" "__init__") "__init__" "NoSuch.__init__" s_NoSuch__init [] []
  cf : Cf K
section
variable {P : Program} {w : World} {K : PySem.W.Frag} {mg : Str → Option Value} {base : Heap}
theorem dx_NoSuch (T : Tx K mg) : DX P w K mg base "NoSuch" (gA K "NoSuch") (spX1 (gA K "NoSuch") "what") := by
  obtain ⟨fd, F⟩ := T.m_NoSuch
  exact ⟨_, fd, _, ok_x1 F sc_NoSuch__init T.x_NoSuch T.n_NoSuch_what (fun _ _ _ _ _ _ => (pss_one (ps_ost (pv 0) (pv 1)))), ⟨T.x_NoSuch, T.g_NoSuch, T.i_NoSuch, T.t_NoSuch⟩, F.bindsN fun _ _ _ _ _ _ us hl => match us, hl with | [_, _], _ => rfl⟩
theorem tm_l_mixed (T : Tx K mg) {f : Addr} {cdv : Value} {A : Around} {outer : List Env} {s : Shared} {H : Hp} {E : XK}
    (hr : Room 0 (A.deeper (envOfC "_law_mixed" (defScope s_l_mixed) s.heap.objs.size f cdv))) :
    PSs (cxOf CX0 P w K mg base N_l_mixed "_law_mixed" (defScope s_l_mixed) f cdv A outer s H E).nox (defBody s_l_mixed) (rd_l_mixed K ) :=
  (pss_cons (ps_set (i := 2) sc_l_mixed.nd rfl (by first | exact Or.inl rfl | exact Or.inr rfl) (pe_op op_modU (pe_callTy call_intU (by rfl) T.f_int (by decide +kernel) (pa_cons (pe_op op_plus (pe_op op_plus (pe_op op_times (pv 0) pe_int) (pe_op op_times (pv 1) pe_int)) pe_int) pa_nil)) pe_int))
      (pss_cons (ps_set (i := 3) sc_l_mixed.nd rfl (by first | exact Or.inl rfl | exact Or.inr rfl) (pe_op op_modU (pe_callTy call_intU (by rfl) T.f_int (by decide +kernel) (pa_cons (pe_op op_plus (pe_op op_plus (pe_op op_times (pv 2) (pv 2)) (pe_op op_times (pv 1) pe_int)) pe_int) pa_nil)) pe_int))
      (pss_one (ps_ret (pe_op op_modU (pe_callTy call_intU (by rfl) T.f_int (by decide +kernel) (pa_cons (pe_op op_fdivU (pv 3) pe_int) pa_nil)) pe_int)))))
theorem tm_l_pool {sp_l_mixed : Sp} (T : Tx K mg) (G_l_mixed : Df P w K mg base "_law_mixed" 1 [] sp_l_mixed) {f : Addr} {cdv : Value} {A : Around} {outer : List Env} {s : Shared} {H : Hp} {E : XK}
    (hr : Room 1 (A.deeper (envOfC "_law_pool" (defScope s_l_pool) s.heap.objs.size f cdv))) :
    PSs (cxOf CX0 P w K mg base N_l_pool "_law_pool" (defScope s_l_pool) f cdv A outer s H E).nox (defBody s_l_pool) (rd_l_pool K sp_l_mixed) :=
  (pss_cons (ps_setLc (i := 2) (own := [(("cell" : Str), 4)]) (wi := (iSeq K (tSl (rSlU K) (tVar 0) tNoPart (tPart (tC (.int 63)))))) (g := (gName 4)) (tt := tYes) (te := (tCB (rAbs) (tCons (tCB (rIntC) (tCons (tVar 4) tNil)) tNil))) rfl sc_l_pool.nd rfl rfl (sw_true rfl rfl rfl (by decide +kernel)) (pi_seq (pe_slice sl_U (pv 0) po_none (po_some pe_int))) (blkOk_by (N := N_l_pool) (sc := defScope s_l_pool) (by decide +kernel)) (fun _ _ _ _ _ => (pg_name (i := 4) sc_l_pool.nd rfl (by first | exact Or.inl rfl | exact Or.inr rfl))) (fun _ _ _ _ _ => pts_nil) (fun _ _ _ _ _ => (pe_callB call_absU (by rfl) T.f_abs boot_abs (pa_cons (pe_callTy call_intU (by rfl) T.f_int (by decide +kernel) (pa_cons (pv 4) pa_nil)) pa_nil))))
      (pss_cons (ps_if (pt_cmpR (op_eqU hr) (pv 2) (pe_lst pa_nil) (nomark _)) (pss_one (ps_set (i := 2) sc_l_pool.nd rfl (by first | exact Or.inl rfl | exact Or.inr rfl) (pe_lst (pa_cons pe_int pa_nil)))) pss_nil)
      (pss_cons (ps_set (i := 3) sc_l_pool.nd rfl (by first | exact Or.inl rfl | exact Or.inr rfl) (pe_lst pa_nil))
      (pss_cons (ps_for PassesOwn.never rfl (pi_seq (pv 2)) (pg_name (i := 4) sc_l_pool.nd rfl (by first | exact Or.inl rfl | exact Or.inr rfl)) (pss_cons (ps_set (i := 7) sc_l_pool.nd rfl (by first | exact Or.inl rfl | exact Or.inr rfl) (pe_lst pa_nil))
      (pss_cons (ps_set (i := 8) sc_l_pool.nd rfl (by first | exact Or.inl rfl | exact Or.inr rfl) (pv 4))
      (pss_cons (ps_if (pt_cmpR op_geU (pv 4) (pe_op op_powU pe_int pe_int) (nomark _)) (pss_one (ps_for PassesOwn.never rfl (pi_range1 (by rfl) T.f_range (pa_cons pe_int pa_nil)) (pg_name (i := 10) sc_l_pool.nd rfl (by first | exact Or.inl rfl | exact Or.inr rfl)) (pss_one (ps_if (pt_cmpR op_gtU (pv 8) pe_int (nomark _)) (pss_cons (ps_expr (pe_bm PySem.F.plainAttrs_list PySem.F.slot_list_append PySem.F.type_list_append mt_append (pv 7) (pa_cons (pe_op op_modU (pe_callTy call_intU (by rfl) T.f_int (by decide +kernel) (pa_cons (pv 8) pa_nil)) pe_int) pa_nil)))
      (pss_one (ps_set (i := 8) sc_l_pool.nd rfl (by first | exact Or.inl rfl | exact Or.inr rfl) (pe_op op_fdivU (pv 8) pe_int)))) pss_nil)))) pss_nil)
      (pss_one (ps_expr (pe_bm PySem.F.plainAttrs_list PySem.F.slot_list_append PySem.F.type_list_append mt_append (pv 3) (pa_cons (pv 7) pa_nil))))))))
      (pss_cons (ps_set (i := 5) sc_l_pool.nd rfl (by first | exact Or.inl rfl | exact Or.inr rfl) (pe_lst pa_nil))
      (pss_cons (ps_for PassesOwn.never rfl (pi_range1 (by rfl) T.f_range (pa_cons (pv 1) pa_nil)) (pg_name (i := 6) sc_l_pool.nd rfl (by first | exact Or.inl rfl | exact Or.inr rfl)) (pss_cons (ps_set (i := 9) sc_l_pool.nd rfl (by first | exact Or.inl rfl | exact Or.inr rfl) (pe_op op_modU (pe_callTy call_intU (by rfl) T.f_int (by decide +kernel) (pa_cons (pv 6) pa_nil)) (pe_callB call_lenU (by rfl) T.f_len boot_len (pa_cons (pv 2) pa_nil))))
      (pss_cons (ps_set (i := 10) sc_l_pool.nd rfl (by first | exact Or.inl rfl | exact Or.inr rfl) (pe_op op_fdivU (pv 6) (pe_callB call_lenU (by rfl) T.f_len boot_len (pa_cons (pv 2) pa_nil))))
      (pss_one (ps_if (pt_cmpR op_ltU (pv 10) (pe_callB call_lenU (by rfl) T.f_len boot_len (pa_cons (pe_ix ix_seq (pv 3) (pv 9) (fun _ _ => rfl)) pa_nil)) (nomark _)) (pss_one (ps_expr (pe_bm PySem.F.plainAttrs_list PySem.F.slot_list_append PySem.F.type_list_append mt_append (pv 5) (pa_cons (pe_ix ix_seq (pe_ix ix_seq (pv 3) (pv 9) (fun _ _ => rfl)) (pv 10) (fun _ _ => rfl)) pa_nil)))) (pss_one (ps_expr (pe_bm PySem.F.plainAttrs_list PySem.F.slot_list_append PySem.F.type_list_append mt_append (pv 5) (pa_cons (pe_df G_l_mixed (hr.mono (by decide)) (by rfl) (pa_cons (pe_op op_plus (pe_op op_modU (pe_callTy call_intU (by rfl) T.f_int (by decide +kernel) (pa_cons (pe_ix ix_seq (pv 2) (pv 9) (fun _ _ => rfl)) pa_nil)) pe_int) (pe_op op_times pe_int (pv 9))) (pa_cons (pe_op op_plus (pv 10) pe_int) pa_nil))) pa_nil)))))))))
      (pss_one (ps_ret (pv 5)))))))))
theorem tm_l_same {sp_l_same : Sp} (T : Tx K mg) {kk : Nat} (hk : 0 ≤ kk) (G_l_same : Df P w K mg base "_law_same" kk [] sp_l_same) {f : Addr} {cdv : Value} {A : Around} {outer : List Env} {s : Shared} {H : Hp} {E : XK}
    (hr : Room kk (A.deeper (envOfC "_law_same" (defScope s_l_same) s.heap.objs.size f cdv))) :
    PSs (cxOf CX0 P w K mg base N_l_same "_law_same" (defScope s_l_same) f cdv A outer s H E).nox (defBody s_l_same) (rd_l_same K sp_l_same) :=
  (pss_cons (ps_if (pt_cmpR op_isC (pv 1) pe_non (nomark _)) (pss_one (ps_ret (pe_cmpR op_isC (pv 0) pe_non (nomark _)))) pss_nil)
      (pss_cons (ps_if (pt_cmpR op_isC (pv 1) pe_bl (nomark _)) (pss_one (ps_ret (pe_cmpR op_isC (pv 0) pe_bl (nomark _)))) pss_nil)
      (pss_cons (ps_if (pt_cmpR op_isC (pv 1) pe_bl (nomark _)) (pss_one (ps_ret (pe_cmpR op_isC (pv 0) pe_bl (nomark _)))) pss_nil)
      (pss_cons (ps_if (pt_val (pe_callB call_isi (by rfl) T.f_isinstance boot_isinstance (pa_cons (pv 1) (pa_cons (pe_bltn (v := .ty "int") (by rfl) T.f_int (by decide +kernel) rfl) pa_nil)))) (pss_one (ps_ret (pe_and (pe_callB call_isi (by rfl) T.f_isinstance boot_isinstance (pa_cons (pv 0) (pa_cons (pe_bltn (v := .ty "int") (by rfl) T.f_int (by decide +kernel) rfl) pa_nil))) (pe_and (pe_not (pe_callB call_isi (by rfl) T.f_isinstance boot_isinstance (pa_cons (pv 0) (pa_cons (pe_bltn (v := .ty "bool") (by rfl) T.f_bool (by decide +kernel) rfl) pa_nil)))) (pe_one (pe_cmpR (op_eqU hr) (pv 0) (pv 1) (nomark _))))))) pss_nil)
      (pss_cons (ps_if (pt_val (pe_callB call_isi (by rfl) T.f_isinstance boot_isinstance (pa_cons (pv 1) (pa_cons (pe_bltn (v := .ty "str") (by rfl) T.f_str (by decide +kernel) rfl) pa_nil)))) (pss_one (ps_ret (pe_and (pe_callB call_isi (by rfl) T.f_isinstance boot_isinstance (pa_cons (pv 0) (pa_cons (pe_bltn (v := .ty "str") (by rfl) T.f_str (by decide +kernel) rfl) pa_nil))) (pe_one (pe_cmpR (op_eqU hr) (pv 0) (pv 1) (nomark _)))))) pss_nil)
      (pss_cons (ps_if (pt_val (pe_callB call_isi (by rfl) T.f_isinstance boot_isinstance (pa_cons (pv 1) (pa_cons (pe_bltn (v := .ty "tuple") (by rfl) T.f_tuple (by decide +kernel) rfl) pa_nil)))) (pss_one (ps_if (PW.pt (pw_or (pt_not (pt_val (pe_callB call_isi (by rfl) T.f_isinstance boot_isinstance (pa_cons (pv 0) (pa_cons (pe_bltn (v := .ty "tuple") (by rfl) T.f_tuple (by decide +kernel) rfl) pa_nil))))) (pw_or1 (pt_cmpR (op_neU hr) (pe_callB call_lenU (by rfl) T.f_len boot_len (pa_cons (pv 0) pa_nil)) (pe_callB call_lenU (by rfl) T.f_len boot_len (pa_cons (pv 1) pa_nil)) (nomark _))))) (pss_one (ps_ret pe_bl)) pss_nil)) (pss_one (ps_if (PW.pt (pw_or (pt_not (pt_val (pe_callB call_isi (by rfl) T.f_isinstance boot_isinstance (pa_cons (pv 0) (pa_cons (pe_bltn (v := .ty "list") (by rfl) T.f_list (by decide +kernel) rfl) pa_nil))))) (pw_or1 (pt_cmpR (op_neU hr) (pe_callB call_lenU (by rfl) T.f_len boot_len (pa_cons (pv 0) pa_nil)) (pe_callB call_lenU (by rfl) T.f_len boot_len (pa_cons (pv 1) pa_nil)) (nomark _))))) (pss_one (ps_ret pe_bl)) pss_nil)))
      (pss_cons (ps_for PassesOwn.never rfl (pi_range1 (by rfl) T.f_range (pa_cons (pe_callB call_lenU (by rfl) T.f_len boot_len (pa_cons (pv 1) pa_nil)) pa_nil)) (pg_name (i := 2) sc_l_same.nd rfl (by first | exact Or.inl rfl | exact Or.inr rfl)) (pss_one (ps_if (pt_not (pt_val (pe_df G_l_same hr (by rfl) (pa_cons (pe_ix ix_seq (pv 0) (pv 2) (fun _ _ => rfl)) (pa_cons (pe_ix ix_seq (pv 1) (pv 2) (fun _ _ => rfl)) pa_nil))))) (pss_one (ps_ret pe_bl)) pss_nil)))
      (pss_one (ps_ret pe_bl)))))))))
def rd_l_number (K : PySem.W.Frag) : TS :=
  (tSeq (tAsg (tC (.int 0)) (gName 2))
  (tSeq (tFor (iRng1 (tCons (tC (.int 10)) tNil)) (gName 3) (tAsg (tOp (rPlus K) (tOp (rTimes) (tVar 2) (tC (.int 1000))) (tOp (rIx K) (tVar 0) (tOp (rPlus K) (tVar 1) (tVar 3)))) (gName 2)))
  (tRet (tVar 2))))
theorem tm_l_number (T : Tx K mg) {f : Addr} {cdv : Value} {A : Around} {outer : List Env} {s : Shared} {H : Hp} {E : XK}
    (hr : Room 0 (A.deeper (envOfC "_law_number" (defScope s_l_number) s.heap.objs.size f cdv))) :
    PSs (cxOf CX0 P w K mg base N_l_number "_law_number" (defScope s_l_number) f cdv A outer s H E).nox (defBody s_l_number) (rd_l_number K ) :=
  (pss_cons (ps_set (i := 2) sc_l_number.nd rfl (by first | exact Or.inl rfl | exact Or.inr rfl) pe_int)
      (pss_cons (ps_for PassesOwn.never rfl (pi_range1 (by rfl) T.f_range (pa_cons pe_int pa_nil)) (pg_name (i := 3) sc_l_number.nd rfl (by first | exact Or.inl rfl | exact Or.inr rfl)) (pss_one (ps_set (i := 2) sc_l_number.nd rfl (by first | exact Or.inl rfl | exact Or.inr rfl) (pe_op op_plus (pe_op op_times (pv 2) pe_int) (pe_ix ix_seq (pv 0) (pe_op op_plus (pv 1) (pv 3)) (fun _ _ => rfl))))))
      (pss_one (ps_ret (pv 2)))))
def rd_l_entries (K : PySem.W.Frag) (sp_l_number : Sp) : TS :=
  (tSeq (tAsg (tLst tNil) (gName 2))
  (tSeq (tAsg (tC (.int 0)) (gName 3))
  (tSeq (tFor (iRng1 (tCons (tC (.int 4)) tNil)) (gName 4) (tSeq (tAsg (tOp (rMod) (tCB (rIntC) (tCons (tOp (rIx K) (tVar 0) (tOp (rPlus K) (tOp (rPlus K) (tC (.int 1)) (tOp (rTimes) (tC (.int 5)) (tVar 1))) (tVar 4))) tNil)) (tC (.int 5))) (gName 5))
  (tSeq (tIfS (tAnd (tTest (tOp (rEqP K false) (tOp (rMod) (tCB (rIntC) (tCons (tOp (rIx K) (tVar 0) (tC (.int 0))) tNil)) (tC (.int 4))) (tC (.int 0)))) (tTest (tOp (rGt2) (tVar 5) (tC (.int 0))))) (tAsg (tCall sp_l_number [] E0 (tCons (tVar 0) (tCons (tOp (rPlus K) (tOp (rPlus K) (tC (.int 20)) (tOp (rTimes) (tC (.int 40)) (tVar 1))) (tOp (rTimes) (tC (.int 10)) (tVar 4))) tNil))) (gName 5)) tNext)
  (tSeq (tAsg (tOp (rPlus K) (tVar 3) (tVar 5)) (gName 3))
  (tDrop (tBM K "list" rAppend (tVar 2) (tCons (tVar 3) tNil)))))))
  (tSeq (tFor (iRng1 (tCons (tOp (rMod) (tCB (rIntC) (tCons (tOp (rIx K) (tVar 0) (tOp (rPlus K) (tC (.int 5)) (tOp (rTimes) (tC (.int 5)) (tVar 1)))) tNil)) (tC (.int 5))) tNil)) (gName 4) (tAsg (tC .non) (gSub (tVar 2) (tOp (rMinus) (tC (.int 3)) (tVar 4)) rSetL)))
  (tRet (tVar 2))))))
theorem tm_l_entries {sp_l_number : Sp} (T : Tx K mg) (G_l_number : Df P w K mg base "_law_number" 1 [] sp_l_number) {f : Addr} {cdv : Value} {A : Around} {outer : List Env} {s : Shared} {H : Hp} {E : XK}
    (hr : Room 1 (A.deeper (envOfC "_law_entries" (defScope s_l_entries) s.heap.objs.size f cdv))) :
    PSs (cxOf CX0 P w K mg base N_l_entries "_law_entries" (defScope s_l_entries) f cdv A outer s H E).nox (defBody s_l_entries) (rd_l_entries K sp_l_number) :=
  (pss_cons (ps_set (i := 2) sc_l_entries.nd rfl (by first | exact Or.inl rfl | exact Or.inr rfl) (pe_lst pa_nil))
      (pss_cons (ps_set (i := 3) sc_l_entries.nd rfl (by first | exact Or.inl rfl | exact Or.inr rfl) pe_int)
      (pss_cons (ps_for PassesOwn.never rfl (pi_range1 (by rfl) T.f_range (pa_cons pe_int pa_nil)) (pg_name (i := 4) sc_l_entries.nd rfl (by first | exact Or.inl rfl | exact Or.inr rfl)) (pss_cons (ps_set (i := 5) sc_l_entries.nd rfl (by first | exact Or.inl rfl | exact Or.inr rfl) (pe_op op_modU (pe_callTy call_intU (by rfl) T.f_int (by decide +kernel) (pa_cons (pe_ix ix_seq (pv 0) (pe_op op_plus (pe_op op_plus pe_int (pe_op op_times pe_int (pv 1))) (pv 4)) (fun _ _ => rfl)) pa_nil)) pe_int))
      (pss_cons (ps_if (PW.pt (pw_and (pt_cmpR (op_eqP hr) (pe_op op_modU (pe_callTy call_intU (by rfl) T.f_int (by decide +kernel) (pa_cons (pe_ix ix_seq (pv 0) pe_int (fun _ _ => rfl)) pa_nil)) pe_int) pe_int (nomark _)) (pw_and1 (pt_cmpR op_gtU (pv 5) pe_int (nomark _))))) (pss_one (ps_set (i := 5) sc_l_entries.nd rfl (by first | exact Or.inl rfl | exact Or.inr rfl) (pe_df G_l_number (hr.mono (by decide)) (by rfl) (pa_cons (pv 0) (pa_cons (pe_op op_plus (pe_op op_plus pe_int (pe_op op_times pe_int (pv 1))) (pe_op op_times pe_int (pv 4))) pa_nil))))) pss_nil)
      (pss_cons (ps_set (i := 3) sc_l_entries.nd rfl (by first | exact Or.inl rfl | exact Or.inr rfl) (pe_op op_plus (pv 3) (pv 5)))
      (pss_one (ps_expr (pe_bm PySem.F.plainAttrs_list PySem.F.slot_list_append PySem.F.type_list_append mt_append (pv 2) (pa_cons (pv 3) pa_nil))))))))
      (pss_cons (ps_for PassesOwn.never rfl (pi_range1 (by rfl) T.f_range (pa_cons (pe_op op_modU (pe_callTy call_intU (by rfl) T.f_int (by decide +kernel) (pa_cons (pe_ix ix_seq (pv 0) (pe_op op_plus pe_int (pe_op op_times pe_int (pv 1))) (fun _ _ => rfl)) pa_nil)) pe_int) pa_nil)) (pg_name (i := 4) sc_l_entries.nd rfl (by first | exact Or.inl rfl | exact Or.inr rfl)) (pss_one (ps_asg pe_non (pg_sub (pv 2) (pe_op op_minus pe_int (pv 4)) set_list))))
      (pss_one (ps_ret (pv 2)))))))
def rd_is_greater (K : PySem.W.Frag) : TS :=
  (tSeq (tIfS (tTest (tOp (rIsC) (tVar 1) (tC .non))) (tRet (tC (.bl false))) tNext)
  (tRet (tOrV (tOp (rIsC) (tVar 0) (tC .non)) (tOp (rGt2) (tVar 0) (tVar 1)))))
theorem tm_is_greater (T : Tx K mg) {f : Addr} {cdv : Value} {A : Around} {outer : List Env} {s : Shared} {H : Hp} {E : XK}
    (hr : Room 0 (A.deeper (envOfC "is_greater" (defScope s_is_greater) s.heap.objs.size f cdv))) :
    PSs (cxOf CX0 P w K mg base N_is_greater "is_greater" (defScope s_is_greater) f cdv A outer s H E).nox (defBody s_is_greater) (rd_is_greater K ) :=
  (pss_cons (ps_if (pt_cmpR op_isC (pv 1) pe_non (nomark _)) (pss_one (ps_ret pe_bl)) pss_nil)
      (pss_one (ps_ret (pe_or (pe_cmpR op_isC (pv 0) pe_non (nomark _)) (pe_one (pe_cmpR op_gtU (pv 0) (pv 1) (nomark _)))))))
def rd_check_entries (K : PySem.W.Frag) (sp_is_greater : Sp) : TS :=
  (tSeq (tIfS (tTest (tOp (rEqP K true) (tCB (rLenU K) (tCons (tVar 0) tNil)) (tC (.int 4)))) (tRaise0 K "BadLoads" (fun _ _ _ _ => False)) tNext)
  (tSeq (tAsg (tC (.int 0)) (gName 1))
  (tFor (iSeq K (tVar 0)) (gName 2) (tSeq (tIfS (tB (tCall sp_is_greater [] E0 (tCons (tVar 1) (tCons (tVar 2) tNil)))) (tRaise0 K "BadLoads" (fun _ _ _ _ => False)) tNext)
  (tAsg (tVar 2) (gName 1))))))
theorem tm_check_entries {sp_is_greater : Sp} (T : Tx K mg) (G_is_greater : Df P w K mg base "is_greater" 1 [] sp_is_greater) {f : Addr} {cdv : Value} {A : Around} {outer : List Env} {s : Shared} {H : Hp} {E : XK}
    (hr : Room 1 (A.deeper (envOfC "check_entries" (defScope s_check_entries) s.heap.objs.size f cdv))) :
    PSs (cxOf CX0 P w K mg base N_check_entries "check_entries" (defScope s_check_entries) f cdv A outer s H E).nox (defBody s_check_entries) (rd_check_entries K sp_is_greater) :=
  (pss_cons (ps_if (pt_cmpR (op_neP hr) (pe_callB call_lenU (by rfl) T.f_len boot_len (pa_cons (pv 0) pa_nil)) (pe_globI (by rfl) T.c_ENTRIES) (nomark _)) (pss_one (ps_raiseX0 rfl ⟨T.x_BadLoads, T.g_BadLoads, T.e_BadLoads⟩ (by rfl) takes0)) pss_nil)
      (pss_cons (ps_set (i := 1) sc_check_entries.nd rfl (by first | exact Or.inl rfl | exact Or.inr rfl) pe_int)
      (pss_one (ps_for PassesOwn.never rfl (pi_seq (pv 0)) (pg_name (i := 2) sc_check_entries.nd rfl (by first | exact Or.inl rfl | exact Or.inr rfl)) (pss_cons (ps_if (pt_val (pe_df G_is_greater (hr.mono (by decide)) (by rfl) (pa_cons (pv 1) (pa_cons (pv 2) pa_nil)))) (pss_one (ps_raiseX0 rfl ⟨T.x_BadLoads, T.g_BadLoads, T.e_BadLoads⟩ (by rfl) takes0)) pss_nil)
      (pss_one (ps_set (i := 1) sc_check_entries.nd rfl (by first | exact Or.inl rfl | exact Or.inr rfl) (pv 2))))))))
def rd_Loads___init__ (K : PySem.W.Frag) (sp_check_entries : Sp) : TS :=
  (tSeq (tAsg (tCB (rTupU K) (tCons (tVar 1) tNil)) (gName 2))
  (tSeq (tDrop (tCall sp_check_entries [] E0 (tCons (tVar 2) tNil)))
  (sFld K (tVar 0) (tVar 2) "_entries")))
theorem tm_Loads___init__ {sp_check_entries : Sp} (T : Tx K mg) (G_check_entries : Df P w K mg base "check_entries" 2 [] sp_check_entries) {f : Addr} {cdv : Value} {A : Around} {outer : List Env} {s : Shared} {H : Hp} {E : XK}
    (hr : Room 2 (A.deeper (envOfC "Loads.__init__" (defScope s_Loads___init__) s.heap.objs.size f cdv))) :
    PSs (cxOf CX0 P w K mg base N_Loads___init__ "Loads.__init__" (defScope s_Loads___init__) f cdv A outer s H E).nox (defBody s_Loads___init__) (rd_Loads___init__ K sp_check_entries) :=
  (pss_cons (ps_set (i := 2) sc_Loads___init__.nd rfl (by first | exact Or.inl rfl | exact Or.inr rfl) (pe_callTy call_tupU (by rfl) T.f_tuple (by decide +kernel) (pa_cons (pv 1) pa_nil)))
      (pss_cons (ps_expr (pe_df G_check_entries (hr.mono (by decide)) (by rfl) (pa_cons (pv 2) pa_nil)))
      (pss_one (ps_fld (pv 0) (pv 2) (by rfl)))))
def rd_Loads___init___2 (K : PySem.W.Frag) (sp_check_entries : Sp) : TS :=
  (tSeq (tAsg (tCB (rTupU K) (tCons (tVar 1) tNil)) (gName 2))
  (tSeq (tDrop (tCall sp_check_entries [] E0 (tCons (tVar 2) tNil)))
  (sFld K (tVar 0) (tVar 2) "_entries")))
theorem tm_Loads___init___2 {sp_check_entries : Sp} (T : Tx K mg) (G_check_entries : Df P w K mg base "check_entries" 2 [] sp_check_entries) {f : Addr} {cdv : Value} {A : Around} {outer : List Env} {s : Shared} {H : Hp} {E : XK}
    (hr : Room 2 (A.deeper (envOfC "Loads.__init__" (defScope s_Loads___init__) s.heap.objs.size f cdv))) :
    PSs (cxOf CX0 P w K mg base N_Loads___init__ "Loads.__init__" (defScope s_Loads___init__) f cdv A outer s H E).nox (defBody s_Loads___init__) (rd_Loads___init___2 K sp_check_entries) :=
  (pss_cons (ps_set (i := 2) sc_Loads___init__.nd rfl (by first | exact Or.inl rfl | exact Or.inr rfl) (pe_callTy call_tupU (by rfl) T.f_tuple (by decide +kernel) (pa_cons (pv 1) pa_nil)))
      (pss_cons (ps_expr (pe_df G_check_entries (hr.mono (by decide)) (by rfl) (pa_cons (pv 2) pa_nil)))
      (pss_one (ps_fld (pv 0) (pv 2) (by rfl)))))
def rd_Loads___getitem__ (K : PySem.W.Frag) : TS :=
  (tSeq (tIfS (tNot (tTest (tChain (rLe) (rLe) (tC (.int 0)) (tVar 1) (tC (.int 4))))) (tRaiseX K "NoSuch" (spX1 (gA K "NoSuch") "what") (tCons (tC (.str "entry")) tNil) (fun _ _ _ _ => False)) tNext)
  (tSeq (tIfS (tTest (tOp (rEqP K false) (tVar 1) (tC (.int 0)))) (tRet (tC (.int 0))) tNext)
  (tRet (tOp (rIx K) (tAt K (tVar 0) "_entries") (tOp (rMinus) (tVar 1) (tC (.int 1)))))))
theorem tm_Loads___getitem__ (T : Tx K mg) {f : Addr} {cdv : Value} {A : Around} {outer : List Env} {s : Shared} {H : Hp} {E : XK}
    (hr : Room 2 (A.deeper (envOfC "Loads.__getitem__" (defScope s_Loads___getitem__) s.heap.objs.size f cdv))) :
    PSs (cxOf CX0 P w K mg base N_Loads___getitem__ "Loads.__getitem__" (defScope s_Loads___getitem__) f cdv A outer s H E).nox (defBody s_Loads___getitem__) (rd_Loads___getitem__ K ) :=
  (pss_cons (ps_if (pt_not (pt_chain op_leU op_leU pe_int (pv 1) (pe_globI (by rfl) T.c_ENTRIES))) (pss_one (ps_raiseX rfl (dx_NoSuch T) (hr.mono (by decide)) (by rfl) takes0 (pa_cons pe_str pa_nil))) pss_nil)
      (pss_cons (ps_if (pt_cmpR (op_eqP hr) (pv 1) pe_int (nomark _)) (pss_one (ps_ret pe_int)) pss_nil)
      (pss_one (ps_ret (pe_ix ix_seq (pe_at (pv 0)) (pe_op op_minus (pv 1) pe_int) (fun _ _ => rfl))))))
def rd_added (K : PySem.W.Frag) : TS :=
  (tSeq (tIfS (tOr (tTest (tOp (rIsC) (tVar 0) (tC .non))) (tTest (tOp (rIsC) (tVar 1) (tC .non)))) (tRet (tC .non)) tNext)
  (tRet (tOp (rPlus K) (tVar 0) (tVar 1))))
theorem tm_added (T : Tx K mg) {f : Addr} {cdv : Value} {A : Around} {outer : List Env} {s : Shared} {H : Hp} {E : XK}
    (hr : Room 0 (A.deeper (envOfC "added" (defScope s_added) s.heap.objs.size f cdv))) :
    PSs (cxOf CX0 P w K mg base N_added "added" (defScope s_added) f cdv A outer s H E).nox (defBody s_added) (rd_added K ) :=
  (pss_cons (ps_if (PW.pt (pw_or (pt_cmpR op_isC (pv 0) pe_non (nomark _)) (pw_or1 (pt_cmpR op_isC (pv 1) pe_non (nomark _))))) (pss_one (ps_ret pe_non)) pss_nil)
      (pss_one (ps_ret (pe_op op_plus (pv 0) (pv 1)))))
def rd_lesser (K : PySem.W.Frag) (sp_is_greater : Sp) : TS :=
  (tSeq (tIfS (tB (tCall sp_is_greater [] E0 (tCons (tVar 0) (tCons (tVar 1) tNil)))) (tRet (tVar 1)) tNext)
  (tRet (tVar 0)))
theorem tm_lesser {sp_is_greater : Sp} (T : Tx K mg) (G_is_greater : Df P w K mg base "is_greater" 1 [] sp_is_greater) {f : Addr} {cdv : Value} {A : Around} {outer : List Env} {s : Shared} {H : Hp} {E : XK}
    (hr : Room 1 (A.deeper (envOfC "lesser" (defScope s_lesser) s.heap.objs.size f cdv))) :
    PSs (cxOf CX0 P w K mg base N_lesser "lesser" (defScope s_lesser) f cdv A outer s H E).nox (defBody s_lesser) (rd_lesser K sp_is_greater) :=
  (pss_cons (ps_if (pt_val (pe_df G_is_greater (hr.mono (by decide)) (by rfl) (pa_cons (pv 0) (pa_cons (pv 1) pa_nil)))) (pss_one (ps_ret (pv 1))) pss_nil)
      (pss_one (ps_ret (pv 0))))
def rd_least_sum (K : PySem.W.Frag) (sp_lesser sp_added sp_Loads___getitem__ : Sp) : TS :=
  (tSeq (tAsg (tC .non) (gName 3))
  (tSeq (tFor (iRng1 (tCons (tOp (rPlus K) (tVar 2) (tC (.int 1))) tNil)) (gName 4) (tAsg (tCall sp_lesser [] E0 (tCons (tVar 3) (tCons (tCall sp_added [] E0 (tCons (tSubO (gA K "Loads") sp_Loads___getitem__ (fun _ => E0) (tVar 0) (tVar 4)) (tCons (tSubO (gA K "Loads") sp_Loads___getitem__ (fun _ => E0) (tVar 1) (tOp (rMinus) (tVar 2) (tVar 4))) tNil))) tNil))) (gName 3)))
  (tRet (tVar 3))))
theorem tm_least_sum {sp_lesser sp_added sp_Loads___getitem__ : Sp} (T : Tx K mg) (G_lesser : Df P w K mg base "lesser" 2 [] sp_lesser) (G_added : Df P w K mg base "added" 1 [] sp_added) (G_Loads___getitem__ : DfM P w K mg base (mA K "Loads" "__getitem__") 3 [] sp_Loads___getitem__) {f : Addr} {cdv : Value} {A : Around} {outer : List Env} {s : Shared} {H : Hp} {E : XK}
    (hr : Room 4 (A.deeper (envOfC "least_sum" (defScope s_least_sum) s.heap.objs.size f cdv))) :
    PSs (cxOf CX0 P w K mg base N_least_sum "least_sum" (defScope s_least_sum) f cdv A outer s H E).nox (defBody s_least_sum) (rd_least_sum K sp_lesser sp_added sp_Loads___getitem__) :=
  (pss_cons (ps_set (i := 3) sc_least_sum.nd rfl (by first | exact Or.inl rfl | exact Or.inr rfl) pe_non)
      (pss_cons (ps_for PassesOwn.never rfl (pi_range1 (by rfl) T.f_range (pa_cons (pe_op op_plus (pv 2) pe_int) pa_nil)) (pg_name (i := 4) sc_least_sum.nd rfl (by first | exact Or.inl rfl | exact Or.inr rfl)) (pss_one (ps_set (i := 3) sc_least_sum.nd rfl (by first | exact Or.inl rfl | exact Or.inr rfl) (pe_df G_lesser (hr.mono (by decide)) (by rfl) (pa_cons (pv 3) (pa_cons (pe_df G_added (hr.mono (by decide)) (by rfl) (pa_cons (pe_subO G_Loads___getitem__ T.du_Loads___getitem__ T.fi_Loads___getitem__ (hr.mono (by decide)) (pv 0) (pv 4)) (pa_cons (pe_subO G_Loads___getitem__ T.du_Loads___getitem__ T.fi_Loads___getitem__ (hr.mono (by decide)) (pv 1) (pe_op op_minus (pv 2) (pv 4))) pa_nil))) pa_nil))))))
      (pss_one (ps_ret (pv 3)))))
def rd_Loads___add__ (K : PySem.W.Frag) (sp_least_sum sp_Loads___init__ : Sp) : TS :=
  (tRet (tMakeN (gA K "Loads") 1 0 sp_Loads___init__ (fun (vs zs : List V) => vs) E0 (tCons (tLc (iRng2 (tCons (tC (.int 1)) (tCons (tOp (rPlus K) (tC (.int 4)) (tC (.int 1))) tNil))) (gName 2) tYes (tCall sp_least_sum [] E0 (tCons (tVar 0) (tCons (tVar 1) (tCons (tVar 2) tNil)))) [2]) tNil) tNil))
theorem tm_Loads___add__ {sp_least_sum sp_Loads___init__ : Sp} (T : Tx K mg) (G_least_sum : Df P w K mg base "least_sum" 5 [] sp_least_sum) (G_Loads___init___S1 : DfC P w K mg base "Loads" (gA K "Loads") 3 1 [] (fun (vs zs : List V) => vs) sp_Loads___init__) {f : Addr} {cdv : Value} {A : Around} {outer : List Env} {s : Shared} {H : Hp} {E : XK}
    (hr : Room 5 (A.deeper (envOfC "Loads.__add__" (defScope s_Loads___add__) s.heap.objs.size f cdv))) :
    PSs (cxOf CX0 P w K mg base N_Loads___add__ "Loads.__add__" (defScope s_Loads___add__) f cdv A outer s H E).nox (defBody s_Loads___add__) (rd_Loads___add__ K sp_least_sum sp_Loads___init__) :=
  (pss_one (ps_ret (pe_cls G_Loads___init___S1 (hr.mono (by decide)) (by rfl) (pa_cons (pe_lc (own := [(("hands" : Str), 2)]) (wi := (iRng2 (tCons (tC (.int 1)) (tCons (tOp (rPlus K) (tC (.int 4)) (tC (.int 1))) tNil)))) (g := (gName 2)) (tt := tYes) (te := (tCall sp_least_sum [] E0 (tCons (tVar 0) (tCons (tVar 1) (tCons (tVar 2) tNil))))) rfl sc_Loads___add__.nd (pi_range2 (by rfl) T.f_range (pa_cons pe_int (pa_cons (pe_op op_plus (pe_globI (by rfl) T.c_ENTRIES) pe_int) pa_nil))) (blkOk_by (N := N_Loads___add__) (sc := defScope s_Loads___add__) (by decide +kernel)) (fun _ _ _ _ _ => (pg_name (i := 2) sc_Loads___add__.nd rfl (by first | exact Or.inl rfl | exact Or.inr rfl))) (fun _ _ _ _ _ => pts_nil) (fun _ _ _ _ _ => (pe_df G_least_sum (hr.mono (by decide)) (by rfl) (pa_cons (pv 0) (pa_cons (pv 1) (pa_cons (pv 2) pa_nil)))))) pa_nil) pk_nil)))
def rd_l_splits (K : PySem.W.Frag) : TS :=
  (tSeq (tAsg (tLst (tCons (tLst tNil) tNil)) (gName 2))
  (tSeq (tFor (iRng1 (tCons (tVar 0) tNil)) (gName 3) (tSeq (tAsg (tLst tNil) (gName 4))
  (tSeq (tFor (iSeq K (tVar 2)) (gName 5) (tFor (iRng1 (tCons (tOp (rPlus K) (tOp (rMinus) (tVar 1) (tCB (rSum K) (tCons (tVar 5) tNil))) (tC (.int 1))) tNil)) (gName 6) (tDrop (tBM K "list" rAppend (tVar 4) (tCons (tOp (rPlus K) (tVar 5) (tLst (tCons (tVar 6) tNil))) tNil)))))
  (tAsg (tCB (rListU K) (tCons (tVar 4) tNil)) (gName 2)))))
  (tRet (tLc (iSeq K (tVar 2)) (gName 5) (tTest (tOp (rEqP K false) (tCB (rSum K) (tCons (tVar 5) tNil)) (tVar 1))) (tVar 5) [5]))))
theorem tm_l_splits (T : Tx K mg) {f : Addr} {cdv : Value} {A : Around} {outer : List Env} {s : Shared} {H : Hp} {E : XK}
    (hr : Room 0 (A.deeper (envOfC "_law_splits" (defScope s_l_splits) s.heap.objs.size f cdv))) :
    PSs (cxOf CX0 P w K mg base N_l_splits "_law_splits" (defScope s_l_splits) f cdv A outer s H E).nox (defBody s_l_splits) (rd_l_splits K ) :=
  (pss_cons (ps_set (i := 2) sc_l_splits.nd rfl (by first | exact Or.inl rfl | exact Or.inr rfl) (pe_lst (pa_cons (pe_lst pa_nil) pa_nil)))
      (pss_cons (ps_for PassesOwn.never rfl (pi_range1 (by rfl) T.f_range (pa_cons (pv 0) pa_nil)) (pg_name (i := 3) sc_l_splits.nd rfl (by first | exact Or.inl rfl | exact Or.inr rfl)) (pss_cons (ps_set (i := 4) sc_l_splits.nd rfl (by first | exact Or.inl rfl | exact Or.inr rfl) (pe_lst pa_nil))
      (pss_cons (ps_for PassesOwn.never rfl (pi_seq (pv 2)) (pg_name (i := 5) sc_l_splits.nd rfl (by first | exact Or.inl rfl | exact Or.inr rfl)) (pss_one (ps_for PassesOwn.never rfl (pi_range1 (by rfl) T.f_range (pa_cons (pe_op op_plus (pe_op op_minus (pv 1) (pe_callB (cr_sum rfl) (by rfl) T.f_sum (by decide +kernel) (pa_cons (pv 5) pa_nil))) pe_int) pa_nil)) (pg_name (i := 6) sc_l_splits.nd rfl (by first | exact Or.inl rfl | exact Or.inr rfl)) (pss_one (ps_expr (pe_bm PySem.F.plainAttrs_list PySem.F.slot_list_append PySem.F.type_list_append mt_append (pv 4) (pa_cons (pe_op op_plus (pv 5) (pe_lst (pa_cons (pv 6) pa_nil))) pa_nil)))))))
      (pss_one (ps_set (i := 2) sc_l_splits.nd rfl (by first | exact Or.inl rfl | exact Or.inr rfl) (pe_callTy call_listU (by rfl) T.f_list (by decide +kernel) (pa_cons (pv 4) pa_nil)))))))
      (pss_one (ps_ret (pe_lc (own := [(("split" : Str), 5)]) (wi := (iSeq K (tVar 2))) (g := (gName 5)) (tt := (tTest (tOp (rEqP K false) (tCB (rSum K) (tCons (tVar 5) tNil)) (tVar 1)))) (te := (tVar 5)) rfl sc_l_splits.nd (pi_seq (pv 2)) (blkOk_by (N := N_l_splits) (sc := defScope s_l_splits) (by decide +kernel)) (fun _ _ _ _ _ => (pg_name (i := 5) sc_l_splits.nd rfl (by first | exact Or.inl rfl | exact Or.inr rfl))) (fun _ _ _ _ _ => (pts_one (pt_cmpR (op_eqP hr) (pe_callB (cr_sum rfl) (by rfl) T.f_sum (by decide +kernel) (pa_cons (pv 5) pa_nil)) (pv 1) (nomark _)))) (fun _ _ _ _ _ => (pv 5)))))))
def rd_l_parted (K : PySem.W.Frag) (sp_l_splits : Sp) : TS :=
  (tSeq (tAsg (tC .non) (gName 2))
  (tSeq (tFor (iSeq K (tCall sp_l_splits [] E0 (tCons (tCB (rLenU K) (tCons (tVar 0) tNil)) (tCons (tVar 1) tNil)))) (gName 3) (tSeq (tAsg (tC (.int 0)) (gName 4))
  (tSeq (tFor (iRng1 (tCons (tCB (rLenU K) (tCons (tVar 0) tNil)) tNil)) (gName 5) (tSeq (tAsg (tC (.int 0)) (gName 6))
  (tSeq (tIfS (tTest (tOp (rGt2) (tOp (rIx K) (tVar 3) (tVar 5)) (tC (.int 0)))) (tAsg (tOp (rIx K) (tOp (rIx K) (tVar 0) (tVar 5)) (tOp (rMinus) (tOp (rIx K) (tVar 3) (tVar 5)) (tC (.int 1)))) (gName 6)) tNext)
  (tIfS (tOr (tTest (tOp (rIsC) (tVar 4) (tC .non))) (tTest (tOp (rIsC) (tVar 6) (tC .non)))) (tAsg (tC .non) (gName 4)) (tAsg (tOp (rPlus K) (tVar 4) (tVar 6)) (gName 4))))))
  (tIfS (tAnd (tTest (tOp (rIsNC) (tVar 4) (tC .non))) (tOr (tTest (tOp (rIsC) (tVar 2) (tC .non))) (tTest (tOp (rLt) (tVar 4) (tVar 2))))) (tAsg (tVar 4) (gName 2)) tNext))))
  (tRet (tVar 2))))
theorem tm_l_parted {sp_l_splits : Sp} (T : Tx K mg) (G_l_splits : Df P w K mg base "_law_splits" 1 [] sp_l_splits) {f : Addr} {cdv : Value} {A : Around} {outer : List Env} {s : Shared} {H : Hp} {E : XK}
    (hr : Room 1 (A.deeper (envOfC "_law_parted" (defScope s_l_parted) s.heap.objs.size f cdv))) :
    PSs (cxOf CX0 P w K mg base N_l_parted "_law_parted" (defScope s_l_parted) f cdv A outer s H E).nox (defBody s_l_parted) (rd_l_parted K sp_l_splits) :=
  (pss_cons (ps_set (i := 2) sc_l_parted.nd rfl (by first | exact Or.inl rfl | exact Or.inr rfl) pe_non)
      (pss_cons (ps_for PassesOwn.never rfl (pi_seq (pe_df G_l_splits (hr.mono (by decide)) (by rfl) (pa_cons (pe_callB call_lenU (by rfl) T.f_len boot_len (pa_cons (pv 0) pa_nil)) (pa_cons (pv 1) pa_nil)))) (pg_name (i := 3) sc_l_parted.nd rfl (by first | exact Or.inl rfl | exact Or.inr rfl)) (pss_cons (ps_set (i := 4) sc_l_parted.nd rfl (by first | exact Or.inl rfl | exact Or.inr rfl) pe_int)
      (pss_cons (ps_for PassesOwn.never rfl (pi_range1 (by rfl) T.f_range (pa_cons (pe_callB call_lenU (by rfl) T.f_len boot_len (pa_cons (pv 0) pa_nil)) pa_nil)) (pg_name (i := 5) sc_l_parted.nd rfl (by first | exact Or.inl rfl | exact Or.inr rfl)) (pss_cons (ps_set (i := 6) sc_l_parted.nd rfl (by first | exact Or.inl rfl | exact Or.inr rfl) pe_int)
      (pss_cons (ps_if (pt_cmpR op_gtU (pe_ix ix_seq (pv 3) (pv 5) (fun _ _ => rfl)) pe_int (nomark _)) (pss_one (ps_set (i := 6) sc_l_parted.nd rfl (by first | exact Or.inl rfl | exact Or.inr rfl) (pe_ix ix_seq (pe_ix ix_seq (pv 0) (pv 5) (fun _ _ => rfl)) (pe_op op_minus (pe_ix ix_seq (pv 3) (pv 5) (fun _ _ => rfl)) pe_int) (fun _ _ => rfl)))) pss_nil)
      (pss_one (ps_if (PW.pt (pw_or (pt_cmpR op_isC (pv 4) pe_non (nomark _)) (pw_or1 (pt_cmpR op_isC (pv 6) pe_non (nomark _))))) (pss_one (ps_set (i := 4) sc_l_parted.nd rfl (by first | exact Or.inl rfl | exact Or.inr rfl) pe_non)) (pss_one (ps_set (i := 4) sc_l_parted.nd rfl (by first | exact Or.inl rfl | exact Or.inr rfl) (pe_op op_plus (pv 4) (pv 6)))))))))
      (pss_one (ps_if (PW.pt (pw_and (pt_cmpR op_isNC (pv 4) pe_non (nomark _)) (pw_and1 (PW.pt (pw_or (pt_cmpR op_isC (pv 2) pe_non (nomark _)) (pw_or1 (pt_cmpR op_ltU (pv 4) (pv 2) (nomark _)))))))) (pss_one (ps_set (i := 2) sc_l_parted.nd rfl (by first | exact Or.inl rfl | exact Or.inr rfl) (pv 4))) pss_nil)))))
      (pss_one (ps_ret (pv 2)))))
def rd_l_sum_due (K : PySem.W.Frag) (sp_l_parted : Sp) : TS :=
  (tRet (tLc (iRng2 (tCons (tC (.int 1)) (tCons (tC (.int 5)) tNil))) (gName 1) tYes (tCall sp_l_parted [] E0 (tCons (tVar 0) (tCons (tVar 1) tNil))) [1]))
theorem tm_l_sum_due {sp_l_parted : Sp} (T : Tx K mg) (G_l_parted : Df P w K mg base "_law_parted" 2 [] sp_l_parted) {f : Addr} {cdv : Value} {A : Around} {outer : List Env} {s : Shared} {H : Hp} {E : XK}
    (hr : Room 2 (A.deeper (envOfC "_law_sum_due" (defScope s_l_sum_due) s.heap.objs.size f cdv))) :
    PSs (cxOf CX0 P w K mg base N_l_sum_due "_law_sum_due" (defScope s_l_sum_due) f cdv A outer s H E).nox (defBody s_l_sum_due) (rd_l_sum_due K sp_l_parted) :=
  (pss_one (ps_ret (pe_lc (own := [(("hands" : Str), 1)]) (wi := (iRng2 (tCons (tC (.int 1)) (tCons (tC (.int 5)) tNil)))) (g := (gName 1)) (tt := tYes) (te := (tCall sp_l_parted [] E0 (tCons (tVar 0) (tCons (tVar 1) tNil)))) rfl sc_l_sum_due.nd (pi_range2 (by rfl) T.f_range (pa_cons pe_int (pa_cons pe_int pa_nil))) (blkOk_by (N := N_l_sum_due) (sc := defScope s_l_sum_due) (by decide +kernel)) (fun _ _ _ _ _ => (pg_name (i := 1) sc_l_sum_due.nd rfl (by first | exact Or.inl rfl | exact Or.inr rfl))) (fun _ _ _ _ _ => pts_nil) (fun _ _ _ _ _ => (pe_df G_l_parted (hr.mono (by decide)) (by rfl) (pa_cons (pv 0) (pa_cons (pv 1) pa_nil)))))))
def rd_l_is_sum (K : PySem.W.Frag) (sp_l_same sp_l_sum_due : Sp) : TS :=
  (tRet (tAndV (tCB (rIsiU K) (tCons (tVar 0) (tCons (tC (.ref (gA K "Loads"))) tNil))) (tCall sp_l_same [] E0 (tCons (tCB (rListO K (gA K "Loads") "_entries") (tCons (tVar 0) tNil)) (tCons (tCall sp_l_sum_due [] E0 (tCons (tVar 1) tNil)) tNil)))))
theorem tm_l_is_sum {sp_l_same sp_l_sum_due : Sp} (T : Tx K mg) (G_l_same : Df P w K mg base "_law_same" 7 [] sp_l_same) (G_l_sum_due : Df P w K mg base "_law_sum_due" 3 [] sp_l_sum_due) (G_it_Loads : DfIt P w K mg base (mA K "Loads" "__iter__") 1 (gA K "Loads") "_entries") {f : Addr} {cdv : Value} {A : Around} {outer : List Env} {s : Shared} {H : Hp} {E : XK}
    (hr : Room 7 (A.deeper (envOfC "_law_is_sum" (defScope s_l_is_sum) s.heap.objs.size f cdv))) :
    PSs (cxOf CX0 P w K mg base N_l_is_sum "_law_is_sum" (defScope s_l_is_sum) f cdv A outer s H E).nox (defBody s_l_is_sum) (rd_l_is_sum K sp_l_same sp_l_sum_due) :=
  (pss_one (ps_ret (pe_and (pe_callB call_isiU (by rfl) T.f_isinstance boot_isinstance (pa_cons (pv 0) (pa_cons (pe_glob (v := .ref (gA K "Loads")) (by rfl) T.g_Loads rfl) pa_nil))) (pe_one (pe_df G_l_same (hr.mono (by decide)) (by rfl) (pa_cons (pe_callTy (call_listO G_it_Loads T.du_Loads___iter__ T.nl_Loads (hr.mono (by decide)) rfl) (by rfl) T.f_list (by decide +kernel) (pa_cons (pv 0) pa_nil)) (pa_cons (pe_df G_l_sum_due (hr.mono (by decide)) (by rfl) (pa_cons (pv 1) pa_nil)) pa_nil)))))))
def rd_Loads___eq__ (K : PySem.W.Frag) : TS :=
  (tRet (tAndV (tCB (rIsiU K) (tCons (tVar 1) (tCons (tC (.ref (gA K "Loads"))) tNil))) (tOp (rEqP K false) (tAt K (tVar 0) "_entries") (tAt K (tVar 1) "_entries"))))
theorem tm_Loads___eq__ (T : Tx K mg) {f : Addr} {cdv : Value} {A : Around} {outer : List Env} {s : Shared} {H : Hp} {E : XK}
    (hr : Room 0 (A.deeper (envOfC "Loads.__eq__" (defScope s_Loads___eq__) s.heap.objs.size f cdv))) :
    PSs (cxOf CX0 P w K mg base N_Loads___eq__ "Loads.__eq__" (defScope s_Loads___eq__) f cdv A outer s H E).nox (defBody s_Loads___eq__) (rd_Loads___eq__ K ) :=
  (pss_one (ps_ret (pe_and (pe_callB call_isiU (by rfl) T.f_isinstance boot_isinstance (pa_cons (pv 1) (pa_cons (pe_glob (v := .ref (gA K "Loads")) (by rfl) T.g_Loads rfl) pa_nil))) (pe_one (pe_cmpR (op_eqP hr) (pe_at (pv 0)) (pe_at (pv 1)) (nomark _))))))
def rd_Loads_none (K : PySem.W.Frag) (sp_Loads___init__ : Sp) : TS :=
  (tRet (tMakeN (gA K "Loads") 1 0 sp_Loads___init__ (fun (vs zs : List V) => vs) E0 (tCons (tLst (tCons (tC .non) (tCons (tC .non) (tCons (tC .non) (tCons (tC .non) tNil))))) tNil) tNil))
theorem tm_Loads_none {sp_Loads___init__ : Sp} (T : Tx K mg) (G_Loads___init___S1 : DfC P w K mg base "Loads" (gA K "Loads") 3 1 [] (fun (vs zs : List V) => vs) sp_Loads___init__) {f : Addr} {cdv : Value} {A : Around} {outer : List Env} {s : Shared} {H : Hp} {E : XK}
    (hr : Room 4 (A.deeper (envOfC "Loads.none" (defScope s_Loads_none) s.heap.objs.size f cdv))) :
    PSs (cxOf CX0 P w K mg base N_Loads_none "Loads.none" (defScope s_Loads_none) f cdv A outer s H E).nox (defBody s_Loads_none) (rd_Loads_none K sp_Loads___init__) :=
  (pss_one (ps_ret (pe_cls G_Loads___init___S1 (hr.mono (by decide)) (by rfl) (pa_cons (pe_lst (pa_cons pe_non (pa_cons pe_non (pa_cons pe_non (pa_cons pe_non pa_nil))))) pa_nil) pk_nil)))
def rd_Loads_times (K : PySem.W.Frag) (sp_Loads_none sp_Loads___add__ : Sp) : TS :=
  (tSeq (tAsg (tStat0 (gA K "Loads") sp_Loads_none E0 (tC (.ref (gA K "Loads")))) (gName 2))
  (tSeq (tFor (iRng1 (tCons (tCB (rMn2) (tCons (tVar 1) (tCons (tC (.int 4)) tNil))) tNil)) (gName 3) (tAsg (tBinO (gA K "Loads") sp_Loads___add__ (fun _ => E0) (tVar 2) (tVar 0)) (gName 2)))
  (tRet (tVar 2))))
theorem tm_Loads_times {sp_Loads_none sp_Loads___add__ : Sp} (T : Tx K mg) (G_Loads_none : DfM P w K mg base (qA K "Loads" "none") 5 [] sp_Loads_none) (G_Loads___add__ : DfM P w K mg base (mA K "Loads" "__add__") 6 [] sp_Loads___add__) {f : Addr} {cdv : Value} {A : Around} {outer : List Env} {s : Shared} {H : Hp} {E : XK}
    (hr : Room 6 (A.deeper (envOfC "Loads.times" (defScope s_Loads_times) s.heap.objs.size f cdv))) :
    PSs (cxOf CX0 P w K mg base N_Loads_times "Loads.times" (defScope s_Loads_times) f cdv A outer s H E).nox (defBody s_Loads_times) (rd_Loads_times K sp_Loads_none sp_Loads___add__) :=
  (pss_cons (ps_set (i := 2) sc_Loads_times.nd rfl (by first | exact Or.inl rfl | exact Or.inr rfl) (pe_stat0 G_Loads_none T.st_Loads_none (hr.mono (by decide)) (pe_glob (v := .ref (gA K "Loads")) (by rfl) T.g_Loads rfl)))
      (pss_cons (ps_for PassesOwn.never rfl (pi_range1 (by rfl) T.f_range (pa_cons (pe_callB (call_mn2 rfl) (by rfl) T.f_min (by decide +kernel) (pa_cons (pv 1) (pa_cons (pe_globI (by rfl) T.c_ENTRIES) pa_nil))) pa_nil)) (pg_name (i := 3) sc_Loads_times.nd rfl (by first | exact Or.inl rfl | exact Or.inr rfl)) (pss_one (ps_set (i := 2) sc_Loads_times.nd rfl (by first | exact Or.inl rfl | exact Or.inr rfl) (pe_binO G_Loads___add__ T.du_Loads___add__ T.sf_Loads (hr.mono (by decide)) (pv 2) (pv 0)))))
      (pss_one (ps_ret (pv 2)))))
def rd_law (K : PySem.W.Frag) (sp_l_pool sp_l_entries sp_Loads___init__ sp_Loads___init___2 sp_Loads___add__ sp_l_is_sum sp_l_same sp_Loads___eq__ sp_Loads_none sp_l_number sp_Loads_times : Sp) : TS :=
  (tSeq (tAsg (tCall sp_l_pool [] E0 (tCons (tVar 0) (tCons (tC (.int 150)) tNil))) (gName 1))
  (tSeq (tAsg (tLc (iRng1 (tCons (tC (.int 3)) tNil)) (gName 13) tYes (tCall sp_l_entries [] E0 (tCons (tVar 1) (tCons (tVar 13) tNil))) [13]) (gName 2))
  (tSeq (tAsg (tCB (rListU K) (tCons (tOp (rIx K) (tVar 2) (tC (.int 0))) tNil)) (gName 3))
  (tSeq (tAsg (tMakeN (gA K "Loads") 1 0 sp_Loads___init__ (fun (vs zs : List V) => vs) E0 (tCons (tVar 3) tNil) tNil) (gName 4))
  (tSeq (tAsg (tMakeN (gA K "Loads") 1 0 sp_Loads___init___2 (fun (vs zs : List V) => vs) E0 (tCons (tCB (rTupU K) (tCons (tOp (rIx K) (tVar 2) (tC (.int 1))) tNil)) tNil) tNil) (gName 5))
  (tSeq (tAsg (tMakeN (gA K "Loads") 1 0 sp_Loads___init__ (fun (vs zs : List V) => vs) E0 (tCons (tCB (rListU K) (tCons (tOp (rIx K) (tVar 2) (tC (.int 2))) tNil)) tNil) tNil) (gName 6))
  (tSeq (tAsg (tC .non) (gSub (tVar 3) (tC (.int 0)) rSetL))
  (tSeq (tDrop (tBM K "list" rAppend (tVar 3) (tCons (tC (.int 0)) tNil)))
  (tSeq (tAsg (tBinO (gA K "Loads") sp_Loads___add__ (fun _ => E0) (tVar 4) (tVar 5)) (gName 7))
  (tSeq (tAsg (tBinO (gA K "Loads") sp_Loads___add__ (fun _ => E0) (tVar 7) (tVar 6)) (gName 8))
  (tSeq (tIfS (tOr (tNot (tB (tCall sp_l_is_sum [] E0 (tCons (tVar 7) (tCons (tLst (tCons (tOp (rIx K) (tVar 2) (tC (.int 0))) (tCons (tOp (rIx K) (tVar 2) (tC (.int 1))) tNil))) tNil))))) (tNot (tB (tCall sp_l_is_sum [] E0 (tCons (tVar 8) (tCons (tVar 2) tNil)))))) (tRet (tC (.bl false))) tNext)
  (tSeq (tIfS (tOr (tNot (tB (tCall sp_l_same [] E0 (tCons (tBinO (gA K "Loads") sp_Loads___eq__ (fun _ => E0) (tBinO (gA K "Loads") sp_Loads___add__ (fun _ => E0) (tVar 5) (tVar 4)) (tVar 7)) (tCons (tC (.bl true)) tNil))))) (tNot (tB (tCall sp_l_same [] E0 (tCons (tBinO (gA K "Loads") sp_Loads___eq__ (fun _ => E0) (tBinO (gA K "Loads") sp_Loads___add__ (fun _ => E0) (tVar 4) (tBinO (gA K "Loads") sp_Loads___add__ (fun _ => E0) (tVar 5) (tVar 6))) (tVar 8)) (tCons (tC (.bl true)) tNil)))))) (tRet (tC (.bl false))) tNext)
  (tSeq (tIfS (tOr (tNot (tB (tCall sp_l_same [] E0 (tCons (tBinO (gA K "Loads") sp_Loads___eq__ (fun _ => E0) (tVar 4) (tVar 5)) (tCons (tOp (rEqP K false) (tOp (rIx K) (tVar 2) (tC (.int 0))) (tOp (rIx K) (tVar 2) (tC (.int 1)))) tNil))))) (tNot (tB (tCall sp_l_same [] E0 (tCons (tBinO (gA K "Loads") sp_Loads___eq__ (fun _ => E0) (tVar 6) (tVar 4)) (tCons (tOp (rEqP K false) (tOp (rIx K) (tVar 2) (tC (.int 2))) (tOp (rIx K) (tVar 2) (tC (.int 0)))) tNil)))))) (tRet (tC (.bl false))) tNext)
  (tSeq (tAsg (tVar 4) (gName 9))
  (tSeq (tAug 9 (tVar 5) (ipO (gA K "Loads") sp_Loads___add__))
  (tSeq (tIfS (tOr (tNot (tB (tCall sp_l_is_sum [] E0 (tCons (tVar 9) (tCons (tLst (tCons (tOp (rIx K) (tVar 2) (tC (.int 0))) (tCons (tOp (rIx K) (tVar 2) (tC (.int 1))) tNil))) tNil))))) (tNot (tB (tCall sp_l_same [] E0 (tCons (tCB (rListO K (gA K "Loads") "_entries") (tCons (tVar 4) tNil)) (tCons (tOp (rIx K) (tVar 2) (tC (.int 0))) tNil)))))) (tRet (tC (.bl false))) tNext)
  (tSeq (tAsg (tStat0 (gA K "Loads") sp_Loads_none E0 (tC (.ref (gA K "Loads")))) (gName 10))
  (tSeq (tIfS (tOr (tNot (tB (tCall sp_l_same [] E0 (tCons (tCB (rListO K (gA K "Loads") "_entries") (tCons (tVar 10) tNil)) (tCons (tLst (tCons (tC .non) (tCons (tC .non) (tCons (tC .non) (tCons (tC .non) tNil))))) tNil))))) (tNot (tB (tCall sp_l_same [] E0 (tCons (tBinO (gA K "Loads") sp_Loads___eq__ (fun _ => E0) (tBinO (gA K "Loads") sp_Loads___add__ (fun _ => E0) (tVar 4) (tVar 10)) (tVar 4)) (tCons (tC (.bl true)) tNil)))))) (tRet (tC (.bl false))) tNext)
  (tSeq (tIfS (tOr (tNot (tB (tCall sp_l_same [] E0 (tCons (tCB (rListO K (gA K "Loads") "_entries") (tCons (tBinO (gA K "Loads") sp_Loads___add__ (fun _ => E0) (tVar 10) (tVar 5)) tNil)) (tCons (tOp (rIx K) (tVar 2) (tC (.int 1))) tNil))))) (tNot (tB (tCall sp_l_same [] E0 (tCons (tCB (rListO K (gA K "Loads") "_entries") (tCons (tBinO (gA K "Loads") sp_Loads___add__ (fun _ => E0) (tVar 10) (tStat0 (gA K "Loads") sp_Loads_none E0 (tC (.ref (gA K "Loads"))))) tNil)) (tCons (tCB (rListO K (gA K "Loads") "_entries") (tCons (tVar 10) tNil)) tNil)))))) (tRet (tC (.bl false))) tNext)
  (tSeq (tAsg (tOp (rMod) (tCB (rIntC) (tCons (tOp (rIx K) (tVar 1) (tC (.int 16))) tNil)) (tC (.int 7))) (gName 11))
  (tSeq (tAsg (tOp (rPlus K) (tCall sp_l_number [] E0 (tCons (tVar 1) (tCons (tC (.int 140)) tNil))) (tOp (rMod) (tCB (rIntC) (tCons (tOp (rIx K) (tVar 1) (tC (.int 17))) tNil)) (tC (.int 2)))) (gName 12))
  (tSeq (tIfS (tNot (tB (tCall sp_l_is_sum [] E0 (tCons (tMeth (gA K "Loads") "times" sp_Loads_times [] E0 (tVar 4) (tCons (tVar 11) tNil)) (tCons (tLc (iRng1 (tCons (tVar 11) tNil)) (gName 14) tYes (tOp (rIx K) (tVar 2) (tC (.int 0))) [14]) tNil))))) (tRet (tC (.bl false))) tNext)
  (tSeq (tIfS (tNot (tB (tCall sp_l_is_sum [] E0 (tCons (tMeth (gA K "Loads") "times" sp_Loads_times [] E0 (tVar 5) (tCons (tVar 12) tNil)) (tCons (tLc (iRng1 (tCons (tCB (rMn2) (tCons (tVar 12) (tCons (tC (.int 4)) tNil))) tNil)) (gName 14) tYes (tOp (rIx K) (tVar 2) (tC (.int 1))) [14]) tNil))))) (tRet (tC (.bl false))) tNext)
  (tSeq (tIfS (tOr (tNot (tB (tCall sp_l_same [] E0 (tCons (tBinO (gA K "Loads") sp_Loads___eq__ (fun _ => E0) (tMeth (gA K "Loads") "times" sp_Loads_times [] E0 (tVar 4) (tCons (tC (.int 2)) tNil)) (tBinO (gA K "Loads") sp_Loads___add__ (fun _ => E0) (tVar 4) (tVar 4))) (tCons (tC (.bl true)) tNil))))) (tNot (tB (tCall sp_l_same [] E0 (tCons (tBinO (gA K "Loads") sp_Loads___eq__ (fun _ => E0) (tMeth (gA K "Loads") "times" sp_Loads_times [] E0 (tVar 6) (tCons (tC (.int 1)) tNil)) (tVar 6)) (tCons (tC (.bl true)) tNil)))))) (tRet (tC (.bl false))) tNext)
  (tSeq (tIfS (tNot (tB (tCall sp_l_is_sum [] E0 (tCons (tMeth (gA K "Loads") "times" sp_Loads_times [] E0 (tVar 4) (tCons (tVar 11) tNil)) (tCons (tLc (iRng1 (tCons (tVar 11) tNil)) (gName 14) tYes (tOp (rIx K) (tVar 2) (tC (.int 0))) [14]) tNil))))) (tRet (tC (.bl false))) tNext)
  (tSeq (tIfS (tNot (tB (tCall sp_l_is_sum [] E0 (tCons (tBinO (gA K "Loads") sp_Loads___add__ (fun _ => E0) (tVar 4) (tVar 5)) (tCons (tLst (tCons (tOp (rIx K) (tVar 2) (tC (.int 0))) (tCons (tOp (rIx K) (tVar 2) (tC (.int 1))) tNil))) tNil))))) (tRet (tC (.bl false))) tNext)
  (tRet (tCall sp_l_same [] E0 (tCons (tLst (tCons (tCB (rListO K (gA K "Loads") "_entries") (tCons (tVar 4) tNil)) (tCons (tCB (rListO K (gA K "Loads") "_entries") (tCons (tVar 5) tNil)) (tCons (tCB (rListO K (gA K "Loads") "_entries") (tCons (tVar 6) tNil)) tNil)))) (tCons (tVar 2) tNil))))))))))))))))))))))))))))))
theorem tm_law {sp_l_pool sp_l_entries sp_Loads___init__ sp_Loads___init___2 sp_Loads___add__ sp_l_is_sum sp_l_same sp_Loads___eq__ sp_Loads_none sp_l_number sp_Loads_times : Sp} (T : Tx K mg) (G_l_pool : Df P w K mg base "_law_pool" 2 [] sp_l_pool) (G_l_entries : Df P w K mg base "_law_entries" 2 [] sp_l_entries) (G_Loads___init___S1 : DfC P w K mg base "Loads" (gA K "Loads") 3 1 [] (fun (vs zs : List V) => vs) sp_Loads___init__) (G_Loads___init___2_S1 : DfC P w K mg base "Loads" (gA K "Loads") 3 1 [] (fun (vs zs : List V) => vs) sp_Loads___init___2) (G_Loads___add__ : DfM P w K mg base (mA K "Loads" "__add__") 6 [] sp_Loads___add__) (G_l_is_sum : Df P w K mg base "_law_is_sum" 8 [] sp_l_is_sum) (G_l_same : Df P w K mg base "_law_same" 7 [] sp_l_same) (G_Loads___eq__ : DfM P w K mg base (mA K "Loads" "__eq__") 1 [] sp_Loads___eq__) (G_it_Loads : DfIt P w K mg base (mA K "Loads" "__iter__") 1 (gA K "Loads") "_entries") (G_Loads_none : DfM P w K mg base (qA K "Loads" "none") 5 [] sp_Loads_none) (G_l_number : Df P w K mg base "_law_number" 1 [] sp_l_number) (G_Loads_times : DfM P w K mg base (mA K "Loads" "times") 7 [] sp_Loads_times) {f : Addr} {cdv : Value} {A : Around} {outer : List Env} {s : Shared} {H : Hp} {E : XK}
    (hr : Room 8 (A.deeper (envOfC "law" (defScope s_law) s.heap.objs.size f cdv))) :
    PSs (cxOf CX0 P w K mg base N_law "law" (defScope s_law) f cdv A outer s H E).nox (defBody s_law) (rd_law K sp_l_pool sp_l_entries sp_Loads___init__ sp_Loads___init___2 sp_Loads___add__ sp_l_is_sum sp_l_same sp_Loads___eq__ sp_Loads_none sp_l_number sp_Loads_times) :=
  (pss_cons (ps_set (i := 1) sc_law.nd rfl (by first | exact Or.inl rfl | exact Or.inr rfl) (pe_df G_l_pool (hr.mono (by decide)) (by rfl) (pa_cons (pv 0) (pa_cons pe_int pa_nil))))
      (pss_cons (ps_set (i := 2) sc_law.nd rfl (by first | exact Or.inl rfl | exact Or.inr rfl) (pe_lc (own := [(("which" : Str), 13)]) (wi := (iRng1 (tCons (tC (.int 3)) tNil))) (g := (gName 13)) (tt := tYes) (te := (tCall sp_l_entries [] E0 (tCons (tVar 1) (tCons (tVar 13) tNil)))) rfl sc_law.nd (pi_range1 (by rfl) T.f_range (pa_cons pe_int pa_nil)) (blkOk_by (N := N_law) (sc := defScope s_law) (by decide +kernel)) (fun _ _ _ _ _ => (pg_name (i := 13) sc_law.nd rfl (by first | exact Or.inl rfl | exact Or.inr rfl))) (fun _ _ _ _ _ => pts_nil) (fun _ _ _ _ _ => (pe_df G_l_entries (hr.mono (by decide)) (by rfl) (pa_cons (pv 1) (pa_cons (pv 13) pa_nil))))))
      (pss_cons (ps_set (i := 3) sc_law.nd rfl (by first | exact Or.inl rfl | exact Or.inr rfl) (pe_callTy call_listU (by rfl) T.f_list (by decide +kernel) (pa_cons (pe_ix ix_seq (pv 2) pe_int (fun _ _ => rfl)) pa_nil)))
      (pss_cons (ps_set (i := 4) sc_law.nd rfl (by first | exact Or.inl rfl | exact Or.inr rfl) (pe_cls G_Loads___init___S1 (hr.mono (by decide)) (by rfl) (pa_cons (pv 3) pa_nil) pk_nil))
      (pss_cons (ps_set (i := 5) sc_law.nd rfl (by first | exact Or.inl rfl | exact Or.inr rfl) (pe_cls G_Loads___init___2_S1 (hr.mono (by decide)) (by rfl) (pa_cons (pe_callTy call_tupU (by rfl) T.f_tuple (by decide +kernel) (pa_cons (pe_ix ix_seq (pv 2) pe_int (fun _ _ => rfl)) pa_nil)) pa_nil) pk_nil))
      (pss_cons (ps_set (i := 6) sc_law.nd rfl (by first | exact Or.inl rfl | exact Or.inr rfl) (pe_cls G_Loads___init___S1 (hr.mono (by decide)) (by rfl) (pa_cons (pe_callTy call_listU (by rfl) T.f_list (by decide +kernel) (pa_cons (pe_ix ix_seq (pv 2) pe_int (fun _ _ => rfl)) pa_nil)) pa_nil) pk_nil))
      (pss_cons (ps_asg pe_non (pg_sub (pv 3) pe_int set_list))
      (pss_cons (ps_expr (pe_bm PySem.F.plainAttrs_list PySem.F.slot_list_append PySem.F.type_list_append mt_append (pv 3) (pa_cons pe_int pa_nil)))
      (pss_cons (ps_set (i := 7) sc_law.nd rfl (by first | exact Or.inl rfl | exact Or.inr rfl) (pe_binO G_Loads___add__ T.du_Loads___add__ T.sf_Loads (hr.mono (by decide)) (pv 4) (pv 5)))
      (pss_cons (ps_set (i := 8) sc_law.nd rfl (by first | exact Or.inl rfl | exact Or.inr rfl) (pe_binO G_Loads___add__ T.du_Loads___add__ T.sf_Loads (hr.mono (by decide)) (pv 7) (pv 6)))
      (pss_cons (ps_if (PW.pt (pw_or (pt_not (pt_val (pe_df G_l_is_sum (hr.mono (by decide)) (by rfl) (pa_cons (pv 7) (pa_cons (pe_lst (pa_cons (pe_ix ix_seq (pv 2) pe_int (fun _ _ => rfl)) (pa_cons (pe_ix ix_seq (pv 2) pe_int (fun _ _ => rfl)) pa_nil))) pa_nil))))) (pw_or1 (pt_not (pt_val (pe_df G_l_is_sum (hr.mono (by decide)) (by rfl) (pa_cons (pv 8) (pa_cons (pv 2) pa_nil)))))))) (pss_one (ps_ret pe_bl)) pss_nil)
      (pss_cons (ps_if (PW.pt (pw_or (pt_not (pt_val (pe_df G_l_same (hr.mono (by decide)) (by rfl) (pa_cons (pe_eqO G_Loads___eq__ T.du_Loads___eq__ (hr.mono (by decide)) (pe_binO G_Loads___add__ T.du_Loads___add__ T.sf_Loads (hr.mono (by decide)) (pv 5) (pv 4)) (pv 7) (nomark _)) (pa_cons pe_bl pa_nil))))) (pw_or1 (pt_not (pt_val (pe_df G_l_same (hr.mono (by decide)) (by rfl) (pa_cons (pe_eqO G_Loads___eq__ T.du_Loads___eq__ (hr.mono (by decide)) (pe_binO G_Loads___add__ T.du_Loads___add__ T.sf_Loads (hr.mono (by decide)) (pv 4) (pe_binO G_Loads___add__ T.du_Loads___add__ T.sf_Loads (hr.mono (by decide)) (pv 5) (pv 6))) (pv 8) (nomark _)) (pa_cons pe_bl pa_nil)))))))) (pss_one (ps_ret pe_bl)) pss_nil)
      (pss_cons (ps_if (PW.pt (pw_or (pt_not (pt_val (pe_df G_l_same (hr.mono (by decide)) (by rfl) (pa_cons (pe_eqO G_Loads___eq__ T.du_Loads___eq__ (hr.mono (by decide)) (pv 4) (pv 5) (nomark _)) (pa_cons (pe_cmpR (op_eqP hr) (pe_ix ix_seq (pv 2) pe_int (fun _ _ => rfl)) (pe_ix ix_seq (pv 2) pe_int (fun _ _ => rfl)) (nomark _)) pa_nil))))) (pw_or1 (pt_not (pt_val (pe_df G_l_same (hr.mono (by decide)) (by rfl) (pa_cons (pe_eqO G_Loads___eq__ T.du_Loads___eq__ (hr.mono (by decide)) (pv 6) (pv 4) (nomark _)) (pa_cons (pe_cmpR (op_eqP hr) (pe_ix ix_seq (pv 2) pe_int (fun _ _ => rfl)) (pe_ix ix_seq (pv 2) pe_int (fun _ _ => rfl)) (nomark _)) pa_nil)))))))) (pss_one (ps_ret pe_bl)) pss_nil)
      (pss_cons (ps_set (i := 9) sc_law.nd rfl (by first | exact Or.inl rfl | exact Or.inr rfl) (pv 4))
      (pss_cons (ps_aug (i := 9) sc_law.nd rfl (by first | exact Or.inl rfl | exact Or.inr rfl) (pv 5) (ip_own G_Loads___add__ T.du_Loads___add__ T.sf_Loads T.ni_Loads___add__ (hr.mono (by decide))))
      (pss_cons (ps_if (PW.pt (pw_or (pt_not (pt_val (pe_df G_l_is_sum (hr.mono (by decide)) (by rfl) (pa_cons (pv 9) (pa_cons (pe_lst (pa_cons (pe_ix ix_seq (pv 2) pe_int (fun _ _ => rfl)) (pa_cons (pe_ix ix_seq (pv 2) pe_int (fun _ _ => rfl)) pa_nil))) pa_nil))))) (pw_or1 (pt_not (pt_val (pe_df G_l_same (hr.mono (by decide)) (by rfl) (pa_cons (pe_callTy (call_listO G_it_Loads T.du_Loads___iter__ T.nl_Loads (hr.mono (by decide)) rfl) (by rfl) T.f_list (by decide +kernel) (pa_cons (pv 4) pa_nil)) (pa_cons (pe_ix ix_seq (pv 2) pe_int (fun _ _ => rfl)) pa_nil)))))))) (pss_one (ps_ret pe_bl)) pss_nil)
      (pss_cons (ps_set (i := 10) sc_law.nd rfl (by first | exact Or.inl rfl | exact Or.inr rfl) (pe_stat0 G_Loads_none T.st_Loads_none (hr.mono (by decide)) (pe_glob (v := .ref (gA K "Loads")) (by rfl) T.g_Loads rfl)))
      (pss_cons (ps_if (PW.pt (pw_or (pt_not (pt_val (pe_df G_l_same (hr.mono (by decide)) (by rfl) (pa_cons (pe_callTy (call_listO G_it_Loads T.du_Loads___iter__ T.nl_Loads (hr.mono (by decide)) rfl) (by rfl) T.f_list (by decide +kernel) (pa_cons (pv 10) pa_nil)) (pa_cons (pe_lst (pa_cons pe_non (pa_cons pe_non (pa_cons pe_non (pa_cons pe_non pa_nil))))) pa_nil))))) (pw_or1 (pt_not (pt_val (pe_df G_l_same (hr.mono (by decide)) (by rfl) (pa_cons (pe_eqO G_Loads___eq__ T.du_Loads___eq__ (hr.mono (by decide)) (pe_binO G_Loads___add__ T.du_Loads___add__ T.sf_Loads (hr.mono (by decide)) (pv 4) (pv 10)) (pv 4) (nomark _)) (pa_cons pe_bl pa_nil)))))))) (pss_one (ps_ret pe_bl)) pss_nil)
      (pss_cons (ps_if (PW.pt (pw_or (pt_not (pt_val (pe_df G_l_same (hr.mono (by decide)) (by rfl) (pa_cons (pe_callTy (call_listO G_it_Loads T.du_Loads___iter__ T.nl_Loads (hr.mono (by decide)) rfl) (by rfl) T.f_list (by decide +kernel) (pa_cons (pe_binO G_Loads___add__ T.du_Loads___add__ T.sf_Loads (hr.mono (by decide)) (pv 10) (pv 5)) pa_nil)) (pa_cons (pe_ix ix_seq (pv 2) pe_int (fun _ _ => rfl)) pa_nil))))) (pw_or1 (pt_not (pt_val (pe_df G_l_same (hr.mono (by decide)) (by rfl) (pa_cons (pe_callTy (call_listO G_it_Loads T.du_Loads___iter__ T.nl_Loads (hr.mono (by decide)) rfl) (by rfl) T.f_list (by decide +kernel) (pa_cons (pe_binO G_Loads___add__ T.du_Loads___add__ T.sf_Loads (hr.mono (by decide)) (pv 10) (pe_stat0 G_Loads_none T.st_Loads_none (hr.mono (by decide)) (pe_glob (v := .ref (gA K "Loads")) (by rfl) T.g_Loads rfl))) pa_nil)) (pa_cons (pe_callTy (call_listO G_it_Loads T.du_Loads___iter__ T.nl_Loads (hr.mono (by decide)) rfl) (by rfl) T.f_list (by decide +kernel) (pa_cons (pv 10) pa_nil)) pa_nil)))))))) (pss_one (ps_ret pe_bl)) pss_nil)
      (pss_cons (ps_set (i := 11) sc_law.nd rfl (by first | exact Or.inl rfl | exact Or.inr rfl) (pe_op op_modU (pe_callTy call_intU (by rfl) T.f_int (by decide +kernel) (pa_cons (pe_ix ix_seq (pv 1) pe_int (fun _ _ => rfl)) pa_nil)) pe_int))
      (pss_cons (ps_set (i := 12) sc_law.nd rfl (by first | exact Or.inl rfl | exact Or.inr rfl) (pe_op op_plus (pe_df G_l_number (hr.mono (by decide)) (by rfl) (pa_cons (pv 1) (pa_cons pe_int pa_nil))) (pe_op op_modU (pe_callTy call_intU (by rfl) T.f_int (by decide +kernel) (pa_cons (pe_ix ix_seq (pv 1) pe_int (fun _ _ => rfl)) pa_nil)) pe_int)))
      (pss_cons (ps_if (pt_not (pt_val (pe_df G_l_is_sum (hr.mono (by decide)) (by rfl) (pa_cons (pe_mth G_Loads_times T.cf.c_Loads T.m_Loads_times (hr.mono (by decide)) (pv 4) (pa_cons (pv 11) pa_nil)) (pa_cons (pe_lc (own := [(("k" : Str), 14)]) (wi := (iRng1 (tCons (tVar 11) tNil))) (g := (gName 14)) (tt := tYes) (te := (tOp (rIx K) (tVar 2) (tC (.int 0)))) rfl sc_law.nd (pi_range1 (by rfl) T.f_range (pa_cons (pv 11) pa_nil)) (blkOk_by (N := N_law) (sc := defScope s_law) (by decide +kernel)) (fun _ _ _ _ _ => (pg_name (i := 14) sc_law.nd rfl (by first | exact Or.inl rfl | exact Or.inr rfl))) (fun _ _ _ _ _ => pts_nil) (fun _ _ _ _ _ => (pe_ix ix_seq (pv 2) pe_int (fun _ _ => rfl)))) pa_nil))))) (pss_one (ps_ret pe_bl)) pss_nil)
      (pss_cons (ps_if (pt_not (pt_val (pe_df G_l_is_sum (hr.mono (by decide)) (by rfl) (pa_cons (pe_mth G_Loads_times T.cf.c_Loads T.m_Loads_times (hr.mono (by decide)) (pv 5) (pa_cons (pv 12) pa_nil)) (pa_cons (pe_lc (own := [(("k" : Str), 14)]) (wi := (iRng1 (tCons (tCB (rMn2) (tCons (tVar 12) (tCons (tC (.int 4)) tNil))) tNil))) (g := (gName 14)) (tt := tYes) (te := (tOp (rIx K) (tVar 2) (tC (.int 1)))) rfl sc_law.nd (pi_range1 (by rfl) T.f_range (pa_cons (pe_callB (call_mn2 rfl) (by rfl) T.f_min (by decide +kernel) (pa_cons (pv 12) (pa_cons pe_int pa_nil))) pa_nil)) (blkOk_by (N := N_law) (sc := defScope s_law) (by decide +kernel)) (fun _ _ _ _ _ => (pg_name (i := 14) sc_law.nd rfl (by first | exact Or.inl rfl | exact Or.inr rfl))) (fun _ _ _ _ _ => pts_nil) (fun _ _ _ _ _ => (pe_ix ix_seq (pv 2) pe_int (fun _ _ => rfl)))) pa_nil))))) (pss_one (ps_ret pe_bl)) pss_nil)
      (pss_cons (ps_if (PW.pt (pw_or (pt_not (pt_val (pe_df G_l_same (hr.mono (by decide)) (by rfl) (pa_cons (pe_eqO G_Loads___eq__ T.du_Loads___eq__ (hr.mono (by decide)) (pe_mth G_Loads_times T.cf.c_Loads T.m_Loads_times (hr.mono (by decide)) (pv 4) (pa_cons pe_int pa_nil)) (pe_binO G_Loads___add__ T.du_Loads___add__ T.sf_Loads (hr.mono (by decide)) (pv 4) (pv 4)) (nomark _)) (pa_cons pe_bl pa_nil))))) (pw_or1 (pt_not (pt_val (pe_df G_l_same (hr.mono (by decide)) (by rfl) (pa_cons (pe_eqO G_Loads___eq__ T.du_Loads___eq__ (hr.mono (by decide)) (pe_mth G_Loads_times T.cf.c_Loads T.m_Loads_times (hr.mono (by decide)) (pv 6) (pa_cons pe_int pa_nil)) (pv 6) (nomark _)) (pa_cons pe_bl pa_nil)))))))) (pss_one (ps_ret pe_bl)) pss_nil)
      (pss_cons (ps_if (pt_not (pt_val (pe_df G_l_is_sum (hr.mono (by decide)) (by rfl) (pa_cons (pe_mth G_Loads_times T.cf.c_Loads T.m_Loads_times (hr.mono (by decide)) (pv 4) (pa_cons (pv 11) pa_nil)) (pa_cons (pe_lc (own := [(("k" : Str), 14)]) (wi := (iRng1 (tCons (tVar 11) tNil))) (g := (gName 14)) (tt := tYes) (te := (tOp (rIx K) (tVar 2) (tC (.int 0)))) rfl sc_law.nd (pi_range1 (by rfl) T.f_range (pa_cons (pv 11) pa_nil)) (blkOk_by (N := N_law) (sc := defScope s_law) (by decide +kernel)) (fun _ _ _ _ _ => (pg_name (i := 14) sc_law.nd rfl (by first | exact Or.inl rfl | exact Or.inr rfl))) (fun _ _ _ _ _ => pts_nil) (fun _ _ _ _ _ => (pe_ix ix_seq (pv 2) pe_int (fun _ _ => rfl)))) pa_nil))))) (pss_one (ps_ret pe_bl)) pss_nil)
      (pss_cons (ps_if (pt_not (pt_val (pe_df G_l_is_sum (hr.mono (by decide)) (by rfl) (pa_cons (pe_binO G_Loads___add__ T.du_Loads___add__ T.sf_Loads (hr.mono (by decide)) (pv 4) (pv 5)) (pa_cons (pe_lst (pa_cons (pe_ix ix_seq (pv 2) pe_int (fun _ _ => rfl)) (pa_cons (pe_ix ix_seq (pv 2) pe_int (fun _ _ => rfl)) pa_nil))) pa_nil))))) (pss_one (ps_ret pe_bl)) pss_nil)
      (pss_one (ps_ret (pe_df G_l_same (hr.mono (by decide)) (by rfl) (pa_cons (pe_lst (pa_cons (pe_callTy (call_listO G_it_Loads T.du_Loads___iter__ T.nl_Loads (hr.mono (by decide)) rfl) (by rfl) T.f_list (by decide +kernel) (pa_cons (pv 4) pa_nil)) (pa_cons (pe_callTy (call_listO G_it_Loads T.du_Loads___iter__ T.nl_Loads (hr.mono (by decide)) rfl) (by rfl) T.f_list (by decide +kernel) (pa_cons (pv 5) pa_nil)) (pa_cons (pe_callTy (call_listO G_it_Loads T.du_Loads___iter__ T.nl_Loads (hr.mono (by decide)) rfl) (by rfl) T.f_list (by decide +kernel) (pa_cons (pv 6) pa_nil)) pa_nil)))) (pa_cons (pv 2) pa_nil)))))))))))))))))))))))))))))))
end
end Fh

set_option Elab.async false
set_option linter.all false
set_option maxRecDepth 100000
set_option maxHeartbeats 4000000
set_option synthInstance.maxHeartbeats 400000
set_option synthInstance.maxSize 4000
namespace Fh
open PySem PySem.Spec PyProof.Rows L2

section
variable {K : PySem.W.Frag} {E : WX} {P : Program} {w : World}
abbrev en_l_number_L1 (K : PySem.W.Frag) (P : Program) (w : World) (v_pool : (List Int)) (v_start : Int) (v_total : Int) : En := [.bor ((eL eI) v_pool), .dat (eI v_start), .dat (eI v_total), .no]
theorem wk_l_number_L1 {P : Program} {w : World} (cf : Cf K) (v_pool : (List Int)) (v_start : Int) (v_total : Int) (v_k : Int) (hk : ok_l_number_L1 v_pool v_start v_total v_k) : Run K E (tAsg (tOp (rPlus K) (tOp (rTimes) (tVar 2) (tC (.int 1000))) (tOp (rIx K) (tVar 0) (tOp (rPlus K) (tVar 1) (tVar 3)))) (gName 2)) [.bor ((eL eI) v_pool), .dat (eI v_start), .dat (eI v_total), .dat (eI v_k)] ((PoS (en_l_number_L1 K P w v_pool v_start) [3]) (f_l_number_L1 v_pool v_start v_total v_k)) :=
 (run_last (r_asg (Pf := (PoS (en_l_number_L1 K P w v_pool v_start) [3])) (enc := eI) (v := ((v_total * (1000 : Int)) + (getI v_pool (v_start + v_k)))) (ev_addI (ev_mulI (ev_dat (i := 2) rfl) ev_int (by unfold CMul; omega)) (Ev.nw (ev_getL (f := eI) (ev_bor (i := 0) rfl) (ev_addI (ev_dat (i := 1) rfl) (ev_dat (i := 3) rfl)) hk))) letT fun v_total _ => (show Run K E _ [.bor ((eL eI) v_pool), .dat (eI v_start), .dat (eI v_total), .dat (eI v_k)] _ from
 (r_end rfl))))
theorem wk_l_number {P : Program} {w : World} (cf : Cf K) (v_pool : (List Int)) (v_start : Int) (hk : ok_l_number v_pool v_start) : Run K E (rd_l_number K ) [.bor ((eL eI) v_pool), .dat (eI v_start), .no, .no] (PoR eI (f_l_number v_pool v_start)) :=
 (r_asg (Pf := (PoR eI)) (enc := eI) (v := (0 : Int)) ev_int hk fun v_total h1 => (show Run K E _ [.bor ((eL eI) v_pool), .dat (eI v_start), .dat (eI v_total), .no] _ from
 (r_forS (Pf := (PoR eI)) (encX := eI) (step := (f_l_number_L1 v_pool v_start)) (en_l_number_L1 K P w v_pool v_start) [3] rfl (EvIz.toI (ez_r1 ev_int (by omega))) h1 (fun v_total v_k hk => ⟨[.bor ((eL eI) v_pool), .dat (eI v_start), .dat (eI v_total), .dat (eI v_k)], [3], (tg_dat (i := 3)), wk_l_number_L1 (P := P) (w := w) cf v_pool v_start v_total v_k hk⟩) fun v_total _ => (show Run K E _ [.bor ((eL eI) v_pool), .dat (eI v_start), .dat (eI v_total), .no] _ from
 (run_last (r_retS (ev_dat (i := 2) rfl) rfl))))))
abbrev sp_l_number (K : PySem.W.Frag) : Sp := SpP K [.now, .dat] (fun p : (List Int) × Int => [(eL eI) p.1, eI p.2]) (fun p => ok_l_number p.1 p.2) (fun p => eI (f_l_number p.1 p.2))
theorem ev_l_number {m : Md} {e : En} {t0 t1 : TE} {v_pool : (List Int)} {v_start : Int} (hk : ok_l_number v_pool v_start) (h0 : Ev K .now t0 e ((eL eI) v_pool)) (h1 : Ev K .dat t1 e (eI v_start)) : Ev K m (tCall (sp_l_number K) [] E0 (tCons t0 (tCons t1 tNil))) e (eI (f_l_number v_pool v_start)) :=
 ev_call (out := fun p : (List Int) × Int => eI (f_l_number p.1 p.2)) (v_pool, v_start) hk (ea_cons h0 (ea_cons h1 ea_nil))
abbrev en_l_entries_L1 (K : PySem.W.Frag) (P : Program) (w : World) (v_pool : (List Int)) (v_which : Int) (s : ((List (Option Int)) × Int)) : En := [.bor ((eL eI) v_pool), .dat (eI v_which), .own ((oL (eO eI)) s.1), .dat (eI s.2), .no, .no]
abbrev en_l_entries_L2 (K : PySem.W.Frag) (P : Program) (w : World) (v_pool : (List Int)) (v_which : Int) (v_last : Int) (v_entries : (List (Option Int))) : En := [.bor ((eL eI) v_pool), .dat (eI v_which), .own ((oL (eO eI)) v_entries), .dat (eI v_last), .no, .no]
theorem wk_l_entries_L1 {P : Program} {w : World} (cf : Cf K) (v_pool : (List Int)) (v_which : Int) (s : ((List (Option Int)) × Int)) (v_r : Int) (hk : ok_l_entries_L1 v_pool v_which s v_r) : Run K E (tSeq (tAsg (tOp (rMod) (tCB (rIntC) (tCons (tOp (rIx K) (tVar 0) (tOp (rPlus K) (tOp (rPlus K) (tC (.int 1)) (tOp (rTimes) (tC (.int 5)) (tVar 1))) (tVar 4))) tNil)) (tC (.int 5))) (gName 5))
  (tSeq (tIfS (tAnd (tTest (tOp (rEqP K false) (tOp (rMod) (tCB (rIntC) (tCons (tOp (rIx K) (tVar 0) (tC (.int 0))) tNil)) (tC (.int 4))) (tC (.int 0)))) (tTest (tOp (rGt2) (tVar 5) (tC (.int 0))))) (tAsg (tCall (sp_l_number K) [] E0 (tCons (tVar 0) (tCons (tOp (rPlus K) (tOp (rPlus K) (tC (.int 20)) (tOp (rTimes) (tC (.int 40)) (tVar 1))) (tOp (rTimes) (tC (.int 10)) (tVar 4))) tNil))) (gName 5)) tNext)
  (tSeq (tAsg (tOp (rPlus K) (tVar 3) (tVar 5)) (gName 3))
  (tDrop (tBM K "list" rAppend (tVar 2) (tCons (tVar 3) tNil)))))) [.bor ((eL eI) v_pool), .dat (eI v_which), .own ((oL (eO eI)) s.1), .dat (eI s.2), .dat (eI v_r), .no] ((PoS (en_l_entries_L1 K P w v_pool v_which) [4, 5]) (f_l_entries_L1 v_pool v_which s v_r)) :=
 (r_asg (Pf := (PoS (en_l_entries_L1 K P w v_pool v_which) [4, 5])) (enc := eI) (v := ((getI v_pool (((1 : Int) + ((5 : Int) * v_which)) + v_r)) % (5 : Int))) (ev_modI (ev_intc (Ev.nw (ev_getL (f := eI) (ev_bor (i := 0) rfl) (ev_addI (ev_addI ev_int (ev_mulI ev_int (ev_dat (i := 1) rfl) (by unfold CMul; omega))) (ev_dat (i := 4) rfl)) hk.1))) ev_int (by decide)) hk.2 fun v_rise h3 => (show Run K E _ [.bor ((eL eI) v_pool), .dat (eI v_which), .own ((oL (eO eI)) s.1), .dat (eI s.2), .dat (eI v_r), .dat (eI v_rise)] _ from
 (r_join (Pf := (PoS (en_l_entries_L1 K P w v_pool v_which) [4, 5])) (fun (v_rise : Int) => [.bor ((eL eI) v_pool), .dat (eI v_which), .own ((oL (eO eI)) s.1), .dat (eI s.2), .dat (eI v_r), .dat (eI v_rise)]) [] (r_if (Pf := (PoJ (fun (v_rise : Int) => [.bor ((eL eI) v_pool), .dat (eI v_which), .own ((oL (eO eI)) s.1), .dat (eI s.2), .dat (eI v_r), .dat (eI v_rise)]) [])) (et_and (et_test (m := .now) (ev_eqP Dt.I (ev_modI (ev_intc (Ev.nw (ev_getL (f := eI) (ev_bor (i := 0) rfl) ev_int h3.1))) ev_int (by decide)) ev_int)) fun hq4 => (et_test (m := .now) (ev_gtI (ev_dat (i := 5) rfl) ev_int))) h3.2.1 (fun hc6 h5 => (run_last (r_asg (Pf := (PoJ (fun (v_rise : Int) => [.bor ((eL eI) v_pool), .dat (eI v_which), .own ((oL (eO eI)) s.1), .dat (eI s.2), .dat (eI v_r), .dat (eI v_rise)]) [])) (enc := eI) (v := (f_l_number v_pool (((20 : Int) + ((40 : Int) * v_which)) + ((10 : Int) * v_r)))) (ev_l_number h5 (Ev.nw (ev_bor (i := 0) rfl)) (ev_addI (ev_addI ev_int (ev_mulI ev_int (ev_dat (i := 1) rfl) (by unfold CMul; omega))) (ev_mulI ev_int (ev_dat (i := 4) rfl) (by unfold CMul; omega)))) letT fun v_rise _ => (show Run K E _ [.bor ((eL eI) v_pool), .dat (eI v_which), .own ((oL (eO eI)) s.1), .dat (eI s.2), .dat (eI v_r), .dat (eI v_rise)] _ from
 (r_end rfl))))) (fun hc6 _ => (r_end rfl))) h3.2.2 fun v_rise h9 => (show Run K E _ [.bor ((eL eI) v_pool), .dat (eI v_which), .own ((oL (eO eI)) s.1), .dat (eI s.2), .dat (eI v_r), .dat (eI v_rise)] _ from
 (r_asg (Pf := (PoS (en_l_entries_L1 K P w v_pool v_which) [4, 5])) (enc := eI) (v := (s.2 + v_rise)) (ev_addI (ev_dat (i := 3) rfl) (ev_dat (i := 5) rfl)) h9 fun v_last h10 => (show Run K E _ [.bor ((eL eI) v_pool), .dat (eI v_which), .own ((oL (eO eI)) s.1), .dat (eI v_last), .dat (eI v_r), .dat (eI v_rise)] _ from
 (run_last (r_stm (i := 2) (Pf := (PoS (en_l_entries_L1 K P w v_pool v_which) [4, 5])) (v := (s.1 ++ [(some v_last)])) (sl := fun z => .own (oL (eO eI) z)) (fun P q => st_app (f := (eO eI)) rfl (ev_dat (i := 3) rfl) h10 P q) letT fun v_entries _ => (show Run K E _ [.bor ((eL eI) v_pool), .dat (eI v_which), .own ((oL (eO eI)) v_entries), .dat (eI v_last), .dat (eI v_r), .dat (eI v_rise)] _ from
 (r_end rfl))))))))))
theorem wk_l_entries_L2 {P : Program} {w : World} (cf : Cf K) (v_pool : (List Int)) (v_which : Int) (v_last : Int) (v_entries : (List (Option Int))) (v_r : Int) (hk : ok_l_entries_L2  v_entries v_r) : Run K E (tAsg (tC .non) (gSub (tVar 2) (tOp (rMinus) (tC (.int 3)) (tVar 4)) rSetL)) [.bor ((eL eI) v_pool), .dat (eI v_which), .own ((oL (eO eI)) v_entries), .dat (eI v_last), .dat (eI v_r), .no] ((PoS (en_l_entries_L2 K P w v_pool v_which v_last) [4]) (f_l_entries_L2  v_entries v_r)) :=
 (run_last (r_stm (i := 2) (Pf := (PoS (en_l_entries_L2 K P w v_pool v_which v_last) [4])) (v := (v_entries.set ((3 : Int) - v_r).toNat none)) (sl := fun z => .own (oL (eO eI) z)) (fun P q => st_set (f := (eO eI)) rfl ev_non (ev_subI ev_int (ev_dat (i := 4) rfl)) hk P q) letT fun v_entries _ => (show Run K E _ [.bor ((eL eI) v_pool), .dat (eI v_which), .own ((oL (eO eI)) v_entries), .dat (eI v_last), .dat (eI v_r), .no] _ from
 (r_end rfl))))
theorem wk_l_entries {P : Program} {w : World} (cf : Cf K) (v_pool : (List Int)) (v_which : Int) (hk : ok_l_entries v_pool v_which) : Run K E (rd_l_entries K (sp_l_number K)) [.bor ((eL eI) v_pool), .dat (eI v_which), .no, .no, .no, .no] (PoO (oL (eO eI)) (f_l_entries v_pool v_which)) :=
 (r_asgO (Pf := (PoO (oL (eO eI)))) (od := (oL (eO eI))) (v := ([] : (List (Option Int)))) (ev_lstO ed_nil (szr rfl)) hk fun v_entries h1 => (show Run K E _ [.bor ((eL eI) v_pool), .dat (eI v_which), .own ((oL (eO eI)) v_entries), .no, .no, .no] _ from
 (r_asg (Pf := (PoO (oL (eO eI)))) (enc := eI) (v := (0 : Int)) ev_int h1 fun v_last h2 => (show Run K E _ [.bor ((eL eI) v_pool), .dat (eI v_which), .own ((oL (eO eI)) v_entries), .dat (eI v_last), .no, .no] _ from
 (r_forS (Pf := (PoO (oL (eO eI)))) (encX := eI) (step := (f_l_entries_L1 v_pool v_which)) (en_l_entries_L1 K P w v_pool v_which) [4, 5] rfl (EvIz.toI (ez_r1 ev_int (by omega))) h2 (fun s12 v_r hk => ⟨[.bor ((eL eI) v_pool), .dat (eI v_which), .own ((oL (eO eI)) s12.1), .dat (eI s12.2), .dat (eI v_r), .no], [4], (tg_dat (i := 4)), wk_l_entries_L1 (P := P) (w := w) cf v_pool v_which s12 v_r hk⟩) fun s12 h13 => (show Run K E _ [.bor ((eL eI) v_pool), .dat (eI v_which), .own ((oL (eO eI)) s12.1), .dat (eI s12.2), .no, .no] _ from
 (r_forS (Pf := (PoO (oL (eO eI)))) (encX := eI) (step := (f_l_entries_L2 )) (en_l_entries_L2 K P w v_pool v_which s12.2) [4] rfl (EvIz.toI (ez_r1 (ev_modI (ev_intc (Ev.nw (ev_getL (f := eI) (ev_bor (i := 0) rfl) (ev_addI ev_int (ev_mulI ev_int (ev_dat (i := 1) rfl) (by unfold CMul; omega))) h13.1))) ev_int (by decide)) h13.2.1)) h13.2.2 (fun v_entries v_r hk => ⟨[.bor ((eL eI) v_pool), .dat (eI v_which), .own ((oL (eO eI)) v_entries), .dat (eI s12.2), .dat (eI v_r), .no], [4], (tg_dat (i := 4)), wk_l_entries_L2 (P := P) (w := w) cf v_pool v_which s12.2 v_entries v_r hk⟩) fun v_entries _ => (show Run K E _ [.bor ((eL eI) v_pool), .dat (eI v_which), .own ((oL (eO eI)) v_entries), .dat (eI s12.2), .no, .no] _ from
 (run_last (r_retVS rfl rfl))))))))))
abbrev sp_l_entries (K : PySem.W.Frag) : Sp := SpO K [.now, .dat] (fun p : (List Int) × Int => [(eL eI) p.1, eI p.2]) (fun p => ok_l_entries p.1 p.2) (fun p => oL (eO eI) (f_l_entries p.1 p.2))
theorem ev_l_entries {e : En} {t0 t1 : TE} {v_pool : (List Int)} {v_which : Int} (hk : ok_l_entries v_pool v_which) (h0 : Ev K .now t0 e ((eL eI) v_pool)) (h1 : Ev K .dat t1 e (eI v_which)) : EvO K (tCall (sp_l_entries K) [] E0 (tCons t0 (tCons t1 tNil))) e (oL (eO eI) (f_l_entries v_pool v_which)) :=
 ev_callO (out := fun p : (List Int) × Int => oL (eO eI) (f_l_entries p.1 p.2)) (v_pool, v_which) hk (ea_cons h0 (ea_cons h1 ea_nil))
theorem wk_is_greater {P : Program} {w : World} (cf : Cf K) (v_one : (Option Int)) (v_other : (Option Int)) (hk : ok_is_greater v_one v_other) : Run K E (rd_is_greater K ) [.dat ((eO eI) v_one), .dat ((eO eI) v_other)] (PoR eB (f_is_greater v_one v_other)) :=
 (r_ifS (Pf := (PoR eB)) (et_test (m := .now) (ev_isO (ev_dat (i := 1) rfl) ev_non)) hk (fun hc2 _ => (r_retS ev_bl rfl)) (fun hc2 h1 => (run_skip (run_last (r_retS (ev_orV (m1 := .now) (ev_isO (ev_dat (i := 0) rfl) ev_non) fun hq3 => (ev_gtI (ev_unO (ev_dat (i := 0) rfl) (h1 hq3).1) (ev_unO (ev_dat (i := 1) rfl) (h1 hq3).2))) rfl)))))
abbrev sp_is_greater (K : PySem.W.Frag) : Sp := SpP K [.dat, .dat] (fun p : (Option Int) × (Option Int) => [(eO eI) p.1, (eO eI) p.2]) (fun p => ok_is_greater p.1 p.2) (fun p => eB (f_is_greater p.1 p.2))
theorem ev_is_greater {m : Md} {e : En} {t0 t1 : TE} {v_one : (Option Int)} {v_other : (Option Int)} (hk : ok_is_greater v_one v_other) (h0 : Ev K .dat t0 e ((eO eI) v_one)) (h1 : Ev K .dat t1 e ((eO eI) v_other)) : Ev K m (tCall (sp_is_greater K) [] E0 (tCons t0 (tCons t1 tNil))) e (eB (f_is_greater v_one v_other)) :=
 ev_call (out := fun p : (Option Int) × (Option Int) => eB (f_is_greater p.1 p.2)) (v_one, v_other) hk (ea_cons h0 (ea_cons h1 ea_nil))
abbrev en_check_entries_L1 (K : PySem.W.Frag) (P : Program) (w : World) (v_row : (List (Option Int))) (v_before : (Option Int)) : En := [.dat ((eT (eO eI)) v_row), .dat ((eO eI) v_before), .no]
theorem wk_check_entries_L1 {P : Program} {w : World} (cf : Cf K) (v_row : (List (Option Int))) (v_before : (Option Int)) (v_entry : (Option Int)) (hk : ok_check_entries_L1  v_before v_entry) : Run K E (tSeq (tIfS (tB (tCall (sp_is_greater K) [] E0 (tCons (tVar 1) (tCons (tVar 2) tNil)))) (tRaise0 K "BadLoads" (fun _ _ _ _ => False)) tNext)
  (tAsg (tVar 2) (gName 1))) [.dat ((eT (eO eI)) v_row), .dat ((eO eI) v_before), .dat ((eO eI) v_entry)] ((PoS (en_check_entries_L1 K P w v_row) [2]) (f_check_entries_L1  v_before v_entry)) :=
 (r_ifS (Pf := (PoS (en_check_entries_L1 K P w v_row) [2])) (et_B (m := .now) (ev_is_greater hk.1 (ev_dat (i := 1) rfl) (ev_dat (i := 2) rfl))) hk.2 (fun hc5 h4 => (h4).elim) (fun hc5 _ => (run_skip (run_last (r_asg (Pf := (PoS (en_check_entries_L1 K P w v_row) [2])) (enc := (eO eI)) (v := v_entry) (ev_dat (i := 2) rfl) letT fun v_before _ => (show Run K E _ [.dat ((eT (eO eI)) v_row), .dat ((eO eI) v_before), .dat ((eO eI) v_entry)] _ from
 (r_end rfl)))))))
theorem wk_check_entries {P : Program} {w : World} (cf : Cf K) (v_row : (List (Option Int))) (hk : ok_check_entries v_row) : Run K E (rd_check_entries K (sp_is_greater K)) [.dat ((eT (eO eI)) v_row), .no, .no] (PoR eN (f_check_entries v_row)) :=
 (r_ifS (Pf := (PoR eN)) (et_test (m := .now) (ev_neP Dt.I (ev_lenTu (f := (eO eI)) (ev_dat (i := 0) rfl)) ev_int)) hk (fun hc2 h1 => (h1).elim) (fun hc2 h1 => (run_skip (r_asg (Pf := (PoR eN)) (enc := (eO eI)) (v := (some (0 : Int))) ev_int h1 fun v_before h3 => (show Run K E _ [.dat ((eT (eO eI)) v_row), .dat ((eO eI) v_before), .no] _ from
 (run_last (r_forS (Pf := (PoR eN)) (encX := (eO eI)) (step := (f_check_entries_L1 )) (en_check_entries_L1 K P w v_row) [2] rfl (EvIz.toI (ez_T (f := (eO eI)) dat_now (ev_dat (i := 0) rfl))) h3 (fun v_before v_entry hk => ⟨[.dat ((eT (eO eI)) v_row), .dat ((eO eI) v_before), .dat ((eO eI) v_entry)], [2], (tg_dat (i := 2)), wk_check_entries_L1 (P := P) (w := w) cf v_row v_before v_entry hk⟩) fun v_before _ => (show Run K E _ [.dat ((eT (eO eI)) v_row), .dat ((eO eI) v_before), .no] _ from
 (r_end rfl)))))))))
abbrev sp_check_entries (K : PySem.W.Frag) : Sp := SpP K [.dat] (fun p : (List (Option Int)) => [(eT (eO eI)) p]) (fun p => ok_check_entries p) (fun p => eN (f_check_entries p))
theorem ev_check_entries {m : Md} {e : En} {t0 : TE} {v_row : (List (Option Int))} (hk : ok_check_entries v_row) (h0 : Ev K .dat t0 e ((eT (eO eI)) v_row)) : Ev K m (tCall (sp_check_entries K) [] E0 (tCons t0 tNil)) e (eN (f_check_entries v_row)) :=
 ev_call (out := fun p : (List (Option Int)) => eN (f_check_entries p)) v_row hk (ea_cons h0 ea_nil)
theorem wk_Loads___init__ {P : Program} {w : World} (cf : Cf K) (a0 : Addr) (v_entries : (List (Option Int))) (hk : ok_Loads___init__ v_entries) : Run K E (rd_Loads___init__ K (sp_check_entries K)) [.own (oSelf K a0 (gA K "Loads") []), .bor ((eL (eO eI)) v_entries), .no] (PoI K a0 (gA K "Loads") (fs_Loads K) (f_Loads___init__ v_entries)) :=
 (r_asg (Pf := (PoI K a0 (gA K "Loads") (fs_Loads K))) (enc := (eT (eO eI))) (v := v_entries) (ev_tupleLI (Im.O Im.I) (Ev.nw (ev_bor (i := 1) rfl))) hk fun v_row h1 => (show Run K E _ [.own (oSelf K a0 (gA K "Loads") []), .bor ((eL (eO eI)) v_entries), .dat ((eT (eO eI)) v_row)] _ from
 (r_drop (m := .now) (Pf := (PoI K a0 (gA K "Loads") (fs_Loads K))) (o := letO (α := (List (Option Int))) v_row fun v_self__entries =>
 ({ p_entries := v_self__entries } : Ty_Loads)) (ev_check_entries h1 (ev_dat (i := 2) rfl)) (run_last (r_fld (Pf := (PoI K a0 (gA K "Loads") (fs_Loads K))) (enc := (eT (eO eI))) (v := v_row) rfl cf.c_Loads cf.n_Loads__entries rfl (ev_dat (i := 2) rfl) letT fun v_self__entries _ => (show Run K E _ [.own (oSelf K a0 (gA K "Loads") [("_entries", (eT (eO eI)) v_self__entries)]), .bor ((eL (eO eI)) v_entries), .dat ((eT (eO eI)) v_row)] _ from
 (r_end rfl)))))))
abbrev sp_Loads___init__ (K : PySem.W.Frag) : Sp := SpI K (gA K "Loads") [.now] (fun p : (List (Option Int)) => [(eL (eO eI)) p]) (fun p => ok_Loads___init__ p) (fun p => fs_Loads K (f_Loads___init__ p))
theorem ev_Loads___init___S1 (cf : Cf K) {e : En} {t0 : TE} {v_entries : (List (Option Int))} (hk : ok_Loads___init__ v_entries) (h0 : Ev K .now t0 e ((eL (eO eI)) v_entries)) : EvO K (tMakeN (gA K "Loads") 1 0 (sp_Loads___init__ K) (fun (vs zs : List V) => vs) E0 (tCons t0 tNil) tNil) e (.ins (gA K "Loads") (fs_Loads K (f_Loads___init__ v_entries))) :=
 evo_cls (outI := fun p : (List (Option Int)) => fs_Loads K (f_Loads___init__ p)) v_entries hk (ea_cons h0 ea_nil) ea_nil rfl rfl fun x vs zs B H T h1 h2 => match vs, zs, h1, h2 with | [_], [], h1, h2 => ⟨_, rfl, ⟨h1.1, trivial⟩⟩
theorem wk_Loads___init___2 {P : Program} {w : World} (cf : Cf K) (a0 : Addr) (v_entries : (List (Option Int))) (hk : ok_Loads___init___2 v_entries) : Run K E (rd_Loads___init___2 K (sp_check_entries K)) [.own (oSelf K a0 (gA K "Loads") []), .dat ((eT (eO eI)) v_entries), .no] (PoI K a0 (gA K "Loads") (fs_Loads K) (f_Loads___init___2 v_entries)) :=
 (r_asg (Pf := (PoI K a0 (gA K "Loads") (fs_Loads K))) (enc := (eT (eO eI))) (v := v_entries) (ev_tupleT (ev_dat (i := 1) rfl)) hk fun v_row h1 => (show Run K E _ [.own (oSelf K a0 (gA K "Loads") []), .dat ((eT (eO eI)) v_entries), .dat ((eT (eO eI)) v_row)] _ from
 (r_drop (m := .now) (Pf := (PoI K a0 (gA K "Loads") (fs_Loads K))) (o := letO (α := (List (Option Int))) v_row fun v_self__entries =>
 ({ p_entries := v_self__entries } : Ty_Loads)) (ev_check_entries h1 (ev_dat (i := 2) rfl)) (run_last (r_fld (Pf := (PoI K a0 (gA K "Loads") (fs_Loads K))) (enc := (eT (eO eI))) (v := v_row) rfl cf.c_Loads cf.n_Loads__entries rfl (ev_dat (i := 2) rfl) letT fun v_self__entries _ => (show Run K E _ [.own (oSelf K a0 (gA K "Loads") [("_entries", (eT (eO eI)) v_self__entries)]), .dat ((eT (eO eI)) v_entries), .dat ((eT (eO eI)) v_row)] _ from
 (r_end rfl)))))))
abbrev sp_Loads___init___2 (K : PySem.W.Frag) : Sp := SpI K (gA K "Loads") [.dat] (fun p : (List (Option Int)) => [(eT (eO eI)) p]) (fun p => ok_Loads___init___2 p) (fun p => fs_Loads K (f_Loads___init___2 p))
theorem ev_Loads___init___2_S1 (cf : Cf K) {e : En} {t0 : TE} {v_entries : (List (Option Int))} (hk : ok_Loads___init___2 v_entries) (h0 : Ev K .dat t0 e ((eT (eO eI)) v_entries)) : EvO K (tMakeN (gA K "Loads") 1 0 (sp_Loads___init___2 K) (fun (vs zs : List V) => vs) E0 (tCons t0 tNil) tNil) e (.ins (gA K "Loads") (fs_Loads K (f_Loads___init___2 v_entries))) :=
 evo_cls (outI := fun p : (List (Option Int)) => fs_Loads K (f_Loads___init___2 p)) v_entries hk (ea_cons h0 ea_nil) ea_nil rfl rfl fun x vs zs B H T h1 h2 => match vs, zs, h1, h2 with | [_], [], h1, h2 => ⟨_, rfl, ⟨h1.1, trivial⟩⟩
theorem wk_Loads___getitem__ {P : Program} {w : World} (cf : Cf K) (v_self : Ty_Loads) (v_at : Int) (hk : ok_Loads___getitem__ v_self v_at) : Run K E (rd_Loads___getitem__ K ) [.dat ((eC_Loads K) v_self), .dat (eI v_at)] (PoR (eO eI) (f_Loads___getitem__ v_self v_at)) :=
 (r_ifS (Pf := (PoR (eO eI))) (et_not (et_test (m := .now) (ev_chain ev_int (ev_dat (i := 1) rfl) rd_le fun hq1 => ⟨ev_int, rd_le⟩))) hk (fun hc3 h2 => (h2).elim) (fun hc3 h2 => (run_skip (r_ifS (Pf := (PoR (eO eI))) (et_test (m := .now) (ev_eqP Dt.I (ev_dat (i := 1) rfl) ev_int)) h2 (fun hc5 _ => (r_retS ev_int rfl)) (fun hc5 h4 => (run_skip (run_last (r_retS (ev_getT (f := (eO eI)) (at_Loads__entries cf (ev_dat (i := 0) rfl)) (ev_subI (ev_dat (i := 1) rfl) ev_int) h4) rfl))))))))
abbrev sp_Loads___getitem__ (K : PySem.W.Frag) : Sp := SpP K [.dat, .dat] (fun p : Ty_Loads × Int => [(eC_Loads K) p.1, eI p.2]) (fun p => ok_Loads___getitem__ p.1 p.2) (fun p => (eO eI) (f_Loads___getitem__ p.1 p.2))
theorem ev_Loads___getitem__ {m : Md} {e : En} {t0 t1 : TE} {v_self : Ty_Loads} {v_at : Int} (hk : ok_Loads___getitem__ v_self v_at) (h0 : Ev K .dat t0 e ((eC_Loads K) v_self)) (h1 : Ev K .dat t1 e (eI v_at)) : Ev K m (tSubO (gA K "Loads") (sp_Loads___getitem__ K) (fun _ => E0) t0 t1) e ((eO eI) (f_Loads___getitem__ v_self v_at)) :=
 ev_subO (out := fun p : Ty_Loads × Int => (eO eI) (f_Loads___getitem__ p.1 p.2)) (v_self, v_at) hk h0 h1 rfl
theorem wk_added {P : Program} {w : World} (cf : Cf K) (v_one : (Option Int)) (v_other : (Option Int)) (hk : ok_added v_one v_other) : Run K E (rd_added K ) [.dat ((eO eI) v_one), .dat ((eO eI) v_other)] (PoR (eO eI) (f_added v_one v_other)) :=
 (r_ifS (Pf := (PoR (eO eI))) (et_or (et_test (m := .now) (ev_isO (ev_dat (i := 0) rfl) ev_non)) fun hq1 => (et_test (m := .now) (ev_isO (ev_dat (i := 1) rfl) ev_non))) hk (fun hc3 _ => (r_retS ev_non rfl)) (fun hc3 h2 => (run_skip (run_last (r_retS (ev_addI (ev_unO (ev_dat (i := 0) rfl) h2.1) (ev_unO (ev_dat (i := 1) rfl) h2.2)) rfl)))))
abbrev sp_added (K : PySem.W.Frag) : Sp := SpP K [.dat, .dat] (fun p : (Option Int) × (Option Int) => [(eO eI) p.1, (eO eI) p.2]) (fun p => ok_added p.1 p.2) (fun p => (eO eI) (f_added p.1 p.2))
theorem ev_added {m : Md} {e : En} {t0 t1 : TE} {v_one : (Option Int)} {v_other : (Option Int)} (hk : ok_added v_one v_other) (h0 : Ev K .dat t0 e ((eO eI) v_one)) (h1 : Ev K .dat t1 e ((eO eI) v_other)) : Ev K m (tCall (sp_added K) [] E0 (tCons t0 (tCons t1 tNil))) e ((eO eI) (f_added v_one v_other)) :=
 ev_call (out := fun p : (Option Int) × (Option Int) => (eO eI) (f_added p.1 p.2)) (v_one, v_other) hk (ea_cons h0 (ea_cons h1 ea_nil))
theorem wk_lesser {P : Program} {w : World} (cf : Cf K) (v_one : (Option Int)) (v_other : (Option Int)) (hk : ok_lesser v_one v_other) : Run K E (rd_lesser K (sp_is_greater K)) [.dat ((eO eI) v_one), .dat ((eO eI) v_other)] (PoR (eO eI) (f_lesser v_one v_other)) :=
 (r_ifS (Pf := (PoR (eO eI))) (et_B (m := .now) (ev_is_greater hk (ev_dat (i := 0) rfl) (ev_dat (i := 1) rfl))) ifT (fun hc2 _ => (r_retS (ev_dat (i := 1) rfl) rfl)) (fun hc2 _ => (run_skip (run_last (r_retS (ev_dat (i := 0) rfl) rfl)))))
abbrev sp_lesser (K : PySem.W.Frag) : Sp := SpP K [.dat, .dat] (fun p : (Option Int) × (Option Int) => [(eO eI) p.1, (eO eI) p.2]) (fun p => ok_lesser p.1 p.2) (fun p => (eO eI) (f_lesser p.1 p.2))
theorem ev_lesser {m : Md} {e : En} {t0 t1 : TE} {v_one : (Option Int)} {v_other : (Option Int)} (hk : ok_lesser v_one v_other) (h0 : Ev K .dat t0 e ((eO eI) v_one)) (h1 : Ev K .dat t1 e ((eO eI) v_other)) : Ev K m (tCall (sp_lesser K) [] E0 (tCons t0 (tCons t1 tNil))) e ((eO eI) (f_lesser v_one v_other)) :=
 ev_call (out := fun p : (Option Int) × (Option Int) => (eO eI) (f_lesser p.1 p.2)) (v_one, v_other) hk (ea_cons h0 (ea_cons h1 ea_nil))
abbrev en_least_sum_L1 (K : PySem.W.Frag) (P : Program) (w : World) (v_one : Ty_Loads) (v_other : Ty_Loads) (v_hands : Int) (v_best : (Option Int)) : En := [.dat ((eC_Loads K) v_one), .dat ((eC_Loads K) v_other), .dat (eI v_hands), .dat ((eO eI) v_best), .no]
theorem wk_least_sum_L1 {P : Program} {w : World} (cf : Cf K) (v_one : Ty_Loads) (v_other : Ty_Loads) (v_hands : Int) (v_best : (Option Int)) (v_many : Int) (hk : ok_least_sum_L1 v_one v_other v_hands v_best v_many) : Run K E (tAsg (tCall (sp_lesser K) [] E0 (tCons (tVar 3) (tCons (tCall (sp_added K) [] E0 (tCons (tSubO (gA K "Loads") (sp_Loads___getitem__ K) (fun _ => E0) (tVar 0) (tVar 4)) (tCons (tSubO (gA K "Loads") (sp_Loads___getitem__ K) (fun _ => E0) (tVar 1) (tOp (rMinus) (tVar 2) (tVar 4))) tNil))) tNil))) (gName 3)) [.dat ((eC_Loads K) v_one), .dat ((eC_Loads K) v_other), .dat (eI v_hands), .dat ((eO eI) v_best), .dat (eI v_many)] ((PoS (en_least_sum_L1 K P w v_one v_other v_hands) [4]) (f_least_sum_L1 v_one v_other v_hands v_best v_many)) :=
 (run_last (r_asg (Pf := (PoS (en_least_sum_L1 K P w v_one v_other v_hands) [4])) (enc := (eO eI)) (v := (f_lesser v_best (f_added (f_Loads___getitem__ v_one v_many) (f_Loads___getitem__ v_other (v_hands - v_many))))) (ev_lesser hk.2.2.2 (ev_dat (i := 3) rfl) (ev_added hk.2.2.1 (ev_Loads___getitem__ hk.1 (ev_dat (i := 0) rfl) (ev_dat (i := 4) rfl)) (ev_Loads___getitem__ hk.2.1 (ev_dat (i := 1) rfl) (ev_subI (ev_dat (i := 2) rfl) (ev_dat (i := 4) rfl))))) letT fun v_best _ => (show Run K E _ [.dat ((eC_Loads K) v_one), .dat ((eC_Loads K) v_other), .dat (eI v_hands), .dat ((eO eI) v_best), .dat (eI v_many)] _ from
 (r_end rfl))))
theorem wk_least_sum {P : Program} {w : World} (cf : Cf K) (v_one : Ty_Loads) (v_other : Ty_Loads) (v_hands : Int) (hk : ok_least_sum v_one v_other v_hands) : Run K E (rd_least_sum K (sp_lesser K) (sp_added K) (sp_Loads___getitem__ K)) [.dat ((eC_Loads K) v_one), .dat ((eC_Loads K) v_other), .dat (eI v_hands), .no, .no] (PoR (eO eI) (f_least_sum v_one v_other v_hands)) :=
 (r_asg (Pf := (PoR (eO eI))) (enc := (eO eI)) (v := none) ev_non hk fun v_best h1 => (show Run K E _ [.dat ((eC_Loads K) v_one), .dat ((eC_Loads K) v_other), .dat (eI v_hands), .dat ((eO eI) v_best), .no] _ from
 (r_forS (Pf := (PoR (eO eI))) (encX := eI) (step := (f_least_sum_L1 v_one v_other v_hands)) (en_least_sum_L1 K P w v_one v_other v_hands) [4] rfl (EvIz.toI (ez_r1 (ev_addI (ev_dat (i := 2) rfl) ev_int) h1.1)) h1.2 (fun v_best v_many hk => ⟨[.dat ((eC_Loads K) v_one), .dat ((eC_Loads K) v_other), .dat (eI v_hands), .dat ((eO eI) v_best), .dat (eI v_many)], [4], (tg_dat (i := 4)), wk_least_sum_L1 (P := P) (w := w) cf v_one v_other v_hands v_best v_many hk⟩) fun v_best _ => (show Run K E _ [.dat ((eC_Loads K) v_one), .dat ((eC_Loads K) v_other), .dat (eI v_hands), .dat ((eO eI) v_best), .no] _ from
 (run_last (r_retS (ev_dat (i := 3) rfl) rfl))))))
abbrev sp_least_sum (K : PySem.W.Frag) : Sp := SpP K [.dat, .dat, .dat] (fun p : Ty_Loads × Ty_Loads × Int => [(eC_Loads K) p.1, (eC_Loads K) p.2.1, eI p.2.2]) (fun p => ok_least_sum p.1 p.2.1 p.2.2) (fun p => (eO eI) (f_least_sum p.1 p.2.1 p.2.2))
theorem ev_least_sum {m : Md} {e : En} {t0 t1 t2 : TE} {v_one : Ty_Loads} {v_other : Ty_Loads} {v_hands : Int} (hk : ok_least_sum v_one v_other v_hands) (h0 : Ev K .dat t0 e ((eC_Loads K) v_one)) (h1 : Ev K .dat t1 e ((eC_Loads K) v_other)) (h2 : Ev K .dat t2 e (eI v_hands)) : Ev K m (tCall (sp_least_sum K) [] E0 (tCons t0 (tCons t1 (tCons t2 tNil)))) e ((eO eI) (f_least_sum v_one v_other v_hands)) :=
 ev_call (out := fun p : Ty_Loads × Ty_Loads × Int => (eO eI) (f_least_sum p.1 p.2.1 p.2.2)) (v_one, v_other, v_hands) hk (ea_cons h0 (ea_cons h1 (ea_cons h2 ea_nil)))
theorem wk_Loads___add__ {P : Program} {w : World} (cf : Cf K) (v_self : Ty_Loads) (v_other : Ty_Loads) (hk : ok_Loads___add__ v_self v_other) : Run K E (rd_Loads___add__ K (sp_least_sum K) (sp_Loads___init__ K)) [.dat ((eC_Loads K) v_self), .dat ((eC_Loads K) v_other), .no] (PoR (eC_Loads K) (f_Loads___add__ v_self v_other)) :=
 (run_last (r_retS (EvO.dat (ev_Loads___init___S1 cf hk.2.2 (EvO.datL (evo_lm (f := eI) (g := (eO eI)) (xs := (rangeI (1 : Int) ((4 : Int) + (1 : Int)))) (hx := fun x1 => (f_least_sum v_self v_other x1)) (okx := fun x1 => ok_least_sum v_self v_other x1) (ez_r2 ev_int (ev_addI ev_int ev_int) hk.1) hk.2.1 fun x1 hx2 => ⟨[.dat ((eC_Loads K) v_self), .dat ((eC_Loads K) v_other), .dat (eI x1)], (tg_dat (i := 2)), (ev_least_sum hx2 (ev_dat (i := 0) rfl) (ev_dat (i := 1) rfl) (ev_dat (i := 2) rfl))⟩)))) rfl))
abbrev sp_Loads___add__ (K : PySem.W.Frag) : Sp := SpP K [.dat, .dat] (fun p : Ty_Loads × Ty_Loads => [(eC_Loads K) p.1, (eC_Loads K) p.2]) (fun p => ok_Loads___add__ p.1 p.2) (fun p => (eC_Loads K) (f_Loads___add__ p.1 p.2))
theorem ev_Loads___add__ {m : Md} {e : En} {t0 t1 : TE} {v_self : Ty_Loads} {v_other : Ty_Loads} (hk : ok_Loads___add__ v_self v_other) (h0 : Ev K .dat t0 e ((eC_Loads K) v_self)) (h1 : Ev K .dat t1 e ((eC_Loads K) v_other)) : Ev K m (tBinO (gA K "Loads") (sp_Loads___add__ K) (fun _ => E0) t0 t1) e ((eC_Loads K) (f_Loads___add__ v_self v_other)) :=
 ev_binO (out := fun p : Ty_Loads × Ty_Loads => (eC_Loads K) (f_Loads___add__ p.1 p.2)) (v_self, v_other) hk h0 h1 rfl
abbrev en_l_splits_L3 (K : PySem.W.Frag) (P : Program) (w : World) (v_parts : Int) (v_hands : Int) (v_found : (List (List Int))) (v_k : Int) (v_split : (List Int)) (v_longer : (List (List Int))) : En := [.dat (eI v_parts), .dat (eI v_hands), .dat ((eL (eL eI)) v_found), .dat (eI v_k), .own ((oL (eL eI)) v_longer), .dat ((eL eI) v_split), .no]
abbrev en_l_splits_L2 (K : PySem.W.Frag) (P : Program) (w : World) (v_parts : Int) (v_hands : Int) (v_found : (List (List Int))) (v_k : Int) (v_longer : (List (List Int))) : En := [.dat (eI v_parts), .dat (eI v_hands), .dat ((eL (eL eI)) v_found), .dat (eI v_k), .own ((oL (eL eI)) v_longer), .no, .no]
abbrev en_l_splits_L1 (K : PySem.W.Frag) (P : Program) (w : World) (v_parts : Int) (v_hands : Int) (v_found : (List (List Int))) : En := [.dat (eI v_parts), .dat (eI v_hands), .dat ((eL (eL eI)) v_found), .no, .no, .no, .no]
theorem wk_l_splits_L3 {P : Program} {w : World} (cf : Cf K) (v_parts : Int) (v_hands : Int) (v_found : (List (List Int))) (v_k : Int) (v_split : (List Int)) (v_longer : (List (List Int))) (v_many : Int) (hk : ok_l_splits_L3 v_split v_longer v_many) : Run K E (tDrop (tBM K "list" rAppend (tVar 4) (tCons (tOp (rPlus K) (tVar 5) (tLst (tCons (tVar 6) tNil))) tNil))) [.dat (eI v_parts), .dat (eI v_hands), .dat ((eL (eL eI)) v_found), .dat (eI v_k), .own ((oL (eL eI)) v_longer), .dat ((eL eI) v_split), .dat (eI v_many)] ((PoS (en_l_splits_L3 K P w v_parts v_hands v_found v_k v_split) [6]) (f_l_splits_L3 v_split v_longer v_many)) :=
 (run_last (r_stm (i := 4) (Pf := (PoS (en_l_splits_L3 K P w v_parts v_hands v_found v_k v_split) [6])) (v := (v_longer ++ [(v_split ++ ([v_many] : (List Int)))])) (sl := fun z => .own (oL (eL eI) z)) (fun P q => st_app (f := (eL eI)) rfl (EvO.datL (evo_catL (f := eI) (ev_dat (i := 5) rfl) (EvO.datL (f := eI) (xs := ([v_many] : (List Int))) (ev_lstO (ed_cons (ev_dat (i := 6) rfl) ed_nil) (szr rfl))) hk.1)) hk.2 P q) letT fun v_longer _ => (show Run K E _ [.dat (eI v_parts), .dat (eI v_hands), .dat ((eL (eL eI)) v_found), .dat (eI v_k), .own ((oL (eL eI)) v_longer), .dat ((eL eI) v_split), .dat (eI v_many)] _ from
 (r_end rfl))))
theorem wk_l_splits_L2 {P : Program} {w : World} (cf : Cf K) (v_parts : Int) (v_hands : Int) (v_found : (List (List Int))) (v_k : Int) (v_longer : (List (List Int))) (v_split : (List Int)) (hk : ok_l_splits_L2 v_hands v_longer v_split) : Run K E (tFor (iRng1 (tCons (tOp (rPlus K) (tOp (rMinus) (tVar 1) (tCB (rSum K) (tCons (tVar 5) tNil))) (tC (.int 1))) tNil)) (gName 6) (tDrop (tBM K "list" rAppend (tVar 4) (tCons (tOp (rPlus K) (tVar 5) (tLst (tCons (tVar 6) tNil))) tNil)))) [.dat (eI v_parts), .dat (eI v_hands), .dat ((eL (eL eI)) v_found), .dat (eI v_k), .own ((oL (eL eI)) v_longer), .dat ((eL eI) v_split), .no] ((PoS (en_l_splits_L2 K P w v_parts v_hands v_found v_k) [5, 6]) (f_l_splits_L2 v_hands v_longer v_split)) :=
 (run_last (r_forS (Pf := (PoS (en_l_splits_L2 K P w v_parts v_hands v_found v_k) [5, 6])) (encX := eI) (step := (f_l_splits_L3 v_split)) (en_l_splits_L3 K P w v_parts v_hands v_found v_k v_split) [6] rfl (EvIz.toI (ez_r1 (ev_addI (ev_subI (ev_dat (i := 1) rfl) (ev_sumL (ev_dat (i := 5) rfl))) ev_int) hk.1)) hk.2 (fun v_longer v_many hk => ⟨[.dat (eI v_parts), .dat (eI v_hands), .dat ((eL (eL eI)) v_found), .dat (eI v_k), .own ((oL (eL eI)) v_longer), .dat ((eL eI) v_split), .dat (eI v_many)], [6], (tg_dat (i := 6)), wk_l_splits_L3 (P := P) (w := w) cf v_parts v_hands v_found v_k v_split v_longer v_many hk⟩) fun v_longer _ => (show Run K E _ [.dat (eI v_parts), .dat (eI v_hands), .dat ((eL (eL eI)) v_found), .dat (eI v_k), .own ((oL (eL eI)) v_longer), .dat ((eL eI) v_split), .no] _ from
 (r_end rfl))))
theorem wk_l_splits_L1 {P : Program} {w : World} (cf : Cf K) (v_parts : Int) (v_hands : Int) (v_found : (List (List Int))) (v_k : Int) (hk : ok_l_splits_L1 v_hands v_found v_k) : Run K E (tSeq (tAsg (tLst tNil) (gName 4))
  (tSeq (tFor (iSeq K (tVar 2)) (gName 5) (tFor (iRng1 (tCons (tOp (rPlus K) (tOp (rMinus) (tVar 1) (tCB (rSum K) (tCons (tVar 5) tNil))) (tC (.int 1))) tNil)) (gName 6) (tDrop (tBM K "list" rAppend (tVar 4) (tCons (tOp (rPlus K) (tVar 5) (tLst (tCons (tVar 6) tNil))) tNil)))))
  (tAsg (tCB (rListU K) (tCons (tVar 4) tNil)) (gName 2)))) [.dat (eI v_parts), .dat (eI v_hands), .dat ((eL (eL eI)) v_found), .dat (eI v_k), .no, .no, .no] ((PoS (en_l_splits_L1 K P w v_parts v_hands) [3, 4, 5, 6]) (f_l_splits_L1 v_hands v_found v_k)) :=
 (r_asgO (Pf := (PoS (en_l_splits_L1 K P w v_parts v_hands) [3, 4, 5, 6])) (od := (oL (eL eI))) (v := ([] : (List (List Int)))) (ev_lstO ed_nil (szr rfl)) hk fun v_longer h2 => (show Run K E _ [.dat (eI v_parts), .dat (eI v_hands), .dat ((eL (eL eI)) v_found), .dat (eI v_k), .own ((oL (eL eI)) v_longer), .no, .no] _ from
 (r_forS (Pf := (PoS (en_l_splits_L1 K P w v_parts v_hands) [3, 4, 5, 6])) (encX := (eL eI)) (step := (f_l_splits_L2 v_hands)) (en_l_splits_L2 K P w v_parts v_hands v_found v_k) [5, 6] rfl (EvIz.toI (ez_L (f := (eL eI)) dat_now (ev_dat (i := 2) rfl))) h2 (fun v_longer v_split hk => ⟨[.dat (eI v_parts), .dat (eI v_hands), .dat ((eL (eL eI)) v_found), .dat (eI v_k), .own ((oL (eL eI)) v_longer), .dat ((eL eI) v_split), .no], [5], (tg_dat (i := 5)), wk_l_splits_L2 (P := P) (w := w) cf v_parts v_hands v_found v_k v_longer v_split hk⟩) fun v_longer _ => (show Run K E _ [.dat (eI v_parts), .dat (eI v_hands), .dat ((eL (eL eI)) v_found), .dat (eI v_k), .own ((oL (eL eI)) v_longer), .no, .no] _ from
 (run_last (r_give (i := 4) (od := (oL (eL eI)) v_longer) rfl (r_asg (Pf := (PoS (en_l_splits_L1 K P w v_parts v_hands) [3, 4, 5, 6])) (enc := (eL (eL eI))) (v := v_longer) (EvO.datL (evo_listL (f := (eL eI)) (ev_dat (i := 4) rfl))) letT fun v_found _ => (show Run K E _ [.dat (eI v_parts), .dat (eI v_hands), .dat ((eL (eL eI)) v_found), .dat (eI v_k), .dat ((eL (eL eI)) v_longer), .no, .no] _ from
 (r_end rfl)))))))))
theorem wk_l_splits {P : Program} {w : World} (cf : Cf K) (v_parts : Int) (v_hands : Int) (hk : ok_l_splits v_parts v_hands) : Run K E (rd_l_splits K ) [.dat (eI v_parts), .dat (eI v_hands), .no, .no, .no, .no, .no] (PoO (oL (eL eI)) (f_l_splits v_parts v_hands)) :=
 (r_asg (Pf := (PoO (oL (eL eI)))) (enc := (eL (eL eI))) (v := ([([] : (List Int))] : (List (List Int)))) (EvO.datL (f := (eL eI)) (xs := ([([] : (List Int))] : (List (List Int)))) (ev_lstO (ed_cons (EvO.datL (f := eI) (xs := ([] : (List Int))) (ev_lstO ed_nil (szr rfl))) ed_nil) (szr rfl))) hk fun v_found h1 => (show Run K E _ [.dat (eI v_parts), .dat (eI v_hands), .dat ((eL (eL eI)) v_found), .no, .no, .no, .no] _ from
 (r_forS (Pf := (PoO (oL (eL eI)))) (encX := eI) (step := (f_l_splits_L1 v_hands)) (en_l_splits_L1 K P w v_parts v_hands) [3, 4, 5, 6] rfl (EvIz.toI (ez_r1 (ev_dat (i := 0) rfl) h1.1)) h1.2 (fun v_found v_k hk => ⟨[.dat (eI v_parts), .dat (eI v_hands), .dat ((eL (eL eI)) v_found), .dat (eI v_k), .no, .no, .no], [3], (tg_dat (i := 3)), wk_l_splits_L1 (P := P) (w := w) cf v_parts v_hands v_found v_k hk⟩) fun v_found _ => (show Run K E _ [.dat (eI v_parts), .dat (eI v_hands), .dat ((eL (eL eI)) v_found), .no, .no, .no, .no] _ from
 (run_last (r_retOS (evo_lc (f := (eL eI)) (g := (eL eI)) (xs := v_found) (cs := fun x8 => (decide (x8.sum = v_hands))) (hx := fun x8 => x8) (okx := fun _ => True) (ez_L (f := (eL eI)) dat_now (ev_dat (i := 2) rfl)) (fun _ _ => trivial) fun x8 hx9 => ⟨[.dat (eI v_parts), .dat (eI v_hands), .dat ((eL (eL eI)) v_found), .no, .no, .dat ((eL eI) x8), .no], (tg_dat (i := 5)), (et_test (m := .now) (ev_eqP Dt.I (ev_sumL (ev_dat (i := 5) rfl)) (ev_dat (i := 1) rfl))), fun hq10 => (ev_dat (i := 5) rfl)⟩) rfl))))))
abbrev sp_l_splits (K : PySem.W.Frag) : Sp := SpO K [.dat, .dat] (fun p : Int × Int => [eI p.1, eI p.2]) (fun p => ok_l_splits p.1 p.2) (fun p => oL (eL eI) (f_l_splits p.1 p.2))
theorem ev_l_splits {e : En} {t0 t1 : TE} {v_parts : Int} {v_hands : Int} (hk : ok_l_splits v_parts v_hands) (h0 : Ev K .dat t0 e (eI v_parts)) (h1 : Ev K .dat t1 e (eI v_hands)) : EvO K (tCall (sp_l_splits K) [] E0 (tCons t0 (tCons t1 tNil))) e (oL (eL eI) (f_l_splits v_parts v_hands)) :=
 ev_callO (out := fun p : Int × Int => oL (eL eI) (f_l_splits p.1 p.2)) (v_parts, v_hands) hk (ea_cons h0 (ea_cons h1 ea_nil))
abbrev en_l_parted_L2 (K : PySem.W.Frag) (P : Program) (w : World) (v_rows : (List (List (Option Int)))) (v_hands : Int) (v_best : (Option Int)) (v_split : (List Int)) (v_total : (Option Int)) : En := [.bor ((eL (eL (eO eI))) v_rows), .dat (eI v_hands), .dat ((eO eI) v_best), .dat ((eL eI) v_split), .dat ((eO eI) v_total), .no, .no]
abbrev en_l_parted_L1 (K : PySem.W.Frag) (P : Program) (w : World) (v_rows : (List (List (Option Int)))) (v_hands : Int) (v_best : (Option Int)) : En := [.bor ((eL (eL (eO eI))) v_rows), .dat (eI v_hands), .dat ((eO eI) v_best), .no, .no, .no, .no]
theorem wk_l_parted_L2 {P : Program} {w : World} (cf : Cf K) (v_rows : (List (List (Option Int)))) (v_hands : Int) (v_best : (Option Int)) (v_split : (List Int)) (v_total : (Option Int)) (v_k : Int) (hk : ok_l_parted_L2 v_rows v_split v_total v_k) : Run K E (tSeq (tAsg (tC (.int 0)) (gName 6))
  (tSeq (tIfS (tTest (tOp (rGt2) (tOp (rIx K) (tVar 3) (tVar 5)) (tC (.int 0)))) (tAsg (tOp (rIx K) (tOp (rIx K) (tVar 0) (tVar 5)) (tOp (rMinus) (tOp (rIx K) (tVar 3) (tVar 5)) (tC (.int 1)))) (gName 6)) tNext)
  (tIfS (tOr (tTest (tOp (rIsC) (tVar 4) (tC .non))) (tTest (tOp (rIsC) (tVar 6) (tC .non)))) (tAsg (tC .non) (gName 4)) (tAsg (tOp (rPlus K) (tVar 4) (tVar 6)) (gName 4))))) [.bor ((eL (eL (eO eI))) v_rows), .dat (eI v_hands), .dat ((eO eI) v_best), .dat ((eL eI) v_split), .dat ((eO eI) v_total), .dat (eI v_k), .no] ((PoS (en_l_parted_L2 K P w v_rows v_hands v_best v_split) [5, 6]) (f_l_parted_L2 v_rows v_split v_total v_k)) :=
 (r_asg (Pf := (PoS (en_l_parted_L2 K P w v_rows v_hands v_best v_split) [5, 6])) (enc := (eO eI)) (v := (some (0 : Int))) ev_int hk fun v_entry h3 => (show Run K E _ [.bor ((eL (eL (eO eI))) v_rows), .dat (eI v_hands), .dat ((eO eI) v_best), .dat ((eL eI) v_split), .dat ((eO eI) v_total), .dat (eI v_k), .dat ((eO eI) v_entry)] _ from
 (r_join (Pf := (PoS (en_l_parted_L2 K P w v_rows v_hands v_best v_split) [5, 6])) (fun (v_entry : (Option Int)) => [.bor ((eL (eL (eO eI))) v_rows), .dat (eI v_hands), .dat ((eO eI) v_best), .dat ((eL eI) v_split), .dat ((eO eI) v_total), .dat (eI v_k), .dat ((eO eI) v_entry)]) [] (r_if (Pf := (PoJ (fun (v_entry : (Option Int)) => [.bor ((eL (eL (eO eI))) v_rows), .dat (eI v_hands), .dat ((eO eI) v_best), .dat ((eL eI) v_split), .dat ((eO eI) v_total), .dat (eI v_k), .dat ((eO eI) v_entry)]) [])) (et_test (m := .now) (ev_gtI (ev_getL (f := eI) (ev_dat (i := 3) rfl) (ev_dat (i := 5) rfl) h3.1) ev_int)) h3.2.1 (fun hc5 h4 => (run_last (r_asg (Pf := (PoJ (fun (v_entry : (Option Int)) => [.bor ((eL (eL (eO eI))) v_rows), .dat (eI v_hands), .dat ((eO eI) v_best), .dat ((eL eI) v_split), .dat ((eO eI) v_total), .dat (eI v_k), .dat ((eO eI) v_entry)]) [])) (enc := (eO eI)) (v := (getI (getI v_rows v_k) ((getI v_split v_k) - (1 : Int)))) (Ev.im (ev_getL (f := (eO eI)) (ev_getL (f := (eL (eO eI))) (ev_bor (i := 0) rfl) (ev_dat (i := 5) rfl) h4.1) (ev_subI (ev_getL (f := eI) (ev_dat (i := 3) rfl) (ev_dat (i := 5) rfl) h4.2.1) ev_int) h4.2.2) (Im.O Im.I)) letT fun v_entry _ => (show Run K E _ [.bor ((eL (eL (eO eI))) v_rows), .dat (eI v_hands), .dat ((eO eI) v_best), .dat ((eL eI) v_split), .dat ((eO eI) v_total), .dat (eI v_k), .dat ((eO eI) v_entry)] _ from
 (r_end rfl))))) (fun hc5 _ => (r_end rfl))) h3.2.2 fun v_entry h8 => (show Run K E _ [.bor ((eL (eL (eO eI))) v_rows), .dat (eI v_hands), .dat ((eO eI) v_best), .dat ((eL eI) v_split), .dat ((eO eI) v_total), .dat (eI v_k), .dat ((eO eI) v_entry)] _ from
 (r_if (Pf := (PoS (en_l_parted_L2 K P w v_rows v_hands v_best v_split) [5, 6])) (et_or (et_test (m := .now) (ev_isO (ev_dat (i := 4) rfl) ev_non)) fun hq9 => (et_test (m := .now) (ev_isO (ev_dat (i := 6) rfl) ev_non))) h8 (fun hc11 _ => (run_last (r_asg (Pf := (PoS (en_l_parted_L2 K P w v_rows v_hands v_best v_split) [5, 6])) (enc := (eO eI)) (v := none) ev_non letT fun v_total _ => (show Run K E _ [.bor ((eL (eL (eO eI))) v_rows), .dat (eI v_hands), .dat ((eO eI) v_best), .dat ((eL eI) v_split), .dat ((eO eI) v_total), .dat (eI v_k), .dat ((eO eI) v_entry)] _ from
 (r_end rfl))))) (fun hc11 h10 => (run_last (r_asg (Pf := (PoS (en_l_parted_L2 K P w v_rows v_hands v_best v_split) [5, 6])) (enc := (eO eI)) (v := (some ((unO v_total) + (unO v_entry)))) (ev_addI (ev_unO (ev_dat (i := 4) rfl) h10.1) (ev_unO (ev_dat (i := 6) rfl) h10.2)) letT fun v_total _ => (show Run K E _ [.bor ((eL (eL (eO eI))) v_rows), .dat (eI v_hands), .dat ((eO eI) v_best), .dat ((eL eI) v_split), .dat ((eO eI) v_total), .dat (eI v_k), .dat ((eO eI) v_entry)] _ from
 (r_end rfl))))))))))
theorem wk_l_parted_L1 {P : Program} {w : World} (cf : Cf K) (v_rows : (List (List (Option Int)))) (v_hands : Int) (v_best : (Option Int)) (v_split : (List Int)) (hk : ok_l_parted_L1 v_rows v_best v_split) : Run K E (tSeq (tAsg (tC (.int 0)) (gName 4))
  (tSeq (tFor (iRng1 (tCons (tCB (rLenU K) (tCons (tVar 0) tNil)) tNil)) (gName 5) (tSeq (tAsg (tC (.int 0)) (gName 6))
  (tSeq (tIfS (tTest (tOp (rGt2) (tOp (rIx K) (tVar 3) (tVar 5)) (tC (.int 0)))) (tAsg (tOp (rIx K) (tOp (rIx K) (tVar 0) (tVar 5)) (tOp (rMinus) (tOp (rIx K) (tVar 3) (tVar 5)) (tC (.int 1)))) (gName 6)) tNext)
  (tIfS (tOr (tTest (tOp (rIsC) (tVar 4) (tC .non))) (tTest (tOp (rIsC) (tVar 6) (tC .non)))) (tAsg (tC .non) (gName 4)) (tAsg (tOp (rPlus K) (tVar 4) (tVar 6)) (gName 4))))))
  (tIfS (tAnd (tTest (tOp (rIsNC) (tVar 4) (tC .non))) (tOr (tTest (tOp (rIsC) (tVar 2) (tC .non))) (tTest (tOp (rLt) (tVar 4) (tVar 2))))) (tAsg (tVar 4) (gName 2)) tNext))) [.bor ((eL (eL (eO eI))) v_rows), .dat (eI v_hands), .dat ((eO eI) v_best), .dat ((eL eI) v_split), .no, .no, .no] ((PoS (en_l_parted_L1 K P w v_rows v_hands) [3, 4, 5, 6]) (f_l_parted_L1 v_rows v_best v_split)) :=
 (r_asg (Pf := (PoS (en_l_parted_L1 K P w v_rows v_hands) [3, 4, 5, 6])) (enc := (eO eI)) (v := (some (0 : Int))) ev_int hk fun v_total h2 => (show Run K E _ [.bor ((eL (eL (eO eI))) v_rows), .dat (eI v_hands), .dat ((eO eI) v_best), .dat ((eL eI) v_split), .dat ((eO eI) v_total), .no, .no] _ from
 (r_forS (Pf := (PoS (en_l_parted_L1 K P w v_rows v_hands) [3, 4, 5, 6])) (encX := eI) (step := (f_l_parted_L2 v_rows v_split)) (en_l_parted_L2 K P w v_rows v_hands v_best v_split) [5, 6] rfl (EvIz.toI (ez_rlL (f := (eL (eO eI))) (Ev.nw (ev_bor (i := 0) rfl)))) h2 (fun v_total v_k hk => ⟨[.bor ((eL (eL (eO eI))) v_rows), .dat (eI v_hands), .dat ((eO eI) v_best), .dat ((eL eI) v_split), .dat ((eO eI) v_total), .dat (eI v_k), .no], [5], (tg_dat (i := 5)), wk_l_parted_L2 (P := P) (w := w) cf v_rows v_hands v_best v_split v_total v_k hk⟩) fun v_total h14 => (show Run K E _ [.bor ((eL (eL (eO eI))) v_rows), .dat (eI v_hands), .dat ((eO eI) v_best), .dat ((eL eI) v_split), .dat ((eO eI) v_total), .no, .no] _ from
 (r_if (Pf := (PoS (en_l_parted_L1 K P w v_rows v_hands) [3, 4, 5, 6])) (et_and (et_test (m := .now) (ev_isnO (ev_dat (i := 4) rfl) ev_non)) fun hq15 => (et_or (et_test (m := .now) (ev_isO (ev_dat (i := 2) rfl) ev_non)) fun hq16 => (et_test (m := .now) (ev_ltI (ev_unO (ev_dat (i := 4) rfl) ((h14 hq15) hq16).1) (ev_unO (ev_dat (i := 2) rfl) ((h14 hq15) hq16).2))))) ifT (fun hc18 _ => (run_last (r_asg (Pf := (PoS (en_l_parted_L1 K P w v_rows v_hands) [3, 4, 5, 6])) (enc := (eO eI)) (v := v_total) (ev_dat (i := 4) rfl) letT fun v_best _ => (show Run K E _ [.bor ((eL (eL (eO eI))) v_rows), .dat (eI v_hands), .dat ((eO eI) v_best), .dat ((eL eI) v_split), .dat ((eO eI) v_total), .no, .no] _ from
 (r_end rfl))))) (fun hc18 _ => (r_end rfl)))))))
theorem wk_l_parted {P : Program} {w : World} (cf : Cf K) (v_rows : (List (List (Option Int)))) (v_hands : Int) (hk : ok_l_parted v_rows v_hands) : Run K E (rd_l_parted K (sp_l_splits K)) [.bor ((eL (eL (eO eI))) v_rows), .dat (eI v_hands), .no, .no, .no, .no, .no] (PoR (eO eI) (f_l_parted v_rows v_hands)) :=
 (r_asg (Pf := (PoR (eO eI))) (enc := (eO eI)) (v := none) ev_non hk fun v_best h1 => (show Run K E _ [.bor ((eL (eL (eO eI))) v_rows), .dat (eI v_hands), .dat ((eO eI) v_best), .no, .no, .no, .no] _ from
 (r_forS (Pf := (PoR (eO eI))) (encX := (eL eI)) (step := (f_l_parted_L1 v_rows)) (en_l_parted_L1 K P w v_rows v_hands) [3, 4, 5, 6] rfl (EvIz.toI (ez_L (f := (eL eI)) dat_now (EvO.datL (ev_l_splits h1.1 (ev_lenL (f := (eL (eO eI))) (Ev.nw (ev_bor (i := 0) rfl))) (ev_dat (i := 1) rfl))))) h1.2 (fun v_best v_split hk => ⟨[.bor ((eL (eL (eO eI))) v_rows), .dat (eI v_hands), .dat ((eO eI) v_best), .dat ((eL eI) v_split), .no, .no, .no], [3], (tg_dat (i := 3)), wk_l_parted_L1 (P := P) (w := w) cf v_rows v_hands v_best v_split hk⟩) fun v_best _ => (show Run K E _ [.bor ((eL (eL (eO eI))) v_rows), .dat (eI v_hands), .dat ((eO eI) v_best), .no, .no, .no, .no] _ from
 (run_last (r_retS (ev_dat (i := 2) rfl) rfl))))))
abbrev sp_l_parted (K : PySem.W.Frag) : Sp := SpP K [.now, .dat] (fun p : (List (List (Option Int))) × Int => [(eL (eL (eO eI))) p.1, eI p.2]) (fun p => ok_l_parted p.1 p.2) (fun p => (eO eI) (f_l_parted p.1 p.2))
theorem ev_l_parted {m : Md} {e : En} {t0 t1 : TE} {v_rows : (List (List (Option Int)))} {v_hands : Int} (hk : ok_l_parted v_rows v_hands) (h0 : Ev K .now t0 e ((eL (eL (eO eI))) v_rows)) (h1 : Ev K .dat t1 e (eI v_hands)) : Ev K m (tCall (sp_l_parted K) [] E0 (tCons t0 (tCons t1 tNil))) e ((eO eI) (f_l_parted v_rows v_hands)) :=
 ev_call (out := fun p : (List (List (Option Int))) × Int => (eO eI) (f_l_parted p.1 p.2)) (v_rows, v_hands) hk (ea_cons h0 (ea_cons h1 ea_nil))
theorem wk_l_sum_due {P : Program} {w : World} (cf : Cf K) (v_rows : (List (List (Option Int)))) (hk : ok_l_sum_due v_rows) : Run K E (rd_l_sum_due K (sp_l_parted K)) [.bor ((eL (eL (eO eI))) v_rows), .no] (PoO (oL (eO eI)) (f_l_sum_due v_rows)) :=
 (run_last (r_retOS (evo_lm (f := eI) (g := (eO eI)) (xs := (rangeI (1 : Int) (5 : Int))) (hx := fun x1 => (f_l_parted v_rows x1)) (okx := fun x1 => ok_l_parted v_rows x1) (ez_r2 ev_int ev_int hk.1) hk.2 fun x1 hx2 => ⟨[.bor ((eL (eL (eO eI))) v_rows), .dat (eI x1)], (tg_dat (i := 1)), (ev_l_parted hx2 (Ev.nw (ev_bor (i := 0) rfl)) (ev_dat (i := 1) rfl))⟩) rfl))
abbrev sp_l_sum_due (K : PySem.W.Frag) : Sp := SpO K [.now] (fun p : (List (List (Option Int))) => [(eL (eL (eO eI))) p]) (fun p => ok_l_sum_due p) (fun p => oL (eO eI) (f_l_sum_due p))
theorem ev_l_sum_due {e : En} {t0 : TE} {v_rows : (List (List (Option Int)))} (hk : ok_l_sum_due v_rows) (h0 : Ev K .now t0 e ((eL (eL (eO eI))) v_rows)) : EvO K (tCall (sp_l_sum_due K) [] E0 (tCons t0 tNil)) e (oL (eO eI) (f_l_sum_due v_rows)) :=
 ev_callO (out := fun p : (List (List (Option Int))) => oL (eO eI) (f_l_sum_due p)) v_rows hk (ea_cons h0 ea_nil)
theorem wk_l_is_sum {P : Program} {w : World} (cf : Cf K) (v_told : Ty_Loads) (v_rows : (List (List (Option Int)))) (hk : ok_l_is_sum v_told v_rows) : Run K E (rd_l_is_sum K (spSame K 6) (sp_l_sum_due K)) [.dat ((eC_Loads K) v_told), .bor ((eL (eL (eO eI))) v_rows)] (PoR eB (f_l_is_sum v_told v_rows)) :=
 (run_last (r_retS (ev_andV (m1 := .now) (ev_isiO (ev_dat (i := 0) rfl) cf.c_Loads cf.oi_Loads) fun hq1 => (ev_sameT (Dt.L (Dt.O Dt.I NoN.I)) ((Sh.L (Sh.O Sh.I)) _) ((Sh.L (Sh.O Sh.I)) _) (EvO.datL (f := (eO eI)) (xs := v_told.p_entries) (evo_listO (f := "_entries") (ev_dat (i := 0) rfl) (lk_Loads__entries K _))) (EvO.datL (ev_l_sum_due (hk hq1) (Ev.nw (ev_bor (i := 1) rfl)))))) rfl))
abbrev sp_l_is_sum (K : PySem.W.Frag) : Sp := SpP K [.dat, .now] (fun p : Ty_Loads × (List (List (Option Int))) => [(eC_Loads K) p.1, (eL (eL (eO eI))) p.2]) (fun p => ok_l_is_sum p.1 p.2) (fun p => eB (f_l_is_sum p.1 p.2))
theorem ev_l_is_sum {m : Md} {e : En} {t0 t1 : TE} {v_told : Ty_Loads} {v_rows : (List (List (Option Int)))} (hk : ok_l_is_sum v_told v_rows) (h0 : Ev K .dat t0 e ((eC_Loads K) v_told)) (h1 : Ev K .now t1 e ((eL (eL (eO eI))) v_rows)) : Ev K m (tCall (sp_l_is_sum K) [] E0 (tCons t0 (tCons t1 tNil))) e (eB (f_l_is_sum v_told v_rows)) :=
 ev_call (out := fun p : Ty_Loads × (List (List (Option Int))) => eB (f_l_is_sum p.1 p.2)) (v_told, v_rows) hk (ea_cons h0 (ea_cons h1 ea_nil))
theorem wk_Loads___eq__ {P : Program} {w : World} (cf : Cf K) (v_self : Ty_Loads) (v_other : Ty_Loads) : Run K E (rd_Loads___eq__ K ) [.dat ((eC_Loads K) v_self), .dat ((eC_Loads K) v_other)] (PoR eB (f_Loads___eq__ v_self v_other)) :=
 (run_last (r_retS (ev_andV (m1 := .now) (ev_isiO (ev_dat (i := 1) rfl) cf.c_Loads cf.oi_Loads) fun hq1 => (ev_eqP (Dt.T (Dt.O Dt.I NoN.I)) (at_Loads__entries cf (ev_dat (i := 0) rfl)) (at_Loads__entries cf (ev_dat (i := 1) rfl)))) rfl))
abbrev sp_Loads___eq__ (K : PySem.W.Frag) : Sp := SpP K [.dat, .dat] (fun p : Ty_Loads × Ty_Loads => [(eC_Loads K) p.1, (eC_Loads K) p.2]) (fun p => True) (fun p => eB (f_Loads___eq__ p.1 p.2))
theorem ev_Loads___eq__ {m : Md} {e : En} {t0 t1 : TE} {v_self : Ty_Loads} {v_other : Ty_Loads}  (h0 : Ev K .dat t0 e ((eC_Loads K) v_self)) (h1 : Ev K .dat t1 e ((eC_Loads K) v_other)) : Ev K m (tBinO (gA K "Loads") (sp_Loads___eq__ K) (fun _ => E0) t0 t1) e (eB (f_Loads___eq__ v_self v_other)) :=
 ev_binO (out := fun p : Ty_Loads × Ty_Loads => eB (f_Loads___eq__ p.1 p.2)) (v_self, v_other) trivial h0 h1 rfl
theorem wk_Loads_none {P : Program} {w : World} (cf : Cf K)  (hk : ok_Loads_none ) : Run K E (rd_Loads_none K (sp_Loads___init__ K)) [] (PoR (eC_Loads K) (f_Loads_none )) :=
 (run_last (r_retS (EvO.dat (ev_Loads___init___S1 cf hk (EvO.datL (f := (eO eI)) (xs := ([none, none, none, none] : (List (Option Int)))) (ev_lstO (ed_cons ev_non (ed_cons ev_non (ed_cons ev_non (ed_cons ev_non ed_nil)))) (szr rfl))))) rfl))
abbrev sp_Loads_none (K : PySem.W.Frag) : Sp := SpP K [] (fun p : Unit => []) (fun p => ok_Loads_none ) (fun p => (eC_Loads K) (f_Loads_none ))
theorem ev_Loads_none {m : Md} {e : En} (hk : ok_Loads_none ) : Ev K m (tStat0 (gA K "Loads") (sp_Loads_none K) E0 (tC (.ref (gA K "Loads")))) e ((eC_Loads K) (f_Loads_none )) :=
 ev_stat0 (out := fun p : Unit => (eC_Loads K) (f_Loads_none )) () hk rfl
abbrev en_Loads_times_L1 (K : PySem.W.Frag) (P : Program) (w : World) (v_self : Ty_Loads) (v_many : Int) (v_found : Ty_Loads) : En := [.dat ((eC_Loads K) v_self), .dat (eI v_many), .dat ((eC_Loads K) v_found), .no]
theorem wk_Loads_times_L1 {P : Program} {w : World} (cf : Cf K) (v_self : Ty_Loads) (v_many : Int) (v_found : Ty_Loads) (v__ : Int) (hk : ok_Loads_times_L1 v_self v_found v__) : Run K E (tAsg (tBinO (gA K "Loads") (sp_Loads___add__ K) (fun _ => E0) (tVar 2) (tVar 0)) (gName 2)) [.dat ((eC_Loads K) v_self), .dat (eI v_many), .dat ((eC_Loads K) v_found), .dat (eI v__)] ((PoS (en_Loads_times_L1 K P w v_self v_many) [3]) (f_Loads_times_L1 v_self v_found v__)) :=
 (run_last (r_asg (Pf := (PoS (en_Loads_times_L1 K P w v_self v_many) [3])) (enc := (eC_Loads K)) (v := (f_Loads___add__ v_found v_self)) (ev_Loads___add__ hk (ev_dat (i := 2) rfl) (ev_dat (i := 0) rfl)) letT fun v_found _ => (show Run K E _ [.dat ((eC_Loads K) v_self), .dat (eI v_many), .dat ((eC_Loads K) v_found), .dat (eI v__)] _ from
 (r_end rfl))))
theorem wk_Loads_times {P : Program} {w : World} (cf : Cf K) (v_self : Ty_Loads) (v_many : Int) (hk : ok_Loads_times v_self v_many) : Run K E (rd_Loads_times K (sp_Loads_none K) (sp_Loads___add__ K)) [.dat ((eC_Loads K) v_self), .dat (eI v_many), .no, .no] (PoR (eC_Loads K) (f_Loads_times v_self v_many)) :=
 (r_asg (Pf := (PoR (eC_Loads K))) (enc := (eC_Loads K)) (v := f_Loads_none) (ev_Loads_none hk.1 ) hk.2 fun v_found h1 => (show Run K E _ [.dat ((eC_Loads K) v_self), .dat (eI v_many), .dat ((eC_Loads K) v_found), .no] _ from
 (r_forS (Pf := (PoR (eC_Loads K))) (encX := eI) (step := (f_Loads_times_L1 v_self)) (en_Loads_times_L1 K P w v_self v_many) [3] rfl (EvIz.toI (ez_r1 (ev_min2 (ev_dat (i := 1) rfl) ev_int) h1.1)) h1.2 (fun v_found v__ hk => ⟨[.dat ((eC_Loads K) v_self), .dat (eI v_many), .dat ((eC_Loads K) v_found), .dat (eI v__)], [3], (tg_dat (i := 3)), wk_Loads_times_L1 (P := P) (w := w) cf v_self v_many v_found v__ hk⟩) fun v_found _ => (show Run K E _ [.dat ((eC_Loads K) v_self), .dat (eI v_many), .dat ((eC_Loads K) v_found), .no] _ from
 (run_last (r_retS (ev_dat (i := 2) rfl) rfl))))))
abbrev sp_Loads_times (K : PySem.W.Frag) : Sp := SpP K [.dat, .dat] (fun p : Ty_Loads × Int => [(eC_Loads K) p.1, eI p.2]) (fun p => ok_Loads_times p.1 p.2) (fun p => (eC_Loads K) (f_Loads_times p.1 p.2))
theorem ev_Loads_times {m : Md} {e : En} {t0 t1 : TE} {v_self : Ty_Loads} {v_many : Int} (hk : ok_Loads_times v_self v_many) (h0 : Ev K .dat t0 e ((eC_Loads K) v_self)) (h1 : Ev K .dat t1 e (eI v_many)) : Ev K m (tMeth (gA K "Loads") "times" (sp_Loads_times K) [] E0 t0 (tCons t1 tNil)) e ((eC_Loads K) (f_Loads_times v_self v_many)) :=
 ev_mth (out := fun p : Ty_Loads × Int => (eC_Loads K) (f_Loads_times p.1 p.2)) (v_self, v_many) hk h0 (lkn_Loads_times K _) (ea_cons h1 ea_nil) rfl
theorem wk_law {P : Program} {w : World} (ns : List Int) (cf : Cf K) (v_pool : List Int) (hk : ok_law v_pool) : Run K E (tSeq (tAsg (tLc (iRng1 (tCons (tC (.int 3)) tNil)) (gName 13) tYes (tCall (sp_l_entries K) [] E0 (tCons (tVar 1) (tCons (tVar 13) tNil))) [13]) (gName 2))
  (tSeq (tAsg (tCB (rListU K) (tCons (tOp (rIx K) (tVar 2) (tC (.int 0))) tNil)) (gName 3))
  (tSeq (tAsg (tMakeN (gA K "Loads") 1 0 (sp_Loads___init__ K) (fun (vs zs : List V) => vs) E0 (tCons (tVar 3) tNil) tNil) (gName 4))
  (tSeq (tAsg (tMakeN (gA K "Loads") 1 0 (sp_Loads___init___2 K) (fun (vs zs : List V) => vs) E0 (tCons (tCB (rTupU K) (tCons (tOp (rIx K) (tVar 2) (tC (.int 1))) tNil)) tNil) tNil) (gName 5))
  (tSeq (tAsg (tMakeN (gA K "Loads") 1 0 (sp_Loads___init__ K) (fun (vs zs : List V) => vs) E0 (tCons (tCB (rListU K) (tCons (tOp (rIx K) (tVar 2) (tC (.int 2))) tNil)) tNil) tNil) (gName 6))
  (tSeq (tAsg (tC .non) (gSub (tVar 3) (tC (.int 0)) rSetL))
  (tSeq (tDrop (tBM K "list" rAppend (tVar 3) (tCons (tC (.int 0)) tNil)))
  (tSeq (tAsg (tBinO (gA K "Loads") (sp_Loads___add__ K) (fun _ => E0) (tVar 4) (tVar 5)) (gName 7))
  (tSeq (tAsg (tBinO (gA K "Loads") (sp_Loads___add__ K) (fun _ => E0) (tVar 7) (tVar 6)) (gName 8))
  (tSeq (tIfS (tOr (tNot (tB (tCall (sp_l_is_sum K) [] E0 (tCons (tVar 7) (tCons (tLst (tCons (tOp (rIx K) (tVar 2) (tC (.int 0))) (tCons (tOp (rIx K) (tVar 2) (tC (.int 1))) tNil))) tNil))))) (tNot (tB (tCall (sp_l_is_sum K) [] E0 (tCons (tVar 8) (tCons (tVar 2) tNil)))))) (tRet (tC (.bl false))) tNext)
  (tSeq (tIfS (tOr (tNot (tB (tCall (spSame K 6) [] E0 (tCons (tBinO (gA K "Loads") (sp_Loads___eq__ K) (fun _ => E0) (tBinO (gA K "Loads") (sp_Loads___add__ K) (fun _ => E0) (tVar 5) (tVar 4)) (tVar 7)) (tCons (tC (.bl true)) tNil))))) (tNot (tB (tCall (spSame K 6) [] E0 (tCons (tBinO (gA K "Loads") (sp_Loads___eq__ K) (fun _ => E0) (tBinO (gA K "Loads") (sp_Loads___add__ K) (fun _ => E0) (tVar 4) (tBinO (gA K "Loads") (sp_Loads___add__ K) (fun _ => E0) (tVar 5) (tVar 6))) (tVar 8)) (tCons (tC (.bl true)) tNil)))))) (tRet (tC (.bl false))) tNext)
  (tSeq (tIfS (tOr (tNot (tB (tCall (spSame K 6) [] E0 (tCons (tBinO (gA K "Loads") (sp_Loads___eq__ K) (fun _ => E0) (tVar 4) (tVar 5)) (tCons (tOp (rEqP K false) (tOp (rIx K) (tVar 2) (tC (.int 0))) (tOp (rIx K) (tVar 2) (tC (.int 1)))) tNil))))) (tNot (tB (tCall (spSame K 6) [] E0 (tCons (tBinO (gA K "Loads") (sp_Loads___eq__ K) (fun _ => E0) (tVar 6) (tVar 4)) (tCons (tOp (rEqP K false) (tOp (rIx K) (tVar 2) (tC (.int 2))) (tOp (rIx K) (tVar 2) (tC (.int 0)))) tNil)))))) (tRet (tC (.bl false))) tNext)
  (tSeq (tAsg (tVar 4) (gName 9))
  (tSeq (tAug 9 (tVar 5) (ipO (gA K "Loads") (sp_Loads___add__ K)))
  (tSeq (tIfS (tOr (tNot (tB (tCall (sp_l_is_sum K) [] E0 (tCons (tVar 9) (tCons (tLst (tCons (tOp (rIx K) (tVar 2) (tC (.int 0))) (tCons (tOp (rIx K) (tVar 2) (tC (.int 1))) tNil))) tNil))))) (tNot (tB (tCall (spSame K 6) [] E0 (tCons (tCB (rListO K (gA K "Loads") "_entries") (tCons (tVar 4) tNil)) (tCons (tOp (rIx K) (tVar 2) (tC (.int 0))) tNil)))))) (tRet (tC (.bl false))) tNext)
  (tSeq (tAsg (tStat0 (gA K "Loads") (sp_Loads_none K) E0 (tC (.ref (gA K "Loads")))) (gName 10))
  (tSeq (tIfS (tOr (tNot (tB (tCall (spSame K 6) [] E0 (tCons (tCB (rListO K (gA K "Loads") "_entries") (tCons (tVar 10) tNil)) (tCons (tLst (tCons (tC .non) (tCons (tC .non) (tCons (tC .non) (tCons (tC .non) tNil))))) tNil))))) (tNot (tB (tCall (spSame K 6) [] E0 (tCons (tBinO (gA K "Loads") (sp_Loads___eq__ K) (fun _ => E0) (tBinO (gA K "Loads") (sp_Loads___add__ K) (fun _ => E0) (tVar 4) (tVar 10)) (tVar 4)) (tCons (tC (.bl true)) tNil)))))) (tRet (tC (.bl false))) tNext)
  (tSeq (tIfS (tOr (tNot (tB (tCall (spSame K 6) [] E0 (tCons (tCB (rListO K (gA K "Loads") "_entries") (tCons (tBinO (gA K "Loads") (sp_Loads___add__ K) (fun _ => E0) (tVar 10) (tVar 5)) tNil)) (tCons (tOp (rIx K) (tVar 2) (tC (.int 1))) tNil))))) (tNot (tB (tCall (spSame K 6) [] E0 (tCons (tCB (rListO K (gA K "Loads") "_entries") (tCons (tBinO (gA K "Loads") (sp_Loads___add__ K) (fun _ => E0) (tVar 10) (tStat0 (gA K "Loads") (sp_Loads_none K) E0 (tC (.ref (gA K "Loads"))))) tNil)) (tCons (tCB (rListO K (gA K "Loads") "_entries") (tCons (tVar 10) tNil)) tNil)))))) (tRet (tC (.bl false))) tNext)
  (tSeq (tAsg (tOp (rMod) (tCB (rIntC) (tCons (tOp (rIx K) (tVar 1) (tC (.int 16))) tNil)) (tC (.int 7))) (gName 11))
  (tSeq (tAsg (tOp (rPlus K) (tCall (sp_l_number K) [] E0 (tCons (tVar 1) (tCons (tC (.int 140)) tNil))) (tOp (rMod) (tCB (rIntC) (tCons (tOp (rIx K) (tVar 1) (tC (.int 17))) tNil)) (tC (.int 2)))) (gName 12))
  (tSeq (tIfS (tNot (tB (tCall (sp_l_is_sum K) [] E0 (tCons (tMeth (gA K "Loads") "times" (sp_Loads_times K) [] E0 (tVar 4) (tCons (tVar 11) tNil)) (tCons (tLc (iRng1 (tCons (tVar 11) tNil)) (gName 14) tYes (tOp (rIx K) (tVar 2) (tC (.int 0))) [14]) tNil))))) (tRet (tC (.bl false))) tNext)
  (tSeq (tIfS (tNot (tB (tCall (sp_l_is_sum K) [] E0 (tCons (tMeth (gA K "Loads") "times" (sp_Loads_times K) [] E0 (tVar 5) (tCons (tVar 12) tNil)) (tCons (tLc (iRng1 (tCons (tCB (rMn2) (tCons (tVar 12) (tCons (tC (.int 4)) tNil))) tNil)) (gName 14) tYes (tOp (rIx K) (tVar 2) (tC (.int 1))) [14]) tNil))))) (tRet (tC (.bl false))) tNext)
  (tSeq (tIfS (tOr (tNot (tB (tCall (spSame K 6) [] E0 (tCons (tBinO (gA K "Loads") (sp_Loads___eq__ K) (fun _ => E0) (tMeth (gA K "Loads") "times" (sp_Loads_times K) [] E0 (tVar 4) (tCons (tC (.int 2)) tNil)) (tBinO (gA K "Loads") (sp_Loads___add__ K) (fun _ => E0) (tVar 4) (tVar 4))) (tCons (tC (.bl true)) tNil))))) (tNot (tB (tCall (spSame K 6) [] E0 (tCons (tBinO (gA K "Loads") (sp_Loads___eq__ K) (fun _ => E0) (tMeth (gA K "Loads") "times" (sp_Loads_times K) [] E0 (tVar 6) (tCons (tC (.int 1)) tNil)) (tVar 6)) (tCons (tC (.bl true)) tNil)))))) (tRet (tC (.bl false))) tNext)
  (tSeq (tIfS (tNot (tB (tCall (sp_l_is_sum K) [] E0 (tCons (tMeth (gA K "Loads") "times" (sp_Loads_times K) [] E0 (tVar 4) (tCons (tVar 11) tNil)) (tCons (tLc (iRng1 (tCons (tVar 11) tNil)) (gName 14) tYes (tOp (rIx K) (tVar 2) (tC (.int 0))) [14]) tNil))))) (tRet (tC (.bl false))) tNext)
  (tSeq (tIfS (tNot (tB (tCall (sp_l_is_sum K) [] E0 (tCons (tBinO (gA K "Loads") (sp_Loads___add__ K) (fun _ => E0) (tVar 4) (tVar 5)) (tCons (tLst (tCons (tOp (rIx K) (tVar 2) (tC (.int 0))) (tCons (tOp (rIx K) (tVar 2) (tC (.int 1))) tNil))) tNil))))) (tRet (tC (.bl false))) tNext)
  (tRet (tCall (spSame K 6) [] E0 (tCons (tLst (tCons (tCB (rListO K (gA K "Loads") "_entries") (tCons (tVar 4) tNil)) (tCons (tCB (rListO K (gA K "Loads") "_entries") (tCons (tVar 5) tNil)) (tCons (tCB (rListO K (gA K "Loads") "_entries") (tCons (tVar 6) tNil)) tNil)))) (tCons (tVar 2) tNil))))))))))))))))))))))))))))) [.no, .dat ((eL eI) v_pool), .no, .no, .no, .no, .no, .no, .no, .no, .no, .no, .no, .no, .no] (PoR eB (f_law v_pool)) :=
 (r_asg (Pf := (PoR eB)) (enc := (eL (eL (eO eI)))) (v := ((rangeI 0 (3 : Int)).map fun (x1 : Int) => (f_l_entries v_pool x1))) (EvO.datL (evo_lm (f := eI) (g := (eL (eO eI))) (xs := (rangeI 0 (3 : Int))) (hx := fun x1 => (f_l_entries v_pool x1)) (okx := fun x1 => ok_l_entries v_pool x1) (ez_r1 ev_int (by omega)) hk.1 fun x1 hx2 => ⟨[.no, .dat ((eL eI) v_pool), .no, .no, .no, .no, .no, .no, .no, .no, .no, .no, .no, .dat (eI x1), .no], (tg_dat (i := 13)), (EvO.datL (ev_l_entries hx2 (ev_dat (i := 1) rfl) (ev_dat (i := 13) rfl)))⟩)) hk.2 fun v_rows h3 => (show Run K E _ [.no, .dat ((eL eI) v_pool), .dat ((eL (eL (eO eI))) v_rows), .no, .no, .no, .no, .no, .no, .no, .no, .no, .no, .no, .no] _ from
 (r_asgO (Pf := (PoR eB)) (od := (oL (eO eI))) (v := (getI v_rows (0 : Int))) (evo_listL (f := (eO eI)) (ev_getL (f := (eL (eO eI))) (ev_dat (i := 2) rfl) ev_int h3.1)) h3.2 fun v_handed h4 => (show Run K E _ [.no, .dat ((eL eI) v_pool), .dat ((eL (eL (eO eI))) v_rows), .own ((oL (eO eI)) v_handed), .no, .no, .no, .no, .no, .no, .no, .no, .no, .no, .no] _ from
 (r_asg (Pf := (PoR eB)) (enc := (eC_Loads K)) (v := (f_Loads___init__ v_handed)) (EvO.dat (ev_Loads___init___S1 cf h4.1 (ev_ownL (s := 3) rfl))) h4.2 fun v_one h5 => (show Run K E _ [.no, .dat ((eL eI) v_pool), .dat ((eL (eL (eO eI))) v_rows), .own ((oL (eO eI)) v_handed), .dat ((eC_Loads K) v_one), .no, .no, .no, .no, .no, .no, .no, .no, .no, .no] _ from
 (r_asg (Pf := (PoR eB)) (enc := (eC_Loads K)) (v := (f_Loads___init___2 (getI v_rows (1 : Int)))) (EvO.dat (ev_Loads___init___2_S1 cf h5.2.1 (ev_tupleL (f := (eO eI)) (ev_getL (f := (eL (eO eI))) (ev_dat (i := 2) rfl) ev_int h5.1)))) h5.2.2 fun v_two h6 => (show Run K E _ [.no, .dat ((eL eI) v_pool), .dat ((eL (eL (eO eI))) v_rows), .own ((oL (eO eI)) v_handed), .dat ((eC_Loads K) v_one), .dat ((eC_Loads K) v_two), .no, .no, .no, .no, .no, .no, .no, .no, .no] _ from
 (r_asg (Pf := (PoR eB)) (enc := (eC_Loads K)) (v := (f_Loads___init__ (getI v_rows (2 : Int)))) (EvO.dat (ev_Loads___init___S1 cf h6.2.1 (EvO.datL (evo_listL (f := (eO eI)) (ev_getL (f := (eL (eO eI))) (ev_dat (i := 2) rfl) ev_int h6.1))))) h6.2.2 fun v_three h7 => (show Run K E _ [.no, .dat ((eL eI) v_pool), .dat ((eL (eL (eO eI))) v_rows), .own ((oL (eO eI)) v_handed), .dat ((eC_Loads K) v_one), .dat ((eC_Loads K) v_two), .dat ((eC_Loads K) v_three), .no, .no, .no, .no, .no, .no, .no, .no] _ from
 (r_stm (i := 3) (Pf := (PoR eB)) (v := (v_handed.set (0 : Int).toNat none)) (sl := fun z => .own (oL (eO eI) z)) (fun P q => st_set (f := (eO eI)) rfl ev_non ev_int h7.1 P q) h7.2 fun v_handed h8 => (show Run K E _ [.no, .dat ((eL eI) v_pool), .dat ((eL (eL (eO eI))) v_rows), .own ((oL (eO eI)) v_handed), .dat ((eC_Loads K) v_one), .dat ((eC_Loads K) v_two), .dat ((eC_Loads K) v_three), .no, .no, .no, .no, .no, .no, .no, .no] _ from
 (r_stm (i := 3) (Pf := (PoR eB)) (v := (v_handed ++ [(some (0 : Int))])) (sl := fun z => .own (oL (eO eI) z)) (fun P q => st_app (f := (eO eI)) rfl ev_int h8.1 P q) h8.2 fun v_handed h9 => (show Run K E _ [.no, .dat ((eL eI) v_pool), .dat ((eL (eL (eO eI))) v_rows), .own ((oL (eO eI)) v_handed), .dat ((eC_Loads K) v_one), .dat ((eC_Loads K) v_two), .dat ((eC_Loads K) v_three), .no, .no, .no, .no, .no, .no, .no, .no] _ from
 (r_asg (Pf := (PoR eB)) (enc := (eC_Loads K)) (v := (f_Loads___add__ v_one v_two)) (ev_Loads___add__ h9.1 (ev_dat (i := 4) rfl) (ev_dat (i := 5) rfl)) h9.2 fun v_pair h10 => (show Run K E _ [.no, .dat ((eL eI) v_pool), .dat ((eL (eL (eO eI))) v_rows), .own ((oL (eO eI)) v_handed), .dat ((eC_Loads K) v_one), .dat ((eC_Loads K) v_two), .dat ((eC_Loads K) v_three), .dat ((eC_Loads K) v_pair), .no, .no, .no, .no, .no, .no, .no] _ from
 (r_asg (Pf := (PoR eB)) (enc := (eC_Loads K)) (v := (f_Loads___add__ v_pair v_three)) (ev_Loads___add__ h10.1 (ev_dat (i := 7) rfl) (ev_dat (i := 6) rfl)) h10.2 fun v_whole h11 => (show Run K E _ [.no, .dat ((eL eI) v_pool), .dat ((eL (eL (eO eI))) v_rows), .own ((oL (eO eI)) v_handed), .dat ((eC_Loads K) v_one), .dat ((eC_Loads K) v_two), .dat ((eC_Loads K) v_three), .dat ((eC_Loads K) v_pair), .dat ((eC_Loads K) v_whole), .no, .no, .no, .no, .no, .no] _ from
 (r_ifS (Pf := (PoR eB)) (et_or (et_not (et_B (m := .now) (ev_l_is_sum h11.2.2.1 (ev_dat (i := 7) rfl) (EvO.datL (f := (eL (eO eI))) (xs := ([(getI v_rows (0 : Int)), (getI v_rows (1 : Int))] : (List (List (Option Int))))) (ev_lstO (ed_cons (ev_getL (f := (eL (eO eI))) (ev_dat (i := 2) rfl) ev_int h11.1) (ed_cons (ev_getL (f := (eL (eO eI))) (ev_dat (i := 2) rfl) ev_int h11.2.1) ed_nil)) (szr rfl)))))) fun hq12 => (et_not (et_B (m := .now) (ev_l_is_sum (h11.2.2.2.1 hq12) (ev_dat (i := 8) rfl) (ev_dat (i := 2) rfl))))) h11.2.2.2.2 (fun hc14 _ => (r_retS ev_bl rfl)) (fun hc14 h13 => (run_skip (r_ifS (Pf := (PoR eB)) (et_or (et_not (et_B (m := .now) (ev_sameT Dt.B (Sh.B _) (Sh.B _) (ev_Loads___eq__  (ev_Loads___add__ h13.1 (ev_dat (i := 5) rfl) (ev_dat (i := 4) rfl)) (ev_dat (i := 7) rfl)) ev_bl))) fun hq15 => (et_not (et_B (m := .now) (ev_sameT Dt.B (Sh.B _) (Sh.B _) (ev_Loads___eq__  (ev_Loads___add__ (h13.2.1 hq15).2 (ev_dat (i := 4) rfl) (ev_Loads___add__ (h13.2.1 hq15).1 (ev_dat (i := 5) rfl) (ev_dat (i := 6) rfl))) (ev_dat (i := 8) rfl)) ev_bl)))) h13.2.2 (fun hc17 _ => (r_retS ev_bl rfl)) (fun hc17 h16 => (run_skip (r_ifS (Pf := (PoR eB)) (et_or (et_not (et_B (m := .now) (ev_sameT Dt.B (Sh.B _) (Sh.B _) (ev_Loads___eq__  (ev_dat (i := 4) rfl) (ev_dat (i := 5) rfl)) (ev_eqP (Dt.L (Dt.O Dt.I NoN.I)) (ev_getL (f := (eL (eO eI))) (ev_dat (i := 2) rfl) ev_int h16.1) (ev_getL (f := (eL (eO eI))) (ev_dat (i := 2) rfl) ev_int h16.2.1))))) fun hq18 => (et_not (et_B (m := .now) (ev_sameT Dt.B (Sh.B _) (Sh.B _) (ev_Loads___eq__  (ev_dat (i := 6) rfl) (ev_dat (i := 4) rfl)) (ev_eqP (Dt.L (Dt.O Dt.I NoN.I)) (ev_getL (f := (eL (eO eI))) (ev_dat (i := 2) rfl) ev_int (h16.2.2.1 hq18).1) (ev_getL (f := (eL (eO eI))) (ev_dat (i := 2) rfl) ev_int (h16.2.2.1 hq18).2)))))) h16.2.2.2 (fun hc20 _ => (r_retS ev_bl rfl)) (fun hc20 h19 => (run_skip (r_asg (Pf := (PoR eB)) (enc := (eC_Loads K)) (v := v_one) (ev_dat (i := 4) rfl) h19 fun v_grown h21 => (show Run K E _ [.no, .dat ((eL eI) v_pool), .dat ((eL (eL (eO eI))) v_rows), .own ((oL (eO eI)) v_handed), .dat ((eC_Loads K) v_one), .dat ((eC_Loads K) v_two), .dat ((eC_Loads K) v_three), .dat ((eC_Loads K) v_pair), .dat ((eC_Loads K) v_whole), .dat ((eC_Loads K) v_grown), .no, .no, .no, .no, .no] _ from
 (r_stm (i := 9) (Pf := (PoR eB)) (v := (f_Loads___add__ v_grown v_two)) (sl := fun z => .dat ((eC_Loads K) z)) (fun P q => st_augO (v_grown, v_two) h21.1 rfl (ev_dat (i := 5) rfl) rfl P q) h21.2 fun v_grown h22 => (show Run K E _ [.no, .dat ((eL eI) v_pool), .dat ((eL (eL (eO eI))) v_rows), .own ((oL (eO eI)) v_handed), .dat ((eC_Loads K) v_one), .dat ((eC_Loads K) v_two), .dat ((eC_Loads K) v_three), .dat ((eC_Loads K) v_pair), .dat ((eC_Loads K) v_whole), .dat ((eC_Loads K) v_grown), .no, .no, .no, .no, .no] _ from
 (r_ifS (Pf := (PoR eB)) (et_or (et_not (et_B (m := .now) (ev_l_is_sum h22.2.2.1 (ev_dat (i := 9) rfl) (EvO.datL (f := (eL (eO eI))) (xs := ([(getI v_rows (0 : Int)), (getI v_rows (1 : Int))] : (List (List (Option Int))))) (ev_lstO (ed_cons (ev_getL (f := (eL (eO eI))) (ev_dat (i := 2) rfl) ev_int h22.1) (ed_cons (ev_getL (f := (eL (eO eI))) (ev_dat (i := 2) rfl) ev_int h22.2.1) ed_nil)) (szr rfl)))))) fun hq23 => (et_not (et_B (m := .now) (ev_sameT (Dt.L (Dt.O Dt.I NoN.I)) ((Sh.L (Sh.O Sh.I)) _) ((Sh.L (Sh.O Sh.I)) _) (EvO.datL (f := (eO eI)) (xs := v_one.p_entries) (evo_listO (f := "_entries") (ev_dat (i := 4) rfl) (lk_Loads__entries K _))) (ev_getL (f := (eL (eO eI))) (ev_dat (i := 2) rfl) ev_int (h22.2.2.2.1 hq23)))))) h22.2.2.2.2 (fun hc25 _ => (r_retS ev_bl rfl)) (fun hc25 h24 => (run_skip (r_asg (Pf := (PoR eB)) (enc := (eC_Loads K)) (v := f_Loads_none) (ev_Loads_none h24.1 ) h24.2 fun v_nothing h26 => (show Run K E _ [.no, .dat ((eL eI) v_pool), .dat ((eL (eL (eO eI))) v_rows), .own ((oL (eO eI)) v_handed), .dat ((eC_Loads K) v_one), .dat ((eC_Loads K) v_two), .dat ((eC_Loads K) v_three), .dat ((eC_Loads K) v_pair), .dat ((eC_Loads K) v_whole), .dat ((eC_Loads K) v_grown), .dat ((eC_Loads K) v_nothing), .no, .no, .no, .no] _ from
 (r_ifS (Pf := (PoR eB)) (et_or (et_not (et_B (m := .now) (ev_sameT (Dt.L (Dt.O Dt.I NoN.I)) ((Sh.L (Sh.O Sh.I)) _) ((Sh.L (Sh.O Sh.I)) _) (EvO.datL (f := (eO eI)) (xs := v_nothing.p_entries) (evo_listO (f := "_entries") (ev_dat (i := 10) rfl) (lk_Loads__entries K _))) (EvO.datL (f := (eO eI)) (xs := ([none, none, none, none] : (List (Option Int)))) (ev_lstO (ed_cons ev_non (ed_cons ev_non (ed_cons ev_non (ed_cons ev_non ed_nil)))) (szr rfl)))))) fun hq27 => (et_not (et_B (m := .now) (ev_sameT Dt.B (Sh.B _) (Sh.B _) (ev_Loads___eq__  (ev_Loads___add__ (h26.1 hq27) (ev_dat (i := 4) rfl) (ev_dat (i := 10) rfl)) (ev_dat (i := 4) rfl)) ev_bl)))) h26.2 (fun hc29 _ => (r_retS ev_bl rfl)) (fun hc29 h28 => (run_skip (r_ifS (Pf := (PoR eB)) (et_or (et_not (et_B (m := .now) (ev_sameT (Dt.L (Dt.O Dt.I NoN.I)) ((Sh.L (Sh.O Sh.I)) _) ((Sh.L (Sh.O Sh.I)) _) (EvO.datL (f := (eO eI)) (xs := (f_Loads___add__ v_nothing v_two).p_entries) (evo_listO (f := "_entries") (ev_Loads___add__ h28.1 (ev_dat (i := 10) rfl) (ev_dat (i := 5) rfl)) (lk_Loads__entries K _))) (ev_getL (f := (eL (eO eI))) (ev_dat (i := 2) rfl) ev_int h28.2.1)))) fun hq30 => (et_not (et_B (m := .now) (ev_sameT (Dt.L (Dt.O Dt.I NoN.I)) ((Sh.L (Sh.O Sh.I)) _) ((Sh.L (Sh.O Sh.I)) _) (EvO.datL (f := (eO eI)) (xs := (f_Loads___add__ v_nothing f_Loads_none).p_entries) (evo_listO (f := "_entries") (ev_Loads___add__ (h28.2.2.1 hq30).2 (ev_dat (i := 10) rfl) (ev_Loads_none (h28.2.2.1 hq30).1 )) (lk_Loads__entries K _))) (EvO.datL (f := (eO eI)) (xs := v_nothing.p_entries) (evo_listO (f := "_entries") (ev_dat (i := 10) rfl) (lk_Loads__entries K _))))))) h28.2.2.2 (fun hc32 _ => (r_retS ev_bl rfl)) (fun hc32 h31 => (run_skip (r_asg (Pf := (PoR eB)) (enc := eI) (v := ((getI v_pool (16 : Int)) % (7 : Int))) (ev_modI (ev_intc (ev_getL (f := eI) (ev_dat (i := 1) rfl) ev_int h31.1)) ev_int (by decide)) h31.2 fun v_many h33 => (show Run K E _ [.no, .dat ((eL eI) v_pool), .dat ((eL (eL (eO eI))) v_rows), .own ((oL (eO eI)) v_handed), .dat ((eC_Loads K) v_one), .dat ((eC_Loads K) v_two), .dat ((eC_Loads K) v_three), .dat ((eC_Loads K) v_pair), .dat ((eC_Loads K) v_whole), .dat ((eC_Loads K) v_grown), .dat ((eC_Loads K) v_nothing), .dat (eI v_many), .no, .no, .no] _ from
 (r_asg (Pf := (PoR eB)) (enc := eI) (v := ((f_l_number v_pool (140 : Int)) + ((getI v_pool (17 : Int)) % (2 : Int)))) (ev_addI (ev_l_number h33.1 (ev_dat (i := 1) rfl) ev_int) (ev_modI (ev_intc (ev_getL (f := eI) (ev_dat (i := 1) rfl) ev_int h33.2.1)) ev_int (by decide))) h33.2.2 fun v_great h34 => (show Run K E _ [.no, .dat ((eL eI) v_pool), .dat ((eL (eL (eO eI))) v_rows), .own ((oL (eO eI)) v_handed), .dat ((eC_Loads K) v_one), .dat ((eC_Loads K) v_two), .dat ((eC_Loads K) v_three), .dat ((eC_Loads K) v_pair), .dat ((eC_Loads K) v_whole), .dat ((eC_Loads K) v_grown), .dat ((eC_Loads K) v_nothing), .dat (eI v_many), .dat (eI v_great), .no, .no] _ from
 (r_ifS (Pf := (PoR eB)) (et_not (et_B (m := .now) (ev_l_is_sum h34.2.2.2.1 (ev_Loads_times h34.1 (ev_dat (i := 4) rfl) (ev_dat (i := 11) rfl)) (EvO.datL (evo_lm (f := eI) (g := (eL (eO eI))) (xs := (rangeI 0 v_many)) (hx := fun x35 => (getI v_rows (0 : Int))) (okx := fun x35 => 0 ≤ (0 : Int) ∧ (0 : Int) < (v_rows.length : Nat)) (ez_r1 (ev_dat (i := 11) rfl) h34.2.1) h34.2.2.1 fun x35 hx36 => ⟨[.no, .dat ((eL eI) v_pool), .dat ((eL (eL (eO eI))) v_rows), .own ((oL (eO eI)) v_handed), .dat ((eC_Loads K) v_one), .dat ((eC_Loads K) v_two), .dat ((eC_Loads K) v_three), .dat ((eC_Loads K) v_pair), .dat ((eC_Loads K) v_whole), .dat ((eC_Loads K) v_grown), .dat ((eC_Loads K) v_nothing), .dat (eI v_many), .dat (eI v_great), .no, .dat (eI x35)], (tg_dat (i := 14)), (ev_getL (f := (eL (eO eI))) (ev_dat (i := 2) rfl) ev_int hx36)⟩))))) h34.2.2.2.2 (fun hc38 _ => (r_retS ev_bl rfl)) (fun hc38 h37 => (run_skip (r_ifS (Pf := (PoR eB)) (et_not (et_B (m := .now) (ev_l_is_sum h37.2.2.2.1 (ev_Loads_times h37.1 (ev_dat (i := 5) rfl) (ev_dat (i := 12) rfl)) (EvO.datL (evo_lm (f := eI) (g := (eL (eO eI))) (xs := (rangeI 0 (min v_great (4 : Int)))) (hx := fun x39 => (getI v_rows (1 : Int))) (okx := fun x39 => 0 ≤ (1 : Int) ∧ (1 : Int) < (v_rows.length : Nat)) (ez_r1 (ev_min2 (ev_dat (i := 12) rfl) ev_int) h37.2.1) h37.2.2.1 fun x39 hx40 => ⟨[.no, .dat ((eL eI) v_pool), .dat ((eL (eL (eO eI))) v_rows), .own ((oL (eO eI)) v_handed), .dat ((eC_Loads K) v_one), .dat ((eC_Loads K) v_two), .dat ((eC_Loads K) v_three), .dat ((eC_Loads K) v_pair), .dat ((eC_Loads K) v_whole), .dat ((eC_Loads K) v_grown), .dat ((eC_Loads K) v_nothing), .dat (eI v_many), .dat (eI v_great), .no, .dat (eI x39)], (tg_dat (i := 14)), (ev_getL (f := (eL (eO eI))) (ev_dat (i := 2) rfl) ev_int hx40)⟩))))) h37.2.2.2.2 (fun hc42 _ => (r_retS ev_bl rfl)) (fun hc42 h41 => (run_skip (r_ifS (Pf := (PoR eB)) (et_or (et_not (et_B (m := .now) (ev_sameT Dt.B (Sh.B _) (Sh.B _) (ev_Loads___eq__  (ev_Loads_times h41.1 (ev_dat (i := 4) rfl) ev_int) (ev_Loads___add__ h41.2.1 (ev_dat (i := 4) rfl) (ev_dat (i := 4) rfl))) ev_bl))) fun hq43 => (et_not (et_B (m := .now) (ev_sameT Dt.B (Sh.B _) (Sh.B _) (ev_Loads___eq__  (ev_Loads_times (h41.2.2.1 hq43) (ev_dat (i := 6) rfl) ev_int) (ev_dat (i := 6) rfl)) ev_bl)))) h41.2.2.2 (fun hc45 _ => (r_retS ev_bl rfl)) (fun hc45 h44 => (run_skip (r_ifS (Pf := (PoR eB)) (et_not (et_B (m := .now) (ev_l_is_sum h44.2.2.2.1 (ev_Loads_times h44.1 (ev_dat (i := 4) rfl) (ev_dat (i := 11) rfl)) (EvO.datL (evo_lm (f := eI) (g := (eL (eO eI))) (xs := (rangeI 0 v_many)) (hx := fun x46 => (getI v_rows (0 : Int))) (okx := fun x46 => 0 ≤ (0 : Int) ∧ (0 : Int) < (v_rows.length : Nat)) (ez_r1 (ev_dat (i := 11) rfl) h44.2.1) h44.2.2.1 fun x46 hx47 => ⟨[.no, .dat ((eL eI) v_pool), .dat ((eL (eL (eO eI))) v_rows), .own ((oL (eO eI)) v_handed), .dat ((eC_Loads K) v_one), .dat ((eC_Loads K) v_two), .dat ((eC_Loads K) v_three), .dat ((eC_Loads K) v_pair), .dat ((eC_Loads K) v_whole), .dat ((eC_Loads K) v_grown), .dat ((eC_Loads K) v_nothing), .dat (eI v_many), .dat (eI v_great), .no, .dat (eI x46)], (tg_dat (i := 14)), (ev_getL (f := (eL (eO eI))) (ev_dat (i := 2) rfl) ev_int hx47)⟩))))) h44.2.2.2.2 (fun hc49 _ => (r_retS ev_bl rfl)) (fun hc49 h48 => (run_skip (r_ifS (Pf := (PoR eB)) (et_not (et_B (m := .now) (ev_l_is_sum h48.2.2.2 (ev_Loads___add__ h48.1 (ev_dat (i := 4) rfl) (ev_dat (i := 5) rfl)) (EvO.datL (f := (eL (eO eI))) (xs := ([(getI v_rows (0 : Int)), (getI v_rows (1 : Int))] : (List (List (Option Int))))) (ev_lstO (ed_cons (ev_getL (f := (eL (eO eI))) (ev_dat (i := 2) rfl) ev_int h48.2.1) (ed_cons (ev_getL (f := (eL (eO eI))) (ev_dat (i := 2) rfl) ev_int h48.2.2.1) ed_nil)) (szr rfl)))))) ifT (fun hc51 _ => (r_retS ev_bl rfl)) (fun hc51 _ => (run_skip (run_last (r_retS (ev_sameT (Dt.L (Dt.L (Dt.O Dt.I NoN.I))) ((Sh.L (Sh.L (Sh.O Sh.I))) _) ((Sh.L (Sh.L (Sh.O Sh.I))) _) (EvO.datL (f := (eL (eO eI))) (xs := ([v_one.p_entries, v_two.p_entries, v_three.p_entries] : (List (List (Option Int))))) (ev_lstO (ed_cons (EvO.datL (f := (eO eI)) (xs := v_one.p_entries) (evo_listO (f := "_entries") (ev_dat (i := 4) rfl) (lk_Loads__entries K _))) (ed_cons (EvO.datL (f := (eO eI)) (xs := v_two.p_entries) (evo_listO (f := "_entries") (ev_dat (i := 5) rfl) (lk_Loads__entries K _))) (ed_cons (EvO.datL (f := (eO eI)) (xs := v_three.p_entries) (evo_listO (f := "_entries") (ev_dat (i := 6) rfl) (lk_Loads__entries K _))) ed_nil))) (szr rfl))) (ev_dat (i := 2) rfl)) rfl)))))))))))))))))))))))))))))))))))))))))))))))))))))))))))))))
end
section
variable {P : Program} {w : World} {K : PySem.W.Frag} {mg : Str → Option Value} {base : Heap}
/-! the drawing helpers -/
theorem df_mixed (T : Tx K mg) : Df P w K mg base "_law_mixed" 1 [] (spMixed K) :=
  T.d_l_mixed.df sc_l_mixed rfl (by decide) (fun _ _ _ _ _ _ us hl => match us, hl with | [_, _], _ => rfl) fun f cdv A outer s H E hr => ⟨rd_l_mixed K, tm_l_mixed T hr, fun a _ => run_mixed a.1 a.2⟩
theorem df_pool (T : Tx K mg) : Df P w K mg base "_law_pool" 2 [] (spPool K) :=
  T.d_l_pool.df sc_l_pool rfl (by decide) (fun _ _ _ _ _ _ us hl => match us, hl with | [_, _], _ => rfl) fun f cdv A outer s H E hr => ⟨rd_l_pool K (spMixed K), tm_l_pool T (df_mixed T) hr, fun a h => run_pool a.1 a.2 h⟩
abbrev spNo (K : PySem.W.Frag) : Sp := SpP K [.now, .now] (fun p : D × D => [p.1, p.2]) (fun _ => False) (fun p => .bl (sm p.1 p.2))
theorem df_no (T : Tx K mg) : Df P w K mg base "_law_same" 0 [] (spNo K) := Df.never T.d_l_same (fun _ h => h) (N := ["actual", "due"]) (fun _ _ _ _ _ _ us hl => match us, hl with | [_, _], _ => rfl)
theorem df_same (T : Tx K mg) : ∀ n : Nat, Df P w K mg base "_law_same" (n + 1) [] (spSame K n)
  | 0 => T.d_l_same.df sc_l_same rfl (by decide) (fun _ _ _ _ _ _ us hl => match us, hl with | [_, _], _ => rfl) fun f cdv A outer s H E hr => ⟨rd_l_same K (spNo K), tm_l_same T (kk := 0) (Nat.zero_le _) (df_no T) hr, fun a h => run_same 0 _ (fun m h => nomatch h) a.1 a.2 h.1 h.2⟩
  | n + 1 => T.d_l_same.df sc_l_same rfl (by decide) (fun _ _ _ _ _ _ us hl => match us, hl with | [_, _], _ => rfl) fun f cdv A outer s H E hr => ⟨rd_l_same K (spSame K n), tm_l_same T (kk := n + 1) (Nat.zero_le _) (df_same T n) hr, fun a h => run_same (n + 1) _ (fun m h => by cases h; rfl) a.1 a.2 h.1 h.2⟩

theorem df_it_Loads (T : Tx K mg) : DfIt P w K mg base (mA K "Loads" "__iter__") 1 (gA K "Loads") "_entries" :=
  T.dm_Loads___iter__.dfIt T.cf.c_Loads T.cf.n_Loads__entries sc_Loads___iter__ (fun _ _ _ _ _ _ us hl => match us, hl with | [_], _ => rfl) fun fa cdv A outer s H E hr => pss_one (ps_ret (pe_callB call_iterT (by rfl) T.f_iter (by decide +kernel) (pa_cons (pe_at (pv 0)) pa_nil)))
theorem df_l_number (T : Tx K mg) : Df P w K mg base "_law_number" 1 [] (sp_l_number K) :=
  T.d_l_number.df sc_l_number rfl (by decide) (fun _ _ _ _ _ _ us hl => match us, hl with | [_, _], _ => rfl) fun f cdv A outer s H E hr => ⟨rd_l_number K , tm_l_number T  hr, fun a hp => wk_l_number (P := P) (w := w) T.cf a.1 a.2 hp⟩
theorem df_l_entries (T : Tx K mg) : Df P w K mg base "_law_entries" 2 [] (sp_l_entries K) :=
  T.d_l_entries.dfO sc_l_entries rfl (by decide) (fun _ _ _ _ _ _ us hl => match us, hl with | [_, _], _ => rfl) fun f cdv A outer s H E hr => ⟨rd_l_entries K (sp_l_number K), tm_l_entries T (df_l_number T) hr, fun a hp => wk_l_entries (P := P) (w := w) T.cf a.1 a.2 hp⟩
theorem df_is_greater (T : Tx K mg) : Df P w K mg base "is_greater" 1 [] (sp_is_greater K) :=
  T.d_is_greater.df sc_is_greater rfl (by decide) (fun _ _ _ _ _ _ us hl => match us, hl with | [_, _], _ => rfl) fun f cdv A outer s H E hr => ⟨rd_is_greater K , tm_is_greater T  hr, fun a hp => wk_is_greater (P := P) (w := w) T.cf a.1 a.2 hp⟩
theorem df_check_entries (T : Tx K mg) : Df P w K mg base "check_entries" 2 [] (sp_check_entries K) :=
  T.d_check_entries.df sc_check_entries rfl (by decide) (fun _ _ _ _ _ _ us hl => match us, hl with | [_], _ => rfl) fun f cdv A outer s H E hr => ⟨rd_check_entries K (sp_is_greater K), tm_check_entries T (df_is_greater T) hr, fun a hp => wk_check_entries (P := P) (w := w) T.cf a hp⟩
theorem df_Loads___init___S1 (T : Tx K mg) : DfC P w K mg base "Loads" (gA K "Loads") 3 1 [] (fun (vs zs : List V) => vs) (sp_Loads___init__ K) := by
  obtain ⟨fd, F⟩ := T.dm_Loads___init__
  have I := initOk (P := P) (w := w) (mg := mg) (base := base) (C := gA K "Loads") (k := 2) (out := fun p => fs_Loads K (f_Loads___init__ p)) F sc_Loads___init__ rfl (by decide) (ms := [.now]) (args := fun p : (List (Option Int)) => [(eL (eO eI)) p]) (pre := fun p => ok_Loads___init__ p) (fun f cdv A outer s H E hr => ⟨rd_Loads___init__ K (sp_check_entries K), tm_Loads___init__ T (df_check_entries T) hr, fun a0 a hp => wk_Loads___init__ (P := P) (w := w) T.cf a0 a hp⟩)
  have hb := kbn_all (n := 2) (ps := ["self", "entries"]) (F.bindsN fun _ _ _ _ _ _ us hl => match us, hl with | [_, _], _ => rfl) rfl
  exact ⟨CX0, _, fd, _, _, I, T.mk_Loads, T.g_Loads, hb, fun X _ _ => pass0⟩
theorem df_Loads___init___2_S1 (T : Tx K mg) : DfC P w K mg base "Loads" (gA K "Loads") 3 1 [] (fun (vs zs : List V) => vs) (sp_Loads___init___2 K) := by
  obtain ⟨fd, F⟩ := T.dm_Loads___init__
  have I := initOk (P := P) (w := w) (mg := mg) (base := base) (C := gA K "Loads") (k := 2) (out := fun p => fs_Loads K (f_Loads___init___2 p)) F sc_Loads___init__ rfl (by decide) (ms := [.dat]) (args := fun p : (List (Option Int)) => [(eT (eO eI)) p]) (pre := fun p => ok_Loads___init___2 p) (fun f cdv A outer s H E hr => ⟨rd_Loads___init___2 K (sp_check_entries K), tm_Loads___init___2 T (df_check_entries T) hr, fun a0 a hp => wk_Loads___init___2 (P := P) (w := w) T.cf a0 a hp⟩)
  have hb := kbn_all (n := 2) (ps := ["self", "entries"]) (F.bindsN fun _ _ _ _ _ _ us hl => match us, hl with | [_, _], _ => rfl) rfl
  exact ⟨CX0, _, fd, _, _, I, T.mk_Loads, T.g_Loads, hb, fun X _ _ => pass0⟩
theorem df_Loads___getitem__ (T : Tx K mg) : DfM P w K mg base (mA K "Loads" "__getitem__") 3 [] (sp_Loads___getitem__ K) :=
  T.dm_Loads___getitem__.df sc_Loads___getitem__ rfl (by decide) (fun _ _ _ _ _ _ us hl => match us, hl with | [_, _], _ => rfl) fun f cdv A outer s H E hr => ⟨rd_Loads___getitem__ K , tm_Loads___getitem__ T  hr, fun a hp => wk_Loads___getitem__ (P := P) (w := w) T.cf a.1 a.2 hp⟩
theorem df_added (T : Tx K mg) : Df P w K mg base "added" 1 [] (sp_added K) :=
  T.d_added.df sc_added rfl (by decide) (fun _ _ _ _ _ _ us hl => match us, hl with | [_, _], _ => rfl) fun f cdv A outer s H E hr => ⟨rd_added K , tm_added T  hr, fun a hp => wk_added (P := P) (w := w) T.cf a.1 a.2 hp⟩
theorem df_lesser (T : Tx K mg) : Df P w K mg base "lesser" 2 [] (sp_lesser K) :=
  T.d_lesser.df sc_lesser rfl (by decide) (fun _ _ _ _ _ _ us hl => match us, hl with | [_, _], _ => rfl) fun f cdv A outer s H E hr => ⟨rd_lesser K (sp_is_greater K), tm_lesser T (df_is_greater T) hr, fun a hp => wk_lesser (P := P) (w := w) T.cf a.1 a.2 hp⟩
theorem df_least_sum (T : Tx K mg) : Df P w K mg base "least_sum" 5 [] (sp_least_sum K) :=
  T.d_least_sum.df sc_least_sum rfl (by decide) (fun _ _ _ _ _ _ us hl => match us, hl with | [_, _, _], _ => rfl) fun f cdv A outer s H E hr => ⟨rd_least_sum K (sp_lesser K) (sp_added K) (sp_Loads___getitem__ K), tm_least_sum T (df_lesser T) (df_added T) (df_Loads___getitem__ T) hr, fun a hp => wk_least_sum (P := P) (w := w) T.cf a.1 a.2.1 a.2.2 hp⟩
theorem df_Loads___add__ (T : Tx K mg) : DfM P w K mg base (mA K "Loads" "__add__") 6 [] (sp_Loads___add__ K) :=
  T.dm_Loads___add__.df sc_Loads___add__ rfl (by decide) (fun _ _ _ _ _ _ us hl => match us, hl with | [_, _], _ => rfl) fun f cdv A outer s H E hr => ⟨rd_Loads___add__ K (sp_least_sum K) (sp_Loads___init__ K), tm_Loads___add__ T (df_least_sum T) (df_Loads___init___S1 T) hr, fun a hp => wk_Loads___add__ (P := P) (w := w) T.cf a.1 a.2 hp⟩
theorem df_l_splits (T : Tx K mg) : Df P w K mg base "_law_splits" 1 [] (sp_l_splits K) :=
  T.d_l_splits.dfO sc_l_splits rfl (by decide) (fun _ _ _ _ _ _ us hl => match us, hl with | [_, _], _ => rfl) fun f cdv A outer s H E hr => ⟨rd_l_splits K , tm_l_splits T  hr, fun a hp => wk_l_splits (P := P) (w := w) T.cf a.1 a.2 hp⟩
theorem df_l_parted (T : Tx K mg) : Df P w K mg base "_law_parted" 2 [] (sp_l_parted K) :=
  T.d_l_parted.df sc_l_parted rfl (by decide) (fun _ _ _ _ _ _ us hl => match us, hl with | [_, _], _ => rfl) fun f cdv A outer s H E hr => ⟨rd_l_parted K (sp_l_splits K), tm_l_parted T (df_l_splits T) hr, fun a hp => wk_l_parted (P := P) (w := w) T.cf a.1 a.2 hp⟩
theorem df_l_sum_due (T : Tx K mg) : Df P w K mg base "_law_sum_due" 3 [] (sp_l_sum_due K) :=
  T.d_l_sum_due.dfO sc_l_sum_due rfl (by decide) (fun _ _ _ _ _ _ us hl => match us, hl with | [_], _ => rfl) fun f cdv A outer s H E hr => ⟨rd_l_sum_due K (sp_l_parted K), tm_l_sum_due T (df_l_parted T) hr, fun a hp => wk_l_sum_due (P := P) (w := w) T.cf a hp⟩
theorem df_l_is_sum (T : Tx K mg) : Df P w K mg base "_law_is_sum" 8 [] (sp_l_is_sum K) :=
  T.d_l_is_sum.df sc_l_is_sum rfl (by decide) (fun _ _ _ _ _ _ us hl => match us, hl with | [_, _], _ => rfl) fun f cdv A outer s H E hr => ⟨rd_l_is_sum K (spSame K 6) (sp_l_sum_due K), tm_l_is_sum T (df_same T 6) (df_l_sum_due T) (df_it_Loads T) hr, fun a hp => wk_l_is_sum (P := P) (w := w) T.cf a.1 a.2 hp⟩
theorem df_Loads___eq__ (T : Tx K mg) : DfM P w K mg base (mA K "Loads" "__eq__") 1 [] (sp_Loads___eq__ K) :=
  T.dm_Loads___eq__.df sc_Loads___eq__ rfl (by decide) (fun _ _ _ _ _ _ us hl => match us, hl with | [_, _], _ => rfl) fun f cdv A outer s H E hr => ⟨rd_Loads___eq__ K , tm_Loads___eq__ T  hr, fun a hp => wk_Loads___eq__ (P := P) (w := w) T.cf a.1 a.2⟩
theorem df_Loads_none (T : Tx K mg) : DfM P w K mg base (qA K "Loads" "none") 5 [] (sp_Loads_none K) :=
  T.dm_Loads_none.df sc_Loads_none rfl (by decide) (fun _ _ _ _ _ _ us hl => match us, hl with | [], _ => rfl) fun f cdv A outer s H E hr => ⟨rd_Loads_none K (sp_Loads___init__ K), tm_Loads_none T (df_Loads___init___S1 T) hr, fun a hp => wk_Loads_none (P := P) (w := w) T.cf  hp⟩
theorem df_Loads_times (T : Tx K mg) : DfM P w K mg base (mA K "Loads" "times") 7 [] (sp_Loads_times K) :=
  T.dm_Loads_times.df sc_Loads_times rfl (by decide) (fun _ _ _ _ _ _ us hl => match us, hl with | [_, _], _ => rfl) fun f cdv A outer s H E hr => ⟨rd_Loads_times K (sp_Loads_none K) (sp_Loads___add__ K), tm_Loads_times T (df_Loads_none T) (df_Loads___add__ T) hr, fun a hp => wk_Loads_times (P := P) (w := w) T.cf a.1 a.2 hp⟩
theorem body_law (T : Tx K mg) (hlaw : ∀ ps : List Int, ps.length = 150 → Unit1000 ps → ok_law ps ∧ f_law ps = true) : BodyR P w K mg base "law" s_law N_law 8 [.now] (fun ns : List Int => [.rol (ns.map D.int)]) (fun ns => ns.length ≤ 63) (fun _ d => d = .bl true) := by
  intro f' cdv A outer s H E hr
  refine ⟨rd_law K (spPool K) (sp_l_entries K) (sp_Loads___init__ K) (sp_Loads___init___2 K) (sp_Loads___add__ K) (sp_l_is_sum K) (spSame K 6) (sp_Loads___eq__ K) (sp_Loads_none K) (sp_l_number K) (sp_Loads_times K), tm_law T (df_pool T) (df_l_entries T) (df_Loads___init___S1 T) (df_Loads___init___2_S1 T) (df_Loads___add__ T) (df_l_is_sum T) (df_same T 6) (df_Loads___eq__ T) (df_it_Loads T) (df_Loads_none T) (df_l_number T) (df_Loads_times T) hr, ?_⟩
  intro ns _
  unfold rd_law
  show Run K (lift E) _ (.bor (.rol (ns.map D.int)) :: List.replicate 14 .no) _
  refine run_seq (run_asgP (evp_call (out := fun (a : List Int × Nat) d => ∃ ms : List Int, d = rowD ms ∧ ms.length = a.2 ∧ Unit1000 ms) (ns, 150) (by show 150 ≤ 100000; decide) (ea_cons (ev_bor rfl).nw (ea_cons ev_int ea_nil))) ?_)
  rintro _ ⟨ps, rfl, hps, hu⟩
  have hl := hlaw ps hps hu
  have h := wk_law (K := K) (E := lift E) (P := P) (w := w) ns T.cf ps hl.1
  rw [hl.2] at h
  exact Run.drop [0] h
end
end Fh

set_option Elab.async false
set_option linter.all false
set_option maxRecDepth 100000
set_option maxHeartbeats 4000000
set_option synthInstance.maxHeartbeats 400000
set_option synthInstance.maxSize 4000
namespace Fh
open PySem PySem.Spec PyProof.Rows L2
/-! ### least numbers -/
def Le2 : Option Int → Option Int → Prop
  | _, none => True
  | none, some _ => False
  | some a, some b => a ≤ b
theorem gr_iff (x y : Option Int) : f_is_greater x y = true ↔ ¬ Le2 x y := by
  cases y <;> cases x <;> simp [f_is_greater, Le2, unO]
  exact decide_eq_true_iff
theorem gr_false (x y : Option Int) : f_is_greater x y = false ↔ Le2 x y := by
  rw [← Bool.not_eq_true, gr_iff, Classical.not_not]
theorem gr_ok (x y : Option Int) : ok_is_greater x y := by
  cases x <;> cases y <;> simp [ok_is_greater]
theorem mem_rangeK {lo hi j : Int} (h : j ∈ rangeI lo hi) : lo ≤ j ∧ j < hi := by
  unfold rangeI at h
  obtain ⟨i, hi, rfl⟩ := List.mem_map.mp h
  have := List.mem_range.mp hi
  omega
theorem mem_rangeI {lo hi x : Int} : x ∈ rangeI lo hi ↔ lo ≤ x ∧ x < hi := by
  refine ⟨mem_rangeK, fun ⟨h0, h1⟩ => ?_⟩
  unfold rangeI
  exact List.mem_map.mpr ⟨(x - lo).toNat, List.mem_range.mpr (by omega), by omega⟩
def omin : Option Int → Option Int → Option Int
  | a, none => a
  | none, some b => some b
  | some a, some b => if b < a then some b else some a
def oadd : Option Int → Option Int → Option Int
  | some a, some b => some (a + b)
  | _, _ => none
theorem oadd_some {x y : Option Int} {v : Int} : oadd x y = some v ↔ ∃ a b, x = some a ∧ y = some b ∧ v = a + b := by
  cases x <;> cases y <;> simp [oadd, eq_comm]
theorem oadd_assoc (x y z : Option Int) : oadd (oadd x y) z = oadd x (oadd y z) := by
  cases x <;> cases y <;> cases z <;> simp [oadd, Int.add_assoc]
theorem oadd_zero (x : Option Int) : oadd (some 0) x = x := by cases x <;> simp [oadd]
def MinOf (m : Option Int) (V : Int → Prop) : Prop := match m with
  | none => ∀ v, ¬ V v
  | some v => V v ∧ ∀ w, V w → v ≤ w
theorem MinOf.unique {m m' : Option Int} {V : Int → Prop} (h : MinOf m V) (h' : MinOf m' V) : m = m' := by
  cases m with
  | none =>
    cases m' with
    | none => rfl
    | some b => exact absurd h'.1 (h b)
  | some a =>
    cases m' with
    | none => exact absurd h.1 (h' a)
    | some b => exact congrArg some (Int.le_antisymm (h.2 b h'.1) (h'.2 a h.1))
theorem MinOf.into {m : Option Int} {V V' : Int → Prop} (h : MinOf m V) (h1 : ∀ v, V v → V' v) (h2 : ∀ w, V' w → ∃ v, V v ∧ v ≤ w) : MinOf m V' := by
  cases m with
  | none =>
    intro w hw
    obtain ⟨v, hv, _⟩ := h2 w hw
    exact h v hv
  | some a =>
    refine ⟨h1 a h.1, fun w hw => ?_⟩
    obtain ⟨v, hv, hl⟩ := h2 w hw
    exact Int.le_trans (h.2 v hv) hl
theorem MinOf.iff {m : Option Int} {V V' : Int → Prop} (h : MinOf m V) (h1 : ∀ v, V v ↔ V' v) : MinOf m V' := h.into (fun v => (h1 v).mp) fun w hw => ⟨w, (h1 w).mpr hw, Int.le_refl w⟩
theorem MinOf.att {m : Option Int} {V : Int → Prop} {v : Int} (h : MinOf m V) (e : m = some v) : V v := by subst e; exact h.1
theorem MinOf.le {m : Option Int} {V : Int → Prop} {w : Int} (h : MinOf m V) (hw : V w) : ∃ v, m = some v ∧ v ≤ w := by
  cases m with
  | none => exact absurd hw (h w)
  | some a => exact ⟨a, rfl, h.2 w hw⟩
theorem omin_min (m c : Option Int) : MinOf (omin m c) (fun v => m = some v ∨ c = some v) := by
  cases m with
  | none =>
    cases c with
    | none => intro v h; rcases h with h | h <;> cases h
    | some b => exact ⟨.inr rfl, fun w h => by rcases h with h | h <;> cases h; exact Int.le_refl _⟩
  | some a =>
    cases c with
    | none => exact ⟨.inl rfl, fun w h => by rcases h with h | h <;> cases h; exact Int.le_refl _⟩
    | some b =>
      show MinOf (if b < a then some b else some a) _
      split
      · exact ⟨.inr rfl, fun w h => by rcases h with h | h <;> cases h <;> omega⟩
      · exact ⟨.inl rfl, fun w h => by rcases h with h | h <;> cases h <;> omega⟩
theorem fold_min : ∀ (cs : List (Option Int)) (m : Option Int), MinOf (cs.foldl omin m) (fun v => m = some v ∨ some v ∈ cs)
  | [], m => by
    cases m with
    | none => intro v h; rcases h with h | h <;> cases h
    | some a => exact ⟨.inl rfl, fun w h => by rcases h with h | h <;> cases h; exact Int.le_refl _⟩
  | c :: cs, m => by
    refine (fold_min cs (omin m c)).into (fun v h => ?_) (fun w h => ?_)
    · rcases h with h | h
      · rcases (omin_min m c).att h with q | q
        · exact .inl q
        · exact .inr (q ▸ List.mem_cons_self ..)
      · exact .inr (List.mem_cons_of_mem _ h)
    · have key : ∀ w, (m = some w ∨ c = some w) → ∃ v, (omin m c = some v ∨ some v ∈ cs) ∧ v ≤ w := fun w hw => by
        obtain ⟨v, hv, hl⟩ := (omin_min m c).le hw
        exact ⟨v, .inl hv, hl⟩
      rcases h with h | h
      · exact key w (.inl h)
      · rcases List.mem_cons.mp h with q | q
        · exact key w (.inr q.symm)
        · exact ⟨w, .inr q, Int.le_refl _⟩
theorem fold_min0 (cs : List (Option Int)) : MinOf (cs.foldl omin none) (fun v => some v ∈ cs) :=
  (fold_min cs none).iff fun v => ⟨fun h => h.elim (fun q => nomatch q) id, .inr⟩
theorem lesser_eq (x y : Option Int) : f_lesser x y = omin x y := by
  unfold f_lesser
  cases y with
  | none => cases x <;> rfl
  | some b =>
    cases x with
    | none => rfl
    | some a =>
      by_cases h : b < a
      · rw [if_pos ((gr_iff _ _).mpr (by simp [Le2]; omega))]; simp [omin, h]
      · rw [if_neg (by rw [gr_iff, Classical.not_not]; simp [Le2]; omega)]; simp [omin, h]
theorem added_eq (x y : Option Int) : f_added x y = oadd x y := by
  cases x <;> cases y <;> simp [f_added, oadd, unO]
/-! ### entries -/
def Ent (l : List (Option Int)) (k : Int) : Option Int := if k = 0 then some 0 else getI l (k - 1)
theorem Ent0 (l : List (Option Int)) : Ent l 0 = some 0 := rfl
theorem getitem_eq {l : List (Option Int)} {k : Int} (h : 0 ≤ k ∧ k ≤ 4) : f_Loads___getitem__ ⟨l⟩ k = Ent l k := by
  have e1 : (decide ((0 : Int) ≤ k) && decide (k ≤ 4)) = true := by rw [decide_eq_true (by omega), decide_eq_true (by omega)]; rfl
  unfold f_Loads___getitem__ Ent
  rw [e1]
  by_cases h0 : k = 0
  · subst h0; rfl
  · rw [if_neg h0, decide_eq_false h0]; rfl
theorem getitem_ok {l : List (Option Int)} {k : Int} (hl : l.length = 4) (h : 0 ≤ k ∧ k ≤ 4) : ok_Loads___getitem__ ⟨l⟩ k := by
  have e1 : (decide ((0 : Int) ≤ k) && decide (k ≤ 4)) = true := by rw [decide_eq_true (by omega), decide_eq_true (by omega)]; rfl
  refine ⟨fun e => ?_, fun e => ⟨fun _ => trivial, fun e2 => ?_⟩⟩
  · rw [e1] at e; cases e
  · have := of_decide_eq_false e2
    show 0 ≤ k - 1 ∧ k - 1 < (l.length : Nat)
    omega
/-- entries that do not fall -/
structure Row (l : List (Option Int)) : Prop where
  len : l.length = 4
  up : ∀ k : Int, 0 ≤ k → k < 4 → Le2 (Ent l k) (Ent l (k + 1))
theorem row4 {l : List (Option Int)} (h : l.length = 4) : ∃ a b c d, l = [a, b, c, d] := by
  match l, h with
  | [a, b, c, d], _ => exact ⟨a, b, c, d, rfl⟩
theorem row_iff (a b c d : Option Int) : Row [a, b, c, d] ↔ (Le2 (some 0) a ∧ Le2 a b ∧ Le2 b c ∧ Le2 c d) := by
  constructor
  · intro h
    exact ⟨h.up 0 (by decide) (by decide), h.up 1 (by decide) (by decide), h.up 2 (by decide) (by decide), h.up 3 (by decide) (by decide)⟩
  · rintro ⟨h1, h2, h3, h4⟩
    refine ⟨rfl, fun k k0 k4 => ?_⟩
    have : k = 0 ∨ k = 1 ∨ k = 2 ∨ k = 3 := by omega
    rcases this with rfl | rfl | rfl | rfl
    · exact h1
    · exact h2
    · exact h3
    · exact h4
theorem chk_ok {l : List (Option Int)} (h : Row l) : ok_check_entries l := by
  obtain ⟨a, b, c, d, rfl⟩ := row4 h.len
  obtain ⟨h1, h2, h3, h4⟩ := (row_iff a b c d).mp h
  have s : ∀ x y : Option Int, Le2 x y → f_check_entries_L1 x y = y := fun x y h => by
    unfold f_check_entries_L1
    rw [(gr_false x y).mpr h]; rfl
  have o : ∀ x y : Option Int, Le2 x y → ok_check_entries_L1 x y := fun x y h => by
    refine ⟨gr_ok x y, fun e => ?_, fun _ => trivial⟩
    rw [(gr_false x y).mpr h] at e; cases e
  refine ⟨fun e => by simp at e, fun _ => ?_⟩
  refine ⟨o _ _ h1, ?_⟩
  rw [s _ _ h1]
  refine ⟨o _ _ h2, ?_⟩
  rw [s _ _ h2]
  refine ⟨o _ _ h3, ?_⟩
  rw [s _ _ h3]
  exact ⟨o _ _ h4, trivial⟩
theorem ent_list {l : List (Option Int)} (h : l.length = 4) : l = (rangeI 1 5).map (Ent l) := by
  obtain ⟨a, b, c, d, rfl⟩ := row4 h
  have r : rangeI 1 5 = [1, 2, 3, 4] := by decide
  rw [r]
  rfl
theorem foldl_cong {α β : Type} {f g : α → β → α} : ∀ (xs : List β) (s : α), (∀ s, ∀ x ∈ xs, f s x = g s x) → xs.foldl f s = xs.foldl g s
  | [], _, _ => rfl
  | x :: xs, s, h => by
    rw [List.foldl_cons, List.foldl_cons, h s x (List.mem_cons_self ..)]
    exact foldl_cong xs _ fun s y hy => h s y (List.mem_cons_of_mem _ hy)
/-! ### sums -/
def addL (a b : List (Option Int)) : List (Option Int) := (rangeI 1 5).map fun h => f_least_sum ⟨a⟩ ⟨b⟩ h
theorem add_eq (a b : List (Option Int)) : f_Loads___add__ ⟨a⟩ ⟨b⟩ = ⟨addL a b⟩ := rfl
theorem least_min {a b : List (Option Int)} {h : Int} (h0 : 0 ≤ h) (h4 : h ≤ 4) : MinOf (f_least_sum ⟨a⟩ ⟨b⟩ h) (fun v => ∃ k x y, 0 ≤ k ∧ k ≤ h ∧ Ent a k = some x ∧ Ent b (h - k) = some y ∧ v = x + y) := by
  have e : f_least_sum ⟨a⟩ ⟨b⟩ h = ((rangeI 0 (h + 1)).map fun k => oadd (Ent a k) (Ent b (h - k))).foldl omin none := by
    rw [List.foldl_map]
    show (rangeI 0 (h + 1)).foldl (f_least_sum_L1 ⟨a⟩ ⟨b⟩ h) none = _
    refine foldl_cong _ _ fun s k hk => ?_
    have := mem_rangeK hk
    show f_lesser s (f_added (f_Loads___getitem__ ⟨a⟩ k) (f_Loads___getitem__ ⟨b⟩ (h - k))) = _
    rw [lesser_eq, added_eq, getitem_eq (by omega), getitem_eq (by omega)]
  rw [e]
  refine (fold_min0 _).iff fun v => ?_
  rw [List.mem_map]
  constructor
  · rintro ⟨k, hk, e⟩
    have := mem_rangeK hk
    obtain ⟨x, y, hx, hy, hv⟩ := oadd_some.mp e
    exact ⟨k, x, y, by omega, by omega, hx, hy, hv⟩
  · rintro ⟨k, x, y, k0, k1, hx, hy, hv⟩
    exact ⟨k, mem_rangeI.mpr ⟨k0, by omega⟩, oadd_some.mpr ⟨x, y, hx, hy, hv⟩⟩
theorem ent_add {a b : List (Option Int)} {h : Int} (h0 : 0 ≤ h) (h4 : h ≤ 4) : Ent (addL a b) h = f_least_sum ⟨a⟩ ⟨b⟩ h := by
  have r : rangeI 1 5 = [1, 2, 3, 4] := by decide
  have : h = 0 ∨ h = 1 ∨ h = 2 ∨ h = 3 ∨ h = 4 := by omega
  unfold addL
  rw [r]
  rcases this with rfl | rfl | rfl | rfl | rfl
  · have m := least_min (a := a) (b := b) (h := 0) (by decide) (by decide)
    obtain ⟨v, e, hv⟩ := m.le ⟨0, 0, 0, by decide, by decide, rfl, rfl, rfl⟩
    obtain ⟨k, x, y, k0, k1, hx, hy, hs⟩ := m.att e
    have : k = 0 := by omega
    subst this
    cases hx; cases hy
    rw [e, hs]; rfl
  · rfl
  · rfl
  · rfl
  · rfl
theorem add_min {a b : List (Option Int)} {h : Int} (h0 : 0 ≤ h) (h4 : h ≤ 4) : MinOf (Ent (addL a b) h) (fun v => ∃ k x y, 0 ≤ k ∧ k ≤ h ∧ Ent a k = some x ∧ Ent b (h - k) = some y ∧ v = x + y) := by
  rw [ent_add h0 h4]; exact least_min h0 h4
theorem Le2.get {x y : Option Int} {w : Int} (h : Le2 x y) (e : y = some w) : ∃ v, x = some v ∧ v ≤ w := by
  subst e
  cases x with
  | none => exact h.elim
  | some a => exact ⟨a, rfl, h⟩
theorem Le2.of {x y : Option Int} (h : ∀ w, y = some w → ∃ v, x = some v ∧ v ≤ w) : Le2 x y := by
  cases y with
  | none => cases x <;> trivial
  | some w =>
    obtain ⟨v, rfl, hl⟩ := h w rfl
    exact hl
theorem add_row {a b : List (Option Int)} (ha : Row a) (hb : Row b) : Row (addL a b) := by
  refine ⟨by unfold addL; rw [List.length_map, rangeI_len]; rfl, fun h h0 h4 => Le2.of fun w e => ?_⟩
  obtain ⟨k, x, y, k0, k1, hx, hy, hs⟩ := (add_min (a := a) (b := b) (h := h + 1) (by omega) (by omega)).att e
  have m := add_min (a := a) (b := b) (h := h) h0 (by omega)
  by_cases kz : k = 0
  · subst kz
    obtain ⟨y', hy', hl⟩ := (hb.up h h0 h4).get (by rw [show h + 1 - 0 = h + 1 by omega] at hy; exact hy)
    obtain ⟨v, hv, hl2⟩ := m.le ⟨0, x, y', by omega, h0, hx, by rw [Int.sub_zero]; exact hy', rfl⟩
    exact ⟨v, hv, by omega⟩
  · obtain ⟨x', hx', hl⟩ := (ha.up (k - 1) (by omega) (by omega)).get (by rw [show k - 1 + 1 = k by omega]; exact hx)
    obtain ⟨v, hv, hl2⟩ := m.le ⟨k - 1, x', y, by omega, by omega, hx', by rw [show h - (k - 1) = h + 1 - k by omega]; exact hy, rfl⟩
    exact ⟨v, hv, by omega⟩
end Fh

set_option Elab.async false
set_option linter.all false
set_option maxRecDepth 100000
set_option maxHeartbeats 4000000
set_option synthInstance.maxHeartbeats 400000
set_option synthInstance.maxSize 4000
namespace Fh
open PySem PySem.Spec PyProof.Rows L2
/-! ### the sums of several rows -/
def Val : List (List (Option Int)) → Int → Int → Prop
  | [], h, v => h = 0 ∧ v = 0
  | r :: rs, h, v => ∃ k a b, 0 ≤ k ∧ k ≤ h ∧ Ent r k = some a ∧ Val rs (h - k) b ∧ v = a + b
theorem Val.nn : ∀ {rs : List (List (Option Int))} {h v : Int}, Val rs h v → 0 ≤ h
  | [], _, _, h => by rw [h.1]; exact Int.le_refl 0
  | r :: rs, _, _, ⟨k, a, b, h0, h1, _, _, _⟩ => by omega
theorem Val.app : ∀ {rs qs : List (List (Option Int))} {h v : Int}, Val (rs ++ qs) h v ↔ ∃ k a b, 0 ≤ k ∧ k ≤ h ∧ Val rs k a ∧ Val qs (h - k) b ∧ v = a + b
  | [], qs, h, v => by
    constructor
    · intro hv
      exact ⟨0, 0, v, by decide, hv.nn, ⟨rfl, rfl⟩, by rw [Int.sub_zero]; exact hv, by omega⟩
    · rintro ⟨k, a, b, _, _, ⟨rfl, rfl⟩, hb, e⟩
      rw [Int.sub_zero] at hb
      rw [e, Int.zero_add]
      exact hb
  | r :: rs, qs, h, v => by
    constructor
    · rintro ⟨k, a, b, k0, k1, he, hv, e⟩
      obtain ⟨j, a', b', j0, j1, h1, h2, e2⟩ := Val.app.mp hv
      refine ⟨k + j, a + a', b', by omega, by omega, ⟨k, a, a', k0, by omega, he, ?_, rfl⟩, ?_, by omega⟩
      · rw [show k + j - k = j by omega]; exact h1
      · rw [show h - (k + j) = h - k - j by omega]; exact h2
    · rintro ⟨k, a, b, k0, k1, ⟨j, a', b', j0, j1, he, hv, e1⟩, hb, e⟩
      refine ⟨j, a', b' + b, j0, by omega, he, Val.app.mpr ⟨k - j, b', b, by omega, by omega, hv, ?_, rfl⟩, by omega⟩
      rw [show h - j - (k - j) = h - k by omega]; exact hb
theorem Val.comm {rs qs : List (List (Option Int))} {h v : Int} : Val (rs ++ qs) h v ↔ Val (qs ++ rs) h v := by
  have one : ∀ rs qs : List (List (Option Int)), Val (rs ++ qs) h v → Val (qs ++ rs) h v := fun rs qs hv => by
    obtain ⟨k, a, b, k0, k1, h1, h2, e⟩ := Val.app.mp hv
    exact Val.app.mpr ⟨h - k, b, a, by omega, by omega, h2, by rw [show h - (h - k) = k by omega]; exact h1, by omega⟩
  exact ⟨one _ _, one _ _⟩
def Rep (a : List (Option Int)) (rs : List (List (Option Int))) : Prop := ∀ h : Int, 0 ≤ h → h ≤ 4 → MinOf (Ent a h) (Val rs h)
theorem Rep.one (r : List (Option Int)) : Rep r [r] := fun h h0 h4 => by
  have e : ∀ v, (Ent r h = some v) ↔ Val [r] h v := fun v => by
    constructor
    · intro hv
      exact ⟨h, v, 0, h0, Int.le_refl h, hv, ⟨by omega, rfl⟩, by omega⟩
    · rintro ⟨k, a, b, k0, k1, hk, ⟨hz, rfl⟩, e⟩
      have : k = h := by omega
      subst this
      rw [hk, e, Int.add_zero]
  refine MinOf.iff (V := fun v => Ent r h = some v) ?_ e
  cases hr : Ent r h with
  | none => intro v hv; cases hv
  | some a => exact ⟨rfl, fun w hw => by cases hw; exact Int.le_refl _⟩
theorem Rep.nil : Rep [none, none, none, none] [] := fun h h0 h4 => by
  have : h = 0 ∨ h = 1 ∨ h = 2 ∨ h = 3 ∨ h = 4 := by omega
  rcases this with rfl | rfl | rfl | rfl | rfl
  · exact ⟨⟨rfl, rfl⟩, fun w hw => by rw [hw.2]; exact Int.le_refl 0⟩
  · exact fun v hv => by cases hv.1
  · exact fun v hv => by cases hv.1
  · exact fun v hv => by cases hv.1
  · exact fun v hv => by cases hv.1
theorem Rep.add {a b : List (Option Int)} {rs qs : List (List (Option Int))} (ha : Rep a rs) (hb : Rep b qs) : Rep (addL a b) (rs ++ qs) := fun h h0 h4 => by
  refine (add_min h0 h4).into (fun v => ?_) (fun w hw => ?_)
  · rintro ⟨k, x, y, k0, k1, hx, hy, hs⟩
    exact Val.app.mpr ⟨k, x, y, k0, k1, (ha k k0 (by omega)).att hx, (hb (h - k) (by omega) (by omega)).att hy, hs⟩
  · obtain ⟨k, x, y, k0, k1, hx, hy, hs⟩ := Val.app.mp hw
    obtain ⟨x', ex, lx⟩ := (ha k k0 (by omega)).le hx
    obtain ⟨y', ey, ly⟩ := (hb (h - k) (by omega) (by omega)).le hy
    exact ⟨x' + y', ⟨k, x', y', k0, k1, ex, ey, rfl⟩, by omega⟩
theorem Rep.same {a b : List (Option Int)} {rs qs : List (List (Option Int))} (ha : Rep a rs) (hb : Rep b qs) (la : a.length = 4) (lb : b.length = 4) (he : ∀ h v, 0 ≤ h → h ≤ 4 → (Val rs h v ↔ Val qs h v)) : a = b := by
  rw [ent_list la, ent_list lb]
  refine List.map_congr_left fun h hm => ?_
  have := mem_rangeK hm
  exact ((ha h (by omega) (by omega)).iff fun v => he h v (by omega) (by omega)).unique (hb h (by omega) (by omega))
/-- more rows than hands -/
theorem Val.more {r : List (Option Int)} : ∀ {n : Nat} {h v : Int}, h ≤ n → Val (List.replicate (n + 1) r) h v → Val (List.replicate n r) h v
  | 0, h, v, hn, hv => by
    obtain ⟨k, a, b, k0, k1, he, hz, e⟩ := hv
    have h0 : 0 ≤ h := by omega
    have : h = 0 := by omega
    subst this
    have : k = 0 := by omega
    subst this
    cases he
    obtain ⟨_, rfl⟩ := hz
    exact ⟨rfl, by omega⟩
  | n + 1, h, v, hn, hv => by
    obtain ⟨k, a, b, k0, k1, he, hz, e⟩ := hv
    by_cases kz : k = 0
    · subst kz
      cases he
      rw [Int.sub_zero] at hz
      rw [e, Int.zero_add]
      exact hz
    · exact ⟨k, a, b, k0, k1, he, Val.more (by omega) hz, e⟩
theorem Val.less {r : List (Option Int)} {rs : List (List (Option Int))} {h v : Int} (hv : Val rs h v) : Val (r :: rs) h v := ⟨0, 0, v, by decide, hv.nn, rfl, by rw [Int.sub_zero]; exact hv, by omega⟩
theorem Val.rep {r : List (Option Int)} {n : Nat} {h v : Int} (h4 : h ≤ 4) : Val (List.replicate (4 + n) r) h v ↔ Val (List.replicate 4 r) h v := by
  induction n with
  | zero => exact Iff.rfl
  | succ n ih =>
    rw [← ih]
    constructor
    · intro hv
      exact Val.more (n := 4 + n) (by omega) hv
    · intro hv
      exact Val.less hv
/-! ### splits -/
def T0 : List (List (Option Int)) → List Int → Option Int
  | r :: rs, k :: ks => oadd (Ent r k) (T0 rs ks)
  | _, _ => some 0
theorem val_split : ∀ {rs : List (List (Option Int))} {h v : Int}, Val rs h v ↔ ∃ s : List Int, s.length = rs.length ∧ (∀ x ∈ s, 0 ≤ x) ∧ s.sum = h ∧ T0 rs s = some v
  | [], h, v => by
    constructor
    · rintro ⟨rfl, rfl⟩
      exact ⟨[], rfl, fun _ h => (List.not_mem_nil h).elim, rfl, rfl⟩
    · rintro ⟨s, hl, _, hs, ht⟩
      match s, hl with
      | [], _ => exact ⟨hs.symm, by cases ht; rfl⟩
  | r :: rs, h, v => by
    constructor
    · rintro ⟨k, a, b, k0, k1, he, hv, e⟩
      obtain ⟨s, hl, hp, hs, ht⟩ := val_split.mp hv
      refine ⟨k :: s, by rw [List.length_cons, hl]; rfl, fun x hx => ?_, by rw [List.sum_cons, hs]; omega, oadd_some.mpr ⟨a, b, he, ht, e⟩⟩
      rcases List.mem_cons.mp hx with rfl | hx
      · exact k0
      · exact hp x hx
    · rintro ⟨s, hl, hp, hs, ht⟩
      match s, hl with
      | k :: s, hl =>
        obtain ⟨a, b, ea, eb, e⟩ := oadd_some.mp ht
        have k0 := hp k (List.mem_cons_self ..)
        have hp2 : ∀ x ∈ s, 0 ≤ x := fun x hx => hp x (List.mem_cons_of_mem _ hx)
        have sn : 0 ≤ s.sum := by
          clear hl ht ea eb hs hp
          induction s with
          | nil => exact Int.le_refl 0
          | cons y ys ih =>
            rw [List.sum_cons]
            have := hp2 y (List.mem_cons_self ..)
            have := ih fun x hx => hp2 x (List.mem_cons_of_mem _ hx)
            omega
        rw [List.sum_cons] at hs
        exact ⟨k, a, b, k0, by omega, ea, val_split.mpr ⟨s, Nat.succ.inj hl, hp2, by omega, eb⟩, e⟩
end Fh

set_option Elab.async false
set_option linter.all false
set_option maxRecDepth 100000
set_option maxHeartbeats 4000000
set_option synthInstance.maxHeartbeats 400000
set_option synthInstance.maxSize 4000
namespace Fh
open PySem PySem.Spec PyProof.Rows L2
/-! ### the splits that the law draws up -/
def nxt (h : Int) (found : List (List Int)) : List (List Int) := found.flatMap fun s => (rangeI 0 (h - s.sum + 1)).map fun x => s ++ [x]
theorem l3_fold (s : List Int) : ∀ (xs : List Int) (l : List (List Int)), xs.foldl (f_l_splits_L3 s) l = l ++ xs.map fun x => s ++ [x]
  | [], l => by rw [List.map_nil, List.append_nil]; rfl
  | x :: xs, l => by
    show xs.foldl (f_l_splits_L3 s) (l ++ [s ++ [x]]) = _
    rw [l3_fold s xs, List.append_assoc]; rfl
theorem l2_fold (h : Int) : ∀ (found l : List (List Int)), found.foldl (f_l_splits_L2 h) l = l ++ nxt h found
  | [], l => by rw [show nxt h [] = [] from rfl, List.append_nil]; rfl
  | s :: found, l => by
    show found.foldl (f_l_splits_L2 h) ((rangeI 0 (h - s.sum + 1)).foldl (f_l_splits_L3 s) l) = _
    rw [l3_fold, l2_fold h found, List.append_assoc]
    rfl
theorem l1_eq (h : Int) (found : List (List Int)) (k : Int) : f_l_splits_L1 h found k = nxt h found := by
  show found.foldl (f_l_splits_L2 h) [] = _
  rw [l2_fold, List.nil_append]
theorem sum_nn {s : List Int} (hs : ∀ x ∈ s, 0 ≤ x) : 0 ≤ s.sum := by
  induction s with
  | nil => exact Int.le_refl 0
  | cons y ys ih =>
    rw [List.sum_cons]
    have := hs y (List.mem_cons_self ..)
    have := ih fun x hx => hs x (List.mem_cons_of_mem _ hx)
    omega
theorem le_sum {s : List Int} (hs : ∀ x ∈ s, 0 ≤ x) {x : Int} (hx : x ∈ s) : x ≤ s.sum := by
  induction s with
  | nil => exact (List.not_mem_nil hx).elim
  | cons y ys ih =>
    rw [List.sum_cons]
    have h1 := hs y (List.mem_cons_self ..)
    have h2 := sum_nn fun x hx => hs x (List.mem_cons_of_mem _ hx)
    rcases List.mem_cons.mp hx with rfl | hx
    · omega
    · have := ih (fun x hx => hs x (List.mem_cons_of_mem _ hx)) hx
      omega
theorem sum_snoc (s : List Int) (x : Int) : (s ++ [x]).sum = s.sum + x := by
  rw [List.sum_append]; simp
theorem nxt_mem {h : Int} {found : List (List Int)} {k : Nat} (hf : ∀ s, s ∈ found ↔ (s.length = k ∧ (∀ x ∈ s, 0 ≤ x) ∧ s.sum ≤ h)) : ∀ s, s ∈ nxt h found ↔ (s.length = k + 1 ∧ (∀ x ∈ s, 0 ≤ x) ∧ s.sum ≤ h) := fun s => by
  unfold nxt
  rw [List.mem_flatMap]
  constructor
  · rintro ⟨u, hu, hs⟩
    obtain ⟨x, hx, rfl⟩ := List.mem_map.mp hs
    obtain ⟨h1, h2, h3⟩ := (hf u).mp hu
    have := mem_rangeK hx
    refine ⟨by rw [List.length_append, h1]; rfl, fun y hy => ?_, by rw [sum_snoc]; omega⟩
    rcases List.mem_append.mp hy with hy | hy
    · exact h2 y hy
    · rw [List.mem_singleton.mp hy]; omega
  · rintro ⟨h1, h2, h3⟩
    rcases List.eq_nil_or_concat s with rfl | ⟨u, x, rfl⟩
    · cases h1
    · rw [List.concat_eq_append] at *
      rw [List.length_append, List.length_singleton] at h1
      rw [sum_snoc] at h3
      have hx : 0 ≤ x := h2 x (List.mem_append_right _ (List.mem_singleton.mpr rfl))
      have hu : ∀ y ∈ u, 0 ≤ y := fun y hy => h2 y (List.mem_append_left _ hy)
      exact ⟨u, (hf u).mpr ⟨by omega, hu, by omega⟩, List.mem_map.mpr ⟨x, mem_rangeI.mpr ⟨hx, by omega⟩, rfl⟩⟩
theorem flat_len {α β : Type} {f : α → List β} {c : Nat} : ∀ (l : List α), (∀ s ∈ l, (f s).length ≤ c) → (l.flatMap f).length ≤ c * l.length
  | [], _ => Nat.zero_le _
  | s :: l, h => by
    have h1 := flat_len (f := f) (c := c) l fun t ht => h t (List.mem_cons_of_mem _ ht)
    have h2 := h s (List.mem_cons_self ..)
    rw [List.flatMap_cons, List.length_append, List.length_cons, Nat.mul_succ]
    omega
theorem splits_mem {n : Nat} {h : Int} (h0 : 0 ≤ h) (s : List Int) : s ∈ f_l_splits (n : Int) h ↔ (s.length = n ∧ (∀ x ∈ s, 0 ≤ x) ∧ s.sum = h) := by
  have key := foldl_at (step := f_l_splits_L1 h) (s0 := [[]]) (xs := rangeI 0 (n : Int)) (fun k found => ∀ s, s ∈ found ↔ (s.length = k ∧ (∀ x ∈ s, 0 ≤ x) ∧ s.sum ≤ h)) (fun s => by
    rw [List.mem_singleton]
    constructor
    · rintro rfl
      exact ⟨rfl, fun _ h => (List.not_mem_nil h).elim, h0⟩
    · rintro ⟨h1, _, _⟩
      exact List.length_eq_zero_iff.mp h1) (fun k found x hx hI => by
    rw [l1_eq]
    exact nxt_mem hI)
  rw [rangeI_len] at key
  show s ∈ ((((rangeI 0 (n : Int)).foldl (f_l_splits_L1 h) [[]]).filter fun x => decide (x.sum = h)).map fun x => x) ↔ _
  rw [List.map_id', List.mem_filter, key, decide_eq_true_iff]
  have e : ((n : Int) - 0).toNat = n := by omega
  rw [e]
  constructor
  · rintro ⟨⟨h1, h2, _⟩, h3⟩
    exact ⟨h1, h2, h3⟩
  · rintro ⟨h1, h2, h3⟩
    exact ⟨⟨h1, h2, by omega⟩, h3⟩
theorem splits_ok {n h : Int} (hn : 0 ≤ n ∧ n ≤ 6) (hh : 0 ≤ h ∧ h ≤ 4) : ok_l_splits n h := by
  refine ⟨⟨by omega, by omega⟩, ?_⟩
  refine okS_inv (fun k found => (∀ s ∈ found, s.length = k ∧ (∀ x ∈ s, 0 ≤ x) ∧ s.sum ≤ h) ∧ found.length ≤ 5 ^ k) ⟨fun s hs => by rw [List.mem_singleton.mp hs]; exact ⟨rfl, fun _ h => (List.not_mem_nil h).elim, hh.1⟩, Nat.le_refl _⟩ (fun k found x hx hI => ⟨?_, ?_⟩) (fun _ _ => trivial)
  · have hk : k < 6 := by
      have := (List.getElem?_eq_some_iff.mp hx).1
      rw [rangeI_len] at this; omega
    have hf : found.length ≤ 3125 := Nat.le_trans hI.2 (Nat.le_trans (Nat.pow_le_pow_right (by decide) (show k ≤ 5 by omega)) (by decide))
    refine okS_inv (fun j (l : List (List Int)) => l.length ≤ 5 * j) (Nat.zero_le _) (fun j l s hs hJ => ?_) (fun _ _ => trivial)
    have hj : j < found.length := (List.getElem?_eq_some_iff.mp hs).1
    obtain ⟨q1, q2, q3⟩ := hI.1 s (List.mem_of_getElem? hs)
    have sn := sum_nn q2
    refine ⟨⟨⟨by omega, by omega⟩, ?_⟩, ?_⟩
    · refine okS_inv (fun i (l : List (List Int)) => l.length ≤ 5 * j + i) hJ (fun i l y hy hK => ⟨⟨?_, ?_⟩, ?_⟩) (fun _ _ => trivial)
      · rw [q1, List.length_singleton, sizeLine_eq]; omega
      · have hi : i < (h - s.sum + 1 - 0).toNat := by
          have := (List.getElem?_eq_some_iff.mp hy).1
          rwa [rangeI_len] at this
        rw [sizeLine_eq]; omega
      · show (l ++ [s ++ [y]]).length ≤ _
        rw [List.length_append, List.length_singleton]; omega
    · show ((rangeI 0 (h - s.sum + 1)).foldl (f_l_splits_L3 s) l).length ≤ _
      rw [l3_fold, List.length_append, List.length_map, rangeI_len]; omega
  · rw [l1_eq]
    constructor
    · intro s hs
      unfold nxt at hs
      obtain ⟨u, hu, hs⟩ := List.mem_flatMap.mp hs
      obtain ⟨y, hy, rfl⟩ := List.mem_map.mp hs
      obtain ⟨h1, h2, h3⟩ := hI.1 u hu
      have := mem_rangeK hy
      refine ⟨by rw [List.length_append, h1]; rfl, fun z hz => ?_, by rw [sum_snoc]; omega⟩
      rcases List.mem_append.mp hz with hz | hz
      · exact h2 z hz
      · rw [List.mem_singleton.mp hz]; omega
    · have := flat_len (c := 5) (f := fun s : List Int => (rangeI 0 (h - s.sum + 1)).map fun x => s ++ [x]) found fun s hs => by
        obtain ⟨q1, q2, q3⟩ := hI.1 s hs
        have := sum_nn q2
        rw [List.length_map, rangeI_len]; omega
      have h2 := hI.2
      show (nxt h found).length ≤ _
      unfold nxt
      rw [Nat.pow_succ]
      omega
/-! ### the least parted sum -/
theorem range_succ (n : Nat) : rangeI 0 ((n + 1 : Nat) : Int) = 0 :: (rangeI 0 (n : Int)).map (· + 1) := by
  unfold rangeI
  rw [show (((n + 1 : Nat) : Int) - 0).toNat = n + 1 by omega, show ((n : Int) - 0).toNat = n by omega, List.range_succ_eq_map, List.map_cons, List.map_map, List.map_map]
  have e : (List.range n).map ((fun i : Nat => (0 : Int) + (i : Int)) ∘ Nat.succ) = (List.range n).map ((fun x : Int => x + 1) ∘ fun i : Nat => (0 : Int) + (i : Int)) := List.map_congr_left fun i _ => by
    show (0 : Int) + ((i + 1 : Nat) : Int) = 0 + (i : Int) + 1
    omega
  rw [e]
  rfl
theorem getI_cons {α : Type} [Inhabited α] (x : α) (xs : List α) {k : Int} (h : 0 ≤ k) : getI (x :: xs) (k + 1) = getI xs k := by
  unfold getI
  rw [show (k + 1).toNat = k.toNat + 1 by omega]
  rfl
theorem parted_L2 {rows : List (List (Option Int))} {s : List Int} {t : Option Int} {k : Int} (h : 0 ≤ getI s k) : f_l_parted_L2 rows s t k = oadd t (Ent (getI rows k) (getI s k)) := by
  have e : (if (decide ((0 : Int) < (getI s k))) = true then getI (getI rows k) ((getI s k) - (1 : Int)) else some 0) = Ent (getI rows k) (getI s k) := by
    unfold Ent
    by_cases hz : getI s k = 0
    · rw [if_pos hz, if_neg (by rw [decide_eq_false (by omega)]; exact Bool.false_ne_true)]
    · rw [if_neg hz, if_pos (decide_eq_true (by omega))]
  show (if ((t.isNone) || ((if (decide ((0 : Int) < (getI s k))) = true then getI (getI rows k) ((getI s k) - (1 : Int)) else some 0).isNone)) = true then none else some ((unO t) + (unO (if (decide ((0 : Int) < (getI s k))) = true then getI (getI rows k) ((getI s k) - (1 : Int)) else some 0)))) = _
  rw [e]
  cases t <;> cases Ent (getI rows k) (getI s k) <;> simp [oadd, unO]
theorem total_eq : ∀ (rows : List (List (Option Int))) (s : List Int) (t : Option Int), s.length = rows.length → (rangeI 0 (rows.length : Int)).foldl (fun t k => oadd t (Ent (getI rows k) (getI s k))) t = oadd t (T0 rows s)
  | [], [], t, _ => by
    show t = oadd t (some 0)
    cases t <;> simp [oadd]
  | r :: rs, k :: ks, t, hl => by
    have h2 : ks.length = rs.length := Nat.succ.inj hl
    rw [List.length_cons, range_succ, List.foldl_cons, List.foldl_map]
    have e : (rangeI 0 (rs.length : Int)).foldl (fun t j => oadd t (Ent (getI (r :: rs) (j + 1)) (getI (k :: ks) (j + 1)))) (oadd t (Ent r k)) = (rangeI 0 (rs.length : Int)).foldl (fun t j => oadd t (Ent (getI rs j) (getI ks j))) (oadd t (Ent r k)) := foldl_cong _ _ fun u j hj => by
      have := mem_rangeK hj
      rw [getI_cons _ _ this.1, getI_cons _ _ this.1]
    show (rangeI 0 (rs.length : Int)).foldl (fun t j => oadd t (Ent (getI (r :: rs) (j + 1)) (getI (k :: ks) (j + 1)))) (oadd t (Ent r k)) = _
    rw [e, total_eq rs ks _ h2, oadd_assoc]
    rfl
  | [], _ :: _, _, hl => by cases hl
  | _ :: _, [], _, hl => by cases hl
theorem getI_memK {α : Type} [Inhabited α] {l : List α} {k : Int} (h : 0 ≤ k ∧ k < (l.length : Nat)) : getI l k ∈ l := by
  unfold getI
  rw [List.getD_eq_getElem?_getD, List.getElem?_eq_getElem (by omega)]
  exact List.getElem_mem _
theorem parted_L1 {rows : List (List (Option Int))} {s : List Int} {b : Option Int} (hl : s.length = rows.length) (hs : ∀ x ∈ s, 0 ≤ x) : f_l_parted_L1 rows b s = omin b (T0 rows s) := by
  have e : (rangeI 0 (rows.length : Int)).foldl (f_l_parted_L2 rows s) (some 0) = T0 rows s := by
    rw [foldl_cong (g := fun t k => oadd t (Ent (getI rows k) (getI s k))) _ _ fun t k hk => parted_L2 (by
      have := mem_rangeK hk
      exact hs _ (getI_memK ⟨this.1, by omega⟩)), total_eq rows s _ hl, oadd_zero]
  unfold f_l_parted_L1 letO
  show (if ((((rangeI 0 (rows.length : Int)).foldl (f_l_parted_L2 rows s) (some 0)).isSome) && ((b.isNone) || (decide ((unO ((rangeI 0 (rows.length : Int)).foldl (f_l_parted_L2 rows s) (some 0))) < (unO b))))) = true then ((rangeI 0 (rows.length : Int)).foldl (f_l_parted_L2 rows s) (some 0)) else b) = _
  rw [e]
  cases T0 rows s with
  | none => cases b <;> rfl
  | some v =>
    cases b with
    | none => rfl
    | some a => by_cases h : v < a <;> simp [unO, omin, h]
theorem parted_min {rows : List (List (Option Int))} {h : Int} (h0 : 0 ≤ h) : MinOf (f_l_parted rows h) (Val rows h) := by
  have e : f_l_parted rows h = ((f_l_splits (rows.length : Int) h).map (T0 rows)).foldl omin none := by
    rw [List.foldl_map]
    show (f_l_splits (rows.length : Int) h).foldl (f_l_parted_L1 rows) none = _
    refine foldl_cong _ _ fun b s hs => ?_
    obtain ⟨h1, h2, h3⟩ := (splits_mem h0 s).mp hs
    exact parted_L1 h1 h2
  rw [e]
  refine (fold_min0 _).iff fun v => ?_
  rw [List.mem_map, val_split]
  constructor
  · rintro ⟨s, hs, e⟩
    obtain ⟨h1, h2, h3⟩ := (splits_mem h0 s).mp hs
    exact ⟨s, h1, h2, h3, e⟩
  · rintro ⟨s, h1, h2, h3, e⟩
    exact ⟨s, (splits_mem h0 s).mpr ⟨h1, h2, h3⟩, e⟩
theorem parted_ok {rows : List (List (Option Int))} {h : Int} (hr : ∀ r ∈ rows, r.length = 4) (hn : rows.length ≤ 6) (h0 : 0 ≤ h) (h4 : h ≤ 4) : ok_l_parted rows h := by
  refine ⟨splits_ok ⟨by omega, by omega⟩ ⟨h0, h4⟩, okS_all (fun _ => True) trivial (fun b s hs _ => ⟨?_, trivial⟩) (fun _ _ => trivial)⟩
  obtain ⟨h1, h2, h3⟩ := (splits_mem h0 s).mp hs
  refine okS_all (fun _ => True) trivial (fun t k hk _ => ⟨?_, trivial⟩) (fun t _ e1 e2 => ⟨e1, ?_⟩)
  · have hk2 := mem_rangeK hk
    have hb : 0 ≤ k ∧ k < (s.length : Nat) := ⟨hk2.1, by omega⟩
    have hb2 : 0 ≤ k ∧ k < (rows.length : Nat) := ⟨hk2.1, hk2.2⟩
    refine ⟨hb, ⟨fun e => ⟨hb2, hb, ?_⟩, fun _ => trivial⟩, fun _ => trivial, fun e => ?_⟩
    · have p := of_decide_eq_true e
      have := le_sum h2 (getI_memK hb)
      have := hr _ (getI_memK hb2)
      omega
    · rw [Bool.or_eq_false_iff] at e
      refine ⟨?_, ?_⟩
      · have := e.1
        cases t <;> simp at this ⊢
      · have := e.2
        generalize (if decide (0 < getI s k) = true then letO (getI (getI rows k) (getI s k - 1)) fun v_entry => v_entry else some 0) = q at this ⊢
        cases q <;> simp at this ⊢
  · cases b <;> simp at e2 ⊢
theorem sum_due_eq {a : List (Option Int)} {rows : List (List (Option Int))} (ha : Rep a rows) (la : a.length = 4) : f_l_sum_due rows = a := by
  rw [ent_list la]
  show (rangeI 1 5).map (fun x => f_l_parted rows x) = _
  refine List.map_congr_left fun h hm => ?_
  have := mem_rangeK hm
  exact (parted_min (by omega)).unique (ha h (by omega) (by omega))
theorem is_sum {a : List (Option Int)} {rows : List (List (Option Int))} (ha : Rep a rows) (la : a.length = 4) : f_l_is_sum ⟨a⟩ rows = true := by
  show (true && decide (a = f_l_sum_due rows)) = true
  rw [sum_due_eq ha la, decide_eq_true rfl]; rfl
theorem is_sum_ok {L : Ty_Loads} {rows : List (List (Option Int))} (hr : ∀ r ∈ rows, r.length = 4) (hn : rows.length ≤ 6) : ok_l_is_sum L rows := fun _ =>
  ⟨⟨by decide, by decide, by decide, by decide⟩, fun h hm => by
    have := mem_rangeK hm
    exact parted_ok hr hn (by omega) (by omega)⟩
end Fh

set_option Elab.async false
set_option linter.all false
set_option maxRecDepth 100000
set_option maxHeartbeats 4000000
set_option synthInstance.maxHeartbeats 400000
set_option synthInstance.maxSize 4000
namespace Fh
open PySem PySem.Spec PyProof.Rows L2
/-! ### the rows that are drawn -/
theorem pl {ps : List Int} (hu : Unit1000 ps) (k : Int) : 0 ≤ getI ps k := by
  unfold getI
  rw [List.getD_eq_getElem?_getD]
  cases h : ps[k.toNat]? with
  | none => exact Int.le_refl 0
  | some x => exact (hu x (List.mem_of_getElem? h)).1
theorem number_nn {ps : List Int} (hu : Unit1000 ps) (s : Int) : 0 ≤ f_l_number ps s := by
  refine foldl_inv (fun _ (t : Int) => 0 ≤ t) (rangeI 0 10) 0 0 (Int.le_refl 0) fun j t x hx hI => ?_
  show 0 ≤ t * 1000 + getI ps (s + x)
  have := pl hu (s + x)
  omega
theorem number_ok {ps : List Int} (h : ps.length = 150) {s : Int} (h0 : 0 ≤ s) (h1 : s + 9 < 150) : ok_l_number ps s := by
  refine okS_inv (fun _ _ => True) trivial (fun k t x hx _ => ⟨?_, trivial⟩) (fun _ _ => trivial)
  have := mem_rangeK (List.mem_of_getElem? hx)
  show 0 ≤ s + x ∧ s + x < (ps.length : Nat)
  omega
def rise (ps : List Int) (w r : Int) : Int := if (decide (getI ps 0 % 4 = 0) && decide (0 < getI ps (1 + 5 * w + r) % 5)) = true then f_l_number ps (20 + 40 * w + 10 * r) else getI ps (1 + 5 * w + r) % 5
theorem rise_nn {ps : List Int} (hu : Unit1000 ps) (w r : Int) : 0 ≤ rise ps w r := by
  unfold rise
  split
  · exact number_nn hu _
  · exact Int.emod_nonneg _ (by decide)
theorem ent_step (ps : List Int) (w r : Int) (s : List (Option Int) × Int) : f_l_entries_L1 ps w s r = (s.1 ++ [some (s.2 + rise ps w r)], s.2 + rise ps w r) := rfl
theorem sorted4 {p q r s : Int} (h0 : 0 ≤ p) (h1 : p ≤ q) (h2 : q ≤ r) (h3 : r ≤ s) {t : Int} (ht : 0 ≤ t ∧ t < 5) : Row ((rangeI 0 t).foldl f_l_entries_L2 [some p, some q, some r, some s]) ∧ okS f_l_entries_L2 ok_l_entries_L2 (fun _ => True) [some p, some q, some r, some s] (rangeI 0 t) := by
  have r0 : rangeI 0 0 = [] := by decide
  have r1 : rangeI 0 1 = [0] := by decide
  have r2 : rangeI 0 2 = [0, 1] := by decide
  have r3 : rangeI 0 3 = [0, 1, 2] := by decide
  have r4 : rangeI 0 4 = [0, 1, 2, 3] := by decide
  have ht2 : t = 0 ∨ t = 1 ∨ t = 2 ∨ t = 3 ∨ t = 4 := by omega
  rcases ht2 with rfl | rfl | rfl | rfl | rfl <;> simp [r0, r1, r2, r3, r4, f_l_entries_L2, letO, row_iff, Le2, okS, ok_l_entries_L2] <;> omega
theorem entries_row {ps : List Int} (h : ps.length = 150) (hu : Unit1000 ps) {w : Int} (hw : 0 ≤ w ∧ w < 3) : Row (f_l_entries ps w) ∧ ok_l_entries ps w := by
  have r4 : rangeI 0 4 = [0, 1, 2, 3] := by decide
  have n0 := rise_nn hu w 0
  have n1 := rise_nn hu w 1
  have n2 := rise_nn hu w 2
  have n3 := rise_nn hu w 3
  have e : (rangeI 0 4).foldl (f_l_entries_L1 ps w) ([], 0) = ([some (0 + rise ps w 0), some (0 + rise ps w 0 + rise ps w 1), some (0 + rise ps w 0 + rise ps w 1 + rise ps w 2), some (0 + rise ps w 0 + rise ps w 1 + rise ps w 2 + rise ps w 3)], 0 + rise ps w 0 + rise ps w 1 + rise ps w 2 + rise ps w 3) := by
    rw [r4]
    rfl
  have ht : 0 ≤ getI ps (5 + 5 * w) % 5 ∧ getI ps (5 + 5 * w) % 5 < 5 := ⟨Int.emod_nonneg _ (by decide), Int.emod_lt_of_pos _ (by decide)⟩
  obtain ⟨g1, g2⟩ := sorted4 (p := 0 + rise ps w 0) (q := 0 + rise ps w 0 + rise ps w 1) (r := 0 + rise ps w 0 + rise ps w 1 + rise ps w 2) (s := 0 + rise ps w 0 + rise ps w 1 + rise ps w 2 + rise ps w 3) (by omega) (by omega) (by omega) (by omega) ht
  constructor
  · show Row ((rangeI 0 (getI ps (5 + 5 * w) % 5)).foldl f_l_entries_L2 ((rangeI 0 4).foldl (f_l_entries_L1 ps w) ([], 0)).1)
    rw [e]; exact g1
  · refine okS_inv (fun j (s : List (Option Int) × Int) => s = (([0, 1, 2, 3] : List Int).take j).foldl (f_l_entries_L1 ps w) ([], 0) ∧ s.1.length = j) ⟨rfl, rfl⟩ (fun j s x hx hI => ⟨?_, ?_, ?_⟩) (fun s hI => ?_)
    · have := mem_rangeK (List.mem_of_getElem? hx)
      have hj : j < 4 := by
        rw [r4] at hx
        exact (List.getElem?_eq_some_iff.mp hx).1
      refine ⟨⟨by omega, by omega⟩, ⟨by decide, by omega⟩, ⟨fun _ => number_ok h (by omega) (by omega), fun _ => trivial⟩, ?_⟩
      show s.1.length < sizeLine
      rw [hI.2, sizeLine_eq]; omega
    · rw [r4] at hx
      rw [hI.1]
      match j, hx with
      | 0, hx => cases hx; rfl
      | 1, hx => cases hx; rfl
      | 2, hx => cases hx; rfl
      | 3, hx => cases hx; rfl
    · rw [ent_step]
      show (s.1 ++ [_]).length = j + 1
      rw [List.length_append, hI.2]; rfl
    · have es : s = (rangeI 0 4).foldl (f_l_entries_L1 ps w) ([], 0) := by rw [hI.1, r4]; rfl
      refine ⟨⟨by omega, by omega⟩, ⟨by omega, by omega⟩, ?_⟩
      rw [es, e]
      exact g2
/-! ### sums, times -/
theorem ini (l : List (Option Int)) : f_Loads___init__ l = ⟨l⟩ := rfl
theorem ini2 (l : List (Option Int)) : f_Loads___init___2 l = ⟨l⟩ := rfl
theorem non_eq : f_Loads_none = ⟨[none, none, none, none]⟩ := rfl
theorem non_row : Row [none, none, none, none] := (row_iff _ _ _ _).mpr ⟨trivial, trivial, trivial, trivial⟩
theorem non_ok : ok_Loads_none := chk_ok non_row
theorem least_ok {a b : List (Option Int)} (ha : a.length = 4) (hb : b.length = 4) {h : Int} (h0 : 0 ≤ h) (h4 : h ≤ 4) : ok_least_sum ⟨a⟩ ⟨b⟩ h := by
  refine ⟨⟨by omega, by omega⟩, okS_all (fun _ => True) trivial (fun s k hk _ => ⟨?_, trivial⟩) (fun _ _ => trivial)⟩
  have := mem_rangeK hk
  refine ⟨getitem_ok ha (by omega), getitem_ok hb (by omega), ⟨fun _ => trivial, fun e => ?_⟩, gr_ok _ _⟩
  rw [Bool.or_eq_false_iff] at e
  refine ⟨?_, ?_⟩
  · have := e.1
    generalize f_Loads___getitem__ ⟨a⟩ k = q at this ⊢
    cases q <;> simp at this ⊢
  · have := e.2
    generalize f_Loads___getitem__ ⟨b⟩ (h - k) = q at this ⊢
    cases q <;> simp at this ⊢
theorem add_ok {a b : List (Option Int)} (ha : Row a) (hb : Row b) : ok_Loads___add__ ⟨a⟩ ⟨b⟩ := by
  refine ⟨⟨by decide, by decide, by decide, by decide⟩, fun h hm => ?_, chk_ok (add_row ha hb)⟩
  have := mem_rangeK hm
  exact least_ok ha.len hb.len (by omega) (by omega)
theorem times_both {r : List (Option Int)} (hr : Row r) (m : Int) (hm : -(2 ^ 62) ≤ m) : (∃ a, f_Loads_times ⟨r⟩ m = ⟨a⟩ ∧ Row a ∧ Rep a (List.replicate (min m 4).toNat r)) ∧ ok_Loads_times ⟨r⟩ m := by
  have step : ∀ (k : Nat) (L : Ty_Loads) (x : Int), (∃ a, L = ⟨a⟩ ∧ Row a ∧ Rep a (List.replicate k r)) → ok_Loads_times_L1 ⟨r⟩ L x ∧ ∃ a, f_Loads_times_L1 ⟨r⟩ L x = ⟨a⟩ ∧ Row a ∧ Rep a (List.replicate (k + 1) r) := by
    rintro k _ x ⟨a, rfl, ra, pa⟩
    refine ⟨add_ok ra hr, addL a r, rfl, add_row ra hr, ?_⟩
    rw [List.replicate_succ']
    exact pa.add (Rep.one r)
  constructor
  · have := foldl_at (step := f_Loads_times_L1 ⟨r⟩) (s0 := f_Loads_none) (xs := rangeI 0 (min m 4)) (fun k (L : Ty_Loads) => ∃ a, L = ⟨a⟩ ∧ Row a ∧ Rep a (List.replicate k r)) ⟨_, non_eq, non_row, Rep.nil⟩ fun k L x hx hI => (step k L x hI).2
    rw [rangeI_len, Int.sub_zero] at this
    exact this
  · refine ⟨non_ok, ⟨by omega, by omega⟩, ?_⟩
    exact okS_inv (fun k (L : Ty_Loads) => ∃ a, L = ⟨a⟩ ∧ Row a ∧ Rep a (List.replicate k r)) ⟨_, non_eq, non_row, Rep.nil⟩ (fun k L x hx hI => step k L x hI) fun _ _ => trivial
theorem map_const {α : Type} (n : Int) (c : α) : ((rangeI 0 n).map fun _ => c) = List.replicate n.toNat c := by
  have e : (rangeI 0 n).map (Function.const Int c) = List.replicate (rangeI 0 n).length c := List.map_const
  rw [rangeI_len, Int.sub_zero] at e
  exact e
theorem Rep.many {a r : List (Option Int)} {n : Int} (h : Rep a (List.replicate (min n 4).toNat r)) : Rep a (List.replicate n.toNat r) := by
  by_cases hn : n ≤ 4
  · rw [show min n 4 = n by omega] at h; exact h
  · rw [show min n 4 = 4 by omega] at h
    intro k k0 k4
    rw [show n.toNat = 4 + (n - 4).toNat by omega]
    exact (h k k0 k4).iff fun v => (Val.rep k4).symm
theorem eq_eq (a b : List (Option Int)) : f_Loads___eq__ ⟨a⟩ ⟨b⟩ = decide (a = b) := by
  show (true && decide (a = b)) = _
  rw [Bool.true_and]
end Fh

set_option Elab.async false
set_option linter.all false
set_option maxRecDepth 100000
set_option maxHeartbeats 4000000
set_option synthInstance.maxHeartbeats 400000
set_option synthInstance.maxSize 4000
namespace Fh
open PySem PySem.Spec PyProof.Rows L2
def tailF (v_rows : List (List (Option Int))) (v_pool : List Int) : Bool :=

 letO (α := (List (Option Int))) (getI v_rows (0 : Int)) fun v_handed =>
 letO (α := Ty_Loads) (f_Loads___init__ v_handed) fun v_one =>
 letO (α := Ty_Loads) (f_Loads___init___2 (getI v_rows (1 : Int))) fun v_two =>
 letO (α := Ty_Loads) (f_Loads___init__ (getI v_rows (2 : Int))) fun v_three =>
 letO (α := (List (Option Int))) (v_handed.set (0 : Int).toNat none) fun v_handed =>
 letO (α := (List (Option Int))) (v_handed ++ [(some (0 : Int))]) fun v_handed =>
 letO (α := Ty_Loads) (f_Loads___add__ v_one v_two) fun v_pair =>
 letO (α := Ty_Loads) (f_Loads___add__ v_pair v_three) fun v_whole =>
 if ((!(f_l_is_sum v_pair ([(getI v_rows (0 : Int)), (getI v_rows (1 : Int))] : (List (List (Option Int)))))) || (!(f_l_is_sum v_whole v_rows))) = true then
 (false)
 else
 (if ((!(decide ((f_Loads___eq__ (f_Loads___add__ v_two v_one) v_pair) = true))) || (!(decide ((f_Loads___eq__ (f_Loads___add__ v_one (f_Loads___add__ v_two v_three)) v_whole) = true)))) = true then
 (false)
 else
 (if ((!(decide ((f_Loads___eq__ v_one v_two) = (decide ((getI v_rows (0 : Int)) = (getI v_rows (1 : Int))))))) || (!(decide ((f_Loads___eq__ v_three v_one) = (decide ((getI v_rows (2 : Int)) = (getI v_rows (0 : Int)))))))) = true then
 (false)
 else
 (letO (α := Ty_Loads) v_one fun v_grown =>
 letO (α := Ty_Loads) (f_Loads___add__ v_grown v_two) fun v_grown =>
 if ((!(f_l_is_sum v_grown ([(getI v_rows (0 : Int)), (getI v_rows (1 : Int))] : (List (List (Option Int)))))) || (!(decide (v_one.p_entries = (getI v_rows (0 : Int)))))) = true then
 (false)
 else
 (letO (α := Ty_Loads) f_Loads_none fun v_nothing =>
 if ((!(decide (v_nothing.p_entries = ([none, none, none, none] : (List (Option Int)))))) || (!(decide ((f_Loads___eq__ (f_Loads___add__ v_one v_nothing) v_one) = true)))) = true then
 (false)
 else
 (if ((!(decide ((f_Loads___add__ v_nothing v_two).p_entries = (getI v_rows (1 : Int))))) || (!(decide ((f_Loads___add__ v_nothing f_Loads_none).p_entries = v_nothing.p_entries)))) = true then
 (false)
 else
 (letO (α := Int) ((getI v_pool (16 : Int)) % (7 : Int)) fun v_many =>
 letO (α := Int) ((f_l_number v_pool (140 : Int)) + ((getI v_pool (17 : Int)) % (2 : Int))) fun v_great =>
 if (!(f_l_is_sum (f_Loads_times v_one v_many) ((rangeI 0 v_many).map fun (x35 : Int) => (getI v_rows (0 : Int))))) = true then
 (false)
 else
 (if (!(f_l_is_sum (f_Loads_times v_two v_great) ((rangeI 0 (min v_great (4 : Int))).map fun (x39 : Int) => (getI v_rows (1 : Int))))) = true then
 (false)
 else
 (if ((!(decide ((f_Loads___eq__ (f_Loads_times v_one (2 : Int)) (f_Loads___add__ v_one v_one)) = true))) || (!(decide ((f_Loads___eq__ (f_Loads_times v_three (1 : Int)) v_three) = true)))) = true then
 (false)
 else
 (if (!(f_l_is_sum (f_Loads_times v_one v_many) ((rangeI 0 v_many).map fun (x46 : Int) => (getI v_rows (0 : Int))))) = true then
 (false)
 else
 (if (!(f_l_is_sum (f_Loads___add__ v_one v_two) ([(getI v_rows (0 : Int)), (getI v_rows (1 : Int))] : (List (List (Option Int)))))) = true then
 (false)
 else
 ((decide (([v_one.p_entries, v_two.p_entries, v_three.p_entries] : (List (List (Option Int)))) = v_rows)))))))))))))
def okTail (v_rows : List (List (Option Int))) (v_pool : List Int) : Prop :=

 (0 ≤ (0 : Int) ∧ (0 : Int) < (v_rows.length : Nat)) ∧ (letO (α := (List (Option Int))) (getI v_rows (0 : Int)) fun v_handed =>
 (ok_Loads___init__ v_handed) ∧ (letO (α := Ty_Loads) (f_Loads___init__ v_handed) fun v_one =>
 (0 ≤ (1 : Int) ∧ (1 : Int) < (v_rows.length : Nat)) ∧ (ok_Loads___init___2 (getI v_rows (1 : Int))) ∧ (letO (α := Ty_Loads) (f_Loads___init___2 (getI v_rows (1 : Int))) fun v_two =>
 (0 ≤ (2 : Int) ∧ (2 : Int) < (v_rows.length : Nat)) ∧ (ok_Loads___init__ (getI v_rows (2 : Int))) ∧ (letO (α := Ty_Loads) (f_Loads___init__ (getI v_rows (2 : Int))) fun v_three =>
 (0 ≤ (0 : Int) ∧ (0 : Int) < (v_handed.length : Nat)) ∧ (letO (α := (List (Option Int))) (v_handed.set (0 : Int).toNat none) fun v_handed =>
 (v_handed.length < sizeLine) ∧ (letO (α := (List (Option Int))) (v_handed ++ [(some (0 : Int))]) fun v_handed =>
 (ok_Loads___add__ v_one v_two) ∧ (letO (α := Ty_Loads) (f_Loads___add__ v_one v_two) fun v_pair =>
 (ok_Loads___add__ v_pair v_three) ∧ (letO (α := Ty_Loads) (f_Loads___add__ v_pair v_three) fun v_whole =>
 (0 ≤ (0 : Int) ∧ (0 : Int) < (v_rows.length : Nat)) ∧ (0 ≤ (1 : Int) ∧ (1 : Int) < (v_rows.length : Nat)) ∧ (ok_l_is_sum v_pair ([(getI v_rows (0 : Int)), (getI v_rows (1 : Int))] : (List (List (Option Int))))) ∧ ((!(f_l_is_sum v_pair ([(getI v_rows (0 : Int)), (getI v_rows (1 : Int))] : (List (List (Option Int)))))) = false → ok_l_is_sum v_whole v_rows) ∧ ((((!(f_l_is_sum v_pair ([(getI v_rows (0 : Int)), (getI v_rows (1 : Int))] : (List (List (Option Int)))))) || (!(f_l_is_sum v_whole v_rows))) = true → True) ∧ (((!(f_l_is_sum v_pair ([(getI v_rows (0 : Int)), (getI v_rows (1 : Int))] : (List (List (Option Int)))))) || (!(f_l_is_sum v_whole v_rows))) = false → (ok_Loads___add__ v_two v_one) ∧ ((!(decide ((f_Loads___eq__ (f_Loads___add__ v_two v_one) v_pair) = true))) = false → ((ok_Loads___add__ v_two v_three) ∧ (ok_Loads___add__ v_one (f_Loads___add__ v_two v_three)))) ∧ ((((!(decide ((f_Loads___eq__ (f_Loads___add__ v_two v_one) v_pair) = true))) || (!(decide ((f_Loads___eq__ (f_Loads___add__ v_one (f_Loads___add__ v_two v_three)) v_whole) = true)))) = true → True) ∧ (((!(decide ((f_Loads___eq__ (f_Loads___add__ v_two v_one) v_pair) = true))) || (!(decide ((f_Loads___eq__ (f_Loads___add__ v_one (f_Loads___add__ v_two v_three)) v_whole) = true)))) = false → (0 ≤ (0 : Int) ∧ (0 : Int) < (v_rows.length : Nat)) ∧ (0 ≤ (1 : Int) ∧ (1 : Int) < (v_rows.length : Nat)) ∧ ((!(decide ((f_Loads___eq__ v_one v_two) = (decide ((getI v_rows (0 : Int)) = (getI v_rows (1 : Int))))))) = false → ((0 ≤ (2 : Int) ∧ (2 : Int) < (v_rows.length : Nat)) ∧ (0 ≤ (0 : Int) ∧ (0 : Int) < (v_rows.length : Nat)))) ∧ ((((!(decide ((f_Loads___eq__ v_one v_two) = (decide ((getI v_rows (0 : Int)) = (getI v_rows (1 : Int))))))) || (!(decide ((f_Loads___eq__ v_three v_one) = (decide ((getI v_rows (2 : Int)) = (getI v_rows (0 : Int)))))))) = true → True) ∧ (((!(decide ((f_Loads___eq__ v_one v_two) = (decide ((getI v_rows (0 : Int)) = (getI v_rows (1 : Int))))))) || (!(decide ((f_Loads___eq__ v_three v_one) = (decide ((getI v_rows (2 : Int)) = (getI v_rows (0 : Int)))))))) = false → letO (α := Ty_Loads) v_one fun v_grown =>
 (ok_Loads___add__ v_grown v_two) ∧ (letO (α := Ty_Loads) (f_Loads___add__ v_grown v_two) fun v_grown =>
 (0 ≤ (0 : Int) ∧ (0 : Int) < (v_rows.length : Nat)) ∧ (0 ≤ (1 : Int) ∧ (1 : Int) < (v_rows.length : Nat)) ∧ (ok_l_is_sum v_grown ([(getI v_rows (0 : Int)), (getI v_rows (1 : Int))] : (List (List (Option Int))))) ∧ ((!(f_l_is_sum v_grown ([(getI v_rows (0 : Int)), (getI v_rows (1 : Int))] : (List (List (Option Int)))))) = false → 0 ≤ (0 : Int) ∧ (0 : Int) < (v_rows.length : Nat)) ∧ ((((!(f_l_is_sum v_grown ([(getI v_rows (0 : Int)), (getI v_rows (1 : Int))] : (List (List (Option Int)))))) || (!(decide (v_one.p_entries = (getI v_rows (0 : Int)))))) = true → True) ∧ (((!(f_l_is_sum v_grown ([(getI v_rows (0 : Int)), (getI v_rows (1 : Int))] : (List (List (Option Int)))))) || (!(decide (v_one.p_entries = (getI v_rows (0 : Int)))))) = false → (ok_Loads_none) ∧ (letO (α := Ty_Loads) f_Loads_none fun v_nothing =>
 ((!(decide (v_nothing.p_entries = ([none, none, none, none] : (List (Option Int)))))) = false → ok_Loads___add__ v_one v_nothing) ∧ ((((!(decide (v_nothing.p_entries = ([none, none, none, none] : (List (Option Int)))))) || (!(decide ((f_Loads___eq__ (f_Loads___add__ v_one v_nothing) v_one) = true)))) = true → True) ∧ (((!(decide (v_nothing.p_entries = ([none, none, none, none] : (List (Option Int)))))) || (!(decide ((f_Loads___eq__ (f_Loads___add__ v_one v_nothing) v_one) = true)))) = false → (ok_Loads___add__ v_nothing v_two) ∧ (0 ≤ (1 : Int) ∧ (1 : Int) < (v_rows.length : Nat)) ∧ ((!(decide ((f_Loads___add__ v_nothing v_two).p_entries = (getI v_rows (1 : Int))))) = false → ((ok_Loads_none) ∧ (ok_Loads___add__ v_nothing f_Loads_none))) ∧ ((((!(decide ((f_Loads___add__ v_nothing v_two).p_entries = (getI v_rows (1 : Int))))) || (!(decide ((f_Loads___add__ v_nothing f_Loads_none).p_entries = v_nothing.p_entries)))) = true → True) ∧ (((!(decide ((f_Loads___add__ v_nothing v_two).p_entries = (getI v_rows (1 : Int))))) || (!(decide ((f_Loads___add__ v_nothing f_Loads_none).p_entries = v_nothing.p_entries)))) = false → (0 ≤ (16 : Int) ∧ (16 : Int) < (v_pool.length : Nat)) ∧ (letO (α := Int) ((getI v_pool (16 : Int)) % (7 : Int)) fun v_many =>
 (ok_l_number v_pool (140 : Int)) ∧ (0 ≤ (17 : Int) ∧ (17 : Int) < (v_pool.length : Nat)) ∧ (letO (α := Int) ((f_l_number v_pool (140 : Int)) + ((getI v_pool (17 : Int)) % (2 : Int))) fun v_great =>
 (ok_Loads_times v_one v_many) ∧ (-(2 ^ 62) ≤ v_many ∧ v_many ≤ 16777216) ∧ (∀ x35 ∈ (rangeI 0 v_many), 0 ≤ (0 : Int) ∧ (0 : Int) < (v_rows.length : Nat)) ∧ (ok_l_is_sum (f_Loads_times v_one v_many) ((rangeI 0 v_many).map fun (x35 : Int) => (getI v_rows (0 : Int)))) ∧ (((!(f_l_is_sum (f_Loads_times v_one v_many) ((rangeI 0 v_many).map fun (x35 : Int) => (getI v_rows (0 : Int))))) = true → True) ∧ ((!(f_l_is_sum (f_Loads_times v_one v_many) ((rangeI 0 v_many).map fun (x35 : Int) => (getI v_rows (0 : Int))))) = false → (ok_Loads_times v_two v_great) ∧ (-(2 ^ 62) ≤ (min v_great (4 : Int)) ∧ (min v_great (4 : Int)) ≤ 16777216) ∧ (∀ x39 ∈ (rangeI 0 (min v_great (4 : Int))), 0 ≤ (1 : Int) ∧ (1 : Int) < (v_rows.length : Nat)) ∧ (ok_l_is_sum (f_Loads_times v_two v_great) ((rangeI 0 (min v_great (4 : Int))).map fun (x39 : Int) => (getI v_rows (1 : Int)))) ∧ (((!(f_l_is_sum (f_Loads_times v_two v_great) ((rangeI 0 (min v_great (4 : Int))).map fun (x39 : Int) => (getI v_rows (1 : Int))))) = true → True) ∧ ((!(f_l_is_sum (f_Loads_times v_two v_great) ((rangeI 0 (min v_great (4 : Int))).map fun (x39 : Int) => (getI v_rows (1 : Int))))) = false → (ok_Loads_times v_one (2 : Int)) ∧ (ok_Loads___add__ v_one v_one) ∧ ((!(decide ((f_Loads___eq__ (f_Loads_times v_one (2 : Int)) (f_Loads___add__ v_one v_one)) = true))) = false → ok_Loads_times v_three (1 : Int)) ∧ ((((!(decide ((f_Loads___eq__ (f_Loads_times v_one (2 : Int)) (f_Loads___add__ v_one v_one)) = true))) || (!(decide ((f_Loads___eq__ (f_Loads_times v_three (1 : Int)) v_three) = true)))) = true → True) ∧ (((!(decide ((f_Loads___eq__ (f_Loads_times v_one (2 : Int)) (f_Loads___add__ v_one v_one)) = true))) || (!(decide ((f_Loads___eq__ (f_Loads_times v_three (1 : Int)) v_three) = true)))) = false → (ok_Loads_times v_one v_many) ∧ (-(2 ^ 62) ≤ v_many ∧ v_many ≤ 16777216) ∧ (∀ x46 ∈ (rangeI 0 v_many), 0 ≤ (0 : Int) ∧ (0 : Int) < (v_rows.length : Nat)) ∧ (ok_l_is_sum (f_Loads_times v_one v_many) ((rangeI 0 v_many).map fun (x46 : Int) => (getI v_rows (0 : Int)))) ∧ (((!(f_l_is_sum (f_Loads_times v_one v_many) ((rangeI 0 v_many).map fun (x46 : Int) => (getI v_rows (0 : Int))))) = true → True) ∧ ((!(f_l_is_sum (f_Loads_times v_one v_many) ((rangeI 0 v_many).map fun (x46 : Int) => (getI v_rows (0 : Int))))) = false → (ok_Loads___add__ v_one v_two) ∧ (0 ≤ (0 : Int) ∧ (0 : Int) < (v_rows.length : Nat)) ∧ (0 ≤ (1 : Int) ∧ (1 : Int) < (v_rows.length : Nat)) ∧ (ok_l_is_sum (f_Loads___add__ v_one v_two) ([(getI v_rows (0 : Int)), (getI v_rows (1 : Int))] : (List (List (Option Int)))))))))))))))))))))))))))))))))))))
theorem law_eq (ps : List Int) : f_law ps = tailF ((rangeI 0 (3 : Int)).map fun (x1 : Int) => (f_l_entries ps x1)) ps := by
  unfold f_law tailF
  dsimp only [letO]
theorem law_ok_of {ps : List Int} (h : ∀ x1 ∈ (rangeI 0 (3 : Int)), ok_l_entries ps x1) (ht : okTail ((rangeI 0 (3 : Int)).map fun (x1 : Int) => (f_l_entries ps x1)) ps) : ok_law ps := by
  unfold ok_law
  unfold okTail at ht
  exact ⟨h, ht⟩
end Fh

set_option Elab.async false
set_option linter.all false
set_option maxRecDepth 100000
set_option maxHeartbeats 4000000
set_option synthInstance.maxHeartbeats 400000
set_option synthInstance.maxSize 4000
namespace Fh
open PySem PySem.Spec PyProof.Rows L2
/-! ### the law -/
section
variable {a b c : List (Option Int)} {ps : List Int}
theorem sum2_comm (ha : Row a) (hb : Row b) : addL b a = addL a b :=
  ((Rep.one b).add (Rep.one a)).same ((Rep.one a).add (Rep.one b)) (add_row hb ha).len (add_row ha hb).len fun h v _ _ => Val.comm
theorem sum_assoc (ha : Row a) (hb : Row b) (hc : Row c) : addL a (addL b c) = addL (addL a b) c :=
  ((Rep.one a).add ((Rep.one b).add (Rep.one c))).same (((Rep.one a).add (Rep.one b)).add (Rep.one c)) (add_row ha (add_row hb hc)).len (add_row (add_row ha hb) hc).len fun h v _ _ => Iff.rfl
theorem sum_none (ha : Row a) : addL a [none, none, none, none] = a :=
  ((Rep.one a).add Rep.nil).same (Rep.one a) (add_row ha non_row).len ha.len fun h v _ _ => Iff.rfl
theorem none_sum (ha : Row a) : addL [none, none, none, none] a = a :=
  (Rep.nil.add (Rep.one a)).same (Rep.one a) (add_row non_row ha).len ha.len fun h v _ _ => Iff.rfl
theorem none_none : addL [none, none, none, none] [none, none, none, none] = [none, none, none, none] :=
  (Rep.nil.add Rep.nil).same Rep.nil (add_row non_row non_row).len rfl fun h v _ _ => Iff.rfl
theorem times_two (ha : Row a) : f_Loads_times ⟨a⟩ 2 = ⟨addL a a⟩ := by
  obtain ⟨d, e, rd, pd⟩ := (times_both ha 2 (by decide)).1
  rw [e, pd.same ((Rep.one a).add (Rep.one a)) rd.len (add_row ha ha).len fun h v _ _ => Iff.rfl]
theorem times_one (ha : Row a) : f_Loads_times ⟨a⟩ 1 = ⟨a⟩ := by
  obtain ⟨d, e, rd, pd⟩ := (times_both ha 1 (by decide)).1
  rw [e, pd.same (Rep.one a) rd.len ha.len fun h v _ _ => Iff.rfl]
theorem times_sum (ha : Row a) (n : Int) (hn : -(2 ^ 62) ≤ n) : f_l_is_sum (f_Loads_times ⟨a⟩ n) ((rangeI 0 n).map fun _ => a) = true := by
  obtain ⟨d, e, rd, pd⟩ := (times_both ha n hn).1
  rw [e, map_const]
  exact is_sum pd.many rd.len
theorem times_sum4 (ha : Row a) (n : Int) (hn : -(2 ^ 62) ≤ n) : f_l_is_sum (f_Loads_times ⟨a⟩ n) ((rangeI 0 (min n 4)).map fun _ => a) = true := by
  obtain ⟨d, e, rd, pd⟩ := (times_both ha n hn).1
  rw [e, map_const]
  exact is_sum pd rd.len
theorem tail_true (hu : Unit1000 ps) (ha : Row a) (hb : Row b) (hc : Row c) : tailF [a, b, c] ps = true := by
  have g0 : getI [a, b, c] 0 = a := rfl
  have g1 : getI [a, b, c] 1 = b := rfl
  have g2 : getI [a, b, c] 2 = c := rfl
  have s1 : f_l_is_sum ⟨addL a b⟩ [a, b] = true := is_sum ((Rep.one a).add (Rep.one b)) (add_row ha hb).len
  have s2 : f_l_is_sum ⟨addL (addL a b) c⟩ [a, b, c] = true := is_sum (((Rep.one a).add (Rep.one b)).add (Rep.one c)) (add_row (add_row ha hb) hc).len
  have m0 : 0 ≤ getI ps 16 % 7 := Int.emod_nonneg _ (by decide)
  have m1 : 0 ≤ f_l_number ps 140 + getI ps 17 % 2 := by
    have := number_nn hu 140
    have : 0 ≤ getI ps 17 % 2 := Int.emod_nonneg _ (by decide)
    omega
  have t1 := times_sum ha (getI ps 16 % 7) (by omega)
  have t2 := times_sum4 hb (f_l_number ps 140 + getI ps 17 % 2) (by omega)
  unfold tailF
  dsimp only [letO]
  simp only [g0, g1, g2, ini, ini2, add_eq, non_eq, s1, s2, sum2_comm ha hb, sum_assoc ha hb hc, eq_eq, sum_none ha, none_sum hb, none_none, t1, t2, times_two ha, times_one hc, decide_true, Bool.not_true, Bool.or_false, Bool.false_eq_true, if_false, decide_eq_decide]
theorem all4 {l : List (List (Option Int))} (h : ∀ r ∈ l, Row r) : ∀ r ∈ l, r.length = 4 := fun r hr => (h r hr).len
theorem okTail_of (h : ps.length = 150) (hu : Unit1000 ps) (ha : Row a) (hb : Row b) (hc : Row c) : okTail [a, b, c] ps := by
  have b0 : 0 ≤ (0 : Int) ∧ (0 : Int) < (([a, b, c] : List (List (Option Int))).length : Nat) := ⟨by decide, by show (0 : Int) < ((3 : Nat) : Int); decide⟩
  have b1 : 0 ≤ (1 : Int) ∧ (1 : Int) < (([a, b, c] : List (List (Option Int))).length : Nat) := ⟨by decide, by show (1 : Int) < ((3 : Nat) : Int); decide⟩
  have b2 : 0 ≤ (2 : Int) ∧ (2 : Int) < (([a, b, c] : List (List (Option Int))).length : Nat) := ⟨by decide, by show (2 : Int) < ((3 : Nat) : Int); decide⟩
  have m0 : 0 ≤ getI ps 16 % 7 := Int.emod_nonneg _ (by decide)
  have m7 : getI ps 16 % 7 < 7 := Int.emod_lt_of_pos _ (by decide)
  have m1 : 0 ≤ f_l_number ps 140 + getI ps 17 % 2 := by
    have := number_nn hu 140
    have : 0 ≤ getI ps 17 % 2 := Int.emod_nonneg _ (by decide)
    omega
  have k2 : ∀ r ∈ [a, b], r.length = 4 := all4 fun r hr => by
    simp only [List.mem_cons, List.not_mem_nil, or_false] at hr
    rcases hr with rfl | rfl
    · exact ha
    · exact hb
  have k3 : ∀ r ∈ [a, b, c], r.length = 4 := all4 fun r hr => by
    simp only [List.mem_cons, List.not_mem_nil, or_false] at hr
    rcases hr with rfl | rfl | rfl
    · exact ha
    · exact hb
    · exact hc
  have km : ∀ (r : List (Option Int)) (n : Int), Row r → ∀ q ∈ ((rangeI 0 n).map fun _ => r), q.length = 4 := fun r n hr q hq => by
    obtain ⟨_, _, rfl⟩ := List.mem_map.mp hq
    exact hr.len
  have kl : ∀ (r : List (Option Int)) (n : Int), n ≤ 6 → ((rangeI 0 n).map fun _ => r).length ≤ 6 := fun r n hn => by
    rw [List.length_map, rangeI_len]; omega
  have i2 : ∀ L, ok_l_is_sum L [a, b] := fun L => is_sum_ok k2 (by show 2 ≤ 6; decide)
  have ta := fun n hn => (times_both ha n hn).2
  have tb := fun n hn => (times_both hb n hn).2
  have tc := fun n hn => (times_both hc n hn).2
  have im : ∀ L, ok_l_is_sum L ((rangeI 0 (getI ps 16 % 7)).map fun _ => a) := fun L => is_sum_ok (km a _ ha) (kl a _ (by omega))
  unfold okTail
  dsimp only [letO]
  refine ⟨b0, chk_ok ha, b1, chk_ok hb, b2, chk_ok hc, ⟨by decide, by show (0 : Int) < (a.length : Nat); rw [ha.len]; decide⟩, ?_, add_ok ha hb, add_ok (add_row ha hb) hc, b0, b1, i2 _, fun _ => is_sum_ok k3 (by show 3 ≤ 6; decide), fun _ => trivial, fun _ => ⟨add_ok hb ha, fun _ => ⟨add_ok hb hc, add_ok ha (add_row hb hc)⟩, fun _ => trivial, fun _ => ⟨b0, b1, fun _ => ⟨b2, b0⟩, fun _ => trivial, fun _ => ⟨add_ok ha hb, b0, b1, i2 _, fun _ => b0, fun _ => trivial, fun _ => ⟨non_ok, fun _ => add_ok ha non_row, fun _ => trivial, fun _ => ⟨add_ok non_row hb, b1, fun _ => ⟨non_ok, add_ok non_row non_row⟩, fun _ => trivial, fun _ => ⟨⟨by decide, by omega⟩, number_ok h (by decide) (by decide), ⟨by decide, by omega⟩, ta _ (by omega), ⟨by omega, by omega⟩, fun _ _ => b0, im _, fun _ => trivial, fun _ => ⟨tb _ (by omega), ⟨by omega, by omega⟩, fun _ _ => b1, ?_, fun _ => trivial, fun _ => ⟨ta _ (by decide), add_ok ha ha, fun _ => tc _ (by decide), fun _ => trivial, fun _ => ⟨ta _ (by omega), ⟨by omega, by omega⟩, fun _ _ => b0, im _, fun _ => trivial, fun _ => ⟨add_ok ha hb, b0, b1, i2 _⟩⟩⟩⟩⟩⟩⟩⟩⟩⟩⟩
  · show (a.set _ _).length < sizeLine
    rw [List.length_set, ha.len, sizeLine_eq]; decide
  · exact is_sum_ok (km b _ hb) (kl b _ (by omega))
end
theorem law_true : ∀ ps : List Int, ps.length = 150 → Unit1000 ps → ok_law ps ∧ f_law ps = true := by
  intro ps h hu
  have r3 : rangeI 0 3 = [0, 1, 2] := by decide
  have e0 := entries_row h hu (w := 0) (by decide)
  have e1 := entries_row h hu (w := 1) (by decide)
  have e2 := entries_row h hu (w := 2) (by decide)
  constructor
  · refine law_ok_of (fun x hx => ?_) ?_
    · have := mem_rangeK hx
      exact (entries_row h hu (by omega)).2
    · rw [r3]
      exact okTail_of h hu e0.1 e1.1 e2.1
  · rw [law_eq, r3]
    exact tail_true hu e0.1 e1.1 e2.1
end Fh


set_option Elab.async false
set_option linter.all false
set_option maxRecDepth 100000
set_option maxHeartbeats 0
namespace Fh
open PySem PySem.Spec PyProof.Rows L2
/-! ### the head (printed by genend3.py) -/
def dd_is_greater : Dq := ⟨fun K => gA K "is_greater", "is_greater", "is_greater", defArgs s_is_greater, defBody s_is_greater, defScope s_is_greater, fun _ => [], fun K => []⟩
def dd_lesser : Dq := ⟨fun K => gA K "lesser", "lesser", "lesser", defArgs s_lesser, defBody s_lesser, defScope s_lesser, fun _ => [], fun K => []⟩
def dd_added : Dq := ⟨fun K => gA K "added", "added", "added", defArgs s_added, defBody s_added, defScope s_added, fun _ => [], fun K => []⟩
def dd_check_entries : Dq := ⟨fun K => gA K "check_entries", "check_entries", "check_entries", defArgs s_check_entries, defBody s_check_entries, defScope s_check_entries, fun _ => [], fun K => []⟩
def dd_least_sum : Dq := ⟨fun K => gA K "least_sum", "least_sum", "least_sum", defArgs s_least_sum, defBody s_least_sum, defScope s_least_sum, fun _ => [], fun K => []⟩
def dd_l_mixed : Dq := ⟨fun K => gA K "_law_mixed", "_law_mixed", "_law_mixed", defArgs s_l_mixed, defBody s_l_mixed, defScope s_l_mixed, fun _ => [], fun K => []⟩
def dd_l_pool : Dq := ⟨fun K => gA K "_law_pool", "_law_pool", "_law_pool", defArgs s_l_pool, defBody s_l_pool, defScope s_l_pool, fun _ => [], fun K => []⟩
def dd_l_same : Dq := ⟨fun K => gA K "_law_same", "_law_same", "_law_same", defArgs s_l_same, defBody s_l_same, defScope s_l_same, fun _ => [], fun K => []⟩
def dd_l_number : Dq := ⟨fun K => gA K "_law_number", "_law_number", "_law_number", defArgs s_l_number, defBody s_l_number, defScope s_l_number, fun _ => [], fun K => []⟩
def dd_l_entries : Dq := ⟨fun K => gA K "_law_entries", "_law_entries", "_law_entries", defArgs s_l_entries, defBody s_l_entries, defScope s_l_entries, fun _ => [], fun K => []⟩
def dd_l_splits : Dq := ⟨fun K => gA K "_law_splits", "_law_splits", "_law_splits", defArgs s_l_splits, defBody s_l_splits, defScope s_l_splits, fun _ => [], fun K => []⟩
def dd_l_parted : Dq := ⟨fun K => gA K "_law_parted", "_law_parted", "_law_parted", defArgs s_l_parted, defBody s_l_parted, defScope s_l_parted, fun _ => [], fun K => []⟩
def dd_l_sum_due : Dq := ⟨fun K => gA K "_law_sum_due", "_law_sum_due", "_law_sum_due", defArgs s_l_sum_due, defBody s_l_sum_due, defScope s_l_sum_due, fun _ => [], fun K => []⟩
def dd_l_is_sum : Dq := ⟨fun K => gA K "_law_is_sum", "_law_is_sum", "_law_is_sum", defArgs s_l_is_sum, defBody s_l_is_sum, defScope s_l_is_sum, fun _ => [], fun K => []⟩
def dd_law : Dq := ⟨fun K => gA K "law", "law", "law", defArgs s_law, defBody s_law, defScope s_law, fun _ => [], fun K => []⟩
def dd_Loads___init__ : Dq := ⟨fun K => (mA K "Loads" "__init__"), "__init__", "Loads.__init__", defArgs s_Loads___init__, defBody s_Loads___init__, defScope s_Loads___init__, fun _ => [], fun K => []⟩
def dd_Loads___getitem__ : Dq := ⟨fun K => (mA K "Loads" "__getitem__"), "__getitem__", "Loads.__getitem__", defArgs s_Loads___getitem__, defBody s_Loads___getitem__, defScope s_Loads___getitem__, fun _ => [], fun K => []⟩
def dd_Loads___add__ : Dq := ⟨fun K => (mA K "Loads" "__add__"), "__add__", "Loads.__add__", defArgs s_Loads___add__, defBody s_Loads___add__, defScope s_Loads___add__, fun _ => [], fun K => []⟩
def dd_Loads___eq__ : Dq := ⟨fun K => (mA K "Loads" "__eq__"), "__eq__", "Loads.__eq__", defArgs s_Loads___eq__, defBody s_Loads___eq__, defScope s_Loads___eq__, fun _ => [], fun K => []⟩
def dd_Loads_none : Dq := ⟨fun K => (qA K "Loads" "none"), "none", "Loads.none", defArgs s_Loads_none, defBody s_Loads_none, defScope s_Loads_none, fun _ => [], fun K => []⟩
def dd_Loads_times : Dq := ⟨fun K => (mA K "Loads" "times"), "times", "Loads.times", defArgs s_Loads_times, defBody s_Loads_times, defScope s_Loads_times, fun _ => [], fun K => []⟩
def dd_Loads___iter__ : Dq := ⟨fun K => (mA K "Loads" "__iter__"), "__iter__", "Loads.__iter__", defArgs s_Loads___iter__, defBody s_Loads___iter__, defScope s_Loads___iter__, fun _ => [], fun K => []⟩
def dd_NoSuch__init : Dq := ⟨fun K => mA K "NoSuch" "__init__", "__init__", "NoSuch.__init__", defArgs s_NoSuch__init, defBody s_NoSuch__init, defScope s_NoSuch__init, fun _ => [], fun _ => []⟩
def fn : List Dq := [dd_is_greater, dd_lesser, dd_added, dd_check_entries, dd_least_sum, dd_l_mixed, dd_l_pool, dd_l_same, dd_l_number, dd_l_entries, dd_l_splits, dd_l_parted, dd_l_sum_due, dd_l_is_sum, dd_law, dd_Loads___init__, dd_Loads___getitem__, dd_Loads___add__, dd_Loads___eq__, dd_Loads_none, dd_Loads_times, dd_Loads___iter__, dd_NoSuch__init]
def fa : List (PySem.W.Frag → Bool) := [(He.Fa.glo "is_greater").ok, (He.Fa.glo "lesser").ok, (He.Fa.glo "added").ok, (He.Fa.glo "check_entries").ok, (He.Fa.glo "least_sum").ok, (He.Fa.glo "_law_mixed").ok, (He.Fa.glo "_law_pool").ok, (He.Fa.glo "_law_same").ok, (He.Fa.glo "_law_number").ok, (He.Fa.glo "_law_entries").ok, (He.Fa.glo "_law_splits").ok, (He.Fa.glo "_law_parted").ok, (He.Fa.glo "_law_sum_due").ok, (He.Fa.glo "_law_is_sum").ok, (He.Fa.glo "law").ok, ((He.Fa.free "abs").ok), ((He.Fa.free "bool").ok), ((He.Fa.free "int").ok), ((He.Fa.free "isinstance").ok), ((He.Fa.free "iter").ok), ((He.Fa.free "len").ok), ((He.Fa.free "list").ok), ((He.Fa.free "min").ok), ((He.Fa.free "range").ok), ((He.Fa.free "str").ok), ((He.Fa.free "sum").ok), ((He.Fa.free "tuple").ok), ((He.Fa.int "ENTRIES" 4).ok), ((He.Fa.glo "Loads").ok), ((He.Fa.mkr "Loads").ok), ((He.Fa.meth "Loads" "times").ok), ((dunB (fun K => gA K "Loads") (fun K => mA K "Loads" "__add__") "__add__")), ((dunB (fun K => gA K "Loads") (fun K => mA K "Loads" "__eq__") "__eq__")), ((dunB (fun K => gA K "Loads") (fun K => mA K "Loads" "__getitem__") "__getitem__")), ((dunB (fun K => gA K "Loads") (fun K => mA K "Loads" "__iter__") "__iter__")), (fun K => PySem.W.selfFirst K (gA K "Loads")), (fun K => PySem.W.fnIn K (mA K "Loads" "__getitem__")), ((noIB (fun K => gA K "Loads") "__iadd__")), ((smetB (fun K => gA K "Loads") (fun K => mA K "Loads" "none") (fun K => qA K "Loads" "none") "none")), ((noLnB fun K => gA K "Loads")), ((He.Fa.glo "NoSuch").ok), (fun K => xcB K (gA K "NoSuch")), ((He.Fa.meth "NoSuch" "__init__").ok), (fun K => decide (PySem.W.typeIn K (.ref (mA K "NoSuch" "__init__")) = some (.type "function"))), ((He.Fa.noat "NoSuch" "what").ok), ((He.Fa.glo "BadLoads").ok), (fun K => xcB K (gA K "BadLoads")), (fun K => PySem.W.excIn K (gA K "BadLoads") He.veBase "ValueError.__new__"), ((He.Fa.cls "Loads").ok), ((oiB fun K => gA K "Loads")), ((He.Fa.noat "Loads" "_entries").ok)]
abbrev R : PySem.W.OpenRow := PySem.W.OpenLaw.row PySem.Challenge.rw_fullhands_k62_loads_added
def tabs : List Tb := []
/-- .. and the table of the interpreter's statics -/
def seeS (n : Nat) (fa : List (PySem.W.Frag → Bool)) (fn : List Dq) (ts : List Tb) (g : Addr → Option Obj) : Ob := see fa fn ts (He.frG g (He.asD g n ++ [cStatics]))
def hookS (n : Nat) (fa : List (PySem.W.Frag → Bool)) (fn : List Dq) (ts : List Tb) : PySem.W.Hook where
  α := Ob
  obs := fun s => seeS n fa fn ts s.heap.get?
  val := fun w => due fn ts w
  says := fun w h => ∃ K : PySem.W.Frag, K.In h ∧ Tells fa fn ts w K
  of := fun _ _ e => ⟨_, He.frG_in, e⟩
  keeps := fun _ _ _ ⟨K, hK, c⟩ k => ⟨K, PySem.W.Frag.In.keeps hK k, c⟩
theorem seeS_eq {n : Nat} {fa : List (PySem.W.Frag → Bool)} {fn : List Dq} {ts : List Tb} {g : Addr → Option Obj} {s : Shared} (h : ∀ a, g a = s.heap.get? a) : seeS n fa fn ts g = (hookS n fa fn ts).obs s := by
  obtain rfl : g = s.heap.get? := funext h
  rfl
abbrev hk : PySem.W.Hook := hookS 7 fa fn tabs
def ob (s : PySem.W.SharedT) : Ob := seeS 7 fa fn tabs (HandSHeadRun.getT s)
theorem ob_eq (s : PySem.W.SharedT) : ob s = hk.obs s.abs := seeS_eq (HandSHeadRun.getT_eq s)
def names : List Str := (["_wall", "FullhandsError", "NoSuch", "BadLoads", "is_greater", "lesser", "added", "ENTRIES", "check_entries", "least_sum", "Loads", "_law_mixed", "_law_pool", "_law_same", "_law_number"] : List Str) ++ (["_law_entries", "_law_splits", "_law_parted", "_law_sum_due", "_law_is_sum"] : List Str)
theorem headrun (w : World) : HandSHeadRun.RunEq R (PySem.W.view R.prog [24]) hk ob 30000 names w := by
  intro os
  kernel_rfl
theorem tx_of {w : World} {K : PySem.W.Frag} {h : Heap} {mg : Str → Option Value} (X : K.In h) (G : h.Ns mainGlobals mg) (c : Tells fa fn tabs w K) : Tx K mg where
  d_is_greater := by
    obtain ⟨fd, F⟩ := c.fun_ 0 (d := dd_is_greater) rfl
    exact ⟨_, fd, F, He.glo_ok X G (c.at 0 rfl)⟩
  d_lesser := by
    obtain ⟨fd, F⟩ := c.fun_ 1 (d := dd_lesser) rfl
    exact ⟨_, fd, F, He.glo_ok X G (c.at 1 rfl)⟩
  d_added := by
    obtain ⟨fd, F⟩ := c.fun_ 2 (d := dd_added) rfl
    exact ⟨_, fd, F, He.glo_ok X G (c.at 2 rfl)⟩
  d_check_entries := by
    obtain ⟨fd, F⟩ := c.fun_ 3 (d := dd_check_entries) rfl
    exact ⟨_, fd, F, He.glo_ok X G (c.at 3 rfl)⟩
  d_least_sum := by
    obtain ⟨fd, F⟩ := c.fun_ 4 (d := dd_least_sum) rfl
    exact ⟨_, fd, F, He.glo_ok X G (c.at 4 rfl)⟩
  d_l_mixed := by
    obtain ⟨fd, F⟩ := c.fun_ 5 (d := dd_l_mixed) rfl
    exact ⟨_, fd, F, He.glo_ok X G (c.at 5 rfl)⟩
  d_l_pool := by
    obtain ⟨fd, F⟩ := c.fun_ 6 (d := dd_l_pool) rfl
    exact ⟨_, fd, F, He.glo_ok X G (c.at 6 rfl)⟩
  d_l_same := by
    obtain ⟨fd, F⟩ := c.fun_ 7 (d := dd_l_same) rfl
    exact ⟨_, fd, F, He.glo_ok X G (c.at 7 rfl)⟩
  d_l_number := by
    obtain ⟨fd, F⟩ := c.fun_ 8 (d := dd_l_number) rfl
    exact ⟨_, fd, F, He.glo_ok X G (c.at 8 rfl)⟩
  d_l_entries := by
    obtain ⟨fd, F⟩ := c.fun_ 9 (d := dd_l_entries) rfl
    exact ⟨_, fd, F, He.glo_ok X G (c.at 9 rfl)⟩
  d_l_splits := by
    obtain ⟨fd, F⟩ := c.fun_ 10 (d := dd_l_splits) rfl
    exact ⟨_, fd, F, He.glo_ok X G (c.at 10 rfl)⟩
  d_l_parted := by
    obtain ⟨fd, F⟩ := c.fun_ 11 (d := dd_l_parted) rfl
    exact ⟨_, fd, F, He.glo_ok X G (c.at 11 rfl)⟩
  d_l_sum_due := by
    obtain ⟨fd, F⟩ := c.fun_ 12 (d := dd_l_sum_due) rfl
    exact ⟨_, fd, F, He.glo_ok X G (c.at 12 rfl)⟩
  d_l_is_sum := by
    obtain ⟨fd, F⟩ := c.fun_ 13 (d := dd_l_is_sum) rfl
    exact ⟨_, fd, F, He.glo_ok X G (c.at 13 rfl)⟩
  d_law := by
    obtain ⟨fd, F⟩ := c.fun_ 14 (d := dd_law) rfl
    exact ⟨_, fd, F, He.glo_ok X G (c.at 14 rfl)⟩
  f_abs := He.free_ok X G (c.at 15 (f := ((He.Fa.free "abs").ok)) rfl)
  f_bool := He.free_ok X G (c.at 16 (f := ((He.Fa.free "bool").ok)) rfl)
  f_int := He.free_ok X G (c.at 17 (f := ((He.Fa.free "int").ok)) rfl)
  f_isinstance := He.free_ok X G (c.at 18 (f := ((He.Fa.free "isinstance").ok)) rfl)
  f_iter := He.free_ok X G (c.at 19 (f := ((He.Fa.free "iter").ok)) rfl)
  f_len := He.free_ok X G (c.at 20 (f := ((He.Fa.free "len").ok)) rfl)
  f_list := He.free_ok X G (c.at 21 (f := ((He.Fa.free "list").ok)) rfl)
  f_min := He.free_ok X G (c.at 22 (f := ((He.Fa.free "min").ok)) rfl)
  f_range := He.free_ok X G (c.at 23 (f := ((He.Fa.free "range").ok)) rfl)
  f_str := He.free_ok X G (c.at 24 (f := ((He.Fa.free "str").ok)) rfl)
  f_sum := He.free_ok X G (c.at 25 (f := ((He.Fa.free "sum").ok)) rfl)
  f_tuple := He.free_ok X G (c.at 26 (f := ((He.Fa.free "tuple").ok)) rfl)
  c_ENTRIES := He.int_ok X G (c.at 27 (f := ((He.Fa.int "ENTRIES" 4).ok)) rfl)
  g_Loads := He.glo_ok X G (c.at 28 (f := ((He.Fa.glo "Loads").ok)) rfl)
  mk_Loads := He.mkr_ok (c.at 29 (f := ((He.Fa.mkr "Loads").ok)) rfl)
  m_Loads_times := He.meth_ok (c.at 30 (f := ((He.Fa.meth "Loads" "times").ok)) rfl)
  du_Loads___add__ := dunB_ok (c.at 31 (f := ((dunB (fun K => gA K "Loads") (fun K => mA K "Loads" "__add__") "__add__"))) rfl)
  du_Loads___eq__ := dunB_ok (c.at 32 (f := ((dunB (fun K => gA K "Loads") (fun K => mA K "Loads" "__eq__") "__eq__"))) rfl)
  du_Loads___getitem__ := dunB_ok (c.at 33 (f := ((dunB (fun K => gA K "Loads") (fun K => mA K "Loads" "__getitem__") "__getitem__"))) rfl)
  du_Loads___iter__ := dunB_ok (c.at 34 (f := ((dunB (fun K => gA K "Loads") (fun K => mA K "Loads" "__iter__") "__iter__"))) rfl)
  sf_Loads := c.at 35 (f := (fun K => PySem.W.selfFirst K (gA K "Loads"))) rfl
  fi_Loads___getitem__ := c.at 36 (f := (fun K => PySem.W.fnIn K (mA K "Loads" "__getitem__"))) rfl
  ni_Loads___add__ := noIB_ok (c.at 37 (f := ((noIB (fun K => gA K "Loads") "__iadd__"))) rfl)
  st_Loads_none := smetB_ok (c.at 38 (f := ((smetB (fun K => gA K "Loads") (fun K => mA K "Loads" "none") (fun K => qA K "Loads" "none") "none"))) rfl)
  nl_Loads := noLnB_ok (c.at 39 (f := ((noLnB fun K => gA K "Loads"))) rfl)
  g_NoSuch := He.glo_ok X G (c.at 40 (f := ((He.Fa.glo "NoSuch").ok)) rfl)
  x_NoSuch := xcB_ok (c.at 41 (f := (fun K => xcB K (gA K "NoSuch"))) rfl)
  i_NoSuch := (He.meth_ok (c.at 42 (f := ((He.Fa.meth "NoSuch" "__init__").ok)) rfl)).at_
  t_NoSuch := of_decide_eq_true (c.at 43 (f := (fun K => decide (PySem.W.typeIn K (.ref (mA K "NoSuch" "__init__")) = some (.type "function")))) rfl)
  n_NoSuch_what := He.noat_ok (c.at 44 (f := ((He.Fa.noat "NoSuch" "what").ok)) rfl)
  g_BadLoads := He.glo_ok X G (c.at 45 (f := ((He.Fa.glo "BadLoads").ok)) rfl)
  x_BadLoads := xcB_ok (c.at 46 (f := (fun K => xcB K (gA K "BadLoads"))) rfl)
  e_BadLoads := ⟨_, c.at 47 (f := (fun K => PySem.W.excIn K (gA K "BadLoads") He.veBase "ValueError.__new__")) rfl, rfl⟩
  dm_Loads___init__ := c.fun_ 15 (d := dd_Loads___init__) rfl
  dm_Loads___getitem__ := c.fun_ 16 (d := dd_Loads___getitem__) rfl
  dm_Loads___add__ := c.fun_ 17 (d := dd_Loads___add__) rfl
  dm_Loads___eq__ := c.fun_ 18 (d := dd_Loads___eq__) rfl
  dm_Loads_none := c.fun_ 19 (d := dd_Loads_none) rfl
  dm_Loads_times := c.fun_ 20 (d := dd_Loads_times) rfl
  dm_Loads___iter__ := c.fun_ 21 (d := dd_Loads___iter__) rfl
  m_NoSuch := c.fun_ 22 (d := dd_NoSuch__init) rfl
  cf := {
    c_Loads := He.cls_ok (c.at 48 (f := ((He.Fa.cls "Loads").ok)) rfl)
    oi_Loads := oiB_ok (c.at 49 (f := ((oiB fun K => gA K "Loads"))) rfl)
    n_Loads__entries := He.noat_ok (c.at 50 (f := ((He.Fa.noat "Loads" "_entries").ok)) rfl)
  }
def spLaw (K : PySem.W.Frag) : Sp := SpR K [.now] (fun ns : List Int => [.rol (ns.map D.int)]) (fun ns => ns.length ≤ 63) (fun _ d => d = .bl true)
theorem facts {P : Program} {w : World} {K : PySem.W.Frag} {h : Heap} {mg : Str → Option Value} {f : Addr} (X : K.In h) (G : h.Ns mainGlobals mg) (hfa : mg ("law" : Str) = some (.ref f)) (c : Tells fa fn tabs w K) :
    ∃ fd : FuncData, (∀ (s : Shared) (v : Value), BindsTo s fd ⟨[v], []⟩ [("script", v)]) ∧ ∀ base : Heap, K.In base → base.Ns mainGlobals mg → FnOk P w K mg base CX0 9 f fd ["script"] (spLaw K) := by
  have T : Tx K mg := tx_of X G c
  obtain ⟨f', fd, F, e'⟩ := T.d_law
  have e := hfa.symm.trans e'
  cases e
  have b := FunD.bindsA (ps := ["script"]) F fun _ _ _ _ _ _ us hl => match us, hl with | [_], _ => rfl
  exact ⟨fd, fun s v => b s [v] rfl, fun base _ _ => fn_ok F sc_law rfl (by decide) (body_law T law_true)⟩
end Fh
open PySem PySem.W PySem.Calls PyProof.Rows
set_option maxRecDepth 100000 in
set_option maxHeartbeats 0 in
theorem PySem.Challenge.cw_fullhands_k62_loads_added_holds : PySem.Challenge.rw_fullhands_k62_loads_added.Holds := by
  w_on; o_law
  refine HandSHeadRun.head_any (r := OpenLaw.row PySem.Challenge.rw_fullhands_k62_loads_added) (q := view (OpenLaw.row PySem.Challenge.rw_fullhands_k62_loads_added).prog [24]) (H := Fh.hk) (ob := Fh.ob) (M := 30000) (loose := Fh.names) (d := HandSHeadRun.topDef (OpenLaw.row PySem.Challenge.rw_fullhands_k62_loads_added).prog 24) (kwd := []) Fh.ob_eq
    (by kernel_rfl) (fun s => by kernel_rfl) Fh.headrun (by kernel_rfl) (by kernel_rfl) (by kernel_rfl) (by rfl) (by first | assumption | decide +kernel) (by decide +kernel) ⟨rfl, rfl, rfl, rfl, rfl, by decide +kernel⟩ ?hw ?hc
  case hw => w_witness2
  case hc =>
    refine L2.walk_ofE (l := PySem.Challenge.rw_fullhands_k62_loads_added) (n := 63) (k := 9) (x := "script") (CX := L2.CX0) rfl (by decide) (by kernel_rfl) ⟨rfl, by decide, by decide⟩ ?F (fun _ _ _ _ z => z)
    intro w mg fa h Y G hmg0
    obtain ⟨K, KX, c⟩ := Y
    have hmg : mg ("law" : PySem.Str) = some (.ref fa) := by
      have e : (HandSHeadRun.topDef (OpenLaw.row PySem.Challenge.rw_fullhands_k62_loads_added).prog 24).name = ("law" : PySem.Str) := by kernel_rfl
      rw [← e]
      exact hmg0
    obtain ⟨fd, hb, hF⟩ := Fh.facts (P := (PySem.Challenge.rw_fullhands_k62_loads_added).prog) (w := w) KX G hmg c
    refine ⟨K, fd, Fh.spLaw K, KX, hb, fun H a ns hl _ hS => ⟨fun _ => none, ns, (fun _ _ z => nomatch z), hl, ⟨.rol hS (Fh.iss_ints ns) (by rw [List.length_map]; exact Nat.le_trans hl (by decide)), trivial⟩, fun d v H' T' hd _ i => ?_⟩, hF⟩
    subst hd
    cases i
    rfl

