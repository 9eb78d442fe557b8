import PyProof.Rows.All
import Wide.All
import OpenK.AllK
import Wide.FinOn
import PyProof.EqAt
import PyProof.EqKinds
import PyProof.TupleCall
import PyProof.ReprReads
import HandS.Base
import HandS.Call
import HandS.List
import HandS.Comp
import HandS.Ends
import HandS.Words
import HandS.WordsList
import HandS.TupAny
import HandS.TupMul
import HandS.More
import HandS.Wide
import HandS.Style
import PyProof.ListMulRoad
import PyProof.FactsAll.tuple_2
import HandS.ClsMeth
import HandS.Property
import HandS.HeadEnd
import HandS.Head0
import HandS.Head1
import HandS.Head2
import HandS.HeadHook1
import HandS.HeadHook2
import HandS.HeadHook3
import HandS.HeadHook4
import HandS.Star
import OpenK.KMeth
import KE.KStateDown
import Lean
import PySem.Challenge.RW_loopsame_k02_plain_rows
set_option Elab.async false
set_option linter.all false
set_option maxRecDepth 100000
set_option maxHeartbeats 4000000
/-! Dl: readings over data. A value is told by its data (ints, texts, tuples, lists, instances, or a cell: something that may still change);
the memory tells what the cells hold. B is the part of the abstract heap that no longer changes. -/
namespace Dl
open PySem PySem.Spec PyProof.Rows L2

inductive Dat where
  | non | bl (b : Bool) | int (i : Int) | str (x : Str)
  | tup (xs : List Dat) | lst (xs : List Dat) | fz (xs : List Dat)
  | ins (C : Addr) (fs : List (Str × Dat))
  | cell (p : Addr)

def Ex (H H' : Hp) : Prop := ∀ a o, H a = some o → H' a = some o
theorem Ex.refl (H : Hp) : Ex H H := fun _ _ h => h
theorem Ex.trans {H1 H2 H3 : Hp} (a : Ex H1 H2) (b : Ex H2 H3) : Ex H1 H3 := fun x o h => b x o (a x o h)
theorem Ex.rd {H H' : Hp} {a : Addr} {u : HO} (e : Ex H H') (h : Rd H a u) : Rd H' a u := by
  rcases h with h | ⟨o, h⟩
  · exact Or.inl (e a _ h)
  · exact Or.inr ⟨o, e a _ h⟩
theorem Ex.sl {K : PySem.W.Frag} {H H' : Hp} {a : Addr} {xs : List V} (e : Ex H H') (h : SqL K H a xs) : SqL K H' a xs := by
  rcases h with h | h
  · exact Or.inl (e.rd h)
  · exact Or.inr h
theorem Ex.st {K : PySem.W.Frag} {H H' : Hp} {a : Addr} {xs : List V} (e : Ex H H') (h : SqT K H a xs) : SqT K H' a xs := by
  rcases h with h | h
  · exact Or.inl (e.rd h)
  · exact Or.inr h

mutual
inductive Rp (K : PySem.W.Frag) (B : Hp) : V → Dat → Prop
  | non : Rp K B .non .non
  | bl (b : Bool) : Rp K B (.bl b) (.bl b)
  | int (i : Int) : Rp K B (.int i) (.int i)
  | str (x : Str) : Rp K B (.str x) (.str x)
  | tup {a : Addr} {xs : List V} {ds : List Dat} : SqT K B a xs → RpA K B xs ds → Rp K B (.ref a) (.tup ds)
  | lst {a : Addr} {xs : List V} {ds : List Dat} : B a = some (.lst xs) → RpA K B xs ds → Rp K B (.ref a) (.lst ds)
  | fz {a : Addr} {xs : List V} {ds : List Dat} : SqL K B a xs → RpA K B xs ds → Rp K B (.ref a) (.fz ds)
  | ins {a C dx : Addr} {vs : List (Str × V)} {fs : List (Str × Dat)} : B a = some (.ins C dx vs) → RpF K B vs fs → Rp K B (.ref a) (.ins C fs)
  | cell (p : Addr) : Rp K B (.ref p) (.cell p)
inductive RpA (K : PySem.W.Frag) (B : Hp) : List V → List Dat → Prop
  | nil : RpA K B [] []
  | cons {v : V} {vs : List V} {d : Dat} {ds : List Dat} : Rp K B v d → RpA K B vs ds → RpA K B (v :: vs) (d :: ds)
inductive RpF (K : PySem.W.Frag) (B : Hp) : List (Str × V) → List (Str × Dat) → Prop
  | nil : RpF K B [] []
  | cons {f : Str} {v : V} {vs : List (Str × V)} {d : Dat} {ds : List (Str × Dat)} : Rp K B v d → RpF K B vs ds → RpF K B ((f, v) :: vs) ((f, d) :: ds)
end

section
variable {K : PySem.W.Frag} {B B' : Hp}
mutual
theorem Rp.mono (e : Ex B B') : ∀ {v : V} {d : Dat}, Rp K B v d → Rp K B' v d
  | _, _, .non => .non
  | _, _, .bl b => .bl b
  | _, _, .int i => .int i
  | _, _, .str x => .str x
  | _, _, .tup h a => .tup (e.st h) (RpA.mono e a)
  | _, _, .lst h a => .lst (e _ _ h) (RpA.mono e a)
  | _, _, .fz h a => .fz (e.sl h) (RpA.mono e a)
  | _, _, .ins h a => .ins (e _ _ h) (RpF.mono e a)
  | _, _, .cell p => .cell p
theorem RpA.mono (e : Ex B B') : ∀ {vs : List V} {ds : List Dat}, RpA K B vs ds → RpA K B' vs ds
  | _, _, .nil => .nil
  | _, _, .cons h a => .cons (Rp.mono e h) (RpA.mono e a)
theorem RpF.mono (e : Ex B B') : ∀ {vs : List (Str × V)} {ds : List (Str × Dat)}, RpF K B vs ds → RpF K B' vs ds
  | _, _, .nil => .nil
  | _, _, .cons h a => .cons (Rp.mono e h) (RpF.mono e a)
end
theorem RpA.length : ∀ {vs : List V} {ds : List Dat}, RpA K B vs ds → vs.length = ds.length
  | _, _, .nil => rfl
  | _, _, .cons _ a => congrArg (· + 1) (RpA.length a)
theorem RpA.get : ∀ {vs : List V} {ds : List Dat} {i : Nat} {d : Dat}, RpA K B vs ds → ds[i]? = some d → ∃ v, vs[i]? = some v ∧ Rp K B v d
  | _, _, _, _, .nil, h => by simp at h
  | _, _, 0, _, .cons h _, e => by
    simp at e
    subst e
    exact ⟨_, rfl, h⟩
  | _, _, i + 1, _, .cons _ a, e => RpA.get (i := i) a (by simpa using e)
theorem RpA.get' : ∀ {vs : List V} {ds : List Dat} {i : Nat} {v : V}, RpA K B vs ds → vs[i]? = some v → ∃ d, ds[i]? = some d ∧ Rp K B v d
  | _, _, _, _, .nil, h => by simp at h
  | _, _, 0, _, .cons h _, e => by
    simp at e
    subst e
    exact ⟨_, rfl, h⟩
  | _, _, i + 1, _, .cons _ a, e => RpA.get' (i := i) a (by simpa using e)
theorem RpA.append : ∀ {vs us : List V} {ds es : List Dat}, RpA K B vs ds → RpA K B us es → RpA K B (vs ++ us) (ds ++ es)
  | _, _, _, _, .nil, b => b
  | _, _, _, _, .cons h a, b => .cons h (RpA.append a b)
theorem RpA.take : ∀ {vs : List V} {ds : List Dat} (n : Nat), RpA K B vs ds → RpA K B (vs.take n) (ds.take n)
  | _, _, 0, _ => .nil
  | _, _, _ + 1, .nil => .nil
  | _, _, n + 1, .cons h a => .cons h (RpA.take n a)
theorem RpA.drop : ∀ {vs : List V} {ds : List Dat} (n : Nat), RpA K B vs ds → RpA K B (vs.drop n) (ds.drop n)
  | _, _, 0, a => a
  | _, _, _ + 1, .nil => .nil
  | _, _, n + 1, .cons _ a => RpA.drop n a
theorem RpA.set {v : V} {d : Dat} (h : Rp K B v d) : ∀ {vs : List V} {ds : List Dat} (i : Nat), RpA K B vs ds → RpA K B (vs.set i v) (ds.set i d)
  | _, _, _, .nil => .nil
  | _, _, 0, .cons _ a => .cons h a
  | _, _, i + 1, .cons g a => .cons g (RpA.set h i a)
theorem RpA.dropLast : ∀ {vs : List V} {ds : List Dat}, RpA K B vs ds → RpA K B vs.dropLast ds.dropLast
  | _, _, .nil => .nil
  | _, _, .cons _ .nil => .nil
  | _, _, .cons h (.cons g a) => .cons h (RpA.dropLast (.cons g a))
theorem RpA.rep {vs : List V} {ds : List Dat} (h : RpA K B vs ds) : ∀ k : Nat, RpA K B (List.replicate k vs).flatten (List.replicate k ds).flatten
  | 0 => .nil
  | k + 1 => by
    rw [List.replicate_succ, List.replicate_succ, List.flatten_cons, List.flatten_cons]
    exact h.append (RpA.rep h k)
theorem RpA.reverse {vs : List V} {ds : List Dat} (h : RpA K B vs ds) : RpA K B vs.reverse ds.reverse := by
  induction vs generalizing ds with
  | nil => cases h; exact .nil
  | cons v vs ih =>
    cases h with
    | cons a b =>
      rw [List.reverse_cons, List.reverse_cons]
      exact (ih b).append (.cons a .nil)
theorem RpF.look {f : Str} {d : Dat} : ∀ {vs : List (Str × V)} {fs : List (Str × Dat)}, RpF K B vs fs → fs.lookup f = some d → ∃ v, vs.lookup f = some v ∧ Rp K B v d
  | _, _, .nil, e => by cases e
  | _, _, .cons (f := g) (v := v) (d := d') h a, e => by
    rw [List.lookup_cons] at e ⊢
    cases q : (f == g) with
    | true =>
      rw [q] at e
      cases e
      exact ⟨_, rfl, h⟩
    | false =>
      rw [q] at e
      exact RpF.look a e
theorem RpF.none {f : Str} : ∀ {vs : List (Str × V)} {fs : List (Str × Dat)}, RpF K B vs fs → fs.lookup f = none → vs.lookup f = none
  | _, _, .nil, _ => rfl
  | _, _, .cons (f := g) h a, e => by
    rw [List.lookup_cons] at e ⊢
    cases q : (f == g) with
    | true =>
      rw [q] at e
      cases e
    | false =>
      rw [q] at e
      exact RpF.none a e
theorem RpF.length : ∀ {vs : List (Str × V)} {ds : List (Str × Dat)}, RpF K B vs ds → vs.length = ds.length
  | _, _, .nil => rfl
  | _, _, .cons _ a => congrArg (· + 1) (RpF.length a)
end
/-- an attribute stored -/
def putD (f : Str) (d : Dat) : List (Str × Dat) → List (Str × Dat)
  | [] => [(f, d)]
  | (g, x) :: r => if g = f then (g, d) :: r else (g, x) :: putD f d r
theorem RpF.put {K : PySem.W.Frag} {B : Hp} {f : Str} {v : V} {d : Dat} (h : Rp K B v d) : ∀ {vs : List (Str × V)} {fs : List (Str × Dat)}, RpF K B vs fs → RpF K B (putF f v vs) (putD f d fs)
  | _, _, .nil => .cons h .nil
  | _, _, .cons (f := g) (v := u) (vs := vs) (d := c) (ds := ds) x a => by
    by_cases q : g = f
    · have e1 : putF f v ((g, u) :: vs) = (g, v) :: vs := if_pos q
      have e2 : putD f d ((g, c) :: ds) = (g, d) :: ds := if_pos q
      rw [e1, e2]
      exact .cons h a
    · have e1 : putF f v ((g, u) :: vs) = (g, u) :: putF f v vs := if_neg q
      have e2 : putD f d ((g, c) :: ds) = (g, c) :: putD f d ds := if_neg q
      rw [e1, e2]
      exact .cons x (RpF.put h a)

/-! ### memory -/
inductive MV where
  | lst (ds : List Dat)
  | obj (C : Addr) (fs : List (Str × Dat))
abbrev Mem := Addr → Option MV
def Mem.set (M : Mem) (p : Addr) (m : MV) : Mem := fun q => if q = p then some m else M q
def Mem.del (M : Mem) (p : Addr) : Mem := fun q => if q = p then none else M q
/-- what is left of M' of the names of M -/
def Mem.restr (M M' : Mem) : Mem := fun q => match M q with
  | none => none
  | some _ => M' q
theorem Mem.set_same {M : Mem} {p : Addr} {m : MV} : M.set p m p = some m := if_pos rfl
theorem Mem.set_ne {M : Mem} {p q : Addr} {m : MV} (h : q ≠ p) : M.set p m q = M q := if_neg h
theorem Mem.del_same {M : Mem} {p : Addr} : M.del p p = none := if_pos rfl
theorem Mem.del_ne {M : Mem} {p q : Addr} (h : q ≠ p) : M.del p q = M q := if_neg h
theorem Mem.set_set {M : Mem} {p : Addr} {m n : MV} : (M.set p m).set p n = M.set p n := by
  funext q
  unfold Mem.set
  by_cases h : q = p
  · rw [if_pos h, if_pos h]
  · rw [if_neg h, if_neg h, if_neg h]
theorem Mem.set_self {M : Mem} {p : Addr} {m : MV} (h : M p = some m) : M.set p m = M := by
  funext q
  unfold Mem.set
  by_cases e : q = p
  · rw [if_pos e, e, h]
  · rw [if_neg e]
theorem Mem.set_comm {M : Mem} {p q : Addr} {m n : MV} (h : p ≠ q) : (M.set p m).set q n = (M.set q n).set p m := by
  funext r
  unfold Mem.set
  by_cases e1 : r = q
  · by_cases e2 : r = p
    · exact absurd (e2.symm.trans e1) h
    · rw [if_pos e1, if_neg e2, if_pos e1]
  · rw [if_neg e1, if_neg e1]
theorem Mem.del_set {M : Mem} {p : Addr} {m : MV} (h : M p = none) : (M.set p m).del p = M := by
  funext q
  unfold Mem.set Mem.del
  by_cases e : q = p
  · rw [if_pos e, e, h]
  · rw [if_neg e]
    exact if_neg e
theorem Mem.del_set_ne {M : Mem} {p q : Addr} {m : MV} (h : p ≠ q) : (M.set p m).del q = (M.del q).set p m := by
  funext r
  unfold Mem.set Mem.del
  by_cases e1 : r = q
  · by_cases e2 : r = p
    · exact absurd (e2.symm.trans e1) h
    · rw [if_pos e1, if_neg e2, if_pos e1]
  · rw [if_neg e1, if_neg e1]
theorem Mem.del_del {M : Mem} {p : Addr} : (M.del p).del p = M.del p := by
  funext r
  unfold Mem.del
  by_cases e : r = p
  · rw [if_pos e, if_pos e]
  · rw [if_neg e, if_neg e]
theorem Mem.restr_self (M : Mem) : M.restr M = M := by
  funext q
  unfold Mem.restr
  cases M q <;> rfl
theorem Mem.restr_set_out {M M' : Mem} {p : Addr} {m : MV} (h : M p = none) : M.restr (M'.set p m) = M.restr M' := by
  funext q
  unfold Mem.restr Mem.set
  by_cases e : q = p
  · subst e
    rw [h]
  · rw [if_neg e]
theorem Mem.restr_del_out {M M' : Mem} {p : Addr} (h : M p = none) : M.restr (M'.del p) = M.restr M' := by
  funext q
  unfold Mem.restr Mem.del
  by_cases e : q = p
  · subst e
    rw [h]
  · rw [if_neg e]
theorem Mem.restr_set_in {M M' : Mem} {p : Addr} {m x : MV} (h : M p = some x) : M.restr (M'.set p m) = (M.restr M').set p m := by
  funext q
  unfold Mem.restr Mem.set
  by_cases e : q = p
  · subst e
    rw [h, if_pos rfl]
    exact (if_pos rfl).symm
  · rw [if_neg e, if_neg e]
theorem Mem.ne_of {M : Mem} {p q : Addr} {m : MV} (h : M p = some m) (h' : M q = none) : p ≠ q := by
  intro e
  subst e
  rw [h] at h'
  cases h'

def MR (K : PySem.W.Frag) (B H : Hp) (p : Addr) : MV → Prop
  | .lst ds => ∃ xs, H p = some (.lst xs) ∧ RpA K B xs ds
  | .obj C fs => ∃ dx vs, H p = some (.ins C dx vs) ∧ RpF K B vs fs
theorem MR.mono {K : PySem.W.Frag} {B B' H H' : Hp} {p : Addr} {m : MV} (h : MR K B H p m) (e : Ex B B') (k : ∀ o, H p = some o → H' p = some o) : MR K B' H' p m := by
  cases m with
  | lst ds =>
    obtain ⟨xs, h1, h2⟩ := h
    exact ⟨xs, k _ h1, h2.mono e⟩
  | obj C fs =>
    obtain ⟨dx, vs, h1, h2⟩ := h
    exact ⟨dx, vs, k _ h1, h2.mono e⟩
theorem MR.some {K : PySem.W.Frag} {B H : Hp} {p : Addr} {m : MV} (h : MR K B H p m) : ∃ o, H p = some o := by
  cases m with
  | lst ds =>
    obtain ⟨xs, h1, h2⟩ := h
    exact ⟨_, h1⟩
  | obj C fs =>
    obtain ⟨dx, vs, h1, h2⟩ := h
    exact ⟨_, h1⟩

structure Cs (K : PySem.W.Frag) (B : Hp) (M : Mem) (H : Hp) : Prop where
  ex : Ex B H
  cell : ∀ p m, M p = some m → B p = none ∧ MR K B H p m
theorem Cs.there {K : PySem.W.Frag} {B : Hp} {M : Mem} {H : Hp} (s : Cs K B M H) {p : Addr} {m : MV} (h : M p = some m) : ∃ o, H p = some o := (s.cell p m h).2.some

/-- from one state to a later one -/
structure Nx (K : PySem.W.Frag) (B : Hp) (M : Mem) (H B' : Hp) (M' : Mem) (H' : Hp) : Prop where
  ext : Ex B B'
  st : Cs K B' M' H'
  keep : ∀ a o, M a = none → H a = some o → H' a = some o
  new : ∀ a o, H a = some o → M a = none → B' a = B a
  dom : ∀ a o, H a = some o → M a = none → M' a = none
  there : ∀ a o, H a = some o → ∃ o', H' a = some o'
theorem Nx.refl {K : PySem.W.Frag} {B : Hp} {M : Mem} {H : Hp} (s : Cs K B M H) : Nx K B M H B M H :=
  ⟨Ex.refl B, s, fun _ _ _ h => h, fun _ _ _ _ => rfl, fun _ _ _ h => h, fun _ o h => ⟨o, h⟩⟩
theorem Nx.trans {K : PySem.W.Frag} {B B1 B2 : Hp} {M M1 M2 : Mem} {H H1 H2 : Hp} (a : Nx K B M H B1 M1 H1) (b : Nx K B1 M1 H1 B2 M2 H2) : Nx K B M H B2 M2 H2 where
  ext := a.ext.trans b.ext
  st := b.st
  keep := fun x o m h => b.keep x o (a.dom x o h m) (a.keep x o m h)
  new := fun x o h m => (b.new x o (a.keep x o m h) (a.dom x o h m)).trans (a.new x o h m)
  dom := fun x o h m => b.dom x o (a.keep x o m h) (a.dom x o h m)
  there := fun x o h => by
    obtain ⟨o', h'⟩ := a.there x o h
    exact b.there x o' h'
theorem Nx.back {K : PySem.W.Frag} {B B1 : Hp} {M M1 : Mem} {H H1 : Hp} (a : Nx K B M H B1 M1 H1) {p : Addr} (h : H1 p = none) : H p = none := by
  cases q : H p with
  | none => rfl
  | some o =>
    obtain ⟨o', h'⟩ := a.there p o q
    rw [h] at h'
    cases h'
/-- only something new has been laid, or nothing -/
theorem Nx.same {K : PySem.W.Frag} {B : Hp} {M : Mem} {H H' : Hp} (s : Cs K B M H) (e : Ex H H') : Nx K B M H B M H' where
  ext := Ex.refl B
  st := ⟨s.ex.trans e, fun p m h => ⟨(s.cell p m h).1, (s.cell p m h).2.mono (Ex.refl B) fun o q => e p o q⟩⟩
  keep := fun a o _ h => e a o h
  new := fun _ _ _ _ => rfl
  dom := fun _ _ _ h => h
  there := fun a o h => ⟨o, e a o h⟩
theorem ex_upd {H : Hp} {p : Addr} {o : HO} (h : H p = none) : Ex H (upd H p o) := fun a u e => by
  rw [upd_ne (ne_of_none e h)]
  exact e
/-- a new tuple, at once part of what stays -/
theorem Nx.fresh {K : PySem.W.Frag} {B : Hp} {M : Mem} {H : Hp} {p : Addr} {o : HO} (s : Cs K B M H) (h : H p = none) : Nx K B M H (upd B p o) M (upd H p o) := by
  have hB : B p = none := by
    cases q : B p with
    | none => rfl
    | some u =>
      rw [s.ex p u q] at h
      cases h
  refine ⟨ex_upd hB, ⟨fun a u e => ?_, fun q m e => ?_⟩, fun a u _ e => ex_upd h a u e, fun a u e _ => upd_ne (ne_of_none e h), fun _ _ _ e => e, fun a u e => ⟨u, ex_upd h a u e⟩⟩
  · by_cases z : a = p
    · subst z
      rw [upd_same] at e ⊢
      exact e
    · rw [upd_ne z] at e ⊢
      exact s.ex a u e
  · obtain ⟨h1, h2⟩ := s.cell q m e
    obtain ⟨u, hu⟩ := h2.some
    have nq : q ≠ p := ne_of_none hu h
    exact ⟨(upd_ne nq).trans h1, h2.mono (ex_upd hB) fun o e => ex_upd h q o e⟩

/-! ### results -/
inductive Rv where
  | d (x : Dat)
  | new (m : MV)
def frz : MV → Dat
  | .lst ds => .lst ds
  | .obj C fs => .ins C fs
/-- v stands for the result r; H0: the heap ahead of its making -/
def RR (K : PySem.W.Frag) (B : Hp) (M : Mem) (H0 H : Hp) (v : V) : Rv → Prop
  | .d x => Rp K B v x
  | .new m => ∃ p, v = .ref p ∧ H0 p = none ∧ B p = none ∧ M p = none ∧ MR K B H p m
section
variable {K : PySem.W.Frag} {B B1 B2 : Hp} {M M1 M2 : Mem} {H H0 H1 H2 : Hp} {v : V} {r : Rv} {m : MV}
theorem RR.back (a : Nx K B M H B1 M1 H1) (h : RR K B2 M2 H1 H2 v r) : RR K B2 M2 H H2 v r := by
  cases r with
  | d x => exact h
  | new m =>
    obtain ⟨p, h1, h2, h3⟩ := h
    exact ⟨p, h1, a.back h2, h3⟩
theorem RR.fwd (h : RR K B1 M1 H0 H1 v r) (a : Nx K B1 M1 H1 B2 M2 H2) : RR K B2 M2 H0 H2 v r := by
  cases r with
  | d x => exact Rp.mono a.ext h
  | new m =>
    obtain ⟨p, h1, h2, h3, h4, h5⟩ := h
    obtain ⟨o, ho⟩ := h5.some
    exact ⟨p, h1, h2, (a.new p o ho h4).trans h3, a.dom p o ho h4, h5.mono a.ext fun o q => a.keep p o h4 q⟩
/-- what is new is held for good -/
theorem RR.freeze (h : RR K B1 M1 H H1 v (.new m)) (a : Nx K B M H B1 M1 H1) : ∃ B2, Nx K B M H B2 M1 H1 ∧ Rp K B2 v (frz m) ∧ Ex B1 B2 := by
  obtain ⟨p, rfl, h2, h3, h4, h5⟩ := h
  obtain ⟨o, ho⟩ := h5.some
  have e12 : Ex B1 (upd B1 p o) := ex_upd h3
  refine ⟨upd B1 p o, ⟨a.ext.trans e12, ⟨fun b u e => ?_, fun q n e => ?_⟩, a.keep, fun b u e hm => ?_, a.dom, a.there⟩, ?_, e12⟩
  · by_cases z : b = p
    · subst z
      rw [upd_same] at e
      rw [ho]
      exact e
    · rw [upd_ne z] at e
      exact a.st.ex b u e
  · obtain ⟨c1, c2⟩ := a.st.cell q n e
    have nq : q ≠ p := by
      intro z
      subst z
      rw [h4] at e
      cases e
    exact ⟨(upd_ne nq).trans c1, c2.mono e12 fun _ z => z⟩
  · exact (upd_ne (ne_of_none e h2)).trans (a.new b u e hm)
  · cases m with
    | lst ds =>
      obtain ⟨xs, g1, g2⟩ := h5
      rw [ho] at g1
      cases g1
      exact .lst upd_same (g2.mono e12)
    | obj C fs =>
      obtain ⟨dx, vs, g1, g2⟩ := h5
      rw [ho] at g1
      cases g1
      exact .ins upd_same (g2.mono e12)
/-- what is new becomes a cell -/
theorem RR.celled (h : RR K B1 M1 H H1 v (.new m)) (a : Nx K B M H B1 M1 H1) : ∃ p, v = .ref p ∧ M1 p = none ∧ Nx K B M H B1 (M1.set p m) H1 := by
  obtain ⟨p, rfl, h2, h3, h4, h5⟩ := h
  refine ⟨p, rfl, h4, ⟨a.ext, ⟨a.st.ex, fun q n e => ?_⟩, a.keep, a.new, fun b u e hm => ?_, a.there⟩⟩
  · by_cases z : q = p
    · subst z
      rw [Mem.set_same] at e
      cases e
      exact ⟨h3, h5⟩
    · rw [Mem.set_ne z] at e
      exact a.st.cell q n e
  · rw [Mem.set_ne (ne_of_none e h2)]
    exact a.dom b u e hm
/-- a cell is held for good -/
theorem Cs.hold (s : Cs K B M H) {p : Addr} (h : M p = some m) : ∃ B2, Nx K B M H B2 (M.del p) H ∧ Rp K B2 (.ref p) (frz m) := by
  obtain ⟨c1, c2⟩ := s.cell p m h
  obtain ⟨o, ho⟩ := c2.some
  have e12 : Ex B (upd B p o) := ex_upd c1
  refine ⟨upd B p o, ⟨e12, ⟨fun b u e => ?_, fun q n e => ?_⟩, fun _ _ _ e => e, fun b u e hm => ?_, fun b u e hm => ?_, fun b u e => ⟨u, e⟩⟩, ?_⟩
  · by_cases z : b = p
    · subst z
      rw [upd_same] at e
      rw [ho]
      exact e
    · rw [upd_ne z] at e
      exact s.ex b u e
  · by_cases z : q = p
    · subst z
      rw [Mem.del_same] at e
      cases e
    · rw [Mem.del_ne z] at e
      obtain ⟨g1, g2⟩ := s.cell q n e
      exact ⟨(upd_ne z).trans g1, g2.mono e12 fun _ z => z⟩
  · exact upd_ne fun z => by
      subst z
      rw [h] at hm
      cases hm
  · unfold Mem.del
    split
    · rfl
    · exact hm
  · cases m with
    | lst ds =>
      obtain ⟨xs, g1, g2⟩ := c2
      rw [ho] at g1
      cases g1
      exact .lst upd_same (g2.mono e12)
    | obj C fs =>
      obtain ⟨dx, vs, g1, g2⟩ := c2
      rw [ho] at g1
      cases g1
      exact .ins upd_same (g2.mono e12)
/-- a list cell is written -/
theorem Cs.write (s : Cs K B M H) {p : Addr} {m' : MV} {o : HO} (h : M p = some m) (hm : MR K B (upd H p o) p m') : Nx K B M H B (M.set p m') (upd H p o) := by
  obtain ⟨c1, c2⟩ := s.cell p m h
  have np : ∀ b, M b = none → b ≠ p := fun b e z => by
    subst z
    rw [h] at e
    cases e
  refine ⟨Ex.refl B, ⟨fun b u e => ?_, fun q n e => ?_⟩, fun b u e1 e2 => ?_, fun _ _ _ _ => rfl, fun b u e1 e2 => ?_, fun b u e => ?_⟩
  · rw [upd_ne (fun z => by subst z; rw [c1] at e; cases e)]
    exact s.ex b u e
  · by_cases z : q = p
    · subst z
      rw [Mem.set_same] at e
      cases e
      exact ⟨c1, hm⟩
    · rw [Mem.set_ne z] at e
      obtain ⟨g1, g2⟩ := s.cell q n e
      exact ⟨g1, g2.mono (Ex.refl B) fun o q => by rw [upd_ne z]; exact q⟩
  · rw [upd_ne (np b e1)]
    exact e2
  · rw [Mem.set_ne (np b e2)]
    exact e2
  · by_cases z : b = p
    · subst z
      exact ⟨_, upd_same⟩
    · exact ⟨u, (upd_ne z).trans e⟩
end
end Dl
set_option Elab.async false
set_option linter.all false
set_option maxRecDepth 100000
set_option maxHeartbeats 4000000
namespace Dl
open PySem PySem.Spec PyProof.Rows L2

abbrev Env := List (Option Dat)
def SR (K : PySem.W.Frag) (B : Hp) (σ : L2.St) (env : Env) : Prop := σ.length = env.length ∧ ∀ (i : Nat) (x : Dat), env[i]? = some (some x) → ∃ v, σ[i]? = some (some v) ∧ Rp K B v x
theorem SR.mono {K : PySem.W.Frag} {B B' : Hp} {σ : L2.St} {env : Env} (h : SR K B σ env) (e : Ex B B') : SR K B' σ env :=
  ⟨h.1, fun i x q => by
    obtain ⟨v, h1, h2⟩ := h.2 i x q
    exact ⟨v, h1, h2.mono e⟩⟩
theorem SR.set {K : PySem.W.Frag} {B : Hp} {σ : L2.St} {env : Env} {v : V} {x : Dat} (h : SR K B σ env) (r : Rp K B v x) (i : Nat) : SR K B (σ.set i (some v)) (env.set i (some x)) := by
  refine ⟨by rw [List.length_set, List.length_set]; exact h.1, fun j y q => ?_⟩
  by_cases e : i = j
  · subst e
    by_cases hl : i < env.length
    · rw [List.getElem?_set_self hl] at q
      cases q
      rw [List.getElem?_set_self (by rw [h.1]; exact hl)]
      exact ⟨v, rfl, r⟩
    · rw [List.getElem?_eq_none (by rw [List.length_set]; omega)] at q
      cases q
  · rw [List.getElem?_set_ne e] at q
    rw [List.getElem?_set_ne e]
    exact h.2 j y q
/-- the slots of a comprehension's own names are empty within -/
def wipeD (env : Env) : List Nat → Env
  | [] => env
  | i :: r => (wipeD env r).set i none

abbrev DE := Env → Mem → (Rv → Mem → Prop) → Prop
abbrev DT := Env → Mem → (Bool → Mem → Prop) → Prop
abbrev DA := Env → Mem → (List Dat → Mem → Prop) → Prop
def SE (K : PySem.W.Frag) (t : TE) (φ : DE) : Prop := ∀ (env : Env) (M : Mem) (Q : Rv → Mem → Prop) (σ : L2.St) (B H : Hp) (QV : VK), SR K B σ env → Cs K B M H → φ env M Q →
  (∀ r M' v B' H', Q r M' → Nx K B M H B' M' H' → RR K B' M' H H' v r → QV v H') → t σ H QV
def ST (K : PySem.W.Frag) (t : TT) (φ : DT) : Prop := ∀ (env : Env) (M : Mem) (Q : Bool → Mem → Prop) (σ : L2.St) (B H : Hp) (QV : Bool → Hp → Prop), SR K B σ env → Cs K B M H → φ env M Q →
  (∀ b M' B' H', Q b M' → Nx K B M H B' M' H' → QV b H') → t σ H QV
def SA (K : PySem.W.Frag) (t : TA) (φ : DA) : Prop := ∀ (env : Env) (M : Mem) (Q : List Dat → Mem → Prop) (σ : L2.St) (B H : Hp) (QV : List V → Hp → Prop), SR K B σ env → Cs K B M H → φ env M Q →
  (∀ ds M' vs B' H', Q ds M' → Nx K B M H B' M' H' → RpA K B' vs ds → QV vs H') → t σ H QV
structure EX (X : Cx) (e : Expr) (t : TE) (φ : DE) : Prop where
  pe : PE X e t
  s : SE X.K t φ
structure TX (X : Cx) (e : Expr) (t : TT) (φ : DT) : Prop where
  pt : PT X e t
  s : ST X.K t φ
structure WX (X : Cx) (e : Expr) (t : TT) (φ : DT) : Prop where
  pw : PW X e t
  s : ST X.K t φ
structure AX (X : Cx) (es : List Expr) (t : TA) (φ : DA) : Prop where
  pa : PA X es t
  s : SA X.K t φ
theorem WX.tx {X : Cx} {e : Expr} {t : TT} {φ : DT} (h : WX X e t φ) : TX X e t φ := ⟨h.pw.pt, h.s⟩

/-- a result as data: what is new is held for good -/
def settle : Rv → Dat
  | .d x => x
  | .new m => frz m
theorem settle_ok {K : PySem.W.Frag} {B B1 : Hp} {M M1 : Mem} {H H1 : Hp} {v : V} {r : Rv} (h : RR K B1 M1 H H1 v r) (a : Nx K B M H B1 M1 H1) : ∃ B2, Nx K B M H B2 M1 H1 ∧ Rp K B2 v (settle r) ∧ Ex B1 B2 := by
  cases r with
  | d x => exact ⟨B1, a, h, Ex.refl _⟩
  | new m => exact h.freeze a

section
variable {X : Cx} {K : PySem.W.Frag}
/-! ### names, constants -/
def dVar (i : Nat) : DE := fun env M Q => match env[i]? with
  | some (some x) => Q (.d x) M
  | _ => False
def dC (x : Dat) : DE := fun _ M Q => Q (.d x) M
theorem se_var {i : Nat} : SE K (tVar i) (dVar i) := by
  intro env M Q σ B H QV hs hc h k
  unfold dVar at h
  split at h
  · rename_i x e
    obtain ⟨v, h1, h2⟩ := hs.2 i x e
    exact ⟨v, h1, k _ _ _ _ _ h (Nx.refl hc) h2⟩
  · exact h.elim
theorem se_c {v : V} {x : Dat} (r : ∀ B, Rp K B v x) : SE K (tC v) (dC x) := fun env M Q σ B H QV hs hc h k => k _ _ _ _ _ h (Nx.refl hc) (r B)
theorem ex_var (i : Nat) {x : Str} {pos : Pos} (hN : X.N[i]? = some x := by rfl) (hv : Vis X.env.scope x := by first | exact Or.inl rfl | exact Or.inr (Or.inl rfl) | exact Or.inr (Or.inr rfl)) (hd : (x == ("__debug__" : Str)) = false := by decide)
    (hcd : (x == ("__classdict__" : Str)) = false := by decide) : EX X (.Name x pos) (tVar i) (dVar i) := ⟨pe_var hN hv hd hcd, se_var⟩
theorem ex_int {i j pos} : EX X (.Constant (.int i) j pos) (tC (.int i)) (dC (.int i)) := ⟨pe_int, se_c fun _ => .int i⟩
theorem ex_bl {b j pos} : EX X (.Constant (.bool b) j pos) (tC (.bl b)) (dC (.bl b)) := ⟨pe_bl, se_c fun _ => .bl b⟩
theorem ex_non {j pos} : EX X (.Constant .none j pos) (tC .non) (dC .non) := ⟨pe_non, se_c fun _ => .non⟩
theorem ex_str {x j pos} : EX X (.Constant (.str x) j pos) (tC (.str x)) (dC (.str x)) := ⟨pe_str, se_c fun _ => .str x⟩
/-- a cell is held for good here (a name at its last use) -/
def dHold (φ : DE) : DE := fun env M Q => φ env M fun r M1 => ∃ p m, r = .d (.cell p) ∧ M1 p = some m ∧ Q (.d (frz m)) (M1.del p)
theorem ex_hold {e : Expr} {t : TE} {φ : DE} (h : EX X e t φ) : EX X e t (dHold φ) := ⟨h.pe, fun env M Q σ B H QV hs hc q k => by
  refine h.s env M _ σ B H QV hs hc q fun r M1 v B1 H1 q1 n1 r1 => ?_
  obtain ⟨p, m, rfl, hm, q2⟩ := q1
  cases r1
  obtain ⟨B2, n2, g2⟩ := n1.st.hold hm
  exact k _ _ _ _ _ q2 (n1.trans n2) g2⟩

/-! ### operations of two -/
abbrev D2 := Rv → Rv → Mem → (Rv → Mem → Prop) → Prop
def S2 (K : PySem.W.Frag) (r : R2) (ρ : D2) : Prop := ∀ (B : Hp) (M : Mem) (H0 H : Hp) (x y : V) (rx ry : Rv) (Q : Rv → Mem → Prop) (QV : VK), Cs K B M H → RR K B M H0 H x rx → RR K B M H0 H y ry → ρ rx ry M Q →
  (∀ r M' v B' H', Q r M' → Nx K B M H B' M' H' → RR K B' M' H H' v r → QV v H') → r x y H QV
def dOp (ρ : D2) (φa φb : DE) : DE := fun env M Q => φa env M fun ra M1 => φb env M1 fun rb M2 => ρ ra rb M2 Q
theorem SE.op {r : R2} {ρ : D2} {ta tb : TE} {φa φb : DE} (ha : SE K ta φa) (hb : SE K tb φb) (hr : S2 K r ρ) : SE K (tOp r ta tb) (dOp ρ φa φb) := by
  intro env M Q σ B H QV hs hc h k
  refine ha env M _ σ B H _ hs hc h fun ra M1 x B1 H1 q1 n1 r1 => ?_
  refine hb env M1 _ σ B1 H1 _ (hs.mono n1.ext) n1.st q1 fun rb M2 y B2 H2 q2 n2 r2 => ?_
  exact hr B2 M2 H H2 x y ra rb Q QV n2.st (r1.fwd n2) (r2.back n1) q2 fun r M' v B' H' q3 n3 r3 => k r M' v B' H' q3 ((n1.trans n2).trans n3) (r3.back (n1.trans n2))
theorem S2.or {r r' : R2} {ρ ρ' : D2} (h : S2 K r ρ) (h' : S2 K r' ρ') : S2 K (fun x y H Q => r x y H Q ∨ r' x y H Q) (fun a b M Q => ρ a b M Q ∨ ρ' a b M Q) := by
  intro B M H0 H x y rx ry Q QV hc h1 h2 q k
  rcases q with q | q
  · exact Or.inl (h B M H0 H x y rx ry Q QV hc h1 h2 q k)
  · exact Or.inr (h' B M H0 H x y rx ry Q QV hc h1 h2 q k)
theorem S2.weak {r : R2} {ρ ρ' : D2} (h : S2 K r ρ) (w : ∀ a b M Q, ρ' a b M Q → ρ a b M Q) : S2 K r ρ' := fun B M H0 H x y rx ry Q QV hc h1 h2 q k => h B M H0 H x y rx ry Q QV hc h1 h2 (w _ _ _ _ q) k
theorem ex_op {op : Operator} {r : R2} {ρ : D2} {a b : Expr} {ta tb : TE} {φa φb : DE} {pos : Pos} (ho : OpR X (binaryOp op) r) (hr : S2 X.K r ρ) (ha : EX X a ta φa) (hb : EX X b tb φb) : EX X (.BinOp a op b pos) (tOp r ta tb) (dOp ρ φa φb) :=
  ⟨pe_op ho ha.pe hb.pe, SE.op ha.s hb.s hr⟩
theorem ex_cmp {op : CmpOp} {r : R2} {ρ : D2} {a b : Expr} {ta tb : TE} {φa φb : DE} {pos : Pos} (ho : OpR X (compareOp op) r) (hr : S2 X.K r ρ) (ha : EX X a ta φa) (hb : EX X b tb φb) (hm : behindInMarks op b = false) :
    EX X (.Compare a [op] [b] pos) (tOp r ta tb) (dOp ρ φa φb) := ⟨pe_cmpR ho ha.pe hb.pe hm, SE.op ha.s hb.s hr⟩
/-- the bool of a result -/
def blR : Rv → (Bool → Prop) → Prop
  | .d (.bl b), Q => Q b
  | _, _ => False
theorem blR_ok {B : Hp} {M : Mem} {H0 H : Hp} {v : V} {r : Rv} {Q : Bool → Prop} (h : RR K B M H0 H v r) (q : blR r Q) : ∃ b, v = .bl b ∧ Q b := by
  unfold blR at q
  split at q
  · cases h
    exact ⟨_, rfl, q⟩
  · exact q.elim
def dTest (φ : DE) : DT := fun env M Q => φ env M fun r M1 => blR r fun b => Q b M1
theorem ST.test {t : TE} {φ : DE} (h : SE K t φ) : ST K (tTest t) (dTest φ) := by
  intro env M Q σ B H QV hs hc q k
  refine h env M _ σ B H _ hs hc q fun r M1 v B1 H1 q1 n1 r1 => ?_
  obtain ⟨b, rfl, q2⟩ := blR_ok r1 q1
  exact ⟨b, rfl, k _ _ _ _ q2 n1⟩
theorem ST.tb {t : TE} {φ : DE} (h : SE K t φ) : ST K (tB t) (dTest φ) := ST.test h
theorem tx_cmp {op : CmpOp} {r : R2} {ρ : D2} {a b : Expr} {ta tb : TE} {φa φb : DE} {pos : Pos} (ho : OpR X (compareOp op) r) (hr : S2 X.K r ρ) (ha : EX X a ta φa) (hb : EX X b tb φb) (hm : behindInMarks op b = false) :
    TX X (.Compare a [op] [b] pos) (tTest (tOp r ta tb)) (dTest (dOp ρ φa φb)) := ⟨pt_cmpR ho ha.pe hb.pe hm, ST.test (SE.op ha.s hb.s hr)⟩
theorem tx_val {e : Expr} {t : TE} {φ : DE} (h : EX X e t φ) (he : ∀ whole, isTrue e X.env whole = (do let v ← whole; standAt e.pos; holding [v] (truthy v)) := by intro _; rfl) : TX X e (tB t) (dTest φ) := ⟨pt_val h.pe he, ST.tb h.s⟩
/-! ### a < b < c -/
def dChain (ρ ρ' : D2) (φa φb φc : DE) : DE := fun env M Q => φa env M fun ra M1 => φb env M1 fun rb M2 => ρ ra rb M2 fun r3 M3 => blR r3 fun k => if k = true then φc env M3 fun rc M4 => ρ' rb rc M4 Q else Q (.d (.bl false)) M3
theorem SE.chain {r r' : R2} {ρ ρ' : D2} {ta tb tc : TE} {φa φb φc : DE} (ha : SE K ta φa) (hb : SE K tb φb) (hc' : SE K tc φc) (hr : S2 K r ρ) (hr' : S2 K r' ρ') : SE K (tChain r r' ta tb tc) (dChain ρ ρ' φa φb φc) := by
  intro env M Q σ B H QV hs hc h k
  refine ha env M _ σ B H _ hs hc h fun ra M1 x B1 H1 q1 n1 r1 => ?_
  refine hb env M1 _ σ B1 H1 _ (hs.mono n1.ext) n1.st q1 fun rb M2 y B2 H2 q2 n2 r2 => ?_
  refine hr B2 M2 H H2 x y ra rb _ _ n2.st (r1.fwd n2) (r2.back n1) q2 fun r3 M3 z B3 H3 q3 n3 r3' => ?_
  obtain ⟨b, rfl, q4⟩ := blR_ok r3' q3
  refine ⟨b, rfl, ?_⟩
  have n123 := (n1.trans n2).trans n3
  cases b with
  | true =>
    rw [if_pos rfl] at q4 ⊢
    refine hc' env M3 _ σ B3 H3 _ (hs.mono n123.ext) n123.st q4 fun rc M4 w B4 H4 q5 n4 r4 => ?_
    exact hr' B4 M4 H H4 y w rb rc Q QV n4.st (((r2.back n1).fwd n3).fwd n4) (r4.back n123) q5 fun r M' v B' H' q6 n5 r5 => k r M' v B' H' q6 ((n123.trans n4).trans n5) (r5.back (n123.trans n4))
  | false =>
    rw [if_neg Bool.false_ne_true] at q4 ⊢
    exact k _ _ _ _ _ q4 n123 (.bl false)
/-! ### and, or, not -/
def dAnd (φ ψ : DT) : DT := fun env M Q => φ env M fun b M1 => if b = true then ψ env M1 Q else Q false M1
def dOr (φ ψ : DT) : DT := fun env M Q => φ env M fun b M1 => if b = true then Q true M1 else ψ env M1 Q
def dNot (φ : DT) : DT := fun env M Q => φ env M fun b M1 => Q (!b) M1
theorem ST.and {t u : TT} {φ ψ : DT} (h : ST K t φ) (g : ST K u ψ) : ST K (tAnd t u) (dAnd φ ψ) := by
  intro env M Q σ B H QV hs hc q k
  refine h env M _ σ B H _ hs hc q fun b M1 B1 H1 q1 n1 => ?_
  cases b with
  | true =>
    rw [if_pos rfl] at q1 ⊢
    exact g env M1 Q σ B1 H1 QV (hs.mono n1.ext) n1.st q1 fun b M' B' H' q2 n2 => k b M' B' H' q2 (n1.trans n2)
  | false =>
    rw [if_neg Bool.false_ne_true] at q1 ⊢
    exact k _ _ _ _ q1 n1
theorem ST.or {t u : TT} {φ ψ : DT} (h : ST K t φ) (g : ST K u ψ) : ST K (tOr t u) (dOr φ ψ) := by
  intro env M Q σ B H QV hs hc q k
  refine h env M _ σ B H _ hs hc q fun b M1 B1 H1 q1 n1 => ?_
  cases b with
  | false =>
    rw [if_neg Bool.false_ne_true] at q1 ⊢
    exact g env M1 Q σ B1 H1 QV (hs.mono n1.ext) n1.st q1 fun b M' B' H' q2 n2 => k b M' B' H' q2 (n1.trans n2)
  | true =>
    rw [if_pos rfl] at q1 ⊢
    exact k _ _ _ _ q1 n1
theorem ST.not {t : TT} {φ : DT} (h : ST K t φ) : ST K (tNot t) (dNot φ) := fun env M Q σ B H QV hs hc q k => h env M _ σ B H _ hs hc q fun b M1 B1 H1 q1 n1 => k _ _ _ _ q1 n1
theorem wx_and1 {a : Expr} {t : TT} {φ : DT} {pos : Pos} (h : TX X a t φ) : WX X (.BoolOp .And [a] pos) t φ := ⟨pw_and1 h.pt, h.s⟩
theorem wx_or1 {a : Expr} {t : TT} {φ : DT} {pos : Pos} (h : TX X a t φ) : WX X (.BoolOp .Or [a] pos) t φ := ⟨pw_or1 h.pt, h.s⟩
theorem wx_and {a b : Expr} {rest : List Expr} {t u : TT} {φ ψ : DT} {pos : Pos} (h : TX X a t φ) (g : WX X (.BoolOp .And (b :: rest) pos) u ψ) : WX X (.BoolOp .And (a :: b :: rest) pos) (tAnd t u) (dAnd φ ψ) := ⟨pw_and h.pt g.pw, ST.and h.s g.s⟩
theorem wx_or {a b : Expr} {rest : List Expr} {t u : TT} {φ ψ : DT} {pos : Pos} (h : TX X a t φ) (g : WX X (.BoolOp .Or (b :: rest) pos) u ψ) : WX X (.BoolOp .Or (a :: b :: rest) pos) (tOr t u) (dOr φ ψ) := ⟨pw_or h.pt g.pw, ST.or h.s g.s⟩
theorem tx_not {a : Expr} {t : TT} {φ : DT} {pos : Pos} (h : TX X a t φ) : TX X (.UnaryOp .Not a pos) (tNot t) (dNot φ) := ⟨pt_not h.pt, ST.not h.s⟩
/-- as values -/
def dAndV (φ ψ : DE) : DE := fun env M Q => φ env M fun r M1 => blR r fun b => if b = true then ψ env M1 Q else Q (.d (.bl false)) M1
def dOrV (φ ψ : DE) : DE := fun env M Q => φ env M fun r M1 => blR r fun b => if b = true then Q (.d (.bl true)) M1 else ψ env M1 Q
def dNotV (φ : DE) : DE := fun env M Q => φ env M fun r M1 => blR r fun b => Q (.d (.bl (!b))) M1
theorem SE.andV {t u : TE} {φ ψ : DE} (h : SE K t φ) (g : SE K u ψ) : SE K (tAndV t u) (dAndV φ ψ) := by
  intro env M Q σ B H QV hs hc q k
  refine h env M _ σ B H _ hs hc q fun r M1 v B1 H1 q1 n1 r1 => ?_
  obtain ⟨b, rfl, q2⟩ := blR_ok r1 q1
  refine ⟨b, rfl, ?_⟩
  cases b with
  | true =>
    rw [if_pos rfl] at q2 ⊢
    exact g env M1 Q σ B1 H1 QV (hs.mono n1.ext) n1.st q2 fun r M' v B' H' q3 n2 r2 => k r M' v B' H' q3 (n1.trans n2) (r2.back n1)
  | false =>
    rw [if_neg Bool.false_ne_true] at q2 ⊢
    exact k _ _ _ _ _ q2 n1 (.bl false)
theorem SE.orV {t u : TE} {φ ψ : DE} (h : SE K t φ) (g : SE K u ψ) : SE K (tOrV t u) (dOrV φ ψ) := by
  intro env M Q σ B H QV hs hc q k
  refine h env M _ σ B H _ hs hc q fun r M1 v B1 H1 q1 n1 r1 => ?_
  obtain ⟨b, rfl, q2⟩ := blR_ok r1 q1
  refine ⟨b, rfl, ?_⟩
  cases b with
  | false =>
    rw [if_neg Bool.false_ne_true] at q2 ⊢
    exact g env M1 Q σ B1 H1 QV (hs.mono n1.ext) n1.st q2 fun r M' v B' H' q3 n2 r2 => k r M' v B' H' q3 (n1.trans n2) (r2.back n1)
  | true =>
    rw [if_pos rfl] at q2 ⊢
    exact k _ _ _ _ _ q2 n1 (.bl true)
theorem SE.notV {t : TE} {φ : DE} (h : SE K t φ) : SE K (tNotV t) (dNotV φ) := by
  intro env M Q σ B H QV hs hc q k
  refine h env M _ σ B H _ hs hc q fun r M1 v B1 H1 q1 n1 r1 => ?_
  obtain ⟨b, rfl, q2⟩ := blR_ok r1 q1
  exact ⟨b, rfl, k _ _ _ _ _ q2 n1 (.bl _)⟩
theorem ex_one {op} {a : Expr} {t : TE} {φ : DE} {pos : Pos} (h : EX X a t φ) : EX X (.BoolOp op [a] pos) t φ := ⟨pe_one h.pe, h.s⟩
theorem ex_and {a b : Expr} {rest : List Expr} {t u : TE} {φ ψ : DE} {pos : Pos} (h : EX X a t φ) (g : EX X (.BoolOp .And (b :: rest) pos) u ψ) : EX X (.BoolOp .And (a :: b :: rest) pos) (tAndV t u) (dAndV φ ψ) := ⟨pe_and h.pe g.pe, SE.andV h.s g.s⟩
theorem ex_or {a b : Expr} {rest : List Expr} {t u : TE} {φ ψ : DE} {pos : Pos} (h : EX X a t φ) (g : EX X (.BoolOp .Or (b :: rest) pos) u ψ) : EX X (.BoolOp .Or (a :: b :: rest) pos) (tOrV t u) (dOrV φ ψ) := ⟨pe_or h.pe g.pe, SE.orV h.s g.s⟩
theorem ex_not {a : Expr} {t : TE} {φ : DE} {pos : Pos} (h : EX X a t φ) : EX X (.UnaryOp .Not a pos) (tNotV t) (dNotV φ) := ⟨pe_not h.pe, SE.notV h.s⟩
def dIf (τ : DT) (φ ψ : DE) : DE := fun env M Q => τ env M fun b M1 => if b = true then φ env M1 Q else ψ env M1 Q
theorem ex_if {c a b : Expr} {tc : TT} {t u : TE} {τ : DT} {φ ψ : DE} {pos : Pos} (hc : TX X c tc τ) (ha : EX X a t φ) (hb : EX X b u ψ) : EX X (.IfExp c a b pos) (tIf tc t u) (dIf τ φ ψ) := by
  refine ⟨pe_ifExp hc.pt ha.pe hb.pe, fun env M Q σ B H QV hs hc' q k => ?_⟩
  refine hc.s env M _ σ B H _ hs hc' q fun b M1 B1 H1 q1 n1 => ?_
  cases b with
  | true =>
    rw [if_pos rfl] at q1 ⊢
    exact ha.s env M1 Q σ B1 H1 QV (hs.mono n1.ext) n1.st q1 fun r M' v B' H' q3 n2 r2 => k r M' v B' H' q3 (n1.trans n2) (r2.back n1)
  | false =>
    rw [if_neg Bool.false_ne_true] at q1 ⊢
    exact hb.s env M1 Q σ B1 H1 QV (hs.mono n1.ext) n1.st q1 fun r M' v B' H' q3 n2 r2 => k r M' v B' H' q3 (n1.trans n2) (r2.back n1)
/-! ### arguments, displays -/
def dNil : DA := fun _ M Q => Q [] M
def dCons (φ : DE) (ψ : DA) : DA := fun env M Q => φ env M fun r M1 => ψ env M1 fun ds M2 => Q (settle r :: ds) M2
theorem SA.nil : SA K tNil dNil := fun env M Q σ B H QV hs hc q k => k _ _ _ _ _ q (Nx.refl hc) .nil
theorem SA.cons {t : TE} {u : TA} {φ : DE} {ψ : DA} (h : SE K t φ) (g : SA K u ψ) : SA K (tCons t u) (dCons φ ψ) := by
  intro env M Q σ B H QV hs hc q k
  refine h env M _ σ B H _ hs hc q fun r M1 v B1 H1 q1 n1 r1 => ?_
  obtain ⟨B2, n2, g2, _⟩ := settle_ok r1 n1
  refine g env M1 _ σ B2 H1 _ (hs.mono n2.ext) n2.st q1 fun ds M' vs B' H' q3 n3 r3 => ?_
  exact k _ _ _ _ _ q3 (n2.trans n3) (.cons (g2.mono n3.ext) r3)
theorem ax_nil : AX X [] tNil dNil := ⟨pa_nil, SA.nil⟩
theorem ax_cons {e : Expr} {es : List Expr} {t : TE} {u : TA} {φ : DE} {ψ : DA} (h : EX X e t φ) (g : AX X es u ψ) (hs : starEach (e :: es) X.env = (false, eval e X.env) :: starEach es X.env := by rfl) : AX X (e :: es) (tCons t u) (dCons φ ψ) := ⟨pa_cons h.pe g.pa hs, SA.cons h.s g.s⟩
def dTup (ψ : DA) : DE := fun env M Q => ψ env M fun ds M1 => ds.length ≤ sizeLine ∧ Q (.d (.tup ds)) M1
def dLst (ψ : DA) : DE := fun env M Q => ψ env M fun ds M1 => ds.length ≤ sizeLine ∧ Q (.new (.lst ds)) M1
/-- a new list -/
theorem RR.newL {B : Hp} {M : Mem} {H : Hp} {p : Addr} {xs : List V} {ds : List Dat} (s : Cs K B M H) (h : H p = none) (r : RpA K B xs ds) : Nx K B M H B M (upd H p (.lst xs)) ∧ RR K B M H (upd H p (.lst xs)) (.ref p) (.new (.lst ds)) := by
  refine ⟨Nx.same s (ex_upd h), p, rfl, h, ?_, ?_, xs, upd_same, r⟩
  · cases q : B p with
    | none => rfl
    | some o =>
      rw [s.ex p o q] at h
      cases h
  · cases q : M p with
    | none => rfl
    | some m =>
      obtain ⟨o, ho⟩ := s.there q
      rw [ho] at h
      cases h
/-- a new tuple -/
theorem RR.newT {B : Hp} {M : Mem} {H : Hp} {p : Addr} {xs : List V} {ds : List Dat} (s : Cs K B M H) (h : H p = none) (r : RpA K B xs ds) : Nx K B M H (upd B p (.tup xs)) M (upd H p (.tup xs)) ∧ Rp K (upd B p (.tup xs)) (.ref p) (.tup ds) := by
  have n := Nx.fresh (o := .tup xs) s h
  exact ⟨n, .tup (SqT.of upd_same) (r.mono n.ext)⟩
theorem ex_tup {es : List Expr} {u : TA} {ψ : DA} {x1} {pos : Pos} (h : AX X es u ψ) : EX X (.Tuple es x1 pos) (tTup u) (dTup ψ) := by
  refine ⟨pe_tup h.pa, fun env M Q σ B H QV hs hc q k => ?_⟩
  refine h.s env M _ σ B H _ hs hc q fun ds M1 vs B1 H1 q1 n1 r1 => ?_
  obtain ⟨z, q2⟩ := q1
  refine ⟨by rw [r1.length]; exact z, fun p hp => ?_⟩
  obtain ⟨n2, g2⟩ := RR.newT n1.st hp r1
  exact k _ _ _ _ _ q2 (n1.trans n2) g2
theorem ex_lst {es : List Expr} {u : TA} {ψ : DA} {pos : Pos} (h : AX X es u ψ) : EX X (.List es pos) (tLst u) (dLst ψ) := by
  refine ⟨pe_lst h.pa, fun env M Q σ B H QV hs hc q k => ?_⟩
  refine h.s env M _ σ B H _ hs hc q fun ds M1 vs B1 H1 q1 n1 r1 => ?_
  obtain ⟨z, q2⟩ := q1
  refine ⟨by rw [r1.length]; exact z, fun p hp => ?_⟩
  obtain ⟨n2, g2⟩ := RR.newL n1.st hp r1
  exact k _ _ _ _ _ q2 (n1.trans n2) (g2.back n1)
end
end Dl
set_option Elab.async false
set_option linter.all false
set_option maxRecDepth 100000
set_option maxHeartbeats 4000000
namespace Dl
open PySem PySem.Spec PyProof.Rows L2

/-! ### sequences read -/
def LstR (M : Mem) : Rv → List Dat → Prop
  | .d (.lst xs), ys => ys = xs
  | .d (.cell p), ys => M p = some (.lst ys)
  | .new (.lst xs), ys => ys = xs
  | _, _ => False
def SeqR (M : Mem) : Rv → List Dat → Prop
  | .d (.lst xs), ys => ys = xs
  | .d (.tup xs), ys => ys = xs
  | .d (.fz xs), ys => ys = xs
  | .d (.cell p), ys => M p = some (.lst ys)
  | .new (.lst xs), ys => ys = xs
  | _, _ => False
section
variable {X : Cx} {K : PySem.W.Frag} {B : Hp} {M : Mem} {H0 H : Hp} {v : V} {r : Rv} {ys : List Dat}
theorem LstR.at (hc : Cs K B M H) (h : RR K B M H0 H v r) (q : LstR M r ys) : ∃ p xs, v = .ref p ∧ H p = some (.lst xs) ∧ RpA K B xs ys := by
  unfold LstR at q
  split at q
  · subst q
    cases h with
    | lst h1 h2 => exact ⟨_, _, rfl, hc.ex _ _ h1, h2⟩
  · cases h
    obtain ⟨_, xs, h1, h2⟩ := hc.cell _ _ q
    exact ⟨_, xs, rfl, h1, h2⟩
  · subst q
    obtain ⟨p, rfl, _, _, _, xs, h1, h2⟩ := h
    exact ⟨p, xs, rfl, h1, h2⟩
  · exact q.elim
theorem SeqR.at (hc : Cs K B M H) (h : RR K B M H0 H v r) (q : SeqR M r ys) : ∃ p xs, v = .ref p ∧ (SqL K H p xs ∨ SqT K H p xs) ∧ RpA K B xs ys := by
  unfold SeqR at q
  split at q
  · subst q
    cases h with
    | lst h1 h2 => exact ⟨_, _, rfl, Or.inl (SqL.of (hc.ex _ _ h1)), h2⟩
  · subst q
    cases h with
    | tup h1 h2 => exact ⟨_, _, rfl, Or.inr (hc.ex.st h1), h2⟩
  · subst q
    cases h with
    | fz h1 h2 => exact ⟨_, _, rfl, Or.inl (hc.ex.sl h1), h2⟩
  · cases h
    obtain ⟨_, xs, h1, h2⟩ := hc.cell _ _ q
    exact ⟨_, xs, rfl, Or.inl (SqL.of h1), h2⟩
  · subst q
    obtain ⟨p, rfl, _, _, _, xs, h1, h2⟩ := h
    exact ⟨p, xs, rfl, Or.inl (SqL.of h1), h2⟩
  · exact q.elim

/-! ### + -/
def oAdd : D2 := fun ra rb M Q => match ra, rb with
  | .d (.int i), .d (.int j) => Q (.d (.int (i + j))) M
  | .d (.str a), .d (.str b) => a.length + b.length ≤ sizeLine ∧ Q (.d (.str (a ++ b))) M
  | .d (.tup as), .d (.tup bs) => as.length + bs.length ≤ sizeLine ∧ Q (.d (.tup (as ++ bs))) M
  | ra, rb => ∃ as bs, LstR M ra as ∧ LstR M rb bs ∧ as.length + bs.length ≤ sizeLine ∧ Q (.new (.lst (as ++ bs))) M
def rAddS : R2 := fun x y H Q => ∃ i j, x = .str i ∧ y = .str j ∧ i.length + j.length ≤ sizeLine ∧ Q (.str (i ++ j)) H
def rAddAny (K : PySem.W.Frag) : R2 := fun x y H Q => rI0 (fun i j => .int (i + j)) x y H Q ∨ rAddS x y H Q ∨ rCatA K x y H Q ∨ rCat x y H Q
theorem op_addAny : OpR X (binaryOp .Add) (rAddAny X.K) := op_add.or (OpR.or (r := rAddS) op_add_str (op_catA.or op_cat))
theorem s2_add : S2 K (rAddAny K) oAdd := by
  intro B M H0 H x y rx ry Q QV hc h1 h2 q k
  unfold oAdd at q
  split at q
  · cases h1
    cases h2
    exact Or.inl ⟨_, _, rfl, rfl, k _ _ _ _ _ q (Nx.refl hc) (.int _)⟩
  · cases h1
    cases h2
    exact Or.inr (Or.inl ⟨_, _, rfl, rfl, q.1, k _ _ _ _ _ q.2 (Nx.refl hc) (.str _)⟩)
  · obtain ⟨z, q⟩ := q
    cases h1 with
    | tup a1 b1 =>
      cases h2 with
      | tup a2 b2 =>
        rename_i a xs b ys
        have l1 := b1.length
        have l2 := b2.length
        refine Or.inr (Or.inr (Or.inl ⟨_, _, _, _, rfl, rfl, hc.ex.st a1, hc.ex.st a2, by omega, fun e => ?_, fun e1 e2 => ?_, fun e1 e2 p hp => ?_⟩))
        · subst e
          cases b1
          exact k _ _ _ _ _ q (Nx.refl hc) (.tup a2 b2)
        · subst e2
          cases b2
          rw [List.append_nil] at q
          exact k _ _ _ _ _ q (Nx.refl hc) (.tup a1 b1)
        · obtain ⟨n, g⟩ := RR.newT hc hp (b1.append b2)
          exact k _ _ _ _ _ q n g
  · obtain ⟨as, bs, g1, g2, z, q⟩ := q
    obtain ⟨p1, xs, rfl, e1, r1⟩ := g1.at hc h1
    obtain ⟨p2, ys, rfl, e2, r2⟩ := g2.at hc h2
    have l1 := r1.length
    have l2 := r2.length
    refine Or.inr (Or.inr (Or.inr ⟨_, _, _, _, rfl, rfl, e1, e2, by omega, fun p hp => ?_⟩))
    obtain ⟨n, g⟩ := RR.newL hc hp (r1.append r2)
    exact k _ _ _ _ _ q n g
/-! ### ints -/
def oII (C : Int → Int → Prop) (f : Int → Int → Int) : D2 := fun ra rb M Q => match ra, rb with
  | .d (.int i), .d (.int j) => C i j ∧ Q (.d (.int (f i j))) M
  | _, _ => False
theorem s2_ii {C : Int → Int → Prop} {f : Int → Int → Int} : S2 K (rI C fun i j => .int (f i j)) (oII C f) := by
  intro B M H0 H x y rx ry Q QV hc h1 h2 q k
  unfold oII at q
  split at q
  · cases h1
    cases h2
    exact ⟨_, _, rfl, rfl, q.1, k _ _ _ _ _ q.2 (Nx.refl hc) (.int _)⟩
  · exact q.elim
def oI0 (f : Int → Int → Int) : D2 := fun ra rb M Q => match ra, rb with
  | .d (.int i), .d (.int j) => Q (.d (.int (f i j))) M
  | _, _ => False
theorem s2_i0 {f : Int → Int → Int} : S2 K (rI0 fun i j => .int (f i j)) (oI0 f) := by
  intro B M H0 H x y rx ry Q QV hc h1 h2 q k
  unfold oI0 at q
  split at q
  · cases h1
    cases h2
    exact ⟨_, _, rfl, rfl, k _ _ _ _ _ q (Nx.refl hc) (.int _)⟩
  · exact q.elim
def oIB (f : Int → Int → Bool) : D2 := fun ra rb M Q => match ra, rb with
  | .d (.int i), .d (.int j) => Q (.d (.bl (f i j))) M
  | _, _ => False
theorem s2_ib {f : Int → Int → Bool} : S2 K (rI0 fun i j => .bl (f i j)) (oIB f) := by
  intro B M H0 H x y rx ry Q QV hc h1 h2 q k
  unfold oIB at q
  split at q
  · cases h1
    cases h2
    exact ⟨_, _, rfl, rfl, k _ _ _ _ _ q (Nx.refl hc) (.bl _)⟩
  · exact q.elim
abbrev oSub : D2 := oI0 fun i j => i - j
abbrev oMulI : D2 := oII CMul fun i j => i * j
abbrev oDivI : D2 := oII CDivW fun i j => i / j
abbrev oModI : D2 := oII (fun _ j => 0 < j) fun i j => i % j
abbrev oPow : D2 := oII CPow fun i j => i ^ j.toNat
abbrev oLt : D2 := oIB fun i j => decide (i < j)
abbrev oLe : D2 := oIB fun i j => decide (i ≤ j)
abbrev oGt : D2 := oIB fun i j => decide (j < i)
abbrev oGe : D2 := oIB fun i j => decide (j ≤ i)
section
variable {a b : Expr} {ta tb : TE} {φa φb : DE} {pos : Pos}
theorem ex_add (ha : EX X a ta φa) (hb : EX X b tb φb) : EX X (.BinOp a .Add b pos) (tOp (rAddAny X.K) ta tb) (dOp oAdd φa φb) := ex_op op_addAny s2_add ha hb
theorem ex_sub (ha : EX X a ta φa) (hb : EX X b tb φb) : EX X (.BinOp a .Sub b pos) (tOp (rI0 fun i j => .int (i - j)) ta tb) (dOp oSub φa φb) := ex_op op_sub s2_i0 ha hb
theorem ex_mulI (ha : EX X a ta φa) (hb : EX X b tb φb) : EX X (.BinOp a .Mult b pos) (tOp (rI CMul fun i j => .int (i * j)) ta tb) (dOp oMulI φa φb) := ex_op op_mul s2_ii ha hb
theorem ex_div (ha : EX X a ta φa) (hb : EX X b tb φb) : EX X (.BinOp a .FloorDiv b pos) (tOp (rI CDivW fun i j => .int (i / j)) ta tb) (dOp oDivI φa φb) := ex_op op_fdivW s2_ii ha hb
theorem ex_mod (ha : EX X a ta φa) (hb : EX X b tb φb) : EX X (.BinOp a .Mod b pos) (tOp (rI (fun _ j => 0 < j) fun i j => .int (i % j)) ta tb) (dOp oModI φa φb) := ex_op op_mod s2_ii ha hb
theorem ex_pow (ha : EX X a ta φa) (hb : EX X b tb φb) : EX X (.BinOp a .Pow b pos) (tOp (rI CPow fun i j => .int (i ^ j.toNat)) ta tb) (dOp oPow φa φb) := ex_op op_pow s2_ii ha hb
theorem ex_lt (ha : EX X a ta φa) (hb : EX X b tb φb) : EX X (.Compare a [.Lt] [b] pos) (tOp (rI0 fun i j => .bl (decide (i < j))) ta tb) (dOp oLt φa φb) := ex_cmp op_lt s2_ib ha hb (nomark _)
theorem ex_le (ha : EX X a ta φa) (hb : EX X b tb φb) : EX X (.Compare a [.LtE] [b] pos) (tOp (rI0 fun i j => .bl (decide (i ≤ j))) ta tb) (dOp oLe φa φb) := ex_cmp op_le s2_ib ha hb (nomark _)
theorem ex_gt (ha : EX X a ta φa) (hb : EX X b tb φb) : EX X (.Compare a [.Gt] [b] pos) (tOp (rI0 fun i j => .bl (decide (j < i))) ta tb) (dOp oGt φa φb) := ex_cmp op_gt s2_ib ha hb (nomark _)
theorem ex_ge (ha : EX X a ta φa) (hb : EX X b tb φb) : EX X (.Compare a [.GtE] [b] pos) (tOp (rI0 fun i j => .bl (decide (j ≤ i))) ta tb) (dOp oGe φa φb) := ex_cmp op_ge s2_ib ha hb (nomark _)
theorem tx_lt (ha : EX X a ta φa) (hb : EX X b tb φb) : TX X (.Compare a [.Lt] [b] pos) (tTest (tOp (rI0 fun i j => .bl (decide (i < j))) ta tb)) (dTest (dOp oLt φa φb)) := tx_cmp op_lt s2_ib ha hb (nomark _)
theorem tx_le (ha : EX X a ta φa) (hb : EX X b tb φb) : TX X (.Compare a [.LtE] [b] pos) (tTest (tOp (rI0 fun i j => .bl (decide (i ≤ j))) ta tb)) (dTest (dOp oLe φa φb)) := tx_cmp op_le s2_ib ha hb (nomark _)
theorem tx_gt (ha : EX X a ta φa) (hb : EX X b tb φb) : TX X (.Compare a [.Gt] [b] pos) (tTest (tOp (rI0 fun i j => .bl (decide (j < i))) ta tb)) (dTest (dOp oGt φa φb)) := tx_cmp op_gt s2_ib ha hb (nomark _)
theorem tx_ge (ha : EX X a ta φa) (hb : EX X b tb φb) : TX X (.Compare a [.GtE] [b] pos) (tTest (tOp (rI0 fun i j => .bl (decide (j ≤ i))) ta tb)) (dTest (dOp oGe φa φb)) := tx_cmp op_ge s2_ib ha hb (nomark _)
/-- a <= b <= c -/
theorem tx_lele {c : Expr} {tc : TE} {φc : DE} (ha : EX X a ta φa) (hb : EX X b tb φb) (hc : EX X c tc φc) (hm : lastMarks [CmpOp.LtE, CmpOp.LtE] [b, c] = false := by with_unfolding_all rfl) :
    TX X (.Compare a [.LtE, .LtE] [b, c] pos) (tTest (tChain (rI0 fun i j => .bl (decide (i ≤ j))) (rI0 fun i j => .bl (decide (i ≤ j))) ta tb tc)) (dTest (dChain oLe oLe φa φb φc)) :=
  ⟨pt_chain op_le op_le ha.pe hb.pe hc.pe (hm := hm), ST.test (SE.chain ha.s hb.s hc.s s2_ib s2_ib)⟩
theorem tx_lelt {c : Expr} {tc : TE} {φc : DE} (ha : EX X a ta φa) (hb : EX X b tb φb) (hc : EX X c tc φc) (hm : lastMarks [CmpOp.LtE, CmpOp.Lt] [b, c] = false := by with_unfolding_all rfl) :
    TX X (.Compare a [.LtE, .Lt] [b, c] pos) (tTest (tChain (rI0 fun i j => .bl (decide (i ≤ j))) (rI0 fun i j => .bl (decide (i < j))) ta tb tc)) (dTest (dChain oLe oLt φa φb φc)) :=
  ⟨pt_chain op_le op_lt ha.pe hb.pe hc.pe (hm := hm), ST.test (SE.chain ha.s hb.s hc.s s2_ib s2_ib)⟩
/-! ### -a -/
def dNeg (φ : DE) : DE := fun env M Q => φ env M fun r M1 => match r with
  | .d (.int i) => Q (.d (.int (-i))) M1
  | _ => False
theorem ex_neg (ha : EX X a ta φa) : EX X (.UnaryOp .USub a pos) (tUn (rU fun i => .int (-i)) ta) (dNeg φa) := by
  refine ⟨pe_un un_neg ha.pe, fun env M Q σ B H QV hs hc q k => ?_⟩
  refine ha.s env M _ σ B H _ hs hc q fun r M1 v B1 H1 q1 n1 r1 => ?_
  split at q1
  · cases r1
    exact ⟨_, rfl, k _ _ _ _ _ q1 n1 (.int _)⟩
  · exact q1.elim
end
end

/-! ### data without instances, as PyData -/
mutual
inductive PyOf (M : Mem) : Dat → PyData → Prop
  | non : PyOf M .non .none
  | bl (b : Bool) : PyOf M (.bl b) (.bool b)
  | int (i : Int) : PyOf M (.int i) (.int i)
  | str (x : Str) : PyOf M (.str x) (.str x)
  | tup {xs : List Dat} {ps : List PyData} : PyOfA M xs ps → PyOf M (.tup xs) (.tuple ps)
  | lst {xs : List Dat} {ps : List PyData} : PyOfA M xs ps → PyOf M (.lst xs) (.list ps)
  | fz {xs : List Dat} {ps : List PyData} : PyOfA M xs ps → PyOf M (.fz xs) (.list ps)
  | cell {p : Addr} {xs : List Dat} {ps : List PyData} : M p = some (.lst xs) → PyOfA M xs ps → PyOf M (.cell p) (.list ps)
inductive PyOfA (M : Mem) : List Dat → List PyData → Prop
  | nil : PyOfA M [] []
  | cons {d : Dat} {ds : List Dat} {p : PyData} {ps : List PyData} : PyOf M d p → PyOfA M ds ps → PyOfA M (d :: ds) (p :: ps)
end
section
variable {K : PySem.W.Frag} {B : Hp} {M : Mem} {H0 H : Hp} {v : V} {r : Rv}
mutual
theorem PyOf.dp (hc : Cs K B M H) : ∀ {d : Dat} {p : PyData} {v : V}, PyOf M d p → Rp K B v d → Dp K H v p
  | _, _, _, .non, h => by cases h; exact .non
  | _, _, _, .bl b, h => by cases h; exact .bl b
  | _, _, _, .int i, h => by cases h; exact .int i
  | _, _, _, .str x, h => by cases h; exact .str x
  | _, _, _, .tup a, h => by
    cases h with
    | tup h1 h2 => exact .tup (hc.ex.st h1) (PyOfA.dp hc a h2)
  | _, _, _, .lst a, h => by
    cases h with
    | lst h1 h2 => exact .lst (SqL.of (hc.ex _ _ h1)) (PyOfA.dp hc a h2)
  | _, _, _, .fz a, h => by
    cases h with
    | fz h1 h2 => exact .lst (hc.ex.sl h1) (PyOfA.dp hc a h2)
  | _, _, _, .cell e a, h => by
    cases h
    obtain ⟨_, xs, h1, h2⟩ := hc.cell _ _ e
    exact .lst (SqL.of h1) (PyOfA.dp hc a h2)
theorem PyOfA.dp (hc : Cs K B M H) : ∀ {ds : List Dat} {ps : List PyData} {vs : List V}, PyOfA M ds ps → RpA K B vs ds → DpAll K H vs ps
  | _, _, _, .nil, h => by cases h; exact .nil
  | _, _, _, .cons a b, h => by
    cases h with
    | cons h1 h2 => exact .cons (PyOf.dp hc a h1) (PyOfA.dp hc b h2)
end
def PyR (M : Mem) : Rv → PyData → Prop
  | .d x, p => PyOf M x p
  | .new (.lst xs), p => ∃ ps, p = .list ps ∧ PyOfA M xs ps
  | .new (.obj _ _), _ => False
theorem PyR.dp {p : PyData} (hc : Cs K B M H) (h : RR K B M H0 H v r) (q : PyR M r p) : Dp K H v p := by
  unfold PyR at q
  split at q
  · exact q.dp hc h
  · obtain ⟨ps, rfl, q⟩ := q
    obtain ⟨a, rfl, _, _, _, xs, h1, h2⟩ := h
    exact .lst (SqL.of h1) (q.dp hc h2)
  · exact q.elim
theorem PyOfA.ints (M : Mem) : ∀ ns : List Int, PyOfA M (ns.map Dat.int) (ns.map PyData.int)
  | [] => .nil
  | n :: r => .cons (.int n) (PyOfA.ints M r)
theorem PyOfA.map {α : Type} {f : α → Dat} {g : α → PyData} (h : ∀ a, PyOf M (f a) (g a)) : ∀ xs : List α, PyOfA M (xs.map f) (xs.map g)
  | [] => .nil
  | n :: r => .cons (h n) (PyOfA.map h r)
end

section
variable {X : Cx} {K : PySem.W.Frag}
/-! ### ==, != -/
def oEqB (n : Bool) : D2 := fun ra rb M Q => match ra, rb with
  | .d (.int i), .d (.int j) => Q (.d (.bl (n != decide (i = j)))) M
  | .d (.str a), .d (.str b) => Q (.d (.bl (n != decide (a = b)))) M
  | ra, rb => ∃ a b, PyR M ra a ∧ PyR M rb b ∧ SeqAt.shaped a = true ∧ SeqAt.shaped b = true ∧ Q (.d (.bl (n != PyData.eqv a b))) M
abbrev oEq : D2 := oEqB false
abbrev oNe : D2 := oEqB true
def rEqAny (K : PySem.W.Frag) : R2 := fun x y H Q => rEq x y H Q ∨ rEqD K x y H Q
def rNeAny (K : PySem.W.Frag) : R2 := fun x y H Q => rNe x y H Q ∨ rNeD K x y H Q
theorem op_eqAny (hu : X.A.units + 64 < cLine) : OpR X (compareOp .Eq) (rEqAny X.K) := op_eq.or (op_eqD hu)
theorem op_neAny (hu : X.A.units + 64 < cLine) : OpR X (compareOp .NotEq) (rNeAny X.K) := op_ne.or (op_neD hu)
theorem s2_eq : S2 K (rEqAny K) oEq := by
  intro B M H0 H x y rx ry Q QV hc h1 h2 q k
  unfold oEq oEqB at q
  split at q
  · cases h1
    cases h2
    rename_i i j
    refine Or.inl ⟨rfl, ?_⟩
    have e : decide (V.int i = V.int j) = (false != decide (i = j)) := by
      rw [dec_int, Bool.false_bne] <;> rfl
    rw [e]
    exact k _ _ _ _ _ q (Nx.refl hc) (.bl _)
  · cases h1
    cases h2
    rename_i i j
    refine Or.inl ⟨rfl, ?_⟩
    have e : decide (V.str i = V.str j) = (false != decide (i = j)) := by
      rw [Bool.false_bne]
      by_cases z : i = j
      · rw [decide_eq_true z, z] <;> simp
      · rw [decide_eq_false z]
        exact decide_eq_false fun q => z (V.str.inj q)
    rw [e]
    exact k _ _ _ _ _ q (Nx.refl hc) (.bl _)
  · obtain ⟨a, b, g1, g2, s1, s2, q⟩ := q
    refine Or.inr ⟨a, b, g1.dp hc h1, g2.dp hc h2, s1, s2, ?_⟩
    rw [Bool.false_bne] at q
    exact k _ _ _ _ _ q (Nx.refl hc) (.bl _)
theorem s2_ne : S2 K (rNeAny K) oNe := by
  intro B M H0 H x y rx ry Q QV hc h1 h2 q k
  unfold oNe oEqB at q
  split at q
  · cases h1
    cases h2
    rename_i i j
    refine Or.inl ⟨rfl, ?_⟩
    have e : (!decide (V.int i = V.int j)) = (true != decide (i = j)) := by
      rw [dec_int, Bool.true_bne] <;> rfl
    rw [e]
    exact k _ _ _ _ _ q (Nx.refl hc) (.bl _)
  · cases h1
    cases h2
    rename_i i j
    refine Or.inl ⟨rfl, ?_⟩
    have e : (!decide (V.str i = V.str j)) = (true != decide (i = j)) := by
      rw [Bool.true_bne]
      by_cases z : i = j
      · rw [decide_eq_true z, z] <;> simp
      · rw [decide_eq_false z]
        exact congrArg Bool.not (decide_eq_false fun q => z (V.str.inj q))
    rw [e]
    exact k _ _ _ _ _ q (Nx.refl hc) (.bl _)
  · obtain ⟨a, b, g1, g2, s1, s2, q⟩ := q
    refine Or.inr ⟨a, b, g1.dp hc h1, g2.dp hc h2, s1, s2, ?_⟩
    rw [Bool.true_bne] at q
    exact k _ _ _ _ _ q (Nx.refl hc) (.bl _)
/-! ### in, not in: flat items -/
def flatO : Dat → Option V
  | .non => some .non
  | .bl b => some (.bl b)
  | .int i => some (.int i)
  | .str x => some (.str x)
  | _ => none
theorem flatO_ok {B : Hp} {d : Dat} {v u : V} (h : flatO d = some u) (r : Rp K B v d) : v = u ∧ flatV u = true := by
  cases r <;> first
    | (have e := Option.some.inj h; subst e; exact ⟨rfl, rfl⟩)
    | cases h
theorem flatO_all {B : Hp} : ∀ {ds : List Dat} {vs us : List V}, ds.mapM flatO = some us → RpA K B vs ds → vs = us ∧ us.all flatV = true
  | [], _, us, h, .nil => by
    have e : us = [] := by simpa using h.symm
    subst e
    exact ⟨rfl, rfl⟩
  | d :: ds, _, us, h, .cons r a => by
    rw [List.mapM_cons] at h
    cases e1 : flatO d with
    | none =>
      rw [e1] at h
      cases h
    | some u =>
      rw [e1] at h
      cases e2 : ds.mapM flatO with
      | none =>
        rw [e2] at h
        cases h
      | some us' =>
        rw [e2] at h
        have e3 : u :: us' = us := Option.some.inj h
        subst e3
        obtain ⟨g1, g2⟩ := flatO_ok e1 r
        obtain ⟨g3, g4⟩ := flatO_all e2 a
        subst g1 g3
        exact ⟨rfl, by rw [List.all_cons, g2, g4] <;> rfl⟩
def oInB (n : Bool) : D2 := fun ra rb M Q => ∃ x u ys us, ra = .d x ∧ SeqR M rb ys ∧ flatO x = some u ∧ ys.mapM flatO = some us ∧ Q (.d (.bl (n != inV u us))) M
theorem s2_in {n : Bool} : S2 K (rIn K n) (oInB n) := by
  intro B M H0 H x y rx ry Q QV hc h1 h2 q k
  obtain ⟨d, u, ys, us, rfl, g1, g2, g3, q⟩ := q
  obtain ⟨p, xs, rfl, hp, ra⟩ := g1.at hc h2
  obtain ⟨rfl, f1⟩ := flatO_ok g2 h1
  obtain ⟨rfl, f2⟩ := flatO_all g3 ra
  refine ⟨p, xs, rfl, hp, f1, f2, ?_⟩
  have e : (n != inV x xs) = (if n then !inV x xs else inV x xs) := by
    cases n
    · rw [Bool.false_bne] <;> rfl
    · rw [Bool.true_bne] <;> rfl
  rw [e] at q
  exact k _ _ _ _ _ q (Nx.refl hc) (.bl _)
/-! ### is None -/
def isNo : Rv → Bool
  | .d .non => true
  | _ => false
theorem isNo_ok {B : Hp} {M : Mem} {H0 H : Hp} {v : V} {r : Rv} (h : RR K B M H0 H v r) : decide (v = .non) = isNo r := by
  cases r with
  | d x => cases h <;> first | rfl | exact decide_eq_false fun z => by cases z
  | new m =>
    obtain ⟨p, rfl, _⟩ := h
    exact decide_eq_false fun z => by cases z
def oIs (n : Bool) : D2 := fun ra rb M Q => rb = .d .non ∧ Q (.d (.bl (n != isNo ra))) M
def rIsN : R2 := fun x y H Q => y = .non ∧ Q (.bl (decide (x = .non))) H
def rNotN : R2 := fun x y H Q => y = .non ∧ Q (.bl (!decide (x = .non))) H
theorem s2_is : S2 K rIsN (oIs false) := by
  intro B M H0 H x y rx ry Q QV hc h1 h2 q k
  obtain ⟨rfl, q⟩ := q
  cases h2
  refine ⟨rfl, ?_⟩
  rw [isNo_ok h1]
  rw [Bool.false_bne] at q
  exact k _ _ _ _ _ q (Nx.refl hc) (.bl _)
theorem s2_nis : S2 K rNotN (oIs true) := by
  intro B M H0 H x y rx ry Q QV hc h1 h2 q k
  obtain ⟨rfl, q⟩ := q
  cases h2
  refine ⟨rfl, ?_⟩
  rw [isNo_ok h1]
  rw [Bool.true_bne] at q
  exact k _ _ _ _ _ q (Nx.refl hc) (.bl _)
section
variable {a b : Expr} {ta tb : TE} {φa φb : DE} {pos : Pos}
theorem ex_eq (hu : X.A.units + 64 < cLine) (ha : EX X a ta φa) (hb : EX X b tb φb) : EX X (.Compare a [.Eq] [b] pos) (tOp (rEqAny X.K) ta tb) (dOp oEq φa φb) := ex_cmp (op_eqAny hu) s2_eq ha hb (nomark _)
theorem ex_ne (hu : X.A.units + 64 < cLine) (ha : EX X a ta φa) (hb : EX X b tb φb) : EX X (.Compare a [.NotEq] [b] pos) (tOp (rNeAny X.K) ta tb) (dOp oNe φa φb) := ex_cmp (op_neAny hu) s2_ne ha hb (nomark _)
theorem tx_eq (hu : X.A.units + 64 < cLine) (ha : EX X a ta φa) (hb : EX X b tb φb) : TX X (.Compare a [.Eq] [b] pos) (tTest (tOp (rEqAny X.K) ta tb)) (dTest (dOp oEq φa φb)) := tx_cmp (op_eqAny hu) s2_eq ha hb (nomark _)
theorem tx_ne (hu : X.A.units + 64 < cLine) (ha : EX X a ta φa) (hb : EX X b tb φb) : TX X (.Compare a [.NotEq] [b] pos) (tTest (tOp (rNeAny X.K) ta tb)) (dTest (dOp oNe φa φb)) := tx_cmp (op_neAny hu) s2_ne ha hb (nomark _)
theorem tx_in (ha : EX X a ta φa) (hb : EX X b tb φb) (hm : behindInMarks .In b = false := by rfl) : TX X (.Compare a [.In] [b] pos) (tTest (tOp (rIn X.K false) ta tb)) (dTest (dOp (oInB false) φa φb)) := tx_cmp op_in_seq s2_in ha hb hm
theorem tx_nin (ha : EX X a ta φa) (hb : EX X b tb φb) (hm : behindInMarks .NotIn b = false := by rfl) : TX X (.Compare a [.NotIn] [b] pos) (tTest (tOp (rIn X.K true) ta tb)) (dTest (dOp (oInB true) φa φb)) := tx_cmp op_notIn_seq s2_in ha hb hm
theorem tx_is (ha : EX X a ta φa) (hb : EX X b tb φb) : TX X (.Compare a [.Is] [b] pos) (tTest (tOp rIsN ta tb)) (dTest (dOp (oIs false) φa φb)) := tx_cmp op_isN s2_is ha hb (nomark _)
theorem tx_nis (ha : EX X a ta φa) (hb : EX X b tb φb) : TX X (.Compare a [.IsNot] [b] pos) (tTest (tOp rNotN ta tb)) (dTest (dOp (oIs true) φa φb)) := tx_cmp op_notN s2_nis ha hb (nomark _)
end
end
end Dl
set_option Elab.async false
set_option linter.all false
set_option maxRecDepth 100000
set_option maxHeartbeats 4000000
namespace Dl
open PySem PySem.Spec PyProof.Rows L2
/-! ### tuple * int: the cases that HandS.TupMul leaves open -/
theorem mulT_same (l : Addr) (items : Array Value) (n : Nat) (dd : Option Addr) (sl : Array (Option Value)) (x : Int) (u : Tok) (c0 : (decide (x < -(2 ^ 63)) || decide (x ≥ 2 ^ 63)) = false) (c1 : (items.isEmpty || x == 1) = true) :
    Meets (Builtin.«tuple.__mul__» ⟨[.ref l, .int x u], []⟩) (fun _ R s => s.heap.get? l = some { cls := .type "tuple", dict := dd, data := .seq items n, slots := sl } ∧ R (.ok (.ret (Value.ref l))) s) :=
  .of_wp fun prog w A R s h => by
    obtain ⟨hp, g, d, tk, os⟩ := s
    obtain ⟨hl, h⟩ := h
    have f1 := AutoSeq1.idx_int
    wp_walk using wpAny_loadPart' hl
    repeat (first
      | (refine wpAny_ite_false (decide_eq_false (by rw [c0]; exact Bool.false_ne_true)) ?_; wp_walk using wpAny_loadPart' hl)
      | (refine wpAny_ite_true (decide_eq_true c1) ?_; wp_walk using wpAny_loadPart' hl))
    exact ⟨_, rfl, h⟩
theorem mulT_none (l : Addr) (items : Array Value) (n : Nat) (dd : Option Addr) (sl : Array (Option Value)) (x : Int) (u : Tok) (c0 : (decide (x < -(2 ^ 63)) || decide (x ≥ 2 ^ 63)) = false) (c1 : (items.isEmpty || x == 1) = false) (c2 : (decide (x ≤ 0) || items.isEmpty) = true) :
    Meets (Builtin.«tuple.__mul__» ⟨[.ref l, .int x u], []⟩) (fun _ R s => s.heap.get? l = some { cls := .type "tuple", dict := dd, data := .seq items n, slots := sl } ∧
      R (.ok (.ret (Value.ref s.heap.objs.size))) { s with heap := s.heap.push { cls := Value.type "tuple", data := Data.seq #[] }, toks := s.toks }) :=
  .of_wp fun prog w A R s h => by
    obtain ⟨hp, g, d, tk, os⟩ := s
    obtain ⟨hl, h⟩ := h
    have f1 := AutoSeq1.idx_int
    wp_walk using wpAny_loadPart' hl
    repeat (first
      | (refine wpAny_ite_false (decide_eq_false (by rw [c0]; exact Bool.false_ne_true)) ?_; wp_walk using wpAny_loadPart' hl)
      | (refine wpAny_ite_false (decide_eq_false (by rw [c1]; exact Bool.false_ne_true)) ?_; wp_walk using wpAny_loadPart' hl)
      | (refine wpAny_ite_true (decide_eq_true c2) ?_; wp_walk using wpAny_loadPart' hl))
    exact ⟨_, rfl, h⟩

def rRepA (K : PySem.W.Frag) : R2 := fun x y H Q => ∃ l k xs, x = .ref l ∧ y = .int k ∧ SqT K H l xs ∧ -1000 ≤ k ∧ k ≤ 1000 ∧ xs.length ≤ 1000 ∧ (xs = [] ∨ k = 1 → Q (.ref l) H) ∧ (¬ (xs = [] ∨ k = 1) → ∀ p, H p = none → Q (.ref p) (upd H p (.tup (List.replicate k.toNat xs).flatten)))
theorem op_repA {X : Cx} : OpR X (binaryOp .Mult) (rRepA X.K) := by
  intro pins s σ H x y v u Q I rx ry h
  obtain ⟨l, k, xs, rfl, rfl, hT, h1, h2, hz, q1, q2⟩ := h
  have c0 : (decide (k < -(2 ^ 63)) || decide (k ≥ 2 ^ 63)) = false := by
    rw [decide_eq_false (by omega), decide_eq_false (by omega)] <;> rfl
  by_cases big : xs ≠ [] ∧ 2 ≤ k
  · exact op_repT pins s σ H _ _ v u Q I rx ry ⟨l, k, xs, rfl, rfl, hT, big.1, big.2, h2, hz, q2 (fun z => z.elim big.1 fun e => by have := big.2; omega)⟩
  · cases rx
    obtain ⟨t, rfl⟩ := ry
    obtain ⟨its, r, ⟨⟨cls, dd, data, sl⟩, ho, hc, n, hd⟩, hs⟩ := I.tuple hT
    simp only at hc hd
    subst hc hd
    have hle : its.length = xs.length := r.length.symm
    have hi : its.toArray.isEmpty = decide (xs = []) := by
      cases its with
      | nil =>
        have e : xs = [] := List.eq_nil_of_length_eq_zero (by rw [← hle]; rfl)
        rw [e] <;> rfl
      | cons a b =>
        have e : xs ≠ [] := fun z => by
          rw [z] at hle
          cases hle
        rw [decide_eq_false e] <;> rfl
    by_cases same : xs = [] ∨ k = 1
    · have c1 : (its.toArray.isEmpty || k == 1) = true := by
        rw [hi]
        rcases same with e | e
        · rw [decide_eq_true e, Bool.true_or]
        · rw [e, show ((1 : Int) == 1) = true from rfl, Bool.or_true]
      refine wpAny_binaryOp_repeat_ref (T := "tuple") (U := "int") (by decide) ⟨_, ho, rfl⟩ (fun s' => typeIs_int s' k t) noFill_tuple_mul F.fills_int_mul F.slot_int_rmul repeat_tuple F.slot_int_index.lookup
        (call_meets F.slot_int_rmul (typeIs_int s k t) F.entry_int_rmul (F.args_int_rmul_2 _ _) (int_rmul_tuple k t l its.toArray n dd sl)
          ⟨ho, rfl, ⟨_, ho, rfl⟩, call_meets F.slot_tuple_mul ⟨_, ho, rfl⟩ F.entry_tuple_mul (F.args_tuple_mul_2 _ _) (mulT_same l its.toArray n dd sl k t c0 c1) ⟨ho, ?_⟩⟩)
      exact ⟨.ref l, H, I, rfl, q1 same⟩
    · have e1 : xs ≠ [] := fun z => same (Or.inl z)
      have e2 : k ≠ 1 := fun z => same (Or.inr z)
      have e3 : k ≤ 0 := by
        have : ¬ 2 ≤ k := fun z => big ⟨e1, z⟩
        omega
      have c1 : (its.toArray.isEmpty || k == 1) = false := by
        rw [hi, decide_eq_false e1, Bool.false_or]
        exact beq_eq_false_iff_ne.mpr e2
      have c2 : (decide (k ≤ 0) || its.toArray.isEmpty) = true := by
        rw [decide_eq_true e3, Bool.true_or]
      refine wpAny_binaryOp_repeat_ref (T := "tuple") (U := "int") (by decide) ⟨_, ho, rfl⟩ (fun s' => typeIs_int s' k t) noFill_tuple_mul F.fills_int_mul F.slot_int_rmul repeat_tuple F.slot_int_index.lookup
        (call_meets F.slot_int_rmul (typeIs_int s k t) F.entry_int_rmul (F.args_int_rmul_2 _ _) (int_rmul_tuple k t l its.toArray n dd sl)
          ⟨ho, rfl, ⟨_, ho, rfl⟩, call_meets F.slot_tuple_mul ⟨_, ho, rfl⟩ F.entry_tuple_mul (F.args_tuple_mul_2 _ _) (mulT_none l its.toArray n dd sl k t c0 c1 c2) ⟨ho, ?_⟩⟩)
      have ek : k.toNat = 0 := by omega
      have q3 := q2 same
      rw [ek] at q3
      refine ⟨.ref s.heap.objs.size, _, I.laid (t' := s.toks) (o := .tup []) (fun b ob q => Heap.get?_push_of_some _ q) (Nat.le_refl _) ?_, rfl, q3 _ (I.hok.fresh (Nat.le_refl _))⟩
      exact ⟨Nat.zero_le _, [], .nil, IsTup.new _ _⟩
section
variable {X : Cx} {K : PySem.W.Frag}
/-! ### * of any kind -/
def oMul : D2 := fun ra rb M Q => match ra, rb with
  | .d (.int i), .d (.int j) => CMul i j ∧ Q (.d (.int (i * j))) M
  | .d (.tup as), .d (.int k) => -1000 ≤ k ∧ k ≤ 1000 ∧ as.length ≤ 1000 ∧ Q (.d (.tup (List.replicate k.toNat as).flatten)) M
  | ra, .d (.int k) => ∃ as, LstR M ra as ∧ -(2 ^ 63) ≤ k ∧ k < 2 ^ 63 ∧ as.length * k.toNat ≤ sizeLine ∧ Q (.new (.lst (List.replicate k.toNat as).flatten)) M
  | _, _ => False
def rMulAny (K : PySem.W.Frag) : R2 := fun x y H Q => rI CMul (fun i j => .int (i * j)) x y H Q ∨ rRepA K x y H Q ∨ rRep x y H Q
theorem op_mulAny : OpR X (binaryOp .Mult) (rMulAny X.K) := op_mul.or (op_repA.or op_rep)
theorem s2_mul : S2 K (rMulAny K) oMul := by
  intro B M H0 H x y rx ry Q QV hc h1 h2 q k
  unfold oMul at q
  split at q
  · cases h1
    cases h2
    exact Or.inl ⟨_, _, rfl, rfl, q.1, k _ _ _ _ _ q.2 (Nx.refl hc) (.int _)⟩
  · rename_i as kk
    obtain ⟨z1, z2, z3, q⟩ := q
    cases h2
    cases h1 with
    | tup a1 b1 =>
      have l1 := b1.length
      refine Or.inr (Or.inl ⟨_, _, _, rfl, rfl, hc.ex.st a1, z1, z2, by omega, fun e => ?_, fun e p hp => ?_⟩)
      · rcases e with e | e
        · subst e
          cases b1
          rw [show (List.replicate _ ([] : List Dat)).flatten = [] from by simp] at q
          exact k _ _ _ _ _ q (Nx.refl hc) (.tup a1 .nil)
        · subst e
          rw [show (List.replicate (1 : Int).toNat as).flatten = as from by simp] at q
          exact k _ _ _ _ _ q (Nx.refl hc) (.tup a1 b1)
      · obtain ⟨n, g⟩ := RR.newT hc hp (b1.rep _)
        exact k _ _ _ _ _ q n g
  · obtain ⟨as, g1, z1, z2, z3, q⟩ := q
    obtain ⟨p1, xs, rfl, e1, r1⟩ := g1.at hc h1
    cases h2
    have l1 := r1.length
    refine Or.inr (Or.inr ⟨_, _, _, rfl, rfl, e1, z1, z2, by rw [l1]; exact z3, fun p hp => ?_⟩)
    obtain ⟨n, g⟩ := RR.newL hc hp (r1.rep _)
    exact k _ _ _ _ _ q n g
  · exact q.elim
theorem ex_mul {a b : Expr} {ta tb : TE} {φa φb : DE} {pos : Pos} (ha : EX X a ta φa) (hb : EX X b tb φb) : EX X (.BinOp a .Mult b pos) (tOp (rMulAny X.K) ta tb) (dOp oMul φa φb) := ex_op op_mulAny s2_mul ha hb
/-! ### items, slices -/
theorem atI_rp {B : Hp} {xs : List V} {ys : List Dat} {i : Int} {y : Dat} (r : RpA K B xs ys) (h : atI ys i = some y) : ∃ v, atI xs i = some v ∧ Rp K B v y := by
  unfold atI at h ⊢
  rw [r.length]
  cases e : ixN ys.length i with
  | none =>
    rw [e] at h
    cases h
  | some j =>
    rw [e] at h
    exact r.get h
def oIx : D2 := fun ra rb M Q => ∃ i ys y, rb = .d (.int i) ∧ SeqR M ra ys ∧ atI ys i = some y ∧ Q (.d y) M
theorem s2_ix : S2 K (rIx K) oIx := by
  intro B M H0 H x y rx ry Q QV hc h1 h2 q k
  obtain ⟨i, ys, z, rfl, g1, g2, q⟩ := q
  obtain ⟨p, xs, rfl, hp, r⟩ := g1.at hc h1
  cases h2
  obtain ⟨v, e, rv⟩ := atI_rp r g2
  rcases hp with hp | hp
  · exact Or.inl ⟨p, xs, i, v, rfl, rfl, hp, e, k _ _ _ _ _ q (Nx.refl hc) rv⟩
  · exact Or.inr (Or.inl ⟨p, xs, i, v, rfl, rfl, hp, e, k _ _ _ _ _ q (Nx.refl hc) rv⟩)
theorem ex_ix {a b : Expr} {ta tb : TE} {φa φb : DE} {pos : Pos} (ha : EX X a ta φa) (hb : EX X b tb φb) (hs : PlainIx b := by intro _ _; rfl) : EX X (.Subscript a b pos) (tOp (rIx X.K) ta tb) (dOp oIx φa φb) :=
  ⟨pe_ix ix_seq ha.pe hb.pe hs, SE.op ha.s hb.s s2_ix⟩
abbrev DO := Env → Mem → (Option Int → Mem → Prop) → Prop
def SO (K : PySem.W.Frag) (t : TO) (φ : DO) : Prop := ∀ (env : Env) (M : Mem) (Q : Option Int → Mem → Prop) (σ : L2.St) (B H : Hp) (QV : Option Int → Hp → Prop), SR K B σ env → Cs K B M H → φ env M Q →
  (∀ o M' B' H', Q o M' → Nx K B M H B' M' H' → QV o H') → t σ H QV
structure OX (X : Cx) (e : Option Expr) (t : TO) (φ : DO) : Prop where
  po : PO X e t
  s : SO X.K t φ
def dNo : DO := fun _ M Q => Q none M
def dPart (φ : DE) : DO := fun env M Q => φ env M fun r M1 => match r with
  | .d (.int i) => Q (some i) M1
  | _ => False
theorem ox_none : OX X none tNoPart dNo := ⟨po_none, fun env M Q σ B H QV hs hc q k => k _ _ _ _ q (Nx.refl hc)⟩
theorem ox_some {e : Expr} {t : TE} {φ : DE} (h : EX X e t φ) : OX X (some e) (tPart t) (dPart φ) := by
  refine ⟨po_some h.pe, fun env M Q σ B H QV hs hc q k => ?_⟩
  refine h.s env M _ σ B H _ hs hc q fun r M1 v B1 H1 q1 n1 r1 => ?_
  split at q1
  · cases r1
    exact ⟨_, rfl, k _ _ _ _ q1 n1⟩
  · exact q1.elim
/-- xs[lo:hi] -/
def cut {α : Type} (xs : List α) (lo hi : Option Int) : List α := (xs.drop (HT.sIx xs.length 0 lo)).take (HT.sIx xs.length xs.length hi - HT.sIx xs.length 0 lo)
theorem cut_rp {B : Hp} {xs : List V} {ys : List Dat} {lo hi : Option Int} (r : RpA K B xs ys) : RpA K B (cutV xs lo hi) (cut ys lo hi) := by
  unfold cutV cut
  rw [r.length]
  exact (r.drop _).take _
theorem cut_whole {α : Type} {xs : List α} {lo hi : Option Int} (h : HT.sIx xs.length 0 lo = 0 ∧ HT.sIx xs.length xs.length hi = xs.length) : cut xs lo hi = xs := by
  unfold cut
  rw [h.1, h.2, List.drop_zero, Nat.sub_zero, List.take_length]
def oSl (lo hi : Option Int) (r : Rv) (M : Mem) (Q : Rv → Mem → Prop) : Prop := match r with
  | .d (.tup xs) => Q (.d (.tup (cut xs lo hi))) M
  | r => ∃ ys, SeqR M r ys ∧ Q (.new (.lst (cut ys lo hi))) M
def dSl (φ : DE) (lo hi : DO) : DE := fun env M Q => φ env M fun r M1 => lo env M1 fun l M2 => hi env M2 fun h M3 => oSl l h r M3 Q
def rSl (K : PySem.W.Frag) : V → Option Int → Option Int → Hp → VK → Prop := fun x lo hi H Q => rSlA K x lo hi H Q ∨ rSlL K x lo hi H Q
theorem ex_sl {e : Expr} {lo hi : Option Expr} {t : TE} {tl th : TO} {φ : DE} {φl φh : DO} {pos p2 : Pos} (h : EX X e t φ) (hl : OX X lo tl φl) (hh : OX X hi th φh) : EX X (.Subscript e (.Slice lo hi none p2) pos) (tSl (rSl X.K) t tl th) (dSl φ φl φh) := by
  refine ⟨pe_slice (sl_tupA.or sl_list) h.pe hl.po hh.po, fun env M Q σ B H QV hs hc q k => ?_⟩
  refine h.s env M _ σ B H _ hs hc q fun r M1 v B1 H1 q1 n1 r1 => ?_
  refine hl.s env M1 _ σ B1 H1 _ (hs.mono n1.ext) n1.st q1 fun l M2 B2 H2 q2 n2 => ?_
  have n12 := n1.trans n2
  refine hh.s env M2 _ σ B2 H2 _ (hs.mono n12.ext) n12.st q2 fun u M3 B3 H3 q3 n3 => ?_
  have n := n12.trans n3
  have r3 := (r1.fwd n2).fwd n3
  have nt : ∀ {ys : List Dat}, (∃ a xs, v = .ref a ∧ SqT X.K H3 a xs ∧ RpA X.K B3 xs ys) → (Q (.d (.tup (cut ys l u))) M3) → Rp X.K B3 v (.tup ys) → rSlA X.K v l u H3 QV := by
    intro ys ⟨a, xs, ev, ht, ra⟩ q rv
    subst ev
    refine ⟨a, xs, rfl, ht, fun w => ?_, fun w p hp => ?_⟩
    · rw [cut_whole (by rw [← ra.length]; exact w)] at q
      exact k _ _ _ _ _ q n rv
    · obtain ⟨n4, g⟩ := RR.newT n.st hp (cut_rp (lo := l) (hi := u) ra)
      exact k _ _ _ _ _ q (n.trans n4) g
  unfold oSl at q3
  split at q3
  · cases r3 with
    | tup h1 h2 => exact Or.inl (nt ⟨_, _, rfl, n.st.ex.st h1, h2⟩ q3 (.tup h1 h2))
  · obtain ⟨ys, g, q4⟩ := q3
    rename_i r hne
    have hl : ∃ a xs, v = .ref a ∧ SqL X.K H3 a xs ∧ RpA X.K B3 xs ys := by
      unfold SeqR at g
      split at g
      · subst g
        cases r3 with
        | lst h1 h2 => exact ⟨_, _, rfl, SqL.of (n.st.ex _ _ h1), h2⟩
      · exact (hne _ rfl).elim
      · subst g
        cases r3 with
        | fz h1 h2 => exact ⟨_, _, rfl, n.st.ex.sl h1, h2⟩
      · cases r3
        obtain ⟨_, xs, h1, h2⟩ := n.st.cell _ _ g
        exact ⟨_, xs, rfl, SqL.of h1, h2⟩
      · subst g
        obtain ⟨p, rfl, _, _, _, xs, h1, h2⟩ := r3
        exact ⟨p, xs, rfl, SqL.of h1, h2⟩
      · exact g.elim
    obtain ⟨a, xs, rfl, hp, ra⟩ := hl
    refine Or.inr ⟨a, xs, rfl, hp, fun p hp => ?_⟩
    obtain ⟨n4, g4⟩ := RR.newL n.st hp (cut_rp (lo := l) (hi := u) ra)
    exact k _ _ _ _ _ q4 (n.trans n4) (g4.back n)
/-- xs[::-1] -/
def dRev (φ : DE) : DE := fun env M Q => φ env M fun r M1 => ∃ ys, SeqR M1 r ys ∧ (∀ xs, r ≠ .d (.tup xs)) ∧ Q (.new (.lst ys.reverse)) M1
theorem ex_rev {e : Expr} {t : TE} {φ : DE} {k : Nat} {p1 p2 p3 pos : Pos} (h : EX X e t φ) : EX X (.Subscript e (.Slice none none (some (.UnaryOp .USub (.Constant (.int 1) k p1) p2)) p3) pos) (tRevL X.K t) (dRev φ) := by
  refine ⟨pe_revL h.pe, fun env M Q σ B H QV hs hc q k => ?_⟩
  refine h.s env M _ σ B H _ hs hc q fun r M1 v B1 H1 q1 n1 r1 => ?_
  obtain ⟨ys, g, nt, q2⟩ := q1
  have hl : ∃ a xs, v = .ref a ∧ SqL X.K H1 a xs ∧ RpA X.K B1 xs ys := by
    unfold SeqR at g
    split at g
    · subst g
      cases r1 with
      | lst h1 h2 => exact ⟨_, _, rfl, SqL.of (n1.st.ex _ _ h1), h2⟩
    · exact (nt _ rfl).elim
    · subst g
      cases r1 with
      | fz h1 h2 => exact ⟨_, _, rfl, n1.st.ex.sl h1, h2⟩
    · cases r1
      obtain ⟨_, xs, h1, h2⟩ := n1.st.cell _ _ g
      exact ⟨_, xs, rfl, SqL.of h1, h2⟩
    · subst g
      obtain ⟨p, rfl, _, _, _, xs, h1, h2⟩ := r1
      exact ⟨p, xs, rfl, SqL.of h1, h2⟩
    · exact g.elim
  obtain ⟨a, xs, rfl, hp, ra⟩ := hl
  refine ⟨a, xs, rfl, hp, fun p hp => ?_⟩
  obtain ⟨n4, g4⟩ := RR.newL n1.st hp ra.reverse
  exact k _ _ _ _ _ q2 (n1.trans n4) (g4.back n1)
end
end Dl
set_option Elab.async false
set_option linter.all false
set_option maxRecDepth 100000
set_option maxHeartbeats 4000000
namespace Dl
open PySem PySem.Spec PyProof.Rows L2 ClX
abbrev FS := List Dat → Mem → (Rv → Mem → Prop) → Prop
def SC (K : PySem.W.Frag) (r : List V → Hp → VK → Prop) (ρ : FS) : Prop := ∀ (B : Hp) (M : Mem) (H : Hp) (vs : List V) (ds : List Dat) (Q : Rv → Mem → Prop) (QV : VK), Cs K B M H → RpA K B vs ds → ρ ds M Q →
  (∀ r M' v B' H', Q r M' → Nx K B M H B' M' H' → RR K B' M' H H' v r → QV v H') → r vs H QV
def rLenV (K : PySem.W.Frag) : List V → Hp → VK → Prop := fun xs H Q => ∃ p ys, xs = [.ref p] ∧ (SqL K H p ys ∨ SqT K H p ys) ∧ Q (.int ys.length) H
def rIntV : List V → Hp → VK → Prop := fun xs H Q => (∃ i, xs = [.int i] ∧ Q (.int i) H) ∨ ∃ k, xs = [.bl k] ∧ Q (.int (if k then 1 else 0)) H
def rAbsV : List V → Hp → VK → Prop := fun xs H Q => ∃ i, xs = [.int i] ∧ Q (.int (if i < 0 then -i else i)) H
def rIIV (f : Int → Int → Int) : List V → Hp → VK → Prop := fun xs H Q => ∃ i j, xs = [.int i, .int j] ∧ Q (.int (f i j)) H
def rListV (K : PySem.W.Frag) : List V → Hp → VK → Prop := fun xs H Q => ∃ p ys, xs = [.ref p] ∧ (SqL K H p ys ∨ SqT K H p ys) ∧ ∀ l, H l = none → Q (.ref l) (upd H l (.lst ys))
def rTupleV (K : PySem.W.Frag) : List V → Hp → VK → Prop := fun xs H Q => ∃ p ys, xs = [.ref p] ∧ ((SqL K H p ys ∧ ∀ l, H l = none → Q (.ref l) (upd H l (.tup ys))) ∨ (SqT K H p ys ∧ Q (.ref p) H))
def rStrV : List V → Hp → VK → Prop := fun xs H Q => ∃ i, xs = [.int i] ∧ i.natAbs.log2 < 1920 ∧ Q (.str (toString i)) H
def dCB (ρ : FS) (ψ : DA) : DE := fun env M Q => ψ env M fun ds M1 => ρ ds M1 Q
section
variable {X : Cx} {K : PySem.W.Frag}
theorem SE.cb {r : List V → Hp → VK → Prop} {ρ : FS} {t : TA} {ψ : DA} (h : SC K r ρ) (g : SA K t ψ) : SE K (tCB r t) (dCB ρ ψ) := by
  intro env M Q σ B H QV hs hc q k
  refine g env M _ σ B H _ hs hc q fun ds M1 vs B1 H1 q1 n1 r1 => ?_
  exact h B1 M1 H1 vs ds Q QV n1.st r1 q1 fun r M' v B' H' q2 n2 r2 => k r M' v B' H' q2 (n1.trans n2) (r2.back n1)
section
variable {x : Str} {p pos : Pos} {e : Expr} {es : List Expr} {id T : String} {r : List V → Hp → VK → Prop} {ρ : FS} {t : TA} {ψ : DA}
theorem ex_callB (hc : CallR X (.builtin id) r) (h : SC X.K r ρ) (hm : X.mg x = none) (hv : bootBuiltins x = some (.builtin id)) (ha : AX X (e :: es) t ψ) (hg : Gl X x := by rfl) (hn : x ≠ "__name__" := by decide) (hdb : (x == ("__debug__" : Str)) = false := by decide)
    (he : starEach (e :: es) X.env = (false, eval e X.env) :: starEach es X.env := by rfl) (hpl : (backTo pos (starEach es X.env)).any (·.1) = false := by rfl) : EX X (.Call (.Name x p) (e :: es) [] pos) (tCB r t) (dCB ρ ψ) :=
  ⟨pe_callB hc hg hm hv ha.pa hn hdb he hpl, SE.cb h ha.s⟩
theorem ex_callTy (hc : CallR X (.type T) r) (h : SC X.K r ρ) (hm : X.mg x = none) (hv : bootBuiltins x = some (.type T)) (ha : AX X (e :: es) t ψ) (hg : Gl X x := by rfl) (hn : x ≠ "__name__" := by decide) (hdb : (x == ("__debug__" : Str)) = false := by decide)
    (he : starEach (e :: es) X.env = (false, eval e X.env) :: starEach es X.env := by rfl) (hpl : (backTo pos (starEach es X.env)).any (·.1) = false := by rfl) : EX X (.Call (.Name x p) (e :: es) [] pos) (tCB r t) (dCB ρ ψ) :=
  ⟨pe_callTy hc hg hm hv ha.pa hn hdb he hpl, SE.cb h ha.s⟩
end
theorem RpA.one {B : Hp} {vs : List V} {d : Dat} (h : RpA K B vs [d]) : ∃ v, vs = [v] ∧ Rp K B v d := by
  cases h with
  | cons a b =>
    cases b
    exact ⟨_, rfl, a⟩
theorem RpA.two {B : Hp} {vs : List V} {d e : Dat} (h : RpA K B vs [d, e]) : ∃ v w, vs = [v, w] ∧ Rp K B v d ∧ Rp K B w e := by
  cases h with
  | cons a b =>
    cases b with
    | cons b c =>
      cases c
      exact ⟨_, _, rfl, a, b⟩
theorem RpA.ints {B : Hp} : ∀ {vs : List V} {ns : List Int}, RpA K B vs (ns.map Dat.int) → vs = ns.map V.int
  | _, [], h => by cases h; rfl
  | _, n :: ns, h => by
    cases h with
    | cons a b =>
      cases a
      rw [RpA.ints b] <;> rfl
def bLen : FS := fun ds M Q => ∃ d ys, ds = [d] ∧ SeqR M (.d d) ys ∧ Q (.d (.int (ys.length : Int))) M
theorem sc_len : SC K (rLenV K) bLen := by
  intro B M H vs ds Q QV hc ra q k
  obtain ⟨d, ys, rfl, g, q⟩ := q
  obtain ⟨v, rfl, r⟩ := ra.one
  obtain ⟨p, xs, rfl, h1, h2⟩ := g.at (H0 := H) (v := v) hc (show RR K B M H H v (.d d) from r)
  refine ⟨p, xs, rfl, h1, ?_⟩
  rw [h2.length]
  exact k _ _ _ _ _ q (Nx.refl hc) (.int _)
def bInt : FS := fun ds M Q => match ds with
  | [.int i] => Q (.d (.int i)) M
  | [.bl b] => Q (.d (.int (if b then 1 else 0))) M
  | _ => False
theorem sc_int : SC K (rIntV) bInt := by
  intro B M H vs ds Q QV hc ra q k
  unfold bInt at q
  split at q
  · obtain ⟨v, rfl, r⟩ := ra.one
    cases r
    exact Or.inl ⟨_, rfl, k _ _ _ _ _ q (Nx.refl hc) (.int _)⟩
  · obtain ⟨v, rfl, r⟩ := ra.one
    cases r
    exact Or.inr ⟨_, rfl, k _ _ _ _ _ q (Nx.refl hc) (.int _)⟩
  · exact q.elim
def bAbs : FS := fun ds M Q => match ds with
  | [.int i] => Q (.d (.int (if i < 0 then -i else i))) M
  | _ => False
theorem sc_abs : SC K (rAbsV) bAbs := by
  intro B M H vs ds Q QV hc ra q k
  unfold bAbs at q
  split at q
  · obtain ⟨v, rfl, r⟩ := ra.one
    cases r
    exact ⟨_, rfl, k _ _ _ _ _ q (Nx.refl hc) (.int _)⟩
  · exact q.elim
def bII (f : Int → Int → Int) : FS := fun ds M Q => match ds with
  | [.int i, .int j] => Q (.d (.int (f i j))) M
  | _ => False
theorem sc_ii {f : Int → Int → Int} : SC K (rIIV f) (bII f) := by
  intro B M H vs ds Q QV hc ra q k
  unfold bII at q
  split at q
  · obtain ⟨v, w, rfl, r1, r2⟩ := ra.two
    cases r1
    cases r2
    exact ⟨_, _, rfl, k _ _ _ _ _ q (Nx.refl hc) (.int _)⟩
  · exact q.elim
abbrev bMax2 : FS := bII fun i j => if j > i then j else i
abbrev bMin2 : FS := bII fun i j => if j < i then j else i
def bMaxL : FS := fun ds M Q => ∃ (d : Dat) (ns : List Int), ds = [d] ∧ LstR M (.d d) (ns.map Dat.int) ∧ 0 < ns.length ∧ ∀ m, m ∈ ns → (∀ y, y ∈ ns → y ≤ m) → Q (.d (.int m)) M
def bMinL : FS := fun ds M Q => ∃ (d : Dat) (ns : List Int), ds = [d] ∧ LstR M (.d d) (ns.map Dat.int) ∧ 0 < ns.length ∧ ∀ m, m ∈ ns → (∀ y, y ∈ ns → m ≤ y) → Q (.d (.int m)) M
def bSum : FS := fun ds M Q => ∃ (d : Dat) (ns : List Int), ds = [d] ∧ LstR M (.d d) (ns.map Dat.int) ∧ Q (.d (.int ns.sum)) M
theorem lst_ints {B : Hp} {M : Mem} {H : Hp} {d : Dat} {ns : List Int} {v : V} (hc : Cs K B M H) (r : Rp K B v d) (g : LstR M (.d d) (ns.map Dat.int)) : ∃ p, v = .ref p ∧ SqL K H p (ns.map V.int) := by
  obtain ⟨p, xs, rfl, h1, h2⟩ := g.at (H0 := H) (v := v) hc (show RR K B M H H v (.d d) from r)
  exact ⟨p, rfl, by rw [← h2.ints]; exact SqL.of h1⟩
theorem sc_maxL : SC K (rMax K) bMaxL := by
  intro B M H vs ds Q QV hc ra q k
  obtain ⟨d, ns, rfl, g, z, q⟩ := q
  obtain ⟨v, rfl, r⟩ := ra.one
  obtain ⟨p, rfl, h⟩ := lst_ints hc r g
  exact ⟨p, ns, rfl, h, z, fun m h1 h2 => k _ _ _ _ _ (q m h1 h2) (Nx.refl hc) (.int _)⟩
theorem sc_minL : SC K (rMin K) bMinL := by
  intro B M H vs ds Q QV hc ra q k
  obtain ⟨d, ns, rfl, g, z, q⟩ := q
  obtain ⟨v, rfl, r⟩ := ra.one
  obtain ⟨p, rfl, h⟩ := lst_ints hc r g
  exact ⟨p, ns, rfl, h, z, fun m h1 h2 => k _ _ _ _ _ (q m h1 h2) (Nx.refl hc) (.int _)⟩
theorem sc_sum : SC K (rSum K) bSum := by
  intro B M H vs ds Q QV hc ra q k
  obtain ⟨d, ns, rfl, g, q⟩ := q
  obtain ⟨v, rfl, r⟩ := ra.one
  obtain ⟨p, rfl, h⟩ := lst_ints hc r g
  exact ⟨p, ns, rfl, h, k _ _ _ _ _ q (Nx.refl hc) (.int _)⟩
def bList : FS := fun ds M Q => ∃ d ys, ds = [d] ∧ SeqR M (.d d) ys ∧ Q (.new (.lst ys)) M
theorem sc_list : SC K (rListV K) bList := by
  intro B M H vs ds Q QV hc ra q k
  obtain ⟨d, ys, rfl, g, q⟩ := q
  obtain ⟨v, rfl, r⟩ := ra.one
  obtain ⟨p, xs, rfl, h1, h2⟩ := g.at (H0 := H) (v := v) hc (show RR K B M H H v (.d d) from r)
  refine ⟨p, xs, rfl, h1, fun l hl => ?_⟩
  obtain ⟨n, g⟩ := RR.newL hc hl h2
  exact k _ _ _ _ _ q n g
def bTuple : FS := fun ds M Q => ∃ d ys, ds = [d] ∧ SeqR M (.d d) ys ∧ Q (.d (.tup ys)) M
theorem sc_tuple : SC K (rTupleV K) bTuple := by
  intro B M H vs ds Q QV hc ra q k
  obtain ⟨d, ys, rfl, g, q⟩ := q
  obtain ⟨v, rfl, r⟩ := ra.one
  have ll : (∃ p xs, v = .ref p ∧ SqL K H p xs ∧ RpA K B xs ys) ∨ Rp K B v (.tup ys) := by
    unfold SeqR at g
    split at g
    · rename_i xs0 e
      have e := Rv.d.inj e
      subst e g
      cases r with
      | lst h1 h2 => exact Or.inl ⟨_, _, rfl, SqL.of (hc.ex _ _ h1), h2⟩
    · rename_i xs0 e
      have e := Rv.d.inj e
      subst e g
      exact Or.inr r
    · rename_i xs0 e
      have e := Rv.d.inj e
      subst e g
      cases r with
      | fz h1 h2 => exact Or.inl ⟨_, _, rfl, hc.ex.sl h1, h2⟩
    · rename_i p0 e
      have e := Rv.d.inj e
      subst e
      cases r
      obtain ⟨_, xs, h1, h2⟩ := hc.cell _ _ g
      exact Or.inl ⟨_, xs, rfl, SqL.of h1, h2⟩
    · rename_i xs0 e
      cases e
    · exact g.elim
  rcases ll with ⟨p, xs, rfl, h1, h2⟩ | h
  · refine ⟨p, xs, rfl, Or.inl ⟨h1, fun l hl => ?_⟩⟩
    obtain ⟨n, g⟩ := RR.newT hc hl h2
    exact k _ _ _ _ _ q n g
  · cases h with
    | tup h1 h2 => exact ⟨_, _, rfl, Or.inr ⟨hc.ex.st h1, k _ _ _ _ _ q (Nx.refl hc) (.tup h1 h2)⟩⟩
def bStr : FS := fun ds M Q => match ds with
  | [.int i] => i.natAbs.log2 < 1920 ∧ Q (.d (.str (toString i))) M
  | _ => False
theorem sc_str : SC K (rStrV) bStr := by
  intro B M H vs ds Q QV hc ra q k
  unfold bStr at q
  split at q
  · obtain ⟨v, rfl, r⟩ := ra.one
    cases r
    exact ⟨_, rfl, q.1, k _ _ _ _ _ q.2 (Nx.refl hc) (.str _)⟩
  · exact q.elim
/-! ### repr of data -/
structure Shows (p : PyData) : Prop where
  sh : p.showable = true
  dp : p.depth ≤ 60
  nd : p.hasDict = false
  sz : p.shown.length ≤ sizeLine
def rRepr (K : PySem.W.Frag) : List V → Hp → VK → Prop := fun xs H Q => ∃ v p, xs = [v] ∧ Dp K H v p ∧ Shows p ∧ Q (.str p.shown) H
theorem call_repr (hg : X.A.guards = some []) (hu : X.A.units + 64 < cLine) : CallR X (.builtin "repr") (rRepr X.K) := by
  intro pins s σ H xs us Q I r h
  obtain ⟨v, p, rfl, hd, S, q⟩ := h
  obtain ⟨u, rfl, ru⟩ := vals1 r
  obtain ⟨as, rd⟩ := Dp.reads I p v u hd ru
  have fin : ∀ (h' : Heap) (tk : Nat) (u' : Tok), (∀ b o, s.heap.get? b = some o → h'.get? b = some o) → EP X pins σ Q (.str p.shown u') { s with heap := h', toks := tk } := fun h' tk u' k => ⟨.str p.shown, H, I.kept k, ⟨u', rfl⟩, q⟩
  have big : ∀ a, u = .ref a → wpAny (model X.prog X.w) X.A (call (.builtin "repr") [u]) (EP X pins σ Q) X.xe s := fun a e => by
    subst e
    refine PySem.repr_of_reads' rd S.sh (fun z => ?_) hg (by have := S.dp; omega) (fun _ _ e => e) (fun h' u' tk k => fin h' tk u' k) S.sz
    rw [S.nd] at z
    cases z
  cases hd with
  | non =>
    cases ru
    exact PySem.P.repr_of_none (fin s.heap _ _ fun _ _ e => e)
  | bl b =>
    cases ru
    exact PySem.P.repr_of_bool (fin s.heap _ _ fun _ _ e => e)
  | int i =>
    obtain ⟨t, rfl⟩ := ru
    exact PySem.P.repr_of_int (of_decide_eq_true S.sh) (fin s.heap _ _ fun _ _ e => e)
  | str x =>
    obtain ⟨t, rfl⟩ := ru
    exact PySem.P.repr_of_str (fin s.heap _ _ fun _ _ e => e) S.sz
  | lst h1 h2 => exact big _ ru
  | tup h1 h2 => exact big _ ru
def bRepr : FS := fun ds M Q => ∃ d p, ds = [d] ∧ PyOf M d p ∧ Shows p ∧ Q (.d (.str p.shown)) M
theorem sc_repr : SC K (rRepr K) bRepr := by
  intro B M H vs ds Q QV hc ra q k
  obtain ⟨d, p, rfl, g, S, q⟩ := q
  obtain ⟨v, rfl, r⟩ := ra.one
  exact ⟨v, p, rfl, g.dp hc r, S, k _ _ _ _ _ q (Nx.refl hc) (.str _)⟩
section
variable {p pos : Pos} {a b : Expr} {t : TA} {ψ : DA}
theorem ex_len (hm : X.mg "len" = none) (ha : AX X [a] t ψ) (hg : Gl X "len" := by rfl) (he : starEach [a] X.env = (false, eval a X.env) :: starEach [] X.env := by rfl) (hpl : (backTo pos (starEach [] X.env)).any (·.1) = false := by rfl) :
    EX X (.Call (.Name "len" p) [a] [] pos) (tCB (rLenV X.K) t) (dCB bLen ψ) := ex_callB call_len_seq sc_len hm PySem.boot_len ha (hg := hg) (he := he) (hpl := hpl)
theorem ex_toint (hm : X.mg "int" = none) (ha : AX X [a] t ψ) (hg : Gl X "int" := by rfl) (he : starEach [a] X.env = (false, eval a X.env) :: starEach [] X.env := by rfl) (hpl : (backTo pos (starEach [] X.env)).any (·.1) = false := by rfl) :
    EX X (.Call (.Name "int" p) [a] [] pos) (tCB rIntV t) (dCB bInt ψ) := ex_callTy call_int1 sc_int hm (by decide +kernel) ha (hg := hg) (he := he) (hpl := hpl)
theorem ex_abs (hm : X.mg "abs" = none) (ha : AX X [a] t ψ) (hg : Gl X "abs" := by rfl) (he : starEach [a] X.env = (false, eval a X.env) :: starEach [] X.env := by rfl) (hpl : (backTo pos (starEach [] X.env)).any (·.1) = false := by rfl) :
    EX X (.Call (.Name "abs" p) [a] [] pos) (tCB rAbsV t) (dCB bAbs ψ) := ex_callB call_abs sc_abs hm (by decide +kernel) ha (hg := hg) (he := he) (hpl := hpl)
theorem ex_max2 (hc : X.calm = true) (hm : X.mg "max" = none) (ha : AX X [a, b] t ψ) (hg : Gl X "max" := by rfl) (he : starEach [a, b] X.env = (false, eval a X.env) :: starEach [b] X.env := by rfl) (hpl : (backTo pos (starEach [b] X.env)).any (·.1) = false := by rfl) :
    EX X (.Call (.Name "max" p) [a, b] [] pos) (tCB (rIIV fun i j => if j > i then j else i) t) (dCB bMax2 ψ) := ex_callB (call_max2 hc) sc_ii hm (by decide +kernel) ha (hg := hg) (he := he) (hpl := hpl)
theorem ex_min2 (hc : X.calm = true) (hm : X.mg "min" = none) (ha : AX X [a, b] t ψ) (hg : Gl X "min" := by rfl) (he : starEach [a, b] X.env = (false, eval a X.env) :: starEach [b] X.env := by rfl) (hpl : (backTo pos (starEach [b] X.env)).any (·.1) = false := by rfl) :
    EX X (.Call (.Name "min" p) [a, b] [] pos) (tCB (rIIV fun i j => if j < i then j else i) t) (dCB bMin2 ψ) := ex_callB (call_min2 hc) sc_ii hm (by decide +kernel) ha (hg := hg) (he := he) (hpl := hpl)
theorem ex_maxL (hc : X.calm = true) (hm : X.mg "max" = none) (ha : AX X [a] t ψ) (hg : Gl X "max" := by rfl) (he : starEach [a] X.env = (false, eval a X.env) :: starEach [] X.env := by rfl) (hpl : (backTo pos (starEach [] X.env)).any (·.1) = false := by rfl) :
    EX X (.Call (.Name "max" p) [a] [] pos) (tCB (rMax X.K) t) (dCB bMaxL ψ) := ex_callB (cr_max hc) sc_maxL hm (by decide +kernel) ha (hg := hg) (he := he) (hpl := hpl)
theorem ex_minL (hc : X.calm = true) (hm : X.mg "min" = none) (ha : AX X [a] t ψ) (hg : Gl X "min" := by rfl) (he : starEach [a] X.env = (false, eval a X.env) :: starEach [] X.env := by rfl) (hpl : (backTo pos (starEach [] X.env)).any (·.1) = false := by rfl) :
    EX X (.Call (.Name "min" p) [a] [] pos) (tCB (rMin X.K) t) (dCB bMinL ψ) := ex_callB (cr_min hc) sc_minL hm (by decide +kernel) ha (hg := hg) (he := he) (hpl := hpl)
theorem ex_sum (hc : X.calm = true) (hm : X.mg "sum" = none) (ha : AX X [a] t ψ) (hg : Gl X "sum" := by rfl) (he : starEach [a] X.env = (false, eval a X.env) :: starEach [] X.env := by rfl) (hpl : (backTo pos (starEach [] X.env)).any (·.1) = false := by rfl) :
    EX X (.Call (.Name "sum" p) [a] [] pos) (tCB (rSum X.K) t) (dCB bSum ψ) := ex_callB (cr_sum hc) sc_sum hm (by decide +kernel) ha (hg := hg) (he := he) (hpl := hpl)
theorem ex_list (hm : X.mg "list" = none) (ha : AX X [a] t ψ) (hg : Gl X "list" := by rfl) (he : starEach [a] X.env = (false, eval a X.env) :: starEach [] X.env := by rfl) (hpl : (backTo pos (starEach [] X.env)).any (·.1) = false := by rfl) :
    EX X (.Call (.Name "list" p) [a] [] pos) (tCB (rListV X.K) t) (dCB bList ψ) := ex_callTy call_list_of sc_list hm (by decide +kernel) ha (hg := hg) (he := he) (hpl := hpl)
theorem ex_tuple (hm : X.mg "tuple" = none) (ha : AX X [a] t ψ) (hg : Gl X "tuple" := by rfl) (he : starEach [a] X.env = (false, eval a X.env) :: starEach [] X.env := by rfl) (hpl : (backTo pos (starEach [] X.env)).any (·.1) = false := by rfl) :
    EX X (.Call (.Name "tuple" p) [a] [] pos) (tCB (rTupleV X.K) t) (dCB bTuple ψ) := ex_callTy call_tuple_of sc_tuple hm (by decide +kernel) ha (hg := hg) (he := he) (hpl := hpl)
theorem ex_tostr (hm : X.mg "str" = none) (ha : AX X [a] t ψ) (hg : Gl X "str" := by rfl) (he : starEach [a] X.env = (false, eval a X.env) :: starEach [] X.env := by rfl) (hpl : (backTo pos (starEach [] X.env)).any (·.1) = false := by rfl) :
    EX X (.Call (.Name "str" p) [a] [] pos) (tCB rStrV t) (dCB bStr ψ) := ex_callTy call_str_int sc_str hm (by decide +kernel) ha (hg := hg) (he := he) (hpl := hpl)
theorem ex_repr (hgu : X.A.guards = some []) (hu : X.A.units + 64 < cLine) (hm : X.mg "repr" = none) (ha : AX X [a] t ψ) (hg : Gl X "repr" := by rfl) (he : starEach [a] X.env = (false, eval a X.env) :: starEach [] X.env := by rfl)
    (hpl : (backTo pos (starEach [] X.env)).any (·.1) = false := by rfl) : EX X (.Call (.Name "repr" p) [a] [] pos) (tCB (rRepr X.K) t) (dCB bRepr ψ) := ex_callB (call_repr hgu hu) sc_repr hm (by decide +kernel) ha (hg := hg) (he := he) (hpl := hpl)
end
/-! ### attributes -/
def dFld (C0 : Addr) (f : Str) (φ : DE) : DE := fun env M Q => φ env M fun r M1 => match r with
  | .d (.ins C fs) => C = C0 ∧ ∃ y, fs.lookup f = some y ∧ Q (.d y) M1
  | .d (.cell p) => ∃ fs y, M1 p = some (.obj C0 fs) ∧ fs.lookup f = some y ∧ Q (.d y) M1
  | _ => False
/-- an instance, as it stands -/
def insR (C0 : Addr) (M : Mem) : Dat → List (Str × Dat) → Prop
  | .ins C fs, gs => C = C0 ∧ gs = fs
  | .cell p, gs => M p = some (.obj C0 gs)
  | _, _ => False
theorem insR.at {B : Hp} {M : Mem} {H : Hp} {v : V} {d : Dat} {C0 : Addr} {fs : List (Str × Dat)} (hc : Cs K B M H) (r : Rp K B v d) (g : insR C0 M d fs) : ∃ a dx vs, v = .ref a ∧ H a = some (.ins C0 dx vs) ∧ RpF K B vs fs := by
  unfold insR at g
  split at g
  · obtain ⟨rfl, rfl⟩ := g
    cases r with
    | ins h1 h2 => exact ⟨_, _, _, rfl, hc.ex _ _ h1, h2⟩
  · cases r
    obtain ⟨_, dx, vs, h1, h2⟩ := hc.cell _ _ g
    exact ⟨_, dx, vs, rfl, h1, h2⟩
  · exact g.elim
theorem ex_fld {C0 : Addr} {f : Str} {e : Expr} {t : TE} {φ : DE} {pos : Pos} (c : Cls X.K C0) (n : NoAttr X.K C0 f) (h : EX X e t φ) (hb : attributeBase e f X.env (eval e X.env) = eval e X.env := by rfl) :
    EX X (.Attribute e f pos) (tFld X.K t f) (dFld C0 f φ) := by
  refine ⟨pe_fld h.pe hb, fun env M Q σ B H QV hs hc q k => ?_⟩
  refine h.s env M _ σ B H _ hs hc q fun r M1 v B1 H1 q1 n1 r1 => ?_
  have core : ∀ d fs y, r = .d d → insR C0 M1 d fs → fs.lookup f = some y → Q (.d y) M1 → ∃ a C dx vs w, v = .ref a ∧ H1 a = some (.ins C dx vs) ∧ Cls X.K C ∧ NoAttr X.K C f ∧ vs.lookup f = some w ∧ QV w H1 := by
    intro d fs y e g l q2
    subst e
    obtain ⟨a, dx, vs, rfl, h1, h2⟩ := g.at n1.st r1
    obtain ⟨w, h3, h4⟩ := h2.look l
    exact ⟨a, C0, dx, vs, w, rfl, h1, c, n, h3, k _ _ _ _ _ q2 n1 h4⟩
  split at q1
  · obtain ⟨rfl, y, l, q2⟩ := q1
    exact core _ _ y rfl ⟨rfl, rfl⟩ l q2
  · obtain ⟨fs, y, hm, l, q2⟩ := q1
    exact core _ fs y rfl hm l q2
  · exact q1.elim
/-- a constant of a class -/
theorem ex_cval {C : Addr} {mc : Value} {u : Value} {x f : Str} {d : Dat} {v : V} {p pos : Pos} (hm : X.mg x = some (.ref C)) (r : CRead X.K C mc) (c : CVal X.K C mc f v u) (rel : ∀ B, Rp X.K B v d) (hg : Gl X x := by rfl) (hd : (x == ("__debug__" : Str)) = false := by decide)
    (hb : attributeBase (.Name x p) f X.env (eval (.Name x p) X.env) = eval (.Name x p) X.env := by rfl) : EX X (.Attribute (.Name x p) f pos) (tCVal X.K (tC (.ref C)) f) (dC d) :=
  ⟨pe_cval (pe_glob hg hm rfl hd) hb, fun env M Q σ B H QV hs hc q k => ⟨C, mc, v, u, rfl, r, c, k _ _ _ _ _ q (Nx.refl hc) (rel B)⟩⟩
end
end Dl
set_option Elab.async false
set_option linter.all false
set_option maxRecDepth 100000
set_option maxHeartbeats 4000000
namespace Dl
open PySem PySem.Spec PyProof.Rows L2
/-! ### promises over data -/
/-- what a def promises, said over data -/
def spD (K : PySem.W.Frag) (fs : FS) : Sp := fun vs H Q _ => ∃ (ds : List Dat) (M : Mem) (B : Hp) (QD : Rv → Mem → Prop), RpA K B vs ds ∧ Cs K B M H ∧ fs ds M QD ∧
  ∀ r M' v B' H', QD r M' → Nx K B M H B' M' H' → RR K B' M' H H' v r → Q v H'
/-- .. where nothing is being shown -/
structure FnG (P : Program) (w : World) (K : PySem.W.Frag) (mg : Str → Option Value) (base : Heap) (k : Nat) (f : Addr) (fd : FuncData) (ps : List Str) (fs : FS) : Prop where
  len : ∀ ds M Q, fs ds M Q → ds.length = ps.length
  run : ∀ (A : Around) (outer : List PySem.Env) (s : Shared) (H : Hp) (args : Args) (us : List Value) (vs : List V) (Q : VK) (E : XK), Room k A → A.guards = some [] → Env0 P w K mg base A outer s H → BindsTo s fd args (ps.zip us) → Vals vs us → spD K fs vs H Q E →
    codeAny (model P w) A (.call (.ref f) args) (CR CX0 outer P w H s Q E) s
section
variable {X : Cx} {K : PySem.W.Frag} {fs : FS}
theorem SC.spD {E : XK} : SC K (fun vs H Q => spD K fs vs H Q E) fs := fun B M H vs ds Q QV hc ra q k => ⟨ds, M, B, Q, ra, hc, q, k⟩
theorem se_call {t : TA} {ψ : DA} {E : XK} (h : SA K t ψ) : SE K (tCall (spD K fs) [] E t) (dCB fs ψ) := by
  intro env M Q σ B H QV hs hc q k
  refine h env M _ σ B H _ hs hc q fun ds M1 vs B1 H1 q1 n1 r1 => ?_
  show spD K fs (vs ++ []) H1 QV E
  rw [List.append_nil]
  exact ⟨ds, M1, B1, Q, r1, n1.st, q1, fun r M' v B' H' q2 n2 r2 => k r M' v B' H' q2 (n1.trans n2) (r2.back n1)⟩
section
variable {k : Nat} {f : Addr} {fd : FuncData} {ps : List Str} {x : Str} {p pos : Pos} {e : Expr} {es : List Expr} {t : TA} {ψ : DA}
theorem ex_call (F : FnOk X.prog X.w X.K X.mg X.base CX0 k f fd ps (spD X.K fs)) (hr : Room k X.A) (hm : X.mg x = some (.ref f)) (hk : PySem.W.keepIn X.K (.ref f) = true) (hb : Binds X.K fd ps []) (ha : AX X (e :: es) t ψ) (hg : Gl X x := by rfl)
    (hdb : (x == ("__debug__" : Str)) = false := by decide) (he : starEach (e :: es) X.env = (false, eval e X.env) :: starEach es X.env := by rfl) (hpl : (backTo pos (starEach es X.env)).any (·.1) = false := by rfl) :
    EX X (.Call (.Name x p) (e :: es) [] pos) (tCall (spD X.K fs) [] E0 t) (dCB fs ψ) := ⟨pe_call F hr hg hm hk hb .nil pass0 ha.pa hdb he hpl, se_call ha.s⟩
/-- the call of a def that is promised where nothing is being shown -/
theorem ex_callG (F : FnG X.prog X.w X.K X.mg X.base k f fd ps fs) (hgu : X.A.guards = some []) (hr : Room k X.A) (hm : X.mg x = some (.ref f)) (hk : PySem.W.keepIn X.K (.ref f) = true) (hb : Binds X.K fd ps []) (ha : AX X (e :: es) t ψ) (hg : Gl X x := by rfl)
    (hdb : (x == ("__debug__" : Str)) = false := by decide) (he : starEach (e :: es) X.env = (false, eval e X.env) :: starEach es X.env := by rfl) (hpl : (backTo pos (starEach es X.env)).any (·.1) = false := by rfl) :
    EX X (.Call (.Name x p) (e :: es) [] pos) (tCall (spD X.K fs) [] E0 t) (dCB fs ψ) := by
  refine ⟨⟨fun pins s σ H Q I h => wpAny_Call_Name_kw (ld_glob I hg hm (PySem.W.callWith_K (h₀ := X.base) I.ok.mod.kin hk (thn (ha.pa.run pos pins s σ H _ I h) fun us s1 ⟨vs, H1, I1, r, q⟩ => ⟨I1.kIn, ?_⟩) he hpl) hdb)⟩, se_call ha.s⟩
  have q' : spD X.K fs vs H1 Q E0 := by
    have q0 : spD X.K fs (vs ++ []) H1 Q E0 := q
    rw [List.append_nil] at q0
    exact q0
  have hl : us.length = ps.length := by
    obtain ⟨ds, M, B, QD, ra, _, hf, _⟩ := q'
    rw [← r.length, ra.length]
    exact F.len ds M QD hf
  have hbb := hb s1 us I1.kIn (by rw [List.append_nil]; exact hl)
  rw [List.append_nil] at hbb
  refine wpAny_call (codeAny_mono (F.run X.A X.stack s1 H1 _ us vs Q E0 hr hgu I1.env0 hbb r q') fun res s' hq => ?_)
  match res, hq with
  | .ok (.ret u), hq => exact I1.after hq
  | .error e, hq => exact False.elim hq
end
/-! ### methods, properties, making -/
def dMeth (C0 : Addr) (m : Str) (fs : FS) (φ : DE) (ψ : DA) : DE := fun env M Q => φ env M fun r M1 => ∃ d gs, r = .d d ∧ insR C0 M1 d gs ∧ gs.lookup m = none ∧ ψ env M1 fun ds M2 => fs (d :: ds) M2 Q
theorem se_meth {C0 : Addr} {m : Str} {E : XK} {t : TE} {u : TA} {φ : DE} {ψ : DA} (h : SE K t φ) (g : SA K u ψ) : SE K (tMeth C0 m (spD K fs) [] E t u) (dMeth C0 m fs φ ψ) := by
  intro env M Q σ B H QV hs hc q k
  refine h env M _ σ B H _ hs hc q fun r M1 v B1 H1 q1 n1 r1 => ?_
  obtain ⟨d, gs, rfl, gi, gl, q2⟩ := q1
  obtain ⟨a, dx, vs, rfl, h1, h2⟩ := gi.at n1.st r1
  refine ⟨a, dx, vs, rfl, h1, h2.none gl, ?_⟩
  refine g env M1 _ σ B1 H1 _ (hs.mono n1.ext) n1.st q2 fun ds M2 ws B2 H2 q3 n2 r2 => ?_
  show spD K fs (.ref a :: (ws ++ [])) H2 QV E
  rw [List.append_nil]
  have n12 := n1.trans n2
  exact ⟨d :: ds, M2, B2, Q, .cons (Rp.mono n2.ext r1) r2, n2.st, q3, fun r M' v B' H' q4 n3 r3 => k r M' v B' H' q4 (n12.trans n3) (r3.back n12)⟩
section
variable {k : Nat} {f C0 : Addr} {fd : FuncData} {ps : List Str} {m : Str} {apos pos : Pos} {o e : Expr} {es : List Expr} {to : TE} {t : TA} {φ : DE} {ψ : DA}
theorem ex_meth {pl : Sem Bool} (ho : EX X o to φ) (c : Cls X.K C0) (hm : Meth X.K C0 m f) (F : FnOk X.prog X.w X.K X.mg X.base CX0 k f fd ps (spD X.K fs)) (hr : Room k X.A) (hb : Binds X.K fd ps []) (ha : AX X (e :: es) t ψ)
    (hst : starEach (e :: es) X.env = (false, eval e X.env) :: starEach es X.env := by rfl) (hpl : (backTo pos (starEach es X.env)).any (·.1) = false := by rfl)
    (ht : eval (.Call (.Attribute o m apos) (e :: es) [] pos) X.env = (do
      let ov ← eval o X.env
      standAt apos.atName
      let (f, first) ← holding [ov] (getMethod ov m pl)
      callWith pos f first (backTo pos (starEach (e :: es) X.env)) (backToKw pos (keywordEach [] X.env))) := by rfl) :
    EX X (.Call (.Attribute o m apos) (e :: es) [] pos) (tMeth C0 m (spD X.K fs) [] E0 to t) (dMeth C0 m fs φ ψ) := ⟨pe_meth ho.pe c hm F hr hb .nil pass0 ha.pa hst hpl ht, se_meth ho.s ha.s⟩
theorem ex_meth0 {pl : Sem Bool} (ho : EX X o to φ) (c : Cls X.K C0) (hm : Meth X.K C0 m f) (F : FnOk X.prog X.w X.K X.mg X.base CX0 k f fd ps (spD X.K fs)) (hr : Room k X.A) (hb : Binds X.K fd ps [])
    (ht : eval (.Call (.Attribute o m apos) [] [] pos) X.env = (do
      let ov ← eval o X.env
      standAt apos.atName
      let (f, first) ← holding [ov] (getMethod ov m pl)
      callWith pos f first (backTo pos (starEach [] X.env)) (backToKw pos (keywordEach [] X.env))) := by rfl) :
    EX X (.Call (.Attribute o m apos) [] [] pos) (tMeth C0 m (spD X.K fs) [] E0 to tNil) (dMeth C0 m fs φ dNil) := ⟨pe_meth0 ho.pe c hm F hr hb .nil pass0 ht, se_meth ho.s SA.nil⟩
def dProp (C0 : Addr) (fs : FS) (φ : DE) : DE := fun env M Q => φ env M fun r M1 => ∃ d gs, r = .d d ∧ insR C0 M1 d gs ∧ fs [d] M1 Q
theorem ex_prop {q : Addr} (ho : EX X e to φ) (c : Cls X.K C0) (hp : PropOf X.K C0 m q f) (F : FnOk X.prog X.w X.K X.mg X.base CX0 k f fd ps (spD X.K fs)) (hr : Room (k + 1) X.A) (hb : Binds X.K fd ps [])
    (hab : attributeBase e m X.env (eval e X.env) = eval e X.env := by rfl) : EX X (.Attribute e m pos) (tProp C0 (spD X.K fs) [] E0 to) (dProp C0 fs φ) := by
  refine ⟨pe_prop ho.pe c hp F hr hb .nil pass0 hab, fun env M Q σ B H QV hs hc q k => ?_⟩
  refine ho.s env M _ σ B H _ hs hc q fun r M1 v B1 H1 q1 n1 r1 => ?_
  obtain ⟨d, gs, rfl, gi, q2⟩ := q1
  obtain ⟨a, dx, vs, rfl, h1, h2⟩ := gi.at n1.st r1
  exact ⟨a, dx, vs, rfl, h1, [d], M1, B1, Q, .cons r1 .nil, n1.st, q2, fun r M' v B' H' q3 n2 r2 => k r M' v B' H' q3 (n1.trans n2) (r2.back n1)⟩
/-- C(..): a new instance as a cell, then __init__; then it is held as it stands -/
def dMake (C0 : Addr) (fs : FS) (ψ : DA) : DE := fun env M Q => ψ env M fun ds M1 => ∀ x, M1 x = none → fs (.cell x :: ds) (M1.set x (.obj C0 [])) fun r M2 => r = .d .non ∧ ∃ m, M2 x = some m ∧ Q (.d (frz m)) (M2.del x)
theorem se_make {E : XK} {t : TA} {ψ : DA} {C0 : Addr} (h : SA K t ψ) : SE K (tMake C0 (spD K fs) [] E t) (dMake C0 fs ψ) := by
  intro env M Q σ B H QV hs hc q k
  refine h env M _ σ B H _ hs hc q fun ds M1 vs B1 H1 q1 n1 r1 => ?_
  intro x dx hx hdx ne
  have hBx : B1 x = none := by
    cases z : B1 x with
    | none => rfl
    | some o =>
      rw [n1.st.ex x o z] at hx
      cases hx
  have hMx : M1 x = none := by
    cases z : M1 x with
    | none => rfl
    | some m =>
      obtain ⟨o, ho⟩ := n1.st.there z
      rw [ho] at hx
      cases hx
  have e1 : Ex H1 (upd (upd H1 dx (.own x)) x (.ins C0 dx [])) := fun b o e => by
    rw [upd_ne (ne_of_none e hx), upd_ne (ne_of_none e hdx)]
    exact e
  have n2 : Nx K B1 M1 H1 B1 (M1.set x (.obj C0 [])) (upd (upd H1 dx (.own x)) x (.ins C0 dx [])) := by
    refine ⟨Ex.refl _, ⟨n1.st.ex.trans e1, fun p m e => ?_⟩, fun a o _ e => e1 a o e, fun _ _ _ _ => rfl, fun a o e z => ?_, fun a o e => ⟨o, e1 a o e⟩⟩
    · by_cases z : p = x
      · subst z
        rw [Mem.set_same] at e
        cases e
        exact ⟨hBx, dx, [], upd_same, .nil⟩
      · rw [Mem.set_ne z] at e
        exact ⟨(n1.st.cell p m e).1, (n1.st.cell p m e).2.mono (Ex.refl _) fun o q => e1 p o q⟩
    · rw [Mem.set_ne (ne_of_none e hx)]
      exact z
  show spD K fs (.ref x :: (vs ++ [])) _ _ _
  rw [List.append_nil]
  refine ⟨.cell x :: ds, M1.set x (.obj C0 []), B1, _, .cons (.cell x) r1, n2.st, q1 x hMx, fun r M' v B' H' q2 n3 r2 => ?_⟩
  obtain ⟨rfl, m, hm, q3⟩ := q2
  cases r2
  refine ⟨rfl, ?_⟩
  have n123 := (n1.trans n2).trans n3
  obtain ⟨B2, n4, g4⟩ := n3.st.hold hm
  exact k _ _ _ _ _ q3 (n123.trans n4) g4
theorem ex_make {x : Str} {p : Pos} (M : Mk X.K C0 f) (F : FnOk X.prog X.w X.K X.mg X.base CX0 k f fd ps (spD X.K fs)) (hr : Room (k + 1) X.A) (hm : X.mg x = some (.ref C0)) (hb : Binds X.K fd ps []) (ha : AX X (e :: es) t ψ) (hg : Gl X x := by rfl)
    (hdb : (x == ("__debug__" : Str)) = false := by decide) (he : starEach (e :: es) X.env = (false, eval e X.env) :: starEach es X.env := by rfl) (hpl : (backTo pos (starEach es X.env)).any (·.1) = false := by rfl) :
    EX X (.Call (.Name x p) (e :: es) [] pos) (tMake C0 (spD X.K fs) [] E0 t) (dMake C0 fs ψ) := ⟨pe_make M F hr hg hm hb .nil pass0 ha.pa hdb he hpl, se_make ha.s⟩
end
/-! ### a list's own methods -/
section
variable {o e : Expr} {to te : TE} {φ ψ : DE} {apos cpos : Pos}
def dAppend (φ ψ : DE) : DE := fun env M Q => φ env M fun r M1 => ∃ p ds1, r = .d (.cell p) ∧ M1 p = some (.lst ds1) ∧ ψ env M1 fun y M2 => ∃ ds, M2 p = some (.lst ds) ∧ ds.length < sizeLine ∧ Q (.d .non) (M2.set p (.lst (ds ++ [settle y])))
theorem ex_append (ho : EX X o to φ) (he : EX X e te ψ) (hbase : attributeBase o "append" X.env (eval o X.env) = eval o X.env := by rfl)
    (hfew : ((backTo cpos (starEach (e :: []) X.env)).all (fun x => !x.1) && (backToKw cpos (keywordEach [] X.env)).all (fun x => x.1.isSome)
      && decide ((e :: []).length + ([] : List Keyword).length + (if ([] : List Keyword).isEmpty then 0 else 1) < 30)) = true := by rfl)
    (hline : (apos.endLine == cpos.line) = true := by rfl) (hs : starEach (e :: []) X.env = (false, eval e X.env) :: starEach [] X.env := by rfl) (hplain : (backTo cpos (starEach [] X.env)).any (·.1) = false := by rfl) :
    EX X (.Call (.Attribute o "append" apos) [e] [] cpos) (tBM X.K "list" rAppend to (tCons te tNil)) (dAppend φ ψ) := by
  refine ⟨pe_bm PySem.F.plainAttrs_list PySem.F.slot_list_append PySem.F.type_list_append mt_append ho.pe (pa_cons he.pe pa_nil hs) hbase hfew hline hs hplain, fun env M Q σ B H QV hs hc q k => ?_⟩
  refine ho.s env M _ σ B H _ hs hc q fun r M1 v B1 H1 q1 n1 r1 => ?_
  obtain ⟨p, ds1, rfl, hm1, q2⟩ := q1
  cases r1
  obtain ⟨_, xs1, g1, g2⟩ := n1.st.cell _ _ hm1
  refine ⟨Or.inl ⟨rfl, xs1, SqL.of g1⟩, ?_⟩
  refine he.s env M1 _ σ B1 H1 _ (hs.mono n1.ext) n1.st q2 fun y M2 w B2 H2 q3 n2 r2 => ?_
  obtain ⟨ds, hm2, hl, q4⟩ := q3
  obtain ⟨B3, n3, g3, _⟩ := settle_ok r2 n2
  obtain ⟨_, xs, g4, g5⟩ := n3.st.cell _ _ hm2
  refine ⟨p, xs, w, rfl, rfl, g4, by rw [g5.length]; exact hl, ?_⟩
  have n4 := n3.st.write (o := .lst (xs ++ [w])) hm2 (m' := .lst (ds ++ [settle y])) ⟨_, upd_same, g5.append (.cons g3 .nil)⟩
  exact k _ _ _ _ _ q4 ((n1.trans n3).trans n4) .non
def dPop (φ : DE) : DE := fun env M Q => φ env M fun r M1 => ∃ p ds y, r = .d (.cell p) ∧ M1 p = some (.lst ds) ∧ ds[ds.length - 1]? = some y ∧ Q (.d y) (M1.set p (.lst ds.dropLast))
theorem ex_pop (ho : EX X o to φ) (hbase : attributeBase o "pop" X.env (eval o X.env) = eval o X.env := by rfl) (hline : (apos.endLine == cpos.line) = true := by rfl) :
    EX X (.Call (.Attribute o "pop" apos) [] [] cpos) (tBM0 X.K "list" rPop to) (dPop φ) := by
  refine ⟨pe_bm0 PySem.F.plainAttrs_list PySem.F.slot_list_pop PySem.F.type_list_pop mt_pop ho.pe hbase hline, fun env M Q σ B H QV hs hc q k => ?_⟩
  refine ho.s env M _ σ B H _ hs hc q fun r M1 v B1 H1 q1 n1 r1 => ?_
  obtain ⟨p, ds, y, rfl, hm, hy, q2⟩ := q1
  cases r1
  obtain ⟨_, xs, g1, g2⟩ := n1.st.cell _ _ hm
  rw [← g2.length] at hy
  obtain ⟨w, hw, rw_⟩ := g2.get hy
  refine ⟨Or.inl ⟨rfl, xs, SqL.of g1⟩, p, xs, w, rfl, rfl, g1, hw, ?_⟩
  have n4 := n1.st.write (o := .lst xs.dropLast) hm (m' := .lst ds.dropLast) ⟨_, upd_same, g2.dropLast⟩
  exact k _ _ _ _ _ q2 (n1.trans n4) rw_
end
end
end Dl
set_option Elab.async false
set_option linter.all false
set_option maxRecDepth 100000
set_option maxHeartbeats 4000000
namespace Dl
open PySem PySem.Spec PyProof.Rows L2
/-! ### what is walked -/
abbrev DW := Env → Mem → (List Dat → (Mem → Prop) → Mem → Prop) → Prop
structure Wk (K : PySem.W.Frag) (B0 : Hp) (J : It) (ys : List Dat) (stay : Mem → Prop) : Prop where
  go : ∀ (i : Nat) B M H, Ex B0 B → Cs K B M H → stay M → i < ys.length → J.go i H
  yld : ∀ (i : Nat) x B M H H', Ex B0 B → Cs K B M H → stay M → i < ys.length → J.yld i H x H' → ∃ B' y, Nx K B M H B' M H' ∧ ys[i]? = some y ∧ Rp K B' x y
  stop : ∀ (i : Nat) B M H, Ex B0 B → Cs K B M H → stay M → ys.length ≤ i → J.stop i H
def SW (K : PySem.W.Frag) (wi : TI) (ω : DW) : Prop := ∀ (env : Env) (M : Mem) (Q : List Dat → (Mem → Prop) → Mem → Prop) (σ : L2.St) (B H : Hp) (R : It → Hp → Prop), SR K B σ env → Cs K B M H → ω env M Q →
  (∀ ys stay M' B' H' J, Q ys stay M' → Nx K B M H B' M' H' → Wk K B' J ys stay → R J H') → wi σ H R
structure IX (X : Cx) (tg iter : Expr) (wi : TI) (ω : DW) : Prop where
  pi : PI X tg iter wi
  s : SW X.K wi ω
section
variable {X : Cx} {K : PySem.W.Frag} {tg : Expr}
def iSeq (K : PySem.W.Frag) (tl : TE) : TI := fun σ H R => tl σ H fun x H1 => ∃ a, x = .ref a ∧ (((∃ xs, SqL K H1 a xs) ∧ R (Itl K a) H1) ∨ ((∃ xs, SqT K H1 a xs) ∧ R (Itt K a) H1))
theorem pi_seq {l : Expr} {tl : TE} (hl : PE X l tl) : PI X tg l (iSeq X.K tl) := by
  refine ⟨fun pins s σ H R I h => thn (hl.run pins s σ H _ I h) fun v s1 hv => ?_⟩
  obtain ⟨x, H1, I1, r1, a, e, q⟩ := hv
  subst e
  cases r1
  have fr : ∀ b ∈ [s1.heap.objs.size], FpOk X pins H1 b := fun b hb => by
    cases List.mem_singleton.mp hb
    exact I1.fpOk (Nat.le_refl _) I1.fresh
  rcases q with ⟨⟨xs, hq⟩, q⟩ | ⟨⟨xs, hq⟩, q⟩
  · obtain ⟨its, rv, p, hz⟩ := I1.list hq
    exact wpAny_pyIter_list p.isList ⟨s1.heap.objs.size, [s1.heap.objs.size], _, _, H1, rfl, I1.kept (t' := s1.toks) (fun b o e => Heap.get?_push_of_some _ e), turn_list a _, ⟨_, Heap.get?_push_size _ rfl, rfl, rfl⟩, fr, q⟩
  · obtain ⟨its, rv, p, hz⟩ := I1.tuple hq
    exact wpAny_pyIter_tuple (show s1.heap.IsTuple a its.toArray from p) ⟨s1.heap.objs.size, [s1.heap.objs.size], _, _, H1, rfl, I1.kept (t' := s1.toks) (fun b o e => Heap.get?_push_of_some _ e), turn_tuple a _, ⟨_, Heap.get?_push_size _ rfl, rfl, rfl⟩, fr, q⟩
def stayR (ys : List Dat) : Dat → Mem → Prop
  | .cell p, M => M p = some (.lst ys)
  | _, _ => True
def dSeqW (φ : DE) : DW := fun env M Q => φ env M fun r M1 => ∃ ys, SeqR M1 r ys ∧ Q ys (stayR ys (settle r)) M1
theorem wk_list {B0 : Hp} {a : Addr} {ys : List Dat} {stay : Mem → Prop} (h : ∀ B M H, Ex B0 B → Cs K B M H → stay M → ∃ xs, SqL K H a xs ∧ RpA K B xs ys) : Wk K B0 (Itl K a) ys stay := by
  refine ⟨fun i B M H e s t hi => ?_, fun i x B M H H' e s t hi y => ?_, fun i B M H e s t hi => ?_⟩
  · obtain ⟨xs, h1, h2⟩ := h B M H e s t
    have hl : i < xs.length := by rw [h2.length]; exact hi
    exact ⟨xs, xs[i], h1, List.getElem?_eq_getElem hl⟩
  · obtain ⟨xs, h1, h2⟩ := h B M H e s t
    obtain ⟨rfl, y⟩ := y
    obtain ⟨d, g1, g2⟩ := h2.get' (y xs h1)
    exact ⟨B, d, Nx.refl s, g1, g2⟩
  · obtain ⟨xs, h1, h2⟩ := h B M H e s t
    exact ⟨xs, h1, by rw [h2.length]; exact hi⟩
theorem wk_tup {B0 : Hp} {a : Addr} {ys : List Dat} {xs : List V} {stay : Mem → Prop} (h1 : SqT K B0 a xs) (h2 : RpA K B0 xs ys) : Wk K B0 (Itt K a) ys stay := by
  refine ⟨fun i B M H e s t hi => ?_, fun i x B M H H' e s t hi y => ?_, fun i B M H e s t hi => ?_⟩
  · have hl : i < xs.length := by rw [h2.length]; exact hi
    exact ⟨xs, xs[i], s.ex.st (e.st h1), List.getElem?_eq_getElem hl⟩
  · obtain ⟨rfl, y⟩ := y
    obtain ⟨d, g1, g2⟩ := h2.get' (y xs (s.ex.st (e.st h1)))
    exact ⟨B, d, Nx.refl s, g1, g2.mono e⟩
  · exact ⟨xs, s.ex.st (e.st h1), by rw [h2.length]; exact hi⟩
theorem ix_seq {l : Expr} {tl : TE} {φ : DE} (h : EX X l tl φ) : IX X tg l (iSeq X.K tl) (dSeqW φ) := by
  refine ⟨pi_seq h.pe, fun env M Q σ B H R hs hc q k => ?_⟩
  refine h.s env M _ σ B H _ hs hc q fun r M1 v B1 H1 q1 n1 r1 => ?_
  obtain ⟨ys, g, q2⟩ := q1
  obtain ⟨B2, n2, g2, _⟩ := settle_ok r1 n1
  have fin : ∀ J, Wk X.K B2 J ys (stayR ys (settle r)) → R J H1 := fun J w => k ys _ M1 B2 H1 J q2 n2 w
  have g' : SeqR M1 (.d (settle r)) ys := by
    cases r with
    | d x => exact g
    | new m =>
      cases m with
      | lst ds => exact g
      | obj C fs => exact False.elim g
  have lst : (∃ a, v = .ref a ∧ ∀ B M H, Ex B2 B → Cs X.K B M H → stayR ys (settle r) M → ∃ xs, SqL X.K H a xs ∧ RpA X.K B xs ys) → ∃ a, v = .ref a ∧ (((∃ xs, SqL X.K H1 a xs) ∧ R (Itl X.K a) H1) ∨ ((∃ xs, SqT X.K H1 a xs) ∧ R (Itt X.K a) H1)) := by
    rintro ⟨a, rfl, w⟩
    refine ⟨a, rfl, Or.inl ⟨?_, fin _ (wk_list w)⟩⟩
    have st0 : stayR ys (settle r) M1 := by
      unfold stayR
      split
      · rename_i p0 e
        rw [e] at g'
        exact g'
      · trivial
    obtain ⟨xs, h1, _⟩ := w B2 M1 H1 (Ex.refl _) n2.st st0
    exact ⟨xs, h1⟩
  generalize settle r = d at *
  unfold SeqR at g'
  split at g'
  · rename_i xs0 e
    have e := Rv.d.inj e
    subst e g'
    cases g2 with
    | lst h1 h2 => exact lst ⟨_, rfl, fun B M H e s _ => ⟨_, SqL.of (s.ex _ _ (e _ _ h1)), h2.mono e⟩⟩
  · rename_i xs0 e
    have e := Rv.d.inj e
    subst e g'
    cases g2 with
    | tup h1 h2 => exact ⟨_, rfl, Or.inr ⟨⟨_, n2.st.ex.st h1⟩, fin _ (wk_tup h1 h2)⟩⟩
  · rename_i xs0 e
    have e := Rv.d.inj e
    subst e g'
    cases g2 with
    | fz h1 h2 => exact lst ⟨_, rfl, fun B M H e s _ => ⟨_, s.ex.sl (e.sl h1), h2.mono e⟩⟩
  · rename_i p0 e
    have e := Rv.d.inj e
    subst e
    cases g2
    refine lst ⟨_, rfl, fun B M H e s t => ?_⟩
    obtain ⟨_, xs, h1, h2⟩ := s.cell _ _ (show M p0 = some (.lst _) from t)
    exact ⟨xs, SqL.of h1, h2⟩
  · rename_i xs0 e
    cases e
  · exact g'.elim
/-- lo, lo + 1, .. -/
def rngD (lo : Int) (n : Nat) : List Dat := (List.range n).map fun i : Nat => Dat.int (lo + i)
theorem rngD_len {lo : Int} {n : Nat} : (rngD lo n).length = n := by
  unfold rngD
  rw [List.length_map, List.length_range]
theorem rngD_get {lo : Int} {n i : Nat} {y : Dat} : (rngD lo n)[i]? = some y ↔ i < n ∧ y = .int (lo + i) := by
  unfold rngD
  rw [List.getElem?_map]
  constructor
  · intro h
    by_cases hi : i < n
    · rw [List.getElem?_range hi] at h
      exact ⟨hi, (Option.some.inj h).symm⟩
    · rw [List.getElem?_eq_none (by rw [List.length_range]; omega)] at h
      cases h
  · rintro ⟨hi, rfl⟩
    rw [List.getElem?_range hi] <;> rfl
theorem wk_rng {B0 : Hp} {lo : Int} {n : Nat} : Wk K B0 (Itr lo n) (rngD lo n) (fun _ => True) := by
  refine ⟨fun i B M H e s t hi => by rw [rngD_len] at hi; exact hi, fun i x B M H H' e s t hi y => ?_, fun i B M H e s t hi => by rw [rngD_len] at hi; exact hi⟩
  obtain ⟨rfl, rfl⟩ := y
  rw [rngD_len] at hi
  exact ⟨B, .int (lo + i), Nx.refl s, rngD_get.mpr ⟨hi, rfl⟩, .int _⟩
def dRng1 (ψ : DA) : DW := fun env M Q => ψ env M fun ds M1 => match ds with
  | [.int j] => -(2 ^ 62) ≤ j ∧ j < 2 ^ 62 ∧ Q (rngD 0 j.toNat) (fun _ => True) M1
  | _ => False
def dRng2 (ψ : DA) : DW := fun env M Q => ψ env M fun ds M1 => match ds with
  | [.int i, .int j] => (-(2 ^ 62) ≤ i ∧ i < 2 ^ 62 ∧ -(2 ^ 62) ≤ j ∧ j < 2 ^ 62) ∧ Q (rngD i (j - i).toNat) (fun _ => True) M1
  | _ => False
theorem ix_rng1 {a : Expr} {ta : TA} {ψ : DA} {p pos : Pos} (hm : X.mg "range" = none) (ha : AX X [a] ta ψ) (hg : Gl X "range" := by rfl) (hs : starEach [a] X.env = [(false, eval a X.env)] := by rfl) : IX X tg (.Call (.Name "range" p) [a] [] pos) (iRng1 ta) (dRng1 ψ) := by
  refine ⟨pi_range1 hg hm ha.pa hs, fun env M Q σ B H R hs hc q k => ?_⟩
  refine ha.s env M _ σ B H _ hs hc q fun ds M1 vs B1 H1 q1 n1 r1 => ?_
  split at q1
  · obtain ⟨z1, z2, q2⟩ := q1
    obtain ⟨v, rfl, r⟩ := r1.one
    cases r
    exact ⟨_, rfl, z1, z2, k _ _ _ _ _ _ q2 n1 wk_rng⟩
  · exact q1.elim
theorem ix_rng2 {a b : Expr} {ta : TA} {ψ : DA} {p pos : Pos} (hm : X.mg "range" = none) (ha : AX X [a, b] ta ψ) (hg : Gl X "range" := by rfl) (hs : starEach [a, b] X.env = [(false, eval a X.env), (false, eval b X.env)] := by rfl) (hs2 : starEach [b] X.env = [(false, eval b X.env)] := by rfl) :
    IX X tg (.Call (.Name "range" p) [a, b] [] pos) (iRng2 ta) (dRng2 ψ) := by
  refine ⟨pi_range2 hg hm ha.pa hs hs2, fun env M Q σ B H R hs hc q k => ?_⟩
  refine ha.s env M _ σ B H _ hs hc q fun ds M1 vs B1 H1 q1 n1 r1 => ?_
  split at q1
  · obtain ⟨z, q2⟩ := q1
    obtain ⟨v, w, rfl, r, r'⟩ := r1.two
    cases r
    cases r'
    exact ⟨_, _, rfl, z, k _ _ _ _ _ _ q2 n1 wk_rng⟩
  · exact q1.elim
/-! ### targets -/
abbrev DG := Dat → Env → (Env → Prop) → Prop
abbrev DGs := List Dat → Env → (Env → Prop) → Prop
def SG (K : PySem.W.Frag) (g : TG) (γ : DG) : Prop := ∀ (v : V) (y : Dat) (σ : L2.St) (env : Env) (B : Hp) (M : Mem) (H : Hp) (k : Env → Prop) (Q : L2.St → Hp → Prop), Cs K B M H → SR K B σ env → Rp K B v y → γ y env k → (∀ env' σ', k env' → SR K B σ' env' → Q σ' H) → g v σ H Q
def SGs (K : PySem.W.Frag) (g : TGs) (γ : DGs) : Prop := ∀ (vs : List V) (ys : List Dat) (σ : L2.St) (env : Env) (B : Hp) (M : Mem) (H : Hp) (k : Env → Prop) (Q : L2.St → Hp → Prop), Cs K B M H → SR K B σ env → RpA K B vs ys → γ ys env k → (∀ env' σ', k env' → SR K B σ' env' → Q σ' H) → g vs σ H Q
structure GX (X : Cx) (tg : Expr) (g : TG) (γ : DG) : Prop where
  pg : PG X tg g
  s : SG X.K g γ
structure GsX (X : Cx) (tgs : List Expr) (g : TGs) (γ : DGs) : Prop where
  pg : PGs X tgs g
  s : SGs X.K g γ
def gd (j : Nat) : DG := fun y env k => k (env.set j (some y))
def gdNil : DGs := fun ys env k => ys = [] ∧ k env
def gdCons (γ : DG) (δ : DGs) : DGs := fun ys env k => ∃ y r, ys = y :: r ∧ γ y env fun env' => δ r env' k
def gdTup (n : Nat) (δ : DGs) : DG := fun y env k => ∃ ys, y = .tup ys ∧ ys.length = n ∧ δ ys env k
theorem sg_name {j : Nat} : SG K (gName j) (gd j) := fun v y σ env B M H k Q hc hs r q w => w _ _ q (hs.set r j)
theorem gx_name {i : Nat} {x : Str} {pos : Pos} (hN : X.N.Nodup) (hi : X.N[i]? = some x := by rfl) (hx : Loc X.env.scope x := by first | exact Or.inl rfl | exact Or.inr rfl) (hf : X.fn x = true ∨ X.env.scope.names.lookup x = some .local := by first | exact .inl rfl | exact .inr rfl | assumption) : GX X (.Name x pos) (gName i) (gd i) := ⟨pg_name hN hi hx hf, sg_name⟩
theorem gs_nil : GsX X [] gNil gdNil := ⟨pgs_nil, fun vs ys σ env B M H k Q hc hs r q w => by
  obtain ⟨rfl, q⟩ := q
  cases r
  exact ⟨rfl, w _ _ q hs⟩⟩
theorem gs_cons {e : Expr} {es : List Expr} {g : TG} {gs : TGs} {γ : DG} {δ : DGs} (h : GX X e g γ) (h2 : GsX X es gs δ) (hs : (assignEach (e :: es) X.env).map (fun x => x.snd) = assign e X.env :: (assignEach es X.env).map (fun x => x.snd) := by rfl) : GsX X (e :: es) (gCons g gs) (gdCons γ δ) := ⟨pgs_cons h.pg h2.pg hs, fun vs ys σ env B M H k Q hc hs r q w => by
  obtain ⟨y, t, rfl, q⟩ := q
  cases r with
  | cons a b => exact ⟨_, _, rfl, h.s _ y σ env B M H _ _ hc hs a q fun env' σ' q2 s2 => h2.s _ t σ' env' B M H k Q hc s2 b q2 w⟩⟩
theorem gx_tup {es : List Expr} {c : Nat} {g : TGs} {γ : DGs} {n : Nat} {pos : Pos} (hc : X.calm = true) (h : GsX X es g γ) (hn : (assignEach es X.env).length = n := by rfl) (hst : (assignEach es X.env).findIdx? (·.1) = none := by rfl) : GX X (.Tuple es c pos) (gTup X.K n g) (gdTup n γ) := ⟨pg_tup hc h.pg hn hst, fun v y σ env B M H k Q hc hs r q w => by
  obtain ⟨ys, rfl, hl, q⟩ := q
  cases r with
  | tup a b => exact ⟨_, _, rfl, hc.ex.st a, by rw [b.length]; exact hl, h.s _ ys σ env B M H k Q hc hs b q w⟩⟩
end
end Dl
set_option Elab.async false
set_option linter.all false
set_option maxRecDepth 100000
set_option maxHeartbeats 4000000
namespace Dl
open PySem PySem.Spec PyProof.Rows L2
/-! ### statements -/
structure En where
  nx : Env → Mem → Prop
  rt : Rv → Mem → Prop
  bk : Env → Mem → Prop := fun _ _ => False
  ct : Env → Mem → Prop := fun _ _ => False
abbrev DS := En → Env → Mem → Prop
/-- what is wanted over data is what is wanted -/
structure Lk (K : PySem.W.Frag) (B : Hp) (M : Mem) (H : Hp) (E : En) (D : Ends) : Prop where
  nx : ∀ env' M' σ' B' H', E.nx env' M' → Nx K B M H B' M' H' → SR K B' σ' env' → D.nx σ' H'
  bk : ∀ env' M' σ' B' H', E.bk env' M' → Nx K B M H B' M' H' → SR K B' σ' env' → D.bk σ' H'
  ct : ∀ env' M' σ' B' H', E.ct env' M' → Nx K B M H B' M' H' → SR K B' σ' env' → D.ct σ' H'
  rt : ∀ r M' v B' H', E.rt r M' → Nx K B M H B' M' H' → RR K B' M' H H' v r → D.rt v H'
theorem Lk.trans {K : PySem.W.Frag} {B B1 : Hp} {M M1 : Mem} {H H1 : Hp} {E : En} {D : Ends} (l : Lk K B M H E D) (n : Nx K B M H B1 M1 H1) : Lk K B1 M1 H1 E D :=
  ⟨fun env' M' σ' B' H' q n' s => l.nx env' M' σ' B' H' q (n.trans n') s, fun env' M' σ' B' H' q n' s => l.bk env' M' σ' B' H' q (n.trans n') s, fun env' M' σ' B' H' q n' s => l.ct env' M' σ' B' H' q (n.trans n') s,
    fun r M' v B' H' q n' rr => l.rt r M' v B' H' q (n.trans n') (rr.back n)⟩
def SS (K : PySem.W.Frag) (t : TS) (φ : DS) : Prop := ∀ (E : En) (env : Env) (M : Mem) (σ : L2.St) (B H : Hp) (D : Ends), SR K B σ env → Cs K B M H → φ E env M → Lk K B M H E D → t D σ H
structure SX (X : Cx) (st : Stmt) (t : TS) (φ : DS) : Prop where
  ps : PS X st t
  s : SS X.K t φ
structure BX (X : Cx) (sts : List Stmt) (t : TS) (φ : DS) : Prop where
  ps : PSs X sts t
  s : SS X.K t φ
section
variable {X : Cx} {K : PySem.W.Frag}
def dNext : DS := fun E env M => E.nx env M
def dSeq (φ ψ : DS) : DS := fun E env M => φ { E with nx := ψ E } env M
theorem SS.next : SS K tNext dNext := fun E env M σ B H D hs hc q l => l.nx _ _ _ _ _ q (Nx.refl hc) hs
theorem SS.seq {t u : TS} {φ ψ : DS} (h : SS K t φ) (g : SS K u ψ) : SS K (tSeq t u) (dSeq φ ψ) := fun E env M σ B H D hs hc q l =>
  h { E with nx := ψ E } env M σ B H { D with nx := u D } hs hc q ⟨fun env' M' σ' B' H' q' n s => g E env' M' σ' B' H' D s n.st q' (l.trans n), l.bk, l.ct, l.rt⟩
theorem bx_nil : BX X [] tNext dNext := ⟨pss_nil, SS.next⟩
theorem bx_cons {st : Stmt} {rest : List Stmt} {t u : TS} {φ ψ : DS} (h : SX X st t φ) (g : BX X rest u ψ) : BX X (st :: rest) (tSeq t u) (dSeq φ ψ) := ⟨pss_cons h.ps g.ps, SS.seq h.s g.s⟩
theorem bx_one {st : Stmt} {t : TS} {φ : DS} (h : SX X st t φ) : BX X [st] t φ := ⟨pss_one h.ps, h.s⟩
def dNever : DS := fun _ _ _ => False
theorem sx_never {st : Stmt} : SX X st tNever dNever := ⟨ps_never, fun _ _ _ _ _ _ _ _ _ q _ => q.elim⟩
theorem sx_pass {pos : Pos} : SX X (.Pass pos) tNext dNext := ⟨ps_pass, SS.next⟩
def dBreak : DS := fun E env M => E.bk env M
def dCont : DS := fun E env M => E.ct env M
theorem sx_break {pos : Pos} : SX X (.Break pos) tBreak dBreak := ⟨ps_break, fun E env M σ B H D hs hc q l => l.bk _ _ _ _ _ q (Nx.refl hc) hs⟩
theorem sx_continue {pos : Pos} : SX X (.Continue pos) tCont dCont := ⟨ps_continue, fun E env M σ B H D hs hc q l => l.ct _ _ _ _ _ q (Nx.refl hc) hs⟩
/-- x = e, what is new held for good -/
def dSet (φ : DE) (i : Nat) : DS := fun E env M => φ env M fun r M1 => E.nx (env.set i (some (settle r))) M1
/-- x = e, a new list or instance that will change -/
def dSetC (φ : DE) (i : Nat) : DS := fun E env M => φ env M fun r M1 => ∃ m, r = .new m ∧ ∀ p, M1 p = none → E.nx (env.set i (some (.cell p))) (M1.set p m)
theorem SS.set {t : TE} {φ : DE} {i : Nat} (h : SE K t φ) : SS K (tAsg t (gName i)) (dSet φ i) := fun E env M σ B H D hs hc q l => by
  refine h env M _ σ B H _ hs hc q fun r M1 v B1 H1 q1 n1 r1 => ?_
  obtain ⟨B2, n2, g2, _⟩ := settle_ok r1 n1
  exact l.nx _ _ _ _ _ q1 n2 ((hs.mono n2.ext).set g2 i)
theorem SS.setC {t : TE} {φ : DE} {i : Nat} (h : SE K t φ) : SS K (tAsg t (gName i)) (dSetC φ i) := fun E env M σ B H D hs hc q l => by
  refine h env M _ σ B H _ hs hc q fun r M1 v B1 H1 q1 n1 r1 => ?_
  obtain ⟨m, rfl, q2⟩ := q1
  obtain ⟨p, rfl, hp, n2⟩ := r1.celled n1
  exact l.nx _ _ _ _ _ (q2 p hp) n2 ((hs.mono n2.ext).set (.cell p) i)
section
variable {i : Nat} {x : Str} {e : Expr} {t : TE} {φ : DE} {pos pos' : Pos}
theorem sx_set (hN : X.N.Nodup) (he : EX X e t φ) (hi : X.N[i]? = some x := by rfl) (hx : Loc X.env.scope x := by first | exact Or.inl rfl | exact Or.inr rfl) (hs : swapsWith e (some (.Name x pos')) pos.line X.env = pure false := by rfl)
    (hf : X.fn x = true ∨ X.env.scope.names.lookup x = some .local := by first | exact .inl rfl | exact .inr rfl | assumption) : SX X (.Assign [.Name x pos'] e pos) (tAsg t (gName i)) (dSet φ i) := ⟨ps_set hN hi hx he.pe hs hf, SS.set he.s⟩
theorem sx_setC (hN : X.N.Nodup) (he : EX X e t φ) (hi : X.N[i]? = some x := by rfl) (hx : Loc X.env.scope x := by first | exact Or.inl rfl | exact Or.inr rfl) (hs : swapsWith e (some (.Name x pos')) pos.line X.env = pure false := by rfl)
    (hf : X.fn x = true ∨ X.env.scope.names.lookup x = some .local := by first | exact .inl rfl | exact .inr rfl | assumption) : SX X (.Assign [.Name x pos'] e pos) (tAsg t (gName i)) (dSetC φ i) := ⟨ps_set hN hi hx he.pe hs hf, SS.setC he.s⟩
end
/-- a, b = e -/
def dAsg (φ : DE) (γ : DG) : DS := fun E env M => φ env M fun r M1 => γ (settle r) env fun env' => E.nx env' M1
theorem SS.asg {t : TE} {g : TG} {φ : DE} {γ : DG} (h : SE K t φ) (hg : SG K g γ) : SS K (tAsg t g) (dAsg φ γ) := fun E env M σ B H D hs hc q l => by
  refine h env M _ σ B H _ hs hc q fun r M1 v B1 H1 q1 n1 r1 => ?_
  obtain ⟨B2, n2, g2, _⟩ := settle_ok r1 n1
  exact hg v _ σ env B2 M1 H1 _ _ n2.st (hs.mono n2.ext) g2 q1 fun env' σ' q2 s2 => l.nx _ _ _ _ _ q2 n2 s2
theorem sx_asg {tg e : Expr} {t : TE} {g : TG} {φ : DE} {γ : DG} {pos : Pos} (he : EX X e t φ) (hg : GX X tg g γ) (hs : swapsWithSole [tg] e pos.line X.env = pure false := by rfl) (hw : swappedStores [tg] e X.env = pure none := by rfl)
    (h1 : (assignEach [tg] X.env).map (·.2) = [assign tg X.env] := by rfl) : SX X (.Assign [tg] e pos) (tAsg t g) (dAsg φ γ) := ⟨ps_asg he.pe hg.pg hs hw h1, SS.asg he.s hg.s⟩
/-- xs[i] = e -/
def dSetI (φ φo φi : DE) : DS := fun E env M => φ env M fun r M1 => φo env M1 fun ro M2 => φi env M2 fun ri M3 => ∃ p ds i j, ro = .d (.cell p) ∧ ri = .d (.int i) ∧ M3 p = some (.lst ds) ∧ ixN ds.length i = some j ∧ E.nx env (M3.set p (.lst (ds.set j (settle r))))
theorem SS.setI {t to ti : TE} {φ φo φi : DE} (h : SE K t φ) (ho : SE K to φo) (hi : SE K ti φi) : SS K (tAsg t (gSub to ti rSetL)) (dSetI φ φo φi) := fun E env M σ B H D hs hc q l => by
  refine h env M _ σ B H _ hs hc q fun r M1 v B0 H1 q1 n0 r0 => ?_
  obtain ⟨B1, n1, g1, _⟩ := settle_ok r0 n0
  refine ho env M1 _ σ B1 H1 _ (hs.mono n1.ext) n1.st q1 fun ro M2 vo B2 H2 q2 n2 r2 => ?_
  have n12 := n1.trans n2
  refine hi env M2 _ σ B2 H2 _ (hs.mono n12.ext) n12.st q2 fun ri M3 vi B3 H3 q3 n3 r3 => ?_
  obtain ⟨p, ds, i, j, rfl, rfl, hm, hj, q4⟩ := q3
  cases r2
  cases r3
  have n := n12.trans n3
  obtain ⟨_, xs, e1, e2⟩ := n.st.cell _ _ hm
  refine ⟨p, xs, i, j, rfl, rfl, e1, by rw [e2.length]; exact hj, ?_⟩
  have n4 := n.st.write (o := .lst (xs.set j v)) hm (m' := .lst (ds.set j (settle r))) ⟨_, upd_same, e2.set (g1.mono (n2.trans n3).ext) j⟩
  exact l.nx _ _ _ _ _ q4 (n.trans n4) (hs.mono (n.trans n4).ext)
theorem sx_setI {o i e : Expr} {t to ti : TE} {φ φo φi : DE} {pos tpos : Pos} (he : EX X e t φ) (ho : EX X o to φo) (hi : EX X i ti φi) (ha : ∀ v, assign (.Subscript o i tpos) X.env v = (do
      let ov ← holding [v] (eval o X.env)
      let iv ← holding [v, ov] (eval i X.env)
      standAt tpos
      holding [v, ov, iv] (setItem ov iv v)
      release [v, ov, iv] []) := by intro _; rfl) (hs : swapsWithSole [.Subscript o i tpos] e pos.line X.env = pure false := by rfl)
    (hw : swappedStores [.Subscript o i tpos] e X.env = pure none := by rfl) (h1 : (assignEach [.Subscript o i tpos] X.env).map (·.2) = [assign (.Subscript o i tpos) X.env] := by rfl) : SX X (.Assign [.Subscript o i tpos] e pos) (tAsg t (gSub to ti rSetL)) (dSetI φ φo φi) :=
  ⟨ps_asg he.pe (pg_sub ho.pe hi.pe set_list ha) hs hw h1, SS.setI he.s ho.s hi.s⟩
/-- o.f = e -/
def dSetF (C0 : Addr) (f : Str) (φ φo : DE) : DS := fun E env M => φ env M fun r M1 => φo env M1 fun ro M2 => ∃ p fs, ro = .d (.cell p) ∧ M2 p = some (.obj C0 fs) ∧ fs.length < 1000 ∧ E.nx env (M2.set p (.obj C0 (putD f (settle r) fs)))
theorem sx_setF {C0 : Addr} {f : Str} {o e : Expr} {t to : TE} {φ φo : DE} {pos pos' : Pos} (c : Cls X.K C0) (n : NoAttr X.K C0 f) (he : EX X e t φ) (ho : EX X o to φo) (hs : swapsWith e (some (.Attribute o f pos')) pos.line X.env = pure false := by rfl) :
    SX X (.Assign [.Attribute o f pos'] e pos) (sFld X.K to t f) (dSetF C0 f φ φo) := ⟨ps_fld ho.pe he.pe hs, fun E env M σ B H D hs hc q l => by
  refine he.s env M _ σ B H _ hs hc q fun r M1 v B0 H1 q1 n0 r0 => ?_
  obtain ⟨B1, n1, g1, _⟩ := settle_ok r0 n0
  refine ho.s env M1 _ σ B1 H1 _ (hs.mono n1.ext) n1.st q1 fun ro M2 vo B2 H2 q2 n2 r2 => ?_
  obtain ⟨p, fs, rfl, hm, hl, q3⟩ := q2
  cases r2
  have n12 := n1.trans n2
  obtain ⟨_, dx, vs, e1, e2⟩ := n12.st.cell _ _ hm
  refine ⟨p, C0, dx, vs, rfl, e1, c, n, by rw [e2.length]; exact hl, ?_⟩
  have n4 := n12.st.write (o := .ins C0 dx (putF f v vs)) hm (m' := .obj C0 (putD f (settle r) fs)) ⟨_, _, upd_same, e2.put (g1.mono n2.ext)⟩
  exact l.nx _ _ _ _ _ q3 (n12.trans n4) (hs.mono (n12.trans n4).ext)⟩
/-- e -/
def dDrop (φ : DE) : DS := fun E env M => φ env M fun _ M1 => E.nx env M1
theorem sx_expr {e : Expr} {t : TE} {φ : DE} {pos : Pos} (he : EX X e t φ) (hs : swapsWith e none pos.line X.env = pure false := by rfl) : SX X (.Expr e pos) (tDrop t) (dDrop φ) := ⟨ps_expr he.pe hs, fun E env M σ B H D hs hc q l => by
  refine he.s env M _ σ B H _ hs hc q fun r M1 v B1 H1 q1 n1 r1 => ?_
  exact l.nx _ _ _ _ _ q1 n1 (hs.mono n1.ext)⟩
/-- return e -/
def dRet (φ : DE) : DS := fun E env M => φ env M E.rt
theorem sx_ret {e : Expr} {t : TE} {φ : DE} {pos : Pos} (he : EX X e t φ) : SX X (.Return (some e) pos) (tRet t) (dRet φ) := ⟨ps_ret he.pe, fun E env M σ B H D hs hc q l => he.s env M _ σ B H _ hs hc q fun r M1 v B1 H1 q1 n1 r1 => l.rt _ _ _ _ _ q1 n1 r1⟩
def dRetN : DS := fun E env M => E.rt (.d .non) M
theorem sx_retN {pos : Pos} : SX X (.Return none pos) tRetN dRetN := ⟨ps_retN, fun E env M σ B H D hs hc q l => l.rt _ _ _ _ _ q (Nx.refl hc) .non⟩
/-- if -/
def dIfS (τ : DT) (φ ψ : DS) : DS := fun E env M => τ env M fun b M1 => if b = true then φ E env M1 else ψ E env M1
theorem sx_if {c : Expr} {a b : List Stmt} {tc : TT} {t u : TS} {τ : DT} {φ ψ : DS} {pos : Pos} (hc : TX X c tc τ) (ha : BX X a t φ) (hb : BX X b u ψ) : SX X (.If c a b pos) (tIfS tc t u) (dIfS τ φ ψ) := ⟨ps_if hc.pt ha.ps hb.ps, fun E env M σ B H D hs hc' q l => by
  refine hc.s env M _ σ B H _ hs hc' q fun k M1 B1 H1 q1 n1 => ?_
  cases k with
  | true =>
    rw [if_pos rfl] at q1 ⊢
    exact ha.s E env M1 σ B1 H1 D (hs.mono n1.ext) n1.st q1 (l.trans n1)
  | false =>
    rw [if_neg Bool.false_ne_true] at q1 ⊢
    exact hb.s E env M1 σ B1 H1 D (hs.mono n1.ext) n1.st q1 (l.trans n1)⟩
/-- for -/
def dFor (ω : DW) (γ : DG) (φ : DS) : DS := fun E env M => ω env M fun ys stay M1 => ∃ Inv : Nat → Env → Mem → Prop, Inv 0 env M1 ∧ (∀ i env' M', i ≤ ys.length → Inv i env' M' → stay M') ∧
  (∀ i y env' M', ys[i]? = some y → Inv i env' M' → γ y env' fun env'' => φ ⟨Inv (i + 1), E.rt, E.nx, Inv (i + 1)⟩ env'' M') ∧ ∀ env' M', Inv ys.length env' M' → E.nx env' M'
theorem SS.for_ {wi : TI} {g : TG} {t : TS} {ω : DW} {γ : DG} {φ : DS} (hw : SW K wi ω) (hg : SG K g γ) (hb : SS K t φ) : SS K (tFor wi g t) (dFor ω γ φ) := fun E env M σ B H D hs hc q l => by
  refine hw env M _ σ B H _ hs hc q fun ys stay M1 B1 H1 J q1 n1 w => ?_
  obtain ⟨Inv, i0, ist, istep, iend⟩ := q1
  refine ⟨fun i m σ' H' => m = ys.length - i ∧ i ≤ ys.length ∧ ∃ env' M' B', Inv i env' M' ∧ Nx K B1 M1 H1 B' M' H' ∧ SR K B' σ' env', ⟨ys.length, by omega, Nat.zero_le _, env, M1, B1, i0, Nx.refl n1.st, hs.mono n1.ext⟩, ?_⟩
  rintro i m σ' H' ⟨rfl, hi, env', M', B', iv, n2, s2⟩
  have st := ist i env' M' hi iv
  by_cases hlt : i < ys.length
  · refine Or.inr ⟨w.go i B' M' H' n2.ext n2.st st hlt, fun σ3 H3 => ∃ env3 M3 B3, Inv (i + 1) env3 M3 ∧ Nx K B1 M1 H1 B3 M3 H3 ∧ SR K B3 σ3 env3, fun σ3 H3 hN => ⟨ys.length - (i + 1), by omega, rfl, hlt, hN⟩, fun x H3 y => ?_⟩
    obtain ⟨B3, d, n3, hd, rd⟩ := w.yld i x B' M' H' H3 n2.ext n2.st st hlt y
    refine hg x d σ' env' B3 M' H3 _ _ n3.st (s2.mono n3.ext) rd (istep i d env' M' hd iv) fun env4 σ4 q4 s4 => ?_
    have n23 := n2.trans n3
    refine hb _ env4 M' σ4 B3 H3 _ s4 n3.st q4 ⟨fun env5 M5 σ5 B5 H5 q5 n5 s5 => ⟨env5, M5, B5, q5, n23.trans n5, s5⟩, fun env5 M5 σ5 B5 H5 q5 n5 s5 => ?_, fun env5 M5 σ5 B5 H5 q5 n5 s5 => ⟨env5, M5, B5, q5, n23.trans n5, s5⟩, fun r M5 v B5 H5 q5 n5 r5 => ?_⟩
    · exact l.nx _ _ _ _ _ q5 ((n1.trans n23).trans n5) s5
    · exact l.rt _ _ _ _ _ q5 ((n1.trans n23).trans n5) (r5.back (n1.trans n23))
  · have e : i = ys.length := by omega
    subst e
    exact Or.inl ⟨w.stop _ B' M' H' n2.ext n2.st st (Nat.le_refl _), l.nx _ _ _ _ _ (iend env' M' iv) (n1.trans n2) s2⟩
theorem sx_for {tg iter : Expr} {body : List Stmt} {wi : TI} {g : TG} {t : TS} {ω : DW} {γ : DG} {φ : DS} {pos : Pos} (hp : PassesOwn (model X.prog X.w) X.A X.env X.xe) (hc : X.calm = true) (hi : IX X tg iter wi ω) (hg : GX X tg g γ) (hb : BX X body t φ)
    (hs : ∀ x, foldedSetIterable iter X.env x = pure x := by intro _; rfl) : SX X (.For tg iter body [] pos) (tFor wi g t) (dFor ω γ φ) := ⟨ps_for hp hc hi.pi hg.pg hb.ps hs, SS.for_ hi.s hg.s hb.s⟩
/-- while -/
def dWhile (τ : DT) (φ : DS) : DS := fun E env M => ∃ Inv : Nat → Env → Mem → Prop, (∃ m, Inv m env M) ∧ ∀ m env' M', Inv m env' M' → τ env' M' fun b M1 => if b = true then φ ⟨fun e2 M2 => ∃ m', m' < m ∧ Inv m' e2 M2, E.rt, E.nx, fun e2 M2 => ∃ m', m' < m ∧ Inv m' e2 M2⟩ env' M1 else E.nx env' M1
theorem SS.while_ {tc : TT} {t : TS} {τ : DT} {φ : DS} (hc0 : ST K tc τ) (hb : SS K t φ) : SS K (tWhile tc t) (dWhile τ φ) := fun E env M σ B H D hs hc q l => by
  obtain ⟨Inv, ⟨m0, i0⟩, step⟩ := q
  refine ⟨fun m σ' H' => ∃ env' M' B', Inv m env' M' ∧ Nx K B M H B' M' H' ∧ SR K B' σ' env', ⟨m0, env, M, B, i0, Nx.refl hc, hs⟩, ?_⟩
  rintro m σ' H' ⟨env', M', B', iv, n1, s1⟩
  refine hc0 env' M' _ σ' B' H' _ s1 n1.st (step m env' M' iv) fun b M2 B2 H2 q2 n2 => ?_
  have n12 := n1.trans n2
  cases b with
  | true =>
    rw [if_pos rfl] at q2 ⊢
    refine ⟨fun σ3 H3 => ∃ m', m' < m ∧ ∃ env3 M3 B3, Inv m' env3 M3 ∧ Nx K B M H B3 M3 H3 ∧ SR K B3 σ3 env3, fun _ _ z => z, ?_⟩
    refine hb _ env' M2 σ' B2 H2 _ (s1.mono n2.ext) n2.st q2 ⟨fun env5 M5 σ5 B5 H5 q5 n5 s5 => ?_, fun env5 M5 σ5 B5 H5 q5 n5 s5 => ?_, fun env5 M5 σ5 B5 H5 q5 n5 s5 => ?_, fun r M5 v B5 H5 q5 n5 r5 => ?_⟩
    · obtain ⟨m', hm, iv'⟩ := q5
      exact ⟨m', hm, env5, M5, B5, iv', n12.trans n5, s5⟩
    · exact l.nx _ _ _ _ _ q5 (n12.trans n5) s5
    · obtain ⟨m', hm, iv'⟩ := q5
      exact ⟨m', hm, env5, M5, B5, iv', n12.trans n5, s5⟩
    · exact l.rt _ _ _ _ _ q5 (n12.trans n5) (r5.back n12)
  | false =>
    rw [if_neg Bool.false_ne_true] at q2 ⊢
    exact l.nx _ _ _ _ _ q2 n12 (s1.mono n2.ext)
theorem sx_while {c : Expr} {body : List Stmt} {tc : TT} {t : TS} {τ : DT} {φ : DS} {pos : Pos} (hp : PassesOwn (model X.prog X.w) X.A X.env X.xe) (hc : TX X c tc τ) (hb : BX X body t φ) : SX X (.While c body [] pos) (tWhile tc t) (dWhile τ φ) := ⟨ps_while hp hc.pt hb.ps, SS.while_ hc.s hb.s⟩
/-! ### comprehensions -/
structure TsX (X : Cx) (ifs : List Expr) (t : TT) (τ : DT) : Prop where
  pt : PTs X ifs t
  s : ST X.K t τ
def dYes : DT := fun _ M Q => Q true M
theorem ts_nil : TsX X [] tYes dYes := ⟨pts_nil, fun env M Q σ B H QV hs hc q k => k _ _ _ _ q (Nx.refl hc)⟩
theorem ts_one {c : Expr} {t : TT} {τ : DT} (h : TX X c t τ) : TsX X [c] t τ := ⟨pts_one h.pt, h.s⟩
/-- [e for x in xs if c] -/
def dLc (ω : DW) (j : Nat) (τ : DT) (φ : DE) : DE := fun env M Q => ω env M fun ys stay M1 => ∃ Inv : Nat → List Dat → Mem → Prop, Inv 0 [] M1 ∧ (∀ i acc M', i ≤ ys.length → Inv i acc M' → stay M') ∧
  (∀ i y acc M', ys[i]? = some y → Inv i acc M' → τ (env.set j (some y)) M' fun b M2 => if b = true then φ (env.set j (some y)) M2 fun r M3 => acc.length < sizeLine ∧ Inv (i + 1) (acc ++ [settle r]) M3 else Inv (i + 1) acc M2) ∧
  ∀ acc M', Inv ys.length acc M' → Q (.new (.lst acc)) M'
/-- an object that nobody knows is written -/
theorem Nx.poke {B B' : Hp} {M M' : Mem} {H H' : Hp} {D : Addr} {o : HO} (n : Nx K B M H B' M' H') (h0 : H D = none) (hb : B' D = none) (hm : M' D = none) : Nx K B M H B' M' (upd H' D o) where
  ext := n.ext
  st := ⟨fun a u e => by
    rw [upd_ne (fun z => by subst z; rw [hb] at e; cases e)]
    exact n.st.ex a u e, fun p m e => by
    have np : p ≠ D := fun z => by
      subst z
      rw [hm] at e
      cases e
    exact ⟨(n.st.cell p m e).1, (n.st.cell p m e).2.mono (Ex.refl _) fun o q => (upd_ne np).trans q⟩⟩
  keep := fun a u e1 e2 => (upd_ne (ne_of_none e2 h0)).trans (n.keep a u e1 e2)
  new := n.new
  dom := n.dom
  there := fun a u e => by
    obtain ⟨u', h'⟩ := n.there a u e
    exact ⟨u', (upd_ne (ne_of_none e h0)).trans h'⟩
theorem SE.lc {wi : TI} {j : Nat} {tt : TT} {te : TE} {ω : DW} {τ : DT} {φ : DE} (hw : SW K wi ω) (ht : ST K tt τ) (he : SE K te φ) : SE K (tLc wi (gName j) tt te [j]) (dLc ω j τ φ) := by
  intro env M Q σ B H QV hs hc q k
  refine hw env M _ σ B H _ hs hc q fun ys stay M1 B1 H1 J q1 n1 w => ?_
  obtain ⟨Inv, i0, ist, istep, iend⟩ := q1
  intro D hD
  have hBD : B1 D = none := by
    cases z : B1 D with
    | none => rfl
    | some o =>
      rw [n1.st.ex D o z] at hD
      cases hD
  have hMD : M1 D = none := by
    cases z : M1 D with
    | none => rfl
    | some m =>
      obtain ⟨o, ho⟩ := n1.st.there z
      rw [ho] at hD
      cases hD
  refine ⟨fun i m H' => m = ys.length - i ∧ i ≤ ys.length ∧ ∃ acc M' B' xs, Inv i acc M' ∧ Nx K B1 M1 H1 B' M' H' ∧ B' D = none ∧ M' D = none ∧ H' D = some (.lst xs) ∧ RpA K B' xs acc, ⟨ys.length, by omega, Nat.zero_le _, [], M1, B1, [], i0, (Nx.refl n1.st).poke hD hBD hMD, hBD, hMD, upd_same, .nil⟩, ?_⟩
  rintro i m H' ⟨rfl, hi, acc, M', B', xs, iv, n2, hb2, hm2, hx, ra⟩
  have st := ist i acc M' hi iv
  by_cases hlt : i < ys.length
  · refine Or.inr ⟨w.go i B' M' H' n2.ext n2.st st hlt, fun H3 => ∃ acc M' B' xs, Inv (i + 1) acc M' ∧ Nx K B1 M1 H1 B' M' H3 ∧ B' D = none ∧ M' D = none ∧ H3 D = some (.lst xs) ∧ RpA K B' xs acc, fun H3 hN => ⟨ys.length - (i + 1), by omega, rfl, hlt, hN⟩, fun x H3 y => ?_⟩
    obtain ⟨B3, d, n3, hd, rd⟩ := w.yld i x B' M' H' H3 n2.ext n2.st st hlt y
    show wipe ((wipe σ [j]).set j (some x)) [j] = wipe σ [j] ∧ _
    have ew : (wipe σ [j]).set j (some x) = σ.set j (some x) := by
      show (σ.set j none).set j (some x) = _
      rw [List.set_set]
    refine ⟨by rw [ew]; show (σ.set j (some x)).set j none = σ.set j none; rw [List.set_set], ?_⟩
    rw [ew]
    have n23 := n2.trans n3
    have s3 : SR K B3 (σ.set j (some x)) (env.set j (some d)) := ((hs.mono n1.ext).mono n23.ext).set rd j
    have hx3 := n3.keep D _ hm2 hx
    have hb3 : B3 D = none := (n3.new D _ hx hm2).trans hb2
    refine ht _ M' _ _ B3 H3 _ s3 n3.st (istep i d acc M' hd iv) fun b M4 B4 H4 q4 n4 => ?_
    have n234 := n23.trans n4
    have hx4 := n4.keep D _ hm2 hx3
    have hb4 : B4 D = none := (n4.new D _ hx3 hm2).trans hb3
    have hm4 : M4 D = none := n4.dom D _ hx3 hm2
    cases b with
    | true =>
      rw [if_pos rfl] at q4 ⊢
      refine he _ M4 _ _ B4 H4 _ (s3.mono n4.ext) n4.st q4 fun r M5 v B5 H5 q5 n5 r5 => ?_
      obtain ⟨hl, iv'⟩ := q5
      obtain ⟨B6, n6, g6, _⟩ := settle_ok r5 n5
      have hx6 := n6.keep D _ hm4 hx4
      have hb6 : B6 D = none := (n6.new D _ hx4 hm4).trans hb4
      have hm6 : M5 D = none := n6.dom D _ hx4 hm4
      have n26 := n234.trans n6
      have ra6 : RpA K B6 (xs ++ [v]) (acc ++ [settle r]) := (ra.mono ((n3.trans n4).trans n6).ext).append (.cons g6 .nil)
      exact ⟨xs, hx6, by rw [ra.length]; exact hl, acc ++ [settle r], M5, B6, xs ++ [v], iv', n26.poke hD hb6 hm6, hb6, hm6, upd_same, ra6⟩
    | false =>
      rw [if_neg Bool.false_ne_true] at q4 ⊢
      exact ⟨acc, M4, B4, xs, q4, n234, hb4, hm4, hx4, ra.mono (n3.trans n4).ext⟩
  · have e : i = ys.length := by omega
    subst e
    refine Or.inl ⟨w.stop _ B' M' H' n2.ext n2.st st (Nat.le_refl _), ?_⟩
    exact k _ _ _ _ _ (iend acc M' iv) (n1.trans n2) ⟨D, rfl, n1.back hD, hb2, hm2, xs, hx, ra⟩
section
variable {j : Nat} {x : Str} {px pos : Pos} {elt iter : Expr} {ifs : List Expr} {scope : Scope} {wi : TI} {tt : TT} {te : TE} {ω : DW} {τ : DT} {φ : DE}
theorem ex_lc (hc : X.calm = true) (hN : X.N.Nodup) (hi : IX X (.Name x px) iter wi ω) (ok : BlkOk X.N X.env.scope scope [(x, j)])
    (hg : ∀ (s : Shared) (H : Hp) (C : Addr) (cl : List (Str × Addr)) (fp : List Addr), PG (X.blk s H scope (compEnvC scope cl C X.env) fp) (.Name x px) (gName j)) (ht : ∀ (s : Shared) (H : Hp) (C : Addr) (cl : List (Str × Addr)) (fp : List Addr), TsX (X.blk s H scope (compEnvC scope cl C X.env) fp) ifs tt τ)
    (he : ∀ (s : Shared) (H : Hp) (C : Addr) (cl : List (Str × Addr)) (fp : List Addr), EX (X.blk s H scope (compEnvC scope cl C X.env) fp) elt te φ) (hs : ∀ x, foldedSetIterable iter X.env x = pure x := by intro _; rfl) :
    EX X (.ListComp elt [⟨.Name x px, iter, ifs, 0⟩] scope pos) (tLc wi (gName j) tt te [j]) (dLc ω j τ φ) :=
  ⟨pe_lc (own := [(x, j)]) hc hN hi.pi ok hg (fun s H C cl fp => (ht s H C cl fp).pt) (fun s H C cl fp => (he s H C cl fp).pe) hs, SE.lc hi.s (ht X.s_0 X.H_0 0 [] []).s (he X.s_0 X.H_0 0 [] []).s⟩
/-- y = [..] on one line -/
theorem sx_setLc {i : Nat} {y : Str} {py spos : Pos} (cell : Bool) (hc : X.calm = true) (hN : X.N.Nodup) (hi : IX X (.Name x px) iter wi ω) (ok : BlkOk X.N X.env.scope scope [(x, j)])
    (hg : ∀ (s : Shared) (H : Hp) (C : Addr) (cl : List (Str × Addr)) (fp : List Addr), PG (X.blk s H scope (compEnvC scope cl C X.env) fp) (.Name x px) (gName j)) (ht : ∀ (s : Shared) (H : Hp) (C : Addr) (cl : List (Str × Addr)) (fp : List Addr), TsX (X.blk s H scope (compEnvC scope cl C X.env) fp) ifs tt τ)
    (he : ∀ (s : Shared) (H : Hp) (C : Addr) (cl : List (Str × Addr)) (fp : List Addr), EX (X.blk s H scope (compEnvC scope cl C X.env) fp) elt te φ) (hsw : swapsWith (.ListComp elt [⟨.Name x px, iter, ifs, 0⟩] scope pos) (some (.Name y py)) spos.line X.env = pure true)
    (hy : X.N[i]? = some y := by rfl) (hyl : X.env.scope.names.lookup y = some .local := by rfl) (hs : ∀ x, foldedSetIterable iter X.env x = pure x := by intro _; rfl) :
    SX X (.Assign [.Name y py] (.ListComp elt [⟨.Name x px, iter, ifs, 0⟩] scope pos) spos) (tAsg (tLc wi (gName j) tt te [j]) (gName i)) (if cell = true then dSetC (dLc ω j τ φ) i else dSet (dLc ω j τ φ) i) := by
  have hS := SE.lc hi.s (ht X.s_0 X.H_0 0 [] []).s (he X.s_0 X.H_0 0 [] []).s (j := j)
  refine ⟨ps_setLc (own := [(x, j)]) hc hN hy hyl hsw hi.pi ok hg (fun s H C cl fp => (ht s H C cl fp).pt) (fun s H C cl fp => (he s H C cl fp).pe) hs, ?_⟩
  cases cell with
  | true =>
    rw [if_pos rfl]
    exact SS.setC hS
  | false =>
    rw [if_neg Bool.false_ne_true]
    exact SS.set hS
end
end
end Dl
set_option Elab.async false
set_option linter.all false
set_option maxRecDepth 100000
set_option maxHeartbeats 4000000
namespace Dl
open PySem PySem.Spec PyProof.Rows L2
/-! ### a def's body keeps its promise -/
def startD (N : List Str) (ds : List Dat) : Env := ds.map some ++ List.replicate (N.length - ds.length) none
theorem start_sr {K : PySem.W.Frag} {B : Hp} {N : List Str} {vs : List V} {ds : List Dat} (r : RpA K B vs ds) : SR K B (L2.start N vs) (startD N ds) := by
  unfold L2.start startD
  refine ⟨by rw [List.length_append, List.length_append, List.length_map, List.length_map, List.length_replicate, List.length_replicate, r.length], fun i x h => ?_⟩
  have hl := r.length
  by_cases hi : i < ds.length
  · rw [List.getElem?_append_left (by rw [List.length_map]; exact hi), List.getElem?_map] at h
    rw [List.getElem?_append_left (by rw [List.length_map]; omega), List.getElem?_map]
    cases e : ds[i]? with
    | none =>
      rw [e] at h
      cases h
    | some d =>
      rw [e] at h
      cases h
      obtain ⟨v, h1, h2⟩ := r.get e
      exact ⟨v, by rw [h1] <;> rfl, h2⟩
  · rw [List.getElem?_append_right (by rw [List.length_map]; omega), List.getElem?_replicate] at h
    split at h <;> cases h
/-- the end of a body: what its own cells hold is new to the caller -/
def leave (M : Mem) (Q : Rv → Mem → Prop) (r : Rv) (M' : Mem) : Prop := match r with
  | .d (.cell p) => (M p = none ∧ ∃ m, M' p = some m ∧ Q (.new m) (M.restr M')) ∨ ((∃ m, M p = some m) ∧ Q (.d (.cell p)) (M.restr M'))
  | r => Q r (M.restr M')
def enD (M : Mem) (Q : Rv → Mem → Prop) : En := ⟨fun _ M' => Q (.d .non) (M.restr M'), leave M Q, fun _ _ => False, fun _ _ => False⟩
section
variable {K : PySem.W.Frag} {B B' : Hp} {M M' : Mem} {H H' : Hp}
theorem Nx.restr (n : Nx K B M H B' M' H') : Nx K B M H B' (M.restr M') H' := by
  have sub : ∀ p m, M.restr M' p = some m → M' p = some m := fun p m e => by
    unfold Mem.restr at e
    split at e
    · cases e
    · exact e
  refine ⟨n.ext, ⟨n.st.ex, fun p m e => n.st.cell p m (sub p m e)⟩, n.keep, n.new, fun a o e hm => ?_, n.there⟩
  unfold Mem.restr
  rw [hm]
theorem RR.restr {H0 : Hp} {v : V} {r : Rv} (h : RR K B' M' H0 H' v r) : RR K B' (M.restr M') H0 H' v r := by
  cases r with
  | d x => exact h
  | new m =>
    obtain ⟨p, h1, h2, h3, h4, h5⟩ := h
    refine ⟨p, h1, h2, h3, ?_, h5⟩
    unfold Mem.restr
    split
    · rfl
    · exact h4
theorem leave_ok {Q : Rv → Mem → Prop} {QV : VK} (hc : Cs K B M H) (k : ∀ r M' v B' H', Q r M' → Nx K B M H B' M' H' → RR K B' M' H H' v r → QV v H') : Lk K B M H (enD M Q) { nx := fun _ H' => QV .non H', rt := QV } := by
  refine ⟨fun env' M' σ' B' H' q n s => k _ _ _ _ _ q n.restr .non, fun _ _ _ _ _ q => q.elim, fun _ _ _ _ _ q => q.elim, fun r M' v B' H' q n rr => ?_⟩
  show QV v H'
  have q' : leave M Q r M' := q
  unfold leave at q'
  split at q'
  · rename_i p
    rcases q' with ⟨h1, m, h2, q2⟩ | ⟨_, q2⟩
    · cases rr
      obtain ⟨g1, g2⟩ := n.st.cell p m h2
      have hp : H p = none := by
        cases z : H p with
        | none => rfl
        | some o =>
          have := n.dom p o z h1
          rw [h2] at this
          cases this
      refine k _ _ _ _ _ q2 n.restr ⟨p, rfl, hp, g1, ?_, g2⟩
      unfold Mem.restr
      rw [h1]
    · exact k _ _ _ _ _ q2 n.restr rr
  · exact k _ _ _ _ _ q' n.restr rr.restr
end
section
variable {P : Program} {w : World} {K : PySem.W.Frag} {mg : Str → Option Value} {base : Heap}
/-- a def that raises nothing, by its body's reading over data -/
theorem fn_D {x qual : Str} {st : Stmt} {f : Addr} {fd : FuncData} {N ps : List Str} {k : Nat} {fs : FS} (F : Fun K x qual st f fd) (S : FnScope N ps (defScope st)) (len : ∀ ds M Q, fs ds M Q → ds.length = ps.length)
    (φ : DS) (body : ∀ (cdv : Value) (A : Around) (outer : List PySem.Env) (s : Shared) (H : Hp) (E : XK), Room k (A.deeper (envOfC qual (defScope st) s.heap.objs.size f cdv)) → ∃ t, BX (cxOf CX0 P w K mg base N qual (defScope st) f cdv A outer s H E).nox (defBody st) t φ)
    (rd : ∀ ds M Q, fs ds M Q → φ (enD M Q) (startD N ds) M) : FnOk P w K mg base CX0 (k + 1) f fd ps (spD K fs) := by
  refine F.ok S (fun vs H Q E h => ?_) (fun cdv A outer s H vs Q E hr h => ?_)
  · obtain ⟨ds, M, B, QD, ra, _, hf, _⟩ := h
    rw [ra.length]
    exact len ds M QD hf
  · obtain ⟨ds, M, B, QD, ra, hc, hf, kk⟩ := h
    obtain ⟨t, hb⟩ := body cdv A outer s H E hr
    exact ⟨t, hb.ps, hb.s (enD M QD) (startD N ds) M (L2.start N vs) B H _ (start_sr ra) hc (rd ds M QD hf) (leave_ok hc kk)⟩
/-- .. where nothing is being shown -/
theorem fn_G {x qual : Str} {st : Stmt} {f : Addr} {fd : FuncData} {N ps : List Str} {k : Nat} {fs : FS} (F : Fun K x qual st f fd) (S : FnScope N ps (defScope st)) (len : ∀ ds M Q, fs ds M Q → ds.length = ps.length)
    (φ : DS) (body : ∀ (cdv : Value) (A : Around) (outer : List PySem.Env) (s : Shared) (H : Hp) (E : XK), Room k (A.deeper (envOfC qual (defScope st) s.heap.objs.size f cdv)) → (A.deeper (envOfC qual (defScope st) s.heap.objs.size f cdv)).guards = some [] →
      ∃ t, BX (cxOf CX0 P w K mg base N qual (defScope st) f cdv A outer s H E).nox (defBody st) t φ)
    (rd : ∀ ds M Q, fs ds M Q → φ (enD M Q) (startD N ds) M) : FnG P w K mg base (k + 1) f fd ps fs := by
  obtain ⟨oc, od, kV, doc, pm, an, cdv, ct, osl, rfl, lk, hcd⟩ := F.ex
  refine ⟨len, fun A outer s H args us vs Q E room hgu e0 hbind vals hsp => ?_⟩
  obtain ⟨ds, M, B, QD, ra, hc, hf, kk⟩ := hsp
  have hn : vs.length = ps.length := by
    rw [ra.length]
    exact len ds M QD hf
  have kin : K.In s.heap := e0.mod.kin.keeps fun b o e => (e0.bs b o e).1
  have nolim : s.heap.NoLimit := e0.mod.nolimit.keeps fun b o e => (e0.bs b o e).1
  have kinds : ∀ y ∈ ps.zip us, (defScope st).names.lookup y.1 = some .local ∨ ((defScope st).names.lookup y.1 = some .cell ∧ ((cellsFrom (s.heap.objs.size + 1) (defScope st).names []).lookup y.1).isSome = true) := by
    rintro ⟨nm, u⟩ hy
    rcases S.par nm (List.of_mem_zip hy).1 with q | q
    · exact .inl q
    · exact .inr ⟨q, PySem.W.cellsFrom_some _ _ _ (.inl q)⟩
  refine codeAny_call_function room.depth (kin _ _ lk) rfl S.co S.gen rfl (PySem.W.codeRec_of kin hcd) (hbind _ _ _ _ (wpAny_newFunctionEnv_cells S.kind kinds fun env he s1 ic => ?_))
  subst he
  refine ⟨nolim.keeps ic.toInCall.keep, codeAny_func ?_⟩
  obtain ⟨t, hb⟩ := body cdv A outer s H E (room.deeper _) hgu
  have I : Inv (cxOf CX0 P w K mg base N qual (defScope st) f cdv A outer s H E) [] (L2.start N vs) H s1 := inv_start S room.hd e0 hn vals ic
  have q := hb.s (enD M QD) (startD N ds) M (L2.start N vs) B H _ (start_sr ra) hc (rd ds M QD hf) (leave_ok hc kk)
  refine wpAny_mono (hb.ps.nox.run [] s1 (L2.start N vs) H _ I q) (fun fl s' z => ?_) fun _ _ z => z
  have done : ∀ {σ' : L2.St} {H' : Hp} {v : V} {u : Value}, Inv (cxOf CX0 P w K mg base N qual (defScope st) f cdv A outer s H E) [] σ' H' s' → RelV v u → Q v H' → CE outer P w H s Q u s' := fun J rv z => ⟨_, _, J.os, J.bare, J.base, J.hok, rv, z⟩
  match fl, z with
  | .ret u, ⟨v, σ', H', J, rv, z⟩ => exact done J rv z
  | .next, ⟨σ', H', J, z⟩ => exact done (v := V.non) (u := Value.none) J rfl z
  | .brk, ⟨_, _, _, z⟩ => exact False.elim z
  | .cont, ⟨_, _, _, z⟩ => exact False.elim z
end
end Dl
set_option Elab.async false
set_option linter.all false
set_option maxRecDepth 100000
set_option maxHeartbeats 4000000
namespace Dl
open PySem PySem.Spec PyProof.Rows L2
theorem RpA.of_ints {K : PySem.W.Frag} {B : Hp} : ∀ ns : List Int, RpA K B (ns.map V.int) (ns.map Dat.int)
  | [] => .nil
  | n :: ns => .cons (.int n) (RpA.of_ints ns)
/-- what a law promises: handed at most 63 ints, True -/
def fsLaw : FS := fun ds M Q => ∃ ns : List Int, ds = [.fz (ns.map Dat.int)] ∧ ns.length ≤ 63 ∧ ∀ M', Q (.d (.bl true)) M'
/-- the call of the law, at the heap behind the top -/
theorem law_run {P : Program} {w : World} {K : PySem.W.Frag} {mg mb : Str → Option Value} {k : Nat} {fa a : Addr} {fd : FuncData} {x : Str} {s₁ : Shared} {vs : List Value} {ns : List Int} (hK : K.In s₁.heap) (hmain : s₁.heap.Ns mainGlobals mg) (hblt : s₁.heap.Ns builtinsNs mb)
    (hbb : ∀ x : Str, x ≠ "__name__" → mb x = bootBuiltins x) (hlim : s₁.heap.NoLimit) (hgens : s₁.gens = #[]) (ha : s₁.heap.get? a = some { cls := .type "list", data := .seq vs.toArray }) (hi : IntsAre vs ns) (h63 : ns.length ≤ 63) (room : Room k callerA)
    (F : ∀ base : Heap, K.In base → base.Ns mainGlobals mg → FnG P w K mg base k fa fd [x] fsLaw) (hbind : ∀ (s : Shared) (u : Value), BindsTo s fd ⟨[u], []⟩ [(x, u)]) :
    codeAny (model P w) callerA (.call (.ref fa) ⟨[.ref a], []⟩) (fun r s' => r = .ok (.ret (.bool true)) ∧ OldK s₁.heap s'.heap ∧ s'.os = s₁.os ∧ AllBare s'.gens) s₁ := by
  have rv : Vals (ns.map V.int) vs := vals_ints hi
  have hline : ns.length ≤ sizeLine := Nat.le_trans h63 (by decide)
  -- at any abstract heap that tracks nothing but, perhaps, the script as a locked list
  have go : ∀ H : Hp, (∀ b u, H b = some u → b = a ∧ ∃ o xs, u = .frz o (.lst xs)) → (∀ u, H a = some u → K.lookup a = none) → HOk P w H s₁.heap → SqL K H a (ns.map V.int) →
      codeAny (model P w) callerA (.call (.ref fa) ⟨[.ref a], []⟩) (fun r s' => r = .ok (.ret (.bool true)) ∧ OldK s₁.heap s'.heap ∧ s'.os = s₁.os ∧ AllBare s'.gens) s₁ := by
    intro H only written ok seq
    have free : ∀ {b : Addr} {o : Obj} {es : Array DictEntry} {ep : Nat}, s₁.heap.get? b = some o → o.data = .dict es ep → H b = none := by
      intro b o es ep e d
      match q : H b with
      | none => rfl
      | some u =>
        obtain ⟨rfl, _⟩ := only b u q
        have e' := Option.some.inj (ha.symm.trans e)
        rw [← e'] at d
        cases d
    have keepNs : ∀ {b : Addr} {m : Str → Option Value}, s₁.heap.Ns b m → (hidT s₁.heap H).Ns b m := by
      rintro b m ⟨o, es, ep, e, d, rest⟩
      exact ⟨o, es, ep, hidT_get e (free e d), d, rest⟩
    have inB : K.In (hidT s₁.heap H) := by
      intro b o e
      refine hidT_get (hK b o e) ?_
      match q : H b with
      | none => rfl
      | some u =>
        obtain ⟨rfl, _⟩ := only b u q
        rw [written u q] at e
        cases e
    obtain ⟨mc, l1, l2⟩ := hlim
    have md : Mod K mg (hidT s₁.heap H) := ⟨inB, keepNs hmain, ⟨mb, keepNs hblt, hbb⟩, ⟨mc, keepNs l1, l2⟩⟩
    have env : Env0 P w K mg (hidT s₁.heap H) callerA [] s₁ H := by
      refine ⟨rfl, md, fun b o e => of_hidT e, Nat.le_of_eq (hidT_size _ _), trivial, fun b hb => ?_, ok, .of_eq hgens⟩
      exact absurd (show b ∈ ([] : List Addr) from hb) List.not_mem_nil
    have promise : spD K fsLaw [.ref a] H (fun v _ => v = .bl true) fun _ _ _ => False := by
      refine ⟨[.fz (ns.map Dat.int)], fun _ => none, H, fun r _ => r = .d (.bl true), .cons (.fz seq (RpA.of_ints ns)) .nil, ⟨Ex.refl H, fun p m e => by cases e⟩, ⟨ns, rfl, h63, fun _ => rfl⟩, fun r M' v B' H' q n rr => ?_⟩
      subst q
      cases rr
      rfl
    refine codeAny_mono ((F _ inB (keepNs hmain)).run callerA [] s₁ H ⟨[.ref a], []⟩ [.ref a] [.ref a] _ _ room rfl env (hbind s₁ (.ref a)) (.cons rfl .nil) promise) fun r s' h => ?_
    match r, h with
    | .error e, h => exact False.elim h
    | .ok .next, h => exact False.elim h
    | .ok .brk, h => exact False.elim h
    | .ok .cont, h => exact False.elim h
    | .ok (.ret u), h =>
      obtain ⟨v, H', os, bare, un, ok', rel, q⟩ := h
      subst q
      have eu : u = Value.bool true := rel
      subst eu
      refine ⟨rfl, OldK.of_keep fun b o e => ?_, os, bare⟩
      match q : H b with
      | none => exact un.keep b o e q (fun z => absurd (show b ∈ ([] : List Addr) from z) List.not_mem_nil) List.not_mem_nil
      | some u =>
        obtain ⟨_, ob, xs, rfl⟩ := only b u q
        have e1 := (ok b _ q).1
        have e2 := (ok' b _ (un.frzs b ob _ q)).1
        rw [e] at e1
        cases e1
        exact e2
  match q : K.lookup a with
  | some o =>
    have eo := Option.some.inj ((hK a o q).symm.trans ha)
    refine go (fun _ => none) (fun b u z => by cases z) (fun u z => by cases z) (fun b u z => by cases z) ?_
    refine .inr ⟨o, vs.toArray, 0, q, by rw [eo], by rw [eo], by rw [eo], by rw [List.size_toArray, hi.length]; exact hline, by simpa using rv⟩
  | none =>
    let ob : Obj := { cls := .type "list", data := .seq vs.toArray }
    let u0 : HO := .frz ob (.lst (ns.map V.int))
    have at_ : (fun b => if b = a then some u0 else none : Hp) a = some u0 := if_pos rfl
    refine go (fun b => if b = a then some u0 else none) (fun b u z => ?_) (fun _ _ => q) (fun b u z => ?_) (.inl (.inr ⟨ob, at_⟩))
    · by_cases e : b = a
      · refine ⟨e, ob, ns.map V.int, ?_⟩
        have z' := (if_pos e).symm.trans z
        exact (Option.some.inj z').symm
      · have z' := (if_neg e).symm.trans z
        cases z'
    · by_cases e : b = a
      · have z' := (if_pos e).symm.trans z
        cases z'
        subst e
        exact ⟨ha, by rw [List.length_map]; exact hline, vs, 0, rv, ha⟩
      · have z' := (if_neg e).symm.trans z
        cases z'
/-- a law's end over a head by facts -/
theorem walk_D {l : PySem.W.OpenLaw} {k : Nat} {q : Program} {loose : List Str} {XP : (Str → Option Value) → Heap → Prop} {YP : World → Heap → Prop} {d : DefRec} {x : Str} (hn : l.most = some 63) (hdf : d.params.defaults = []) (room : Room k callerA)
    (F : ∀ (w : World) (mg : Str → Option Value) (fa : Addr) (h : Heap), YP w h → h.Ns mainGlobals mg → mg d.name = some (.ref fa) →
      ∃ (K : PySem.W.Frag) (fd : FuncData), K.In h ∧ (∀ (s : Shared) (u : Value), BindsTo s fd ⟨[u], []⟩ [(x, u)]) ∧ ∀ base : Heap, K.In base → base.Ns mainGlobals mg → FnG l.prog w K mg base k fa fd [x] fsLaw) :
    PySem.W.WalkO q loose XP YP l.row.toRowW d [] (fun f vs => PySem.call f vs) := by
  refine Att.attach_call hn hdf fun w s₀ s₁ mg mb fa o pm cd doc a vs ns G Y _ _ _ hmg hobj hints hlen hg => ?_
  obtain ⟨K, fd, hK, hb, hF⟩ := F w mg fa _ Y G.T.g hmg
  exact law_run hK G.T.g G.T.b G.T.builtins G.T.nolimit hg hobj hints hlen room hF hb
end Dl
set_option Elab.async false
set_option linter.all false
set_option maxRecDepth 100000
set_option maxHeartbeats 4000000
namespace Dl
open PySem PySem.Spec PyProof.Rows L2 StX
theorem fun_of {K : PySem.W.Frag} {x qual : Str} {st : Stmt} {f : Addr} {fd : FuncData} (F : FunD K x qual (defArgs st) (defBody st) (defScope st) [] [] f fd) : Fun K x qual st f fd := by
  obtain ⟨oc, od, dV, kV, doc, pm, an, cdv, ct, osl, e, lk, hcd, hD, _⟩ := F.ex
  rcases hD with ⟨_, e2⟩ | ⟨e2, _⟩
  · subst e2
    exact ⟨⟨oc, od, kV, doc, pm, an, cdv, ct, osl, e, lk, hcd⟩, F.kp⟩
  · exact absurd rfl e2
section
variable {X : Cx} {K : PySem.W.Frag}
/-! ### operators of one's own -/
/-- the class has the operator's method as a def -/
structure OpOf (K : PySem.W.Frag) (C : Addr) (m : Str) (f : Addr) : Prop where
  sf : PySem.W.selfFirst K C = true
  at_ : PySem.W.findIn K (.ref C) m = some (some (.ref f))
  fn : PySem.W.isFn K (.ref f) = true
def rOwn (C0 : Addr) (sp : Sp) : R2 := fun x y H Q => ∃ a b dx dy vs ws, x = .ref a ∧ y = .ref b ∧ H a = some (.ins C0 dx vs) ∧ H b = some (.ins C0 dy ws) ∧ sp [.ref a, .ref b] H Q E0
theorem op_own {op : Operator} {k : Nat} {f C0 : Addr} {fd : FuncData} {ps : List Str} {sp : Sp} (h : OpOf X.K C0 (PySem.dunder op.info.2) f) (F : FnOk X.prog X.w X.K X.mg X.base CX0 k f fd ps sp) (hr : Room k X.A) (hb : Binds X.K fd ps []) : OpR X (binaryOp op) (rOwn C0 sp) := by
  intro pins s σ H x y v u Q I rx ry hq
  obtain ⟨a, b, dx, dy, vs, ws, rfl, rfl, ha, hb', q⟩ := hq
  cases rx
  cases ry
  obtain ⟨m, fr⟩ := I.fr
  obtain ⟨_, O1, _⟩ := ins_get I.hok ha
  obtain ⟨_, O2, _⟩ := ins_get I.hok hb'
  obtain ⟨od1, I1, _⟩ := O1.look
  obtain ⟨od2, I2, _⟩ := O2.look
  refine PySem.W.binop_K fr I.ok.mod.kin I1 I2.type h.sf h.at_ h.fn ?_
  refine thn (run_fn (Q := Q) (dvs := []) (vs := [.ref a, .ref b]) F hr hb .nil pass0 I (.cons rfl (.cons rfl .nil)) q) fun r s' hr' => ?_
  obtain ⟨w, H', I', rw_, qw⟩ := hr'
  have z : EP X pins σ Q r s' := ⟨w, H', I', rw_, qw⟩
  cases r with
  | notImplemented =>
    cases w with
    | int i => obtain ⟨_, e⟩ := rw_; cases e
    | str i => obtain ⟨_, e⟩ := rw_; cases e
    | byt i => obtain ⟨_, e⟩ := rw_; cases e
    | flt i => obtain ⟨_, e⟩ := rw_; cases e
    | _ => cases rw_
  | _ => exact z
def oOwn (C0 : Addr) (fs : FS) : D2 := fun ra rb M Q => ∃ d e gs hs, ra = .d d ∧ rb = .d e ∧ insR C0 M d gs ∧ insR C0 M e hs ∧ fs [d, e] M Q
theorem s2_own {C0 : Addr} {fs : FS} : S2 K (rOwn C0 (spD K fs)) (oOwn C0 fs) := by
  intro B M H0 H x y rx ry Q QV hc h1 h2 q k
  obtain ⟨d, e, gs, hs, rfl, rfl, g1, g2, q⟩ := q
  obtain ⟨a, dx, vs, rfl, i1, _⟩ := g1.at hc h1
  obtain ⟨b, dy, ws, rfl, i2, _⟩ := g2.at hc h2
  exact ⟨a, b, dx, dy, vs, ws, rfl, rfl, i1, i2, [d, e], M, B, Q, .cons h1 (.cons h2 .nil), hc, q, k⟩
theorem ex_own {op : Operator} {k : Nat} {f C0 : Addr} {fd : FuncData} {ps : List Str} {fs : FS} {a b : Expr} {ta tb : TE} {φa φb : DE} {pos : Pos} (h : OpOf X.K C0 (PySem.dunder op.info.2) f) (F : FnOk X.prog X.w X.K X.mg X.base CX0 k f fd ps (spD X.K fs)) (hr : Room k X.A) (hb : Binds X.K fd ps [])
    (ha : EX X a ta φa) (hb' : EX X b tb φb) : EX X (.BinOp a op b pos) (tOp (rOwn C0 (spD X.K fs)) ta tb) (dOp (oOwn C0 fs) φa φb) := ex_op (op_own h F hr hb) s2_own ha hb'
/-! ### def m(self, *v) -/
def spStar (K : PySem.W.Frag) (n : Nat) (fs : FS) : Sp := fun vs H Q E => ∃ ws rest, vs = ws ++ rest ∧ ws.length = n ∧ rest.length ≤ sizeLine ∧ ∀ p, H p = Option.none → spD K fs (ws ++ [V.ref p]) (upd H p (.tup rest)) Q E
/-- the promise of a method with *v alone behind self, as its callers see it -/
def fsStar (fs : FS) : FS := fun ds M Q => match ds with
  | d :: r => r.length ≤ sizeLine ∧ fs [d, .tup r] M Q
  | [] => False
theorem sp_star {B : Hp} {M : Mem} {H : Hp} {vs : List V} {ds : List Dat} {fs : FS} {Q : Rv → Mem → Prop} {QV : VK} {E : XK} (hc : Cs K B M H) (ra : RpA K B vs ds) (h : fsStar fs ds M Q) (k : ∀ r M' v B' H', Q r M' → Nx K B M H B' M' H' → RR K B' M' H H' v r → QV v H') : spStar K 1 fs vs H QV E := by
  cases ra with
  | nil => exact h.elim
  | cons r1 r2 =>
    rename_i v vs d ds
    obtain ⟨hz, h⟩ := h
    refine ⟨[v], vs, rfl, rfl, by rw [r2.length]; exact hz, fun p hp => ?_⟩
    obtain ⟨n, g⟩ := RR.newT hc hp r2
    exact ⟨[d, .tup ds], M, _, Q, .cons (r1.mono n.ext) (.cons g .nil), n.st, h, fun r M' v' B' H' q n' rr => k r M' v' B' H' q (n.trans n') (rr.back n)⟩
theorem ex_methS {k : Nat} {f C0 : Addr} {m : Str} {apos pos : Pos} {o e : Expr} {es : List Expr} {to : TE} {t : TA} {φ : DE} {ψ : DA} {fs : FS} {pl : Sem Bool} (ho : EX X o to φ) (c : Cls X.K C0) (hm : Meth X.K C0 m f) (F : FnR X.prog X.w X.K X.mg X.base CX0 k f (spStar X.K 1 fs)) (hr : Room k X.A) (ha : AX X (e :: es) t ψ)
    (hst : starEach (e :: es) X.env = (false, eval e X.env) :: starEach es X.env := by rfl) (hpl : (backTo pos (starEach es X.env)).any (·.1) = false := by rfl)
    (ht : eval (.Call (.Attribute o m apos) (e :: es) [] pos) X.env = (do
      let ov ← eval o X.env
      standAt apos.atName
      let (f, first) ← holding [ov] (getMethod ov m pl)
      callWith pos f first (backTo pos (starEach (e :: es) X.env)) (backToKw pos (keywordEach [] X.env))) := by rfl) :
    EX X (.Call (.Attribute o m apos) (e :: es) [] pos) (tMethR C0 m (spStar X.K 1 fs) E0 to t) (dMeth C0 m (fsStar fs) φ ψ) := by
  refine ⟨pe_methR ho.pe c hm F hr pass0 ha.pa hst hpl ht, fun env M Q σ B H QV hs hc q k => ?_⟩
  refine ho.s env M _ σ B H _ hs hc q fun r M1 v B1 H1 q1 n1 r1 => ?_
  obtain ⟨d, gs, rfl, gi, gl, q2⟩ := q1
  obtain ⟨a, dx, vs, rfl, h1, h2⟩ := gi.at n1.st r1
  refine ⟨a, dx, vs, rfl, h1, h2.none gl, ?_⟩
  refine ha.s env M1 _ σ B1 H1 _ (hs.mono n1.ext) n1.st q2 fun ds M2 ws B2 H2 q3 n2 r2 => ?_
  have n12 := n1.trans n2
  exact sp_star n2.st (.cons (Rp.mono n2.ext r1) r2) q3 fun r M' v B' H' q4 n3 r3 => k r M' v B' H' q4 (n12.trans n3) (r3.back n12)
end
/-- a def m(self, *v) that raises nothing -/
theorem fn_star_D {P : Program} {w : World} {K : PySem.W.Frag} {mg : Str → Option Value} {base : Heap} {x qual : Str} {st : Stmt} {f : Addr} {fd : FuncData} {N : List Str} {k : Nat} {fs : FS} {self pv : Str} (F : Fun K x qual st f fd) (S : FnScope N [self, pv] (defScope st))
    (φ : DS) (body : ∀ (cdv : Value) (A : Around) (outer : List PySem.Env) (s : Shared) (H : Hp) (E : XK), Room k (A.deeper (envOfC qual (defScope st) s.heap.objs.size f cdv)) → ∃ t, BX (cxOf CX0 P w K mg base N qual (defScope st) f cdv A outer s H E).nox (defBody st) t φ)
    (rd : ∀ ds M Q, fs ds M Q → φ (enD M Q) (startD N ds) M)
    (hb : ∀ (kV doc pm : Value) (an : Option Addr) (cdv ct : Value) (us rest : List Value), us.length = 1 → bindArgs (PySem.W.fnOf x qual (defArgs st) (defBody st) (defScope st) .none kV doc pm an cdv ct) ⟨us ++ rest, []⟩ = (newTuple rest >>= fun t => pure ([self].zip us ++ [(pv, t)]))) :
    FnR P w K mg base CX0 (k + 1) f (spStar K 1 fs) := by
  obtain ⟨oc, od, kV, doc, pm, an, cdv, ct, osl, rfl, lk, hcd⟩ := F.ex
  refine fn_star (ps := [self]) (pv := pv) lk hcd S cxUp_none (hb kV doc pm an cdv ct) fun A outer s H vs Q E hr hsp => ?_
  obtain ⟨ds, M, B, QD, ra, hc, hf, kk⟩ := hsp
  obtain ⟨t, h⟩ := body cdv A outer s H E hr
  exact ⟨t, h.ps.nox, h.s (enD M QD) (startD N ds) M (L2.start N vs) B H _ (start_sr ra) hc (rd ds M QD hf) (leave_ok hc kk)⟩
end Dl
set_option Elab.async false
set_option linter.all false
set_option maxRecDepth 100000
set_option maxHeartbeats 4000000
namespace Dl
open PySem PySem.Spec PyProof.Rows L2 StX ClX
/-! ### what is known of the other defs -/
section
variable (P : Program) (w : World) (K : PySem.W.Frag) (mg : Str → Option Value) (base : Heap)
def KnO (x : Str) (k : Nat) (fs : FS) : Prop := ∃ f fd ps, FnOk P w K mg base CX0 k f fd ps (spD K fs) ∧ mg x = some (.ref f) ∧ PySem.W.keepIn K (.ref f) = true ∧ Binds K fd ps []
def KnG (x : Str) (k : Nat) (fs : FS) : Prop := ∃ f fd ps, FnG P w K mg base k f fd ps fs ∧ mg x = some (.ref f) ∧ PySem.W.keepIn K (.ref f) = true ∧ Binds K fd ps []
def KnM (C : Addr) (m : Str) (k : Nat) (fs : FS) : Prop := ∃ f fd ps, FnOk P w K mg base CX0 k f fd ps (spD K fs) ∧ Meth K C m f ∧ Binds K fd ps []
def KnP (C : Addr) (m : Str) (k : Nat) (fs : FS) : Prop := ∃ q f fd ps, FnOk P w K mg base CX0 k f fd ps (spD K fs) ∧ PropOf K C m q f ∧ Binds K fd ps []
def KnI (x : Str) (C : Addr) (k : Nat) (fs : FS) : Prop := ∃ f fd ps, FnOk P w K mg base CX0 k f fd ps (spD K fs) ∧ Mk K C f ∧ mg x = some (.ref C) ∧ Binds K fd ps []
def KnS (C : Addr) (m : Str) (k : Nat) (fs : FS) : Prop := ∃ f, FnR P w K mg base CX0 k f (spStar K 1 fs) ∧ Meth K C m f
def KnB (C : Addr) (m : Str) (k : Nat) (fs : FS) : Prop := ∃ f fd ps, FnOk P w K mg base CX0 k f fd ps (spD K fs) ∧ OpOf K C m f ∧ Binds K fd ps []
end
section
variable {X : Cx} {k : Nat} {x m : Str} {fs : FS} {p pos apos : Pos} {e o : Expr} {es : List Expr} {t : TA} {to : TE} {ψ : DA} {φ : DE} {C : Addr}
theorem ex_callO (h : KnO X.prog X.w X.K X.mg X.base x k fs) (hr : Room k X.A) (ha : AX X (e :: es) t ψ) (hg : Gl X x := by rfl)
    (hdb : (x == ("__debug__" : Str)) = false := by decide) (he : starEach (e :: es) X.env = (false, eval e X.env) :: starEach es X.env := by rfl) (hpl : (backTo pos (starEach es X.env)).any (·.1) = false := by rfl) :
    EX X (.Call (.Name x p) (e :: es) [] pos) (tCall (spD X.K fs) [] E0 t) (dCB fs ψ) := by
  obtain ⟨f, fd, ps, F, hm, hk, hb⟩ := h
  exact ex_call F hr hm hk hb ha hg hdb he hpl
theorem ex_callg (h : KnG X.prog X.w X.K X.mg X.base x k fs) (hgu : X.A.guards = some []) (hr : Room k X.A) (ha : AX X (e :: es) t ψ) (hg : Gl X x := by rfl)
    (hdb : (x == ("__debug__" : Str)) = false := by decide) (he : starEach (e :: es) X.env = (false, eval e X.env) :: starEach es X.env := by rfl) (hpl : (backTo pos (starEach es X.env)).any (·.1) = false := by rfl) :
    EX X (.Call (.Name x p) (e :: es) [] pos) (tCall (spD X.K fs) [] E0 t) (dCB fs ψ) := by
  obtain ⟨f, fd, ps, F, hm, hk, hb⟩ := h
  exact ex_callG F hgu hr hm hk hb ha hg hdb he hpl
theorem ex_methK {pl : Sem Bool} (c : Cls X.K C) (h : KnM X.prog X.w X.K X.mg X.base C m k fs) (hr : Room k X.A) (ho : EX X o to φ) (ha : AX X (e :: es) t ψ)
    (hst : starEach (e :: es) X.env = (false, eval e X.env) :: starEach es X.env := by rfl) (hpl : (backTo pos (starEach es X.env)).any (·.1) = false := by rfl)
    (ht : eval (.Call (.Attribute o m apos) (e :: es) [] pos) X.env = (do
      let ov ← eval o X.env
      standAt apos.atName
      let (f, first) ← holding [ov] (getMethod ov m pl)
      callWith pos f first (backTo pos (starEach (e :: es) X.env)) (backToKw pos (keywordEach [] X.env))) := by rfl) :
    EX X (.Call (.Attribute o m apos) (e :: es) [] pos) (tMeth C m (spD X.K fs) [] E0 to t) (dMeth C m fs φ ψ) := by
  obtain ⟨f, fd, ps, F, hm, hb⟩ := h
  exact ex_meth ho c hm F hr hb ha hst hpl ht
theorem ex_methK0 {pl : Sem Bool} (c : Cls X.K C) (h : KnM X.prog X.w X.K X.mg X.base C m k fs) (hr : Room k X.A) (ho : EX X o to φ)
    (ht : eval (.Call (.Attribute o m apos) [] [] pos) X.env = (do
      let ov ← eval o X.env
      standAt apos.atName
      let (f, first) ← holding [ov] (getMethod ov m pl)
      callWith pos f first (backTo pos (starEach [] X.env)) (backToKw pos (keywordEach [] X.env))) := by rfl) :
    EX X (.Call (.Attribute o m apos) [] [] pos) (tMeth C m (spD X.K fs) [] E0 to tNil) (dMeth C m fs φ dNil) := by
  obtain ⟨f, fd, ps, F, hm, hb⟩ := h
  exact ex_meth0 ho c hm F hr hb ht
theorem ex_methKS {pl : Sem Bool} (c : Cls X.K C) (h : KnS X.prog X.w X.K X.mg X.base C m k fs) (hr : Room k X.A) (ho : EX X o to φ) (ha : AX X (e :: es) t ψ)
    (hst : starEach (e :: es) X.env = (false, eval e X.env) :: starEach es X.env := by rfl) (hpl : (backTo pos (starEach es X.env)).any (·.1) = false := by rfl)
    (ht : eval (.Call (.Attribute o m apos) (e :: es) [] pos) X.env = (do
      let ov ← eval o X.env
      standAt apos.atName
      let (f, first) ← holding [ov] (getMethod ov m pl)
      callWith pos f first (backTo pos (starEach (e :: es) X.env)) (backToKw pos (keywordEach [] X.env))) := by rfl) :
    EX X (.Call (.Attribute o m apos) (e :: es) [] pos) (tMethR C m (spStar X.K 1 fs) E0 to t) (dMeth C m (fsStar fs) φ ψ) := by
  obtain ⟨f, F, hm⟩ := h
  exact ex_methS ho c hm F hr ha hst hpl ht
theorem ex_propK (c : Cls X.K C) (h : KnP X.prog X.w X.K X.mg X.base C m k fs) (hr : Room (k + 1) X.A) (ho : EX X e to φ) (hab : attributeBase e m X.env (eval e X.env) = eval e X.env := by rfl) :
    EX X (.Attribute e m pos) (tProp C (spD X.K fs) [] E0 to) (dProp C fs φ) := by
  obtain ⟨q, f, fd, ps, F, hp, hb⟩ := h
  exact ex_prop ho c hp F hr hb hab
theorem ex_makeK (h : KnI X.prog X.w X.K X.mg X.base x C k fs) (hr : Room (k + 1) X.A) (ha : AX X (e :: es) t ψ) (hg : Gl X x := by rfl)
    (hdb : (x == ("__debug__" : Str)) = false := by decide) (he : starEach (e :: es) X.env = (false, eval e X.env) :: starEach es X.env := by rfl) (hpl : (backTo pos (starEach es X.env)).any (·.1) = false := by rfl) :
    EX X (.Call (.Name x p) (e :: es) [] pos) (tMake C (spD X.K fs) [] E0 t) (dMake C fs ψ) := by
  obtain ⟨f, fd, ps, F, M, hm, hb⟩ := h
  exact ex_make M F hr hm hb ha hg hdb he hpl
theorem ex_ownK {op : Operator} {a b : Expr} {ta tb : TE} {φa φb : DE} (h : KnB X.prog X.w X.K X.mg X.base C (PySem.dunder op.info.2) k fs) (hr : Room k X.A) (ha : EX X a ta φa) (hb : EX X b tb φb) :
    EX X (.BinOp a op b pos) (tOp (rOwn C (spD X.K fs)) ta tb) (dOp (oOwn C fs) φa φb) := by
  obtain ⟨f, fd, ps, F, ho, hbb⟩ := h
  exact ex_own ho F hr hbb ha hb
end
end Dl
set_option Elab.async false
set_option linter.all false
set_option maxRecDepth 100000
set_option maxHeartbeats 4000000
namespace Dl
open PySem PySem.Spec PyProof.Rows L2 StX ClX
/-- a constant of a class, by the class's name -/
def KnV (K : PySem.W.Frag) (mg : Str → Option Value) (x f : Str) (d : Dat) : Prop := ∃ C mc v u, mg x = some (.ref C) ∧ CRead K C mc ∧ CVal K C mc f v u ∧ ∀ B, Rp K B v d
def tCvK (K : PySem.W.Frag) (mg : Str → Option Value) (x f : Str) (d : Dat) : TE := fun σ H Q => ∃ C, mg x = some (.ref C) ∧ tCVal K (tC (.ref C)) f σ H Q
/-- the widest reading that a data reading gives -/
def tOf (K : PySem.W.Frag) (φ : DE) : TE := fun σ H QV => ∃ env M Q B, SR K B σ env ∧ Cs K B M H ∧ φ env M Q ∧ ∀ r M' v B' H', Q r M' → Nx K B M H B' M' H' → RR K B' M' H H' v r → QV v H'
def tOfT (K : PySem.W.Frag) (φ : DT) : TT := fun σ H QV => ∃ env M Q B, SR K B σ env ∧ Cs K B M H ∧ φ env M Q ∧ ∀ b M' B' H', Q b M' → Nx K B M H B' M' H' → QV b H'
theorem EX.of {X : Cx} {e : Expr} {t : TE} {φ : DE} (h : EX X e t φ) : EX X e (tOf X.K φ) φ := ⟨⟨fun pins s σ H Q I ⟨env, M, Q', B, hs, hc, q, k⟩ => h.pe.run pins s σ H Q I (h.s env M Q' σ B H Q hs hc q k)⟩, fun env M Q σ B H QV hs hc q k => ⟨env, M, Q, B, hs, hc, q, k⟩⟩
theorem TsX.of {X : Cx} {e : List Expr} {t : TT} {φ : DT} (h : TsX X e t φ) : TsX X e (tOfT X.K φ) φ := ⟨⟨fun pins s σ H Q I ⟨env, M, Q', B, hs, hc, q, k⟩ => h.pt.run pins s σ H Q I (h.s env M Q' σ B H Q hs hc q k)⟩, fun env M Q σ B H QV hs hc q k => ⟨env, M, Q, B, hs, hc, q, k⟩⟩
section
variable {X : Cx} {j : Nat} {x : Str} {px pos : Pos} {elt iter : Expr} {ifs : List Expr} {scope : Scope} {wi : TI} {tt : TT} {te : TE} {ω : DW} {τ : DT} {φ : DE}
theorem ex_cvalK {x f : Str} {d : Dat} {p pos : Pos} (h : KnV X.K X.mg x f d) (hg : Gl X x := by rfl) (hd : (x == ("__debug__" : Str)) = false := by decide)
    (hb : attributeBase (.Name x p) f X.env (eval (.Name x p) X.env) = eval (.Name x p) X.env := by rfl) : EX X (.Attribute (.Name x p) f pos) (tCvK X.K X.mg x f d) (dC d) := by
  obtain ⟨C, mc, v, u, hm, r, c, rel⟩ := h
  have g := ex_cval (pos := pos) hm r c rel hg hd hb
  refine ⟨⟨fun pins s σ H Q I q => g.pe.run pins s σ H Q I ?_⟩, fun env M Q σ B H QV hs hc q k => ⟨C, hm, g.s env M Q σ B H QV hs hc q k⟩⟩
  obtain ⟨C', h1, q⟩ := q
  rw [hm] at h1
  cases h1
  exact q
theorem ex_lcx (hc : X.calm = true) (hN : X.N.Nodup) (hi : IX X (.Name x px) iter wi ω) (ok : BlkOk X.N X.env.scope scope [(x, j)])
    (hg : ∀ (s : Shared) (H : Hp) (C : Addr) (cl : List (Str × Addr)) (fp : List Addr), PG (X.blk s H scope (compEnvC scope cl C X.env) fp) (.Name x px) (gName j)) (ht : ∀ (s : Shared) (H : Hp) (C : Addr) (cl : List (Str × Addr)) (fp : List Addr), ∃ tt, TsX (X.blk s H scope (compEnvC scope cl C X.env) fp) ifs tt τ)
    (he : ∀ (s : Shared) (H : Hp) (C : Addr) (cl : List (Str × Addr)) (fp : List Addr), ∃ te, EX (X.blk s H scope (compEnvC scope cl C X.env) fp) elt te φ) (hs : ∀ x, foldedSetIterable iter X.env x = pure x := by intro _; rfl) :
    EX X (.ListComp elt [⟨.Name x px, iter, ifs, 0⟩] scope pos) (tLc wi (gName j) (tOfT X.K τ) (tOf X.K φ) [j]) (dLc ω j τ φ) := ex_lc hc hN hi ok hg (fun s H C cl fp => (ht s H C cl fp).elim fun _ h => h.of) (fun s H C cl fp => (he s H C cl fp).elim fun _ h => h.of) hs
theorem sx_setLcC {i : Nat} {y : Str} {py spos : Pos} (hc : X.calm = true) (hN : X.N.Nodup) (hi : IX X (.Name x px) iter wi ω) (ok : BlkOk X.N X.env.scope scope [(x, j)])
    (hg : ∀ (s : Shared) (H : Hp) (C : Addr) (cl : List (Str × Addr)) (fp : List Addr), PG (X.blk s H scope (compEnvC scope cl C X.env) fp) (.Name x px) (gName j)) (ht : ∀ (s : Shared) (H : Hp) (C : Addr) (cl : List (Str × Addr)) (fp : List Addr), ∃ tt, TsX (X.blk s H scope (compEnvC scope cl C X.env) fp) ifs tt τ)
    (he : ∀ (s : Shared) (H : Hp) (C : Addr) (cl : List (Str × Addr)) (fp : List Addr), ∃ te, EX (X.blk s H scope (compEnvC scope cl C X.env) fp) elt te φ) (hsw : swapsWith (.ListComp elt [⟨.Name x px, iter, ifs, 0⟩] scope pos) (some (.Name y py)) spos.line X.env = pure true)
    (hy : X.N[i]? = some y := by rfl) (hyl : X.env.scope.names.lookup y = some .local := by rfl) (hs : ∀ x, foldedSetIterable iter X.env x = pure x := by intro _; rfl) :
    SX X (.Assign [.Name y py] (.ListComp elt [⟨.Name x px, iter, ifs, 0⟩] scope pos) spos) (tAsg (tLc wi (gName j) (tOfT X.K τ) (tOf X.K φ) [j]) (gName i)) (dSetC (dLc ω j τ φ) i) := sx_setLc true hc hN hi ok hg (fun s H C cl fp => (ht s H C cl fp).elim fun _ h => h.of) (fun s H C cl fp => (he s H C cl fp).elim fun _ h => h.of) hsw hy hyl hs
theorem sx_setLcD {i : Nat} {y : Str} {py spos : Pos} (hc : X.calm = true) (hN : X.N.Nodup) (hi : IX X (.Name x px) iter wi ω) (ok : BlkOk X.N X.env.scope scope [(x, j)])
    (hg : ∀ (s : Shared) (H : Hp) (C : Addr) (cl : List (Str × Addr)) (fp : List Addr), PG (X.blk s H scope (compEnvC scope cl C X.env) fp) (.Name x px) (gName j)) (ht : ∀ (s : Shared) (H : Hp) (C : Addr) (cl : List (Str × Addr)) (fp : List Addr), ∃ tt, TsX (X.blk s H scope (compEnvC scope cl C X.env) fp) ifs tt τ)
    (he : ∀ (s : Shared) (H : Hp) (C : Addr) (cl : List (Str × Addr)) (fp : List Addr), ∃ te, EX (X.blk s H scope (compEnvC scope cl C X.env) fp) elt te φ) (hsw : swapsWith (.ListComp elt [⟨.Name x px, iter, ifs, 0⟩] scope pos) (some (.Name y py)) spos.line X.env = pure true)
    (hy : X.N[i]? = some y := by rfl) (hyl : X.env.scope.names.lookup y = some .local := by rfl) (hs : ∀ x, foldedSetIterable iter X.env x = pure x := by intro _; rfl) :
    SX X (.Assign [.Name y py] (.ListComp elt [⟨.Name x px, iter, ifs, 0⟩] scope pos) spos) (tAsg (tLc wi (gName j) (tOfT X.K τ) (tOf X.K φ) [j]) (gName i)) (dSet (dLc ω j τ φ) i) := sx_setLc false hc hN hi ok hg (fun s H C cl fp => (ht s H C cl fp).elim fun _ h => h.of) (fun s H C cl fp => (he s H C cl fp).elim fun _ h => h.of) hsw hy hyl hs
end
end Dl
set_option Elab.async false
set_option linter.all false
set_option maxRecDepth 100000
set_option maxHeartbeats 4000000
namespace Dl
open PySem PySem.Spec PyProof.Rows L2
/-! ### loops, by what remains -/
section
variable {α : Type} {enc : α → Dat} {γ : DG} {φ : DS} {τ : DT} {ε : DE} {E : En} {env : Env} {M1 : Mem} {stay : Mem → Prop} {Q : List Dat → Mem → Prop} {j : Nat}
theorem map_drop_get {xs : List α} {i : Nat} {y : Dat} (h : (xs.map enc)[i]? = some y) : ∃ x, xs.drop i = x :: xs.drop (i + 1) ∧ y = enc x ∧ x ∈ xs := by
  rw [List.getElem?_map] at h
  cases e : xs[i]? with
  | none =>
    rw [e] at h
    cases h
  | some x =>
    rw [e] at h
    have hi : i < xs.length := by
      by_cases z : i < xs.length
      · exact z
      · rw [List.getElem?_eq_none (by omega)] at e
        cases e
    have e2 : xs[i] = x := by
      rw [List.getElem?_eq_getElem hi] at e
      exact Option.some.inj e
    refine ⟨x, ?_, (Option.some.inj h).symm, e2 ▸ List.getElem_mem hi⟩
    rw [List.drop_eq_getElem_cons hi, e2]
theorem for_rest (xs : List α) (J : List α → Env → Mem → Prop) (h0 : J xs env M1) (hst : ∀ r e m, J r e m → stay m) (step : ∀ x r e m, J (x :: r) e m → γ (enc x) e fun e' => φ ⟨J r, E.rt, E.nx, J r⟩ e' m) (fin : ∀ e m, J [] e m → E.nx e m) :
    ∃ Inv : Nat → Env → Mem → Prop, Inv 0 env M1 ∧ (∀ i env' M', i ≤ (xs.map enc).length → Inv i env' M' → stay M') ∧
      (∀ i y env' M', (xs.map enc)[i]? = some y → Inv i env' M' → γ y env' fun env'' => φ ⟨Inv (i + 1), E.rt, E.nx, Inv (i + 1)⟩ env'' M') ∧ ∀ env' M', Inv (xs.map enc).length env' M' → E.nx env' M' := by
  refine ⟨fun i e m => J (xs.drop i) e m, h0, fun i e m _ h => hst _ _ _ h, fun i y e m hy h => ?_, fun e m h => fin e m ?_⟩
  · obtain ⟨x, e1, rfl, _⟩ := map_drop_get hy
    have h' : J (xs.drop i) e m := h
    rw [e1] at h'
    exact step x _ e m h'
  · have e1 : xs.drop (xs.map enc).length = [] := by rw [List.length_map, List.drop_length]
    have h' : J (xs.drop (xs.map enc).length) e m := h
    rw [e1] at h'
    exact h'
theorem for_rng {lo : Int} {n : Nat} (J : Nat → Env → Mem → Prop) (h0 : J 0 env M1) (step : ∀ i e m, i < n → J i e m → γ (.int (lo + i)) e fun e' => φ ⟨J (i + 1), E.rt, E.nx, J (i + 1)⟩ e' m) (fin : ∀ e m, J n e m → E.nx e m) :
    ∃ Inv : Nat → Env → Mem → Prop, Inv 0 env M1 ∧ (∀ i env' M', i ≤ (rngD lo n).length → Inv i env' M' → (fun _ => True) M') ∧
      (∀ i y env' M', (rngD lo n)[i]? = some y → Inv i env' M' → γ y env' fun env'' => φ ⟨Inv (i + 1), E.rt, E.nx, Inv (i + 1)⟩ env'' M') ∧ ∀ env' M', Inv (rngD lo n).length env' M' → E.nx env' M' := by
  refine ⟨J, h0, fun _ _ _ _ _ => trivial, fun i y e m hy h => ?_, fun e m h => fin e m ?_⟩
  · obtain ⟨hi, rfl⟩ := rngD_get.mp hy
    exact step i e m hi h
  · rw [rngD_len] at h
    exact h
theorem lc_rest (xs : List α) (J : List α → List Dat → Mem → Prop) (h0 : J xs [] M1) (hst : ∀ r a m, J r a m → stay m)
    (step : ∀ x r acc m, J (x :: r) acc m → τ (env.set j (some (enc x))) m fun b M2 => if b = true then ε (env.set j (some (enc x))) M2 fun r3 M3 => acc.length < sizeLine ∧ J r (acc ++ [settle r3]) M3 else J r acc M2)
    (fin : ∀ acc m, J [] acc m → Q acc m) :
    ∃ Inv : Nat → List Dat → Mem → Prop, Inv 0 [] M1 ∧ (∀ i acc M', i ≤ (xs.map enc).length → Inv i acc M' → stay M') ∧
      (∀ i y acc M', (xs.map enc)[i]? = some y → Inv i acc M' → τ (env.set j (some y)) M' fun b M2 => if b = true then ε (env.set j (some y)) M2 fun r M3 => acc.length < sizeLine ∧ Inv (i + 1) (acc ++ [settle r]) M3 else Inv (i + 1) acc M2) ∧
      ∀ acc M', Inv (xs.map enc).length acc M' → Q acc M' := by
  refine ⟨fun i a m => J (xs.drop i) a m, h0, fun i a m _ h => hst _ _ _ h, fun i y a m hy h => ?_, fun a m h => fin a m ?_⟩
  · obtain ⟨x, e1, rfl, _⟩ := map_drop_get hy
    have h' : J (xs.drop i) a m := h
    rw [e1] at h'
    exact step x _ a m h'
  · have e1 : xs.drop (xs.map enc).length = [] := by rw [List.length_map, List.drop_length]
    have h' : J (xs.drop (xs.map enc).length) a m := h
    rw [e1] at h'
    exact h'
theorem lc_rng {lo : Int} {n : Nat} (J : Nat → List Dat → Mem → Prop) (h0 : J 0 [] M1)
    (step : ∀ i acc m, i < n → J i acc m → τ (env.set j (some (.int (lo + i)))) m fun b M2 => if b = true then ε (env.set j (some (.int (lo + i)))) M2 fun r3 M3 => acc.length < sizeLine ∧ J (i + 1) (acc ++ [settle r3]) M3 else J (i + 1) acc M2)
    (fin : ∀ acc m, J n acc m → Q acc m) :
    ∃ Inv : Nat → List Dat → Mem → Prop, Inv 0 [] M1 ∧ (∀ i acc M', i ≤ (rngD lo n).length → Inv i acc M' → (fun _ => True) M') ∧
      (∀ i y acc M', (rngD lo n)[i]? = some y → Inv i acc M' → τ (env.set j (some y)) M' fun b M2 => if b = true then ε (env.set j (some y)) M2 fun r M3 => acc.length < sizeLine ∧ Inv (i + 1) (acc ++ [settle r]) M3 else Inv (i + 1) acc M2) ∧
      ∀ acc M', Inv (rngD lo n).length acc M' → Q acc M' := by
  refine ⟨J, h0, fun _ _ _ _ _ => trivial, fun i y a m hy h => ?_, fun a m h => fin a m ?_⟩
  · obtain ⟨hi, rfl⟩ := rngD_get.mp hy
    exact step i a m hi h
  · rw [rngD_len] at h
    exact h
/-- each element kept, nothing else changed -/
theorem lc_map (xs : List α) (g : α → Dat) (hl : xs.length ≤ sizeLine) (hst : stay M1) (he : ∀ x ∈ xs, ∀ P : Rv → Mem → Prop, (∀ r, settle r = g x → P r M1) → ε (env.set j (some (enc x))) M1 P) (fin : Q (xs.map g) M1) :
    ∃ Inv : Nat → List Dat → Mem → Prop, Inv 0 [] M1 ∧ (∀ i acc M', i ≤ (xs.map enc).length → Inv i acc M' → stay M') ∧
      (∀ i y acc M', (xs.map enc)[i]? = some y → Inv i acc M' → dYes (env.set j (some y)) M' fun b M2 => if b = true then ε (env.set j (some y)) M2 fun r M3 => acc.length < sizeLine ∧ Inv (i + 1) (acc ++ [settle r]) M3 else Inv (i + 1) acc M2) ∧
      ∀ acc M', Inv (xs.map enc).length acc M' → Q acc M' := by
  refine lc_rest xs (fun r a m => m = M1 ∧ a ++ r.map g = xs.map g ∧ ∀ x ∈ r, x ∈ xs) ⟨rfl, rfl, fun _ h => h⟩ (fun r a m h => by rw [h.1]; exact hst) (fun x r acc m h => ?_) fun acc m h => ?_
  · obtain ⟨rfl, h2, h3⟩ := h
    simp only [dYes, ↓reduceIte]
    refine he x (h3 x List.mem_cons_self) _ fun rr hr => ⟨?_, rfl, ?_, fun y hy => h3 y (List.mem_cons_of_mem _ hy)⟩
    · have e := congrArg List.length h2
      rw [List.length_append, List.length_map, List.length_map, List.length_cons] at e
      omega
    · rw [hr, List.append_assoc]
      exact h2
  · obtain ⟨rfl, h2, _⟩ := h
    rw [List.map_nil, List.append_nil] at h2
    rw [h2]
    exact fin
/-- those that pass the test -/
theorem lc_filter (xs : List α) (t : α → Bool) (g : α → Dat) (hl : xs.length ≤ sizeLine) (hst : stay M1) (ht : ∀ x ∈ xs, ∀ P : Bool → Mem → Prop, P (t x) M1 → τ (env.set j (some (enc x))) M1 P)
    (he : ∀ x ∈ xs, ∀ P : Rv → Mem → Prop, (∀ r, settle r = g x → P r M1) → ε (env.set j (some (enc x))) M1 P) (fin : Q ((xs.filter t).map g) M1) :
    ∃ Inv : Nat → List Dat → Mem → Prop, Inv 0 [] M1 ∧ (∀ i acc M', i ≤ (xs.map enc).length → Inv i acc M' → stay M') ∧
      (∀ i y acc M', (xs.map enc)[i]? = some y → Inv i acc M' → τ (env.set j (some y)) M' fun b M2 => if b = true then ε (env.set j (some y)) M2 fun r M3 => acc.length < sizeLine ∧ Inv (i + 1) (acc ++ [settle r]) M3 else Inv (i + 1) acc M2) ∧
      ∀ acc M', Inv (xs.map enc).length acc M' → Q acc M' := by
  refine lc_rest xs (fun r a m => m = M1 ∧ a ++ (r.filter t).map g = (xs.filter t).map g ∧ ∀ x ∈ r, x ∈ xs) ⟨rfl, rfl, fun _ h => h⟩ (fun r a m h => by rw [h.1]; exact hst) (fun x r acc m h => ?_) fun acc m h => ?_
  · obtain ⟨rfl, h2, h3⟩ := h
    refine ht x (h3 x List.mem_cons_self) _ ?_
    cases e : t x with
    | true =>
      rw [if_pos rfl]
      rw [List.filter_cons_of_pos e] at h2
      refine he x (h3 x List.mem_cons_self) _ fun rr hr => ⟨?_, rfl, ?_, fun y hy => h3 y (List.mem_cons_of_mem _ hy)⟩
      · have e := congrArg List.length h2
        rw [List.length_append, List.length_map, List.length_map, List.length_cons] at e
        have := List.length_filter_le t xs
        omega
      · rw [hr, List.append_assoc]
        exact h2
    | false =>
      rw [if_neg Bool.false_ne_true]
      rw [List.filter_cons_of_neg (by rw [e]; exact Bool.false_ne_true)] at h2
      exact ⟨rfl, h2, fun y hy => h3 y (List.mem_cons_of_mem _ hy)⟩
  · obtain ⟨rfl, h2, _⟩ := h
    rw [List.filter_nil, List.map_nil, List.append_nil] at h2
    rw [h2]
    exact fin
end
/-! ### reads at places -/
section
variable {α β : Type}
theorem atI_nat {xs : List α} {i : Nat} {y : α} (h : xs[i]? = some y) : atI xs (i : Int) = some y := by
  have hi : i < xs.length := by
    by_cases z : i < xs.length
    · exact z
    · rw [List.getElem?_eq_none (by omega)] at h
      cases h
  unfold atI ixN
  rw [if_pos (by omega), if_pos (by omega), Int.toNat_natCast]
  exact h
theorem atI_last {xs : List α} {y : α} : atI (xs ++ [y]) (-1) = some y := by
  unfold atI ixN
  rw [if_neg (by omega), if_pos (by rw [List.length_append, List.length_singleton]; omega)]
  have e : ((-1 : Int) + ((xs ++ [y]).length : Nat)).toNat = xs.length := by
    rw [List.length_append, List.length_singleton]
    omega
  rw [e]
  show (xs ++ [y])[xs.length]? = some y
  rw [List.getElem?_append_right (Nat.le_refl _), Nat.sub_self] <;> rfl
theorem cut_to {xs : List α} {k : Nat} : cut xs none (some (k : Int)) = xs.take k := by
  unfold cut
  rw [HT.sIx_none, HT.sIx_nat, List.drop_zero, Nat.sub_zero]
  by_cases h : k ≤ xs.length
  · rw [Nat.min_eq_left h]
  · rw [Nat.min_eq_right (by omega), List.take_length, List.take_of_length_le (by omega)]
theorem cut_from {xs : List α} {k : Nat} : cut xs (some (k : Int)) none = xs.drop k := by
  unfold cut
  rw [HT.sIx_none, HT.sIx_nat]
  by_cases h : k ≤ xs.length
  · rw [Nat.min_eq_left h, List.take_of_length_le (by rw [List.length_drop]; omega)]
  · rw [Nat.min_eq_right (by omega), List.drop_length, List.drop_of_length_le (by omega), List.take_nil]
theorem sIx_m1 (n d : Nat) : HT.sIx n d (some (-1)) = ((-1 : Int) + (n : Int)).toNat := rfl
theorem cut_butlast {xs : List α} {y : α} : cut (xs ++ [y]) none (some (-1)) = xs := by
  have e : HT.sIx (xs ++ [y]).length (xs ++ [y]).length (some (-1)) = xs.length := by
    rw [sIx_m1, List.length_append, List.length_singleton]
    omega
  unfold cut
  rw [e, HT.sIx_none, List.drop_zero, Nat.sub_zero, List.take_left' rfl]
theorem cut_last {xs : List α} {y : α} : cut (xs ++ [y]) (some (-1)) none = [y] := by
  have e : HT.sIx (xs ++ [y]).length 0 (some (-1)) = xs.length := by
    rw [sIx_m1, List.length_append, List.length_singleton]
    omega
  unfold cut
  rw [e, HT.sIx_none, List.length_append, List.length_singleton, List.drop_left' rfl, Nat.add_sub_cancel_left] <;> rfl
theorem cut_mid {xs ys : List α} {y : α} {k : Nat} (h : k = xs.length) : cut (xs ++ ys ++ [y]) (some (k : Int)) (some (-1)) = ys := by
  have e : HT.sIx (xs ++ ys ++ [y]).length (xs ++ ys ++ [y]).length (some (-1)) = xs.length + ys.length := by
    rw [sIx_m1, List.length_append, List.length_singleton, List.length_append]
    omega
  unfold cut
  rw [e, HT.sIx_nat, Nat.min_eq_left (by rw [h, List.length_append, List.length_append]; omega), h, List.append_assoc, List.drop_left' rfl, Nat.add_sub_cancel_left, List.take_left' rfl]
theorem cut_fromto {xs : List α} {i k : Nat} (h : i ≤ k) (h2 : k ≤ xs.length) : cut xs (some (i : Int)) (some (k : Int)) = (xs.drop i).take (k - i) := by
  unfold cut
  rw [HT.sIx_nat, HT.sIx_nat, Nat.min_eq_left h2, Nat.min_eq_left (show i ≤ xs.length by omega)]
end
end Dl
set_option Elab.async false
set_option linter.all false
set_option maxRecDepth 100000
set_option maxHeartbeats 4000000
namespace Dl
open PySem PySem.Spec PyProof.Rows L2 StX ClX He
/-! ### the head told by a hook of one's own: properties' getters, constants of a class, operators -/
def fnA (K : PySem.W.Frag) (a : Addr) : FnW := match K.lookup a with
  | some ⟨_, _, .func fd, _⟩ => some (fd.name, fd.qualname, fd.params, fd.body, fd.scope, fd.globals, fd.closure, fd.builtins)
  | _ => none
def okA (K : PySem.W.Frag) (a : Addr) (q : Str) : Bool := PySem.W.keepIn K (.ref a) && (match K.lookup a with
  | some ⟨_, _, .func fd, _⟩ => PySem.W.codeIn K fd.code q && (dflB K fd.defaults [] && kwdB K fd.kwdefaults [])
  | _ => false)
theorem funA {K : PySem.W.Frag} {a : Addr} {d : DefD} (e : fnA K a = d.val) (c : okA K a d.qual = true) : ∃ fd, FunD K d.name d.qual d.params d.body d.scope [] [] a fd := by
  obtain ⟨kp, c2⟩ := ba c
  unfold fnA at e
  cases q : K.lookup a with
  | none =>
    rw [q] at c2
    cases c2
  | some o =>
    obtain ⟨oc, od, dt, osl⟩ := o
    rw [q] at c2 e
    cases dt with
    | func fd =>
      obtain ⟨n1, n2, n3, n4, n5, n6, n7, n8, n9, n10, n11, n12, n13, n14, n15⟩ := fd
      have e2 : (some (n1, n2, n3, n4, n5, n6, n7, n15) : FnW) = some (d.name, d.qual, d.params, .stmts d.body, d.scope, mainGlobals, [], builtinsNs) := e
      simp only [Option.some.injEq, Prod.mk.injEq] at e2
      obtain ⟨h1, h2, h3, h4, h5, h6, h7, h8⟩ := e2
      subst h1 h2 h3 h4 h5 h6 h7 h8
      have c3 : (PySem.W.codeIn K n13 d.qual && (dflB K n8 [] && kwdB K n9 [])) = true := c2
      obtain ⟨k1, k2⟩ := ba c3
      obtain ⟨k3, k4⟩ := ba k2
      exact ⟨_, ⟨oc, od, n8, n9, n10, n11, n12, n13, n14, osl, rfl, q, k1, dflB_ok k3, kwdB_ok k4⟩, kp⟩
    | _ => cases c2
/-- a property's getter -/
def gAd (K : PySem.W.Frag) (C m : Str) : Addr := match PySem.W.recIn K (ma K (ga K C) m) "property" with
  | some (.ref g :: _) => g
  | _ => 0
def propB (K : PySem.W.Frag) (C m : Str) : Bool := eqO (PySem.W.findIn K (.ref (ga K C)) m) (some (some (.ref (ma K (ga K C) m)))) && (eqO (PySem.W.specialIn K (.ref (ma K (ga K C) m)) "__get__") (some (some (.builtin "property.__get__"))) &&
  (decide (PySem.W.takesIn K (.ref (ma K (ga K C) m)) = some true) && (match PySem.W.recIn K (ma K (ga K C) m) "property" with
    | some (.ref _ :: _) => true
    | _ => false)))
theorem propB_ok {K : PySem.W.Frag} {C m : Str} (h : propB K C m = true) : PropOf K (ga K C) m (ma K (ga K C) m) (gAd K C m) := by
  obtain ⟨h1, h⟩ := ba h
  obtain ⟨h2, h⟩ := ba h
  obtain ⟨h3, h4⟩ := ba h
  refine ⟨eqO_ok h1, eqO_ok h2, of_decide_eq_true h3, ?_⟩
  unfold gAd
  cases e : PySem.W.recIn K (ma K (ga K C) m) "property" with
  | none =>
    rw [e] at h4
    cases h4
  | some l =>
    rw [e] at h4
    cases l with
    | nil => cases h4
    | cons v r =>
      cases v with
      | ref g => exact ⟨r, rfl⟩
      | _ => cases h4
/-- a class's constant -/
def cvB (K : PySem.W.Frag) (C f : Str) (v : Dv) : Bool := PySem.W.readsIn K (ga K C) (.type "type") && (eqO (PySem.W.specialIn K (.ref (ga K C)) "__getattribute__") (some (some (.builtin "type.__getattribute__"))) && (match PySem.W.findCls K (.ref (ga K C)) (.type "type") f with
  | some (.val u) => relB (v.v K) u
  | _ => false))
theorem cvB_ok {K : PySem.W.Frag} {mg : Str → Option Value} {C f : Str} {v : Dv} {d : Dat} (hg : mg C = some (.ref (ga K C))) (h : cvB K C f v = true) (hd : ∀ B, Rp K B (v.v K) d) : KnV K mg C f d := by
  obtain ⟨h1, h⟩ := ba h
  obtain ⟨h2, h3⟩ := ba h
  cases e : PySem.W.findCls K (.ref (ga K C)) (.type "type") f with
  | none =>
    rw [e] at h3
    cases h3
  | some r =>
    rw [e] at h3
    cases r with
    | val u => exact ⟨ga K C, .type "type", v.v K, u, hg, ⟨h1, eqO_ok h2⟩, ⟨e, relB_ok h3⟩, hd⟩
    | _ => cases h3
/-- an own operator -/
def opB (K : PySem.W.Frag) (C m : Str) : Bool := PySem.W.selfFirst K (ga K C) && (eqO (PySem.W.findIn K (.ref (ga K C)) m) (some (some (.ref (ma K (ga K C) m)))) && PySem.W.isFn K (.ref (ma K (ga K C) m)))
theorem opB_ok {K : PySem.W.Frag} {C m : Str} (h : opB K C m = true) : OpOf K (ga K C) m (ma K (ga K C) m) := by
  obtain ⟨h1, h⟩ := ba h
  obtain ⟨h2, h3⟩ := ba h
  exact ⟨h1, eqO_ok h2, h3⟩
/-! ### the hook -/
abbrev PDef : Type := Str × Str × DefD
abbrev AlY : Type := AlD × List FnW × Bool
def obsY (fa : List Fa) (fn : List DefD) (ps : List PDef) (ex : PySem.W.Frag → Bool) (K : PySem.W.Frag) : AlY := (obsD fa fn K, ps.map fun q => fnA K (gAd K q.1 q.2.1), ex K && ps.all fun q => propB K q.1 q.2.1 && okA K (gAd K q.1 q.2.1) q.2.2.qual)
def valY (fn : List DefD) (ps : List PDef) : AlY := (valD fn, ps.map fun q => q.2.2.val, true)
def SaysY (fa : List Fa) (fn : List DefD) (ps : List PDef) (ex : PySem.W.Frag → Bool) (K : PySem.W.Frag) : Prop := obsY fa fn ps ex K = valY fn ps
def obsYG (n : Nat) (fa : List Fa) (fn : List DefD) (ps : List PDef) (ex : PySem.W.Frag → Bool) (g : Addr → Option Obj) : AlY := obsY fa fn ps ex (frG g (PySem.cStatics :: asD g n))
def hookY (n : Nat) (fa : List Fa) (fn : List DefD) (ps : List PDef) (ex : PySem.W.Frag → Bool) : PySem.W.Hook where
  α := AlY
  obs := fun s => obsYG n fa fn ps ex s.heap.get?
  val := fun _ => valY fn ps
  says := fun _ h => ∃ K : PySem.W.Frag, K.In h ∧ SaysY fa fn ps ex K
  of := fun _ _ e => ⟨_, frG_in, e⟩
  keeps := fun _ _ _ ⟨K, hK, c⟩ k => ⟨K, PySem.W.Frag.In.keeps hK k, c⟩
theorem obsYG_eq {n : Nat} {fa : List Fa} {fn : List DefD} {ps : List PDef} {ex : PySem.W.Frag → Bool} {g : Addr → Option Obj} {s : Shared} (h : ∀ a, g a = s.heap.get? a) : obsYG n fa fn ps ex g = (hookY n fa fn ps ex).obs s := by
  have e : g = s.heap.get? := funext h
  rw [e] <;> rfl
section
variable {fa : List Fa} {fn : List DefD} {ps : List PDef} {ex : PySem.W.Frag → Bool} {K : PySem.W.Frag}
theorem SaysY.d (c : SaysY fa fn ps ex K) : SaysD fa fn K := congrArg (fun z : AlY => z.1) c
theorem SaysY.more (c : SaysY fa fn ps ex K) : ex K = true := (ba (show (ex K && ps.all fun q => propB K q.1 q.2.1 && okA K (gAd K q.1 q.2.1) q.2.2.qual) = true from congrArg (fun z : AlY => z.2.2) c)).1
theorem SaysY.prop (c : SaysY fa fn ps ex K) (i : Nat) {q : PDef} (h : ps[i]? = some q := by rfl) : PropOf K (ga K q.1) q.2.1 (ma K (ga K q.1) q.2.1) (gAd K q.1 q.2.1) ∧ ∃ fd, FunD K q.2.2.name q.2.2.qual q.2.2.params q.2.2.body q.2.2.scope [] [] (gAd K q.1 q.2.1) fd := by
  have c2 := (ba (show (ex K && ps.all fun q => propB K q.1 q.2.1 && okA K (gAd K q.1 q.2.1) q.2.2.qual) = true from congrArg (fun z : AlY => z.2.2) c)).2
  obtain ⟨h1, h2⟩ := ba (List.all_eq_true.mp c2 q (List.mem_of_getElem? h))
  have e : ps.map (fun q => fnA K (gAd K q.1 q.2.1)) = ps.map (fun q => q.2.2.val) := congrArg (fun z : AlY => z.2.1) c
  have e2 : (ps.map fun q => fnA K (gAd K q.1 q.2.1))[i]? = (ps.map fun q => q.2.2.val)[i]? := by rw [e]
  rw [List.getElem?_map, List.getElem?_map, h] at e2
  exact ⟨propB_ok h1, funA (Option.some.inj e2) h2⟩
end
end Dl
set_option Elab.async false
set_option linter.all false
set_option maxRecDepth 100000
set_option maxHeartbeats 4000000
namespace Lw
open PySem PySem.Spec PyProof.Rows L2 Dl
def top (i : Nat) : Stmt := PySem.Challenge.pw_loopsame_k02_plain_rows.main.body.getD i (.Pass ⟨0, 0, 0, 0⟩)
/-! ### the plain law's words -/
abbrev iL (ns : List Int) : List Dat := ns.map Dat.int
inductive Kd where
  | ge | eq | div (m : Int)
structure Cd where
  k : Kd
  a : List Int
  c : Int
def Cd.row (x : Cd) : List Int := x.a ++ [x.c]
def Cd.its (x : Cd) : List Dat := match x.k with
  | .ge => [.str "ge", .tup (iL x.row)]
  | .eq => [.str "eq", .tup (iL x.row)]
  | .div m => [.str "div", .int m, .tup (iL x.row)]
def Cd.enc (x : Cd) : Dat := .tup x.its
def dot : List Int → List Int → Int
  | a :: r, b :: p => a * b + dot r p
  | _, _ => 0
def Cd.val (x : Cd) (p : List Int) : Int := x.c + dot x.a p
def Cd.met (x : Cd) (p : List Int) : Bool := match x.k with
  | .ge => decide (0 ≤ x.val p)
  | .eq => decide (x.val p = 0)
  | .div m => decide (x.val p % m = 0)
def Kd.isDiv : Kd → Bool
  | .div _ => true
  | _ => false
def Kd.isGe : Kd → Bool
  | .ge => true
  | _ => false
def nd (cs : List Cd) : Nat := (cs.filter fun x => x.k.isDiv).length
def qv (many seen : Nat) : Kd → List Int
  | .div m => (List.replicate many 0).set seen (-m)
  | _ => List.replicate many 0
def prow (many seen : Nat) (x : Cd) : List Int := x.a ++ qv many seen x.k ++ [x.c]
def prows1 (many seen : Nat) (x : Cd) : List (List Int) := prow many seen x :: (if x.k.isGe = true then [] else [(prow many seen x).map fun y => -y])
def nxt (seen : Nat) (k : Kd) : Nat := if k.isDiv = true then seen + 1 else seen
def prows (many : Nat) : Nat → List Cd → List (List Int)
  | _, [] => []
  | seen, x :: r => prows1 many seen x ++ prows many (nxt seen x.k) r
abbrev encR (r : List Int) : Dat := .tup (iL r)
def Sm (b : Int) (l : List Int) : Prop := ∀ x ∈ l, -b ≤ x ∧ x ≤ b
def Kd.ok : Kd → Prop
  | .div m => 2 ≤ m ∧ m ≤ 60
  | _ => True
def Gd (w : Nat) (b : Int) (x : Cd) : Prop := x.a.length = w ∧ Sm 1000000000 x.a ∧ -b ≤ x.c ∧ x.c ≤ b ∧ x.k.ok
def Good (w : Nat) (cs : List Cd) : Prop := ∀ x ∈ cs, Gd w 10000000000000000000 x
def sysD (C : Addr) (w : Nat) (cs : List Cd) : Dat := .ins C [("width", .int w), ("conditions", .tup (cs.map Cd.enc))]
def Cd.wide (n : Nat) (x : Cd) : Cd := ⟨x.k, x.a ++ List.replicate n 0, x.c⟩
def Cd.fix (ns : List Int) (x : Cd) : Cd := ⟨x.k, x.a.drop ns.length, x.c + dot (x.a.take ns.length) ns⟩
/-! ### promises -/
def PoolAt (M : Mem) (p : Addr) : Prop := ∃ ns : List Int, ns.length ≤ 63 ∧ M p = some (.lst (iL ns))
def PoolTo (M : Mem) (p : Addr) (M' : Mem) : Prop := ∃ ns : List Int, ns.length ≤ 63 ∧ M' = M.set p (.lst (iL ns))
def fs_row_value : FS := fun ds M Q => ∃ (a : List Int) (c : Int) (pt : List Int) (d e : Dat), ds = [d, e] ∧ SeqR M (.d d) (iL (a ++ [c])) ∧ SeqR M (.d e) (iL pt) ∧ a.length = pt.length ∧ pt.length ≤ 1000 ∧ Sm 1000000000 a ∧ Q (.d (.int (c + dot a pt))) M
def fs_negated : FS := fun ds M Q => ∃ r : List Int, ds = [encR r] ∧ r.length ≤ 1000 ∧ Q (.d (encR (r.map fun y => -y))) M
def fs_extended : FS := fun ds M Q => ∃ (a : List Int) (c : Int) (n : Nat), ds = [encR (a ++ [c]), .int n] ∧ a.length ≤ 1000 ∧ n ≤ 1000 ∧ Q (.d (encR (a ++ List.replicate n 0 ++ [c]))) M
def fs__copied : FS := fun ds M Q => ∃ (x : Cd) (w : Nat), ds = [x.enc, .int w] ∧ x.a.length = w ∧ x.k.ok ∧ Q (.d x.enc) M
def fs__is_met : FS := fun ds M Q => ∃ (x : Cd) (pt : List Int) (e : Dat), ds = [x.enc, e] ∧ SeqR M (.d e) (iL pt) ∧ x.a.length = pt.length ∧ pt.length ≤ 1000 ∧ Sm 1000000000 x.a ∧ x.k.ok ∧ Q (.d (.bl (x.met pt))) M
def fs_System___init__ (C : Addr) : FS := fun ds M Q => ∃ (p : Addr) (w : Nat) (d : Dat) (cs : List Cd), ds = [.cell p, .int w, d] ∧ M p = some (.obj C []) ∧ SeqR M (.d d) (cs.map Cd.enc) ∧ w ≤ 80 ∧ cs.length ≤ 1000 ∧ Good w cs ∧
  Q (.d .non) (M.set p (.obj C [("width", .int w), ("conditions", .tup (cs.map Cd.enc))]))
def fs_System_holds (C : Addr) : FS := fun ds M Q => ∃ (w : Nat) (cs : List Cd) (pt : List Int) (e : Dat), ds = [sysD C w cs, e] ∧ SeqR M (.d e) (iL pt) ∧ pt.length = w ∧ w ≤ 100 ∧ Good w cs ∧ Q (.d (.bl (cs.all fun x => x.met pt))) M
def fs_System___and__ (C : Addr) : FS := fun ds M Q => ∃ (w : Nat) (cs es : List Cd), ds = [sysD C w cs, sysD C w es] ∧ w ≤ 80 ∧ cs.length ≤ 500 ∧ es.length ≤ 500 ∧ Good w cs ∧ Good w es ∧ Q (.d (sysD C w (cs ++ es))) M
def fs_System_adding (C : Addr) : FS := fun ds M Q => ∃ (w : Nat) (cs es : List Cd), ds = [sysD C w cs, .tup (es.map Cd.enc)] ∧ w ≤ 80 ∧ cs.length ≤ 500 ∧ es.length ≤ 500 ∧ Good w cs ∧ Good w es ∧ Q (.d (sysD C w (cs ++ es))) M
def fs_System_widened (C : Addr) : FS := fun ds M Q => ∃ (w n : Nat) (cs : List Cd), ds = [sysD C w cs, .int n] ∧ w + n ≤ 80 ∧ cs.length ≤ 500 ∧ Good w cs ∧ Q (.d (sysD C (w + n) (cs.map (Cd.wide n)))) M
def fs_System_fixed (C : Addr) : FS := fun ds M Q => ∃ (w : Nat) (ns : List Int) (cs : List Cd), ds = [sysD C w cs, .lst (iL ns)] ∧ ns.length ≤ w ∧ w ≤ 80 ∧ cs.length ≤ 500 ∧ Good w cs ∧ Good (w - ns.length) (cs.map (Cd.fix ns)) ∧ Q (.d (sysD C (w - ns.length) (cs.map (Cd.fix ns)))) M
def fs_System_plain_width (C : Addr) : FS := fun ds M Q => ∃ (w : Nat) (cs : List Cd), ds = [sysD C w cs] ∧ cs.length ≤ 1000 ∧ Q (.d (.int ((w : Int) + (nd cs : Int)))) M
def fs_System_plain_rows (C : Addr) : FS := fun ds M Q => ∃ (w : Nat) (cs : List Cd), ds = [sysD C w cs] ∧ cs.length ≤ 500 ∧ w ≤ 80 ∧ (∀ x ∈ cs, x.a.length = w) ∧ Q (.new (.lst ((prows (nd cs) 0 cs).map encR))) M
def fs__law_draw : FS := fun ds M Q => ∃ (p : Addr) (m : Int), ds = [.cell p, .int m] ∧ PoolAt M p ∧ 0 < m ∧ m.natAbs.log2 < 9000 ∧ ∀ v M', 0 ≤ v → v < m → PoolTo M p M' → Q (.d (.int v)) M'
def fs__law_number : FS := fun ds M Q => ∃ (p : Addr) (z t : Int), ds = [.cell p, .int z, .int t] ∧ PoolAt M p ∧ 0 ≤ z ∧ z ≤ 1000000000 ∧ ∀ v M', -z ≤ v → v ≤ z → PoolTo M p M' → Q (.d (.int v)) M'
def fs__law_value : FS := fun ds M Q => ∃ (a : List Int) (c : Int) (pt : List Int) (e : Dat), ds = [encR (a ++ [c]), e] ∧ SeqR M (.d e) (iL pt) ∧ a.length = pt.length ∧ pt.length ≤ 1000 ∧ Sm 1000000000 a ∧ Q (.d (.int (c + dot a pt))) M
def fs__law_holds : FS := fun ds M Q => ∃ (cs : List Cd) (pt : List Int) (e : Dat), ds = [.lst (cs.map Cd.enc), e] ∧ SeqR M (.d e) (iL pt) ∧ pt.length ≤ 1000 ∧ Good pt.length cs ∧ Q (.d (.bl (cs.all fun x => x.met pt))) M
def fs__law_plain : FS := fun ds M Q => ∃ (w : Nat) (cs : List Cd), ds = [.int w, .lst (cs.map Cd.enc)] ∧ cs.length ≤ 500 ∧ w ≤ 80 ∧ (∀ x ∈ cs, x.a.length = w) ∧ Q (.new (.lst ((prows (nd cs) 0 cs).map encR))) M
def fs__law_rule : FS := fun ds M Q => ∃ (p : Addr) (pt : List Int) (t mood : Int), ds = [.cell p, .lst (iL pt), .int t, .int mood] ∧ PoolAt M p ∧ pt.length ≤ 3 ∧ Sm 9 pt ∧ ∀ x M', Gd pt.length 1000000000 x → PoolTo M p M' → Q (.d x.enc) M'
def fs__law_world : FS := fun ds M Q => ∃ p : Addr, ds = [.cell p] ∧ PoolAt M p ∧ ∀ (edge : Int) (pt : List Int) (cs : List Cd) M', 0 ≤ edge → edge < 4 → pt.length ≤ 3 → Sm 9 pt → cs.length ≤ 5 → (∀ x ∈ cs, Gd pt.length 1000000000 x) → PoolTo M p M' →
  Q (.d (.tup [.int edge, .int pt.length, .lst (iL pt), .lst (cs.map Cd.enc)])) M'
def fs__law_points : FS := fun ds M Q => ∃ (p : Addr) (edge : Int) (pt : List Int), ds = [.cell p, .int edge, .lst (iL pt)] ∧ PoolAt M p ∧ pt.length ≤ 3 ∧ Sm 9 pt ∧ ∀ (p1 p2 : List Int) M', p1.length = pt.length → p2.length = pt.length → Sm 1000000000 p1 → Sm 1000000000 p2 → PoolTo M p M' →
  Q (.new (.lst [.lst (iL pt), .lst (iL p1), .lst (iL p2)])) M'
def fs__law_widened : FS := fun ds M Q => ∃ (w n : Nat) (cs : List Cd), ds = [.lst (cs.map Cd.enc), .int w, .int n] ∧ w ≤ 80 ∧ n ≤ 80 ∧ cs.length ≤ 500 ∧ (∀ x ∈ cs, x.a.length = w) ∧ Q (.new (.lst ((cs.map (Cd.wide n)).map Cd.enc))) M
def fs__law_fixed : FS := fun ds M Q => ∃ (w : Nat) (ns : List Int) (cs : List Cd), ds = [.lst (cs.map Cd.enc), .int w, .lst (iL ns)] ∧ ns.length ≤ w ∧ w ≤ 80 ∧ cs.length ≤ 500 ∧ Good w cs ∧ Q (.new (.lst ((cs.map (Cd.fix ns)).map Cd.enc))) M
def fs__law_has_rows (C : Addr) : FS := fun ds M Q => ∃ (w : Nat) (cs : List Cd), ds = [sysD C w cs, .int w, .lst (cs.map Cd.enc)] ∧ w ≤ 10 ∧ cs.length ≤ 100 ∧ Good w cs ∧ Q (.d (.bl true)) M
def fs__law_values (C : Addr) : FS := fun ds M Q => ∃ (w : Nat) (cs : List Cd) (pt : List Int), ds = [sysD C w cs, .int w, .lst (cs.map Cd.enc), .lst (iL pt)] ∧ w ≤ 10 ∧ pt.length = w ∧ cs.length ≤ 100 ∧ Good w cs ∧ Sm 1000000000 pt ∧ Q (.d (.bl true)) M
def fs_law (C : Addr) : FS := fsLaw
end Lw
set_option Elab.async false
set_option linter.all false
set_option maxRecDepth 100000
set_option maxHeartbeats 4000000
namespace Lw
open PySem PySem.Spec PyProof.Rows L2 Dl StX ClX
/-! ### row_value -/
abbrev s_row_value : Stmt := top 6
abbrev N_row_value : List Str := ["row", "point", "value", "index"]
def rd_row_value : DS := dSeq (dSet (dOp oIx (dVar 0) (dNeg (dC (.int 1)))) 2)
  (dSeq (dFor (dRng1 (dCons (dCB bLen (dCons (dVar 1) (dNil))) (dNil))) (gd 3) (dSet (dOp oAdd (dVar 2) (dOp oMul (dOp oIx (dVar 0) (dVar 3)) (dOp oIx (dVar 1) (dVar 3)))) 2))
  (dRet (dVar 2)))
/-! ### negated -/
abbrev s_negated : Stmt := top 7
abbrev N_negated : List Str := ["row", "number"]
def rd_negated : DS := dRet (dCB bTuple (dCons (dLc (dSeqW (dVar 0)) 1 (dYes) (dNeg (dVar 1))) (dNil)))
/-! ### extended -/
abbrev s_extended : Stmt := top 8
abbrev N_extended : List Str := ["row", "count"]
def rd_extended : DS := dRet (dOp oAdd (dOp oAdd (dCB bTuple (dCons (dSl (dVar 0) (dNo) (dPart (dNeg (dC (.int 1))))) (dNil))) (dOp oMul (dTup (dCons (dC (.int 0)) (dNil))) (dVar 1))) (dTup (dCons (dOp oIx (dVar 0) (dNeg (dC (.int 1)))) (dNil))))
/-! ### _copied -/
abbrev s__copied : Stmt := top 10
abbrev N__copied : List Str := ["condition", "width", "row"]
def rd__copied : DS := dSeq (dIfS (dTest (dOp (oInB true) (dOp oIx (dVar 0) (dC (.int 0))) (dTup (dCons (dC (.str "ge")) (dCons (dC (.str "eq")) (dCons (dC (.str "div")) (dNil))))))) (dRet (dC .non)) (dNext))
  (dSeq (dSet (dCB bTuple (dCons (dOp oIx (dVar 0) (dNeg (dC (.int 1)))) (dNil))) 2)
  (dSeq (dIfS (dTest (dOp oNe (dCB bLen (dCons (dVar 2) (dNil))) (dOp oAdd (dVar 1) (dC (.int 1))))) (dRet (dC .non)) (dNext))
  (dSeq (dIfS (dTest (dOp oNe (dOp oIx (dVar 0) (dC (.int 0))) (dC (.str "div")))) (dRet (dTup (dCons (dOp oIx (dVar 0) (dC (.int 0))) (dCons (dVar 2) (dNil))))) (dNext))
  (dSeq (dIfS (dTest (dOp oLt (dOp oIx (dVar 0) (dC (.int 1))) (dC (.int 2)))) (dRet (dC .non)) (dNext))
  (dRet (dTup (dCons (dC (.str "div")) (dCons (dOp oIx (dVar 0) (dC (.int 1))) (dCons (dVar 2) (dNil))))))))))
/-! ### _is_met -/
abbrev s__is_met : Stmt := top 11
abbrev N__is_met : List Str := ["condition", "point", "value"]
def rd__is_met : DS := dSeq (dSet (dCB fs_row_value (dCons (dOp oIx (dVar 0) (dNeg (dC (.int 1)))) (dCons (dVar 1) (dNil)))) 2)
  (dSeq (dIfS (dTest (dOp oEq (dOp oIx (dVar 0) (dC (.int 0))) (dC (.str "ge")))) (dRet (dOp oGe (dVar 2) (dC (.int 0)))) (dNext))
  (dSeq (dIfS (dTest (dOp oEq (dOp oIx (dVar 0) (dC (.int 0))) (dC (.str "eq")))) (dRet (dOp oEq (dVar 2) (dC (.int 0)))) (dNext))
  (dRet (dOp oEq (dOp oModI (dVar 2) (dOp oIx (dVar 0) (dC (.int 1)))) (dC (.int 0))))))
/-! ### System.__init__ -/
abbrev s_System___init__ : Stmt := inClass (top 12) 1
abbrev N_System___init__ : List Str := ["self", "width", "conditions", "kept", "condition", "copy"]
def rd_System___init__ (C_System : Addr) : DS := dSeq (dIfS (dNot (dTest (dChain oLe oLe (dC (.int 0)) (dVar 1) (dC (.int 80))))) (dNever) (dNext))
  (dSeq (dSetC (dLst (dNil)) 3)
  (dSeq (dFor (dSeqW (dVar 2)) (gd 4) (dSeq (dSet (dCB fs__copied (dCons (dVar 4) (dCons (dVar 1) (dNil)))) 5)
  (dSeq (dIfS (dTest (dOp (oIs false) (dVar 5) (dC .non))) (dNever) (dNext))
  (dDrop (dAppend (dVar 3) (dVar 5))))))
  (dSeq (dSetF C_System "width" (dVar 1) (dVar 0))
  (dSetF C_System "conditions" (dCB bTuple (dCons (dVar 3) (dNil))) (dVar 0)))))
/-! ### System.holds -/
abbrev s_System_holds : Stmt := inClass (top 12) 2
abbrev N_System_holds : List Str := ["self", "point", "condition"]
def rd_System_holds (C_System : Addr) : DS := dSeq (dIfS (dTest (dOp oNe (dCB bLen (dCons (dVar 1) (dNil))) (dFld C_System "width" (dVar 0)))) (dNever) (dNext))
  (dSeq (dFor (dSeqW (dFld C_System "conditions" (dVar 0))) (gd 2) (dIfS (dNot (dTest (dCB fs__is_met (dCons (dVar 2) (dCons (dVar 1) (dNil)))))) (dRet (dC (.bl false))) (dNext)))
  (dRet (dC (.bl true))))
/-! ### System.__and__ -/
abbrev s_System___and__ : Stmt := inClass (top 12) 4
abbrev N_System___and__ : List Str := ["self", "other"]
def rd_System___and__ (C_System : Addr) : DS := dSeq (dIfS (dTest (dOp oNe (dFld C_System "width" (dVar 1)) (dFld C_System "width" (dVar 0)))) (dNever) (dNext))
  (dRet (dMake C_System (fs_System___init__ C_System) (dCons (dFld C_System "width" (dVar 0)) (dCons (dOp oAdd (dFld C_System "conditions" (dVar 0)) (dFld C_System "conditions" (dVar 1))) (dNil)))))
/-! ### System.adding -/
abbrev s_System_adding : Stmt := inClass (top 12) 5
abbrev N_System_adding : List Str := ["self", "conditions"]
def rd_System_adding (C_System : Addr) : DS := dRet (dMake C_System (fs_System___init__ C_System) (dCons (dFld C_System "width" (dVar 0)) (dCons (dOp oAdd (dFld C_System "conditions" (dVar 0)) (dVar 1)) (dNil))))
/-! ### System.widened -/
abbrev s_System_widened : Stmt := inClass (top 12) 6
abbrev N_System_widened : List Str := ["self", "count", "conditions", "condition"]
def rd_System_widened (C_System : Addr) : DS := dSeq (dIfS (dNot (dTest (dChain oLe oLe (dC (.int 0)) (dVar 1) (dC (.int 80))))) (dNever) (dNext))
  (dSeq (dIfS (dTest (dOp oGt (dOp oAdd (dFld C_System "width" (dVar 0)) (dVar 1)) (dC (.int 80)))) (dNever) (dNext))
  (dSeq (dSet (dLc (dSeqW (dFld C_System "conditions" (dVar 0))) 3 (dYes) (dOp oAdd (dSl (dVar 3) (dNo) (dPart (dNeg (dC (.int 1))))) (dTup (dCons (dCB fs_extended (dCons (dOp oIx (dVar 3) (dNeg (dC (.int 1)))) (dCons (dVar 1) (dNil)))) (dNil))))) 2)
  (dRet (dMake C_System (fs_System___init__ C_System) (dCons (dOp oAdd (dFld C_System "width" (dVar 0)) (dVar 1)) (dCons (dVar 2) (dNil)))))))
/-! ### System.fixed -/
abbrev s_System_fixed : Stmt := inClass (top 12) 7
abbrev N_System_fixed : List Str := ["self", "numbers", "count", "conditions", "condition", "row", "constant"]
def rd_System_fixed (C_System : Addr) : DS := dSeq (dSet (dCB bLen (dCons (dVar 1) (dNil))) 2)
  (dSeq (dIfS (dTest (dOp oGt (dVar 2) (dFld C_System "width" (dVar 0)))) (dNever) (dNext))
  (dSeq (dSetC (dLst (dNil)) 3)
  (dSeq (dFor (dSeqW (dFld C_System "conditions" (dVar 0))) (gd 4) (dSeq (dSet (dOp oIx (dVar 4) (dNeg (dC (.int 1)))) 5)
  (dSeq (dSet (dCB fs_row_value (dCons (dOp oAdd (dSl (dVar 5) (dNo) (dPart (dVar 2))) (dSl (dVar 5) (dPart (dNeg (dC (.int 1)))) (dNo))) (dCons (dVar 1) (dNil)))) 6)
  (dDrop (dAppend (dVar 3) (dOp oAdd (dSl (dVar 4) (dNo) (dPart (dNeg (dC (.int 1))))) (dTup (dCons (dOp oAdd (dSl (dVar 5) (dPart (dVar 2)) (dPart (dNeg (dC (.int 1))))) (dTup (dCons (dVar 6) (dNil)))) (dNil)))))))))
  (dRet (dMake C_System (fs_System___init__ C_System) (dCons (dOp oSub (dFld C_System "width" (dVar 0)) (dVar 2)) (dCons (dVar 3) (dNil))))))))
/-! ### System.plain_width -/
abbrev s_System_plain_width : Stmt := inClass (top 12) 8
abbrev N_System_plain_width : List Str := ["self", "condition"]
def rd_System_plain_width (C_System : Addr) : DS := dRet (dOp oAdd (dFld C_System "width" (dVar 0)) (dCB bLen (dCons (dLc (dSeqW (dFld C_System "conditions" (dVar 0))) 1 (dTest (dOp oEq (dOp oIx (dVar 1) (dC (.int 0))) (dC (.str "div")))) (dVar 1)) (dNil))))
/-! ### System.plain_rows -/
abbrev s_System_plain_rows : Stmt := inClass (top 12) 9
abbrev N_System_plain_rows : List Str := ["self", "count", "rows", "place", "condition", "row"]
def rd_System_plain_rows (C_System : Addr) : DS := dSeq (dSet (dOp oSub (dProp C_System (fs_System_plain_width C_System) (dVar 0)) (dFld C_System "width" (dVar 0))) 1)
  (dSeq (dSetC (dLst (dNil)) 2)
  (dSeq (dSet (dFld C_System "width" (dVar 0)) 3)
  (dSeq (dFor (dSeqW (dFld C_System "conditions" (dVar 0))) (gd 4) (dSeq (dSet (dCB fs_extended (dCons (dOp oIx (dVar 4) (dNeg (dC (.int 1)))) (dCons (dVar 1) (dNil)))) 5)
  (dSeq (dIfS (dTest (dOp oEq (dOp oIx (dVar 4) (dC (.int 0))) (dC (.str "div")))) (dSeq (dSet (dOp oAdd (dOp oAdd (dSl (dVar 5) (dNo) (dPart (dVar 3))) (dTup (dCons (dNeg (dOp oIx (dVar 4) (dC (.int 1)))) (dNil)))) (dSl (dVar 5) (dPart (dOp oAdd (dVar 3) (dC (.int 1)))) (dNo))) 5)
  (dSet (dOp oAdd (dVar 3) (dC (.int 1))) 3)) (dNext))
  (dSeq (dDrop (dAppend (dVar 2) (dVar 5)))
  (dIfS (dTest (dOp oNe (dOp oIx (dVar 4) (dC (.int 0))) (dC (.str "ge")))) (dDrop (dAppend (dVar 2) (dCB fs_negated (dCons (dVar 5) (dNil))))) (dNext))))))
  (dRet (dVar 2)))))
/-! ### _law_draw -/
abbrev s__law_draw : Stmt := top 14
abbrev N__law_draw : List Str := ["_law_pool", "_law_many", "_law_cell", "_law_rest"]
def rd__law_draw : DS := dSeq (dIfS (dTest (dOp oEq (dVar 0) (dLst (dNil)))) (dRet (dC (.int 0))) (dNext))
  (dSeq (dSet (dPop (dVar 0)) 2)
  (dSeq (dSet (dOp oDivI (dVar 2) (dVar 1)) 3)
  (dSeq (dIfS (dTest (dOp (oInB true) (dVar 3) (dTup (dCons (dC (.int 0)) (dCons (dNeg (dC (.int 1))) (dNil)))))) (dDrop (dAppend (dVar 0) (dVar 3))) (dNext))
  (dRet (dOp oModI (dCB bInt (dCons (dVar 2) (dNil))) (dVar 1))))))
/-! ### _law_number -/
abbrev s__law_number : Stmt := top 15
abbrev N__law_number : List Str := ["_law_pool", "_law_size", "_law_at"]
def rd__law_number : DS := dRet (dOp oSub (dOp oModI (dCB bInt (dCons (dOp oAdd (dOp oAdd (dCB fs__law_draw (dCons (dVar 0) (dCons (dOp oAdd (dOp oMul (dC (.int 2)) (dVar 1)) (dC (.int 1))) (dNil)))) (dVar 1)) (dVar 2)) (dNil))) (dOp oAdd (dOp oMul (dC (.int 2)) (dVar 1)) (dC (.int 1)))) (dVar 1))
/-! ### _law_value -/
abbrev s__law_value : Stmt := top 16
abbrev N__law_value : List Str := ["_law_row", "_law_point", "_law_k"]
def rd__law_value : DS := dRet (dOp oAdd (dOp oIx (dVar 0) (dNeg (dC (.int 1)))) (dCB bSum (dCons (dLc (dRng1 (dCons (dCB bLen (dCons (dVar 1) (dNil))) (dNil))) 2 (dYes) (dOp oMul (dOp oIx (dVar 0) (dVar 2)) (dOp oIx (dVar 1) (dVar 2)))) (dNil))))
/-! ### _law_holds -/
abbrev s__law_holds : Stmt := top 17
abbrev N__law_holds : List Str := ["_law_rules", "_law_point", "_law_rule_here", "_law_value_here"]
def rd__law_holds : DS := dSeq (dFor (dSeqW (dVar 0)) (gd 2) (dSeq (dSet (dCB fs__law_value (dCons (dOp oIx (dVar 2) (dNeg (dC (.int 1)))) (dCons (dVar 1) (dNil)))) 3)
  (dSeq (dIfS (dAnd (dTest (dOp oEq (dOp oIx (dVar 2) (dC (.int 0))) (dC (.str "ge")))) (dTest (dOp oLt (dVar 3) (dC (.int 0))))) (dRet (dC (.bl false))) (dNext))
  (dSeq (dIfS (dAnd (dTest (dOp oEq (dOp oIx (dVar 2) (dC (.int 0))) (dC (.str "eq")))) (dTest (dOp oNe (dVar 3) (dC (.int 0))))) (dRet (dC (.bl false))) (dNext))
  (dIfS (dAnd (dTest (dOp oEq (dOp oIx (dVar 2) (dC (.int 0))) (dC (.str "div")))) (dTest (dOp oNe (dOp oModI (dCB bInt (dCons (dVar 3) (dNil))) (dOp oIx (dVar 2) (dC (.int 1)))) (dC (.int 0))))) (dRet (dC (.bl false))) (dNext))))))
  (dRet (dC (.bl true)))
/-! ### _law_plain -/
abbrev s__law_plain : Stmt := top 18
abbrev N__law_plain : List Str := ["_law_width", "_law_rules", "_law_many", "_law_rows", "_law_seen", "_law_rule_here", "_law_row", "_law_quotients", "_law_number_here"]
def rd__law_plain : DS := dSeq (dSet (dCB bLen (dCons (dLc (dSeqW (dVar 1)) 5 (dTest (dOp oEq (dOp oIx (dVar 5) (dC (.int 0))) (dC (.str "div")))) (dVar 5)) (dNil))) 2)
  (dSeq (dSetC (dLst (dNil)) 3)
  (dSeq (dSet (dC (.int 0)) 4)
  (dSeq (dFor (dSeqW (dVar 1)) (gd 5) (dSeq (dSet (dCB bTuple (dCons (dOp oIx (dVar 5) (dNeg (dC (.int 1)))) (dNil))) 6)
  (dSeq (dSetC (dOp oMul (dLst (dCons (dC (.int 0)) (dNil))) (dVar 2)) 7)
  (dSeq (dIfS (dTest (dOp oEq (dOp oIx (dVar 5) (dC (.int 0))) (dC (.str "div")))) (dSeq (dSetI (dNeg (dOp oIx (dVar 5) (dC (.int 1)))) (dVar 7) (dVar 4))
  (dSet (dOp oAdd (dVar 4) (dC (.int 1))) 4)) (dNext))
  (dSeq (dSet (dOp oAdd (dOp oAdd (dSl (dVar 6) (dNo) (dPart (dVar 0))) (dCB bTuple (dCons (dVar 7) (dNil)))) (dSl (dVar 6) (dPart (dVar 0)) (dNo))) 6)
  (dSeq (dDrop (dAppend (dVar 3) (dVar 6)))
  (dIfS (dTest (dOp oNe (dOp oIx (dVar 5) (dC (.int 0))) (dC (.str "ge")))) (dDrop (dAppend (dVar 3) (dCB bTuple (dCons (dLc (dSeqW (dVar 6)) 8 (dYes) (dNeg (dVar 8))) (dNil))))) (dNext))))))))
  (dRet (dVar 3)))))
/-! ### _law_rule -/
abbrev s__law_rule : Stmt := top 19
abbrev N__law_rule : List Str := ["_law_pool", "_law_point", "_law_at", "_law_mood", "_law_kind", "_law_m", "_law_row", "_law_constant", "_law_spare", "_law_k"]
def rd__law_rule : DS := dSeq (dSet (dOp oModI (dCB bInt (dCons (dOp oAdd (dCB fs__law_draw (dCons (dVar 0) (dCons (dC (.int 3)) (dNil)))) (dVar 2)) (dNil))) (dC (.int 3))) 4)
  (dSeq (dSet (dOp oAdd (dC (.int 2)) (dOp oModI (dCB bInt (dCons (dOp oAdd (dCB fs__law_draw (dCons (dVar 0) (dCons (dC (.int 59)) (dNil)))) (dOp oMul (dC (.int 7)) (dVar 2))) (dNil))) (dC (.int 59)))) 5)
  (dSeq (dSet (dLc (dRng1 (dCons (dCB bLen (dCons (dVar 1) (dNil))) (dNil))) 9 (dYes) (dCB fs__law_number (dCons (dVar 0) (dCons (dC (.int 9)) (dCons (dOp oAdd (dOp oAdd (dVar 2) (dOp oMul (dC (.int 2)) (dVar 9))) (dC (.int 1))) (dNil)))))) 6)
  (dSeq (dSet (dNeg (dCB bSum (dCons (dLc (dRng1 (dCons (dCB bLen (dCons (dVar 1) (dNil))) (dNil))) 9 (dYes) (dOp oMul (dOp oIx (dVar 6) (dVar 9)) (dOp oIx (dVar 1) (dVar 9)))) (dNil)))) 7)
  (dSeq (dSet (dCB fs__law_draw (dCons (dVar 0) (dCons (dC (.int 10)) (dNil)))) 8)
  (dSeq (dIfS (dAnd (dTest (dOp oEq (dVar 3) (dC (.int 0)))) (dTest (dOp oEq (dVar 4) (dC (.int 0))))) (dSet (dOp oAdd (dVar 7) (dVar 8)) 7) (dNext))
  (dSeq (dIfS (dAnd (dTest (dOp oEq (dVar 3) (dC (.int 0)))) (dTest (dOp oEq (dVar 4) (dC (.int 2))))) (dSet (dOp oAdd (dVar 7) (dOp oMul (dVar 5) (dOp oSub (dOp oModI (dCB bInt (dCons (dVar 8) (dNil))) (dC (.int 3))) (dC (.int 1))))) 7) (dNext))
  (dSeq (dIfS (dTest (dOp oEq (dVar 3) (dC (.int 1)))) (dSet (dOp oSub (dVar 7) (dC (.int 1))) 7) (dNext))
  (dSeq (dIfS (dTest (dOp oEq (dVar 3) (dC (.int 2)))) (dSet (dOp oSub (dCB fs__law_draw (dCons (dVar 0) (dCons (dC (.int 199)) (dNil)))) (dC (.int 99))) 7) (dNext))
  (dSeq (dSet (dCB bTuple (dCons (dOp oAdd (dVar 6) (dLst (dCons (dVar 7) (dNil)))) (dNil))) 6)
  (dSeq (dIfS (dTest (dOp oEq (dVar 4) (dC (.int 2)))) (dRet (dTup (dCons (dC (.str "div")) (dCons (dVar 5) (dCons (dVar 6) (dNil)))))) (dNext))
  (dRet (dTup (dCons (dOp oIx (dLst (dCons (dC (.str "ge")) (dCons (dC (.str "eq")) (dNil)))) (dVar 4)) (dCons (dVar 6) (dNil)))))))))))))))
/-! ### _law_world -/
abbrev s__law_world : Stmt := top 20
abbrev N__law_world : List Str := ["_law_pool", "_law_edge", "_law_width", "_law_many", "_law_point", "_law_mood", "_law_odd", "_law_rules", "_law_j", "_law_k", "_law_row"]
def rd__law_world : DS := dSeq (dSet (dCB fs__law_draw (dCons (dVar 0) (dCons (dC (.int 4)) (dNil)))) 1)
  (dSeq (dSet (dOp oModI (dCB bInt (dCons (dOp oAdd (dCB fs__law_draw (dCons (dVar 0) (dCons (dC (.int 4)) (dNil)))) (dC (.int 2))) (dNil))) (dC (.int 4))) 2)
  (dSeq (dSet (dOp oModI (dCB bInt (dCons (dOp oAdd (dCB fs__law_draw (dCons (dVar 0) (dCons (dC (.int 6)) (dNil)))) (dC (.int 3))) (dNil))) (dC (.int 6))) 3)
  (dSeq (dSet (dLc (dRng1 (dCons (dVar 2) (dNil))) 9 (dYes) (dCB fs__law_number (dCons (dVar 0) (dCons (dC (.int 9)) (dCons (dOp oAdd (dVar 9) (dC (.int 1))) (dNil)))))) 4)
  (dSeq (dSet (dCB fs__law_draw (dCons (dVar 0) (dCons (dC (.int 3)) (dNil)))) 5)
  (dSeq (dSet (dCB fs__law_draw (dCons (dVar 0) (dCons (dCB bMax2 (dCons (dC (.int 1)) (dCons (dVar 3) (dNil)))) (dNil)))) 6)
  (dSeq (dSetC (dLst (dNil)) 7)
  (dSeq (dFor (dRng1 (dCons (dVar 3) (dNil))) (gd 8) (dDrop (dAppend (dVar 7) (dCB fs__law_rule (dCons (dVar 0) (dCons (dVar 4) (dCons (dVar 8) (dCons (dOp oIx (dLst (dCons (dC (.int 0)) (dCons (dCB bInt (dCons (dOp oEq (dVar 8) (dVar 6)) (dNil))) (dCons (dC (.int 2)) (dNil))))) (dVar 5)) (dNil)))))))))
  (dSeq (dIfS (dAnd (dTest (dOp oEq (dVar 1) (dC (.int 3)))) (dTest (dOp oGt (dVar 3) (dC (.int 0))))) (dSeq (dSet (dCB fs__law_draw (dCons (dVar 0) (dCons (dVar 3) (dNil)))) 8)
  (dSeq (dSet (dCB fs__law_draw (dCons (dVar 0) (dCons (dOp oAdd (dVar 2) (dC (.int 1))) (dNil)))) 9)
  (dSeq (dSetC (dCB bList (dCons (dOp oIx (dOp oIx (dVar 7) (dVar 8)) (dNeg (dC (.int 1)))) (dNil))) 10)
  (dSeq (dSetI (dOp oSub (dCB fs__law_draw (dCons (dVar 0) (dCons (dOp oAdd (dOp oMul (dC (.int 2)) (dOp oPow (dC (.int 10)) (dC (.int 9)))) (dC (.int 1))) (dNil)))) (dOp oPow (dC (.int 10)) (dC (.int 9)))) (dVar 10) (dVar 9))
  (dSetI (dOp oAdd (dSl (dOp oIx (dVar 7) (dVar 8)) (dNo) (dPart (dNeg (dC (.int 1))))) (dTup (dCons (dCB bTuple (dCons (dVar 10) (dNil))) (dNil)))) (dVar 7) (dVar 8)))))) (dNext))
  (dRet (dTup (dCons (dVar 1) (dCons (dVar 2) (dCons (dVar 4) (dCons (dHold (dVar 7)) (dNil)))))))))))))))
/-! ### _law_points -/
abbrev s__law_points : Stmt := top 21
abbrev N__law_points : List Str := ["_law_pool", "_law_edge", "_law_point", "_law_near", "_law_far", "_law_k"]
def rd__law_points : DS := dSeq (dSetC (dCB bList (dCons (dVar 2) (dNil))) 3)
  (dSeq (dSetC (dLc (dRng1 (dCons (dCB bLen (dCons (dVar 2) (dNil))) (dNil))) 5 (dYes) (dCB fs__law_number (dCons (dVar 0) (dCons (dC (.int 9)) (dCons (dOp oSub (dC (.int 3)) (dVar 5)) (dNil)))))) 4)
  (dSeq (dIfS (dTest (dOp oGt (dCB bLen (dCons (dVar 2) (dNil))) (dC (.int 0)))) (dSeq (dSet (dCB fs__law_draw (dCons (dVar 0) (dCons (dCB bLen (dCons (dVar 2) (dNil))) (dNil)))) 5)
  (dSetI (dOp oSub (dOp oAdd (dOp oIx (dVar 3) (dVar 5)) (dC (.int 1))) (dOp oMul (dC (.int 2)) (dCB fs__law_draw (dCons (dVar 0) (dCons (dC (.int 2)) (dNil)))))) (dVar 3) (dVar 5))) (dNext))
  (dSeq (dIfS (dAnd (dTest (dOp oEq (dVar 1) (dC (.int 3)))) (dTest (dOp oGt (dCB bLen (dCons (dVar 2) (dNil))) (dC (.int 0))))) (dSeq (dSet (dCB fs__law_draw (dCons (dVar 0) (dCons (dCB bLen (dCons (dVar 2) (dNil))) (dNil)))) 5)
  (dSetI (dOp oSub (dCB fs__law_draw (dCons (dVar 0) (dCons (dOp oAdd (dOp oMul (dC (.int 2)) (dOp oPow (dC (.int 10)) (dC (.int 9)))) (dC (.int 1))) (dNil)))) (dOp oPow (dC (.int 10)) (dC (.int 9)))) (dVar 4) (dVar 5))) (dNext))
  (dRet (dLst (dCons (dVar 2) (dCons (dHold (dVar 3)) (dCons (dHold (dVar 4)) (dNil)))))))))
/-! ### _law_widened -/
abbrev s__law_widened : Stmt := top 22
abbrev N__law_widened : List Str := ["_law_rules", "_law_width", "_law_count", "_law_due", "_law_rule_here", "_law_row"]
def rd__law_widened : DS := dSeq (dSetC (dLst (dNil)) 3)
  (dSeq (dFor (dSeqW (dVar 0)) (gd 4) (dSeq (dSet (dOp oIx (dVar 4) (dNeg (dC (.int 1)))) 5)
  (dDrop (dAppend (dVar 3) (dOp oAdd (dSl (dVar 4) (dNo) (dPart (dNeg (dC (.int 1))))) (dTup (dCons (dOp oAdd (dOp oAdd (dSl (dVar 5) (dNo) (dPart (dVar 1))) (dOp oMul (dTup (dCons (dC (.int 0)) (dNil))) (dVar 2))) (dSl (dVar 5) (dPart (dVar 1)) (dNo))) (dNil))))))))
  (dRet (dVar 3)))
/-! ### _law_fixed -/
abbrev s__law_fixed : Stmt := top 23
abbrev N__law_fixed : List Str := ["_law_rules", "_law_width", "_law_numbers", "_law_many", "_law_due", "_law_rule_here", "_law_row", "_law_known", "_law_k"]
def rd__law_fixed : DS := dSeq (dSet (dCB bLen (dCons (dVar 2) (dNil))) 3)
  (dSeq (dSetC (dLst (dNil)) 4)
  (dSeq (dFor (dSeqW (dVar 0)) (gd 5) (dSeq (dSet (dOp oIx (dVar 5) (dNeg (dC (.int 1)))) 6)
  (dSeq (dSet (dCB bSum (dCons (dLc (dRng1 (dCons (dVar 3) (dNil))) 8 (dYes) (dOp oMul (dOp oIx (dVar 6) (dVar 8)) (dOp oIx (dVar 2) (dVar 8)))) (dNil))) 7)
  (dSeq (dSet (dOp oAdd (dSl (dVar 6) (dPart (dVar 3)) (dPart (dVar 1))) (dTup (dCons (dOp oAdd (dOp oIx (dVar 6) (dVar 1)) (dVar 7)) (dNil)))) 6)
  (dDrop (dAppend (dVar 4) (dOp oAdd (dSl (dVar 5) (dNo) (dPart (dNeg (dC (.int 1))))) (dTup (dCons (dVar 6) (dNil))))))))))
  (dRet (dVar 4))))
/-! ### _law_has_rows -/
abbrev s__law_has_rows : Stmt := top 24
abbrev N__law_has_rows : List Str := ["_law_system", "_law_width", "_law_rules", "_law_due", "_law_many", "_law_told", "_law_again", "_law_rule_here"]
def rd__law_has_rows (C_System : Addr) : DS := dSeq (dSet (dCB fs__law_plain (dCons (dVar 1) (dCons (dVar 2) (dNil)))) 3)
  (dSeq (dSet (dOp oAdd (dVar 1) (dCB bLen (dCons (dLc (dSeqW (dVar 2)) 7 (dTest (dOp oEq (dOp oIx (dVar 7) (dC (.int 0))) (dC (.str "div")))) (dVar 7)) (dNil)))) 4)
  (dSeq (dIfS (dTest (dOp oNe (dCB bRepr (dCons (dProp C_System (fs_System_plain_width C_System) (dVar 0)) (dNil))) (dCB bRepr (dCons (dVar 4) (dNil))))) (dRet (dC (.bl false))) (dNext))
  (dSeq (dSetC (dMeth C_System "plain_rows" (fs_System_plain_rows C_System) (dVar 0) dNil) 5)
  (dSeq (dIfS (dTest (dOp oNe (dCB bRepr (dCons (dVar 5) (dNil))) (dCB bRepr (dCons (dVar 3) (dNil))))) (dRet (dC (.bl false))) (dNext))
  (dSeq (dDrop (dAppend (dVar 5) (dOp oAdd (dOp oMul (dTup (dCons (dC (.int 0)) (dNil))) (dVar 4)) (dTup (dCons (dNeg (dC (.int 1))) (dNil))))))
  (dSeq (dSetI (dOp oMul (dTup (dCons (dC (.int 1)) (dNil))) (dOp oAdd (dVar 4) (dC (.int 1)))) (dVar 5) (dC (.int 0)))
  (dSeq (dSet (dMeth C_System "plain_rows" (fs_System_plain_rows C_System) (dVar 0) dNil) 6)
  (dRet (dAndV (dOp oEq (dCB bRepr (dCons (dVar 6) (dNil))) (dCB bRepr (dCons (dVar 3) (dNil)))) (dOp oEq (dCB bRepr (dCons (dProp C_System (fs_System_plain_width C_System) (dVar 0)) (dNil))) (dCB bRepr (dCons (dVar 4) (dNil)))))))))))))
/-! ### _law_values -/
abbrev s__law_values : Stmt := top 25
abbrev N__law_values : List Str := ["_law_system", "_law_width", "_law_rules", "_law_point", "_law_whole", "_law_rule_here", "_law_kept", "_law_small", "_law_least", "_law_row", "_law_due", "_law_truth", "_law_number_here"]
def rd__law_values (C_System : Addr) : DS := dSeq (dSetC (dCB bList (dCons (dVar 3) (dNil))) 4)
  (dSeq (dFor (dSeqW (dVar 2)) (gd 5) (dIfS (dTest (dOp oEq (dOp oIx (dVar 5) (dC (.int 0))) (dC (.str "div")))) (dDrop (dAppend (dVar 4) (dOp oDivI (dCB fs__law_value (dCons (dOp oIx (dVar 5) (dNeg (dC (.int 1)))) (dCons (dVar 3) (dNil)))) (dOp oIx (dVar 5) (dC (.int 1)))))) (dNext)))
  (dSeq (dSet (dCB bTuple (dCons (dVar 4) (dNil))) 6)
  (dSeq (dSet (dOp oLe (dCB bMaxL (dCons (dOp oAdd (dLc (dSeqW (dVar 4)) 12 (dYes) (dCB bAbs (dCons (dVar 12) (dNil)))) (dLst (dCons (dC (.int 0)) (dNil)))) (dNil))) (dOp oPow (dC (.int 10)) (dC (.int 9)))) 7)
  (dSeq (dSet (dC (.int 0)) 8)
  (dSeq (dFor (dSeqW (dCB fs__law_plain (dCons (dVar 1) (dCons (dVar 2) (dNil))))) (gd 9) (dSeq (dSet (dCB fs__law_value (dCons (dVar 9) (dCons (dVar 6) (dNil)))) 10)
  (dSeq (dSet (dCB bMin2 (dCons (dVar 8) (dCons (dVar 10) (dNil)))) 8)
  (dSeq (dIfS (dAnd (dTest (dVar 7)) (dTest (dOp oNe (dCB bRepr (dCons (dCB fs_row_value (dCons (dVar 9) (dCons (dVar 4) (dNil)))) (dNil))) (dCB bRepr (dCons (dVar 10) (dNil)))))) (dRet (dC (.bl false))) (dNext))
  (dIfS (dAnd (dTest (dVar 7)) (dTest (dOp oNe (dCB bRepr (dCons (dCB fs_row_value (dCons (dCB bList (dCons (dVar 9) (dNil))) (dCons (dVar 6) (dNil)))) (dNil))) (dCB bRepr (dCons (dVar 10) (dNil)))))) (dRet (dC (.bl false))) (dNext))))))
  (dSeq (dSet (dCB fs__law_holds (dCons (dVar 2) (dCons (dVar 3) (dNil)))) 11)
  (dSeq (dIfS (dOr (dTest (dOp oNe (dOp oGe (dVar 8) (dC (.int 0))) (dVar 11))) (dTest (dOp oNe (dVar 4) (dCB bList (dCons (dVar 6) (dNil)))))) (dRet (dC (.bl false))) (dNext))
  (dRet (dOp oEq (dCB bRepr (dCons (dMeth C_System "holds" (fs_System_holds C_System) (dVar 0) (dCons (dVar 3) (dNil))) (dNil))) (dCB bRepr (dCons (dVar 11) (dNil))))))))))))
/-! ### law -/
abbrev s_law : Stmt := top 26
abbrev N_law : List Str := ["_law_script", "_law_pool", "_law_edge", "_law_width", "_law_point", "_law_rules", "_law_points_here", "_law_system", "_law_one", "_law_long", "_law_first", "_law_second", "_law_count", "_law_numbers", "_law_size", "_law_more", "_law_longer", "_law_due"]
def rd_law (C_System : Addr) : DS := dSeq (dSet (dSl (dVar 0) (dNo) (dPart (dC (.int 63)))) 0)
  (dSeq (dSetC (dRev (dVar 0)) 1)
  (dSeq (dAsg (dCB fs__law_world (dCons (dVar 1) (dNil))) (gdTup 4 (gdCons (gd 2) (gdCons (gd 3) (gdCons (gd 4) (gdCons (gd 5) (gdNil)))))))
  (dSeq (dSet (dCB fs__law_points (dCons (dVar 1) (dCons (dVar 2) (dCons (dVar 4) (dNil))))) 6)
  (dSeq (dSet (dMake C_System (fs_System___init__ C_System) (dCons (dVar 3) (dCons (dCB bList (dCons (dVar 5) (dNil))) (dNil)))) 7)
  (dSeq (dIfS (dNot (dTest (dCB (fs__law_has_rows C_System) (dCons (dVar 7) (dCons (dVar 3) (dCons (dVar 5) (dNil))))))) (dRet (dC (.bl false))) (dNext))
  (dSeq (dFor (dSeqW (dVar 6)) (gd 8) (dIfS (dNot (dTest (dCB (fs__law_values C_System) (dCons (dVar 7) (dCons (dVar 3) (dCons (dVar 5) (dCons (dVar 8) (dNil)))))))) (dRet (dC (.bl false))) (dNext)))
  (dSeq (dSet (dOp oMul (dVar 5) (dOp oIx (dLst (dCons (dC (.int 1)) (dCons (dC (.int 2)) (dCons (dC (.int 5)) (dCons (dC (.int 12)) (dNil)))))) (dVar 2))) 9)
  (dSeq (dIfS (dNot (dTest (dCB (fs__law_has_rows C_System) (dCons (dMake C_System (fs_System___init__ C_System) (dCons (dVar 3) (dCons (dCB bTuple (dCons (dVar 9) (dNil))) (dNil)))) (dCons (dVar 3) (dCons (dVar 9) (dNil))))))) (dRet (dC (.bl false))) (dNext))
  (dSeq (dSet (dCB fs__law_rule (dCons (dVar 1) (dCons (dVar 4) (dCons (dC (.int 2)) (dCons (dC (.int 0)) (dNil)))))) 10)
  (dSeq (dSet (dCB fs__law_rule (dCons (dVar 1) (dCons (dVar 4) (dCons (dCB fs__law_draw (dCons (dVar 1) (dCons (dC (.int 3)) (dNil)))) (dCons (dC (.int 2)) (dNil)))))) 11)
  (dSeq (dSet (dOp oModI (dCB bInt (dCons (dOp oAdd (dCB fs__law_draw (dCons (dVar 1) (dCons (dC (.int 3)) (dNil)))) (dC (.int 1))) (dNil))) (dC (.int 3))) 12)
  (dSeq (dSet (dSl (dOp oIx (dVar 6) (dC (.int 2))) (dNo) (dPart (dCB fs__law_draw (dCons (dVar 1) (dCons (dOp oAdd (dVar 3) (dC (.int 1))) (dNil)))))) 13)
  (dSeq (dSet (dOp oSub (dVar 3) (dCB bLen (dCons (dVar 13) (dNil)))) 14)
  (dSeq (dSet (dOp oAdd (dVar 5) (dLst (dCons (dVar 10) (dCons (dVar 11) (dNil))))) 15)
  (dSeq (dSet (dMeth C_System "adding" (fsStar (fs_System_adding C_System)) (dVar 7) (dCons (dVar 10) (dCons (dVar 11) (dNil)))) 16)
  (dSeq (dIfS (dNot (dTest (dCB (fs__law_has_rows C_System) (dCons (dVar 16) (dCons (dVar 3) (dCons (dVar 15) (dNil))))))) (dRet (dC (.bl false))) (dNext))
  (dSeq (dIfS (dNot (dTest (dCB (fs__law_has_rows C_System) (dCons (dOp (oOwn C_System (fs_System___and__ C_System)) (dVar 16) (dVar 7)) (dCons (dVar 3) (dCons (dOp oAdd (dVar 15) (dVar 5)) (dNil))))))) (dRet (dC (.bl false))) (dNext))
  (dSeq (dSet (dCB fs__law_widened (dCons (dVar 5) (dCons (dVar 3) (dCons (dVar 12) (dNil))))) 17)
  (dSeq (dIfS (dNot (dTest (dCB (fs__law_has_rows C_System) (dCons (dMeth C_System "widened" (fs_System_widened C_System) (dVar 7) (dCons (dVar 12) (dNil))) (dCons (dOp oAdd (dVar 3) (dVar 12)) (dCons (dVar 17) (dNil))))))) (dRet (dC (.bl false))) (dNext))
  (dSeq (dSet (dCB fs__law_fixed (dCons (dVar 5) (dCons (dVar 3) (dCons (dVar 13) (dNil))))) 17)
  (dSeq (dIfS (dNot (dTest (dCB (fs__law_has_rows C_System) (dCons (dMeth C_System "fixed" (fs_System_fixed C_System) (dVar 7) (dCons (dVar 13) (dNil))) (dCons (dVar 14) (dCons (dVar 17) (dNil))))))) (dRet (dC (.bl false))) (dNext))
  (dSeq (dFor (dSeqW (dVar 6)) (gd 8) (dIfS (dNot (dTest (dCB (fs__law_values C_System) (dCons (dVar 16) (dCons (dVar 3) (dCons (dVar 15) (dCons (dVar 8) (dNil)))))))) (dRet (dC (.bl false))) (dNext)))
  (dRet (dCB (fs__law_has_rows C_System) (dCons (dVar 7) (dCons (dVar 3) (dCons (dVar 5) (dNil))))))))))))))))))))))))))))
end Lw
set_option Elab.async false
set_option linter.all false
set_option maxRecDepth 100000
set_option maxHeartbeats 4000000
namespace Lw
open PySem PySem.Spec PyProof.Rows L2 Dl
theorem l1 : 1 ≤ sizeLine := by decide
theorem l2 : 2 ≤ sizeLine := by decide
theorem l3 : 3 ≤ sizeLine := by decide
theorem l4 : 4 ≤ sizeLine := by decide
theorem lz {n : Nat} (h : n ≤ 100000) : n ≤ sizeLine := Nat.le_trans h (by decide)
theorem ifF {c : Bool} {A B : Prop} (h : c = false) (b : B) : if c = true then A else B := by
  subst h
  rw [if_neg Bool.false_ne_true]
  exact b
theorem ifT {c : Bool} {A B : Prop} (h : c = true) (a : A) : if c = true then A else B := by
  subst h
  rw [if_pos rfl]
  exact a
theorem ifC {c d : Bool} {A B : Prop} (h : c = d) (a : d = true → A) (b : d = false → B) : if c = true then A else B := by
  subst h
  cases c with
  | true => exact ifT rfl (a rfl)
  | false => exact ifF rfl (b rfl)
theorem iL_len (ns : List Int) : (iL ns).length = ns.length := List.length_map ..
theorem iL_app (a b : List Int) : iL (a ++ b) = iL a ++ iL b := List.map_append ..
theorem iL_get {ns : List Int} {i : Nat} (h : i < ns.length) : (iL ns)[i]? = some (.int ns[i]) := by
  rw [List.getElem?_map, List.getElem?_eq_getElem h] <;> rfl
theorem at_iL {ns : List Int} {i : Nat} (h : i < ns.length) : atI (iL ns) (i : Int) = some (.int ns[i]) := Dl.atI_nat (iL_get h)
theorem at_iL_last {a : List Int} {c : Int} : atI (iL (a ++ [c])) (-1) = some (.int c) := by
  rw [iL_app]
  exact atI_last
theorem cmul_l {b i j : Int} (h : -b ≤ i ∧ i ≤ b) (hb : b ≤ 1000000000000000000) : CMul i j := Or.inl (by omega)
theorem cmul_r {b i j : Int} (h : -b ≤ j ∧ j ≤ b) (hb : b ≤ 1000000000000000000) : CMul i j := Or.inr (by omega)
theorem Sm.get {b : Int} {l : List Int} (h : Sm b l) {i : Nat} (hi : i < l.length) : -b ≤ l[i] ∧ l[i] ≤ b := h _ (List.getElem_mem hi)
theorem dot_step {a p : List Int} {i : Nat} (h1 : i < a.length) (h2 : i < p.length) : dot (a.take (i + 1)) (p.take (i + 1)) = dot (a.take i) (p.take i) + a[i] * p[i] := by
  induction i generalizing a p with
  | zero =>
    cases a with
    | nil => exact absurd h1 (Nat.lt_irrefl _)
    | cons x a =>
      cases p with
      | nil => exact absurd h2 (Nat.lt_irrefl _)
      | cons y p =>
        show x * y + dot [] [] = 0 + x * y
        show x * y + 0 = 0 + x * y
        omega
  | succ i ih =>
    cases a with
    | nil => exact absurd h1 (Nat.not_lt_zero _)
    | cons x a =>
      cases p with
      | nil => exact absurd h2 (Nat.not_lt_zero _)
      | cons y p =>
        have k1 := Nat.lt_of_succ_lt_succ h1
        have k2 := Nat.lt_of_succ_lt_succ h2
        show x * y + dot (a.take (i + 1)) (p.take (i + 1)) = x * y + dot (a.take i) (p.take i) + a[i] * p[i]
        rw [ih (Nat.lt_of_succ_lt_succ h1) (Nat.lt_of_succ_lt_succ h2)]
        omega
theorem getElem_app {a : List Int} {c : Int} {i : Nat} (h : i < a.length) (h2 : i < (a ++ [c]).length) : (a ++ [c])[i] = a[i] := List.getElem_append_left h
theorem ok_row_value (ds : List Dat) (M : Mem) (Q : Rv → Mem → Prop) (h : fs_row_value ds M Q) : rd_row_value (enD M Q) (startD N_row_value ds) M := by
  obtain ⟨a, c, pt, d, e, rfl, g1, g2, hl, hb, hs, q⟩ := h
  refine ⟨-1, _, .int c, rfl, g1, at_iL_last, ?_⟩
  refine ⟨e, _, rfl, g2, ?_, ?_, ?_⟩
  · rw [iL_len]; omega
  · rw [iL_len]; omega
  rw [iL_len, Int.toNat_natCast]
  refine for_rng (fun i env m => m = M ∧ ∃ z, env = [some d, some e, some (.int (c + dot (a.take i) (pt.take i))), z]) ⟨rfl, none, ?_⟩ (fun i env m hi hj => ?_) fun env m hj => ?_
  · show [_, _, _, _] = _
    rw [List.take_zero, List.take_zero]
    show [some d, some e, some (.int c), none] = [some d, some e, some (.int (c + 0)), none]
    rw [Int.add_zero]
  · obtain ⟨rfl, z, rfl⟩ := hj
    rw [Int.zero_add]
    have hia : i < (a ++ [c]).length := by rw [List.length_append]; omega
    refine ⟨i, _, _, rfl, g1, at_iL hia, i, _, _, rfl, g2, at_iL hi, ?_⟩
    rw [getElem_app (by omega) hia]
    refine ⟨cmul_l (hs.get (by omega)) (by decide), rfl, some (.int i), ?_⟩
    rw [dot_step (by omega) hi, ← Int.add_assoc]
    rfl
  · obtain ⟨rfl, z, rfl⟩ := hj
    show Q _ (m.restr m)
    rw [Mem.restr_self, List.take_of_length_le (Nat.le_refl _), List.take_of_length_le (by omega)]
    exact q
theorem ok_negated (ds : List Dat) (M : Mem) (Q : Rv → Mem → Prop) (h : fs_negated ds M Q) : rd_negated (enD M Q) (startD N_negated ds) M := by
  obtain ⟨r, rfl, hb, q⟩ := h
  refine ⟨_, rfl, ?_⟩
  refine lc_map (enc := Dat.int) r (fun y => .int (-y)) (Nat.le_trans hb (by decide)) ?_ (fun x hx P hP => ?_) ?_
  · trivial
  · exact hP _ rfl
  · refine ⟨_, _, rfl, rfl, ?_⟩
    show Q _ (M.restr M)
    rw [Mem.restr_self]
    have e : r.map (fun y => Dat.int (-y)) = iL (r.map fun y => -y) := by
      show _ = List.map Dat.int (List.map _ r)
      rw [List.map_map] <;> rfl
    show Q (.d (.tup (r.map (fun y => Dat.int (-y))))) M
    rw [e]
    exact q
theorem rep_flat (n : Nat) (x : Dat) : (List.replicate n [x]).flatten = List.replicate n x := by
  induction n with
  | zero => rfl
  | succ n ih =>
    rw [List.replicate_succ, List.flatten_cons, ih, List.replicate_succ] <;> rfl
theorem iL_rep (n : Nat) (c : Int) : iL (List.replicate n c) = List.replicate n (Dat.int c) := List.map_replicate ..
theorem ok_extended (ds : List Dat) (M : Mem) (Q : Rv → Mem → Prop) (h : fs_extended ds M Q) : rd_extended (enD M Q) (startD N_extended ds) M := by
  obtain ⟨a, c, n, rfl, ha, hn, q⟩ := h
  have e1 : cut (iL (a ++ [c])) none (some (-1)) = iL a := by rw [iL_app]; exact cut_butlast
  refine ⟨_, _, rfl, rfl, ?_⟩
  refine ⟨l1, by omega, by omega, show 1 ≤ 1000 by decide, ?_, ?_⟩
  · rw [e1, iL_len, Int.toNat_natCast, rep_flat, List.length_replicate]
    exact Nat.le_trans (Nat.add_le_add ha hn) (by decide)
  refine ⟨-1, _, .int c, rfl, rfl, at_iL_last, l1, ?_, ?_⟩
  · rw [e1, Int.toNat_natCast, rep_flat, List.length_append, iL_len, List.length_replicate]
    exact Nat.le_trans (Nat.add_le_add (Nat.add_le_add ha hn) (Nat.le_refl 1)) (by decide)
  · show Q _ (M.restr M)
    rw [e1, Mem.restr_self, Int.toNat_natCast, rep_flat]
    have e3 := iL_rep n 0
    show Q (.d (.tup (iL a ++ List.replicate n (Dat.int 0) ++ iL [c]))) M
    rw [← e3]
    show Q (.d (.tup (iL a ++ iL (List.replicate n 0) ++ iL [c]))) M
    rw [← iL_app, ← iL_app]
    exact q
theorem in_kind_false (s : Str) (h : s = "ge" ∨ s = "eq" ∨ s = "div") : (true != inV (.str s) [.str "ge", .str "eq", .str "div"]) = false := by
  rcases h with h | h | h <;> subst h <;> decide +kernel
/-- a condition's kind and row -/
def Kd.nm : Kd → Str
  | .ge => "ge"
  | .eq => "eq"
  | .div _ => "div"
theorem enc_its (x : Cd) : x.enc = .tup x.its := rfl
theorem its_0 (x : Cd) : atI x.its 0 = some (.str x.k.nm) := by
  obtain ⟨k, a, c⟩ := x
  cases k <;> rfl
theorem its_l (x : Cd) : atI x.its (-1) = some (encR (x.a ++ [x.c])) := by
  obtain ⟨k, a, c⟩ := x
  cases k <;> rfl
theorem nm_in (k : Kd) : (true != inV (.str k.nm) [.str "ge", .str "eq", .str "div"]) = false := by
  refine in_kind_false _ ?_
  cases k
  · exact Or.inl rfl
  · exact Or.inr (Or.inl rfl)
  · exact Or.inr (Or.inr rfl)
theorem nm_div (k : Kd) : (true != decide (k.nm = "div")) = !k.isDiv := by
  cases k with
  | ge => exact (by decide +kernel : (true != decide (("ge" : Str) = "div")) = true)
  | eq => exact (by decide +kernel : (true != decide (("eq" : Str) = "div")) = true)
  | div m => exact (by decide +kernel : (true != decide (("div" : Str) = "div")) = false)
theorem nm_div2 (k : Kd) : (false != decide (k.nm = "div")) = k.isDiv := by
  cases k with
  | ge => exact (by decide +kernel : (false != decide (("ge" : Str) = "div")) = false)
  | eq => exact (by decide +kernel : (false != decide (("eq" : Str) = "div")) = false)
  | div m => exact (by decide +kernel : (false != decide (("div" : Str) = "div")) = true)
theorem nm_ge (k : Kd) : (false != decide (k.nm = "ge")) = k.isGe := by
  cases k with
  | ge => exact (by decide +kernel : (false != decide (("ge" : Str) = "ge")) = true)
  | eq => exact (by decide +kernel : (false != decide (("eq" : Str) = "ge")) = false)
  | div m => exact (by decide +kernel : (false != decide (("div" : Str) = "ge")) = false)
theorem nm_ge2 (k : Kd) : (true != decide (k.nm = "ge")) = !k.isGe := by
  cases k with
  | ge => exact (by decide +kernel : (true != decide (("ge" : Str) = "ge")) = false)
  | eq => exact (by decide +kernel : (true != decide (("eq" : Str) = "ge")) = true)
  | div m => exact (by decide +kernel : (true != decide (("div" : Str) = "ge")) = true)
theorem nm_eq (k : Kd) : (false != decide (k.nm = "eq")) = (match k with | .eq => true | _ => false) := by
  cases k with
  | ge => exact (by decide +kernel : (false != decide (("ge" : Str) = "eq")) = false)
  | eq => exact (by decide +kernel : (false != decide (("eq" : Str) = "eq")) = true)
  | div m => exact (by decide +kernel : (false != decide (("div" : Str) = "eq")) = false)
theorem seq_enc {M : Mem} (x : Cd) : SeqR M (.d x.enc) x.its := by
  exact rfl
theorem div_of {k : Kd} (h : (!k.isDiv) = false) : ∃ m, k = .div m := by
  cases k with
  | ge => cases h
  | eq => cases h
  | div m => exact ⟨m, rfl⟩
theorem enc_nd {x : Cd} (h : (!x.k.isDiv) = true) : x.enc = .tup [.str x.k.nm, encR (x.a ++ [x.c])] := by
  obtain ⟨k, a, c⟩ := x
  cases k with
  | ge => rfl
  | eq => rfl
  | div m => cases h
theorem enc_d {x : Cd} {m : Int} (h : x.k = .div m) : x.enc = .tup [.str "div", .int m, encR (x.a ++ [x.c])] := by
  obtain ⟨k, a, c⟩ := x
  cases h
  rfl
theorem its_1 {x : Cd} {m : Int} (h : x.k = .div m) : atI x.its 1 = some (.int m) := by
  obtain ⟨k, a, c⟩ := x
  cases h
  rfl
theorem ok__copied (ds : List Dat) (M : Mem) (Q : Rv → Mem → Prop) (h : fs__copied ds M Q) : rd__copied (enD M Q) (startD N__copied ds) M := by
  obtain ⟨x, w, rfl, hw, hk, q⟩ := h
  refine ⟨0, _, _, rfl, seq_enc x, its_0 x, l3, _, _, _, _, rfl, rfl, rfl, rfl, ifF (nm_in _) ?_⟩
  refine ⟨-1, _, _, rfl, seq_enc x, its_l x, _, _, rfl, rfl, ?_⟩
  refine ⟨_, _, rfl, rfl, ifF ?_ ?_⟩
  · rw [iL_len, List.length_append, hw, Bool.true_bne, decide_eq_true (show ((w + [x.c].length : Nat) : Int) = (w : Int) + 1 from rfl)] <;> rfl
  refine ⟨0, _, _, rfl, seq_enc x, its_0 x, ifC (nm_div x.k) (fun hd => ?_) (fun hd => ?_)⟩
  · refine ⟨0, _, _, rfl, seq_enc x, its_0 x, l2, ?_⟩
    show Q _ (M.restr M)
    rw [Mem.restr_self]
    rw [enc_nd hd] at q
    exact q
  · obtain ⟨m, hm⟩ := div_of hd
    have hk' : 2 ≤ m ∧ m ≤ 60 := by
      rw [hm] at hk
      exact hk
    refine ⟨1, _, _, rfl, seq_enc x, its_1 hm, ifF (decide_eq_false (by omega)) ?_⟩
    refine ⟨1, _, _, rfl, seq_enc x, its_1 hm, l3, ?_⟩
    show Q _ (M.restr M)
    rw [Mem.restr_self]
    rw [enc_d hm] at q
    exact q
theorem ok__is_met (ds : List Dat) (M : Mem) (Q : Rv → Mem → Prop) (h : fs__is_met ds M Q) : rd__is_met (enD M Q) (startD N__is_met ds) M := by
  obtain ⟨x, pt, e, rfl, g, hl, hp, hs, hk, q⟩ := h
  refine ⟨-1, _, _, rfl, seq_enc x, its_l x, x.a, x.c, pt, _, e, rfl, rfl, g, hl, hp, hs, ?_⟩
  refine ⟨0, _, _, rfl, seq_enc x, its_0 x, ifC (nm_ge x.k) (fun hd => ?_) (fun hd => ?_)⟩
  · show Q _ (M.restr M)
    rw [Mem.restr_self]
    have e1 : x.met pt = decide (0 ≤ x.c + dot x.a pt) := by
      unfold Cd.met
      cases hx : x.k with
      | ge => rfl
      | eq => rw [hx] at hd; cases hd
      | div m => rw [hx] at hd; cases hd
    rw [e1] at q
    exact q
  · refine ⟨0, _, _, rfl, seq_enc x, its_0 x, ifC (nm_eq x.k) (fun hd2 => ?_) (fun hd2 => ?_)⟩
    · show Q (.d (.bl (false != decide _))) (M.restr M)
      rw [Mem.restr_self, Bool.false_bne]
      have e1 : x.met pt = decide (x.c + dot x.a pt = 0) := by
        unfold Cd.met
        cases hx : x.k with
        | ge => rw [hx] at hd2; cases hd2
        | eq => rfl
        | div m => rw [hx] at hd2; cases hd2
      rw [e1] at q
      exact q
    · obtain ⟨m, hm⟩ : ∃ m, x.k = .div m := by
        cases hx : x.k with
        | ge => rw [hx] at hd; cases hd
        | eq => rw [hx] at hd2; cases hd2
        | div m => exact ⟨m, rfl⟩
      have hk' : 2 ≤ m ∧ m ≤ 60 := by
        rw [hm] at hk
        exact hk
      refine ⟨1, _, _, rfl, seq_enc x, its_1 hm, by omega, ?_⟩
      show Q (.d (.bl (false != decide _))) (M.restr M)
      rw [Mem.restr_self, Bool.false_bne]
      have e1 : x.met pt = decide ((x.c + dot x.a pt) % m = 0) := by
        unfold Cd.met
        rw [hm] <;> rfl
      rw [e1] at q
      exact q
end Lw
set_option Elab.async false
set_option linter.all false
set_option maxRecDepth 100000
set_option maxHeartbeats 4000000
namespace Lw
open PySem PySem.Spec PyProof.Rows L2 Dl
theorem stay_seq {M M' : Mem} {d : Dat} {ys : List Dat} (h : SeqR M (.d d) ys) (k : ∀ q m, M q = some m → M' q = some m) : stayR ys d M' := by
  cases d with
  | cell p => exact k _ _ h
  | _ => trivial
theorem seq_keep {M M' : Mem} {r : Rv} {ys : List Dat} (h : SeqR M r ys) (k : ∀ q m, M q = some m → M' q = some m) : SeqR M' r ys := by
  unfold SeqR at h ⊢
  split at h <;> first | exact h | exact k _ _ h
theorem set_keep {M : Mem} {p : Addr} {m : MV} (h : M p = none) : ∀ q n, M q = some n → M.set p m q = some n := fun q n e => by
  rw [Mem.set_ne (fun z => by subst z; rw [h] at e; cases e)]
  exact e
theorem ok_System___init__ (C : Addr) (ds : List Dat) (M : Mem) (Q : Rv → Mem → Prop) (h : fs_System___init__ C ds M Q) : rd_System___init__ C (enD M Q) (startD N_System___init__ ds) M := by
  obtain ⟨p, w, d, cs, rfl, hp, hs, hw, hl, hg, q⟩ := h
  refine ifF (c := !decide ((w : Int) ≤ 80)) (by rw [decide_eq_true (by omega)] <;> rfl) ?_
  refine ⟨Nat.zero_le _, _, rfl, fun k hk => ?_⟩
  have kp : k ≠ p := fun z => by
    subst z
    rw [hp] at hk
    cases hk
  refine ⟨_, seq_keep hs (set_keep hk), ?_⟩
  refine for_rest (enc := Cd.enc) cs (fun r env m => ∃ acc z1 z2, m = M.set k (.lst acc) ∧ env = [some (.cell p), some (.int w), some d, some (.cell k), z1, z2] ∧ acc ++ r.map Cd.enc = cs.map Cd.enc ∧ ∀ x ∈ r, x ∈ cs) ?_ ?_ ?_ ?_
  · exact ⟨[], none, none, rfl, rfl, rfl, fun _ h => h⟩
  · rintro r env m ⟨acc, z1, z2, rfl, rfl, _⟩
    exact stay_seq hs (set_keep hk)
  · rintro x r env m ⟨acc, z1, z2, rfl, rfl, h1, h2⟩
    have gx := hg x (h2 x List.mem_cons_self)
    refine ⟨x, w, rfl, gx.1, gx.2.2.2.2, rfl, ?_⟩
    have hlen := congrArg List.length h1
    rw [List.length_append, List.length_map, List.length_map, List.length_cons] at hlen
    refine ⟨k, acc, rfl, Mem.set_same, acc, Mem.set_same, ?_, ?_⟩
    · exact Nat.lt_of_lt_of_le (show acc.length < 1001 by omega) (by decide)
    · refine ⟨acc ++ [x.enc], _, _, Mem.set_set, rfl, ?_, fun y hy => h2 y (List.mem_cons_of_mem _ hy)⟩
      rw [List.append_assoc]
      exact h1
  · rintro env m ⟨acc, z1, z2, rfl, rfl, h1, h2⟩
    rw [List.map_nil, List.append_nil] at h1
    subst h1
    refine ⟨p, [], rfl, (Mem.set_ne kp.symm).trans hp, by decide, ?_⟩
    refine ⟨_, _, rfl, (Mem.set_ne kp).trans Mem.set_same, p, [("width", .int w)], rfl, Mem.set_same, show 1 < 1000 by decide, ?_⟩
    show Q _ (M.restr _)
    rw [Mem.set_set, Mem.restr_set_in hp, Mem.restr_set_out hk, Mem.restr_self]
    exact q
theorem mk_sys {C : Addr} {w : Nat} {d : Dat} {cs : List Cd} {M : Mem} {Q : Rv → Mem → Prop} (hs : SeqR M (.d d) (cs.map Cd.enc)) (hw : w ≤ 80) (hl : cs.length ≤ 1000) (hg : Good w cs) (q : Q (.d (sysD C w cs)) M) :
    ∀ x, M x = none → fs_System___init__ C (.cell x :: [.int w, d]) (M.set x (.obj C [])) fun r M2 => r = .d .non ∧ ∃ m, M2 x = some m ∧ Q (.d (frz m)) (M2.del x) := fun x hx =>
  ⟨x, w, d, cs, rfl, Mem.set_same, seq_keep hs (set_keep hx), hw, hl, hg, rfl, _, Mem.set_same, by
    rw [Mem.set_set, Mem.del_set hx]
    exact q⟩
theorem mk_sysI {C : Addr} {w : Nat} {wi : Int} {d : Dat} {cs : List Cd} {M : Mem} {Q : Rv → Mem → Prop} (e : wi = (w : Int)) (hs : SeqR M (.d d) (cs.map Cd.enc)) (hw : w ≤ 80) (hl : cs.length ≤ 1000) (hg : Good w cs) (q : Q (.d (sysD C w cs)) M) :
    ∀ x, M x = none → fs_System___init__ C (.cell x :: [.int wi, d]) (M.set x (.obj C [])) fun r M2 => r = .d .non ∧ ∃ m, M2 x = some m ∧ Q (.d (frz m)) (M2.del x) := by
  subst e
  exact mk_sys hs hw hl hg q
theorem ok_System_holds (C : Addr) (ds : List Dat) (M : Mem) (Q : Rv → Mem → Prop) (h : fs_System_holds C ds M Q) : rd_System_holds C (enD M Q) (startD N_System_holds ds) M := by
  obtain ⟨w, cs, pt, e, rfl, hs, hp, hw, hg, q⟩ := h
  refine ⟨e, _, rfl, hs, rfl, _, rfl, ?_⟩
  refine ifF (c := true != decide (((iL pt).length : Int) = (w : Int))) (by rw [iL_len, hp, decide_eq_true rfl] <;> rfl) ?_
  refine ⟨rfl, _, rfl, _, rfl, ?_⟩
  refine for_rest (enc := Cd.enc) cs (fun r env m => m = M ∧ (∃ z, env = [some (sysD C w cs), some e, z]) ∧ (cs.all fun x => x.met pt) = (r.all fun x => x.met pt) ∧ ∀ x ∈ r, x ∈ cs) ?_ ?_ ?_ ?_
  · exact ⟨rfl, ⟨_, rfl⟩, rfl, fun _ h => h⟩
  · rintro r env m _
    trivial
  · rintro x r env m ⟨rfl, ⟨z, rfl⟩, h1, h2⟩
    have gx := hg x (h2 x List.mem_cons_self)
    refine ⟨x, pt, e, rfl, hs, by rw [gx.1, hp], by omega, gx.2.1, gx.2.2.2.2, ?_⟩
    rw [List.all_cons] at h1
    refine ifC (c := !(x.met pt)) rfl (fun k => ?_) fun k => ?_
    · have k' : x.met pt = false := by simpa using k
      rw [k', Bool.false_and] at h1
      show Q _ (m.restr m)
      rw [Mem.restr_self]
      rw [h1] at q
      exact q
    · have k' : x.met pt = true := by simpa using k
      rw [k', Bool.true_and] at h1
      exact ⟨rfl, ⟨_, rfl⟩, h1, fun y hy => h2 y (List.mem_cons_of_mem _ hy)⟩
  · rintro env m ⟨rfl, ⟨z, rfl⟩, h1, h2⟩
    show Q _ (m.restr m)
    rw [Mem.restr_self]
    rw [h1] at q
    exact q
theorem good_app {w : Nat} {a b : List Cd} (h : Good w a) (g : Good w b) : Good w (a ++ b) := fun x hx => by
  rcases List.mem_append.mp hx with z | z
  · exact h x z
  · exact g x z
theorem ok_System___and__ (C : Addr) (ds : List Dat) (M : Mem) (Q : Rv → Mem → Prop) (h : fs_System___and__ C ds M Q) : rd_System___and__ C (enD M Q) (startD N_System___and__ ds) M := by
  obtain ⟨w, cs, es, rfl, hw, h1, h2, g1, g2, q⟩ := h
  refine ⟨rfl, _, rfl, rfl, _, rfl, ?_⟩
  refine ifF (c := true != decide ((w : Int) = (w : Int))) (by rw [decide_eq_true rfl] <;> rfl) ?_
  refine ⟨rfl, _, rfl, rfl, _, rfl, rfl, _, rfl, ?_, ?_⟩
  · rw [List.length_map, List.length_map]
    exact lz (by omega)
  · have e1 : cs.map Cd.enc ++ es.map Cd.enc = (cs ++ es).map Cd.enc := List.map_append.symm
    refine mk_sys (cs := cs ++ es) e1.symm hw (by rw [List.length_append]; omega) (good_app g1 g2) ?_
    show Q _ (M.restr M)
    rw [Mem.restr_self]
    exact q
theorem ok_System_adding (C : Addr) (ds : List Dat) (M : Mem) (Q : Rv → Mem → Prop) (h : fs_System_adding C ds M Q) : rd_System_adding C (enD M Q) (startD N_System_adding ds) M := by
  obtain ⟨w, cs, es, rfl, hw, h1, h2, g1, g2, q⟩ := h
  refine ⟨rfl, _, rfl, rfl, _, rfl, ?_, ?_⟩
  · rw [List.length_map, List.length_map]
    exact lz (by omega)
  · have e1 : cs.map Cd.enc ++ es.map Cd.enc = (cs ++ es).map Cd.enc := List.map_append.symm
    refine mk_sys (cs := cs ++ es) e1.symm hw (by rw [List.length_append]; omega) (good_app g1 g2) ?_
    show Q _ (M.restr M)
    rw [Mem.restr_self]
    exact q
end Lw
set_option Elab.async false
set_option linter.all false
set_option maxRecDepth 100000
set_option maxHeartbeats 4000000
namespace Lw
open PySem PySem.Spec PyProof.Rows L2 Dl
theorem its_put (k : Kd) (a a' : List Int) (c c' : Int) : cut (Cd.its ⟨k, a, c⟩) none (some (-1)) ++ [encR (a' ++ [c'])] = Cd.its ⟨k, a', c'⟩ := by
  cases k <;> rfl
theorem its_cut_len (x : Cd) : (cut x.its none (some (-1))).length ≤ 2 := by
  obtain ⟨k, a, c⟩ := x
  cases k
  · exact (by decide : 1 ≤ 2)
  · exact (by decide : 1 ≤ 2)
  · exact Nat.le_refl 2
theorem good_wide {w n : Nat} {cs : List Cd} (h : Good w cs) : Good (w + n) (cs.map (Cd.wide n)) := fun x hx => by
  obtain ⟨y, hy, rfl⟩ := List.mem_map.mp hx
  obtain ⟨h1, h2, h3, h4, h5⟩ := h y hy
  refine ⟨?_, fun z hz => ?_, h3, h4, h5⟩
  · show (y.a ++ List.replicate n 0).length = _
    rw [List.length_append, List.length_replicate, h1]
  · rcases List.mem_append.mp hz with k | k
    · exact h2 z k
    · have := List.eq_of_mem_replicate k
      omega
theorem ok_System_widened (C : Addr) (ds : List Dat) (M : Mem) (Q : Rv → Mem → Prop) (h : fs_System_widened C ds M Q) : rd_System_widened C (enD M Q) (startD N_System_widened ds) M := by
  obtain ⟨w, n, cs, rfl, hw, hl, hg, q⟩ := h
  refine ifF (c := !decide ((n : Int) ≤ 80)) (by rw [decide_eq_true (by omega)] <;> rfl) ?_
  refine ⟨rfl, _, rfl, ifF (c := decide ((80 : Int) < (w : Int) + (n : Int))) (decide_eq_false (by omega)) ?_⟩
  refine ⟨rfl, _, rfl, _, rfl, ?_⟩
  refine lc_map (enc := Cd.enc) cs (fun x => (Cd.wide n x).enc) (lz (by omega)) ?_ (fun x hx P hP => ?_) ?_
  · trivial
  · have gx := hg x hx
    refine ⟨-1, _, _, rfl, seq_enc x, its_l x, x.a, x.c, n, rfl, by have := gx.1; omega, by omega, l1, ?_⟩
    refine ⟨?_, hP _ ?_⟩
    · exact Nat.le_trans (Nat.add_le_add_right (its_cut_len x) 1) (by decide)
    · exact congrArg Dat.tup (its_put x.k x.a (x.a ++ List.replicate n 0) x.c x.c)
  · refine ⟨rfl, _, rfl, ?_⟩
    refine mk_sys (w := w + n) (cs := cs.map (Cd.wide n)) ?_ hw (by rw [List.length_map]; omega) (good_wide hg) ?_
    · show List.map Cd.enc _ = List.map _ cs
      rw [List.map_map] <;> rfl
    · show Q _ (M.restr M)
      rw [Mem.restr_self]
      exact q
theorem take_app_drop {a : List Int} {n : Nat} (h : n ≤ a.length) : (a.take n).length = n := by
  rw [List.length_take]; omega
theorem ok_System_fixed (C : Addr) (ds : List Dat) (M : Mem) (Q : Rv → Mem → Prop) (h : fs_System_fixed C ds M Q) : rd_System_fixed C (enD M Q) (startD N_System_fixed ds) M := by
  obtain ⟨w, ns, cs, rfl, hn, hw, hl, hg, hg2, q⟩ := h
  refine ⟨_, _, rfl, rfl, ?_⟩
  refine ⟨rfl, _, rfl, ifF (c := decide ((w : Int) < ((iL ns).length : Int))) (decide_eq_false (by rw [iL_len]; omega)) ?_⟩
  refine ⟨Nat.zero_le _, _, rfl, fun k hk => ?_⟩
  refine ⟨rfl, _, rfl, _, rfl, ?_⟩
  refine for_rest (enc := Cd.enc) cs (fun r env m => ∃ acc z1 z2 z3, m = M.set k (.lst acc) ∧ env = [some (sysD C w cs), some (.lst (iL ns)), some (.int (iL ns).length), some (.cell k), z1, z2, z3] ∧ acc ++ (r.map (Cd.fix ns)).map Cd.enc = (cs.map (Cd.fix ns)).map Cd.enc ∧ ∀ x ∈ r, x ∈ cs) ?_ ?_ ?_ ?_
  · exact ⟨[], none, none, none, rfl, rfl, rfl, fun _ h => h⟩
  · rintro r env m _
    trivial
  · rintro x r env m ⟨acc, z1, z2, z3, rfl, rfl, h1, h2⟩
    have gx := hg x (h2 x List.mem_cons_self)
    have e1 : cut (iL (x.a ++ [x.c])) none (some ((iL ns).length : Int)) = iL (x.a.take ns.length) := by
      rw [cut_to, iL_len, ← List.map_take, List.take_append_of_le_length (by have := gx.1; omega)]
    have e2 : cut (iL (x.a ++ [x.c])) (some (-1)) none = iL [x.c] := by
      rw [iL_app]
      exact cut_last
    have e3 : cut (iL (x.a ++ [x.c])) (some ((iL ns).length : Int)) (some (-1)) = iL (x.a.drop ns.length) := by
      have e4 : iL (x.a ++ [x.c]) = iL (x.a.take ns.length) ++ iL (x.a.drop ns.length) ++ [Dat.int x.c] := by
        rw [← iL_app, List.take_append_drop, iL_app] <;> rfl
      rw [e4]
      exact cut_mid (by rw [iL_len, iL_len, take_app_drop (by have := gx.1; omega)])
    have hlen := congrArg List.length h1
    rw [List.length_append, List.length_map, List.length_map, List.length_map, List.length_map, List.length_cons] at hlen
    refine ⟨-1, _, _, rfl, seq_enc x, its_l x, ?_, ?_⟩
    · rw [e1, e2, iL_len, iL_len, take_app_drop (by have := gx.1; omega)]
      exact lz (by show ns.length + 1 ≤ _; omega)
    refine ⟨x.a.take ns.length, x.c, ns, _, _, rfl, ?_, rfl, take_app_drop (by have := gx.1; omega), by omega, fun z hz => gx.2.1 z (List.mem_of_mem_take hz), ?_⟩
    · rw [e1, e2, ← iL_app] <;> rfl
    refine ⟨k, acc, rfl, Mem.set_same, l1, ?_, l1, ?_, acc, Mem.set_same, ?_, ?_⟩
    · rw [e3, iL_len]
      exact lz (by have := gx.1; rw [List.length_drop]; show _ + 1 ≤ _; omega)
    · exact Nat.le_trans (Nat.add_le_add_right (its_cut_len x) 1) (by decide)
    · exact Nat.lt_of_lt_of_le (show acc.length < 1001 by omega) (by decide)
    · refine ⟨acc ++ [(Cd.fix ns x).enc], _, _, _, ?_, rfl, ?_, fun y hy => h2 y (List.mem_cons_of_mem _ hy)⟩
      · rw [Mem.set_set, e3]
        have e5 := congrArg Dat.tup (its_put x.k x.a (x.a.drop ns.length) x.c (x.c + dot (x.a.take ns.length) ns))
        rw [show encR (x.a.drop ns.length ++ [x.c + dot (x.a.take ns.length) ns]) = Dat.tup (iL (x.a.drop ns.length) ++ [Dat.int (x.c + dot (x.a.take ns.length) ns)]) from by
          show Dat.tup (iL (_ ++ [_])) = _
          rw [iL_app] <;> rfl] at e5
        exact congrArg (fun d => M.set k (.lst (acc ++ [d]))) e5
      · rw [List.append_assoc]
        exact h1
  · rintro env m ⟨acc, z1, z2, z3, rfl, rfl, h1, h2⟩
    rw [List.map_nil, List.map_nil, List.append_nil] at h1
    subst h1
    refine ⟨rfl, _, rfl, ?_⟩
    refine mk_sysI (w := w - ns.length) (wi := (w : Int) - ((iL ns).length : Int)) (by rw [iL_len]; omega) (cs := cs.map (Cd.fix ns)) Mem.set_same (by omega) (by rw [List.length_map]; omega) hg2 ?_
    show Q _ (M.restr _)
    rw [Mem.restr_set_out hk, Mem.restr_self]
    exact q
theorem ok_System_plain_width (C : Addr) (ds : List Dat) (M : Mem) (Q : Rv → Mem → Prop) (h : fs_System_plain_width C ds M Q) : rd_System_plain_width C (enD M Q) (startD N_System_plain_width ds) M := by
  obtain ⟨w, cs, rfl, hl, q⟩ := h
  refine ⟨rfl, _, rfl, rfl, _, rfl, _, rfl, ?_⟩
  refine lc_filter (enc := Cd.enc) cs (fun x => x.k.isDiv) Cd.enc (lz (by omega)) ?_ (fun x hx P hP => ?_) (fun x hx P hP => ?_) ?_
  · trivial
  · refine ⟨0, _, _, rfl, seq_enc x, its_0 x, ?_⟩
    show P (false != decide (x.k.nm = "div")) M
    rw [nm_div2]
    exact hP
  · exact hP _ rfl
  · refine ⟨_, _, rfl, rfl, ?_⟩
    show Q _ (M.restr M)
    rw [Mem.restr_self, List.length_map]
    exact q
end Lw
set_option Elab.async false
set_option linter.all false
set_option maxRecDepth 100000
set_option maxHeartbeats 4000000
namespace Lw
open PySem PySem.Spec PyProof.Rows L2 Dl
theorem put_at {α : Type} (a r b : List α) (p : Nat) (y : α) (h : p < r.length) : (a ++ r ++ b).take (a.length + p) ++ [y] ++ (a ++ r ++ b).drop (a.length + p + 1) = a ++ r.set p y ++ b := by
  have h1 : (a ++ r ++ b).take (a.length + p) = a ++ r.take p := by
    rw [List.append_assoc, List.take_length_add_append, List.take_append_of_le_length (by omega)]
  have h2 : (a ++ r ++ b).drop (a.length + p + 1) = r.drop (p + 1) ++ b := by
    rw [List.append_assoc, Nat.add_assoc, List.drop_length_add_append, List.drop_append_of_le_length (by omega)]
  rw [h1, h2, List.set_eq_take_append_cons_drop, if_pos h]
  simp
theorem qv_nd {n s : Nat} {k : Kd} (h : k.isDiv = false) : qv n s k = List.replicate n 0 := by
  cases k with
  | ge => rfl
  | eq => rfl
  | div m => cases h
theorem qv_d {n s : Nat} {k : Kd} {m : Int} (h : k = .div m) : qv n s k = (List.replicate n 0).set s (-m) := by
  subst h
  rfl
theorem qv_len {n s : Nat} {k : Kd} : (qv n s k).length = n := by
  cases k with
  | ge => exact List.length_replicate
  | eq => exact List.length_replicate
  | div m => exact (List.length_set ..).trans List.length_replicate
theorem div_of' {k : Kd} (h : k.isDiv = true) : ∃ m, k = .div m := by
  cases k with
  | ge => cases h
  | eq => cases h
  | div m => exact ⟨m, rfl⟩
theorem nd_cons (x : Cd) (r : List Cd) : nd (x :: r) = (if x.k.isDiv = true then 1 else 0) + nd r := by
  unfold nd
  rw [List.filter_cons]
  split
  · rw [List.length_cons, Nat.add_comm]
  · rw [Nat.zero_add]
theorem nd_le (r : List Cd) : nd r ≤ r.length := List.length_filter_le ..
theorem prow_len {n s : Nat} {x : Cd} : (prow n s x).length = x.a.length + n + 1 := by
  unfold prow
  rw [List.length_append, List.length_append, qv_len] <;> rfl
/-- what a walk over the conditions keeps -/
structure Wl (n : Nat) (cs : List Cd) (seen : Nat) (acc : List (List Int)) (r : List Cd) : Prop where
  all : acc ++ prows n seen r = prows n 0 cs
  cnt : seen + nd r = n
  mem : ∀ x ∈ r, x ∈ cs
  len : acc.length + 2 * r.length ≤ 2 * cs.length
theorem Wl.start {cs : List Cd} : Wl (nd cs) cs 0 [] cs := ⟨rfl, Nat.zero_add _, fun _ h => h, by rw [List.length_nil]; omega⟩
theorem Wl.step {n seen : Nat} {cs r : List Cd} {x : Cd} {acc : List (List Int)} (h : Wl n cs seen acc (x :: r)) : Wl n cs (nxt seen x.k) (acc ++ prows1 n seen x) r := by
  refine ⟨?_, ?_, fun y hy => h.mem y (List.mem_cons_of_mem _ hy), ?_⟩
  · rw [List.append_assoc]
    exact h.all
  · have := h.cnt
    rw [nd_cons] at this
    unfold nxt
    by_cases z : x.k.isDiv = true
    · rw [if_pos z] at this ⊢
      omega
    · rw [if_neg z] at this ⊢
      omega
  · have := h.len
    rw [List.length_cons] at this
    rw [List.length_append]
    unfold prows1
    have e : (if x.k.isGe = true then ([] : List (List Int)) else [(prow n seen x).map fun y => -y]).length ≤ 1 := by split <;> simp
    rw [List.length_cons]
    omega
theorem Wl.fin {n seen : Nat} {cs : List Cd} {acc : List (List Int)} (h : Wl n cs seen acc []) : acc = prows n 0 cs := by
  have := h.all
  rwa [show prows n seen [] = [] from rfl, List.append_nil] at this
theorem ok_System_plain_rows (C : Addr) (ds : List Dat) (M : Mem) (Q : Rv → Mem → Prop) (h : fs_System_plain_rows C ds M Q) : rd_System_plain_rows C (enD M Q) (startD N_System_plain_rows ds) M := by
  obtain ⟨w, cs, rfl, hl, hw, ha, q⟩ := h
  have hnd := nd_le cs
  refine ⟨_, _, rfl, ⟨rfl, rfl⟩, w, cs, rfl, by omega, rfl, _, rfl, ?_⟩
  have e0 : (w : Int) + (nd cs : Int) - (w : Int) = (nd cs : Int) := by omega
  refine ⟨Nat.zero_le _, _, rfl, fun k hk => ?_⟩
  refine ⟨rfl, _, rfl, ?_⟩
  refine ⟨rfl, _, rfl, _, rfl, ?_⟩
  refine for_rest (enc := Cd.enc) cs (fun r env m => ∃ acc seen z1 z2, m = M.set k (.lst (acc.map encR)) ∧ env = [some (sysD C w cs), some (.int (nd cs : Int)), some (.cell k), some (.int ((w + seen : Nat) : Int)), z1, z2] ∧ Wl (nd cs) cs seen acc r) ?_ ?_ ?_ ?_
  · refine ⟨[], 0, none, none, rfl, ?_, Wl.start⟩
    show [some (sysD C w cs), some (.int ((w : Int) + (nd cs : Int) - (w : Int))), some (.cell k), some (.int (w : Int)), none, none] = _
    rw [e0] <;> rfl
  · rintro r env m _
    trivial
  · rintro x r env m ⟨acc, seen, z1, z2, rfl, rfl, W⟩
    have hx := W.mem x List.mem_cons_self
    have hxa := ha x hx
    have hlen := W.len
    rw [List.length_cons] at hlen
    have hcnt := W.cnt
    rw [nd_cons] at hcnt
    have W2 := W.step
    refine ⟨-1, _, _, rfl, seq_enc x, its_l x, x.a, x.c, nd cs, rfl, by omega, by omega, ?_⟩
    -- the row is made; then it is appended
    have tail : ∀ z pl rw, pl = ((w + nxt seen x.k : Nat) : Int) → rw = iL (prow (nd cs) seen x) → (dSeq (dDrop (dAppend (dVar 2) (dVar 5))) (dIfS (dTest (dOp oNe (dOp oIx (dVar 4) (dC (.int 0))) (dC (.str "ge")))) (dDrop (dAppend (dVar 2) (dCB fs_negated (dCons (dVar 5) dNil)))) dNext))
        ⟨fun env m => ∃ acc seen z1 z2, m = M.set k (.lst (acc.map encR)) ∧ env = [some (sysD C w cs), some (.int (nd cs : Int)), some (.cell k), some (.int ((w + seen : Nat) : Int)), z1, z2] ∧ Wl (nd cs) cs seen acc r, (enD M Q).rt, z, fun env m => ∃ acc seen z1 z2, m = M.set k (.lst (acc.map encR)) ∧ env = [some (sysD C w cs), some (.int (nd cs : Int)), some (.cell k), some (.int ((w + seen : Nat) : Int)), z1, z2] ∧ Wl (nd cs) cs seen acc r⟩
        [some (sysD C w cs), some (.int (nd cs : Int)), some (.cell k), some (.int pl), some x.enc, some (.tup rw)] (M.set k (.lst (acc.map encR))) := by
      intro z pl rw_ e1 e2
      subst e1 e2
      refine ⟨k, _, rfl, Mem.set_same, _, Mem.set_same, ?_, ?_⟩
      · rw [List.length_map]
        exact Nat.lt_of_lt_of_le (show acc.length < 2001 by omega) (by decide)
      refine ⟨0, _, _, rfl, seq_enc x, its_0 x, ifC (nm_ge2 x.k) (fun hd => ?_) (fun hd => ?_)⟩
      · have hg : x.k.isGe = false := by simpa using hd
        refine ⟨k, _, rfl, by rw [Mem.set_set]; exact Mem.set_same, prow (nd cs) seen x, rfl, by rw [prow_len]; omega, _, by rw [Mem.set_set]; exact Mem.set_same, ?_, ?_⟩
        · rw [List.length_append, List.length_map]
          exact Nat.lt_of_lt_of_le (show acc.length + 1 < 2001 by omega) (by decide)
        · refine ⟨_, _, _, _, ?_, rfl, W2⟩
          rw [Mem.set_set, Mem.set_set]
          unfold prows1
          rw [hg, if_neg Bool.false_ne_true, List.map_append, List.append_assoc] <;> rfl
      · have hg : x.k.isGe = true := by simpa using hd
        refine ⟨_, _, _, _, ?_, rfl, W2⟩
        rw [Mem.set_set]
        unfold prows1
        rw [hg, if_pos rfl, List.map_append] <;> rfl
    refine ⟨0, _, _, rfl, seq_enc x, its_0 x, ifC (nm_div2 x.k) (fun hd => ?_) (fun hd => ?_)⟩
    · obtain ⟨m, hm⟩ := div_of' hd
      have hs : seen < nd cs := by
        rw [if_pos hd] at hcnt
        omega
      have e1 : cut (iL (x.a ++ List.replicate (nd cs) 0 ++ [x.c])) none (some ((w + seen : Nat) : Int)) = iL ((x.a ++ List.replicate (nd cs) 0 ++ [x.c]).take (w + seen)) := by rw [cut_to, ← List.map_take]
      have e2 : cut (iL (x.a ++ List.replicate (nd cs) 0 ++ [x.c])) (some (((w + seen : Nat) : Int) + 1)) none = iL ((x.a ++ List.replicate (nd cs) 0 ++ [x.c]).drop (w + seen + 1)) := by
        rw [show ((w + seen : Nat) : Int) + 1 = ((w + seen + 1 : Nat) : Int) from rfl, cut_from, ← List.map_drop]
      have lt : (x.a ++ List.replicate (nd cs) 0 ++ [x.c]).length = w + nd cs + 1 := by
        rw [List.length_append, List.length_append, List.length_replicate, hxa] <;> rfl
      refine ⟨1, _, _, rfl, seq_enc x, its_1 hm, l1, ?_, ?_⟩
      · rw [e1, iL_len, List.length_take, lt]
        exact lz (by show min _ _ + 1 ≤ _; omega)
      refine ⟨?_, ?_⟩
      · rw [e1, e2, List.length_append, iL_len, iL_len, List.length_take, List.length_drop, lt]
        exact lz (by show min _ _ + 1 + _ ≤ _; omega)
      have e3 : (cut (iL (x.a ++ List.replicate (nd cs) 0 ++ [x.c])) none (some ((w + seen : Nat) : Int)) ++ [Dat.int (-m)] ++ cut (iL (x.a ++ List.replicate (nd cs) 0 ++ [x.c])) (some (((w + seen : Nat) : Int) + 1)) none) = iL (prow (nd cs) seen x) := by
        rw [e1, e2, show [Dat.int (-m)] = iL [-m] from rfl, ← iL_app, ← iL_app]
        have := put_at x.a (List.replicate (nd cs) 0) [x.c] seen (-m) (by rw [List.length_replicate]; exact hs)
        rw [hxa] at this
        rw [this]
        unfold prow
        rw [qv_d hm]
      refine tail _ _ _ ?_ e3
      unfold nxt
      rw [if_pos hd] <;> rfl
    · refine tail _ _ _ ?_ ?_
      · unfold nxt
        rw [hd, if_neg Bool.false_ne_true]
      · unfold prow
        rw [qv_nd hd]
  · rintro env m ⟨acc, seen, z1, z2, rfl, rfl, W⟩
    have e := W.fin
    subst e
    refine Or.inl ⟨hk, _, Mem.set_same, ?_⟩
    rw [Mem.restr_set_out hk, Mem.restr_self]
    exact q
end Lw
set_option Elab.async false
set_option linter.all false
set_option maxRecDepth 100000
set_option maxHeartbeats 4000000
namespace Lw
open PySem PySem.Spec PyProof.Rows L2 Dl
theorem canLay_ints : ∀ ns : List Int, PyData.canLayAll0 (ns.map PyData.int) = true
  | [] => rfl
  | n :: r => by
    rw [List.map_cons]
    simp only [PyData.canLayAll0, PyData.canLay0, Bool.true_and]
    exact canLay_ints r
theorem depth_ints : ∀ ns : List Int, PyData.depthAll (ns.map PyData.int) = 0
  | [] => rfl
  | n :: r => by
    rw [List.map_cons]
    simp only [PyData.depthAll, PyData.depth]
    rw [depth_ints r] <;> rfl
theorem shaped_ints (ns : List Int) : SeqAt.shaped (.list (ns.map PyData.int)) = true := by
  have h1 : PyData.canLay0 (.list (ns.map PyData.int)) = true := by
    simp only [PyData.canLay0]
    exact canLay_ints ns
  have h2 : PyData.depth (.list (ns.map PyData.int)) ≤ 64 := by
    simp only [PyData.depth]
    rw [depth_ints]
    decide
  unfold SeqAt.shaped
  rw [h1, decide_eq_true h2] <;> rfl
theorem eqv_empty (ns : List Int) : (false != PyData.eqv (.list (ns.map PyData.int)) (.list [])) = ns.isEmpty := by
  cases ns <;> rfl
theorem PoolTo.at {M M' : Mem} {p : Addr} (h : PoolTo M p M') : PoolAt M' p := by
  obtain ⟨ns, h1, rfl⟩ := h
  exact ⟨ns, h1, Mem.set_same⟩
theorem PoolTo.trans {M M1 M2 : Mem} {p : Addr} (h : PoolTo M p M1) (g : PoolTo M1 p M2) : PoolTo M p M2 := by
  obtain ⟨ns, h1, rfl⟩ := h
  obtain ⟨ms, g1, rfl⟩ := g
  exact ⟨ms, g1, Mem.set_set⟩
theorem PoolAt.refl {M : Mem} {p : Addr} (h : PoolAt M p) : PoolTo M p M := by
  obtain ⟨ns, h1, h2⟩ := h
  exact ⟨ns, h1, (Mem.set_self h2).symm⟩
theorem PoolTo.restr {M M' : Mem} {p : Addr} (h : PoolTo M p M') (g : PoolAt M p) : M.restr M' = M' := by
  obtain ⟨ns, h1, rfl⟩ := h
  obtain ⟨ms, g1, g2⟩ := g
  rw [Mem.restr_set_in g2, Mem.restr_self]
theorem bl_flat (b : Bool) : (true != b) = !b := by cases b <;> rfl
theorem last_get {ns : List Int} (h : ns ≠ []) : (iL ns)[(iL ns).length - 1]? = some (.int (ns.getLast h)) := by
  rw [iL_len, List.getElem?_map]
  rw [← List.getLast?_eq_getElem?, List.getLast?_eq_some_getLast h] <;> rfl
theorem ok__law_draw (ds : List Dat) (M : Mem) (Q : Rv → Mem → Prop) (h : fs__law_draw ds M Q) : rd__law_draw (enD M Q) (startD N__law_draw ds) M := by
  obtain ⟨p, m, rfl, ⟨ns, hn, hp⟩, hm, hlog, q⟩ := h
  refine ⟨Nat.zero_le _, .list (ns.map PyData.int), .list [], .cell hp (PyOfA.ints M ns), ⟨[], rfl, .nil⟩, shaped_ints ns, by decide, ?_⟩
  refine ifC (eqv_empty ns) (fun he => ?_) (fun he => ?_)
  · show Q _ (M.restr M)
    rw [Mem.restr_self]
    exact q 0 M (Int.le_refl 0) hm ⟨ns, hn, (Mem.set_self hp).symm⟩
  have ne : ns ≠ [] := fun z => by
    subst z
    cases he
  refine ⟨p, _, _, rfl, hp, last_get ne, ?_⟩
  refine ⟨⟨hm, hlog⟩, ?_⟩
  have hmod : 0 ≤ ns.getLast ne % m ∧ ns.getLast ne % m < m := ⟨Int.emod_nonneg _ (by omega), Int.emod_lt_of_pos _ hm⟩
  have hdl : (iL ns).dropLast = iL ns.dropLast := List.map_dropLast.symm
  have hdn : ns.dropLast.length ≤ 62 := by rw [List.length_dropLast]; omega
  refine ⟨l2, _, _, _, _, rfl, rfl, rfl, rfl, ?_⟩
  refine ifC rfl (fun hin => ?_) (fun hin => ?_)
  · refine ⟨p, _, rfl, Mem.set_same, _, Mem.set_same, ?_, ?_⟩
    · rw [hdl, iL_len]
      exact Nat.lt_of_le_of_lt hdn (by decide)
    refine ⟨hm, ?_⟩
    show Q _ (M.restr _)
    rw [Mem.set_set, Mem.restr_set_in hp, Mem.restr_self, hdl]
    refine q _ _ hmod.1 hmod.2 ⟨ns.dropLast ++ [ns.getLast ne / m], ?_, ?_⟩
    · rw [List.length_append]
      show _ + 1 ≤ _
      omega
    · rw [iL_app] <;> rfl
  · refine ⟨hm, ?_⟩
    show Q _ (M.restr _)
    rw [Mem.restr_set_in hp, Mem.restr_self, hdl]
    exact q _ _ hmod.1 hmod.2 ⟨ns.dropLast, by omega, rfl⟩
theorem log_ok {m : Int} (h0 : 0 ≤ m) (h : m ≤ 10000000000000000000) : m.natAbs.log2 < 9000 := by
  by_cases z : m.natAbs = 0
  · rw [z]
    exact (by decide : Nat.log2 0 < 9000)
  · have h2 : m.natAbs < 2 ^ 64 := Nat.lt_of_le_of_lt (show m.natAbs ≤ 10000000000000000000 by omega) (by decide)
    exact Nat.lt_of_lt_of_le ((Nat.log2_lt z).mpr h2) (by decide)
theorem ok__law_number (ds : List Dat) (M : Mem) (Q : Rv → Mem → Prop) (h : fs__law_number ds M Q) : rd__law_number (enD M Q) (startD N__law_number ds) M := by
  obtain ⟨p, z, t, rfl, hp, h0, h1, q⟩ := h
  refine ⟨Or.inl (by decide), ?_⟩
  refine ⟨p, 2 * z + 1, rfl, hp, by omega, log_ok (by omega) (by omega), fun v M' v0 v1 hM => ?_⟩
  refine ⟨Or.inl (by decide), show 0 < 2 * z + 1 by omega, ?_⟩
  show Q _ (M.restr M')
  rw [hM.restr hp]
  have hmod : 0 ≤ (v + z + t) % (2 * z + 1) ∧ (v + z + t) % (2 * z + 1) < 2 * z + 1 := ⟨Int.emod_nonneg _ (by omega), Int.emod_lt_of_pos _ (by omega)⟩
  exact q _ M' (show -z ≤ (v + z + t) % (2 * z + 1) - z by omega) (show (v + z + t) % (2 * z + 1) - z ≤ z by omega) hM
/-- the products, summed -/
def prods (a p : List Int) : Nat → List Int
  | 0 => []
  | n + 1 => prods a p n ++ [a.getD n 0 * p.getD n 0]
theorem prods_len (a p : List Int) : ∀ n, (prods a p n).length = n
  | 0 => rfl
  | n + 1 => by
    show (prods a p n ++ [_]).length = _
    rw [List.length_append, prods_len a p n] <;> rfl
theorem getD_of {a : List Int} {i : Nat} (h : i < a.length) : a.getD i 0 = a[i] := by
  rw [List.getD_eq_getElem?_getD, List.getElem?_eq_getElem h] <;> rfl
theorem prods_sum (a p : List Int) : ∀ n, n ≤ a.length → n ≤ p.length → (prods a p n).sum = dot (a.take n) (p.take n)
  | 0, _, _ => by
    rw [List.take_zero, List.take_zero] <;> rfl
  | n + 1, h1, h2 => by
    show (prods a p n ++ [_]).sum = _
    rw [List.sum_append, prods_sum a p n (by omega) (by omega), dot_step (by omega) (by omega), getD_of (by omega), getD_of (by omega)]
    simp
/-- [row[k] * point[k] for k in range(n)], then whatever -/
theorem lc_prods {row e : Dat} {a pt : List Int} {ys : List Dat} {env : Dl.Env} {M : Mem} {i j k : Nat} {n : Nat} {QL : List Dat → Mem → Prop} (hr : ∀ d, (env.set k d)[i]? = some (some row)) (he : ∀ d, (env.set k d)[j]? = some (some e)) (hk : ∀ d, (env.set k (some d))[k]? = some (some d)) (g1 : SeqR M (.d row) ys) (g2 : SeqR M (.d e) (iL pt))
    (ga : ∀ i, (h : i < n) → atI ys (i : Int) = some (.int (a.getD i 0))) (hs : ∀ i, i < n → -1000000000 ≤ a.getD i 0 ∧ a.getD i 0 ≤ 1000000000) (hn : n ≤ 1000) (hp : n ≤ pt.length) (fin : QL (iL (prods a pt n)) M) :
    ∃ Inv : Nat → List Dat → Mem → Prop, Inv 0 [] M ∧ (∀ i acc M', i ≤ (rngD 0 n).length → Inv i acc M' → (fun _ => True) M') ∧
      (∀ i' y acc M', (rngD 0 n)[i']? = some y → Inv i' acc M' → dYes (env.set k (some y)) M' fun b M2 => if b = true then dOp oMul (dOp oIx (dVar i) (dVar k)) (dOp oIx (dVar j) (dVar k)) (env.set k (some y)) M2 fun r M3 => acc.length < sizeLine ∧ Inv (i' + 1) (acc ++ [Dl.settle r]) M3 else Inv (i' + 1) acc M2) ∧
      ∀ acc M', Inv (rngD 0 n).length acc M' → QL acc M' := by
  refine lc_rng (fun i acc m => m = M ∧ acc = iL (prods a pt i)) ⟨rfl, rfl⟩ (fun t acc m ht hj => ?_) fun acc m hj => ?_
  · obtain ⟨rfl, rfl⟩ := hj
    simp only [dYes, ↓reduceIte]
    rw [Int.zero_add]
    have tp : t < pt.length := by omega
    simp only [dOp, dVar, hr, he, hk]
    refine ⟨t, _, _, rfl, g1, ga t ht, t, _, _, rfl, g2, at_iL tp, cmul_l (hs t ht) (by decide), ?_, rfl, ?_⟩
    · rw [iL_len, prods_len]
      exact Nat.lt_of_lt_of_le (show t < 1001 by omega) (by decide)
    · show _ = iL (prods a pt t ++ [_])
      rw [iL_app, getD_of tp] <;> rfl
  · obtain ⟨rfl, rfl⟩ := hj
    exact fin
theorem ok__law_value (ds : List Dat) (M : Mem) (Q : Rv → Mem → Prop) (h : fs__law_value ds M Q) : rd__law_value (enD M Q) (startD N__law_value ds) M := by
  obtain ⟨a, c, pt, e, rfl, g, hl, hb, hs, q⟩ := h
  refine ⟨-1, _, .int c, rfl, rfl, at_iL_last, ?_⟩
  refine ⟨e, _, rfl, g, ?_, ?_, ?_⟩
  · rw [iL_len]; omega
  · rw [iL_len]; omega
  rw [iL_len, Int.toNat_natCast]
  refine lc_prods (row := encR (a ++ [c])) (e := e) (a := a) (pt := pt) (fun _ => rfl) (fun _ => rfl) (fun _ => rfl) rfl g (fun i hi => ?_) (fun i hi => ?_) hb (Nat.le_refl _) ?_
  · rw [at_iL (by rw [List.length_append]; omega), getElem_app (by omega), getD_of (by omega)]
  · rw [getD_of (by omega)]
    exact hs.get (by omega)
  · refine ⟨_, _, rfl, rfl, ?_⟩
    show Q _ (M.restr M)
    rw [Mem.restr_self, prods_sum a pt _ (by omega) (Nat.le_refl _), List.take_of_length_le (by omega), List.take_of_length_le (Nat.le_refl _)]
    exact q
end Lw
set_option Elab.async false
set_option linter.all false
set_option maxRecDepth 100000
set_option maxHeartbeats 4000000
namespace Lw
open PySem PySem.Spec PyProof.Rows L2 Dl
theorem kd_cases (k : Kd) : k = .ge ∨ k = .eq ∨ ∃ m, k = .div m := by
  cases k with
  | ge => exact Or.inl rfl
  | eq => exact Or.inr (Or.inl rfl)
  | div m => exact Or.inr (Or.inr ⟨m, rfl⟩)
theorem met_ge {x : Cd} {pt : List Int} (h : x.k = .ge) : x.met pt = decide (0 ≤ x.c + dot x.a pt) := by
  unfold Cd.met
  rw [h] <;> rfl
theorem met_eq {x : Cd} {pt : List Int} (h : x.k = .eq) : x.met pt = decide (x.c + dot x.a pt = 0) := by
  unfold Cd.met
  rw [h] <;> rfl
theorem met_div {x : Cd} {pt : List Int} {m : Int} (h : x.k = .div m) : x.met pt = decide ((x.c + dot x.a pt) % m = 0) := by
  unfold Cd.met
  rw [h] <;> rfl
theorem ne_dec (a b : Int) : (true != decide (a = b)) = !decide (a = b) := Bool.true_bne _
theorem ok__law_holds (ds : List Dat) (M : Mem) (Q : Rv → Mem → Prop) (h : fs__law_holds ds M Q) : rd__law_holds (enD M Q) (startD N__law_holds ds) M := by
  obtain ⟨cs, pt, e, rfl, hs, hp, hg, q⟩ := h
  refine ⟨_, rfl, ?_⟩
  refine for_rest (enc := Cd.enc) cs (fun r env m => m = M ∧ (∃ z1 z2, env = [some (.lst (cs.map Cd.enc)), some e, z1, z2]) ∧ (cs.all fun x => x.met pt) = (r.all fun x => x.met pt) ∧ ∀ x ∈ r, x ∈ cs) ?_ ?_ ?_ ?_
  · exact ⟨rfl, ⟨_, _, rfl⟩, rfl, fun _ h => h⟩
  · rintro r env m _
    trivial
  · rintro x r env m ⟨rfl, ⟨z1, z2, rfl⟩, h1, h2⟩
    have gx := hg x (h2 x List.mem_cons_self)
    rw [List.all_cons] at h1
    have bad : x.met pt = false → Q (.d (.bl false)) (m.restr m) := fun k => by
      rw [k, Bool.false_and] at h1
      rw [Mem.restr_self]
      rw [h1] at q
      exact q
    have good : x.met pt = true → (cs.all fun x => x.met pt) = (r.all fun x => x.met pt) := fun k => by
      rw [k, Bool.true_and] at h1
      exact h1
    have mem' : ∀ y ∈ r, y ∈ cs := fun y hy => h2 y (List.mem_cons_of_mem _ hy)
    refine ⟨-1, _, _, rfl, seq_enc x, its_l x, x.a, x.c, pt, _, rfl, hs, gx.1, hp, gx.2.1, ?_⟩
    refine ⟨0, _, _, rfl, seq_enc x, its_0 x, ?_⟩
    rcases kd_cases x.k with hk | hk | ⟨d, hk⟩
    · refine ifT ((nm_ge x.k).trans (by rw [hk] <;> rfl)) ?_
      refine ifC (c := decide (x.c + dot x.a pt < 0)) rfl (fun k => ?_) fun k => ?_
      · exact bad ((met_ge hk).trans (decide_eq_false (by have := of_decide_eq_true k; omega)))
      refine ⟨0, _, _, rfl, seq_enc x, its_0 x, ifF ((nm_eq x.k).trans (by rw [hk])) ?_⟩
      refine ⟨0, _, _, rfl, seq_enc x, its_0 x, ifF ((nm_div2 x.k).trans (by rw [hk] <;> rfl)) ?_⟩
      exact ⟨rfl, ⟨_, _, rfl⟩, good ((met_ge hk).trans (decide_eq_true (by have := of_decide_eq_false k; omega))), mem'⟩
    · refine ifF ((nm_ge x.k).trans (by rw [hk] <;> rfl)) ?_
      refine ⟨0, _, _, rfl, seq_enc x, its_0 x, ifT ((nm_eq x.k).trans (by rw [hk])) ?_⟩
      refine ifC (c := true != decide (x.c + dot x.a pt = 0)) (ne_dec _ _) (fun k => ?_) fun k => ?_
      · exact bad ((met_eq hk).trans (by simpa using k))
      refine ⟨0, _, _, rfl, seq_enc x, its_0 x, ifF ((nm_div2 x.k).trans (by rw [hk] <;> rfl)) ?_⟩
      exact ⟨rfl, ⟨_, _, rfl⟩, good ((met_eq hk).trans (by simpa using k)), mem'⟩
    · refine ifF ((nm_ge x.k).trans (by rw [hk] <;> rfl)) ?_
      refine ⟨0, _, _, rfl, seq_enc x, its_0 x, ifF ((nm_eq x.k).trans (by rw [hk])) ?_⟩
      refine ⟨0, _, _, rfl, seq_enc x, its_0 x, ifT ((nm_div2 x.k).trans (by rw [hk] <;> rfl)) ?_⟩
      have hd : 2 ≤ d ∧ d ≤ 60 := by
        have := gx.2.2.2.2
        rw [hk] at this
        exact this
      refine ⟨1, _, _, rfl, seq_enc x, its_1 hk, by omega, ?_⟩
      refine ifC (c := true != decide ((x.c + dot x.a pt) % d = 0)) (ne_dec _ _) (fun k => ?_) fun k => ?_
      · exact bad ((met_div hk).trans (by simpa using k))
      exact ⟨rfl, ⟨_, _, rfl⟩, good ((met_div hk).trans (by simpa using k)), mem'⟩
  · rintro env m ⟨rfl, ⟨z1, z2, rfl⟩, h1, h2⟩
    show Q _ (m.restr m)
    rw [Mem.restr_self]
    rw [h1] at q
    exact q
theorem restr_none {M m : Mem} {q : Addr} (h : M.restr m = M) (hq : m q = none) : M q = none := by
  cases e : M q with
  | none => rfl
  | some v =>
    have h2 : (M.restr m) q = m q := by
      unfold Mem.restr
      rw [e]
    rw [h, hq, e] at h2
    cases h2
theorem ok__law_plain (ds : List Dat) (M : Mem) (Q : Rv → Mem → Prop) (h : fs__law_plain ds M Q) : rd__law_plain (enD M Q) (startD N__law_plain ds) M := by
  obtain ⟨w, cs, rfl, hl, hw, ha, q⟩ := h
  have hnd := nd_le cs
  refine ⟨_, rfl, ?_⟩
  refine lc_filter (enc := Cd.enc) cs (fun x => x.k.isDiv) Cd.enc (lz (by omega)) ?_ (fun x hx P hP => ?_) (fun x hx P hP => ?_) ?_
  · trivial
  · refine ⟨0, _, _, rfl, seq_enc x, its_0 x, ?_⟩
    show P (false != decide (x.k.nm = "div")) M
    rw [nm_div2]
    exact hP
  · exact hP _ rfl
  refine ⟨_, _, rfl, rfl, ?_⟩
  have e0 : ((((cs.filter fun x => x.k.isDiv).map Cd.enc).length : Nat) : Int) = (nd cs : Int) := by
    rw [List.length_map] <;> rfl
  refine ⟨Nat.zero_le _, _, rfl, fun k hk => ?_⟩
  refine ⟨_, rfl, ?_⟩
  refine for_rest (enc := Cd.enc) cs (fun r env m => ∃ acc seen z1 z2 z3 z4, M.restr m = M ∧ m k = some (.lst (acc.map encR)) ∧ env = [some (.int (w : Int)), some (.lst (cs.map Cd.enc)), some (.int (nd cs : Int)), some (.cell k), some (.int ((seen : Nat) : Int)), z1, z2, z3, z4] ∧ Wl (nd cs) cs seen acc r) ?_ ?_ ?_ ?_
  · refine ⟨[], 0, none, none, none, none, ?_, Mem.set_same, ?_, Wl.start⟩
    · rw [Mem.restr_set_out hk, Mem.restr_self]
    · show ([_, _, some (Dat.int (((cs.filter fun x => x.k.isDiv).map Cd.enc).length : Nat)), _, _, _, _, _, _] : List (Option Dat)) = _
      rw [e0] <;> rfl
  · rintro r env m _
    trivial
  · rintro x r env m ⟨acc, seen, z1, z2, z3, z4, hm, hmk, rfl, W⟩
    have hx := W.mem x List.mem_cons_self
    have hxa := ha x hx
    have hlen := W.len
    rw [List.length_cons] at hlen
    have hcnt := W.cnt
    rw [nd_cons] at hcnt
    have W2 := W.step
    refine ⟨-1, _, _, rfl, seq_enc x, its_l x, _, _, rfl, rfl, ?_⟩
    refine ⟨l1, _, rfl, by omega, by omega, ?_, _, rfl, fun y hy => ?_⟩
    · show 1 * (nd cs : Int).toNat ≤ sizeLine
      rw [Nat.one_mul, Int.toNat_natCast]
      exact lz (by omega)
    have hMy := restr_none hm hy
    have yk : y ≠ k := fun z => by
      subst z
      rw [hmk] at hy
      cases hy
    have tail2 : ∀ z pl rw m', pl = ((nxt seen x.k : Nat) : Int) → rw = iL (prow (nd cs) seen x) → M.restr m' = M → m' k = some (.lst (acc.map encR)) → (dSeq (dDrop (dAppend (dVar 3) (dVar 6)))
        (dIfS (dTest (dOp oNe (dOp oIx (dVar 5) (dC (.int 0))) (dC (.str "ge")))) (dDrop (dAppend (dVar 3) (dCB bTuple (dCons (dLc (dSeqW (dVar 6)) 8 (dYes) (dNeg (dVar 8))) (dNil))))) (dNext)))
        ⟨fun env m => ∃ acc seen z1 z2 z3 z4, M.restr m = M ∧ m k = some (.lst (acc.map encR)) ∧ env = [some (.int (w : Int)), some (.lst (cs.map Cd.enc)), some (.int (nd cs : Int)), some (.cell k), some (.int ((seen : Nat) : Int)), z1, z2, z3, z4] ∧ Wl (nd cs) cs seen acc r, (enD M Q).rt, z, fun env m => ∃ acc seen z1 z2 z3 z4, M.restr m = M ∧ m k = some (.lst (acc.map encR)) ∧ env = [some (.int (w : Int)), some (.lst (cs.map Cd.enc)), some (.int (nd cs : Int)), some (.cell k), some (.int ((seen : Nat) : Int)), z1, z2, z3, z4] ∧ Wl (nd cs) cs seen acc r⟩
        [some (.int (w : Int)), some (.lst (cs.map Cd.enc)), some (.int (nd cs : Int)), some (.cell k), some (.int pl), some x.enc, some (.tup rw), some (.cell y), z4] m' := by
      intro z pl rw_ m' e1 e2 hm' hk'
      subst e1 e2
      refine ⟨k, _, rfl, hk', _, hk', ?_, ?_⟩
      · rw [List.length_map]
        exact Nat.lt_of_lt_of_le (show acc.length < 2001 by omega) (by decide)
      refine ⟨0, _, _, rfl, seq_enc x, its_0 x, ifC (nm_ge2 x.k) (fun hd => ?_) (fun hd => ?_)⟩
      · have hg : x.k.isGe = false := by simpa using hd
        refine ⟨k, _, rfl, Mem.set_same, _, rfl, ?_⟩
        refine lc_map (enc := Dat.int) (prow (nd cs) seen x) (fun y => .int (-y)) ?_ ?_ (fun x hx P hP => ?_) ?_
        · rw [prow_len]
          exact lz (by omega)
        · trivial
        · exact hP _ rfl
        refine ⟨_, _, rfl, rfl, _, Mem.set_same, ?_, ?_⟩
        · rw [List.length_append, List.length_map]
          exact Nat.lt_of_lt_of_le (show acc.length + 1 < 2001 by omega) (by decide)
        refine ⟨acc ++ [prow (nd cs) seen x] ++ [(prow (nd cs) seen x).map fun y => -y], _, _, _, _, _, ?_, ?_, rfl, ?_⟩
        · rw [Mem.set_set, Mem.restr_set_out hk, hm']
        · rw [Mem.set_set, Mem.set_same, List.map_append, List.map_append]
          have e : (prow (nd cs) seen x).map (fun y => Dat.int (-y)) = iL ((prow (nd cs) seen x).map fun y => -y) := by
            show _ = List.map Dat.int (List.map _ _)
            rw [List.map_map] <;> rfl
          exact congrArg (fun l => some (MV.lst (acc.map encR ++ [encR (prow (nd cs) seen x)] ++ [Dat.tup l]))) e
        · have W3 := W2
          unfold prows1 at W3
          rw [hg, if_neg Bool.false_ne_true] at W3
          rw [List.append_assoc]
          exact W3
      · have hg : x.k.isGe = true := by simpa using hd
        refine ⟨acc ++ [prow (nd cs) seen x], _, _, _, _, _, ?_, ?_, rfl, ?_⟩
        · rw [Mem.restr_set_out hk, hm']
        · rw [Mem.set_same, List.map_append] <;> rfl
        · have W3 := W2
          unfold prows1 at W3
          rw [hg, if_pos rfl] at W3
          exact W3
    have tail : ∀ z pl qs, pl = ((nxt seen x.k : Nat) : Int) → qs = iL (qv (nd cs) seen x.k) → (dSeq (dSet (dOp oAdd (dOp oAdd (dSl (dVar 6) (dNo) (dPart (dVar 0))) (dCB bTuple (dCons (dVar 7) (dNil)))) (dSl (dVar 6) (dPart (dVar 0)) (dNo))) 6)
        (dSeq (dDrop (dAppend (dVar 3) (dVar 6)))
        (dIfS (dTest (dOp oNe (dOp oIx (dVar 5) (dC (.int 0))) (dC (.str "ge")))) (dDrop (dAppend (dVar 3) (dCB bTuple (dCons (dLc (dSeqW (dVar 6)) 8 (dYes) (dNeg (dVar 8))) (dNil))))) (dNext))))
        ⟨fun env m => ∃ acc seen z1 z2 z3 z4, M.restr m = M ∧ m k = some (.lst (acc.map encR)) ∧ env = [some (.int (w : Int)), some (.lst (cs.map Cd.enc)), some (.int (nd cs : Int)), some (.cell k), some (.int ((seen : Nat) : Int)), z1, z2, z3, z4] ∧ Wl (nd cs) cs seen acc r, (enD M Q).rt, z, fun env m => ∃ acc seen z1 z2 z3 z4, M.restr m = M ∧ m k = some (.lst (acc.map encR)) ∧ env = [some (.int (w : Int)), some (.lst (cs.map Cd.enc)), some (.int (nd cs : Int)), some (.cell k), some (.int ((seen : Nat) : Int)), z1, z2, z3, z4] ∧ Wl (nd cs) cs seen acc r⟩
        [some (.int (w : Int)), some (.lst (cs.map Cd.enc)), some (.int (nd cs : Int)), some (.cell k), some (.int pl), some x.enc, some (encR (x.a ++ [x.c])), some (.cell y), z4] (m.set y (.lst qs)) := by
      intro z pl qs e1 e2
      subst e2
      have c1 : cut (iL (x.a ++ [x.c])) none (some (w : Int)) = iL x.a := by
        rw [cut_to, ← List.map_take, List.take_left' hxa]
      have c2 : cut (iL (x.a ++ [x.c])) (some (w : Int)) none = iL [x.c] := by
        rw [cut_from, ← List.map_drop, List.drop_left' hxa]
      have c3 : cut (iL (x.a ++ [x.c])) none (some (w : Int)) ++ iL (qv (nd cs) seen x.k) ++ cut (iL (x.a ++ [x.c])) (some (w : Int)) none = iL (prow (nd cs) seen x) := by
        rw [c1, c2, ← iL_app, ← iL_app] <;> rfl
      refine ⟨_, _, rfl, Mem.set_same, ?_, ?_⟩
      · rw [c1, iL_len, iL_len, qv_len]
        exact lz (by omega)
      refine ⟨?_, ?_⟩
      · rw [c1, c2, ← iL_app, iL_len, iL_len, List.length_append, qv_len]
        exact lz (by show _ + 1 ≤ _; omega)
      refine tail2 _ _ _ _ e1 c3 ?_ ((Mem.set_ne yk.symm).trans hmk)
      rw [Mem.restr_set_out hMy, hm]
    have ez : (List.replicate (nd cs : Int).toNat [Dat.int 0]).flatten = iL (List.replicate (nd cs) 0) := by
      rw [Int.toNat_natCast, rep_flat, iL_rep]
    refine ⟨0, _, _, rfl, seq_enc x, its_0 x, ifC (nm_div2 x.k) (fun hd => ?_) (fun hd => ?_)⟩
    · obtain ⟨d, hd2⟩ := div_of' hd
      have hs : seen < nd cs := by
        rw [if_pos hd] at hcnt
        omega
      refine ⟨1, _, _, rfl, seq_enc x, its_1 hd2, y, _, (seen : Int), seen, rfl, rfl, Mem.set_same, ?_, ?_⟩
      · have el : ((List.replicate (nd cs : Int).toNat [Dat.int 0]).flatten).length = nd cs := by
          rw [ez, iL_len, List.length_replicate]
        refine Eq.trans (congrArg (fun n => ixN n (seen : Int)) el) ?_
        unfold ixN
        rw [if_pos (by omega), if_pos (by omega), Int.toNat_natCast]
      · rw [Mem.set_set]
        refine tail _ _ _ ?_ ?_
        · unfold nxt
          rw [if_pos hd] <;> rfl
        · rw [qv_d hd2]
          refine Eq.trans (congrArg (fun l => List.set l seen (Dat.int (-d))) ez) ?_
          exact List.map_set.symm
    · refine tail _ _ _ ?_ ?_
      · unfold nxt
        rw [hd, if_neg Bool.false_ne_true]
      · rw [qv_nd hd]
        exact ez
  · rintro env m ⟨acc, seen, z1, z2, z3, z4, hm, hmk, rfl, W⟩
    have e := W.fin
    subst e
    refine Or.inl ⟨hk, _, hmk, ?_⟩
    rw [hm]
    exact q
end Lw
set_option Elab.async false
set_option linter.all false
set_option maxRecDepth 100000
set_option maxHeartbeats 4000000
namespace Lw
open PySem PySem.Spec PyProof.Rows L2 Dl
theorem ok__law_widened (ds : List Dat) (M : Mem) (Q : Rv → Mem → Prop) (h : fs__law_widened ds M Q) : rd__law_widened (enD M Q) (startD N__law_widened ds) M := by
  obtain ⟨w, n, cs, rfl, hw, hn, hl, ha, q⟩ := h
  refine ⟨Nat.zero_le _, _, rfl, fun k hk => ?_⟩
  refine ⟨_, rfl, ?_⟩
  refine for_rest (enc := Cd.enc) cs (fun r env m => ∃ acc z1 z2, m = M.set k (.lst acc) ∧ env = [some (.lst (cs.map Cd.enc)), some (.int (w : Int)), some (.int (n : Int)), some (.cell k), z1, z2] ∧ acc ++ (r.map (Cd.wide n)).map Cd.enc = (cs.map (Cd.wide n)).map Cd.enc ∧ ∀ x ∈ r, x ∈ cs) ?_ ?_ ?_ ?_
  · exact ⟨[], none, none, rfl, rfl, rfl, fun _ h => h⟩
  · rintro r env m _
    trivial
  · rintro x r env m ⟨acc, z1, z2, rfl, rfl, h1, h2⟩
    have hxa := ha x (h2 x List.mem_cons_self)
    have c1 : cut (iL (x.a ++ [x.c])) none (some (w : Int)) = iL x.a := by
      rw [cut_to, ← List.map_take, List.take_left' hxa]
    have c2 : cut (iL (x.a ++ [x.c])) (some (w : Int)) none = iL [x.c] := by
      rw [cut_from, ← List.map_drop, List.drop_left' hxa]
    have ez : (List.replicate (n : Int).toNat [Dat.int 0]).flatten = iL (List.replicate n 0) := by
      rw [Int.toNat_natCast, rep_flat, iL_rep]
    have hlen := congrArg List.length h1
    rw [List.length_append, List.length_map, List.length_map, List.length_map, List.length_map, List.length_cons] at hlen
    refine ⟨-1, _, _, rfl, seq_enc x, its_l x, ?_⟩
    refine ⟨k, acc, rfl, Mem.set_same, l1, by omega, by omega, show 1 ≤ 1000 by decide, ?_, ?_⟩
    · refine Nat.le_trans (Nat.le_of_eq (congrArg (fun l : List Dat => (cut (iL (x.a ++ [x.c])) none (some (w : Int))).length + l.length) ez)) ?_
      rw [c1, iL_len, iL_len, List.length_replicate]
      exact lz (by omega)
    refine ⟨?_, ?_⟩
    · refine Nat.le_trans (Nat.le_of_eq (congrArg (fun l : List Dat => (cut (iL (x.a ++ [x.c])) none (some (w : Int)) ++ l).length + (cut (iL (x.a ++ [x.c])) (some (w : Int)) none).length) ez)) ?_
      rw [c1, c2, ← iL_app, iL_len, iL_len, List.length_append, List.length_replicate]
      exact lz (by show _ + 1 ≤ _; omega)
    refine ⟨l1, ?_, acc, Mem.set_same, ?_, ?_⟩
    · exact Nat.le_trans (Nat.add_le_add_right (its_cut_len x) 1) (by decide)
    · exact Nat.lt_of_lt_of_le (show acc.length < 1001 by omega) (by decide)
    · refine ⟨acc ++ [(Cd.wide n x).enc], _, _, ?_, rfl, ?_, fun y hy => h2 y (List.mem_cons_of_mem _ hy)⟩
      · rw [Mem.set_set]
        have e5 := congrArg Dat.tup (its_put x.k x.a (x.a ++ List.replicate n 0) x.c x.c)
        have e6 : cut (iL (x.a ++ [x.c])) none (some (w : Int)) ++ (List.replicate (n : Int).toNat [Dat.int 0]).flatten ++ cut (iL (x.a ++ [x.c])) (some (w : Int)) none = iL (x.a ++ List.replicate n 0 ++ [x.c]) := by
          rw [c1, c2, ez, ← iL_app, ← iL_app]
        have e7 := congrArg (fun l => Dat.tup (cut x.its none (some (-1)) ++ [Dat.tup l])) e6
        exact congrArg (fun d => M.set k (.lst (acc ++ [d]))) (e7.trans e5)
      · rw [List.append_assoc]
        exact h1
  · rintro env m ⟨acc, z1, z2, rfl, rfl, h1, h2⟩
    rw [List.map_nil, List.map_nil, List.append_nil] at h1
    subst h1
    refine Or.inl ⟨hk, _, Mem.set_same, ?_⟩
    rw [Mem.restr_set_out hk, Mem.restr_self]
    exact q
theorem at_iL_w {a : List Int} {c : Int} {w : Nat} (h : a.length = w) : atI (iL (a ++ [c])) (w : Int) = some (.int c) := by
  have hw : w < (a ++ [c]).length := by rw [List.length_append, h]; exact Nat.lt_succ_self w
  rw [at_iL hw]
  subst h
  rw [List.getElem_append_right (Nat.le_refl _)]
  simp
theorem ok__law_fixed (ds : List Dat) (M : Mem) (Q : Rv → Mem → Prop) (h : fs__law_fixed ds M Q) : rd__law_fixed (enD M Q) (startD N__law_fixed ds) M := by
  obtain ⟨w, ns, cs, rfl, hn, hw, hl, hg, q⟩ := h
  refine ⟨_, _, rfl, rfl, ?_⟩
  refine ⟨Nat.zero_le _, _, rfl, fun k hk => ?_⟩
  refine ⟨_, rfl, ?_⟩
  refine for_rest (enc := Cd.enc) cs (fun r env m => ∃ acc z1 z2 z3 z4, m = M.set k (.lst acc) ∧ env = [some (.lst (cs.map Cd.enc)), some (.int (w : Int)), some (.lst (iL ns)), some (.int (ns.length : Int)), some (.cell k), z1, z2, z3, z4] ∧ acc ++ (r.map (Cd.fix ns)).map Cd.enc = (cs.map (Cd.fix ns)).map Cd.enc ∧ ∀ x ∈ r, x ∈ cs) ?_ ?_ ?_ ?_
  · refine ⟨[], none, none, none, none, rfl, ?_, rfl, fun _ h => h⟩
    show ([_, _, _, some (Dat.int (iL ns).length), _, _, _, _, _] : List (Option Dat)) = _
    rw [iL_len] <;> rfl
  · rintro r env m _
    trivial
  · rintro x r env m ⟨acc, z1, z2, z3, z4, rfl, rfl, h1, h2⟩
    have gx := hg x (h2 x List.mem_cons_self)
    have hxa := gx.1
    have hlen := congrArg List.length h1
    rw [List.length_append, List.length_map, List.length_map, List.length_map, List.length_map, List.length_cons] at hlen
    refine ⟨-1, _, _, rfl, seq_enc x, its_l x, ?_⟩
    refine ⟨?_, ?_, ?_⟩
    · omega
    · omega
    rw [Int.toNat_natCast]
    refine lc_prods (row := encR (x.a ++ [x.c])) (e := .lst (iL ns)) (a := x.a) (pt := ns) (fun _ => rfl) (fun _ => rfl) (fun _ => rfl) rfl rfl (fun i hi => ?_) (fun i hi => ?_) (by omega) (Nat.le_refl _) ?_
    · rw [at_iL (by rw [List.length_append]; omega), getElem_app (by omega), getD_of (by omega)]
    · rw [getD_of (by omega)]
      exact gx.2.1.get (by omega)
    refine ⟨_, _, rfl, rfl, ?_⟩
    have e3 : cut (iL (x.a ++ [x.c])) (some (ns.length : Int)) (some (w : Int)) = iL (x.a.drop ns.length) := by
      rw [cut_fromto hn (by rw [iL_len, List.length_append]; omega), ← List.map_drop, ← List.map_take, List.drop_append_of_le_length (by omega), List.take_left' (by rw [List.length_drop]; omega)]
    refine ⟨(w : Int), _, _, rfl, rfl, at_iL_w hxa, l1, ?_, ?_⟩
    · refine Nat.le_trans (Nat.le_of_eq (congrArg (fun l : List Dat => l.length + 1) e3)) ?_
      rw [iL_len, List.length_drop]
      exact lz (by omega)
    refine ⟨k, acc, rfl, Mem.set_same, l1, ?_, acc, Mem.set_same, ?_, ?_⟩
    · exact Nat.le_trans (Nat.add_le_add_right (its_cut_len x) 1) (by decide)
    · exact Nat.lt_of_lt_of_le (show acc.length < 1001 by omega) (by decide)
    · refine ⟨acc ++ [(Cd.fix ns x).enc], _, _, _, _, ?_, rfl, ?_, fun y hy => h2 y (List.mem_cons_of_mem _ hy)⟩
      · rw [Mem.set_set]
        have e5 := congrArg Dat.tup (its_put x.k x.a (x.a.drop ns.length) x.c (x.c + dot (x.a.take ns.length) ns))
        have e4 : (prods x.a ns ns.length).sum = dot (x.a.take ns.length) ns := by
          rw [prods_sum x.a ns _ (by omega) (Nat.le_refl _), List.take_of_length_le (l := ns) (Nat.le_refl _)]
        have e6 : cut (iL (x.a ++ [x.c])) (some (ns.length : Int)) (some (w : Int)) ++ [Dat.int (x.c + (prods x.a ns ns.length).sum)] = iL (x.a.drop ns.length ++ [x.c + dot (x.a.take ns.length) ns]) := by
          rw [e3, e4, iL_app] <;> rfl
        have e7 := congrArg (fun l => Dat.tup (cut x.its none (some (-1)) ++ [Dat.tup l])) e6
        exact congrArg (fun d => M.set k (.lst (acc ++ [d]))) (e7.trans e5)
      · rw [List.append_assoc]
        exact h1
  · rintro env m ⟨acc, z1, z2, z3, z4, rfl, rfl, h1, h2⟩
    rw [List.map_nil, List.map_nil, List.append_nil] at h1
    subst h1
    refine Or.inl ⟨hk, _, Mem.set_same, ?_⟩
    rw [Mem.restr_set_out hk, Mem.restr_self]
    exact q
end Lw
set_option Elab.async false
set_option linter.all false
set_option maxRecDepth 100000
set_option maxHeartbeats 4000000
namespace Lw
open PySem PySem.Spec PyProof.Rows L2 Dl
theorem mulb {A B x y : Int} (hx : -A ≤ x ∧ x ≤ A) (hy : -B ≤ y ∧ y ≤ B) : -(A * B) ≤ x * y ∧ x * y ≤ A * B := by
  have h1 : x.natAbs ≤ A.toNat := by omega
  have h2 : y.natAbs ≤ B.toNat := by omega
  have h3 : (x * y).natAbs ≤ A.toNat * B.toNat := by
    rw [Int.natAbs_mul]
    exact Nat.mul_le_mul h1 h2
  have h4 : ((A.toNat * B.toNat : Nat) : Int) = A * B := by
    rw [Int.natCast_mul, Int.toNat_of_nonneg (by omega), Int.toNat_of_nonneg (by omega)]
  omega
theorem dot_b {A B : Int} (hA : 0 ≤ A) (hB : 0 ≤ B) : ∀ (a p : List Int), Sm A a → Sm B p → -(A * B * p.length) ≤ dot a p ∧ dot a p ≤ A * B * p.length
  | [], p, _, _ => by
    have h := Int.mul_nonneg (Int.mul_nonneg hA hB) (Int.natCast_nonneg p.length)
    show -(A * B * p.length) ≤ 0 ∧ 0 ≤ A * B * p.length
    omega
  | x :: a, [], _, _ => by
    show -(A * B * (0 : Nat)) ≤ 0 ∧ 0 ≤ A * B * (0 : Nat)
    rw [Int.natCast_zero, Int.mul_zero]
    decide
  | x :: a, y :: p, h1, h2 => by
    have h3 := mulb (h1 x List.mem_cons_self) (h2 y List.mem_cons_self)
    have h4 := dot_b hA hB a p (fun z hz => h1 z (List.mem_cons_of_mem _ hz)) (fun z hz => h2 z (List.mem_cons_of_mem _ hz))
    show -(A * B * ((p.length + 1 : Nat) : Int)) ≤ x * y + dot a p ∧ x * y + dot a p ≤ A * B * ((p.length + 1 : Nat) : Int)
    rw [show ((p.length + 1 : Nat) : Int) = (p.length : Int) + 1 from rfl, Int.mul_add, Int.mul_one]
    omega
theorem modb (v m : Int) (h : 0 < m) : 0 ≤ v % m ∧ v % m < m := ⟨Int.emod_nonneg _ (by omega), Int.emod_lt_of_pos _ h⟩
theorem eq_dec (a b : Int) : (false != decide (a = b)) = decide (a = b) := Bool.false_bne _
/-- [number(pool, 9, ..) for k in range(n)] -/
theorem lc_numbers {p : Addr} {M0 M : Mem} {n k : Nat} {ε : DE} {env : Dl.Env} {QL : List Dat → Mem → Prop} (hM : PoolTo M0 p M) (hn : n ≤ 1000)
    (step : ∀ (i : Nat) (M' : Mem) (P : Rv → Mem → Prop), PoolAt M' p → (∀ v M2, -9 ≤ v → v ≤ 9 → PoolTo M' p M2 → P (.d (.int v)) M2) → ε (env.set k (some (.int (0 + i)))) M' P)
    (fin : ∀ (r : List Int) M', r.length = n → Sm 9 r → PoolTo M0 p M' → QL (iL r) M') :
    ∃ Inv : Nat → List Dat → Mem → Prop, Inv 0 [] M ∧ (∀ i acc M', i ≤ (rngD 0 n).length → Inv i acc M' → (fun _ => True) M') ∧
      (∀ i' y acc M', (rngD 0 n)[i']? = some y → Inv i' acc M' → dYes (env.set k (some y)) M' fun b M2 => if b = true then ε (env.set k (some y)) M2 fun r M3 => acc.length < sizeLine ∧ Inv (i' + 1) (acc ++ [Dl.settle r]) M3 else Inv (i' + 1) acc M2) ∧
      ∀ acc M', Inv (rngD 0 n).length acc M' → QL acc M' := by
  refine lc_rng (fun i acc m => ∃ r : List Int, acc = iL r ∧ r.length = i ∧ Sm 9 r ∧ PoolTo M0 p m) ⟨[], rfl, rfl, fun x hx => absurd hx List.not_mem_nil, hM⟩ (fun t acc m ht hj => ?_) fun acc m hj => ?_
  · obtain ⟨r, rfl, hr, hs, hm⟩ := hj
    simp only [dYes, ↓reduceIte]
    refine step t m _ hm.at fun v M2 h1 h2 hp => ⟨?_, r ++ [v], ?_, ?_, ?_, hm.trans hp⟩
    · rw [iL_len]
      exact Nat.lt_of_lt_of_le (show r.length < 1001 by omega) (by decide)
    · rw [iL_app] <;> rfl
    · rw [List.length_append, hr] <;> rfl
    · intro x hx
      rcases List.mem_append.mp hx with z | z
      · exact hs x z
      · have := List.mem_singleton.mp z
        omega
  · obtain ⟨r, rfl, hr, hs, hm⟩ := hj
    exact fin r m hr hs hm
def rule5 : DS := dSeq (dSet (dCB bTuple (dCons (dOp oAdd (dVar 6) (dLst (dCons (dVar 7) (dNil)))) (dNil))) 6)
  (dSeq (dIfS (dTest (dOp oEq (dVar 4) (dC (.int 2)))) (dRet (dTup (dCons (dC (.str "div")) (dCons (dVar 5) (dCons (dVar 6) (dNil)))))) (dNext))
  (dRet (dTup (dCons (dOp oIx (dLst (dCons (dC (.str "ge")) (dCons (dC (.str "eq")) (dNil)))) (dVar 4)) (dCons (dVar 6) (dNil))))))
def rule4 : DS := dSeq (dIfS (dTest (dOp oEq (dVar 3) (dC (.int 2)))) (dSet (dOp oSub (dCB fs__law_draw (dCons (dVar 0) (dCons (dC (.int 199)) (dNil)))) (dC (.int 99))) 7) (dNext)) rule5
def rule3 : DS := dSeq (dIfS (dTest (dOp oEq (dVar 3) (dC (.int 1)))) (dSet (dOp oSub (dVar 7) (dC (.int 1))) 7) (dNext)) rule4
def rule2 : DS := dSeq (dIfS (dAnd (dTest (dOp oEq (dVar 3) (dC (.int 0)))) (dTest (dOp oEq (dVar 4) (dC (.int 2))))) (dSet (dOp oAdd (dVar 7) (dOp oMul (dVar 5) (dOp oSub (dOp oModI (dCB bInt (dCons (dVar 8) (dNil))) (dC (.int 3))) (dC (.int 1))))) 7) (dNext)) rule3
def rule1 : DS := dSeq (dIfS (dAnd (dTest (dOp oEq (dVar 3) (dC (.int 0)))) (dTest (dOp oEq (dVar 4) (dC (.int 0))))) (dSet (dOp oAdd (dVar 7) (dVar 8)) 7) (dNext)) rule2
theorem ok__law_rule (ds : List Dat) (M : Mem) (Q : Rv → Mem → Prop) (h : fs__law_rule ds M Q) : rd__law_rule (enD M Q) (startD N__law_rule ds) M := by
  obtain ⟨p, pt, t, mood, rfl, hp, hl, hs, q⟩ := h
  refine ⟨p, 3, rfl, hp, by decide, by decide, fun v1 M1 _ _ hM1 => ⟨show (0 : Int) < 3 by decide, ?_⟩⟩
  have hk := modb (v1 + t) 3 (by decide)
  refine ⟨p, 59, rfl, hM1.at, by decide, by decide, fun v2 M2 _ _ hM2 => ⟨Or.inl (by decide), show (0 : Int) < 59 by decide, ?_⟩⟩
  have hm := modb (v2 + 7 * t) 59 (by decide)
  have hM2 := hM1.trans hM2
  refine ⟨_, _, rfl, rfl, by rw [iL_len]; omega, by rw [iL_len]; omega, ?_⟩
  rw [iL_len, Int.toNat_natCast]
  refine lc_numbers hM2 (by omega) (fun i M' P hP k => ?_) (fun r M3 hr hrs hM3 => ?_)
  · exact ⟨Or.inl (by decide), p, 9, _, rfl, hP, by decide, by decide, k⟩
  refine ⟨_, _, rfl, rfl, by rw [iL_len]; omega, by rw [iL_len]; omega, ?_⟩
  rw [iL_len, Int.toNat_natCast]
  refine lc_prods (row := .lst (iL r)) (e := .lst (iL pt)) (a := r) (pt := pt) (fun _ => rfl) (fun _ => rfl) (fun _ => rfl) rfl rfl (fun i hi => ?_) (fun i hi => ?_) (by omega) (Nat.le_refl _) ?_
  · rw [at_iL (by omega), getD_of (by omega)]
  · rw [getD_of (by omega)]
    have := hrs.get (i := i) (by omega)
    omega
  refine ⟨_, _, rfl, rfl, ?_⟩
  have eS : (prods r pt pt.length).sum = dot r pt := by
    rw [prods_sum r pt _ (by omega) (Nat.le_refl _), List.take_of_length_le (by omega), List.take_of_length_le (Nat.le_refl _)]
  have bS : -243 ≤ (prods r pt pt.length).sum ∧ (prods r pt pt.length).sum ≤ 243 := by
    rw [eS]
    have := dot_b (A := 9) (B := 9) (by decide) (by decide) r pt hrs hs
    omega
  refine ⟨p, 10, rfl, hM3.at, by decide, by decide, fun v3 M4 h31 h32 hM4 => ?_⟩
  have hM4 := hM3.trans hM4
  generalize (prods r pt pt.length).sum = S at bS
  -- from the end
  have T5 : ∀ c M', -1000000 ≤ c → c ≤ 1000000 → PoolTo M p M' → rule5 (enD M Q)
      [some (.cell p), some (.lst (iL pt)), some (.int t), some (.int mood), some (.int ((v1 + t) % 3)), some (.int (2 + (v2 + 7 * t) % 59)), some (.lst (iL r)), some (.int c), some (.int v3), none] M' := by
    intro c M' c1 c2 hM'
    have gd : ∀ k : Kd, k.ok → Q (.d (Cd.enc ⟨k, r, c⟩)) M' := fun k hk => q ⟨k, r, c⟩ M' ⟨hr, fun z hz => by have := hrs z hz; omega, by show -1000000000 ≤ c; omega, by show c ≤ 1000000000; omega, hk⟩ hM'
    have er : iL r ++ [Dat.int c] = iL (r ++ [c]) := by rw [iL_app] <;> rfl
    refine ⟨l1, _, _, rfl, rfl, ?_, _, _, rfl, rfl, ?_⟩
    · rw [iL_len]
      exact lz (by show _ + 1 ≤ _; omega)
    refine ifC (c := false != decide ((v1 + t) % 3 = 2)) (eq_dec _ _) (fun hd => ⟨l3, ?_⟩) (fun hd => ?_)
    · show Q (.d (.tup [.str "div", .int (2 + (v2 + 7 * t) % 59), .tup (iL r ++ [.int c])])) (M.restr M')
      rw [hM'.restr hp, er]
      exact gd (.div _) ⟨by omega, by omega⟩
    · have hne : (v1 + t) % 3 ≠ 2 := of_decide_eq_false hd
      have two : (v1 + t) % 3 = 0 ∨ (v1 + t) % 3 = 1 := by omega
      refine ⟨l2, (v1 + t) % 3, [.str "ge", .str "eq"], .str (if (v1 + t) % 3 = 0 then "ge" else "eq"), rfl, rfl, ?_, l2, ?_⟩
      · rcases two with z | z <;> rw [z] <;> rfl
      show Q (.d (.tup [.str (if (v1 + t) % 3 = 0 then "ge" else "eq"), .tup (iL r ++ [.int c])])) (M.restr M')
      rw [hM'.restr hp, er]
      rcases two with z | z
      · rw [if_pos z]
        exact gd .ge trivial
      · rw [if_neg (by omega)]
        exact gd .eq trivial
  have T4 : ∀ c, -100000 ≤ c → c ≤ 100000 → rule4 (enD M Q) [some (.cell p), some (.lst (iL pt)), some (.int t), some (.int mood), some (.int ((v1 + t) % 3)), some (.int (2 + (v2 + 7 * t) % 59)), some (.lst (iL r)), some (.int c), some (.int v3), none] M4 := fun c c1 c2 =>
    ifC (eq_dec mood 2) (fun _ => ⟨p, 199, rfl, hM4.at, by decide, by decide, fun v M5 h1 h2 hM5 => T5 (v - 99) M5 (by omega) (by omega) (hM4.trans hM5)⟩) (fun _ => T5 c M4 (by omega) (by omega) hM4)
  have T3 : ∀ c, -10000 ≤ c → c ≤ 10000 → rule3 (enD M Q) [some (.cell p), some (.lst (iL pt)), some (.int t), some (.int mood), some (.int ((v1 + t) % 3)), some (.int (2 + (v2 + 7 * t) % 59)), some (.lst (iL r)), some (.int c), some (.int v3), none] M4 := fun c c1 c2 =>
    ifC (eq_dec mood 1) (fun _ => T4 (c - 1) (by omega) (by omega)) (fun _ => T4 c (by omega) (by omega))
  have T2 : ∀ c, -1000 ≤ c → c ≤ 1000 → rule2 (enD M Q) [some (.cell p), some (.lst (iL pt)), some (.int t), some (.int mood), some (.int ((v1 + t) % 3)), some (.int (2 + (v2 + 7 * t) % 59)), some (.lst (iL r)), some (.int c), some (.int v3), none] M4 := fun c c1 c2 => by
    have b3 := modb v3 3 (by decide)
    have b := mulb (A := 61) (B := 1) (x := 2 + (v2 + 7 * t) % 59) (y := v3 % 3 - 1) (by omega) (by omega)
    refine ifC (eq_dec mood 0) (fun _ => ifC (eq_dec ((v1 + t) % 3) 2) (fun _ => ⟨show (0 : Int) < 3 by decide, cmul_r (b := 1) (show -1 ≤ v3 % 3 - 1 ∧ v3 % 3 - 1 ≤ 1 by omega) (by decide), T3 (c + (2 + (v2 + 7 * t) % 59) * (v3 % 3 - 1)) (by omega) (by omega)⟩) (fun _ => T3 c (by omega) (by omega))) (fun _ => T3 c (by omega) (by omega))
  have T1 : ∀ c, -900 ≤ c → c ≤ 900 → rule1 (enD M Q) [some (.cell p), some (.lst (iL pt)), some (.int t), some (.int mood), some (.int ((v1 + t) % 3)), some (.int (2 + (v2 + 7 * t) % 59)), some (.lst (iL r)), some (.int c), some (.int v3), none] M4 := fun c c1 c2 =>
    ifC (eq_dec mood 0) (fun _ => ifC (eq_dec ((v1 + t) % 3) 0) (fun _ => T2 (c + v3) (by omega) (by omega)) (fun _ => T2 c (by omega) (by omega))) (fun _ => T2 c (by omega) (by omega))
  exact T1 (-S) (by omega) (by omega)
end Lw
set_option Elab.async false
set_option linter.all false
set_option maxRecDepth 100000
set_option maxHeartbeats 4000000
namespace Lw
open PySem PySem.Spec PyProof.Rows L2 Dl
/-- the pool has moved on; of the rest, what was there is as it was -/
def PoolRel (M : Mem) (p : Addr) (m : Mem) : Prop := ∃ ns : List Int, ns.length ≤ 63 ∧ m p = some (.lst (iL ns)) ∧ M.restr m = M.set p (.lst (iL ns))
theorem PoolTo.rel {M M' : Mem} {p : Addr} (h : PoolTo M p M') (g : PoolAt M p) : PoolRel M p M' := by
  obtain ⟨ns, h1, rfl⟩ := h
  obtain ⟨ms, g1, g2⟩ := g
  exact ⟨ns, h1, Mem.set_same, by rw [Mem.restr_set_in g2, Mem.restr_self]⟩
theorem PoolRel.at {M m : Mem} {p : Addr} (h : PoolRel M p m) : PoolAt m p := by
  obtain ⟨ns, h1, h2, _⟩ := h
  exact ⟨ns, h1, h2⟩
theorem PoolRel.to {M m : Mem} {p : Addr} (h : PoolRel M p m) : PoolTo M p (M.restr m) := by
  obtain ⟨ns, h1, _, h2⟩ := h
  exact ⟨ns, h1, h2⟩
theorem PoolRel.step {M m m' : Mem} {p : Addr} (h : PoolRel M p m) (hp : PoolAt M p) (g : PoolTo m p m') : PoolRel M p m' := by
  obtain ⟨ns, h1, h2, h3⟩ := h
  obtain ⟨ms, g1, rfl⟩ := g
  obtain ⟨ks, k1, k2⟩ := hp
  exact ⟨ms, g1, Mem.set_same, by rw [Mem.restr_set_in k2, h3, Mem.set_set]⟩
theorem PoolRel.fresh {M m : Mem} {p k : Addr} (h : PoolRel M p m) (hp : PoolAt M p) (hk : m k = none) : M k = none ∧ k ≠ p := by
  obtain ⟨ns, h1, h2, h3⟩ := h
  have kp : k ≠ p := fun z => by
    subst z
    rw [hk] at h2
    cases h2
  refine ⟨?_, kp⟩
  cases e : M k with
  | none => rfl
  | some v =>
    have e2 : (M.restr m) k = m k := by
      unfold Mem.restr
      rw [e]
    rw [h3, hk, Mem.set_ne kp, e] at e2
    cases e2
theorem PoolRel.put {M m : Mem} {p k : Addr} {x : MV} (h : PoolRel M p m) (hk : M k = none) (kp : k ≠ p) : PoolRel M p (m.set k x) := by
  obtain ⟨ns, h1, h2, h3⟩ := h
  exact ⟨ns, h1, (Mem.set_ne kp.symm).trans h2, by rw [Mem.restr_set_out hk]; exact h3⟩
theorem PoolRel.drop {M m : Mem} {p k : Addr} (h : PoolRel M p m) (hk : M k = none) (kp : k ≠ p) : PoolRel M p (m.del k) := by
  obtain ⟨ns, h1, h2, h3⟩ := h
  exact ⟨ns, h1, (Mem.del_ne kp.symm).trans h2, by rw [Mem.restr_del_out hk]; exact h3⟩
theorem PoolTo.keep {m m' : Mem} {p k : Addr} (g : PoolTo m p m') (kp : k ≠ p) : m' k = m k := by
  obtain ⟨ns, h1, rfl⟩ := g
  exact Mem.set_ne kp
theorem ixN_of {n j : Nat} (h : j < n) : ixN n (j : Int) = some j := by
  unfold ixN
  rw [if_pos (by omega), if_pos (by omega), Int.toNat_natCast]
theorem last_split {l : List Int} {w : Nat} (h : l.length = w + 1) : ∃ a c, l = a ++ [c] ∧ a.length = w := by
  have ne : l ≠ [] := fun z => by
    rw [z] at h
    cases h
  refine ⟨l.dropLast, l.getLast ne, (List.dropLast_concat_getLast ne).symm, ?_⟩
  rw [List.length_dropLast, h] <;> rfl
theorem cp109 : CPow 10 9 := ⟨by decide, by decide, by decide⟩
theorem e109 : (10 : Int) ^ (9 : Int).toNat = 1000000000 := by decide
theorem sm_set {b v : Int} {l : List Int} {i : Nat} (h : Sm b l) (hv : -b ≤ v ∧ v ≤ b) : Sm b (l.set i v) := fun x hx => by
  rcases List.mem_or_eq_of_mem_set hx with z | z
  · exact h x z
  · rw [z]
    exact hv
/-- the tail of _law_world -/
def world2 : DS := dRet (dTup (dCons (dVar 1) (dCons (dVar 2) (dCons (dVar 4) (dCons (dHold (dVar 7)) (dNil))))))
theorem mem_set_cd {cs : List Cd} {j : Nat} {y x : Cd} (h : x ∈ cs.set j y) : x ∈ cs ∨ x = y := List.mem_or_eq_of_mem_set h
theorem map_set_cd {cs : List Cd} {j : Nat} {y : Cd} : (cs.map Cd.enc).set j y.enc = (cs.set j y).map Cd.enc := List.map_set.symm
theorem ok__law_world (ds : List Dat) (M : Mem) (Q : Rv → Mem → Prop) (h : fs__law_world ds M Q) : rd__law_world (enD M Q) (startD N__law_world ds) M := by
  obtain ⟨p, rfl, hp, q⟩ := h
  refine ⟨p, 4, rfl, hp, by decide, by decide, fun edge M1 e1 e2 hM1 => ?_⟩
  refine ⟨p, 4, rfl, hM1.at, by decide, by decide, fun v2 M2 _ _ hM2 => ⟨show (0 : Int) < 4 by decide, ?_⟩⟩
  have hw := modb (v2 + 2) 4 (by decide)
  have hM2 := hM1.trans hM2
  refine ⟨p, 6, rfl, hM2.at, by decide, by decide, fun v3 M3 _ _ hM3 => ⟨show (0 : Int) < 6 by decide, ?_⟩⟩
  have hn := modb (v3 + 3) 6 (by decide)
  have hM3 := hM2.trans hM3
  generalize eW : (v2 + 2) % 4 = W at hw
  generalize eN : (v3 + 3) % 6 = N at hn
  refine ⟨show -(2 ^ 62) ≤ (v2 + 2) % 4 by omega, show (v2 + 2) % 4 < 2 ^ 62 by omega, ?_⟩
  refine lc_numbers (n := ((v2 + 2) % 4).toNat) hM3 (by omega) (fun i M' P hP k => ?_) (fun pt M4 hpl hps hM4 => ?_)
  · exact ⟨p, 9, _, rfl, hP, by decide, by decide, k⟩
  refine ⟨p, 3, rfl, hM4.at, by decide, by decide, fun mood M5 m1 m2 hM5 => ?_⟩
  have hM5 := hM4.trans hM5
  refine ⟨p, (if (v3 + 3) % 6 > 1 then (v3 + 3) % 6 else 1), rfl, hM5.at, by split <;> omega, log_ok (by split <;> omega) (by split <;> omega), fun odd M6 _ _ hM6 => ?_⟩
  have hM6 := (hM5.trans hM6).rel hp
  rw [eW] at hpl
  refine ⟨Nat.zero_le _, _, rfl, fun k hk => ?_⟩
  obtain ⟨hMk, kp⟩ := hM6.fresh hp hk
  have hpl' : pt.length ≤ 3 := by omega
  have eWp : (v2 + 2) % 4 = (pt.length : Int) := by omega
  -- the end
  have fin : ∀ (cs : List Cd) (m : Mem) z8 z9 z10, PoolRel M p m → m k = some (.lst (cs.map Cd.enc)) → cs.length ≤ 5 → (∀ x ∈ cs, Gd pt.length 1000000000 x) → world2 (enD M Q) [some (.cell p), some (.int edge), some (.int ((v2 + 2) % 4)), some (.int ((v3 + 3) % 6)), some (.lst (iL pt)), some (.int mood), some (.int odd), some (.cell k), z8, z9, z10] m := by
    intro cs m z8 z9 z10 hm hmk hl hg
    refine ⟨k, _, rfl, hmk, l4, ?_⟩
    show Q (.d (.tup [.int edge, .int ((v2 + 2) % 4), .lst (iL pt), .lst (cs.map Cd.enc)])) (M.restr (m.del k))
    rw [eWp]
    exact q edge pt cs _ e1 e2 hpl' hps hl hg (hm.drop hMk kp).to
  refine ⟨show -(2 ^ 62) ≤ (v3 + 3) % 6 by omega, show (v3 + 3) % 6 < 2 ^ 62 by omega, ?_⟩
  refine for_rng (n := ((v3 + 3) % 6).toNat) (fun i env m => ∃ (cs : List Cd) (z8 : Option Dat), PoolRel M p m ∧ m k = some (.lst (cs.map Cd.enc)) ∧ cs.length = i ∧ (∀ x ∈ cs, Gd pt.length 1000000000 x) ∧ env = [some (.cell p), some (.int edge), some (.int ((v2 + 2) % 4)), some (.int ((v3 + 3) % 6)), some (.lst (iL pt)), some (.int mood), some (.int odd), some (.cell k), z8, none, none]) ?_ (fun i env m hi hj => ?_) fun env m hj => ?_
  · exact ⟨[], none, hM6.put hMk kp, Mem.set_same, rfl, fun x hx => absurd hx List.not_mem_nil, rfl⟩
  · obtain ⟨cs, z8, hm, hmk, hcl, hg, rfl⟩ := hj
    refine ⟨k, _, rfl, hmk, l3, mood, _, .int (if mood = 0 then 0 else if mood = 1 then (if (false != decide (0 + (i : Int) = odd)) = true then 1 else 0) else 2), rfl, rfl, ?_, ?_⟩
    · have three : mood = 0 ∨ mood = 1 ∨ mood = 2 := by omega
      rcases three with z | z | z <;> rw [z] <;> rfl
    refine ⟨p, pt, _, _, rfl, hm.at, hpl', hps, fun x M' gx hM' => ?_⟩
    have hmk' := (hM'.keep kp).trans hmk
    refine ⟨_, hmk', ?_, ?_⟩
    · rw [List.length_map]
      exact Nat.lt_of_lt_of_le (show cs.length < 1001 by omega) (by decide)
    · refine ⟨cs ++ [x], _, (hm.step hp hM').put hMk kp, ?_, ?_, ?_, rfl⟩
      · rw [Mem.set_same, List.map_append] <;> rfl
      · rw [List.length_append, hcl] <;> rfl
      · intro y hy
        rcases List.mem_append.mp hy with z | z
        · exact hg y z
        · rw [List.mem_singleton.mp z]
          exact gx
  · obtain ⟨cs, z8, hm, hmk, hcl, hg, rfl⟩ := hj
    refine ifC (eq_dec edge 3) (fun _ => ?_) (fun _ => fin cs m _ _ _ hm hmk (by omega) hg)
    refine ifC (c := decide (0 < (v3 + 3) % 6)) rfl (fun hpos => ?_) (fun _ => fin cs m _ _ _ hm hmk (by omega) hg)
    have hpos := of_decide_eq_true hpos
    refine ⟨p, (v3 + 3) % 6, rfl, hm.at, hpos, log_ok (by omega) (by omega), fun j m1 j1 j2 hm1 => ?_⟩
    have hm1k := (hm1.keep kp).trans hmk
    have hm1 := hm.step hp hm1
    refine ⟨p, (v2 + 2) % 4 + 1, rfl, hm1.at, by omega, log_ok (by omega) (by omega), fun c m2 c1 c2 hm2 => ?_⟩
    have hm2k := (hm2.keep kp).trans hm1k
    have hm2 := hm1.step hp hm2
    have hj : j.toNat < cs.length := by omega
    have ej : j = (j.toNat : Int) := by omega
    have ex : atI (cs.map Cd.enc) j = some (cs[j.toNat]).enc := by
      have h := Dl.atI_nat (xs := cs.map Cd.enc) (i := j.toNat) (y := (cs[j.toNat]).enc) (by rw [List.getElem?_map, List.getElem?_eq_getElem hj] <;> rfl)
      rwa [← ej] at h
    generalize ecx : cs[j.toNat] = x at ex
    have gx : Gd pt.length 1000000000 x := by
      rw [← ecx]
      exact hg _ (List.getElem_mem hj)
    refine ⟨j, _, _, rfl, hm2k, ex, -1, _, _, rfl, seq_enc x, its_l x, _, _, rfl, rfl, _, rfl, fun k2 hk2 => ?_⟩
    obtain ⟨hMk2, k2p⟩ := hm2.fresh hp hk2
    have kk2 : k ≠ k2 := fun z => by
      subst z
      rw [hm2k] at hk2
      cases hk2
    refine ⟨cp109, Or.inl (by decide), p, 2 * 10 ^ (9 : Int).toNat + 1, rfl, (hm2.put hMk2 k2p).at, by decide, by decide, fun v m3 v1 v2' hm3 => ⟨cp109, ?_⟩⟩
    have bv : -1000000000 ≤ v - 10 ^ (9 : Int).toNat ∧ v - 10 ^ (9 : Int).toNat ≤ 1000000000 := by
      rw [e109] at v2' ⊢
      omega
    have hm3k2 : m3 k2 = some (.lst (iL (x.a ++ [x.c]))) := (hm3.keep k2p).trans Mem.set_same
    have hm3k : m3 k = some (.lst (cs.map Cd.enc)) := ((hm3.keep kp).trans (Mem.set_ne kk2)).trans hm2k
    have hm3 := (hm2.put hMk2 k2p).step hp hm3
    have cl : c.toNat < (x.a ++ [x.c]).length := by
      rw [List.length_append, gx.1]
      show _ < _ + 1
      omega
    refine ⟨k2, _, c, c.toNat, rfl, rfl, hm3k2, ?_, ?_⟩
    · have := ixN_of (n := (iL (x.a ++ [x.c])).length) (j := c.toNat) (by rw [iL_len]; exact cl)
      rw [show c = (c.toNat : Int) by omega]
      exact this
    have e5 : (iL (x.a ++ [x.c])).set c.toNat (Dat.int (v - 10 ^ (9 : Int).toNat)) = iL ((x.a ++ [x.c]).set c.toNat (v - 10 ^ (9 : Int).toNat)) := List.map_set.symm
    have sm0 : Sm 1000000000 (x.a ++ [x.c]) := fun z hz => by
      rcases List.mem_append.mp hz with h | h
      · exact gx.2.1 z h
      · rw [List.mem_singleton.mp h]
        exact ⟨gx.2.2.1, gx.2.2.2.1⟩
    have sm1 := sm_set (i := c.toNat) sm0 bv
    obtain ⟨a', c', e6, la⟩ := last_split (l := (x.a ++ [x.c]).set c.toNat (v - 10 ^ (9 : Int).toNat)) (w := pt.length) (by rw [List.length_set, List.length_append, gx.1] <;> rfl)
    have hm4k : (m3.set k2 (.lst ((iL (x.a ++ [x.c])).set c.toNat (Dat.int (v - 10 ^ (9 : Int).toNat))))) k = some (.lst (cs.map Cd.enc)) := (Mem.set_ne kk2).trans hm3k
    refine ⟨j, _, _, rfl, hm4k, ex, _, _, rfl, Mem.set_same, l1, ?_, k, _, j, j.toNat, rfl, rfl, hm4k, ?_, ?_⟩
    · exact Nat.le_trans (Nat.add_le_add_right (its_cut_len x) 1) (by decide)
    · have := ixN_of (n := (cs.map Cd.enc).length) (j := j.toNat) (by rw [List.length_map]; exact hj)
      rw [ej]
      exact this
    have gx' : Gd pt.length 1000000000 ⟨x.k, a', c'⟩ := by
      rw [e6] at sm1
      exact ⟨la, fun z hz => sm1 z (List.mem_append_left _ hz), (sm1 c' (List.mem_append_right _ List.mem_cons_self)).1, (sm1 c' (List.mem_append_right _ List.mem_cons_self)).2, gx.2.2.2.2⟩
    have e7 : Dat.tup (cut x.its none (some (-1)) ++ [Dat.tup ((iL (x.a ++ [x.c])).set c.toNat (Dat.int (v - 10 ^ (9 : Int).toNat)))]) = Cd.enc ⟨x.k, a', c'⟩ := by
      rw [e5, e6]
      exact congrArg Dat.tup (its_put x.k x.a a' x.c c')
    refine fin (cs.set j.toNat ⟨x.k, a', c'⟩) _ _ _ _ (((hm3.put hMk2 k2p)).put hMk kp) ?_ (by rw [List.length_set]; omega) (fun y hy => ?_)
    · rw [Mem.set_same]
      exact congrArg (fun l => some (MV.lst l)) ((congrArg (fun d => (cs.map Cd.enc).set j.toNat d) e7).trans map_set_cd)
    · rcases mem_set_cd hy with z | z
      · exact hg y z
      · rw [z]
        exact gx'
end Lw
set_option Elab.async false
set_option linter.all false
set_option maxRecDepth 100000
set_option maxHeartbeats 4000000
namespace Lw
open PySem PySem.Spec PyProof.Rows L2 Dl
def points2 : DS := dRet (dLst (dCons (dVar 2) (dCons (dHold (dVar 3)) (dCons (dHold (dVar 4)) (dNil)))))
def points1 : DS := dSeq (dIfS (dAnd (dTest (dOp oEq (dVar 1) (dC (.int 3)))) (dTest (dOp oGt (dCB bLen (dCons (dVar 2) (dNil))) (dC (.int 0))))) (dSeq (dSet (dCB fs__law_draw (dCons (dVar 0) (dCons (dCB bLen (dCons (dVar 2) (dNil))) (dNil)))) 5)
  (dSetI (dOp oSub (dCB fs__law_draw (dCons (dVar 0) (dCons (dOp oAdd (dOp oMul (dC (.int 2)) (dOp oPow (dC (.int 10)) (dC (.int 9)))) (dC (.int 1))) (dNil)))) (dOp oPow (dC (.int 10)) (dC (.int 9)))) (dVar 4) (dVar 5))) (dNext)) points2
theorem sm_mono {a b : Int} {l : List Int} (h : Sm a l) (hab : a ≤ b) : Sm b l := fun x hx => by
  have := h x hx
  omega
theorem ok__law_points (ds : List Dat) (M : Mem) (Q : Rv → Mem → Prop) (h : fs__law_points ds M Q) : rd__law_points (enD M Q) (startD N__law_points ds) M := by
  obtain ⟨p, edge, pt, rfl, hp, hl, hs, q⟩ := h
  refine ⟨_, _, rfl, rfl, _, rfl, fun k1 hk1 => ?_⟩
  obtain ⟨hM1, k1p⟩ := (hp.refl.rel hp).fresh hp hk1
  refine ⟨_, _, rfl, rfl, by rw [iL_len]; omega, by rw [iL_len]; omega, ?_⟩
  rw [iL_len, Int.toNat_natCast]
  have hR0 : PoolRel M p (M.set k1 (.lst (iL pt))) := (hp.refl.rel hp).put hM1 k1p
  refine lc_numbers (hR0.at).refl (by omega) (fun i M' P hP k => ?_) (fun far M2 hfl hfs hM2 => ?_)
  · exact ⟨p, 9, _, rfl, hP, by decide, by decide, k⟩
  have hk1' : M2 k1 = some (.lst (iL pt)) := (hM2.keep k1p).trans Mem.set_same
  have hR1 := hR0.step hp hM2
  refine ⟨_, rfl, fun k2 hk2 => ?_⟩
  obtain ⟨hMk2, k2p⟩ := hR1.fresh hp hk2
  have k12 : k1 ≠ k2 := fun z => by
    subst z
    rw [hk1'] at hk2
    cases hk2
  have hR2 : PoolRel M p (M2.set k2 (.lst (iL far))) := hR1.put hMk2 k2p
  have hk1'' : (M2.set k2 (.lst (iL far))) k1 = some (.lst (iL pt)) := (Mem.set_ne k12).trans hk1'
  have fin2 : ∀ (near far : List Int) z m, PoolRel M p m → m k1 = some (.lst (iL near)) → m k2 = some (.lst (iL far)) → near.length = pt.length → far.length = pt.length → Sm 1000000000 near → Sm 1000000000 far →
      points2 (enD M Q) [some (.cell p), some (.int edge), some (.lst (iL pt)), some (.cell k1), some (.cell k2), z] m := by
    intro near far z m hm h1 h2 l1' l2' s1 s2
    refine ⟨k1, _, rfl, h1, k2, _, rfl, (Mem.del_ne k12.symm).trans h2, l3, ?_⟩
    show Q (.new (.lst [.lst (iL pt), .lst (iL near), .lst (iL far)])) (M.restr ((m.del k1).del k2))
    exact q near far _ l1' l2' s1 s2 ((hm.drop hM1 k1p).drop hMk2 k2p).to
  have fin1 : ∀ (near : List Int) z m, PoolRel M p m → m k1 = some (.lst (iL near)) → m k2 = some (.lst (iL far)) → near.length = pt.length → Sm 1000000000 near →
      points1 (enD M Q) [some (.cell p), some (.int edge), some (.lst (iL pt)), some (.cell k1), some (.cell k2), z] m := by
    intro near z m hm h1 h2 l1' s1
    have sf := sm_mono (b := 1000000000) hfs (by decide)
    refine ifC (eq_dec edge 3) (fun _ => ?_) (fun _ => fin2 near far z m hm h1 h2 l1' hfl s1 sf)
    refine ⟨_, _, rfl, rfl, ifC (c := decide ((0 : Int) < (iL pt).length)) rfl (fun hpos => ?_) (fun _ => fin2 near far z m hm h1 h2 l1' hfl s1 sf)⟩
    have hpos := of_decide_eq_true hpos
    rw [iL_len] at hpos
    refine ⟨_, _, rfl, rfl, p, _, rfl, hm.at, by rw [iL_len]; exact hpos, log_ok (by omega) (by rw [iL_len]; omega), fun j m1 j1 j2 hm1 => ?_⟩
    have h1a := (hm1.keep k1p).trans h1
    have h2a := (hm1.keep k2p).trans h2
    have hm1 := hm.step hp hm1
    refine ⟨cp109, Or.inl (by decide), p, 2 * 10 ^ (9 : Int).toNat + 1, rfl, hm1.at, by decide, by decide, fun v m3 v1 v2' hm3 => ⟨cp109, ?_⟩⟩
    have bv : -1000000000 ≤ v - 10 ^ (9 : Int).toNat ∧ v - 10 ^ (9 : Int).toNat ≤ 1000000000 := by
      rw [e109] at v2' ⊢
      omega
    have h1b := (hm3.keep k1p).trans h1a
    have h2b := (hm3.keep k2p).trans h2a
    have hm3 := hm1.step hp hm3
    rw [iL_len] at j2
    have hj : j.toNat < far.length := by omega
    have ej : j = (j.toNat : Int) := by omega
    refine ⟨k2, _, j, j.toNat, rfl, rfl, h2b, ?_, ?_⟩
    · have := ixN_of (n := (iL far).length) (j := j.toNat) (by rw [iL_len]; exact hj)
      rwa [← ej] at this
    refine fin2 near (far.set j.toNat (v - 10 ^ (9 : Int).toNat)) _ _ (hm3.put hMk2 k2p) ((Mem.set_ne k12).trans h1b) ?_ l1' (by rw [List.length_set]; exact hfl) s1 (sm_set sf bv)
    rw [Mem.set_same]
    exact congrArg (fun l => some (MV.lst l)) List.map_set.symm
  refine ⟨_, _, rfl, rfl, ifC (c := decide ((0 : Int) < (iL pt).length)) rfl (fun hpos => ?_) (fun _ => fin1 pt _ _ hR2 hk1'' Mem.set_same rfl (sm_mono hs (by decide)))⟩
  have hpos := of_decide_eq_true hpos
  rw [iL_len] at hpos
  refine ⟨_, _, rfl, rfl, p, _, rfl, hR2.at, by rw [iL_len]; exact hpos, log_ok (by omega) (by rw [iL_len]; omega), fun j m1 j1 j2 hm1 => ?_⟩
  have h1a := (hm1.keep k1p).trans hk1''
  have h2a := (hm1.keep k2p).trans (Mem.set_same (M := M2) (m := .lst (iL far)))
  have hm1 := hR2.step hp hm1
  rw [iL_len] at j2
  have hj : j.toNat < pt.length := by omega
  have ej : j = (j.toNat : Int) := by omega
  have ex : atI (iL pt) j = some (.int pt[j.toNat]) := by
    have h := at_iL hj
    rwa [← ej] at h
  have bj := hs.get hj
  refine ⟨j, _, _, rfl, h1a, ex, p, 2, rfl, hm1.at, by decide, by decide, fun v m3 v1 v2' hm3 => ⟨Or.inl (by decide), ?_⟩⟩
  have h1b := (hm3.keep k1p).trans h1a
  have h2b := (hm3.keep k2p).trans h2a
  have hm3 := hm1.step hp hm3
  refine ⟨k1, _, j, j.toNat, rfl, rfl, h1b, ?_, ?_⟩
  · have := ixN_of (n := (iL pt).length) (j := j.toNat) (by rw [iL_len]; exact hj)
    rwa [← ej] at this
  refine fin1 (pt.set j.toNat (pt[j.toNat] + 1 - 2 * v)) _ _ (hm3.put hM1 k1p) ?_ ((Mem.set_ne k12.symm).trans h2b) (by rw [List.length_set]) (sm_set (sm_mono hs (by decide)) (by omega))
  rw [Mem.set_same]
  exact congrArg (fun l => some (MV.lst l)) List.map_set.symm
end Lw
set_option Elab.async false
set_option linter.all false
set_option maxRecDepth 100000
set_option maxHeartbeats 4000000
namespace Lw
open PySem PySem.Spec PyProof.Rows L2 Dl
/-! ### what repr shows -/
theorem shown_int_len {i : Int} (h : -10000000000000000000000000000000000000000 ≤ i ∧ i ≤ 10000000000000000000000000000000000000000) : (PyData.shown (.int i)).length ≤ 42 := by
  have h1 : i.natAbs < 10 ^ 41 := by
    have e2 : (10 : Nat) ^ 41 = 100000000000000000000000000000000000000000 := by decide
    rw [e2]
    omega
  have h2 := int_text_length_le10 (k := 41) (by decide) h1
  show (Str.ofString (toString i)).length ≤ 42
  rw [PySem.ofString_length]
  exact h2
theorem show_int_log {i : Int} (h : -10000000000000000000000000000000000000000 ≤ i ∧ i ≤ 10000000000000000000000000000000000000000) : i.natAbs.log2 < 1920 := by
  by_cases z : i.natAbs = 0
  · rw [z]
    exact (by decide : Nat.log2 0 < 1920)
  · have h2 : i.natAbs < 2 ^ 150 := Nat.lt_of_le_of_lt (show i.natAbs ≤ 10000000000000000000000000000000000000000 by omega) (by decide)
    exact Nat.lt_of_lt_of_le ((Nat.log2_lt z).mpr h2) (by decide)
theorem shows_int {i : Int} (h : -10000000000000000000000000000000000000000 ≤ i ∧ i ≤ 10000000000000000000000000000000000000000) : Shows (.int i) :=
  ⟨by
    simp only [PyData.showable]
    exact decide_eq_true (show_int_log h), Nat.zero_le _, rfl, Nat.le_trans (shown_int_len h) (by decide)⟩
theorem shows_bool (b : Bool) : Shows (.bool b) := by
  cases b <;> exact ⟨rfl, by decide, rfl, by decide⟩
abbrev pyR (r : List Int) : PyData := .tuple (r.map PyData.int)
abbrev B40 : Int := 10000000000000000000000000000000000000000
theorem ints_sh : ∀ {r : List Int}, Sm B40 r → PyData.showableAll (r.map PyData.int) = true
  | [], _ => rfl
  | x :: r, h => by
    rw [List.map_cons]
    simp only [PyData.showableAll, PyData.showable, Bool.and_eq_true]
    exact ⟨decide_eq_true (show_int_log (h x List.mem_cons_self)), ints_sh fun y hy => h y (List.mem_cons_of_mem _ hy)⟩
theorem ints_nd : ∀ (r : List Int), PyData.hasDictAll (r.map PyData.int) = false
  | [] => rfl
  | x :: r => by
    rw [List.map_cons]
    simp only [PyData.hasDictAll, PyData.hasDict, Bool.false_or]
    exact ints_nd r
theorem ints_lv : ∀ {r : List Int}, Sm B40 r → PyData.leavesShortAll 42 (r.map PyData.int) = true
  | [], _ => rfl
  | x :: r, h => by
    rw [List.map_cons]
    simp only [PyData.leavesShortAll, PyData.leavesShort, Bool.and_eq_true]
    exact ⟨decide_eq_true (shown_int_len (h x List.mem_cons_self)), ints_lv fun y hy => h y (List.mem_cons_of_mem _ hy)⟩
theorem ints_bk : ∀ (r : List Int), PyData.bulkAll (r.map PyData.int) = r.length
  | [] => rfl
  | x :: r => by
    rw [List.map_cons]
    simp only [PyData.bulkAll, PyData.bulk, List.length_cons]
    rw [ints_bk r]
    omega
theorem rows_all {n : Nat} : ∀ {rs : List (List Int)}, (∀ r ∈ rs, Sm B40 r ∧ r.length ≤ n) → PyData.showableAll (rs.map pyR) = true ∧ PyData.hasDictAll (rs.map pyR) = false ∧ PyData.leavesShortAll 42 (rs.map pyR) = true ∧ PyData.bulkAll (rs.map pyR) ≤ (n + 1) * rs.length ∧ PyData.depthAll (rs.map pyR) ≤ 1
  | [], _ => ⟨rfl, rfl, rfl, Nat.zero_le _, Nat.zero_le _⟩
  | x :: rs, h => by
    obtain ⟨h1, h2, h3, h4, h5⟩ := rows_all (rs := rs) fun y hy => h y (List.mem_cons_of_mem _ hy)
    obtain ⟨g1, g2⟩ := h x List.mem_cons_self
    rw [List.map_cons]
    simp only [PyData.showableAll, PyData.showable, PyData.hasDictAll, PyData.hasDict, PyData.leavesShortAll, PyData.leavesShort, PyData.bulkAll, PyData.bulk, PyData.depthAll, PyData.depth]
    refine ⟨by rw [ints_sh g1, h1] <;> rfl, by rw [ints_nd, h2] <;> rfl, by rw [ints_lv g1, h3] <;> rfl, ?_, ?_⟩
    · rw [ints_bk, List.length_cons, Nat.mul_add, Nat.mul_one]
      omega
    · rw [depth_ints]
      omega
theorem shows_rows {n : Nat} {rs : List (List Int)} (h : ∀ r ∈ rs, Sm B40 r ∧ r.length ≤ n) (hs : (n + 1) * rs.length ≤ 300000) : Shows (.list (rs.map pyR)) := by
  obtain ⟨h1, h2, h3, h4, h5⟩ := rows_all h
  refine ⟨by simp only [PyData.showable]; exact h1, by simp only [PyData.depth]; omega, by simp only [PyData.hasDict]; exact h2, ?_⟩
  have hl : PyData.leavesShort 42 (.list (rs.map pyR)) = true := by
    simp only [PyData.leavesShort]
    exact h3
  have hb : PyData.bulk (.list (rs.map pyR)) ≤ 300000 := by
    simp only [PyData.bulk]
    omega
  have h6 := PyData.shown_le_bulk 42 (by decide) _ hl
  have h7 : (42 + 2) * PyData.bulk (.list (rs.map pyR)) ≤ 44 * 300000 := Nat.mul_le_mul (by decide) hb
  exact Nat.le_trans (by omega) (show 44 * 300000 + 42 ≤ sizeLine by decide)
theorem py_rows {M : Mem} (rs : List (List Int)) : PyOfA M (rs.map encR) (rs.map pyR) := PyOfA.map (fun r => .tup (PyOfA.ints M r)) rs
/-! ### the plain rows are small -/
theorem qv_sm {n s : Nat} {k : Kd} (h : k.ok) : Sm 60 (qv n s k) := by
  have h0 : Sm 60 (List.replicate n (0 : Int)) := fun z hz => by
    have := List.eq_of_mem_replicate hz
    omega
  cases k with
  | ge => exact h0
  | eq => exact h0
  | div m =>
    have h' : 2 ≤ m ∧ m ≤ 60 := h
    exact sm_set h0 (by omega)
/-- a row as its coefficients and its constant -/
def RowOk (n : Nat) (r : List Int) : Prop := ∃ a c, r = a ++ [c] ∧ a.length = n ∧ Sm 1000000000 a ∧ -10000000000000000000 ≤ c ∧ c ≤ 10000000000000000000
theorem prow_ok {w n s : Nat} {x : Cd} (h : Gd w 10000000000000000000 x) : RowOk (w + n) (prow n s x) := by
  refine ⟨x.a ++ qv n s x.k, x.c, rfl, by rw [List.length_append, qv_len, h.1], fun z hz => ?_, h.2.2.1, h.2.2.2.1⟩
  rcases List.mem_append.mp hz with k | k
  · exact h.2.1 z k
  · have := qv_sm h.2.2.2.2 z k
    omega
theorem neg_ok {n : Nat} {r : List Int} (h : RowOk n r) : RowOk n (r.map fun y => -y) := by
  obtain ⟨a, c, rfl, h1, h2, h3, h4⟩ := h
  refine ⟨a.map fun y => -y, -c, by rw [List.map_append] <;> rfl, by rw [List.length_map, h1], fun z hz => ?_, by omega, by omega⟩
  obtain ⟨y, hy, rfl⟩ := List.mem_map.mp hz
  have := h2 y hy
  omega
theorem prows_ok {w n : Nat} : ∀ (r : List Cd) (s : Nat), Good w r → ∀ y ∈ prows n s r, RowOk (w + n) y
  | [], s, _, y, hy => absurd hy List.not_mem_nil
  | x :: r, s, hg, y, hy => by
    rcases List.mem_append.mp (show y ∈ prows1 n s x ++ prows n (nxt s x.k) r from hy) with k | k
    · unfold prows1 at k
      have px := prow_ok (n := n) (s := s) (hg x List.mem_cons_self)
      rcases List.mem_cons.mp k with z | z
      · rw [z]
        exact px
      · split at z
        · exact absurd z List.not_mem_nil
        · rw [List.mem_singleton.mp z]
          exact neg_ok px
    · exact prows_ok r _ (fun z hz => hg z (List.mem_cons_of_mem _ hz)) y k
theorem prows_len {n : Nat} : ∀ (r : List Cd) (s : Nat), (prows n s r).length ≤ 2 * r.length
  | [], s => Nat.zero_le _
  | x :: r, s => by
    show (prows1 n s x ++ prows n (nxt s x.k) r).length ≤ _
    have := prows_len (n := n) r (nxt s x.k)
    rw [List.length_append, List.length_cons]
    unfold prows1
    have e : (if x.k.isGe = true then ([] : List (List Int)) else [(prow n s x).map fun y => -y]).length ≤ 1 := by split <;> simp
    rw [List.length_cons]
    omega
theorem row_sm {n : Nat} {r : List Int} (h : RowOk n r) : Sm B40 r ∧ r.length ≤ n + 1 := by
  obtain ⟨a, c, rfl, h1, h2, h3, h4⟩ := h
  refine ⟨fun z hz => ?_, by rw [List.length_append, h1]; exact Nat.le_refl _⟩
  rcases List.mem_append.mp hz with k | k
  · have := h2 z k
    show -10000000000000000000000000000000000000000 ≤ z ∧ z ≤ 10000000000000000000000000000000000000000
    omega
  · rw [List.mem_singleton.mp k]
    show -10000000000000000000000000000000000000000 ≤ c ∧ c ≤ 10000000000000000000000000000000000000000
    omega
theorem shows_prows {w : Nat} {cs : List Cd} (hw : w ≤ 10) (hl : cs.length ≤ 100) (hg : Good w cs) : Shows (.list ((prows (nd cs) 0 cs).map pyR)) := by
  have h1 := nd_le cs
  have h2 := prows_len (n := nd cs) cs 0
  refine shows_rows (n := 111) (fun r hr => ?_) ?_
  · obtain ⟨h3, h4⟩ := row_sm (prows_ok cs 0 hg r hr)
    exact ⟨h3, by omega⟩
  · exact Nat.le_trans (Nat.mul_le_mul_left _ (show (prows (nd cs) 0 cs).length ≤ 200 by omega)) (by decide)
theorem same_str (s : Str) : (true != decide (s = s)) = false := by
  rw [decide_eq_true rfl] <;> rfl
theorem same_str2 (s : Str) : (false != decide (s = s)) = true := by
  rw [decide_eq_true rfl] <;> rfl
theorem ok__law_has_rows (C : Addr) (ds : List Dat) (M : Mem) (Q : Rv → Mem → Prop) (h : fs__law_has_rows C ds M Q) : rd__law_has_rows C (enD M Q) (startD N__law_has_rows ds) M := by
  obtain ⟨w, cs, rfl, hw, hl, hg, q⟩ := h
  have hn := nd_le cs
  have hxa : ∀ x ∈ cs, x.a.length = w := fun x hx => (hg x hx).1
  refine ⟨w, cs, rfl, by omega, by omega, hxa, ?_⟩
  refine ⟨_, rfl, ?_⟩
  refine lc_filter (enc := Cd.enc) cs (fun x => x.k.isDiv) Cd.enc (lz (by omega)) ?_ (fun x hx P hP => ?_) (fun x hx P hP => ?_) ?_
  · trivial
  · refine ⟨0, _, _, rfl, seq_enc x, its_0 x, ?_⟩
    show P (false != decide (x.k.nm = "div")) M
    rw [nm_div2]
    exact hP
  · exact hP _ rfl
  refine ⟨_, _, rfl, rfl, ?_⟩
  have eN : ((((cs.filter fun x => x.k.isDiv).map Cd.enc).length : Nat) : Int) = (nd cs : Int) := by
    rw [List.length_map] <;> rfl
  rw [eN]
  have sI : Shows (.int ((w : Int) + (nd cs : Int))) := shows_int (by omega)
  have sR := shows_prows hw hl hg
  refine ⟨_, _, rfl, ⟨rfl, rfl⟩, w, cs, rfl, by omega, _, _, rfl, .int _, sI, _, _, rfl, .int _, sI, ifF (same_str _) ?_⟩
  refine ⟨_, _, rfl, ⟨rfl, rfl⟩, by rfl, w, cs, rfl, by omega, by omega, hxa, _, rfl, fun k hk => ?_⟩
  refine ⟨_, _, rfl, .cell Mem.set_same (py_rows _), sR, _, _, rfl, .lst (py_rows _), sR, ifF (same_str _) ?_⟩
  have hpl := prows_len (n := nd cs) cs 0
  refine ⟨k, _, rfl, Mem.set_same, l1, by omega, by omega, show 1 ≤ 1000 by decide, l1, ?_, _, Mem.set_same, ?_, ?_⟩
  · rw [rep_flat, List.length_replicate]
    exact lz (by show _ + 1 ≤ _; omega)
  · rw [List.length_map]
    exact Nat.lt_of_lt_of_le (show (prows (nd cs) 0 cs).length < 1001 by omega) (by decide)
  refine ⟨l1, by omega, by omega, show 1 ≤ 1000 by decide, k, _, 0, 0, rfl, rfl, Mem.set_same, ?_, ?_⟩
  · rw [List.length_append]
    unfold ixN
    rw [if_pos (by omega), if_pos (by show (0 : Int) < ((_ + 1 : Nat) : Int); omega)] <;> rfl
  refine ⟨_, _, rfl, ⟨rfl, rfl⟩, by rfl, w, cs, rfl, by omega, by omega, hxa, ?_⟩
  refine ⟨_, _, rfl, .lst (py_rows _), sR, _, _, rfl, .lst (py_rows _), sR, ?_⟩
  refine ifT (same_str2 _) ?_
  refine ⟨_, _, rfl, ⟨rfl, rfl⟩, w, cs, rfl, by omega, _, _, rfl, .int _, sI, _, _, rfl, .int _, sI, ?_⟩
  show Q (.d (.bl (false != decide (_ = _)))) (M.restr _)
  rw [same_str2, Mem.set_set, Mem.set_set, Mem.restr_set_out hk, Mem.restr_self]
  exact q
end Lw
set_option Elab.async false
set_option linter.all false
set_option maxRecDepth 100000
set_option maxHeartbeats 4000000
namespace Lw
open PySem PySem.Spec PyProof.Rows L2 Dl
/-! ### the plain law of the values -/
def rval (r p : List Int) : Int := r.getLastD 0 + dot r.dropLast p
theorem rval_app {a p : List Int} {c : Int} : rval (a ++ [c]) p = c + dot a p := by
  unfold rval
  rw [List.dropLast_concat, List.getLastD_eq_getLast?, List.getLast?_concat] <;> rfl
theorem dot_app : ∀ {a b p q : List Int}, a.length = p.length → dot (a ++ b) (p ++ q) = dot a p + dot b q
  | [], b, [], q, _ => by
    show dot b q = 0 + dot b q
    rw [Int.zero_add]
  | x :: a, b, y :: p, q, h => by
    show x * y + dot (a ++ b) (p ++ q) = x * y + dot a p + dot b q
    rw [dot_app (Nat.succ.inj h), Int.add_assoc]
theorem dot_zero : ∀ {n : Nat} {q : List Int}, dot (List.replicate n 0) q = 0
  | 0, q => rfl
  | n + 1, [] => rfl
  | n + 1, y :: q => by
    show 0 * y + dot (List.replicate n 0) q = 0
    rw [dot_zero, Int.zero_mul] <;> rfl
theorem dot_set : ∀ {n s : Nat} {q : List Int} {y z : Int}, s < n → q[s]? = some z → dot ((List.replicate n 0).set s y) q = y * z
  | 0, s, q, y, z, h, _ => absurd h (Nat.not_lt_zero _)
  | n + 1, s, [], y, z, _, h => by
    rw [List.getElem?_nil] at h
    cases h
  | n + 1, 0, b :: q, y, z, _, h => by
    have e : b = z := by simpa using h
    subst e
    show y * b + dot (List.replicate n 0) q = y * b
    rw [dot_zero, Int.add_zero]
  | n + 1, s + 1, b :: q, y, z, h, h2 => by
    show 0 * b + dot ((List.replicate n 0).set s y) q = y * z
    rw [dot_set (Nat.lt_of_succ_lt_succ h) (by simpa using h2), Int.zero_mul, Int.zero_add]
theorem dot_neg : ∀ {a p : List Int}, dot (a.map fun y => -y) p = -(dot a p)
  | [], p => by
    show (0 : Int) = -0
    rfl
  | x :: a, [] => by
    show (0 : Int) = -0
    rfl
  | x :: a, y :: p => by
    show -x * y + dot (a.map fun y => -y) p = -(x * y + dot a p)
    rw [dot_neg, Int.neg_mul]
    omega
theorem rval_neg {a p : List Int} {c : Int} : rval ((a ++ [c]).map fun y => -y) p = -(rval (a ++ [c]) p) := by
  rw [List.map_append, show [c].map (fun y => -y) = [-c] from rfl, rval_app, rval_app, dot_neg]
  omega
def quo (x : Cd) (pt : List Int) : List Int := match x.k with
  | .div m => [(x.c + dot x.a pt) / m]
  | _ => []
def quots (pt : List Int) : List Cd → List Int
  | [] => []
  | x :: r => quo x pt ++ quots pt r
theorem quots_len (pt : List Int) : ∀ r : List Cd, (quots pt r).length = nd r
  | [] => rfl
  | x :: r => by
    show (quo x pt ++ quots pt r).length = _
    rw [List.length_append, quots_len pt r, nd_cons]
    unfold quo
    rcases kd_cases x.k with h | h | ⟨m, h⟩ <;> rw [h] <;> rfl
theorem bool_ext {a b : Bool} (h : a = true ↔ b = true) : a = b := by
  cases a <;> cases b
  · rfl
  · exact (h.mpr rfl)
  · exact (h.mp rfl).symm
  · rfl
theorem all_prows {w : Nat} {pt : List Int} (hp : pt.length = w) : ∀ (r : List Cd) (seen : Nat) (pre : List Int), Good w r → pre.length = seen →
    (prows (pre ++ quots pt r).length seen r).all (fun y => decide (0 ≤ rval y (pt ++ (pre ++ quots pt r)))) = r.all fun x => x.met pt
  | [], _, _, _, _ => rfl
  | x :: r, seen, pre, hg, hs => by
    have gx := hg x List.mem_cons_self
    have ih := all_prows hp r (nxt seen x.k) (pre ++ quo x pt) (fun y hy => hg y (List.mem_cons_of_mem _ hy)) (by
      rw [List.length_append, hs]
      unfold nxt quo
      rcases kd_cases x.k with h | h | ⟨m, h⟩ <;> rw [h] <;> rfl)
    rw [List.append_assoc] at ih
    show (prows1 _ seen x ++ prows _ (nxt seen x.k) r).all _ = _
    rw [List.all_append, List.all_cons]
    rw [show pre ++ quots pt (x :: r) = pre ++ (quo x pt ++ quots pt r) from rfl, ih]
    refine congrArg (fun b => b && r.all fun x => x.met pt) ?_
    generalize hQ : pre ++ (quo x pt ++ quots pt r) = Q
    have one : ∀ a, rval (x.a ++ a ++ [x.c]) (pt ++ Q) = x.c + dot x.a pt + dot a Q := fun a => by
      rw [rval_app, dot_app (by rw [gx.1, hp])]
      omega
    have neg : ∀ a, rval ((x.a ++ a ++ [x.c]).map fun y => -y) (pt ++ Q) = -(x.c + dot x.a pt + dot a Q) := fun a => by
      rw [rval_neg, one]
    unfold prows1 prow
    rcases kd_cases x.k with h | h | ⟨m, h⟩
    · rw [met_ge h, h]
      show (decide _ && true) = _
      rw [Bool.and_true, one, show qv Q.length seen .ge = List.replicate Q.length 0 from rfl, dot_zero, Int.add_zero]
    · rw [met_eq h, h]
      show (decide _ && (decide _ && true)) = _
      rw [Bool.and_true, one, neg, show qv Q.length seen .eq = List.replicate Q.length 0 from rfl, dot_zero, Int.add_zero]
      refine bool_ext ?_
      rw [Bool.and_eq_true, decide_eq_true_iff, decide_eq_true_iff, decide_eq_true_iff]
      omega
    · rw [met_div h, h]
      show (decide _ && (decide _ && true)) = _
      have hm : 2 ≤ m ∧ m ≤ 60 := by
        have := gx.2.2.2.2
        rw [h] at this
        exact this
      have eq_ : quo x pt = [(x.c + dot x.a pt) / m] := by
        unfold quo
        rw [h]
      have hz : Q[seen]? = some ((x.c + dot x.a pt) / m) := by
        rw [← hQ, eq_, List.getElem?_append_right (by omega), hs, Nat.sub_self] <;> rfl
      have hlt : seen < Q.length := by
        rw [← hQ, eq_, List.length_append, List.length_append]
        show seen < _ + (1 + _)
        omega
      rw [Bool.and_true, one, neg, show qv Q.length seen (.div m) = (List.replicate Q.length 0).set seen (-m) from rfl, dot_set hlt hz]
      generalize x.c + dot x.a pt = v
      have e1 : v + -m * (v / m) = v % m := by
        have := Int.mul_ediv_add_emod v m
        rw [Int.neg_mul]
        omega
      rw [e1]
      have hb := modb v m (by omega)
      refine bool_ext ?_
      rw [Bool.and_eq_true, decide_eq_true_iff, decide_eq_true_iff, decide_eq_true_iff]
      omega
theorem all_prows0 {w : Nat} {pt : List Int} {cs : List Cd} (hp : pt.length = w) (hg : Good w cs) :
    (prows (nd cs) 0 cs).all (fun y => decide (0 ≤ rval y (pt ++ quots pt cs))) = cs.all fun x => x.met pt := by
  have h := all_prows hp cs 0 [] hg rfl
  rwa [List.nil_append, quots_len] at h
theorem shows_val {a p : List Int} {c : Int} (h1 : Sm 1000000000 a) (h2 : Sm 1000000000 p) (h3 : -10000000000000000000 ≤ c ∧ c ≤ 10000000000000000000) (h4 : p.length ≤ 1000) : Shows (.int (c + dot a p)) := by
  have := dot_b (A := 1000000000) (B := 1000000000) (by decide) (by decide) a p h1 h2
  refine shows_int ?_
  omega
theorem ints_flat {ns : List Int} : PyOfA (fun _ => none) (iL ns) (ns.map PyData.int) := PyOfA.ints _ ns
theorem eqv_refl_ints : ∀ ns : List Int, PyData.eqvAll (ns.map PyData.int) (ns.map PyData.int) = true
  | [] => rfl
  | n :: r => by
    rw [List.map_cons]
    simp only [PyData.eqvAll, PyData.eqv, Bool.and_eq_true]
    exact ⟨beq_self_eq_true n, eqv_refl_ints r⟩
theorem eqv_self (ns : List Int) : (true != PyData.eqv (.list (ns.map PyData.int)) (.list (ns.map PyData.int))) = false := by
  have : PyData.eqv (.list (ns.map PyData.int)) (.list (ns.map PyData.int)) = true := by
    simp only [PyData.eqv]
    exact eqv_refl_ints ns
  rw [this] <;> rfl
theorem bool_ne (a : Bool) : (true != PyData.eqv (.bool a) (.bool a)) = false := by cases a <;> rfl
theorem max_small {ns : List Int} {m : Int} (h : ∀ y, y ∈ (ns.map fun i : Int => if i < 0 then -i else i) ++ [0] → y ≤ m) (hm : m ≤ 1000000000) : Sm 1000000000 ns := fun x hx => by
  have := h (if x < 0 then -x else x) (List.mem_append_left _ (List.mem_map.mpr ⟨x, hx, rfl⟩))
  split at this <;> omega
theorem ok__law_values (C : Addr) (ds : List Dat) (M : Mem) (Q : Rv → Mem → Prop) (h : fs__law_values C ds M Q) : rd__law_values C (enD M Q) (startD N__law_values ds) M := by
  obtain ⟨w, cs, pt, rfl, hw, hp, hl, hg, hs, q⟩ := h
  have hn := nd_le cs
  have hxa : ∀ x ∈ cs, x.a.length = w := fun x hx => (hg x hx).1
  refine ⟨_, _, rfl, rfl, _, rfl, fun k hk => ?_⟩
  refine ⟨_, rfl, ?_⟩
  refine for_rest (enc := Cd.enc) cs (fun r env m => ∃ (wh : List Int) (z : Option Dat), m = M.set k (.lst (iL wh)) ∧ wh ++ quots pt r = pt ++ quots pt cs ∧ (∀ x ∈ r, x ∈ cs) ∧ env = [some (sysD C w cs), some (.int (w : Int)), some (.lst (cs.map Cd.enc)), some (.lst (iL pt)), some (.cell k), z, none, none, none, none, none, none, none]) ?_ ?_ ?_ ?_
  · exact ⟨pt, none, rfl, rfl, fun _ h => h, rfl⟩
  · rintro r env m _
    trivial
  · rintro x r env m ⟨wh, z, rfl, h1, h2, rfl⟩
    have gx := hg x (h2 x List.mem_cons_self)
    have mem' : ∀ y ∈ r, y ∈ cs := fun y hy => h2 y (List.mem_cons_of_mem _ hy)
    have h1' : wh ++ (quo x pt ++ quots pt r) = pt ++ quots pt cs := h1
    refine ⟨0, _, _, rfl, seq_enc x, its_0 x, ifC (nm_div2 x.k) (fun hd => ?_) (fun hd => ?_)⟩
    · obtain ⟨m, hm⟩ := div_of' hd
      have hm2 : 2 ≤ m ∧ m ≤ 60 := by
        have := gx.2.2.2.2
        rw [hm] at this
        exact this
      have eq_ : quo x pt = [(x.c + dot x.a pt) / m] := by
        unfold quo
        rw [hm]
      have hlen := congrArg List.length h1'
      rw [List.length_append, List.length_append, List.length_append, quots_len, quots_len, eq_] at hlen
      refine ⟨k, _, rfl, Mem.set_same, -1, _, _, rfl, seq_enc x, its_l x, x.a, x.c, pt, _, rfl, rfl, by rw [gx.1, hp], by omega, gx.2.1, ?_⟩
      refine ⟨1, _, _, rfl, seq_enc x, its_1 hm, ⟨by omega, log_ok (by omega) (by omega)⟩, _, Mem.set_same, ?_, ?_⟩
      · rw [iL_len]
        exact Nat.lt_of_lt_of_le (show wh.length < 1001 by omega) (by decide)
      · refine ⟨wh ++ [(x.c + dot x.a pt) / m], _, ?_, ?_, mem', rfl⟩
        · rw [Mem.set_set, iL_app] <;> rfl
        · rw [eq_] at h1'
          rw [List.append_assoc]
          exact h1'
    · refine ⟨wh, _, rfl, ?_, mem', rfl⟩
      have eq_ : quo x pt = [] := by
        unfold quo
        cases hx : x.k with
        | ge => rfl
        | eq => rfl
        | div m => rw [hx] at hd; cases hd
      rw [eq_, List.nil_append] at h1'
      exact h1'
  · rintro env m ⟨wh, z, rfl, h1, h2, rfl⟩
    have ewh : wh = pt ++ quots pt cs := by
      have : wh ++ quots pt [] = wh := List.append_nil wh
      rw [this] at h1
      exact h1
    have lwh : wh.length = w + nd cs := by rw [ewh, List.length_append, hp, quots_len]
    refine ⟨_, _, rfl, Mem.set_same, ?_⟩
    refine ⟨_, Mem.set_same, ?_⟩
    refine lc_map (enc := Dat.int) wh (fun i => .int (if i < 0 then -i else i)) (lz (by omega)) Mem.set_same (fun x hx P hP => ?_) ?_
    · exact hP _ rfl
    have em : wh.map (fun i => Dat.int (if i < 0 then -i else i)) ++ [Dat.int 0] = iL ((wh.map fun i : Int => if i < 0 then -i else i) ++ [0]) := by
      rw [iL_app]
      show _ = List.map Dat.int (List.map _ _) ++ _
      rw [List.map_map] <;> rfl
    refine ⟨l1, _, _, rfl, rfl, ?_, ?_⟩
    · rw [List.length_map]
      exact lz (by show _ + 1 ≤ _; omega)
    refine ⟨_, (wh.map fun i : Int => if i < 0 then -i else i) ++ [0], rfl, em.symm, by rw [List.length_append]; exact Nat.succ_pos _, fun mx mx1 mx2 => ⟨cp109, ?_⟩⟩
    obtain ⟨sm, esm⟩ : ∃ sm, sm = decide (mx ≤ 10 ^ (9 : Int).toNat) := ⟨_, rfl⟩
    have small : sm = true → Sm 1000000000 wh := fun h => max_small mx2 (by rw [esm] at h; have := of_decide_eq_true h; rw [e109] at this; exact this)
    refine ⟨w, cs, rfl, by omega, by omega, hxa, ?_⟩
    refine ⟨_, rfl, ?_⟩
    refine for_rest (enc := encR) (prows (nd cs) 0 cs) (fun r env m => m = M.set k (.lst (iL wh)) ∧ (∃ (least : Int) (z5 z9 z10 z11 z12 : Option Dat), ((prows (nd cs) 0 cs).all fun y => decide (0 ≤ rval y wh)) = (decide (0 ≤ least) && r.all fun y => decide (0 ≤ rval y wh)) ∧
      env = [some (sysD C w cs), some (.int (w : Int)), some (.lst (cs.map Cd.enc)), some (.lst (iL pt)), some (.cell k), z5, some (.tup (iL wh)), some (.bl sm), some (.int least), z9, z10, z11, z12]) ∧ (∀ x ∈ r, x ∈ prows (nd cs) 0 cs)) ?_ ?_ ?_ ?_
    · exact ⟨rfl, ⟨0, _, _, _, _, _, rfl, by rw [esm] <;> rfl⟩, fun _ h => h⟩
    · rintro r env m _
      trivial
    · rintro x r env m ⟨rfl, ⟨least, z5, z9, z10, z11, z12, hall, rfl⟩, hmem⟩
      obtain ⟨a, c, rfl, la, sa, c1, c2⟩ := prows_ok cs 0 hg x (hmem x List.mem_cons_self)
      refine ⟨a, c, wh, _, rfl, rfl, by rw [la, lwh], by omega, sa, ?_⟩
      have jn : ∃ (l2 : Int) (z5' z9' z10' z11' z12' : Option Dat), ((prows (nd cs) 0 cs).all fun y => decide (0 ≤ rval y wh)) = (decide (0 ≤ l2) && r.all fun y => decide (0 ≤ rval y wh)) ∧
          ([some (sysD C w cs), some (.int (w : Int)), some (.lst (cs.map Cd.enc)), some (.lst (iL pt)), some (.cell k), z5, some (.tup (iL wh)), some (.bl sm), some (.int (if c + dot a wh < least then c + dot a wh else least)), some (encR (a ++ [c])), some (.int (c + dot a wh)), z11, z12] : List (Option Dat)) = [some (sysD C w cs), some (.int (w : Int)), some (.lst (cs.map Cd.enc)), some (.lst (iL pt)), some (.cell k), z5', some (.tup (iL wh)), some (.bl sm), some (.int l2), z9', z10', z11', z12'] := by
        refine ⟨_, _, _, _, _, _, ?_, rfl⟩
        rw [hall, List.all_cons, rval_app, ← Bool.and_assoc]
        refine congrArg (fun b => b && r.all fun y => decide (0 ≤ rval y wh)) (bool_ext ?_)
        rw [Bool.and_eq_true, decide_eq_true_iff, decide_eq_true_iff, decide_eq_true_iff]
        split <;> omega
      have mem' : ∀ y ∈ r, y ∈ prows (nd cs) 0 cs := fun y hy => hmem y (List.mem_cons_of_mem _ hy)
      cases sm with
      | false => exact ⟨rfl, jn, mem'⟩
      | true =>
        have sv : Shows (.int (c + dot a wh)) := shows_val sa (small rfl) ⟨c1, c2⟩ (by omega)
        refine ⟨a, c, wh, _, _, rfl, rfl, Mem.set_same, by rw [la, lwh], by omega, sa, _, _, rfl, .int _, sv, _, _, rfl, .int _, sv, ifF (same_str _) ?_⟩
        refine ⟨_, _, rfl, rfl, a, c, wh, _, _, rfl, rfl, rfl, by rw [la, lwh], by omega, sa, _, _, rfl, .int _, sv, _, _, rfl, .int _, sv, ifF (same_str _) ?_⟩
        exact ⟨rfl, jn, mem'⟩
    · rintro env m ⟨rfl, ⟨least, z5, z9, z10, z11, z12, hall, rfl⟩, hmem⟩
      refine ⟨cs, pt, _, rfl, rfl, by omega, by rw [hp]; exact hg, ?_⟩
      have ht : decide (0 ≤ least) = cs.all fun x => x.met pt := by
        have h3 := all_prows0 hp hg
        rw [← ewh, hall] at h3
        rw [← h3]
        show _ = (decide (0 ≤ least) && true)
        rw [Bool.and_true]
      refine ⟨.bool (decide (0 ≤ least)), .bool (cs.all fun x => x.met pt), .bl _, .bl _, rfl, rfl, ?_⟩
      rw [← ht]
      refine ifF (bool_ne _) ?_
      refine ⟨_, _, rfl, rfl, .list (wh.map PyData.int), .list (wh.map PyData.int), .cell Mem.set_same (PyOfA.ints _ wh), ⟨_, rfl, PyOfA.ints _ wh⟩, shaped_ints wh, shaped_ints wh, ?_⟩
      refine ifF (eqv_self wh) ?_
      refine ⟨_, _, rfl, ⟨rfl, rfl⟩, by rfl, w, cs, pt, _, rfl, rfl, hp, by omega, hg, _, _, rfl, .bl _, shows_bool _, _, _, rfl, .bl _, shows_bool _, ?_⟩
      rw [ht]
      show Q (.d (.bl (false != decide (_ = _)))) (M.restr _)
      rw [same_str2, Mem.restr_set_out hk, Mem.restr_self]
      exact q
end Lw
set_option Elab.async false
set_option linter.all false
set_option maxRecDepth 100000
set_option maxHeartbeats 4000000
namespace Lw
open PySem PySem.Spec PyProof.Rows L2 Dl
theorem gd_good {w : Nat} {x : Cd} (h : Gd w 1000000000 x) : Gd w 10000000000000000000 x := ⟨h.1, h.2.1, by have := h.2.2.1; omega, by have := h.2.2.2.1; omega, h.2.2.2.2⟩
theorem cut_63 {xs : List Dat} : cut xs none (some 63) = xs.take 63 := cut_to (k := 63)
theorem good_flat {w : Nat} {cs : List Cd} (h : Good w cs) (n : Nat) : Good w (List.replicate n cs).flatten := fun x hx => by
  obtain ⟨l, hl, hx⟩ := List.mem_flatten.mp hx
  rw [List.eq_of_mem_replicate hl] at hx
  exact h x hx
theorem enc_flat (cs : List Cd) : ∀ n : Nat, (List.replicate n (cs.map Cd.enc)).flatten = (List.replicate n cs).flatten.map Cd.enc
  | 0 => rfl
  | n + 1 => by
    rw [List.replicate_succ, List.replicate_succ, List.flatten_cons, List.flatten_cons, List.map_append, enc_flat cs n]
theorem flat_len (cs : List Cd) : ∀ n : Nat, (List.replicate n cs).flatten.length = n * cs.length
  | 0 => by rw [Nat.zero_mul] <;> rfl
  | n + 1 => by
    rw [List.replicate_succ, List.flatten_cons, List.length_append, flat_len cs n, Nat.succ_mul]
    omega
theorem good_fix {w : Nat} {cs : List Cd} {ns : List Int} (hg : ∀ x ∈ cs, Gd w 1000000000 x) (hn : ns.length ≤ w) (hw : w ≤ 3) (hs : Sm 1000000000 ns) : Good (w - ns.length) (cs.map (Cd.fix ns)) := fun x hx => by
  obtain ⟨y, hy, rfl⟩ := List.mem_map.mp hx
  obtain ⟨h1, h2, h3, h4, h5⟩ := hg y hy
  have hd := dot_b (A := 1000000000) (B := 1000000000) (by decide) (by decide) (y.a.take ns.length) ns (fun z hz => h2 z (List.mem_of_mem_take hz)) hs
  refine ⟨?_, fun z hz => h2 z (List.mem_of_mem_drop hz), ?_, ?_, h5⟩
  · show (y.a.drop ns.length).length = _
    rw [List.length_drop, h1]
  · show _ ≤ y.c + dot (y.a.take ns.length) ns
    omega
  · show y.c + dot (y.a.take ns.length) ns ≤ _
    omega
def law3 (C_System : Addr) : DS := (dSeq (dSet (dCB fs__law_fixed (dCons (dVar 5) (dCons (dVar 3) (dCons (dVar 13) (dNil))))) 17)
  (dSeq (dIfS (dNot (dTest (dCB (fs__law_has_rows C_System) (dCons (dMeth C_System "fixed" (fs_System_fixed C_System) (dVar 7) (dCons (dVar 13) (dNil))) (dCons (dVar 14) (dCons (dVar 17) (dNil))))))) (dRet (dC (.bl false))) (dNext))
  (dSeq (dFor (dSeqW (dVar 6)) (gd 8) (dIfS (dNot (dTest (dCB (fs__law_values C_System) (dCons (dVar 16) (dCons (dVar 3) (dCons (dVar 15) (dCons (dVar 8) (dNil)))))))) (dRet (dC (.bl false))) (dNext)))
  (dRet (dCB (fs__law_has_rows C_System) (dCons (dVar 7) (dCons (dVar 3) (dCons (dVar 5) (dNil)))))))))
abbrev ptD (l : List Int) : Dat := .lst (iL l)
theorem ok_law (C : Addr) (ds : List Dat) (M : Mem) (Q : Rv → Mem → Prop) (h : fs_law C ds M Q) : rd_law C (enD M Q) (startD N_law ds) M := by
  obtain ⟨ns, rfl, hns, q⟩ := h
  refine ⟨_, rfl, ?_⟩
  refine ⟨_, rfl, ?_, _, rfl, fun p hp => ?_⟩
  · intro xs h
    have h2 := Rv.d.inj h
    cases h2
  have hP0 : PoolAt (M.set p (.lst (cut (ns.map Dat.int) none (some 63)).reverse)) p := by
    refine ⟨(ns.take 63).reverse, by rw [List.length_reverse, List.length_take]; omega, ?_⟩
    rw [Mem.set_same, cut_63, ← List.map_take, ← List.map_reverse]
  refine ⟨p, rfl, hP0, fun edge pt cs M1 e0 e1 hpl hps hcl hcg hM1 => ?_⟩
  have hP1 := hM1.at
  refine ⟨_, rfl, rfl, ?_⟩
  refine ⟨_, _, rfl, ?_⟩
  refine ⟨_, _, rfl, ?_⟩
  refine ⟨_, _, rfl, ?_⟩
  refine ⟨_, _, rfl, rfl, ?_⟩
  refine ⟨p, edge, pt, rfl, hP1, hpl, hps, fun p1 p2 M2 l1' l2' s1 s2 hM2 => ?_⟩
  have hP2 := hM2.at
  generalize hW : pt.length = W at *
  have hg : Good W cs := fun x hx => gd_good (hcg x hx)
  refine ⟨_, _, rfl, rfl, ?_⟩
  refine fun x hx => ⟨x, W, .lst (cs.map Cd.enc), cs, rfl, Mem.set_same, rfl, by omega, by omega, hg, rfl, _, Mem.set_same, ?_⟩
  rw [Mem.set_set, Mem.del_set hx]
  refine ⟨W, cs, rfl, by omega, by omega, hg, ?_⟩
  refine ⟨_, rfl, ?_⟩
  refine for_rest (enc := ptD) [pt, p1, p2] (fun r env m => m = M2 ∧ (∀ x ∈ r, x.length = W ∧ Sm 1000000000 x) ∧ ∃ z8, env = [some (.lst (cut (ns.map Dat.int) none (some 63))), some (.cell p), some (.int edge), some (.int (W : Int)), some (ptD pt), some (.lst (cs.map Cd.enc)), some (.lst [ptD pt, ptD p1, ptD p2]), some (sysD C W cs), z8, none, none, none, none, none, none, none, none, none]) ?_ ?_ ?_ ?_
  · refine ⟨rfl, fun x hx => ?_, _, rfl⟩
    rcases List.mem_cons.mp hx with z | z
    · rw [z]; exact ⟨hW, sm_mono hps (by decide)⟩
    rcases List.mem_cons.mp z with z | z
    · rw [z]; exact ⟨l1', s1⟩
    · rw [List.mem_singleton.mp z]; exact ⟨l2', s2⟩
  · rintro r env m _
    trivial
  · rintro x r env m ⟨rfl, h2, z8, rfl⟩
    obtain ⟨x1, x2⟩ := h2 x List.mem_cons_self
    refine ⟨W, cs, x, rfl, by omega, x1, by omega, hg, x2, ?_⟩
    exact ⟨rfl, fun y hy => h2 y (List.mem_cons_of_mem _ hy), _, rfl⟩
  rintro env m ⟨rfl, _, z8, rfl⟩
  have four : ∃ n : Nat, n ≤ 12 ∧ atI [Dat.int 1, Dat.int 2, Dat.int 5, Dat.int 12] edge = some (.int (n : Int)) := by
    have : edge = 0 ∨ edge = 1 ∨ edge = 2 ∨ edge = 3 := by omega
    rcases this with z | z | z | z <;> rw [z]
    · exact ⟨1, by decide, rfl⟩
    · exact ⟨2, by decide, rfl⟩
    · exact ⟨5, by decide, rfl⟩
    · exact ⟨12, by decide, rfl⟩
  obtain ⟨n, hn, e4⟩ := four
  have hmul : n * cs.length ≤ 12 * 5 := Nat.mul_le_mul hn hcl
  refine ⟨l4, edge, _, _, rfl, rfl, e4, _, rfl, by omega, by omega, ?_, ?_⟩
  · rw [Int.toNat_natCast, List.length_map, Nat.mul_comm]
    exact lz (by omega)
  have efl : (List.replicate (n : Int).toNat (cs.map Cd.enc)).flatten = (List.replicate n cs).flatten.map Cd.enc := by
    rw [Int.toNat_natCast, enc_flat]
  have lfl : (List.replicate n cs).flatten.length ≤ 60 := by rw [flat_len]; exact hmul
  refine ⟨_, _, rfl, rfl, ?_⟩
  refine fun x hx => ⟨x, W, .tup (List.replicate (n : Int).toNat (cs.map Cd.enc)).flatten, (List.replicate n cs).flatten, rfl, Mem.set_same, efl.symm, by omega, by omega, good_flat hg n, rfl, _, Mem.set_same, ?_⟩
  rw [Mem.set_set, Mem.del_set hx]
  refine ⟨W, (List.replicate n cs).flatten, ?_, by omega, by omega, good_flat hg n, ?_⟩
  · exact congrArg (fun l => [sysD C W (List.replicate n cs).flatten, Dat.int (W : Int), Dat.lst l]) efl
  refine ⟨p, pt, 2, 0, rfl, hP2, by omega, hps, fun xa M3 ga hM3 => ?_⟩
  rw [hW] at ga
  refine ⟨p, 3, rfl, hM3.at, by decide, by decide, fun v3 M4 _ _ hM4 => ?_⟩
  refine ⟨p, pt, v3, 2, rfl, hM4.at, by omega, hps, fun xb M5 gb hM5 => ?_⟩
  rw [hW] at gb
  refine ⟨p, 3, rfl, hM5.at, by decide, by decide, fun v4 M6 _ _ hM6 => ⟨show (0 : Int) < 3 by decide, ?_⟩⟩
  have hcnt := modb (v4 + 1) 3 (by decide)
  refine ⟨2, _, ptD p2, rfl, rfl, rfl, ?_⟩
  refine ⟨p, (W : Int) + 1, rfl, hM6.at, by omega, log_ok (by omega) (by omega), fun vn M7 n1 n2 hM7 => ?_⟩
  refine ⟨_, rfl, ?_⟩
  have ecut : cut (iL p2) none (some vn) = iL (p2.take vn.toNat) := by
    have h := cut_to (xs := iL p2) (k := vn.toNat)
    rw [show ((vn.toNat : Nat) : Int) = vn by omega] at h
    rw [h]
    exact List.map_take.symm
  have ltk : (p2.take vn.toNat).length = vn.toNat := by rw [List.length_take]; omega
  have stk : Sm 1000000000 (p2.take vn.toNat) := fun z hz => s2 z (List.mem_of_mem_take hz)
  refine ⟨_, _, rfl, rfl, ?_⟩
  -- what is known from here on
  have gm : ∀ x ∈ cs ++ [xa, xb], Gd W 1000000000 x := fun x hx => by
    rcases List.mem_append.mp hx with z | z
    · exact hcg x z
    rcases List.mem_cons.mp z with z | z
    · rw [z]; exact ga
    · rw [List.mem_singleton.mp z]; exact gb
  have gmore : Good W (cs ++ [xa, xb]) := fun x hx => gd_good (gm x hx)
  have gab : Good W [xa, xb] := fun x hx => gmore x (List.mem_append_right _ hx)
  have lmore : (cs ++ [xa, xb]).length ≤ 7 := by
    rw [List.length_append]
    show _ + 2 ≤ 7
    omega
  have emore : cs.map Cd.enc ++ [xa.enc, xb.enc] = (cs ++ [xa, xb]).map Cd.enc := by rw [List.map_append] <;> rfl
  refine ⟨l2, _, _, rfl, rfl, ?_, ?_⟩
  · rw [List.length_map]
    exact lz (by show _ + 2 ≤ _; omega)
  refine ⟨_, _, rfl, ⟨rfl, rfl⟩, by rfl, l2, W, cs, [xa, xb], rfl, by omega, by omega, by show 2 ≤ 500; omega, hg, gab, ?_⟩
  refine ⟨W, cs ++ [xa, xb], ?_, by omega, by omega, gmore, ?_⟩
  · exact congrArg (fun l => [sysD C W (cs ++ [xa, xb]), Dat.int (W : Int), Dat.lst l]) emore
  refine ⟨_, _, _, _, rfl, rfl, ⟨rfl, rfl⟩, ⟨rfl, rfl⟩, W, cs ++ [xa, xb], cs, rfl, by omega, by omega, by omega, gmore, hg, ?_⟩
  refine ⟨_, _, rfl, rfl, ?_, ?_⟩
  · show (cs.map Cd.enc ++ [xa.enc, xb.enc]).length + (cs.map Cd.enc).length ≤ _
    rw [emore, List.length_map, List.length_map]
    exact lz (by omega)
  refine ⟨W, cs ++ [xa, xb] ++ cs, ?_, by omega, by rw [List.length_append]; omega, good_app gmore hg, ?_⟩
  · have e : cs.map Cd.enc ++ [xa.enc, xb.enc] ++ cs.map Cd.enc = (cs ++ [xa, xb] ++ cs).map Cd.enc := by rw [emore, ← List.map_append]
    exact congrArg (fun l => [sysD C W (cs ++ [xa, xb] ++ cs), Dat.int (W : Int), Dat.lst l]) e
  obtain ⟨ct, hct⟩ : ∃ ct : Nat, (v4 + 1) % 3 = (ct : Int) := ⟨((v4 + 1) % 3).toNat, by omega⟩
  have hct3 : ct < 3 := by omega
  refine ⟨W, ct, cs, ?_, by omega, by omega, by omega, fun x hx => (hg x hx).1, ?_⟩
  · exact congrArg (fun v => [Dat.lst (cs.map Cd.enc), Dat.int (W : Int), Dat.int v]) hct
  refine ⟨_, _, rfl, ⟨rfl, rfl⟩, by rfl, W, ct, cs, ?_, by omega, by omega, hg, ?_⟩
  · exact congrArg (fun v => [sysD C W cs, Dat.int v]) hct
  refine ⟨W + ct, cs.map (Cd.wide ct), ?_, by omega, by rw [List.length_map]; omega, good_wide hg, ?_⟩
  · exact congrArg (fun v => [sysD C (W + ct) (cs.map (Cd.wide ct)), Dat.int ((W : Int) + v), Dat.lst ((cs.map (Cd.wide ct)).map Cd.enc)]) hct
  -- the last part
  have last : ∀ z8 z9 z10 z11 z12 z17 (nums : List Dat) (sz : Int) (more : List Dat), nums = iL (p2.take vn.toNat) → sz = ((W - (p2.take vn.toNat).length : Nat) : Int) → more = (cs ++ [xa, xb]).map Cd.enc → law3 C (enD M Q)
      [some (.lst (cut (ns.map Dat.int) none (some 63))), some (.cell p), some (.int edge), some (.int (W : Int)), some (ptD pt), some (.lst (cs.map Cd.enc)), some (.lst [ptD pt, ptD p1, ptD p2]), some (sysD C W cs), z8, z9, z10, z11, z12, some (.lst nums), some (.int sz), some (.lst more), some (sysD C W (cs ++ [xa, xb])), z17] M7 := by
    intro z8 z9 z10 z11 z12 z17 nums sz more q1 q2 q3
    subst q1 q2 q3
    have gf := good_fix (ns := p2.take vn.toNat) hcg (by omega) (by omega) stk
    refine ⟨W, p2.take vn.toNat, cs, rfl, by omega, by omega, by omega, hg, ?_⟩
    refine ⟨_, _, rfl, ⟨rfl, rfl⟩, by rfl, W, p2.take vn.toNat, cs, rfl, by omega, by omega, by omega, hg, gf, ?_⟩
    refine ⟨W - (p2.take vn.toNat).length, cs.map (Cd.fix (p2.take vn.toNat)), rfl, by omega, by rw [List.length_map]; omega, gf, ?_⟩
    refine ⟨_, rfl, ?_⟩
    refine for_rest (enc := ptD) [pt, p1, p2] (fun r env m => m = M7 ∧ (∀ x ∈ r, x.length = W ∧ Sm 1000000000 x) ∧ ∃ z8 z17, env = [some (.lst (cut (ns.map Dat.int) none (some 63))), some (.cell p), some (.int edge), some (.int (W : Int)), some (ptD pt), some (.lst (cs.map Cd.enc)), some (.lst [ptD pt, ptD p1, ptD p2]), some (sysD C W cs), z8, z9, z10, z11, z12, some (.lst (iL (p2.take vn.toNat))), some (.int ((W - (p2.take vn.toNat).length : Nat) : Int)), some (.lst ((cs ++ [xa, xb]).map Cd.enc)), some (sysD C W (cs ++ [xa, xb])), z17]) ?_ ?_ ?_ ?_
    · refine ⟨rfl, fun x hx => ?_, _, _, rfl⟩
      rcases List.mem_cons.mp hx with z | z
      · rw [z]; exact ⟨hW, sm_mono hps (by decide)⟩
      rcases List.mem_cons.mp z with z | z
      · rw [z]; exact ⟨l1', s1⟩
      · rw [List.mem_singleton.mp z]; exact ⟨l2', s2⟩
    · rintro r env m _
      trivial
    · rintro x r env m ⟨rfl, h2, z8, z17, rfl⟩
      obtain ⟨x1, x2⟩ := h2 x List.mem_cons_self
      refine ⟨W, cs ++ [xa, xb], x, rfl, by omega, x1, by omega, gmore, x2, ?_⟩
      exact ⟨rfl, fun y hy => h2 y (List.mem_cons_of_mem _ hy), _, _, rfl⟩
    rintro env m ⟨rfl, _, z8, z17, rfl⟩
    exact ⟨W, cs, rfl, by omega, by omega, hg, q _⟩
  refine last _ _ _ _ _ _ _ _ _ ecut ?_ emore
  show (W : Int) - ((cut (iL p2) none (some vn)).length : Int) = _
  rw [ecut, iL_len]
  omega
end Lw
set_option Elab.async false
set_option linter.all false
set_option maxRecDepth 100000
set_option maxHeartbeats 4000000
namespace Lw
open PySem PySem.Spec PyProof.Rows L2 Dl StX ClX
theorem sc_row_value : FnScope N_row_value ["row", "point"] (defScope s_row_value) := ⟨rfl, rfl, rfl, by decide +kernel, rfl, by decide +kernel, by decide +kernel⟩
theorem bx_row_value {P : Program} {w : World} {K : PySem.W.Frag} {mg : Str → Option Value} {base : Heap} {f : Addr} (b_len : mg ("len" : Str) = none) (b_range : mg ("range" : Str) = none) (cdv : Value) (A : Around) (outer : List PySem.Env) (s : Shared) (H : Hp) (E : XK) (hr : Room 0 (A.deeper (envOfC "row_value" (defScope s_row_value) s.heap.objs.size f cdv))) :
    ∃ t, BX (cxOf CX0 P w K mg base N_row_value "row_value" (defScope s_row_value) f cdv A outer s H E).nox (defBody s_row_value) t (rd_row_value) := by
  have S := sc_row_value
  exact ⟨_, bx_cons (sx_set S.nd (ex_ix (ex_var 0) (ex_neg (ex_int))))
    (bx_cons (sx_for PassesOwn.never rfl (ix_rng1 b_range (ax_cons (ex_len b_len (ax_cons (ex_var 1) (ax_nil))) (ax_nil))) (gx_name S.nd) (bx_one (sx_set S.nd (ex_add (ex_var 2) (ex_mul (ex_ix (ex_var 0) (ex_var 3)) (ex_ix (ex_var 1) (ex_var 3)))))))
    (bx_one (sx_ret (ex_var 2))))⟩
theorem sc_negated : FnScope N_negated ["row"] (defScope s_negated) := ⟨rfl, rfl, rfl, by decide +kernel, rfl, by decide +kernel, by decide +kernel⟩
theorem bx_negated {P : Program} {w : World} {K : PySem.W.Frag} {mg : Str → Option Value} {base : Heap} {f : Addr} (b_tuple : mg ("tuple" : Str) = none) (cdv : Value) (A : Around) (outer : List PySem.Env) (s : Shared) (H : Hp) (E : XK) (hr : Room 0 (A.deeper (envOfC "negated" (defScope s_negated) s.heap.objs.size f cdv))) :
    ∃ t, BX (cxOf CX0 P w K mg base N_negated "negated" (defScope s_negated) f cdv A outer s H E).nox (defBody s_negated) t (rd_negated) := by
  have S := sc_negated
  exact ⟨_, bx_one (sx_ret (ex_tuple b_tuple (ax_cons (ex_lcx rfl S.nd (ix_seq (ex_var 0)) (blkOk_by (N := N_negated) (sc := defScope s_negated) (by decide +kernel)) (fun _ _ _ _ _ => pg_name (i := 1) S.nd rfl (Or.inl rfl)) (fun _ _ _ _ _ => ⟨_, ts_nil⟩) (fun _ _ _ _ _ => ⟨_, ex_neg (ex_var 1)⟩)) (ax_nil))))⟩
theorem sc_extended : FnScope N_extended ["row", "count"] (defScope s_extended) := ⟨rfl, rfl, rfl, by decide +kernel, rfl, by decide +kernel, by decide +kernel⟩
theorem bx_extended {P : Program} {w : World} {K : PySem.W.Frag} {mg : Str → Option Value} {base : Heap} {f : Addr} (b_tuple : mg ("tuple" : Str) = none) (cdv : Value) (A : Around) (outer : List PySem.Env) (s : Shared) (H : Hp) (E : XK) (hr : Room 0 (A.deeper (envOfC "extended" (defScope s_extended) s.heap.objs.size f cdv))) :
    ∃ t, BX (cxOf CX0 P w K mg base N_extended "extended" (defScope s_extended) f cdv A outer s H E).nox (defBody s_extended) t (rd_extended) := by
  have S := sc_extended
  exact ⟨_, bx_one (sx_ret (ex_add (ex_add (ex_tuple b_tuple (ax_cons (ex_sl (ex_var 0) (ox_none) (ox_some (ex_neg (ex_int)))) (ax_nil))) (ex_mul (ex_tup (ax_cons (ex_int) (ax_nil))) (ex_var 1))) (ex_tup (ax_cons (ex_ix (ex_var 0) (ex_neg (ex_int))) (ax_nil)))))⟩
theorem sc__copied : FnScope N__copied ["condition", "width"] (defScope s__copied) := ⟨rfl, rfl, rfl, by decide +kernel, rfl, by decide +kernel, by decide +kernel⟩
theorem bx__copied {P : Program} {w : World} {K : PySem.W.Frag} {mg : Str → Option Value} {base : Heap} {f : Addr} (b_len : mg ("len" : Str) = none) (b_tuple : mg ("tuple" : Str) = none) (cdv : Value) (A : Around) (outer : List PySem.Env) (s : Shared) (H : Hp) (E : XK) (hr : Room 0 (A.deeper (envOfC "_copied" (defScope s__copied) s.heap.objs.size f cdv))) :
    ∃ t, BX (cxOf CX0 P w K mg base N__copied "_copied" (defScope s__copied) f cdv A outer s H E).nox (defBody s__copied) t (rd__copied) := by
  have S := sc__copied
  exact ⟨_, bx_cons (sx_if (tx_nin (ex_ix (ex_var 0) (ex_int)) (ex_tup (ax_cons (ex_str) (ax_cons (ex_str) (ax_cons (ex_str) (ax_nil)))))) (bx_one (sx_ret (ex_non))) (bx_nil))
    (bx_cons (sx_set S.nd (ex_tuple b_tuple (ax_cons (ex_ix (ex_var 0) (ex_neg (ex_int))) (ax_nil))))
    (bx_cons (sx_if (tx_ne hr.units (ex_len b_len (ax_cons (ex_var 2) (ax_nil))) (ex_add (ex_var 1) (ex_int))) (bx_one (sx_ret (ex_non))) (bx_nil))
    (bx_cons (sx_if (tx_ne hr.units (ex_ix (ex_var 0) (ex_int)) (ex_str)) (bx_one (sx_ret (ex_tup (ax_cons (ex_ix (ex_var 0) (ex_int)) (ax_cons (ex_var 2) (ax_nil)))))) (bx_nil))
    (bx_cons (sx_if (tx_lt (ex_ix (ex_var 0) (ex_int)) (ex_int)) (bx_one (sx_ret (ex_non))) (bx_nil))
    (bx_one (sx_ret (ex_tup (ax_cons (ex_str) (ax_cons (ex_ix (ex_var 0) (ex_int)) (ax_cons (ex_var 2) (ax_nil)))))))))))⟩
theorem sc__is_met : FnScope N__is_met ["condition", "point"] (defScope s__is_met) := ⟨rfl, rfl, rfl, by decide +kernel, rfl, by decide +kernel, by decide +kernel⟩
theorem bx__is_met {P : Program} {w : World} {K : PySem.W.Frag} {mg : Str → Option Value} {base : Heap} {f : Addr} (h_row_value : KnO P w K mg base "row_value" 1 fs_row_value) (cdv : Value) (A : Around) (outer : List PySem.Env) (s : Shared) (H : Hp) (E : XK) (hr : Room 1 (A.deeper (envOfC "_is_met" (defScope s__is_met) s.heap.objs.size f cdv))) :
    ∃ t, BX (cxOf CX0 P w K mg base N__is_met "_is_met" (defScope s__is_met) f cdv A outer s H E).nox (defBody s__is_met) t (rd__is_met) := by
  have S := sc__is_met
  exact ⟨_, bx_cons (sx_set S.nd (ex_callO h_row_value (hr.mono (by decide)) (ax_cons (ex_ix (ex_var 0) (ex_neg (ex_int))) (ax_cons (ex_var 1) (ax_nil)))))
    (bx_cons (sx_if (tx_eq hr.units (ex_ix (ex_var 0) (ex_int)) (ex_str)) (bx_one (sx_ret (ex_ge (ex_var 2) (ex_int)))) (bx_nil))
    (bx_cons (sx_if (tx_eq hr.units (ex_ix (ex_var 0) (ex_int)) (ex_str)) (bx_one (sx_ret (ex_eq hr.units (ex_var 2) (ex_int)))) (bx_nil))
    (bx_one (sx_ret (ex_eq hr.units (ex_mod (ex_var 2) (ex_ix (ex_var 0) (ex_int))) (ex_int))))))⟩
theorem sc_System___init__ : FnScope N_System___init__ ["self", "width", "conditions"] (defScope s_System___init__) := ⟨rfl, rfl, rfl, by decide +kernel, rfl, by decide +kernel, by decide +kernel⟩
theorem bx_System___init__ {P : Program} {w : World} {K : PySem.W.Frag} {mg : Str → Option Value} {base : Heap} {f : Addr} {C_System : Addr} (b_tuple : mg ("tuple" : Str) = none) (hc_System : Cls K C_System) (na_System_conditions : NoAttr K C_System "conditions") (na_System_width : NoAttr K C_System "width") (h__copied : KnO P w K mg base "_copied" 1 fs__copied) (hv_System_MOST : KnV K mg "System" "MOST" (.int 80)) (cdv : Value) (A : Around) (outer : List PySem.Env) (s : Shared) (H : Hp) (E : XK) (hr : Room 1 (A.deeper (envOfC "System.__init__" (defScope s_System___init__) s.heap.objs.size f cdv))) :
    ∃ t, BX (cxOf CX0 P w K mg base N_System___init__ "System.__init__" (defScope s_System___init__) f cdv A outer s H E).nox (defBody s_System___init__) t (rd_System___init__ C_System) := by
  have S := sc_System___init__
  exact ⟨_, bx_cons (sx_if (tx_not (tx_lele (ex_int) (ex_var 1) (ex_cvalK hv_System_MOST))) (bx_one (sx_never)) (bx_nil))
    (bx_cons (sx_setC S.nd (ex_lst (ax_nil)))
    (bx_cons (sx_for PassesOwn.never rfl (ix_seq (ex_var 2)) (gx_name S.nd) (bx_cons (sx_set S.nd (ex_callO h__copied (hr.mono (by decide)) (ax_cons (ex_var 4) (ax_cons (ex_var 1) (ax_nil)))))
    (bx_cons (sx_if (tx_is (ex_var 5) (ex_non)) (bx_one (sx_never)) (bx_nil))
    (bx_one (sx_expr (ex_append (ex_var 3) (ex_var 5)))))))
    (bx_cons (sx_setF hc_System na_System_width (ex_var 1) (ex_var 0))
    (bx_one (sx_setF hc_System na_System_conditions (ex_tuple b_tuple (ax_cons (ex_var 3) (ax_nil))) (ex_var 0))))))⟩
theorem sc_System_holds : FnScope N_System_holds ["self", "point"] (defScope s_System_holds) := ⟨rfl, rfl, rfl, by decide +kernel, rfl, by decide +kernel, by decide +kernel⟩
theorem bx_System_holds {P : Program} {w : World} {K : PySem.W.Frag} {mg : Str → Option Value} {base : Heap} {f : Addr} {C_System : Addr} (hc_System : Cls K C_System) (na_System_conditions : NoAttr K C_System "conditions") (h__is_met : KnO P w K mg base "_is_met" 2 fs__is_met) (b_len : mg ("len" : Str) = none) (na_System_width : NoAttr K C_System "width") (cdv : Value) (A : Around) (outer : List PySem.Env) (s : Shared) (H : Hp) (E : XK) (hr : Room 2 (A.deeper (envOfC "System.holds" (defScope s_System_holds) s.heap.objs.size f cdv))) :
    ∃ t, BX (cxOf CX0 P w K mg base N_System_holds "System.holds" (defScope s_System_holds) f cdv A outer s H E).nox (defBody s_System_holds) t (rd_System_holds C_System) := by
  have S := sc_System_holds
  exact ⟨_, bx_cons (sx_if (tx_ne hr.units (ex_len b_len (ax_cons (ex_var 1) (ax_nil))) (ex_fld hc_System na_System_width (ex_var 0))) (bx_one (sx_never)) (bx_nil))
    (bx_cons (sx_for PassesOwn.never rfl (ix_seq (ex_fld hc_System na_System_conditions (ex_var 0))) (gx_name S.nd) (bx_one (sx_if (tx_not (tx_val (ex_callO h__is_met (hr.mono (by decide)) (ax_cons (ex_var 2) (ax_cons (ex_var 1) (ax_nil)))))) (bx_one (sx_ret (ex_bl))) (bx_nil))))
    (bx_one (sx_ret (ex_bl))))⟩
theorem sc_System___and__ : FnScope N_System___and__ ["self", "other"] (defScope s_System___and__) := ⟨rfl, rfl, rfl, by decide +kernel, rfl, by decide +kernel, by decide +kernel⟩
theorem bx_System___and__ {P : Program} {w : World} {K : PySem.W.Frag} {mg : Str → Option Value} {base : Heap} {f : Addr} {C_System : Addr} (hc_System : Cls K C_System) (na_System_conditions : NoAttr K C_System "conditions") (na_System_width : NoAttr K C_System "width") (hi_System : KnI P w K mg base "System" C_System 2 (fs_System___init__ C_System)) (cdv : Value) (A : Around) (outer : List PySem.Env) (s : Shared) (H : Hp) (E : XK) (hr : Room 3 (A.deeper (envOfC "System.__and__" (defScope s_System___and__) s.heap.objs.size f cdv))) :
    ∃ t, BX (cxOf CX0 P w K mg base N_System___and__ "System.__and__" (defScope s_System___and__) f cdv A outer s H E).nox (defBody s_System___and__) t (rd_System___and__ C_System) := by
  have S := sc_System___and__
  exact ⟨_, bx_cons (sx_if (tx_ne hr.units (ex_fld hc_System na_System_width (ex_var 1)) (ex_fld hc_System na_System_width (ex_var 0))) (bx_one (sx_never)) (bx_nil))
    (bx_one (sx_ret (ex_makeK hi_System (hr.mono (by decide)) (ax_cons (ex_fld hc_System na_System_width (ex_var 0)) (ax_cons (ex_add (ex_fld hc_System na_System_conditions (ex_var 0)) (ex_fld hc_System na_System_conditions (ex_var 1))) (ax_nil))))))⟩
theorem sc_System_adding : FnScope N_System_adding ["self", "conditions"] (defScope s_System_adding) := ⟨rfl, rfl, rfl, by decide +kernel, rfl, by decide +kernel, by decide +kernel⟩
theorem bx_System_adding {P : Program} {w : World} {K : PySem.W.Frag} {mg : Str → Option Value} {base : Heap} {f : Addr} {C_System : Addr} (hc_System : Cls K C_System) (na_System_conditions : NoAttr K C_System "conditions") (na_System_width : NoAttr K C_System "width") (hi_System : KnI P w K mg base "System" C_System 2 (fs_System___init__ C_System)) (cdv : Value) (A : Around) (outer : List PySem.Env) (s : Shared) (H : Hp) (E : XK) (hr : Room 3 (A.deeper (envOfC "System.adding" (defScope s_System_adding) s.heap.objs.size f cdv))) :
    ∃ t, BX (cxOf CX0 P w K mg base N_System_adding "System.adding" (defScope s_System_adding) f cdv A outer s H E).nox (defBody s_System_adding) t (rd_System_adding C_System) := by
  have S := sc_System_adding
  exact ⟨_, bx_one (sx_ret (ex_makeK hi_System (hr.mono (by decide)) (ax_cons (ex_fld hc_System na_System_width (ex_var 0)) (ax_cons (ex_add (ex_fld hc_System na_System_conditions (ex_var 0)) (ex_var 1)) (ax_nil)))))⟩
theorem sc_System_widened : FnScope N_System_widened ["self", "count"] (defScope s_System_widened) := ⟨rfl, rfl, rfl, by decide +kernel, rfl, by decide +kernel, by decide +kernel⟩
theorem bx_System_widened {P : Program} {w : World} {K : PySem.W.Frag} {mg : Str → Option Value} {base : Heap} {f : Addr} {C_System : Addr} (hc_System : Cls K C_System) (na_System_width : NoAttr K C_System "width") (hi_System : KnI P w K mg base "System" C_System 2 (fs_System___init__ C_System)) (na_System_conditions : NoAttr K C_System "conditions") (h_extended : KnO P w K mg base "extended" 1 fs_extended) (hv_System_MOST : KnV K mg "System" "MOST" (.int 80)) (cdv : Value) (A : Around) (outer : List PySem.Env) (s : Shared) (H : Hp) (E : XK) (hr : Room 3 (A.deeper (envOfC "System.widened" (defScope s_System_widened) s.heap.objs.size f cdv))) :
    ∃ t, BX (cxOf CX0 P w K mg base N_System_widened "System.widened" (defScope s_System_widened) f cdv A outer s H E).nox (defBody s_System_widened) t (rd_System_widened C_System) := by
  have S := sc_System_widened
  exact ⟨_, bx_cons (sx_if (tx_not (tx_lele (ex_int) (ex_var 1) (ex_cvalK hv_System_MOST))) (bx_one (sx_never)) (bx_nil))
    (bx_cons (sx_if (tx_gt (ex_add (ex_fld hc_System na_System_width (ex_var 0)) (ex_var 1)) (ex_cvalK hv_System_MOST)) (bx_one (sx_never)) (bx_nil))
    (bx_cons (sx_setLcD rfl S.nd (ix_seq (ex_fld hc_System na_System_conditions (ex_var 0))) (blkOk_by (N := N_System_widened) (sc := defScope s_System_widened) (by decide +kernel)) (fun _ _ _ _ _ => pg_name (i := 3) S.nd rfl (Or.inl rfl)) (fun _ _ _ _ _ => ⟨_, ts_nil⟩) (fun _ _ _ _ _ => ⟨_, ex_add (ex_sl (ex_var 3) (ox_none) (ox_some (ex_neg (ex_int)))) (ex_tup (ax_cons (ex_callO h_extended (hr.mono (by decide)) (ax_cons (ex_ix (ex_var 3) (ex_neg (ex_int))) (ax_cons (ex_var 1) (ax_nil)))) (ax_nil)))⟩) (sw_true rfl rfl rfl (by decide +kernel)))
    (bx_one (sx_ret (ex_makeK hi_System (hr.mono (by decide)) (ax_cons (ex_add (ex_fld hc_System na_System_width (ex_var 0)) (ex_var 1)) (ax_cons (ex_var 2) (ax_nil))))))))⟩
theorem sc_System_fixed : FnScope N_System_fixed ["self", "numbers"] (defScope s_System_fixed) := ⟨rfl, rfl, rfl, by decide +kernel, rfl, by decide +kernel, by decide +kernel⟩
theorem bx_System_fixed {P : Program} {w : World} {K : PySem.W.Frag} {mg : Str → Option Value} {base : Heap} {f : Addr} {C_System : Addr} (hc_System : Cls K C_System) (na_System_width : NoAttr K C_System "width") (hi_System : KnI P w K mg base "System" C_System 2 (fs_System___init__ C_System)) (na_System_conditions : NoAttr K C_System "conditions") (h_row_value : KnO P w K mg base "row_value" 1 fs_row_value) (b_len : mg ("len" : Str) = none) (cdv : Value) (A : Around) (outer : List PySem.Env) (s : Shared) (H : Hp) (E : XK) (hr : Room 3 (A.deeper (envOfC "System.fixed" (defScope s_System_fixed) s.heap.objs.size f cdv))) :
    ∃ t, BX (cxOf CX0 P w K mg base N_System_fixed "System.fixed" (defScope s_System_fixed) f cdv A outer s H E).nox (defBody s_System_fixed) t (rd_System_fixed C_System) := by
  have S := sc_System_fixed
  exact ⟨_, bx_cons (sx_set S.nd (ex_len b_len (ax_cons (ex_var 1) (ax_nil))))
    (bx_cons (sx_if (tx_gt (ex_var 2) (ex_fld hc_System na_System_width (ex_var 0))) (bx_one (sx_never)) (bx_nil))
    (bx_cons (sx_setC S.nd (ex_lst (ax_nil)))
    (bx_cons (sx_for PassesOwn.never rfl (ix_seq (ex_fld hc_System na_System_conditions (ex_var 0))) (gx_name S.nd) (bx_cons (sx_set S.nd (ex_ix (ex_var 4) (ex_neg (ex_int))))
    (bx_cons (sx_set S.nd (ex_callO h_row_value (hr.mono (by decide)) (ax_cons (ex_add (ex_sl (ex_var 5) (ox_none) (ox_some (ex_var 2))) (ex_sl (ex_var 5) (ox_some (ex_neg (ex_int))) (ox_none))) (ax_cons (ex_var 1) (ax_nil)))))
    (bx_one (sx_expr (ex_append (ex_var 3) (ex_add (ex_sl (ex_var 4) (ox_none) (ox_some (ex_neg (ex_int)))) (ex_tup (ax_cons (ex_add (ex_sl (ex_var 5) (ox_some (ex_var 2)) (ox_some (ex_neg (ex_int)))) (ex_tup (ax_cons (ex_var 6) (ax_nil)))) (ax_nil))))))))))
    (bx_one (sx_ret (ex_makeK hi_System (hr.mono (by decide)) (ax_cons (ex_sub (ex_fld hc_System na_System_width (ex_var 0)) (ex_var 2)) (ax_cons (ex_var 3) (ax_nil)))))))))⟩
theorem sc_System_plain_width : FnScope N_System_plain_width ["self"] (defScope s_System_plain_width) := ⟨rfl, rfl, rfl, by decide +kernel, rfl, by decide +kernel, by decide +kernel⟩
theorem bx_System_plain_width {P : Program} {w : World} {K : PySem.W.Frag} {mg : Str → Option Value} {base : Heap} {f : Addr} {C_System : Addr} (hc_System : Cls K C_System) (na_System_width : NoAttr K C_System "width") (na_System_conditions : NoAttr K C_System "conditions") (b_len : mg ("len" : Str) = none) (cdv : Value) (A : Around) (outer : List PySem.Env) (s : Shared) (H : Hp) (E : XK) (hr : Room 0 (A.deeper (envOfC "System.plain_width" (defScope s_System_plain_width) s.heap.objs.size f cdv))) :
    ∃ t, BX (cxOf CX0 P w K mg base N_System_plain_width "System.plain_width" (defScope s_System_plain_width) f cdv A outer s H E).nox (defBody s_System_plain_width) t (rd_System_plain_width C_System) := by
  have S := sc_System_plain_width
  exact ⟨_, bx_one (sx_ret (ex_add (ex_fld hc_System na_System_width (ex_var 0)) (ex_len b_len (ax_cons (ex_lcx rfl S.nd (ix_seq (ex_fld hc_System na_System_conditions (ex_var 0))) (blkOk_by (N := N_System_plain_width) (sc := defScope s_System_plain_width) (by decide +kernel)) (fun _ _ _ _ _ => pg_name (i := 1) S.nd rfl (Or.inl rfl)) (fun _ _ _ _ _ => ⟨_, ts_one (tx_eq hr.units (ex_ix (ex_var 1) (ex_int)) (ex_str))⟩) (fun _ _ _ _ _ => ⟨_, ex_var 1⟩)) (ax_nil)))))⟩
theorem sc_System_plain_rows : FnScope N_System_plain_rows ["self"] (defScope s_System_plain_rows) := ⟨rfl, rfl, rfl, by decide +kernel, rfl, by decide +kernel, by decide +kernel⟩
theorem bx_System_plain_rows {P : Program} {w : World} {K : PySem.W.Frag} {mg : Str → Option Value} {base : Heap} {f : Addr} {C_System : Addr} (hc_System : Cls K C_System) (na_System_conditions : NoAttr K C_System "conditions") (h_negated : KnO P w K mg base "negated" 1 fs_negated) (h_extended : KnO P w K mg base "extended" 1 fs_extended) (na_System_width : NoAttr K C_System "width") (hp_System_plain_width : KnP P w K mg base C_System "plain_width" 1 (fs_System_plain_width C_System)) (cdv : Value) (A : Around) (outer : List PySem.Env) (s : Shared) (H : Hp) (E : XK) (hr : Room 2 (A.deeper (envOfC "System.plain_rows" (defScope s_System_plain_rows) s.heap.objs.size f cdv))) :
    ∃ t, BX (cxOf CX0 P w K mg base N_System_plain_rows "System.plain_rows" (defScope s_System_plain_rows) f cdv A outer s H E).nox (defBody s_System_plain_rows) t (rd_System_plain_rows C_System) := by
  have S := sc_System_plain_rows
  exact ⟨_, bx_cons (sx_set S.nd (ex_sub (ex_propK hc_System hp_System_plain_width (hr.mono (by decide)) (ex_var 0)) (ex_fld hc_System na_System_width (ex_var 0))))
    (bx_cons (sx_setC S.nd (ex_lst (ax_nil)))
    (bx_cons (sx_set S.nd (ex_fld hc_System na_System_width (ex_var 0)))
    (bx_cons (sx_for PassesOwn.never rfl (ix_seq (ex_fld hc_System na_System_conditions (ex_var 0))) (gx_name S.nd) (bx_cons (sx_set S.nd (ex_callO h_extended (hr.mono (by decide)) (ax_cons (ex_ix (ex_var 4) (ex_neg (ex_int))) (ax_cons (ex_var 1) (ax_nil)))))
    (bx_cons (sx_if (tx_eq hr.units (ex_ix (ex_var 4) (ex_int)) (ex_str)) (bx_cons (sx_set S.nd (ex_add (ex_add (ex_sl (ex_var 5) (ox_none) (ox_some (ex_var 3))) (ex_tup (ax_cons (ex_neg (ex_ix (ex_var 4) (ex_int))) (ax_nil)))) (ex_sl (ex_var 5) (ox_some (ex_add (ex_var 3) (ex_int))) (ox_none))))
    (bx_one (sx_set S.nd (ex_add (ex_var 3) (ex_int))))) (bx_nil))
    (bx_cons (sx_expr (ex_append (ex_var 2) (ex_var 5)))
    (bx_one (sx_if (tx_ne hr.units (ex_ix (ex_var 4) (ex_int)) (ex_str)) (bx_one (sx_expr (ex_append (ex_var 2) (ex_callO h_negated (hr.mono (by decide)) (ax_cons (ex_var 5) (ax_nil)))))) (bx_nil)))))))
    (bx_one (sx_ret (ex_var 2))))))⟩
theorem sc__law_draw : FnScope N__law_draw ["_law_pool", "_law_many"] (defScope s__law_draw) := ⟨rfl, rfl, rfl, by decide +kernel, rfl, by decide +kernel, by decide +kernel⟩
theorem bx__law_draw {P : Program} {w : World} {K : PySem.W.Frag} {mg : Str → Option Value} {base : Heap} {f : Addr} (b_int : mg ("int" : Str) = none) (cdv : Value) (A : Around) (outer : List PySem.Env) (s : Shared) (H : Hp) (E : XK) (hr : Room 0 (A.deeper (envOfC "_law_draw" (defScope s__law_draw) s.heap.objs.size f cdv))) :
    ∃ t, BX (cxOf CX0 P w K mg base N__law_draw "_law_draw" (defScope s__law_draw) f cdv A outer s H E).nox (defBody s__law_draw) t (rd__law_draw) := by
  have S := sc__law_draw
  exact ⟨_, bx_cons (sx_if (tx_eq hr.units (ex_var 0) (ex_lst (ax_nil))) (bx_one (sx_ret (ex_int))) (bx_nil))
    (bx_cons (sx_set S.nd (ex_pop (ex_var 0)))
    (bx_cons (sx_set S.nd (ex_div (ex_var 2) (ex_var 1)))
    (bx_cons (sx_if (tx_nin (ex_var 3) (ex_tup (ax_cons (ex_int) (ax_cons (ex_neg (ex_int)) (ax_nil))))) (bx_one (sx_expr (ex_append (ex_var 0) (ex_var 3)))) (bx_nil))
    (bx_one (sx_ret (ex_mod (ex_toint b_int (ax_cons (ex_var 2) (ax_nil))) (ex_var 1)))))))⟩
theorem sc__law_number : FnScope N__law_number ["_law_pool", "_law_size", "_law_at"] (defScope s__law_number) := ⟨rfl, rfl, rfl, by decide +kernel, rfl, by decide +kernel, by decide +kernel⟩
theorem bx__law_number {P : Program} {w : World} {K : PySem.W.Frag} {mg : Str → Option Value} {base : Heap} {f : Addr} (h__law_draw : KnO P w K mg base "_law_draw" 1 fs__law_draw) (b_int : mg ("int" : Str) = none) (cdv : Value) (A : Around) (outer : List PySem.Env) (s : Shared) (H : Hp) (E : XK) (hr : Room 1 (A.deeper (envOfC "_law_number" (defScope s__law_number) s.heap.objs.size f cdv))) :
    ∃ t, BX (cxOf CX0 P w K mg base N__law_number "_law_number" (defScope s__law_number) f cdv A outer s H E).nox (defBody s__law_number) t (rd__law_number) := by
  have S := sc__law_number
  exact ⟨_, bx_one (sx_ret (ex_sub (ex_mod (ex_toint b_int (ax_cons (ex_add (ex_add (ex_callO h__law_draw (hr.mono (by decide)) (ax_cons (ex_var 0) (ax_cons (ex_add (ex_mul (ex_int) (ex_var 1)) (ex_int)) (ax_nil)))) (ex_var 1)) (ex_var 2)) (ax_nil))) (ex_add (ex_mul (ex_int) (ex_var 1)) (ex_int))) (ex_var 1)))⟩
theorem sc__law_value : FnScope N__law_value ["_law_row", "_law_point"] (defScope s__law_value) := ⟨rfl, rfl, rfl, by decide +kernel, rfl, by decide +kernel, by decide +kernel⟩
theorem bx__law_value {P : Program} {w : World} {K : PySem.W.Frag} {mg : Str → Option Value} {base : Heap} {f : Addr} (b_len : mg ("len" : Str) = none) (b_range : mg ("range" : Str) = none) (b_sum : mg ("sum" : Str) = none) (cdv : Value) (A : Around) (outer : List PySem.Env) (s : Shared) (H : Hp) (E : XK) (hr : Room 0 (A.deeper (envOfC "_law_value" (defScope s__law_value) s.heap.objs.size f cdv))) :
    ∃ t, BX (cxOf CX0 P w K mg base N__law_value "_law_value" (defScope s__law_value) f cdv A outer s H E).nox (defBody s__law_value) t (rd__law_value) := by
  have S := sc__law_value
  exact ⟨_, bx_one (sx_ret (ex_add (ex_ix (ex_var 0) (ex_neg (ex_int))) (ex_sum rfl b_sum (ax_cons (ex_lcx rfl S.nd (ix_rng1 b_range (ax_cons (ex_len b_len (ax_cons (ex_var 1) (ax_nil))) (ax_nil))) (blkOk_by (N := N__law_value) (sc := defScope s__law_value) (by decide +kernel)) (fun _ _ _ _ _ => pg_name (i := 2) S.nd rfl (Or.inl rfl)) (fun _ _ _ _ _ => ⟨_, ts_nil⟩) (fun _ _ _ _ _ => ⟨_, ex_mul (ex_ix (ex_var 0) (ex_var 2)) (ex_ix (ex_var 1) (ex_var 2))⟩)) (ax_nil)))))⟩
theorem sc__law_holds : FnScope N__law_holds ["_law_rules", "_law_point"] (defScope s__law_holds) := ⟨rfl, rfl, rfl, by decide +kernel, rfl, by decide +kernel, by decide +kernel⟩
theorem bx__law_holds {P : Program} {w : World} {K : PySem.W.Frag} {mg : Str → Option Value} {base : Heap} {f : Addr} (b_int : mg ("int" : Str) = none) (h__law_value : KnO P w K mg base "_law_value" 1 fs__law_value) (cdv : Value) (A : Around) (outer : List PySem.Env) (s : Shared) (H : Hp) (E : XK) (hr : Room 1 (A.deeper (envOfC "_law_holds" (defScope s__law_holds) s.heap.objs.size f cdv))) :
    ∃ t, BX (cxOf CX0 P w K mg base N__law_holds "_law_holds" (defScope s__law_holds) f cdv A outer s H E).nox (defBody s__law_holds) t (rd__law_holds) := by
  have S := sc__law_holds
  exact ⟨_, bx_cons (sx_for PassesOwn.never rfl (ix_seq (ex_var 0)) (gx_name S.nd) (bx_cons (sx_set S.nd (ex_callO h__law_value (hr.mono (by decide)) (ax_cons (ex_ix (ex_var 2) (ex_neg (ex_int))) (ax_cons (ex_var 1) (ax_nil)))))
    (bx_cons (sx_if (WX.tx (wx_and (tx_eq hr.units (ex_ix (ex_var 2) (ex_int)) (ex_str)) (wx_and1 (tx_lt (ex_var 3) (ex_int))))) (bx_one (sx_ret (ex_bl))) (bx_nil))
    (bx_cons (sx_if (WX.tx (wx_and (tx_eq hr.units (ex_ix (ex_var 2) (ex_int)) (ex_str)) (wx_and1 (tx_ne hr.units (ex_var 3) (ex_int))))) (bx_one (sx_ret (ex_bl))) (bx_nil))
    (bx_one (sx_if (WX.tx (wx_and (tx_eq hr.units (ex_ix (ex_var 2) (ex_int)) (ex_str)) (wx_and1 (tx_ne hr.units (ex_mod (ex_toint b_int (ax_cons (ex_var 3) (ax_nil))) (ex_ix (ex_var 2) (ex_int))) (ex_int))))) (bx_one (sx_ret (ex_bl))) (bx_nil)))))))
    (bx_one (sx_ret (ex_bl)))⟩
theorem sc__law_plain : FnScope N__law_plain ["_law_width", "_law_rules"] (defScope s__law_plain) := ⟨rfl, rfl, rfl, by decide +kernel, rfl, by decide +kernel, by decide +kernel⟩
theorem bx__law_plain {P : Program} {w : World} {K : PySem.W.Frag} {mg : Str → Option Value} {base : Heap} {f : Addr} (b_tuple : mg ("tuple" : Str) = none) (b_len : mg ("len" : Str) = none) (cdv : Value) (A : Around) (outer : List PySem.Env) (s : Shared) (H : Hp) (E : XK) (hr : Room 0 (A.deeper (envOfC "_law_plain" (defScope s__law_plain) s.heap.objs.size f cdv))) :
    ∃ t, BX (cxOf CX0 P w K mg base N__law_plain "_law_plain" (defScope s__law_plain) f cdv A outer s H E).nox (defBody s__law_plain) t (rd__law_plain) := by
  have S := sc__law_plain
  exact ⟨_, bx_cons (sx_set S.nd (ex_len b_len (ax_cons (ex_lcx rfl S.nd (ix_seq (ex_var 1)) (blkOk_by (N := N__law_plain) (sc := defScope s__law_plain) (by decide +kernel)) (fun _ _ _ _ _ => pg_name (i := 5) S.nd rfl (Or.inl rfl)) (fun _ _ _ _ _ => ⟨_, ts_one (tx_eq hr.units (ex_ix (ex_var 5) (ex_int)) (ex_str))⟩) (fun _ _ _ _ _ => ⟨_, ex_var 5⟩)) (ax_nil))))
    (bx_cons (sx_setC S.nd (ex_lst (ax_nil)))
    (bx_cons (sx_set S.nd (ex_int))
    (bx_cons (sx_for PassesOwn.never rfl (ix_seq (ex_var 1)) (gx_name S.nd) (bx_cons (sx_set S.nd (ex_tuple b_tuple (ax_cons (ex_ix (ex_var 5) (ex_neg (ex_int))) (ax_nil))))
    (bx_cons (sx_setC S.nd (ex_mul (ex_lst (ax_cons (ex_int) (ax_nil))) (ex_var 2)))
    (bx_cons (sx_if (tx_eq hr.units (ex_ix (ex_var 5) (ex_int)) (ex_str)) (bx_cons (sx_setI (ex_neg (ex_ix (ex_var 5) (ex_int))) (ex_var 7) (ex_var 4))
    (bx_one (sx_set S.nd (ex_add (ex_var 4) (ex_int))))) (bx_nil))
    (bx_cons (sx_set S.nd (ex_add (ex_add (ex_sl (ex_var 6) (ox_none) (ox_some (ex_var 0))) (ex_tuple b_tuple (ax_cons (ex_var 7) (ax_nil)))) (ex_sl (ex_var 6) (ox_some (ex_var 0)) (ox_none))))
    (bx_cons (sx_expr (ex_append (ex_var 3) (ex_var 6)))
    (bx_one (sx_if (tx_ne hr.units (ex_ix (ex_var 5) (ex_int)) (ex_str)) (bx_one (sx_expr (ex_append (ex_var 3) (ex_tuple b_tuple (ax_cons (ex_lcx rfl S.nd (ix_seq (ex_var 6)) (blkOk_by (N := N__law_plain) (sc := defScope s__law_plain) (by decide +kernel)) (fun _ _ _ _ _ => pg_name (i := 8) S.nd rfl (Or.inl rfl)) (fun _ _ _ _ _ => ⟨_, ts_nil⟩) (fun _ _ _ _ _ => ⟨_, ex_neg (ex_var 8)⟩)) (ax_nil)))))) (bx_nil)))))))))
    (bx_one (sx_ret (ex_var 3))))))⟩
theorem sc__law_rule : FnScope N__law_rule ["_law_pool", "_law_point", "_law_at", "_law_mood"] (defScope s__law_rule) := ⟨rfl, rfl, rfl, by decide +kernel, rfl, by decide +kernel, by decide +kernel⟩
theorem bx__law_rule {P : Program} {w : World} {K : PySem.W.Frag} {mg : Str → Option Value} {base : Heap} {f : Addr} (b_tuple : mg ("tuple" : Str) = none) (h__law_draw : KnO P w K mg base "_law_draw" 1 fs__law_draw) (b_int : mg ("int" : Str) = none) (b_len : mg ("len" : Str) = none) (b_range : mg ("range" : Str) = none) (b_sum : mg ("sum" : Str) = none) (h__law_number : KnO P w K mg base "_law_number" 2 fs__law_number) (cdv : Value) (A : Around) (outer : List PySem.Env) (s : Shared) (H : Hp) (E : XK) (hr : Room 2 (A.deeper (envOfC "_law_rule" (defScope s__law_rule) s.heap.objs.size f cdv))) :
    ∃ t, BX (cxOf CX0 P w K mg base N__law_rule "_law_rule" (defScope s__law_rule) f cdv A outer s H E).nox (defBody s__law_rule) t (rd__law_rule) := by
  have S := sc__law_rule
  exact ⟨_, bx_cons (sx_set S.nd (ex_mod (ex_toint b_int (ax_cons (ex_add (ex_callO h__law_draw (hr.mono (by decide)) (ax_cons (ex_var 0) (ax_cons (ex_int) (ax_nil)))) (ex_var 2)) (ax_nil))) (ex_int)))
    (bx_cons (sx_set S.nd (ex_add (ex_int) (ex_mod (ex_toint b_int (ax_cons (ex_add (ex_callO h__law_draw (hr.mono (by decide)) (ax_cons (ex_var 0) (ax_cons (ex_int) (ax_nil)))) (ex_mul (ex_int) (ex_var 2))) (ax_nil))) (ex_int))))
    (bx_cons (sx_set S.nd (ex_lcx rfl S.nd (ix_rng1 b_range (ax_cons (ex_len b_len (ax_cons (ex_var 1) (ax_nil))) (ax_nil))) (blkOk_by (N := N__law_rule) (sc := defScope s__law_rule) (by decide +kernel)) (fun _ _ _ _ _ => pg_name (i := 9) S.nd rfl (Or.inl rfl)) (fun _ _ _ _ _ => ⟨_, ts_nil⟩) (fun _ _ _ _ _ => ⟨_, ex_callO h__law_number (hr.mono (by decide)) (ax_cons (ex_var 0) (ax_cons (ex_int) (ax_cons (ex_add (ex_add (ex_var 2) (ex_mul (ex_int) (ex_var 9))) (ex_int)) (ax_nil))))⟩)))
    (bx_cons (sx_set S.nd (ex_neg (ex_sum rfl b_sum (ax_cons (ex_lcx rfl S.nd (ix_rng1 b_range (ax_cons (ex_len b_len (ax_cons (ex_var 1) (ax_nil))) (ax_nil))) (blkOk_by (N := N__law_rule) (sc := defScope s__law_rule) (by decide +kernel)) (fun _ _ _ _ _ => pg_name (i := 9) S.nd rfl (Or.inl rfl)) (fun _ _ _ _ _ => ⟨_, ts_nil⟩) (fun _ _ _ _ _ => ⟨_, ex_mul (ex_ix (ex_var 6) (ex_var 9)) (ex_ix (ex_var 1) (ex_var 9))⟩)) (ax_nil)))))
    (bx_cons (sx_set S.nd (ex_callO h__law_draw (hr.mono (by decide)) (ax_cons (ex_var 0) (ax_cons (ex_int) (ax_nil)))))
    (bx_cons (sx_if (WX.tx (wx_and (tx_eq hr.units (ex_var 3) (ex_int)) (wx_and1 (tx_eq hr.units (ex_var 4) (ex_int))))) (bx_one (sx_set S.nd (ex_add (ex_var 7) (ex_var 8)))) (bx_nil))
    (bx_cons (sx_if (WX.tx (wx_and (tx_eq hr.units (ex_var 3) (ex_int)) (wx_and1 (tx_eq hr.units (ex_var 4) (ex_int))))) (bx_one (sx_set S.nd (ex_add (ex_var 7) (ex_mul (ex_var 5) (ex_sub (ex_mod (ex_toint b_int (ax_cons (ex_var 8) (ax_nil))) (ex_int)) (ex_int)))))) (bx_nil))
    (bx_cons (sx_if (tx_eq hr.units (ex_var 3) (ex_int)) (bx_one (sx_set S.nd (ex_sub (ex_var 7) (ex_int)))) (bx_nil))
    (bx_cons (sx_if (tx_eq hr.units (ex_var 3) (ex_int)) (bx_one (sx_set S.nd (ex_sub (ex_callO h__law_draw (hr.mono (by decide)) (ax_cons (ex_var 0) (ax_cons (ex_int) (ax_nil)))) (ex_int)))) (bx_nil))
    (bx_cons (sx_set S.nd (ex_tuple b_tuple (ax_cons (ex_add (ex_var 6) (ex_lst (ax_cons (ex_var 7) (ax_nil)))) (ax_nil))))
    (bx_cons (sx_if (tx_eq hr.units (ex_var 4) (ex_int)) (bx_one (sx_ret (ex_tup (ax_cons (ex_str) (ax_cons (ex_var 5) (ax_cons (ex_var 6) (ax_nil))))))) (bx_nil))
    (bx_one (sx_ret (ex_tup (ax_cons (ex_ix (ex_lst (ax_cons (ex_str) (ax_cons (ex_str) (ax_nil)))) (ex_var 4)) (ax_cons (ex_var 6) (ax_nil))))))))))))))))⟩
theorem sc__law_world : FnScope N__law_world ["_law_pool"] (defScope s__law_world) := ⟨rfl, rfl, rfl, by decide +kernel, rfl, by decide +kernel, by decide +kernel⟩
theorem bx__law_world {P : Program} {w : World} {K : PySem.W.Frag} {mg : Str → Option Value} {base : Heap} {f : Addr} (b_tuple : mg ("tuple" : Str) = none) (h__law_draw : KnO P w K mg base "_law_draw" 1 fs__law_draw) (b_list : mg ("list" : Str) = none) (b_range : mg ("range" : Str) = none) (b_int : mg ("int" : Str) = none) (h__law_rule : KnO P w K mg base "_law_rule" 3 fs__law_rule) (b_max : mg ("max" : Str) = none) (h__law_number : KnO P w K mg base "_law_number" 2 fs__law_number) (cdv : Value) (A : Around) (outer : List PySem.Env) (s : Shared) (H : Hp) (E : XK) (hr : Room 3 (A.deeper (envOfC "_law_world" (defScope s__law_world) s.heap.objs.size f cdv))) :
    ∃ t, BX (cxOf CX0 P w K mg base N__law_world "_law_world" (defScope s__law_world) f cdv A outer s H E).nox (defBody s__law_world) t (rd__law_world) := by
  have S := sc__law_world
  exact ⟨_, bx_cons (sx_set S.nd (ex_callO h__law_draw (hr.mono (by decide)) (ax_cons (ex_var 0) (ax_cons (ex_int) (ax_nil)))))
    (bx_cons (sx_set S.nd (ex_mod (ex_toint b_int (ax_cons (ex_add (ex_callO h__law_draw (hr.mono (by decide)) (ax_cons (ex_var 0) (ax_cons (ex_int) (ax_nil)))) (ex_int)) (ax_nil))) (ex_int)))
    (bx_cons (sx_set S.nd (ex_mod (ex_toint b_int (ax_cons (ex_add (ex_callO h__law_draw (hr.mono (by decide)) (ax_cons (ex_var 0) (ax_cons (ex_int) (ax_nil)))) (ex_int)) (ax_nil))) (ex_int)))
    (bx_cons (sx_setLcD rfl S.nd (ix_rng1 b_range (ax_cons (ex_var 2) (ax_nil))) (blkOk_by (N := N__law_world) (sc := defScope s__law_world) (by decide +kernel)) (fun _ _ _ _ _ => pg_name (i := 9) S.nd rfl (Or.inl rfl)) (fun _ _ _ _ _ => ⟨_, ts_nil⟩) (fun _ _ _ _ _ => ⟨_, ex_callO h__law_number (hr.mono (by decide)) (ax_cons (ex_var 0) (ax_cons (ex_int) (ax_cons (ex_add (ex_var 9) (ex_int)) (ax_nil))))⟩) (sw_true rfl rfl rfl (by decide +kernel)))
    (bx_cons (sx_set S.nd (ex_callO h__law_draw (hr.mono (by decide)) (ax_cons (ex_var 0) (ax_cons (ex_int) (ax_nil)))))
    (bx_cons (sx_set S.nd (ex_callO h__law_draw (hr.mono (by decide)) (ax_cons (ex_var 0) (ax_cons (ex_max2 rfl b_max (ax_cons (ex_int) (ax_cons (ex_var 3) (ax_nil)))) (ax_nil)))))
    (bx_cons (sx_setC S.nd (ex_lst (ax_nil)))
    (bx_cons (sx_for PassesOwn.never rfl (ix_rng1 b_range (ax_cons (ex_var 3) (ax_nil))) (gx_name S.nd) (bx_one (sx_expr (ex_append (ex_var 7) (ex_callO h__law_rule (hr.mono (by decide)) (ax_cons (ex_var 0) (ax_cons (ex_var 4) (ax_cons (ex_var 8) (ax_cons (ex_ix (ex_lst (ax_cons (ex_int) (ax_cons (ex_toint b_int (ax_cons (ex_eq hr.units (ex_var 8) (ex_var 6)) (ax_nil))) (ax_cons (ex_int) (ax_nil))))) (ex_var 5)) (ax_nil))))))))))
    (bx_cons (sx_if (WX.tx (wx_and (tx_eq hr.units (ex_var 1) (ex_int)) (wx_and1 (tx_gt (ex_var 3) (ex_int))))) (bx_cons (sx_set S.nd (ex_callO h__law_draw (hr.mono (by decide)) (ax_cons (ex_var 0) (ax_cons (ex_var 3) (ax_nil)))))
    (bx_cons (sx_set S.nd (ex_callO h__law_draw (hr.mono (by decide)) (ax_cons (ex_var 0) (ax_cons (ex_add (ex_var 2) (ex_int)) (ax_nil)))))
    (bx_cons (sx_setC S.nd (ex_list b_list (ax_cons (ex_ix (ex_ix (ex_var 7) (ex_var 8)) (ex_neg (ex_int))) (ax_nil))))
    (bx_cons (sx_setI (ex_sub (ex_callO h__law_draw (hr.mono (by decide)) (ax_cons (ex_var 0) (ax_cons (ex_add (ex_mul (ex_int) (ex_pow (ex_int) (ex_int))) (ex_int)) (ax_nil)))) (ex_pow (ex_int) (ex_int))) (ex_var 10) (ex_var 9))
    (bx_one (sx_setI (ex_add (ex_sl (ex_ix (ex_var 7) (ex_var 8)) (ox_none) (ox_some (ex_neg (ex_int)))) (ex_tup (ax_cons (ex_tuple b_tuple (ax_cons (ex_var 10) (ax_nil))) (ax_nil)))) (ex_var 7) (ex_var 8))))))) (bx_nil))
    (bx_one (sx_ret (ex_tup (ax_cons (ex_var 1) (ax_cons (ex_var 2) (ax_cons (ex_var 4) (ax_cons (ex_hold (ex_var 7)) (ax_nil))))))))))))))))⟩
theorem sc__law_points : FnScope N__law_points ["_law_pool", "_law_edge", "_law_point"] (defScope s__law_points) := ⟨rfl, rfl, rfl, by decide +kernel, rfl, by decide +kernel, by decide +kernel⟩
theorem bx__law_points {P : Program} {w : World} {K : PySem.W.Frag} {mg : Str → Option Value} {base : Heap} {f : Addr} (b_len : mg ("len" : Str) = none) (h__law_draw : KnO P w K mg base "_law_draw" 1 fs__law_draw) (b_range : mg ("range" : Str) = none) (h__law_number : KnO P w K mg base "_law_number" 2 fs__law_number) (b_list : mg ("list" : Str) = none) (cdv : Value) (A : Around) (outer : List PySem.Env) (s : Shared) (H : Hp) (E : XK) (hr : Room 2 (A.deeper (envOfC "_law_points" (defScope s__law_points) s.heap.objs.size f cdv))) :
    ∃ t, BX (cxOf CX0 P w K mg base N__law_points "_law_points" (defScope s__law_points) f cdv A outer s H E).nox (defBody s__law_points) t (rd__law_points) := by
  have S := sc__law_points
  exact ⟨_, bx_cons (sx_setC S.nd (ex_list b_list (ax_cons (ex_var 2) (ax_nil))))
    (bx_cons (sx_setLcC rfl S.nd (ix_rng1 b_range (ax_cons (ex_len b_len (ax_cons (ex_var 2) (ax_nil))) (ax_nil))) (blkOk_by (N := N__law_points) (sc := defScope s__law_points) (by decide +kernel)) (fun _ _ _ _ _ => pg_name (i := 5) S.nd rfl (Or.inl rfl)) (fun _ _ _ _ _ => ⟨_, ts_nil⟩) (fun _ _ _ _ _ => ⟨_, ex_callO h__law_number (hr.mono (by decide)) (ax_cons (ex_var 0) (ax_cons (ex_int) (ax_cons (ex_sub (ex_int) (ex_var 5)) (ax_nil))))⟩) (sw_true rfl rfl rfl (by decide +kernel)))
    (bx_cons (sx_if (tx_gt (ex_len b_len (ax_cons (ex_var 2) (ax_nil))) (ex_int)) (bx_cons (sx_set S.nd (ex_callO h__law_draw (hr.mono (by decide)) (ax_cons (ex_var 0) (ax_cons (ex_len b_len (ax_cons (ex_var 2) (ax_nil))) (ax_nil)))))
    (bx_one (sx_setI (ex_sub (ex_add (ex_ix (ex_var 3) (ex_var 5)) (ex_int)) (ex_mul (ex_int) (ex_callO h__law_draw (hr.mono (by decide)) (ax_cons (ex_var 0) (ax_cons (ex_int) (ax_nil)))))) (ex_var 3) (ex_var 5)))) (bx_nil))
    (bx_cons (sx_if (WX.tx (wx_and (tx_eq hr.units (ex_var 1) (ex_int)) (wx_and1 (tx_gt (ex_len b_len (ax_cons (ex_var 2) (ax_nil))) (ex_int))))) (bx_cons (sx_set S.nd (ex_callO h__law_draw (hr.mono (by decide)) (ax_cons (ex_var 0) (ax_cons (ex_len b_len (ax_cons (ex_var 2) (ax_nil))) (ax_nil)))))
    (bx_one (sx_setI (ex_sub (ex_callO h__law_draw (hr.mono (by decide)) (ax_cons (ex_var 0) (ax_cons (ex_add (ex_mul (ex_int) (ex_pow (ex_int) (ex_int))) (ex_int)) (ax_nil)))) (ex_pow (ex_int) (ex_int))) (ex_var 4) (ex_var 5)))) (bx_nil))
    (bx_one (sx_ret (ex_lst (ax_cons (ex_var 2) (ax_cons (ex_hold (ex_var 3)) (ax_cons (ex_hold (ex_var 4)) (ax_nil))))))))))⟩
theorem sc__law_widened : FnScope N__law_widened ["_law_rules", "_law_width", "_law_count"] (defScope s__law_widened) := ⟨rfl, rfl, rfl, by decide +kernel, rfl, by decide +kernel, by decide +kernel⟩
theorem bx__law_widened {P : Program} {w : World} {K : PySem.W.Frag} {mg : Str → Option Value} {base : Heap} {f : Addr} (cdv : Value) (A : Around) (outer : List PySem.Env) (s : Shared) (H : Hp) (E : XK) (hr : Room 0 (A.deeper (envOfC "_law_widened" (defScope s__law_widened) s.heap.objs.size f cdv))) :
    ∃ t, BX (cxOf CX0 P w K mg base N__law_widened "_law_widened" (defScope s__law_widened) f cdv A outer s H E).nox (defBody s__law_widened) t (rd__law_widened) := by
  have S := sc__law_widened
  exact ⟨_, bx_cons (sx_setC S.nd (ex_lst (ax_nil)))
    (bx_cons (sx_for PassesOwn.never rfl (ix_seq (ex_var 0)) (gx_name S.nd) (bx_cons (sx_set S.nd (ex_ix (ex_var 4) (ex_neg (ex_int))))
    (bx_one (sx_expr (ex_append (ex_var 3) (ex_add (ex_sl (ex_var 4) (ox_none) (ox_some (ex_neg (ex_int)))) (ex_tup (ax_cons (ex_add (ex_add (ex_sl (ex_var 5) (ox_none) (ox_some (ex_var 1))) (ex_mul (ex_tup (ax_cons (ex_int) (ax_nil))) (ex_var 2))) (ex_sl (ex_var 5) (ox_some (ex_var 1)) (ox_none))) (ax_nil)))))))))
    (bx_one (sx_ret (ex_var 3))))⟩
theorem sc__law_fixed : FnScope N__law_fixed ["_law_rules", "_law_width", "_law_numbers"] (defScope s__law_fixed) := ⟨rfl, rfl, rfl, by decide +kernel, rfl, by decide +kernel, by decide +kernel⟩
theorem bx__law_fixed {P : Program} {w : World} {K : PySem.W.Frag} {mg : Str → Option Value} {base : Heap} {f : Addr} (b_range : mg ("range" : Str) = none) (b_sum : mg ("sum" : Str) = none) (b_len : mg ("len" : Str) = none) (cdv : Value) (A : Around) (outer : List PySem.Env) (s : Shared) (H : Hp) (E : XK) (hr : Room 0 (A.deeper (envOfC "_law_fixed" (defScope s__law_fixed) s.heap.objs.size f cdv))) :
    ∃ t, BX (cxOf CX0 P w K mg base N__law_fixed "_law_fixed" (defScope s__law_fixed) f cdv A outer s H E).nox (defBody s__law_fixed) t (rd__law_fixed) := by
  have S := sc__law_fixed
  exact ⟨_, bx_cons (sx_set S.nd (ex_len b_len (ax_cons (ex_var 2) (ax_nil))))
    (bx_cons (sx_setC S.nd (ex_lst (ax_nil)))
    (bx_cons (sx_for PassesOwn.never rfl (ix_seq (ex_var 0)) (gx_name S.nd) (bx_cons (sx_set S.nd (ex_ix (ex_var 5) (ex_neg (ex_int))))
    (bx_cons (sx_set S.nd (ex_sum rfl b_sum (ax_cons (ex_lcx rfl S.nd (ix_rng1 b_range (ax_cons (ex_var 3) (ax_nil))) (blkOk_by (N := N__law_fixed) (sc := defScope s__law_fixed) (by decide +kernel)) (fun _ _ _ _ _ => pg_name (i := 8) S.nd rfl (Or.inl rfl)) (fun _ _ _ _ _ => ⟨_, ts_nil⟩) (fun _ _ _ _ _ => ⟨_, ex_mul (ex_ix (ex_var 6) (ex_var 8)) (ex_ix (ex_var 2) (ex_var 8))⟩)) (ax_nil))))
    (bx_cons (sx_set S.nd (ex_add (ex_sl (ex_var 6) (ox_some (ex_var 3)) (ox_some (ex_var 1))) (ex_tup (ax_cons (ex_add (ex_ix (ex_var 6) (ex_var 1)) (ex_var 7)) (ax_nil)))))
    (bx_one (sx_expr (ex_append (ex_var 4) (ex_add (ex_sl (ex_var 5) (ox_none) (ox_some (ex_neg (ex_int)))) (ex_tup (ax_cons (ex_var 6) (ax_nil)))))))))))
    (bx_one (sx_ret (ex_var 4)))))⟩
theorem sc__law_has_rows : FnScope N__law_has_rows ["_law_system", "_law_width", "_law_rules"] (defScope s__law_has_rows) := ⟨rfl, rfl, rfl, by decide +kernel, rfl, by decide +kernel, by decide +kernel⟩
theorem bx__law_has_rows {P : Program} {w : World} {K : PySem.W.Frag} {mg : Str → Option Value} {base : Heap} {f : Addr} {C_System : Addr} (b_repr : mg ("repr" : Str) = none) (hc_System : Cls K C_System) (hp_System_plain_width : KnP P w K mg base C_System "plain_width" 1 (fs_System_plain_width C_System)) (hm_System_plain_rows : KnM P w K mg base C_System "plain_rows" 3 (fs_System_plain_rows C_System)) (b_len : mg ("len" : Str) = none) (h__law_plain : KnO P w K mg base "_law_plain" 1 fs__law_plain) (cdv : Value) (A : Around) (outer : List PySem.Env) (s : Shared) (H : Hp) (E : XK) (hr : Room 3 (A.deeper (envOfC "_law_has_rows" (defScope s__law_has_rows) s.heap.objs.size f cdv))) (hgu : (A.deeper (envOfC "_law_has_rows" (defScope s__law_has_rows) s.heap.objs.size f cdv)).guards = some []) :
    ∃ t, BX (cxOf CX0 P w K mg base N__law_has_rows "_law_has_rows" (defScope s__law_has_rows) f cdv A outer s H E).nox (defBody s__law_has_rows) t (rd__law_has_rows C_System) := by
  have S := sc__law_has_rows
  exact ⟨_, bx_cons (sx_set S.nd (ex_callO h__law_plain (hr.mono (by decide)) (ax_cons (ex_var 1) (ax_cons (ex_var 2) (ax_nil)))))
    (bx_cons (sx_set S.nd (ex_add (ex_var 1) (ex_len b_len (ax_cons (ex_lcx rfl S.nd (ix_seq (ex_var 2)) (blkOk_by (N := N__law_has_rows) (sc := defScope s__law_has_rows) (by decide +kernel)) (fun _ _ _ _ _ => pg_name (i := 7) S.nd rfl (Or.inl rfl)) (fun _ _ _ _ _ => ⟨_, ts_one (tx_eq hr.units (ex_ix (ex_var 7) (ex_int)) (ex_str))⟩) (fun _ _ _ _ _ => ⟨_, ex_var 7⟩)) (ax_nil)))))
    (bx_cons (sx_if (tx_ne hr.units (ex_repr hgu hr.units b_repr (ax_cons (ex_propK hc_System hp_System_plain_width (hr.mono (by decide)) (ex_var 0)) (ax_nil))) (ex_repr hgu hr.units b_repr (ax_cons (ex_var 4) (ax_nil)))) (bx_one (sx_ret (ex_bl))) (bx_nil))
    (bx_cons (sx_setC S.nd (ex_methK0 hc_System hm_System_plain_rows (hr.mono (by decide)) (ex_var 0)))
    (bx_cons (sx_if (tx_ne hr.units (ex_repr hgu hr.units b_repr (ax_cons (ex_var 5) (ax_nil))) (ex_repr hgu hr.units b_repr (ax_cons (ex_var 3) (ax_nil)))) (bx_one (sx_ret (ex_bl))) (bx_nil))
    (bx_cons (sx_expr (ex_append (ex_var 5) (ex_add (ex_mul (ex_tup (ax_cons (ex_int) (ax_nil))) (ex_var 4)) (ex_tup (ax_cons (ex_neg (ex_int)) (ax_nil))))))
    (bx_cons (sx_setI (ex_mul (ex_tup (ax_cons (ex_int) (ax_nil))) (ex_add (ex_var 4) (ex_int))) (ex_var 5) (ex_int))
    (bx_cons (sx_set S.nd (ex_methK0 hc_System hm_System_plain_rows (hr.mono (by decide)) (ex_var 0)))
    (bx_one (sx_ret (ex_and (ex_eq hr.units (ex_repr hgu hr.units b_repr (ax_cons (ex_var 6) (ax_nil))) (ex_repr hgu hr.units b_repr (ax_cons (ex_var 3) (ax_nil)))) (ex_one (ex_eq hr.units (ex_repr hgu hr.units b_repr (ax_cons (ex_propK hc_System hp_System_plain_width (hr.mono (by decide)) (ex_var 0)) (ax_nil))) (ex_repr hgu hr.units b_repr (ax_cons (ex_var 4) (ax_nil)))))))))))))))⟩
theorem sc__law_values : FnScope N__law_values ["_law_system", "_law_width", "_law_rules", "_law_point"] (defScope s__law_values) := ⟨rfl, rfl, rfl, by decide +kernel, rfl, by decide +kernel, by decide +kernel⟩
theorem bx__law_values {P : Program} {w : World} {K : PySem.W.Frag} {mg : Str → Option Value} {base : Heap} {f : Addr} {C_System : Addr} (hc_System : Cls K C_System) (hm_System_holds : KnM P w K mg base C_System "holds" 3 (fs_System_holds C_System)) (b_repr : mg ("repr" : Str) = none) (b_list : mg ("list" : Str) = none) (h__law_holds : KnO P w K mg base "_law_holds" 2 fs__law_holds) (h__law_plain : KnO P w K mg base "_law_plain" 1 fs__law_plain) (h_row_value : KnO P w K mg base "row_value" 1 fs_row_value) (b_min : mg ("min" : Str) = none) (h__law_value : KnO P w K mg base "_law_value" 1 fs__law_value) (b_abs : mg ("abs" : Str) = none) (b_max : mg ("max" : Str) = none) (b_tuple : mg ("tuple" : Str) = none) (cdv : Value) (A : Around) (outer : List PySem.Env) (s : Shared) (H : Hp) (E : XK) (hr : Room 3 (A.deeper (envOfC "_law_values" (defScope s__law_values) s.heap.objs.size f cdv))) (hgu : (A.deeper (envOfC "_law_values" (defScope s__law_values) s.heap.objs.size f cdv)).guards = some []) :
    ∃ t, BX (cxOf CX0 P w K mg base N__law_values "_law_values" (defScope s__law_values) f cdv A outer s H E).nox (defBody s__law_values) t (rd__law_values C_System) := by
  have S := sc__law_values
  exact ⟨_, bx_cons (sx_setC S.nd (ex_list b_list (ax_cons (ex_var 3) (ax_nil))))
    (bx_cons (sx_for PassesOwn.never rfl (ix_seq (ex_var 2)) (gx_name S.nd) (bx_one (sx_if (tx_eq hr.units (ex_ix (ex_var 5) (ex_int)) (ex_str)) (bx_one (sx_expr (ex_append (ex_var 4) (ex_div (ex_callO h__law_value (hr.mono (by decide)) (ax_cons (ex_ix (ex_var 5) (ex_neg (ex_int))) (ax_cons (ex_var 3) (ax_nil)))) (ex_ix (ex_var 5) (ex_int)))))) (bx_nil))))
    (bx_cons (sx_set S.nd (ex_tuple b_tuple (ax_cons (ex_var 4) (ax_nil))))
    (bx_cons (sx_set S.nd (ex_le (ex_maxL rfl b_max (ax_cons (ex_add (ex_lcx rfl S.nd (ix_seq (ex_var 4)) (blkOk_by (N := N__law_values) (sc := defScope s__law_values) (by decide +kernel)) (fun _ _ _ _ _ => pg_name (i := 12) S.nd rfl (Or.inl rfl)) (fun _ _ _ _ _ => ⟨_, ts_nil⟩) (fun _ _ _ _ _ => ⟨_, ex_abs b_abs (ax_cons (ex_var 12) (ax_nil))⟩)) (ex_lst (ax_cons (ex_int) (ax_nil)))) (ax_nil))) (ex_pow (ex_int) (ex_int))))
    (bx_cons (sx_set S.nd (ex_int))
    (bx_cons (sx_for PassesOwn.never rfl (ix_seq (ex_callO h__law_plain (hr.mono (by decide)) (ax_cons (ex_var 1) (ax_cons (ex_var 2) (ax_nil))))) (gx_name S.nd) (bx_cons (sx_set S.nd (ex_callO h__law_value (hr.mono (by decide)) (ax_cons (ex_var 9) (ax_cons (ex_var 6) (ax_nil)))))
    (bx_cons (sx_set S.nd (ex_min2 rfl b_min (ax_cons (ex_var 8) (ax_cons (ex_var 10) (ax_nil)))))
    (bx_cons (sx_if (WX.tx (wx_and (tx_val (ex_var 7)) (wx_and1 (tx_ne hr.units (ex_repr hgu hr.units b_repr (ax_cons (ex_callO h_row_value (hr.mono (by decide)) (ax_cons (ex_var 9) (ax_cons (ex_var 4) (ax_nil)))) (ax_nil))) (ex_repr hgu hr.units b_repr (ax_cons (ex_var 10) (ax_nil))))))) (bx_one (sx_ret (ex_bl))) (bx_nil))
    (bx_one (sx_if (WX.tx (wx_and (tx_val (ex_var 7)) (wx_and1 (tx_ne hr.units (ex_repr hgu hr.units b_repr (ax_cons (ex_callO h_row_value (hr.mono (by decide)) (ax_cons (ex_list b_list (ax_cons (ex_var 9) (ax_nil))) (ax_cons (ex_var 6) (ax_nil)))) (ax_nil))) (ex_repr hgu hr.units b_repr (ax_cons (ex_var 10) (ax_nil))))))) (bx_one (sx_ret (ex_bl))) (bx_nil)))))))
    (bx_cons (sx_set S.nd (ex_callO h__law_holds (hr.mono (by decide)) (ax_cons (ex_var 2) (ax_cons (ex_var 3) (ax_nil)))))
    (bx_cons (sx_if (WX.tx (wx_or (tx_ne hr.units (ex_ge (ex_var 8) (ex_int)) (ex_var 11)) (wx_or1 (tx_ne hr.units (ex_var 4) (ex_list b_list (ax_cons (ex_var 6) (ax_nil))))))) (bx_one (sx_ret (ex_bl))) (bx_nil))
    (bx_one (sx_ret (ex_eq hr.units (ex_repr hgu hr.units b_repr (ax_cons (ex_methK hc_System hm_System_holds (hr.mono (by decide)) (ex_var 0) (ax_cons (ex_var 3) (ax_nil))) (ax_nil))) (ex_repr hgu hr.units b_repr (ax_cons (ex_var 11) (ax_nil)))))))))))))⟩
theorem sc_law : FnScope N_law ["_law_script"] (defScope s_law) := ⟨rfl, rfl, rfl, by decide +kernel, rfl, by decide +kernel, by decide +kernel⟩
theorem bx_law {P : Program} {w : World} {K : PySem.W.Frag} {mg : Str → Option Value} {base : Heap} {f : Addr} {C_System : Addr} (h__law_has_rows : KnG P w K mg base "_law_has_rows" 4 (fs__law_has_rows C_System)) (h__law_values : KnG P w K mg base "_law_values" 4 (fs__law_values C_System)) (hc_System : Cls K C_System) (hm_System_fixed : KnM P w K mg base C_System "fixed" 4 (fs_System_fixed C_System)) (h__law_fixed : KnO P w K mg base "_law_fixed" 1 fs__law_fixed) (hm_System_widened : KnM P w K mg base C_System "widened" 4 (fs_System_widened C_System)) (h__law_widened : KnO P w K mg base "_law_widened" 1 fs__law_widened) (hb_System_and : KnB P w K mg base C_System "__and__" 4 (fs_System___and__ C_System)) (hs_System_adding : KnS P w K mg base C_System "adding" 4 (fs_System_adding C_System)) (b_len : mg ("len" : Str) = none) (h__law_draw : KnO P w K mg base "_law_draw" 1 fs__law_draw) (b_int : mg ("int" : Str) = none) (h__law_rule : KnO P w K mg base "_law_rule" 3 fs__law_rule) (b_tuple : mg ("tuple" : Str) = none) (hi_System : KnI P w K mg base "System" C_System 2 (fs_System___init__ C_System)) (b_list : mg ("list" : Str) = none) (h__law_points : KnO P w K mg base "_law_points" 3 fs__law_points) (h__law_world : KnO P w K mg base "_law_world" 4 fs__law_world) (cdv : Value) (A : Around) (outer : List PySem.Env) (s : Shared) (H : Hp) (E : XK) (hr : Room 4 (A.deeper (envOfC "law" (defScope s_law) s.heap.objs.size f cdv))) (hgu : (A.deeper (envOfC "law" (defScope s_law) s.heap.objs.size f cdv)).guards = some []) :
    ∃ t, BX (cxOf CX0 P w K mg base N_law "law" (defScope s_law) f cdv A outer s H E).nox (defBody s_law) t (rd_law C_System) := by
  have S := sc_law
  exact ⟨_, bx_cons (sx_set S.nd (ex_sl (ex_var 0) (ox_none) (ox_some (ex_int))))
    (bx_cons (sx_setC S.nd (ex_rev (ex_var 0)))
    (bx_cons (sx_asg (ex_callO h__law_world (hr.mono (by decide)) (ax_cons (ex_var 1) (ax_nil))) (gx_tup rfl (gs_cons (gx_name S.nd) (gs_cons (gx_name S.nd) (gs_cons (gx_name S.nd) (gs_cons (gx_name S.nd) (gs_nil)))))))
    (bx_cons (sx_set S.nd (ex_callO h__law_points (hr.mono (by decide)) (ax_cons (ex_var 1) (ax_cons (ex_var 2) (ax_cons (ex_var 4) (ax_nil))))))
    (bx_cons (sx_set S.nd (ex_makeK hi_System (hr.mono (by decide)) (ax_cons (ex_var 3) (ax_cons (ex_list b_list (ax_cons (ex_var 5) (ax_nil))) (ax_nil)))))
    (bx_cons (sx_if (tx_not (tx_val (ex_callg h__law_has_rows hgu (hr.mono (by decide)) (ax_cons (ex_var 7) (ax_cons (ex_var 3) (ax_cons (ex_var 5) (ax_nil))))))) (bx_one (sx_ret (ex_bl))) (bx_nil))
    (bx_cons (sx_for PassesOwn.never rfl (ix_seq (ex_var 6)) (gx_name S.nd) (bx_one (sx_if (tx_not (tx_val (ex_callg h__law_values hgu (hr.mono (by decide)) (ax_cons (ex_var 7) (ax_cons (ex_var 3) (ax_cons (ex_var 5) (ax_cons (ex_var 8) (ax_nil)))))))) (bx_one (sx_ret (ex_bl))) (bx_nil))))
    (bx_cons (sx_set S.nd (ex_mul (ex_var 5) (ex_ix (ex_lst (ax_cons (ex_int) (ax_cons (ex_int) (ax_cons (ex_int) (ax_cons (ex_int) (ax_nil)))))) (ex_var 2))))
    (bx_cons (sx_if (tx_not (tx_val (ex_callg h__law_has_rows hgu (hr.mono (by decide)) (ax_cons (ex_makeK hi_System (hr.mono (by decide)) (ax_cons (ex_var 3) (ax_cons (ex_tuple b_tuple (ax_cons (ex_var 9) (ax_nil))) (ax_nil)))) (ax_cons (ex_var 3) (ax_cons (ex_var 9) (ax_nil))))))) (bx_one (sx_ret (ex_bl))) (bx_nil))
    (bx_cons (sx_set S.nd (ex_callO h__law_rule (hr.mono (by decide)) (ax_cons (ex_var 1) (ax_cons (ex_var 4) (ax_cons (ex_int) (ax_cons (ex_int) (ax_nil)))))))
    (bx_cons (sx_set S.nd (ex_callO h__law_rule (hr.mono (by decide)) (ax_cons (ex_var 1) (ax_cons (ex_var 4) (ax_cons (ex_callO h__law_draw (hr.mono (by decide)) (ax_cons (ex_var 1) (ax_cons (ex_int) (ax_nil)))) (ax_cons (ex_int) (ax_nil)))))))
    (bx_cons (sx_set S.nd (ex_mod (ex_toint b_int (ax_cons (ex_add (ex_callO h__law_draw (hr.mono (by decide)) (ax_cons (ex_var 1) (ax_cons (ex_int) (ax_nil)))) (ex_int)) (ax_nil))) (ex_int)))
    (bx_cons (sx_set S.nd (ex_sl (ex_ix (ex_var 6) (ex_int)) (ox_none) (ox_some (ex_callO h__law_draw (hr.mono (by decide)) (ax_cons (ex_var 1) (ax_cons (ex_add (ex_var 3) (ex_int)) (ax_nil)))))))
    (bx_cons (sx_set S.nd (ex_sub (ex_var 3) (ex_len b_len (ax_cons (ex_var 13) (ax_nil)))))
    (bx_cons (sx_set S.nd (ex_add (ex_var 5) (ex_lst (ax_cons (ex_var 10) (ax_cons (ex_var 11) (ax_nil))))))
    (bx_cons (sx_set S.nd (ex_methKS hc_System hs_System_adding (hr.mono (by decide)) (ex_var 7) (ax_cons (ex_var 10) (ax_cons (ex_var 11) (ax_nil)))))
    (bx_cons (sx_if (tx_not (tx_val (ex_callg h__law_has_rows hgu (hr.mono (by decide)) (ax_cons (ex_var 16) (ax_cons (ex_var 3) (ax_cons (ex_var 15) (ax_nil))))))) (bx_one (sx_ret (ex_bl))) (bx_nil))
    (bx_cons (sx_if (tx_not (tx_val (ex_callg h__law_has_rows hgu (hr.mono (by decide)) (ax_cons (ex_ownK (op := .BitAnd) hb_System_and (hr.mono (by decide)) (ex_var 16) (ex_var 7)) (ax_cons (ex_var 3) (ax_cons (ex_add (ex_var 15) (ex_var 5)) (ax_nil))))))) (bx_one (sx_ret (ex_bl))) (bx_nil))
    (bx_cons (sx_set S.nd (ex_callO h__law_widened (hr.mono (by decide)) (ax_cons (ex_var 5) (ax_cons (ex_var 3) (ax_cons (ex_var 12) (ax_nil))))))
    (bx_cons (sx_if (tx_not (tx_val (ex_callg h__law_has_rows hgu (hr.mono (by decide)) (ax_cons (ex_methK hc_System hm_System_widened (hr.mono (by decide)) (ex_var 7) (ax_cons (ex_var 12) (ax_nil))) (ax_cons (ex_add (ex_var 3) (ex_var 12)) (ax_cons (ex_var 17) (ax_nil))))))) (bx_one (sx_ret (ex_bl))) (bx_nil))
    (bx_cons (sx_set S.nd (ex_callO h__law_fixed (hr.mono (by decide)) (ax_cons (ex_var 5) (ax_cons (ex_var 3) (ax_cons (ex_var 13) (ax_nil))))))
    (bx_cons (sx_if (tx_not (tx_val (ex_callg h__law_has_rows hgu (hr.mono (by decide)) (ax_cons (ex_methK hc_System hm_System_fixed (hr.mono (by decide)) (ex_var 7) (ax_cons (ex_var 13) (ax_nil))) (ax_cons (ex_var 14) (ax_cons (ex_var 17) (ax_nil))))))) (bx_one (sx_ret (ex_bl))) (bx_nil))
    (bx_cons (sx_for PassesOwn.never rfl (ix_seq (ex_var 6)) (gx_name S.nd) (bx_one (sx_if (tx_not (tx_val (ex_callg h__law_values hgu (hr.mono (by decide)) (ax_cons (ex_var 16) (ax_cons (ex_var 3) (ax_cons (ex_var 15) (ax_cons (ex_var 8) (ax_nil)))))))) (bx_one (sx_ret (ex_bl))) (bx_nil))))
    (bx_one (sx_ret (ex_callg h__law_has_rows hgu (hr.mono (by decide)) (ax_cons (ex_var 7) (ax_cons (ex_var 3) (ax_cons (ex_var 5) (ax_nil)))))))))))))))))))))))))))))⟩
end Lw
set_option Elab.async false
set_option linter.all false
set_option maxRecDepth 100000
set_option maxHeartbeats 0
namespace Lw
open PySem PySem.Spec PyProof.Rows L2 Dl StX ClX He
def d_row_value : DefD := ⟨("row_value", none), "row_value", "row_value", defArgs s_row_value, defBody s_row_value, defScope s_row_value, [], []⟩
def d_negated : DefD := ⟨("negated", none), "negated", "negated", defArgs s_negated, defBody s_negated, defScope s_negated, [], []⟩
def d_extended : DefD := ⟨("extended", none), "extended", "extended", defArgs s_extended, defBody s_extended, defScope s_extended, [], []⟩
def d__copied : DefD := ⟨("_copied", none), "_copied", "_copied", defArgs s__copied, defBody s__copied, defScope s__copied, [], []⟩
def d__is_met : DefD := ⟨("_is_met", none), "_is_met", "_is_met", defArgs s__is_met, defBody s__is_met, defScope s__is_met, [], []⟩
def d_System___init__ : DefD := ⟨("System", some "__init__"), "__init__", "System.__init__", defArgs s_System___init__, defBody s_System___init__, defScope s_System___init__, [], []⟩
def d_System_holds : DefD := ⟨("System", some "holds"), "holds", "System.holds", defArgs s_System_holds, defBody s_System_holds, defScope s_System_holds, [], []⟩
def d_System___and__ : DefD := ⟨("System", some "__and__"), "__and__", "System.__and__", defArgs s_System___and__, defBody s_System___and__, defScope s_System___and__, [], []⟩
def d_System_adding : DefD := ⟨("System", some "adding"), "adding", "System.adding", defArgs s_System_adding, defBody s_System_adding, defScope s_System_adding, [], []⟩
def d_System_widened : DefD := ⟨("System", some "widened"), "widened", "System.widened", defArgs s_System_widened, defBody s_System_widened, defScope s_System_widened, [], []⟩
def d_System_fixed : DefD := ⟨("System", some "fixed"), "fixed", "System.fixed", defArgs s_System_fixed, defBody s_System_fixed, defScope s_System_fixed, [], []⟩
def d_System_plain_width : DefD := ⟨("System", none), "plain_width", "System.plain_width", defArgs s_System_plain_width, defBody s_System_plain_width, defScope s_System_plain_width, [], []⟩
def d_System_plain_rows : DefD := ⟨("System", some "plain_rows"), "plain_rows", "System.plain_rows", defArgs s_System_plain_rows, defBody s_System_plain_rows, defScope s_System_plain_rows, [], []⟩
def d__law_draw : DefD := ⟨("_law_draw", none), "_law_draw", "_law_draw", defArgs s__law_draw, defBody s__law_draw, defScope s__law_draw, [], []⟩
def d__law_number : DefD := ⟨("_law_number", none), "_law_number", "_law_number", defArgs s__law_number, defBody s__law_number, defScope s__law_number, [], []⟩
def d__law_value : DefD := ⟨("_law_value", none), "_law_value", "_law_value", defArgs s__law_value, defBody s__law_value, defScope s__law_value, [], []⟩
def d__law_holds : DefD := ⟨("_law_holds", none), "_law_holds", "_law_holds", defArgs s__law_holds, defBody s__law_holds, defScope s__law_holds, [], []⟩
def d__law_plain : DefD := ⟨("_law_plain", none), "_law_plain", "_law_plain", defArgs s__law_plain, defBody s__law_plain, defScope s__law_plain, [], []⟩
def d__law_rule : DefD := ⟨("_law_rule", none), "_law_rule", "_law_rule", defArgs s__law_rule, defBody s__law_rule, defScope s__law_rule, [], []⟩
def d__law_world : DefD := ⟨("_law_world", none), "_law_world", "_law_world", defArgs s__law_world, defBody s__law_world, defScope s__law_world, [], []⟩
def d__law_points : DefD := ⟨("_law_points", none), "_law_points", "_law_points", defArgs s__law_points, defBody s__law_points, defScope s__law_points, [], []⟩
def d__law_widened : DefD := ⟨("_law_widened", none), "_law_widened", "_law_widened", defArgs s__law_widened, defBody s__law_widened, defScope s__law_widened, [], []⟩
def d__law_fixed : DefD := ⟨("_law_fixed", none), "_law_fixed", "_law_fixed", defArgs s__law_fixed, defBody s__law_fixed, defScope s__law_fixed, [], []⟩
def d__law_has_rows : DefD := ⟨("_law_has_rows", none), "_law_has_rows", "_law_has_rows", defArgs s__law_has_rows, defBody s__law_has_rows, defScope s__law_has_rows, [], []⟩
def d__law_values : DefD := ⟨("_law_values", none), "_law_values", "_law_values", defArgs s__law_values, defBody s__law_values, defScope s__law_values, [], []⟩
def d_law : DefD := ⟨("law", none), "law", "law", defArgs s_law, defBody s_law, defScope s_law, [], []⟩
def fn : List DefD := [d_row_value, d_negated, d_extended, d__copied, d__is_met, d_System___init__, d_System_holds, d_System___and__, d_System_adding, d_System_widened, d_System_fixed, d_System_plain_rows, d__law_draw, d__law_number, d__law_value, d__law_holds, d__law_plain, d__law_rule, d__law_world, d__law_points, d__law_widened, d__law_fixed, d__law_has_rows, d__law_values, d_law]
def ps : List PDef := [("System", "plain_width", d_System_plain_width)]
def fa : List Fa := [.glo "row_value", .glo "negated", .glo "extended", .glo "_copied", .glo "_is_met", .glo "_law_draw", .glo "_law_number", .glo "_law_value", .glo "_law_holds", .glo "_law_plain", .glo "_law_rule", .glo "_law_world", .glo "_law_points", .glo "_law_widened", .glo "_law_fixed", .glo "_law_has_rows", .glo "_law_values", .glo "law", .free "abs", .free "int", .free "len", .free "list", .free "max", .free "min", .free "range", .free "repr", .free "sum", .free "tuple", .glo "System", .cls "System", .noat "System" "conditions", .noat "System" "width", .mkr "System", .meth "System" "plain_rows", .meth "System" "holds", .meth "System" "fixed", .meth "System" "widened", .meth "System" "adding"]
def ex (K : PySem.W.Frag) : Bool := cvB K "System" "MOST" (.int 80) && opB K "System" "__and__"
abbrev R : PySem.W.OpenRow := PySem.W.OpenLaw.row PySem.Challenge.rw_loopsame_k02_plain_rows
abbrev hk : PySem.W.Hook := hookY 7 fa fn ps ex
def ob (s : PySem.W.SharedT) : AlY := obsYG 7 fa fn ps ex (HandSHeadRun.getT s)
theorem ob_eq (s : PySem.W.SharedT) : ob s = hk.obs s.abs := obsYG_eq (HandSHeadRun.getT_eq s)
def loose : List Str := ["LoopError", "BadSystem", "BadPoint", "BadCount", "row_value", "negated", "extended", "_copied", "_is_met", "System", "_law_draw", "_law_number", "_law_value", "_law_holds", "_law_plain", "_law_rule", "_law_world", "_law_points", "_law_widened", "_law_fixed", "_law_has_rows", "_law_values"]
theorem run (w : World) : HandSHeadRun.RunEq R (PySem.W.view R.prog [26]) hk ob 4000 loose w := by
  intro os
  kernel_rfl
theorem the_facts {P : Program} {w : World} {K : PySem.W.Frag} {h : Heap} {mg : Str → Option Value} {f : Addr} (X : K.In h) (G : h.Ns mainGlobals mg) (hfa : mg ("law" : Str) = some (.ref f)) (c : SaysY fa fn ps ex K) :
    ∃ fd : FuncData, (∀ (s : Shared) (v : Value), BindsTo s fd ⟨[v], []⟩ [("_law_script", v)]) ∧ ∀ base : Heap, K.In base → base.Ns mainGlobals mg → FnG P w K mg base 5 f fd ["_law_script"] fsLaw := by
  have b_abs := free_ok X G (c.d.fact 18 (f := .free "abs") rfl)
  have b_int := free_ok X G (c.d.fact 19 (f := .free "int") rfl)
  have b_len := free_ok X G (c.d.fact 20 (f := .free "len") rfl)
  have b_list := free_ok X G (c.d.fact 21 (f := .free "list") rfl)
  have b_max := free_ok X G (c.d.fact 22 (f := .free "max") rfl)
  have b_min := free_ok X G (c.d.fact 23 (f := .free "min") rfl)
  have b_range := free_ok X G (c.d.fact 24 (f := .free "range") rfl)
  have b_repr := free_ok X G (c.d.fact 25 (f := .free "repr") rfl)
  have b_sum := free_ok X G (c.d.fact 26 (f := .free "sum") rfl)
  have b_tuple := free_ok X G (c.d.fact 27 (f := .free "tuple") rfl)
  have g_System := glo_ok X G (c.d.fact 28 (f := .glo "System") rfl)
  have hc_System := cls_ok (c.d.fact 29 (f := .cls "System") rfl)
  have na_System_conditions := noat_ok (c.d.fact 30 (f := .noat "System" "conditions") rfl)
  have na_System_width := noat_ok (c.d.fact 31 (f := .noat "System" "width") rfl)
  have hex : (cvB K "System" "MOST" (.int 80) && opB K "System" "__and__") = true := c.more
  simp only [Bool.and_eq_true] at hex
  have hv_System_MOST := cvB_ok (v := .int 80) g_System hex.1 fun _ => .int _
  have op_System_and := opB_ok hex.2
  obtain ⟨fd_row_value, FD_row_value⟩ := c.d.def_ 0 (d := d_row_value) rfl
  have g_row_value := glo_ok X G (c.d.fact 0 (f := .glo "row_value") rfl)
  obtain ⟨fd_negated, FD_negated⟩ := c.d.def_ 1 (d := d_negated) rfl
  have g_negated := glo_ok X G (c.d.fact 1 (f := .glo "negated") rfl)
  obtain ⟨fd_extended, FD_extended⟩ := c.d.def_ 2 (d := d_extended) rfl
  have g_extended := glo_ok X G (c.d.fact 2 (f := .glo "extended") rfl)
  obtain ⟨fd__copied, FD__copied⟩ := c.d.def_ 3 (d := d__copied) rfl
  have g__copied := glo_ok X G (c.d.fact 3 (f := .glo "_copied") rfl)
  obtain ⟨fd__is_met, FD__is_met⟩ := c.d.def_ 4 (d := d__is_met) rfl
  have g__is_met := glo_ok X G (c.d.fact 4 (f := .glo "_is_met") rfl)
  obtain ⟨fd_System___init__, FD_System___init__⟩ := c.d.def_ 5 (d := d_System___init__) rfl
  obtain ⟨fd_System_holds, FD_System_holds⟩ := c.d.def_ 6 (d := d_System_holds) rfl
  obtain ⟨fd_System___and__, FD_System___and__⟩ := c.d.def_ 7 (d := d_System___and__) rfl
  obtain ⟨fd_System_adding, FD_System_adding⟩ := c.d.def_ 8 (d := d_System_adding) rfl
  obtain ⟨fd_System_widened, FD_System_widened⟩ := c.d.def_ 9 (d := d_System_widened) rfl
  obtain ⟨fd_System_fixed, FD_System_fixed⟩ := c.d.def_ 10 (d := d_System_fixed) rfl
  obtain ⟨fd_System_plain_rows, FD_System_plain_rows⟩ := c.d.def_ 11 (d := d_System_plain_rows) rfl
  obtain ⟨fd__law_draw, FD__law_draw⟩ := c.d.def_ 12 (d := d__law_draw) rfl
  have g__law_draw := glo_ok X G (c.d.fact 5 (f := .glo "_law_draw") rfl)
  obtain ⟨fd__law_number, FD__law_number⟩ := c.d.def_ 13 (d := d__law_number) rfl
  have g__law_number := glo_ok X G (c.d.fact 6 (f := .glo "_law_number") rfl)
  obtain ⟨fd__law_value, FD__law_value⟩ := c.d.def_ 14 (d := d__law_value) rfl
  have g__law_value := glo_ok X G (c.d.fact 7 (f := .glo "_law_value") rfl)
  obtain ⟨fd__law_holds, FD__law_holds⟩ := c.d.def_ 15 (d := d__law_holds) rfl
  have g__law_holds := glo_ok X G (c.d.fact 8 (f := .glo "_law_holds") rfl)
  obtain ⟨fd__law_plain, FD__law_plain⟩ := c.d.def_ 16 (d := d__law_plain) rfl
  have g__law_plain := glo_ok X G (c.d.fact 9 (f := .glo "_law_plain") rfl)
  obtain ⟨fd__law_rule, FD__law_rule⟩ := c.d.def_ 17 (d := d__law_rule) rfl
  have g__law_rule := glo_ok X G (c.d.fact 10 (f := .glo "_law_rule") rfl)
  obtain ⟨fd__law_world, FD__law_world⟩ := c.d.def_ 18 (d := d__law_world) rfl
  have g__law_world := glo_ok X G (c.d.fact 11 (f := .glo "_law_world") rfl)
  obtain ⟨fd__law_points, FD__law_points⟩ := c.d.def_ 19 (d := d__law_points) rfl
  have g__law_points := glo_ok X G (c.d.fact 12 (f := .glo "_law_points") rfl)
  obtain ⟨fd__law_widened, FD__law_widened⟩ := c.d.def_ 20 (d := d__law_widened) rfl
  have g__law_widened := glo_ok X G (c.d.fact 13 (f := .glo "_law_widened") rfl)
  obtain ⟨fd__law_fixed, FD__law_fixed⟩ := c.d.def_ 21 (d := d__law_fixed) rfl
  have g__law_fixed := glo_ok X G (c.d.fact 14 (f := .glo "_law_fixed") rfl)
  obtain ⟨fd__law_has_rows, FD__law_has_rows⟩ := c.d.def_ 22 (d := d__law_has_rows) rfl
  have g__law_has_rows := glo_ok X G (c.d.fact 15 (f := .glo "_law_has_rows") rfl)
  obtain ⟨fd__law_values, FD__law_values⟩ := c.d.def_ 23 (d := d__law_values) rfl
  have g__law_values := glo_ok X G (c.d.fact 16 (f := .glo "_law_values") rfl)
  obtain ⟨fd_law, FD_law⟩ := c.d.def_ 24 (d := d_law) rfl
  have g_law := glo_ok X G (c.d.fact 17 (f := .glo "law") rfl)
  obtain ⟨pr_System_plain_width, fd_System_plain_width, FD_System_plain_width⟩ := c.prop 0 (q := ("System", "plain_width", d_System_plain_width)) rfl
  have bi_row_value : Binds K fd_row_value ["row", "point"] [] := FD_row_value.bindsN fun _ _ _ _ _ _ us hl => match us, hl with | [_, _], _ => rfl
  have bi_negated : Binds K fd_negated ["row"] [] := FD_negated.bindsN fun _ _ _ _ _ _ us hl => match us, hl with | [_], _ => rfl
  have bi_extended : Binds K fd_extended ["row", "count"] [] := FD_extended.bindsN fun _ _ _ _ _ _ us hl => match us, hl with | [_, _], _ => rfl
  have bi__copied : Binds K fd__copied ["condition", "width"] [] := FD__copied.bindsN fun _ _ _ _ _ _ us hl => match us, hl with | [_, _], _ => rfl
  have bi__is_met : Binds K fd__is_met ["condition", "point"] [] := FD__is_met.bindsN fun _ _ _ _ _ _ us hl => match us, hl with | [_, _], _ => rfl
  have bi_System___init__ : Binds K fd_System___init__ ["self", "width", "conditions"] [] := FD_System___init__.bindsN fun _ _ _ _ _ _ us hl => match us, hl with | [_, _, _], _ => rfl
  have bi_System_holds : Binds K fd_System_holds ["self", "point"] [] := FD_System_holds.bindsN fun _ _ _ _ _ _ us hl => match us, hl with | [_, _], _ => rfl
  have bi_System___and__ : Binds K fd_System___and__ ["self", "other"] [] := FD_System___and__.bindsN fun _ _ _ _ _ _ us hl => match us, hl with | [_, _], _ => rfl
  have bi_System_widened : Binds K fd_System_widened ["self", "count"] [] := FD_System_widened.bindsN fun _ _ _ _ _ _ us hl => match us, hl with | [_, _], _ => rfl
  have bi_System_fixed : Binds K fd_System_fixed ["self", "numbers"] [] := FD_System_fixed.bindsN fun _ _ _ _ _ _ us hl => match us, hl with | [_, _], _ => rfl
  have bi_System_plain_width : Binds K fd_System_plain_width ["self"] [] := FD_System_plain_width.bindsN fun _ _ _ _ _ _ us hl => match us, hl with | [_], _ => rfl
  have bi_System_plain_rows : Binds K fd_System_plain_rows ["self"] [] := FD_System_plain_rows.bindsN fun _ _ _ _ _ _ us hl => match us, hl with | [_], _ => rfl
  have bi__law_draw : Binds K fd__law_draw ["_law_pool", "_law_many"] [] := FD__law_draw.bindsN fun _ _ _ _ _ _ us hl => match us, hl with | [_, _], _ => rfl
  have bi__law_number : Binds K fd__law_number ["_law_pool", "_law_size", "_law_at"] [] := FD__law_number.bindsN fun _ _ _ _ _ _ us hl => match us, hl with | [_, _, _], _ => rfl
  have bi__law_value : Binds K fd__law_value ["_law_row", "_law_point"] [] := FD__law_value.bindsN fun _ _ _ _ _ _ us hl => match us, hl with | [_, _], _ => rfl
  have bi__law_holds : Binds K fd__law_holds ["_law_rules", "_law_point"] [] := FD__law_holds.bindsN fun _ _ _ _ _ _ us hl => match us, hl with | [_, _], _ => rfl
  have bi__law_plain : Binds K fd__law_plain ["_law_width", "_law_rules"] [] := FD__law_plain.bindsN fun _ _ _ _ _ _ us hl => match us, hl with | [_, _], _ => rfl
  have bi__law_rule : Binds K fd__law_rule ["_law_pool", "_law_point", "_law_at", "_law_mood"] [] := FD__law_rule.bindsN fun _ _ _ _ _ _ us hl => match us, hl with | [_, _, _, _], _ => rfl
  have bi__law_world : Binds K fd__law_world ["_law_pool"] [] := FD__law_world.bindsN fun _ _ _ _ _ _ us hl => match us, hl with | [_], _ => rfl
  have bi__law_points : Binds K fd__law_points ["_law_pool", "_law_edge", "_law_point"] [] := FD__law_points.bindsN fun _ _ _ _ _ _ us hl => match us, hl with | [_, _, _], _ => rfl
  have bi__law_widened : Binds K fd__law_widened ["_law_rules", "_law_width", "_law_count"] [] := FD__law_widened.bindsN fun _ _ _ _ _ _ us hl => match us, hl with | [_, _, _], _ => rfl
  have bi__law_fixed : Binds K fd__law_fixed ["_law_rules", "_law_width", "_law_numbers"] [] := FD__law_fixed.bindsN fun _ _ _ _ _ _ us hl => match us, hl with | [_, _, _], _ => rfl
  have bi__law_has_rows : Binds K fd__law_has_rows ["_law_system", "_law_width", "_law_rules"] [] := FD__law_has_rows.bindsN fun _ _ _ _ _ _ us hl => match us, hl with | [_, _, _], _ => rfl
  have bi__law_values : Binds K fd__law_values ["_law_system", "_law_width", "_law_rules", "_law_point"] [] := FD__law_values.bindsN fun _ _ _ _ _ _ us hl => match us, hl with | [_, _, _, _], _ => rfl
  have bi_law : Binds K fd_law ["_law_script"] [] := FD_law.bindsN fun _ _ _ _ _ _ us hl => match us, hl with | [_], _ => rfl
  have mk_System := mkr_ok (c.d.fact 32 (f := .mkr "System") rfl)
  have me_System_plain_rows := meth_ok (c.d.fact 33 (f := .meth "System" "plain_rows") rfl)
  have me_System_holds := meth_ok (c.d.fact 34 (f := .meth "System" "holds") rfl)
  have me_System_fixed := meth_ok (c.d.fact 35 (f := .meth "System" "fixed") rfl)
  have me_System_widened := meth_ok (c.d.fact 36 (f := .meth "System" "widened") rfl)
  have me_System_adding := meth_ok (c.d.fact 37 (f := .meth "System" "adding") rfl)
  have e := hfa.symm.trans g_law
  cases e
  have bl := FunD.bindsA (ps := ["_law_script"]) FD_law fun _ _ _ _ _ _ us hl => match us, hl with | [_], _ => rfl
  refine ⟨fd_law, fun s v => bl s [v] rfl, fun base _ _ => ?_⟩
  have F_row_value : FnOk P w K mg base CX0 1 _ fd_row_value ["row", "point"] (spD K (fs_row_value)) := fn_D (fun_of FD_row_value) sc_row_value (fun ds M Q h => by first | (obtain ⟨_, rfl, _⟩ := h; rfl) | (obtain ⟨_, _, rfl, _⟩ := h; rfl) | (obtain ⟨_, _, _, rfl, _⟩ := h; rfl) | (obtain ⟨_, _, _, _, rfl, _⟩ := h; rfl) | (obtain ⟨_, _, _, _, _, rfl, _⟩ := h; rfl) | (obtain ⟨_, _, _, _, _, _, rfl, _⟩ := h; rfl) | (obtain ⟨_, _, _, _, _, _, _, rfl, _⟩ := h; rfl) | (obtain ⟨_, _, _, _, _, _, _, _, rfl, _⟩ := h; rfl)) (rd_row_value) (fun cdv A outer s H E hr => bx_row_value (b_len := b_len) (b_range := b_range) cdv A outer s H E hr) (ok_row_value)
  have h_row_value : KnO P w K mg base "row_value" 1 (fs_row_value) := ⟨_, _, _, F_row_value, g_row_value, FD_row_value.kp, bi_row_value⟩
  have F_negated : FnOk P w K mg base CX0 1 _ fd_negated ["row"] (spD K (fs_negated)) := fn_D (fun_of FD_negated) sc_negated (fun ds M Q h => by first | (obtain ⟨_, rfl, _⟩ := h; rfl) | (obtain ⟨_, _, rfl, _⟩ := h; rfl) | (obtain ⟨_, _, _, rfl, _⟩ := h; rfl) | (obtain ⟨_, _, _, _, rfl, _⟩ := h; rfl) | (obtain ⟨_, _, _, _, _, rfl, _⟩ := h; rfl) | (obtain ⟨_, _, _, _, _, _, rfl, _⟩ := h; rfl) | (obtain ⟨_, _, _, _, _, _, _, rfl, _⟩ := h; rfl) | (obtain ⟨_, _, _, _, _, _, _, _, rfl, _⟩ := h; rfl)) (rd_negated) (fun cdv A outer s H E hr => bx_negated (b_tuple := b_tuple) cdv A outer s H E hr) (ok_negated)
  have h_negated : KnO P w K mg base "negated" 1 (fs_negated) := ⟨_, _, _, F_negated, g_negated, FD_negated.kp, bi_negated⟩
  have F_extended : FnOk P w K mg base CX0 1 _ fd_extended ["row", "count"] (spD K (fs_extended)) := fn_D (fun_of FD_extended) sc_extended (fun ds M Q h => by first | (obtain ⟨_, rfl, _⟩ := h; rfl) | (obtain ⟨_, _, rfl, _⟩ := h; rfl) | (obtain ⟨_, _, _, rfl, _⟩ := h; rfl) | (obtain ⟨_, _, _, _, rfl, _⟩ := h; rfl) | (obtain ⟨_, _, _, _, _, rfl, _⟩ := h; rfl) | (obtain ⟨_, _, _, _, _, _, rfl, _⟩ := h; rfl) | (obtain ⟨_, _, _, _, _, _, _, rfl, _⟩ := h; rfl) | (obtain ⟨_, _, _, _, _, _, _, _, rfl, _⟩ := h; rfl)) (rd_extended) (fun cdv A outer s H E hr => bx_extended (b_tuple := b_tuple) cdv A outer s H E hr) (ok_extended)
  have h_extended : KnO P w K mg base "extended" 1 (fs_extended) := ⟨_, _, _, F_extended, g_extended, FD_extended.kp, bi_extended⟩
  have F__copied : FnOk P w K mg base CX0 1 _ fd__copied ["condition", "width"] (spD K (fs__copied)) := fn_D (fun_of FD__copied) sc__copied (fun ds M Q h => by first | (obtain ⟨_, rfl, _⟩ := h; rfl) | (obtain ⟨_, _, rfl, _⟩ := h; rfl) | (obtain ⟨_, _, _, rfl, _⟩ := h; rfl) | (obtain ⟨_, _, _, _, rfl, _⟩ := h; rfl) | (obtain ⟨_, _, _, _, _, rfl, _⟩ := h; rfl) | (obtain ⟨_, _, _, _, _, _, rfl, _⟩ := h; rfl) | (obtain ⟨_, _, _, _, _, _, _, rfl, _⟩ := h; rfl) | (obtain ⟨_, _, _, _, _, _, _, _, rfl, _⟩ := h; rfl)) (rd__copied) (fun cdv A outer s H E hr => bx__copied (b_len := b_len) (b_tuple := b_tuple) cdv A outer s H E hr) (ok__copied)
  have h__copied : KnO P w K mg base "_copied" 1 (fs__copied) := ⟨_, _, _, F__copied, g__copied, FD__copied.kp, bi__copied⟩
  have F__is_met : FnOk P w K mg base CX0 2 _ fd__is_met ["condition", "point"] (spD K (fs__is_met)) := fn_D (fun_of FD__is_met) sc__is_met (fun ds M Q h => by first | (obtain ⟨_, rfl, _⟩ := h; rfl) | (obtain ⟨_, _, rfl, _⟩ := h; rfl) | (obtain ⟨_, _, _, rfl, _⟩ := h; rfl) | (obtain ⟨_, _, _, _, rfl, _⟩ := h; rfl) | (obtain ⟨_, _, _, _, _, rfl, _⟩ := h; rfl) | (obtain ⟨_, _, _, _, _, _, rfl, _⟩ := h; rfl) | (obtain ⟨_, _, _, _, _, _, _, rfl, _⟩ := h; rfl) | (obtain ⟨_, _, _, _, _, _, _, _, rfl, _⟩ := h; rfl)) (rd__is_met) (fun cdv A outer s H E hr => bx__is_met (h_row_value := h_row_value) cdv A outer s H E hr) (ok__is_met)
  have h__is_met : KnO P w K mg base "_is_met" 2 (fs__is_met) := ⟨_, _, _, F__is_met, g__is_met, FD__is_met.kp, bi__is_met⟩
  have F_System___init__ : FnOk P w K mg base CX0 2 _ fd_System___init__ ["self", "width", "conditions"] (spD K (fs_System___init__ (ga K "System"))) := fn_D (fun_of FD_System___init__) sc_System___init__ (fun ds M Q h => by first | (obtain ⟨_, rfl, _⟩ := h; rfl) | (obtain ⟨_, _, rfl, _⟩ := h; rfl) | (obtain ⟨_, _, _, rfl, _⟩ := h; rfl) | (obtain ⟨_, _, _, _, rfl, _⟩ := h; rfl) | (obtain ⟨_, _, _, _, _, rfl, _⟩ := h; rfl) | (obtain ⟨_, _, _, _, _, _, rfl, _⟩ := h; rfl) | (obtain ⟨_, _, _, _, _, _, _, rfl, _⟩ := h; rfl) | (obtain ⟨_, _, _, _, _, _, _, _, rfl, _⟩ := h; rfl)) (rd_System___init__ (ga K "System")) (fun cdv A outer s H E hr => bx_System___init__ (b_tuple := b_tuple) (hc_System := hc_System) (na_System_conditions := na_System_conditions) (na_System_width := na_System_width) (h__copied := h__copied) (hv_System_MOST := hv_System_MOST) cdv A outer s H E hr) (ok_System___init__ (ga K "System"))
  have hi_System : KnI P w K mg base "System" (ga K "System") 2 (fs_System___init__ (ga K "System")) := ⟨_, _, _, F_System___init__, mk_System, g_System, bi_System___init__⟩
  have F_System_holds : FnOk P w K mg base CX0 3 _ fd_System_holds ["self", "point"] (spD K (fs_System_holds (ga K "System"))) := fn_D (fun_of FD_System_holds) sc_System_holds (fun ds M Q h => by first | (obtain ⟨_, rfl, _⟩ := h; rfl) | (obtain ⟨_, _, rfl, _⟩ := h; rfl) | (obtain ⟨_, _, _, rfl, _⟩ := h; rfl) | (obtain ⟨_, _, _, _, rfl, _⟩ := h; rfl) | (obtain ⟨_, _, _, _, _, rfl, _⟩ := h; rfl) | (obtain ⟨_, _, _, _, _, _, rfl, _⟩ := h; rfl) | (obtain ⟨_, _, _, _, _, _, _, rfl, _⟩ := h; rfl) | (obtain ⟨_, _, _, _, _, _, _, _, rfl, _⟩ := h; rfl)) (rd_System_holds (ga K "System")) (fun cdv A outer s H E hr => bx_System_holds (hc_System := hc_System) (na_System_conditions := na_System_conditions) (h__is_met := h__is_met) (b_len := b_len) (na_System_width := na_System_width) cdv A outer s H E hr) (ok_System_holds (ga K "System"))
  have hm_System_holds : KnM P w K mg base (ga K "System") "holds" 3 (fs_System_holds (ga K "System")) := ⟨_, _, _, F_System_holds, me_System_holds, bi_System_holds⟩
  have F_System___and__ : FnOk P w K mg base CX0 4 _ fd_System___and__ ["self", "other"] (spD K (fs_System___and__ (ga K "System"))) := fn_D (fun_of FD_System___and__) sc_System___and__ (fun ds M Q h => by first | (obtain ⟨_, rfl, _⟩ := h; rfl) | (obtain ⟨_, _, rfl, _⟩ := h; rfl) | (obtain ⟨_, _, _, rfl, _⟩ := h; rfl) | (obtain ⟨_, _, _, _, rfl, _⟩ := h; rfl) | (obtain ⟨_, _, _, _, _, rfl, _⟩ := h; rfl) | (obtain ⟨_, _, _, _, _, _, rfl, _⟩ := h; rfl) | (obtain ⟨_, _, _, _, _, _, _, rfl, _⟩ := h; rfl) | (obtain ⟨_, _, _, _, _, _, _, _, rfl, _⟩ := h; rfl)) (rd_System___and__ (ga K "System")) (fun cdv A outer s H E hr => bx_System___and__ (hc_System := hc_System) (na_System_conditions := na_System_conditions) (na_System_width := na_System_width) (hi_System := hi_System) cdv A outer s H E hr) (ok_System___and__ (ga K "System"))
  have hb_System_and : KnB P w K mg base (ga K "System") "__and__" 4 (fs_System___and__ (ga K "System")) := ⟨_, _, _, F_System___and__, op_System_and, bi_System___and__⟩
  have F_System_adding := fn_star_D (P := P) (w := w) (mg := mg) (base := base) (fun_of FD_System_adding) sc_System_adding (rd_System_adding (ga K "System")) (fun cdv A outer s H E hr => bx_System_adding (hc_System := hc_System) (na_System_conditions := na_System_conditions) (na_System_width := na_System_width) (hi_System := hi_System) cdv A outer s H E hr) (ok_System_adding (ga K "System")) (fun kV doc pm an cdv ct us rest hl => bind_star1 (B := fun l => bindArgs (PySem.W.fnOf "adding" "System.adding" (defArgs s_System_adding) (defBody s_System_adding) (defScope s_System_adding) .none kV doc pm an cdv ct) ⟨l, []⟩) (fun _ => rfl) (fun _ _ _ => rfl) us rest hl)
  have hs_System_adding : KnS P w K mg base (ga K "System") "adding" 4 (fs_System_adding (ga K "System")) := ⟨_, F_System_adding, me_System_adding⟩
  have F_System_widened : FnOk P w K mg base CX0 4 _ fd_System_widened ["self", "count"] (spD K (fs_System_widened (ga K "System"))) := fn_D (fun_of FD_System_widened) sc_System_widened (fun ds M Q h => by first | (obtain ⟨_, rfl, _⟩ := h; rfl) | (obtain ⟨_, _, rfl, _⟩ := h; rfl) | (obtain ⟨_, _, _, rfl, _⟩ := h; rfl) | (obtain ⟨_, _, _, _, rfl, _⟩ := h; rfl) | (obtain ⟨_, _, _, _, _, rfl, _⟩ := h; rfl) | (obtain ⟨_, _, _, _, _, _, rfl, _⟩ := h; rfl) | (obtain ⟨_, _, _, _, _, _, _, rfl, _⟩ := h; rfl) | (obtain ⟨_, _, _, _, _, _, _, _, rfl, _⟩ := h; rfl)) (rd_System_widened (ga K "System")) (fun cdv A outer s H E hr => bx_System_widened (hc_System := hc_System) (na_System_width := na_System_width) (hi_System := hi_System) (na_System_conditions := na_System_conditions) (h_extended := h_extended) (hv_System_MOST := hv_System_MOST) cdv A outer s H E hr) (ok_System_widened (ga K "System"))
  have hm_System_widened : KnM P w K mg base (ga K "System") "widened" 4 (fs_System_widened (ga K "System")) := ⟨_, _, _, F_System_widened, me_System_widened, bi_System_widened⟩
  have F_System_fixed : FnOk P w K mg base CX0 4 _ fd_System_fixed ["self", "numbers"] (spD K (fs_System_fixed (ga K "System"))) := fn_D (fun_of FD_System_fixed) sc_System_fixed (fun ds M Q h => by first | (obtain ⟨_, rfl, _⟩ := h; rfl) | (obtain ⟨_, _, rfl, _⟩ := h; rfl) | (obtain ⟨_, _, _, rfl, _⟩ := h; rfl) | (obtain ⟨_, _, _, _, rfl, _⟩ := h; rfl) | (obtain ⟨_, _, _, _, _, rfl, _⟩ := h; rfl) | (obtain ⟨_, _, _, _, _, _, rfl, _⟩ := h; rfl) | (obtain ⟨_, _, _, _, _, _, _, rfl, _⟩ := h; rfl) | (obtain ⟨_, _, _, _, _, _, _, _, rfl, _⟩ := h; rfl)) (rd_System_fixed (ga K "System")) (fun cdv A outer s H E hr => bx_System_fixed (hc_System := hc_System) (na_System_width := na_System_width) (hi_System := hi_System) (na_System_conditions := na_System_conditions) (h_row_value := h_row_value) (b_len := b_len) cdv A outer s H E hr) (ok_System_fixed (ga K "System"))
  have hm_System_fixed : KnM P w K mg base (ga K "System") "fixed" 4 (fs_System_fixed (ga K "System")) := ⟨_, _, _, F_System_fixed, me_System_fixed, bi_System_fixed⟩
  have F_System_plain_width : FnOk P w K mg base CX0 1 _ fd_System_plain_width ["self"] (spD K (fs_System_plain_width (ga K "System"))) := fn_D (fun_of FD_System_plain_width) sc_System_plain_width (fun ds M Q h => by first | (obtain ⟨_, rfl, _⟩ := h; rfl) | (obtain ⟨_, _, rfl, _⟩ := h; rfl) | (obtain ⟨_, _, _, rfl, _⟩ := h; rfl) | (obtain ⟨_, _, _, _, rfl, _⟩ := h; rfl) | (obtain ⟨_, _, _, _, _, rfl, _⟩ := h; rfl) | (obtain ⟨_, _, _, _, _, _, rfl, _⟩ := h; rfl) | (obtain ⟨_, _, _, _, _, _, _, rfl, _⟩ := h; rfl) | (obtain ⟨_, _, _, _, _, _, _, _, rfl, _⟩ := h; rfl)) (rd_System_plain_width (ga K "System")) (fun cdv A outer s H E hr => bx_System_plain_width (hc_System := hc_System) (na_System_width := na_System_width) (na_System_conditions := na_System_conditions) (b_len := b_len) cdv A outer s H E hr) (ok_System_plain_width (ga K "System"))
  have hp_System_plain_width : KnP P w K mg base (ga K "System") "plain_width" 1 (fs_System_plain_width (ga K "System")) := ⟨_, _, _, _, F_System_plain_width, pr_System_plain_width, bi_System_plain_width⟩
  have F_System_plain_rows : FnOk P w K mg base CX0 3 _ fd_System_plain_rows ["self"] (spD K (fs_System_plain_rows (ga K "System"))) := fn_D (fun_of FD_System_plain_rows) sc_System_plain_rows (fun ds M Q h => by first | (obtain ⟨_, rfl, _⟩ := h; rfl) | (obtain ⟨_, _, rfl, _⟩ := h; rfl) | (obtain ⟨_, _, _, rfl, _⟩ := h; rfl) | (obtain ⟨_, _, _, _, rfl, _⟩ := h; rfl) | (obtain ⟨_, _, _, _, _, rfl, _⟩ := h; rfl) | (obtain ⟨_, _, _, _, _, _, rfl, _⟩ := h; rfl) | (obtain ⟨_, _, _, _, _, _, _, rfl, _⟩ := h; rfl) | (obtain ⟨_, _, _, _, _, _, _, _, rfl, _⟩ := h; rfl)) (rd_System_plain_rows (ga K "System")) (fun cdv A outer s H E hr => bx_System_plain_rows (hc_System := hc_System) (na_System_conditions := na_System_conditions) (h_negated := h_negated) (h_extended := h_extended) (na_System_width := na_System_width) (hp_System_plain_width := hp_System_plain_width) cdv A outer s H E hr) (ok_System_plain_rows (ga K "System"))
  have hm_System_plain_rows : KnM P w K mg base (ga K "System") "plain_rows" 3 (fs_System_plain_rows (ga K "System")) := ⟨_, _, _, F_System_plain_rows, me_System_plain_rows, bi_System_plain_rows⟩
  have F__law_draw : FnOk P w K mg base CX0 1 _ fd__law_draw ["_law_pool", "_law_many"] (spD K (fs__law_draw)) := fn_D (fun_of FD__law_draw) sc__law_draw (fun ds M Q h => by first | (obtain ⟨_, rfl, _⟩ := h; rfl) | (obtain ⟨_, _, rfl, _⟩ := h; rfl) | (obtain ⟨_, _, _, rfl, _⟩ := h; rfl) | (obtain ⟨_, _, _, _, rfl, _⟩ := h; rfl) | (obtain ⟨_, _, _, _, _, rfl, _⟩ := h; rfl) | (obtain ⟨_, _, _, _, _, _, rfl, _⟩ := h; rfl) | (obtain ⟨_, _, _, _, _, _, _, rfl, _⟩ := h; rfl) | (obtain ⟨_, _, _, _, _, _, _, _, rfl, _⟩ := h; rfl)) (rd__law_draw) (fun cdv A outer s H E hr => bx__law_draw (b_int := b_int) cdv A outer s H E hr) (ok__law_draw)
  have h__law_draw : KnO P w K mg base "_law_draw" 1 (fs__law_draw) := ⟨_, _, _, F__law_draw, g__law_draw, FD__law_draw.kp, bi__law_draw⟩
  have F__law_number : FnOk P w K mg base CX0 2 _ fd__law_number ["_law_pool", "_law_size", "_law_at"] (spD K (fs__law_number)) := fn_D (fun_of FD__law_number) sc__law_number (fun ds M Q h => by first | (obtain ⟨_, rfl, _⟩ := h; rfl) | (obtain ⟨_, _, rfl, _⟩ := h; rfl) | (obtain ⟨_, _, _, rfl, _⟩ := h; rfl) | (obtain ⟨_, _, _, _, rfl, _⟩ := h; rfl) | (obtain ⟨_, _, _, _, _, rfl, _⟩ := h; rfl) | (obtain ⟨_, _, _, _, _, _, rfl, _⟩ := h; rfl) | (obtain ⟨_, _, _, _, _, _, _, rfl, _⟩ := h; rfl) | (obtain ⟨_, _, _, _, _, _, _, _, rfl, _⟩ := h; rfl)) (rd__law_number) (fun cdv A outer s H E hr => bx__law_number (h__law_draw := h__law_draw) (b_int := b_int) cdv A outer s H E hr) (ok__law_number)
  have h__law_number : KnO P w K mg base "_law_number" 2 (fs__law_number) := ⟨_, _, _, F__law_number, g__law_number, FD__law_number.kp, bi__law_number⟩
  have F__law_value : FnOk P w K mg base CX0 1 _ fd__law_value ["_law_row", "_law_point"] (spD K (fs__law_value)) := fn_D (fun_of FD__law_value) sc__law_value (fun ds M Q h => by first | (obtain ⟨_, rfl, _⟩ := h; rfl) | (obtain ⟨_, _, rfl, _⟩ := h; rfl) | (obtain ⟨_, _, _, rfl, _⟩ := h; rfl) | (obtain ⟨_, _, _, _, rfl, _⟩ := h; rfl) | (obtain ⟨_, _, _, _, _, rfl, _⟩ := h; rfl) | (obtain ⟨_, _, _, _, _, _, rfl, _⟩ := h; rfl) | (obtain ⟨_, _, _, _, _, _, _, rfl, _⟩ := h; rfl) | (obtain ⟨_, _, _, _, _, _, _, _, rfl, _⟩ := h; rfl)) (rd__law_value) (fun cdv A outer s H E hr => bx__law_value (b_len := b_len) (b_range := b_range) (b_sum := b_sum) cdv A outer s H E hr) (ok__law_value)
  have h__law_value : KnO P w K mg base "_law_value" 1 (fs__law_value) := ⟨_, _, _, F__law_value, g__law_value, FD__law_value.kp, bi__law_value⟩
  have F__law_holds : FnOk P w K mg base CX0 2 _ fd__law_holds ["_law_rules", "_law_point"] (spD K (fs__law_holds)) := fn_D (fun_of FD__law_holds) sc__law_holds (fun ds M Q h => by first | (obtain ⟨_, rfl, _⟩ := h; rfl) | (obtain ⟨_, _, rfl, _⟩ := h; rfl) | (obtain ⟨_, _, _, rfl, _⟩ := h; rfl) | (obtain ⟨_, _, _, _, rfl, _⟩ := h; rfl) | (obtain ⟨_, _, _, _, _, rfl, _⟩ := h; rfl) | (obtain ⟨_, _, _, _, _, _, rfl, _⟩ := h; rfl) | (obtain ⟨_, _, _, _, _, _, _, rfl, _⟩ := h; rfl) | (obtain ⟨_, _, _, _, _, _, _, _, rfl, _⟩ := h; rfl)) (rd__law_holds) (fun cdv A outer s H E hr => bx__law_holds (b_int := b_int) (h__law_value := h__law_value) cdv A outer s H E hr) (ok__law_holds)
  have h__law_holds : KnO P w K mg base "_law_holds" 2 (fs__law_holds) := ⟨_, _, _, F__law_holds, g__law_holds, FD__law_holds.kp, bi__law_holds⟩
  have F__law_plain : FnOk P w K mg base CX0 1 _ fd__law_plain ["_law_width", "_law_rules"] (spD K (fs__law_plain)) := fn_D (fun_of FD__law_plain) sc__law_plain (fun ds M Q h => by first | (obtain ⟨_, rfl, _⟩ := h; rfl) | (obtain ⟨_, _, rfl, _⟩ := h; rfl) | (obtain ⟨_, _, _, rfl, _⟩ := h; rfl) | (obtain ⟨_, _, _, _, rfl, _⟩ := h; rfl) | (obtain ⟨_, _, _, _, _, rfl, _⟩ := h; rfl) | (obtain ⟨_, _, _, _, _, _, rfl, _⟩ := h; rfl) | (obtain ⟨_, _, _, _, _, _, _, rfl, _⟩ := h; rfl) | (obtain ⟨_, _, _, _, _, _, _, _, rfl, _⟩ := h; rfl)) (rd__law_plain) (fun cdv A outer s H E hr => bx__law_plain (b_tuple := b_tuple) (b_len := b_len) cdv A outer s H E hr) (ok__law_plain)
  have h__law_plain : KnO P w K mg base "_law_plain" 1 (fs__law_plain) := ⟨_, _, _, F__law_plain, g__law_plain, FD__law_plain.kp, bi__law_plain⟩
  have F__law_rule : FnOk P w K mg base CX0 3 _ fd__law_rule ["_law_pool", "_law_point", "_law_at", "_law_mood"] (spD K (fs__law_rule)) := fn_D (fun_of FD__law_rule) sc__law_rule (fun ds M Q h => by first | (obtain ⟨_, rfl, _⟩ := h; rfl) | (obtain ⟨_, _, rfl, _⟩ := h; rfl) | (obtain ⟨_, _, _, rfl, _⟩ := h; rfl) | (obtain ⟨_, _, _, _, rfl, _⟩ := h; rfl) | (obtain ⟨_, _, _, _, _, rfl, _⟩ := h; rfl) | (obtain ⟨_, _, _, _, _, _, rfl, _⟩ := h; rfl) | (obtain ⟨_, _, _, _, _, _, _, rfl, _⟩ := h; rfl) | (obtain ⟨_, _, _, _, _, _, _, _, rfl, _⟩ := h; rfl)) (rd__law_rule) (fun cdv A outer s H E hr => bx__law_rule (b_tuple := b_tuple) (h__law_draw := h__law_draw) (b_int := b_int) (b_len := b_len) (b_range := b_range) (b_sum := b_sum) (h__law_number := h__law_number) cdv A outer s H E hr) (ok__law_rule)
  have h__law_rule : KnO P w K mg base "_law_rule" 3 (fs__law_rule) := ⟨_, _, _, F__law_rule, g__law_rule, FD__law_rule.kp, bi__law_rule⟩
  have F__law_world : FnOk P w K mg base CX0 4 _ fd__law_world ["_law_pool"] (spD K (fs__law_world)) := fn_D (fun_of FD__law_world) sc__law_world (fun ds M Q h => by first | (obtain ⟨_, rfl, _⟩ := h; rfl) | (obtain ⟨_, _, rfl, _⟩ := h; rfl) | (obtain ⟨_, _, _, rfl, _⟩ := h; rfl) | (obtain ⟨_, _, _, _, rfl, _⟩ := h; rfl) | (obtain ⟨_, _, _, _, _, rfl, _⟩ := h; rfl) | (obtain ⟨_, _, _, _, _, _, rfl, _⟩ := h; rfl) | (obtain ⟨_, _, _, _, _, _, _, rfl, _⟩ := h; rfl) | (obtain ⟨_, _, _, _, _, _, _, _, rfl, _⟩ := h; rfl)) (rd__law_world) (fun cdv A outer s H E hr => bx__law_world (b_tuple := b_tuple) (h__law_draw := h__law_draw) (b_list := b_list) (b_range := b_range) (b_int := b_int) (h__law_rule := h__law_rule) (b_max := b_max) (h__law_number := h__law_number) cdv A outer s H E hr) (ok__law_world)
  have h__law_world : KnO P w K mg base "_law_world" 4 (fs__law_world) := ⟨_, _, _, F__law_world, g__law_world, FD__law_world.kp, bi__law_world⟩
  have F__law_points : FnOk P w K mg base CX0 3 _ fd__law_points ["_law_pool", "_law_edge", "_law_point"] (spD K (fs__law_points)) := fn_D (fun_of FD__law_points) sc__law_points (fun ds M Q h => by first | (obtain ⟨_, rfl, _⟩ := h; rfl) | (obtain ⟨_, _, rfl, _⟩ := h; rfl) | (obtain ⟨_, _, _, rfl, _⟩ := h; rfl) | (obtain ⟨_, _, _, _, rfl, _⟩ := h; rfl) | (obtain ⟨_, _, _, _, _, rfl, _⟩ := h; rfl) | (obtain ⟨_, _, _, _, _, _, rfl, _⟩ := h; rfl) | (obtain ⟨_, _, _, _, _, _, _, rfl, _⟩ := h; rfl) | (obtain ⟨_, _, _, _, _, _, _, _, rfl, _⟩ := h; rfl)) (rd__law_points) (fun cdv A outer s H E hr => bx__law_points (b_len := b_len) (h__law_draw := h__law_draw) (b_range := b_range) (h__law_number := h__law_number) (b_list := b_list) cdv A outer s H E hr) (ok__law_points)
  have h__law_points : KnO P w K mg base "_law_points" 3 (fs__law_points) := ⟨_, _, _, F__law_points, g__law_points, FD__law_points.kp, bi__law_points⟩
  have F__law_widened : FnOk P w K mg base CX0 1 _ fd__law_widened ["_law_rules", "_law_width", "_law_count"] (spD K (fs__law_widened)) := fn_D (fun_of FD__law_widened) sc__law_widened (fun ds M Q h => by first | (obtain ⟨_, rfl, _⟩ := h; rfl) | (obtain ⟨_, _, rfl, _⟩ := h; rfl) | (obtain ⟨_, _, _, rfl, _⟩ := h; rfl) | (obtain ⟨_, _, _, _, rfl, _⟩ := h; rfl) | (obtain ⟨_, _, _, _, _, rfl, _⟩ := h; rfl) | (obtain ⟨_, _, _, _, _, _, rfl, _⟩ := h; rfl) | (obtain ⟨_, _, _, _, _, _, _, rfl, _⟩ := h; rfl) | (obtain ⟨_, _, _, _, _, _, _, _, rfl, _⟩ := h; rfl)) (rd__law_widened) (fun cdv A outer s H E hr => bx__law_widened  cdv A outer s H E hr) (ok__law_widened)
  have h__law_widened : KnO P w K mg base "_law_widened" 1 (fs__law_widened) := ⟨_, _, _, F__law_widened, g__law_widened, FD__law_widened.kp, bi__law_widened⟩
  have F__law_fixed : FnOk P w K mg base CX0 1 _ fd__law_fixed ["_law_rules", "_law_width", "_law_numbers"] (spD K (fs__law_fixed)) := fn_D (fun_of FD__law_fixed) sc__law_fixed (fun ds M Q h => by first | (obtain ⟨_, rfl, _⟩ := h; rfl) | (obtain ⟨_, _, rfl, _⟩ := h; rfl) | (obtain ⟨_, _, _, rfl, _⟩ := h; rfl) | (obtain ⟨_, _, _, _, rfl, _⟩ := h; rfl) | (obtain ⟨_, _, _, _, _, rfl, _⟩ := h; rfl) | (obtain ⟨_, _, _, _, _, _, rfl, _⟩ := h; rfl) | (obtain ⟨_, _, _, _, _, _, _, rfl, _⟩ := h; rfl) | (obtain ⟨_, _, _, _, _, _, _, _, rfl, _⟩ := h; rfl)) (rd__law_fixed) (fun cdv A outer s H E hr => bx__law_fixed (b_range := b_range) (b_sum := b_sum) (b_len := b_len) cdv A outer s H E hr) (ok__law_fixed)
  have h__law_fixed : KnO P w K mg base "_law_fixed" 1 (fs__law_fixed) := ⟨_, _, _, F__law_fixed, g__law_fixed, FD__law_fixed.kp, bi__law_fixed⟩
  have F__law_has_rows : FnG P w K mg base 4 _ fd__law_has_rows ["_law_system", "_law_width", "_law_rules"] (fs__law_has_rows (ga K "System")) := fn_G (fun_of FD__law_has_rows) sc__law_has_rows (fun ds M Q h => by first | (obtain ⟨_, rfl, _⟩ := h; rfl) | (obtain ⟨_, _, rfl, _⟩ := h; rfl) | (obtain ⟨_, _, _, rfl, _⟩ := h; rfl) | (obtain ⟨_, _, _, _, rfl, _⟩ := h; rfl) | (obtain ⟨_, _, _, _, _, rfl, _⟩ := h; rfl) | (obtain ⟨_, _, _, _, _, _, rfl, _⟩ := h; rfl) | (obtain ⟨_, _, _, _, _, _, _, rfl, _⟩ := h; rfl) | (obtain ⟨_, _, _, _, _, _, _, _, rfl, _⟩ := h; rfl)) (rd__law_has_rows (ga K "System")) (fun cdv A outer s H E hr hgu => bx__law_has_rows (b_repr := b_repr) (hc_System := hc_System) (hp_System_plain_width := hp_System_plain_width) (hm_System_plain_rows := hm_System_plain_rows) (b_len := b_len) (h__law_plain := h__law_plain) cdv A outer s H E hr hgu) (ok__law_has_rows (ga K "System"))
  have h__law_has_rows : KnG P w K mg base "_law_has_rows" 4 (fs__law_has_rows (ga K "System")) := ⟨_, _, _, F__law_has_rows, g__law_has_rows, FD__law_has_rows.kp, bi__law_has_rows⟩
  have F__law_values : FnG P w K mg base 4 _ fd__law_values ["_law_system", "_law_width", "_law_rules", "_law_point"] (fs__law_values (ga K "System")) := fn_G (fun_of FD__law_values) sc__law_values (fun ds M Q h => by first | (obtain ⟨_, rfl, _⟩ := h; rfl) | (obtain ⟨_, _, rfl, _⟩ := h; rfl) | (obtain ⟨_, _, _, rfl, _⟩ := h; rfl) | (obtain ⟨_, _, _, _, rfl, _⟩ := h; rfl) | (obtain ⟨_, _, _, _, _, rfl, _⟩ := h; rfl) | (obtain ⟨_, _, _, _, _, _, rfl, _⟩ := h; rfl) | (obtain ⟨_, _, _, _, _, _, _, rfl, _⟩ := h; rfl) | (obtain ⟨_, _, _, _, _, _, _, _, rfl, _⟩ := h; rfl)) (rd__law_values (ga K "System")) (fun cdv A outer s H E hr hgu => bx__law_values (hc_System := hc_System) (hm_System_holds := hm_System_holds) (b_repr := b_repr) (b_list := b_list) (h__law_holds := h__law_holds) (h__law_plain := h__law_plain) (h_row_value := h_row_value) (b_min := b_min) (h__law_value := h__law_value) (b_abs := b_abs) (b_max := b_max) (b_tuple := b_tuple) cdv A outer s H E hr hgu) (ok__law_values (ga K "System"))
  have h__law_values : KnG P w K mg base "_law_values" 4 (fs__law_values (ga K "System")) := ⟨_, _, _, F__law_values, g__law_values, FD__law_values.kp, bi__law_values⟩
  have F_law : FnG P w K mg base 5 _ fd_law ["_law_script"] (fs_law (ga K "System")) := fn_G (fun_of FD_law) sc_law (fun ds M Q h => by first | (obtain ⟨_, rfl, _⟩ := h; rfl) | (obtain ⟨_, _, rfl, _⟩ := h; rfl) | (obtain ⟨_, _, _, rfl, _⟩ := h; rfl) | (obtain ⟨_, _, _, _, rfl, _⟩ := h; rfl) | (obtain ⟨_, _, _, _, _, rfl, _⟩ := h; rfl) | (obtain ⟨_, _, _, _, _, _, rfl, _⟩ := h; rfl) | (obtain ⟨_, _, _, _, _, _, _, rfl, _⟩ := h; rfl) | (obtain ⟨_, _, _, _, _, _, _, _, rfl, _⟩ := h; rfl)) (rd_law (ga K "System")) (fun cdv A outer s H E hr hgu => bx_law (h__law_has_rows := h__law_has_rows) (h__law_values := h__law_values) (hc_System := hc_System) (hm_System_fixed := hm_System_fixed) (h__law_fixed := h__law_fixed) (hm_System_widened := hm_System_widened) (h__law_widened := h__law_widened) (hb_System_and := hb_System_and) (hs_System_adding := hs_System_adding) (b_len := b_len) (h__law_draw := h__law_draw) (b_int := b_int) (h__law_rule := h__law_rule) (b_tuple := b_tuple) (hi_System := hi_System) (b_list := b_list) (h__law_points := h__law_points) (h__law_world := h__law_world) cdv A outer s H E hr hgu) (ok_law (ga K "System"))
  exact F_law
end Lw
open PySem PySem.W PySem.Calls PyProof.Rows
theorem PySem.Challenge.cw_loopsame_k02_plain_rows_holds : PySem.Challenge.rw_loopsame_k02_plain_rows.Holds := by
  w_on; o_law
  refine HandSHeadRun.head_any (r := OpenLaw.row PySem.Challenge.rw_loopsame_k02_plain_rows) (q := view (OpenLaw.row PySem.Challenge.rw_loopsame_k02_plain_rows).prog [26]) (H := Lw.hk) (ob := Lw.ob) (M := 4000) (loose := Lw.loose) (d := HandSHeadRun.topDef (OpenLaw.row PySem.Challenge.rw_loopsame_k02_plain_rows).prog 26) (kwd := []) Lw.ob_eq
    (by kernel_rfl) (fun s => by kernel_rfl) Lw.run (by kernel_rfl) (by kernel_rfl) (by kernel_rfl) (by rfl) (by first | assumption | decide +kernel) (by decide +kernel) ⟨rfl, rfl, rfl, rfl, rfl, by decide +kernel⟩ ?hw ?hc
  case hw => w_witness2
  case hc =>
    refine Dl.walk_D (l := PySem.Challenge.rw_loopsame_k02_plain_rows) (k := 5) (x := "_law_script") rfl (by kernel_rfl) ⟨rfl, by decide, by decide⟩ ?F
    intro w mg fa h Y G hmg0
    obtain ⟨K, KX, c⟩ := Y
    have hmg : mg ("law" : PySem.Str) = some (.ref fa) := by
      have e : (HandSHeadRun.topDef (OpenLaw.row PySem.Challenge.rw_loopsame_k02_plain_rows).prog 26).name = ("law" : PySem.Str) := by kernel_rfl
      rw [← e]
      exact hmg0
    obtain ⟨fd, hb, hF⟩ := Lw.the_facts (P := (PySem.Challenge.rw_loopsame_k02_plain_rows).prog) (w := w) KX G hmg c
    exact ⟨K, fd, KX, hb, hF⟩
