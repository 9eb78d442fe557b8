import PyProof.Rows.All
import Wide.All
import OpenK.AllK
import Wide.FinOn
import PyProof.EqAt
import PyProof.EqKinds
import PyProof.TupleCall
import PyProof.ReprReads
import HandS.Base
import HandS.Call
import HandS.List
import HandS.Comp
import HandS.Ends
import HandS.Words
import HandS.WordsList
import HandS.TupAny
import HandS.TupMul
import HandS.More
import HandS.Wide
import HandS.Style
import HandS.WideBits
import PyProof.ListMulRoad
import PyProof.FactsAll.tuple_2
import HandS.ClsMeth
import HandS.Property
import HandS.HeadEnd
import HandS.Head0
import HandS.Head1
import HandS.Head2
import HandS.HeadHook1
import HandS.HeadHook2
import HandS.HeadHook3
import HandS.HeadHook4
import HandS.Star
import OpenK.KMeth
import HandS.Iter
import HandS.Zip
import KE.GoesEnum
import KE.GoesMore
import HandS.Flow
import HandS.Gcd
import HandS.Conv
import HandS.Sort
import PyProof.ListRange
import KE.KStateDown
import Lean
import HandS.Head3
import PySem.Challenge.RW_loopsame_k03_judge_sum_lines
set_option Elab.async false
set_option linter.all false
set_option maxRecDepth 100000
set_option maxHeartbeats 4000000
/-! Dl: readings over data. A value is told by its data (ints, texts, tuples, lists, instances, or a cell: something that may still change);
the memory tells what the cells hold. B is the part of the abstract heap that no longer changes. -/
namespace Dl
open PySem PySem.Spec PyProof.Rows L2

inductive Dat where
  | non | bl (b : Bool) | int (i : Int) | str (x : Str)
  | tup (xs : List Dat) | lst (xs : List Dat) | fz (xs : List Dat)
  | ins (C : Addr) (fs : List (Str × Dat))
  | cell (p : Addr)

def Ex (H H' : Hp) : Prop := ∀ a o, H a = some o → H' a = some o
theorem Ex.refl (H : Hp) : Ex H H := fun _ _ h => h
theorem Ex.trans {H1 H2 H3 : Hp} (a : Ex H1 H2) (b : Ex H2 H3) : Ex H1 H3 := fun x o h => b x o (a x o h)
theorem Ex.rd {H H' : Hp} {a : Addr} {u : HO} (e : Ex H H') (h : Rd H a u) : Rd H' a u := by
  rcases h with h | ⟨o, h⟩
  · exact Or.inl (e a _ h)
  · exact Or.inr ⟨o, e a _ h⟩
theorem Ex.sl {K : PySem.W.Frag} {H H' : Hp} {a : Addr} {xs : List V} (e : Ex H H') (h : SqL K H a xs) : SqL K H' a xs := by
  rcases h with h | h
  · exact Or.inl (e.rd h)
  · exact Or.inr h
theorem Ex.st {K : PySem.W.Frag} {H H' : Hp} {a : Addr} {xs : List V} (e : Ex H H') (h : SqT K H a xs) : SqT K H' a xs := by
  rcases h with h | h
  · exact Or.inl (e.rd h)
  · exact Or.inr h

mutual
inductive Rp (K : PySem.W.Frag) (B : Hp) : V → Dat → Prop
  | non : Rp K B .non .non
  | bl (b : Bool) : Rp K B (.bl b) (.bl b)
  | int (i : Int) : Rp K B (.int i) (.int i)
  | str (x : Str) : Rp K B (.str x) (.str x)
  | tup {a : Addr} {xs : List V} {ds : List Dat} : SqT K B a xs → RpA K B xs ds → Rp K B (.ref a) (.tup ds)
  | lst {a : Addr} {xs : List V} {ds : List Dat} : B a = some (.lst xs) → RpA K B xs ds → Rp K B (.ref a) (.lst ds)
  | fz {a : Addr} {xs : List V} {ds : List Dat} : SqL K B a xs → RpA K B xs ds → Rp K B (.ref a) (.fz ds)
  | ins {a C dx : Addr} {vs : List (Str × V)} {fs : List (Str × Dat)} : B a = some (.ins C dx vs) → RpF K B vs fs → Rp K B (.ref a) (.ins C fs)
  | cell (p : Addr) : Rp K B (.ref p) (.cell p)
inductive RpA (K : PySem.W.Frag) (B : Hp) : List V → List Dat → Prop
  | nil : RpA K B [] []
  | cons {v : V} {vs : List V} {d : Dat} {ds : List Dat} : Rp K B v d → RpA K B vs ds → RpA K B (v :: vs) (d :: ds)
inductive RpF (K : PySem.W.Frag) (B : Hp) : List (Str × V) → List (Str × Dat) → Prop
  | nil : RpF K B [] []
  | cons {f : Str} {v : V} {vs : List (Str × V)} {d : Dat} {ds : List (Str × Dat)} : Rp K B v d → RpF K B vs ds → RpF K B ((f, v) :: vs) ((f, d) :: ds)
end

section
variable {K : PySem.W.Frag} {B B' : Hp}
mutual
theorem Rp.mono (e : Ex B B') : ∀ {v : V} {d : Dat}, Rp K B v d → Rp K B' v d
  | _, _, .non => .non
  | _, _, .bl b => .bl b
  | _, _, .int i => .int i
  | _, _, .str x => .str x
  | _, _, .tup h a => .tup (e.st h) (RpA.mono e a)
  | _, _, .lst h a => .lst (e _ _ h) (RpA.mono e a)
  | _, _, .fz h a => .fz (e.sl h) (RpA.mono e a)
  | _, _, .ins h a => .ins (e _ _ h) (RpF.mono e a)
  | _, _, .cell p => .cell p
theorem RpA.mono (e : Ex B B') : ∀ {vs : List V} {ds : List Dat}, RpA K B vs ds → RpA K B' vs ds
  | _, _, .nil => .nil
  | _, _, .cons h a => .cons (Rp.mono e h) (RpA.mono e a)
theorem RpF.mono (e : Ex B B') : ∀ {vs : List (Str × V)} {ds : List (Str × Dat)}, RpF K B vs ds → RpF K B' vs ds
  | _, _, .nil => .nil
  | _, _, .cons h a => .cons (Rp.mono e h) (RpF.mono e a)
end
theorem RpA.length : ∀ {vs : List V} {ds : List Dat}, RpA K B vs ds → vs.length = ds.length
  | _, _, .nil => rfl
  | _, _, .cons _ a => congrArg (· + 1) (RpA.length a)
theorem RpA.get : ∀ {vs : List V} {ds : List Dat} {i : Nat} {d : Dat}, RpA K B vs ds → ds[i]? = some d → ∃ v, vs[i]? = some v ∧ Rp K B v d
  | _, _, _, _, .nil, h => by simp at h
  | _, _, 0, _, .cons h _, e => by
    simp at e
    subst e
    exact ⟨_, rfl, h⟩
  | _, _, i + 1, _, .cons _ a, e => RpA.get (i := i) a (by simpa using e)
theorem RpA.get' : ∀ {vs : List V} {ds : List Dat} {i : Nat} {v : V}, RpA K B vs ds → vs[i]? = some v → ∃ d, ds[i]? = some d ∧ Rp K B v d
  | _, _, _, _, .nil, h => by simp at h
  | _, _, 0, _, .cons h _, e => by
    simp at e
    subst e
    exact ⟨_, rfl, h⟩
  | _, _, i + 1, _, .cons _ a, e => RpA.get' (i := i) a (by simpa using e)
theorem RpA.append : ∀ {vs us : List V} {ds es : List Dat}, RpA K B vs ds → RpA K B us es → RpA K B (vs ++ us) (ds ++ es)
  | _, _, _, _, .nil, b => b
  | _, _, _, _, .cons h a, b => .cons h (RpA.append a b)
theorem RpA.take : ∀ {vs : List V} {ds : List Dat} (n : Nat), RpA K B vs ds → RpA K B (vs.take n) (ds.take n)
  | _, _, 0, _ => .nil
  | _, _, _ + 1, .nil => .nil
  | _, _, n + 1, .cons h a => .cons h (RpA.take n a)
theorem RpA.drop : ∀ {vs : List V} {ds : List Dat} (n : Nat), RpA K B vs ds → RpA K B (vs.drop n) (ds.drop n)
  | _, _, 0, a => a
  | _, _, _ + 1, .nil => .nil
  | _, _, n + 1, .cons _ a => RpA.drop n a
theorem RpA.set {v : V} {d : Dat} (h : Rp K B v d) : ∀ {vs : List V} {ds : List Dat} (i : Nat), RpA K B vs ds → RpA K B (vs.set i v) (ds.set i d)
  | _, _, _, .nil => .nil
  | _, _, 0, .cons _ a => .cons h a
  | _, _, i + 1, .cons g a => .cons g (RpA.set h i a)
theorem RpA.dropLast : ∀ {vs : List V} {ds : List Dat}, RpA K B vs ds → RpA K B vs.dropLast ds.dropLast
  | _, _, .nil => .nil
  | _, _, .cons _ .nil => .nil
  | _, _, .cons h (.cons g a) => .cons h (RpA.dropLast (.cons g a))
theorem RpA.rep {vs : List V} {ds : List Dat} (h : RpA K B vs ds) : ∀ k : Nat, RpA K B (List.replicate k vs).flatten (List.replicate k ds).flatten
  | 0 => .nil
  | k + 1 => by
    rw [List.replicate_succ, List.replicate_succ, List.flatten_cons, List.flatten_cons]
    exact h.append (RpA.rep h k)
theorem RpA.reverse {vs : List V} {ds : List Dat} (h : RpA K B vs ds) : RpA K B vs.reverse ds.reverse := by
  induction vs generalizing ds with
  | nil => cases h; exact .nil
  | cons v vs ih =>
    cases h with
    | cons a b =>
      rw [List.reverse_cons, List.reverse_cons]
      exact (ih b).append (.cons a .nil)
theorem RpF.look {f : Str} {d : Dat} : ∀ {vs : List (Str × V)} {fs : List (Str × Dat)}, RpF K B vs fs → fs.lookup f = some d → ∃ v, vs.lookup f = some v ∧ Rp K B v d
  | _, _, .nil, e => by cases e
  | _, _, .cons (f := g) (v := v) (d := d') h a, e => by
    rw [List.lookup_cons] at e ⊢
    cases q : (f == g) with
    | true =>
      rw [q] at e
      cases e
      exact ⟨_, rfl, h⟩
    | false =>
      rw [q] at e
      exact RpF.look a e
theorem RpF.none {f : Str} : ∀ {vs : List (Str × V)} {fs : List (Str × Dat)}, RpF K B vs fs → fs.lookup f = none → vs.lookup f = none
  | _, _, .nil, _ => rfl
  | _, _, .cons (f := g) h a, e => by
    rw [List.lookup_cons] at e ⊢
    cases q : (f == g) with
    | true =>
      rw [q] at e
      cases e
    | false =>
      rw [q] at e
      exact RpF.none a e
theorem RpF.length : ∀ {vs : List (Str × V)} {ds : List (Str × Dat)}, RpF K B vs ds → vs.length = ds.length
  | _, _, .nil => rfl
  | _, _, .cons _ a => congrArg (· + 1) (RpF.length a)
end
/-- an attribute stored -/
def putD (f : Str) (d : Dat) : List (Str × Dat) → List (Str × Dat)
  | [] => [(f, d)]
  | (g, x) :: r => if g = f then (g, d) :: r else (g, x) :: putD f d r
theorem RpF.put {K : PySem.W.Frag} {B : Hp} {f : Str} {v : V} {d : Dat} (h : Rp K B v d) : ∀ {vs : List (Str × V)} {fs : List (Str × Dat)}, RpF K B vs fs → RpF K B (putF f v vs) (putD f d fs)
  | _, _, .nil => .cons h .nil
  | _, _, .cons (f := g) (v := u) (vs := vs) (d := c) (ds := ds) x a => by
    by_cases q : g = f
    · have e1 : putF f v ((g, u) :: vs) = (g, v) :: vs := if_pos q
      have e2 : putD f d ((g, c) :: ds) = (g, d) :: ds := if_pos q
      rw [e1, e2]
      exact .cons h a
    · have e1 : putF f v ((g, u) :: vs) = (g, u) :: putF f v vs := if_neg q
      have e2 : putD f d ((g, c) :: ds) = (g, c) :: putD f d ds := if_neg q
      rw [e1, e2]
      exact .cons x (RpF.put h a)

/-! ### memory -/
inductive MV where
  | lst (ds : List Dat)
  | obj (C : Addr) (fs : List (Str × Dat))
abbrev Mem := Addr → Option MV
def Mem.set (M : Mem) (p : Addr) (m : MV) : Mem := fun q => if q = p then some m else M q
def Mem.del (M : Mem) (p : Addr) : Mem := fun q => if q = p then none else M q
/-- what is left of M' of the names of M -/
def Mem.restr (M M' : Mem) : Mem := fun q => match M q with
  | none => none
  | some _ => M' q
theorem Mem.set_same {M : Mem} {p : Addr} {m : MV} : M.set p m p = some m := if_pos rfl
theorem Mem.set_ne {M : Mem} {p q : Addr} {m : MV} (h : q ≠ p) : M.set p m q = M q := if_neg h
theorem Mem.del_same {M : Mem} {p : Addr} : M.del p p = none := if_pos rfl
theorem Mem.del_ne {M : Mem} {p q : Addr} (h : q ≠ p) : M.del p q = M q := if_neg h
theorem Mem.set_set {M : Mem} {p : Addr} {m n : MV} : (M.set p m).set p n = M.set p n := by
  funext q
  unfold Mem.set
  by_cases h : q = p
  · rw [if_pos h, if_pos h]
  · rw [if_neg h, if_neg h, if_neg h]
theorem Mem.set_self {M : Mem} {p : Addr} {m : MV} (h : M p = some m) : M.set p m = M := by
  funext q
  unfold Mem.set
  by_cases e : q = p
  · rw [if_pos e, e, h]
  · rw [if_neg e]
theorem Mem.set_comm {M : Mem} {p q : Addr} {m n : MV} (h : p ≠ q) : (M.set p m).set q n = (M.set q n).set p m := by
  funext r
  unfold Mem.set
  by_cases e1 : r = q
  · by_cases e2 : r = p
    · exact absurd (e2.symm.trans e1) h
    · rw [if_pos e1, if_neg e2, if_pos e1]
  · rw [if_neg e1, if_neg e1]
theorem Mem.del_set {M : Mem} {p : Addr} {m : MV} (h : M p = none) : (M.set p m).del p = M := by
  funext q
  unfold Mem.set Mem.del
  by_cases e : q = p
  · rw [if_pos e, e, h]
  · rw [if_neg e]
    exact if_neg e
theorem Mem.del_set_ne {M : Mem} {p q : Addr} {m : MV} (h : p ≠ q) : (M.set p m).del q = (M.del q).set p m := by
  funext r
  unfold Mem.set Mem.del
  by_cases e1 : r = q
  · by_cases e2 : r = p
    · exact absurd (e2.symm.trans e1) h
    · rw [if_pos e1, if_neg e2, if_pos e1]
  · rw [if_neg e1, if_neg e1]
theorem Mem.del_del {M : Mem} {p : Addr} : (M.del p).del p = M.del p := by
  funext r
  unfold Mem.del
  by_cases e : r = p
  · rw [if_pos e, if_pos e]
  · rw [if_neg e, if_neg e]
theorem Mem.restr_self (M : Mem) : M.restr M = M := by
  funext q
  unfold Mem.restr
  cases M q <;> rfl
theorem Mem.restr_set_out {M M' : Mem} {p : Addr} {m : MV} (h : M p = none) : M.restr (M'.set p m) = M.restr M' := by
  funext q
  unfold Mem.restr Mem.set
  by_cases e : q = p
  · subst e
    rw [h]
  · rw [if_neg e]
theorem Mem.restr_del_out {M M' : Mem} {p : Addr} (h : M p = none) : M.restr (M'.del p) = M.restr M' := by
  funext q
  unfold Mem.restr Mem.del
  by_cases e : q = p
  · subst e
    rw [h]
  · rw [if_neg e]
theorem Mem.restr_set_in {M M' : Mem} {p : Addr} {m x : MV} (h : M p = some x) : M.restr (M'.set p m) = (M.restr M').set p m := by
  funext q
  unfold Mem.restr Mem.set
  by_cases e : q = p
  · subst e
    rw [h, if_pos rfl]
    exact (if_pos rfl).symm
  · rw [if_neg e, if_neg e]
theorem Mem.ne_of {M : Mem} {p q : Addr} {m : MV} (h : M p = some m) (h' : M q = none) : p ≠ q := by
  intro e
  subst e
  rw [h] at h'
  cases h'

def MR (K : PySem.W.Frag) (B H : Hp) (p : Addr) : MV → Prop
  | .lst ds => ∃ xs, H p = some (.lst xs) ∧ RpA K B xs ds
  | .obj C fs => ∃ dx vs, H p = some (.ins C dx vs) ∧ RpF K B vs fs
theorem MR.mono {K : PySem.W.Frag} {B B' H H' : Hp} {p : Addr} {m : MV} (h : MR K B H p m) (e : Ex B B') (k : ∀ o, H p = some o → H' p = some o) : MR K B' H' p m := by
  cases m with
  | lst ds =>
    obtain ⟨xs, h1, h2⟩ := h
    exact ⟨xs, k _ h1, h2.mono e⟩
  | obj C fs =>
    obtain ⟨dx, vs, h1, h2⟩ := h
    exact ⟨dx, vs, k _ h1, h2.mono e⟩
theorem MR.some {K : PySem.W.Frag} {B H : Hp} {p : Addr} {m : MV} (h : MR K B H p m) : ∃ o, H p = some o := by
  cases m with
  | lst ds =>
    obtain ⟨xs, h1, h2⟩ := h
    exact ⟨_, h1⟩
  | obj C fs =>
    obtain ⟨dx, vs, h1, h2⟩ := h
    exact ⟨_, h1⟩

structure Cs (K : PySem.W.Frag) (B : Hp) (M : Mem) (H : Hp) : Prop where
  ex : Ex B H
  cell : ∀ p m, M p = some m → B p = none ∧ MR K B H p m
theorem Cs.there {K : PySem.W.Frag} {B : Hp} {M : Mem} {H : Hp} (s : Cs K B M H) {p : Addr} {m : MV} (h : M p = some m) : ∃ o, H p = some o := (s.cell p m h).2.some

/-- from one state to a later one -/
structure Nx (K : PySem.W.Frag) (B : Hp) (M : Mem) (H B' : Hp) (M' : Mem) (H' : Hp) : Prop where
  ext : Ex B B'
  st : Cs K B' M' H'
  keep : ∀ a o, M a = none → H a = some o → H' a = some o
  new : ∀ a o, H a = some o → M a = none → B' a = B a
  dom : ∀ a o, H a = some o → M a = none → M' a = none
  there : ∀ a o, H a = some o → ∃ o', H' a = some o'
theorem Nx.refl {K : PySem.W.Frag} {B : Hp} {M : Mem} {H : Hp} (s : Cs K B M H) : Nx K B M H B M H :=
  ⟨Ex.refl B, s, fun _ _ _ h => h, fun _ _ _ _ => rfl, fun _ _ _ h => h, fun _ o h => ⟨o, h⟩⟩
theorem Nx.trans {K : PySem.W.Frag} {B B1 B2 : Hp} {M M1 M2 : Mem} {H H1 H2 : Hp} (a : Nx K B M H B1 M1 H1) (b : Nx K B1 M1 H1 B2 M2 H2) : Nx K B M H B2 M2 H2 where
  ext := a.ext.trans b.ext
  st := b.st
  keep := fun x o m h => b.keep x o (a.dom x o h m) (a.keep x o m h)
  new := fun x o h m => (b.new x o (a.keep x o m h) (a.dom x o h m)).trans (a.new x o h m)
  dom := fun x o h m => b.dom x o (a.keep x o m h) (a.dom x o h m)
  there := fun x o h => by
    obtain ⟨o', h'⟩ := a.there x o h
    exact b.there x o' h'
theorem Nx.back {K : PySem.W.Frag} {B B1 : Hp} {M M1 : Mem} {H H1 : Hp} (a : Nx K B M H B1 M1 H1) {p : Addr} (h : H1 p = none) : H p = none := by
  cases q : H p with
  | none => rfl
  | some o =>
    obtain ⟨o', h'⟩ := a.there p o q
    rw [h] at h'
    cases h'
/-- only something new has been laid, or nothing -/
theorem Nx.same {K : PySem.W.Frag} {B : Hp} {M : Mem} {H H' : Hp} (s : Cs K B M H) (e : Ex H H') : Nx K B M H B M H' where
  ext := Ex.refl B
  st := ⟨s.ex.trans e, fun p m h => ⟨(s.cell p m h).1, (s.cell p m h).2.mono (Ex.refl B) fun o q => e p o q⟩⟩
  keep := fun a o _ h => e a o h
  new := fun _ _ _ _ => rfl
  dom := fun _ _ _ h => h
  there := fun a o h => ⟨o, e a o h⟩
theorem ex_upd {H : Hp} {p : Addr} {o : HO} (h : H p = none) : Ex H (upd H p o) := fun a u e => by
  rw [upd_ne (ne_of_none e h)]
  exact e
/-- a new tuple, at once part of what stays -/
theorem Nx.fresh {K : PySem.W.Frag} {B : Hp} {M : Mem} {H : Hp} {p : Addr} {o : HO} (s : Cs K B M H) (h : H p = none) : Nx K B M H (upd B p o) M (upd H p o) := by
  have hB : B p = none := by
    cases q : B p with
    | none => rfl
    | some u =>
      rw [s.ex p u q] at h
      cases h
  refine ⟨ex_upd hB, ⟨fun a u e => ?_, fun q m e => ?_⟩, fun a u _ e => ex_upd h a u e, fun a u e _ => upd_ne (ne_of_none e h), fun _ _ _ e => e, fun a u e => ⟨u, ex_upd h a u e⟩⟩
  · by_cases z : a = p
    · subst z
      rw [upd_same] at e ⊢
      exact e
    · rw [upd_ne z] at e ⊢
      exact s.ex a u e
  · obtain ⟨h1, h2⟩ := s.cell q m e
    obtain ⟨u, hu⟩ := h2.some
    have nq : q ≠ p := ne_of_none hu h
    exact ⟨(upd_ne nq).trans h1, h2.mono (ex_upd hB) fun o e => ex_upd h q o e⟩

/-! ### results -/
inductive Rv where
  | d (x : Dat)
  | new (m : MV)
def frz : MV → Dat
  | .lst ds => .lst ds
  | .obj C fs => .ins C fs
/-- v stands for the result r; H0: the heap ahead of its making -/
def RR (K : PySem.W.Frag) (B : Hp) (M : Mem) (H0 H : Hp) (v : V) : Rv → Prop
  | .d x => Rp K B v x
  | .new m => ∃ p, v = .ref p ∧ H0 p = none ∧ B p = none ∧ M p = none ∧ MR K B H p m
section
variable {K : PySem.W.Frag} {B B1 B2 : Hp} {M M1 M2 : Mem} {H H0 H1 H2 : Hp} {v : V} {r : Rv} {m : MV}
theorem RR.back (a : Nx K B M H B1 M1 H1) (h : RR K B2 M2 H1 H2 v r) : RR K B2 M2 H H2 v r := by
  cases r with
  | d x => exact h
  | new m =>
    obtain ⟨p, h1, h2, h3⟩ := h
    exact ⟨p, h1, a.back h2, h3⟩
theorem RR.fwd (h : RR K B1 M1 H0 H1 v r) (a : Nx K B1 M1 H1 B2 M2 H2) : RR K B2 M2 H0 H2 v r := by
  cases r with
  | d x => exact Rp.mono a.ext h
  | new m =>
    obtain ⟨p, h1, h2, h3, h4, h5⟩ := h
    obtain ⟨o, ho⟩ := h5.some
    exact ⟨p, h1, h2, (a.new p o ho h4).trans h3, a.dom p o ho h4, h5.mono a.ext fun o q => a.keep p o h4 q⟩
/-- what is new is held for good -/
theorem RR.freeze (h : RR K B1 M1 H H1 v (.new m)) (a : Nx K B M H B1 M1 H1) : ∃ B2, Nx K B M H B2 M1 H1 ∧ Rp K B2 v (frz m) ∧ Ex B1 B2 := by
  obtain ⟨p, rfl, h2, h3, h4, h5⟩ := h
  obtain ⟨o, ho⟩ := h5.some
  have e12 : Ex B1 (upd B1 p o) := ex_upd h3
  refine ⟨upd B1 p o, ⟨a.ext.trans e12, ⟨fun b u e => ?_, fun q n e => ?_⟩, a.keep, fun b u e hm => ?_, a.dom, a.there⟩, ?_, e12⟩
  · by_cases z : b = p
    · subst z
      rw [upd_same] at e
      rw [ho]
      exact e
    · rw [upd_ne z] at e
      exact a.st.ex b u e
  · obtain ⟨c1, c2⟩ := a.st.cell q n e
    have nq : q ≠ p := by
      intro z
      subst z
      rw [h4] at e
      cases e
    exact ⟨(upd_ne nq).trans c1, c2.mono e12 fun _ z => z⟩
  · exact (upd_ne (ne_of_none e h2)).trans (a.new b u e hm)
  · cases m with
    | lst ds =>
      obtain ⟨xs, g1, g2⟩ := h5
      rw [ho] at g1
      cases g1
      exact .lst upd_same (g2.mono e12)
    | obj C fs =>
      obtain ⟨dx, vs, g1, g2⟩ := h5
      rw [ho] at g1
      cases g1
      exact .ins upd_same (g2.mono e12)
/-- what is new becomes a cell -/
theorem RR.celled (h : RR K B1 M1 H H1 v (.new m)) (a : Nx K B M H B1 M1 H1) : ∃ p, v = .ref p ∧ M1 p = none ∧ Nx K B M H B1 (M1.set p m) H1 := by
  obtain ⟨p, rfl, h2, h3, h4, h5⟩ := h
  refine ⟨p, rfl, h4, ⟨a.ext, ⟨a.st.ex, fun q n e => ?_⟩, a.keep, a.new, fun b u e hm => ?_, a.there⟩⟩
  · by_cases z : q = p
    · subst z
      rw [Mem.set_same] at e
      cases e
      exact ⟨h3, h5⟩
    · rw [Mem.set_ne z] at e
      exact a.st.cell q n e
  · rw [Mem.set_ne (ne_of_none e h2)]
    exact a.dom b u e hm
/-- a cell is held for good -/
theorem Cs.hold (s : Cs K B M H) {p : Addr} (h : M p = some m) : ∃ B2, Nx K B M H B2 (M.del p) H ∧ Rp K B2 (.ref p) (frz m) := by
  obtain ⟨c1, c2⟩ := s.cell p m h
  obtain ⟨o, ho⟩ := c2.some
  have e12 : Ex B (upd B p o) := ex_upd c1
  refine ⟨upd B p o, ⟨e12, ⟨fun b u e => ?_, fun q n e => ?_⟩, fun _ _ _ e => e, fun b u e hm => ?_, fun b u e hm => ?_, fun b u e => ⟨u, e⟩⟩, ?_⟩
  · by_cases z : b = p
    · subst z
      rw [upd_same] at e
      rw [ho]
      exact e
    · rw [upd_ne z] at e
      exact s.ex b u e
  · by_cases z : q = p
    · subst z
      rw [Mem.del_same] at e
      cases e
    · rw [Mem.del_ne z] at e
      obtain ⟨g1, g2⟩ := s.cell q n e
      exact ⟨(upd_ne z).trans g1, g2.mono e12 fun _ z => z⟩
  · exact upd_ne fun z => by
      subst z
      rw [h] at hm
      cases hm
  · unfold Mem.del
    split
    · rfl
    · exact hm
  · cases m with
    | lst ds =>
      obtain ⟨xs, g1, g2⟩ := c2
      rw [ho] at g1
      cases g1
      exact .lst upd_same (g2.mono e12)
    | obj C fs =>
      obtain ⟨dx, vs, g1, g2⟩ := c2
      rw [ho] at g1
      cases g1
      exact .ins upd_same (g2.mono e12)
/-- a list cell is written -/
theorem Cs.write (s : Cs K B M H) {p : Addr} {m' : MV} {o : HO} (h : M p = some m) (hm : MR K B (upd H p o) p m') : Nx K B M H B (M.set p m') (upd H p o) := by
  obtain ⟨c1, c2⟩ := s.cell p m h
  have np : ∀ b, M b = none → b ≠ p := fun b e z => by
    subst z
    rw [h] at e
    cases e
  refine ⟨Ex.refl B, ⟨fun b u e => ?_, fun q n e => ?_⟩, fun b u e1 e2 => ?_, fun _ _ _ _ => rfl, fun b u e1 e2 => ?_, fun b u e => ?_⟩
  · rw [upd_ne (fun z => by subst z; rw [c1] at e; cases e)]
    exact s.ex b u e
  · by_cases z : q = p
    · subst z
      rw [Mem.set_same] at e
      cases e
      exact ⟨c1, hm⟩
    · rw [Mem.set_ne z] at e
      obtain ⟨g1, g2⟩ := s.cell q n e
      exact ⟨g1, g2.mono (Ex.refl B) fun o q => by rw [upd_ne z]; exact q⟩
  · rw [upd_ne (np b e1)]
    exact e2
  · rw [Mem.set_ne (np b e2)]
    exact e2
  · by_cases z : b = p
    · subst z
      exact ⟨_, upd_same⟩
    · exact ⟨u, (upd_ne z).trans e⟩
end
end Dl
set_option Elab.async false
set_option linter.all false
set_option maxRecDepth 100000
set_option maxHeartbeats 4000000
namespace Dl
open PySem PySem.Spec PyProof.Rows L2

abbrev Env := List (Option Dat)
def SR (K : PySem.W.Frag) (B : Hp) (σ : L2.St) (env : Env) : Prop := σ.length = env.length ∧ ∀ (i : Nat) (x : Dat), env[i]? = some (some x) → ∃ v, σ[i]? = some (some v) ∧ Rp K B v x
theorem SR.mono {K : PySem.W.Frag} {B B' : Hp} {σ : L2.St} {env : Env} (h : SR K B σ env) (e : Ex B B') : SR K B' σ env :=
  ⟨h.1, fun i x q => by
    obtain ⟨v, h1, h2⟩ := h.2 i x q
    exact ⟨v, h1, h2.mono e⟩⟩
theorem SR.set {K : PySem.W.Frag} {B : Hp} {σ : L2.St} {env : Env} {v : V} {x : Dat} (h : SR K B σ env) (r : Rp K B v x) (i : Nat) : SR K B (σ.set i (some v)) (env.set i (some x)) := by
  refine ⟨by rw [List.length_set, List.length_set]; exact h.1, fun j y q => ?_⟩
  by_cases e : i = j
  · subst e
    by_cases hl : i < env.length
    · rw [List.getElem?_set_self hl] at q
      cases q
      rw [List.getElem?_set_self (by rw [h.1]; exact hl)]
      exact ⟨v, rfl, r⟩
    · rw [List.getElem?_eq_none (by rw [List.length_set]; omega)] at q
      cases q
  · rw [List.getElem?_set_ne e] at q
    rw [List.getElem?_set_ne e]
    exact h.2 j y q
/-- the slots of a comprehension's own names are empty within -/
def wipeD (env : Env) : List Nat → Env
  | [] => env
  | i :: r => (wipeD env r).set i none

abbrev DE := Env → Mem → (Rv → Mem → Prop) → Prop
abbrev DT := Env → Mem → (Bool → Mem → Prop) → Prop
abbrev DA := Env → Mem → (List Dat → Mem → Prop) → Prop
def SE (K : PySem.W.Frag) (t : TE) (φ : DE) : Prop := ∀ (env : Env) (M : Mem) (Q : Rv → Mem → Prop) (σ : L2.St) (B H : Hp) (QV : VK), SR K B σ env → Cs K B M H → φ env M Q →
  (∀ r M' v B' H', Q r M' → Nx K B M H B' M' H' → RR K B' M' H H' v r → QV v H') → t σ H QV
def ST (K : PySem.W.Frag) (t : TT) (φ : DT) : Prop := ∀ (env : Env) (M : Mem) (Q : Bool → Mem → Prop) (σ : L2.St) (B H : Hp) (QV : Bool → Hp → Prop), SR K B σ env → Cs K B M H → φ env M Q →
  (∀ b M' B' H', Q b M' → Nx K B M H B' M' H' → QV b H') → t σ H QV
def SA (K : PySem.W.Frag) (t : TA) (φ : DA) : Prop := ∀ (env : Env) (M : Mem) (Q : List Dat → Mem → Prop) (σ : L2.St) (B H : Hp) (QV : List V → Hp → Prop), SR K B σ env → Cs K B M H → φ env M Q →
  (∀ ds M' vs B' H', Q ds M' → Nx K B M H B' M' H' → RpA K B' vs ds → QV vs H') → t σ H QV
structure EX (X : Cx) (e : Expr) (t : TE) (φ : DE) : Prop where
  pe : PE X e t
  s : SE X.K t φ
structure TX (X : Cx) (e : Expr) (t : TT) (φ : DT) : Prop where
  pt : PT X e t
  s : ST X.K t φ
structure WX (X : Cx) (e : Expr) (t : TT) (φ : DT) : Prop where
  pw : PW X e t
  s : ST X.K t φ
structure AX (X : Cx) (es : List Expr) (t : TA) (φ : DA) : Prop where
  pa : PA X es t
  s : SA X.K t φ
theorem WX.tx {X : Cx} {e : Expr} {t : TT} {φ : DT} (h : WX X e t φ) : TX X e t φ := ⟨h.pw.pt, h.s⟩

/-- a result as data: what is new is held for good -/
def settle : Rv → Dat
  | .d x => x
  | .new m => frz m
theorem settle_ok {K : PySem.W.Frag} {B B1 : Hp} {M M1 : Mem} {H H1 : Hp} {v : V} {r : Rv} (h : RR K B1 M1 H H1 v r) (a : Nx K B M H B1 M1 H1) : ∃ B2, Nx K B M H B2 M1 H1 ∧ Rp K B2 v (settle r) ∧ Ex B1 B2 := by
  cases r with
  | d x => exact ⟨B1, a, h, Ex.refl _⟩
  | new m => exact h.freeze a

section
variable {X : Cx} {K : PySem.W.Frag}
/-! ### names, constants -/
def dVar (i : Nat) : DE := fun env M Q => match env[i]? with
  | some (some x) => Q (.d x) M
  | _ => False
def dC (x : Dat) : DE := fun _ M Q => Q (.d x) M
theorem se_var {i : Nat} : SE K (tVar i) (dVar i) := by
  intro env M Q σ B H QV hs hc h k
  unfold dVar at h
  split at h
  · rename_i x e
    obtain ⟨v, h1, h2⟩ := hs.2 i x e
    exact ⟨v, h1, k _ _ _ _ _ h (Nx.refl hc) h2⟩
  · exact h.elim
theorem se_c {v : V} {x : Dat} (r : ∀ B, Rp K B v x) : SE K (tC v) (dC x) := fun env M Q σ B H QV hs hc h k => k _ _ _ _ _ h (Nx.refl hc) (r B)
theorem ex_var (i : Nat) {x : Str} {pos : Pos} (hN : X.N[i]? = some x := by rfl) (hv : Vis X.env.scope x := by first | exact Or.inl rfl | exact Or.inr (Or.inl rfl) | exact Or.inr (Or.inr rfl)) (hd : (x == ("__debug__" : Str)) = false := by decide)
    (hcd : (x == ("__classdict__" : Str)) = false := by decide) : EX X (.Name x pos) (tVar i) (dVar i) := ⟨pe_var hN hv hd hcd, se_var⟩
theorem ex_int {i j pos} : EX X (.Constant (.int i) j pos) (tC (.int i)) (dC (.int i)) := ⟨pe_int, se_c fun _ => .int i⟩
theorem ex_bl {b j pos} : EX X (.Constant (.bool b) j pos) (tC (.bl b)) (dC (.bl b)) := ⟨pe_bl, se_c fun _ => .bl b⟩
theorem ex_non {j pos} : EX X (.Constant .none j pos) (tC .non) (dC .non) := ⟨pe_non, se_c fun _ => .non⟩
theorem ex_str {x j pos} : EX X (.Constant (.str x) j pos) (tC (.str x)) (dC (.str x)) := ⟨pe_str, se_c fun _ => .str x⟩
/-- a cell is held for good here (a name at its last use) -/
def dHold (φ : DE) : DE := fun env M Q => φ env M fun r M1 => ∃ p m, r = .d (.cell p) ∧ M1 p = some m ∧ Q (.d (frz m)) (M1.del p)
theorem ex_hold {e : Expr} {t : TE} {φ : DE} (h : EX X e t φ) : EX X e t (dHold φ) := ⟨h.pe, fun env M Q σ B H QV hs hc q k => by
  refine h.s env M _ σ B H QV hs hc q fun r M1 v B1 H1 q1 n1 r1 => ?_
  obtain ⟨p, m, rfl, hm, q2⟩ := q1
  cases r1
  obtain ⟨B2, n2, g2⟩ := n1.st.hold hm
  exact k _ _ _ _ _ q2 (n1.trans n2) g2⟩

/-! ### operations of two -/
abbrev D2 := Rv → Rv → Mem → (Rv → Mem → Prop) → Prop
def S2 (K : PySem.W.Frag) (r : R2) (ρ : D2) : Prop := ∀ (B : Hp) (M : Mem) (H0 H : Hp) (x y : V) (rx ry : Rv) (Q : Rv → Mem → Prop) (QV : VK), Cs K B M H → RR K B M H0 H x rx → RR K B M H0 H y ry → ρ rx ry M Q →
  (∀ r M' v B' H', Q r M' → Nx K B M H B' M' H' → RR K B' M' H H' v r → QV v H') → r x y H QV
def dOp (ρ : D2) (φa φb : DE) : DE := fun env M Q => φa env M fun ra M1 => φb env M1 fun rb M2 => ρ ra rb M2 Q
theorem SE.op {r : R2} {ρ : D2} {ta tb : TE} {φa φb : DE} (ha : SE K ta φa) (hb : SE K tb φb) (hr : S2 K r ρ) : SE K (tOp r ta tb) (dOp ρ φa φb) := by
  intro env M Q σ B H QV hs hc h k
  refine ha env M _ σ B H _ hs hc h fun ra M1 x B1 H1 q1 n1 r1 => ?_
  refine hb env M1 _ σ B1 H1 _ (hs.mono n1.ext) n1.st q1 fun rb M2 y B2 H2 q2 n2 r2 => ?_
  exact hr B2 M2 H H2 x y ra rb Q QV n2.st (r1.fwd n2) (r2.back n1) q2 fun r M' v B' H' q3 n3 r3 => k r M' v B' H' q3 ((n1.trans n2).trans n3) (r3.back (n1.trans n2))
theorem S2.or {r r' : R2} {ρ ρ' : D2} (h : S2 K r ρ) (h' : S2 K r' ρ') : S2 K (fun x y H Q => r x y H Q ∨ r' x y H Q) (fun a b M Q => ρ a b M Q ∨ ρ' a b M Q) := by
  intro B M H0 H x y rx ry Q QV hc h1 h2 q k
  rcases q with q | q
  · exact Or.inl (h B M H0 H x y rx ry Q QV hc h1 h2 q k)
  · exact Or.inr (h' B M H0 H x y rx ry Q QV hc h1 h2 q k)
theorem S2.weak {r : R2} {ρ ρ' : D2} (h : S2 K r ρ) (w : ∀ a b M Q, ρ' a b M Q → ρ a b M Q) : S2 K r ρ' := fun B M H0 H x y rx ry Q QV hc h1 h2 q k => h B M H0 H x y rx ry Q QV hc h1 h2 (w _ _ _ _ q) k
theorem ex_op {op : Operator} {r : R2} {ρ : D2} {a b : Expr} {ta tb : TE} {φa φb : DE} {pos : Pos} (ho : OpR X (binaryOp op) r) (hr : S2 X.K r ρ) (ha : EX X a ta φa) (hb : EX X b tb φb) : EX X (.BinOp a op b pos) (tOp r ta tb) (dOp ρ φa φb) :=
  ⟨pe_op ho ha.pe hb.pe, SE.op ha.s hb.s hr⟩
theorem ex_cmp {op : CmpOp} {r : R2} {ρ : D2} {a b : Expr} {ta tb : TE} {φa φb : DE} {pos : Pos} (ho : OpR X (compareOp op) r) (hr : S2 X.K r ρ) (ha : EX X a ta φa) (hb : EX X b tb φb) (hm : behindInMarks op b = false) :
    EX X (.Compare a [op] [b] pos) (tOp r ta tb) (dOp ρ φa φb) := ⟨pe_cmpR ho ha.pe hb.pe hm, SE.op ha.s hb.s hr⟩
/-- the bool of a result -/
def blR : Rv → (Bool → Prop) → Prop
  | .d (.bl b), Q => Q b
  | _, _ => False
theorem blR_ok {B : Hp} {M : Mem} {H0 H : Hp} {v : V} {r : Rv} {Q : Bool → Prop} (h : RR K B M H0 H v r) (q : blR r Q) : ∃ b, v = .bl b ∧ Q b := by
  unfold blR at q
  split at q
  · cases h
    exact ⟨_, rfl, q⟩
  · exact q.elim
def dTest (φ : DE) : DT := fun env M Q => φ env M fun r M1 => blR r fun b => Q b M1
theorem ST.test {t : TE} {φ : DE} (h : SE K t φ) : ST K (tTest t) (dTest φ) := by
  intro env M Q σ B H QV hs hc q k
  refine h env M _ σ B H _ hs hc q fun r M1 v B1 H1 q1 n1 r1 => ?_
  obtain ⟨b, rfl, q2⟩ := blR_ok r1 q1
  exact ⟨b, rfl, k _ _ _ _ q2 n1⟩
theorem ST.tb {t : TE} {φ : DE} (h : SE K t φ) : ST K (tB t) (dTest φ) := ST.test h
theorem tx_cmp {op : CmpOp} {r : R2} {ρ : D2} {a b : Expr} {ta tb : TE} {φa φb : DE} {pos : Pos} (ho : OpR X (compareOp op) r) (hr : S2 X.K r ρ) (ha : EX X a ta φa) (hb : EX X b tb φb) (hm : behindInMarks op b = false) :
    TX X (.Compare a [op] [b] pos) (tTest (tOp r ta tb)) (dTest (dOp ρ φa φb)) := ⟨pt_cmpR ho ha.pe hb.pe hm, ST.test (SE.op ha.s hb.s hr)⟩
theorem tx_val {e : Expr} {t : TE} {φ : DE} (h : EX X e t φ) (he : ∀ whole, isTrue e X.env whole = (do let v ← whole; standAt e.pos; holding [v] (truthy v)) := by intro _; rfl) : TX X e (tB t) (dTest φ) := ⟨pt_val h.pe he, ST.tb h.s⟩
/-! ### a < b < c -/
def dChain (ρ ρ' : D2) (φa φb φc : DE) : DE := fun env M Q => φa env M fun ra M1 => φb env M1 fun rb M2 => ρ ra rb M2 fun r3 M3 => blR r3 fun k => if k = true then φc env M3 fun rc M4 => ρ' rb rc M4 Q else Q (.d (.bl false)) M3
theorem SE.chain {r r' : R2} {ρ ρ' : D2} {ta tb tc : TE} {φa φb φc : DE} (ha : SE K ta φa) (hb : SE K tb φb) (hc' : SE K tc φc) (hr : S2 K r ρ) (hr' : S2 K r' ρ') : SE K (tChain r r' ta tb tc) (dChain ρ ρ' φa φb φc) := by
  intro env M Q σ B H QV hs hc h k
  refine ha env M _ σ B H _ hs hc h fun ra M1 x B1 H1 q1 n1 r1 => ?_
  refine hb env M1 _ σ B1 H1 _ (hs.mono n1.ext) n1.st q1 fun rb M2 y B2 H2 q2 n2 r2 => ?_
  refine hr B2 M2 H H2 x y ra rb _ _ n2.st (r1.fwd n2) (r2.back n1) q2 fun r3 M3 z B3 H3 q3 n3 r3' => ?_
  obtain ⟨b, rfl, q4⟩ := blR_ok r3' q3
  refine ⟨b, rfl, ?_⟩
  have n123 := (n1.trans n2).trans n3
  cases b with
  | true =>
    rw [if_pos rfl] at q4 ⊢
    refine hc' env M3 _ σ B3 H3 _ (hs.mono n123.ext) n123.st q4 fun rc M4 w B4 H4 q5 n4 r4 => ?_
    exact hr' B4 M4 H H4 y w rb rc Q QV n4.st (((r2.back n1).fwd n3).fwd n4) (r4.back n123) q5 fun r M' v B' H' q6 n5 r5 => k r M' v B' H' q6 ((n123.trans n4).trans n5) (r5.back (n123.trans n4))
  | false =>
    rw [if_neg Bool.false_ne_true] at q4 ⊢
    exact k _ _ _ _ _ q4 n123 (.bl false)
/-! ### and, or, not -/
def dAnd (φ ψ : DT) : DT := fun env M Q => φ env M fun b M1 => if b = true then ψ env M1 Q else Q false M1
def dOr (φ ψ : DT) : DT := fun env M Q => φ env M fun b M1 => if b = true then Q true M1 else ψ env M1 Q
def dNot (φ : DT) : DT := fun env M Q => φ env M fun b M1 => Q (!b) M1
theorem ST.and {t u : TT} {φ ψ : DT} (h : ST K t φ) (g : ST K u ψ) : ST K (tAnd t u) (dAnd φ ψ) := by
  intro env M Q σ B H QV hs hc q k
  refine h env M _ σ B H _ hs hc q fun b M1 B1 H1 q1 n1 => ?_
  cases b with
  | true =>
    rw [if_pos rfl] at q1 ⊢
    exact g env M1 Q σ B1 H1 QV (hs.mono n1.ext) n1.st q1 fun b M' B' H' q2 n2 => k b M' B' H' q2 (n1.trans n2)
  | false =>
    rw [if_neg Bool.false_ne_true] at q1 ⊢
    exact k _ _ _ _ q1 n1
theorem ST.or {t u : TT} {φ ψ : DT} (h : ST K t φ) (g : ST K u ψ) : ST K (tOr t u) (dOr φ ψ) := by
  intro env M Q σ B H QV hs hc q k
  refine h env M _ σ B H _ hs hc q fun b M1 B1 H1 q1 n1 => ?_
  cases b with
  | false =>
    rw [if_neg Bool.false_ne_true] at q1 ⊢
    exact g env M1 Q σ B1 H1 QV (hs.mono n1.ext) n1.st q1 fun b M' B' H' q2 n2 => k b M' B' H' q2 (n1.trans n2)
  | true =>
    rw [if_pos rfl] at q1 ⊢
    exact k _ _ _ _ q1 n1
theorem ST.not {t : TT} {φ : DT} (h : ST K t φ) : ST K (tNot t) (dNot φ) := fun env M Q σ B H QV hs hc q k => h env M _ σ B H _ hs hc q fun b M1 B1 H1 q1 n1 => k _ _ _ _ q1 n1
theorem wx_and1 {a : Expr} {t : TT} {φ : DT} {pos : Pos} (h : TX X a t φ) : WX X (.BoolOp .And [a] pos) t φ := ⟨pw_and1 h.pt, h.s⟩
theorem wx_or1 {a : Expr} {t : TT} {φ : DT} {pos : Pos} (h : TX X a t φ) : WX X (.BoolOp .Or [a] pos) t φ := ⟨pw_or1 h.pt, h.s⟩
theorem wx_and {a b : Expr} {rest : List Expr} {t u : TT} {φ ψ : DT} {pos : Pos} (h : TX X a t φ) (g : WX X (.BoolOp .And (b :: rest) pos) u ψ) : WX X (.BoolOp .And (a :: b :: rest) pos) (tAnd t u) (dAnd φ ψ) := ⟨pw_and h.pt g.pw, ST.and h.s g.s⟩
theorem wx_or {a b : Expr} {rest : List Expr} {t u : TT} {φ ψ : DT} {pos : Pos} (h : TX X a t φ) (g : WX X (.BoolOp .Or (b :: rest) pos) u ψ) : WX X (.BoolOp .Or (a :: b :: rest) pos) (tOr t u) (dOr φ ψ) := ⟨pw_or h.pt g.pw, ST.or h.s g.s⟩
theorem tx_not {a : Expr} {t : TT} {φ : DT} {pos : Pos} (h : TX X a t φ) : TX X (.UnaryOp .Not a pos) (tNot t) (dNot φ) := ⟨pt_not h.pt, ST.not h.s⟩
/-- as values -/
def dAndV (φ ψ : DE) : DE := fun env M Q => φ env M fun r M1 => blR r fun b => if b = true then ψ env M1 Q else Q (.d (.bl false)) M1
def dOrV (φ ψ : DE) : DE := fun env M Q => φ env M fun r M1 => blR r fun b => if b = true then Q (.d (.bl true)) M1 else ψ env M1 Q
def dNotV (φ : DE) : DE := fun env M Q => φ env M fun r M1 => blR r fun b => Q (.d (.bl (!b))) M1
theorem SE.andV {t u : TE} {φ ψ : DE} (h : SE K t φ) (g : SE K u ψ) : SE K (tAndV t u) (dAndV φ ψ) := by
  intro env M Q σ B H QV hs hc q k
  refine h env M _ σ B H _ hs hc q fun r M1 v B1 H1 q1 n1 r1 => ?_
  obtain ⟨b, rfl, q2⟩ := blR_ok r1 q1
  refine ⟨b, rfl, ?_⟩
  cases b with
  | true =>
    rw [if_pos rfl] at q2 ⊢
    exact g env M1 Q σ B1 H1 QV (hs.mono n1.ext) n1.st q2 fun r M' v B' H' q3 n2 r2 => k r M' v B' H' q3 (n1.trans n2) (r2.back n1)
  | false =>
    rw [if_neg Bool.false_ne_true] at q2 ⊢
    exact k _ _ _ _ _ q2 n1 (.bl false)
theorem SE.orV {t u : TE} {φ ψ : DE} (h : SE K t φ) (g : SE K u ψ) : SE K (tOrV t u) (dOrV φ ψ) := by
  intro env M Q σ B H QV hs hc q k
  refine h env M _ σ B H _ hs hc q fun r M1 v B1 H1 q1 n1 r1 => ?_
  obtain ⟨b, rfl, q2⟩ := blR_ok r1 q1
  refine ⟨b, rfl, ?_⟩
  cases b with
  | false =>
    rw [if_neg Bool.false_ne_true] at q2 ⊢
    exact g env M1 Q σ B1 H1 QV (hs.mono n1.ext) n1.st q2 fun r M' v B' H' q3 n2 r2 => k r M' v B' H' q3 (n1.trans n2) (r2.back n1)
  | true =>
    rw [if_pos rfl] at q2 ⊢
    exact k _ _ _ _ _ q2 n1 (.bl true)
theorem SE.notV {t : TE} {φ : DE} (h : SE K t φ) : SE K (tNotV t) (dNotV φ) := by
  intro env M Q σ B H QV hs hc q k
  refine h env M _ σ B H _ hs hc q fun r M1 v B1 H1 q1 n1 r1 => ?_
  obtain ⟨b, rfl, q2⟩ := blR_ok r1 q1
  exact ⟨b, rfl, k _ _ _ _ _ q2 n1 (.bl _)⟩
theorem ex_one {op} {a : Expr} {t : TE} {φ : DE} {pos : Pos} (h : EX X a t φ) : EX X (.BoolOp op [a] pos) t φ := ⟨pe_one h.pe, h.s⟩
theorem ex_and {a b : Expr} {rest : List Expr} {t u : TE} {φ ψ : DE} {pos : Pos} (h : EX X a t φ) (g : EX X (.BoolOp .And (b :: rest) pos) u ψ) : EX X (.BoolOp .And (a :: b :: rest) pos) (tAndV t u) (dAndV φ ψ) := ⟨pe_and h.pe g.pe, SE.andV h.s g.s⟩
theorem ex_or {a b : Expr} {rest : List Expr} {t u : TE} {φ ψ : DE} {pos : Pos} (h : EX X a t φ) (g : EX X (.BoolOp .Or (b :: rest) pos) u ψ) : EX X (.BoolOp .Or (a :: b :: rest) pos) (tOrV t u) (dOrV φ ψ) := ⟨pe_or h.pe g.pe, SE.orV h.s g.s⟩
theorem ex_not {a : Expr} {t : TE} {φ : DE} {pos : Pos} (h : EX X a t φ) : EX X (.UnaryOp .Not a pos) (tNotV t) (dNotV φ) := ⟨pe_not h.pe, SE.notV h.s⟩
def dIf (τ : DT) (φ ψ : DE) : DE := fun env M Q => τ env M fun b M1 => if b = true then φ env M1 Q else ψ env M1 Q
theorem ex_if {c a b : Expr} {tc : TT} {t u : TE} {τ : DT} {φ ψ : DE} {pos : Pos} (hc : TX X c tc τ) (ha : EX X a t φ) (hb : EX X b u ψ) : EX X (.IfExp c a b pos) (tIf tc t u) (dIf τ φ ψ) := by
  refine ⟨pe_ifExp hc.pt ha.pe hb.pe, fun env M Q σ B H QV hs hc' q k => ?_⟩
  refine hc.s env M _ σ B H _ hs hc' q fun b M1 B1 H1 q1 n1 => ?_
  cases b with
  | true =>
    rw [if_pos rfl] at q1 ⊢
    exact ha.s env M1 Q σ B1 H1 QV (hs.mono n1.ext) n1.st q1 fun r M' v B' H' q3 n2 r2 => k r M' v B' H' q3 (n1.trans n2) (r2.back n1)
  | false =>
    rw [if_neg Bool.false_ne_true] at q1 ⊢
    exact hb.s env M1 Q σ B1 H1 QV (hs.mono n1.ext) n1.st q1 fun r M' v B' H' q3 n2 r2 => k r M' v B' H' q3 (n1.trans n2) (r2.back n1)
/-! ### arguments, displays -/
def dNil : DA := fun _ M Q => Q [] M
def dCons (φ : DE) (ψ : DA) : DA := fun env M Q => φ env M fun r M1 => ψ env M1 fun ds M2 => Q (settle r :: ds) M2
theorem SA.nil : SA K tNil dNil := fun env M Q σ B H QV hs hc q k => k _ _ _ _ _ q (Nx.refl hc) .nil
theorem SA.cons {t : TE} {u : TA} {φ : DE} {ψ : DA} (h : SE K t φ) (g : SA K u ψ) : SA K (tCons t u) (dCons φ ψ) := by
  intro env M Q σ B H QV hs hc q k
  refine h env M _ σ B H _ hs hc q fun r M1 v B1 H1 q1 n1 r1 => ?_
  obtain ⟨B2, n2, g2, _⟩ := settle_ok r1 n1
  refine g env M1 _ σ B2 H1 _ (hs.mono n2.ext) n2.st q1 fun ds M' vs B' H' q3 n3 r3 => ?_
  exact k _ _ _ _ _ q3 (n2.trans n3) (.cons (g2.mono n3.ext) r3)
theorem ax_nil : AX X [] tNil dNil := ⟨pa_nil, SA.nil⟩
theorem ax_cons {e : Expr} {es : List Expr} {t : TE} {u : TA} {φ : DE} {ψ : DA} (h : EX X e t φ) (g : AX X es u ψ) (hs : starEach (e :: es) X.env = (false, eval e X.env) :: starEach es X.env := by rfl) : AX X (e :: es) (tCons t u) (dCons φ ψ) := ⟨pa_cons h.pe g.pa hs, SA.cons h.s g.s⟩
def dTup (ψ : DA) : DE := fun env M Q => ψ env M fun ds M1 => ds.length ≤ sizeLine ∧ Q (.d (.tup ds)) M1
def dLst (ψ : DA) : DE := fun env M Q => ψ env M fun ds M1 => ds.length ≤ sizeLine ∧ Q (.new (.lst ds)) M1
/-- a new list -/
theorem RR.newL {B : Hp} {M : Mem} {H : Hp} {p : Addr} {xs : List V} {ds : List Dat} (s : Cs K B M H) (h : H p = none) (r : RpA K B xs ds) : Nx K B M H B M (upd H p (.lst xs)) ∧ RR K B M H (upd H p (.lst xs)) (.ref p) (.new (.lst ds)) := by
  refine ⟨Nx.same s (ex_upd h), p, rfl, h, ?_, ?_, xs, upd_same, r⟩
  · cases q : B p with
    | none => rfl
    | some o =>
      rw [s.ex p o q] at h
      cases h
  · cases q : M p with
    | none => rfl
    | some m =>
      obtain ⟨o, ho⟩ := s.there q
      rw [ho] at h
      cases h
/-- a new tuple -/
theorem RR.newT {B : Hp} {M : Mem} {H : Hp} {p : Addr} {xs : List V} {ds : List Dat} (s : Cs K B M H) (h : H p = none) (r : RpA K B xs ds) : Nx K B M H (upd B p (.tup xs)) M (upd H p (.tup xs)) ∧ Rp K (upd B p (.tup xs)) (.ref p) (.tup ds) := by
  have n := Nx.fresh (o := .tup xs) s h
  exact ⟨n, .tup (SqT.of upd_same) (r.mono n.ext)⟩
theorem ex_tup {es : List Expr} {u : TA} {ψ : DA} {x1} {pos : Pos} (h : AX X es u ψ) : EX X (.Tuple es x1 pos) (tTup u) (dTup ψ) := by
  refine ⟨pe_tup h.pa, fun env M Q σ B H QV hs hc q k => ?_⟩
  refine h.s env M _ σ B H _ hs hc q fun ds M1 vs B1 H1 q1 n1 r1 => ?_
  obtain ⟨z, q2⟩ := q1
  refine ⟨by rw [r1.length]; exact z, fun p hp => ?_⟩
  obtain ⟨n2, g2⟩ := RR.newT n1.st hp r1
  exact k _ _ _ _ _ q2 (n1.trans n2) g2
theorem ex_lst {es : List Expr} {u : TA} {ψ : DA} {pos : Pos} (h : AX X es u ψ) : EX X (.List es pos) (tLst u) (dLst ψ) := by
  refine ⟨pe_lst h.pa, fun env M Q σ B H QV hs hc q k => ?_⟩
  refine h.s env M _ σ B H _ hs hc q fun ds M1 vs B1 H1 q1 n1 r1 => ?_
  obtain ⟨z, q2⟩ := q1
  refine ⟨by rw [r1.length]; exact z, fun p hp => ?_⟩
  obtain ⟨n2, g2⟩ := RR.newL n1.st hp r1
  exact k _ _ _ _ _ q2 (n1.trans n2) (g2.back n1)
end
end Dl
set_option Elab.async false
set_option linter.all false
set_option maxRecDepth 100000
set_option maxHeartbeats 4000000
namespace Dl
open PySem PySem.Spec PyProof.Rows L2

/-! ### sequences read -/
def LstR (M : Mem) : Rv → List Dat → Prop
  | .d (.lst xs), ys => ys = xs
  | .d (.cell p), ys => M p = some (.lst ys)
  | .new (.lst xs), ys => ys = xs
  | _, _ => False
def SeqR (M : Mem) : Rv → List Dat → Prop
  | .d (.lst xs), ys => ys = xs
  | .d (.tup xs), ys => ys = xs
  | .d (.fz xs), ys => ys = xs
  | .d (.cell p), ys => M p = some (.lst ys)
  | .new (.lst xs), ys => ys = xs
  | _, _ => False
section
variable {X : Cx} {K : PySem.W.Frag} {B : Hp} {M : Mem} {H0 H : Hp} {v : V} {r : Rv} {ys : List Dat}
theorem LstR.at (hc : Cs K B M H) (h : RR K B M H0 H v r) (q : LstR M r ys) : ∃ p xs, v = .ref p ∧ H p = some (.lst xs) ∧ RpA K B xs ys := by
  unfold LstR at q
  split at q
  · subst q
    cases h with
    | lst h1 h2 => exact ⟨_, _, rfl, hc.ex _ _ h1, h2⟩
  · cases h
    obtain ⟨_, xs, h1, h2⟩ := hc.cell _ _ q
    exact ⟨_, xs, rfl, h1, h2⟩
  · subst q
    obtain ⟨p, rfl, _, _, _, xs, h1, h2⟩ := h
    exact ⟨p, xs, rfl, h1, h2⟩
  · exact q.elim
theorem SeqR.at (hc : Cs K B M H) (h : RR K B M H0 H v r) (q : SeqR M r ys) : ∃ p xs, v = .ref p ∧ (SqL K H p xs ∨ SqT K H p xs) ∧ RpA K B xs ys := by
  unfold SeqR at q
  split at q
  · subst q
    cases h with
    | lst h1 h2 => exact ⟨_, _, rfl, Or.inl (SqL.of (hc.ex _ _ h1)), h2⟩
  · subst q
    cases h with
    | tup h1 h2 => exact ⟨_, _, rfl, Or.inr (hc.ex.st h1), h2⟩
  · subst q
    cases h with
    | fz h1 h2 => exact ⟨_, _, rfl, Or.inl (hc.ex.sl h1), h2⟩
  · cases h
    obtain ⟨_, xs, h1, h2⟩ := hc.cell _ _ q
    exact ⟨_, xs, rfl, Or.inl (SqL.of h1), h2⟩
  · subst q
    obtain ⟨p, rfl, _, _, _, xs, h1, h2⟩ := h
    exact ⟨p, xs, rfl, Or.inl (SqL.of h1), h2⟩
  · exact q.elim

/-! ### + -/
def oAdd : D2 := fun ra rb M Q => match ra, rb with
  | .d (.int i), .d (.int j) => Q (.d (.int (i + j))) M
  | .d (.str a), .d (.str b) => a.length + b.length ≤ sizeLine ∧ Q (.d (.str (a ++ b))) M
  | .d (.tup as), .d (.tup bs) => as.length + bs.length ≤ sizeLine ∧ Q (.d (.tup (as ++ bs))) M
  | ra, rb => ∃ as bs, LstR M ra as ∧ LstR M rb bs ∧ as.length + bs.length ≤ sizeLine ∧ Q (.new (.lst (as ++ bs))) M
def rAddS : R2 := fun x y H Q => ∃ i j, x = .str i ∧ y = .str j ∧ i.length + j.length ≤ sizeLine ∧ Q (.str (i ++ j)) H
def rAddAny (K : PySem.W.Frag) : R2 := fun x y H Q => rI0 (fun i j => .int (i + j)) x y H Q ∨ rAddS x y H Q ∨ rCatA K x y H Q ∨ rCat x y H Q
theorem op_addAny : OpR X (binaryOp .Add) (rAddAny X.K) := op_add.or (OpR.or (r := rAddS) op_add_str (op_catA.or op_cat))
theorem s2_add : S2 K (rAddAny K) oAdd := by
  intro B M H0 H x y rx ry Q QV hc h1 h2 q k
  unfold oAdd at q
  split at q
  · cases h1
    cases h2
    exact Or.inl ⟨_, _, rfl, rfl, k _ _ _ _ _ q (Nx.refl hc) (.int _)⟩
  · cases h1
    cases h2
    exact Or.inr (Or.inl ⟨_, _, rfl, rfl, q.1, k _ _ _ _ _ q.2 (Nx.refl hc) (.str _)⟩)
  · obtain ⟨z, q⟩ := q
    cases h1 with
    | tup a1 b1 =>
      cases h2 with
      | tup a2 b2 =>
        rename_i a xs b ys
        have l1 := b1.length
        have l2 := b2.length
        refine Or.inr (Or.inr (Or.inl ⟨_, _, _, _, rfl, rfl, hc.ex.st a1, hc.ex.st a2, by omega, fun e => ?_, fun e1 e2 => ?_, fun e1 e2 p hp => ?_⟩))
        · subst e
          cases b1
          exact k _ _ _ _ _ q (Nx.refl hc) (.tup a2 b2)
        · subst e2
          cases b2
          rw [List.append_nil] at q
          exact k _ _ _ _ _ q (Nx.refl hc) (.tup a1 b1)
        · obtain ⟨n, g⟩ := RR.newT hc hp (b1.append b2)
          exact k _ _ _ _ _ q n g
  · obtain ⟨as, bs, g1, g2, z, q⟩ := q
    obtain ⟨p1, xs, rfl, e1, r1⟩ := g1.at hc h1
    obtain ⟨p2, ys, rfl, e2, r2⟩ := g2.at hc h2
    have l1 := r1.length
    have l2 := r2.length
    refine Or.inr (Or.inr (Or.inr ⟨_, _, _, _, rfl, rfl, e1, e2, by omega, fun p hp => ?_⟩))
    obtain ⟨n, g⟩ := RR.newL hc hp (r1.append r2)
    exact k _ _ _ _ _ q n g
/-! ### ints -/
def oII (C : Int → Int → Prop) (f : Int → Int → Int) : D2 := fun ra rb M Q => match ra, rb with
  | .d (.int i), .d (.int j) => C i j ∧ Q (.d (.int (f i j))) M
  | _, _ => False
theorem s2_ii {C : Int → Int → Prop} {f : Int → Int → Int} : S2 K (rI C fun i j => .int (f i j)) (oII C f) := by
  intro B M H0 H x y rx ry Q QV hc h1 h2 q k
  unfold oII at q
  split at q
  · cases h1
    cases h2
    exact ⟨_, _, rfl, rfl, q.1, k _ _ _ _ _ q.2 (Nx.refl hc) (.int _)⟩
  · exact q.elim
def oI0 (f : Int → Int → Int) : D2 := fun ra rb M Q => match ra, rb with
  | .d (.int i), .d (.int j) => Q (.d (.int (f i j))) M
  | _, _ => False
theorem s2_i0 {f : Int → Int → Int} : S2 K (rI0 fun i j => .int (f i j)) (oI0 f) := by
  intro B M H0 H x y rx ry Q QV hc h1 h2 q k
  unfold oI0 at q
  split at q
  · cases h1
    cases h2
    exact ⟨_, _, rfl, rfl, k _ _ _ _ _ q (Nx.refl hc) (.int _)⟩
  · exact q.elim
def oIB (f : Int → Int → Bool) : D2 := fun ra rb M Q => match ra, rb with
  | .d (.int i), .d (.int j) => Q (.d (.bl (f i j))) M
  | _, _ => False
theorem s2_ib {f : Int → Int → Bool} : S2 K (rI0 fun i j => .bl (f i j)) (oIB f) := by
  intro B M H0 H x y rx ry Q QV hc h1 h2 q k
  unfold oIB at q
  split at q
  · cases h1
    cases h2
    exact ⟨_, _, rfl, rfl, k _ _ _ _ _ q (Nx.refl hc) (.bl _)⟩
  · exact q.elim
abbrev oSub : D2 := oI0 fun i j => i - j
abbrev oMulI : D2 := oII CMul fun i j => i * j
abbrev oDivI : D2 := oII CDivW fun i j => i / j
abbrev oModI : D2 := oII (fun _ j => 0 < j) fun i j => i % j
abbrev oPow : D2 := oII CPow fun i j => i ^ j.toNat
abbrev oLt : D2 := oIB fun i j => decide (i < j)
abbrev oLe : D2 := oIB fun i j => decide (i ≤ j)
abbrev oGt : D2 := oIB fun i j => decide (j < i)
abbrev oGe : D2 := oIB fun i j => decide (j ≤ i)
section
variable {a b : Expr} {ta tb : TE} {φa φb : DE} {pos : Pos}
theorem ex_add (ha : EX X a ta φa) (hb : EX X b tb φb) : EX X (.BinOp a .Add b pos) (tOp (rAddAny X.K) ta tb) (dOp oAdd φa φb) := ex_op op_addAny s2_add ha hb
theorem ex_sub (ha : EX X a ta φa) (hb : EX X b tb φb) : EX X (.BinOp a .Sub b pos) (tOp (rI0 fun i j => .int (i - j)) ta tb) (dOp oSub φa φb) := ex_op op_sub s2_i0 ha hb
theorem ex_mulI (ha : EX X a ta φa) (hb : EX X b tb φb) : EX X (.BinOp a .Mult b pos) (tOp (rI CMul fun i j => .int (i * j)) ta tb) (dOp oMulI φa φb) := ex_op op_mul s2_ii ha hb
theorem ex_div (ha : EX X a ta φa) (hb : EX X b tb φb) : EX X (.BinOp a .FloorDiv b pos) (tOp (rI CDivW fun i j => .int (i / j)) ta tb) (dOp oDivI φa φb) := ex_op op_fdivW s2_ii ha hb
theorem ex_mod (ha : EX X a ta φa) (hb : EX X b tb φb) : EX X (.BinOp a .Mod b pos) (tOp (rI (fun _ j => 0 < j) fun i j => .int (i % j)) ta tb) (dOp oModI φa φb) := ex_op op_mod s2_ii ha hb
theorem ex_pow (ha : EX X a ta φa) (hb : EX X b tb φb) : EX X (.BinOp a .Pow b pos) (tOp (rI CPow fun i j => .int (i ^ j.toNat)) ta tb) (dOp oPow φa φb) := ex_op op_pow s2_ii ha hb
theorem ex_lt (ha : EX X a ta φa) (hb : EX X b tb φb) : EX X (.Compare a [.Lt] [b] pos) (tOp (rI0 fun i j => .bl (decide (i < j))) ta tb) (dOp oLt φa φb) := ex_cmp op_lt s2_ib ha hb (nomark _)
theorem ex_le (ha : EX X a ta φa) (hb : EX X b tb φb) : EX X (.Compare a [.LtE] [b] pos) (tOp (rI0 fun i j => .bl (decide (i ≤ j))) ta tb) (dOp oLe φa φb) := ex_cmp op_le s2_ib ha hb (nomark _)
theorem ex_gt (ha : EX X a ta φa) (hb : EX X b tb φb) : EX X (.Compare a [.Gt] [b] pos) (tOp (rI0 fun i j => .bl (decide (j < i))) ta tb) (dOp oGt φa φb) := ex_cmp op_gt s2_ib ha hb (nomark _)
theorem ex_ge (ha : EX X a ta φa) (hb : EX X b tb φb) : EX X (.Compare a [.GtE] [b] pos) (tOp (rI0 fun i j => .bl (decide (j ≤ i))) ta tb) (dOp oGe φa φb) := ex_cmp op_ge s2_ib ha hb (nomark _)
theorem tx_lt (ha : EX X a ta φa) (hb : EX X b tb φb) : TX X (.Compare a [.Lt] [b] pos) (tTest (tOp (rI0 fun i j => .bl (decide (i < j))) ta tb)) (dTest (dOp oLt φa φb)) := tx_cmp op_lt s2_ib ha hb (nomark _)
theorem tx_le (ha : EX X a ta φa) (hb : EX X b tb φb) : TX X (.Compare a [.LtE] [b] pos) (tTest (tOp (rI0 fun i j => .bl (decide (i ≤ j))) ta tb)) (dTest (dOp oLe φa φb)) := tx_cmp op_le s2_ib ha hb (nomark _)
theorem tx_gt (ha : EX X a ta φa) (hb : EX X b tb φb) : TX X (.Compare a [.Gt] [b] pos) (tTest (tOp (rI0 fun i j => .bl (decide (j < i))) ta tb)) (dTest (dOp oGt φa φb)) := tx_cmp op_gt s2_ib ha hb (nomark _)
theorem tx_ge (ha : EX X a ta φa) (hb : EX X b tb φb) : TX X (.Compare a [.GtE] [b] pos) (tTest (tOp (rI0 fun i j => .bl (decide (j ≤ i))) ta tb)) (dTest (dOp oGe φa φb)) := tx_cmp op_ge s2_ib ha hb (nomark _)
/-- a <= b <= c -/
theorem tx_lele {c : Expr} {tc : TE} {φc : DE} (ha : EX X a ta φa) (hb : EX X b tb φb) (hc : EX X c tc φc) (hm : lastMarks [CmpOp.LtE, CmpOp.LtE] [b, c] = false := by with_unfolding_all rfl) :
    TX X (.Compare a [.LtE, .LtE] [b, c] pos) (tTest (tChain (rI0 fun i j => .bl (decide (i ≤ j))) (rI0 fun i j => .bl (decide (i ≤ j))) ta tb tc)) (dTest (dChain oLe oLe φa φb φc)) :=
  ⟨pt_chain op_le op_le ha.pe hb.pe hc.pe (hm := hm), ST.test (SE.chain ha.s hb.s hc.s s2_ib s2_ib)⟩
theorem tx_lelt {c : Expr} {tc : TE} {φc : DE} (ha : EX X a ta φa) (hb : EX X b tb φb) (hc : EX X c tc φc) (hm : lastMarks [CmpOp.LtE, CmpOp.Lt] [b, c] = false := by with_unfolding_all rfl) :
    TX X (.Compare a [.LtE, .Lt] [b, c] pos) (tTest (tChain (rI0 fun i j => .bl (decide (i ≤ j))) (rI0 fun i j => .bl (decide (i < j))) ta tb tc)) (dTest (dChain oLe oLt φa φb φc)) :=
  ⟨pt_chain op_le op_lt ha.pe hb.pe hc.pe (hm := hm), ST.test (SE.chain ha.s hb.s hc.s s2_ib s2_ib)⟩
/-! ### -a -/
def dNeg (φ : DE) : DE := fun env M Q => φ env M fun r M1 => match r with
  | .d (.int i) => Q (.d (.int (-i))) M1
  | _ => False
theorem ex_neg (ha : EX X a ta φa) : EX X (.UnaryOp .USub a pos) (tUn (rU fun i => .int (-i)) ta) (dNeg φa) := by
  refine ⟨pe_un un_neg ha.pe, fun env M Q σ B H QV hs hc q k => ?_⟩
  refine ha.s env M _ σ B H _ hs hc q fun r M1 v B1 H1 q1 n1 r1 => ?_
  split at q1
  · cases r1
    exact ⟨_, rfl, k _ _ _ _ _ q1 n1 (.int _)⟩
  · exact q1.elim
end
end

/-! ### data without instances, as PyData -/
mutual
inductive PyOf (M : Mem) : Dat → PyData → Prop
  | non : PyOf M .non .none
  | bl (b : Bool) : PyOf M (.bl b) (.bool b)
  | int (i : Int) : PyOf M (.int i) (.int i)
  | str (x : Str) : PyOf M (.str x) (.str x)
  | tup {xs : List Dat} {ps : List PyData} : PyOfA M xs ps → PyOf M (.tup xs) (.tuple ps)
  | lst {xs : List Dat} {ps : List PyData} : PyOfA M xs ps → PyOf M (.lst xs) (.list ps)
  | fz {xs : List Dat} {ps : List PyData} : PyOfA M xs ps → PyOf M (.fz xs) (.list ps)
  | cell {p : Addr} {xs : List Dat} {ps : List PyData} : M p = some (.lst xs) → PyOfA M xs ps → PyOf M (.cell p) (.list ps)
inductive PyOfA (M : Mem) : List Dat → List PyData → Prop
  | nil : PyOfA M [] []
  | cons {d : Dat} {ds : List Dat} {p : PyData} {ps : List PyData} : PyOf M d p → PyOfA M ds ps → PyOfA M (d :: ds) (p :: ps)
end
section
variable {K : PySem.W.Frag} {B : Hp} {M : Mem} {H0 H : Hp} {v : V} {r : Rv}
mutual
theorem PyOf.dp (hc : Cs K B M H) : ∀ {d : Dat} {p : PyData} {v : V}, PyOf M d p → Rp K B v d → Dp K H v p
  | _, _, _, .non, h => by cases h; exact .non
  | _, _, _, .bl b, h => by cases h; exact .bl b
  | _, _, _, .int i, h => by cases h; exact .int i
  | _, _, _, .str x, h => by cases h; exact .str x
  | _, _, _, .tup a, h => by
    cases h with
    | tup h1 h2 => exact .tup (hc.ex.st h1) (PyOfA.dp hc a h2)
  | _, _, _, .lst a, h => by
    cases h with
    | lst h1 h2 => exact .lst (SqL.of (hc.ex _ _ h1)) (PyOfA.dp hc a h2)
  | _, _, _, .fz a, h => by
    cases h with
    | fz h1 h2 => exact .lst (hc.ex.sl h1) (PyOfA.dp hc a h2)
  | _, _, _, .cell e a, h => by
    cases h
    obtain ⟨_, xs, h1, h2⟩ := hc.cell _ _ e
    exact .lst (SqL.of h1) (PyOfA.dp hc a h2)
theorem PyOfA.dp (hc : Cs K B M H) : ∀ {ds : List Dat} {ps : List PyData} {vs : List V}, PyOfA M ds ps → RpA K B vs ds → DpAll K H vs ps
  | _, _, _, .nil, h => by cases h; exact .nil
  | _, _, _, .cons a b, h => by
    cases h with
    | cons h1 h2 => exact .cons (PyOf.dp hc a h1) (PyOfA.dp hc b h2)
end
def PyR (M : Mem) : Rv → PyData → Prop
  | .d x, p => PyOf M x p
  | .new (.lst xs), p => ∃ ps, p = .list ps ∧ PyOfA M xs ps
  | .new (.obj _ _), _ => False
theorem PyR.dp {p : PyData} (hc : Cs K B M H) (h : RR K B M H0 H v r) (q : PyR M r p) : Dp K H v p := by
  unfold PyR at q
  split at q
  · exact q.dp hc h
  · obtain ⟨ps, rfl, q⟩ := q
    obtain ⟨a, rfl, _, _, _, xs, h1, h2⟩ := h
    exact .lst (SqL.of h1) (q.dp hc h2)
  · exact q.elim
theorem PyOfA.ints (M : Mem) : ∀ ns : List Int, PyOfA M (ns.map Dat.int) (ns.map PyData.int)
  | [] => .nil
  | n :: r => .cons (.int n) (PyOfA.ints M r)
theorem PyOfA.map {α : Type} {f : α → Dat} {g : α → PyData} (h : ∀ a, PyOf M (f a) (g a)) : ∀ xs : List α, PyOfA M (xs.map f) (xs.map g)
  | [] => .nil
  | n :: r => .cons (h n) (PyOfA.map h r)
end

section
variable {X : Cx} {K : PySem.W.Frag}
/-! ### ==, != -/
def oEqB (n : Bool) : D2 := fun ra rb M Q => match ra, rb with
  | .d (.int i), .d (.int j) => Q (.d (.bl (n != decide (i = j)))) M
  | .d (.str a), .d (.str b) => Q (.d (.bl (n != decide (a = b)))) M
  | ra, rb => ∃ a b, PyR M ra a ∧ PyR M rb b ∧ SeqAt.shaped a = true ∧ SeqAt.shaped b = true ∧ Q (.d (.bl (n != PyData.eqv a b))) M
abbrev oEq : D2 := oEqB false
abbrev oNe : D2 := oEqB true
def rEqAny (K : PySem.W.Frag) : R2 := fun x y H Q => rEq x y H Q ∨ rEqD K x y H Q
def rNeAny (K : PySem.W.Frag) : R2 := fun x y H Q => rNe x y H Q ∨ rNeD K x y H Q
theorem op_eqAny (hu : X.A.units + 64 < cLine) : OpR X (compareOp .Eq) (rEqAny X.K) := op_eq.or (op_eqD hu)
theorem op_neAny (hu : X.A.units + 64 < cLine) : OpR X (compareOp .NotEq) (rNeAny X.K) := op_ne.or (op_neD hu)
theorem s2_eq : S2 K (rEqAny K) oEq := by
  intro B M H0 H x y rx ry Q QV hc h1 h2 q k
  unfold oEq oEqB at q
  split at q
  · cases h1
    cases h2
    rename_i i j
    refine Or.inl ⟨rfl, ?_⟩
    have e : decide (V.int i = V.int j) = (false != decide (i = j)) := by
      rw [dec_int, Bool.false_bne] <;> rfl
    rw [e]
    exact k _ _ _ _ _ q (Nx.refl hc) (.bl _)
  · cases h1
    cases h2
    rename_i i j
    refine Or.inl ⟨rfl, ?_⟩
    have e : decide (V.str i = V.str j) = (false != decide (i = j)) := by
      rw [Bool.false_bne]
      by_cases z : i = j
      · rw [decide_eq_true z, z] <;> simp
      · rw [decide_eq_false z]
        exact decide_eq_false fun q => z (V.str.inj q)
    rw [e]
    exact k _ _ _ _ _ q (Nx.refl hc) (.bl _)
  · obtain ⟨a, b, g1, g2, s1, s2, q⟩ := q
    refine Or.inr ⟨a, b, g1.dp hc h1, g2.dp hc h2, s1, s2, ?_⟩
    rw [Bool.false_bne] at q
    exact k _ _ _ _ _ q (Nx.refl hc) (.bl _)
theorem s2_ne : S2 K (rNeAny K) oNe := by
  intro B M H0 H x y rx ry Q QV hc h1 h2 q k
  unfold oNe oEqB at q
  split at q
  · cases h1
    cases h2
    rename_i i j
    refine Or.inl ⟨rfl, ?_⟩
    have e : (!decide (V.int i = V.int j)) = (true != decide (i = j)) := by
      rw [dec_int, Bool.true_bne] <;> rfl
    rw [e]
    exact k _ _ _ _ _ q (Nx.refl hc) (.bl _)
  · cases h1
    cases h2
    rename_i i j
    refine Or.inl ⟨rfl, ?_⟩
    have e : (!decide (V.str i = V.str j)) = (true != decide (i = j)) := by
      rw [Bool.true_bne]
      by_cases z : i = j
      · rw [decide_eq_true z, z] <;> simp
      · rw [decide_eq_false z]
        exact congrArg Bool.not (decide_eq_false fun q => z (V.str.inj q))
    rw [e]
    exact k _ _ _ _ _ q (Nx.refl hc) (.bl _)
  · obtain ⟨a, b, g1, g2, s1, s2, q⟩ := q
    refine Or.inr ⟨a, b, g1.dp hc h1, g2.dp hc h2, s1, s2, ?_⟩
    rw [Bool.true_bne] at q
    exact k _ _ _ _ _ q (Nx.refl hc) (.bl _)
/-! ### in, not in: flat items -/
def flatO : Dat → Option V
  | .non => some .non
  | .bl b => some (.bl b)
  | .int i => some (.int i)
  | .str x => some (.str x)
  | _ => none
theorem flatO_ok {B : Hp} {d : Dat} {v u : V} (h : flatO d = some u) (r : Rp K B v d) : v = u ∧ flatV u = true := by
  cases r <;> first
    | (have e := Option.some.inj h; subst e; exact ⟨rfl, rfl⟩)
    | cases h
theorem flatO_all {B : Hp} : ∀ {ds : List Dat} {vs us : List V}, ds.mapM flatO = some us → RpA K B vs ds → vs = us ∧ us.all flatV = true
  | [], _, us, h, .nil => by
    have e : us = [] := by simpa using h.symm
    subst e
    exact ⟨rfl, rfl⟩
  | d :: ds, _, us, h, .cons r a => by
    rw [List.mapM_cons] at h
    cases e1 : flatO d with
    | none =>
      rw [e1] at h
      cases h
    | some u =>
      rw [e1] at h
      cases e2 : ds.mapM flatO with
      | none =>
        rw [e2] at h
        cases h
      | some us' =>
        rw [e2] at h
        have e3 : u :: us' = us := Option.some.inj h
        subst e3
        obtain ⟨g1, g2⟩ := flatO_ok e1 r
        obtain ⟨g3, g4⟩ := flatO_all e2 a
        subst g1 g3
        exact ⟨rfl, by rw [List.all_cons, g2, g4] <;> rfl⟩
def oInB (n : Bool) : D2 := fun ra rb M Q => ∃ x u ys us, ra = .d x ∧ SeqR M rb ys ∧ flatO x = some u ∧ ys.mapM flatO = some us ∧ Q (.d (.bl (n != inV u us))) M
theorem s2_in {n : Bool} : S2 K (rIn K n) (oInB n) := by
  intro B M H0 H x y rx ry Q QV hc h1 h2 q k
  obtain ⟨d, u, ys, us, rfl, g1, g2, g3, q⟩ := q
  obtain ⟨p, xs, rfl, hp, ra⟩ := g1.at hc h2
  obtain ⟨rfl, f1⟩ := flatO_ok g2 h1
  obtain ⟨rfl, f2⟩ := flatO_all g3 ra
  refine ⟨p, xs, rfl, hp, f1, f2, ?_⟩
  have e : (n != inV x xs) = (if n then !inV x xs else inV x xs) := by
    cases n
    · rw [Bool.false_bne] <;> rfl
    · rw [Bool.true_bne] <;> rfl
  rw [e] at q
  exact k _ _ _ _ _ q (Nx.refl hc) (.bl _)
/-! ### is None -/
def isNo : Rv → Bool
  | .d .non => true
  | _ => false
theorem isNo_ok {B : Hp} {M : Mem} {H0 H : Hp} {v : V} {r : Rv} (h : RR K B M H0 H v r) : decide (v = .non) = isNo r := by
  cases r with
  | d x => cases h <;> first | rfl | exact decide_eq_false fun z => by cases z
  | new m =>
    obtain ⟨p, rfl, _⟩ := h
    exact decide_eq_false fun z => by cases z
def oIs (n : Bool) : D2 := fun ra rb M Q => rb = .d .non ∧ Q (.d (.bl (n != isNo ra))) M
def rIsN : R2 := fun x y H Q => y = .non ∧ Q (.bl (decide (x = .non))) H
def rNotN : R2 := fun x y H Q => y = .non ∧ Q (.bl (!decide (x = .non))) H
theorem s2_is : S2 K rIsN (oIs false) := by
  intro B M H0 H x y rx ry Q QV hc h1 h2 q k
  obtain ⟨rfl, q⟩ := q
  cases h2
  refine ⟨rfl, ?_⟩
  rw [isNo_ok h1]
  rw [Bool.false_bne] at q
  exact k _ _ _ _ _ q (Nx.refl hc) (.bl _)
theorem s2_nis : S2 K rNotN (oIs true) := by
  intro B M H0 H x y rx ry Q QV hc h1 h2 q k
  obtain ⟨rfl, q⟩ := q
  cases h2
  refine ⟨rfl, ?_⟩
  rw [isNo_ok h1]
  rw [Bool.true_bne] at q
  exact k _ _ _ _ _ q (Nx.refl hc) (.bl _)
section
variable {a b : Expr} {ta tb : TE} {φa φb : DE} {pos : Pos}
theorem ex_eq (hu : X.A.units + 64 < cLine) (ha : EX X a ta φa) (hb : EX X b tb φb) : EX X (.Compare a [.Eq] [b] pos) (tOp (rEqAny X.K) ta tb) (dOp oEq φa φb) := ex_cmp (op_eqAny hu) s2_eq ha hb (nomark _)
theorem ex_ne (hu : X.A.units + 64 < cLine) (ha : EX X a ta φa) (hb : EX X b tb φb) : EX X (.Compare a [.NotEq] [b] pos) (tOp (rNeAny X.K) ta tb) (dOp oNe φa φb) := ex_cmp (op_neAny hu) s2_ne ha hb (nomark _)
theorem tx_eq (hu : X.A.units + 64 < cLine) (ha : EX X a ta φa) (hb : EX X b tb φb) : TX X (.Compare a [.Eq] [b] pos) (tTest (tOp (rEqAny X.K) ta tb)) (dTest (dOp oEq φa φb)) := tx_cmp (op_eqAny hu) s2_eq ha hb (nomark _)
theorem tx_ne (hu : X.A.units + 64 < cLine) (ha : EX X a ta φa) (hb : EX X b tb φb) : TX X (.Compare a [.NotEq] [b] pos) (tTest (tOp (rNeAny X.K) ta tb)) (dTest (dOp oNe φa φb)) := tx_cmp (op_neAny hu) s2_ne ha hb (nomark _)
theorem tx_in (ha : EX X a ta φa) (hb : EX X b tb φb) (hm : behindInMarks .In b = false := by rfl) : TX X (.Compare a [.In] [b] pos) (tTest (tOp (rIn X.K false) ta tb)) (dTest (dOp (oInB false) φa φb)) := tx_cmp op_in_seq s2_in ha hb hm
theorem tx_nin (ha : EX X a ta φa) (hb : EX X b tb φb) (hm : behindInMarks .NotIn b = false := by rfl) : TX X (.Compare a [.NotIn] [b] pos) (tTest (tOp (rIn X.K true) ta tb)) (dTest (dOp (oInB true) φa φb)) := tx_cmp op_notIn_seq s2_in ha hb hm
theorem tx_is (ha : EX X a ta φa) (hb : EX X b tb φb) : TX X (.Compare a [.Is] [b] pos) (tTest (tOp rIsN ta tb)) (dTest (dOp (oIs false) φa φb)) := tx_cmp op_isN s2_is ha hb (nomark _)
theorem tx_nis (ha : EX X a ta φa) (hb : EX X b tb φb) : TX X (.Compare a [.IsNot] [b] pos) (tTest (tOp rNotN ta tb)) (dTest (dOp (oIs true) φa φb)) := tx_cmp op_notN s2_nis ha hb (nomark _)
end
end
end Dl
set_option Elab.async false
set_option linter.all false
set_option maxRecDepth 100000
set_option maxHeartbeats 4000000
namespace Dl
open PySem PySem.Spec PyProof.Rows L2
/-! ### tuple * int: the cases that HandS.TupMul leaves open -/
theorem mulT_same (l : Addr) (items : Array Value) (n : Nat) (dd : Option Addr) (sl : Array (Option Value)) (x : Int) (u : Tok) (c0 : (decide (x < -(2 ^ 63)) || decide (x ≥ 2 ^ 63)) = false) (c1 : (items.isEmpty || x == 1) = true) :
    Meets (Builtin.«tuple.__mul__» ⟨[.ref l, .int x u], []⟩) (fun _ R s => s.heap.get? l = some { cls := .type "tuple", dict := dd, data := .seq items n, slots := sl } ∧ R (.ok (.ret (Value.ref l))) s) :=
  .of_wp fun prog w A R s h => by
    obtain ⟨hp, g, d, tk, os⟩ := s
    obtain ⟨hl, h⟩ := h
    have f1 := AutoSeq1.idx_int
    wp_walk using wpAny_loadPart' hl
    repeat (first
      | (refine wpAny_ite_false (decide_eq_false (by rw [c0]; exact Bool.false_ne_true)) ?_; wp_walk using wpAny_loadPart' hl)
      | (refine wpAny_ite_true (decide_eq_true c1) ?_; wp_walk using wpAny_loadPart' hl))
    exact ⟨_, rfl, h⟩
theorem mulT_none (l : Addr) (items : Array Value) (n : Nat) (dd : Option Addr) (sl : Array (Option Value)) (x : Int) (u : Tok) (c0 : (decide (x < -(2 ^ 63)) || decide (x ≥ 2 ^ 63)) = false) (c1 : (items.isEmpty || x == 1) = false) (c2 : (decide (x ≤ 0) || items.isEmpty) = true) :
    Meets (Builtin.«tuple.__mul__» ⟨[.ref l, .int x u], []⟩) (fun _ R s => s.heap.get? l = some { cls := .type "tuple", dict := dd, data := .seq items n, slots := sl } ∧
      R (.ok (.ret (Value.ref s.heap.objs.size))) { s with heap := s.heap.push { cls := Value.type "tuple", data := Data.seq #[] }, toks := s.toks }) :=
  .of_wp fun prog w A R s h => by
    obtain ⟨hp, g, d, tk, os⟩ := s
    obtain ⟨hl, h⟩ := h
    have f1 := AutoSeq1.idx_int
    wp_walk using wpAny_loadPart' hl
    repeat (first
      | (refine wpAny_ite_false (decide_eq_false (by rw [c0]; exact Bool.false_ne_true)) ?_; wp_walk using wpAny_loadPart' hl)
      | (refine wpAny_ite_false (decide_eq_false (by rw [c1]; exact Bool.false_ne_true)) ?_; wp_walk using wpAny_loadPart' hl)
      | (refine wpAny_ite_true (decide_eq_true c2) ?_; wp_walk using wpAny_loadPart' hl))
    exact ⟨_, rfl, h⟩

def rRepA (K : PySem.W.Frag) : R2 := fun x y H Q => ∃ l k xs, x = .ref l ∧ y = .int k ∧ SqT K H l xs ∧ -1000 ≤ k ∧ k ≤ 1000 ∧ xs.length ≤ 1000 ∧ (xs = [] ∨ k = 1 → Q (.ref l) H) ∧ (¬ (xs = [] ∨ k = 1) → ∀ p, H p = none → Q (.ref p) (upd H p (.tup (List.replicate k.toNat xs).flatten)))
theorem op_repA {X : Cx} : OpR X (binaryOp .Mult) (rRepA X.K) := by
  intro pins s σ H x y v u Q I rx ry h
  obtain ⟨l, k, xs, rfl, rfl, hT, h1, h2, hz, q1, q2⟩ := h
  have c0 : (decide (k < -(2 ^ 63)) || decide (k ≥ 2 ^ 63)) = false := by
    rw [decide_eq_false (by omega), decide_eq_false (by omega)] <;> rfl
  by_cases big : xs ≠ [] ∧ 2 ≤ k
  · exact op_repT pins s σ H _ _ v u Q I rx ry ⟨l, k, xs, rfl, rfl, hT, big.1, big.2, h2, hz, q2 (fun z => z.elim big.1 fun e => by have := big.2; omega)⟩
  · cases rx
    obtain ⟨t, rfl⟩ := ry
    obtain ⟨its, r, ⟨⟨cls, dd, data, sl⟩, ho, hc, n, hd⟩, hs⟩ := I.tuple hT
    simp only at hc hd
    subst hc hd
    have hle : its.length = xs.length := r.length.symm
    have hi : its.toArray.isEmpty = decide (xs = []) := by
      cases its with
      | nil =>
        have e : xs = [] := List.eq_nil_of_length_eq_zero (by rw [← hle]; rfl)
        rw [e] <;> rfl
      | cons a b =>
        have e : xs ≠ [] := fun z => by
          rw [z] at hle
          cases hle
        rw [decide_eq_false e] <;> rfl
    by_cases same : xs = [] ∨ k = 1
    · have c1 : (its.toArray.isEmpty || k == 1) = true := by
        rw [hi]
        rcases same with e | e
        · rw [decide_eq_true e, Bool.true_or]
        · rw [e, show ((1 : Int) == 1) = true from rfl, Bool.or_true]
      refine wpAny_binaryOp_repeat_ref (T := "tuple") (U := "int") (by decide) ⟨_, ho, rfl⟩ (fun s' => typeIs_int s' k t) noFill_tuple_mul F.fills_int_mul F.slot_int_rmul repeat_tuple F.slot_int_index.lookup
        (call_meets F.slot_int_rmul (typeIs_int s k t) F.entry_int_rmul (F.args_int_rmul_2 _ _) (int_rmul_tuple k t l its.toArray n dd sl)
          ⟨ho, rfl, ⟨_, ho, rfl⟩, call_meets F.slot_tuple_mul ⟨_, ho, rfl⟩ F.entry_tuple_mul (F.args_tuple_mul_2 _ _) (mulT_same l its.toArray n dd sl k t c0 c1) ⟨ho, ?_⟩⟩)
      exact ⟨.ref l, H, I, rfl, q1 same⟩
    · have e1 : xs ≠ [] := fun z => same (Or.inl z)
      have e2 : k ≠ 1 := fun z => same (Or.inr z)
      have e3 : k ≤ 0 := by
        have : ¬ 2 ≤ k := fun z => big ⟨e1, z⟩
        omega
      have c1 : (its.toArray.isEmpty || k == 1) = false := by
        rw [hi, decide_eq_false e1, Bool.false_or]
        exact beq_eq_false_iff_ne.mpr e2
      have c2 : (decide (k ≤ 0) || its.toArray.isEmpty) = true := by
        rw [decide_eq_true e3, Bool.true_or]
      refine wpAny_binaryOp_repeat_ref (T := "tuple") (U := "int") (by decide) ⟨_, ho, rfl⟩ (fun s' => typeIs_int s' k t) noFill_tuple_mul F.fills_int_mul F.slot_int_rmul repeat_tuple F.slot_int_index.lookup
        (call_meets F.slot_int_rmul (typeIs_int s k t) F.entry_int_rmul (F.args_int_rmul_2 _ _) (int_rmul_tuple k t l its.toArray n dd sl)
          ⟨ho, rfl, ⟨_, ho, rfl⟩, call_meets F.slot_tuple_mul ⟨_, ho, rfl⟩ F.entry_tuple_mul (F.args_tuple_mul_2 _ _) (mulT_none l its.toArray n dd sl k t c0 c1 c2) ⟨ho, ?_⟩⟩)
      have ek : k.toNat = 0 := by omega
      have q3 := q2 same
      rw [ek] at q3
      refine ⟨.ref s.heap.objs.size, _, I.laid (t' := s.toks) (o := .tup []) (fun b ob q => Heap.get?_push_of_some _ q) (Nat.le_refl _) ?_, rfl, q3 _ (I.hok.fresh (Nat.le_refl _))⟩
      exact ⟨Nat.zero_le _, [], .nil, IsTup.new _ _⟩
section
variable {X : Cx} {K : PySem.W.Frag}
/-! ### * of any kind -/
/-- one factor below 2 ^ 64, or both of together at most 2 ^ 27 bits -/
def CMulG (i j : Int) : Prop := CMul i j ∨ CMulX i j
theorem op_mulG {X : Cx} : OpR X (binaryOp .Mult) (rI CMulG fun i j => .int (i * j)) := by
  intro pins s σ H x y v u Q I rx ry h
  obtain ⟨i, j, rfl, rfl, hc, q⟩ := h
  rcases hc with hc | hc
  · exact op_mul pins s σ H _ _ v u Q I rx ry ⟨i, j, rfl, rfl, hc, q⟩
  · exact op_mulX pins s σ H _ _ v u Q I rx ry ⟨i, j, rfl, rfl, hc, q⟩
def oMul : D2 := fun ra rb M Q => match ra, rb with
  | .d (.int i), .d (.int j) => CMulG i j ∧ Q (.d (.int (i * j))) M
  | .d (.tup as), .d (.int k) => -1000 ≤ k ∧ k ≤ 1000 ∧ as.length ≤ 1000 ∧ Q (.d (.tup (List.replicate k.toNat as).flatten)) M
  | ra, .d (.int k) => ∃ as, LstR M ra as ∧ -(2 ^ 63) ≤ k ∧ k < 2 ^ 63 ∧ as.length * k.toNat ≤ sizeLine ∧ Q (.new (.lst (List.replicate k.toNat as).flatten)) M
  | _, _ => False
def rMulAny (K : PySem.W.Frag) : R2 := fun x y H Q => rI CMulG (fun i j => .int (i * j)) x y H Q ∨ rRepA K x y H Q ∨ rRep x y H Q
theorem op_mulAny : OpR X (binaryOp .Mult) (rMulAny X.K) := op_mulG.or (op_repA.or op_rep)
theorem s2_mul : S2 K (rMulAny K) oMul := by
  intro B M H0 H x y rx ry Q QV hc h1 h2 q k
  unfold oMul at q
  split at q
  · cases h1
    cases h2
    exact Or.inl ⟨_, _, rfl, rfl, q.1, k _ _ _ _ _ q.2 (Nx.refl hc) (.int _)⟩
  · rename_i as kk
    obtain ⟨z1, z2, z3, q⟩ := q
    cases h2
    cases h1 with
    | tup a1 b1 =>
      have l1 := b1.length
      refine Or.inr (Or.inl ⟨_, _, _, rfl, rfl, hc.ex.st a1, z1, z2, by omega, fun e => ?_, fun e p hp => ?_⟩)
      · rcases e with e | e
        · subst e
          cases b1
          rw [show (List.replicate _ ([] : List Dat)).flatten = [] from by simp] at q
          exact k _ _ _ _ _ q (Nx.refl hc) (.tup a1 .nil)
        · subst e
          rw [show (List.replicate (1 : Int).toNat as).flatten = as from by simp] at q
          exact k _ _ _ _ _ q (Nx.refl hc) (.tup a1 b1)
      · obtain ⟨n, g⟩ := RR.newT hc hp (b1.rep _)
        exact k _ _ _ _ _ q n g
  · obtain ⟨as, g1, z1, z2, z3, q⟩ := q
    obtain ⟨p1, xs, rfl, e1, r1⟩ := g1.at hc h1
    cases h2
    have l1 := r1.length
    refine Or.inr (Or.inr ⟨_, _, _, rfl, rfl, e1, z1, z2, by rw [l1]; exact z3, fun p hp => ?_⟩)
    obtain ⟨n, g⟩ := RR.newL hc hp (r1.rep _)
    exact k _ _ _ _ _ q n g
  · exact q.elim
theorem ex_mul {a b : Expr} {ta tb : TE} {φa φb : DE} {pos : Pos} (ha : EX X a ta φa) (hb : EX X b tb φb) : EX X (.BinOp a .Mult b pos) (tOp (rMulAny X.K) ta tb) (dOp oMul φa φb) := ex_op op_mulAny s2_mul ha hb
/-! ### items, slices -/
theorem atI_rp {B : Hp} {xs : List V} {ys : List Dat} {i : Int} {y : Dat} (r : RpA K B xs ys) (h : atI ys i = some y) : ∃ v, atI xs i = some v ∧ Rp K B v y := by
  unfold atI at h ⊢
  rw [r.length]
  cases e : ixN ys.length i with
  | none =>
    rw [e] at h
    cases h
  | some j =>
    rw [e] at h
    exact r.get h
def oIx : D2 := fun ra rb M Q => ∃ i ys y, rb = .d (.int i) ∧ SeqR M ra ys ∧ atI ys i = some y ∧ Q (.d y) M
theorem s2_ix : S2 K (rIx K) oIx := by
  intro B M H0 H x y rx ry Q QV hc h1 h2 q k
  obtain ⟨i, ys, z, rfl, g1, g2, q⟩ := q
  obtain ⟨p, xs, rfl, hp, r⟩ := g1.at hc h1
  cases h2
  obtain ⟨v, e, rv⟩ := atI_rp r g2
  rcases hp with hp | hp
  · exact Or.inl ⟨p, xs, i, v, rfl, rfl, hp, e, k _ _ _ _ _ q (Nx.refl hc) rv⟩
  · exact Or.inr (Or.inl ⟨p, xs, i, v, rfl, rfl, hp, e, k _ _ _ _ _ q (Nx.refl hc) rv⟩)
theorem ex_ix {a b : Expr} {ta tb : TE} {φa φb : DE} {pos : Pos} (ha : EX X a ta φa) (hb : EX X b tb φb) (hs : PlainIx b := by intro _ _; rfl) : EX X (.Subscript a b pos) (tOp (rIx X.K) ta tb) (dOp oIx φa φb) :=
  ⟨pe_ix ix_seq ha.pe hb.pe hs, SE.op ha.s hb.s s2_ix⟩
abbrev DO := Env → Mem → (Option Int → Mem → Prop) → Prop
def SO (K : PySem.W.Frag) (t : TO) (φ : DO) : Prop := ∀ (env : Env) (M : Mem) (Q : Option Int → Mem → Prop) (σ : L2.St) (B H : Hp) (QV : Option Int → Hp → Prop), SR K B σ env → Cs K B M H → φ env M Q →
  (∀ o M' B' H', Q o M' → Nx K B M H B' M' H' → QV o H') → t σ H QV
structure OX (X : Cx) (e : Option Expr) (t : TO) (φ : DO) : Prop where
  po : PO X e t
  s : SO X.K t φ
def dNo : DO := fun _ M Q => Q none M
def dPart (φ : DE) : DO := fun env M Q => φ env M fun r M1 => match r with
  | .d (.int i) => Q (some i) M1
  | _ => False
theorem ox_none : OX X none tNoPart dNo := ⟨po_none, fun env M Q σ B H QV hs hc q k => k _ _ _ _ q (Nx.refl hc)⟩
theorem ox_some {e : Expr} {t : TE} {φ : DE} (h : EX X e t φ) : OX X (some e) (tPart t) (dPart φ) := by
  refine ⟨po_some h.pe, fun env M Q σ B H QV hs hc q k => ?_⟩
  refine h.s env M _ σ B H _ hs hc q fun r M1 v B1 H1 q1 n1 r1 => ?_
  split at q1
  · cases r1
    exact ⟨_, rfl, k _ _ _ _ q1 n1⟩
  · exact q1.elim
/-- xs[lo:hi] -/
def cut {α : Type} (xs : List α) (lo hi : Option Int) : List α := (xs.drop (HT.sIx xs.length 0 lo)).take (HT.sIx xs.length xs.length hi - HT.sIx xs.length 0 lo)
theorem cut_rp {B : Hp} {xs : List V} {ys : List Dat} {lo hi : Option Int} (r : RpA K B xs ys) : RpA K B (cutV xs lo hi) (cut ys lo hi) := by
  unfold cutV cut
  rw [r.length]
  exact (r.drop _).take _
theorem cut_whole {α : Type} {xs : List α} {lo hi : Option Int} (h : HT.sIx xs.length 0 lo = 0 ∧ HT.sIx xs.length xs.length hi = xs.length) : cut xs lo hi = xs := by
  unfold cut
  rw [h.1, h.2, List.drop_zero, Nat.sub_zero, List.take_length]
def oSl (lo hi : Option Int) (r : Rv) (M : Mem) (Q : Rv → Mem → Prop) : Prop := match r with
  | .d (.tup xs) => Q (.d (.tup (cut xs lo hi))) M
  | r => ∃ ys, SeqR M r ys ∧ Q (.new (.lst (cut ys lo hi))) M
def dSl (φ : DE) (lo hi : DO) : DE := fun env M Q => φ env M fun r M1 => lo env M1 fun l M2 => hi env M2 fun h M3 => oSl l h r M3 Q
def rSl (K : PySem.W.Frag) : V → Option Int → Option Int → Hp → VK → Prop := fun x lo hi H Q => rSlA K x lo hi H Q ∨ rSlL K x lo hi H Q
theorem ex_sl {e : Expr} {lo hi : Option Expr} {t : TE} {tl th : TO} {φ : DE} {φl φh : DO} {pos p2 : Pos} (h : EX X e t φ) (hl : OX X lo tl φl) (hh : OX X hi th φh) : EX X (.Subscript e (.Slice lo hi none p2) pos) (tSl (rSl X.K) t tl th) (dSl φ φl φh) := by
  refine ⟨pe_slice (sl_tupA.or sl_list) h.pe hl.po hh.po, fun env M Q σ B H QV hs hc q k => ?_⟩
  refine h.s env M _ σ B H _ hs hc q fun r M1 v B1 H1 q1 n1 r1 => ?_
  refine hl.s env M1 _ σ B1 H1 _ (hs.mono n1.ext) n1.st q1 fun l M2 B2 H2 q2 n2 => ?_
  have n12 := n1.trans n2
  refine hh.s env M2 _ σ B2 H2 _ (hs.mono n12.ext) n12.st q2 fun u M3 B3 H3 q3 n3 => ?_
  have n := n12.trans n3
  have r3 := (r1.fwd n2).fwd n3
  have nt : ∀ {ys : List Dat}, (∃ a xs, v = .ref a ∧ SqT X.K H3 a xs ∧ RpA X.K B3 xs ys) → (Q (.d (.tup (cut ys l u))) M3) → Rp X.K B3 v (.tup ys) → rSlA X.K v l u H3 QV := by
    intro ys ⟨a, xs, ev, ht, ra⟩ q rv
    subst ev
    refine ⟨a, xs, rfl, ht, fun w => ?_, fun w p hp => ?_⟩
    · rw [cut_whole (by rw [← ra.length]; exact w)] at q
      exact k _ _ _ _ _ q n rv
    · obtain ⟨n4, g⟩ := RR.newT n.st hp (cut_rp (lo := l) (hi := u) ra)
      exact k _ _ _ _ _ q (n.trans n4) g
  unfold oSl at q3
  split at q3
  · cases r3 with
    | tup h1 h2 => exact Or.inl (nt ⟨_, _, rfl, n.st.ex.st h1, h2⟩ q3 (.tup h1 h2))
  · obtain ⟨ys, g, q4⟩ := q3
    rename_i r hne
    have hl : ∃ a xs, v = .ref a ∧ SqL X.K H3 a xs ∧ RpA X.K B3 xs ys := by
      unfold SeqR at g
      split at g
      · subst g
        cases r3 with
        | lst h1 h2 => exact ⟨_, _, rfl, SqL.of (n.st.ex _ _ h1), h2⟩
      · exact (hne _ rfl).elim
      · subst g
        cases r3 with
        | fz h1 h2 => exact ⟨_, _, rfl, n.st.ex.sl h1, h2⟩
      · cases r3
        obtain ⟨_, xs, h1, h2⟩ := n.st.cell _ _ g
        exact ⟨_, xs, rfl, SqL.of h1, h2⟩
      · subst g
        obtain ⟨p, rfl, _, _, _, xs, h1, h2⟩ := r3
        exact ⟨p, xs, rfl, SqL.of h1, h2⟩
      · exact g.elim
    obtain ⟨a, xs, rfl, hp, ra⟩ := hl
    refine Or.inr ⟨a, xs, rfl, hp, fun p hp => ?_⟩
    obtain ⟨n4, g4⟩ := RR.newL n.st hp (cut_rp (lo := l) (hi := u) ra)
    exact k _ _ _ _ _ q4 (n.trans n4) (g4.back n)
/-- xs[::-1] -/
def dRev (φ : DE) : DE := fun env M Q => φ env M fun r M1 => ∃ ys, SeqR M1 r ys ∧ (∀ xs, r ≠ .d (.tup xs)) ∧ Q (.new (.lst ys.reverse)) M1
theorem ex_rev {e : Expr} {t : TE} {φ : DE} {k : Nat} {p1 p2 p3 pos : Pos} (h : EX X e t φ) : EX X (.Subscript e (.Slice none none (some (.UnaryOp .USub (.Constant (.int 1) k p1) p2)) p3) pos) (tRevL X.K t) (dRev φ) := by
  refine ⟨pe_revL h.pe, fun env M Q σ B H QV hs hc q k => ?_⟩
  refine h.s env M _ σ B H _ hs hc q fun r M1 v B1 H1 q1 n1 r1 => ?_
  obtain ⟨ys, g, nt, q2⟩ := q1
  have hl : ∃ a xs, v = .ref a ∧ SqL X.K H1 a xs ∧ RpA X.K B1 xs ys := by
    unfold SeqR at g
    split at g
    · subst g
      cases r1 with
      | lst h1 h2 => exact ⟨_, _, rfl, SqL.of (n1.st.ex _ _ h1), h2⟩
    · exact (nt _ rfl).elim
    · subst g
      cases r1 with
      | fz h1 h2 => exact ⟨_, _, rfl, n1.st.ex.sl h1, h2⟩
    · cases r1
      obtain ⟨_, xs, h1, h2⟩ := n1.st.cell _ _ g
      exact ⟨_, xs, rfl, SqL.of h1, h2⟩
    · subst g
      obtain ⟨p, rfl, _, _, _, xs, h1, h2⟩ := r1
      exact ⟨p, xs, rfl, SqL.of h1, h2⟩
    · exact g.elim
  obtain ⟨a, xs, rfl, hp, ra⟩ := hl
  refine ⟨a, xs, rfl, hp, fun p hp => ?_⟩
  obtain ⟨n4, g4⟩ := RR.newL n1.st hp ra.reverse
  exact k _ _ _ _ _ q2 (n1.trans n4) (g4.back n1)
end
end Dl
set_option Elab.async false
set_option linter.all false
set_option maxRecDepth 100000
set_option maxHeartbeats 4000000
namespace Dl
open PySem PySem.Spec PyProof.Rows L2 ClX
abbrev FS := List Dat → Mem → (Rv → Mem → Prop) → Prop
def SC (K : PySem.W.Frag) (r : List V → Hp → VK → Prop) (ρ : FS) : Prop := ∀ (B : Hp) (M : Mem) (H : Hp) (vs : List V) (ds : List Dat) (Q : Rv → Mem → Prop) (QV : VK), Cs K B M H → RpA K B vs ds → ρ ds M Q →
  (∀ r M' v B' H', Q r M' → Nx K B M H B' M' H' → RR K B' M' H H' v r → QV v H') → r vs H QV
def rLenV (K : PySem.W.Frag) : List V → Hp → VK → Prop := fun xs H Q => ∃ p ys, xs = [.ref p] ∧ (SqL K H p ys ∨ SqT K H p ys) ∧ Q (.int ys.length) H
def rIntV : List V → Hp → VK → Prop := fun xs H Q => (∃ i, xs = [.int i] ∧ Q (.int i) H) ∨ ∃ k, xs = [.bl k] ∧ Q (.int (if k then 1 else 0)) H
def rAbsV : List V → Hp → VK → Prop := fun xs H Q => ∃ i, xs = [.int i] ∧ Q (.int (if i < 0 then -i else i)) H
def rIIV (f : Int → Int → Int) : List V → Hp → VK → Prop := fun xs H Q => ∃ i j, xs = [.int i, .int j] ∧ Q (.int (f i j)) H
def rListV (K : PySem.W.Frag) : List V → Hp → VK → Prop := fun xs H Q => ∃ p ys, xs = [.ref p] ∧ (SqL K H p ys ∨ SqT K H p ys) ∧ ∀ l, H l = none → Q (.ref l) (upd H l (.lst ys))
def rTupleV (K : PySem.W.Frag) : List V → Hp → VK → Prop := fun xs H Q => ∃ p ys, xs = [.ref p] ∧ ((SqL K H p ys ∧ ∀ l, H l = none → Q (.ref l) (upd H l (.tup ys))) ∨ (SqT K H p ys ∧ Q (.ref p) H))
def rStrV : List V → Hp → VK → Prop := fun xs H Q => ∃ i, xs = [.int i] ∧ i.natAbs.log2 < 1920 ∧ Q (.str (toString i)) H
def dCB (ρ : FS) (ψ : DA) : DE := fun env M Q => ψ env M fun ds M1 => ρ ds M1 Q
section
variable {X : Cx} {K : PySem.W.Frag}
theorem SE.cb {r : List V → Hp → VK → Prop} {ρ : FS} {t : TA} {ψ : DA} (h : SC K r ρ) (g : SA K t ψ) : SE K (tCB r t) (dCB ρ ψ) := by
  intro env M Q σ B H QV hs hc q k
  refine g env M _ σ B H _ hs hc q fun ds M1 vs B1 H1 q1 n1 r1 => ?_
  exact h B1 M1 H1 vs ds Q QV n1.st r1 q1 fun r M' v B' H' q2 n2 r2 => k r M' v B' H' q2 (n1.trans n2) (r2.back n1)
section
variable {x : Str} {p pos : Pos} {e : Expr} {es : List Expr} {id T : String} {r : List V → Hp → VK → Prop} {ρ : FS} {t : TA} {ψ : DA}
theorem ex_callB (hc : CallR X (.builtin id) r) (h : SC X.K r ρ) (hm : X.mg x = none) (hv : bootBuiltins x = some (.builtin id)) (ha : AX X (e :: es) t ψ) (hg : Gl X x := by rfl) (hn : x ≠ "__name__" := by decide) (hdb : (x == ("__debug__" : Str)) = false := by decide)
    (he : starEach (e :: es) X.env = (false, eval e X.env) :: starEach es X.env := by rfl) (hpl : (backTo pos (starEach es X.env)).any (·.1) = false := by rfl) : EX X (.Call (.Name x p) (e :: es) [] pos) (tCB r t) (dCB ρ ψ) :=
  ⟨pe_callB hc hg hm hv ha.pa hn hdb he hpl, SE.cb h ha.s⟩
theorem ex_callTy (hc : CallR X (.type T) r) (h : SC X.K r ρ) (hm : X.mg x = none) (hv : bootBuiltins x = some (.type T)) (ha : AX X (e :: es) t ψ) (hg : Gl X x := by rfl) (hn : x ≠ "__name__" := by decide) (hdb : (x == ("__debug__" : Str)) = false := by decide)
    (he : starEach (e :: es) X.env = (false, eval e X.env) :: starEach es X.env := by rfl) (hpl : (backTo pos (starEach es X.env)).any (·.1) = false := by rfl) : EX X (.Call (.Name x p) (e :: es) [] pos) (tCB r t) (dCB ρ ψ) :=
  ⟨pe_callTy hc hg hm hv ha.pa hn hdb he hpl, SE.cb h ha.s⟩
end
theorem RpA.one {B : Hp} {vs : List V} {d : Dat} (h : RpA K B vs [d]) : ∃ v, vs = [v] ∧ Rp K B v d := by
  cases h with
  | cons a b =>
    cases b
    exact ⟨_, rfl, a⟩
theorem RpA.two {B : Hp} {vs : List V} {d e : Dat} (h : RpA K B vs [d, e]) : ∃ v w, vs = [v, w] ∧ Rp K B v d ∧ Rp K B w e := by
  cases h with
  | cons a b =>
    cases b with
    | cons b c =>
      cases c
      exact ⟨_, _, rfl, a, b⟩
theorem RpA.ints {B : Hp} : ∀ {vs : List V} {ns : List Int}, RpA K B vs (ns.map Dat.int) → vs = ns.map V.int
  | _, [], h => by cases h; rfl
  | _, n :: ns, h => by
    cases h with
    | cons a b =>
      cases a
      rw [RpA.ints b] <;> rfl
def bLen : FS := fun ds M Q => ∃ d ys, ds = [d] ∧ SeqR M (.d d) ys ∧ Q (.d (.int (ys.length : Int))) M
theorem sc_len : SC K (rLenV K) bLen := by
  intro B M H vs ds Q QV hc ra q k
  obtain ⟨d, ys, rfl, g, q⟩ := q
  obtain ⟨v, rfl, r⟩ := ra.one
  obtain ⟨p, xs, rfl, h1, h2⟩ := g.at (H0 := H) (v := v) hc (show RR K B M H H v (.d d) from r)
  refine ⟨p, xs, rfl, h1, ?_⟩
  rw [h2.length]
  exact k _ _ _ _ _ q (Nx.refl hc) (.int _)
def bInt : FS := fun ds M Q => match ds with
  | [.int i] => Q (.d (.int i)) M
  | [.bl b] => Q (.d (.int (if b then 1 else 0))) M
  | _ => False
theorem sc_int : SC K (rIntV) bInt := by
  intro B M H vs ds Q QV hc ra q k
  unfold bInt at q
  split at q
  · obtain ⟨v, rfl, r⟩ := ra.one
    cases r
    exact Or.inl ⟨_, rfl, k _ _ _ _ _ q (Nx.refl hc) (.int _)⟩
  · obtain ⟨v, rfl, r⟩ := ra.one
    cases r
    exact Or.inr ⟨_, rfl, k _ _ _ _ _ q (Nx.refl hc) (.int _)⟩
  · exact q.elim
def bAbs : FS := fun ds M Q => match ds with
  | [.int i] => Q (.d (.int (if i < 0 then -i else i))) M
  | _ => False
theorem sc_abs : SC K (rAbsV) bAbs := by
  intro B M H vs ds Q QV hc ra q k
  unfold bAbs at q
  split at q
  · obtain ⟨v, rfl, r⟩ := ra.one
    cases r
    exact ⟨_, rfl, k _ _ _ _ _ q (Nx.refl hc) (.int _)⟩
  · exact q.elim
def bII (f : Int → Int → Int) : FS := fun ds M Q => match ds with
  | [.int i, .int j] => Q (.d (.int (f i j))) M
  | _ => False
theorem sc_ii {f : Int → Int → Int} : SC K (rIIV f) (bII f) := by
  intro B M H vs ds Q QV hc ra q k
  unfold bII at q
  split at q
  · obtain ⟨v, w, rfl, r1, r2⟩ := ra.two
    cases r1
    cases r2
    exact ⟨_, _, rfl, k _ _ _ _ _ q (Nx.refl hc) (.int _)⟩
  · exact q.elim
abbrev bMax2 : FS := bII fun i j => if j > i then j else i
abbrev bMin2 : FS := bII fun i j => if j < i then j else i
def bMaxL : FS := fun ds M Q => ∃ (d : Dat) (ns : List Int), ds = [d] ∧ LstR M (.d d) (ns.map Dat.int) ∧ 0 < ns.length ∧ ∀ m, m ∈ ns → (∀ y, y ∈ ns → y ≤ m) → Q (.d (.int m)) M
def bMinL : FS := fun ds M Q => ∃ (d : Dat) (ns : List Int), ds = [d] ∧ LstR M (.d d) (ns.map Dat.int) ∧ 0 < ns.length ∧ ∀ m, m ∈ ns → (∀ y, y ∈ ns → m ≤ y) → Q (.d (.int m)) M
def bSum : FS := fun ds M Q => ∃ (d : Dat) (ns : List Int), ds = [d] ∧ LstR M (.d d) (ns.map Dat.int) ∧ Q (.d (.int ns.sum)) M
theorem lst_ints {B : Hp} {M : Mem} {H : Hp} {d : Dat} {ns : List Int} {v : V} (hc : Cs K B M H) (r : Rp K B v d) (g : LstR M (.d d) (ns.map Dat.int)) : ∃ p, v = .ref p ∧ SqL K H p (ns.map V.int) := by
  obtain ⟨p, xs, rfl, h1, h2⟩ := g.at (H0 := H) (v := v) hc (show RR K B M H H v (.d d) from r)
  exact ⟨p, rfl, by rw [← h2.ints]; exact SqL.of h1⟩
theorem sc_maxL : SC K (rMax K) bMaxL := by
  intro B M H vs ds Q QV hc ra q k
  obtain ⟨d, ns, rfl, g, z, q⟩ := q
  obtain ⟨v, rfl, r⟩ := ra.one
  obtain ⟨p, rfl, h⟩ := lst_ints hc r g
  exact ⟨p, ns, rfl, h, z, fun m h1 h2 => k _ _ _ _ _ (q m h1 h2) (Nx.refl hc) (.int _)⟩
theorem sc_minL : SC K (rMin K) bMinL := by
  intro B M H vs ds Q QV hc ra q k
  obtain ⟨d, ns, rfl, g, z, q⟩ := q
  obtain ⟨v, rfl, r⟩ := ra.one
  obtain ⟨p, rfl, h⟩ := lst_ints hc r g
  exact ⟨p, ns, rfl, h, z, fun m h1 h2 => k _ _ _ _ _ (q m h1 h2) (Nx.refl hc) (.int _)⟩
theorem sc_sum : SC K (rSum K) bSum := by
  intro B M H vs ds Q QV hc ra q k
  obtain ⟨d, ns, rfl, g, q⟩ := q
  obtain ⟨v, rfl, r⟩ := ra.one
  obtain ⟨p, rfl, h⟩ := lst_ints hc r g
  exact ⟨p, ns, rfl, h, k _ _ _ _ _ q (Nx.refl hc) (.int _)⟩
def bList : FS := fun ds M Q => ∃ d ys, ds = [d] ∧ SeqR M (.d d) ys ∧ Q (.new (.lst ys)) M
theorem sc_list : SC K (rListV K) bList := by
  intro B M H vs ds Q QV hc ra q k
  obtain ⟨d, ys, rfl, g, q⟩ := q
  obtain ⟨v, rfl, r⟩ := ra.one
  obtain ⟨p, xs, rfl, h1, h2⟩ := g.at (H0 := H) (v := v) hc (show RR K B M H H v (.d d) from r)
  refine ⟨p, xs, rfl, h1, fun l hl => ?_⟩
  obtain ⟨n, g⟩ := RR.newL hc hl h2
  exact k _ _ _ _ _ q n g
def bTuple : FS := fun ds M Q => ∃ d ys, ds = [d] ∧ SeqR M (.d d) ys ∧ Q (.d (.tup ys)) M
theorem sc_tuple : SC K (rTupleV K) bTuple := by
  intro B M H vs ds Q QV hc ra q k
  obtain ⟨d, ys, rfl, g, q⟩ := q
  obtain ⟨v, rfl, r⟩ := ra.one
  have ll : (∃ p xs, v = .ref p ∧ SqL K H p xs ∧ RpA K B xs ys) ∨ Rp K B v (.tup ys) := by
    unfold SeqR at g
    split at g
    · rename_i xs0 e
      have e := Rv.d.inj e
      subst e g
      cases r with
      | lst h1 h2 => exact Or.inl ⟨_, _, rfl, SqL.of (hc.ex _ _ h1), h2⟩
    · rename_i xs0 e
      have e := Rv.d.inj e
      subst e g
      exact Or.inr r
    · rename_i xs0 e
      have e := Rv.d.inj e
      subst e g
      cases r with
      | fz h1 h2 => exact Or.inl ⟨_, _, rfl, hc.ex.sl h1, h2⟩
    · rename_i p0 e
      have e := Rv.d.inj e
      subst e
      cases r
      obtain ⟨_, xs, h1, h2⟩ := hc.cell _ _ g
      exact Or.inl ⟨_, xs, rfl, SqL.of h1, h2⟩
    · rename_i xs0 e
      cases e
    · exact g.elim
  rcases ll with ⟨p, xs, rfl, h1, h2⟩ | h
  · refine ⟨p, xs, rfl, Or.inl ⟨h1, fun l hl => ?_⟩⟩
    obtain ⟨n, g⟩ := RR.newT hc hl h2
    exact k _ _ _ _ _ q n g
  · cases h with
    | tup h1 h2 => exact ⟨_, _, rfl, Or.inr ⟨hc.ex.st h1, k _ _ _ _ _ q (Nx.refl hc) (.tup h1 h2)⟩⟩
def bStr : FS := fun ds M Q => match ds with
  | [.int i] => i.natAbs.log2 < 1920 ∧ Q (.d (.str (toString i))) M
  | _ => False
theorem sc_str : SC K (rStrV) bStr := by
  intro B M H vs ds Q QV hc ra q k
  unfold bStr at q
  split at q
  · obtain ⟨v, rfl, r⟩ := ra.one
    cases r
    exact ⟨_, rfl, q.1, k _ _ _ _ _ q.2 (Nx.refl hc) (.str _)⟩
  · exact q.elim
/-! ### repr of data -/
structure Shows (p : PyData) : Prop where
  sh : p.showable = true
  dp : p.depth ≤ 60
  nd : p.hasDict = false
  sz : p.shown.length ≤ sizeLine
def rRepr (K : PySem.W.Frag) : List V → Hp → VK → Prop := fun xs H Q => ∃ v p, xs = [v] ∧ Dp K H v p ∧ Shows p ∧ Q (.str p.shown) H
theorem call_repr (hg : X.A.guards = some []) (hu : X.A.units + 64 < cLine) : CallR X (.builtin "repr") (rRepr X.K) := by
  intro pins s σ H xs us Q I r h
  obtain ⟨v, p, rfl, hd, S, q⟩ := h
  obtain ⟨u, rfl, ru⟩ := vals1 r
  obtain ⟨as, rd⟩ := Dp.reads I p v u hd ru
  have fin : ∀ (h' : Heap) (tk : Nat) (u' : Tok), (∀ b o, s.heap.get? b = some o → h'.get? b = some o) → EP X pins σ Q (.str p.shown u') { s with heap := h', toks := tk } := fun h' tk u' k => ⟨.str p.shown, H, I.kept k, ⟨u', rfl⟩, q⟩
  have big : ∀ a, u = .ref a → wpAny (model X.prog X.w) X.A (call (.builtin "repr") [u]) (EP X pins σ Q) X.xe s := fun a e => by
    subst e
    refine PySem.repr_of_reads' rd S.sh (fun z => ?_) hg (by have := S.dp; omega) (fun _ _ e => e) (fun h' u' tk k => fin h' tk u' k) S.sz
    rw [S.nd] at z
    cases z
  cases hd with
  | non =>
    cases ru
    exact PySem.P.repr_of_none (fin s.heap _ _ fun _ _ e => e)
  | bl b =>
    cases ru
    exact PySem.P.repr_of_bool (fin s.heap _ _ fun _ _ e => e)
  | int i =>
    obtain ⟨t, rfl⟩ := ru
    exact PySem.P.repr_of_int (of_decide_eq_true S.sh) (fin s.heap _ _ fun _ _ e => e)
  | str x =>
    obtain ⟨t, rfl⟩ := ru
    exact PySem.P.repr_of_str (fin s.heap _ _ fun _ _ e => e) S.sz
  | lst h1 h2 => exact big _ ru
  | tup h1 h2 => exact big _ ru
def bRepr : FS := fun ds M Q => ∃ d p, ds = [d] ∧ PyOf M d p ∧ Shows p ∧ Q (.d (.str p.shown)) M
theorem sc_repr : SC K (rRepr K) bRepr := by
  intro B M H vs ds Q QV hc ra q k
  obtain ⟨d, p, rfl, g, S, q⟩ := q
  obtain ⟨v, rfl, r⟩ := ra.one
  exact ⟨v, p, rfl, g.dp hc r, S, k _ _ _ _ _ q (Nx.refl hc) (.str _)⟩
section
variable {p pos : Pos} {a b : Expr} {t : TA} {ψ : DA}
theorem ex_len (hm : X.mg "len" = none) (ha : AX X [a] t ψ) (hg : Gl X "len" := by rfl) (he : starEach [a] X.env = (false, eval a X.env) :: starEach [] X.env := by rfl) (hpl : (backTo pos (starEach [] X.env)).any (·.1) = false := by rfl) :
    EX X (.Call (.Name "len" p) [a] [] pos) (tCB (rLenV X.K) t) (dCB bLen ψ) := ex_callB call_len_seq sc_len hm PySem.boot_len ha (hg := hg) (he := he) (hpl := hpl)
theorem ex_toint (hm : X.mg "int" = none) (ha : AX X [a] t ψ) (hg : Gl X "int" := by rfl) (he : starEach [a] X.env = (false, eval a X.env) :: starEach [] X.env := by rfl) (hpl : (backTo pos (starEach [] X.env)).any (·.1) = false := by rfl) :
    EX X (.Call (.Name "int" p) [a] [] pos) (tCB rIntV t) (dCB bInt ψ) := ex_callTy call_int1 sc_int hm (by decide +kernel) ha (hg := hg) (he := he) (hpl := hpl)
theorem ex_abs (hm : X.mg "abs" = none) (ha : AX X [a] t ψ) (hg : Gl X "abs" := by rfl) (he : starEach [a] X.env = (false, eval a X.env) :: starEach [] X.env := by rfl) (hpl : (backTo pos (starEach [] X.env)).any (·.1) = false := by rfl) :
    EX X (.Call (.Name "abs" p) [a] [] pos) (tCB rAbsV t) (dCB bAbs ψ) := ex_callB call_abs sc_abs hm (by decide +kernel) ha (hg := hg) (he := he) (hpl := hpl)
theorem ex_max2 (hc : X.calm = true) (hm : X.mg "max" = none) (ha : AX X [a, b] t ψ) (hg : Gl X "max" := by rfl) (he : starEach [a, b] X.env = (false, eval a X.env) :: starEach [b] X.env := by rfl) (hpl : (backTo pos (starEach [b] X.env)).any (·.1) = false := by rfl) :
    EX X (.Call (.Name "max" p) [a, b] [] pos) (tCB (rIIV fun i j => if j > i then j else i) t) (dCB bMax2 ψ) := ex_callB (call_max2 hc) sc_ii hm (by decide +kernel) ha (hg := hg) (he := he) (hpl := hpl)
theorem ex_min2 (hc : X.calm = true) (hm : X.mg "min" = none) (ha : AX X [a, b] t ψ) (hg : Gl X "min" := by rfl) (he : starEach [a, b] X.env = (false, eval a X.env) :: starEach [b] X.env := by rfl) (hpl : (backTo pos (starEach [b] X.env)).any (·.1) = false := by rfl) :
    EX X (.Call (.Name "min" p) [a, b] [] pos) (tCB (rIIV fun i j => if j < i then j else i) t) (dCB bMin2 ψ) := ex_callB (call_min2 hc) sc_ii hm (by decide +kernel) ha (hg := hg) (he := he) (hpl := hpl)
theorem ex_maxL (hc : X.calm = true) (hm : X.mg "max" = none) (ha : AX X [a] t ψ) (hg : Gl X "max" := by rfl) (he : starEach [a] X.env = (false, eval a X.env) :: starEach [] X.env := by rfl) (hpl : (backTo pos (starEach [] X.env)).any (·.1) = false := by rfl) :
    EX X (.Call (.Name "max" p) [a] [] pos) (tCB (rMax X.K) t) (dCB bMaxL ψ) := ex_callB (cr_max hc) sc_maxL hm (by decide +kernel) ha (hg := hg) (he := he) (hpl := hpl)
theorem ex_minL (hc : X.calm = true) (hm : X.mg "min" = none) (ha : AX X [a] t ψ) (hg : Gl X "min" := by rfl) (he : starEach [a] X.env = (false, eval a X.env) :: starEach [] X.env := by rfl) (hpl : (backTo pos (starEach [] X.env)).any (·.1) = false := by rfl) :
    EX X (.Call (.Name "min" p) [a] [] pos) (tCB (rMin X.K) t) (dCB bMinL ψ) := ex_callB (cr_min hc) sc_minL hm (by decide +kernel) ha (hg := hg) (he := he) (hpl := hpl)
theorem ex_sum (hc : X.calm = true) (hm : X.mg "sum" = none) (ha : AX X [a] t ψ) (hg : Gl X "sum" := by rfl) (he : starEach [a] X.env = (false, eval a X.env) :: starEach [] X.env := by rfl) (hpl : (backTo pos (starEach [] X.env)).any (·.1) = false := by rfl) :
    EX X (.Call (.Name "sum" p) [a] [] pos) (tCB (rSum X.K) t) (dCB bSum ψ) := ex_callB (cr_sum hc) sc_sum hm (by decide +kernel) ha (hg := hg) (he := he) (hpl := hpl)
theorem ex_list (hm : X.mg "list" = none) (ha : AX X [a] t ψ) (hg : Gl X "list" := by rfl) (he : starEach [a] X.env = (false, eval a X.env) :: starEach [] X.env := by rfl) (hpl : (backTo pos (starEach [] X.env)).any (·.1) = false := by rfl) :
    EX X (.Call (.Name "list" p) [a] [] pos) (tCB (rListV X.K) t) (dCB bList ψ) := ex_callTy call_list_of sc_list hm (by decide +kernel) ha (hg := hg) (he := he) (hpl := hpl)
theorem ex_tuple (hm : X.mg "tuple" = none) (ha : AX X [a] t ψ) (hg : Gl X "tuple" := by rfl) (he : starEach [a] X.env = (false, eval a X.env) :: starEach [] X.env := by rfl) (hpl : (backTo pos (starEach [] X.env)).any (·.1) = false := by rfl) :
    EX X (.Call (.Name "tuple" p) [a] [] pos) (tCB (rTupleV X.K) t) (dCB bTuple ψ) := ex_callTy call_tuple_of sc_tuple hm (by decide +kernel) ha (hg := hg) (he := he) (hpl := hpl)
theorem ex_tostr (hm : X.mg "str" = none) (ha : AX X [a] t ψ) (hg : Gl X "str" := by rfl) (he : starEach [a] X.env = (false, eval a X.env) :: starEach [] X.env := by rfl) (hpl : (backTo pos (starEach [] X.env)).any (·.1) = false := by rfl) :
    EX X (.Call (.Name "str" p) [a] [] pos) (tCB rStrV t) (dCB bStr ψ) := ex_callTy call_str_int sc_str hm (by decide +kernel) ha (hg := hg) (he := he) (hpl := hpl)
theorem ex_repr (hgu : X.A.guards = some []) (hu : X.A.units + 64 < cLine) (hm : X.mg "repr" = none) (ha : AX X [a] t ψ) (hg : Gl X "repr" := by rfl) (he : starEach [a] X.env = (false, eval a X.env) :: starEach [] X.env := by rfl)
    (hpl : (backTo pos (starEach [] X.env)).any (·.1) = false := by rfl) : EX X (.Call (.Name "repr" p) [a] [] pos) (tCB (rRepr X.K) t) (dCB bRepr ψ) := ex_callB (call_repr hgu hu) sc_repr hm (by decide +kernel) ha (hg := hg) (he := he) (hpl := hpl)
end
/-! ### attributes -/
def dFld (C0 : Addr) (f : Str) (φ : DE) : DE := fun env M Q => φ env M fun r M1 => match r with
  | .d (.ins C fs) => C = C0 ∧ ∃ y, fs.lookup f = some y ∧ Q (.d y) M1
  | .d (.cell p) => ∃ fs y, M1 p = some (.obj C0 fs) ∧ fs.lookup f = some y ∧ Q (.d y) M1
  | _ => False
/-- an instance, as it stands -/
def insR (C0 : Addr) (M : Mem) : Dat → List (Str × Dat) → Prop
  | .ins C fs, gs => C = C0 ∧ gs = fs
  | .cell p, gs => M p = some (.obj C0 gs)
  | _, _ => False
theorem insR.at {B : Hp} {M : Mem} {H : Hp} {v : V} {d : Dat} {C0 : Addr} {fs : List (Str × Dat)} (hc : Cs K B M H) (r : Rp K B v d) (g : insR C0 M d fs) : ∃ a dx vs, v = .ref a ∧ H a = some (.ins C0 dx vs) ∧ RpF K B vs fs := by
  unfold insR at g
  split at g
  · obtain ⟨rfl, rfl⟩ := g
    cases r with
    | ins h1 h2 => exact ⟨_, _, _, rfl, hc.ex _ _ h1, h2⟩
  · cases r
    obtain ⟨_, dx, vs, h1, h2⟩ := hc.cell _ _ g
    exact ⟨_, dx, vs, rfl, h1, h2⟩
  · exact g.elim
theorem ex_fld {C0 : Addr} {f : Str} {e : Expr} {t : TE} {φ : DE} {pos : Pos} (c : Cls X.K C0) (n : NoAttr X.K C0 f) (h : EX X e t φ) (hb : attributeBase e f X.env (eval e X.env) = eval e X.env := by rfl) :
    EX X (.Attribute e f pos) (tFld X.K t f) (dFld C0 f φ) := by
  refine ⟨pe_fld h.pe hb, fun env M Q σ B H QV hs hc q k => ?_⟩
  refine h.s env M _ σ B H _ hs hc q fun r M1 v B1 H1 q1 n1 r1 => ?_
  have core : ∀ d fs y, r = .d d → insR C0 M1 d fs → fs.lookup f = some y → Q (.d y) M1 → ∃ a C dx vs w, v = .ref a ∧ H1 a = some (.ins C dx vs) ∧ Cls X.K C ∧ NoAttr X.K C f ∧ vs.lookup f = some w ∧ QV w H1 := by
    intro d fs y e g l q2
    subst e
    obtain ⟨a, dx, vs, rfl, h1, h2⟩ := g.at n1.st r1
    obtain ⟨w, h3, h4⟩ := h2.look l
    exact ⟨a, C0, dx, vs, w, rfl, h1, c, n, h3, k _ _ _ _ _ q2 n1 h4⟩
  split at q1
  · obtain ⟨rfl, y, l, q2⟩ := q1
    exact core _ _ y rfl ⟨rfl, rfl⟩ l q2
  · obtain ⟨fs, y, hm, l, q2⟩ := q1
    exact core _ fs y rfl hm l q2
  · exact q1.elim
/-- a constant of a class -/
theorem ex_cval {C : Addr} {mc : Value} {u : Value} {x f : Str} {d : Dat} {v : V} {p pos : Pos} (hm : X.mg x = some (.ref C)) (r : CRead X.K C mc) (c : CVal X.K C mc f v u) (rel : ∀ B, Rp X.K B v d) (hg : Gl X x := by rfl) (hd : (x == ("__debug__" : Str)) = false := by decide)
    (hb : attributeBase (.Name x p) f X.env (eval (.Name x p) X.env) = eval (.Name x p) X.env := by rfl) : EX X (.Attribute (.Name x p) f pos) (tCVal X.K (tC (.ref C)) f) (dC d) :=
  ⟨pe_cval (pe_glob hg hm rfl hd) hb, fun env M Q σ B H QV hs hc q k => ⟨C, mc, v, u, rfl, r, c, k _ _ _ _ _ q (Nx.refl hc) (rel B)⟩⟩
end
end Dl
set_option Elab.async false
set_option linter.all false
set_option maxRecDepth 100000
set_option maxHeartbeats 4000000
namespace Dl
open PySem PySem.Spec PyProof.Rows L2
/-! ### promises over data -/
/-- what a def promises, said over data -/
def spD (K : PySem.W.Frag) (fs : FS) : Sp := fun vs H Q _ => ∃ (ds : List Dat) (M : Mem) (B : Hp) (QD : Rv → Mem → Prop), RpA K B vs ds ∧ Cs K B M H ∧ fs ds M QD ∧
  ∀ r M' v B' H', QD r M' → Nx K B M H B' M' H' → RR K B' M' H H' v r → Q v H'
/-- .. where nothing is being shown -/
structure FnG (P : Program) (w : World) (K : PySem.W.Frag) (mg : Str → Option Value) (base : Heap) (k : Nat) (f : Addr) (fd : FuncData) (ps : List Str) (fs : FS) : Prop where
  len : ∀ ds M Q, fs ds M Q → ds.length = ps.length
  run : ∀ (A : Around) (outer : List PySem.Env) (s : Shared) (H : Hp) (args : Args) (us : List Value) (vs : List V) (Q : VK) (E : XK), Room k A → A.guards = some [] → Env0 P w K mg base A outer s H → BindsTo s fd args (ps.zip us) → Vals vs us → spD K fs vs H Q E →
    codeAny (model P w) A (.call (.ref f) args) (CR CX0 outer P w H s Q E) s
section
variable {X : Cx} {K : PySem.W.Frag} {fs : FS}
theorem SC.spD {E : XK} : SC K (fun vs H Q => spD K fs vs H Q E) fs := fun B M H vs ds Q QV hc ra q k => ⟨ds, M, B, Q, ra, hc, q, k⟩
theorem se_call {t : TA} {ψ : DA} {E : XK} (h : SA K t ψ) : SE K (tCall (spD K fs) [] E t) (dCB fs ψ) := by
  intro env M Q σ B H QV hs hc q k
  refine h env M _ σ B H _ hs hc q fun ds M1 vs B1 H1 q1 n1 r1 => ?_
  show spD K fs (vs ++ []) H1 QV E
  rw [List.append_nil]
  exact ⟨ds, M1, B1, Q, r1, n1.st, q1, fun r M' v B' H' q2 n2 r2 => k r M' v B' H' q2 (n1.trans n2) (r2.back n1)⟩
section
variable {k : Nat} {f : Addr} {fd : FuncData} {ps : List Str} {x : Str} {p pos : Pos} {e : Expr} {es : List Expr} {t : TA} {ψ : DA}
theorem ex_call (F : FnOk X.prog X.w X.K X.mg X.base CX0 k f fd ps (spD X.K fs)) (hr : Room k X.A) (hm : X.mg x = some (.ref f)) (hk : PySem.W.keepIn X.K (.ref f) = true) (hb : Binds X.K fd ps []) (ha : AX X (e :: es) t ψ) (hg : Gl X x := by rfl)
    (hdb : (x == ("__debug__" : Str)) = false := by decide) (he : starEach (e :: es) X.env = (false, eval e X.env) :: starEach es X.env := by rfl) (hpl : (backTo pos (starEach es X.env)).any (·.1) = false := by rfl) :
    EX X (.Call (.Name x p) (e :: es) [] pos) (tCall (spD X.K fs) [] E0 t) (dCB fs ψ) := ⟨pe_call F hr hg hm hk hb .nil pass0 ha.pa hdb he hpl, se_call ha.s⟩
/-- the call of a def that is promised where nothing is being shown -/
theorem ex_callG (F : FnG X.prog X.w X.K X.mg X.base k f fd ps fs) (hgu : X.A.guards = some []) (hr : Room k X.A) (hm : X.mg x = some (.ref f)) (hk : PySem.W.keepIn X.K (.ref f) = true) (hb : Binds X.K fd ps []) (ha : AX X (e :: es) t ψ) (hg : Gl X x := by rfl)
    (hdb : (x == ("__debug__" : Str)) = false := by decide) (he : starEach (e :: es) X.env = (false, eval e X.env) :: starEach es X.env := by rfl) (hpl : (backTo pos (starEach es X.env)).any (·.1) = false := by rfl) :
    EX X (.Call (.Name x p) (e :: es) [] pos) (tCall (spD X.K fs) [] E0 t) (dCB fs ψ) := by
  refine ⟨⟨fun pins s σ H Q I h => wpAny_Call_Name_kw (ld_glob I hg hm (PySem.W.callWith_K (h₀ := X.base) I.ok.mod.kin hk (thn (ha.pa.run pos pins s σ H _ I h) fun us s1 ⟨vs, H1, I1, r, q⟩ => ⟨I1.kIn, ?_⟩) he hpl) hdb)⟩, se_call ha.s⟩
  have q' : spD X.K fs vs H1 Q E0 := by
    have q0 : spD X.K fs (vs ++ []) H1 Q E0 := q
    rw [List.append_nil] at q0
    exact q0
  have hl : us.length = ps.length := by
    obtain ⟨ds, M, B, QD, ra, _, hf, _⟩ := q'
    rw [← r.length, ra.length]
    exact F.len ds M QD hf
  have hbb := hb s1 us I1.kIn (by rw [List.append_nil]; exact hl)
  rw [List.append_nil] at hbb
  refine wpAny_call (codeAny_mono (F.run X.A X.stack s1 H1 _ us vs Q E0 hr hgu I1.env0 hbb r q') fun res s' hq => ?_)
  match res, hq with
  | .ok (.ret u), hq => exact I1.after hq
  | .error e, hq => exact False.elim hq
end
/-! ### methods, properties, making -/
def dMeth (C0 : Addr) (m : Str) (fs : FS) (φ : DE) (ψ : DA) : DE := fun env M Q => φ env M fun r M1 => ∃ d gs, r = .d d ∧ insR C0 M1 d gs ∧ gs.lookup m = none ∧ ψ env M1 fun ds M2 => fs (d :: ds) M2 Q
theorem se_meth {C0 : Addr} {m : Str} {E : XK} {t : TE} {u : TA} {φ : DE} {ψ : DA} (h : SE K t φ) (g : SA K u ψ) : SE K (tMeth C0 m (spD K fs) [] E t u) (dMeth C0 m fs φ ψ) := by
  intro env M Q σ B H QV hs hc q k
  refine h env M _ σ B H _ hs hc q fun r M1 v B1 H1 q1 n1 r1 => ?_
  obtain ⟨d, gs, rfl, gi, gl, q2⟩ := q1
  obtain ⟨a, dx, vs, rfl, h1, h2⟩ := gi.at n1.st r1
  refine ⟨a, dx, vs, rfl, h1, h2.none gl, ?_⟩
  refine g env M1 _ σ B1 H1 _ (hs.mono n1.ext) n1.st q2 fun ds M2 ws B2 H2 q3 n2 r2 => ?_
  show spD K fs (.ref a :: (ws ++ [])) H2 QV E
  rw [List.append_nil]
  have n12 := n1.trans n2
  exact ⟨d :: ds, M2, B2, Q, .cons (Rp.mono n2.ext r1) r2, n2.st, q3, fun r M' v B' H' q4 n3 r3 => k r M' v B' H' q4 (n12.trans n3) (r3.back n12)⟩
section
variable {k : Nat} {f C0 : Addr} {fd : FuncData} {ps : List Str} {m : Str} {apos pos : Pos} {o e : Expr} {es : List Expr} {to : TE} {t : TA} {φ : DE} {ψ : DA}
theorem ex_meth {pl : Sem Bool} (ho : EX X o to φ) (c : Cls X.K C0) (hm : Meth X.K C0 m f) (F : FnOk X.prog X.w X.K X.mg X.base CX0 k f fd ps (spD X.K fs)) (hr : Room k X.A) (hb : Binds X.K fd ps []) (ha : AX X (e :: es) t ψ)
    (hst : starEach (e :: es) X.env = (false, eval e X.env) :: starEach es X.env := by rfl) (hpl : (backTo pos (starEach es X.env)).any (·.1) = false := by rfl)
    (ht : eval (.Call (.Attribute o m apos) (e :: es) [] pos) X.env = (do
      let ov ← eval o X.env
      standAt apos.atName
      let (f, first) ← holding [ov] (getMethod ov m pl)
      callWith pos f first (backTo pos (starEach (e :: es) X.env)) (backToKw pos (keywordEach [] X.env))) := by rfl) :
    EX X (.Call (.Attribute o m apos) (e :: es) [] pos) (tMeth C0 m (spD X.K fs) [] E0 to t) (dMeth C0 m fs φ ψ) := ⟨pe_meth ho.pe c hm F hr hb .nil pass0 ha.pa hst hpl ht, se_meth ho.s ha.s⟩
theorem ex_meth0 {pl : Sem Bool} (ho : EX X o to φ) (c : Cls X.K C0) (hm : Meth X.K C0 m f) (F : FnOk X.prog X.w X.K X.mg X.base CX0 k f fd ps (spD X.K fs)) (hr : Room k X.A) (hb : Binds X.K fd ps [])
    (ht : eval (.Call (.Attribute o m apos) [] [] pos) X.env = (do
      let ov ← eval o X.env
      standAt apos.atName
      let (f, first) ← holding [ov] (getMethod ov m pl)
      callWith pos f first (backTo pos (starEach [] X.env)) (backToKw pos (keywordEach [] X.env))) := by rfl) :
    EX X (.Call (.Attribute o m apos) [] [] pos) (tMeth C0 m (spD X.K fs) [] E0 to tNil) (dMeth C0 m fs φ dNil) := ⟨pe_meth0 ho.pe c hm F hr hb .nil pass0 ht, se_meth ho.s SA.nil⟩
def dProp (C0 : Addr) (fs : FS) (φ : DE) : DE := fun env M Q => φ env M fun r M1 => ∃ d gs, r = .d d ∧ insR C0 M1 d gs ∧ fs [d] M1 Q
theorem ex_prop {q : Addr} (ho : EX X e to φ) (c : Cls X.K C0) (hp : PropOf X.K C0 m q f) (F : FnOk X.prog X.w X.K X.mg X.base CX0 k f fd ps (spD X.K fs)) (hr : Room (k + 1) X.A) (hb : Binds X.K fd ps [])
    (hab : attributeBase e m X.env (eval e X.env) = eval e X.env := by rfl) : EX X (.Attribute e m pos) (tProp C0 (spD X.K fs) [] E0 to) (dProp C0 fs φ) := by
  refine ⟨pe_prop ho.pe c hp F hr hb .nil pass0 hab, fun env M Q σ B H QV hs hc q k => ?_⟩
  refine ho.s env M _ σ B H _ hs hc q fun r M1 v B1 H1 q1 n1 r1 => ?_
  obtain ⟨d, gs, rfl, gi, q2⟩ := q1
  obtain ⟨a, dx, vs, rfl, h1, h2⟩ := gi.at n1.st r1
  exact ⟨a, dx, vs, rfl, h1, [d], M1, B1, Q, .cons r1 .nil, n1.st, q2, fun r M' v B' H' q3 n2 r2 => k r M' v B' H' q3 (n1.trans n2) (r2.back n1)⟩
/-- C(..): a new instance as a cell, then __init__; then it is held as it stands -/
def dMake (C0 : Addr) (fs : FS) (ψ : DA) : DE := fun env M Q => ψ env M fun ds M1 => ∀ x, M1 x = none → fs (.cell x :: ds) (M1.set x (.obj C0 [])) fun r M2 => r = .d .non ∧ ∃ m, M2 x = some m ∧ Q (.d (frz m)) (M2.del x)
theorem se_make {E : XK} {t : TA} {ψ : DA} {C0 : Addr} (h : SA K t ψ) : SE K (tMake C0 (spD K fs) [] E t) (dMake C0 fs ψ) := by
  intro env M Q σ B H QV hs hc q k
  refine h env M _ σ B H _ hs hc q fun ds M1 vs B1 H1 q1 n1 r1 => ?_
  intro x dx hx hdx ne
  have hBx : B1 x = none := by
    cases z : B1 x with
    | none => rfl
    | some o =>
      rw [n1.st.ex x o z] at hx
      cases hx
  have hMx : M1 x = none := by
    cases z : M1 x with
    | none => rfl
    | some m =>
      obtain ⟨o, ho⟩ := n1.st.there z
      rw [ho] at hx
      cases hx
  have e1 : Ex H1 (upd (upd H1 dx (.own x)) x (.ins C0 dx [])) := fun b o e => by
    rw [upd_ne (ne_of_none e hx), upd_ne (ne_of_none e hdx)]
    exact e
  have n2 : Nx K B1 M1 H1 B1 (M1.set x (.obj C0 [])) (upd (upd H1 dx (.own x)) x (.ins C0 dx [])) := by
    refine ⟨Ex.refl _, ⟨n1.st.ex.trans e1, fun p m e => ?_⟩, fun a o _ e => e1 a o e, fun _ _ _ _ => rfl, fun a o e z => ?_, fun a o e => ⟨o, e1 a o e⟩⟩
    · by_cases z : p = x
      · subst z
        rw [Mem.set_same] at e
        cases e
        exact ⟨hBx, dx, [], upd_same, .nil⟩
      · rw [Mem.set_ne z] at e
        exact ⟨(n1.st.cell p m e).1, (n1.st.cell p m e).2.mono (Ex.refl _) fun o q => e1 p o q⟩
    · rw [Mem.set_ne (ne_of_none e hx)]
      exact z
  show spD K fs (.ref x :: (vs ++ [])) _ _ _
  rw [List.append_nil]
  refine ⟨.cell x :: ds, M1.set x (.obj C0 []), B1, _, .cons (.cell x) r1, n2.st, q1 x hMx, fun r M' v B' H' q2 n3 r2 => ?_⟩
  obtain ⟨rfl, m, hm, q3⟩ := q2
  cases r2
  refine ⟨rfl, ?_⟩
  have n123 := (n1.trans n2).trans n3
  obtain ⟨B2, n4, g4⟩ := n3.st.hold hm
  exact k _ _ _ _ _ q3 (n123.trans n4) g4
theorem ex_make {x : Str} {p : Pos} (M : Mk X.K C0 f) (F : FnOk X.prog X.w X.K X.mg X.base CX0 k f fd ps (spD X.K fs)) (hr : Room (k + 1) X.A) (hm : X.mg x = some (.ref C0)) (hb : Binds X.K fd ps []) (ha : AX X (e :: es) t ψ) (hg : Gl X x := by rfl)
    (hdb : (x == ("__debug__" : Str)) = false := by decide) (he : starEach (e :: es) X.env = (false, eval e X.env) :: starEach es X.env := by rfl) (hpl : (backTo pos (starEach es X.env)).any (·.1) = false := by rfl) :
    EX X (.Call (.Name x p) (e :: es) [] pos) (tMake C0 (spD X.K fs) [] E0 t) (dMake C0 fs ψ) := ⟨pe_make M F hr hg hm hb .nil pass0 ha.pa hdb he hpl, se_make ha.s⟩
end
/-! ### a list's own methods -/
section
variable {o e : Expr} {to te : TE} {φ ψ : DE} {apos cpos : Pos}
def dAppend (φ ψ : DE) : DE := fun env M Q => φ env M fun r M1 => ∃ p ds1, r = .d (.cell p) ∧ M1 p = some (.lst ds1) ∧ ψ env M1 fun y M2 => ∃ ds, M2 p = some (.lst ds) ∧ ds.length < sizeLine ∧ Q (.d .non) (M2.set p (.lst (ds ++ [settle y])))
theorem ex_append (ho : EX X o to φ) (he : EX X e te ψ) (hbase : attributeBase o "append" X.env (eval o X.env) = eval o X.env := by rfl)
    (hfew : ((backTo cpos (starEach (e :: []) X.env)).all (fun x => !x.1) && (backToKw cpos (keywordEach [] X.env)).all (fun x => x.1.isSome)
      && decide ((e :: []).length + ([] : List Keyword).length + (if ([] : List Keyword).isEmpty then 0 else 1) < 30)) = true := by rfl)
    (hline : (apos.endLine == cpos.line) = true := by rfl) (hs : starEach (e :: []) X.env = (false, eval e X.env) :: starEach [] X.env := by rfl) (hplain : (backTo cpos (starEach [] X.env)).any (·.1) = false := by rfl) :
    EX X (.Call (.Attribute o "append" apos) [e] [] cpos) (tBM X.K "list" rAppend to (tCons te tNil)) (dAppend φ ψ) := by
  refine ⟨pe_bm PySem.F.plainAttrs_list PySem.F.slot_list_append PySem.F.type_list_append mt_append ho.pe (pa_cons he.pe pa_nil hs) hbase hfew hline hs hplain, fun env M Q σ B H QV hs hc q k => ?_⟩
  refine ho.s env M _ σ B H _ hs hc q fun r M1 v B1 H1 q1 n1 r1 => ?_
  obtain ⟨p, ds1, rfl, hm1, q2⟩ := q1
  cases r1
  obtain ⟨_, xs1, g1, g2⟩ := n1.st.cell _ _ hm1
  refine ⟨Or.inl ⟨rfl, xs1, SqL.of g1⟩, ?_⟩
  refine he.s env M1 _ σ B1 H1 _ (hs.mono n1.ext) n1.st q2 fun y M2 w B2 H2 q3 n2 r2 => ?_
  obtain ⟨ds, hm2, hl, q4⟩ := q3
  obtain ⟨B3, n3, g3, _⟩ := settle_ok r2 n2
  obtain ⟨_, xs, g4, g5⟩ := n3.st.cell _ _ hm2
  refine ⟨p, xs, w, rfl, rfl, g4, by rw [g5.length]; exact hl, ?_⟩
  have n4 := n3.st.write (o := .lst (xs ++ [w])) hm2 (m' := .lst (ds ++ [settle y])) ⟨_, upd_same, g5.append (.cons g3 .nil)⟩
  exact k _ _ _ _ _ q4 ((n1.trans n3).trans n4) .non
def dPop (φ : DE) : DE := fun env M Q => φ env M fun r M1 => ∃ p ds y, r = .d (.cell p) ∧ M1 p = some (.lst ds) ∧ ds[ds.length - 1]? = some y ∧ Q (.d y) (M1.set p (.lst ds.dropLast))
theorem ex_pop (ho : EX X o to φ) (hbase : attributeBase o "pop" X.env (eval o X.env) = eval o X.env := by rfl) (hline : (apos.endLine == cpos.line) = true := by rfl) :
    EX X (.Call (.Attribute o "pop" apos) [] [] cpos) (tBM0 X.K "list" rPop to) (dPop φ) := by
  refine ⟨pe_bm0 PySem.F.plainAttrs_list PySem.F.slot_list_pop PySem.F.type_list_pop mt_pop ho.pe hbase hline, fun env M Q σ B H QV hs hc q k => ?_⟩
  refine ho.s env M _ σ B H _ hs hc q fun r M1 v B1 H1 q1 n1 r1 => ?_
  obtain ⟨p, ds, y, rfl, hm, hy, q2⟩ := q1
  cases r1
  obtain ⟨_, xs, g1, g2⟩ := n1.st.cell _ _ hm
  rw [← g2.length] at hy
  obtain ⟨w, hw, rw_⟩ := g2.get hy
  refine ⟨Or.inl ⟨rfl, xs, SqL.of g1⟩, p, xs, w, rfl, rfl, g1, hw, ?_⟩
  have n4 := n1.st.write (o := .lst xs.dropLast) hm (m' := .lst ds.dropLast) ⟨_, upd_same, g2.dropLast⟩
  exact k _ _ _ _ _ q2 (n1.trans n4) rw_
end
end
end Dl
set_option Elab.async false
set_option linter.all false
set_option maxRecDepth 100000
set_option maxHeartbeats 4000000
namespace Dl
open PySem PySem.Spec PyProof.Rows L2
/-! ### what is walked -/
abbrev DW := Env → Mem → (List Dat → (Mem → Prop) → Mem → Prop) → Prop
structure Wk (K : PySem.W.Frag) (B0 : Hp) (J : It) (ys : List Dat) (stay : Mem → Prop) : Prop where
  go : ∀ (i : Nat) B M H, Ex B0 B → Cs K B M H → stay M → i < ys.length → J.go i H
  yld : ∀ (i : Nat) x B M H H', Ex B0 B → Cs K B M H → stay M → i < ys.length → J.yld i H x H' → ∃ B' y, Nx K B M H B' M H' ∧ ys[i]? = some y ∧ Rp K B' x y
  stop : ∀ (i : Nat) B M H, Ex B0 B → Cs K B M H → stay M → i = ys.length → J.stop i H
def SW (K : PySem.W.Frag) (wi : TI) (ω : DW) : Prop := ∀ (env : Env) (M : Mem) (Q : List Dat → (Mem → Prop) → Mem → Prop) (σ : L2.St) (B H : Hp) (R : It → Hp → Prop), SR K B σ env → Cs K B M H → ω env M Q →
  (∀ ys stay M' B' H' J, Q ys stay M' → Nx K B M H B' M' H' → Wk K B' J ys stay → R J H') → wi σ H R
structure IX (X : Cx) (tg iter : Expr) (wi : TI) (ω : DW) : Prop where
  pi : PI X tg iter wi
  s : SW X.K wi ω
section
variable {X : Cx} {K : PySem.W.Frag} {tg : Expr}
def iSeq (K : PySem.W.Frag) (tl : TE) : TI := fun σ H R => tl σ H fun x H1 => ∃ a, x = .ref a ∧ (((∃ xs, SqL K H1 a xs) ∧ R (Itl K a) H1) ∨ ((∃ xs, SqT K H1 a xs) ∧ R (Itt K a) H1))
theorem pi_seq {l : Expr} {tl : TE} (hl : PE X l tl) : PI X tg l (iSeq X.K tl) := by
  refine ⟨fun pins s σ H R I h => thn (hl.run pins s σ H _ I h) fun v s1 hv => ?_⟩
  obtain ⟨x, H1, I1, r1, a, e, q⟩ := hv
  subst e
  cases r1
  have fr : ∀ b ∈ [s1.heap.objs.size], FpOk X pins H1 b := fun b hb => by
    cases List.mem_singleton.mp hb
    exact I1.fpOk (Nat.le_refl _) I1.fresh
  rcases q with ⟨⟨xs, hq⟩, q⟩ | ⟨⟨xs, hq⟩, q⟩
  · obtain ⟨its, rv, p, hz⟩ := I1.list hq
    exact wpAny_pyIter_list p.isList ⟨s1.heap.objs.size, [s1.heap.objs.size], _, _, H1, rfl, I1.kept (t' := s1.toks) (fun b o e => Heap.get?_push_of_some _ e), turn_list a _, ⟨_, Heap.get?_push_size _ rfl, rfl, rfl⟩, fr, q⟩
  · obtain ⟨its, rv, p, hz⟩ := I1.tuple hq
    exact wpAny_pyIter_tuple (show s1.heap.IsTuple a its.toArray from p) ⟨s1.heap.objs.size, [s1.heap.objs.size], _, _, H1, rfl, I1.kept (t' := s1.toks) (fun b o e => Heap.get?_push_of_some _ e), turn_tuple a _, ⟨_, Heap.get?_push_size _ rfl, rfl, rfl⟩, fr, q⟩
def stayR (ys : List Dat) : Dat → Mem → Prop
  | .cell p, M => M p = some (.lst ys)
  | _, _ => True
def dSeqW (φ : DE) : DW := fun env M Q => φ env M fun r M1 => ∃ ys, SeqR M1 r ys ∧ Q ys (stayR ys (settle r)) M1
theorem wk_list {B0 : Hp} {a : Addr} {ys : List Dat} {stay : Mem → Prop} (h : ∀ B M H, Ex B0 B → Cs K B M H → stay M → ∃ xs, SqL K H a xs ∧ RpA K B xs ys) : Wk K B0 (Itl K a) ys stay := by
  refine ⟨fun i B M H e s t hi => ?_, fun i x B M H H' e s t hi y => ?_, fun i B M H e s t hi => ?_⟩
  · obtain ⟨xs, h1, h2⟩ := h B M H e s t
    have hl : i < xs.length := by rw [h2.length]; exact hi
    exact ⟨xs, xs[i], h1, List.getElem?_eq_getElem hl⟩
  · obtain ⟨xs, h1, h2⟩ := h B M H e s t
    obtain ⟨rfl, y⟩ := y
    obtain ⟨d, g1, g2⟩ := h2.get' (y xs h1)
    exact ⟨B, d, Nx.refl s, g1, g2⟩
  · obtain ⟨xs, h1, h2⟩ := h B M H e s t
    exact ⟨xs, h1, by rw [h2.length]; exact Nat.le_of_eq hi.symm⟩
theorem wk_tup {B0 : Hp} {a : Addr} {ys : List Dat} {xs : List V} {stay : Mem → Prop} (h1 : SqT K B0 a xs) (h2 : RpA K B0 xs ys) : Wk K B0 (Itt K a) ys stay := by
  refine ⟨fun i B M H e s t hi => ?_, fun i x B M H H' e s t hi y => ?_, fun i B M H e s t hi => ?_⟩
  · have hl : i < xs.length := by rw [h2.length]; exact hi
    exact ⟨xs, xs[i], s.ex.st (e.st h1), List.getElem?_eq_getElem hl⟩
  · obtain ⟨rfl, y⟩ := y
    obtain ⟨d, g1, g2⟩ := h2.get' (y xs (s.ex.st (e.st h1)))
    exact ⟨B, d, Nx.refl s, g1, g2.mono e⟩
  · exact ⟨xs, s.ex.st (e.st h1), by rw [h2.length]; exact Nat.le_of_eq hi.symm⟩
theorem ix_seq {l : Expr} {tl : TE} {φ : DE} (h : EX X l tl φ) : IX X tg l (iSeq X.K tl) (dSeqW φ) := by
  refine ⟨pi_seq h.pe, fun env M Q σ B H R hs hc q k => ?_⟩
  refine h.s env M _ σ B H _ hs hc q fun r M1 v B1 H1 q1 n1 r1 => ?_
  obtain ⟨ys, g, q2⟩ := q1
  obtain ⟨B2, n2, g2, _⟩ := settle_ok r1 n1
  have fin : ∀ J, Wk X.K B2 J ys (stayR ys (settle r)) → R J H1 := fun J w => k ys _ M1 B2 H1 J q2 n2 w
  have g' : SeqR M1 (.d (settle r)) ys := by
    cases r with
    | d x => exact g
    | new m =>
      cases m with
      | lst ds => exact g
      | obj C fs => exact False.elim g
  have lst : (∃ a, v = .ref a ∧ ∀ B M H, Ex B2 B → Cs X.K B M H → stayR ys (settle r) M → ∃ xs, SqL X.K H a xs ∧ RpA X.K B xs ys) → ∃ a, v = .ref a ∧ (((∃ xs, SqL X.K H1 a xs) ∧ R (Itl X.K a) H1) ∨ ((∃ xs, SqT X.K H1 a xs) ∧ R (Itt X.K a) H1)) := by
    rintro ⟨a, rfl, w⟩
    refine ⟨a, rfl, Or.inl ⟨?_, fin _ (wk_list w)⟩⟩
    have st0 : stayR ys (settle r) M1 := by
      unfold stayR
      split
      · rename_i p0 e
        rw [e] at g'
        exact g'
      · trivial
    obtain ⟨xs, h1, _⟩ := w B2 M1 H1 (Ex.refl _) n2.st st0
    exact ⟨xs, h1⟩
  generalize settle r = d at *
  unfold SeqR at g'
  split at g'
  · rename_i xs0 e
    have e := Rv.d.inj e
    subst e g'
    cases g2 with
    | lst h1 h2 => exact lst ⟨_, rfl, fun B M H e s _ => ⟨_, SqL.of (s.ex _ _ (e _ _ h1)), h2.mono e⟩⟩
  · rename_i xs0 e
    have e := Rv.d.inj e
    subst e g'
    cases g2 with
    | tup h1 h2 => exact ⟨_, rfl, Or.inr ⟨⟨_, n2.st.ex.st h1⟩, fin _ (wk_tup h1 h2)⟩⟩
  · rename_i xs0 e
    have e := Rv.d.inj e
    subst e g'
    cases g2 with
    | fz h1 h2 => exact lst ⟨_, rfl, fun B M H e s _ => ⟨_, s.ex.sl (e.sl h1), h2.mono e⟩⟩
  · rename_i p0 e
    have e := Rv.d.inj e
    subst e
    cases g2
    refine lst ⟨_, rfl, fun B M H e s t => ?_⟩
    obtain ⟨_, xs, h1, h2⟩ := s.cell _ _ (show M p0 = some (.lst _) from t)
    exact ⟨xs, SqL.of h1, h2⟩
  · rename_i xs0 e
    cases e
  · exact g'.elim
/-- lo, lo + 1, .. -/
def rngD (lo : Int) (n : Nat) : List Dat := (List.range n).map fun i : Nat => Dat.int (lo + i)
theorem rngD_len {lo : Int} {n : Nat} : (rngD lo n).length = n := by
  unfold rngD
  rw [List.length_map, List.length_range]
theorem rngD_get {lo : Int} {n i : Nat} {y : Dat} : (rngD lo n)[i]? = some y ↔ i < n ∧ y = .int (lo + i) := by
  unfold rngD
  rw [List.getElem?_map]
  constructor
  · intro h
    by_cases hi : i < n
    · rw [List.getElem?_range hi] at h
      exact ⟨hi, (Option.some.inj h).symm⟩
    · rw [List.getElem?_eq_none (by rw [List.length_range]; omega)] at h
      cases h
  · rintro ⟨hi, rfl⟩
    rw [List.getElem?_range hi] <;> rfl
theorem wk_rng {B0 : Hp} {lo : Int} {n : Nat} : Wk K B0 (Itr lo n) (rngD lo n) (fun _ => True) := by
  refine ⟨fun i B M H e s t hi => by rw [rngD_len] at hi; exact hi, fun i x B M H H' e s t hi y => ?_, fun i B M H e s t hi => by rw [rngD_len] at hi; exact Nat.le_of_eq hi.symm⟩
  obtain ⟨rfl, rfl⟩ := y
  rw [rngD_len] at hi
  exact ⟨B, .int (lo + i), Nx.refl s, rngD_get.mpr ⟨hi, rfl⟩, .int _⟩
def dRng1 (ψ : DA) : DW := fun env M Q => ψ env M fun ds M1 => match ds with
  | [.int j] => -(2 ^ 62) ≤ j ∧ j < 2 ^ 62 ∧ Q (rngD 0 j.toNat) (fun _ => True) M1
  | _ => False
def dRng2 (ψ : DA) : DW := fun env M Q => ψ env M fun ds M1 => match ds with
  | [.int i, .int j] => (-(2 ^ 62) ≤ i ∧ i < 2 ^ 62 ∧ -(2 ^ 62) ≤ j ∧ j < 2 ^ 62) ∧ Q (rngD i (j - i).toNat) (fun _ => True) M1
  | _ => False
theorem ix_rng1 {a : Expr} {ta : TA} {ψ : DA} {p pos : Pos} (hm : X.mg "range" = none) (ha : AX X [a] ta ψ) (hg : Gl X "range" := by rfl) (hs : starEach [a] X.env = [(false, eval a X.env)] := by rfl) : IX X tg (.Call (.Name "range" p) [a] [] pos) (iRng1 ta) (dRng1 ψ) := by
  refine ⟨pi_range1 hg hm ha.pa hs, fun env M Q σ B H R hs hc q k => ?_⟩
  refine ha.s env M _ σ B H _ hs hc q fun ds M1 vs B1 H1 q1 n1 r1 => ?_
  split at q1
  · obtain ⟨z1, z2, q2⟩ := q1
    obtain ⟨v, rfl, r⟩ := r1.one
    cases r
    exact ⟨_, rfl, z1, z2, k _ _ _ _ _ _ q2 n1 wk_rng⟩
  · exact q1.elim
theorem ix_rng2 {a b : Expr} {ta : TA} {ψ : DA} {p pos : Pos} (hm : X.mg "range" = none) (ha : AX X [a, b] ta ψ) (hg : Gl X "range" := by rfl) (hs : starEach [a, b] X.env = [(false, eval a X.env), (false, eval b X.env)] := by rfl) (hs2 : starEach [b] X.env = [(false, eval b X.env)] := by rfl) :
    IX X tg (.Call (.Name "range" p) [a, b] [] pos) (iRng2 ta) (dRng2 ψ) := by
  refine ⟨pi_range2 hg hm ha.pa hs hs2, fun env M Q σ B H R hs hc q k => ?_⟩
  refine ha.s env M _ σ B H _ hs hc q fun ds M1 vs B1 H1 q1 n1 r1 => ?_
  split at q1
  · obtain ⟨z, q2⟩ := q1
    obtain ⟨v, w, rfl, r, r'⟩ := r1.two
    cases r
    cases r'
    exact ⟨_, _, rfl, z, k _ _ _ _ _ _ q2 n1 wk_rng⟩
  · exact q1.elim
/-! ### targets -/
abbrev DG := Dat → Env → (Env → Prop) → Prop
abbrev DGs := List Dat → Env → (Env → Prop) → Prop
def SG (K : PySem.W.Frag) (g : TG) (γ : DG) : Prop := ∀ (v : V) (y : Dat) (σ : L2.St) (env : Env) (B : Hp) (M : Mem) (H : Hp) (k : Env → Prop) (Q : L2.St → Hp → Prop), Cs K B M H → SR K B σ env → Rp K B v y → γ y env k → (∀ env' σ', k env' → SR K B σ' env' → Q σ' H) → g v σ H Q
def SGs (K : PySem.W.Frag) (g : TGs) (γ : DGs) : Prop := ∀ (vs : List V) (ys : List Dat) (σ : L2.St) (env : Env) (B : Hp) (M : Mem) (H : Hp) (k : Env → Prop) (Q : L2.St → Hp → Prop), Cs K B M H → SR K B σ env → RpA K B vs ys → γ ys env k → (∀ env' σ', k env' → SR K B σ' env' → Q σ' H) → g vs σ H Q
structure GX (X : Cx) (tg : Expr) (g : TG) (γ : DG) : Prop where
  pg : PG X tg g
  s : SG X.K g γ
structure GsX (X : Cx) (tgs : List Expr) (g : TGs) (γ : DGs) : Prop where
  pg : PGs X tgs g
  s : SGs X.K g γ
def gd (j : Nat) : DG := fun y env k => k (env.set j (some y))
def gdNil : DGs := fun ys env k => ys = [] ∧ k env
def gdCons (γ : DG) (δ : DGs) : DGs := fun ys env k => ∃ y r, ys = y :: r ∧ γ y env fun env' => δ r env' k
def gdTup (n : Nat) (δ : DGs) : DG := fun y env k => ∃ ys, y = .tup ys ∧ ys.length = n ∧ δ ys env k
theorem sg_name {j : Nat} : SG K (gName j) (gd j) := fun v y σ env B M H k Q hc hs r q w => w _ _ q (hs.set r j)
theorem gx_name {i : Nat} {x : Str} {pos : Pos} (hN : X.N.Nodup) (hi : X.N[i]? = some x := by rfl) (hx : Loc X.env.scope x := by first | exact Or.inl rfl | exact Or.inr rfl) (hf : X.fn x = true ∨ X.env.scope.names.lookup x = some .local := by first | exact .inl rfl | exact .inr rfl | assumption) : GX X (.Name x pos) (gName i) (gd i) := ⟨pg_name hN hi hx hf, sg_name⟩
theorem gs_nil : GsX X [] gNil gdNil := ⟨pgs_nil, fun vs ys σ env B M H k Q hc hs r q w => by
  obtain ⟨rfl, q⟩ := q
  cases r
  exact ⟨rfl, w _ _ q hs⟩⟩
theorem gs_cons {e : Expr} {es : List Expr} {g : TG} {gs : TGs} {γ : DG} {δ : DGs} (h : GX X e g γ) (h2 : GsX X es gs δ) (hs : (assignEach (e :: es) X.env).map (fun x => x.snd) = assign e X.env :: (assignEach es X.env).map (fun x => x.snd) := by rfl) : GsX X (e :: es) (gCons g gs) (gdCons γ δ) := ⟨pgs_cons h.pg h2.pg hs, fun vs ys σ env B M H k Q hc hs r q w => by
  obtain ⟨y, t, rfl, q⟩ := q
  cases r with
  | cons a b => exact ⟨_, _, rfl, h.s _ y σ env B M H _ _ hc hs a q fun env' σ' q2 s2 => h2.s _ t σ' env' B M H k Q hc s2 b q2 w⟩⟩
theorem gx_tup {es : List Expr} {c : Nat} {g : TGs} {γ : DGs} {n : Nat} {pos : Pos} (hc : X.calm = true) (h : GsX X es g γ) (hn : (assignEach es X.env).length = n := by rfl) (hst : (assignEach es X.env).findIdx? (·.1) = none := by rfl) : GX X (.Tuple es c pos) (gTup X.K n g) (gdTup n γ) := ⟨pg_tup hc h.pg hn hst, fun v y σ env B M H k Q hc hs r q w => by
  obtain ⟨ys, rfl, hl, q⟩ := q
  cases r with
  | tup a b => exact ⟨_, _, rfl, hc.ex.st a, by rw [b.length]; exact hl, h.s _ ys σ env B M H k Q hc hs b q w⟩⟩
end
end Dl
set_option Elab.async false
set_option linter.all false
set_option maxRecDepth 100000
set_option maxHeartbeats 4000000
namespace Dl
open PySem PySem.Spec PyProof.Rows L2
/-! ### statements -/
structure En where
  nx : Env → Mem → Prop
  rt : Rv → Mem → Prop
  bk : Env → Mem → Prop := fun _ _ => False
  ct : Env → Mem → Prop := fun _ _ => False
abbrev DS := En → Env → Mem → Prop
/-- what is wanted over data is what is wanted -/
structure Lk (K : PySem.W.Frag) (B : Hp) (M : Mem) (H : Hp) (E : En) (D : Ends) : Prop where
  nx : ∀ env' M' σ' B' H', E.nx env' M' → Nx K B M H B' M' H' → SR K B' σ' env' → D.nx σ' H'
  bk : ∀ env' M' σ' B' H', E.bk env' M' → Nx K B M H B' M' H' → SR K B' σ' env' → D.bk σ' H'
  ct : ∀ env' M' σ' B' H', E.ct env' M' → Nx K B M H B' M' H' → SR K B' σ' env' → D.ct σ' H'
  rt : ∀ r M' v B' H', E.rt r M' → Nx K B M H B' M' H' → RR K B' M' H H' v r → D.rt v H'
theorem Lk.trans {K : PySem.W.Frag} {B B1 : Hp} {M M1 : Mem} {H H1 : Hp} {E : En} {D : Ends} (l : Lk K B M H E D) (n : Nx K B M H B1 M1 H1) : Lk K B1 M1 H1 E D :=
  ⟨fun env' M' σ' B' H' q n' s => l.nx env' M' σ' B' H' q (n.trans n') s, fun env' M' σ' B' H' q n' s => l.bk env' M' σ' B' H' q (n.trans n') s, fun env' M' σ' B' H' q n' s => l.ct env' M' σ' B' H' q (n.trans n') s,
    fun r M' v B' H' q n' rr => l.rt r M' v B' H' q (n.trans n') (rr.back n)⟩
def SS (K : PySem.W.Frag) (t : TS) (φ : DS) : Prop := ∀ (E : En) (env : Env) (M : Mem) (σ : L2.St) (B H : Hp) (D : Ends), SR K B σ env → Cs K B M H → φ E env M → Lk K B M H E D → t D σ H
structure SX (X : Cx) (st : Stmt) (t : TS) (φ : DS) : Prop where
  ps : PS X st t
  s : SS X.K t φ
structure BX (X : Cx) (sts : List Stmt) (t : TS) (φ : DS) : Prop where
  ps : PSs X sts t
  s : SS X.K t φ
section
variable {X : Cx} {K : PySem.W.Frag}
def dNext : DS := fun E env M => E.nx env M
def dSeq (φ ψ : DS) : DS := fun E env M => φ { E with nx := ψ E } env M
theorem SS.next : SS K tNext dNext := fun E env M σ B H D hs hc q l => l.nx _ _ _ _ _ q (Nx.refl hc) hs
theorem SS.seq {t u : TS} {φ ψ : DS} (h : SS K t φ) (g : SS K u ψ) : SS K (tSeq t u) (dSeq φ ψ) := fun E env M σ B H D hs hc q l =>
  h { E with nx := ψ E } env M σ B H { D with nx := u D } hs hc q ⟨fun env' M' σ' B' H' q' n s => g E env' M' σ' B' H' D s n.st q' (l.trans n), l.bk, l.ct, l.rt⟩
theorem bx_nil : BX X [] tNext dNext := ⟨pss_nil, SS.next⟩
theorem bx_cons {st : Stmt} {rest : List Stmt} {t u : TS} {φ ψ : DS} (h : SX X st t φ) (g : BX X rest u ψ) : BX X (st :: rest) (tSeq t u) (dSeq φ ψ) := ⟨pss_cons h.ps g.ps, SS.seq h.s g.s⟩
theorem bx_one {st : Stmt} {t : TS} {φ : DS} (h : SX X st t φ) : BX X [st] t φ := ⟨pss_one h.ps, h.s⟩
def dNever : DS := fun _ _ _ => False
theorem sx_never {st : Stmt} : SX X st tNever dNever := ⟨ps_never, fun _ _ _ _ _ _ _ _ _ q _ => q.elim⟩
theorem sx_pass {pos : Pos} : SX X (.Pass pos) tNext dNext := ⟨ps_pass, SS.next⟩
def dBreak : DS := fun E env M => E.bk env M
def dCont : DS := fun E env M => E.ct env M
theorem sx_break {pos : Pos} : SX X (.Break pos) tBreak dBreak := ⟨ps_break, fun E env M σ B H D hs hc q l => l.bk _ _ _ _ _ q (Nx.refl hc) hs⟩
theorem sx_continue {pos : Pos} : SX X (.Continue pos) tCont dCont := ⟨ps_continue, fun E env M σ B H D hs hc q l => l.ct _ _ _ _ _ q (Nx.refl hc) hs⟩
/-- x = e, what is new held for good -/
def dSet (φ : DE) (i : Nat) : DS := fun E env M => φ env M fun r M1 => E.nx (env.set i (some (settle r))) M1
/-- x = e, a new list or instance that will change -/
def dSetC (φ : DE) (i : Nat) : DS := fun E env M => φ env M fun r M1 => ∃ m, r = .new m ∧ ∀ p, M1 p = none → E.nx (env.set i (some (.cell p))) (M1.set p m)
theorem SS.set {t : TE} {φ : DE} {i : Nat} (h : SE K t φ) : SS K (tAsg t (gName i)) (dSet φ i) := fun E env M σ B H D hs hc q l => by
  refine h env M _ σ B H _ hs hc q fun r M1 v B1 H1 q1 n1 r1 => ?_
  obtain ⟨B2, n2, g2, _⟩ := settle_ok r1 n1
  exact l.nx _ _ _ _ _ q1 n2 ((hs.mono n2.ext).set g2 i)
theorem SS.setC {t : TE} {φ : DE} {i : Nat} (h : SE K t φ) : SS K (tAsg t (gName i)) (dSetC φ i) := fun E env M σ B H D hs hc q l => by
  refine h env M _ σ B H _ hs hc q fun r M1 v B1 H1 q1 n1 r1 => ?_
  obtain ⟨m, rfl, q2⟩ := q1
  obtain ⟨p, rfl, hp, n2⟩ := r1.celled n1
  exact l.nx _ _ _ _ _ (q2 p hp) n2 ((hs.mono n2.ext).set (.cell p) i)
section
variable {i : Nat} {x : Str} {e : Expr} {t : TE} {φ : DE} {pos pos' : Pos}
theorem sx_set (hN : X.N.Nodup) (he : EX X e t φ) (hi : X.N[i]? = some x := by rfl) (hx : Loc X.env.scope x := by first | exact Or.inl rfl | exact Or.inr rfl) (hs : swapsWith e (some (.Name x pos')) pos.line X.env = pure false := by rfl)
    (hf : X.fn x = true ∨ X.env.scope.names.lookup x = some .local := by first | exact .inl rfl | exact .inr rfl | assumption) : SX X (.Assign [.Name x pos'] e pos) (tAsg t (gName i)) (dSet φ i) := ⟨ps_set hN hi hx he.pe hs hf, SS.set he.s⟩
theorem sx_setC (hN : X.N.Nodup) (he : EX X e t φ) (hi : X.N[i]? = some x := by rfl) (hx : Loc X.env.scope x := by first | exact Or.inl rfl | exact Or.inr rfl) (hs : swapsWith e (some (.Name x pos')) pos.line X.env = pure false := by rfl)
    (hf : X.fn x = true ∨ X.env.scope.names.lookup x = some .local := by first | exact .inl rfl | exact .inr rfl | assumption) : SX X (.Assign [.Name x pos'] e pos) (tAsg t (gName i)) (dSetC φ i) := ⟨ps_set hN hi hx he.pe hs hf, SS.setC he.s⟩
end
/-- a, b = e -/
def dAsg (φ : DE) (γ : DG) : DS := fun E env M => φ env M fun r M1 => γ (settle r) env fun env' => E.nx env' M1
theorem SS.asg {t : TE} {g : TG} {φ : DE} {γ : DG} (h : SE K t φ) (hg : SG K g γ) : SS K (tAsg t g) (dAsg φ γ) := fun E env M σ B H D hs hc q l => by
  refine h env M _ σ B H _ hs hc q fun r M1 v B1 H1 q1 n1 r1 => ?_
  obtain ⟨B2, n2, g2, _⟩ := settle_ok r1 n1
  exact hg v _ σ env B2 M1 H1 _ _ n2.st (hs.mono n2.ext) g2 q1 fun env' σ' q2 s2 => l.nx _ _ _ _ _ q2 n2 s2
theorem sx_asg {tg e : Expr} {t : TE} {g : TG} {φ : DE} {γ : DG} {pos : Pos} (he : EX X e t φ) (hg : GX X tg g γ) (hs : swapsWithSole [tg] e pos.line X.env = pure false := by rfl) (hw : swappedStores [tg] e X.env = pure none := by rfl)
    (h1 : (assignEach [tg] X.env).map (·.2) = [assign tg X.env] := by rfl) : SX X (.Assign [tg] e pos) (tAsg t g) (dAsg φ γ) := ⟨ps_asg he.pe hg.pg hs hw h1, SS.asg he.s hg.s⟩
/-- xs[i] = e -/
def dSetI (φ φo φi : DE) : DS := fun E env M => φ env M fun r M1 => φo env M1 fun ro M2 => φi env M2 fun ri M3 => ∃ p ds i j, ro = .d (.cell p) ∧ ri = .d (.int i) ∧ M3 p = some (.lst ds) ∧ ixN ds.length i = some j ∧ E.nx env (M3.set p (.lst (ds.set j (settle r))))
theorem SS.setI {t to ti : TE} {φ φo φi : DE} (h : SE K t φ) (ho : SE K to φo) (hi : SE K ti φi) : SS K (tAsg t (gSub to ti rSetL)) (dSetI φ φo φi) := fun E env M σ B H D hs hc q l => by
  refine h env M _ σ B H _ hs hc q fun r M1 v B0 H1 q1 n0 r0 => ?_
  obtain ⟨B1, n1, g1, _⟩ := settle_ok r0 n0
  refine ho env M1 _ σ B1 H1 _ (hs.mono n1.ext) n1.st q1 fun ro M2 vo B2 H2 q2 n2 r2 => ?_
  have n12 := n1.trans n2
  refine hi env M2 _ σ B2 H2 _ (hs.mono n12.ext) n12.st q2 fun ri M3 vi B3 H3 q3 n3 r3 => ?_
  obtain ⟨p, ds, i, j, rfl, rfl, hm, hj, q4⟩ := q3
  cases r2
  cases r3
  have n := n12.trans n3
  obtain ⟨_, xs, e1, e2⟩ := n.st.cell _ _ hm
  refine ⟨p, xs, i, j, rfl, rfl, e1, by rw [e2.length]; exact hj, ?_⟩
  have n4 := n.st.write (o := .lst (xs.set j v)) hm (m' := .lst (ds.set j (settle r))) ⟨_, upd_same, e2.set (g1.mono (n2.trans n3).ext) j⟩
  exact l.nx _ _ _ _ _ q4 (n.trans n4) (hs.mono (n.trans n4).ext)
theorem sx_setI {o i e : Expr} {t to ti : TE} {φ φo φi : DE} {pos tpos : Pos} (he : EX X e t φ) (ho : EX X o to φo) (hi : EX X i ti φi) (ha : ∀ v, assign (.Subscript o i tpos) X.env v = (do
      let ov ← holding [v] (eval o X.env)
      let iv ← holding [v, ov] (eval i X.env)
      standAt tpos
      holding [v, ov, iv] (setItem ov iv v)
      release [v, ov, iv] []) := by intro _; rfl) (hs : swapsWithSole [.Subscript o i tpos] e pos.line X.env = pure false := by rfl)
    (hw : swappedStores [.Subscript o i tpos] e X.env = pure none := by rfl) (h1 : (assignEach [.Subscript o i tpos] X.env).map (·.2) = [assign (.Subscript o i tpos) X.env] := by rfl) : SX X (.Assign [.Subscript o i tpos] e pos) (tAsg t (gSub to ti rSetL)) (dSetI φ φo φi) :=
  ⟨ps_asg he.pe (pg_sub ho.pe hi.pe set_list ha) hs hw h1, SS.setI he.s ho.s hi.s⟩
/-- o.f = e -/
def dSetF (C0 : Addr) (f : Str) (φ φo : DE) : DS := fun E env M => φ env M fun r M1 => φo env M1 fun ro M2 => ∃ p fs, ro = .d (.cell p) ∧ M2 p = some (.obj C0 fs) ∧ fs.length < 1000 ∧ E.nx env (M2.set p (.obj C0 (putD f (settle r) fs)))
theorem sx_setF {C0 : Addr} {f : Str} {o e : Expr} {t to : TE} {φ φo : DE} {pos pos' : Pos} (c : Cls X.K C0) (n : NoAttr X.K C0 f) (he : EX X e t φ) (ho : EX X o to φo) (hs : swapsWith e (some (.Attribute o f pos')) pos.line X.env = pure false := by rfl) :
    SX X (.Assign [.Attribute o f pos'] e pos) (sFld X.K to t f) (dSetF C0 f φ φo) := ⟨ps_fld ho.pe he.pe hs, fun E env M σ B H D hs hc q l => by
  refine he.s env M _ σ B H _ hs hc q fun r M1 v B0 H1 q1 n0 r0 => ?_
  obtain ⟨B1, n1, g1, _⟩ := settle_ok r0 n0
  refine ho.s env M1 _ σ B1 H1 _ (hs.mono n1.ext) n1.st q1 fun ro M2 vo B2 H2 q2 n2 r2 => ?_
  obtain ⟨p, fs, rfl, hm, hl, q3⟩ := q2
  cases r2
  have n12 := n1.trans n2
  obtain ⟨_, dx, vs, e1, e2⟩ := n12.st.cell _ _ hm
  refine ⟨p, C0, dx, vs, rfl, e1, c, n, by rw [e2.length]; exact hl, ?_⟩
  have n4 := n12.st.write (o := .ins C0 dx (putF f v vs)) hm (m' := .obj C0 (putD f (settle r) fs)) ⟨_, _, upd_same, e2.put (g1.mono n2.ext)⟩
  exact l.nx _ _ _ _ _ q3 (n12.trans n4) (hs.mono (n12.trans n4).ext)⟩
/-- e -/
def dDrop (φ : DE) : DS := fun E env M => φ env M fun _ M1 => E.nx env M1
theorem sx_expr {e : Expr} {t : TE} {φ : DE} {pos : Pos} (he : EX X e t φ) (hs : swapsWith e none pos.line X.env = pure false := by rfl) : SX X (.Expr e pos) (tDrop t) (dDrop φ) := ⟨ps_expr he.pe hs, fun E env M σ B H D hs hc q l => by
  refine he.s env M _ σ B H _ hs hc q fun r M1 v B1 H1 q1 n1 r1 => ?_
  exact l.nx _ _ _ _ _ q1 n1 (hs.mono n1.ext)⟩
/-- return e -/
def dRet (φ : DE) : DS := fun E env M => φ env M E.rt
theorem sx_ret {e : Expr} {t : TE} {φ : DE} {pos : Pos} (he : EX X e t φ) : SX X (.Return (some e) pos) (tRet t) (dRet φ) := ⟨ps_ret he.pe, fun E env M σ B H D hs hc q l => he.s env M _ σ B H _ hs hc q fun r M1 v B1 H1 q1 n1 r1 => l.rt _ _ _ _ _ q1 n1 r1⟩
def dRetN : DS := fun E env M => E.rt (.d .non) M
theorem sx_retN {pos : Pos} : SX X (.Return none pos) tRetN dRetN := ⟨ps_retN, fun E env M σ B H D hs hc q l => l.rt _ _ _ _ _ q (Nx.refl hc) .non⟩
/-- if -/
def dIfS (τ : DT) (φ ψ : DS) : DS := fun E env M => τ env M fun b M1 => if b = true then φ E env M1 else ψ E env M1
theorem sx_if {c : Expr} {a b : List Stmt} {tc : TT} {t u : TS} {τ : DT} {φ ψ : DS} {pos : Pos} (hc : TX X c tc τ) (ha : BX X a t φ) (hb : BX X b u ψ) : SX X (.If c a b pos) (tIfS tc t u) (dIfS τ φ ψ) := ⟨ps_if hc.pt ha.ps hb.ps, fun E env M σ B H D hs hc' q l => by
  refine hc.s env M _ σ B H _ hs hc' q fun k M1 B1 H1 q1 n1 => ?_
  cases k with
  | true =>
    rw [if_pos rfl] at q1 ⊢
    exact ha.s E env M1 σ B1 H1 D (hs.mono n1.ext) n1.st q1 (l.trans n1)
  | false =>
    rw [if_neg Bool.false_ne_true] at q1 ⊢
    exact hb.s E env M1 σ B1 H1 D (hs.mono n1.ext) n1.st q1 (l.trans n1)⟩
/-- for -/
def dFor (ω : DW) (γ : DG) (φ : DS) : DS := fun E env M => ω env M fun ys stay M1 => ∃ Inv : Nat → Env → Mem → Prop, Inv 0 env M1 ∧ (∀ i env' M', i ≤ ys.length → Inv i env' M' → stay M') ∧
  (∀ i y env' M', ys[i]? = some y → Inv i env' M' → γ y env' fun env'' => φ ⟨Inv (i + 1), E.rt, E.nx, Inv (i + 1)⟩ env'' M') ∧ ∀ env' M', Inv ys.length env' M' → E.nx env' M'
theorem SS.for_ {wi : TI} {g : TG} {t : TS} {ω : DW} {γ : DG} {φ : DS} (hw : SW K wi ω) (hg : SG K g γ) (hb : SS K t φ) : SS K (tFor wi g t) (dFor ω γ φ) := fun E env M σ B H D hs hc q l => by
  refine hw env M _ σ B H _ hs hc q fun ys stay M1 B1 H1 J q1 n1 w => ?_
  obtain ⟨Inv, i0, ist, istep, iend⟩ := q1
  refine ⟨fun i m σ' H' => m = ys.length - i ∧ i ≤ ys.length ∧ ∃ env' M' B', Inv i env' M' ∧ Nx K B1 M1 H1 B' M' H' ∧ SR K B' σ' env', ⟨ys.length, by omega, Nat.zero_le _, env, M1, B1, i0, Nx.refl n1.st, hs.mono n1.ext⟩, ?_⟩
  rintro i m σ' H' ⟨rfl, hi, env', M', B', iv, n2, s2⟩
  have st := ist i env' M' hi iv
  by_cases hlt : i < ys.length
  · refine Or.inr ⟨w.go i B' M' H' n2.ext n2.st st hlt, fun σ3 H3 => ∃ env3 M3 B3, Inv (i + 1) env3 M3 ∧ Nx K B1 M1 H1 B3 M3 H3 ∧ SR K B3 σ3 env3, fun σ3 H3 hN => ⟨ys.length - (i + 1), by omega, rfl, hlt, hN⟩, fun x H3 y => ?_⟩
    obtain ⟨B3, d, n3, hd, rd⟩ := w.yld i x B' M' H' H3 n2.ext n2.st st hlt y
    refine hg x d σ' env' B3 M' H3 _ _ n3.st (s2.mono n3.ext) rd (istep i d env' M' hd iv) fun env4 σ4 q4 s4 => ?_
    have n23 := n2.trans n3
    refine hb _ env4 M' σ4 B3 H3 _ s4 n3.st q4 ⟨fun env5 M5 σ5 B5 H5 q5 n5 s5 => ⟨env5, M5, B5, q5, n23.trans n5, s5⟩, fun env5 M5 σ5 B5 H5 q5 n5 s5 => ?_, fun env5 M5 σ5 B5 H5 q5 n5 s5 => ⟨env5, M5, B5, q5, n23.trans n5, s5⟩, fun r M5 v B5 H5 q5 n5 r5 => ?_⟩
    · exact l.nx _ _ _ _ _ q5 ((n1.trans n23).trans n5) s5
    · exact l.rt _ _ _ _ _ q5 ((n1.trans n23).trans n5) (r5.back (n1.trans n23))
  · have e : i = ys.length := by omega
    subst e
    exact Or.inl ⟨w.stop _ B' M' H' n2.ext n2.st st rfl, l.nx _ _ _ _ _ (iend env' M' iv) (n1.trans n2) s2⟩
theorem sx_for {tg iter : Expr} {body : List Stmt} {wi : TI} {g : TG} {t : TS} {ω : DW} {γ : DG} {φ : DS} {pos : Pos} (hp : PassesOwn (model X.prog X.w) X.A X.env X.xe) (hc : X.calm = true) (hi : IX X tg iter wi ω) (hg : GX X tg g γ) (hb : BX X body t φ)
    (hs : ∀ x, foldedSetIterable iter X.env x = pure x := by intro _; rfl) : SX X (.For tg iter body [] pos) (tFor wi g t) (dFor ω γ φ) := ⟨ps_for hp hc hi.pi hg.pg hb.ps hs, SS.for_ hi.s hg.s hb.s⟩
/-- while -/
def dWhile (τ : DT) (φ : DS) : DS := fun E env M => ∃ Inv : Nat → Env → Mem → Prop, (∃ m, Inv m env M) ∧ ∀ m env' M', Inv m env' M' → τ env' M' fun b M1 => if b = true then φ ⟨fun e2 M2 => ∃ m', m' < m ∧ Inv m' e2 M2, E.rt, E.nx, fun e2 M2 => ∃ m', m' < m ∧ Inv m' e2 M2⟩ env' M1 else E.nx env' M1
theorem SS.while_ {tc : TT} {t : TS} {τ : DT} {φ : DS} (hc0 : ST K tc τ) (hb : SS K t φ) : SS K (tWhile tc t) (dWhile τ φ) := fun E env M σ B H D hs hc q l => by
  obtain ⟨Inv, ⟨m0, i0⟩, step⟩ := q
  refine ⟨fun m σ' H' => ∃ env' M' B', Inv m env' M' ∧ Nx K B M H B' M' H' ∧ SR K B' σ' env', ⟨m0, env, M, B, i0, Nx.refl hc, hs⟩, ?_⟩
  rintro m σ' H' ⟨env', M', B', iv, n1, s1⟩
  refine hc0 env' M' _ σ' B' H' _ s1 n1.st (step m env' M' iv) fun b M2 B2 H2 q2 n2 => ?_
  have n12 := n1.trans n2
  cases b with
  | true =>
    rw [if_pos rfl] at q2 ⊢
    refine ⟨fun σ3 H3 => ∃ m', m' < m ∧ ∃ env3 M3 B3, Inv m' env3 M3 ∧ Nx K B M H B3 M3 H3 ∧ SR K B3 σ3 env3, fun _ _ z => z, ?_⟩
    refine hb _ env' M2 σ' B2 H2 _ (s1.mono n2.ext) n2.st q2 ⟨fun env5 M5 σ5 B5 H5 q5 n5 s5 => ?_, fun env5 M5 σ5 B5 H5 q5 n5 s5 => ?_, fun env5 M5 σ5 B5 H5 q5 n5 s5 => ?_, fun r M5 v B5 H5 q5 n5 r5 => ?_⟩
    · obtain ⟨m', hm, iv'⟩ := q5
      exact ⟨m', hm, env5, M5, B5, iv', n12.trans n5, s5⟩
    · exact l.nx _ _ _ _ _ q5 (n12.trans n5) s5
    · obtain ⟨m', hm, iv'⟩ := q5
      exact ⟨m', hm, env5, M5, B5, iv', n12.trans n5, s5⟩
    · exact l.rt _ _ _ _ _ q5 (n12.trans n5) (r5.back n12)
  | false =>
    rw [if_neg Bool.false_ne_true] at q2 ⊢
    exact l.nx _ _ _ _ _ q2 n12 (s1.mono n2.ext)
theorem sx_while {c : Expr} {body : List Stmt} {tc : TT} {t : TS} {τ : DT} {φ : DS} {pos : Pos} (hp : PassesOwn (model X.prog X.w) X.A X.env X.xe) (hc : TX X c tc τ) (hb : BX X body t φ) : SX X (.While c body [] pos) (tWhile tc t) (dWhile τ φ) := ⟨ps_while hp hc.pt hb.ps, SS.while_ hc.s hb.s⟩
/-! ### comprehensions -/
structure TsX (X : Cx) (ifs : List Expr) (t : TT) (τ : DT) : Prop where
  pt : PTs X ifs t
  s : ST X.K t τ
def dYes : DT := fun _ M Q => Q true M
theorem ts_nil : TsX X [] tYes dYes := ⟨pts_nil, fun env M Q σ B H QV hs hc q k => k _ _ _ _ q (Nx.refl hc)⟩
theorem ts_one {c : Expr} {t : TT} {τ : DT} (h : TX X c t τ) : TsX X [c] t τ := ⟨pts_one h.pt, h.s⟩
/-- [e for x in xs if c] -/
def dLc (ω : DW) (j : Nat) (τ : DT) (φ : DE) : DE := fun env M Q => ω env M fun ys stay M1 => ∃ Inv : Nat → List Dat → Mem → Prop, Inv 0 [] M1 ∧ (∀ i acc M', i ≤ ys.length → Inv i acc M' → stay M') ∧
  (∀ i y acc M', ys[i]? = some y → Inv i acc M' → τ (env.set j (some y)) M' fun b M2 => if b = true then φ (env.set j (some y)) M2 fun r M3 => acc.length < sizeLine ∧ Inv (i + 1) (acc ++ [settle r]) M3 else Inv (i + 1) acc M2) ∧
  ∀ acc M', Inv ys.length acc M' → Q (.new (.lst acc)) M'
/-- an object that nobody knows is written -/
theorem Nx.poke {B B' : Hp} {M M' : Mem} {H H' : Hp} {D : Addr} {o : HO} (n : Nx K B M H B' M' H') (h0 : H D = none) (hb : B' D = none) (hm : M' D = none) : Nx K B M H B' M' (upd H' D o) where
  ext := n.ext
  st := ⟨fun a u e => by
    rw [upd_ne (fun z => by subst z; rw [hb] at e; cases e)]
    exact n.st.ex a u e, fun p m e => by
    have np : p ≠ D := fun z => by
      subst z
      rw [hm] at e
      cases e
    exact ⟨(n.st.cell p m e).1, (n.st.cell p m e).2.mono (Ex.refl _) fun o q => (upd_ne np).trans q⟩⟩
  keep := fun a u e1 e2 => (upd_ne (ne_of_none e2 h0)).trans (n.keep a u e1 e2)
  new := n.new
  dom := n.dom
  there := fun a u e => by
    obtain ⟨u', h'⟩ := n.there a u e
    exact ⟨u', (upd_ne (ne_of_none e h0)).trans h'⟩
theorem SE.lc {wi : TI} {j : Nat} {tt : TT} {te : TE} {ω : DW} {τ : DT} {φ : DE} (hw : SW K wi ω) (ht : ST K tt τ) (he : SE K te φ) : SE K (tLc wi (gName j) tt te [j]) (dLc ω j τ φ) := by
  intro env M Q σ B H QV hs hc q k
  refine hw env M _ σ B H _ hs hc q fun ys stay M1 B1 H1 J q1 n1 w => ?_
  obtain ⟨Inv, i0, ist, istep, iend⟩ := q1
  intro D hD
  have hBD : B1 D = none := by
    cases z : B1 D with
    | none => rfl
    | some o =>
      rw [n1.st.ex D o z] at hD
      cases hD
  have hMD : M1 D = none := by
    cases z : M1 D with
    | none => rfl
    | some m =>
      obtain ⟨o, ho⟩ := n1.st.there z
      rw [ho] at hD
      cases hD
  refine ⟨fun i m H' => m = ys.length - i ∧ i ≤ ys.length ∧ ∃ acc M' B' xs, Inv i acc M' ∧ Nx K B1 M1 H1 B' M' H' ∧ B' D = none ∧ M' D = none ∧ H' D = some (.lst xs) ∧ RpA K B' xs acc, ⟨ys.length, by omega, Nat.zero_le _, [], M1, B1, [], i0, (Nx.refl n1.st).poke hD hBD hMD, hBD, hMD, upd_same, .nil⟩, ?_⟩
  rintro i m H' ⟨rfl, hi, acc, M', B', xs, iv, n2, hb2, hm2, hx, ra⟩
  have st := ist i acc M' hi iv
  by_cases hlt : i < ys.length
  · refine Or.inr ⟨w.go i B' M' H' n2.ext n2.st st hlt, fun H3 => ∃ acc M' B' xs, Inv (i + 1) acc M' ∧ Nx K B1 M1 H1 B' M' H3 ∧ B' D = none ∧ M' D = none ∧ H3 D = some (.lst xs) ∧ RpA K B' xs acc, fun H3 hN => ⟨ys.length - (i + 1), by omega, rfl, hlt, hN⟩, fun x H3 y => ?_⟩
    obtain ⟨B3, d, n3, hd, rd⟩ := w.yld i x B' M' H' H3 n2.ext n2.st st hlt y
    show wipe ((wipe σ [j]).set j (some x)) [j] = wipe σ [j] ∧ _
    have ew : (wipe σ [j]).set j (some x) = σ.set j (some x) := by
      show (σ.set j none).set j (some x) = _
      rw [List.set_set]
    refine ⟨by rw [ew]; show (σ.set j (some x)).set j none = σ.set j none; rw [List.set_set], ?_⟩
    rw [ew]
    have n23 := n2.trans n3
    have s3 : SR K B3 (σ.set j (some x)) (env.set j (some d)) := ((hs.mono n1.ext).mono n23.ext).set rd j
    have hx3 := n3.keep D _ hm2 hx
    have hb3 : B3 D = none := (n3.new D _ hx hm2).trans hb2
    refine ht _ M' _ _ B3 H3 _ s3 n3.st (istep i d acc M' hd iv) fun b M4 B4 H4 q4 n4 => ?_
    have n234 := n23.trans n4
    have hx4 := n4.keep D _ hm2 hx3
    have hb4 : B4 D = none := (n4.new D _ hx3 hm2).trans hb3
    have hm4 : M4 D = none := n4.dom D _ hx3 hm2
    cases b with
    | true =>
      rw [if_pos rfl] at q4 ⊢
      refine he _ M4 _ _ B4 H4 _ (s3.mono n4.ext) n4.st q4 fun r M5 v B5 H5 q5 n5 r5 => ?_
      obtain ⟨hl, iv'⟩ := q5
      obtain ⟨B6, n6, g6, _⟩ := settle_ok r5 n5
      have hx6 := n6.keep D _ hm4 hx4
      have hb6 : B6 D = none := (n6.new D _ hx4 hm4).trans hb4
      have hm6 : M5 D = none := n6.dom D _ hx4 hm4
      have n26 := n234.trans n6
      have ra6 : RpA K B6 (xs ++ [v]) (acc ++ [settle r]) := (ra.mono ((n3.trans n4).trans n6).ext).append (.cons g6 .nil)
      exact ⟨xs, hx6, by rw [ra.length]; exact hl, acc ++ [settle r], M5, B6, xs ++ [v], iv', n26.poke hD hb6 hm6, hb6, hm6, upd_same, ra6⟩
    | false =>
      rw [if_neg Bool.false_ne_true] at q4 ⊢
      exact ⟨acc, M4, B4, xs, q4, n234, hb4, hm4, hx4, ra.mono (n3.trans n4).ext⟩
  · have e : i = ys.length := by omega
    subst e
    refine Or.inl ⟨w.stop _ B' M' H' n2.ext n2.st st rfl, ?_⟩
    exact k _ _ _ _ _ (iend acc M' iv) (n1.trans n2) ⟨D, rfl, n1.back hD, hb2, hm2, xs, hx, ra⟩
section
variable {j : Nat} {x : Str} {px pos : Pos} {elt iter : Expr} {ifs : List Expr} {scope : Scope} {wi : TI} {tt : TT} {te : TE} {ω : DW} {τ : DT} {φ : DE}
theorem ex_lc (hc : X.calm = true) (hN : X.N.Nodup) (hi : IX X (.Name x px) iter wi ω) (ok : BlkOk X.N X.env.scope scope [(x, j)])
    (hg : ∀ (s : Shared) (H : Hp) (C : Addr) (cl : List (Str × Addr)) (fp : List Addr), PG (X.blk s H scope (compEnvC scope cl C X.env) fp) (.Name x px) (gName j)) (ht : ∀ (s : Shared) (H : Hp) (C : Addr) (cl : List (Str × Addr)) (fp : List Addr), TsX (X.blk s H scope (compEnvC scope cl C X.env) fp) ifs tt τ)
    (he : ∀ (s : Shared) (H : Hp) (C : Addr) (cl : List (Str × Addr)) (fp : List Addr), EX (X.blk s H scope (compEnvC scope cl C X.env) fp) elt te φ) (hs : ∀ x, foldedSetIterable iter X.env x = pure x := by intro _; rfl) :
    EX X (.ListComp elt [⟨.Name x px, iter, ifs, 0⟩] scope pos) (tLc wi (gName j) tt te [j]) (dLc ω j τ φ) :=
  ⟨pe_lc (own := [(x, j)]) hc hN hi.pi ok hg (fun s H C cl fp => (ht s H C cl fp).pt) (fun s H C cl fp => (he s H C cl fp).pe) hs, SE.lc hi.s (ht X.s_0 X.H_0 0 [] []).s (he X.s_0 X.H_0 0 [] []).s⟩
/-- y = [..] on one line -/
theorem sx_setLc {i : Nat} {y : Str} {py spos : Pos} (cell : Bool) (hc : X.calm = true) (hN : X.N.Nodup) (hi : IX X (.Name x px) iter wi ω) (ok : BlkOk X.N X.env.scope scope [(x, j)])
    (hg : ∀ (s : Shared) (H : Hp) (C : Addr) (cl : List (Str × Addr)) (fp : List Addr), PG (X.blk s H scope (compEnvC scope cl C X.env) fp) (.Name x px) (gName j)) (ht : ∀ (s : Shared) (H : Hp) (C : Addr) (cl : List (Str × Addr)) (fp : List Addr), TsX (X.blk s H scope (compEnvC scope cl C X.env) fp) ifs tt τ)
    (he : ∀ (s : Shared) (H : Hp) (C : Addr) (cl : List (Str × Addr)) (fp : List Addr), EX (X.blk s H scope (compEnvC scope cl C X.env) fp) elt te φ) (hsw : swapsWith (.ListComp elt [⟨.Name x px, iter, ifs, 0⟩] scope pos) (some (.Name y py)) spos.line X.env = pure true)
    (hy : X.N[i]? = some y := by rfl) (hyl : X.env.scope.names.lookup y = some .local := by rfl) (hs : ∀ x, foldedSetIterable iter X.env x = pure x := by intro _; rfl) :
    SX X (.Assign [.Name y py] (.ListComp elt [⟨.Name x px, iter, ifs, 0⟩] scope pos) spos) (tAsg (tLc wi (gName j) tt te [j]) (gName i)) (if cell = true then dSetC (dLc ω j τ φ) i else dSet (dLc ω j τ φ) i) := by
  have hS := SE.lc hi.s (ht X.s_0 X.H_0 0 [] []).s (he X.s_0 X.H_0 0 [] []).s (j := j)
  refine ⟨ps_setLc (own := [(x, j)]) hc hN hy hyl hsw hi.pi ok hg (fun s H C cl fp => (ht s H C cl fp).pt) (fun s H C cl fp => (he s H C cl fp).pe) hs, ?_⟩
  cases cell with
  | true =>
    rw [if_pos rfl]
    exact SS.setC hS
  | false =>
    rw [if_neg Bool.false_ne_true]
    exact SS.set hS
end
end
end Dl
set_option Elab.async false
set_option linter.all false
set_option maxRecDepth 100000
set_option maxHeartbeats 4000000
namespace Dl
open PySem PySem.Spec PyProof.Rows L2
/-! ### a def's body keeps its promise -/
def startD (N : List Str) (ds : List Dat) : Env := ds.map some ++ List.replicate (N.length - ds.length) none
theorem start_sr {K : PySem.W.Frag} {B : Hp} {N : List Str} {vs : List V} {ds : List Dat} (r : RpA K B vs ds) : SR K B (L2.start N vs) (startD N ds) := by
  unfold L2.start startD
  refine ⟨by rw [List.length_append, List.length_append, List.length_map, List.length_map, List.length_replicate, List.length_replicate, r.length], fun i x h => ?_⟩
  have hl := r.length
  by_cases hi : i < ds.length
  · rw [List.getElem?_append_left (by rw [List.length_map]; exact hi), List.getElem?_map] at h
    rw [List.getElem?_append_left (by rw [List.length_map]; omega), List.getElem?_map]
    cases e : ds[i]? with
    | none =>
      rw [e] at h
      cases h
    | some d =>
      rw [e] at h
      cases h
      obtain ⟨v, h1, h2⟩ := r.get e
      exact ⟨v, by rw [h1] <;> rfl, h2⟩
  · rw [List.getElem?_append_right (by rw [List.length_map]; omega), List.getElem?_replicate] at h
    split at h <;> cases h
/-- the end of a body: what its own cells hold is new to the caller -/
def leave (M : Mem) (Q : Rv → Mem → Prop) (r : Rv) (M' : Mem) : Prop := match r with
  | .d (.cell p) => (M p = none ∧ ∃ m, M' p = some m ∧ Q (.new m) (M.restr M')) ∨ ((∃ m, M p = some m) ∧ Q (.d (.cell p)) (M.restr M'))
  | r => Q r (M.restr M')
def enD (M : Mem) (Q : Rv → Mem → Prop) : En := ⟨fun _ M' => Q (.d .non) (M.restr M'), leave M Q, fun _ _ => False, fun _ _ => False⟩
section
variable {K : PySem.W.Frag} {B B' : Hp} {M M' : Mem} {H H' : Hp}
theorem Nx.restr (n : Nx K B M H B' M' H') : Nx K B M H B' (M.restr M') H' := by
  have sub : ∀ p m, M.restr M' p = some m → M' p = some m := fun p m e => by
    unfold Mem.restr at e
    split at e
    · cases e
    · exact e
  refine ⟨n.ext, ⟨n.st.ex, fun p m e => n.st.cell p m (sub p m e)⟩, n.keep, n.new, fun a o e hm => ?_, n.there⟩
  unfold Mem.restr
  rw [hm]
theorem RR.restr {H0 : Hp} {v : V} {r : Rv} (h : RR K B' M' H0 H' v r) : RR K B' (M.restr M') H0 H' v r := by
  cases r with
  | d x => exact h
  | new m =>
    obtain ⟨p, h1, h2, h3, h4, h5⟩ := h
    refine ⟨p, h1, h2, h3, ?_, h5⟩
    unfold Mem.restr
    split
    · rfl
    · exact h4
theorem leave_ok {Q : Rv → Mem → Prop} {QV : VK} (hc : Cs K B M H) (k : ∀ r M' v B' H', Q r M' → Nx K B M H B' M' H' → RR K B' M' H H' v r → QV v H') : Lk K B M H (enD M Q) { nx := fun _ H' => QV .non H', rt := QV } := by
  refine ⟨fun env' M' σ' B' H' q n s => k _ _ _ _ _ q n.restr .non, fun _ _ _ _ _ q => q.elim, fun _ _ _ _ _ q => q.elim, fun r M' v B' H' q n rr => ?_⟩
  show QV v H'
  have q' : leave M Q r M' := q
  unfold leave at q'
  split at q'
  · rename_i p
    rcases q' with ⟨h1, m, h2, q2⟩ | ⟨_, q2⟩
    · cases rr
      obtain ⟨g1, g2⟩ := n.st.cell p m h2
      have hp : H p = none := by
        cases z : H p with
        | none => rfl
        | some o =>
          have := n.dom p o z h1
          rw [h2] at this
          cases this
      refine k _ _ _ _ _ q2 n.restr ⟨p, rfl, hp, g1, ?_, g2⟩
      unfold Mem.restr
      rw [h1]
    · exact k _ _ _ _ _ q2 n.restr rr
  · exact k _ _ _ _ _ q' n.restr rr.restr
end
section
variable {P : Program} {w : World} {K : PySem.W.Frag} {mg : Str → Option Value} {base : Heap}
/-- a def that raises nothing, by its body's reading over data -/
theorem fn_D {x qual : Str} {st : Stmt} {f : Addr} {fd : FuncData} {N ps : List Str} {k : Nat} {fs : FS} (F : Fun K x qual st f fd) (S : FnScope N ps (defScope st)) (len : ∀ ds M Q, fs ds M Q → ds.length = ps.length)
    (φ : DS) (body : ∀ (cdv : Value) (A : Around) (outer : List PySem.Env) (s : Shared) (H : Hp) (E : XK), Room k (A.deeper (envOfC qual (defScope st) s.heap.objs.size f cdv)) → ∃ t, BX (cxOf CX0 P w K mg base N qual (defScope st) f cdv A outer s H E).nox (defBody st) t φ)
    (rd : ∀ ds M Q, fs ds M Q → φ (enD M Q) (startD N ds) M) : FnOk P w K mg base CX0 (k + 1) f fd ps (spD K fs) := by
  refine F.ok S (fun vs H Q E h => ?_) (fun cdv A outer s H vs Q E hr h => ?_)
  · obtain ⟨ds, M, B, QD, ra, _, hf, _⟩ := h
    rw [ra.length]
    exact len ds M QD hf
  · obtain ⟨ds, M, B, QD, ra, hc, hf, kk⟩ := h
    obtain ⟨t, hb⟩ := body cdv A outer s H E hr
    exact ⟨t, hb.ps, hb.s (enD M QD) (startD N ds) M (L2.start N vs) B H _ (start_sr ra) hc (rd ds M QD hf) (leave_ok hc kk)⟩
/-- .. where nothing is being shown -/
theorem fn_G {x qual : Str} {st : Stmt} {f : Addr} {fd : FuncData} {N ps : List Str} {k : Nat} {fs : FS} (F : Fun K x qual st f fd) (S : FnScope N ps (defScope st)) (len : ∀ ds M Q, fs ds M Q → ds.length = ps.length)
    (φ : DS) (body : ∀ (cdv : Value) (A : Around) (outer : List PySem.Env) (s : Shared) (H : Hp) (E : XK), Room k (A.deeper (envOfC qual (defScope st) s.heap.objs.size f cdv)) → (A.deeper (envOfC qual (defScope st) s.heap.objs.size f cdv)).guards = some [] →
      ∃ t, BX (cxOf CX0 P w K mg base N qual (defScope st) f cdv A outer s H E).nox (defBody st) t φ)
    (rd : ∀ ds M Q, fs ds M Q → φ (enD M Q) (startD N ds) M) : FnG P w K mg base (k + 1) f fd ps fs := by
  obtain ⟨oc, od, kV, doc, pm, an, cdv, ct, osl, rfl, lk, hcd⟩ := F.ex
  refine ⟨len, fun A outer s H args us vs Q E room hgu e0 hbind vals hsp => ?_⟩
  obtain ⟨ds, M, B, QD, ra, hc, hf, kk⟩ := hsp
  have hn : vs.length = ps.length := by
    rw [ra.length]
    exact len ds M QD hf
  have kin : K.In s.heap := e0.mod.kin.keeps fun b o e => (e0.bs b o e).1
  have nolim : s.heap.NoLimit := e0.mod.nolimit.keeps fun b o e => (e0.bs b o e).1
  have kinds : ∀ y ∈ ps.zip us, (defScope st).names.lookup y.1 = some .local ∨ ((defScope st).names.lookup y.1 = some .cell ∧ ((cellsFrom (s.heap.objs.size + 1) (defScope st).names []).lookup y.1).isSome = true) := by
    rintro ⟨nm, u⟩ hy
    rcases S.par nm (List.of_mem_zip hy).1 with q | q
    · exact .inl q
    · exact .inr ⟨q, PySem.W.cellsFrom_some _ _ _ (.inl q)⟩
  refine codeAny_call_function room.depth (kin _ _ lk) rfl S.co S.gen rfl (PySem.W.codeRec_of kin hcd) (hbind _ _ _ _ (wpAny_newFunctionEnv_cells S.kind kinds fun env he s1 ic => ?_))
  subst he
  refine ⟨nolim.keeps ic.toInCall.keep, codeAny_func ?_⟩
  obtain ⟨t, hb⟩ := body cdv A outer s H E (room.deeper _) hgu
  have I : Inv (cxOf CX0 P w K mg base N qual (defScope st) f cdv A outer s H E) [] (L2.start N vs) H s1 := inv_start S room.hd e0 hn vals ic
  have q := hb.s (enD M QD) (startD N ds) M (L2.start N vs) B H _ (start_sr ra) hc (rd ds M QD hf) (leave_ok hc kk)
  refine wpAny_mono (hb.ps.nox.run [] s1 (L2.start N vs) H _ I q) (fun fl s' z => ?_) fun _ _ z => z
  have done : ∀ {σ' : L2.St} {H' : Hp} {v : V} {u : Value}, Inv (cxOf CX0 P w K mg base N qual (defScope st) f cdv A outer s H E) [] σ' H' s' → RelV v u → Q v H' → CE outer P w H s Q u s' := fun J rv z => ⟨_, _, J.os, J.bare, J.base, J.hok, rv, z⟩
  match fl, z with
  | .ret u, ⟨v, σ', H', J, rv, z⟩ => exact done J rv z
  | .next, ⟨σ', H', J, z⟩ => exact done (v := V.non) (u := Value.none) J rfl z
  | .brk, ⟨_, _, _, z⟩ => exact False.elim z
  | .cont, ⟨_, _, _, z⟩ => exact False.elim z
end
end Dl
set_option Elab.async false
set_option linter.all false
set_option maxRecDepth 100000
set_option maxHeartbeats 4000000
namespace Dl
open PySem PySem.Spec PyProof.Rows L2
theorem RpA.of_ints {K : PySem.W.Frag} {B : Hp} : ∀ ns : List Int, RpA K B (ns.map V.int) (ns.map Dat.int)
  | [] => .nil
  | n :: ns => .cons (.int n) (RpA.of_ints ns)
/-- what a law promises: handed at most 63 ints, True -/
def fsLaw : FS := fun ds M Q => ∃ ns : List Int, ds = [.fz (ns.map Dat.int)] ∧ ns.length ≤ 63 ∧ ∀ M', Q (.d (.bl true)) M'
/-- the call of the law, at the heap behind the top -/
theorem law_run {P : Program} {w : World} {K : PySem.W.Frag} {mg mb : Str → Option Value} {k : Nat} {fa a : Addr} {fd : FuncData} {x : Str} {s₁ : Shared} {vs : List Value} {ns : List Int} (hK : K.In s₁.heap) (hmain : s₁.heap.Ns mainGlobals mg) (hblt : s₁.heap.Ns builtinsNs mb)
    (hbb : ∀ x : Str, x ≠ "__name__" → mb x = bootBuiltins x) (hlim : s₁.heap.NoLimit) (hgens : s₁.gens = #[]) (ha : s₁.heap.get? a = some { cls := .type "list", data := .seq vs.toArray }) (hi : IntsAre vs ns) (h63 : ns.length ≤ 63) (room : Room k callerA)
    (F : ∀ base : Heap, K.In base → base.Ns mainGlobals mg → FnG P w K mg base k fa fd [x] fsLaw) (hbind : ∀ (s : Shared) (u : Value), BindsTo s fd ⟨[u], []⟩ [(x, u)]) :
    codeAny (model P w) callerA (.call (.ref fa) ⟨[.ref a], []⟩) (fun r s' => r = .ok (.ret (.bool true)) ∧ OldK s₁.heap s'.heap ∧ s'.os = s₁.os ∧ AllBare s'.gens) s₁ := by
  have rv : Vals (ns.map V.int) vs := vals_ints hi
  have hline : ns.length ≤ sizeLine := Nat.le_trans h63 (by decide)
  -- at any abstract heap that tracks nothing but, perhaps, the script as a locked list
  have go : ∀ H : Hp, (∀ b u, H b = some u → b = a ∧ ∃ o xs, u = .frz o (.lst xs)) → (∀ u, H a = some u → K.lookup a = none) → HOk P w H s₁.heap → SqL K H a (ns.map V.int) →
      codeAny (model P w) callerA (.call (.ref fa) ⟨[.ref a], []⟩) (fun r s' => r = .ok (.ret (.bool true)) ∧ OldK s₁.heap s'.heap ∧ s'.os = s₁.os ∧ AllBare s'.gens) s₁ := by
    intro H only written ok seq
    have free : ∀ {b : Addr} {o : Obj} {es : Array DictEntry} {ep : Nat}, s₁.heap.get? b = some o → o.data = .dict es ep → H b = none := by
      intro b o es ep e d
      match q : H b with
      | none => rfl
      | some u =>
        obtain ⟨rfl, _⟩ := only b u q
        have e' := Option.some.inj (ha.symm.trans e)
        rw [← e'] at d
        cases d
    have keepNs : ∀ {b : Addr} {m : Str → Option Value}, s₁.heap.Ns b m → (hidT s₁.heap H).Ns b m := by
      rintro b m ⟨o, es, ep, e, d, rest⟩
      exact ⟨o, es, ep, hidT_get e (free e d), d, rest⟩
    have inB : K.In (hidT s₁.heap H) := by
      intro b o e
      refine hidT_get (hK b o e) ?_
      match q : H b with
      | none => rfl
      | some u =>
        obtain ⟨rfl, _⟩ := only b u q
        rw [written u q] at e
        cases e
    obtain ⟨mc, l1, l2⟩ := hlim
    have md : Mod K mg (hidT s₁.heap H) := ⟨inB, keepNs hmain, ⟨mb, keepNs hblt, hbb⟩, ⟨mc, keepNs l1, l2⟩⟩
    have env : Env0 P w K mg (hidT s₁.heap H) callerA [] s₁ H := by
      refine ⟨rfl, md, fun b o e => of_hidT e, Nat.le_of_eq (hidT_size _ _), trivial, fun b hb => ?_, ok, .of_eq hgens⟩
      exact absurd (show b ∈ ([] : List Addr) from hb) List.not_mem_nil
    have promise : spD K fsLaw [.ref a] H (fun v _ => v = .bl true) fun _ _ _ => False := by
      refine ⟨[.fz (ns.map Dat.int)], fun _ => none, H, fun r _ => r = .d (.bl true), .cons (.fz seq (RpA.of_ints ns)) .nil, ⟨Ex.refl H, fun p m e => by cases e⟩, ⟨ns, rfl, h63, fun _ => rfl⟩, fun r M' v B' H' q n rr => ?_⟩
      subst q
      cases rr
      rfl
    refine codeAny_mono ((F _ inB (keepNs hmain)).run callerA [] s₁ H ⟨[.ref a], []⟩ [.ref a] [.ref a] _ _ room rfl env (hbind s₁ (.ref a)) (.cons rfl .nil) promise) fun r s' h => ?_
    match r, h with
    | .error e, h => exact False.elim h
    | .ok .next, h => exact False.elim h
    | .ok .brk, h => exact False.elim h
    | .ok .cont, h => exact False.elim h
    | .ok (.ret u), h =>
      obtain ⟨v, H', os, bare, un, ok', rel, q⟩ := h
      subst q
      have eu : u = Value.bool true := rel
      subst eu
      refine ⟨rfl, OldK.of_keep fun b o e => ?_, os, bare⟩
      match q : H b with
      | none => exact un.keep b o e q (fun z => absurd (show b ∈ ([] : List Addr) from z) List.not_mem_nil) List.not_mem_nil
      | some u =>
        obtain ⟨_, ob, xs, rfl⟩ := only b u q
        have e1 := (ok b _ q).1
        have e2 := (ok' b _ (un.frzs b ob _ q)).1
        rw [e] at e1
        cases e1
        exact e2
  match q : K.lookup a with
  | some o =>
    have eo := Option.some.inj ((hK a o q).symm.trans ha)
    refine go (fun _ => none) (fun b u z => by cases z) (fun u z => by cases z) (fun b u z => by cases z) ?_
    refine .inr ⟨o, vs.toArray, 0, q, by rw [eo], by rw [eo], by rw [eo], by rw [List.size_toArray, hi.length]; exact hline, by simpa using rv⟩
  | none =>
    let ob : Obj := { cls := .type "list", data := .seq vs.toArray }
    let u0 : HO := .frz ob (.lst (ns.map V.int))
    have at_ : (fun b => if b = a then some u0 else none : Hp) a = some u0 := if_pos rfl
    refine go (fun b => if b = a then some u0 else none) (fun b u z => ?_) (fun _ _ => q) (fun b u z => ?_) (.inl (.inr ⟨ob, at_⟩))
    · by_cases e : b = a
      · refine ⟨e, ob, ns.map V.int, ?_⟩
        have z' := (if_pos e).symm.trans z
        exact (Option.some.inj z').symm
      · have z' := (if_neg e).symm.trans z
        cases z'
    · by_cases e : b = a
      · have z' := (if_pos e).symm.trans z
        cases z'
        subst e
        exact ⟨ha, by rw [List.length_map]; exact hline, vs, 0, rv, ha⟩
      · have z' := (if_neg e).symm.trans z
        cases z'
/-- a law's end over a head by facts -/
theorem walk_D {l : PySem.W.OpenLaw} {k : Nat} {q : Program} {loose : List Str} {XP : (Str → Option Value) → Heap → Prop} {YP : World → Heap → Prop} {d : DefRec} {x : Str} (hn : l.most = some 63) (hdf : d.params.defaults = []) (room : Room k callerA)
    (F : ∀ (w : World) (mg : Str → Option Value) (fa : Addr) (h : Heap), YP w h → h.Ns mainGlobals mg → mg d.name = some (.ref fa) →
      ∃ (K : PySem.W.Frag) (fd : FuncData), K.In h ∧ (∀ (s : Shared) (u : Value), BindsTo s fd ⟨[u], []⟩ [(x, u)]) ∧ ∀ base : Heap, K.In base → base.Ns mainGlobals mg → FnG l.prog w K mg base k fa fd [x] fsLaw) :
    PySem.W.WalkO q loose XP YP l.row.toRowW d [] (fun f vs => PySem.call f vs) := by
  refine Att.attach_call hn hdf fun w s₀ s₁ mg mb fa o pm cd doc a vs ns G Y _ _ _ hmg hobj hints hlen hg => ?_
  obtain ⟨K, fd, hK, hb, hF⟩ := F w mg fa _ Y G.T.g hmg
  exact law_run hK G.T.g G.T.b G.T.builtins G.T.nolimit hg hobj hints hlen room hF hb
end Dl
set_option Elab.async false
set_option linter.all false
set_option maxRecDepth 100000
set_option maxHeartbeats 4000000
namespace Dl
open PySem PySem.Spec PyProof.Rows L2 StX
theorem fun_of {K : PySem.W.Frag} {x qual : Str} {st : Stmt} {f : Addr} {fd : FuncData} (F : FunD K x qual (defArgs st) (defBody st) (defScope st) [] [] f fd) : Fun K x qual st f fd := by
  obtain ⟨oc, od, dV, kV, doc, pm, an, cdv, ct, osl, e, lk, hcd, hD, _⟩ := F.ex
  rcases hD with ⟨_, e2⟩ | ⟨e2, _⟩
  · subst e2
    exact ⟨⟨oc, od, kV, doc, pm, an, cdv, ct, osl, e, lk, hcd⟩, F.kp⟩
  · exact absurd rfl e2
section
variable {X : Cx} {K : PySem.W.Frag}
/-! ### operators of one's own -/
/-- the class has the operator's method as a def -/
structure OpOf (K : PySem.W.Frag) (C : Addr) (m : Str) (f : Addr) : Prop where
  sf : PySem.W.selfFirst K C = true
  at_ : PySem.W.findIn K (.ref C) m = some (some (.ref f))
  fn : PySem.W.isFn K (.ref f) = true
def rOwn (C0 : Addr) (sp : Sp) : R2 := fun x y H Q => ∃ a b dx dy vs ws, x = .ref a ∧ y = .ref b ∧ H a = some (.ins C0 dx vs) ∧ H b = some (.ins C0 dy ws) ∧ sp [.ref a, .ref b] H Q E0
theorem op_own {op : Operator} {k : Nat} {f C0 : Addr} {fd : FuncData} {ps : List Str} {sp : Sp} (h : OpOf X.K C0 (PySem.dunder op.info.2) f) (F : FnOk X.prog X.w X.K X.mg X.base CX0 k f fd ps sp) (hr : Room k X.A) (hb : Binds X.K fd ps []) : OpR X (binaryOp op) (rOwn C0 sp) := by
  intro pins s σ H x y v u Q I rx ry hq
  obtain ⟨a, b, dx, dy, vs, ws, rfl, rfl, ha, hb', q⟩ := hq
  cases rx
  cases ry
  obtain ⟨m, fr⟩ := I.fr
  obtain ⟨_, O1, _⟩ := ins_get I.hok ha
  obtain ⟨_, O2, _⟩ := ins_get I.hok hb'
  obtain ⟨od1, I1, _⟩ := O1.look
  obtain ⟨od2, I2, _⟩ := O2.look
  refine PySem.W.binop_K fr I.ok.mod.kin I1 I2.type h.sf h.at_ h.fn ?_
  refine thn (run_fn (Q := Q) (dvs := []) (vs := [.ref a, .ref b]) F hr hb .nil pass0 I (.cons rfl (.cons rfl .nil)) q) fun r s' hr' => ?_
  obtain ⟨w, H', I', rw_, qw⟩ := hr'
  have z : EP X pins σ Q r s' := ⟨w, H', I', rw_, qw⟩
  cases r with
  | notImplemented =>
    cases w with
    | int i => obtain ⟨_, e⟩ := rw_; cases e
    | str i => obtain ⟨_, e⟩ := rw_; cases e
    | byt i => obtain ⟨_, e⟩ := rw_; cases e
    | flt i => obtain ⟨_, e⟩ := rw_; cases e
    | _ => cases rw_
  | _ => exact z
def oOwn (C0 : Addr) (fs : FS) : D2 := fun ra rb M Q => ∃ d e gs hs, ra = .d d ∧ rb = .d e ∧ insR C0 M d gs ∧ insR C0 M e hs ∧ fs [d, e] M Q
theorem s2_own {C0 : Addr} {fs : FS} : S2 K (rOwn C0 (spD K fs)) (oOwn C0 fs) := by
  intro B M H0 H x y rx ry Q QV hc h1 h2 q k
  obtain ⟨d, e, gs, hs, rfl, rfl, g1, g2, q⟩ := q
  obtain ⟨a, dx, vs, rfl, i1, _⟩ := g1.at hc h1
  obtain ⟨b, dy, ws, rfl, i2, _⟩ := g2.at hc h2
  exact ⟨a, b, dx, dy, vs, ws, rfl, rfl, i1, i2, [d, e], M, B, Q, .cons h1 (.cons h2 .nil), hc, q, k⟩
theorem ex_own {op : Operator} {k : Nat} {f C0 : Addr} {fd : FuncData} {ps : List Str} {fs : FS} {a b : Expr} {ta tb : TE} {φa φb : DE} {pos : Pos} (h : OpOf X.K C0 (PySem.dunder op.info.2) f) (F : FnOk X.prog X.w X.K X.mg X.base CX0 k f fd ps (spD X.K fs)) (hr : Room k X.A) (hb : Binds X.K fd ps [])
    (ha : EX X a ta φa) (hb' : EX X b tb φb) : EX X (.BinOp a op b pos) (tOp (rOwn C0 (spD X.K fs)) ta tb) (dOp (oOwn C0 fs) φa φb) := ex_op (op_own h F hr hb) s2_own ha hb'
/-! ### def m(self, *v) -/
def spStar (K : PySem.W.Frag) (n : Nat) (fs : FS) : Sp := fun vs H Q E => ∃ ws rest, vs = ws ++ rest ∧ ws.length = n ∧ rest.length ≤ sizeLine ∧ ∀ p, H p = Option.none → spD K fs (ws ++ [V.ref p]) (upd H p (.tup rest)) Q E
/-- the promise of a method with *v alone behind self, as its callers see it -/
def fsStar (fs : FS) : FS := fun ds M Q => match ds with
  | d :: r => r.length ≤ sizeLine ∧ fs [d, .tup r] M Q
  | [] => False
theorem sp_star {B : Hp} {M : Mem} {H : Hp} {vs : List V} {ds : List Dat} {fs : FS} {Q : Rv → Mem → Prop} {QV : VK} {E : XK} (hc : Cs K B M H) (ra : RpA K B vs ds) (h : fsStar fs ds M Q) (k : ∀ r M' v B' H', Q r M' → Nx K B M H B' M' H' → RR K B' M' H H' v r → QV v H') : spStar K 1 fs vs H QV E := by
  cases ra with
  | nil => exact h.elim
  | cons r1 r2 =>
    rename_i v vs d ds
    obtain ⟨hz, h⟩ := h
    refine ⟨[v], vs, rfl, rfl, by rw [r2.length]; exact hz, fun p hp => ?_⟩
    obtain ⟨n, g⟩ := RR.newT hc hp r2
    exact ⟨[d, .tup ds], M, _, Q, .cons (r1.mono n.ext) (.cons g .nil), n.st, h, fun r M' v' B' H' q n' rr => k r M' v' B' H' q (n.trans n') (rr.back n)⟩
theorem ex_methS {k : Nat} {f C0 : Addr} {m : Str} {apos pos : Pos} {o e : Expr} {es : List Expr} {to : TE} {t : TA} {φ : DE} {ψ : DA} {fs : FS} {pl : Sem Bool} (ho : EX X o to φ) (c : Cls X.K C0) (hm : Meth X.K C0 m f) (F : FnR X.prog X.w X.K X.mg X.base CX0 k f (spStar X.K 1 fs)) (hr : Room k X.A) (ha : AX X (e :: es) t ψ)
    (hst : starEach (e :: es) X.env = (false, eval e X.env) :: starEach es X.env := by rfl) (hpl : (backTo pos (starEach es X.env)).any (·.1) = false := by rfl)
    (ht : eval (.Call (.Attribute o m apos) (e :: es) [] pos) X.env = (do
      let ov ← eval o X.env
      standAt apos.atName
      let (f, first) ← holding [ov] (getMethod ov m pl)
      callWith pos f first (backTo pos (starEach (e :: es) X.env)) (backToKw pos (keywordEach [] X.env))) := by rfl) :
    EX X (.Call (.Attribute o m apos) (e :: es) [] pos) (tMethR C0 m (spStar X.K 1 fs) E0 to t) (dMeth C0 m (fsStar fs) φ ψ) := by
  refine ⟨pe_methR ho.pe c hm F hr pass0 ha.pa hst hpl ht, fun env M Q σ B H QV hs hc q k => ?_⟩
  refine ho.s env M _ σ B H _ hs hc q fun r M1 v B1 H1 q1 n1 r1 => ?_
  obtain ⟨d, gs, rfl, gi, gl, q2⟩ := q1
  obtain ⟨a, dx, vs, rfl, h1, h2⟩ := gi.at n1.st r1
  refine ⟨a, dx, vs, rfl, h1, h2.none gl, ?_⟩
  refine ha.s env M1 _ σ B1 H1 _ (hs.mono n1.ext) n1.st q2 fun ds M2 ws B2 H2 q3 n2 r2 => ?_
  have n12 := n1.trans n2
  exact sp_star n2.st (.cons (Rp.mono n2.ext r1) r2) q3 fun r M' v B' H' q4 n3 r3 => k r M' v B' H' q4 (n12.trans n3) (r3.back n12)
end
/-- a def m(self, *v) that raises nothing -/
theorem fn_star_D {P : Program} {w : World} {K : PySem.W.Frag} {mg : Str → Option Value} {base : Heap} {x qual : Str} {st : Stmt} {f : Addr} {fd : FuncData} {N : List Str} {k : Nat} {fs : FS} {self pv : Str} (F : Fun K x qual st f fd) (S : FnScope N [self, pv] (defScope st))
    (φ : DS) (body : ∀ (cdv : Value) (A : Around) (outer : List PySem.Env) (s : Shared) (H : Hp) (E : XK), Room k (A.deeper (envOfC qual (defScope st) s.heap.objs.size f cdv)) → ∃ t, BX (cxOf CX0 P w K mg base N qual (defScope st) f cdv A outer s H E).nox (defBody st) t φ)
    (rd : ∀ ds M Q, fs ds M Q → φ (enD M Q) (startD N ds) M)
    (hb : ∀ (kV doc pm : Value) (an : Option Addr) (cdv ct : Value) (us rest : List Value), us.length = 1 → bindArgs (PySem.W.fnOf x qual (defArgs st) (defBody st) (defScope st) .none kV doc pm an cdv ct) ⟨us ++ rest, []⟩ = (newTuple rest >>= fun t => pure ([self].zip us ++ [(pv, t)]))) :
    FnR P w K mg base CX0 (k + 1) f (spStar K 1 fs) := by
  obtain ⟨oc, od, kV, doc, pm, an, cdv, ct, osl, rfl, lk, hcd⟩ := F.ex
  refine fn_star (ps := [self]) (pv := pv) lk hcd S cxUp_none (hb kV doc pm an cdv ct) fun A outer s H vs Q E hr hsp => ?_
  obtain ⟨ds, M, B, QD, ra, hc, hf, kk⟩ := hsp
  obtain ⟨t, h⟩ := body cdv A outer s H E hr
  exact ⟨t, h.ps.nox, h.s (enD M QD) (startD N ds) M (L2.start N vs) B H _ (start_sr ra) hc (rd ds M QD hf) (leave_ok hc kk)⟩
end Dl
set_option Elab.async false
set_option linter.all false
set_option maxRecDepth 100000
set_option maxHeartbeats 4000000
namespace Dl
open PySem PySem.Spec PyProof.Rows L2 StX ClX
/-! ### what is known of the other defs -/
section
variable (P : Program) (w : World) (K : PySem.W.Frag) (mg : Str → Option Value) (base : Heap)
def KnO (x : Str) (k : Nat) (fs : FS) : Prop := ∃ f fd ps, FnOk P w K mg base CX0 k f fd ps (spD K fs) ∧ mg x = some (.ref f) ∧ PySem.W.keepIn K (.ref f) = true ∧ Binds K fd ps []
def KnG (x : Str) (k : Nat) (fs : FS) : Prop := ∃ f fd ps, FnG P w K mg base k f fd ps fs ∧ mg x = some (.ref f) ∧ PySem.W.keepIn K (.ref f) = true ∧ Binds K fd ps []
def KnM (C : Addr) (m : Str) (k : Nat) (fs : FS) : Prop := ∃ f fd ps, FnOk P w K mg base CX0 k f fd ps (spD K fs) ∧ Meth K C m f ∧ Binds K fd ps []
def KnP (C : Addr) (m : Str) (k : Nat) (fs : FS) : Prop := ∃ q f fd ps, FnOk P w K mg base CX0 k f fd ps (spD K fs) ∧ PropOf K C m q f ∧ Binds K fd ps []
def KnI (x : Str) (C : Addr) (k : Nat) (fs : FS) : Prop := ∃ f fd ps, FnOk P w K mg base CX0 k f fd ps (spD K fs) ∧ Mk K C f ∧ mg x = some (.ref C) ∧ Binds K fd ps []
def KnS (C : Addr) (m : Str) (k : Nat) (fs : FS) : Prop := ∃ f, FnR P w K mg base CX0 k f (spStar K 1 fs) ∧ Meth K C m f
def KnB (C : Addr) (m : Str) (k : Nat) (fs : FS) : Prop := ∃ f fd ps, FnOk P w K mg base CX0 k f fd ps (spD K fs) ∧ OpOf K C m f ∧ Binds K fd ps []
end
section
variable {X : Cx} {k : Nat} {x m : Str} {fs : FS} {p pos apos : Pos} {e o : Expr} {es : List Expr} {t : TA} {to : TE} {ψ : DA} {φ : DE} {C : Addr}
theorem ex_callO (h : KnO X.prog X.w X.K X.mg X.base x k fs) (hr : Room k X.A) (ha : AX X (e :: es) t ψ) (hg : Gl X x := by rfl)
    (hdb : (x == ("__debug__" : Str)) = false := by decide) (he : starEach (e :: es) X.env = (false, eval e X.env) :: starEach es X.env := by rfl) (hpl : (backTo pos (starEach es X.env)).any (·.1) = false := by rfl) :
    EX X (.Call (.Name x p) (e :: es) [] pos) (tCall (spD X.K fs) [] E0 t) (dCB fs ψ) := by
  obtain ⟨f, fd, ps, F, hm, hk, hb⟩ := h
  exact ex_call F hr hm hk hb ha hg hdb he hpl
theorem ex_callg (h : KnG X.prog X.w X.K X.mg X.base x k fs) (hgu : X.A.guards = some []) (hr : Room k X.A) (ha : AX X (e :: es) t ψ) (hg : Gl X x := by rfl)
    (hdb : (x == ("__debug__" : Str)) = false := by decide) (he : starEach (e :: es) X.env = (false, eval e X.env) :: starEach es X.env := by rfl) (hpl : (backTo pos (starEach es X.env)).any (·.1) = false := by rfl) :
    EX X (.Call (.Name x p) (e :: es) [] pos) (tCall (spD X.K fs) [] E0 t) (dCB fs ψ) := by
  obtain ⟨f, fd, ps, F, hm, hk, hb⟩ := h
  exact ex_callG F hgu hr hm hk hb ha hg hdb he hpl
theorem ex_methK {pl : Sem Bool} (c : Cls X.K C) (h : KnM X.prog X.w X.K X.mg X.base C m k fs) (hr : Room k X.A) (ho : EX X o to φ) (ha : AX X (e :: es) t ψ)
    (hst : starEach (e :: es) X.env = (false, eval e X.env) :: starEach es X.env := by rfl) (hpl : (backTo pos (starEach es X.env)).any (·.1) = false := by rfl)
    (ht : eval (.Call (.Attribute o m apos) (e :: es) [] pos) X.env = (do
      let ov ← eval o X.env
      standAt apos.atName
      let (f, first) ← holding [ov] (getMethod ov m pl)
      callWith pos f first (backTo pos (starEach (e :: es) X.env)) (backToKw pos (keywordEach [] X.env))) := by rfl) :
    EX X (.Call (.Attribute o m apos) (e :: es) [] pos) (tMeth C m (spD X.K fs) [] E0 to t) (dMeth C m fs φ ψ) := by
  obtain ⟨f, fd, ps, F, hm, hb⟩ := h
  exact ex_meth ho c hm F hr hb ha hst hpl ht
theorem ex_methK0 {pl : Sem Bool} (c : Cls X.K C) (h : KnM X.prog X.w X.K X.mg X.base C m k fs) (hr : Room k X.A) (ho : EX X o to φ)
    (ht : eval (.Call (.Attribute o m apos) [] [] pos) X.env = (do
      let ov ← eval o X.env
      standAt apos.atName
      let (f, first) ← holding [ov] (getMethod ov m pl)
      callWith pos f first (backTo pos (starEach [] X.env)) (backToKw pos (keywordEach [] X.env))) := by rfl) :
    EX X (.Call (.Attribute o m apos) [] [] pos) (tMeth C m (spD X.K fs) [] E0 to tNil) (dMeth C m fs φ dNil) := by
  obtain ⟨f, fd, ps, F, hm, hb⟩ := h
  exact ex_meth0 ho c hm F hr hb ht
theorem ex_methKS {pl : Sem Bool} (c : Cls X.K C) (h : KnS X.prog X.w X.K X.mg X.base C m k fs) (hr : Room k X.A) (ho : EX X o to φ) (ha : AX X (e :: es) t ψ)
    (hst : starEach (e :: es) X.env = (false, eval e X.env) :: starEach es X.env := by rfl) (hpl : (backTo pos (starEach es X.env)).any (·.1) = false := by rfl)
    (ht : eval (.Call (.Attribute o m apos) (e :: es) [] pos) X.env = (do
      let ov ← eval o X.env
      standAt apos.atName
      let (f, first) ← holding [ov] (getMethod ov m pl)
      callWith pos f first (backTo pos (starEach (e :: es) X.env)) (backToKw pos (keywordEach [] X.env))) := by rfl) :
    EX X (.Call (.Attribute o m apos) (e :: es) [] pos) (tMethR C m (spStar X.K 1 fs) E0 to t) (dMeth C m (fsStar fs) φ ψ) := by
  obtain ⟨f, F, hm⟩ := h
  exact ex_methS ho c hm F hr ha hst hpl ht
theorem ex_propK (c : Cls X.K C) (h : KnP X.prog X.w X.K X.mg X.base C m k fs) (hr : Room (k + 1) X.A) (ho : EX X e to φ) (hab : attributeBase e m X.env (eval e X.env) = eval e X.env := by rfl) :
    EX X (.Attribute e m pos) (tProp C (spD X.K fs) [] E0 to) (dProp C fs φ) := by
  obtain ⟨q, f, fd, ps, F, hp, hb⟩ := h
  exact ex_prop ho c hp F hr hb hab
theorem ex_makeK (h : KnI X.prog X.w X.K X.mg X.base x C k fs) (hr : Room (k + 1) X.A) (ha : AX X (e :: es) t ψ) (hg : Gl X x := by rfl)
    (hdb : (x == ("__debug__" : Str)) = false := by decide) (he : starEach (e :: es) X.env = (false, eval e X.env) :: starEach es X.env := by rfl) (hpl : (backTo pos (starEach es X.env)).any (·.1) = false := by rfl) :
    EX X (.Call (.Name x p) (e :: es) [] pos) (tMake C (spD X.K fs) [] E0 t) (dMake C fs ψ) := by
  obtain ⟨f, fd, ps, F, M, hm, hb⟩ := h
  exact ex_make M F hr hm hb ha hg hdb he hpl
theorem ex_ownK {op : Operator} {a b : Expr} {ta tb : TE} {φa φb : DE} (h : KnB X.prog X.w X.K X.mg X.base C (PySem.dunder op.info.2) k fs) (hr : Room k X.A) (ha : EX X a ta φa) (hb : EX X b tb φb) :
    EX X (.BinOp a op b pos) (tOp (rOwn C (spD X.K fs)) ta tb) (dOp (oOwn C fs) φa φb) := by
  obtain ⟨f, fd, ps, F, ho, hbb⟩ := h
  exact ex_own ho F hr hbb ha hb
end
end Dl
set_option Elab.async false
set_option linter.all false
set_option maxRecDepth 100000
set_option maxHeartbeats 4000000
namespace Dl
open PySem PySem.Spec PyProof.Rows L2 StX ClX
/-- a constant of a class, by the class's name -/
def KnV (K : PySem.W.Frag) (mg : Str → Option Value) (x f : Str) (d : Dat) : Prop := ∃ C mc v u, mg x = some (.ref C) ∧ CRead K C mc ∧ CVal K C mc f v u ∧ ∀ B, Rp K B v d
def tCvK (K : PySem.W.Frag) (mg : Str → Option Value) (x f : Str) (d : Dat) : TE := fun σ H Q => ∃ C, mg x = some (.ref C) ∧ tCVal K (tC (.ref C)) f σ H Q
/-- the widest reading that a data reading gives -/
def tOf (K : PySem.W.Frag) (φ : DE) : TE := fun σ H QV => ∃ env M Q B, SR K B σ env ∧ Cs K B M H ∧ φ env M Q ∧ ∀ r M' v B' H', Q r M' → Nx K B M H B' M' H' → RR K B' M' H H' v r → QV v H'
def tOfT (K : PySem.W.Frag) (φ : DT) : TT := fun σ H QV => ∃ env M Q B, SR K B σ env ∧ Cs K B M H ∧ φ env M Q ∧ ∀ b M' B' H', Q b M' → Nx K B M H B' M' H' → QV b H'
theorem EX.of {X : Cx} {e : Expr} {t : TE} {φ : DE} (h : EX X e t φ) : EX X e (tOf X.K φ) φ := ⟨⟨fun pins s σ H Q I ⟨env, M, Q', B, hs, hc, q, k⟩ => h.pe.run pins s σ H Q I (h.s env M Q' σ B H Q hs hc q k)⟩, fun env M Q σ B H QV hs hc q k => ⟨env, M, Q, B, hs, hc, q, k⟩⟩
theorem TsX.of {X : Cx} {e : List Expr} {t : TT} {φ : DT} (h : TsX X e t φ) : TsX X e (tOfT X.K φ) φ := ⟨⟨fun pins s σ H Q I ⟨env, M, Q', B, hs, hc, q, k⟩ => h.pt.run pins s σ H Q I (h.s env M Q' σ B H Q hs hc q k)⟩, fun env M Q σ B H QV hs hc q k => ⟨env, M, Q, B, hs, hc, q, k⟩⟩
section
variable {X : Cx} {j : Nat} {x : Str} {px pos : Pos} {elt iter : Expr} {ifs : List Expr} {scope : Scope} {wi : TI} {tt : TT} {te : TE} {ω : DW} {τ : DT} {φ : DE}
theorem ex_cvalK {x f : Str} {d : Dat} {p pos : Pos} (h : KnV X.K X.mg x f d) (hg : Gl X x := by rfl) (hd : (x == ("__debug__" : Str)) = false := by decide)
    (hb : attributeBase (.Name x p) f X.env (eval (.Name x p) X.env) = eval (.Name x p) X.env := by rfl) : EX X (.Attribute (.Name x p) f pos) (tCvK X.K X.mg x f d) (dC d) := by
  obtain ⟨C, mc, v, u, hm, r, c, rel⟩ := h
  have g := ex_cval (pos := pos) hm r c rel hg hd hb
  refine ⟨⟨fun pins s σ H Q I q => g.pe.run pins s σ H Q I ?_⟩, fun env M Q σ B H QV hs hc q k => ⟨C, hm, g.s env M Q σ B H QV hs hc q k⟩⟩
  obtain ⟨C', h1, q⟩ := q
  rw [hm] at h1
  cases h1
  exact q
theorem ex_lcx (hc : X.calm = true) (hN : X.N.Nodup) (hi : IX X (.Name x px) iter wi ω) (ok : BlkOk X.N X.env.scope scope [(x, j)])
    (hg : ∀ (s : Shared) (H : Hp) (C : Addr) (cl : List (Str × Addr)) (fp : List Addr), PG (X.blk s H scope (compEnvC scope cl C X.env) fp) (.Name x px) (gName j)) (ht : ∀ (s : Shared) (H : Hp) (C : Addr) (cl : List (Str × Addr)) (fp : List Addr), ∃ tt, TsX (X.blk s H scope (compEnvC scope cl C X.env) fp) ifs tt τ)
    (he : ∀ (s : Shared) (H : Hp) (C : Addr) (cl : List (Str × Addr)) (fp : List Addr), ∃ te, EX (X.blk s H scope (compEnvC scope cl C X.env) fp) elt te φ) (hs : ∀ x, foldedSetIterable iter X.env x = pure x := by intro _; rfl) :
    EX X (.ListComp elt [⟨.Name x px, iter, ifs, 0⟩] scope pos) (tLc wi (gName j) (tOfT X.K τ) (tOf X.K φ) [j]) (dLc ω j τ φ) := ex_lc hc hN hi ok hg (fun s H C cl fp => (ht s H C cl fp).elim fun _ h => h.of) (fun s H C cl fp => (he s H C cl fp).elim fun _ h => h.of) hs
theorem sx_setLcC {i : Nat} {y : Str} {py spos : Pos} (hc : X.calm = true) (hN : X.N.Nodup) (hi : IX X (.Name x px) iter wi ω) (ok : BlkOk X.N X.env.scope scope [(x, j)])
    (hg : ∀ (s : Shared) (H : Hp) (C : Addr) (cl : List (Str × Addr)) (fp : List Addr), PG (X.blk s H scope (compEnvC scope cl C X.env) fp) (.Name x px) (gName j)) (ht : ∀ (s : Shared) (H : Hp) (C : Addr) (cl : List (Str × Addr)) (fp : List Addr), ∃ tt, TsX (X.blk s H scope (compEnvC scope cl C X.env) fp) ifs tt τ)
    (he : ∀ (s : Shared) (H : Hp) (C : Addr) (cl : List (Str × Addr)) (fp : List Addr), ∃ te, EX (X.blk s H scope (compEnvC scope cl C X.env) fp) elt te φ) (hsw : swapsWith (.ListComp elt [⟨.Name x px, iter, ifs, 0⟩] scope pos) (some (.Name y py)) spos.line X.env = pure true)
    (hy : X.N[i]? = some y := by rfl) (hyl : X.env.scope.names.lookup y = some .local := by rfl) (hs : ∀ x, foldedSetIterable iter X.env x = pure x := by intro _; rfl) :
    SX X (.Assign [.Name y py] (.ListComp elt [⟨.Name x px, iter, ifs, 0⟩] scope pos) spos) (tAsg (tLc wi (gName j) (tOfT X.K τ) (tOf X.K φ) [j]) (gName i)) (dSetC (dLc ω j τ φ) i) := sx_setLc true hc hN hi ok hg (fun s H C cl fp => (ht s H C cl fp).elim fun _ h => h.of) (fun s H C cl fp => (he s H C cl fp).elim fun _ h => h.of) hsw hy hyl hs
theorem sx_setLcD {i : Nat} {y : Str} {py spos : Pos} (hc : X.calm = true) (hN : X.N.Nodup) (hi : IX X (.Name x px) iter wi ω) (ok : BlkOk X.N X.env.scope scope [(x, j)])
    (hg : ∀ (s : Shared) (H : Hp) (C : Addr) (cl : List (Str × Addr)) (fp : List Addr), PG (X.blk s H scope (compEnvC scope cl C X.env) fp) (.Name x px) (gName j)) (ht : ∀ (s : Shared) (H : Hp) (C : Addr) (cl : List (Str × Addr)) (fp : List Addr), ∃ tt, TsX (X.blk s H scope (compEnvC scope cl C X.env) fp) ifs tt τ)
    (he : ∀ (s : Shared) (H : Hp) (C : Addr) (cl : List (Str × Addr)) (fp : List Addr), ∃ te, EX (X.blk s H scope (compEnvC scope cl C X.env) fp) elt te φ) (hsw : swapsWith (.ListComp elt [⟨.Name x px, iter, ifs, 0⟩] scope pos) (some (.Name y py)) spos.line X.env = pure true)
    (hy : X.N[i]? = some y := by rfl) (hyl : X.env.scope.names.lookup y = some .local := by rfl) (hs : ∀ x, foldedSetIterable iter X.env x = pure x := by intro _; rfl) :
    SX X (.Assign [.Name y py] (.ListComp elt [⟨.Name x px, iter, ifs, 0⟩] scope pos) spos) (tAsg (tLc wi (gName j) (tOfT X.K τ) (tOf X.K φ) [j]) (gName i)) (dSet (dLc ω j τ φ) i) := sx_setLc false hc hN hi ok hg (fun s H C cl fp => (ht s H C cl fp).elim fun _ h => h.of) (fun s H C cl fp => (he s H C cl fp).elim fun _ h => h.of) hsw hy hyl hs
end
end Dl
set_option Elab.async false
set_option linter.all false
set_option maxRecDepth 100000
set_option maxHeartbeats 4000000
namespace Dl
open PySem PySem.Spec PyProof.Rows L2
/-! ### loops, by what remains -/
section
variable {α : Type} {enc : α → Dat} {γ : DG} {φ : DS} {τ : DT} {ε : DE} {E : En} {env : Env} {M1 : Mem} {stay : Mem → Prop} {Q : List Dat → Mem → Prop} {j : Nat}
theorem map_drop_get {xs : List α} {i : Nat} {y : Dat} (h : (xs.map enc)[i]? = some y) : ∃ x, xs.drop i = x :: xs.drop (i + 1) ∧ y = enc x ∧ x ∈ xs := by
  rw [List.getElem?_map] at h
  cases e : xs[i]? with
  | none =>
    rw [e] at h
    cases h
  | some x =>
    rw [e] at h
    have hi : i < xs.length := by
      by_cases z : i < xs.length
      · exact z
      · rw [List.getElem?_eq_none (by omega)] at e
        cases e
    have e2 : xs[i] = x := by
      rw [List.getElem?_eq_getElem hi] at e
      exact Option.some.inj e
    refine ⟨x, ?_, (Option.some.inj h).symm, e2 ▸ List.getElem_mem hi⟩
    rw [List.drop_eq_getElem_cons hi, e2]
theorem for_rest (xs : List α) (J : List α → Env → Mem → Prop) (h0 : J xs env M1) (hst : ∀ r e m, J r e m → stay m) (step : ∀ x r e m, J (x :: r) e m → γ (enc x) e fun e' => φ ⟨J r, E.rt, E.nx, J r⟩ e' m) (fin : ∀ e m, J [] e m → E.nx e m) :
    ∃ Inv : Nat → Env → Mem → Prop, Inv 0 env M1 ∧ (∀ i env' M', i ≤ (xs.map enc).length → Inv i env' M' → stay M') ∧
      (∀ i y env' M', (xs.map enc)[i]? = some y → Inv i env' M' → γ y env' fun env'' => φ ⟨Inv (i + 1), E.rt, E.nx, Inv (i + 1)⟩ env'' M') ∧ ∀ env' M', Inv (xs.map enc).length env' M' → E.nx env' M' := by
  refine ⟨fun i e m => J (xs.drop i) e m, h0, fun i e m _ h => hst _ _ _ h, fun i y e m hy h => ?_, fun e m h => fin e m ?_⟩
  · obtain ⟨x, e1, rfl, _⟩ := map_drop_get hy
    have h' : J (xs.drop i) e m := h
    rw [e1] at h'
    exact step x _ e m h'
  · have e1 : xs.drop (xs.map enc).length = [] := by rw [List.length_map, List.drop_length]
    have h' : J (xs.drop (xs.map enc).length) e m := h
    rw [e1] at h'
    exact h'
theorem for_rng {lo : Int} {n : Nat} (J : Nat → Env → Mem → Prop) (h0 : J 0 env M1) (step : ∀ i e m, i < n → J i e m → γ (.int (lo + i)) e fun e' => φ ⟨J (i + 1), E.rt, E.nx, J (i + 1)⟩ e' m) (fin : ∀ e m, J n e m → E.nx e m) :
    ∃ Inv : Nat → Env → Mem → Prop, Inv 0 env M1 ∧ (∀ i env' M', i ≤ (rngD lo n).length → Inv i env' M' → (fun _ => True) M') ∧
      (∀ i y env' M', (rngD lo n)[i]? = some y → Inv i env' M' → γ y env' fun env'' => φ ⟨Inv (i + 1), E.rt, E.nx, Inv (i + 1)⟩ env'' M') ∧ ∀ env' M', Inv (rngD lo n).length env' M' → E.nx env' M' := by
  refine ⟨J, h0, fun _ _ _ _ _ => trivial, fun i y e m hy h => ?_, fun e m h => fin e m ?_⟩
  · obtain ⟨hi, rfl⟩ := rngD_get.mp hy
    exact step i e m hi h
  · rw [rngD_len] at h
    exact h
theorem lc_rest (xs : List α) (J : List α → List Dat → Mem → Prop) (h0 : J xs [] M1) (hst : ∀ r a m, J r a m → stay m)
    (step : ∀ x r acc m, J (x :: r) acc m → τ (env.set j (some (enc x))) m fun b M2 => if b = true then ε (env.set j (some (enc x))) M2 fun r3 M3 => acc.length < sizeLine ∧ J r (acc ++ [settle r3]) M3 else J r acc M2)
    (fin : ∀ acc m, J [] acc m → Q acc m) :
    ∃ Inv : Nat → List Dat → Mem → Prop, Inv 0 [] M1 ∧ (∀ i acc M', i ≤ (xs.map enc).length → Inv i acc M' → stay M') ∧
      (∀ i y acc M', (xs.map enc)[i]? = some y → Inv i acc M' → τ (env.set j (some y)) M' fun b M2 => if b = true then ε (env.set j (some y)) M2 fun r M3 => acc.length < sizeLine ∧ Inv (i + 1) (acc ++ [settle r]) M3 else Inv (i + 1) acc M2) ∧
      ∀ acc M', Inv (xs.map enc).length acc M' → Q acc M' := by
  refine ⟨fun i a m => J (xs.drop i) a m, h0, fun i a m _ h => hst _ _ _ h, fun i y a m hy h => ?_, fun a m h => fin a m ?_⟩
  · obtain ⟨x, e1, rfl, _⟩ := map_drop_get hy
    have h' : J (xs.drop i) a m := h
    rw [e1] at h'
    exact step x _ a m h'
  · have e1 : xs.drop (xs.map enc).length = [] := by rw [List.length_map, List.drop_length]
    have h' : J (xs.drop (xs.map enc).length) a m := h
    rw [e1] at h'
    exact h'
theorem lc_rng {lo : Int} {n : Nat} (J : Nat → List Dat → Mem → Prop) (h0 : J 0 [] M1)
    (step : ∀ i acc m, i < n → J i acc m → τ (env.set j (some (.int (lo + i)))) m fun b M2 => if b = true then ε (env.set j (some (.int (lo + i)))) M2 fun r3 M3 => acc.length < sizeLine ∧ J (i + 1) (acc ++ [settle r3]) M3 else J (i + 1) acc M2)
    (fin : ∀ acc m, J n acc m → Q acc m) :
    ∃ Inv : Nat → List Dat → Mem → Prop, Inv 0 [] M1 ∧ (∀ i acc M', i ≤ (rngD lo n).length → Inv i acc M' → (fun _ => True) M') ∧
      (∀ i y acc M', (rngD lo n)[i]? = some y → Inv i acc M' → τ (env.set j (some y)) M' fun b M2 => if b = true then ε (env.set j (some y)) M2 fun r M3 => acc.length < sizeLine ∧ Inv (i + 1) (acc ++ [settle r]) M3 else Inv (i + 1) acc M2) ∧
      ∀ acc M', Inv (rngD lo n).length acc M' → Q acc M' := by
  refine ⟨J, h0, fun _ _ _ _ _ => trivial, fun i y a m hy h => ?_, fun a m h => fin a m ?_⟩
  · obtain ⟨hi, rfl⟩ := rngD_get.mp hy
    exact step i a m hi h
  · rw [rngD_len] at h
    exact h
/-- each element kept, nothing else changed -/
theorem lc_map (xs : List α) (g : α → Dat) (hl : xs.length ≤ sizeLine) (hst : stay M1) (he : ∀ x ∈ xs, ∀ P : Rv → Mem → Prop, (∀ r, settle r = g x → P r M1) → ε (env.set j (some (enc x))) M1 P) (fin : Q (xs.map g) M1) :
    ∃ Inv : Nat → List Dat → Mem → Prop, Inv 0 [] M1 ∧ (∀ i acc M', i ≤ (xs.map enc).length → Inv i acc M' → stay M') ∧
      (∀ i y acc M', (xs.map enc)[i]? = some y → Inv i acc M' → dYes (env.set j (some y)) M' fun b M2 => if b = true then ε (env.set j (some y)) M2 fun r M3 => acc.length < sizeLine ∧ Inv (i + 1) (acc ++ [settle r]) M3 else Inv (i + 1) acc M2) ∧
      ∀ acc M', Inv (xs.map enc).length acc M' → Q acc M' := by
  refine lc_rest xs (fun r a m => m = M1 ∧ a ++ r.map g = xs.map g ∧ ∀ x ∈ r, x ∈ xs) ⟨rfl, rfl, fun _ h => h⟩ (fun r a m h => by rw [h.1]; exact hst) (fun x r acc m h => ?_) fun acc m h => ?_
  · obtain ⟨rfl, h2, h3⟩ := h
    simp only [dYes, ↓reduceIte]
    refine he x (h3 x List.mem_cons_self) _ fun rr hr => ⟨?_, rfl, ?_, fun y hy => h3 y (List.mem_cons_of_mem _ hy)⟩
    · have e := congrArg List.length h2
      rw [List.length_append, List.length_map, List.length_map, List.length_cons] at e
      omega
    · rw [hr, List.append_assoc]
      exact h2
  · obtain ⟨rfl, h2, _⟩ := h
    rw [List.map_nil, List.append_nil] at h2
    rw [h2]
    exact fin
/-- those that pass the test -/
theorem lc_filter (xs : List α) (t : α → Bool) (g : α → Dat) (hl : xs.length ≤ sizeLine) (hst : stay M1) (ht : ∀ x ∈ xs, ∀ P : Bool → Mem → Prop, P (t x) M1 → τ (env.set j (some (enc x))) M1 P)
    (he : ∀ x ∈ xs, ∀ P : Rv → Mem → Prop, (∀ r, settle r = g x → P r M1) → ε (env.set j (some (enc x))) M1 P) (fin : Q ((xs.filter t).map g) M1) :
    ∃ Inv : Nat → List Dat → Mem → Prop, Inv 0 [] M1 ∧ (∀ i acc M', i ≤ (xs.map enc).length → Inv i acc M' → stay M') ∧
      (∀ i y acc M', (xs.map enc)[i]? = some y → Inv i acc M' → τ (env.set j (some y)) M' fun b M2 => if b = true then ε (env.set j (some y)) M2 fun r M3 => acc.length < sizeLine ∧ Inv (i + 1) (acc ++ [settle r]) M3 else Inv (i + 1) acc M2) ∧
      ∀ acc M', Inv (xs.map enc).length acc M' → Q acc M' := by
  refine lc_rest xs (fun r a m => m = M1 ∧ a ++ (r.filter t).map g = (xs.filter t).map g ∧ ∀ x ∈ r, x ∈ xs) ⟨rfl, rfl, fun _ h => h⟩ (fun r a m h => by rw [h.1]; exact hst) (fun x r acc m h => ?_) fun acc m h => ?_
  · obtain ⟨rfl, h2, h3⟩ := h
    refine ht x (h3 x List.mem_cons_self) _ ?_
    cases e : t x with
    | true =>
      rw [if_pos rfl]
      rw [List.filter_cons_of_pos e] at h2
      refine he x (h3 x List.mem_cons_self) _ fun rr hr => ⟨?_, rfl, ?_, fun y hy => h3 y (List.mem_cons_of_mem _ hy)⟩
      · have e := congrArg List.length h2
        rw [List.length_append, List.length_map, List.length_map, List.length_cons] at e
        have := List.length_filter_le t xs
        omega
      · rw [hr, List.append_assoc]
        exact h2
    | false =>
      rw [if_neg Bool.false_ne_true]
      rw [List.filter_cons_of_neg (by rw [e]; exact Bool.false_ne_true)] at h2
      exact ⟨rfl, h2, fun y hy => h3 y (List.mem_cons_of_mem _ hy)⟩
  · obtain ⟨rfl, h2, _⟩ := h
    rw [List.filter_nil, List.map_nil, List.append_nil] at h2
    rw [h2]
    exact fin
end
/-! ### reads at places -/
section
variable {α β : Type}
theorem atI_nat {xs : List α} {i : Nat} {y : α} (h : xs[i]? = some y) : atI xs (i : Int) = some y := by
  have hi : i < xs.length := by
    by_cases z : i < xs.length
    · exact z
    · rw [List.getElem?_eq_none (by omega)] at h
      cases h
  unfold atI ixN
  rw [if_pos (by omega), if_pos (by omega), Int.toNat_natCast]
  exact h
theorem atI_last {xs : List α} {y : α} : atI (xs ++ [y]) (-1) = some y := by
  unfold atI ixN
  rw [if_neg (by omega), if_pos (by rw [List.length_append, List.length_singleton]; omega)]
  have e : ((-1 : Int) + ((xs ++ [y]).length : Nat)).toNat = xs.length := by
    rw [List.length_append, List.length_singleton]
    omega
  rw [e]
  show (xs ++ [y])[xs.length]? = some y
  rw [List.getElem?_append_right (Nat.le_refl _), Nat.sub_self] <;> rfl
theorem cut_to {xs : List α} {k : Nat} : cut xs none (some (k : Int)) = xs.take k := by
  unfold cut
  rw [HT.sIx_none, HT.sIx_nat, List.drop_zero, Nat.sub_zero]
  by_cases h : k ≤ xs.length
  · rw [Nat.min_eq_left h]
  · rw [Nat.min_eq_right (by omega), List.take_length, List.take_of_length_le (by omega)]
theorem cut_from {xs : List α} {k : Nat} : cut xs (some (k : Int)) none = xs.drop k := by
  unfold cut
  rw [HT.sIx_none, HT.sIx_nat]
  by_cases h : k ≤ xs.length
  · rw [Nat.min_eq_left h, List.take_of_length_le (by rw [List.length_drop]; omega)]
  · rw [Nat.min_eq_right (by omega), List.drop_length, List.drop_of_length_le (by omega), List.take_nil]
theorem sIx_m1 (n d : Nat) : HT.sIx n d (some (-1)) = ((-1 : Int) + (n : Int)).toNat := rfl
theorem cut_butlast {xs : List α} {y : α} : cut (xs ++ [y]) none (some (-1)) = xs := by
  have e : HT.sIx (xs ++ [y]).length (xs ++ [y]).length (some (-1)) = xs.length := by
    rw [sIx_m1, List.length_append, List.length_singleton]
    omega
  unfold cut
  rw [e, HT.sIx_none, List.drop_zero, Nat.sub_zero, List.take_left' rfl]
theorem cut_last {xs : List α} {y : α} : cut (xs ++ [y]) (some (-1)) none = [y] := by
  have e : HT.sIx (xs ++ [y]).length 0 (some (-1)) = xs.length := by
    rw [sIx_m1, List.length_append, List.length_singleton]
    omega
  unfold cut
  rw [e, HT.sIx_none, List.length_append, List.length_singleton, List.drop_left' rfl, Nat.add_sub_cancel_left] <;> rfl
theorem cut_mid {xs ys : List α} {y : α} {k : Nat} (h : k = xs.length) : cut (xs ++ ys ++ [y]) (some (k : Int)) (some (-1)) = ys := by
  have e : HT.sIx (xs ++ ys ++ [y]).length (xs ++ ys ++ [y]).length (some (-1)) = xs.length + ys.length := by
    rw [sIx_m1, List.length_append, List.length_singleton, List.length_append]
    omega
  unfold cut
  rw [e, HT.sIx_nat, Nat.min_eq_left (by rw [h, List.length_append, List.length_append]; omega), h, List.append_assoc, List.drop_left' rfl, Nat.add_sub_cancel_left, List.take_left' rfl]
theorem cut_fromto {xs : List α} {i k : Nat} (h : i ≤ k) (h2 : k ≤ xs.length) : cut xs (some (i : Int)) (some (k : Int)) = (xs.drop i).take (k - i) := by
  unfold cut
  rw [HT.sIx_nat, HT.sIx_nat, Nat.min_eq_left h2, Nat.min_eq_left (show i ≤ xs.length by omega)]
end
end Dl
set_option Elab.async false
set_option linter.all false
set_option maxRecDepth 100000
set_option maxHeartbeats 4000000
namespace Dl
open PySem PySem.Spec PyProof.Rows L2 StX ClX He
/-! ### the head told by a hook of one's own: properties' getters, constants of a class, operators -/
def fnA (K : PySem.W.Frag) (a : Addr) : FnW := match K.lookup a with
  | some ⟨_, _, .func fd, _⟩ => some (fd.name, fd.qualname, fd.params, fd.body, fd.scope, fd.globals, fd.closure, fd.builtins)
  | _ => none
def okA (K : PySem.W.Frag) (a : Addr) (q : Str) : Bool := PySem.W.keepIn K (.ref a) && (match K.lookup a with
  | some ⟨_, _, .func fd, _⟩ => PySem.W.codeIn K fd.code q && (dflB K fd.defaults [] && kwdB K fd.kwdefaults [])
  | _ => false)
theorem funA {K : PySem.W.Frag} {a : Addr} {d : DefD} (e : fnA K a = d.val) (c : okA K a d.qual = true) : ∃ fd, FunD K d.name d.qual d.params d.body d.scope [] [] a fd := by
  obtain ⟨kp, c2⟩ := ba c
  unfold fnA at e
  cases q : K.lookup a with
  | none =>
    rw [q] at c2
    cases c2
  | some o =>
    obtain ⟨oc, od, dt, osl⟩ := o
    rw [q] at c2 e
    cases dt with
    | func fd =>
      obtain ⟨n1, n2, n3, n4, n5, n6, n7, n8, n9, n10, n11, n12, n13, n14, n15⟩ := fd
      have e2 : (some (n1, n2, n3, n4, n5, n6, n7, n15) : FnW) = some (d.name, d.qual, d.params, .stmts d.body, d.scope, mainGlobals, [], builtinsNs) := e
      simp only [Option.some.injEq, Prod.mk.injEq] at e2
      obtain ⟨h1, h2, h3, h4, h5, h6, h7, h8⟩ := e2
      subst h1 h2 h3 h4 h5 h6 h7 h8
      have c3 : (PySem.W.codeIn K n13 d.qual && (dflB K n8 [] && kwdB K n9 [])) = true := c2
      obtain ⟨k1, k2⟩ := ba c3
      obtain ⟨k3, k4⟩ := ba k2
      exact ⟨_, ⟨oc, od, n8, n9, n10, n11, n12, n13, n14, osl, rfl, q, k1, dflB_ok k3, kwdB_ok k4⟩, kp⟩
    | _ => cases c2
/-- a property's getter -/
def gAd (K : PySem.W.Frag) (C m : Str) : Addr := match PySem.W.recIn K (ma K (ga K C) m) "property" with
  | some (.ref g :: _) => g
  | _ => 0
def propB (K : PySem.W.Frag) (C m : Str) : Bool := eqO (PySem.W.findIn K (.ref (ga K C)) m) (some (some (.ref (ma K (ga K C) m)))) && (eqO (PySem.W.specialIn K (.ref (ma K (ga K C) m)) "__get__") (some (some (.builtin "property.__get__"))) &&
  (decide (PySem.W.takesIn K (.ref (ma K (ga K C) m)) = some true) && (match PySem.W.recIn K (ma K (ga K C) m) "property" with
    | some (.ref _ :: _) => true
    | _ => false)))
theorem propB_ok {K : PySem.W.Frag} {C m : Str} (h : propB K C m = true) : PropOf K (ga K C) m (ma K (ga K C) m) (gAd K C m) := by
  obtain ⟨h1, h⟩ := ba h
  obtain ⟨h2, h⟩ := ba h
  obtain ⟨h3, h4⟩ := ba h
  refine ⟨eqO_ok h1, eqO_ok h2, of_decide_eq_true h3, ?_⟩
  unfold gAd
  cases e : PySem.W.recIn K (ma K (ga K C) m) "property" with
  | none =>
    rw [e] at h4
    cases h4
  | some l =>
    rw [e] at h4
    cases l with
    | nil => cases h4
    | cons v r =>
      cases v with
      | ref g => exact ⟨r, rfl⟩
      | _ => cases h4
/-- a class's constant -/
def cvB (K : PySem.W.Frag) (C f : Str) (v : Dv) : Bool := PySem.W.readsIn K (ga K C) (.type "type") && (eqO (PySem.W.specialIn K (.ref (ga K C)) "__getattribute__") (some (some (.builtin "type.__getattribute__"))) && (match PySem.W.findCls K (.ref (ga K C)) (.type "type") f with
  | some (.val u) => relB (v.v K) u
  | _ => false))
theorem cvB_ok {K : PySem.W.Frag} {mg : Str → Option Value} {C f : Str} {v : Dv} {d : Dat} (hg : mg C = some (.ref (ga K C))) (h : cvB K C f v = true) (hd : ∀ B, Rp K B (v.v K) d) : KnV K mg C f d := by
  obtain ⟨h1, h⟩ := ba h
  obtain ⟨h2, h3⟩ := ba h
  cases e : PySem.W.findCls K (.ref (ga K C)) (.type "type") f with
  | none =>
    rw [e] at h3
    cases h3
  | some r =>
    rw [e] at h3
    cases r with
    | val u => exact ⟨ga K C, .type "type", v.v K, u, hg, ⟨h1, eqO_ok h2⟩, ⟨e, relB_ok h3⟩, hd⟩
    | _ => cases h3
/-- an own operator -/
def opB (K : PySem.W.Frag) (C m : Str) : Bool := PySem.W.selfFirst K (ga K C) && (eqO (PySem.W.findIn K (.ref (ga K C)) m) (some (some (.ref (ma K (ga K C) m)))) && PySem.W.isFn K (.ref (ma K (ga K C) m)))
theorem opB_ok {K : PySem.W.Frag} {C m : Str} (h : opB K C m = true) : OpOf K (ga K C) m (ma K (ga K C) m) := by
  obtain ⟨h1, h⟩ := ba h
  obtain ⟨h2, h3⟩ := ba h
  exact ⟨h1, eqO_ok h2, h3⟩
/-! ### the hook -/
abbrev PDef : Type := Str × Str × DefD
abbrev AlY : Type := AlD × List FnW × Bool
def obsY (fa : List Fa) (fn : List DefD) (ps : List PDef) (ex : PySem.W.Frag → Bool) (K : PySem.W.Frag) : AlY := (obsD fa fn K, ps.map fun q => fnA K (gAd K q.1 q.2.1), ex K && ps.all fun q => propB K q.1 q.2.1 && okA K (gAd K q.1 q.2.1) q.2.2.qual)
def valY (fn : List DefD) (ps : List PDef) : AlY := (valD fn, ps.map fun q => q.2.2.val, true)
def SaysY (fa : List Fa) (fn : List DefD) (ps : List PDef) (ex : PySem.W.Frag → Bool) (K : PySem.W.Frag) : Prop := obsY fa fn ps ex K = valY fn ps
def obsYG (n : Nat) (fa : List Fa) (fn : List DefD) (ps : List PDef) (ex : PySem.W.Frag → Bool) (g : Addr → Option Obj) : AlY := obsY fa fn ps ex (frG g (PySem.cStatics :: asD g n))
def hookY (n : Nat) (fa : List Fa) (fn : List DefD) (ps : List PDef) (ex : PySem.W.Frag → Bool) : PySem.W.Hook where
  α := AlY
  obs := fun s => obsYG n fa fn ps ex s.heap.get?
  val := fun _ => valY fn ps
  says := fun _ h => ∃ K : PySem.W.Frag, K.In h ∧ SaysY fa fn ps ex K
  of := fun _ _ e => ⟨_, frG_in, e⟩
  keeps := fun _ _ _ ⟨K, hK, c⟩ k => ⟨K, PySem.W.Frag.In.keeps hK k, c⟩
theorem obsYG_eq {n : Nat} {fa : List Fa} {fn : List DefD} {ps : List PDef} {ex : PySem.W.Frag → Bool} {g : Addr → Option Obj} {s : Shared} (h : ∀ a, g a = s.heap.get? a) : obsYG n fa fn ps ex g = (hookY n fa fn ps ex).obs s := by
  have e : g = s.heap.get? := funext h
  rw [e] <;> rfl
section
variable {fa : List Fa} {fn : List DefD} {ps : List PDef} {ex : PySem.W.Frag → Bool} {K : PySem.W.Frag}
theorem SaysY.d (c : SaysY fa fn ps ex K) : SaysD fa fn K := congrArg (fun z : AlY => z.1) c
theorem SaysY.more (c : SaysY fa fn ps ex K) : ex K = true := (ba (show (ex K && ps.all fun q => propB K q.1 q.2.1 && okA K (gAd K q.1 q.2.1) q.2.2.qual) = true from congrArg (fun z : AlY => z.2.2) c)).1
theorem SaysY.prop (c : SaysY fa fn ps ex K) (i : Nat) {q : PDef} (h : ps[i]? = some q := by rfl) : PropOf K (ga K q.1) q.2.1 (ma K (ga K q.1) q.2.1) (gAd K q.1 q.2.1) ∧ ∃ fd, FunD K q.2.2.name q.2.2.qual q.2.2.params q.2.2.body q.2.2.scope [] [] (gAd K q.1 q.2.1) fd := by
  have c2 := (ba (show (ex K && ps.all fun q => propB K q.1 q.2.1 && okA K (gAd K q.1 q.2.1) q.2.2.qual) = true from congrArg (fun z : AlY => z.2.2) c)).2
  obtain ⟨h1, h2⟩ := ba (List.all_eq_true.mp c2 q (List.mem_of_getElem? h))
  have e : ps.map (fun q => fnA K (gAd K q.1 q.2.1)) = ps.map (fun q => q.2.2.val) := congrArg (fun z : AlY => z.2.1) c
  have e2 : (ps.map fun q => fnA K (gAd K q.1 q.2.1))[i]? = (ps.map fun q => q.2.2.val)[i]? := by rw [e]
  rw [List.getElem?_map, List.getElem?_map, h] at e2
  exact ⟨propB_ok h1, funA (Option.some.inj e2) h2⟩
end
end Dl
set_option Elab.async false
set_option linter.all false
set_option maxRecDepth 100000
set_option maxHeartbeats 4000000
namespace Dl
open PySem PySem.Spec PyProof.Rows L2
/-! ### walks over a list or a tuple by number, two at a time -/
def ItA (b : Bool) (h : Heap) (it a : Addr) (i : Nat) : Prop := if b = true then h.IsTupleIter it a i else h.IsListIter it a i
def SqB (b : Bool) (K : PySem.W.Frag) (H : Hp) (a : Addr) (xs : List V) : Prop := if b = true then SqT K H a xs else SqL K H a xs
theorem ItA.at {b : Bool} {h h' : Heap} {it a : Addr} {i : Nat} (t : ItA b h it a i) (k : ∀ o, h.get? it = some o → h'.get? it = some o) : ItA b h' it a i := by
  cases b with
  | true => exact (show h.IsTupleIter it a i from t).at k
  | false => exact (show h.IsListIter it a i from t).at k
theorem ItA.obj {b : Bool} {h : Heap} {it a : Addr} {i : Nat} (t : ItA b h it a i) : ∃ o, h.get? it = some o ∧ ∀ v, o.data ≠ .cell v := by
  cases b with
  | true =>
    obtain ⟨o, ho, hc, hd⟩ := (show h.IsTupleIter it a i from t)
    exact ⟨o, ho, fun v q => by rw [hd] at q; cases q⟩
  | false =>
    obtain ⟨o, ho, hc, hd⟩ := (show h.IsListIter it a i from t)
    exact ⟨o, ho, fun v q => by rw [hd] at q; cases q⟩
section
variable {X : Cx} {pins : List (Addr × Obj)} {σ : L2.St} {H : Hp} {s : Shared}
theorem sqB_inj {b : Bool} {a : Addr} {xs ys : List V} (I : Inv X pins σ H s) (h : SqB b X.K H a xs) (h' : SqB b X.K H a ys) : xs = ys := by
  cases b with
  | true => exact I.tuple_inj (show SqT X.K H a xs from h) h'
  | false => exact I.list_inj (show SqL X.K H a xs from h) h'
/-- an iterator over it draws its items -/
theorem drawsB {b : Bool} {it a : Addr} {xs : List V} {A : Around} (I : Inv X pins σ H s) (hh : A.handled = none) (hne : a ≠ it) (h : SqB b X.K H a xs) :
    ∃ its : List Value, Vals xs its ∧ ∃ St : Nat → Heap → Prop, Draws X.prog X.w A it [it, a] its.length (fun i v => its[i]? = some v) St ∧ (∀ i, ItA b s.heap it a i → St i s.heap) ∧ ∀ i h', St i h' → ItA b h' it a i := by
  cases b with
  | true =>
    obtain ⟨its, rv, p, _⟩ := I.tuple (show SqT X.K H a xs from h)
    refine ⟨its, rv, fun i h' => h'.IsTupleIter it a i ∧ h'.IsTuple a its.toArray, ?_, fun i t => ⟨t, p⟩, fun i h' t => t.1⟩
    have D := Draws.tuple (prog := X.prog) (w := X.w) hh it a hne its.toArray
    simpa using D
  | false =>
    obtain ⟨its, rv, p, _⟩ := I.list (show SqL X.K H a xs from h)
    refine ⟨its, rv, fun i h' => h'.IsListIter it a i ∧ h'.IsList a its.toArray, ?_, fun i t => ⟨t, p.isList⟩, fun i h' t => t.1⟩
    have D := Draws.list (prog := X.prog) (w := X.w) hh it a hne its.toArray
    simpa using D
end
/-- the sequence at a as it stands at each turn, each item in a new pair -/
def IteB (b : Bool) (K : PySem.W.Frag) (a : Addr) : It :=
  ⟨fun i H => ∃ (xs : List V) (x : V), SqB b K H a xs ∧ xs[i]? = some x, fun i H v H' => ∃ T x, v = .ref T ∧ H T = none ∧ H' = upd H T (.tup [.int (i : Nat), x]) ∧ ∀ xs, SqB b K H a xs → xs[i]? = some x, fun i H => ∃ xs : List V, SqB b K H a xs ∧ xs.length = i⟩
theorem turn_enumB {b : Bool} {P : Program} {w : World} {K : PySem.W.Frag} {elts : List Expr} {kk : Nat} {tpos : Pos} (a e it : Addr) (hae : a ≠ e) (hai : a ≠ it) :
    Turn P w K (.Tuple elts kk tpos) (IteB b K a) [e, it] e (fun i h => (∃ old, IsEnum h e it ((i : Nat) : Int) old) ∧ ItA b h it a i ∧ e ≠ it) where
  mem := by simp
  obj := fun i h st b hb => by
    obtain ⟨⟨old, he⟩, hi, _⟩ := st
    have e' : b = e ∨ b = it := by simpa using hb
    rcases e' with z | z
    · rw [z]; exact ⟨_, he, fun v q => nomatch q⟩
    · rw [z]; exact hi.obj
  keep := fun i h h' st k => let ⟨⟨old, he⟩, hi, hne⟩ := st; ⟨⟨old, k e (by simp) _ he⟩, hi.at fun o q => k it (by simp) o q, hne⟩
  item := by
    intro X hP hw hK hc i pins s σ H E I hf st hg
    subst hP hw hK
    obtain ⟨⟨old, he⟩, hit, hne⟩ := st
    obtain ⟨xs, x, hq, hx⟩ := hg
    obtain ⟨its, rv, St, D, hs1, hs2⟩ := drawsB (A := X.A.in1) (it := it) I (I.ok.hd hc) hai hq
    obtain ⟨u, hu, ru⟩ := rv.get hx
    have hel : e < s.heap.objs.size := Heap.lt_size he
    have hil : it < s.heap.objs.size := by obtain ⟨_, q, _⟩ := hit.obj; exact Heap.lt_size q
    have hlt : i < its.length := by
      by_cases z : i < its.length
      · exact z
      · rw [List.getElem?_eq_none (by omega)] at hu
        cases hu
    refine wpAny_pyNext_enum_itemD D he (hs1 i hit) hlt hne (by simp; exact ⟨hne, hae.symm⟩) fun u' h' tk hu' ho hst' hT hsz hk => ?_
    have eu : u' = u := by
      have hu2 : its[i]? = some u' := hu'
      rw [hu] at hu2
      exact (Option.some.inj hu2).symm
    subst eu
    have hit' := hs2 _ _ hst'
    refine ⟨_, rfl, wpAny_letOwnedTupleGo_enum (s := { s with heap := h', toks := tk + 1 }) ho fun h'' he' sb => ?_⟩
    have hT2 : h''.get? s.heap.objs.size = some { cls := .type "tuple", data := .seq #[.int i tk, u'] } := (sb.2 _ (Nat.ne_of_gt hel)).trans hT
    have new : ObjOk X.prog X.w (upd H s.heap.objs.size (.tup [.int (i : Nat), x])) h'' s.heap.objs.size (.tup [.int (i : Nat), x]) :=
      ⟨by show 2 ≤ sizeLine; decide, [.int i tk, u'], .cons ⟨_, rfl⟩ (.cons ru .nil), ⟨_, hT2, rfl, _, rfl⟩⟩
    have I1 : Inv X pins σ (upd H s.heap.objs.size (.tup [.int (i : Nat), x])) { s with heap := h'', toks := tk + 1 } :=
      I.turnedNew (ch := [e, it]) (fun b ob hb q => (sb.2 b (fun z => hb (by simp [z]))).trans (hk b ob (fun z => hb (by simp [z])) (fun z => hb (by simp [z])) q)) hf (Nat.le_refl _) new
    refine ⟨.ref s.heap.objs.size, _, I1, rfl, ⟨_, x, rfl, I.hok.fresh (Nat.le_refl _), rfl, fun ys hy => by rw [sqB_inj I hy hq]; exact hx⟩, ⟨⟨u', ?_⟩, hit'.at fun o q => (sb.2 it (Ne.symm hne)).trans q, hne⟩, fun b hb => ?_⟩
    · have e1 : ((i + 1 : Nat) : Int) = (i : Int) + 1 := by omega
      rw [e1]; exact he'
    · have hb' : b < s.heap.objs.size := by
        have e' : b = e ∨ b = it := by simpa using hb
        rcases e' with z | z
        · rw [z]; exact hel
        · rw [z]; exact hil
      rw [upd_ne (Nat.ne_of_lt hb')]
      exact (hf b hb).1
  done := by
    intro X hP hw hK hc i pins s σ H E I hf st hg
    subst hP hw hK
    obtain ⟨⟨old, he⟩, hit, hne⟩ := st
    obtain ⟨xs, hq, hx⟩ := hg
    obtain ⟨its, rv, St, D, hs1, hs2⟩ := drawsB (A := X.A.in1) (it := it) I (I.ok.hd hc) hai hq
    obtain ⟨f0, f1, f2, f3, f4, f5⟩ := hf it (by simp)
    have hl := rv.length
    exact wpAny_pyNext_enum_endD D he (by rw [← hl, hx]; exact hs1 i hit) fun h' eb => ⟨rfl, I.turned (t' := s.toks) (fun b o hb q => eb b o hb q) f0 f1 f3 f4 f5⟩
  self := fun A i s Q E st h => let ⟨⟨_, he⟩, _⟩ := st; wpAny_pyIter_enum he h
theorem meets_enum1 {v : Value} {o : Obj} {H : Heap → Prop} (B : Begins v o H) :
    Meets (Builtin.«enumerate.__new__» ⟨[.type "enumerate", v], []⟩) (fun _ R s => H s.heap ∧
      R (.ok (.ret (.ref (s.heap.push o).objs.size))) { s with heap := (s.heap.push o).push { cls := .type "enumerate", data := .fields #[.none, .bool false, .ref s.heap.objs.size, rawInt 0, .none, .none] } }) :=
  .of_wp fun prog w A R s h => by
    obtain ⟨hp, g, d, tk, os⟩ := s; obtain ⟨h1, h⟩ := h
    have hsub := sub_enumerate
    have q1 : ∀ {A' : Around} {E : Value → Shared → Prop} {Q : Value → Shared → Prop}, Q (.ref hp.objs.size) ⟨hp.push o, g, d, tk, os⟩ → wpAny (model prog w) A' (pyIter v) Q E ⟨hp, g, d, tk, os⟩ :=
      fun q => B.iter prog w _ _ ⟨hp, g, d, tk, os⟩ _ h1 q
    wp_walk using q1
    refine wpAny_stack_any fun st => wpAny_pure ?_
    split
    · rename_i c _ _ _ _ _
      cases (c == Value.type "enumerate")
      · wp_walk using q1
        exact ⟨_, rfl, h⟩
      · wp_walk using q1
        exact ⟨_, rfl, h⟩
    · wp_walk using q1
      exact ⟨_, rfl, h⟩
theorem enum_begins1 {prog : Program} {w : World} {A : Around} {E : Value → Shared → Prop} {s : Shared} {v : Value} {o : Obj} {H : Heap → Prop} {Q : Value → Shared → Prop} (B : Begins v o H) (h1 : H s.heap)
    (h : ∀ h', IsEnum h' (s.heap.objs.size + 1) s.heap.objs.size 0 .none → h'.get? s.heap.objs.size = some o → h'.objs.size = s.heap.objs.size + 2 →
      (∀ b o, s.heap.get? b = some o → h'.get? b = some o) → Q (.ref (s.heap.objs.size + 1)) { s with heap := h' }) :
    wpAny (model prog w) A (call (.type "enumerate") [v]) Q E s := by
  refine callType_new F.called_enumerate (by decide) (F.typeCall_enumerate_1 _) (F.newCall_enumerate_1 _) (fun obj => F.args_object_init_2 obj _) F.entry_enumerate_new (meets_enum1 B) ⟨h1, ?_⟩
  have hz : (s.heap.push o).objs.size = s.heap.objs.size + 1 := Heap.size_push ..
  show _ ∧ _
  rw [hz]
  have he : IsEnum ((s.heap.push o).push { cls := .type "enumerate", data := .fields #[.none, .bool false, .ref s.heap.objs.size, rawInt 0, .none, .none] }) (s.heap.objs.size + 1) s.heap.objs.size 0 .none := by
    have := Heap.get?_push_size (s.heap.push o) (o := { cls := .type "enumerate", data := .fields #[.none, .bool false, .ref s.heap.objs.size, rawInt 0, .none, .none] }) rfl
    rw [hz] at this; exact this
  refine ⟨⟨_, he, rfl⟩, h _ he (Heap.get?_push_of_some _ (Heap.get?_push_size _ B.free)) (by rw [Heap.size_push, hz]) fun b o x => Heap.get?_push_of_some _ (Heap.get?_push_of_some _ x)⟩
/-- an iterator begins -/
theorem beginsB {X : Cx} {pins : List (Addr × Obj)} {σ : L2.St} {H : Hp} {s : Shared} {b : Bool} {a : Addr} {xs : List V} (I : Inv X pins σ H s) (h : SqB b X.K H a xs) :
    a < s.heap.objs.size ∧ ∃ o Hh, Begins (.ref a) o Hh ∧ Hh s.heap ∧ ∀ h' it, h'.get? it = some o → ItA b h' it a 0 := by
  cases b with
  | true =>
    obtain ⟨its, rv, p, _⟩ := I.tuple (show SqT X.K H a xs from h)
    obtain ⟨o, ho, _⟩ := id p
    exact ⟨Heap.lt_size ho, _, _, begins_tuple a its.toArray, p, fun h' it q => ⟨_, q, rfl, rfl⟩⟩
  | false =>
    obtain ⟨its, rv, p, _⟩ := I.list (show SqL X.K H a xs from h)
    obtain ⟨o, ho, _⟩ := p.isList
    exact ⟨Heap.lt_size ho, _, _, begins_list a its.toArray, p.isList, fun h' it q => ⟨_, q, rfl, rfl⟩⟩
def iEnumB (K : PySem.W.Frag) (ta : TA) : TI := fun σ H R => ta σ H fun vs H1 => ∃ b a xs, vs = [.ref a] ∧ SqB b K H1 a xs ∧ R (IteB b K a) H1
theorem pi_enumB {X : Cx} {e : Expr} {ta : TA} {p pos tpos : Pos} {elts : List Expr} {kk : Nat} (hg : Gl X "enumerate") (hm : X.mg "enumerate" = none) (ha : PA X [e] ta) (hs : starEach [e] X.env = [(false, eval e X.env)] := by rfl) :
    PI X (.Tuple elts kk tpos) (.Call (.Name "enumerate" p) [e] [] pos) (iEnumB X.K ta) := by
  refine ⟨fun pins s σ H R I h => ?_⟩
  refine Call_ (ld_blt I hg hm boot_enumerate (PyProof.Rows.callWith_type1 (thn (ha.run pos pins s σ H _ I h) fun us s1 ⟨vs, H1, I1, r1, q1⟩ => ?_) hs rfl))
  obtain ⟨b, a, xs, ex, hq, q⟩ := q1
  subst ex
  cases r1 with
  | cons r rr =>
    cases rr
    cases r
    obtain ⟨hlt, o, Hh, B, hh, hit0⟩ := beginsB I1 hq
    refine enum_begins1 B hh fun h' he hit hsz hk => wpAny_pyIter_enum he ?_
    have I2 : Inv X pins σ H1 { s1 with heap := h' } := I1.kept (t' := s1.toks) hk
    refine ⟨s1.heap.objs.size + 1, [s1.heap.objs.size + 1, s1.heap.objs.size], _, _, H1, rfl, I2, turn_enumB a (s1.heap.objs.size + 1) s1.heap.objs.size (Nat.ne_of_lt (Nat.lt_succ_of_lt hlt)) (Nat.ne_of_lt hlt), ⟨⟨.none, he⟩, hit0 _ _ hit, Nat.succ_ne_self _⟩, fun b hb => ?_, q⟩
    have e' : b = s1.heap.objs.size + 1 ∨ b = s1.heap.objs.size := by simpa using hb
    have hle : s1.heap.objs.size ≤ b := by
      rcases e' with z | z
      · rw [z]; exact Nat.le_add_right _ _
      · rw [z]; exact Nat.le_refl _
    exact I1.fpOk hle (I1.hok.fresh hle)
/-- two sequences as they stand at each turn, the items in new pairs -/
def ItzB (b c : Bool) (K : PySem.W.Frag) (a1 a2 : Addr) : It :=
  ⟨fun i H => ∃ (xs ys : List V) (x y : V), SqB b K H a1 xs ∧ SqB c K H a2 ys ∧ xs[i]? = some x ∧ ys[i]? = some y,
    fun i H v H' => ∃ T x y, v = .ref T ∧ H T = none ∧ H' = upd H T (.tup [x, y]) ∧ (∀ xs, SqB b K H a1 xs → xs[i]? = some x) ∧ ∀ ys, SqB c K H a2 ys → ys[i]? = some y,
    fun i H => ∃ xs ys : List V, SqB b K H a1 xs ∧ SqB c K H a2 ys ∧ i ≤ xs.length ∧ i ≤ ys.length ∧ (i = xs.length ∨ i = ys.length)⟩
theorem zip_sep {z TI TO i1 i2 a1 a2 : Addr} (D : ZipApart z TI TO i1 i2 a1 a2) : ZipSep2 z TI TO i1 i2 [i1, a1] [i2, a2] where
  TIz := D.TIz
  TOz := D.TOz
  TITO := D.TITO
  TIi1 := D.TIi1
  mem1 := List.mem_cons_self
  zf1 := by simp; exact ⟨D.i1z.symm, D.l1z.symm⟩
  Tf1 := by simp; exact ⟨D.TOi1, D.l1TO.symm⟩
  TIi2 := D.TIi2
  mem2 := List.mem_cons_self
  zf2 := by simp; exact ⟨D.i2z.symm, D.l2z.symm⟩
  Tf2 := by simp; exact ⟨D.TOi2, D.l2TO.symm⟩
  sep1_2 := by simp; exact ⟨D.i12, D.l2i1.symm⟩
  sep2_1 := by simp; exact ⟨D.i12.symm, D.l1i2.symm⟩
theorem turn_zipB {b c : Bool} {P : Program} {w : World} {K : PySem.W.Frag} {elts : List Expr} {kk : Nat} {tpos : Pos} {a1 a2 z TI TO i1 i2 : Addr} (D : ZipApart z TI TO i1 i2 a1 a2) :
    Turn P w K (.Tuple elts kk tpos) (ItzB b c K a1 a2) [z, TI, TO, i1, i2] z (fun i h => IsZip h z TI TO .none ∧ IsTupOf2 h TI (.ref i1) (.ref i2) ∧ (∃ x y, IsTupOf2 h TO x y) ∧ ItA b h i1 a1 i ∧ ItA c h i2 a2 i) where
  mem := by simp
  obj := fun i h st c hc => by
    obtain ⟨hz, hTI, ⟨x, y, hTO⟩, h1, h2⟩ := st
    have e' : c = z ∨ c = TI ∨ c = TO ∨ c = i1 ∨ c = i2 := by simpa using hc
    rcases e' with q | q | q | q | q
    · rw [q]; exact ⟨_, hz, fun v q => nomatch q⟩
    · rw [q]; exact ⟨_, hTI, fun v q => nomatch q⟩
    · rw [q]; exact ⟨_, hTO, fun v q => nomatch q⟩
    · rw [q]; exact h1.obj
    · rw [q]; exact h2.obj
  keep := fun i h h' st k => by
    obtain ⟨hz, hTI, ⟨x, y, hTO⟩, h1, h2⟩ := st
    exact ⟨k z (by simp) _ hz, k TI (by simp) _ hTI, ⟨x, y, k TO (by simp) _ hTO⟩, h1.at fun o q => k i1 (by simp) o q, h2.at fun o q => k i2 (by simp) o q⟩
  item := by
    intro X hP hw hK hc i pins s σ H E I hf st hg
    subst hP hw hK
    obtain ⟨hz, hTI, ⟨x0, y0, hTO⟩, h1, h2⟩ := st
    obtain ⟨xs, ys, x, y, hqx, hqy, hx, hy⟩ := hg
    obtain ⟨its, rv, St1, D1, s11, s12⟩ := drawsB (A := X.A.in1) (it := i1) I (I.ok.hd hc) D.l1i1 hqx
    obtain ⟨its2, rv2, St2, D2, s21, s22⟩ := drawsB (A := X.A.in1) (it := i2) I (I.ok.hd hc) D.l2i2 hqy
    obtain ⟨u, hu, ru⟩ := rv.get hx
    obtain ⟨u2, hu2, ru2⟩ := rv2.get hy
    have hzl : z < s.heap.objs.size := Heap.lt_size hz
    have lt1 : i < its.length := by
      by_cases z : i < its.length
      · exact z
      · rw [List.getElem?_eq_none (by omega)] at hu
        cases hu
    have lt2 : i < its2.length := by
      by_cases z : i < its2.length
      · exact z
      · rw [List.getElem?_eq_none (by omega)] at hu2
        cases hu2
    refine wpAny_pyNext_zipD2_item (zip_sep D) D1 D2 hz hTI hTO (s11 i h1) (s21 i h2) lt1 lt2 fun w1 w2 h' tk e1 e2 z' TO' h1' h2' hT hsz hk => ?_
    have eu : w1 = u := by
      have e3 : its[i]? = some w1 := e1
      rw [hu] at e3
      exact (Option.some.inj e3).symm
    have eu2 : w2 = u2 := by
      have e3 : its2[i]? = some w2 := e2
      rw [hu2] at e3
      exact (Option.some.inj e3).symm
    subst eu eu2
    refine ⟨_, rfl, wpAny_letOwnedTupleGo_zip (s := { s with heap := h', toks := tk }) z' fun h'' z'' sb => ?_⟩
    have hT2 : h''.get? s.heap.objs.size = some { cls := .type "tuple", data := .seq #[w1, w2] } := (sb.2 _ (Nat.ne_of_gt hzl)).trans hT
    have new : ObjOk X.prog X.w (upd H s.heap.objs.size (.tup [x, y])) h'' s.heap.objs.size (.tup [x, y]) :=
      ⟨by show 2 ≤ sizeLine; decide, [w1, w2], .cons ru (.cons ru2 .nil), ⟨_, hT2, rfl, _, rfl⟩⟩
    have I1 : Inv X pins σ (upd H s.heap.objs.size (.tup [x, y])) { s with heap := h'', toks := tk } :=
      I.turnedNew (t' := tk) (ch := [z, TI, TO, i1, i2]) (fun c o hb q => (sb.2 c (fun q' => hb (by simp [q']))).trans (hk c o (fun q' => hb (by simp [q'])) (fun q' => hb (by simp [q'])) (fun q' => hb (by simp [q'])) (fun q' => hb (by simp [q'])) q)) hf (Nat.le_refl _) new
    refine ⟨.ref s.heap.objs.size, _, I1, rfl, ⟨_, x, y, rfl, I.hok.fresh (Nat.le_refl _), rfl, fun l hl => by rw [sqB_inj I hl hqx]; exact hx, fun l hl => by rw [sqB_inj I hl hqy]; exact hy⟩, ⟨z'', ?_, ⟨w1, w2, ?_⟩, ?_, ?_⟩, fun c hcm => ?_⟩
    · exact (sb.2 _ D.TIz).trans (hk _ _ D.TIz D.TITO D.TIi1 D.TIi2 hTI)
    · exact (sb.2 _ D.TOz).trans TO'
    · exact (s12 _ _ h1').at fun o q => (sb.2 _ D.i1z).trans q
    · exact (s22 _ _ h2').at fun o q => (sb.2 _ D.i2z).trans q
    · have hlt : c < s.heap.objs.size := by
        have e' : c = z ∨ c = TI ∨ c = TO ∨ c = i1 ∨ c = i2 := by simpa using hcm
        rcases e' with q | q | q | q | q
        · rw [q]; exact hzl
        · rw [q]; exact Heap.lt_size hTI
        · rw [q]; exact Heap.lt_size hTO
        · rw [q]; obtain ⟨_, e1, _⟩ := h1.obj; exact Heap.lt_size e1
        · rw [q]; obtain ⟨_, e2, _⟩ := h2.obj; exact Heap.lt_size e2
      rw [upd_ne (Nat.ne_of_lt hlt)]
      exact (hf c hcm).1
  done := by
    intro X hP hw hK hc i pins s σ H E I hf st hg
    subst hP hw hK
    obtain ⟨hz, hTI, ⟨x0, y0, hTO⟩, h1, h2⟩ := st
    obtain ⟨xs, ys, hqx, hqy, le1, le2, hend⟩ := hg
    obtain ⟨its, rv, St1, D1, s11, s12⟩ := drawsB (A := X.A.in1) (it := i1) I (I.ok.hd hc) D.l1i1 hqx
    obtain ⟨its2, rv2, St2, D2, s21, s22⟩ := drawsB (A := X.A.in1) (it := i2) I (I.ok.hd hc) D.l2i2 hqy
    have l1 := rv.length
    have l2 := rv2.length
    exact wpAny_pyNext_zipD2_end (zip_sep D) D1 D2 hz hTI hTO (s11 i h1) (s21 i h2) (by omega) (by omega) (by omega) fun h' tk hk => ⟨rfl, I.turnedL (t' := tk) (ch := [z, TI, TO, i1, i2]) (fun c o hb q =>
      hk c o (fun q' => hb (by simp [q'])) (fun q' => hb (by simp [q'])) (fun q' => hb (by simp [q'])) (fun q' => hb (by simp [q'])) q) hf⟩
  self := fun A i s Q E st h => wpAny_pyIter_zip st.1 h
def iZipB (K : PySem.W.Frag) (ta : TA) : TI := fun σ H R => ta σ H fun vs H1 => ∃ b c a1 a2 xs ys, vs = [.ref a1, .ref a2] ∧ SqB b K H1 a1 xs ∧ SqB c K H1 a2 ys ∧ R (ItzB b c K a1 a2) H1
theorem pi_zipB {X : Cx} {e e2 : Expr} {ta : TA} {p pos tpos : Pos} {elts : List Expr} {kk : Nat} (hg : Gl X "zip") (hm : X.mg "zip" = none) (ha : PA X [e, e2] ta)
    (hs : starEach [e, e2] X.env = (false, eval e X.env) :: starEach [e2] X.env := by rfl) (hpl : (backTo pos (starEach [e2] X.env)).any (·.1) = false := by rfl) :
    PI X (.Tuple elts kk tpos) (.Call (.Name "zip" p) [e, e2] [] pos) (iZipB X.K ta) := by
  refine ⟨fun pins s σ H R I h => ?_⟩
  refine Call_ (ld_blt I hg hm PyProof.Rows.boot_zip (PyProof.Rows.callWith_type1 (thn (ha.run pos pins s σ H _ I h) fun us s1 ⟨vs, H1, I1, r1, q1⟩ => ?_) hs hpl))
  obtain ⟨b, c, a1, a2, xs, ys, ex, hqx, hqy, q⟩ := q1
  subst ex
  cases r1 with
  | cons r rr =>
    cases rr with
    | cons r' rr =>
      cases rr
      cases r
      cases r'
      obtain ⟨lt1, o1, H1', B1, hh1, hi1⟩ := beginsB I1 hqx
      obtain ⟨lt2, o2, H2', B2, hh2, hi2⟩ := beginsB I1 hqy
      refine zip_begins2 B1 B2 hh1 hh2 fun h' hz hTI hTO g1 g2 hsz hk => wpAny_pyIter_zip hz ?_
      have I2 : Inv X pins σ H1 { s1 with heap := h' } := I1.kept (t' := s1.toks) hk
      refine ⟨s1.heap.objs.size + 4, [s1.heap.objs.size + 4, s1.heap.objs.size + 2, s1.heap.objs.size + 3, s1.heap.objs.size, s1.heap.objs.size + 1], _, _, H1, rfl, I2, turn_zipB (PySem.W.ktu_apart s1.heap.objs.size a1 a2 lt1 lt2), ⟨hz, hTI, ⟨_, _, hTO⟩, hi1 _ _ g1, hi2 _ _ g2⟩, fun c hcm => ?_, q⟩
      have e' : c = s1.heap.objs.size + 4 ∨ c = s1.heap.objs.size + 2 ∨ c = s1.heap.objs.size + 3 ∨ c = s1.heap.objs.size ∨ c = s1.heap.objs.size + 1 := by simpa using hcm
      have hle : s1.heap.objs.size ≤ c := by
        rcases e' with z | z | z | z | z
        · rw [z]; exact Nat.le_add_right _ _
        · rw [z]; exact Nat.le_add_right _ _
        · rw [z]; exact Nat.le_add_right _ _
        · rw [z]; exact Nat.le_refl _
        · rw [z]; exact Nat.le_add_right _ _
      exact I1.fpOk hle (I1.hok.fresh hle)
end Dl
set_option Elab.async false
set_option linter.all false
set_option maxRecDepth 100000
set_option maxHeartbeats 4000000
namespace Dl
open PySem PySem.Spec PyProof.Rows L2
/-! ### del xs[c:] -/
theorem keep_take {α : Type} (g : α × Nat → Option α) (c : Nat) : ∀ (xs : List α) (m : Nat), (∀ x k, k < m + xs.length → g (x, k) = if c ≤ k then none else some x) → (xs.zipIdx m).filterMap g = xs.take (c - m)
  | [], m, _ => by simp
  | x :: xs, m, h => by
    have ih := keep_take g c xs (m + 1) (fun x k hk => h x k (by rw [List.length_cons]; omega))
    have h0 := h x m (by rw [List.length_cons]; omega)
    rw [List.zipIdx_cons, List.filterMap_cons]
    by_cases z : c ≤ m
    · rw [if_pos z] at h0
      simp only [h0]
      rw [ih, show c - (m + 1) = 0 by omega, show c - m = 0 by omega, List.take_zero, List.take_zero]
    · rw [if_neg z] at h0
      simp only [h0]
      rw [ih, show c - m = (c - (m + 1)) + 1 by omega, List.take_succ_cons]
section
variable {prog : Program} {w : World} {A : Around} {E : Value → Shared → Prop} {s : Shared}
theorem delItem_tail {l sl : Addr} {items : Array Value} {n : Nat} {vl : Value} {c : Nat} {Q : Unit → Shared → Prop}
    (e : s.heap.get? l = some { cls := .type "list", data := .seq items n }) (hs : s.heap.IsSliceOf sl vl .none .none) (pl : IsPart vl (some (c : Int))) (hc : c ≤ items.size)
    (hsz : items.size ≤ sizeLine) (h : ∀ f : Array Value → Array Value, f items = (items.toList.take c).toArray → Q () { s with heap := s.heap.update l (Obj.mapSeq f) }) :
    wpAny (model prog w) A (delItem (.ref l) (.ref sl)) Q E s := by
  have hl : s.heap.IsList l items := PySem.IsL.isList e
  obtain ⟨os, hos, hcs, hds⟩ := id hs
  have hTs : s.TypeIs (.ref sl) "slice" := ⟨os, hos, hcs⟩
  have hstep : ¬ ((rawPart none == rawInt 0) = true) := Bool.false_ne_true
  refine wpAny_delItem_slot hl.typeIs (by decide) PySem.F.slot_list_delitem ?_
  refine wpAny_call_entry PySem.F.slot_list_delitem hl.typeIs PySem.F.entry_list_delitem ?_ (PySem.F.args_list_delitem_2 _ _)
  show wpAny _ _ (Builtin.List.listSubscript? (.ref sl) >>= _) _ _ s
  refine wpAny_bind ?_
  unfold Builtin.List.listSubscript?
  refine wpAny_bind (wpAny_specialOf hTs slice_no_index ?_)
  simp only [Option.isNone_none, if_true]
  refine wpAny_pure ?_
  show wpAny _ _ (typeOf (.ref sl) >>= _) _ _ s
  refine wpAny_bind (wpAny_typeOf hTs ?_)
  first
    | rw [if_neg (by decide)]
    | refine PySem.W.KFB.if_not (by decide) ?_
  rw [listSliceParts_eq]
  refine wpAny_bind (wpAny_bind (wpAny_field hos hds (x := .none) rfl (wpAny_bind (wpAny_listPart .none ?_))))
  rw [if_neg hstep]
  refine wpAny_bind (wpAny_field hos hds (x := vl) rfl (wpAny_bind (wpAny_listPart pl ?_)))
  refine wpAny_bind (wpAny_field hos hds (x := .none) rfl (wpAny_bind (wpAny_listPart .none (wpAny_pure ?_))))
  unfold Builtin.List.listItems
  refine wpAny_bind (wpAny_bind (wpAny_seqItems e rfl (wpAny_pure ?_)))
  refine wpAny_bind (wpAny_of_eq (sliceIndices_raw (some (c : Int)) none none items.size (by simp)) ?_)
  have hb : sliceBounds (some (c : Int)) none none items.size = ((c : Int), (items.size : Int), 1) := by
    simp only [sliceBounds, Option.getD_none]
    have h1 : ¬ ((c : Int) < 0) := by omega
    simp only [h1, if_false]
    have h2 : min (c : Int) (items.size : Int) = (c : Int) := by omega
    rw [h2, if_pos (by decide), if_pos (by decide), show max 0 (c : Int) = (c : Int) by omega]
  rw [hb]
  refine wpAny_bind (wpAny_rule ?_)
  have hf : ∀ g : Value × Nat → Option Value, (∀ x k, k < items.size → g (x, k) = if c ≤ k then none else some x) → ((fun xs : Array Value => (xs.toList.zipIdx.filterMap g).toArray) items) = (items.toList.take c).toArray := by
    intro g hg
    have := keep_take g c items.toList 0 (fun x k hk => hg x k (by simpa using hk))
    rw [Nat.sub_zero] at this
    exact congrArg List.toArray this
  have sel : ∀ k : Nat, k < items.size → (if (1 : Int) > 0 then decide ((c : Int) ≤ (k : Int)) && decide ((k : Int) < (items.size : Int)) && (((k : Int) - (c : Int)) % 1 == 0) else decide ((items.size : Int) < (k : Int)) && decide ((k : Int) ≤ (c : Int)) && (((c : Int) - (k : Int)) % (-1) == 0)) = decide (c ≤ k) := by
    intro k hk
    rw [if_pos (by decide), Int.emod_one, decide_eq_true (show (k : Int) < (items.size : Int) by omega), Bool.and_true, show ((0 : Int) == 0) = true from rfl, Bool.and_true]
    by_cases z : c ≤ k
    · rw [decide_eq_true z, decide_eq_true (by omega)]
    · rw [decide_eq_false z, decide_eq_false (by omega)]
  have sel2 : ∀ (b : Bool) (x : Value) (k : Nat), b = decide (c ≤ k) → (if b = true then none else some x) = if c ≤ k then none else some x := by
    intro b x k hb
    subst hb
    by_cases z : c ≤ k
    · rw [decide_eq_true z, if_pos rfl, if_pos z]
    · rw [decide_eq_false z, if_neg Bool.false_ne_true, if_neg z]
  refine wpAny_bind (m := updateSeq l _) (wpAny_updateSeq (hz := hsz) (_hz' := ?hz) e rfl ?go)
  case go =>
    refine wpAny_bind (wpAny_letGo ?_)
    exact wpAny_pure ⟨.none, rfl, h _ (hf _ fun x k hk => sel2 _ x k (sel k hk))⟩
  case hz =>
    rw [List.size_toArray]
    refine Nat.le_trans (List.length_filterMap_le _ _) ?_
    rw [List.length_zipIdx]
    have : items.toList.length = items.size := by simp
    omega
end
section
variable {X : Cx}
def tDelT (to ti : TE) : TS := fun D σ H => to σ H fun x H1 => ti σ H1 fun y H2 => ∃ (l : Addr) (xs : List V) (c : Nat), x = .ref l ∧ y = .int (c : Int) ∧ H2 l = some (.lst xs) ∧ c ≤ xs.length ∧ D.nx σ (upd H2 l (.lst (xs.take c)))
theorem ps_delT {o lo : Expr} {to tl : TE} {tpos p2 pos : Pos} (ho : PE X o to) (hl : PE X lo tl) : PS X (.Delete [.Subscript o (.Slice (some lo) none none p2) tpos] pos) (tDelT to tl) := by
  refine ⟨fun pins s σ H D I h => ?_⟩
  refine wpAny_Delete (wpAny_deleteEach_cons (wpAny_delete_Subscript (thn (ho.run pins s σ H _ I h) fun u s1 ⟨x, H1, I1, rx, q1⟩ => ?_)))
  refine wpAny_Slice (thn (hl.run pins s1 σ H1 _ I1 q1) fun vl s2 ⟨y, H2, I2, ry, l, xs, c, ex, ey, hH, hc, q2⟩ => ?_)
  subst ex ey
  rw [evalPart_none]
  refine wpAny_pure ?_
  refine wpAny_pure ?_
  cases (show u = Value.ref l from rx)
  obtain ⟨t, rfl⟩ := (show ∃ t, vl = Value.int (c : Int) t from ry)
  have I4 : Inv X pins σ H2 { s2 with heap := s2.heap.push { cls := .type "slice", data := .fields #[.int c t, .none, .none] } } := I2.kept (t' := s2.toks) fun b ob q => Heap.get?_push_of_some _ q
  obtain ⟨z, its, n, r, hl, e⟩ := I4.lstM hH
  refine delItem_tail (c := c) e (Heap.IsSliceOf.new ..) (.int _ _) (by rw [List.size_toArray, ← hl]; exact hc) (by rw [List.size_toArray]; omega) fun f hf => wpAny_deleteEach_nil ⟨σ, _, ?_, q2⟩
  refine I4.lset (its' := its.take c) (t' := s2.toks) hH e ?_ (r.take c) ?_
  · rw [hf]
  · rw [List.length_take]
    omega
def dDelT (φ ψ : DE) : DS := fun E env M => φ env M fun ro M1 => ψ env M1 fun ri M2 => ∃ (p : Addr) (ds : List Dat) (c : Nat), ro = .d (.cell p) ∧ ri = .d (.int (c : Int)) ∧ M2 p = some (.lst ds) ∧ c ≤ ds.length ∧ E.nx env (M2.set p (.lst (ds.take c)))
theorem sx_delT {o lo : Expr} {to tl : TE} {φ ψ : DE} {tpos p2 pos : Pos} (ho : EX X o to φ) (hl : EX X lo tl ψ) : SX X (.Delete [.Subscript o (.Slice (some lo) none none p2) tpos] pos) (tDelT to tl) (dDelT φ ψ) := ⟨ps_delT ho.pe hl.pe, fun E env M σ B H D hs hc q l => by
  refine ho.s env M _ σ B H _ hs hc q fun ro M1 vo B1 H1 q1 n1 r1 => ?_
  refine hl.s env M1 _ σ B1 H1 _ (hs.mono n1.ext) n1.st q1 fun ri M2 vi B2 H2 q2 n2 r2 => ?_
  obtain ⟨p, ds, c, rfl, rfl, hm, hcl, q3⟩ := q2
  cases r1
  cases r2
  have n := n1.trans n2
  obtain ⟨_, xs, e1, e2⟩ := n.st.cell _ _ hm
  refine ⟨p, xs, c, rfl, rfl, e1, by rw [e2.length]; exact hcl, ?_⟩
  have n4 := n.st.write (o := .lst (xs.take c)) hm (m' := .lst (ds.take c)) ⟨_, upd_same, e2.take c⟩
  exact l.nx _ _ _ _ _ q3 (n.trans n4) (hs.mono (n.trans n4).ext)⟩
/-! ### truth of a list -/
def dTru (φ : DE) : DT := fun env M Q => φ env M fun r M1 => ∃ ys, SeqR M1 r ys ∧ Q (!ys.isEmpty) M1
theorem RpA.isEmpty {K : PySem.W.Frag} {B : Hp} {xs : List V} {ys : List Dat} (h : RpA K B xs ys) : (!xs.isEmpty) = !ys.isEmpty := by
  cases h <;> rfl
theorem tx_tru {e : Expr} {t : TE} {φ : DE} (h : EX X e t φ) (he : ∀ whole, isTrue e X.env whole = (do let v ← whole; standAt e.pos; holding [v] (truthy v)) := by intro _; rfl) :
    TX X e (fun σ H Q => t σ H fun x H' => ∃ k, TruV X.K x H' k ∧ Q k H') (dTru φ) := by
  refine ⟨pt_truth h.pe he, fun env M Q σ B H QV hs hc q k => ?_⟩
  refine h.s env M _ σ B H _ hs hc q fun r M1 v B1 H1 q1 n1 r1 => ?_
  obtain ⟨ys, g, q2⟩ := q1
  obtain ⟨p, xs, rfl, hp, ra⟩ := g.at n1.st r1
  refine ⟨!ys.isEmpty, ?_, k _ _ _ _ q2 n1⟩
  rcases hp with hp | hp
  · exact Or.inl ⟨xs, hp, ra.isEmpty.symm⟩
  · exact Or.inr (Or.inl ⟨xs, hp, ra.isEmpty.symm⟩)
/-! ### any of bools -/
def bAny : FS := fun ds M Q => ∃ (d : Dat) (bs : List Bool), ds = [d] ∧ LstR M (.d d) (bs.map Dat.bl) ∧ Q (.d (.bl (bs.any id))) M
theorem RpA.bls {K : PySem.W.Frag} {B : Hp} : ∀ {vs : List V} {bs : List Bool}, RpA K B vs (bs.map Dat.bl) → vs = bs.map V.bl
  | _, [], h => by cases h; rfl
  | _, n :: ns, h => by
    cases h with
    | cons a b =>
      cases a
      rw [RpA.bls b] <;> rfl
theorem sc_any {K : PySem.W.Frag} : SC K (rAny K) bAny := by
  intro B M H vs ds Q QV hc ra q k
  obtain ⟨d, bs, rfl, g, q⟩ := q
  obtain ⟨v, rfl, r⟩ := ra.one
  obtain ⟨p, xs, rfl, h1, h2⟩ := g.at (H0 := H) (v := v) hc (show RR K B M H H v (.d d) from r)
  have e := h2.bls
  subst e
  exact ⟨p, bs, rfl, SqL.of h1, k _ _ _ _ _ q (Nx.refl hc) (.bl _)⟩
theorem ex_any {a : Expr} {t : TA} {ψ : DA} {p pos : Pos} (hc : X.calm = true) (hm : X.mg "any" = none) (ha : AX X [a] t ψ) (hg : Gl X "any" := by rfl) (he : starEach [a] X.env = (false, eval a X.env) :: starEach [] X.env := by rfl) (hpl : (backTo pos (starEach [] X.env)).any (·.1) = false := by rfl) :
    EX X (.Call (.Name "any" p) [a] [] pos) (tCB (rAny X.K) t) (dCB bAny ψ) := ex_callB (cr_any hc) sc_any hm (by decide +kernel) ha (hg := hg) (he := he) (hpl := hpl)
/-! ### enumerate, zip -/
theorem SeqR.atB {K : PySem.W.Frag} {B : Hp} {M : Mem} {H0 H : Hp} {v : V} {r : Rv} {ys : List Dat} (hc : Cs K B M H) (h : RR K B M H0 H v r) (q : SeqR M r ys) : ∃ b p xs, v = .ref p ∧ SqB b K H p xs ∧ RpA K B xs ys := by
  obtain ⟨p, xs, e, hp, ra⟩ := q.at hc h
  rcases hp with hp | hp
  · exact ⟨false, p, xs, e, hp, ra⟩
  · exact ⟨true, p, xs, e, hp, ra⟩
/-- a sequence that stays: its place, its kind -/
theorem seq_stays {K : PySem.W.Frag} {B : Hp} {M : Mem} {H : Hp} {v : V} {d : Dat} {ys : List Dat} (hc : Cs K B M H) (r : Rp K B v d) (q : SeqR M (.d d) ys) :
    ∃ b p, v = .ref p ∧ (∃ xs, SqB b K H p xs) ∧ ∀ B' M' H', Ex B B' → Cs K B' M' H' → stayR ys d M' → ∃ xs, SqB b K H' p xs ∧ RpA K B' xs ys := by
  have fin : (∃ b p, v = .ref p ∧ ∀ B' M' H', Ex B B' → Cs K B' M' H' → stayR ys d M' → ∃ xs, SqB b K H' p xs ∧ RpA K B' xs ys) → ∃ b p, v = .ref p ∧ (∃ xs, SqB b K H p xs) ∧ ∀ B' M' H', Ex B B' → Cs K B' M' H' → stayR ys d M' → ∃ xs, SqB b K H' p xs ∧ RpA K B' xs ys := by
    rintro ⟨b, p, e, w⟩
    have st0 : stayR ys d M := by
      unfold stayR
      split
      · exact q
      · trivial
    obtain ⟨xs, h1, _⟩ := w B M H (Ex.refl _) hc st0
    exact ⟨b, p, e, ⟨xs, h1⟩, w⟩
  refine fin ?_
  unfold SeqR at q
  split at q
  · rename_i xs0 e
    have e := Rv.d.inj e
    subst e q
    cases r with
    | lst h1 h2 => exact ⟨false, _, rfl, fun B' M' H' e s _ => ⟨_, SqL.of (s.ex _ _ (e _ _ h1)), h2.mono e⟩⟩
  · rename_i xs0 e
    have e := Rv.d.inj e
    subst e q
    cases r with
    | tup h1 h2 => exact ⟨true, _, rfl, fun B' M' H' e s _ => ⟨_, s.ex.st (e.st h1), h2.mono e⟩⟩
  · rename_i xs0 e
    have e := Rv.d.inj e
    subst e q
    cases r with
    | fz h1 h2 => exact ⟨false, _, rfl, fun B' M' H' e s _ => ⟨_, s.ex.sl (e.sl h1), h2.mono e⟩⟩
  · rename_i p0 e
    have e := Rv.d.inj e
    subst e
    cases r
    refine ⟨false, _, rfl, fun B' M' H' e s t => ?_⟩
    obtain ⟨_, xs, h1, h2⟩ := s.cell _ _ (show M' p0 = some (.lst _) from t)
    exact ⟨xs, SqL.of h1, h2⟩
  · rename_i xs0 e
    cases e
  · exact q.elim
def enumD (ys : List Dat) : List Dat := ys.zipIdx.map fun q => .tup [.int (q.2 : Nat), q.1]
theorem enumD_get {ys : List Dat} {i : Nat} {y : Dat} (h : ys[i]? = some y) : (enumD ys)[i]? = some (.tup [.int (i : Nat), y]) := by
  unfold enumD
  rw [List.getElem?_map, List.getElem?_zipIdx, h, Nat.zero_add] <;> rfl
theorem enumD_len {ys : List Dat} : (enumD ys).length = ys.length := by
  unfold enumD
  rw [List.length_map, List.length_zipIdx]
theorem wk_enum {K : PySem.W.Frag} {B0 : Hp} {b : Bool} {a : Addr} {ys : List Dat} {stay : Mem → Prop} (h : ∀ B M H, Ex B0 B → Cs K B M H → stay M → ∃ xs, SqB b K H a xs ∧ RpA K B xs ys) : Wk K B0 (IteB b K a) (enumD ys) stay := by
  refine ⟨fun i B M H e s t hi => ?_, fun i x B M H H' e s t hi y => ?_, fun i B M H e s t hi => ?_⟩
  · obtain ⟨xs, h1, h2⟩ := h B M H e s t
    rw [enumD_len] at hi
    have hl : i < xs.length := by rw [h2.length]; exact hi
    exact ⟨xs, xs[i], h1, List.getElem?_eq_getElem hl⟩
  · obtain ⟨xs, h1, h2⟩ := h B M H e s t
    obtain ⟨T, v, rfl, hT, rfl, y⟩ := y
    obtain ⟨d, g1, g2⟩ := h2.get' (y xs h1)
    obtain ⟨n, g⟩ := RR.newT (ds := [.int (i : Nat), d]) s hT (.cons (.int _) (.cons g2 .nil))
    exact ⟨_, _, n, enumD_get g1, g⟩
  · obtain ⟨xs, h1, h2⟩ := h B M H e s t
    rw [enumD_len] at hi
    exact ⟨xs, h1, by rw [h2.length]; exact hi.symm⟩
def dEnumW (ψ : DA) : DW := fun env M Q => ψ env M fun ds M1 => ∃ d ys, ds = [d] ∧ SeqR M1 (.d d) ys ∧ Q (enumD ys) (stayR ys d) M1
theorem ix_enum {e : Expr} {ta : TA} {ψ : DA} {p pos tpos : Pos} {elts : List Expr} {kk : Nat} (hm : X.mg "enumerate" = none) (ha : AX X [e] ta ψ) (hg : Gl X "enumerate" := by rfl) (hs : starEach [e] X.env = [(false, eval e X.env)] := by rfl) :
    IX X (.Tuple elts kk tpos) (.Call (.Name "enumerate" p) [e] [] pos) (iEnumB X.K ta) (dEnumW ψ) := by
  refine ⟨pi_enumB hg hm ha.pa hs, fun env M Q σ B H R hs hc q k => ?_⟩
  refine ha.s env M _ σ B H _ hs hc q fun ds M1 vs B1 H1 q1 n1 r1 => ?_
  obtain ⟨d, ys, rfl, g, q2⟩ := q1
  obtain ⟨v, rfl, r⟩ := r1.one
  obtain ⟨b, a, rfl, ⟨xs, hx⟩, w⟩ := seq_stays n1.st r g
  exact ⟨b, a, xs, rfl, hx, k _ _ M1 B1 H1 _ q2 n1 (wk_enum w)⟩
def zipD (ys zs : List Dat) : List Dat := (ys.zip zs).map fun q => .tup [q.1, q.2]
theorem zipD_len {ys zs : List Dat} : (zipD ys zs).length = min ys.length zs.length := by
  unfold zipD
  rw [List.length_map, List.length_zip]
theorem zipD_get {ys zs : List Dat} {i : Nat} {y z : Dat} (h : ys[i]? = some y) (h' : zs[i]? = some z) : (zipD ys zs)[i]? = some (.tup [y, z]) := by
  unfold zipD
  rw [List.getElem?_map]
  have e : (ys.zip zs)[i]? = some (y, z) := List.getElem?_zip_eq_some.mpr ⟨h, h'⟩
  rw [e] <;> rfl
theorem wk_zip {K : PySem.W.Frag} {B0 : Hp} {b c : Bool} {a a2 : Addr} {ys zs : List Dat} {stay : Mem → Prop} (h : ∀ B M H, Ex B0 B → Cs K B M H → stay M → ∃ xs, SqB b K H a xs ∧ RpA K B xs ys)
    (h' : ∀ B M H, Ex B0 B → Cs K B M H → stay M → ∃ xs, SqB c K H a2 xs ∧ RpA K B xs zs) : Wk K B0 (ItzB b c K a a2) (zipD ys zs) stay := by
  refine ⟨fun i B M H e s t hi => ?_, fun i x B M H H' e s t hi y => ?_, fun i B M H e s t hi => ?_⟩
  · obtain ⟨xs, h1, h2⟩ := h B M H e s t
    obtain ⟨us, g1, g2⟩ := h' B M H e s t
    rw [zipD_len] at hi
    have hl : i < xs.length := by rw [h2.length]; omega
    have gl : i < us.length := by rw [g2.length]; omega
    exact ⟨xs, us, xs[i], us[i], h1, g1, List.getElem?_eq_getElem hl, List.getElem?_eq_getElem gl⟩
  · obtain ⟨xs, h1, h2⟩ := h B M H e s t
    obtain ⟨us, g1, g2⟩ := h' B M H e s t
    obtain ⟨T, v, u, rfl, hT, rfl, y, z⟩ := y
    obtain ⟨d, d1, d2⟩ := h2.get' (y xs h1)
    obtain ⟨f, f1, f2⟩ := g2.get' (z us g1)
    obtain ⟨n, g⟩ := RR.newT (ds := [d, f]) s hT (.cons d2 (.cons f2 .nil))
    exact ⟨_, _, n, zipD_get d1 f1, g⟩
  · obtain ⟨xs, h1, h2⟩ := h B M H e s t
    obtain ⟨us, g1, g2⟩ := h' B M H e s t
    rw [zipD_len] at hi
    have l1 := h2.length
    have l2 := g2.length
    exact ⟨xs, us, h1, g1, by omega, by omega, by omega⟩
def dZipW (ψ : DA) : DW := fun env M Q => ψ env M fun ds M1 => ∃ d e ys zs, ds = [d, e] ∧ SeqR M1 (.d d) ys ∧ SeqR M1 (.d e) zs ∧ Q (zipD ys zs) (fun m => stayR ys d m ∧ stayR zs e m) M1
theorem ix_zip {e e2 : Expr} {ta : TA} {ψ : DA} {p pos tpos : Pos} {elts : List Expr} {kk : Nat} (hm : X.mg "zip" = none) (ha : AX X [e, e2] ta ψ) (hg : Gl X "zip" := by rfl)
    (hs : starEach [e, e2] X.env = (false, eval e X.env) :: starEach [e2] X.env := by rfl) (hpl : (backTo pos (starEach [e2] X.env)).any (·.1) = false := by rfl) :
    IX X (.Tuple elts kk tpos) (.Call (.Name "zip" p) [e, e2] [] pos) (iZipB X.K ta) (dZipW ψ) := by
  refine ⟨pi_zipB hg hm ha.pa hs hpl, fun env M Q σ B H R hs hc q k => ?_⟩
  refine ha.s env M _ σ B H _ hs hc q fun ds M1 vs B1 H1 q1 n1 r1 => ?_
  obtain ⟨d, f, ys, zs, rfl, g, g', q2⟩ := q1
  obtain ⟨v, u, rfl, r, r'⟩ := r1.two
  obtain ⟨b, a, rfl, ⟨xs, hx⟩, w⟩ := seq_stays n1.st r g
  obtain ⟨c, a2, rfl, ⟨us, hu⟩, w'⟩ := seq_stays n1.st r' g'
  exact ⟨b, c, a, a2, xs, us, rfl, hx, hu, k _ _ M1 B1 H1 _ q2 n1 (wk_zip (fun B M H e s t => w B M H e s t.1) (fun B M H e s t => w' B M H e s t.2))⟩
end
end Dl
set_option Elab.async false
set_option linter.all false
set_option maxRecDepth 100000
set_option maxHeartbeats 4000000
namespace Dl
open PySem PySem.Spec PyProof.Rows L2
/-! ### comprehensions over pairs -/
def dLcP (ω : DW) (j1 j2 : Nat) (τ : DT) (φ : DE) : DE := fun env M Q => ω env M fun ys stay M1 => ∃ Inv : Nat → List Dat → Mem → Prop, Inv 0 [] M1 ∧ (∀ i acc M', i ≤ ys.length → Inv i acc M' → stay M') ∧
  (∀ i y acc M', ys[i]? = some y → Inv i acc M' → ∃ y1 y2, y = .tup [y1, y2] ∧ τ ((env.set j1 (some y1)).set j2 (some y2)) M' fun b M2 => if b = true then φ ((env.set j1 (some y1)).set j2 (some y2)) M2 fun r M3 => acc.length < sizeLine ∧ Inv (i + 1) (acc ++ [settle r]) M3 else Inv (i + 1) acc M2) ∧
  ∀ acc M', Inv ys.length acc M' → Q (.new (.lst acc)) M'
abbrev gPair (K : PySem.W.Frag) (j1 j2 : Nat) : TG := gTup K 2 (gCons (gName j1) (gCons (gName j2) gNil))
section
variable {X : Cx} {K : PySem.W.Frag}
theorem set_pair {σ : L2.St} {j1 j2 : Nat} {a b : Option V} (h : j1 ≠ j2) : ((wipe σ [j1, j2]).set j1 a).set j2 b = (σ.set j1 a).set j2 b := by
  show ((((σ.set j2 none).set j1 none).set j1 a).set j2 b) = _
  rw [List.set_set, List.set_comm none a (Ne.symm h), List.set_set]
theorem wipe_pair {σ : L2.St} {j1 j2 : Nat} {a b : Option V} (h : j1 ≠ j2) : wipe ((σ.set j1 a).set j2 b) [j1, j2] = wipe σ [j1, j2] := by
  show ((((σ.set j1 a).set j2 b).set j2 none).set j1 none) = (σ.set j2 none).set j1 none
  rw [List.set_set, List.set_comm a none h, List.set_set]
theorem SE.lcp {wi : TI} {j1 j2 : Nat} {tt : TT} {te : TE} {ω : DW} {τ : DT} {φ : DE} (hj : j1 ≠ j2) (hw : SW K wi ω) (ht : ST K tt τ) (he : SE K te φ) : SE K (tLc wi (gPair K j1 j2) tt te [j1, j2]) (dLcP ω j1 j2 τ φ) := by
  intro env M Q σ B H QV hs hc q k
  refine hw env M _ σ B H _ hs hc q fun ys stay M1 B1 H1 J q1 n1 w => ?_
  obtain ⟨Inv, i0, ist, istep, iend⟩ := q1
  intro D hD
  have hBD : B1 D = none := by
    cases z : B1 D with
    | none => rfl
    | some o =>
      rw [n1.st.ex D o z] at hD
      cases hD
  have hMD : M1 D = none := by
    cases z : M1 D with
    | none => rfl
    | some m =>
      obtain ⟨o, ho⟩ := n1.st.there z
      rw [ho] at hD
      cases hD
  refine ⟨fun i m H' => m = ys.length - i ∧ i ≤ ys.length ∧ ∃ acc M' B' xs, Inv i acc M' ∧ Nx K B1 M1 H1 B' M' H' ∧ B' D = none ∧ M' D = none ∧ H' D = some (.lst xs) ∧ RpA K B' xs acc, ⟨ys.length, by omega, Nat.zero_le _, [], M1, B1, [], i0, (Nx.refl n1.st).poke hD hBD hMD, hBD, hMD, upd_same, .nil⟩, ?_⟩
  rintro i m H' ⟨rfl, hi, acc, M', B', xs, iv, n2, hb2, hm2, hx, ra⟩
  have st := ist i acc M' hi iv
  by_cases hlt : i < ys.length
  · refine Or.inr ⟨w.go i B' M' H' n2.ext n2.st st hlt, fun H3 => ∃ acc M' B' xs, Inv (i + 1) acc M' ∧ Nx K B1 M1 H1 B' M' H3 ∧ B' D = none ∧ M' D = none ∧ H3 D = some (.lst xs) ∧ RpA K B' xs acc, fun H3 hN => ⟨ys.length - (i + 1), by omega, rfl, hlt, hN⟩, fun x H3 y => ?_⟩
    obtain ⟨B3, d, n3, hd, rd⟩ := w.yld i x B' M' H' H3 n2.ext n2.st st hlt y
    obtain ⟨y1, y2, rfl, q3⟩ := istep i d acc M' hd iv
    cases rd with
    | tup t1 t2 =>
      obtain ⟨v1, v2, rfl, r1, r2⟩ := t2.two
      refine ⟨_, _, rfl, n3.st.ex.st t1, rfl, v1, [v2], rfl, v2, [], rfl, rfl, ?_⟩
      rw [set_pair hj]
      refine ⟨wipe_pair hj, ?_⟩
      have n23 := n2.trans n3
      have s3 : SR K B3 ((σ.set j1 (some v1)).set j2 (some v2)) ((env.set j1 (some y1)).set j2 (some y2)) := (((hs.mono n1.ext).mono n23.ext).set r1 j1).set r2 j2
      have hx3 := n3.keep D _ hm2 hx
      have hb3 : B3 D = none := (n3.new D _ hx hm2).trans hb2
      refine ht _ M' _ _ B3 H3 _ s3 n3.st q3 fun b M4 B4 H4 q4 n4 => ?_
      have n234 := n23.trans n4
      have hx4 := n4.keep D _ hm2 hx3
      have hb4 : B4 D = none := (n4.new D _ hx3 hm2).trans hb3
      have hm4 : M4 D = none := n4.dom D _ hx3 hm2
      cases b with
      | true =>
        rw [if_pos rfl] at q4 ⊢
        refine he _ M4 _ _ B4 H4 _ (s3.mono n4.ext) n4.st q4 fun r M5 v B5 H5 q5 n5 r5 => ?_
        obtain ⟨hl, iv'⟩ := q5
        obtain ⟨B6, n6, g6, _⟩ := settle_ok r5 n5
        have hx6 := n6.keep D _ hm4 hx4
        have hb6 : B6 D = none := (n6.new D _ hx4 hm4).trans hb4
        have hm6 : M5 D = none := n6.dom D _ hx4 hm4
        have n26 := n234.trans n6
        have ra6 : RpA K B6 (xs ++ [v]) (acc ++ [settle r]) := (ra.mono ((n3.trans n4).trans n6).ext).append (.cons g6 .nil)
        exact ⟨xs, hx6, by rw [ra.length]; exact hl, acc ++ [settle r], M5, B6, xs ++ [v], iv', n26.poke hD hb6 hm6, hb6, hm6, upd_same, ra6⟩
      | false =>
        rw [if_neg Bool.false_ne_true] at q4 ⊢
        exact ⟨acc, M4, B4, xs, q4, n234, hb4, hm4, hx4, ra.mono (n3.trans n4).ext⟩
  · have e : i = ys.length := by omega
    subst e
    refine Or.inl ⟨w.stop _ B' M' H' n2.ext n2.st st rfl, ?_⟩
    exact k _ _ _ _ _ (iend acc M' iv) (n1.trans n2) ⟨D, rfl, n1.back hD, hb2, hm2, xs, hx, ra⟩
section
variable {j1 j2 : Nat} {x1 x2 : Str} {p1 p2 tp pos : Pos} {cc : Nat} {elt iter : Expr} {ifs : List Expr} {scope : Scope} {wi : TI} {tt : TT} {te : TE} {ω : DW} {τ : DT} {φ : DE}
theorem pg_pair {X : Cx} (hc : X.calm = true) (hN : X.N.Nodup) (h1 : X.N[j1]? = some x1) (h2 : X.N[j2]? = some x2) (l1 : Loc X.env.scope x1) (l2 : Loc X.env.scope x2) (f1 : X.fn x1 = true ∨ X.env.scope.names.lookup x1 = some .local) (f2 : X.fn x2 = true ∨ X.env.scope.names.lookup x2 = some .local) :
    PG X (.Tuple [.Name x1 p1, .Name x2 p2] cc tp) (gPair X.K j1 j2) :=
  pg_tup hc (pgs_cons (pg_name hN h1 l1 f1) (pgs_cons (pg_name hN h2 l2 f2) pgs_nil (by rfl)) (by rfl)) (by rfl) (by rfl)
theorem ex_lcp (hj : j1 ≠ j2) (hc : X.calm = true) (hN : X.N.Nodup) (hi : IX X (.Tuple [.Name x1 p1, .Name x2 p2] cc tp) iter wi ω) (ok : BlkOk X.N X.env.scope scope [(x1, j1), (x2, j2)])
    (hg : ∀ (s : Shared) (H : Hp) (C : Addr) (cl : List (Str × Addr)) (fp : List Addr), PG (X.blk s H scope (compEnvC scope cl C X.env) fp) (.Tuple [.Name x1 p1, .Name x2 p2] cc tp) (gPair X.K j1 j2)) (ht : ∀ (s : Shared) (H : Hp) (C : Addr) (cl : List (Str × Addr)) (fp : List Addr), ∃ tt, TsX (X.blk s H scope (compEnvC scope cl C X.env) fp) ifs tt τ)
    (he : ∀ (s : Shared) (H : Hp) (C : Addr) (cl : List (Str × Addr)) (fp : List Addr), ∃ te, EX (X.blk s H scope (compEnvC scope cl C X.env) fp) elt te φ) (hs : ∀ x, foldedSetIterable iter X.env x = pure x := by intro _; rfl) :
    EX X (.ListComp elt [⟨.Tuple [.Name x1 p1, .Name x2 p2] cc tp, iter, ifs, 0⟩] scope pos) (tLc wi (gPair X.K j1 j2) (tOfT X.K τ) (tOf X.K φ) [j1, j2]) (dLcP ω j1 j2 τ φ) :=
  ⟨pe_lc (own := [(x1, j1), (x2, j2)]) hc hN hi.pi ok hg (fun s H C cl fp => (ht s H C cl fp).elim fun _ h => h.of.pt) (fun s H C cl fp => (he s H C cl fp).elim fun _ h => h.of.pe) hs,
    SE.lcp hj hi.s ((ht X.s_0 X.H_0 0 [] []).elim fun _ h => h.of.s) ((he X.s_0 X.H_0 0 [] []).elim fun _ h => h.of.s)⟩
theorem sx_setLcPD {i : Nat} {y : Str} {py spos : Pos} (hj : j1 ≠ j2) (hc : X.calm = true) (hN : X.N.Nodup) (hi : IX X (.Tuple [.Name x1 p1, .Name x2 p2] cc tp) iter wi ω) (ok : BlkOk X.N X.env.scope scope [(x1, j1), (x2, j2)])
    (hg : ∀ (s : Shared) (H : Hp) (C : Addr) (cl : List (Str × Addr)) (fp : List Addr), PG (X.blk s H scope (compEnvC scope cl C X.env) fp) (.Tuple [.Name x1 p1, .Name x2 p2] cc tp) (gPair X.K j1 j2)) (ht : ∀ (s : Shared) (H : Hp) (C : Addr) (cl : List (Str × Addr)) (fp : List Addr), ∃ tt, TsX (X.blk s H scope (compEnvC scope cl C X.env) fp) ifs tt τ)
    (he : ∀ (s : Shared) (H : Hp) (C : Addr) (cl : List (Str × Addr)) (fp : List Addr), ∃ te, EX (X.blk s H scope (compEnvC scope cl C X.env) fp) elt te φ) (hsw : swapsWith (.ListComp elt [⟨.Tuple [.Name x1 p1, .Name x2 p2] cc tp, iter, ifs, 0⟩] scope pos) (some (.Name y py)) spos.line X.env = pure true)
    (hy : X.N[i]? = some y := by rfl) (hyl : X.env.scope.names.lookup y = some .local := by rfl) (hs : ∀ x, foldedSetIterable iter X.env x = pure x := by intro _; rfl) :
    SX X (.Assign [.Name y py] (.ListComp elt [⟨.Tuple [.Name x1 p1, .Name x2 p2] cc tp, iter, ifs, 0⟩] scope pos) spos) (tAsg (tLc wi (gPair X.K j1 j2) (tOfT X.K τ) (tOf X.K φ) [j1, j2]) (gName i)) (dSet (dLcP ω j1 j2 τ φ) i) :=
  ⟨ps_setLc (own := [(x1, j1), (x2, j2)]) hc hN hy hyl hsw hi.pi ok hg (fun s H C cl fp => (ht s H C cl fp).elim fun _ h => h.of.pt) (fun s H C cl fp => (he s H C cl fp).elim fun _ h => h.of.pe) hs,
    SS.set (SE.lcp hj hi.s ((ht X.s_0 X.H_0 0 [] []).elim fun _ h => h.of.s) ((he X.s_0 X.H_0 0 [] []).elim fun _ h => h.of.s))⟩
end
/-! ### is True -/
def rIsB : R2 := fun x y H Q => ∃ a b, x = .bl a ∧ y = .bl b ∧ Q (.bl (a == b)) H
theorem op_isB : OpR X (compareOp .Is) rIsB := by
  intro pins s σ H x y v u Q I rx ry h
  obtain ⟨a, b, rfl, rfl, q⟩ := h
  cases rx
  cases ry
  show wpAny _ _ ((isSame (Value.bool a) (Value.bool b)) >>= fun z => pure (Value.bool z)) _ _ s
  exact wpAny_bind (wpAny_of_eq (a := (a == b)) (by cases a <;> cases b <;> rfl) (wpAny_pure ⟨.bl (a == b), H, I, rfl, q⟩))
def oIsB : D2 := fun ra rb M Q => match ra, rb with
  | .d (.bl a), .d (.bl b) => Q (.d (.bl (a == b))) M
  | _, _ => False
theorem s2_isB : S2 K rIsB oIsB := by
  intro B M H0 H x y rx ry Q QV hc h1 h2 q k
  unfold oIsB at q
  split at q
  · cases h1
    cases h2
    exact ⟨_, _, rfl, rfl, k _ _ _ _ _ q (Nx.refl hc) (.bl _)⟩
  · exact q.elim
theorem tx_isB {a b : Expr} {ta tb : TE} {φa φb : DE} {pos : Pos} (ha : EX X a ta φa) (hb : EX X b tb φb) : TX X (.Compare a [.Is] [b] pos) (tTest (tOp rIsB ta tb)) (dTest (dOp oIsB φa φb)) := tx_cmp op_isB s2_isB ha hb (nomark _)
end
end Dl
namespace Dl
open PySem PySem.Spec PyProof.Rows L2
/-- what may be a cell is held for good here -/
def dHoldM (φ : DE) : DE := fun env M Q => φ env M fun r M1 => match r with
  | .d (.cell p) => ∃ m, M1 p = some m ∧ Q (.d (frz m)) (M1.del p)
  | r => Q r M1
theorem ex_holdM {X : Cx} {e : Expr} {t : TE} {φ : DE} (h : EX X e t φ) : EX X e t (dHoldM φ) := ⟨h.pe, fun env M Q σ B H QV hs hc q k => by
  refine h.s env M _ σ B H _ hs hc q fun r M1 v B1 H1 q1 n1 r1 => ?_
  split at q1
  · obtain ⟨m, hm, q2⟩ := q1
    cases r1
    obtain ⟨B2, n2, g2⟩ := n1.st.hold hm
    exact k _ _ _ _ _ q2 (n1.trans n2) g2
  · exact k _ _ _ _ _ q1 n1 r1⟩
end Dl
set_option Elab.async false
set_option linter.all false
set_option maxRecDepth 100000
set_option maxHeartbeats 4000000
namespace Dl
open PySem PySem.Spec PyProof.Rows L2
section
variable {X : Cx} {K : PySem.W.Frag}
/-! ### math.gcd -/
def bGcd : FS := fun ds M Q => match ds with
  | [.int i, .int j] => Q (.d (.int ((Nat.gcd i.natAbs j.natAbs : Nat) : Int))) M
  | _ => False
theorem sc_gcd : SC K rGcd bGcd := by
  intro B M H vs ds Q QV hc ra q k
  unfold bGcd at q
  split at q
  · obtain ⟨v, w, rfl, r1, r2⟩ := ra.two
    cases r1
    cases r2
    exact ⟨_, _, rfl, k _ _ _ _ _ q (Nx.refl hc) (.int _)⟩
  · exact q.elim
theorem ex_gcd {x : Str} {p pos : Pos} {e : Expr} {es : List Expr} {t : TA} {ψ : DA} (hm : X.mg x = some (.builtin "math.gcd")) (ha : AX X (e :: es) t ψ) (hg : Gl X x := by rfl) (hdb : (x == ("__debug__" : Str)) = false := by decide)
    (he : starEach (e :: es) X.env = (false, eval e X.env) :: starEach es X.env := by rfl) (hpl : (backTo pos (starEach es X.env)).any (·.1) = false := by rfl) : EX X (.Call (.Name x p) (e :: es) [] pos) (tCB rGcd t) (dCB bGcd ψ) :=
  ⟨pe_callBfun cr_gcd hg hm ha.pa hdb he hpl, SE.cb sc_gcd ha.s⟩
/-! ### list(range(a, b)) -/
def rngV (lo : Int) (n : Nat) : List V := (List.range n).map fun i : Nat => V.int (lo + i)
def rLRng : List V → Hp → VK → Prop := fun xs H Q => ∃ p lo hi, xs = [.ref p] ∧ H p = some (.rng lo hi) ∧ (-(2 ^ 60) ≤ lo ∧ lo < 2 ^ 60) ∧ (-(2 ^ 60) ≤ hi ∧ hi < 2 ^ 60) ∧ (hi - lo).toNat ≤ sizeLine ∧ ∀ q, H q = none → Q (.ref q) (upd H q (.lst (rngV lo (hi - lo).toNat)))
theorem small_rng {lo hi : Int} (h1 : -(2 ^ 60) ≤ lo ∧ lo < 2 ^ 60) (h2 : -(2 ^ 60) ≤ hi ∧ hi < 2 ^ 60) : Builtin.Range.small lo hi 1 = true := by
  unfold Builtin.Range.small Builtin.Range.rangeSize
  have e : (2 : Int) ^ 60 = 1152921504606846976 := by decide
  rw [e] at h1 h2
  rw [if_pos (by decide), Int.ediv_one]
  have e3 : (2 : Int) ^ 63 = 9223372036854775808 := by decide
  have fl : ∀ z : Int, -9223372036854775808 ≤ z → z < 9223372036854775808 → Builtin.Range.rangeFitsLong z = true := fun z a b => by
    unfold Builtin.Range.rangeFitsLong
    rw [e3, decide_eq_true a, decide_eq_true b] <;> rfl
  rw [fl lo (by omega) (by omega), fl hi (by omega) (by omega), fl 1 (by omega) (by omega), fl _ (by split <;> omega) (by split <;> omega), fl (hi + (1 - 1)) (by omega) (by omega), if_pos (show (1 : Int) > 0 by decide), Bool.or_true] <;> rfl
theorem call_list_rng (hc : X.calm = true) : CallR X (.type "list") rLRng := by
  intro pins s σ H xs us Q I r h
  obtain ⟨p, lo, hi, rfl, hp, h1, h2, hz, q⟩ := h
  obtain ⟨u, rfl, rx⟩ := vals1 r
  obtain rfl : u = Value.ref p := rx
  obtain ⟨t, u, v, ho⟩ := (show ObjOk X.prog X.w H s.heap p (.rng lo hi) from I.hok p _ hp)
  have hn : Builtin.Range.rangeSize lo hi 1 = (hi - lo).toNat := by
    unfold Builtin.Range.rangeSize
    rw [if_pos (by decide)]
    split
    · rw [Int.ediv_one]; omega
    · omega
  refine PySem.call_list_range (I.ok.hd hc) ho (small_rng h1 h2) hn (by rw [sizeLine_eq] at hz; exact hz) fun h' tk acc' c' hkeep hS hacc => ?_
  refine ⟨.ref s.heap.objs.size, upd H s.heap.objs.size (.lst (rngV lo (hi - lo).toNat)), I.laid hkeep (Nat.le_refl _) (show ObjOk X.prog X.w _ _ _ (.lst (rngV lo (hi - lo).toNat)) from ⟨?_, acc'.toList, c', ?_, ?_⟩), rfl, q _ (I.hok.fresh (Nat.le_refl _))⟩
  · unfold rngV
    rw [List.length_map, List.length_range]; exact hz
  · have el : acc'.toList.length = acc'.size := by simp
    refine vals_of_at (by unfold rngV; rw [List.length_map, List.length_range, el, hacc.1]) fun j x w h1 h2 => ?_
    obtain ⟨tk, e⟩ := hacc.2 j w (by rw [← Array.getElem?_toList]; exact h2)
    have hj : j < (hi - lo).toNat := by
      by_cases z : j < (hi - lo).toNat
      · exact z
      · unfold rngV at h1
        rw [List.getElem?_eq_none (by rw [List.length_map, List.length_range]; omega)] at h1
        cases h1
    unfold rngV at h1
    rw [List.getElem?_map, List.getElem?_range hj] at h1
    have e1 := Option.some.inj h1
    subst e1 e
    rw [Int.mul_one]
    exact ⟨_, rfl⟩
  · rw [Array.toArray_toList]; exact hS
def rRng2 : List V → Hp → VK → Prop := fun vs H Q => ∃ i j, vs = [V.int i, V.int j] ∧ ∀ p, H p = none → Q (.ref p) (upd H p (.rng i j))
def dLRng (ψ : DA) : DE := fun env M Q => ψ env M fun ds M1 => match ds with
  | [.int i, .int j] => (-(2 ^ 60) ≤ i ∧ i < 2 ^ 60) ∧ (-(2 ^ 60) ≤ j ∧ j < 2 ^ 60) ∧ (j - i).toNat ≤ sizeLine ∧ Q (.new (.lst (rngD i (j - i).toNat))) M1
  | _ => False
theorem rngD_rp {B : Hp} {lo : Int} {n : Nat} : RpA K B (rngV lo n) (rngD lo n) := by
  unfold rngV rngD
  induction List.range n with
  | nil => exact .nil
  | cons a r ih => exact .cons (.int _) ih
theorem ex_listRng {p p2 pos pos2 : Pos} {a b : Expr} {t : TA} {ψ : DA} (hc : X.calm = true) (hl : X.mg "list" = none) (hm : X.mg "range" = none) (ha : AX X [a, b] t ψ) (hg : Gl X "list" := by rfl) (hg2 : Gl X "range" := by rfl)
    (he : starEach [a, b] X.env = (false, eval a X.env) :: starEach [b] X.env := by rfl) (hpl : (backTo pos2 (starEach [b] X.env)).any (·.1) = false := by rfl)
    (he2 : starEach [.Call (.Name "range" p2) [a, b] [] pos2] X.env = (false, eval (.Call (.Name "range" p2) [a, b] [] pos2) X.env) :: starEach [] X.env := by rfl) (hpl2 : (backTo pos (starEach [] X.env)).any (·.1) = false := by rfl) :
    EX X (.Call (.Name "list" p) [.Call (.Name "range" p2) [a, b] [] pos2] [] pos) (tCB rLRng (tCons (tCB rRng2 t) tNil)) (dLRng ψ) := by
  refine ⟨pe_callTy (call_list_rng hc) hg hl (by decide +kernel) (pa_cons (pe_callTy cr_range2 hg2 hm (by decide +kernel) ha.pa (by decide) (by decide) he hpl) pa_nil he2) (by decide) (by decide) he2 hpl2, fun env M Q σ B H QV hs hc q k => ?_⟩
  refine ha.s env M _ σ B H _ hs hc q fun ds M1 vs B1 H1 q1 n1 r1 => ?_
  split at q1
  · rename_i i j
    obtain ⟨z1, z2, z3, q2⟩ := q1
    obtain ⟨v, w, rfl, ra, rb⟩ := r1.two
    cases ra
    cases rb
    refine ⟨i, j, rfl, fun p hp => ?_⟩
    have n2 := Nx.same n1.st (ex_upd (o := .rng i j) hp)
    refine ⟨p, i, j, rfl, upd_same, z1, z2, z3, fun l hl => ?_⟩
    obtain ⟨n3, g3⟩ := RR.newL n2.st hl (rngD_rp (lo := i) (n := (j - i).toNat))
    exact k _ _ _ _ _ q2 ((n1.trans n2).trans n3) (g3.back (n1.trans n2))
  · exact q1.elim
/-! ### a, b = x, y: no pair is made -/
def dPar (i j : Nat) (ψ : DA) : DS := fun E env M => ψ env M fun ds M1 => match ds with
  | [a, b] => E.nx ((env.set i (some a)).set j (some b)) M1
  | _ => False
theorem sx_par {i j : Nat} {x y : Str} {a b : Expr} {t : TA} {ψ : DA} {px py pt pos : Pos} {kt k2 : Nat} {pt2 : Pos} (hc : X.calm = true) (hN : X.N.Nodup) (hi : X.N[i]? = some x) (hj : X.N[j]? = some y) (hij : i ≠ j)
    (hx : X.env.scope.names.lookup x = some .local) (hy : X.env.scope.names.lookup y = some .local) (ha : AX X [a, b] t ψ)
    (hw : swappedStores [.Tuple [.Name x px, .Name y py] kt pt] (.Tuple [a, b] k2 pt2) X.env = pure (some [x, y]))
    (hs : swapsWithSole [.Tuple [.Name x px, .Name y py] kt pt] (.Tuple [a, b] k2 pt2) pos.line X.env = pure false := by rfl) :
    SX X (.Assign [.Tuple [.Name x px, .Name y py] kt pt] (.Tuple [a, b] k2 pt2) pos) (tPar i j t) (dPar i j ψ) := ⟨ps_par hc hN hi hj hij hx hy ha.pa hw hs, fun E env M σ B H D hs hc q l => by
  refine ha.s env M _ σ B H _ hs hc q fun ds M1 vs B1 H1 q1 n1 r1 => ?_
  split at q1
  · obtain ⟨v, w, rfl, ra, rb⟩ := r1.two
    exact ⟨v, w, rfl, l.nx _ _ _ _ _ q1 n1 (((hs.mono n1.ext).set ra i).set rb j)⟩
  · exact q1.elim⟩
end
end Dl
set_option Elab.async false
set_option linter.all false
set_option maxRecDepth 100000
set_option maxHeartbeats 4000000
namespace Lw
open PySem PySem.Spec PyProof.Rows L2 Dl
def top (i : Nat) : Stmt := PySem.Challenge.pw_loopsame_k03_judge_sum_lines.main.body.getD i (.Pass ⟨0, 0, 0, 0⟩)
/-! ### the plain law's words -/
abbrev iL (ns : List Int) : List Dat := ns.map Dat.int
inductive Kd where
  | ge | eq | div (m : Int)
structure Cd where
  k : Kd
  a : List Int
  c : Int
def Cd.row (x : Cd) : List Int := x.a ++ [x.c]
def Cd.its (x : Cd) : List Dat := match x.k with
  | .ge => [.str "ge", .tup (iL x.row)]
  | .eq => [.str "eq", .tup (iL x.row)]
  | .div m => [.str "div", .int m, .tup (iL x.row)]
def Cd.enc (x : Cd) : Dat := .tup x.its
def dot : List Int → List Int → Int
  | a :: r, b :: p => a * b + dot r p
  | _, _ => 0
def Cd.val (x : Cd) (p : List Int) : Int := x.c + dot x.a p
def Cd.met (x : Cd) (p : List Int) : Bool := match x.k with
  | .ge => decide (0 ≤ x.val p)
  | .eq => decide (x.val p = 0)
  | .div m => decide (x.val p % m = 0)
def Kd.isDiv : Kd → Bool
  | .div _ => true
  | _ => false
def Kd.isGe : Kd → Bool
  | .ge => true
  | _ => false
def nd (cs : List Cd) : Nat := (cs.filter fun x => x.k.isDiv).length
def qv (many seen : Nat) : Kd → List Int
  | .div m => (List.replicate many 0).set seen (-m)
  | _ => List.replicate many 0
def prow (many seen : Nat) (x : Cd) : List Int := x.a ++ qv many seen x.k ++ [x.c]
def prows1 (many seen : Nat) (x : Cd) : List (List Int) := prow many seen x :: (if x.k.isGe = true then [] else [(prow many seen x).map fun y => -y])
def nxt (seen : Nat) (k : Kd) : Nat := if k.isDiv = true then seen + 1 else seen
def prows (many : Nat) : Nat → List Cd → List (List Int)
  | _, [] => []
  | seen, x :: r => prows1 many seen x ++ prows many (nxt seen x.k) r
abbrev encR (r : List Int) : Dat := .tup (iL r)
def Sm (b : Int) (l : List Int) : Prop := ∀ x ∈ l, -b ≤ x ∧ x ≤ b
def Kd.ok : Kd → Prop
  | .div m => 2 ≤ m ∧ m ≤ 60
  | _ => True
def Gd (w : Nat) (b : Int) (x : Cd) : Prop := x.a.length = w ∧ Sm 1000000000 x.a ∧ -b ≤ x.c ∧ x.c ≤ b ∧ x.k.ok
def Good (w : Nat) (cs : List Cd) : Prop := ∀ x ∈ cs, Gd w 10000000000000000000 x
def sysD (C : Addr) (w : Nat) (cs : List Cd) : Dat := .ins C [("width", .int w), ("conditions", .tup (cs.map Cd.enc))]
def Cd.wide (n : Nat) (x : Cd) : Cd := ⟨x.k, x.a ++ List.replicate n 0, x.c⟩
def Cd.fix (ns : List Int) (x : Cd) : Cd := ⟨x.k, x.a.drop ns.length, x.c + dot (x.a.take ns.length) ns⟩
/-! ### promises -/
def PoolAt (M : Mem) (p : Addr) : Prop := ∃ ns : List Int, ns.length ≤ 63 ∧ M p = some (.lst (iL ns))
def PoolTo (M : Mem) (p : Addr) (M' : Mem) : Prop := ∃ ns : List Int, ns.length ≤ 63 ∧ M' = M.set p (.lst (iL ns))
def fs_negated : FS := fun ds M Q => ∃ r : List Int, ds = [encR r] ∧ r.length ≤ 1000 ∧ Q (.d (encR (r.map fun y => -y))) M
def fs_extended : FS := fun ds M Q => ∃ (a : List Int) (c : Int) (n : Nat), ds = [encR (a ++ [c]), .int n] ∧ a.length ≤ 1000 ∧ n ≤ 1000 ∧ Q (.d (encR (a ++ List.replicate n 0 ++ [c]))) M
def fs__copied : FS := fun ds M Q => ∃ (x : Cd) (w : Nat), ds = [x.enc, .int w] ∧ x.a.length = w ∧ x.k.ok ∧ Q (.d x.enc) M
def fs_System___init__ (C : Addr) : FS := fun ds M Q => ∃ (p : Addr) (w : Nat) (d : Dat) (cs : List Cd), ds = [.cell p, .int w, d] ∧ M p = some (.obj C []) ∧ SeqR M (.d d) (cs.map Cd.enc) ∧ w ≤ 80 ∧ cs.length ≤ 1000 ∧ Good w cs ∧
  Q (.d .non) (M.set p (.obj C [("width", .int w), ("conditions", .tup (cs.map Cd.enc))]))
def fs_System_plain_width (C : Addr) : FS := fun ds M Q => ∃ (w : Nat) (cs : List Cd), ds = [sysD C w cs] ∧ cs.length ≤ 1000 ∧ Q (.d (.int ((w : Int) + (nd cs : Int)))) M
def fs_System_plain_rows (C : Addr) : FS := fun ds M Q => ∃ (w : Nat) (cs : List Cd), ds = [sysD C w cs] ∧ cs.length ≤ 500 ∧ w ≤ 80 ∧ (∀ x ∈ cs, x.a.length = w) ∧ Q (.new (.lst ((prows (nd cs) 0 cs).map encR))) M
def fs__law_draw : FS := fun ds M Q => ∃ (p : Addr) (m : Int), ds = [.cell p, .int m] ∧ PoolAt M p ∧ 0 < m ∧ m.natAbs.log2 < 9000 ∧ ∀ v M', 0 ≤ v → v < m → PoolTo M p M' → Q (.d (.int v)) M'
def fs__law_number : FS := fun ds M Q => ∃ (p : Addr) (z t : Int), ds = [.cell p, .int z, .int t] ∧ PoolAt M p ∧ 0 ≤ z ∧ z ≤ 1000000000 ∧ ∀ v M', -z ≤ v → v ≤ z → PoolTo M p M' → Q (.d (.int v)) M'
def fs__law_plain : FS := fun ds M Q => ∃ (w : Nat) (cs : List Cd), ds = [.int w, .lst (cs.map Cd.enc)] ∧ cs.length ≤ 500 ∧ w ≤ 80 ∧ (∀ x ∈ cs, x.a.length = w) ∧ Q (.new (.lst ((prows (nd cs) 0 cs).map encR))) M
/-! ### certificates -/
inductive Bd where
  | sum (d : Int) (ps : List (Int × Int))
  | split (r : List Int)
  | fls (i : Int)
structure Ln where
  w : Str
  b : Bd
def encP (p : Int × Int) : Dat := .tup [.int p.1, .int p.2]
def Bd.its : Bd → List Dat
  | .sum d ps => [.int d, .tup (ps.map encP)]
  | .split r => [encR r]
  | .fls i => [.int i]
def Ln.enc (l : Ln) : Dat := .tup (.str l.w :: l.b.its)
def Bd.nm : Bd → Str
  | .sum _ _ => "sum"
  | .split _ => "split"
  | .fls _ => "false"
def okP (n : Nat) (p : Int × Int) : Bool := decide (0 ≤ p.1) && (decide (p.1 < n) && decide (1 ≤ p.2))
def addR (t : List Int) (f : Int) (r : List Int) : List Int := (t.zip r).map fun x => x.1 + f * x.2
def comb (W : Nat) (qs : List (Int × List Int)) : List Int := qs.foldl (fun t q => addR t q.1 q.2) (List.replicate (W + 1) 0)
def pick (rows : List (List Int)) (ps : List (Int × Int)) : List (Int × List Int) := ps.map fun p => (p.2, rows.getD p.1.toNat [])
def sumRow (W : Nat) (rows : List (List Int)) (d : Int) (ps : List (Int × Int)) : Option (List Int) :=
  if d < 1 ∨ ps = [] then none else if ps.all (okP rows.length) = true then
    (if ((comb W (pick rows ps)).take W).all (fun x => decide (x % d = 0)) = true then some ((comb W (pick rows ps)).map fun x => x / d) else none) else none
def isF (W : Nat) (rows : List (List Int)) (i : Int) : Bool := decide (0 ≤ i) && (decide (i < rows.length) && (((rows.getD i.toNat []).take W).all (fun x => decide (x = 0)) && decide ((rows.getD i.toNat []).getD W 0 < 0)))
def spl (W : Nat) (r : List Int) : List Int := ((r.take W).map fun y => -y) ++ [-(r.getD W 0) - 1]
def run (W : Nat) : List (List Int) → List (Nat × List Int) → List Ln → Bool
  | _, _, [] => false
  | rows, marks, l :: ls => if l.w = l.b.nm then (match l.b with
      | .sum d ps => (match sumRow W rows d ps with
        | none => false
        | some r => run W (rows ++ [r]) marks ls)
      | .split r => if r.length = W + 1 then run W (rows ++ [spl W r]) (marks ++ [(rows.length, r)]) ls else false
      | .fls i => if isF W rows i = true then (match marks.getLast? with
        | none => ls.isEmpty
        | some q => run W (rows.take q.1 ++ [q.2]) marks.dropLast ls) else false) else false
/-- a line whose word is that of its parts, or none of the three -/
def Ln.wd (l : Ln) : Prop := l.w = l.b.nm ∨ (l.w ≠ "sum" ∧ l.w ≠ "split" ∧ l.w ≠ "false")
def mulOk (rows : List (List Int)) (ps : List (Int × Int)) : Prop := ∀ p ∈ ps, ∀ r ∈ rows, ∀ x ∈ r, CMulG p.2 x
/-- along the run no product is too large -/
def fit (W : Nat) : List (List Int) → List (Nat × List Int) → List Ln → Prop
  | _, _, [] => True
  | rows, marks, l :: ls => l.w = l.b.nm → (match l.b with
      | .sum d ps => ps.length ≤ 100 ∧ d.natAbs.log2 < 9000 ∧ mulOk rows ps ∧ (match sumRow W rows d ps with
        | none => True
        | some r => fit W (rows ++ [r]) marks ls)
      | .split r => r.length = W + 1 → fit W (rows ++ [spl W r]) (marks ++ [(rows.length, r)]) ls
      | .fls i => isF W rows i = true → (match marks.getLast? with
        | none => True
        | some q => fit W (rows.take q.1 ++ [q.2]) marks.dropLast ls))
def encF (q : Int × List Int) : Dat := .tup [.int q.1, encR q.2]
def encB (x : Bool × List Int) : Dat := if x.1 = true then .tup (iL x.2) else .lst (iL x.2)
def encO : Option (List Int) → Dat
  | none => .non
  | some r => encR r
def Len (W : Nat) (rows : List (List Int)) : Prop := ∀ r ∈ rows, r.length = W + 1
def encFB (q : Int × Bool × List Int) : Dat := .tup [.int q.1, encB q.2]
def nob (q : Int × Bool × List Int) : Int × List Int := (q.1, q.2.2)
def fs_combined : FS := fun ds M Q => ∃ (qs : List (Int × Bool × List Int)) (W : Nat) (e : Dat), ds = [e] ∧ SeqR M (.d e) (qs.map encFB) ∧ qs ≠ [] ∧ qs.length ≤ 1000 ∧ W ≤ 1000 ∧ (∀ q ∈ qs, q.2.2.length = W + 1 ∧ ∀ x ∈ q.2.2, CMulG q.1 x) ∧ Q (.d (encR (comb W (qs.map nob)))) M
def fs_divided : FS := fun ds M Q => ∃ (r : List Int) (d : Int) (e : Dat), ds = [e, .int d] ∧ SeqR M (.d e) (iL r) ∧ 0 < d ∧ d.natAbs.log2 < 9000 ∧ r.length ≤ 2000 ∧ Q (.d (encR (r.map fun x => x / d))) M
def fs_raised : FS := fun ds M Q => ∃ (a : List Int) (c e : Int), ds = [encR (a ++ [c]), .int e] ∧ a.length ≤ 2000 ∧ Q (.d (encR (a ++ [c + e]))) M
def fs__sum_row : FS := fun ds M Q => ∃ (W : Nat) (rows : List (List Int)) (e : Dat) (d : Int) (ps : List (Int × Int)), ds = [e, .int d, .tup (ps.map encP)] ∧ SeqR M (.d e) (rows.map encR) ∧ Len W rows ∧ W ≤ 1000 ∧ ps.length ≤ 100 ∧ d.natAbs.log2 < 9000 ∧ mulOk rows ps ∧ Q (.d (encO (sumRow W rows d ps))) M
def fs__is_false : FS := fun ds M Q => ∃ (W : Nat) (rows : List (List Int)) (e : Dat) (i : Int), ds = [e, .int i] ∧ SeqR M (.d e) (rows.map encR) ∧ Len W rows ∧ Q (.d (.bl (isF W rows i))) M
def fs_accepts (C : Addr) : FS := fun ds M Q => ∃ (w : Nat) (cs : List Cd) (e : Dat) (ls : List Ln), ds = [sysD C w cs, e] ∧ (∀ p, e ≠ .cell p) ∧ SeqR M (.d e) (ls.map Ln.enc) ∧ w ≤ 80 ∧ cs.length ≤ 100 ∧ ls.length ≤ 500 ∧ Good w cs ∧ (∀ l ∈ ls, l.wd) ∧ fit (w + nd cs) (prows (nd cs) 0 cs) [] ls ∧
  Q (.d (.bl (run (w + nd cs) (prows (nd cs) 0 cs) [] ls))) M
def fs__law_summed : FS := fun ds M Q => ∃ (W : Nat) (rs : List (Bool × List Int)) (e : Dat) (x : Str) (d : Int) (ps : List (Int × Int)), ds = [.int W, e, Ln.enc ⟨x, .sum d ps⟩] ∧ SeqR M (.d e) (rs.map encB) ∧ Len W (rs.map (·.2)) ∧ W ≤ 1000 ∧ ps.length ≤ 100 ∧ d.natAbs.log2 < 9000 ∧ mulOk (rs.map (·.2)) ps ∧ Q (.d (encO (sumRow W (rs.map (·.2)) d ps))) M
def fs__law_takes : FS := fun ds M Q => ∃ (W : Nat) (rows : List (List Int)) (ls : List Ln), ds = [.int W, .lst (rows.map encR), .lst (ls.map Ln.enc)] ∧ Len W rows ∧ W ≤ 1000 ∧ rows.length ≤ 500 ∧ ls.length ≤ 500 ∧ (∀ l ∈ ls, l.wd) ∧ fit W rows [] ls ∧ Q (.d (.bl (run W rows [] ls))) M
def fs__law_times : FS := fun ds M Q => ∃ (r : List Int) (f : Int) (e : Dat), ds = [e, .int f] ∧ SeqR M (.d e) (iL r) ∧ r.length ≤ 1000 ∧ -1000000000000000000 ≤ f ∧ f ≤ 1000000000000000000 ∧ Q (.d (encR (r.map fun x => f * x))) M
/-! ### what repr shows of lines -/
abbrev pyR (r : List Int) : PyData := .tuple (r.map PyData.int)
abbrev pyP (p : Int × Int) : PyData := pyR [p.1, p.2]
def Bd.pys : Bd → List PyData
  | .sum d ps => [.int d, .tuple (ps.map pyP)]
  | .split r => [pyR r]
  | .fls i => [.int i]
def pyL (l : Ln) : PyData := .tuple (.str l.w :: l.b.pys)
def gcds (r : List Int) : Int := r.foldl (fun (g c : Int) => ((Nat.gcd g.natAbs c.natAbs : Nat) : Int)) 0
def fs_divisor : FS := fun ds M Q => ∃ (W : Nat) (r : List Int) (e : Dat), ds = [e] ∧ (e = .lst (iL r) ∨ e = encR r) ∧ r.length = W + 1 ∧ Q (.d (.int (gcds (r.take W)))) M
def fs__law_gcd : FS := fun ds M Q => ∃ r : List Int, ds = [.lst (iL r)] ∧ Q (.d (.int (gcds r))) M
def fs__law_noise : FS := fun ds M Q => ∃ (p : Addr) (w : Nat) (t : Int), ds = [.cell p, .int w, .int t] ∧ PoolAt M p ∧ w ≤ 2 ∧ ∀ x M', Gd w 1000 x → PoolTo M p M' → Q (.d x.enc) M'
/-- a line of a sum, small: its word is "sum" or none of the three; m: how many parts at most -/
def Sl (m : Nat) (l : Ln) : Prop := ∃ w d ps, l = ⟨w, .sum d ps⟩ ∧ (w = "sum" ∨ w = "sums" ∨ w = "" ∨ w = "Sum") ∧ (-5000 ≤ d ∧ d ≤ 5000) ∧ ps.length ≤ m ∧ ∀ p ∈ ps, (-5000 ≤ p.1 ∧ p.1 ≤ 5000) ∧ -5000 ≤ p.2 ∧ p.2 ≤ 5000
def coreQ (w : Nat) (p : Addr) (M : Mem) (Q : Rv → Mem → Prop) : Prop := ∀ (cs : List Cd) (ls : List Ln) M', cs.length ≤ 2 → (∀ x ∈ cs, Gd w 10000 x) → ls.length ≤ 5 → (∀ l ∈ ls, Sl 3 l) → PoolTo M p M' → Q (.d (.tup [.lst (cs.map Cd.enc), .lst (ls.map Ln.enc)])) M'
def coreA (w : Nat) (v : List Int) (at_ size : Int) : Prop := v.length = w ∧ Sm 3 v ∧ (0 ≤ at_ ∧ at_ ≤ 1000) ∧ (0 ≤ size ∧ size ≤ 1000)
def fs__law_pair : FS := fun ds M Q => ∃ (p : Addr) (w : Nat) (v : List Int) (at_ size : Int), ds = [.cell p, .tup (iL v), .int at_, .int size] ∧ PoolAt M p ∧ w ≤ 2 ∧ coreA w v at_ size ∧ coreQ w p M Q
def fs__law_parity : FS := fun ds M Q => ∃ (p : Addr) (w : Nat) (v : List Int) (at_ size : Int), ds = [.cell p, .tup (iL v), .int at_, .int size] ∧ PoolAt M p ∧ w ≤ 2 ∧ coreA w v at_ size ∧ coreQ w p M Q
def fs__law_remainder : FS := fun ds M Q => ∃ (p : Addr) (w : Nat) (v : List Int) (at_ size : Int), ds = [.cell p, .tup (iL v), .int at_, .int size] ∧ PoolAt M p ∧ w ≤ 2 ∧ coreA w v at_ size ∧ coreQ w p M Q
def fs__law_free : FS := fun ds M Q => ∃ (p : Addr) (w : Nat) (size : Int), ds = [.cell p, .int size] ∧ PoolAt M p ∧ (0 ≤ size ∧ size ≤ 1000) ∧ coreQ w p M Q
def fs__law_world : FS := fun ds M Q => ∃ p : Addr, ds = [.cell p] ∧ PoolAt M p ∧ ∀ (w : Nat) (cs : List Cd) (ls : List Ln) (size : Int) M', 1 ≤ w → w ≤ 2 → cs.length ≤ 6 → (∀ x ∈ cs, Gd w 10000 x) → ls.length ≤ 5 → (∀ l ∈ ls, Sl 3 l) → (1 ≤ size ∧ size ≤ 1000) → PoolTo M p M' →
  Q (.d (.tup [.int w, .lst (cs.map Cd.enc), .lst (ls.map Ln.enc), .int size])) M'
def fs__law_spoilt : FS := fun ds M Q => ∃ (p : Addr) (ls : List Ln) (size : Int) (m : Nat), ds = [.cell p, .lst (ls.map Ln.enc), .int size] ∧ PoolAt M p ∧ ls.length ≤ 100 ∧ m ≤ 10 ∧ (1 ≤ size ∧ size ≤ 1000) ∧ (∀ l ∈ ls, Sl m l) ∧
  ∀ (ls' : List Ln) M', ls'.length ≤ ls.length + 1 → (∀ l ∈ ls', Sl (m + 1) l) → PoolTo M p M' → Q (.d (.lst (ls'.map Ln.enc))) M' ∧ Q (.new (.lst (ls'.map Ln.enc))) M'
def scale (f : Int) (l : Ln) : Ln := match l.b with
  | .sum d ps => ⟨l.w, .sum (f * d) (ps.map fun p => (p.1, f * p.2))⟩
  | b => ⟨l.w, b⟩
def fs__law_scaled : FS := fun ds M Q => ∃ (ls : List Ln) (f : Int) (m : Nat), ds = [.lst (ls.map Ln.enc), .int f] ∧ ls.length ≤ 100 ∧ m ≤ 100 ∧ (∀ l ∈ ls, Sl m l) ∧ Q (.new (.lst ((ls.map (scale f)).map Ln.enc))) M
def fs__law_adds : FS := fun ds M Q => ∃ (W : Nat) (rows : List (List Int)) (ls : List Ln), ds = [.int W, .lst (rows.map encR), .lst (ls.map Ln.enc)] ∧ Len W rows ∧ W ≤ 20 ∧ rows.length ≤ 100 ∧ (∀ r ∈ rows, Sm 1000000000 r) ∧ ls.length ≤ 7 ∧ (∀ l ∈ ls, Sl 5 l) ∧ Q (.d (.bl true)) M
def fs__law_asked (C : Addr) : FS := fun ds M Q => ∃ (w : Nat) (cs : List Cd) (ls : List Ln), ds = [sysD C w cs, .lst (ls.map Ln.enc), .bl (run (w + nd cs) (prows (nd cs) 0 cs) [] ls)] ∧ w ≤ 80 ∧ cs.length ≤ 100 ∧ ls.length ≤ 100 ∧ Good w cs ∧ (∀ l ∈ ls, l.wd) ∧ fit (w + nd cs) (prows (nd cs) 0 cs) [] ls ∧
  Shows (.list (ls.map pyL)) ∧ Q (.d (.bl true)) M
def fs_law (C : Addr) : FS := fsLaw
end Lw
set_option Elab.async false
set_option linter.all false
set_option maxRecDepth 100000
set_option maxHeartbeats 4000000
namespace Lw
open PySem PySem.Spec PyProof.Rows L2 Dl StX ClX
/-! ### combined -/
abbrev s_combined : Stmt := top 8
abbrev N_combined : List Str := ["parts", "total", "factor", "row", "number", "other"]
def rd_combined : DS := dSeq (dSet (dOp oMul (dLst (dCons (dC (.int 0)) (dNil))) (dCB bLen (dCons (dOp oIx (dOp oIx (dVar 0) (dC (.int 0))) (dC (.int 1))) (dNil)))) 1)
  (dSeq (dFor (dSeqW (dVar 0)) (gdTup 2 (gdCons (gd 2) (gdCons (gd 3) (gdNil)))) (dSet (dLcP (dZipW (dCons (dVar 1) (dCons (dVar 3) (dNil)))) 4 5 (dYes) (dOp oAdd (dVar 4) (dOp oMul (dVar 2) (dVar 5)))) 1))
  (dRet (dCB bTuple (dCons (dVar 1) (dNil)))))
/-! ### divisor -/
abbrev s_divisor : Stmt := top 9
abbrev N_divisor : List Str := ["row", "found", "coefficient"]
def rd_divisor : DS := dSeq (dSet (dC (.int 0)) 1)
  (dSeq (dFor (dSeqW (dSl (dVar 0) (dNo) (dPart (dNeg (dC (.int 1)))))) (gd 2) (dSet (dCB bGcd (dCons (dVar 1) (dCons (dVar 2) (dNil)))) 1))
  (dRet (dVar 1)))
/-! ### divided -/
abbrev s_divided : Stmt := top 10
abbrev N_divided : List Str := ["row", "d", "number"]
def rd_divided : DS := dRet (dCB bTuple (dCons (dLc (dSeqW (dVar 0)) 2 (dYes) (dOp oDivI (dVar 2) (dVar 1))) (dNil)))
/-! ### negated -/
abbrev s_negated : Stmt := top 11
abbrev N_negated : List Str := ["row", "number"]
def rd_negated : DS := dRet (dCB bTuple (dCons (dLc (dSeqW (dVar 0)) 1 (dYes) (dNeg (dVar 1))) (dNil)))
/-! ### raised -/
abbrev s_raised : Stmt := top 12
abbrev N_raised : List Str := ["row", "c"]
def rd_raised : DS := dRet (dOp oAdd (dCB bTuple (dCons (dSl (dVar 0) (dNo) (dPart (dNeg (dC (.int 1))))) (dNil))) (dTup (dCons (dOp oAdd (dOp oIx (dVar 0) (dNeg (dC (.int 1)))) (dVar 1)) (dNil))))
/-! ### extended -/
abbrev s_extended : Stmt := top 13
abbrev N_extended : List Str := ["row", "count"]
def rd_extended : DS := dRet (dOp oAdd (dOp oAdd (dCB bTuple (dCons (dSl (dVar 0) (dNo) (dPart (dNeg (dC (.int 1))))) (dNil))) (dOp oMul (dTup (dCons (dC (.int 0)) (dNil))) (dVar 1))) (dTup (dCons (dOp oIx (dVar 0) (dNeg (dC (.int 1)))) (dNil))))
/-! ### _sum_row -/
abbrev s__sum_row : Stmt := top 15
abbrev N__sum_row : List Str := ["rows", "d", "parts", "index", "factor", "total", "coefficient"]
def rd__sum_row : DS := dSeq (dIfS (dOr (dTest (dOp oLt (dVar 1) (dC (.int 1)))) (dTest (dOp oEq (dCB bLen (dCons (dVar 2) (dNil))) (dC (.int 0))))) (dRet (dC .non)) (dNext))
  (dSeq (dFor (dSeqW (dVar 2)) (gdTup 2 (gdCons (gd 3) (gdCons (gd 4) (gdNil)))) (dIfS (dOr (dNot (dTest (dChain oLe oLt (dC (.int 0)) (dVar 3) (dCB bLen (dCons (dVar 0) (dNil)))))) (dTest (dOp oLt (dVar 4) (dC (.int 1))))) (dRet (dC .non)) (dNext)))
  (dSeq (dSet (dCB fs_combined (dCons (dLcP (dSeqW (dVar 2)) 3 4 (dYes) (dTup (dCons (dVar 4) (dCons (dOp oIx (dVar 0) (dVar 3)) (dNil))))) (dNil))) 5)
  (dSeq (dFor (dSeqW (dSl (dVar 5) (dNo) (dPart (dNeg (dC (.int 1)))))) (gd 6) (dIfS (dTest (dOp oNe (dOp oModI (dVar 6) (dVar 1)) (dC (.int 0)))) (dRet (dC .non)) (dNext)))
  (dRet (dCB fs_divided (dCons (dVar 5) (dCons (dVar 1) (dNil))))))))
/-! ### _is_false -/
abbrev s__is_false : Stmt := top 16
abbrev N__is_false : List Str := ["rows", "index", "coefficient"]
def rd__is_false : DS := dSeq (dIfS (dNot (dTest (dChain oLe oLt (dC (.int 0)) (dVar 1) (dCB bLen (dCons (dVar 0) (dNil)))))) (dRet (dC (.bl false))) (dNext))
  (dSeq (dFor (dSeqW (dSl (dOp oIx (dVar 0) (dVar 1)) (dNo) (dPart (dNeg (dC (.int 1)))))) (gd 2) (dIfS (dTest (dOp oNe (dVar 2) (dC (.int 0)))) (dRet (dC (.bl false))) (dNext)))
  (dRet (dOp oLt (dOp oIx (dOp oIx (dVar 0) (dVar 1)) (dNeg (dC (.int 1)))) (dC (.int 0)))))
/-! ### _copied -/
abbrev s__copied : Stmt := top 19
abbrev N__copied : List Str := ["condition", "width", "row"]
def rd__copied : DS := dSeq (dIfS (dTest (dOp (oInB true) (dOp oIx (dVar 0) (dC (.int 0))) (dTup (dCons (dC (.str "ge")) (dCons (dC (.str "eq")) (dCons (dC (.str "div")) (dNil))))))) (dRet (dC .non)) (dNext))
  (dSeq (dSet (dCB bTuple (dCons (dOp oIx (dVar 0) (dNeg (dC (.int 1)))) (dNil))) 2)
  (dSeq (dIfS (dTest (dOp oNe (dCB bLen (dCons (dVar 2) (dNil))) (dOp oAdd (dVar 1) (dC (.int 1))))) (dRet (dC .non)) (dNext))
  (dSeq (dIfS (dTest (dOp oNe (dOp oIx (dVar 0) (dC (.int 0))) (dC (.str "div")))) (dRet (dTup (dCons (dOp oIx (dVar 0) (dC (.int 0))) (dCons (dVar 2) (dNil))))) (dNext))
  (dSeq (dIfS (dTest (dOp oLt (dOp oIx (dVar 0) (dC (.int 1))) (dC (.int 2)))) (dRet (dC .non)) (dNext))
  (dRet (dTup (dCons (dC (.str "div")) (dCons (dOp oIx (dVar 0) (dC (.int 1))) (dCons (dVar 2) (dNil))))))))))
/-! ### System.__init__ -/
abbrev s_System___init__ : Stmt := inClass (top 21) 1
abbrev N_System___init__ : List Str := ["self", "width", "conditions", "kept", "condition", "copy"]
def rd_System___init__ (C_System : Addr) : DS := dSeq (dIfS (dNot (dTest (dChain oLe oLe (dC (.int 0)) (dVar 1) (dC (.int 80))))) (dNever) (dNext))
  (dSeq (dSetC (dLst (dNil)) 3)
  (dSeq (dFor (dSeqW (dVar 2)) (gd 4) (dSeq (dSet (dCB fs__copied (dCons (dVar 4) (dCons (dVar 1) (dNil)))) 5)
  (dSeq (dIfS (dTest (dOp (oIs false) (dVar 5) (dC .non))) (dNever) (dNext))
  (dDrop (dAppend (dVar 3) (dVar 5))))))
  (dSeq (dSetF C_System "width" (dVar 1) (dVar 0))
  (dSetF C_System "conditions" (dCB bTuple (dCons (dVar 3) (dNil))) (dVar 0)))))
/-! ### System.plain_width -/
abbrev s_System_plain_width : Stmt := inClass (top 21) 8
abbrev N_System_plain_width : List Str := ["self", "condition"]
def rd_System_plain_width (C_System : Addr) : DS := dRet (dOp oAdd (dFld C_System "width" (dVar 0)) (dCB bLen (dCons (dLc (dSeqW (dFld C_System "conditions" (dVar 0))) 1 (dTest (dOp oEq (dOp oIx (dVar 1) (dC (.int 0))) (dC (.str "div")))) (dVar 1)) (dNil))))
/-! ### System.plain_rows -/
abbrev s_System_plain_rows : Stmt := inClass (top 21) 9
abbrev N_System_plain_rows : List Str := ["self", "count", "rows", "place", "condition", "row"]
def rd_System_plain_rows (C_System : Addr) : DS := dSeq (dSet (dOp oSub (dProp C_System (fs_System_plain_width C_System) (dVar 0)) (dFld C_System "width" (dVar 0))) 1)
  (dSeq (dSetC (dLst (dNil)) 2)
  (dSeq (dSet (dFld C_System "width" (dVar 0)) 3)
  (dSeq (dFor (dSeqW (dFld C_System "conditions" (dVar 0))) (gd 4) (dSeq (dSet (dCB fs_extended (dCons (dOp oIx (dVar 4) (dNeg (dC (.int 1)))) (dCons (dVar 1) (dNil)))) 5)
  (dSeq (dIfS (dTest (dOp oEq (dOp oIx (dVar 4) (dC (.int 0))) (dC (.str "div")))) (dSeq (dSet (dOp oAdd (dOp oAdd (dSl (dVar 5) (dNo) (dPart (dVar 3))) (dTup (dCons (dNeg (dOp oIx (dVar 4) (dC (.int 1)))) (dNil)))) (dSl (dVar 5) (dPart (dOp oAdd (dVar 3) (dC (.int 1)))) (dNo))) 5)
  (dSet (dOp oAdd (dVar 3) (dC (.int 1))) 3)) (dNext))
  (dSeq (dDrop (dAppend (dVar 2) (dVar 5)))
  (dIfS (dTest (dOp oNe (dOp oIx (dVar 4) (dC (.int 0))) (dC (.str "ge")))) (dDrop (dAppend (dVar 2) (dCB fs_negated (dCons (dVar 5) (dNil))))) (dNext))))))
  (dRet (dVar 2)))))
/-! ### accepts -/
abbrev s_accepts : Stmt := top 17
abbrev N_accepts : List Str := ["system", "certificate", "rows", "length", "branches", "at", "line", "row", "count"]
def rd_accepts (C_System : Addr) : DS := dSeq (dSetC (dMeth C_System "plain_rows" (fs_System_plain_rows C_System) (dVar 0) dNil) 2)
  (dSeq (dSet (dOp oAdd (dProp C_System (fs_System_plain_width C_System) (dVar 0)) (dC (.int 1))) 3)
  (dSeq (dSetC (dLst (dNil)) 4)
  (dSeq (dFor (dEnumW (dCons (dVar 1) (dNil))) (gdTup 2 (gdCons (gd 5) (gdCons (gd 6) (gdNil)))) (dIfS (dTest (dOp oEq (dOp oIx (dVar 6) (dC (.int 0))) (dC (.str "sum")))) (dSeq (dSet (dCB fs__sum_row (dCons (dVar 2) (dCons (dOp oIx (dVar 6) (dC (.int 1))) (dCons (dOp oIx (dVar 6) (dC (.int 2))) (dNil))))) 7)
  (dSeq (dIfS (dTest (dOp (oIs false) (dVar 7) (dC .non))) (dRet (dC (.bl false))) (dNext))
  (dDrop (dAppend (dVar 2) (dVar 7))))) (dIfS (dTest (dOp oEq (dOp oIx (dVar 6) (dC (.int 0))) (dC (.str "split")))) (dSeq (dIfS (dTest (dOp oNe (dCB bLen (dCons (dOp oIx (dVar 6) (dC (.int 1))) (dNil))) (dVar 3))) (dRet (dC (.bl false))) (dNext))
  (dSeq (dDrop (dAppend (dVar 4) (dTup (dCons (dCB bLen (dCons (dVar 2) (dNil))) (dCons (dCB bTuple (dCons (dOp oIx (dVar 6) (dC (.int 1))) (dNil))) (dNil))))))
  (dDrop (dAppend (dVar 2) (dCB fs_raised (dCons (dCB fs_negated (dCons (dOp oIx (dVar 6) (dC (.int 1))) (dNil))) (dCons (dNeg (dC (.int 1))) (dNil)))))))) (dIfS (dTest (dOp oEq (dOp oIx (dVar 6) (dC (.int 0))) (dC (.str "false")))) (dSeq (dIfS (dNot (dTest (dCB fs__is_false (dCons (dVar 2) (dCons (dOp oIx (dVar 6) (dC (.int 1))) (dNil)))))) (dRet (dC (.bl false))) (dNext))
  (dSeq (dIfS (dNot (dTru (dVar 4))) (dRet (dOp oEq (dVar 5) (dOp oSub (dCB bLen (dCons (dVar 1) (dNil))) (dC (.int 1))))) (dNext))
  (dSeq (dAsg (dPop (dVar 4)) (gdTup 2 (gdCons (gd 8) (gdCons (gd 7) (gdNil)))))
  (dSeq (dDelT (dVar 2) (dVar 8))
  (dDrop (dAppend (dVar 2) (dVar 7))))))) (dRet (dC (.bl false)))))))
  (dRet (dC (.bl false))))))
/-! ### _law_draw -/
abbrev s__law_draw : Stmt := top 23
abbrev N__law_draw : List Str := ["_law_pool", "_law_many", "_law_cell", "_law_rest"]
def rd__law_draw : DS := dSeq (dIfS (dTest (dOp oEq (dVar 0) (dLst (dNil)))) (dRet (dC (.int 0))) (dNext))
  (dSeq (dSet (dPop (dVar 0)) 2)
  (dSeq (dSet (dOp oDivI (dVar 2) (dVar 1)) 3)
  (dSeq (dIfS (dTest (dOp (oInB true) (dVar 3) (dTup (dCons (dC (.int 0)) (dCons (dNeg (dC (.int 1))) (dNil)))))) (dDrop (dAppend (dVar 0) (dVar 3))) (dNext))
  (dRet (dOp oModI (dCB bInt (dCons (dVar 2) (dNil))) (dVar 1))))))
/-! ### _law_number -/
abbrev s__law_number : Stmt := top 24
abbrev N__law_number : List Str := ["_law_pool", "_law_size", "_law_at"]
def rd__law_number : DS := dRet (dOp oSub (dOp oModI (dCB bInt (dCons (dOp oAdd (dOp oAdd (dCB fs__law_draw (dCons (dVar 0) (dCons (dOp oAdd (dOp oMul (dC (.int 2)) (dVar 1)) (dC (.int 1))) (dNil)))) (dVar 1)) (dVar 2)) (dNil))) (dOp oAdd (dOp oMul (dC (.int 2)) (dVar 1)) (dC (.int 1)))) (dVar 1))
/-! ### _law_plain -/
abbrev s__law_plain : Stmt := top 25
abbrev N__law_plain : List Str := ["_law_width", "_law_rules", "_law_many", "_law_rows", "_law_seen", "_law_rule", "_law_row", "_law_quotients", "_law_number_here"]
def rd__law_plain : DS := dSeq (dSet (dCB bLen (dCons (dLc (dSeqW (dVar 1)) 5 (dTest (dOp oEq (dOp oIx (dVar 5) (dC (.int 0))) (dC (.str "div")))) (dVar 5)) (dNil))) 2)
  (dSeq (dSetC (dLst (dNil)) 3)
  (dSeq (dSet (dC (.int 0)) 4)
  (dSeq (dFor (dSeqW (dVar 1)) (gd 5) (dSeq (dSet (dCB bTuple (dCons (dOp oIx (dVar 5) (dNeg (dC (.int 1)))) (dNil))) 6)
  (dSeq (dSetC (dOp oMul (dLst (dCons (dC (.int 0)) (dNil))) (dVar 2)) 7)
  (dSeq (dIfS (dTest (dOp oEq (dOp oIx (dVar 5) (dC (.int 0))) (dC (.str "div")))) (dSeq (dSetI (dNeg (dOp oIx (dVar 5) (dC (.int 1)))) (dVar 7) (dVar 4))
  (dSet (dOp oAdd (dVar 4) (dC (.int 1))) 4)) (dNext))
  (dSeq (dSet (dOp oAdd (dOp oAdd (dSl (dVar 6) (dNo) (dPart (dVar 0))) (dCB bTuple (dCons (dVar 7) (dNil)))) (dSl (dVar 6) (dPart (dVar 0)) (dNo))) 6)
  (dSeq (dDrop (dAppend (dVar 3) (dVar 6)))
  (dIfS (dTest (dOp oNe (dOp oIx (dVar 5) (dC (.int 0))) (dC (.str "ge")))) (dDrop (dAppend (dVar 3) (dCB bTuple (dCons (dLc (dSeqW (dVar 6)) 8 (dYes) (dNeg (dVar 8))) (dNil))))) (dNext))))))))
  (dRet (dVar 3)))))
/-! ### _law_summed -/
abbrev s__law_summed : Stmt := top 26
abbrev N__law_summed : List Str := ["_law_width", "_law_rows", "_law_line", "_law_total", "_law_part", "_law_row", "_law_k", "_law_number_here"]
def rd__law_summed : DS := dSeq (dIfS (dOr (dTest (dOp oLt (dOp oIx (dVar 2) (dC (.int 1))) (dC (.int 1)))) (dTest (dOp oLt (dCB bLen (dCons (dOp oIx (dVar 2) (dC (.int 2))) (dNil))) (dC (.int 1))))) (dRet (dC .non)) (dNext))
  (dSeq (dSet (dOp oMul (dLst (dCons (dC (.int 0)) (dNil))) (dOp oAdd (dVar 0) (dC (.int 1)))) 3)
  (dSeq (dFor (dSeqW (dOp oIx (dVar 2) (dC (.int 2)))) (gd 4) (dSeq (dIfS (dOr (dNot (dTest (dChain oLe oLt (dC (.int 0)) (dOp oIx (dVar 4) (dC (.int 0))) (dCB bLen (dCons (dVar 1) (dNil)))))) (dTest (dOp oLt (dOp oIx (dVar 4) (dC (.int 1))) (dC (.int 1))))) (dRet (dC .non)) (dNext))
  (dSeq (dSet (dOp oIx (dVar 1) (dOp oIx (dVar 4) (dC (.int 0)))) 5)
  (dSet (dLc (dRng1 (dCons (dOp oAdd (dVar 0) (dC (.int 1))) (dNil))) 6 (dYes) (dOp oAdd (dOp oIx (dVar 3) (dVar 6)) (dOp oMul (dOp oIx (dVar 4) (dC (.int 1))) (dOp oIx (dVar 5) (dVar 6))))) 3))))
  (dSeq (dIfS (dTest (dCB bAny (dCons (dLc (dSeqW (dSl (dVar 3) (dNo) (dPart (dVar 0)))) 7 (dYes) (dOp oNe (dOp oModI (dCB bInt (dCons (dVar 7) (dNil))) (dOp oIx (dVar 2) (dC (.int 1)))) (dC (.int 0)))) (dNil)))) (dRet (dC .non)) (dNext))
  (dRet (dCB bTuple (dCons (dLc (dSeqW (dVar 3)) 7 (dYes) (dOp oDivI (dVar 7) (dOp oIx (dVar 2) (dC (.int 1))))) (dNil)))))))
/-! ### _law_takes -/
abbrev s__law_takes : Stmt := top 27
abbrev N__law_takes : List Str := ["_law_width", "_law_plain_here", "_law_lines", "_law_rows", "_law_marks", "_law_ended", "_law_line", "_law_row", "_law_found", "_law_mark", "_law_number_here", "_law_k"]
def rd__law_takes : DS := dSeq (dSetC (dCB bList (dCons (dVar 1) (dNil))) 3)
  (dSeq (dSetC (dLst (dNil)) 4)
  (dSeq (dSet (dC (.bl false)) 5)
  (dSeq (dFor (dSeqW (dVar 2)) (gd 6) (dSeq (dSet (dC .non) 7)
  (dSeq (dIfS (dAnd (dNot (dTest (dVar 5))) (dTest (dOp oEq (dOp oIx (dVar 6) (dC (.int 0))) (dC (.str "sum"))))) (dSet (dCB fs__law_summed (dCons (dVar 0) (dCons (dVar 3) (dCons (dVar 6) (dNil))))) 7) (dNext))
  (dSeq (dIfS (dAnd (dNot (dTest (dVar 5))) (dAnd (dTest (dOp oEq (dOp oIx (dVar 6) (dC (.int 0))) (dC (.str "split")))) (dTest (dOp oEq (dCB bLen (dCons (dOp oIx (dVar 6) (dC (.int 1))) (dNil))) (dOp oAdd (dVar 0) (dC (.int 1))))))) (dSeq (dDrop (dAppend (dVar 4) (dTup (dCons (dCB bLen (dCons (dVar 3) (dNil))) (dCons (dCB bList (dCons (dOp oIx (dVar 6) (dC (.int 1))) (dNil))) (dNil))))))
  (dSeq (dSetC (dLc (dSeqW (dOp oIx (dVar 6) (dC (.int 1)))) 10 (dYes) (dNeg (dVar 10))) 7)
  (dSetI (dOp oSub (dOp oIx (dVar 7) (dVar 0)) (dC (.int 1))) (dVar 7) (dVar 0)))) (dNext))
  (dSeq (dIfS (dAnd (dNot (dTest (dVar 5))) (dAnd (dTest (dOp oEq (dOp oIx (dVar 6) (dC (.int 0))) (dC (.str "false")))) (dTest (dChain oLe oLt (dC (.int 0)) (dOp oIx (dVar 6) (dC (.int 1))) (dCB bLen (dCons (dVar 3) (dNil))))))) (dSeq (dSet (dOp oIx (dVar 3) (dOp oIx (dVar 6) (dC (.int 1)))) 8)
  (dIfS (dAnd (dTest (dOp oLt (dOp oIx (dVar 8) (dVar 0)) (dC (.int 0)))) (dNot (dTest (dCB bAny (dCons (dLc (dRng1 (dCons (dVar 0) (dNil))) 11 (dYes) (dOp oNe (dOp oIx (dVar 8) (dVar 11)) (dC (.int 0)))) (dNil)))))) (dSeq (dSet (dOp oEq (dVar 4) (dLst (dNil))) 5)
  (dSeq (dSet (dVar 8) 7)
  (dIfS (dNot (dTest (dVar 5))) (dSeq (dSet (dPop (dVar 4)) 9)
  (dSeq (dSetC (dSl (dVar 3) (dNo) (dPart (dOp oIx (dVar 9) (dC (.int 0))))) 3)
  (dSet (dOp oIx (dVar 9) (dC (.int 1))) 7))) (dNext)))) (dNext))) (dNext))
  (dSeq (dIfS (dTest (dOp (oIs false) (dVar 7) (dC .non))) (dRet (dC (.bl false))) (dNext))
  (dDrop (dAppend (dVar 3) (dHoldM (dVar 7))))))))))
  (dRet (dVar 5)))))
/-! ### _law_times -/
abbrev s__law_times : Stmt := top 28
abbrev N__law_times : List Str := ["_law_row", "_law_factor", "_law_number_here"]
def rd__law_times : DS := dRet (dCB bTuple (dCons (dLc (dSeqW (dVar 0)) 2 (dYes) (dOp oMul (dVar 1) (dVar 2))) (dNil)))
/-! ### _law_noise -/
abbrev s__law_noise : Stmt := top 29
abbrev N__law_noise : List Str := ["_law_pool", "_law_width", "_law_at", "_law_kind", "_law_m", "_law_row", "_law_k"]
def rd__law_noise : DS := dSeq (dSet (dOp oModI (dCB bInt (dCons (dOp oAdd (dCB fs__law_draw (dCons (dVar 0) (dCons (dC (.int 3)) (dNil)))) (dVar 2)) (dNil))) (dC (.int 3))) 3)
  (dSeq (dSet (dOp oAdd (dC (.int 2)) (dCB fs__law_draw (dCons (dVar 0) (dCons (dC (.int 6)) (dNil))))) 4)
  (dSeq (dSet (dLc (dRng1 (dCons (dVar 1) (dNil))) 6 (dYes) (dCB fs__law_number (dCons (dVar 0) (dCons (dC (.int 3)) (dCons (dOp oAdd (dVar 2) (dVar 6)) (dNil)))))) 5)
  (dSeq (dSet (dCB bTuple (dCons (dOp oAdd (dVar 5) (dLst (dCons (dCB fs__law_number (dCons (dVar 0) (dCons (dC (.int 9)) (dCons (dVar 2) (dNil))))) (dNil)))) (dNil))) 5)
  (dSeq (dIfS (dTest (dOp oEq (dVar 3) (dC (.int 2)))) (dRet (dTup (dCons (dC (.str "div")) (dCons (dVar 4) (dCons (dVar 5) (dNil)))))) (dNext))
  (dRet (dTup (dCons (dOp oIx (dLst (dCons (dC (.str "ge")) (dCons (dC (.str "eq")) (dNil)))) (dVar 3)) (dCons (dVar 5) (dNil)))))))))
/-! ### _law_pair -/
abbrev s__law_pair : Stmt := top 30
abbrev N__law_pair : List Str := ["_law_pool", "_law_v", "_law_at", "_law_size", "_law_p", "_law_q", "_law_c", "_law_other", "_law_rules", "_law_lines"]
def rd__law_pair : DS := dSeq (dSet (dOp oAdd (dC (.int 1)) (dCB fs__law_draw (dCons (dVar 0) (dCons (dC (.int 3)) (dNil))))) 4)
  (dSeq (dSet (dOp oAdd (dC (.int 1)) (dCB fs__law_draw (dCons (dVar 0) (dCons (dC (.int 3)) (dNil))))) 5)
  (dSeq (dSet (dCB fs__law_number (dCons (dVar 0) (dCons (dC (.int 9)) (dCons (dC (.int 2)) (dNil))))) 6)
  (dSeq (dSet (dOp oAdd (dOp oSub (dNeg (dOp oDivI (dOp oMul (dVar 4) (dVar 6)) (dVar 5))) (dC (.int 1))) (dCB bInt (dCons (dOp oEq (dCB fs__law_draw (dCons (dVar 0) (dCons (dC (.int 4)) (dNil)))) (dC (.int 3))) (dNil)))) 7)
  (dSeq (dSetC (dLst (dCons (dTup (dCons (dC (.str "ge")) (dCons (dOp oAdd (dCB fs__law_times (dCons (dVar 1) (dCons (dVar 5) (dNil)))) (dTup (dCons (dVar 6) (dNil)))) (dNil)))) (dNil))) 8)
  (dSeq (dDrop (dAppend (dVar 8) (dTup (dCons (dC (.str "ge")) (dCons (dOp oAdd (dCB fs__law_times (dCons (dVar 1) (dCons (dNeg (dVar 4)) (dNil)))) (dTup (dCons (dVar 7) (dNil)))) (dNil))))))
  (dSeq (dIfS (dTest (dOp oEq (dCB fs__law_draw (dCons (dVar 0) (dCons (dC (.int 2)) (dNil)))) (dC (.int 1)))) (dRet (dTup (dCons (dHold (dVar 8)) (dCons (dLst (dCons (dTup (dCons (dC (.str "sum")) (dCons (dOp oAdd (dC (.int 1)) (dCB fs__law_draw (dCons (dVar 0) (dCons (dC (.int 3)) (dNil))))) (dCons (dTup (dCons (dTup (dCons (dVar 2) (dCons (dVar 4) (dNil)))) (dCons (dTup (dCons (dOp oAdd (dVar 2) (dC (.int 1))) (dCons (dVar 5) (dNil)))) (dNil)))) (dNil))))) (dNil))) (dNil))))) (dNext))
  (dSeq (dSet (dLst (dCons (dTup (dCons (dC (.str "sum")) (dCons (dVar 5) (dCons (dTup (dCons (dTup (dCons (dVar 2) (dCons (dC (.int 1)) (dNil)))) (dNil))) (dNil))))) (dCons (dTup (dCons (dC (.str "sum")) (dCons (dVar 4) (dCons (dTup (dCons (dTup (dCons (dOp oAdd (dVar 2) (dC (.int 1))) (dCons (dC (.int 1)) (dNil)))) (dNil))) (dNil))))) (dNil)))) 9)
  (dRet (dTup (dCons (dHold (dVar 8)) (dCons (dOp oAdd (dVar 9) (dLst (dCons (dTup (dCons (dC (.str "sum")) (dCons (dC (.int 1)) (dCons (dTup (dCons (dTup (dCons (dVar 3) (dCons (dC (.int 1)) (dNil)))) (dCons (dTup (dCons (dOp oAdd (dVar 3) (dC (.int 1))) (dCons (dC (.int 1)) (dNil)))) (dNil)))) (dNil))))) (dNil)))) (dNil))))))))))))
/-! ### _law_parity -/
abbrev s__law_parity : Stmt := top 31
abbrev N__law_parity : List Str := ["_law_pool", "_law_v", "_law_at", "_law_size", "_law_g", "_law_c", "_law_lines"]
def rd__law_parity : DS := dSeq (dSet (dOp oAdd (dC (.int 2)) (dCB fs__law_draw (dCons (dVar 0) (dCons (dC (.int 2)) (dNil))))) 4)
  (dSeq (dSet (dOp oAdd (dOp oAdd (dOp oMul (dVar 4) (dCB fs__law_number (dCons (dVar 0) (dCons (dC (.int 4)) (dCons (dC (.int 1)) (dNil)))))) (dC (.int 1))) (dCB fs__law_draw (dCons (dVar 0) (dCons (dVar 4) (dNil))))) 5)
  (dSeq (dSetC (dLst (dCons (dTup (dCons (dC (.str "sum")) (dCons (dVar 4) (dCons (dTup (dCons (dTup (dCons (dVar 2) (dCons (dC (.int 1)) (dNil)))) (dNil))) (dNil))))) (dCons (dTup (dCons (dC (.str "sum")) (dCons (dVar 4) (dCons (dTup (dCons (dTup (dCons (dOp oAdd (dVar 2) (dC (.int 1))) (dCons (dC (.int 1)) (dNil)))) (dNil))) (dNil))))) (dNil)))) 6)
  (dSeq (dDrop (dAppend (dVar 6) (dTup (dCons (dC (.str "sum")) (dCons (dC (.int 1)) (dCons (dTup (dCons (dTup (dCons (dOp oAdd (dVar 3) (dC (.int 1))) (dCons (dC (.int 1)) (dNil)))) (dCons (dTup (dCons (dVar 3) (dCons (dC (.int 1)) (dNil)))) (dNil)))) (dNil)))))))
  (dRet (dTup (dCons (dLst (dCons (dTup (dCons (dC (.str "eq")) (dCons (dOp oAdd (dCB fs__law_times (dCons (dVar 1) (dCons (dVar 4) (dNil)))) (dTup (dCons (dVar 5) (dNil)))) (dNil)))) (dNil))) (dCons (dHold (dVar 6)) (dNil))))))))
/-! ### _law_remainder -/
abbrev s__law_remainder : Stmt := top 32
abbrev N__law_remainder : List Str := ["_law_pool", "_law_v", "_law_at", "_law_size", "_law_m", "_law_c", "_law_rest", "_law_lines"]
def rd__law_remainder : DS := dSeq (dSet (dOp oAdd (dC (.int 2)) (dCB fs__law_draw (dCons (dVar 0) (dCons (dC (.int 6)) (dNil))))) 4)
  (dSeq (dSet (dCB fs__law_number (dCons (dVar 0) (dCons (dC (.int 9)) (dCons (dC (.int 1)) (dNil))))) 5)
  (dSeq (dSet (dOp oAdd (dC (.int 1)) (dCB fs__law_draw (dCons (dVar 0) (dCons (dVar 4) (dNil))))) 6)
  (dSeq (dSetC (dLst (dCons (dTup (dCons (dC (.str "sum")) (dCons (dVar 4) (dCons (dTup (dCons (dTup (dCons (dVar 2) (dCons (dC (.int 1)) (dNil)))) (dCons (dTup (dCons (dOp oAdd (dVar 2) (dC (.int 3))) (dCons (dC (.int 1)) (dNil)))) (dNil)))) (dNil))))) (dNil))) 7)
  (dSeq (dDrop (dAppend (dVar 7) (dTup (dCons (dC (.str "sum")) (dCons (dVar 4) (dCons (dTup (dCons (dTup (dCons (dOp oAdd (dVar 2) (dC (.int 1))) (dCons (dC (.int 1)) (dNil)))) (dCons (dTup (dCons (dOp oAdd (dVar 2) (dC (.int 2))) (dCons (dC (.int 1)) (dNil)))) (dNil)))) (dNil)))))))
  (dSeq (dDrop (dAppend (dVar 7) (dTup (dCons (dC (.str "sum")) (dCons (dC (.int 1)) (dCons (dTup (dCons (dTup (dCons (dVar 3) (dCons (dC (.int 1)) (dNil)))) (dCons (dTup (dCons (dOp oAdd (dVar 3) (dC (.int 1))) (dCons (dC (.int 1)) (dNil)))) (dNil)))) (dNil)))))))
  (dRet (dTup (dCons (dLst (dCons (dTup (dCons (dC (.str "div")) (dCons (dVar 4) (dCons (dOp oAdd (dVar 1) (dTup (dCons (dVar 5) (dNil)))) (dNil))))) (dCons (dTup (dCons (dC (.str "eq")) (dCons (dOp oAdd (dVar 1) (dTup (dCons (dOp oAdd (dVar 5) (dVar 6)) (dNil)))) (dNil)))) (dNil)))) (dCons (dHold (dVar 7)) (dNil))))))))))
/-! ### _law_free -/
abbrev s__law_free : Stmt := top 33
abbrev N__law_free : List Str := ["_law_pool", "_law_size", "_law_lines", "_law_k", "_law_top", "_law_parts", "_law_j", "_law_place"]
def rd__law_free : DS := dSeq (dSetC (dLst (dNil)) 2)
  (dSeq (dFor (dRng1 (dCons (dCB fs__law_draw (dCons (dVar 0) (dCons (dC (.int 6)) (dNil)))) (dNil))) (gd 3) (dSeq (dSet (dOp oAdd (dOp oAdd (dVar 1) (dVar 3)) (dC (.int 2))) 4)
  (dSeq (dSetC (dLst (dNil)) 5)
  (dSeq (dFor (dRng1 (dCons (dOp oModI (dCB bInt (dCons (dOp oAdd (dCB fs__law_draw (dCons (dVar 0) (dCons (dC (.int 4)) (dNil)))) (dC (.int 1))) (dNil))) (dC (.int 4))) (dNil))) (gd 6) (dSeq (dSet (dOp oSub (dOp oModI (dCB bInt (dCons (dOp oAdd (dCB fs__law_draw (dCons (dVar 0) (dCons (dVar 4) (dNil)))) (dC (.int 1))) (dNil))) (dVar 4)) (dC (.int 1))) 7)
  (dDrop (dAppend (dVar 5) (dTup (dCons (dVar 7) (dCons (dOp oSub (dOp oModI (dCB bInt (dCons (dOp oAdd (dCB fs__law_draw (dCons (dVar 0) (dCons (dC (.int 5)) (dNil)))) (dC (.int 2))) (dNil))) (dC (.int 5))) (dC (.int 1))) (dNil))))))))
  (dDrop (dAppend (dVar 2) (dTup (dCons (dC (.str "sum")) (dCons (dOp oModI (dCB bInt (dCons (dOp oAdd (dCB fs__law_draw (dCons (dVar 0) (dCons (dC (.int 4)) (dNil)))) (dC (.int 1))) (dNil))) (dC (.int 4))) (dCons (dCB bTuple (dCons (dVar 5) (dNil))) (dNil)))))))))))
  (dRet (dTup (dCons (dLst (dNil)) (dCons (dHold (dVar 2)) (dNil))))))
/-! ### _law_world -/
abbrev s__law_world : Stmt := top 34
abbrev N__law_world : List Str := ["_law_pool", "_law_width", "_law_family", "_law_before", "_law_behind", "_law_front", "_law_back", "_law_v", "_law_at", "_law_size", "_law_core", "_law_k"]
def rt7__law_world : DS := dSeq (dSet (dCB bLen (dCons (dCB fs__law_plain (dCons (dVar 1) (dCons (dVar 5) (dNil)))) (dNil))) 8)
  (dSeq (dSet (dOp oAdd (dOp oAdd (dVar 8) (dOp oIx (dLst (dCons (dC (.int 2)) (dCons (dC (.int 2)) (dCons (dC (.int 4)) (dCons (dC (.int 0)) (dNil)))))) (dVar 2))) (dCB bLen (dCons (dCB fs__law_plain (dCons (dVar 1) (dCons (dVar 6) (dNil)))) (dNil)))) 9)
  (dSeq (dIfS (dTest (dOp oEq (dVar 2) (dC (.int 0)))) (dSet (dCB fs__law_pair (dCons (dVar 0) (dCons (dVar 7) (dCons (dVar 8) (dCons (dVar 9) (dNil)))))) 10) (dIfS (dTest (dOp oEq (dVar 2) (dC (.int 1)))) (dSet (dCB fs__law_parity (dCons (dVar 0) (dCons (dVar 7) (dCons (dVar 8) (dCons (dVar 9) (dNil)))))) 10) (dIfS (dTest (dOp oEq (dVar 2) (dC (.int 2)))) (dSet (dCB fs__law_remainder (dCons (dVar 0) (dCons (dVar 7) (dCons (dVar 8) (dCons (dVar 9) (dNil)))))) 10) (dSet (dCB fs__law_free (dCons (dVar 0) (dCons (dVar 9) (dNil)))) 10))))
  (dRet (dTup (dCons (dVar 1) (dCons (dOp oAdd (dOp oAdd (dVar 5) (dOp oIx (dVar 10) (dC (.int 0)))) (dVar 6)) (dCons (dOp oIx (dVar 10) (dC (.int 1))) (dCons (dVar 9) (dNil)))))))))
def rt1__law_world : DS := dSeq (dSet (dCB fs__law_draw (dCons (dVar 0) (dCons (dC (.int 4)) (dNil)))) 2)
  (dSeq (dSet (dOp oModI (dCB bInt (dCons (dOp oAdd (dCB fs__law_draw (dCons (dVar 0) (dCons (dC (.int 3)) (dNil)))) (dC (.int 1))) (dNil))) (dC (.int 3))) 3)
  (dSeq (dSet (dCB bMax2 (dCons (dCB fs__law_draw (dCons (dVar 0) (dCons (dC (.int 2)) (dNil)))) (dCons (dCB bInt (dCons (dOp oEq (dVar 2) (dC (.int 3))) (dNil))) (dNil)))) 4)
  (dSeq (dSet (dLc (dRng1 (dCons (dVar 3) (dNil))) 11 (dYes) (dCB fs__law_noise (dCons (dVar 0) (dCons (dVar 1) (dCons (dOp oAdd (dVar 11) (dC (.int 1))) (dNil)))))) 5)
  (dSeq (dSet (dLc (dRng1 (dCons (dVar 4) (dNil))) 11 (dYes) (dCB fs__law_noise (dCons (dVar 0) (dCons (dVar 1) (dCons (dVar 11) (dNil)))))) 6)
  (dSeq (dSet (dCB bTuple (dCons (dLc (dRng1 (dCons (dVar 1) (dNil))) 11 (dYes) (dCB fs__law_number (dCons (dVar 0) (dCons (dC (.int 3)) (dCons (dOp oAdd (dVar 11) (dC (.int 1))) (dNil)))))) (dNil))) 7)
  (rt7__law_world))))))
def rd__law_world : DS := dSeq (dSet (dOp oSub (dC (.int 2)) (dCB fs__law_draw (dCons (dVar 0) (dCons (dC (.int 2)) (dNil))))) 1)
  (rt1__law_world)
/-! ### _law_spoilt -/
abbrev s__law_spoilt : Stmt := top 35
abbrev N__law_spoilt : List Str := ["_law_pool", "_law_lines", "_law_size", "_law_how", "_law_at", "_law_word", "_law_d", "_law_parts", "_law_k", "_law_place", "_law_factor", "_law_here", "_law_line", "_law_one"]
def rt13__law_spoilt : DS := dSeq (dIfS (dTest (dOp oEq (dVar 3) (dC (.int 6)))) (dSet (dOp oIx (dLst (dCons (dC (.str "sums")) (dCons (dC (.str "")) (dCons (dC (.str "Sum")) (dNil))))) (dOp oModI (dCB bInt (dCons (dVar 10) (dNil))) (dC (.int 3)))) 5) (dNext))
  (dSeq (dIfS (dTest (dOp oEq (dVar 3) (dC (.int 7)))) (dRet (dOp oAdd (dSl (dVar 1) (dNo) (dPart (dVar 4))) (dSl (dVar 1) (dPart (dOp oAdd (dVar 4) (dC (.int 1)))) (dNo)))) (dNext))
  (dSeq (dSet (dTup (dCons (dVar 5) (dCons (dVar 6) (dCons (dOp oAdd (dOp oAdd (dSl (dVar 7) (dNo) (dPart (dVar 8))) (dVar 11)) (dSl (dVar 7) (dPart (dOp oAdd (dVar 8) (dC (.int 1)))) (dNo))) (dNil))))) 12)
  (dSeq (dIfS (dTest (dOp oEq (dVar 3) (dC (.int 8)))) (dRet (dOp oAdd (dSl (dVar 1) (dNo) (dPart (dOp oAdd (dVar 4) (dC (.int 1))))) (dSl (dVar 1) (dPart (dVar 4)) (dNo)))) (dNext))
  (dRet (dOp oAdd (dOp oAdd (dSl (dVar 1) (dNo) (dPart (dVar 4))) (dLst (dCons (dVar 12) (dNil)))) (dSl (dVar 1) (dPart (dOp oAdd (dVar 4) (dC (.int 1)))) (dNo)))))))
def rt12__law_spoilt : DS := dSeq (dIfS (dTest (dOp oEq (dVar 3) (dC (.int 5)))) (dSet (dOp oAdd (dVar 11) (dTup (dCons (dTup (dCons (dVar 9) (dCons (dVar 10) (dNil)))) (dNil)))) 11) (dNext))
  (rt13__law_spoilt)
def rt11__law_spoilt : DS := dSeq (dIfS (dTest (dOp oEq (dVar 3) (dC (.int 4)))) (dSet (dTup (dNil)) 11) (dNext))
  (rt12__law_spoilt)
def rt10__law_spoilt : DS := dSeq (dIfS (dTest (dOp oEq (dVar 3) (dC (.int 3)))) (dSet (dCB bTuple (dCons (dLc (dSeqW (dVar 11)) 13 (dYes) (dTup (dCons (dOp oIx (dVar 13) (dC (.int 0))) (dCons (dVar 10) (dNil))))) (dNil))) 11) (dNext))
  (rt11__law_spoilt)
def rt9__law_spoilt : DS := dSeq (dIfS (dTest (dOp oEq (dVar 3) (dC (.int 2)))) (dSet (dCB bTuple (dCons (dLc (dSeqW (dVar 11)) 13 (dYes) (dTup (dCons (dVar 9) (dCons (dOp oIx (dVar 13) (dC (.int 1))) (dNil))))) (dNil))) 11) (dNext))
  (rt10__law_spoilt)
def rd__law_spoilt : DS := dSeq (dSet (dCB fs__law_draw (dCons (dVar 0) (dCons (dC (.int 9)) (dNil)))) 3)
  (dSeq (dIfS (dOr (dTest (dOp oEq (dVar 3) (dC (.int 0)))) (dTest (dOp oEq (dVar 1) (dLst (dNil))))) (dRet (dVar 1)) (dNext))
  (dSeq (dSet (dCB fs__law_draw (dCons (dVar 0) (dCons (dCB bLen (dCons (dVar 1) (dNil))) (dNil)))) 4)
  (dSeq (dAsg (dOp oIx (dVar 1) (dVar 4)) (gdTup 3 (gdCons (gd 5) (gdCons (gd 6) (gdCons (gd 7) (gdNil))))))
  (dSeq (dSet (dCB fs__law_draw (dCons (dVar 0) (dCons (dCB bMax2 (dCons (dC (.int 1)) (dCons (dCB bLen (dCons (dVar 7) (dNil))) (dNil)))) (dNil)))) 8)
  (dSeq (dSet (dOp oIx (dLst (dCons (dNeg (dC (.int 1))) (dCons (dOp oAdd (dVar 2) (dVar 4)) (dCons (dCB fs__law_draw (dCons (dVar 0) (dCons (dOp oAdd (dVar 2) (dVar 4)) (dNil)))) (dNil))))) (dCB fs__law_draw (dCons (dVar 0) (dCons (dC (.int 3)) (dNil))))) 9)
  (dSeq (dSet (dOp oSub (dCB fs__law_draw (dCons (dVar 0) (dCons (dC (.int 5)) (dNil)))) (dC (.int 1))) 10)
  (dSeq (dSet (dSl (dVar 7) (dPart (dVar 8)) (dPart (dOp oAdd (dVar 8) (dC (.int 1))))) 11)
  (dSeq (dIfS (dTest (dOp oEq (dVar 3) (dC (.int 1)))) (dSet (dCB fs__law_draw (dCons (dVar 0) (dCons (dC (.int 4)) (dNil)))) 6) (dNext))
  (rt9__law_spoilt)))))))))
/-! ### _law_scaled -/
abbrev s__law_scaled : Stmt := top 36
abbrev N__law_scaled : List Str := ["_law_lines", "_law_factor", "_law_scaled_here", "_law_line", "_law_parts", "_law_part"]
def rd__law_scaled : DS := dSeq (dSetC (dLst (dNil)) 2)
  (dSeq (dFor (dSeqW (dVar 0)) (gd 3) (dSeq (dSet (dCB bTuple (dCons (dLc (dSeqW (dOp oIx (dVar 3) (dC (.int 2)))) 5 (dYes) (dTup (dCons (dOp oIx (dVar 5) (dC (.int 0))) (dCons (dOp oMul (dVar 1) (dOp oIx (dVar 5) (dC (.int 1)))) (dNil))))) (dNil))) 4)
  (dDrop (dAppend (dVar 2) (dTup (dCons (dOp oIx (dVar 3) (dC (.int 0))) (dCons (dOp oMul (dVar 1) (dOp oIx (dVar 3) (dC (.int 1)))) (dCons (dVar 4) (dNil)))))))))
  (dRet (dVar 2)))
/-! ### _law_gcd -/
abbrev s__law_gcd : Stmt := top 37
abbrev N__law_gcd : List Str := ["_law_row", "_law_found", "_law_number_here", "_law_other"]
def rd__law_gcd : DS := dSeq (dSet (dC (.int 0)) 1)
  (dSeq (dFor (dSeqW (dVar 0)) (gd 2) (dSeq (dSet (dCB bAbs (dCons (dVar 2) (dNil))) 3)
  (dWhile (dTest (dOp oNe (dVar 3) (dC (.int 0)))) (dPar 1 3 (dCons (dVar 3) (dCons (dOp oModI (dCB bInt (dCons (dVar 1) (dNil))) (dVar 3)) (dNil)))))))
  (dRet (dVar 1)))
/-! ### _law_adds -/
abbrev s__law_adds : Stmt := top 38
abbrev N__law_adds : List Str := ["_law_width", "_law_plain_here", "_law_lines", "_law_rows", "_law_line", "_law_row", "_law_pairs", "_law_kept", "_law_total", "_law_factor", "_law_more", "_law_part", "_law_k"]
def rd__law_adds : DS := dSeq (dSetC (dCB bList (dCons (dVar 1) (dNil))) 3)
  (dSeq (dFor (dSeqW (dVar 2)) (gd 4) (dSeq (dSet (dCB fs__law_summed (dCons (dVar 0) (dCons (dVar 3) (dCons (dVar 4) (dNil))))) 5)
  (dSeq (dIfS (dOr (dTest (dOp oNe (dOp oIx (dVar 4) (dC (.int 0))) (dC (.str "sum")))) (dTest (dOp (oIs false) (dVar 5) (dC .non)))) (dRet (dC (.bl true))) (dNext))
  (dSeq (dSet (dLc (dSeqW (dOp oIx (dVar 4) (dC (.int 2)))) 11 (dYes) (dTup (dCons (dOp oIx (dVar 11) (dC (.int 1))) (dCons (dOp oIx (dVar 3) (dOp oIx (dVar 11) (dC (.int 0)))) (dNil))))) 6)
  (dSeq (dSet (dCB bRepr (dCons (dVar 6) (dNil))) 7)
  (dSeq (dSet (dOp oMul (dLst (dCons (dC (.int 0)) (dNil))) (dOp oAdd (dVar 0) (dC (.int 1)))) 8)
  (dSeq (dFor (dSeqW (dVar 6)) (gdTup 2 (gdCons (gd 9) (gdCons (gd 10) (gdNil)))) (dSet (dLc (dRng1 (dCons (dOp oAdd (dVar 0) (dC (.int 1))) (dNil))) 12 (dYes) (dOp oAdd (dOp oIx (dVar 8) (dVar 12)) (dOp oMul (dVar 9) (dOp oIx (dVar 10) (dVar 12))))) 8))
  (dSeq (dIfS (dOr (dTest (dOp oNe (dCB bRepr (dCons (dCB fs_combined (dCons (dVar 6) (dNil))) (dNil))) (dCB bRepr (dCons (dCB bTuple (dCons (dVar 8) (dNil))) (dNil))))) (dTest (dOp oNe (dCB bRepr (dCons (dVar 6) (dNil))) (dVar 7)))) (dRet (dC (.bl false))) (dNext))
  (dSeq (dIfS (dTest (dOp oNe (dCB bRepr (dCons (dCB fs_combined (dCons (dTup (dCons (dTup (dCons (dNeg (dC (.int 3))) (dCons (dVar 8) (dNil)))) (dCons (dTup (dCons (dC (.int 0)) (dCons (dVar 5) (dNil)))) (dNil)))) (dNil))) (dNil))) (dCB bRepr (dCons (dCB fs__law_times (dCons (dVar 8) (dCons (dNeg (dC (.int 3))) (dNil)))) (dNil))))) (dRet (dC (.bl false))) (dNext))
  (dSeq (dIfS (dTest (dOp oNe (dCB bRepr (dCons (dCB fs_divisor (dCons (dVar 8) (dNil))) (dNil))) (dCB bRepr (dCons (dCB fs__law_gcd (dCons (dSl (dVar 8) (dNo) (dPart (dVar 0))) (dNil))) (dNil))))) (dRet (dC (.bl false))) (dNext))
  (dSeq (dIfS (dTest (dOp oNe (dCB bRepr (dCons (dCB fs_divided (dCons (dVar 8) (dCons (dOp oIx (dVar 4) (dC (.int 1))) (dNil)))) (dNil))) (dCB bRepr (dCons (dVar 5) (dNil))))) (dRet (dC (.bl false))) (dNext))
  (dDrop (dAppend (dVar 3) (dVar 5))))))))))))))
  (dRet (dC (.bl true))))
/-! ### _law_asked -/
abbrev s__law_asked : Stmt := top 39
abbrev N__law_asked : List Str := ["_law_system", "_law_paper", "_law_due", "_law_handed", "_law_kept", "_law_told"]
def rd__law_asked (C_System : Addr) : DS := dSeq (dSet (dCB bList (dCons (dVar 1) (dNil))) 3)
  (dSeq (dSet (dCB bRepr (dCons (dVar 3) (dNil))) 4)
  (dSeq (dSet (dLst (dCons (dCB (fs_accepts C_System) (dCons (dVar 0) (dCons (dVar 3) (dNil)))) (dCons (dCB (fs_accepts C_System) (dCons (dVar 0) (dCons (dCB bTuple (dCons (dVar 1) (dNil))) (dNil)))) (dNil)))) 5)
  (dRet (dAndV (dOp oEq (dCB bRepr (dCons (dVar 5) (dNil))) (dCB bRepr (dCons (dLst (dCons (dVar 2) (dCons (dVar 2) (dNil)))) (dNil)))) (dOp oEq (dCB bRepr (dCons (dVar 3) (dNil))) (dVar 4))))))
/-! ### law -/
abbrev s_law : Stmt := top 40
abbrev N_law : List Str := ["_law_script", "_law_pool", "_law_edge", "_law_width", "_law_rules", "_law_lines", "_law_size", "_law_system", "_law_plain_here", "_law_whole", "_law_ends", "_law_extras", "_law_extra", "_law_place", "_law_paper", "_law_due", "_law_rule"]
def rt13_law (C_System : Addr) : DS := dSeq (dFor (dSeqW (dVar 10)) (gd 13) (dSeq (dSet (dOp oAdd (dVar 5) (dLst (dCons (dTup (dCons (dC (.str "false")) (dCons (dVar 13) (dNil)))) (dNil)))) 14)
  (dSeq (dSet (dCB fs__law_takes (dCons (dVar 9) (dCons (dVar 8) (dCons (dVar 14) (dNil))))) 15)
  (dSeq (dIfS (dNot (dTest (dCB (fs__law_asked C_System) (dCons (dVar 7) (dCons (dVar 14) (dCons (dVar 15) (dNil))))))) (dRet (dC (.bl false))) (dNext))
  (dSeq (dIfS (dAnd (dTest (dVar 15)) (dNot (dTest (dCB (fs__law_asked C_System) (dCons (dVar 7) (dCons (dOp oAdd (dVar 14) (dLst (dCons (dVar 12) (dNil)))) (dCons (dC (.bl false)) (dNil)))))))) (dRet (dC (.bl false))) (dNext))
  (dIfS (dAnd (dTest (dVar 15)) (dNot (dTest (dCB (fs__law_asked C_System) (dCons (dVar 7) (dCons (dOp oAdd (dVar 14) (dSl (dVar 14) (dPart (dNeg (dC (.int 1)))) (dNo))) (dCons (dC (.bl false)) (dNil)))))))) (dRet (dC (.bl false))) (dNext)))))))
  (dRet (dAndV (dCB (fs__law_asked C_System) (dCons (dVar 7) (dCons (dVar 5) (dCons (dC (.bl false)) (dNil))))) (dCB (fs__law_asked C_System) (dCons (dVar 7) (dCons (dLst (dNil)) (dCons (dC (.bl false)) (dNil)))))))
def rt11_law (C_System : Addr) : DS := dSeq (dSet (dLst (dCons (dTup (dCons (dC (.str "sum")) (dCons (dC (.int 1)) (dCons (dTup (dCons (dTup (dCons (dC (.int 0)) (dCons (dC (.int 1)) (dNil)))) (dNil))) (dNil))))) (dCons (dTup (dCons (dC (.str "false")) (dCons (dVar 6) (dNil)))) (dCons (dTup (dCons (dC (.str "split")) (dCons (dOp oMul (dTup (dCons (dC (.int 0)) (dNil))) (dOp oAdd (dVar 9) (dC (.int 1)))) (dNil)))) (dNil))))) 11)
  (dSeq (dSet (dOp oIx (dVar 11) (dCB fs__law_draw (dCons (dVar 1) (dCons (dC (.int 3)) (dNil))))) 12)
  (rt13_law C_System))
def rt10_law (C_System : Addr) : DS := dSeq (dIfS (dTest (dOp oEq (dVar 2) (dC (.int 3)))) (dSeq (dSet (dCB fs__law_scaled (dCons (dVar 5) (dCons (dOp oPow (dC (.int 10)) (dC (.int 29))) (dNil)))) 5)
  (dSet (dOp oAdd (dVar 10) (dLst (dCons (dOp oPow (dC (.int 10)) (dC (.int 30))) (dCons (dNeg (dOp oPow (dC (.int 10)) (dC (.int 30)))) (dNil))))) 10)) (dNext))
  (rt11_law C_System)
def rd_law (C_System : Addr) : DS := dSeq (dSet (dSl (dVar 0) (dNo) (dPart (dC (.int 63)))) 0)
  (dSeq (dSetC (dRev (dVar 0)) 1)
  (dSeq (dSet (dCB fs__law_draw (dCons (dVar 1) (dCons (dC (.int 4)) (dNil)))) 2)
  (dSeq (dAsg (dCB fs__law_world (dCons (dVar 1) (dNil))) (gdTup 4 (gdCons (gd 3) (gdCons (gd 4) (gdCons (gd 5) (gdCons (gd 6) (gdNil)))))))
  (dSeq (dSet (dCB fs__law_spoilt (dCons (dVar 1) (dCons (dCB fs__law_spoilt (dCons (dVar 1) (dCons (dVar 5) (dCons (dVar 6) (dNil))))) (dCons (dVar 6) (dNil))))) 5)
  (dSeq (dSet (dMake C_System (fs_System___init__ C_System) (dCons (dVar 3) (dCons (dVar 4) (dNil)))) 7)
  (dSeq (dSet (dCB fs__law_plain (dCons (dVar 3) (dCons (dVar 4) (dNil)))) 8)
  (dSeq (dSet (dOp oAdd (dVar 3) (dCB bLen (dCons (dLc (dSeqW (dVar 4)) 16 (dTest (dOp oEq (dOp oIx (dVar 16) (dC (.int 0))) (dC (.str "div")))) (dVar 16)) (dNil)))) 9)
  (dSeq (dIfS (dNot (dTest (dCB fs__law_adds (dCons (dVar 9) (dCons (dVar 8) (dCons (dVar 5) (dNil))))))) (dRet (dC (.bl false))) (dNext))
  (dSeq (dSet (dLRng (dCons (dNeg (dC (.int 1))) (dCons (dOp oAdd (dOp oAdd (dVar 6) (dCB bLen (dCons (dVar 5) (dNil)))) (dC (.int 1))) (dNil)))) 10)
  (rt10_law C_System))))))))))
end Lw
set_option Elab.async false
set_option linter.all false
set_option maxRecDepth 100000
set_option maxHeartbeats 4000000
namespace Lw
open PySem PySem.Spec PyProof.Rows L2 Dl
theorem l1 : 1 ≤ sizeLine := by decide
theorem l2 : 2 ≤ sizeLine := by decide
theorem l3 : 3 ≤ sizeLine := by decide
theorem l4 : 4 ≤ sizeLine := by decide
theorem lz {n : Nat} (h : n ≤ 100000) : n ≤ sizeLine := Nat.le_trans h (by decide)
theorem ifF {c : Bool} {A B : Prop} (h : c = false) (b : B) : if c = true then A else B := by
  subst h
  rw [if_neg Bool.false_ne_true]
  exact b
theorem ifT {c : Bool} {A B : Prop} (h : c = true) (a : A) : if c = true then A else B := by
  subst h
  rw [if_pos rfl]
  exact a
theorem ifC {c d : Bool} {A B : Prop} (h : c = d) (a : d = true → A) (b : d = false → B) : if c = true then A else B := by
  subst h
  cases c with
  | true => exact ifT rfl (a rfl)
  | false => exact ifF rfl (b rfl)
theorem iL_len (ns : List Int) : (iL ns).length = ns.length := List.length_map ..
theorem iL_app (a b : List Int) : iL (a ++ b) = iL a ++ iL b := List.map_append ..
theorem iL_get {ns : List Int} {i : Nat} (h : i < ns.length) : (iL ns)[i]? = some (.int ns[i]) := by
  rw [List.getElem?_map, List.getElem?_eq_getElem h] <;> rfl
theorem at_iL {ns : List Int} {i : Nat} (h : i < ns.length) : atI (iL ns) (i : Int) = some (.int ns[i]) := Dl.atI_nat (iL_get h)
theorem at_iL_last {a : List Int} {c : Int} : atI (iL (a ++ [c])) (-1) = some (.int c) := by
  rw [iL_app]
  exact atI_last
theorem cmul_l {b i j : Int} (h : -b ≤ i ∧ i ≤ b) (hb : b ≤ 1000000000000000000) : CMulG i j := Or.inl (Or.inl (by omega))
theorem cmul_r {b i j : Int} (h : -b ≤ j ∧ j ≤ b) (hb : b ≤ 1000000000000000000) : CMulG i j := Or.inl (Or.inr (by omega))
theorem Sm.get {b : Int} {l : List Int} (h : Sm b l) {i : Nat} (hi : i < l.length) : -b ≤ l[i] ∧ l[i] ≤ b := h _ (List.getElem_mem hi)
theorem dot_step {a p : List Int} {i : Nat} (h1 : i < a.length) (h2 : i < p.length) : dot (a.take (i + 1)) (p.take (i + 1)) = dot (a.take i) (p.take i) + a[i] * p[i] := by
  induction i generalizing a p with
  | zero =>
    cases a with
    | nil => exact absurd h1 (Nat.lt_irrefl _)
    | cons x a =>
      cases p with
      | nil => exact absurd h2 (Nat.lt_irrefl _)
      | cons y p =>
        show x * y + dot [] [] = 0 + x * y
        show x * y + 0 = 0 + x * y
        omega
  | succ i ih =>
    cases a with
    | nil => exact absurd h1 (Nat.not_lt_zero _)
    | cons x a =>
      cases p with
      | nil => exact absurd h2 (Nat.not_lt_zero _)
      | cons y p =>
        have k1 := Nat.lt_of_succ_lt_succ h1
        have k2 := Nat.lt_of_succ_lt_succ h2
        show x * y + dot (a.take (i + 1)) (p.take (i + 1)) = x * y + dot (a.take i) (p.take i) + a[i] * p[i]
        rw [ih (Nat.lt_of_succ_lt_succ h1) (Nat.lt_of_succ_lt_succ h2)]
        omega
theorem getElem_app {a : List Int} {c : Int} {i : Nat} (h : i < a.length) (h2 : i < (a ++ [c]).length) : (a ++ [c])[i] = a[i] := List.getElem_append_left h
theorem ok_negated (ds : List Dat) (M : Mem) (Q : Rv → Mem → Prop) (h : fs_negated ds M Q) : rd_negated (enD M Q) (startD N_negated ds) M := by
  obtain ⟨r, rfl, hb, q⟩ := h
  refine ⟨_, rfl, ?_⟩
  refine lc_map (enc := Dat.int) r (fun y => .int (-y)) (Nat.le_trans hb (by decide)) ?_ (fun x hx P hP => ?_) ?_
  · trivial
  · exact hP _ rfl
  · refine ⟨_, _, rfl, rfl, ?_⟩
    show Q _ (M.restr M)
    rw [Mem.restr_self]
    have e : r.map (fun y => Dat.int (-y)) = iL (r.map fun y => -y) := by
      show _ = List.map Dat.int (List.map _ r)
      rw [List.map_map] <;> rfl
    show Q (.d (.tup (r.map (fun y => Dat.int (-y))))) M
    rw [e]
    exact q
theorem rep_flat (n : Nat) (x : Dat) : (List.replicate n [x]).flatten = List.replicate n x := by
  induction n with
  | zero => rfl
  | succ n ih =>
    rw [List.replicate_succ, List.flatten_cons, ih, List.replicate_succ] <;> rfl
theorem iL_rep (n : Nat) (c : Int) : iL (List.replicate n c) = List.replicate n (Dat.int c) := List.map_replicate ..
theorem ok_extended (ds : List Dat) (M : Mem) (Q : Rv → Mem → Prop) (h : fs_extended ds M Q) : rd_extended (enD M Q) (startD N_extended ds) M := by
  obtain ⟨a, c, n, rfl, ha, hn, q⟩ := h
  have e1 : cut (iL (a ++ [c])) none (some (-1)) = iL a := by rw [iL_app]; exact cut_butlast
  refine ⟨_, _, rfl, rfl, ?_⟩
  refine ⟨l1, by omega, by omega, show 1 ≤ 1000 by decide, ?_, ?_⟩
  · rw [e1, iL_len, Int.toNat_natCast, rep_flat, List.length_replicate]
    exact Nat.le_trans (Nat.add_le_add ha hn) (by decide)
  refine ⟨-1, _, .int c, rfl, rfl, at_iL_last, l1, ?_, ?_⟩
  · rw [e1, Int.toNat_natCast, rep_flat, List.length_append, iL_len, List.length_replicate]
    exact Nat.le_trans (Nat.add_le_add (Nat.add_le_add ha hn) (Nat.le_refl 1)) (by decide)
  · show Q _ (M.restr M)
    rw [e1, Mem.restr_self, Int.toNat_natCast, rep_flat]
    have e3 := iL_rep n 0
    show Q (.d (.tup (iL a ++ List.replicate n (Dat.int 0) ++ iL [c]))) M
    rw [← e3]
    show Q (.d (.tup (iL a ++ iL (List.replicate n 0) ++ iL [c]))) M
    rw [← iL_app, ← iL_app]
    exact q
theorem in_kind_false (s : Str) (h : s = "ge" ∨ s = "eq" ∨ s = "div") : (true != inV (.str s) [.str "ge", .str "eq", .str "div"]) = false := by
  rcases h with h | h | h <;> subst h <;> decide +kernel
/-- a condition's kind and row -/
def Kd.nm : Kd → Str
  | .ge => "ge"
  | .eq => "eq"
  | .div _ => "div"
theorem enc_its (x : Cd) : x.enc = .tup x.its := rfl
theorem its_0 (x : Cd) : atI x.its 0 = some (.str x.k.nm) := by
  obtain ⟨k, a, c⟩ := x
  cases k <;> rfl
theorem its_l (x : Cd) : atI x.its (-1) = some (encR (x.a ++ [x.c])) := by
  obtain ⟨k, a, c⟩ := x
  cases k <;> rfl
theorem nm_in (k : Kd) : (true != inV (.str k.nm) [.str "ge", .str "eq", .str "div"]) = false := by
  refine in_kind_false _ ?_
  cases k
  · exact Or.inl rfl
  · exact Or.inr (Or.inl rfl)
  · exact Or.inr (Or.inr rfl)
theorem nm_div (k : Kd) : (true != decide (k.nm = "div")) = !k.isDiv := by
  cases k with
  | ge => exact (by decide +kernel : (true != decide (("ge" : Str) = "div")) = true)
  | eq => exact (by decide +kernel : (true != decide (("eq" : Str) = "div")) = true)
  | div m => exact (by decide +kernel : (true != decide (("div" : Str) = "div")) = false)
theorem nm_div2 (k : Kd) : (false != decide (k.nm = "div")) = k.isDiv := by
  cases k with
  | ge => exact (by decide +kernel : (false != decide (("ge" : Str) = "div")) = false)
  | eq => exact (by decide +kernel : (false != decide (("eq" : Str) = "div")) = false)
  | div m => exact (by decide +kernel : (false != decide (("div" : Str) = "div")) = true)
theorem nm_ge (k : Kd) : (false != decide (k.nm = "ge")) = k.isGe := by
  cases k with
  | ge => exact (by decide +kernel : (false != decide (("ge" : Str) = "ge")) = true)
  | eq => exact (by decide +kernel : (false != decide (("eq" : Str) = "ge")) = false)
  | div m => exact (by decide +kernel : (false != decide (("div" : Str) = "ge")) = false)
theorem nm_ge2 (k : Kd) : (true != decide (k.nm = "ge")) = !k.isGe := by
  cases k with
  | ge => exact (by decide +kernel : (true != decide (("ge" : Str) = "ge")) = false)
  | eq => exact (by decide +kernel : (true != decide (("eq" : Str) = "ge")) = true)
  | div m => exact (by decide +kernel : (true != decide (("div" : Str) = "ge")) = true)
theorem nm_eq (k : Kd) : (false != decide (k.nm = "eq")) = (match k with | .eq => true | _ => false) := by
  cases k with
  | ge => exact (by decide +kernel : (false != decide (("ge" : Str) = "eq")) = false)
  | eq => exact (by decide +kernel : (false != decide (("eq" : Str) = "eq")) = true)
  | div m => exact (by decide +kernel : (false != decide (("div" : Str) = "eq")) = false)
theorem seq_enc {M : Mem} (x : Cd) : SeqR M (.d x.enc) x.its := by
  exact rfl
theorem div_of {k : Kd} (h : (!k.isDiv) = false) : ∃ m, k = .div m := by
  cases k with
  | ge => cases h
  | eq => cases h
  | div m => exact ⟨m, rfl⟩
theorem enc_nd {x : Cd} (h : (!x.k.isDiv) = true) : x.enc = .tup [.str x.k.nm, encR (x.a ++ [x.c])] := by
  obtain ⟨k, a, c⟩ := x
  cases k with
  | ge => rfl
  | eq => rfl
  | div m => cases h
theorem enc_d {x : Cd} {m : Int} (h : x.k = .div m) : x.enc = .tup [.str "div", .int m, encR (x.a ++ [x.c])] := by
  obtain ⟨k, a, c⟩ := x
  cases h
  rfl
theorem its_1 {x : Cd} {m : Int} (h : x.k = .div m) : atI x.its 1 = some (.int m) := by
  obtain ⟨k, a, c⟩ := x
  cases h
  rfl
theorem ok__copied (ds : List Dat) (M : Mem) (Q : Rv → Mem → Prop) (h : fs__copied ds M Q) : rd__copied (enD M Q) (startD N__copied ds) M := by
  obtain ⟨x, w, rfl, hw, hk, q⟩ := h
  refine ⟨0, _, _, rfl, seq_enc x, its_0 x, l3, _, _, _, _, rfl, rfl, rfl, rfl, ifF (nm_in _) ?_⟩
  refine ⟨-1, _, _, rfl, seq_enc x, its_l x, _, _, rfl, rfl, ?_⟩
  refine ⟨_, _, rfl, rfl, ifF ?_ ?_⟩
  · rw [iL_len, List.length_append, hw, Bool.true_bne, decide_eq_true (show ((w + [x.c].length : Nat) : Int) = (w : Int) + 1 from rfl)] <;> rfl
  refine ⟨0, _, _, rfl, seq_enc x, its_0 x, ifC (nm_div x.k) (fun hd => ?_) (fun hd => ?_)⟩
  · refine ⟨0, _, _, rfl, seq_enc x, its_0 x, l2, ?_⟩
    show Q _ (M.restr M)
    rw [Mem.restr_self]
    rw [enc_nd hd] at q
    exact q
  · obtain ⟨m, hm⟩ := div_of hd
    have hk' : 2 ≤ m ∧ m ≤ 60 := by
      rw [hm] at hk
      exact hk
    refine ⟨1, _, _, rfl, seq_enc x, its_1 hm, ifF (decide_eq_false (by omega)) ?_⟩
    refine ⟨1, _, _, rfl, seq_enc x, its_1 hm, l3, ?_⟩
    show Q _ (M.restr M)
    rw [Mem.restr_self]
    rw [enc_d hm] at q
    exact q
end Lw
set_option Elab.async false
set_option linter.all false
set_option maxRecDepth 100000
set_option maxHeartbeats 4000000
namespace Lw
open PySem PySem.Spec PyProof.Rows L2 Dl
theorem stay_seq {M M' : Mem} {d : Dat} {ys : List Dat} (h : SeqR M (.d d) ys) (k : ∀ q m, M q = some m → M' q = some m) : stayR ys d M' := by
  cases d with
  | cell p => exact k _ _ h
  | _ => trivial
theorem seq_keep {M M' : Mem} {r : Rv} {ys : List Dat} (h : SeqR M r ys) (k : ∀ q m, M q = some m → M' q = some m) : SeqR M' r ys := by
  unfold SeqR at h ⊢
  split at h <;> first | exact h | exact k _ _ h
theorem set_keep {M : Mem} {p : Addr} {m : MV} (h : M p = none) : ∀ q n, M q = some n → M.set p m q = some n := fun q n e => by
  rw [Mem.set_ne (fun z => by subst z; rw [h] at e; cases e)]
  exact e
theorem ok_System___init__ (C : Addr) (ds : List Dat) (M : Mem) (Q : Rv → Mem → Prop) (h : fs_System___init__ C ds M Q) : rd_System___init__ C (enD M Q) (startD N_System___init__ ds) M := by
  obtain ⟨p, w, d, cs, rfl, hp, hs, hw, hl, hg, q⟩ := h
  refine ifF (c := !decide ((w : Int) ≤ 80)) (by rw [decide_eq_true (by omega)] <;> rfl) ?_
  refine ⟨Nat.zero_le _, _, rfl, fun k hk => ?_⟩
  have kp : k ≠ p := fun z => by
    subst z
    rw [hp] at hk
    cases hk
  refine ⟨_, seq_keep hs (set_keep hk), ?_⟩
  refine for_rest (enc := Cd.enc) cs (fun r env m => ∃ acc z1 z2, m = M.set k (.lst acc) ∧ env = [some (.cell p), some (.int w), some d, some (.cell k), z1, z2] ∧ acc ++ r.map Cd.enc = cs.map Cd.enc ∧ ∀ x ∈ r, x ∈ cs) ?_ ?_ ?_ ?_
  · exact ⟨[], none, none, rfl, rfl, rfl, fun _ h => h⟩
  · rintro r env m ⟨acc, z1, z2, rfl, rfl, _⟩
    exact stay_seq hs (set_keep hk)
  · rintro x r env m ⟨acc, z1, z2, rfl, rfl, h1, h2⟩
    have gx := hg x (h2 x List.mem_cons_self)
    refine ⟨x, w, rfl, gx.1, gx.2.2.2.2, rfl, ?_⟩
    have hlen := congrArg List.length h1
    rw [List.length_append, List.length_map, List.length_map, List.length_cons] at hlen
    refine ⟨k, acc, rfl, Mem.set_same, acc, Mem.set_same, ?_, ?_⟩
    · exact Nat.lt_of_lt_of_le (show acc.length < 1001 by omega) (by decide)
    · refine ⟨acc ++ [x.enc], _, _, Mem.set_set, rfl, ?_, fun y hy => h2 y (List.mem_cons_of_mem _ hy)⟩
      rw [List.append_assoc]
      exact h1
  · rintro env m ⟨acc, z1, z2, rfl, rfl, h1, h2⟩
    rw [List.map_nil, List.append_nil] at h1
    subst h1
    refine ⟨p, [], rfl, (Mem.set_ne kp.symm).trans hp, by decide, ?_⟩
    refine ⟨_, _, rfl, (Mem.set_ne kp).trans Mem.set_same, p, [("width", .int w)], rfl, Mem.set_same, show 1 < 1000 by decide, ?_⟩
    show Q _ (M.restr _)
    rw [Mem.set_set, Mem.restr_set_in hp, Mem.restr_set_out hk, Mem.restr_self]
    exact q
theorem mk_sys {C : Addr} {w : Nat} {d : Dat} {cs : List Cd} {M : Mem} {Q : Rv → Mem → Prop} (hs : SeqR M (.d d) (cs.map Cd.enc)) (hw : w ≤ 80) (hl : cs.length ≤ 1000) (hg : Good w cs) (q : Q (.d (sysD C w cs)) M) :
    ∀ x, M x = none → fs_System___init__ C (.cell x :: [.int w, d]) (M.set x (.obj C [])) fun r M2 => r = .d .non ∧ ∃ m, M2 x = some m ∧ Q (.d (frz m)) (M2.del x) := fun x hx =>
  ⟨x, w, d, cs, rfl, Mem.set_same, seq_keep hs (set_keep hx), hw, hl, hg, rfl, _, Mem.set_same, by
    rw [Mem.set_set, Mem.del_set hx]
    exact q⟩
theorem mk_sysI {C : Addr} {w : Nat} {wi : Int} {d : Dat} {cs : List Cd} {M : Mem} {Q : Rv → Mem → Prop} (e : wi = (w : Int)) (hs : SeqR M (.d d) (cs.map Cd.enc)) (hw : w ≤ 80) (hl : cs.length ≤ 1000) (hg : Good w cs) (q : Q (.d (sysD C w cs)) M) :
    ∀ x, M x = none → fs_System___init__ C (.cell x :: [.int wi, d]) (M.set x (.obj C [])) fun r M2 => r = .d .non ∧ ∃ m, M2 x = some m ∧ Q (.d (frz m)) (M2.del x) := by
  subst e
  exact mk_sys hs hw hl hg q
theorem good_app {w : Nat} {a b : List Cd} (h : Good w a) (g : Good w b) : Good w (a ++ b) := fun x hx => by
  rcases List.mem_append.mp hx with z | z
  · exact h x z
  · exact g x z
end Lw
set_option Elab.async false
set_option linter.all false
set_option maxRecDepth 100000
set_option maxHeartbeats 4000000
namespace Lw
open PySem PySem.Spec PyProof.Rows L2 Dl
theorem its_put (k : Kd) (a a' : List Int) (c c' : Int) : cut (Cd.its ⟨k, a, c⟩) none (some (-1)) ++ [encR (a' ++ [c'])] = Cd.its ⟨k, a', c'⟩ := by
  cases k <;> rfl
theorem its_cut_len (x : Cd) : (cut x.its none (some (-1))).length ≤ 2 := by
  obtain ⟨k, a, c⟩ := x
  cases k
  · exact (by decide : 1 ≤ 2)
  · exact (by decide : 1 ≤ 2)
  · exact Nat.le_refl 2
theorem good_wide {w n : Nat} {cs : List Cd} (h : Good w cs) : Good (w + n) (cs.map (Cd.wide n)) := fun x hx => by
  obtain ⟨y, hy, rfl⟩ := List.mem_map.mp hx
  obtain ⟨h1, h2, h3, h4, h5⟩ := h y hy
  refine ⟨?_, fun z hz => ?_, h3, h4, h5⟩
  · show (y.a ++ List.replicate n 0).length = _
    rw [List.length_append, List.length_replicate, h1]
  · rcases List.mem_append.mp hz with k | k
    · exact h2 z k
    · have := List.eq_of_mem_replicate k
      omega
theorem take_app_drop {a : List Int} {n : Nat} (h : n ≤ a.length) : (a.take n).length = n := by
  rw [List.length_take]; omega
theorem ok_System_plain_width (C : Addr) (ds : List Dat) (M : Mem) (Q : Rv → Mem → Prop) (h : fs_System_plain_width C ds M Q) : rd_System_plain_width C (enD M Q) (startD N_System_plain_width ds) M := by
  obtain ⟨w, cs, rfl, hl, q⟩ := h
  refine ⟨rfl, _, rfl, rfl, _, rfl, _, rfl, ?_⟩
  refine lc_filter (enc := Cd.enc) cs (fun x => x.k.isDiv) Cd.enc (lz (by omega)) ?_ (fun x hx P hP => ?_) (fun x hx P hP => ?_) ?_
  · trivial
  · refine ⟨0, _, _, rfl, seq_enc x, its_0 x, ?_⟩
    show P (false != decide (x.k.nm = "div")) M
    rw [nm_div2]
    exact hP
  · exact hP _ rfl
  · refine ⟨_, _, rfl, rfl, ?_⟩
    show Q _ (M.restr M)
    rw [Mem.restr_self, List.length_map]
    exact q
end Lw
set_option Elab.async false
set_option linter.all false
set_option maxRecDepth 100000
set_option maxHeartbeats 4000000
namespace Lw
open PySem PySem.Spec PyProof.Rows L2 Dl
theorem put_at {α : Type} (a r b : List α) (p : Nat) (y : α) (h : p < r.length) : (a ++ r ++ b).take (a.length + p) ++ [y] ++ (a ++ r ++ b).drop (a.length + p + 1) = a ++ r.set p y ++ b := by
  have h1 : (a ++ r ++ b).take (a.length + p) = a ++ r.take p := by
    rw [List.append_assoc, List.take_length_add_append, List.take_append_of_le_length (by omega)]
  have h2 : (a ++ r ++ b).drop (a.length + p + 1) = r.drop (p + 1) ++ b := by
    rw [List.append_assoc, Nat.add_assoc, List.drop_length_add_append, List.drop_append_of_le_length (by omega)]
  rw [h1, h2, List.set_eq_take_append_cons_drop, if_pos h]
  simp
theorem qv_nd {n s : Nat} {k : Kd} (h : k.isDiv = false) : qv n s k = List.replicate n 0 := by
  cases k with
  | ge => rfl
  | eq => rfl
  | div m => cases h
theorem qv_d {n s : Nat} {k : Kd} {m : Int} (h : k = .div m) : qv n s k = (List.replicate n 0).set s (-m) := by
  subst h
  rfl
theorem qv_len {n s : Nat} {k : Kd} : (qv n s k).length = n := by
  cases k with
  | ge => exact List.length_replicate
  | eq => exact List.length_replicate
  | div m => exact (List.length_set ..).trans List.length_replicate
theorem div_of' {k : Kd} (h : k.isDiv = true) : ∃ m, k = .div m := by
  cases k with
  | ge => cases h
  | eq => cases h
  | div m => exact ⟨m, rfl⟩
theorem nd_cons (x : Cd) (r : List Cd) : nd (x :: r) = (if x.k.isDiv = true then 1 else 0) + nd r := by
  unfold nd
  rw [List.filter_cons]
  split
  · rw [List.length_cons, Nat.add_comm]
  · rw [Nat.zero_add]
theorem nd_le (r : List Cd) : nd r ≤ r.length := List.length_filter_le ..
theorem prow_len {n s : Nat} {x : Cd} : (prow n s x).length = x.a.length + n + 1 := by
  unfold prow
  rw [List.length_append, List.length_append, qv_len] <;> rfl
/-- what a walk over the conditions keeps -/
structure Wl (n : Nat) (cs : List Cd) (seen : Nat) (acc : List (List Int)) (r : List Cd) : Prop where
  all : acc ++ prows n seen r = prows n 0 cs
  cnt : seen + nd r = n
  mem : ∀ x ∈ r, x ∈ cs
  len : acc.length + 2 * r.length ≤ 2 * cs.length
theorem Wl.start {cs : List Cd} : Wl (nd cs) cs 0 [] cs := ⟨rfl, Nat.zero_add _, fun _ h => h, by rw [List.length_nil]; omega⟩
theorem Wl.step {n seen : Nat} {cs r : List Cd} {x : Cd} {acc : List (List Int)} (h : Wl n cs seen acc (x :: r)) : Wl n cs (nxt seen x.k) (acc ++ prows1 n seen x) r := by
  refine ⟨?_, ?_, fun y hy => h.mem y (List.mem_cons_of_mem _ hy), ?_⟩
  · rw [List.append_assoc]
    exact h.all
  · have := h.cnt
    rw [nd_cons] at this
    unfold nxt
    by_cases z : x.k.isDiv = true
    · rw [if_pos z] at this ⊢
      omega
    · rw [if_neg z] at this ⊢
      omega
  · have := h.len
    rw [List.length_cons] at this
    rw [List.length_append]
    unfold prows1
    have e : (if x.k.isGe = true then ([] : List (List Int)) else [(prow n seen x).map fun y => -y]).length ≤ 1 := by split <;> simp
    rw [List.length_cons]
    omega
theorem Wl.fin {n seen : Nat} {cs : List Cd} {acc : List (List Int)} (h : Wl n cs seen acc []) : acc = prows n 0 cs := by
  have := h.all
  rwa [show prows n seen [] = [] from rfl, List.append_nil] at this
theorem ok_System_plain_rows (C : Addr) (ds : List Dat) (M : Mem) (Q : Rv → Mem → Prop) (h : fs_System_plain_rows C ds M Q) : rd_System_plain_rows C (enD M Q) (startD N_System_plain_rows ds) M := by
  obtain ⟨w, cs, rfl, hl, hw, ha, q⟩ := h
  have hnd := nd_le cs
  refine ⟨_, _, rfl, ⟨rfl, rfl⟩, w, cs, rfl, by omega, rfl, _, rfl, ?_⟩
  have e0 : (w : Int) + (nd cs : Int) - (w : Int) = (nd cs : Int) := by omega
  refine ⟨Nat.zero_le _, _, rfl, fun k hk => ?_⟩
  refine ⟨rfl, _, rfl, ?_⟩
  refine ⟨rfl, _, rfl, _, rfl, ?_⟩
  refine for_rest (enc := Cd.enc) cs (fun r env m => ∃ acc seen z1 z2, m = M.set k (.lst (acc.map encR)) ∧ env = [some (sysD C w cs), some (.int (nd cs : Int)), some (.cell k), some (.int ((w + seen : Nat) : Int)), z1, z2] ∧ Wl (nd cs) cs seen acc r) ?_ ?_ ?_ ?_
  · refine ⟨[], 0, none, none, rfl, ?_, Wl.start⟩
    show [some (sysD C w cs), some (.int ((w : Int) + (nd cs : Int) - (w : Int))), some (.cell k), some (.int (w : Int)), none, none] = _
    rw [e0] <;> rfl
  · rintro r env m _
    trivial
  · rintro x r env m ⟨acc, seen, z1, z2, rfl, rfl, W⟩
    have hx := W.mem x List.mem_cons_self
    have hxa := ha x hx
    have hlen := W.len
    rw [List.length_cons] at hlen
    have hcnt := W.cnt
    rw [nd_cons] at hcnt
    have W2 := W.step
    refine ⟨-1, _, _, rfl, seq_enc x, its_l x, x.a, x.c, nd cs, rfl, by omega, by omega, ?_⟩
    -- the row is made; then it is appended
    have tail : ∀ z pl rw, pl = ((w + nxt seen x.k : Nat) : Int) → rw = iL (prow (nd cs) seen x) → (dSeq (dDrop (dAppend (dVar 2) (dVar 5))) (dIfS (dTest (dOp oNe (dOp oIx (dVar 4) (dC (.int 0))) (dC (.str "ge")))) (dDrop (dAppend (dVar 2) (dCB fs_negated (dCons (dVar 5) dNil)))) dNext))
        ⟨fun env m => ∃ acc seen z1 z2, m = M.set k (.lst (acc.map encR)) ∧ env = [some (sysD C w cs), some (.int (nd cs : Int)), some (.cell k), some (.int ((w + seen : Nat) : Int)), z1, z2] ∧ Wl (nd cs) cs seen acc r, (enD M Q).rt, z, fun env m => ∃ acc seen z1 z2, m = M.set k (.lst (acc.map encR)) ∧ env = [some (sysD C w cs), some (.int (nd cs : Int)), some (.cell k), some (.int ((w + seen : Nat) : Int)), z1, z2] ∧ Wl (nd cs) cs seen acc r⟩
        [some (sysD C w cs), some (.int (nd cs : Int)), some (.cell k), some (.int pl), some x.enc, some (.tup rw)] (M.set k (.lst (acc.map encR))) := by
      intro z pl rw_ e1 e2
      subst e1 e2
      refine ⟨k, _, rfl, Mem.set_same, _, Mem.set_same, ?_, ?_⟩
      · rw [List.length_map]
        exact Nat.lt_of_lt_of_le (show acc.length < 2001 by omega) (by decide)
      refine ⟨0, _, _, rfl, seq_enc x, its_0 x, ifC (nm_ge2 x.k) (fun hd => ?_) (fun hd => ?_)⟩
      · have hg : x.k.isGe = false := by simpa using hd
        refine ⟨k, _, rfl, by rw [Mem.set_set]; exact Mem.set_same, prow (nd cs) seen x, rfl, by rw [prow_len]; omega, _, by rw [Mem.set_set]; exact Mem.set_same, ?_, ?_⟩
        · rw [List.length_append, List.length_map]
          exact Nat.lt_of_lt_of_le (show acc.length + 1 < 2001 by omega) (by decide)
        · refine ⟨_, _, _, _, ?_, rfl, W2⟩
          rw [Mem.set_set, Mem.set_set]
          unfold prows1
          rw [hg, if_neg Bool.false_ne_true, List.map_append, List.append_assoc] <;> rfl
      · have hg : x.k.isGe = true := by simpa using hd
        refine ⟨_, _, _, _, ?_, rfl, W2⟩
        rw [Mem.set_set]
        unfold prows1
        rw [hg, if_pos rfl, List.map_append] <;> rfl
    refine ⟨0, _, _, rfl, seq_enc x, its_0 x, ifC (nm_div2 x.k) (fun hd => ?_) (fun hd => ?_)⟩
    · obtain ⟨m, hm⟩ := div_of' hd
      have hs : seen < nd cs := by
        rw [if_pos hd] at hcnt
        omega
      have e1 : cut (iL (x.a ++ List.replicate (nd cs) 0 ++ [x.c])) none (some ((w + seen : Nat) : Int)) = iL ((x.a ++ List.replicate (nd cs) 0 ++ [x.c]).take (w + seen)) := by rw [cut_to, ← List.map_take]
      have e2 : cut (iL (x.a ++ List.replicate (nd cs) 0 ++ [x.c])) (some (((w + seen : Nat) : Int) + 1)) none = iL ((x.a ++ List.replicate (nd cs) 0 ++ [x.c]).drop (w + seen + 1)) := by
        rw [show ((w + seen : Nat) : Int) + 1 = ((w + seen + 1 : Nat) : Int) from rfl, cut_from, ← List.map_drop]
      have lt : (x.a ++ List.replicate (nd cs) 0 ++ [x.c]).length = w + nd cs + 1 := by
        rw [List.length_append, List.length_append, List.length_replicate, hxa] <;> rfl
      refine ⟨1, _, _, rfl, seq_enc x, its_1 hm, l1, ?_, ?_⟩
      · rw [e1, iL_len, List.length_take, lt]
        exact lz (by show min _ _ + 1 ≤ _; omega)
      refine ⟨?_, ?_⟩
      · rw [e1, e2, List.length_append, iL_len, iL_len, List.length_take, List.length_drop, lt]
        exact lz (by show min _ _ + 1 + _ ≤ _; omega)
      have e3 : (cut (iL (x.a ++ List.replicate (nd cs) 0 ++ [x.c])) none (some ((w + seen : Nat) : Int)) ++ [Dat.int (-m)] ++ cut (iL (x.a ++ List.replicate (nd cs) 0 ++ [x.c])) (some (((w + seen : Nat) : Int) + 1)) none) = iL (prow (nd cs) seen x) := by
        rw [e1, e2, show [Dat.int (-m)] = iL [-m] from rfl, ← iL_app, ← iL_app]
        have := put_at x.a (List.replicate (nd cs) 0) [x.c] seen (-m) (by rw [List.length_replicate]; exact hs)
        rw [hxa] at this
        rw [this]
        unfold prow
        rw [qv_d hm]
      refine tail _ _ _ ?_ e3
      unfold nxt
      rw [if_pos hd] <;> rfl
    · refine tail _ _ _ ?_ ?_
      · unfold nxt
        rw [hd, if_neg Bool.false_ne_true]
      · unfold prow
        rw [qv_nd hd]
  · rintro env m ⟨acc, seen, z1, z2, rfl, rfl, W⟩
    have e := W.fin
    subst e
    refine Or.inl ⟨hk, _, Mem.set_same, ?_⟩
    rw [Mem.restr_set_out hk, Mem.restr_self]
    exact q
end Lw
set_option Elab.async false
set_option linter.all false
set_option maxRecDepth 100000
set_option maxHeartbeats 4000000
namespace Lw
open PySem PySem.Spec PyProof.Rows L2 Dl
theorem canLay_ints : ∀ ns : List Int, PyData.canLayAll0 (ns.map PyData.int) = true
  | [] => rfl
  | n :: r => by
    rw [List.map_cons]
    simp only [PyData.canLayAll0, PyData.canLay0, Bool.true_and]
    exact canLay_ints r
theorem depth_ints : ∀ ns : List Int, PyData.depthAll (ns.map PyData.int) = 0
  | [] => rfl
  | n :: r => by
    rw [List.map_cons]
    simp only [PyData.depthAll, PyData.depth]
    rw [depth_ints r] <;> rfl
theorem shaped_ints (ns : List Int) : SeqAt.shaped (.list (ns.map PyData.int)) = true := by
  have h1 : PyData.canLay0 (.list (ns.map PyData.int)) = true := by
    simp only [PyData.canLay0]
    exact canLay_ints ns
  have h2 : PyData.depth (.list (ns.map PyData.int)) ≤ 64 := by
    simp only [PyData.depth]
    rw [depth_ints]
    decide
  unfold SeqAt.shaped
  rw [h1, decide_eq_true h2] <;> rfl
theorem eqv_empty (ns : List Int) : (false != PyData.eqv (.list (ns.map PyData.int)) (.list [])) = ns.isEmpty := by
  cases ns <;> rfl
theorem PoolTo.at {M M' : Mem} {p : Addr} (h : PoolTo M p M') : PoolAt M' p := by
  obtain ⟨ns, h1, rfl⟩ := h
  exact ⟨ns, h1, Mem.set_same⟩
theorem PoolTo.trans {M M1 M2 : Mem} {p : Addr} (h : PoolTo M p M1) (g : PoolTo M1 p M2) : PoolTo M p M2 := by
  obtain ⟨ns, h1, rfl⟩ := h
  obtain ⟨ms, g1, rfl⟩ := g
  exact ⟨ms, g1, Mem.set_set⟩
theorem PoolAt.refl {M : Mem} {p : Addr} (h : PoolAt M p) : PoolTo M p M := by
  obtain ⟨ns, h1, h2⟩ := h
  exact ⟨ns, h1, (Mem.set_self h2).symm⟩
theorem PoolTo.restr {M M' : Mem} {p : Addr} (h : PoolTo M p M') (g : PoolAt M p) : M.restr M' = M' := by
  obtain ⟨ns, h1, rfl⟩ := h
  obtain ⟨ms, g1, g2⟩ := g
  rw [Mem.restr_set_in g2, Mem.restr_self]
theorem bl_flat (b : Bool) : (true != b) = !b := by cases b <;> rfl
theorem last_get {ns : List Int} (h : ns ≠ []) : (iL ns)[(iL ns).length - 1]? = some (.int (ns.getLast h)) := by
  rw [iL_len, List.getElem?_map]
  rw [← List.getLast?_eq_getElem?, List.getLast?_eq_some_getLast h] <;> rfl
theorem ok__law_draw (ds : List Dat) (M : Mem) (Q : Rv → Mem → Prop) (h : fs__law_draw ds M Q) : rd__law_draw (enD M Q) (startD N__law_draw ds) M := by
  obtain ⟨p, m, rfl, ⟨ns, hn, hp⟩, hm, hlog, q⟩ := h
  refine ⟨Nat.zero_le _, .list (ns.map PyData.int), .list [], .cell hp (PyOfA.ints M ns), ⟨[], rfl, .nil⟩, shaped_ints ns, by decide, ?_⟩
  refine ifC (eqv_empty ns) (fun he => ?_) (fun he => ?_)
  · show Q _ (M.restr M)
    rw [Mem.restr_self]
    exact q 0 M (Int.le_refl 0) hm ⟨ns, hn, (Mem.set_self hp).symm⟩
  have ne : ns ≠ [] := fun z => by
    subst z
    cases he
  refine ⟨p, _, _, rfl, hp, last_get ne, ?_⟩
  refine ⟨⟨hm, hlog⟩, ?_⟩
  have hmod : 0 ≤ ns.getLast ne % m ∧ ns.getLast ne % m < m := ⟨Int.emod_nonneg _ (by omega), Int.emod_lt_of_pos _ hm⟩
  have hdl : (iL ns).dropLast = iL ns.dropLast := List.map_dropLast.symm
  have hdn : ns.dropLast.length ≤ 62 := by rw [List.length_dropLast]; omega
  refine ⟨l2, _, _, _, _, rfl, rfl, rfl, rfl, ?_⟩
  refine ifC rfl (fun hin => ?_) (fun hin => ?_)
  · refine ⟨p, _, rfl, Mem.set_same, _, Mem.set_same, ?_, ?_⟩
    · rw [hdl, iL_len]
      exact Nat.lt_of_le_of_lt hdn (by decide)
    refine ⟨hm, ?_⟩
    show Q _ (M.restr _)
    rw [Mem.set_set, Mem.restr_set_in hp, Mem.restr_self, hdl]
    refine q _ _ hmod.1 hmod.2 ⟨ns.dropLast ++ [ns.getLast ne / m], ?_, ?_⟩
    · rw [List.length_append]
      show _ + 1 ≤ _
      omega
    · rw [iL_app] <;> rfl
  · refine ⟨hm, ?_⟩
    show Q _ (M.restr _)
    rw [Mem.restr_set_in hp, Mem.restr_self, hdl]
    exact q _ _ hmod.1 hmod.2 ⟨ns.dropLast, by omega, rfl⟩
theorem log_ok {m : Int} (h0 : 0 ≤ m) (h : m ≤ 10000000000000000000) : m.natAbs.log2 < 9000 := by
  by_cases z : m.natAbs = 0
  · rw [z]
    exact (by decide : Nat.log2 0 < 9000)
  · have h2 : m.natAbs < 2 ^ 64 := Nat.lt_of_le_of_lt (show m.natAbs ≤ 10000000000000000000 by omega) (by decide)
    exact Nat.lt_of_lt_of_le ((Nat.log2_lt z).mpr h2) (by decide)
theorem ok__law_number (ds : List Dat) (M : Mem) (Q : Rv → Mem → Prop) (h : fs__law_number ds M Q) : rd__law_number (enD M Q) (startD N__law_number ds) M := by
  obtain ⟨p, z, t, rfl, hp, h0, h1, q⟩ := h
  refine ⟨cmul_l (b := 2) (by decide) (by decide), ?_⟩
  refine ⟨p, 2 * z + 1, rfl, hp, by omega, log_ok (by omega) (by omega), fun v M' v0 v1 hM => ?_⟩
  refine ⟨cmul_l (b := 2) (by decide) (by decide), show 0 < 2 * z + 1 by omega, ?_⟩
  show Q _ (M.restr M')
  rw [hM.restr hp]
  have hmod : 0 ≤ (v + z + t) % (2 * z + 1) ∧ (v + z + t) % (2 * z + 1) < 2 * z + 1 := ⟨Int.emod_nonneg _ (by omega), Int.emod_lt_of_pos _ (by omega)⟩
  exact q _ M' (show -z ≤ (v + z + t) % (2 * z + 1) - z by omega) (show (v + z + t) % (2 * z + 1) - z ≤ z by omega) hM
/-- the products, summed -/
def prods (a p : List Int) : Nat → List Int
  | 0 => []
  | n + 1 => prods a p n ++ [a.getD n 0 * p.getD n 0]
theorem prods_len (a p : List Int) : ∀ n, (prods a p n).length = n
  | 0 => rfl
  | n + 1 => by
    show (prods a p n ++ [_]).length = _
    rw [List.length_append, prods_len a p n] <;> rfl
theorem getD_of {a : List Int} {i : Nat} (h : i < a.length) : a.getD i 0 = a[i] := by
  rw [List.getD_eq_getElem?_getD, List.getElem?_eq_getElem h] <;> rfl
theorem prods_sum (a p : List Int) : ∀ n, n ≤ a.length → n ≤ p.length → (prods a p n).sum = dot (a.take n) (p.take n)
  | 0, _, _ => by
    rw [List.take_zero, List.take_zero] <;> rfl
  | n + 1, h1, h2 => by
    show (prods a p n ++ [_]).sum = _
    rw [List.sum_append, prods_sum a p n (by omega) (by omega), dot_step (by omega) (by omega), getD_of (by omega), getD_of (by omega)]
    simp
/-- [row[k] * point[k] for k in range(n)], then whatever -/
theorem lc_prods {row e : Dat} {a pt : List Int} {ys : List Dat} {env : Dl.Env} {M : Mem} {i j k : Nat} {n : Nat} {QL : List Dat → Mem → Prop} (hr : ∀ d, (env.set k d)[i]? = some (some row)) (he : ∀ d, (env.set k d)[j]? = some (some e)) (hk : ∀ d, (env.set k (some d))[k]? = some (some d)) (g1 : SeqR M (.d row) ys) (g2 : SeqR M (.d e) (iL pt))
    (ga : ∀ i, (h : i < n) → atI ys (i : Int) = some (.int (a.getD i 0))) (hs : ∀ i, i < n → -1000000000 ≤ a.getD i 0 ∧ a.getD i 0 ≤ 1000000000) (hn : n ≤ 1000) (hp : n ≤ pt.length) (fin : QL (iL (prods a pt n)) M) :
    ∃ Inv : Nat → List Dat → Mem → Prop, Inv 0 [] M ∧ (∀ i acc M', i ≤ (rngD 0 n).length → Inv i acc M' → (fun _ => True) M') ∧
      (∀ i' y acc M', (rngD 0 n)[i']? = some y → Inv i' acc M' → dYes (env.set k (some y)) M' fun b M2 => if b = true then dOp oMul (dOp oIx (dVar i) (dVar k)) (dOp oIx (dVar j) (dVar k)) (env.set k (some y)) M2 fun r M3 => acc.length < sizeLine ∧ Inv (i' + 1) (acc ++ [Dl.settle r]) M3 else Inv (i' + 1) acc M2) ∧
      ∀ acc M', Inv (rngD 0 n).length acc M' → QL acc M' := by
  refine lc_rng (fun i acc m => m = M ∧ acc = iL (prods a pt i)) ⟨rfl, rfl⟩ (fun t acc m ht hj => ?_) fun acc m hj => ?_
  · obtain ⟨rfl, rfl⟩ := hj
    simp only [dYes, ↓reduceIte]
    rw [Int.zero_add]
    have tp : t < pt.length := by omega
    simp only [dOp, dVar, hr, he, hk]
    refine ⟨t, _, _, rfl, g1, ga t ht, t, _, _, rfl, g2, at_iL tp, cmul_l (hs t ht) (by decide), ?_, rfl, ?_⟩
    · rw [iL_len, prods_len]
      exact Nat.lt_of_lt_of_le (show t < 1001 by omega) (by decide)
    · show _ = iL (prods a pt t ++ [_])
      rw [iL_app, getD_of tp] <;> rfl
  · obtain ⟨rfl, rfl⟩ := hj
    exact fin
end Lw
set_option Elab.async false
set_option linter.all false
set_option maxRecDepth 100000
set_option maxHeartbeats 4000000
namespace Lw
open PySem PySem.Spec PyProof.Rows L2 Dl
theorem kd_cases (k : Kd) : k = .ge ∨ k = .eq ∨ ∃ m, k = .div m := by
  cases k with
  | ge => exact Or.inl rfl
  | eq => exact Or.inr (Or.inl rfl)
  | div m => exact Or.inr (Or.inr ⟨m, rfl⟩)
theorem met_ge {x : Cd} {pt : List Int} (h : x.k = .ge) : x.met pt = decide (0 ≤ x.c + dot x.a pt) := by
  unfold Cd.met
  rw [h] <;> rfl
theorem met_eq {x : Cd} {pt : List Int} (h : x.k = .eq) : x.met pt = decide (x.c + dot x.a pt = 0) := by
  unfold Cd.met
  rw [h] <;> rfl
theorem met_div {x : Cd} {pt : List Int} {m : Int} (h : x.k = .div m) : x.met pt = decide ((x.c + dot x.a pt) % m = 0) := by
  unfold Cd.met
  rw [h] <;> rfl
theorem ne_dec (a b : Int) : (true != decide (a = b)) = !decide (a = b) := Bool.true_bne _
theorem restr_none {M m : Mem} {q : Addr} (h : M.restr m = M) (hq : m q = none) : M q = none := by
  cases e : M q with
  | none => rfl
  | some v =>
    have h2 : (M.restr m) q = m q := by
      unfold Mem.restr
      rw [e]
    rw [h, hq, e] at h2
    cases h2
theorem ok__law_plain (ds : List Dat) (M : Mem) (Q : Rv → Mem → Prop) (h : fs__law_plain ds M Q) : rd__law_plain (enD M Q) (startD N__law_plain ds) M := by
  obtain ⟨w, cs, rfl, hl, hw, ha, q⟩ := h
  have hnd := nd_le cs
  refine ⟨_, rfl, ?_⟩
  refine lc_filter (enc := Cd.enc) cs (fun x => x.k.isDiv) Cd.enc (lz (by omega)) ?_ (fun x hx P hP => ?_) (fun x hx P hP => ?_) ?_
  · trivial
  · refine ⟨0, _, _, rfl, seq_enc x, its_0 x, ?_⟩
    show P (false != decide (x.k.nm = "div")) M
    rw [nm_div2]
    exact hP
  · exact hP _ rfl
  refine ⟨_, _, rfl, rfl, ?_⟩
  have e0 : ((((cs.filter fun x => x.k.isDiv).map Cd.enc).length : Nat) : Int) = (nd cs : Int) := by
    rw [List.length_map] <;> rfl
  refine ⟨Nat.zero_le _, _, rfl, fun k hk => ?_⟩
  refine ⟨_, rfl, ?_⟩
  refine for_rest (enc := Cd.enc) cs (fun r env m => ∃ acc seen z1 z2 z3 z4, M.restr m = M ∧ m k = some (.lst (acc.map encR)) ∧ env = [some (.int (w : Int)), some (.lst (cs.map Cd.enc)), some (.int (nd cs : Int)), some (.cell k), some (.int ((seen : Nat) : Int)), z1, z2, z3, z4] ∧ Wl (nd cs) cs seen acc r) ?_ ?_ ?_ ?_
  · refine ⟨[], 0, none, none, none, none, ?_, Mem.set_same, ?_, Wl.start⟩
    · rw [Mem.restr_set_out hk, Mem.restr_self]
    · show ([_, _, some (Dat.int (((cs.filter fun x => x.k.isDiv).map Cd.enc).length : Nat)), _, _, _, _, _, _] : List (Option Dat)) = _
      rw [e0] <;> rfl
  · rintro r env m _
    trivial
  · rintro x r env m ⟨acc, seen, z1, z2, z3, z4, hm, hmk, rfl, W⟩
    have hx := W.mem x List.mem_cons_self
    have hxa := ha x hx
    have hlen := W.len
    rw [List.length_cons] at hlen
    have hcnt := W.cnt
    rw [nd_cons] at hcnt
    have W2 := W.step
    refine ⟨-1, _, _, rfl, seq_enc x, its_l x, _, _, rfl, rfl, ?_⟩
    refine ⟨l1, _, rfl, by omega, by omega, ?_, _, rfl, fun y hy => ?_⟩
    · show 1 * (nd cs : Int).toNat ≤ sizeLine
      rw [Nat.one_mul, Int.toNat_natCast]
      exact lz (by omega)
    have hMy := restr_none hm hy
    have yk : y ≠ k := fun z => by
      subst z
      rw [hmk] at hy
      cases hy
    have tail2 : ∀ z pl rw m', pl = ((nxt seen x.k : Nat) : Int) → rw = iL (prow (nd cs) seen x) → M.restr m' = M → m' k = some (.lst (acc.map encR)) → (dSeq (dDrop (dAppend (dVar 3) (dVar 6)))
        (dIfS (dTest (dOp oNe (dOp oIx (dVar 5) (dC (.int 0))) (dC (.str "ge")))) (dDrop (dAppend (dVar 3) (dCB bTuple (dCons (dLc (dSeqW (dVar 6)) 8 (dYes) (dNeg (dVar 8))) (dNil))))) (dNext)))
        ⟨fun env m => ∃ acc seen z1 z2 z3 z4, M.restr m = M ∧ m k = some (.lst (acc.map encR)) ∧ env = [some (.int (w : Int)), some (.lst (cs.map Cd.enc)), some (.int (nd cs : Int)), some (.cell k), some (.int ((seen : Nat) : Int)), z1, z2, z3, z4] ∧ Wl (nd cs) cs seen acc r, (enD M Q).rt, z, fun env m => ∃ acc seen z1 z2 z3 z4, M.restr m = M ∧ m k = some (.lst (acc.map encR)) ∧ env = [some (.int (w : Int)), some (.lst (cs.map Cd.enc)), some (.int (nd cs : Int)), some (.cell k), some (.int ((seen : Nat) : Int)), z1, z2, z3, z4] ∧ Wl (nd cs) cs seen acc r⟩
        [some (.int (w : Int)), some (.lst (cs.map Cd.enc)), some (.int (nd cs : Int)), some (.cell k), some (.int pl), some x.enc, some (.tup rw), some (.cell y), z4] m' := by
      intro z pl rw_ m' e1 e2 hm' hk'
      subst e1 e2
      refine ⟨k, _, rfl, hk', _, hk', ?_, ?_⟩
      · rw [List.length_map]
        exact Nat.lt_of_lt_of_le (show acc.length < 2001 by omega) (by decide)
      refine ⟨0, _, _, rfl, seq_enc x, its_0 x, ifC (nm_ge2 x.k) (fun hd => ?_) (fun hd => ?_)⟩
      · have hg : x.k.isGe = false := by simpa using hd
        refine ⟨k, _, rfl, Mem.set_same, _, rfl, ?_⟩
        refine lc_map (enc := Dat.int) (prow (nd cs) seen x) (fun y => .int (-y)) ?_ ?_ (fun x hx P hP => ?_) ?_
        · rw [prow_len]
          exact lz (by omega)
        · trivial
        · exact hP _ rfl
        refine ⟨_, _, rfl, rfl, _, Mem.set_same, ?_, ?_⟩
        · rw [List.length_append, List.length_map]
          exact Nat.lt_of_lt_of_le (show acc.length + 1 < 2001 by omega) (by decide)
        refine ⟨acc ++ [prow (nd cs) seen x] ++ [(prow (nd cs) seen x).map fun y => -y], _, _, _, _, _, ?_, ?_, rfl, ?_⟩
        · rw [Mem.set_set, Mem.restr_set_out hk, hm']
        · rw [Mem.set_set, Mem.set_same, List.map_append, List.map_append]
          have e : (prow (nd cs) seen x).map (fun y => Dat.int (-y)) = iL ((prow (nd cs) seen x).map fun y => -y) := by
            show _ = List.map Dat.int (List.map _ _)
            rw [List.map_map] <;> rfl
          exact congrArg (fun l => some (MV.lst (acc.map encR ++ [encR (prow (nd cs) seen x)] ++ [Dat.tup l]))) e
        · have W3 := W2
          unfold prows1 at W3
          rw [hg, if_neg Bool.false_ne_true] at W3
          rw [List.append_assoc]
          exact W3
      · have hg : x.k.isGe = true := by simpa using hd
        refine ⟨acc ++ [prow (nd cs) seen x], _, _, _, _, _, ?_, ?_, rfl, ?_⟩
        · rw [Mem.restr_set_out hk, hm']
        · rw [Mem.set_same, List.map_append] <;> rfl
        · have W3 := W2
          unfold prows1 at W3
          rw [hg, if_pos rfl] at W3
          exact W3
    have tail : ∀ z pl qs, pl = ((nxt seen x.k : Nat) : Int) → qs = iL (qv (nd cs) seen x.k) → (dSeq (dSet (dOp oAdd (dOp oAdd (dSl (dVar 6) (dNo) (dPart (dVar 0))) (dCB bTuple (dCons (dVar 7) (dNil)))) (dSl (dVar 6) (dPart (dVar 0)) (dNo))) 6)
        (dSeq (dDrop (dAppend (dVar 3) (dVar 6)))
        (dIfS (dTest (dOp oNe (dOp oIx (dVar 5) (dC (.int 0))) (dC (.str "ge")))) (dDrop (dAppend (dVar 3) (dCB bTuple (dCons (dLc (dSeqW (dVar 6)) 8 (dYes) (dNeg (dVar 8))) (dNil))))) (dNext))))
        ⟨fun env m => ∃ acc seen z1 z2 z3 z4, M.restr m = M ∧ m k = some (.lst (acc.map encR)) ∧ env = [some (.int (w : Int)), some (.lst (cs.map Cd.enc)), some (.int (nd cs : Int)), some (.cell k), some (.int ((seen : Nat) : Int)), z1, z2, z3, z4] ∧ Wl (nd cs) cs seen acc r, (enD M Q).rt, z, fun env m => ∃ acc seen z1 z2 z3 z4, M.restr m = M ∧ m k = some (.lst (acc.map encR)) ∧ env = [some (.int (w : Int)), some (.lst (cs.map Cd.enc)), some (.int (nd cs : Int)), some (.cell k), some (.int ((seen : Nat) : Int)), z1, z2, z3, z4] ∧ Wl (nd cs) cs seen acc r⟩
        [some (.int (w : Int)), some (.lst (cs.map Cd.enc)), some (.int (nd cs : Int)), some (.cell k), some (.int pl), some x.enc, some (encR (x.a ++ [x.c])), some (.cell y), z4] (m.set y (.lst qs)) := by
      intro z pl qs e1 e2
      subst e2
      have c1 : cut (iL (x.a ++ [x.c])) none (some (w : Int)) = iL x.a := by
        rw [cut_to, ← List.map_take, List.take_left' hxa]
      have c2 : cut (iL (x.a ++ [x.c])) (some (w : Int)) none = iL [x.c] := by
        rw [cut_from, ← List.map_drop, List.drop_left' hxa]
      have c3 : cut (iL (x.a ++ [x.c])) none (some (w : Int)) ++ iL (qv (nd cs) seen x.k) ++ cut (iL (x.a ++ [x.c])) (some (w : Int)) none = iL (prow (nd cs) seen x) := by
        rw [c1, c2, ← iL_app, ← iL_app] <;> rfl
      refine ⟨_, _, rfl, Mem.set_same, ?_, ?_⟩
      · rw [c1, iL_len, iL_len, qv_len]
        exact lz (by omega)
      refine ⟨?_, ?_⟩
      · rw [c1, c2, ← iL_app, iL_len, iL_len, List.length_append, qv_len]
        exact lz (by show _ + 1 ≤ _; omega)
      refine tail2 _ _ _ _ e1 c3 ?_ ((Mem.set_ne yk.symm).trans hmk)
      rw [Mem.restr_set_out hMy, hm]
    have ez : (List.replicate (nd cs : Int).toNat [Dat.int 0]).flatten = iL (List.replicate (nd cs) 0) := by
      rw [Int.toNat_natCast, rep_flat, iL_rep]
    refine ⟨0, _, _, rfl, seq_enc x, its_0 x, ifC (nm_div2 x.k) (fun hd => ?_) (fun hd => ?_)⟩
    · obtain ⟨d, hd2⟩ := div_of' hd
      have hs : seen < nd cs := by
        rw [if_pos hd] at hcnt
        omega
      refine ⟨1, _, _, rfl, seq_enc x, its_1 hd2, y, _, (seen : Int), seen, rfl, rfl, Mem.set_same, ?_, ?_⟩
      · have el : ((List.replicate (nd cs : Int).toNat [Dat.int 0]).flatten).length = nd cs := by
          rw [ez, iL_len, List.length_replicate]
        refine Eq.trans (congrArg (fun n => ixN n (seen : Int)) el) ?_
        unfold ixN
        rw [if_pos (by omega), if_pos (by omega), Int.toNat_natCast]
      · rw [Mem.set_set]
        refine tail _ _ _ ?_ ?_
        · unfold nxt
          rw [if_pos hd] <;> rfl
        · rw [qv_d hd2]
          refine Eq.trans (congrArg (fun l => List.set l seen (Dat.int (-d))) ez) ?_
          exact List.map_set.symm
    · refine tail _ _ _ ?_ ?_
      · unfold nxt
        rw [hd, if_neg Bool.false_ne_true]
      · rw [qv_nd hd]
        exact ez
  · rintro env m ⟨acc, seen, z1, z2, z3, z4, hm, hmk, rfl, W⟩
    have e := W.fin
    subst e
    refine Or.inl ⟨hk, _, hmk, ?_⟩
    rw [hm]
    exact q
end Lw
set_option Elab.async false
set_option linter.all false
set_option maxRecDepth 100000
set_option maxHeartbeats 4000000
namespace Lw
open PySem PySem.Spec PyProof.Rows L2 Dl
theorem mulb {A B x y : Int} (hx : -A ≤ x ∧ x ≤ A) (hy : -B ≤ y ∧ y ≤ B) : -(A * B) ≤ x * y ∧ x * y ≤ A * B := by
  have h1 : x.natAbs ≤ A.toNat := by omega
  have h2 : y.natAbs ≤ B.toNat := by omega
  have h3 : (x * y).natAbs ≤ A.toNat * B.toNat := by
    rw [Int.natAbs_mul]
    exact Nat.mul_le_mul h1 h2
  have h4 : ((A.toNat * B.toNat : Nat) : Int) = A * B := by
    rw [Int.natCast_mul, Int.toNat_of_nonneg (by omega), Int.toNat_of_nonneg (by omega)]
  omega
theorem dot_b {A B : Int} (hA : 0 ≤ A) (hB : 0 ≤ B) : ∀ (a p : List Int), Sm A a → Sm B p → -(A * B * p.length) ≤ dot a p ∧ dot a p ≤ A * B * p.length
  | [], p, _, _ => by
    have h := Int.mul_nonneg (Int.mul_nonneg hA hB) (Int.natCast_nonneg p.length)
    show -(A * B * p.length) ≤ 0 ∧ 0 ≤ A * B * p.length
    omega
  | x :: a, [], _, _ => by
    show -(A * B * (0 : Nat)) ≤ 0 ∧ 0 ≤ A * B * (0 : Nat)
    rw [Int.natCast_zero, Int.mul_zero]
    decide
  | x :: a, y :: p, h1, h2 => by
    have h3 := mulb (h1 x List.mem_cons_self) (h2 y List.mem_cons_self)
    have h4 := dot_b hA hB a p (fun z hz => h1 z (List.mem_cons_of_mem _ hz)) (fun z hz => h2 z (List.mem_cons_of_mem _ hz))
    show -(A * B * ((p.length + 1 : Nat) : Int)) ≤ x * y + dot a p ∧ x * y + dot a p ≤ A * B * ((p.length + 1 : Nat) : Int)
    rw [show ((p.length + 1 : Nat) : Int) = (p.length : Int) + 1 from rfl, Int.mul_add, Int.mul_one]
    omega
theorem modb (v m : Int) (h : 0 < m) : 0 ≤ v % m ∧ v % m < m := ⟨Int.emod_nonneg _ (by omega), Int.emod_lt_of_pos _ h⟩
theorem eq_dec (a b : Int) : (false != decide (a = b)) = decide (a = b) := Bool.false_bne _
/-- [number(pool, 9, ..) for k in range(n)] -/
theorem lc_numbers {p : Addr} {M0 M : Mem} {n k : Nat} {ε : DE} {env : Dl.Env} {QL : List Dat → Mem → Prop} (hM : PoolTo M0 p M) (hn : n ≤ 1000)
    (step : ∀ (i : Nat) (M' : Mem) (P : Rv → Mem → Prop), PoolAt M' p → (∀ v M2, -9 ≤ v → v ≤ 9 → PoolTo M' p M2 → P (.d (.int v)) M2) → ε (env.set k (some (.int (0 + i)))) M' P)
    (fin : ∀ (r : List Int) M', r.length = n → Sm 9 r → PoolTo M0 p M' → QL (iL r) M') :
    ∃ Inv : Nat → List Dat → Mem → Prop, Inv 0 [] M ∧ (∀ i acc M', i ≤ (rngD 0 n).length → Inv i acc M' → (fun _ => True) M') ∧
      (∀ i' y acc M', (rngD 0 n)[i']? = some y → Inv i' acc M' → dYes (env.set k (some y)) M' fun b M2 => if b = true then ε (env.set k (some y)) M2 fun r M3 => acc.length < sizeLine ∧ Inv (i' + 1) (acc ++ [Dl.settle r]) M3 else Inv (i' + 1) acc M2) ∧
      ∀ acc M', Inv (rngD 0 n).length acc M' → QL acc M' := by
  refine lc_rng (fun i acc m => ∃ r : List Int, acc = iL r ∧ r.length = i ∧ Sm 9 r ∧ PoolTo M0 p m) ⟨[], rfl, rfl, fun x hx => absurd hx List.not_mem_nil, hM⟩ (fun t acc m ht hj => ?_) fun acc m hj => ?_
  · obtain ⟨r, rfl, hr, hs, hm⟩ := hj
    simp only [dYes, ↓reduceIte]
    refine step t m _ hm.at fun v M2 h1 h2 hp => ⟨?_, r ++ [v], ?_, ?_, ?_, hm.trans hp⟩
    · rw [iL_len]
      exact Nat.lt_of_lt_of_le (show r.length < 1001 by omega) (by decide)
    · rw [iL_app] <;> rfl
    · rw [List.length_append, hr] <;> rfl
    · intro x hx
      rcases List.mem_append.mp hx with z | z
      · exact hs x z
      · have := List.mem_singleton.mp z
        omega
  · obtain ⟨r, rfl, hr, hs, hm⟩ := hj
    exact fin r m hr hs hm
def rule5 : DS := dSeq (dSet (dCB bTuple (dCons (dOp oAdd (dVar 6) (dLst (dCons (dVar 7) (dNil)))) (dNil))) 6)
  (dSeq (dIfS (dTest (dOp oEq (dVar 4) (dC (.int 2)))) (dRet (dTup (dCons (dC (.str "div")) (dCons (dVar 5) (dCons (dVar 6) (dNil)))))) (dNext))
  (dRet (dTup (dCons (dOp oIx (dLst (dCons (dC (.str "ge")) (dCons (dC (.str "eq")) (dNil)))) (dVar 4)) (dCons (dVar 6) (dNil))))))
def rule4 : DS := dSeq (dIfS (dTest (dOp oEq (dVar 3) (dC (.int 2)))) (dSet (dOp oSub (dCB fs__law_draw (dCons (dVar 0) (dCons (dC (.int 199)) (dNil)))) (dC (.int 99))) 7) (dNext)) rule5
def rule3 : DS := dSeq (dIfS (dTest (dOp oEq (dVar 3) (dC (.int 1)))) (dSet (dOp oSub (dVar 7) (dC (.int 1))) 7) (dNext)) rule4
def rule2 : DS := dSeq (dIfS (dAnd (dTest (dOp oEq (dVar 3) (dC (.int 0)))) (dTest (dOp oEq (dVar 4) (dC (.int 2))))) (dSet (dOp oAdd (dVar 7) (dOp oMul (dVar 5) (dOp oSub (dOp oModI (dCB bInt (dCons (dVar 8) (dNil))) (dC (.int 3))) (dC (.int 1))))) 7) (dNext)) rule3
def rule1 : DS := dSeq (dIfS (dAnd (dTest (dOp oEq (dVar 3) (dC (.int 0)))) (dTest (dOp oEq (dVar 4) (dC (.int 0))))) (dSet (dOp oAdd (dVar 7) (dVar 8)) 7) (dNext)) rule2
end Lw
set_option Elab.async false
set_option linter.all false
set_option maxRecDepth 100000
set_option maxHeartbeats 4000000
namespace Lw
open PySem PySem.Spec PyProof.Rows L2 Dl
/-- the pool has moved on; of the rest, what was there is as it was -/
def PoolRel (M : Mem) (p : Addr) (m : Mem) : Prop := ∃ ns : List Int, ns.length ≤ 63 ∧ m p = some (.lst (iL ns)) ∧ M.restr m = M.set p (.lst (iL ns))
theorem PoolTo.rel {M M' : Mem} {p : Addr} (h : PoolTo M p M') (g : PoolAt M p) : PoolRel M p M' := by
  obtain ⟨ns, h1, rfl⟩ := h
  obtain ⟨ms, g1, g2⟩ := g
  exact ⟨ns, h1, Mem.set_same, by rw [Mem.restr_set_in g2, Mem.restr_self]⟩
theorem PoolRel.at {M m : Mem} {p : Addr} (h : PoolRel M p m) : PoolAt m p := by
  obtain ⟨ns, h1, h2, _⟩ := h
  exact ⟨ns, h1, h2⟩
theorem PoolRel.to {M m : Mem} {p : Addr} (h : PoolRel M p m) : PoolTo M p (M.restr m) := by
  obtain ⟨ns, h1, _, h2⟩ := h
  exact ⟨ns, h1, h2⟩
theorem PoolRel.step {M m m' : Mem} {p : Addr} (h : PoolRel M p m) (hp : PoolAt M p) (g : PoolTo m p m') : PoolRel M p m' := by
  obtain ⟨ns, h1, h2, h3⟩ := h
  obtain ⟨ms, g1, rfl⟩ := g
  obtain ⟨ks, k1, k2⟩ := hp
  exact ⟨ms, g1, Mem.set_same, by rw [Mem.restr_set_in k2, h3, Mem.set_set]⟩
theorem PoolRel.fresh {M m : Mem} {p k : Addr} (h : PoolRel M p m) (hp : PoolAt M p) (hk : m k = none) : M k = none ∧ k ≠ p := by
  obtain ⟨ns, h1, h2, h3⟩ := h
  have kp : k ≠ p := fun z => by
    subst z
    rw [hk] at h2
    cases h2
  refine ⟨?_, kp⟩
  cases e : M k with
  | none => rfl
  | some v =>
    have e2 : (M.restr m) k = m k := by
      unfold Mem.restr
      rw [e]
    rw [h3, hk, Mem.set_ne kp, e] at e2
    cases e2
theorem PoolRel.put {M m : Mem} {p k : Addr} {x : MV} (h : PoolRel M p m) (hk : M k = none) (kp : k ≠ p) : PoolRel M p (m.set k x) := by
  obtain ⟨ns, h1, h2, h3⟩ := h
  exact ⟨ns, h1, (Mem.set_ne kp.symm).trans h2, by rw [Mem.restr_set_out hk]; exact h3⟩
theorem PoolRel.drop {M m : Mem} {p k : Addr} (h : PoolRel M p m) (hk : M k = none) (kp : k ≠ p) : PoolRel M p (m.del k) := by
  obtain ⟨ns, h1, h2, h3⟩ := h
  exact ⟨ns, h1, (Mem.del_ne kp.symm).trans h2, by rw [Mem.restr_del_out hk]; exact h3⟩
theorem PoolTo.keep {m m' : Mem} {p k : Addr} (g : PoolTo m p m') (kp : k ≠ p) : m' k = m k := by
  obtain ⟨ns, h1, rfl⟩ := g
  exact Mem.set_ne kp
theorem ixN_of {n j : Nat} (h : j < n) : ixN n (j : Int) = some j := by
  unfold ixN
  rw [if_pos (by omega), if_pos (by omega), Int.toNat_natCast]
theorem last_split {l : List Int} {w : Nat} (h : l.length = w + 1) : ∃ a c, l = a ++ [c] ∧ a.length = w := by
  have ne : l ≠ [] := fun z => by
    rw [z] at h
    cases h
  refine ⟨l.dropLast, l.getLast ne, (List.dropLast_concat_getLast ne).symm, ?_⟩
  rw [List.length_dropLast, h] <;> rfl
theorem cp109 : CPow 10 9 := ⟨by decide, by decide, by decide⟩
theorem e109 : (10 : Int) ^ (9 : Int).toNat = 1000000000 := by decide
theorem sm_set {b v : Int} {l : List Int} {i : Nat} (h : Sm b l) (hv : -b ≤ v ∧ v ≤ b) : Sm b (l.set i v) := fun x hx => by
  rcases List.mem_or_eq_of_mem_set hx with z | z
  · exact h x z
  · rw [z]
    exact hv
/-- the tail of _law_world -/
def world2 : DS := dRet (dTup (dCons (dVar 1) (dCons (dVar 2) (dCons (dVar 4) (dCons (dHold (dVar 7)) (dNil))))))
theorem mem_set_cd {cs : List Cd} {j : Nat} {y x : Cd} (h : x ∈ cs.set j y) : x ∈ cs ∨ x = y := List.mem_or_eq_of_mem_set h
theorem map_set_cd {cs : List Cd} {j : Nat} {y : Cd} : (cs.map Cd.enc).set j y.enc = (cs.set j y).map Cd.enc := List.map_set.symm
end Lw
set_option Elab.async false
set_option linter.all false
set_option maxRecDepth 100000
set_option maxHeartbeats 4000000
namespace Lw
open PySem PySem.Spec PyProof.Rows L2 Dl
def points2 : DS := dRet (dLst (dCons (dVar 2) (dCons (dHold (dVar 3)) (dCons (dHold (dVar 4)) (dNil)))))
def points1 : DS := dSeq (dIfS (dAnd (dTest (dOp oEq (dVar 1) (dC (.int 3)))) (dTest (dOp oGt (dCB bLen (dCons (dVar 2) (dNil))) (dC (.int 0))))) (dSeq (dSet (dCB fs__law_draw (dCons (dVar 0) (dCons (dCB bLen (dCons (dVar 2) (dNil))) (dNil)))) 5)
  (dSetI (dOp oSub (dCB fs__law_draw (dCons (dVar 0) (dCons (dOp oAdd (dOp oMul (dC (.int 2)) (dOp oPow (dC (.int 10)) (dC (.int 9)))) (dC (.int 1))) (dNil)))) (dOp oPow (dC (.int 10)) (dC (.int 9)))) (dVar 4) (dVar 5))) (dNext)) points2
theorem sm_mono {a b : Int} {l : List Int} (h : Sm a l) (hab : a ≤ b) : Sm b l := fun x hx => by
  have := h x hx
  omega
end Lw
set_option Elab.async false
set_option linter.all false
set_option maxRecDepth 100000
set_option maxHeartbeats 4000000
namespace Lw
open PySem PySem.Spec PyProof.Rows L2 Dl
/-! ### what repr shows -/
theorem shown_int_len {i : Int} (h : -10000000000000000000000000000000000000000 ≤ i ∧ i ≤ 10000000000000000000000000000000000000000) : (PyData.shown (.int i)).length ≤ 42 := by
  have h1 : i.natAbs < 10 ^ 41 := by
    have e2 : (10 : Nat) ^ 41 = 100000000000000000000000000000000000000000 := by decide
    rw [e2]
    omega
  have h2 := int_text_length_le10 (k := 41) (by decide) h1
  show (Str.ofString (toString i)).length ≤ 42
  rw [PySem.ofString_length]
  exact h2
theorem show_int_log {i : Int} (h : -10000000000000000000000000000000000000000 ≤ i ∧ i ≤ 10000000000000000000000000000000000000000) : i.natAbs.log2 < 1920 := by
  by_cases z : i.natAbs = 0
  · rw [z]
    exact (by decide : Nat.log2 0 < 1920)
  · have h2 : i.natAbs < 2 ^ 150 := Nat.lt_of_le_of_lt (show i.natAbs ≤ 10000000000000000000000000000000000000000 by omega) (by decide)
    exact Nat.lt_of_lt_of_le ((Nat.log2_lt z).mpr h2) (by decide)
theorem shows_int {i : Int} (h : -10000000000000000000000000000000000000000 ≤ i ∧ i ≤ 10000000000000000000000000000000000000000) : Shows (.int i) :=
  ⟨by
    simp only [PyData.showable]
    exact decide_eq_true (show_int_log h), Nat.zero_le _, rfl, Nat.le_trans (shown_int_len h) (by decide)⟩
theorem shows_bool (b : Bool) : Shows (.bool b) := by
  cases b <;> exact ⟨rfl, by decide, rfl, by decide⟩
abbrev B40 : Int := 10000000000000000000000000000000000000000
theorem ints_sh : ∀ {r : List Int}, Sm B40 r → PyData.showableAll (r.map PyData.int) = true
  | [], _ => rfl
  | x :: r, h => by
    rw [List.map_cons]
    simp only [PyData.showableAll, PyData.showable, Bool.and_eq_true]
    exact ⟨decide_eq_true (show_int_log (h x List.mem_cons_self)), ints_sh fun y hy => h y (List.mem_cons_of_mem _ hy)⟩
theorem ints_nd : ∀ (r : List Int), PyData.hasDictAll (r.map PyData.int) = false
  | [] => rfl
  | x :: r => by
    rw [List.map_cons]
    simp only [PyData.hasDictAll, PyData.hasDict, Bool.false_or]
    exact ints_nd r
theorem ints_lv : ∀ {r : List Int}, Sm B40 r → PyData.leavesShortAll 42 (r.map PyData.int) = true
  | [], _ => rfl
  | x :: r, h => by
    rw [List.map_cons]
    simp only [PyData.leavesShortAll, PyData.leavesShort, Bool.and_eq_true]
    exact ⟨decide_eq_true (shown_int_len (h x List.mem_cons_self)), ints_lv fun y hy => h y (List.mem_cons_of_mem _ hy)⟩
theorem ints_bk : ∀ (r : List Int), PyData.bulkAll (r.map PyData.int) = r.length
  | [] => rfl
  | x :: r => by
    rw [List.map_cons]
    simp only [PyData.bulkAll, PyData.bulk, List.length_cons]
    rw [ints_bk r]
    omega
theorem rows_all {n : Nat} : ∀ {rs : List (List Int)}, (∀ r ∈ rs, Sm B40 r ∧ r.length ≤ n) → PyData.showableAll (rs.map pyR) = true ∧ PyData.hasDictAll (rs.map pyR) = false ∧ PyData.leavesShortAll 42 (rs.map pyR) = true ∧ PyData.bulkAll (rs.map pyR) ≤ (n + 1) * rs.length ∧ PyData.depthAll (rs.map pyR) ≤ 1
  | [], _ => ⟨rfl, rfl, rfl, Nat.zero_le _, Nat.zero_le _⟩
  | x :: rs, h => by
    obtain ⟨h1, h2, h3, h4, h5⟩ := rows_all (rs := rs) fun y hy => h y (List.mem_cons_of_mem _ hy)
    obtain ⟨g1, g2⟩ := h x List.mem_cons_self
    rw [List.map_cons]
    simp only [PyData.showableAll, PyData.showable, PyData.hasDictAll, PyData.hasDict, PyData.leavesShortAll, PyData.leavesShort, PyData.bulkAll, PyData.bulk, PyData.depthAll, PyData.depth]
    refine ⟨by rw [ints_sh g1, h1] <;> rfl, by rw [ints_nd, h2] <;> rfl, by rw [ints_lv g1, h3] <;> rfl, ?_, ?_⟩
    · rw [ints_bk, List.length_cons, Nat.mul_add, Nat.mul_one]
      omega
    · rw [depth_ints]
      omega
theorem shows_rows {n : Nat} {rs : List (List Int)} (h : ∀ r ∈ rs, Sm B40 r ∧ r.length ≤ n) (hs : (n + 1) * rs.length ≤ 300000) : Shows (.list (rs.map pyR)) := by
  obtain ⟨h1, h2, h3, h4, h5⟩ := rows_all h
  refine ⟨by simp only [PyData.showable]; exact h1, by simp only [PyData.depth]; omega, by simp only [PyData.hasDict]; exact h2, ?_⟩
  have hl : PyData.leavesShort 42 (.list (rs.map pyR)) = true := by
    simp only [PyData.leavesShort]
    exact h3
  have hb : PyData.bulk (.list (rs.map pyR)) ≤ 300000 := by
    simp only [PyData.bulk]
    omega
  have h6 := PyData.shown_le_bulk 42 (by decide) _ hl
  have h7 : (42 + 2) * PyData.bulk (.list (rs.map pyR)) ≤ 44 * 300000 := Nat.mul_le_mul (by decide) hb
  exact Nat.le_trans (by omega) (show 44 * 300000 + 42 ≤ sizeLine by decide)
theorem py_rows {M : Mem} (rs : List (List Int)) : PyOfA M (rs.map encR) (rs.map pyR) := PyOfA.map (fun r => .tup (PyOfA.ints M r)) rs
/-! ### the plain rows are small -/
theorem qv_sm {n s : Nat} {k : Kd} (h : k.ok) : Sm 60 (qv n s k) := by
  have h0 : Sm 60 (List.replicate n (0 : Int)) := fun z hz => by
    have := List.eq_of_mem_replicate hz
    omega
  cases k with
  | ge => exact h0
  | eq => exact h0
  | div m =>
    have h' : 2 ≤ m ∧ m ≤ 60 := h
    exact sm_set h0 (by omega)
/-- a row as its coefficients and its constant -/
def RowOk (n : Nat) (r : List Int) : Prop := ∃ a c, r = a ++ [c] ∧ a.length = n ∧ Sm 1000000000 a ∧ -10000000000000000000 ≤ c ∧ c ≤ 10000000000000000000
theorem prow_ok {w n s : Nat} {x : Cd} (h : Gd w 10000000000000000000 x) : RowOk (w + n) (prow n s x) := by
  refine ⟨x.a ++ qv n s x.k, x.c, rfl, by rw [List.length_append, qv_len, h.1], fun z hz => ?_, h.2.2.1, h.2.2.2.1⟩
  rcases List.mem_append.mp hz with k | k
  · exact h.2.1 z k
  · have := qv_sm h.2.2.2.2 z k
    omega
theorem neg_ok {n : Nat} {r : List Int} (h : RowOk n r) : RowOk n (r.map fun y => -y) := by
  obtain ⟨a, c, rfl, h1, h2, h3, h4⟩ := h
  refine ⟨a.map fun y => -y, -c, by rw [List.map_append] <;> rfl, by rw [List.length_map, h1], fun z hz => ?_, by omega, by omega⟩
  obtain ⟨y, hy, rfl⟩ := List.mem_map.mp hz
  have := h2 y hy
  omega
theorem prows_ok {w n : Nat} : ∀ (r : List Cd) (s : Nat), Good w r → ∀ y ∈ prows n s r, RowOk (w + n) y
  | [], s, _, y, hy => absurd hy List.not_mem_nil
  | x :: r, s, hg, y, hy => by
    rcases List.mem_append.mp (show y ∈ prows1 n s x ++ prows n (nxt s x.k) r from hy) with k | k
    · unfold prows1 at k
      have px := prow_ok (n := n) (s := s) (hg x List.mem_cons_self)
      rcases List.mem_cons.mp k with z | z
      · rw [z]
        exact px
      · split at z
        · exact absurd z List.not_mem_nil
        · rw [List.mem_singleton.mp z]
          exact neg_ok px
    · exact prows_ok r _ (fun z hz => hg z (List.mem_cons_of_mem _ hz)) y k
theorem prows_len {n : Nat} : ∀ (r : List Cd) (s : Nat), (prows n s r).length ≤ 2 * r.length
  | [], s => Nat.zero_le _
  | x :: r, s => by
    show (prows1 n s x ++ prows n (nxt s x.k) r).length ≤ _
    have := prows_len (n := n) r (nxt s x.k)
    rw [List.length_append, List.length_cons]
    unfold prows1
    have e : (if x.k.isGe = true then ([] : List (List Int)) else [(prow n s x).map fun y => -y]).length ≤ 1 := by split <;> simp
    rw [List.length_cons]
    omega
theorem row_sm {n : Nat} {r : List Int} (h : RowOk n r) : Sm B40 r ∧ r.length ≤ n + 1 := by
  obtain ⟨a, c, rfl, h1, h2, h3, h4⟩ := h
  refine ⟨fun z hz => ?_, by rw [List.length_append, h1]; exact Nat.le_refl _⟩
  rcases List.mem_append.mp hz with k | k
  · have := h2 z k
    show -10000000000000000000000000000000000000000 ≤ z ∧ z ≤ 10000000000000000000000000000000000000000
    omega
  · rw [List.mem_singleton.mp k]
    show -10000000000000000000000000000000000000000 ≤ c ∧ c ≤ 10000000000000000000000000000000000000000
    omega
theorem shows_prows {w : Nat} {cs : List Cd} (hw : w ≤ 10) (hl : cs.length ≤ 100) (hg : Good w cs) : Shows (.list ((prows (nd cs) 0 cs).map pyR)) := by
  have h1 := nd_le cs
  have h2 := prows_len (n := nd cs) cs 0
  refine shows_rows (n := 111) (fun r hr => ?_) ?_
  · obtain ⟨h3, h4⟩ := row_sm (prows_ok cs 0 hg r hr)
    exact ⟨h3, by omega⟩
  · exact Nat.le_trans (Nat.mul_le_mul_left _ (show (prows (nd cs) 0 cs).length ≤ 200 by omega)) (by decide)
theorem same_str (s : Str) : (true != decide (s = s)) = false := by
  rw [decide_eq_true rfl] <;> rfl
theorem same_str2 (s : Str) : (false != decide (s = s)) = true := by
  rw [decide_eq_true rfl] <;> rfl
end Lw
set_option Elab.async false
set_option linter.all false
set_option maxRecDepth 100000
set_option maxHeartbeats 4000000
namespace Lw
open PySem PySem.Spec PyProof.Rows L2 Dl
section
variable {α : Type} {e1 e2 : α → Dat} {ε : DE} {env : Dl.Env} {M1 : Mem} {stay : Mem → Prop} {QL : List Dat → Mem → Prop} {j1 j2 : Nat}
/-- over pairs, each element kept, nothing else changed -/
theorem lcp_map (xs : List α) (g : α → Dat) (hl : xs.length ≤ sizeLine) (hst : stay M1) (he : ∀ x ∈ xs, ∀ P : Rv → Mem → Prop, (∀ r, Dl.settle r = g x → P r M1) → ε ((env.set j1 (some (e1 x))).set j2 (some (e2 x))) M1 P) (fin : QL (xs.map g) M1) :
    ∃ Inv : Nat → List Dat → Mem → Prop, Inv 0 [] M1 ∧ (∀ i acc M', i ≤ (xs.map fun x => Dat.tup [e1 x, e2 x]).length → Inv i acc M' → stay M') ∧
      (∀ i y acc M', (xs.map fun x => Dat.tup [e1 x, e2 x])[i]? = some y → Inv i acc M' → ∃ y1 y2, y = .tup [y1, y2] ∧ dYes ((env.set j1 (some y1)).set j2 (some y2)) M' fun b M2 => if b = true then ε ((env.set j1 (some y1)).set j2 (some y2)) M2 fun r M3 => acc.length < sizeLine ∧ Inv (i + 1) (acc ++ [Dl.settle r]) M3 else Inv (i + 1) acc M2) ∧
      ∀ acc M', Inv (xs.map fun x => Dat.tup [e1 x, e2 x]).length acc M' → QL acc M' := by
  refine ⟨fun i a m => m = M1 ∧ a = (xs.take i).map g, ⟨rfl, by rw [List.take_zero] <;> rfl⟩, fun i a m _ h => by rw [h.1]; exact hst, fun i y a m hy h => ?_, fun a m h => ?_⟩
  · obtain ⟨rfl, rfl⟩ := h
    rw [List.getElem?_map] at hy
    cases e : xs[i]? with
    | none =>
      rw [e] at hy
      cases hy
    | some x =>
      rw [e] at hy
      have e3 := Option.some.inj hy
      refine ⟨e1 x, e2 x, e3.symm, ?_⟩
      have hi : i < xs.length := by
        by_cases z : i < xs.length
        · exact z
        · rw [List.getElem?_eq_none (by omega)] at e
          cases e
      have ex : xs[i] = x := by
        rw [List.getElem?_eq_getElem hi] at e
        exact Option.some.inj e
      simp only [dYes, ↓reduceIte]
      refine he x (ex ▸ List.getElem_mem hi) _ fun rr hr => ⟨?_, rfl, ?_⟩
      · rw [List.length_map, List.length_take]
        omega
      · rw [hr, List.take_succ, e, List.map_append] <;> rfl
  · obtain ⟨rfl, rfl⟩ := h
    rw [List.length_map, List.take_length]
    exact fin
end
theorem at_zero {β : Type} (x : β) (xs : List β) : atI (x :: xs) 0 = some x := Dl.atI_nat (xs := x :: xs) (i := 0) rfl
theorem zipD_ints (t r : List Int) : zipD (iL t) (iL r) = (t.zip r).map fun x => Dat.tup [.int x.1, .int x.2] := by
  unfold zipD
  rw [List.zip_map, List.map_map] <;> rfl
theorem addR_len {t r : List Int} {f : Int} (h : t.length = r.length) : (addR t f r).length = t.length := by
  unfold addR
  rw [List.length_map, List.length_zip, h, Nat.min_self]
theorem seq_encB {M : Mem} (x : Bool × List Int) : SeqR M (.d (encB x)) (iL x.2) := by
  unfold encB
  split <;> exact rfl
theorem comb_cons (W : Nat) (q0 : Int × Bool × List Int) (qr : List (Int × Bool × List Int)) : (q0 :: qr).foldl (fun t q => addR t q.1 q.2.2) (List.replicate (W + 1) 0) = comb W ((q0 :: qr).map nob) := by
  unfold comb
  rw [List.foldl_map] <;> rfl
theorem ok_combined (ds : List Dat) (M : Mem) (Q : Rv → Mem → Prop) (h : fs_combined ds M Q) : rd_combined (enD M Q) (startD N_combined ds) M := by
  obtain ⟨qs, W, e, rfl, g, hne, hl, hW, hq, q⟩ := h
  cases qs with
  | nil => exact absurd rfl hne
  | cons q0 qr =>
    have h0 := (hq q0 List.mem_cons_self).1
    have len0 : ∀ x : List Dat, x = iL q0.2.2 → x.length = W + 1 := fun x hx => by rw [hx, iL_len, h0]
    refine ⟨l1, 0, _, encFB q0, rfl, g, at_zero _ _, 1, _, encB q0.2, rfl, rfl, rfl, _, _, rfl, seq_encB q0.2, _, rfl, by omega, ?_, ?_, ?_⟩
    · rw [iL_len, h0]; omega
    · show 1 * ((iL q0.2.2).length : Int).toNat ≤ sizeLine
      rw [iL_len, h0, Int.toNat_natCast]
      exact lz (by omega)
    refine ⟨_, g, ?_⟩
    have e0 : (List.replicate ((iL q0.2.2).length : Int).toNat [Dat.int 0]).flatten = iL (List.replicate (W + 1) 0) := by
      rw [iL_len, h0, Int.toNat_natCast, rep_flat, iL_rep]
    refine for_rest (enc := encFB) (q0 :: qr) (fun r env m => m = M ∧ (∀ x ∈ r, x ∈ q0 :: qr) ∧ ∃ t z2 z3, t.length = W + 1 ∧ r.foldl (fun t q => addR t q.1 q.2.2) t = comb W ((q0 :: qr).map nob) ∧ env = [some e, some (.lst (iL t)), z2, z3, none, none]) ?_ ?_ ?_ ?_
    · refine ⟨rfl, fun _ h => h, List.replicate (W + 1) 0, none, none, List.length_replicate, comb_cons W q0 qr, ?_⟩
      show ([_, some (Dat.lst ((List.replicate ((iL q0.2.2).length : Int).toNat [Dat.int 0]).flatten)), _, _, _, _] : List (Option Dat)) = _
      rw [e0] <;> rfl
    · rintro r env m ⟨rfl, _⟩
      exact stay_seq g fun _ _ h => h
    · rintro x r env m ⟨rfl, hm, t, z2, z3, ht, hf, rfl⟩
      obtain ⟨hx, f1⟩ := hq x (hm x List.mem_cons_self)
      refine ⟨_, rfl, rfl, _, _, rfl, _, _, rfl, rfl, ?_⟩
      refine ⟨_, _, _, _, rfl, rfl, seq_encB x.2, ?_⟩
      rw [zipD_ints]
      refine lcp_map (t.zip x.2.2) (fun y => .int (y.1 + x.1 * y.2)) ?_ ?_ (fun y hy P hP => ?_) ?_
      · rw [List.length_zip]
        exact lz (by omega)
      · exact ⟨trivial, stay_seq (seq_encB x.2) fun _ _ h => h⟩
      · exact ⟨f1 _ (List.of_mem_zip hy).2, hP _ rfl⟩
      · refine ⟨rfl, fun y hy => hm y (List.mem_cons_of_mem _ hy), addR t x.1 x.2.2, some (.int x.1), some (encB x.2), by rw [addR_len (by omega), ht], hf, ?_⟩
        have e : (t.zip x.2.2).map (fun y => Dat.int (y.1 + x.1 * y.2)) = iL (addR t x.1 x.2.2) := by
          show _ = List.map Dat.int (List.map _ _)
          rw [List.map_map] <;> rfl
        show ([_, some (Dat.lst ((t.zip x.2.2).map (fun y => Dat.int (y.1 + x.1 * y.2)))), _, _, _, _] : List (Option Dat)) = _
        rw [e] <;> rfl
    · rintro env m ⟨rfl, _, t, z2, z3, ht, hf, rfl⟩
      refine ⟨_, _, rfl, rfl, ?_⟩
      show Q _ (m.restr m)
      rw [Mem.restr_self]
      have hf' : t = comb W ((q0 :: qr).map nob) := hf
      rw [hf']
      exact q
theorem ok_divided (ds : List Dat) (M : Mem) (Q : Rv → Mem → Prop) (h : fs_divided ds M Q) : rd_divided (enD M Q) (startD N_divided ds) M := by
  obtain ⟨r, d, e, rfl, g, h0, h1, hl, q⟩ := h
  refine ⟨_, g, ?_⟩
  refine lc_map (enc := Dat.int) r (fun y => .int (y / d)) (lz (by omega)) ?_ (fun x hx P hP => ?_) ?_
  · exact stay_seq g fun _ _ h => h
  · exact ⟨⟨h0, h1⟩, hP _ rfl⟩
  · refine ⟨_, _, rfl, rfl, ?_⟩
    show Q (.d (.tup (r.map (fun y => Dat.int (y / d))))) (M.restr M)
    rw [Mem.restr_self]
    have e : r.map (fun y => Dat.int (y / d)) = iL (r.map fun y => y / d) := by
      show _ = List.map Dat.int (List.map _ r)
      rw [List.map_map] <;> rfl
    rw [e]
    exact q
theorem ok_raised (ds : List Dat) (M : Mem) (Q : Rv → Mem → Prop) (h : fs_raised ds M Q) : rd_raised (enD M Q) (startD N_raised ds) M := by
  obtain ⟨a, c, e, rfl, ha, q⟩ := h
  have e1 : cut (iL (a ++ [c])) none (some (-1)) = iL a := by rw [iL_app]; exact cut_butlast
  refine ⟨_, _, rfl, rfl, -1, _, .int c, rfl, rfl, at_iL_last, l1, ?_, ?_⟩
  · rw [e1, iL_len]
    exact lz (by show _ + 1 ≤ _; omega)
  · show Q (.d (.tup (cut (iL (a ++ [c])) none (some (-1)) ++ [Dat.int (c + e)]))) (M.restr M)
    rw [e1, Mem.restr_self]
    have q2 : Q (.d (.tup (iL (a ++ [c + e])))) M := q
    rw [iL_app] at q2
    exact q2
theorem ok__law_times (ds : List Dat) (M : Mem) (Q : Rv → Mem → Prop) (h : fs__law_times ds M Q) : rd__law_times (enD M Q) (startD N__law_times ds) M := by
  obtain ⟨r, f, e, rfl, g, hl, f1, f2, q⟩ := h
  refine ⟨_, g, ?_⟩
  refine lc_map (enc := Dat.int) r (fun y => .int (f * y)) (lz (by omega)) ?_ (fun x hx P hP => ?_) ?_
  · exact stay_seq g fun _ _ h => h
  · exact ⟨cmul_l (b := 1000000000000000000) ⟨f1, f2⟩ (by decide), hP _ rfl⟩
  · refine ⟨_, _, rfl, rfl, ?_⟩
    show Q (.d (.tup (r.map (fun y => Dat.int (f * y))))) (M.restr M)
    rw [Mem.restr_self]
    have e : r.map (fun y => Dat.int (f * y)) = iL (r.map fun y => f * y) := by
      show _ = List.map Dat.int (List.map _ r)
      rw [List.map_map] <;> rfl
    rw [e]
    exact q
end Lw
set_option Elab.async false
set_option linter.all false
set_option maxRecDepth 100000
set_option maxHeartbeats 4000000
namespace Lw
open PySem PySem.Spec PyProof.Rows L2 Dl
theorem comb_len {W : Nat} : ∀ (qs : List (Int × List Int)) (t : List Int), t.length = W + 1 → (∀ q ∈ qs, q.2.length = W + 1) → (qs.foldl (fun t q => addR t q.1 q.2) t).length = W + 1
  | [], t, h, _ => h
  | q :: qs, t, h, hq => comb_len qs _ (by rw [addR_len (by rw [h, hq q List.mem_cons_self]), h]) fun x hx => hq x (List.mem_cons_of_mem _ hx)
theorem getD_mem {rows : List (List Int)} {i : Nat} (h : i < rows.length) : rows.getD i [] ∈ rows := by
  rw [List.getD_eq_getElem?_getD, List.getElem?_eq_getElem h]
  exact List.getElem_mem h
theorem okP_of {n : Nat} {p : Int × Int} (h : okP n p = true) : 0 ≤ p.1 ∧ p.1 < n ∧ 1 ≤ p.2 := by
  unfold okP at h
  simp only [Bool.and_eq_true, decide_eq_true_eq] at h
  exact h
theorem row_at {M : Mem} {rows : List (List Int)} {i : Int} (h0 : 0 ≤ i) (h1 : i < rows.length) : atI (rows.map encR) i = some (encR (rows.getD i.toNat [])) := by
  have hi : i.toNat < rows.length := by omega
  have h := Dl.atI_nat (xs := rows.map encR) (i := i.toNat) (y := encR (rows.getD i.toNat [])) (by rw [List.getElem?_map, List.getElem?_eq_getElem hi, List.getD_eq_getElem?_getD, List.getElem?_eq_getElem hi] <;> rfl)
  rwa [show ((i.toNat : Nat) : Int) = i by omega] at h
theorem split_last {W : Nat} {r : List Int} (h : r.length = W + 1) : r = r.take W ++ [r.getD W 0] := by
  have h1 : W < r.length := by omega
  rw [getD_of h1]
  have h2 := List.take_append_getElem (l := r) (i := W) h1
  rw [h2, List.take_of_length_le (by omega)]
theorem cut_bl {W : Nat} {r : List Int} (h : r.length = W + 1) : cut (iL r) none (some (-1)) = iL (r.take W) := by
  have e := split_last h
  generalize r.getD W 0 = c at e
  have e2 : cut (iL (r.take W ++ [c])) none (some (-1)) = iL (r.take W) := by
    rw [iL_app]
    exact cut_butlast
  rwa [← e] at e2
theorem at_last {W : Nat} {r : List Int} (h : r.length = W + 1) : atI (iL r) (-1) = some (.int (r.getD W 0)) := by
  have e := split_last h
  have : atI (iL (r.take W ++ [r.getD W 0])) (-1) = some (.int (r.getD W 0)) := at_iL_last
  rwa [← e] at this
section
variable {α : Type} {enc : α → Dat} {γ : DG} {φ : DS} {τ : DT} {ε : DE} {E : En} {env : Dl.Env} {M1 : Mem} {stay : Mem → Prop} {QL : List Dat → Mem → Prop} {j : Nat} {ys : List Dat}
theorem for_restE {xs : List α} (hys : ys = xs.map enc) (J : List α → Dl.Env → Mem → Prop) (h0 : J xs env M1) (hst : ∀ r e m, J r e m → stay m) (step : ∀ x r e m, J (x :: r) e m → γ (enc x) e fun e' => φ ⟨J r, E.rt, E.nx, J r⟩ e' m) (fin : ∀ e m, J [] e m → E.nx e m) :
    ∃ Inv : Nat → Dl.Env → Mem → Prop, Inv 0 env M1 ∧ (∀ i env' M', i ≤ ys.length → Inv i env' M' → stay M') ∧
      (∀ i y env' M', ys[i]? = some y → Inv i env' M' → γ y env' fun env'' => φ ⟨Inv (i + 1), E.rt, E.nx, Inv (i + 1)⟩ env'' M') ∧ ∀ env' M', Inv ys.length env' M' → E.nx env' M' := by
  subst hys
  exact for_rest xs J h0 hst step fin
theorem lc_mapE {xs : List α} (hys : ys = xs.map enc) (g : α → Dat) (hl : xs.length ≤ sizeLine) (hst : stay M1) (he : ∀ x ∈ xs, ∀ P : Rv → Mem → Prop, (∀ r, Dl.settle r = g x → P r M1) → ε (env.set j (some (enc x))) M1 P) (fin : QL (xs.map g) M1) :
    ∃ Inv : Nat → List Dat → Mem → Prop, Inv 0 [] M1 ∧ (∀ i acc M', i ≤ ys.length → Inv i acc M' → stay M') ∧
      (∀ i y acc M', ys[i]? = some y → Inv i acc M' → dYes (env.set j (some y)) M' fun b M2 => if b = true then ε (env.set j (some y)) M2 fun r M3 => acc.length < sizeLine ∧ Inv (i + 1) (acc ++ [Dl.settle r]) M3 else Inv (i + 1) acc M2) ∧
      ∀ acc M', Inv ys.length acc M' → QL acc M' := by
  subst hys
  exact lc_map xs g hl hst he fin
end
theorem le_dec {i n : Int} : decide (i < n) = decide (i < n) := rfl
theorem and_ite {a b : Bool} {A B : Prop} (h : if (a && b) = true then A else B) : if a = true then (if b = true then A else B) else B := by
  cases a <;> cases b <;> simpa using h
theorem ok__is_false (ds : List Dat) (M : Mem) (Q : Rv → Mem → Prop) (h : fs__is_false ds M Q) : rd__is_false (enD M Q) (startD N__is_false ds) M := by
  obtain ⟨W, rows, e, i, rfl, g, hL, q⟩ := h
  have bad : isF W rows i = false → Q (.d (.bl false)) (M.restr M) := fun z => by
    rw [Mem.restr_self]
    rw [z] at q
    exact q
  -- 0 <= i < len(rows)
  have lenr : ((rows.map encR).length : Int) = (rows.length : Int) := by rw [List.length_map]
  refine ifC (c := decide ((0 : Int) ≤ i)) rfl (fun h0 => ?_) (fun h0 => ?_)
  · have h0' := of_decide_eq_true h0
    refine ⟨e, _, rfl, g, ifC (c := !decide (i < ((rows.map encR).length : Int))) rfl (fun h1 => ?_) (fun h1 => ?_)⟩
    · refine bad ?_
      rw [lenr] at h1
      unfold isF
      have : decide (i < (rows.length : Int)) = false := by simpa using h1
      rw [this, Bool.false_and, Bool.and_false]
    · rw [lenr] at h1
      have h1' : i < (rows.length : Int) := by simpa using h1
      have hr : (rows.getD i.toNat []).length = W + 1 := hL _ (getD_mem (by omega))
      generalize hR : rows.getD i.toNat [] = r at hr
      have at_ : atI (rows.map encR) i = some (encR r) := by
        rw [← hR]
        exact row_at (M := M) h0' h1'
      have eF : isF W rows i = ((r.take W).all (fun x => decide (x = 0)) && decide (r.getD W 0 < 0)) := by
        unfold isF
        rw [hR, decide_eq_true h0', decide_eq_true h1', Bool.true_and, Bool.true_and]
      refine ⟨i, _, _, rfl, g, at_, ?_⟩
      refine ⟨_, rfl, ?_⟩
      refine for_restE (enc := Dat.int) (xs := r.take W) (cut_bl hr) (fun l env m => m = M ∧ (r.take W).all (fun x => decide (x = 0)) = l.all (fun x => decide (x = 0)) ∧ ∃ z, env = [some e, some (.int i), z]) ⟨rfl, rfl, none, rfl⟩ ?_ ?_ ?_
      · rintro l env m _
        trivial
      · rintro x l env m ⟨rfl, hall, z, rfl⟩
        refine ifC (c := true != decide (x = 0)) (ne_dec _ _) (fun k => ?_) (fun k => ?_)
        · refine bad ?_
          have hx : decide (x = 0) = false := by simpa using k
          rw [eF, hall, List.all_cons, hx, Bool.false_and, Bool.false_and]
        · have hx : decide (x = 0) = true := by simpa using k
          rw [List.all_cons, hx, Bool.true_and] at hall
          exact ⟨rfl, hall, _, rfl⟩
      · rintro env m ⟨rfl, hall, z, rfl⟩
        refine ⟨i, _, _, rfl, g, at_, -1, _, _, rfl, rfl, at_last hr, ?_⟩
        show Q (.d (.bl (decide (r.getD W 0 < 0)))) (m.restr m)
        rw [Mem.restr_self]
        rw [eF, hall] at q
        exact q
  · refine bad ?_
    unfold isF
    have : decide ((0 : Int) ≤ i) = false := by simpa using h0
    rw [this, Bool.false_and]
end Lw
set_option Elab.async false
set_option linter.all false
set_option maxRecDepth 100000
set_option maxHeartbeats 4000000
namespace Lw
open PySem PySem.Spec PyProof.Rows L2 Dl
theorem log36 {m : Int} (h0 : 0 ≤ m) (h : m ≤ 1000000000000000000000000000000000000) : m.natAbs.log2 < 9000 := by
  by_cases z : m.natAbs = 0
  · rw [z]
    exact (by decide : Nat.log2 0 < 9000)
  · have h2 : m.natAbs < 2 ^ 150 := Nat.lt_of_le_of_lt (show m.natAbs ≤ 1000000000000000000000000000000000000 by omega) (by decide)
    exact Nat.lt_of_lt_of_le ((Nat.log2_lt z).mpr h2) (by decide)
theorem okP_t {n : Nat} {i f : Int} (h0 : 0 ≤ i) (h1 : i < n) (h2 : 1 ≤ f) : okP n (i, f) = true := by
  unfold okP
  rw [decide_eq_true h0, decide_eq_true (show (i, f).1 < (n : Int) from h1), decide_eq_true (show 1 ≤ (i, f).2 from h2)] <;> rfl
theorem okP_f {n : Nat} {i f : Int} (h : ¬(0 ≤ i ∧ i < n ∧ 1 ≤ f)) : okP n (i, f) = false := by
  cases e : okP n (i, f) with
  | false => rfl
  | true => exact absurd (okP_of e) h
theorem pick_ok {W : Nat} {rows : List (List Int)} {ps : List (Int × Int)} (hL : Len W rows) (h : ps.all (okP rows.length) = true) : ∀ q ∈ pick rows ps, q.2.length = W + 1 := fun q hq => by
  obtain ⟨p, hp, rfl⟩ := List.mem_map.mp hq
  obtain ⟨h0, h1, _⟩ := okP_of (List.all_eq_true.mp h p hp)
  exact hL _ (getD_mem (by omega))
def tb (q : Int × List Int) : Int × Bool × List Int := (q.1, true, q.2)
theorem ok__sum_row (ds : List Dat) (M : Mem) (Q : Rv → Mem → Prop) (h : fs__sum_row ds M Q) : rd__sum_row (enD M Q) (startD N__sum_row ds) M := by
  obtain ⟨W, rows, e, d, ps, rfl, g, hL, hW, hl, hd, hf, q⟩ := h
  have bad : sumRow W rows d ps = none → Q (.d .non) (M.restr M) := fun z => by
    rw [Mem.restr_self]
    rw [z] at q
    exact q
  have lenr : ((rows.map encR).length : Int) = (rows.length : Int) := by rw [List.length_map]
  refine ifC (c := decide (d < 1)) rfl (fun h => ?_) (fun h => ?_)
  · exact bad (if_pos (Or.inl (of_decide_eq_true h)))
  have hd1 : ¬ d < 1 := of_decide_eq_false h
  refine ⟨_, _, rfl, rfl, ifC (c := false != decide (((ps.map encP).length : Int) = 0)) (eq_dec _ _) (fun h => ?_) (fun h => ?_)⟩
  · have h' := of_decide_eq_true h
    rw [List.length_map] at h'
    refine bad (if_pos (Or.inr ?_))
    cases ps with
    | nil => rfl
    | cons a b => exact absurd h' (by rw [List.length_cons]; omega)
  have hne : ps ≠ [] := fun z => by
    subst z
    exact absurd rfl (of_decide_eq_false h)
  refine ⟨_, rfl, ?_⟩
  refine for_rest (enc := encP) ps (fun r env m => m = M ∧ ps.all (okP rows.length) = r.all (okP rows.length) ∧ ∃ z3 z4, env = [some e, some (.int d), some (.tup (ps.map encP)), z3, z4, none, none]) ⟨rfl, rfl, none, none, rfl⟩ ?_ ?_ ?_
  · rintro r env m _
    trivial
  · rintro ⟨i, f⟩ r env m ⟨rfl, hall, z3, z4, rfl⟩
    rw [List.all_cons] at hall
    have bad2 : okP rows.length (i, f) = false → Q (.d .non) (m.restr m) := fun z => by
      refine bad ?_
      rw [z, Bool.false_and] at hall
      unfold sumRow
      rw [if_neg (by rintro (k | k); exact hd1 k; exact hne k), if_neg (by rw [hall]; exact Bool.false_ne_true)]
    refine ⟨_, rfl, rfl, _, _, rfl, _, _, rfl, rfl, ?_⟩
    refine ifC (c := decide ((0 : Int) ≤ i)) rfl (fun h0 => ?_) (fun h0 => ?_)
    · refine ⟨e, _, rfl, g, ifC (c := !decide (i < ((rows.map encR).length : Int))) rfl (fun h1 => ?_) (fun h1 => ?_)⟩
      · rw [lenr] at h1
        exact bad2 (okP_f fun k => absurd k.2.1 (by simpa using h1))
      · rw [lenr] at h1
        refine ifC (c := decide (f < 1)) rfl (fun h2 => ?_) (fun h2 => ?_)
        · exact bad2 (okP_f fun k => by have := of_decide_eq_true h2; omega)
        · rw [okP_t (of_decide_eq_true h0) (by simpa using h1) (by have := of_decide_eq_false h2; omega), Bool.true_and] at hall
          exact ⟨rfl, hall, _, _, rfl⟩
    · exact bad2 (okP_f fun k => absurd k.1 (by simpa using h0))
  · rintro env m ⟨rfl, hall, z3, z4, rfl⟩
    have hall : ps.all (okP rows.length) = true := hall
    refine ⟨_, rfl, ?_⟩
    refine lcp_map (e1 := fun p => .int p.1) (e2 := fun p => .int p.2) ps (fun p => encF (p.2, rows.getD p.1.toNat [])) (lz (by omega)) ?_ (fun p hp P hP => ?_) ?_
    · trivial
    · obtain ⟨h0, h1, _⟩ := okP_of (List.all_eq_true.mp hall p hp)
      exact ⟨p.1, _, _, rfl, g, row_at (M := m) h0 h1, l2, hP _ rfl⟩
    have ep : ps.map (fun p => encF (p.2, rows.getD p.1.toNat [])) = ((pick rows ps).map tb).map encFB := by
      show _ = List.map encFB (List.map _ (List.map _ ps))
      rw [List.map_map, List.map_map] <;> rfl
    have en : ((pick rows ps).map tb).map nob = pick rows ps := by
      rw [List.map_map]
      exact List.map_id' _
    have pl := pick_ok hL hall
    refine ⟨(pick rows ps).map tb, W, _, rfl, ep.symm, ?_, ?_, hW, fun q hq => ?_, ?_⟩
    · intro z
      exact hne (List.map_eq_nil_iff.mp (List.map_eq_nil_iff.mp z))
    · rw [List.length_map, show (pick rows ps).length = ps.length from List.length_map ..]
      omega
    · obtain ⟨q2, hq2, rfl⟩ := List.mem_map.mp hq
      obtain ⟨p, hp, rfl⟩ := List.mem_map.mp hq2
      obtain ⟨h0, h1, _⟩ := okP_of (List.all_eq_true.mp hall p hp)
      exact ⟨pl _ hq2, fun x hx => hf p hp _ (getD_mem (by omega)) x hx⟩
    rw [en]
    have hT : (comb W (pick rows ps)).length = W + 1 := comb_len _ _ List.length_replicate pl
    have eS : sumRow W rows d ps = if ((comb W (pick rows ps)).take W).all (fun x => decide (x % d = 0)) = true then some ((comb W (pick rows ps)).map fun x => x / d) else none := by
      unfold sumRow
      rw [if_neg (by rintro (k | k); exact hd1 k; exact hne k), if_pos hall]
    generalize comb W (pick rows ps) = T at hT eS
    refine ⟨_, rfl, ?_⟩
    refine for_restE (enc := Dat.int) (xs := T.take W) (cut_bl hT) (fun l env m' => m' = m ∧ (T.take W).all (fun x => decide (x % d = 0)) = l.all (fun x => decide (x % d = 0)) ∧ ∃ z6, env = [some e, some (.int d), some (.tup (ps.map encP)), z3, z4, some (encR T), z6]) ⟨rfl, rfl, none, rfl⟩ ?_ ?_ ?_
    · rintro l env m' _
      trivial
    · rintro x l env m' ⟨rfl, hall2, z6, rfl⟩
      refine ⟨show 0 < d by omega, ifC (c := true != decide (x % d = 0)) (ne_dec _ _) (fun k => ?_) (fun k => ?_)⟩
      · refine bad ?_
        have hx : decide (x % d = 0) = false := by simpa using k
        rw [eS, if_neg]
        rw [hall2, List.all_cons, hx, Bool.false_and]
        exact Bool.false_ne_true
      · have hx : decide (x % d = 0) = true := by simpa using k
        rw [List.all_cons, hx, Bool.true_and] at hall2
        exact ⟨rfl, hall2, _, rfl⟩
    · rintro env m' ⟨rfl, hall2, z6, rfl⟩
      refine ⟨T, d, _, rfl, rfl, by omega, hd, by omega, ?_⟩
      show Q _ (m'.restr m')
      rw [Mem.restr_self]
      have hall2 : (T.take W).all (fun x => decide (x % d = 0)) = true := hall2
      rw [eS, if_pos hall2] at q
      exact q
/-! ### enumerate -/
theorem for_enum {α : Type} {enc : α → Dat} {γ : DG} {φ : DS} {E : En} {env : Dl.Env} {M1 : Mem} {stay : Mem → Prop} (xs : List α) (J : Nat → List α → Dl.Env → Mem → Prop) (h0 : J 0 xs env M1) (hst : ∀ i r e m, J i r e m → stay m)
    (step : ∀ i x r e m, J i (x :: r) e m → γ (.tup [.int (i : Nat), enc x]) e fun e' => φ ⟨J (i + 1) r, E.rt, E.nx, J (i + 1) r⟩ e' m) (fin : ∀ i e m, J i [] e m → E.nx e m) :
    ∃ Inv : Nat → Dl.Env → Mem → Prop, Inv 0 env M1 ∧ (∀ i env' M', i ≤ (enumD (xs.map enc)).length → Inv i env' M' → stay M') ∧
      (∀ i y env' M', (enumD (xs.map enc))[i]? = some y → Inv i env' M' → γ y env' fun env'' => φ ⟨Inv (i + 1), E.rt, E.nx, Inv (i + 1)⟩ env'' M') ∧ ∀ env' M', Inv (enumD (xs.map enc)).length env' M' → E.nx env' M' := by
  refine ⟨fun i e m => J i (xs.drop i) e m, h0, fun i e m _ h => hst _ _ _ _ h, fun i y e m hy h => ?_, fun e m h => fin (enumD (xs.map enc)).length e m ?_⟩
  · cases e2 : (xs.map enc)[i]? with
    | none =>
      have hl : (xs.map enc).length ≤ i := by
        by_cases z : (xs.map enc).length ≤ i
        · exact z
        · rw [List.getElem?_eq_getElem (by omega)] at e2
          cases e2
      rw [List.getElem?_eq_none (by rw [enumD_len]; exact hl)] at hy
      cases hy
    | some x' =>
      rw [enumD_get e2] at hy
      obtain ⟨x, e1, rfl, _⟩ := map_drop_get e2
      have ey := Option.some.inj hy
      subst ey
      have h' : J i (xs.drop i) e m := h
      rw [e1] at h'
      exact step i x _ e m h'
  · have e1 : xs.drop (enumD (xs.map enc)).length = [] := by rw [enumD_len, List.length_map, List.drop_length]
    have h' : J _ (xs.drop (enumD (xs.map enc)).length) e m := h
    rw [e1] at h'
    exact h'
end Lw
set_option Elab.async false
set_option linter.all false
set_option maxRecDepth 100000
set_option maxHeartbeats 4000000
namespace Lw
open PySem PySem.Spec PyProof.Rows L2 Dl
theorem run_sum {W : Nat} {rows : List (List Int)} {marks : List (Nat × List Int)} {d : Int} {ps : List (Int × Int)} {ls : List Ln} : run W rows marks (⟨"sum", .sum d ps⟩ :: ls) = (match sumRow W rows d ps with
        | none => false
        | some r => run W (rows ++ [r]) marks ls) := by
  rw [run]
  exact if_pos rfl
theorem run_split {W : Nat} {rows : List (List Int)} {marks : List (Nat × List Int)} {r : List Int} {ls : List Ln} : run W rows marks (⟨"split", .split r⟩ :: ls) = if r.length = W + 1 then run W (rows ++ [spl W r]) (marks ++ [(rows.length, r)]) ls else false := by
  rw [run]
  exact if_pos rfl
theorem run_fls {W : Nat} {rows : List (List Int)} {marks : List (Nat × List Int)} {i : Int} {ls : List Ln} : run W rows marks (⟨"false", .fls i⟩ :: ls) = if isF W rows i = true then (match marks.getLast? with
        | none => ls.isEmpty
        | some q => run W (rows.take q.1 ++ [q.2]) marks.dropLast ls) else false := by
  rw [run]
  exact if_pos rfl
theorem run_bad {W : Nat} {rows : List (List Int)} {marks : List (Nat × List Int)} {l : Ln} {ls : List Ln} (h : l.w ≠ l.b.nm) : run W rows marks (l :: ls) = false := by
  rw [run]
  exact if_neg h
theorem nm_ne : ¬((("sum" : Str) = "split") ∨ (("sum" : Str) = "false") ∨ (("split" : Str) = "sum") ∨ (("split" : Str) = "false") ∨ (("false" : Str) = "sum") ∨ (("false" : Str) = "split")) := by decide +kernel
theorem kind_sum {l : Ln} (h : l.wd) (hw : l.w = "sum") : ∃ d ps, l = ⟨"sum", .sum d ps⟩ := by
  obtain ⟨w, bd⟩ := l
  cases hw
  rcases h with k | k
  · cases bd with
    | sum d ps => exact ⟨d, ps, rfl⟩
    | split r => exact absurd (Or.inl k) nm_ne
    | fls i => exact absurd (Or.inr (Or.inl k)) nm_ne
  · exact absurd rfl k.1
theorem kind_split {l : Ln} (h : l.wd) (hw : l.w = "split") : ∃ r, l = ⟨"split", .split r⟩ := by
  obtain ⟨w, bd⟩ := l
  cases hw
  rcases h with k | k
  · cases bd with
    | sum d ps => exact absurd (Or.inr (Or.inr (Or.inl k))) nm_ne
    | split r => exact ⟨r, rfl⟩
    | fls i => exact absurd (Or.inr (Or.inr (Or.inr (Or.inl k)))) nm_ne
  · exact absurd rfl k.2.1
theorem kind_fls {l : Ln} (h : l.wd) (hw : l.w = "false") : ∃ i, l = ⟨"false", .fls i⟩ := by
  obtain ⟨w, bd⟩ := l
  cases hw
  rcases h with k | k
  · cases bd with
    | sum d ps => exact absurd (Or.inr (Or.inr (Or.inr (Or.inr (Or.inl k))))) nm_ne
    | split r => exact absurd (Or.inr (Or.inr (Or.inr (Or.inr (Or.inr k))))) nm_ne
    | fls i => exact ⟨i, rfl⟩
  · exact absurd rfl k.2.2
theorem fit_sum {W : Nat} {rows : List (List Int)} {marks : List (Nat × List Int)} {d : Int} {ps : List (Int × Int)} {ls : List Ln} (h : fit W rows marks (⟨"sum", .sum d ps⟩ :: ls)) : ps.length ≤ 100 ∧ d.natAbs.log2 < 9000 ∧ mulOk rows ps ∧ ∀ r, sumRow W rows d ps = some r → fit W (rows ++ [r]) marks ls := by
  rw [fit] at h
  obtain ⟨h1, h2, h3, h4⟩ := h rfl
  refine ⟨h1, h2, h3, fun r hr => ?_⟩
  rw [hr] at h4
  exact h4
theorem fit_split {W : Nat} {rows : List (List Int)} {marks : List (Nat × List Int)} {r : List Int} {ls : List Ln} (h : fit W rows marks (⟨"split", .split r⟩ :: ls)) (hr : r.length = W + 1) : fit W (rows ++ [spl W r]) (marks ++ [(rows.length, r)]) ls := by
  rw [fit] at h
  exact h rfl hr
theorem fit_fls {W : Nat} {rows : List (List Int)} {ms : List (Nat × List Int)} {q : Nat × List Int} {i : Int} {ls : List Ln} (h : fit W rows (ms ++ [q]) (⟨"false", .fls i⟩ :: ls)) (hi : isF W rows i = true) : fit W (rows.take q.1 ++ [q.2]) ms ls := by
  rw [fit] at h
  have h := h rfl hi
  rw [List.getLast?_append, List.dropLast_concat] at h
  exact h
theorem kind_bad {l : Ln} (h1 : l.w ≠ "sum") (h2 : l.w ≠ "split") (h3 : l.w ≠ "false") : l.w ≠ l.b.nm := by
  obtain ⟨w, bd⟩ := l
  cases bd with
  | sum d ps => exact h1
  | split r => exact h2
  | fls i => exact h3
def encM (q : Nat × List Int) : Dat := .tup [.int (q.1 : Nat), encR q.2]
theorem enc_0 (l : Ln) : atI (.str l.w :: l.b.its) 0 = some (.str l.w) := at_zero _ _
theorem upd1 {M : Mem} {k1 k2 : Addr} {a b c : MV} (h : k1 ≠ k2) : ((M.set k1 a).set k2 b).set k1 c = (M.set k1 c).set k2 b := by
  rw [Mem.set_comm (Ne.symm h), Mem.set_set]
theorem stay_nc {d : Dat} {ys : List Dat} {m : Mem} (h : ∀ p, d ≠ .cell p) : stayR ys d m := by
  cases d with
  | cell p => exact absurd rfl (h p)
  | _ => trivial
theorem seq_nc {d : Dat} {ys : List Dat} {m m' : Mem} (h : ∀ p, d ≠ .cell p) (g : SeqR m (.d d) ys) : SeqR m' (.d d) ys := by
  cases d with
  | cell p => exact absurd rfl (h p)
  | _ => exact g
theorem str_dec (a b : Str) : (false != decide (a = b)) = decide (a = b) := Bool.false_bne _
theorem ok_accepts (C : Addr) (ds : List Dat) (M : Mem) (Q : Rv → Mem → Prop) (h : fs_accepts C ds M Q) : rd_accepts C (enD M Q) (startD N_accepts ds) M := by
  obtain ⟨w, cs, e, ls, rfl, hne, g, hw, hcl, hll, hg, hok, hfit0, q⟩ := h
  have hnd := nd_le cs
  refine ⟨_, _, rfl, ⟨rfl, rfl⟩, by rfl, w, cs, rfl, by omega, hw, fun x hx => (hg x hx).1, _, rfl, fun k1 hk1 => ?_⟩
  refine ⟨_, _, rfl, ⟨rfl, rfl⟩, w, cs, rfl, by omega, ?_⟩
  refine ⟨Nat.zero_le _, _, rfl, fun k2 hk2 => ?_⟩
  have k12 : k1 ≠ k2 := fun z => by
    subst z
    rw [Mem.set_same] at hk2
    cases hk2
  have hMk2 : M k2 = none := by
    rw [Mem.set_ne (Ne.symm k12)] at hk2
    exact hk2
  have hW : ∀ r ∈ prows (nd cs) 0 cs, r.length = w + nd cs + 1 := fun r hr => by
    obtain ⟨a, c, rfl, h1, _⟩ := prows_ok cs 0 hg r hr
    rw [List.length_append, h1] <;> rfl
  have hpl := prows_len (n := nd cs) cs 0
  have eWi : (w : Int) + (nd cs : Int) + 1 = ((w + nd cs + 1 : Nat) : Int) := rfl
  generalize hWd : w + nd cs = W at *
  have fin : ∀ (b : Bool) (r1 : List Dat) (r2 : List Dat), run W (prows (nd cs) 0 cs) [] ls = b → Q (.d (.bl b)) (M.restr ((M.set k1 (.lst r1)).set k2 (.lst r2))) := fun b r1 r2 hb => by
    rw [Mem.restr_set_out hMk2, Mem.restr_set_out hk1, Mem.restr_self]
    rw [hb] at q
    exact q
  refine ⟨e, _, rfl, seq_nc hne g, ?_⟩
  refine for_enum (enc := Ln.enc) ls (fun i r env m => ∃ (rows : List (List Int)) (marks : List (Nat × List Int)) (z5 z6 z7 z8 : Option Dat), m = (M.set k1 (.lst (rows.map encR))).set k2 (.lst (marks.map encM)) ∧
    env = [some (sysD C w cs), some e, some (.cell k1), some (.int ((W + 1 : Nat) : Int)), some (.cell k2), z5, z6, z7, z8] ∧ Len W rows ∧ (∀ q ∈ marks, q.1 ≤ rows.length ∧ q.2.length = W + 1) ∧ marks.Pairwise (fun a b => a.1 ≤ b.1) ∧ run W rows marks r = run W (prows (nd cs) 0 cs) [] ls ∧ fit W rows marks r ∧ (∀ l ∈ r, l ∈ ls) ∧
    rows.length ≤ 200 + i ∧ marks.length ≤ i ∧ i + r.length = ls.length) ?_ ?_ ?_ ?_
  · refine ⟨prows (nd cs) 0 cs, [], none, none, none, none, rfl, ?_, hW, fun q hq => absurd hq List.not_mem_nil, .nil, rfl, hfit0, fun _ h => h, by omega, Nat.le_refl _, Nat.zero_add _⟩
    show ([_, _, _, some (Dat.int ((w : Int) + (nd cs : Int) + 1)), _, _, _, _, _] : List (Option Dat)) = _
    rw [eWi] <;> rfl
  · rintro i r env m _
    exact stay_nc hne
  · rintro i l r env m ⟨rows, marks, z5, z6, z7, z8, rfl, rfl, hL, hM, hP, hrun, hfit, hmem, hrl, hml, hil⟩
    have hl := hok l (hmem l List.mem_cons_self)
    have mem' : ∀ x ∈ r, x ∈ ls := fun x hx => hmem x (List.mem_cons_of_mem _ hx)
    rw [List.length_cons] at hil
    have s1 : ((M.set k1 (.lst (rows.map encR))).set k2 (.lst (marks.map encM))) k1 = some (.lst (rows.map encR)) := (Mem.set_ne k12).trans Mem.set_same
    have s2 : ((M.set k1 (.lst (rows.map encR))).set k2 (.lst (marks.map encM))) k2 = some (.lst (marks.map encM)) := Mem.set_same
    have lz1 : ∀ n : Nat, n ≤ 2000 → n < sizeLine := fun n hn => Nat.lt_of_lt_of_le (show n < 2001 by omega) (by decide)
    refine ⟨_, rfl, rfl, _, _, rfl, _, _, rfl, rfl, ?_⟩
    refine ⟨0, _, _, rfl, rfl, enc_0 l, ifC (str_dec l.w "sum") (fun hd => ?_) (fun hd => ?_)⟩
    · obtain ⟨d, ps, rfl⟩ := kind_sum hl (of_decide_eq_true hd)
      rw [run_sum] at hrun
      obtain ⟨f1, f2, f3, f4⟩ := fit_sum hfit
      refine ⟨1, _, _, rfl, rfl, rfl, 2, _, _, rfl, rfl, rfl, W, rows, _, d, ps, rfl, s1, hL, by omega, f1, f2, f3, ?_⟩
      cases hS : sumRow W rows d ps with
      | none =>
        rw [hS] at hrun
        exact ⟨rfl, fin false _ _ hrun.symm⟩
      | some t =>
        rw [hS] at hrun
        refine ⟨rfl, k1, _, rfl, s1, _, s1, lz1 _ (by rw [List.length_map]; omega), rows ++ [t], marks, _, _, _, _, ?_, rfl, ?_, ?_, hP, hrun, f4 t hS, mem', ?_, by omega, by omega⟩
        · rw [upd1 k12, List.map_append] <;> rfl
        · intro x hx
          rcases List.mem_append.mp hx with z | z
          · exact hL x z
          · rw [List.mem_singleton.mp z]
            unfold sumRow at hS
            split at hS
            · cases hS
            · split at hS
              · rename_i hall
                split at hS
                · have e := Option.some.inj hS
                  rw [← e, List.length_map]
                  exact comb_len _ _ List.length_replicate (pick_ok hL hall)
                · cases hS
              · cases hS
        · intro x hx
          have := hM x hx
          rw [List.length_append]
          omega
        · rw [List.length_append]
          show _ + 1 ≤ _
          omega
    refine ⟨0, _, _, rfl, rfl, enc_0 l, ifC (str_dec l.w "split") (fun hd2 => ?_) (fun hd2 => ?_)⟩
    · obtain ⟨t, rfl⟩ := kind_split hl (of_decide_eq_true hd2)
      rw [run_split] at hrun
      refine ⟨1, _, _, rfl, rfl, rfl, _, _, rfl, rfl, ifC (c := true != decide (((iL t).length : Int) = ((W + 1 : Nat) : Int))) (ne_dec _ _) (fun k => ?_) (fun k => ?_)⟩
      · have ht : ¬ t.length = W + 1 := by
          rw [iL_len] at k
          have : ¬ ((t.length : Int) = ((W + 1 : Nat) : Int)) := by simpa using k
          omega
        rw [if_neg ht] at hrun
        exact fin false _ _ hrun.symm
      · have ht : t.length = W + 1 := by
          rw [iL_len] at k
          have : ((t.length : Int) = ((W + 1 : Nat) : Int)) := by simpa using k
          omega
        rw [if_pos ht] at hrun
        refine ⟨k2, _, rfl, s2, _, _, rfl, s1, 1, _, _, rfl, rfl, rfl, _, _, rfl, rfl, l2, _, s2, lz1 _ (by rw [List.length_map]; omega), ?_⟩
        refine ⟨k1, _, rfl, (Mem.set_ne k12).trans s1, 1, _, _, rfl, rfl, rfl, t, rfl, by omega, (t.take W).map (fun y => -y), -(t.getD W 0), -1, ?_, by rw [List.length_map, List.length_take]; omega, _, (Mem.set_ne k12).trans s1, lz1 _ (by rw [List.length_map]; omega), ?_⟩
        · have e1 := congrArg (fun l => [encR (l.map fun y : Int => -y), Dat.int (-1)]) (split_last ht)
          refine e1.trans ?_
          show [encR ((t.take W ++ [t.getD W 0]).map fun y => -y), Dat.int (-1)] = _
          rw [List.map_append] <;> rfl
        · refine ⟨rows ++ [spl W t], marks ++ [(rows.length, t)], _, _, _, _, ?_, rfl, ?_, ?_, ?_, hrun, fit_split hfit ht, mem', ?_, ?_, by omega⟩
          · rw [Mem.set_set, upd1 k12, List.map_append, List.map_append, List.length_map] <;> rfl
          · intro x hx
            rcases List.mem_append.mp hx with z | z
            · exact hL x z
            · rw [List.mem_singleton.mp z]
              show ((t.take W).map _ ++ [_]).length = _
              rw [List.length_append, List.length_map, List.length_take, Nat.min_eq_left (by omega)] <;> rfl
          · intro x hx
            rw [List.length_append]
            rcases List.mem_append.mp hx with z | z
            · have := hM x z
              omega
            · rw [List.mem_singleton.mp z]
              exact ⟨by show rows.length ≤ _; omega, ht⟩
          · refine List.pairwise_append.mpr ⟨hP, List.pairwise_singleton .., fun a ha b hb => ?_⟩
            rw [List.mem_singleton.mp hb]
            exact (hM a ha).1
          · rw [List.length_append]
            show _ + 1 ≤ _
            omega
          · rw [List.length_append]
            show _ + 1 ≤ _
            omega
    refine ⟨0, _, _, rfl, rfl, enc_0 l, ifC (str_dec l.w "false") (fun hd3 => ?_) (fun hd3 => ?_)⟩
    · obtain ⟨t, rfl⟩ := kind_fls hl (of_decide_eq_true hd3)
      rw [run_fls] at hrun
      refine ⟨1, _, _, rfl, rfl, rfl, W, rows, _, t, rfl, s1, hL, ifC (c := !(isF W rows t)) rfl (fun k => ?_) (fun k => ?_)⟩
      · have k' : isF W rows t = false := by simpa using k
        rw [k', if_neg Bool.false_ne_true] at hrun
        exact fin false _ _ hrun.symm
      · have k' : isF W rows t = true := by simpa using k
        rw [k', if_pos rfl] at hrun
        rcases List.eq_nil_or_concat marks with hm | ⟨ms, q0, hm⟩
        · subst hm
          refine ⟨_, s2, ?_⟩
          refine ⟨e, _, rfl, seq_nc hne g, ?_⟩
          show Q (.d (.bl (false != decide ((i : Int) = ((ls.map Ln.enc).length : Int) - 1)))) (M.restr _)
          rw [Bool.false_bne]
          refine fin _ _ _ (hrun.symm.trans ?_)
          show r.isEmpty = _
          rw [List.length_map]
          cases r with
          | nil =>
            rw [decide_eq_true (by rw [List.length_nil] at hil; omega)] <;> rfl
          | cons a b =>
            rw [decide_eq_false (by rw [List.length_cons] at hil; omega)] <;> rfl
        · rw [List.concat_eq_append] at hm
          subst hm
          have hq0 := hM q0 (List.mem_append_right _ List.mem_cons_self)
          rw [List.getLast?_append, List.dropLast_concat] at hrun
          have hrun : run W (rows.take q0.1 ++ [q0.2]) ms r = run W (prows (nd cs) 0 cs) [] ls := hrun
          have em : ((ms ++ [q0]).map encM).isEmpty = false := by rw [List.map_append]; cases ms.map encM <;> rfl
          refine ⟨_, s2, ifF (c := !(!((ms ++ [q0]).map encM).isEmpty)) (by rw [em] <;> rfl) ?_⟩
          have ea : (ms ++ [q0]).map encM = ms.map encM ++ [encM q0] := by rw [List.map_append] <;> rfl
          refine ⟨k2, _, encM q0, rfl, s2, ?_, ?_⟩
          · rw [ea, List.length_append]
            show (ms.map encM ++ [encM q0])[(ms.map encM).length + 1 - 1]? = _
            rw [Nat.add_sub_cancel, List.getElem?_append_right (Nat.le_refl _), Nat.sub_self] <;> rfl
          refine ⟨_, rfl, rfl, _, _, rfl, _, _, rfl, rfl, ?_⟩
          refine ⟨k1, _, q0.1, rfl, rfl, (Mem.set_ne k12).trans s1, by rw [List.length_map]; exact hq0.1, ?_⟩
          refine ⟨k1, _, rfl, Mem.set_same, _, Mem.set_same, lz1 _ (by rw [List.length_take, List.length_map]; omega), ?_⟩
          refine ⟨rows.take q0.1 ++ [q0.2], ms, _, _, _, _, ?_, rfl, ?_, ?_, (List.pairwise_append.mp hP).1, hrun, fit_fls hfit k', mem', ?_, ?_, by omega⟩
          · rw [Mem.set_set, Mem.set_set, upd1 k12, ea, List.dropLast_concat, List.map_append, List.map_take] <;> rfl
          · intro x hx
            rcases List.mem_append.mp hx with z | z
            · exact hL x (List.mem_of_mem_take z)
            · rw [List.mem_singleton.mp z]
              exact hq0.2
          · intro x hx
            have h1 := (List.pairwise_append.mp hP).2.2 x hx q0 List.mem_cons_self
            have h2 := hM x (List.mem_append_left _ hx)
            rw [List.length_append, List.length_take]
            exact ⟨by show _ ≤ _ + 1; omega, h2.2⟩
          · rw [List.length_append, List.length_take]
            show _ + 1 ≤ _
            omega
          · rw [List.length_append] at hml
            omega
    · have hb := kind_bad (of_decide_eq_false hd) (of_decide_eq_false hd2) (of_decide_eq_false hd3)
      rw [run_bad hb] at hrun
      exact fin false _ _ hrun.symm
  · rintro i env m ⟨rows, marks, z5, z6, z7, z8, rfl, rfl, hL, hM, hP, hrun, hfit, hmem, hrl, hml, hil⟩
    exact fin false _ _ hrun.symm
end Lw
set_option Elab.async false
set_option linter.all false
set_option maxRecDepth 100000
set_option maxHeartbeats 4000000
namespace Lw
open PySem PySem.Spec PyProof.Rows L2 Dl
theorem encB_at {rs : List (Bool × List Int)} {i : Int} (h0 : 0 ≤ i) (h1 : i < rs.length) : ∃ b, atI (rs.map encB) i = some (encB (b, (rs.map (·.2)).getD i.toNat [])) := by
  have hi : i.toNat < rs.length := by omega
  refine ⟨rs[i.toNat].1, ?_⟩
  have h := Dl.atI_nat (xs := rs.map encB) (i := i.toNat) (y := encB (rs[i.toNat].1, (rs.map (·.2)).getD i.toNat [])) (by
    rw [List.getElem?_map, List.getElem?_eq_getElem hi, List.getD_eq_getElem?_getD, List.getElem?_map, List.getElem?_eq_getElem hi] <;> rfl)
  rwa [show ((i.toNat : Nat) : Int) = i by omega] at h
theorem addR_get {t r : List Int} {f : Int} {k : Nat} (h1 : k < t.length) (h2 : k < r.length) : (addR t f r)[k]? = some (t[k] + f * r[k]) := by
  unfold addR
  have e : (t.zip r)[k]? = some (t[k], r[k]) := List.getElem?_zip_eq_some.mpr ⟨List.getElem?_eq_getElem h1, List.getElem?_eq_getElem h2⟩
  rw [List.getElem?_map, e] <;> rfl
theorem any_all (d : Int) : ∀ l : List Int, (l.map fun x => true != decide (x % d = 0)).any id = !(l.all fun x => decide (x % d = 0))
  | [] => rfl
  | x :: l => by
    rw [List.map_cons, List.any_cons, List.all_cons, any_all d l]
    cases decide (x % d = 0) <;> rfl
theorem ok__law_summed (ds : List Dat) (M : Mem) (Q : Rv → Mem → Prop) (h : fs__law_summed ds M Q) : rd__law_summed (enD M Q) (startD N__law_summed ds) M := by
  obtain ⟨W, rs, e, x, d, ps, rfl, g, hL, hW, hl, hd, hf, q⟩ := h
  generalize hrows : rs.map (·.2) = rows at *
  have bad : sumRow W rows d ps = none → Q (.d .non) (M.restr M) := fun z => by
    rw [Mem.restr_self]
    rw [z] at q
    exact q
  have lenr : ((rs.map encB).length : Int) = (rows.length : Int) := by rw [← hrows, List.length_map, List.length_map]
  refine ⟨1, _, _, rfl, rfl, rfl, ifC (c := decide (d < 1)) rfl (fun h => ?_) (fun h => ?_)⟩
  · exact bad (if_pos (Or.inl (of_decide_eq_true h)))
  have hd1 : ¬ d < 1 := of_decide_eq_false h
  refine ⟨2, _, _, rfl, rfl, rfl, _, _, rfl, rfl, ifC (c := decide (((ps.map encP).length : Int) < 1)) rfl (fun h => ?_) (fun h => ?_)⟩
  · have h' := of_decide_eq_true h
    rw [List.length_map] at h'
    refine bad (if_pos (Or.inr ?_))
    cases ps with
    | nil => rfl
    | cons a b => exact absurd h' (by rw [List.length_cons]; omega)
  have hne : ps ≠ [] := fun z => by
    subst z
    exact absurd (show ((0 : Nat) : Int) < 1 by decide) (of_decide_eq_false h)
  refine ⟨l1, _, rfl, by omega, by omega, ?_, ?_⟩
  · show 1 * ((W : Int) + 1).toNat ≤ sizeLine
    exact lz (by omega)
  refine ⟨2, _, _, rfl, rfl, rfl, _, rfl, ?_⟩
  have eW : ((W : Int) + 1).toNat = W + 1 := by omega
  have e0 : (List.replicate ((W : Int) + 1).toNat [Dat.int 0]).flatten = iL (List.replicate (W + 1) 0) := by
    rw [eW, rep_flat, iL_rep]
  refine for_rest (enc := encP) ps (fun r env m => m = M ∧ ps.all (okP rows.length) = r.all (okP rows.length) ∧ ∃ (t : List Int) (z4 z5 : Option Dat), t.length = W + 1 ∧ (pick rows r).foldl (fun t q => addR t q.1 q.2) t = comb W (pick rows ps) ∧
    (∀ p ∈ r, p ∈ ps) ∧ env = [some (.int (W : Int)), some e, some (Ln.enc ⟨x, .sum d ps⟩), some (.lst (iL t)), z4, z5, none, none]) ?_ ?_ ?_ ?_
  · refine ⟨rfl, rfl, List.replicate (W + 1) 0, none, none, List.length_replicate, rfl, fun _ h => h, ?_⟩
    show ([_, _, _, some (Dat.lst ((List.replicate ((W : Int) + 1).toNat [Dat.int 0]).flatten)), _, _, _, _] : List (Option Dat)) = _
    rw [e0] <;> rfl
  · rintro r env m _
    trivial
  · rintro ⟨i, f⟩ r env m ⟨rfl, hall, t, z4, z5, ht, hfold, hmem, rfl⟩
    rw [List.all_cons] at hall
    have bad2 : okP rows.length (i, f) = false → Q (.d .non) (m.restr m) := fun z => by
      refine bad ?_
      rw [z, Bool.false_and] at hall
      unfold sumRow
      rw [if_neg (by rintro (k | k); exact hd1 k; exact hne k), if_neg (by rw [hall]; exact Bool.false_ne_true)]
    refine ⟨0, _, _, rfl, rfl, rfl, ?_⟩
    refine ifC (c := decide ((0 : Int) ≤ i)) rfl (fun h0 => ?_) (fun h0 => ?_)
    · refine ⟨e, _, rfl, g, ifC (c := !decide (i < ((rs.map encB).length : Int))) rfl (fun h1 => ?_) (fun h1 => ?_)⟩
      · rw [lenr] at h1
        exact bad2 (okP_f fun k => absurd k.2.1 (by simpa using h1))
      · rw [lenr] at h1
        refine ⟨1, _, _, rfl, rfl, rfl, ifC (c := decide (f < 1)) rfl (fun h2 => ?_) (fun h2 => ?_)⟩
        · exact bad2 (okP_f fun k => by have := of_decide_eq_true h2; omega)
        · have h0' := of_decide_eq_true h0
          have h1' : i < (rows.length : Int) := by simpa using h1
          rw [okP_t h0' h1' (by have := of_decide_eq_false h2; omega), Bool.true_and] at hall
          have lrs : rs.length = rows.length := by rw [← hrows, List.length_map]
          obtain ⟨b, hb⟩ := encB_at (rs := rs) h0' (by rw [lrs]; exact h1')
          rw [hrows] at hb
          have hR : (rows.getD i.toNat []).length = W + 1 := hL _ (getD_mem (by omega))
          have hfold : (pick rows r).foldl (fun t q => addR t q.1 q.2) (addR t f (rows.getD i.toNat [])) = comb W (pick rows ps) := hfold
          have hfb := hf (i, f) (hmem _ List.mem_cons_self) _ (getD_mem (i := i.toNat) (by omega))
          generalize rows.getD i.toNat [] = R at hb hR hfold hfb
          refine ⟨0, _, _, rfl, rfl, rfl, i, _, _, rfl, g, hb, ?_⟩
          refine ⟨by omega, by omega, ?_⟩
          rw [eW]
          refine lc_rng (fun k acc m' => m' = m ∧ acc = iL ((addR t f R).take k)) ⟨rfl, by rw [List.take_zero] <;> rfl⟩ (fun k acc m' hk hj => ?_) (fun acc m' hj => ?_)
          · obtain ⟨rfl, rfl⟩ := hj
            simp only [dYes, ↓reduceIte]
            rw [Int.zero_add]
            have k1 : k < t.length := by omega
            have k2 : k < R.length := by omega
            refine ⟨k, _, _, rfl, rfl, at_iL k1, 1, _, _, rfl, rfl, rfl, k, _, _, rfl, seq_encB (b, R), at_iL k2, hfb _ (List.getElem_mem k2), ?_, rfl, ?_⟩
            · rw [iL_len, List.length_take]
              exact Nat.lt_of_lt_of_le (show min k _ < 1002 by omega) (by decide)
            · rw [List.take_succ, addR_get k1 k2]
              show _ = iL (_ ++ [t[k] + f * R[k]])
              rw [iL_app] <;> rfl
          · obtain ⟨rfl, rfl⟩ := hj
            refine ⟨rfl, hall, addR t f R, some (encP (i, f)), some (encB (b, R)), by rw [addR_len (by omega), ht], hfold, fun p hp => hmem p (List.mem_cons_of_mem _ hp), ?_⟩
            show ([_, _, _, some (Dat.lst (iL ((addR t f R).take (W + 1)))), _, _, _, _] : List (Option Dat)) = _
            rw [List.take_of_length_le (by rw [addR_len (by omega)]; omega)] <;> rfl
    · exact bad2 (okP_f fun k => absurd k.1 (by simpa using h0))
  · rintro env m ⟨rfl, hall, t, z4, z5, ht, hfold, hmem, rfl⟩
    have hall : ps.all (okP rows.length) = true := hall
    have hT : t = comb W (pick rows ps) := hfold
    have eS : sumRow W rows d ps = if (t.take W).all (fun x => decide (x % d = 0)) = true then some (t.map fun x => x / d) else none := by
      unfold sumRow
      rw [if_neg (by rintro (k | k); exact hd1 k; exact hne k), if_pos hall, hT]
    have ec : cut (iL t) none (some (W : Int)) = iL (t.take W) := by rw [cut_to, ← List.map_take]
    refine ⟨_, rfl, ?_⟩
    refine ⟨_, rfl, ?_⟩
    refine lc_mapE (enc := Dat.int) (xs := t.take W) ec (fun x => .bl (true != decide (x % d = 0))) (by rw [List.length_take]; exact lz (by omega)) ?_ (fun x hx P hP => ?_) ?_
    · trivial
    · refine ⟨1, _, _, rfl, rfl, rfl, show 0 < d by omega, hP _ rfl⟩
    refine ⟨_, (t.take W).map (fun x => true != decide (x % d = 0)), rfl, ?_, ?_⟩
    · show List.map Dat.bl (List.map _ (t.take W)) = List.map _ (t.take W)
      rw [List.map_map] <;> rfl
    refine ifC (any_all d (t.take W)) (fun k => ?_) (fun k => ?_)
    · refine bad ?_
      rw [eS, if_neg (by intro z; rw [z] at k; cases k)]
    · refine ⟨_, rfl, ?_⟩
      refine lc_map (enc := Dat.int) t (fun y => .int (y / d)) (lz (by omega)) ?_ (fun x hx P hP => ?_) ?_
      · trivial
      · exact ⟨1, _, _, rfl, rfl, rfl, ⟨show 0 < d by omega, hd⟩, hP _ rfl⟩
      · refine ⟨_, _, rfl, rfl, ?_⟩
        show Q (.d (.tup (t.map (fun y => Dat.int (y / d))))) (m.restr m)
        rw [Mem.restr_self]
        have e : t.map (fun y => Dat.int (y / d)) = iL (t.map fun y => y / d) := by
          show _ = List.map Dat.int (List.map _ t)
          rw [List.map_map] <;> rfl
        rw [e]
        rw [eS, if_pos (by simpa using k)] at q
        exact q
end Lw
set_option Elab.async false
set_option linter.all false
set_option maxRecDepth 100000
set_option maxHeartbeats 4000000
namespace Lw
open PySem PySem.Spec PyProof.Rows L2 Dl
def encN (q : Nat × List Int) : Dat := .tup [.int (q.1 : Nat), .lst (iL q.2)]
def pyN (q : Nat × List Int) : PyData := .tuple [.int (q.1 : Nat), .list (q.2.map PyData.int)]
theorem py_marks {M : Mem} (ms : List (Nat × List Int)) : PyOfA M (ms.map encN) (ms.map pyN) := PyOfA.map (f := encN) (g := pyN) (fun q => .tup (.cons (.int _) (.cons (.lst (PyOfA.ints M q.2)) .nil))) ms
theorem lay_marks : ∀ ms : List (Nat × List Int), PyData.canLayAll0 (ms.map pyN) = true ∧ PyData.depthAll (ms.map pyN) ≤ 2
  | [] => ⟨rfl, Nat.zero_le _⟩
  | q :: r => by
    obtain ⟨h1, h2⟩ := lay_marks r
    rw [List.map_cons]
    simp only [PyData.canLayAll0, PyData.canLay0, PyData.depthAll, PyData.depth, pyN, Bool.true_and, Bool.and_true]
    refine ⟨by rw [canLay_ints, h1] <;> rfl, ?_⟩
    rw [depth_ints]
    omega
theorem shaped_marks (ms : List (Nat × List Int)) : SeqAt.shaped (.list (ms.map pyN)) = true := by
  obtain ⟨h1, h2⟩ := lay_marks ms
  have e1 : PyData.canLay0 (.list (ms.map pyN)) = true := by
    simp only [PyData.canLay0]
    exact h1
  have e2 : PyData.depth (.list (ms.map pyN)) ≤ 64 := by
    simp only [PyData.depth]
    omega
  unfold SeqAt.shaped
  rw [e1, decide_eq_true e2] <;> rfl
theorem eqv_marks (ms : List (Nat × List Int)) : (false != PyData.eqv (.list (ms.map pyN)) (.list [])) = ms.isEmpty := by
  cases ms <;> rfl
/-- the third part of a turn -/
def takes3 : DS := dSeq (dIfS (dTest (dOp (oIs false) (dVar 7) (dC .non))) (dRet (dC (.bl false))) (dNext)) (dDrop (dAppend (dVar 3) (dHoldM (dVar 7))))
theorem anyz (f : Nat → Int) : ∀ n, (List.range n).any (fun k => true != decide (f k = 0)) = !((List.range n).all fun k => decide (f k = 0)) := fun n => by
  induction List.range n with
  | nil => rfl
  | cons a b ih =>
    rw [List.any_cons, List.all_cons, ih]
    cases decide (f a = 0) <;> rfl
theorem bool_ext {a b : Bool} (h : a = true ↔ b = true) : a = b := by
  cases a <;> cases b
  · rfl
  · exact (h.mpr rfl)
  · exact (h.mp rfl).symm
  · rfl
theorem all_take {r : List Int} {W : Nat} (h : W ≤ r.length) : (r.take W).all (fun x => decide (x = 0)) = (List.range W).all fun k => decide (r.getD k 0 = 0) := by
  refine bool_ext ?_
  rw [List.all_eq_true, List.all_eq_true]
  constructor
  · intro k i hi
    have hi := List.mem_range.mp hi
    rw [getD_of (by omega)]
    refine k _ ?_
    have : (r.take W)[i]'(by rw [List.length_take]; omega) = r[i] := List.getElem_take
    rw [← this]
    exact List.getElem_mem _
  · intro k x hx
    obtain ⟨i, hi, rfl⟩ := List.mem_iff_getElem.mp hx
    rw [List.length_take] at hi
    have := k i (List.mem_range.mpr (by omega))
    rw [getD_of (by omega)] at this
    rw [List.getElem_take]
    exact this
theorem ok__law_takes (ds : List Dat) (M : Mem) (Q : Rv → Mem → Prop) (h : fs__law_takes ds M Q) : rd__law_takes (enD M Q) (startD N__law_takes ds) M := by
  obtain ⟨W, rows0, ls, rfl, hL0, hW, hr0, hll, hok, hfit0, q⟩ := h
  refine ⟨_, _, rfl, rfl, _, rfl, fun kr0 hkr0 => ?_⟩
  refine ⟨Nat.zero_le _, _, rfl, fun km hkm => ?_⟩
  have krm0 : kr0 ≠ km := fun z => by
    subst z
    rw [Mem.set_same] at hkm
    cases hkm
  have hMkm : M km = none := by
    rw [Mem.set_ne (Ne.symm krm0)] at hkm
    exact hkm
  generalize hT : run W rows0 [] ls = target at q
  have fin : ∀ (b : Bool) (m : Mem), target = b → M.restr m = M → Q (.d (.bl b)) (M.restr m) := fun b m hb hm => by
    rw [hm]
    rw [hb] at q
    exact q
  have lz1 : ∀ n : Nat, n ≤ 2000 → n < sizeLine := fun n hn => Nat.lt_of_lt_of_le (show n < 2001 by omega) (by decide)
  refine ⟨_, rfl, ?_⟩
  -- what stands ahead of each turn
  obtain ⟨J, hJ⟩ : ∃ J : List Ln → Dl.Env → Mem → Prop, J = fun r env m => ∃ (kr : Addr) (rs : List (Bool × List Int)) (marks : List (Nat × List Int)) (ended : Bool) (z6 z7 z8 z9 z10 z11 : Option Dat),
    (M.restr m = M ∧ M kr = none ∧ kr ≠ km ∧ m kr = some (.lst (rs.map encB)) ∧ m km = some (.lst (marks.map encN))) ∧
    env = [some (.int (W : Int)), some (.lst (rows0.map encR)), some (.lst (ls.map Ln.enc)), some (.cell kr), some (.cell km), some (.bl ended), z6, z7, z8, z9, z10, z11] ∧ Len W (rs.map (·.2)) ∧ (∀ q ∈ marks, q.1 ≤ rs.length ∧ q.2.length = W + 1) ∧ marks.Pairwise (fun a b => a.1 ≤ b.1) ∧
    (ended = false → run W (rs.map (·.2)) marks r = target ∧ fit W (rs.map (·.2)) marks r) ∧ (ended = true → r.isEmpty = target) ∧ (∀ l ∈ r, l ∈ ls) ∧ rs.length + r.length ≤ 1000 ∧ marks.length + r.length ≤ 1000 := ⟨_, rfl⟩
  refine for_rest (enc := Ln.enc) ls J ?_ ?_ ?_ ?_
  · subst hJ
    have e0 : rows0.map encR = (rows0.map fun r => (true, r)).map encB := by
      rw [List.map_map] <;> rfl
    have e1 : (rows0.map fun r => (true, r)).map (fun x => x.2) = rows0 := by
      rw [List.map_map]
      exact List.map_id' _
    refine ⟨kr0, rows0.map fun r => (true, r), [], false, none, none, none, none, none, none, ⟨?_, hkr0, krm0, ?_, Mem.set_same⟩, rfl, by rw [e1]; exact hL0, fun q hq => absurd hq List.not_mem_nil, .nil, fun _ => by rw [e1]; exact ⟨hT, hfit0⟩, fun z => absurd z Bool.false_ne_true, fun _ h => h, ?_, ?_⟩
    · rw [Mem.restr_set_out hMkm, Mem.restr_set_out hkr0, Mem.restr_self]
    · rw [Mem.set_ne krm0, Mem.set_same]
      exact congrArg (fun l => some (MV.lst l)) e0
    · rw [List.length_map]; omega
    · rw [List.length_nil]; omega
  · rintro r env m _
    trivial
  · rintro l r env m hj
    have hj' := hj
    rw [hJ] at hj'
    obtain ⟨kr, rs, marks, ended, z6, z7, z8, z9, z10, z11, ⟨hm, hkr, krm, s1, s2⟩, rfl, hL, hM, hP, hrun, hend, hmem, hrl, hml⟩ := hj'
    have hl := hok l (hmem l List.mem_cons_self)
    have mem' : ∀ x ∈ r, x ∈ ls := fun x hx => hmem x (List.mem_cons_of_mem _ hx)
    rw [List.length_cons] at hrl hml
    -- a row of data is appended
    have app : ∀ (z : Dl.Env → Mem → Prop) (kr : Addr) (rs : List (Bool × List Int)) (marks : List (Nat × List Int)) (ended : Bool) (m : Mem) (z8 z9 z10 z11 : Option Dat) (x : Bool × List Int), M.restr m = M → M kr = none → kr ≠ km → m kr = some (.lst (rs.map encB)) → m km = some (.lst (marks.map encN)) → Len W (rs.map (·.2)) → x.2.length = W + 1 →
        (∀ q ∈ marks, q.1 ≤ rs.length + 1 ∧ q.2.length = W + 1) → marks.Pairwise (fun a b => a.1 ≤ b.1) → (ended = false → run W (rs.map (·.2) ++ [x.2]) marks r = target ∧ fit W (rs.map (·.2) ++ [x.2]) marks r) → (ended = true → r.isEmpty = target) → rs.length + 1 + r.length ≤ 1000 → marks.length + r.length ≤ 1000 →
        takes3 ⟨J r, (enD M Q).rt, z, J r⟩ [some (.int (W : Int)), some (.lst (rows0.map encR)), some (.lst (ls.map Ln.enc)), some (.cell kr), some (.cell km), some (.bl ended), some l.enc, some (encB x), z8, z9, z10, z11] m := by
      intro z kr rs marks ended m z8 z9 z10 z11 x hm hkr krm s1 s2 hL hx hM hP hrun hend hrl hml
      have en : isNo (.d (encB x)) = false := by unfold encB; split <;> rfl
      have eh : ∀ (P : Rv → Mem → Prop) (m' : Mem), P (.d (encB x)) m' → dHoldM (dVar 7) [some (.int (W : Int)), some (.lst (rows0.map encR)), some (.lst (ls.map Ln.enc)), some (.cell kr), some (.cell km), some (.bl ended), some l.enc, some (encB x), z8, z9, z10, z11] m' P := by
        intro P m' hP
        obtain ⟨b, t⟩ := x
        cases b <;> exact hP
      refine ⟨rfl, ifF (c := false != isNo (.d (encB x))) (by rw [en] <;> rfl) ?_⟩
      refine ⟨kr, _, rfl, s1, ?_⟩
      refine eh _ m ⟨_, s1, lz1 _ (by rw [List.length_map]; omega), ?_⟩
      show J r _ _
      rw [hJ]
      refine ⟨kr, rs ++ [x], marks, ended, _, _, _, _, _, _, ⟨by rw [Mem.restr_set_out hkr, hm], hkr, krm, ?_, (Mem.set_ne krm.symm).trans s2⟩, rfl, ?_, ?_, hP, ?_, hend, mem', ?_, hml⟩
      · rw [Mem.set_same, List.map_append] <;> rfl
      · rw [List.map_append]
        intro y hy
        rcases List.mem_append.mp hy with k | k
        · exact hL y k
        · rw [List.mem_singleton.mp k]
          exact hx
      · intro y hy
        have := hM y hy
        rw [List.length_append]
        exact ⟨by show _ ≤ _ + 1; omega, this.2⟩
      · intro k
        rw [List.map_append]
        exact hrun k
      · rw [List.length_append]
        show _ + 1 + _ ≤ _
        omega
    cases ended with
    | true =>
      have ht := hend rfl
      exact ⟨rfl, fin false m ht.symm hm⟩
    | false =>
      obtain ⟨hrun, hfit⟩ := hrun rfl
      by_cases w1 : l.w = "sum"
      · obtain ⟨d, ps, rfl⟩ := kind_sum hl w1
        rw [run_sum] at hrun
        obtain ⟨f1, f2, f3, f4⟩ := fit_sum hfit
        refine ⟨0, _, _, rfl, rfl, rfl, ?_⟩
        refine ⟨W, rs, _, "sum", d, ps, rfl, s1, hL, hW, f1, f2, f3, ?_⟩
        refine ⟨0, _, _, rfl, rfl, rfl, ?_⟩
        refine ⟨0, _, _, rfl, rfl, rfl, ?_⟩
        cases hS : sumRow W (rs.map (·.2)) d ps with
        | none =>
          rw [hS] at hrun
          exact ⟨rfl, fin false m hrun.symm hm⟩
        | some t =>
          rw [hS] at hrun
          refine app _ kr rs marks false m _ _ _ _ (true, t) hm hkr krm s1 s2 hL ?_ (fun q hq => ⟨by have := (hM q hq).1; omega, (hM q hq).2⟩) hP (fun _ => ⟨hrun, f4 t hS⟩) (fun z => absurd z Bool.false_ne_true) (by omega) (by omega)
          show t.length = W + 1
          unfold sumRow at hS
          split at hS
          · cases hS
          · split at hS
            · rename_i hall
              split at hS
              · have e := Option.some.inj hS
                rw [← e, List.length_map]
                exact comb_len _ _ List.length_replicate (pick_ok hL hall)
              · cases hS
            · cases hS
      by_cases w2 : l.w = "split"
      · obtain ⟨t, rfl⟩ := kind_split hl w2
        rw [run_split] at hrun
        refine ⟨0, _, _, rfl, rfl, rfl, ?_⟩
        refine ⟨0, _, _, rfl, rfl, rfl, 1, _, _, rfl, rfl, rfl, _, _, rfl, rfl, ifC (c := false != decide (((iL t).length : Int) = (W : Int) + 1)) (eq_dec _ _) (fun k => ?_) (fun k => ?_)⟩
        · have ht : t.length = W + 1 := by
            have := of_decide_eq_true k
            rw [iL_len] at this
            omega
          rw [if_pos ht] at hrun
          have eN : t.map (fun y => Dat.int (-y)) = iL (t.map fun y => -y) := by
            show _ = List.map Dat.int (List.map _ t)
            rw [List.map_map] <;> rfl
          have lN : (t.map fun y : Int => -y).length = W + 1 := by rw [List.length_map, ht]
          have hat : atI (t.map (fun y => Dat.int (-y))) (W : Int) = some (.int (-(t.getD W 0))) := by
            rw [eN, at_iL (by omega), List.getElem_map, getD_of (by omega)]
          have eS : (t.map (fun y => Dat.int (-y))).set W (Dat.int (-(t.getD W 0) - 1)) = iL (spl W t) := by
            have e1 : (iL (t.map fun y => -y)).set W (Dat.int (-(t.getD W 0) - 1)) = iL ((t.map fun y => -y).set W (-(t.getD W 0) - 1)) := List.map_set.symm
            rw [eN, e1]
            refine congrArg iL ?_
            have e2 := congrArg (fun l => (l.map fun y : Int => -y).set W (-(t.getD W 0) - 1)) (split_last ht)
            refine e2.trans ?_
            unfold spl
            have l2 : ((t.take W).map fun y : Int => -y).length = W := by rw [List.length_map, List.length_take]; omega
            rw [List.map_append, List.set_append_right _ _ (by omega), l2, Nat.sub_self] <;> rfl
          refine ⟨km, _, rfl, s2, _, _, rfl, s1, 1, _, _, rfl, rfl, rfl, _, _, rfl, rfl, l2, _, s2, lz1 _ (by rw [List.length_map]; omega), ?_⟩
          refine ⟨1, _, _, rfl, rfl, rfl, _, rfl, ?_⟩
          refine lc_map (enc := Dat.int) t (fun y => .int (-y)) (lz (by omega)) ?_ (fun x hx P hP => ?_) ?_
          · trivial
          · exact hP _ rfl
          refine ⟨_, rfl, fun k2 hk2 => ?_⟩
          refine ⟨(W : Int), _, _, rfl, Mem.set_same, hat, k2, _, (W : Int), W, rfl, rfl, Mem.set_same, ixN_of (by rw [List.length_map]; omega), ?_⟩
          refine ⟨0, _, _, rfl, rfl, rfl, ?_⟩
          have k2m : k2 ≠ km := fun z => by
            subst z
            rw [Mem.set_same] at hk2
            cases hk2
          have k2r : k2 ≠ kr := fun z => by
            subst z
            rw [Mem.set_ne k2m, s1] at hk2
            cases hk2
          refine ⟨rfl, kr, rs.map encB, rfl, ?_, _, Mem.set_same, rs.map encB, ?_, lz1 _ (by rw [List.length_map]; omega), ?_⟩
          · rw [Mem.set_ne k2r.symm, Mem.set_ne k2r.symm, Mem.set_ne krm]
            exact s1
          · rw [Mem.set_set, Mem.del_set hk2, Mem.set_ne krm]
            exact s1
          rw [Mem.set_set, Mem.del_set hk2, hJ]
          refine ⟨kr, rs ++ [(false, spl W t)], marks ++ [(rs.length, t)], false, _, _, _, _, _, _, ⟨?_, hkr, krm, ?_, ?_⟩, rfl, ?_, ?_, ?_, fun _ => ?_, fun z => absurd z Bool.false_ne_true, mem', ?_, ?_⟩
          · rw [Mem.restr_set_out hkr, Mem.restr_set_out hMkm, hm]
          · rw [Mem.set_same, List.map_append]
            exact congrArg (fun l => some (MV.lst (rs.map encB ++ [Dat.lst l]))) eS
          · rw [Mem.set_ne krm.symm, Mem.set_same, List.map_append, List.length_map] <;> rfl
          · rw [List.map_append]
            intro y hy
            rcases List.mem_append.mp hy with k | k
            · exact hL y k
            · rw [List.mem_singleton.mp k]
              show ((t.take W).map _ ++ [_]).length = _
              rw [List.length_append, List.length_map, List.length_take, Nat.min_eq_left (by omega)] <;> rfl
          · intro x hx
            rw [List.length_append]
            rcases List.mem_append.mp hx with z | z
            · have := hM x z
              exact ⟨by show _ ≤ _ + 1; omega, this.2⟩
            · rw [List.mem_singleton.mp z]
              exact ⟨by show rs.length ≤ _ + 1; omega, ht⟩
          · refine List.pairwise_append.mpr ⟨hP, List.pairwise_singleton .., fun a ha b hb => ?_⟩
            rw [List.mem_singleton.mp hb]
            exact (hM a ha).1
          · have f5 := fit_split hfit ht
            rw [List.length_map] at hrun f5
            rw [List.map_append]
            exact ⟨hrun, f5⟩
          · rw [List.length_append]
            show _ + 1 + _ ≤ _
            omega
          · rw [List.length_append]
            show _ + 1 + _ ≤ _
            omega
        · have ht : ¬ t.length = W + 1 := by
            have := of_decide_eq_false k
            rw [iL_len] at this
            omega
          rw [if_neg ht] at hrun
          refine ⟨0, _, _, rfl, rfl, rfl, ?_⟩
          exact ⟨rfl, fin false m hrun.symm hm⟩
      by_cases w3 : l.w = "false"
      · obtain ⟨t, rfl⟩ := kind_fls hl w3
        rw [run_fls] at hrun
        refine ⟨0, _, _, rfl, rfl, rfl, ?_⟩
        refine ⟨0, _, _, rfl, rfl, rfl, ?_⟩
        refine ⟨0, _, _, rfl, rfl, rfl, ?_⟩
        have lrs : (rs.map (·.2)).length = rs.length := List.length_map ..
        have bad : isF W (rs.map (·.2)) t = false → Q (.d (.bl false)) (M.restr m) := fun z => by
          rw [z, if_neg Bool.false_ne_true] at hrun
          exact fin false m hrun.symm hm
        refine ⟨1, _, _, rfl, rfl, rfl, ifC (c := decide ((0 : Int) ≤ t)) rfl (fun h0 => ?_) (fun h0 => ?_)⟩
        · have h0' := of_decide_eq_true h0
          refine ⟨_, _, rfl, s1, ifC (c := decide (t < ((rs.map encB).length : Int))) rfl (fun h1 => ?_) (fun h1 => ?_)⟩
          · have h1' := of_decide_eq_true h1
            rw [List.length_map] at h1'
            obtain ⟨b, hb⟩ := encB_at (rs := rs) h0' h1'
            have hR : ((rs.map (·.2)).getD t.toNat []).length = W + 1 := hL _ (getD_mem (by omega))
            have eF : isF W (rs.map (·.2)) t = ((((rs.map (·.2)).getD t.toNat []).take W).all (fun x => decide (x = 0)) && decide (((rs.map (·.2)).getD t.toNat []).getD W 0 < 0)) := by
              unfold isF
              rw [decide_eq_true h0', decide_eq_true (by omega), Bool.true_and, Bool.true_and]
            generalize (rs.map (·.2)).getD t.toNat [] = R at hb hR eF
            have hatW : atI (iL R) (W : Int) = some (.int (R.getD W 0)) := by rw [at_iL (by omega), getD_of (by omega)]
            refine ⟨1, _, _, rfl, rfl, rfl, t, _, _, rfl, s1, hb, ?_⟩
            refine ⟨(W : Int), _, _, rfl, seq_encB (b, R), hatW, ifC (c := decide (R.getD W 0 < 0)) rfl (fun h2 => ?_) (fun h2 => ?_)⟩
            · refine ⟨by omega, by omega, ?_⟩
              rw [Int.toNat_natCast]
              refine lc_rng (fun k acc m' => m' = m ∧ acc = ((List.range k).map fun k => true != decide (R.getD k 0 = 0)).map Dat.bl) ⟨rfl, rfl⟩ (fun k acc m' hk hj => ?_) (fun acc m' hj => ?_)
              · obtain ⟨rfl, rfl⟩ := hj
                simp only [dYes, ↓reduceIte]
                rw [Int.zero_add]
                refine ⟨k, _, _, rfl, seq_encB (b, R), at_iL (show k < R.length by omega), ?_, rfl, ?_⟩
                · rw [List.length_map, List.length_map, List.length_range]
                  exact Nat.lt_of_lt_of_le (show k < 1002 by omega) (by decide)
                · rw [List.range_succ, List.map_append, List.map_append, ← getD_of (by omega)] <;> rfl
              obtain ⟨rfl, rfl⟩ := hj
              refine ⟨_, (List.range W).map fun k => true != decide (R.getD k 0 = 0), rfl, rfl, ?_⟩
              have ea : (!((List.range W).map fun k => true != decide (R.getD k 0 = 0)).any id) = (R.take W).all (fun x => decide (x = 0)) := by
                rw [all_take (by omega), List.any_map]
                have := anyz (fun k => R.getD k 0) W
                show (!(List.range W).any (fun k => true != decide (R.getD k 0 = 0))) = _
                rw [this, Bool.not_not]
              refine ifC ea (fun h3 => ?_) (fun h3 => ?_)
              · have hF : isF W (rs.map (·.2)) t = true := by rw [eF, h3, h2] <;> rfl
                rw [eF, h3, h2, Bool.and_self, if_pos rfl] at hrun
                refine ⟨Nat.zero_le _, .list (marks.map pyN), .list [], .cell s2 (py_marks _), ⟨[], rfl, .nil⟩, shaped_marks _, by decide, ?_⟩
                rcases List.eq_nil_or_concat marks with hmk | ⟨ms, q0, hmk⟩
                · subst hmk
                  exact app _ kr rs [] true m' _ _ _ _ (b, R) hm hkr krm s1 s2 hL hR (fun q hq => absurd hq List.not_mem_nil) .nil (fun z => absurd z.symm Bool.false_ne_true) (fun _ => hrun) (by omega) (by rw [List.length_nil]; omega)
                · rw [List.concat_eq_append] at hmk
                  subst hmk
                  have hq0 := hM q0 (List.mem_append_right _ List.mem_cons_self)
                  rw [List.getLast?_append, List.dropLast_concat] at hrun
                  have hrun : run W ((rs.map (·.2)).take q0.1 ++ [q0.2]) ms r = target := hrun
                  have e5 : (false != PyData.eqv (.list ((ms ++ [q0]).map pyN)) (.list [])) = false := by rw [eqv_marks]; cases ms <;> rfl
                  have ea : (ms ++ [q0]).map encN = ms.map encN ++ [encN q0] := by rw [List.map_append] <;> rfl
                  refine ifT (c := !(false != PyData.eqv (.list ((ms ++ [q0]).map pyN)) (.list []))) (by rw [e5] <;> rfl) ?_
                  refine ⟨km, _, encN q0, rfl, s2, ?_, ?_⟩
                  · rw [ea, List.length_append]
                    show (ms.map encN ++ [encN q0])[(ms.map encN).length + 1 - 1]? = _
                    rw [Nat.add_sub_cancel, List.getElem?_append_right (Nat.le_refl _), Nat.sub_self] <;> rfl
                  refine ⟨0, _, _, rfl, rfl, rfl, _, (Mem.set_ne krm).trans s1, _, rfl, fun k2 hk2 => ?_⟩
                  have k2m : k2 ≠ km := fun z => by
                    subst z
                    rw [Mem.set_same] at hk2
                    cases hk2
                  have hm2 : M.restr (m'.set km (.lst ((ms ++ [q0]).map encN).dropLast)) = M := by rw [Mem.restr_set_out hMkm, hm]
                  have hMk2 := restr_none hm2 hk2
                  refine ⟨1, _, _, rfl, rfl, rfl, ?_⟩
                  refine app _ k2 (rs.take q0.1) ms _ _ _ _ _ _ (false, q0.2) (by rw [Mem.restr_set_out hMk2, hm2]) hMk2 k2m ?_ ?_ ?_ hq0.2 ?_ (List.pairwise_append.mp hP).1 (fun _ => ?_) (fun z => absurd (e5.symm.trans z) Bool.false_ne_true) ?_ ?_
                  · rw [Mem.set_same]
                    have e6 : cut (rs.map encB) none (some (q0.1 : Int)) = (rs.take q0.1).map encB := by rw [cut_to, List.map_take]
                    exact congrArg (fun l => some (MV.lst l)) e6
                  · rw [Mem.set_ne k2m.symm, Mem.set_same, ea, List.dropLast_concat]
                  · rw [List.map_take]
                    exact fun y hy => hL y (List.mem_of_mem_take hy)
                  · intro x hx
                    have h1 := (List.pairwise_append.mp hP).2.2 x hx q0 List.mem_cons_self
                    have h2 := hM x (List.mem_append_left _ hx)
                    rw [List.length_take]
                    exact ⟨by omega, h2.2⟩
                  · rw [List.map_take]
                    exact ⟨hrun, fit_fls hfit hF⟩
                  · rw [List.length_take]
                    omega
                  · rw [List.length_append] at hml
                    omega
              · refine ⟨rfl, bad ?_⟩
                rw [eF, h3, Bool.false_and]
            · refine ⟨rfl, bad ?_⟩
              rw [eF, h2, Bool.and_false]
          · have h1' := of_decide_eq_false h1
            rw [List.length_map] at h1'
            refine ⟨rfl, bad ?_⟩
            unfold isF
            rw [decide_eq_false (show ¬ t < ((rs.map (·.2)).length : Int) by omega), Bool.false_and, Bool.and_false]
        · have h0' := of_decide_eq_false h0
          refine ⟨rfl, bad ?_⟩
          unfold isF
          rw [decide_eq_false h0', Bool.false_and]
      · have hb := kind_bad w1 w2 w3
        rw [run_bad hb] at hrun
        refine ⟨0, _, _, rfl, rfl, enc_0 l, ifF ((str_dec l.w "sum").trans (decide_eq_false w1)) ?_⟩
        refine ⟨0, _, _, rfl, rfl, enc_0 l, ifF ((str_dec l.w "split").trans (decide_eq_false w2)) ?_⟩
        refine ⟨0, _, _, rfl, rfl, enc_0 l, ifF ((str_dec l.w "false").trans (decide_eq_false w3)) ?_⟩
        exact ⟨rfl, fin false m hrun.symm hm⟩
  · rintro env m hj
    rw [hJ] at hj
    obtain ⟨kr, rs, marks, ended, z6, z7, z8, z9, z10, z11, ⟨hm, hkr, krm, s1, s2⟩, rfl, hL, hM, hP, hrun, hend, hmem, hrl, hml⟩ := hj
    cases ended with
    | true => exact fin true m (hend rfl).symm hm
    | false => exact fin false m (hrun rfl).1.symm hm
end Lw
set_option Elab.async false
set_option linter.all false
set_option maxRecDepth 100000
set_option maxHeartbeats 4000000
namespace Lw
open PySem PySem.Spec PyProof.Rows L2 Dl
/-! ### what repr shows of lines -/
theorem py_P {M : Mem} (p : Int × Int) : PyOf M (encP p) (pyP p) := .tup (.cons (.int _) (.cons (.int _) .nil))
theorem py_L {M : Mem} (l : Ln) : PyOf M l.enc (pyL l) := by
  obtain ⟨w, b⟩ := l
  cases b with
  | sum d ps => exact .tup (.cons (.str _) (.cons (.int _) (.cons (.tup (PyOfA.map py_P ps)) .nil)))
  | split r => exact .tup (.cons (.str _) (.cons (.tup (PyOfA.ints M r)) .nil))
  | fls i => exact .tup (.cons (.str _) (.cons (.int _) .nil))
theorem py_Ls {M : Mem} (ls : List Ln) : PyOfA M (ls.map Ln.enc) (ls.map pyL) := PyOfA.map py_L ls
structure Ok5 (n k : Nat) (ps : List PyData) : Prop where
  sh : PyData.showableAll ps = true
  nd : PyData.hasDictAll ps = false
  cl : PyData.canLayAll0 ps = true
  lv : PyData.leavesShortAll 42 ps = true
  bk : PyData.bulkAll ps ≤ n
  dp : PyData.depthAll ps ≤ k
structure Ok1 (n k : Nat) (p : PyData) : Prop where
  sh : PyData.showable p = true
  nd : PyData.hasDict p = false
  cl : PyData.canLay0 p = true
  lv : PyData.leavesShort 42 p = true
  bk : PyData.bulk p ≤ n
  dp : PyData.depth p ≤ k
theorem Ok5.nil : Ok5 0 0 [] := ⟨rfl, rfl, rfl, rfl, Nat.zero_le _, Nat.zero_le _⟩
theorem Ok5.cons {n m k : Nat} {p : PyData} {ps : List PyData} (h : Ok1 n k p) (g : Ok5 m k ps) : Ok5 (n + m + 1) k (p :: ps) := by
  constructor
  · simp only [PyData.showableAll, h.sh, g.sh, Bool.and_self]
  · simp only [PyData.hasDictAll, h.nd, g.nd, Bool.or_self]
  · simp only [PyData.canLayAll0, h.cl, g.cl, Bool.and_self]
  · simp only [PyData.leavesShortAll, h.lv, g.lv, Bool.and_self]
  · have := h.bk
    have := g.bk
    simp only [PyData.bulkAll]
    omega
  · have := h.dp
    have := g.dp
    simp only [PyData.depthAll]
    omega
theorem Ok5.tup {n k : Nat} {ps : List PyData} (g : Ok5 n k ps) : Ok1 (n + 1) (k + 1) (.tuple ps) := by
  constructor
  · simp only [PyData.showable, g.sh]
  · simp only [PyData.hasDict, g.nd]
  · simp only [PyData.canLay0, g.cl]
  · simp only [PyData.leavesShort, g.lv]
  · have := g.bk
    simp only [PyData.bulk]
    omega
  · have := g.dp
    simp only [PyData.depth]
    omega
theorem Ok5.lst {n k : Nat} {ps : List PyData} (g : Ok5 n k ps) : Ok1 (n + 1) (k + 1) (.list ps) := by
  constructor
  · simp only [PyData.showable, g.sh]
  · simp only [PyData.hasDict, g.nd]
  · simp only [PyData.canLay0, g.cl]
  · simp only [PyData.leavesShort, g.lv]
  · have := g.bk
    simp only [PyData.bulk]
    omega
  · have := g.dp
    simp only [PyData.depth]
    omega
theorem Ok5.up {n n2 k k2 : Nat} {ps : List PyData} (g : Ok5 n k ps) (h : n ≤ n2) (h2 : k ≤ k2) : Ok5 n2 k2 ps := ⟨g.sh, g.nd, g.cl, g.lv, Nat.le_trans g.bk h, Nat.le_trans g.dp h2⟩
theorem Ok1.up {n n2 k k2 : Nat} {ps : PyData} (g : Ok1 n k ps) (h : n ≤ n2) (h2 : k ≤ k2) : Ok1 n2 k2 ps := ⟨g.sh, g.nd, g.cl, g.lv, Nat.le_trans g.bk h, Nat.le_trans g.dp h2⟩
theorem ok1_int {i : Int} (h : -B40 ≤ i ∧ i ≤ B40) : Ok1 0 0 (.int i) := by
  constructor
  · simp only [PyData.showable]
    exact decide_eq_true (show_int_log h)
  · rfl
  · rfl
  · simp only [PyData.leavesShort]
    exact decide_eq_true (shown_int_len h)
  · exact Nat.le_refl _
  · exact Nat.le_refl _
theorem ok5_ints {r : List Int} (h : Sm B40 r) : Ok5 r.length 0 (r.map PyData.int) := ⟨ints_sh h, ints_nd r, canLay_ints r, ints_lv h, Nat.le_of_eq (ints_bk r), Nat.le_of_eq (depth_ints r)⟩
theorem ok5_all {α : Type} {n k : Nat} {f : α → PyData} : ∀ {xs : List α}, (∀ x ∈ xs, Ok1 n k (f x)) → Ok5 ((n + 1) * xs.length) k (xs.map f)
  | [], _ => Ok5.nil.up (Nat.zero_le _) (Nat.zero_le _)
  | x :: xs, h => (Ok5.cons (h x List.mem_cons_self) (ok5_all fun y hy => h y (List.mem_cons_of_mem _ hy))).up (by rw [List.length_cons, Nat.mul_add, Nat.mul_one]; omega) (Nat.le_refl _)
theorem Ok1.shows {n k : Nat} {p : PyData} (h : Ok1 n k p) (hn : n ≤ 300000) (hk : k ≤ 60) : Shows p := by
  refine ⟨h.sh, Nat.le_trans h.dp hk, h.nd, ?_⟩
  have h6 := PyData.shown_le_bulk 42 (by decide) _ h.lv
  have h7 : (42 + 2) * PyData.bulk p ≤ 44 * 300000 := Nat.mul_le_mul (by decide) (Nat.le_trans h.bk hn)
  exact Nat.le_trans (by omega) (show 44 * 300000 + 42 ≤ sizeLine by decide)
theorem Ok1.shaped {n k : Nat} {p : PyData} (h : Ok1 n k p) (hk : k ≤ 20) : SeqAt.shaped p = true := by
  unfold SeqAt.shaped
  rw [h.cl, decide_eq_true (Nat.le_trans h.dp (show k ≤ _ by omega))] <;> rfl
end Lw
set_option Elab.async false
set_option linter.all false
set_option maxRecDepth 100000
set_option maxHeartbeats 4000000
namespace Lw
open PySem PySem.Spec PyProof.Rows L2 Dl
/-! ### small numbers keep fitting -/
def Bt (n : Nat) (r : List Int) : Prop := ∀ x ∈ r, x.natAbs < 2 ^ n
theorem Bt.up {n m : Nat} {r : List Int} (h : Bt n r) (hm : n ≤ m) : Bt m r := fun x hx => Nat.lt_of_lt_of_le (h x hx) (Nat.pow_le_pow_right (by decide) hm)
def Ln.bits (f : Nat) (l : Ln) : Prop := match l.b with
  | .sum d ps => ps.length ≤ 100 ∧ d.natAbs < 2 ^ f ∧ ∀ p ∈ ps, p.2.natAbs < 2 ^ f
  | .split r => Bt f r
  | .fls _ => True
theorem addR_mem {t r : List Int} {f x : Int} (h : x ∈ addR t f r) : ∃ a ∈ t, ∃ b ∈ r, x = a + f * b := by
  unfold addR at h
  obtain ⟨y, hy, rfl⟩ := List.mem_map.mp h
  obtain ⟨h1, h2⟩ := List.of_mem_zip (show (y.1, y.2) ∈ t.zip r from hy)
  exact ⟨y.1, h1, y.2, h2, rfl⟩
theorem foldl_bits {B : Nat} : ∀ (qs : List (Int × List Int)) (t : List Int) (A : Nat), (∀ x ∈ t, x.natAbs ≤ A) → (∀ q ∈ qs, ∀ x ∈ q.2, (q.1 * x).natAbs ≤ B) → ∀ x ∈ qs.foldl (fun t q => addR t q.1 q.2) t, x.natAbs ≤ A + qs.length * B
  | [], t, A, h, _ => fun x hx => by
    have := h x hx
    rw [List.length_nil, Nat.zero_mul]
    omega
  | q :: qs, t, A, h, g => fun x hx => by
    have := foldl_bits qs (addR t q.1 q.2) (A + B) (fun y hy => by
      obtain ⟨a, ha, b, hb, rfl⟩ := addR_mem hy
      have h1 := h a ha
      have h2 := g q List.mem_cons_self b hb
      omega) (fun p hp => g p (List.mem_cons_of_mem _ hp)) x hx
    rw [List.length_cons, Nat.succ_mul]
    omega
theorem natAbs_div {x d : Int} (hd : 1 ≤ d) : (x / d).natAbs ≤ x.natAbs := by
  by_cases h : 0 ≤ x
  · have h1 := Int.ediv_nonneg h (show 0 ≤ d by omega)
    have h2 := Int.ediv_le_self d h
    omega
  · have h1 : x / d < 0 := Int.ediv_neg_of_neg_of_pos (by omega) (by omega)
    have h2 : x ≤ x / d := (Int.le_ediv_iff_mul_le (by omega)).mpr (by
      have := Int.mul_le_mul_of_nonpos_left (a := x) (b := d) (c := 1) (by omega) hd
      omega)
    omega
theorem log_bits {d : Int} {f : Nat} (h : d.natAbs < 2 ^ f) (hf : f ≤ 8000) : d.natAbs.log2 < 9000 := by
  by_cases z : d.natAbs = 0
  · rw [z]
    exact (by decide : Nat.log2 0 < 9000)
  · exact Nat.lt_of_lt_of_le ((Nat.log2_lt z).mpr h) (by omega)
theorem sumRow_bits {W f n : Nat} {rows : List (List Int)} {d : Int} {ps : List (Int × Int)} {r : List Int} (hr : ∀ r ∈ rows, Bt n r) (hl : ps.length ≤ 100) (hp : ∀ p ∈ ps, p.2.natAbs < 2 ^ f) (h : sumRow W rows d ps = some r) : Bt (n + f + 8) r := by
  unfold sumRow at h
  split at h
  · cases h
  rename_i hd
  split at h
  rotate_left
  · cases h
  rename_i hall
  split at h
  rotate_left
  · cases h
  have hd1 : 1 ≤ d := by
    have : ¬ d < 1 := fun z => hd (Or.inl z)
    omega
  have e := Option.some.inj h
  intro x hx
  rw [← e] at hx
  obtain ⟨y, hy, rfl⟩ := List.mem_map.mp hx
  have h1 := natAbs_div (x := y) hd1
  have h2 := foldl_bits (B := 2 ^ (f + n)) (pick rows ps) (List.replicate (W + 1) 0) 0 (fun z hz => by rw [List.eq_of_mem_replicate hz]; decide) (fun q hq z hz => by
    obtain ⟨p, hp', rfl⟩ := List.mem_map.mp hq
    obtain ⟨h0, h1, _⟩ := okP_of (List.all_eq_true.mp hall p hp')
    have b1 := hp p hp'
    have b2 := hr _ (getD_mem (by omega)) z hz
    rw [Int.natAbs_mul, Nat.pow_add]
    exact Nat.mul_le_mul (Nat.le_of_lt b1) (Nat.le_of_lt b2)) y hy
  have h3 : (pick rows ps).length ≤ 100 := by rw [show (pick rows ps).length = ps.length from List.length_map ..]; exact hl
  have h4 : (pick rows ps).length * 2 ^ (f + n) ≤ 100 * 2 ^ (f + n) := Nat.mul_le_mul_right _ h3
  have h5 : (2 : Nat) ^ (n + f + 8) = 256 * 2 ^ (f + n) := by
    rw [Nat.pow_add, Nat.mul_comm, Nat.add_comm n f]
  have h6 : 0 < (2 : Nat) ^ (f + n) := Nat.pow_pos (by decide)
  rw [h5]
  omega
theorem spl_bits {W f : Nat} {r : List Int} (h : Bt f r) (hr : r.length = W + 1) : Bt (f + 1) (spl W r) := fun x hx => by
  have h2 : (2 : Nat) ^ (f + 1) = 2 * 2 ^ f := by rw [Nat.pow_succ, Nat.mul_comm]
  have h6 : 0 < (2 : Nat) ^ f := Nat.pow_pos (by decide)
  unfold spl at hx
  rcases List.mem_append.mp hx with z | z
  · obtain ⟨y, hy, rfl⟩ := List.mem_map.mp z
    have := h y (List.mem_of_mem_take hy)
    omega
  · rw [List.mem_singleton.mp z]
    have hm : r.getD W 0 ∈ r := by
      rw [List.getD_eq_getElem?_getD, List.getElem?_eq_getElem (by omega)]
      exact List.getElem_mem _
    have := h _ hm
    omega
theorem fit_bits {W f : Nat} (hf : f ≤ 8000) : ∀ (ls : List Ln) (rows : List (List Int)) (marks : List (Nat × List Int)) (n : Nat), f ≤ n → (∀ r ∈ rows, Bt n r) → (∀ q ∈ marks, Bt n q.2) → (∀ l ∈ ls, l.bits f) → n + ls.length * (f + 8) ≤ 100000000 → fit W rows marks ls
  | [], rows, marks, n, _, _, _, _, _ => by rw [fit]; trivial
  | l :: ls, rows, marks, n, hn, hr, hm, hl, hz => by
    rw [List.length_cons, Nat.succ_mul] at hz
    have hl0 := hl l List.mem_cons_self
    have hls : ∀ x ∈ ls, x.bits f := fun x hx => hl x (List.mem_cons_of_mem _ hx)
    have up : ∀ r ∈ rows, Bt (n + f + 8) r := fun r h => (hr r h).up (by omega)
    have upm : ∀ q ∈ marks, Bt (n + f + 8) q.2 := fun q h => (hm q h).up (by omega)
    have sn : ∀ {rows : List (List Int)} {r : List Int}, (∀ r ∈ rows, Bt (n + f + 8) r) → Bt (n + f + 8) r → ∀ x ∈ rows ++ [r], Bt (n + f + 8) x := fun h g x hx => by
      rcases List.mem_append.mp hx with z | z
      · exact h x z
      · rw [List.mem_singleton.mp z]; exact g
    obtain ⟨w, b⟩ := l
    rw [fit]
    intro hw
    cases b with
    | sum d ps =>
      obtain ⟨h1, h2, h3⟩ : ps.length ≤ 100 ∧ d.natAbs < 2 ^ f ∧ ∀ p ∈ ps, p.2.natAbs < 2 ^ f := hl0
      refine ⟨h1, log_bits h2 hf, fun p hp r hr' x hx => Or.inr (mulx_ok (h3 p hp) (hr r hr' x hx) (by omega)), ?_⟩
      cases e : sumRow W rows d ps with
      | none => trivial
      | some r => exact fit_bits hf ls (rows ++ [r]) marks (n + f + 8) (by omega) (sn up (sumRow_bits hr h1 h3 e)) upm hls (by omega)
    | split r =>
      intro hlen
      have hb : Bt f r := hl0
      refine fit_bits hf ls _ _ (n + f + 8) (by omega) (sn up ((spl_bits hb hlen).up (by omega))) (fun q hq => ?_) hls (by omega)
      rcases List.mem_append.mp hq with z | z
      · exact upm q z
      · rw [List.mem_singleton.mp z]; exact hb.up (by omega)
    | fls i =>
      intro hi
      cases e : marks.getLast? with
      | none => trivial
      | some q =>
        have hq : q ∈ marks := List.mem_of_getLast? e
        exact fit_bits hf ls _ _ (n + f + 8) (by omega) (sn (fun x hx => up x (List.mem_of_mem_take hx)) (upm q hq)) (fun x hx => upm x (List.dropLast_subset _ hx)) hls (by omega)
end Lw
set_option Elab.async false
set_option linter.all false
set_option maxRecDepth 100000
set_option maxHeartbeats 4000000
namespace Lw
open PySem PySem.Spec PyProof.Rows L2 Dl
theorem ok_divisor (ds : List Dat) (M : Mem) (Q : Rv → Mem → Prop) (h : fs_divisor ds M Q) : rd_divisor (enD M Q) (startD N_divisor ds) M := by
  obtain ⟨W, r, e, rfl, he, hr, q⟩ := h
  have key : ∀ (ys : List Dat), ys = iL (r.take W) → ∀ (stay : Mem → Prop), stay M → ∃ Inv : Nat → Dl.Env → Mem → Prop, Inv 0 [some e, some (.int 0), none] M ∧ (∀ i env' M', i ≤ ys.length → Inv i env' M' → stay M') ∧
      (∀ i y env' M', ys[i]? = some y → Inv i env' M' → gd 2 y env' fun env'' => dSet (dCB bGcd (dCons (dVar 1) (dCons (dVar 2) (dNil)))) 1 ⟨Inv (i + 1), leave M Q, fun env m => leave M Q (.d .non) m, Inv (i + 1)⟩ env'' M') ∧ ∀ env' M', Inv ys.length env' M' → dRet (dVar 1) (enD M Q) env' M' := by
    intro ys hys stay hst
    have h := for_restE (enc := Dat.int) (xs := r.take W) (γ := gd 2) (φ := dSet (dCB bGcd (dCons (dVar 1) (dCons (dVar 2) (dNil)))) 1) (E := ⟨dRet (dVar 1) (enD M Q), leave M Q, fun _ _ => False, fun _ _ => False⟩) (env := [some e, some (.int 0), none]) (M1 := M) (stay := stay) hys
      (fun l env m => m = M ∧ ∃ (g : Int) (z : Option Dat), l.foldl (fun (g c : Int) => ((Nat.gcd g.natAbs c.natAbs : Nat) : Int)) g = gcds (r.take W) ∧ env = [some e, some (.int g), z]) ⟨rfl, 0, none, rfl, rfl⟩ (fun l env m h => by rw [h.1]; exact hst) ?_ ?_
    · obtain ⟨Inv, h1, h2, h3, h4⟩ := h
      exact ⟨Inv, h1, h2, h3, h4⟩
    · rintro x l env m ⟨rfl, g, z, hg, rfl⟩
      exact ⟨rfl, _, _, hg, rfl⟩
    · rintro env m ⟨rfl, g, z, hg, rfl⟩
      have hg : g = gcds (r.take W) := hg
      show Q (.d (.int g)) (m.restr m)
      rw [Mem.restr_self, hg]
      exact q
  rcases he with rfl | rfl
  · refine ⟨_, rfl, _, rfl, ?_⟩
    obtain ⟨Inv, h1, h2, h3, h4⟩ := key _ (cut_bl hr) (fun _ => True) trivial
    exact ⟨Inv, h1, h2, h3, h4⟩
  · refine ⟨_, rfl, ?_⟩
    obtain ⟨Inv, h1, h2, h3, h4⟩ := key _ (cut_bl hr) (fun _ => True) trivial
    exact ⟨Inv, h1, h2, h3, h4⟩
theorem abs_nat (x : Int) : (if x < 0 then -x else x) = ((x.natAbs : Nat) : Int) := by
  split <;> omega
theorem ok__law_gcd (ds : List Dat) (M : Mem) (Q : Rv → Mem → Prop) (h : fs__law_gcd ds M Q) : rd__law_gcd (enD M Q) (startD N__law_gcd ds) M := by
  obtain ⟨r, rfl, q⟩ := h
  refine ⟨_, rfl, ?_⟩
  refine for_rest (enc := Dat.int) r (fun l env m => m = M ∧ ∃ (g : Int) (z2 z3 : Option Dat), 0 ≤ g ∧ l.foldl (fun (g c : Int) => ((Nat.gcd g.natAbs c.natAbs : Nat) : Int)) g = gcds r ∧ env = [some (.lst (iL r)), some (.int g), z2, z3]) ⟨rfl, 0, none, none, Int.le_refl _, rfl, rfl⟩ (fun _ _ _ _ => trivial) ?_ ?_
  · rintro x l env m ⟨rfl, g, z2, z3, h0, hg, rfl⟩
    refine ⟨fun n env m' => m' = m ∧ ∃ a b : Nat, n = b ∧ Nat.gcd a b = Nat.gcd g.natAbs x.natAbs ∧ env = [some (.lst (iL r)), some (.int (a : Int)), some (.int x), some (.int (b : Int))], ⟨x.natAbs, rfl, g.natAbs, x.natAbs, rfl, rfl, ?_⟩, ?_⟩
    · show ([_, some (Dat.int g), _, some (Dat.int (if x < 0 then -x else x))] : List (Option Dat)) = _
      rw [abs_nat, show ((g.natAbs : Nat) : Int) = g by omega] <;> rfl
    · rintro n env m' ⟨rfl, a, b, rfl, hab, rfl⟩
      refine ifC (c := true != decide ((n : Int) = 0)) (ne_dec _ _) (fun k => ?_) (fun k => ?_)
      · have hb : 0 < n := by
          have : ¬ ((n : Int) = 0) := by simpa using k
          omega
        refine ⟨show (0 : Int) < (n : Int) by omega, a % n, Nat.mod_lt _ hb, rfl, n, a % n, rfl, ?_, ?_⟩
        · rw [← hab, Nat.gcd_comm a n, Nat.gcd_rec n a, Nat.gcd_comm]
        · show ([_, some (Dat.int (n : Int)), _, some (Dat.int ((a : Int) % (n : Int)))] : List (Option Dat)) = _
          rw [Int.natCast_emod] <;> rfl
      · have hb : n = 0 := by
          have : ((n : Int) = 0) := by simpa using k
          omega
        subst hb
        rw [Nat.gcd_zero_right] at hab
        refine ⟨rfl, (a : Int), _, _, by omega, ?_, rfl⟩
        rw [← hg, hab] <;> rfl
  · rintro env m ⟨rfl, g, z2, z3, h0, hg, rfl⟩
    have hg : g = gcds r := hg
    show Q (.d (.int g)) (m.restr m)
    rw [Mem.restr_self, hg]
    exact q
end Lw
set_option Elab.async false
set_option linter.all false
set_option maxRecDepth 100000
set_option maxHeartbeats 4000000
namespace Lw
open PySem PySem.Spec PyProof.Rows L2 Dl
theorem lel {n m : Nat} (h : Nat.ble n m = true) : n ≤ m := Nat.le_of_ble_eq_true h
theorem mul_b {A B a b : Int} (hA : 0 ≤ A) (h1 : -A ≤ a ∧ a ≤ A) (h2 : -B ≤ b ∧ b ≤ B) : -(A * B) ≤ a * b ∧ a * b ≤ A * B := by
  have e : (a * b).natAbs ≤ (A * B).natAbs := by
    rw [Int.natAbs_mul, Int.natAbs_mul]
    exact Nat.mul_le_mul (by omega) (by omega)
  have p : 0 ≤ A * B := Int.mul_nonneg hA (by omega)
  omega
theorem ok__law_noise (ds : List Dat) (M : Mem) (Q : Rv → Mem → Prop) (h : fs__law_noise ds M Q) : rd__law_noise (enD M Q) (startD N__law_noise ds) M := by
  obtain ⟨p, w, t, rfl, hp, hw, q⟩ := h
  refine ⟨p, 3, rfl, hp, by decide, by decide, fun v1 M1 _ _ hM1 => ⟨show (0 : Int) < 3 by decide, ?_⟩⟩
  have hk := modb (v1 + t) 3 (by decide)
  refine ⟨p, 6, rfl, hM1.at, by decide, by decide, fun v2 M2 m1 m2 hM2 => ?_⟩
  have hM2 := hM1.trans hM2
  refine ⟨by omega, by omega, ?_⟩
  rw [Int.toNat_natCast]
  refine lc_numbers hM2 (by omega) (fun i M' P hP k => ?_) (fun r M3 hr hrs hM3 => ?_)
  · exact ⟨p, 3, _, rfl, hP, by decide, by decide, fun v M2 a b c => k v M2 (by omega) (by omega) c⟩
  refine ⟨p, 9, _, rfl, hM3.at, by decide, by decide, fun c M4 c1 c2 hM4 => ?_⟩
  have hM4 := hM3.trans hM4
  have gd : ∀ k : Kd, k.ok → Q (.d (Cd.enc ⟨k, r, c⟩)) (M.restr M4) := fun k hk => by
    rw [hM4.restr hp]
    exact q ⟨k, r, c⟩ M4 ⟨hr, fun z hz => by have := hrs z hz; omega, by show -1000 ≤ c; omega, by show c ≤ 1000; omega, hk⟩ hM4
  have er : iL r ++ [Dat.int c] = iL (r ++ [c]) := by rw [iL_app] <;> rfl
  refine ⟨l1, _, _, rfl, rfl, ?_, _, _, rfl, rfl, ?_⟩
  · rw [iL_len]
    exact lz (by show _ + 1 ≤ _; omega)
  refine ifC (c := false != decide ((v1 + t) % 3 = 2)) (eq_dec _ _) (fun hd => ⟨l3, ?_⟩) (fun hd => ?_)
  · show Q (.d (.tup [.str "div", .int (2 + v2), .tup (iL r ++ [.int c])])) (M.restr M4)
    rw [er]
    exact gd (.div _) ⟨by omega, by omega⟩
  · have hne : (v1 + t) % 3 ≠ 2 := of_decide_eq_false hd
    have two : (v1 + t) % 3 = 0 ∨ (v1 + t) % 3 = 1 := by omega
    refine ⟨l2, (v1 + t) % 3, [.str "ge", .str "eq"], .str (if (v1 + t) % 3 = 0 then "ge" else "eq"), rfl, rfl, ?_, l2, ?_⟩
    · rcases two with z | z <;> rw [z] <;> rfl
    show Q (.d (.tup [.str (if (v1 + t) % 3 = 0 then "ge" else "eq"), .tup (iL r ++ [.int c])])) (M.restr M4)
    rw [er]
    rcases two with z | z
    · rw [if_pos z]
      exact gd .ge trivial
    · rw [if_neg (by omega)]
      exact gd .eq trivial
theorem sl_mk {d : Int} {ps : List (Int × Int)} {k m : Nat} (hd : -5000 ≤ d ∧ d ≤ 5000) (hl : ps.length = k) (hk : k ≤ m) (hp : ∀ p ∈ ps, (-5000 ≤ p.1 ∧ p.1 ≤ 5000) ∧ -5000 ≤ p.2 ∧ p.2 ≤ 5000) : Sl m ⟨"sum", .sum d ps⟩ := ⟨_, _, _, rfl, Or.inl rfl, hd, by omega, hp⟩
theorem sl_1 {d a b : Int} (hd : -5000 ≤ d ∧ d ≤ 5000) (ha : -5000 ≤ a ∧ a ≤ 5000) (hb : -5000 ≤ b ∧ b ≤ 5000) : Sl 3 ⟨"sum", .sum d [(a, b)]⟩ := sl_mk (k := 1) hd rfl (by decide) fun p hp => by
  rw [List.mem_singleton.mp hp]
  exact ⟨ha, hb⟩
theorem sl_2 {d a b a' b' : Int} (hd : -5000 ≤ d ∧ d ≤ 5000) (ha : -5000 ≤ a ∧ a ≤ 5000) (hb : -5000 ≤ b ∧ b ≤ 5000) (ha' : -5000 ≤ a' ∧ a' ≤ 5000) (hb' : -5000 ≤ b' ∧ b' ≤ 5000) : Sl 3 ⟨"sum", .sum d [(a, b), (a', b')]⟩ := sl_mk (k := 2) hd rfl (by decide) fun p hp => by
  rcases List.mem_cons.mp hp with z | z
  · rw [z]; exact ⟨ha, hb⟩
  · rw [List.mem_singleton.mp z]; exact ⟨ha', hb'⟩
theorem all1 {α : Type} {P : α → Prop} {a : α} (h : P a) : ∀ x ∈ [a], P x := fun x hx => by rw [List.mem_singleton.mp hx]; exact h
theorem allc {α : Type} {P : α → Prop} {a : α} {l : List α} (h : P a) (g : ∀ x ∈ l, P x) : ∀ x ∈ a :: l, P x := fun x hx => by
  rcases List.mem_cons.mp hx with z | z
  · rw [z]; exact h
  · exact g x z
theorem gd_row {w : Nat} {v : List Int} {k : Kd} {f c : Int} (hv : v.length = w) (hs : Sm 3 v) (hf : -100 ≤ f ∧ f ≤ 100) (hc : -10000 ≤ c ∧ c ≤ 10000) (hk : k.ok) : Gd w 10000 ⟨k, v.map fun x => f * x, c⟩ := by
  refine ⟨by show (v.map _).length = w; rw [List.length_map, hv], fun z hz => ?_, hc.1, hc.2, hk⟩
  obtain ⟨y, hy, rfl⟩ := List.mem_map.mp hz
  have := mul_b (A := 100) (B := 3) (by decide) hf (hs y hy)
  omega
theorem div_b {a q : Int} (hq : 1 ≤ q) (ha : -1000 ≤ a ∧ a ≤ 1000) : -1000 ≤ a / q ∧ a / q ≤ 1000 := by
  have := natAbs_div (x := a) hq
  omega
theorem hsz5 : ∀ k : Nat, k ≤ 10 → k < sizeLine := fun k h => Nat.lt_of_lt_of_le (show k < 11 by omega) (by decide)
theorem ok__law_pair (ds : List Dat) (M : Mem) (Q : Rv → Mem → Prop) (h : fs__law_pair ds M Q) : rd__law_pair (enD M Q) (startD N__law_pair ds) M := by
  obtain ⟨p, w, v, at_, size, rfl, hp, hw, ⟨hv, hvs, hat, hsz⟩, q⟩ := h
  refine ⟨p, 3, rfl, hp, by decide, by decide, fun a M1 a0 a1 hM1 => ?_⟩
  refine ⟨p, 3, rfl, hM1.at, by decide, by decide, fun b M2 b0 b1 hM2 => ?_⟩
  have hM2 := hM1.trans hM2
  refine ⟨p, 9, 2, rfl, hM2.at, by decide, by decide, fun c M3 c0 c1 hM3 => ?_⟩
  have hM3 := hM2.trans hM3
  have ac := mul_b (A := 3) (B := 9) (a := 1 + a) (b := c) (by decide) (by omega) ⟨c0, c1⟩
  have dv := div_b (a := (1 + a) * c) (q := 1 + b) (by omega) (by omega)
  refine ⟨cmul_l (b := 3) (by omega) (by decide), ⟨show 0 < 1 + b by omega, log_ok (by omega) (by omega)⟩, p, 4, rfl, hM3.at, by decide, by decide, fun t M4 t0 t1 hM4 => ?_⟩
  have hM4 := hM3.trans hM4
  have tl : ∀ x : List Int, x.length ≤ 2 → (iL x).length + 1 ≤ sizeLine := fun x hx => by rw [iL_len]; exact lz (by omega)
  have lm : ∀ f : Int, (v.map fun x => f * x).length ≤ 2 := fun f => by rw [List.length_map]; omega
  refine ⟨v, 1 + b, _, rfl, rfl, by omega, by omega, by omega, l1, tl _ (lm _), l2, l1, _, rfl, fun k hk => ?_⟩
  obtain ⟨hMk, kp⟩ := (PoolTo.rel hM4 hp).fresh hp hk
  refine ⟨k, _, rfl, Mem.set_same, v, -(1 + a), _, rfl, rfl, by omega, by omega, by omega, l1, tl _ (lm _), l2, _, Mem.set_same, hsz5 1 (by decide), ?_⟩
  rw [Mem.set_set]
  obtain ⟨o, ho⟩ : ∃ o : Int, o = -((1 + a) * c / (1 + b)) - 1 + (if (false != decide (t = 3)) = true then 1 else 0) := ⟨_, rfl⟩
  have ob : -10000 ≤ o ∧ o ≤ 10000 := by
    rw [ho]
    split <;> omega
  have gs : ∀ x ∈ [Cd.mk .ge (v.map fun x => (1 + b) * x) c, Cd.mk .ge (v.map fun x => -(1 + a) * x) o], Gd w 10000 x := allc (gd_row hv hvs (by omega) (by omega) trivial) (all1 (gd_row hv hvs (by omega) ob trivial))
  have er : ∀ (f y : Int), iL (v.map fun x => f * x) ++ [Dat.int y] = iL ((v.map fun x => f * x) ++ [y]) := fun f y => by rw [iL_app] <;> rfl
  have fin : ∀ (D1 D2 : List Dat) (ls : List Ln) (m : Mem), D1 = [Dat.tup [.str "ge", .tup (iL (v.map fun x => (1 + b) * x) ++ [Dat.int c])], Dat.tup [.str "ge", .tup (iL (v.map fun x => -(1 + a) * x) ++ [Dat.int o])]] → D2 = ls.map Ln.enc → ls.length ≤ 5 → (∀ l ∈ ls, Sl 3 l) → PoolRel M p m → Q (.d (.tup [.lst D1, .lst D2])) (M.restr (m.del k)) := fun D1 D2 ls m h1 h2 h3 h4 hm => by
    rw [h1, h2, er, er]
    exact q [Cd.mk .ge (v.map fun x => (1 + b) * x) c, Cd.mk .ge (v.map fun x => -(1 + a) * x) o] ls _ (lel rfl) gs h3 h4 (hm.drop hMk kp).to
  have rel0 : ∀ y, PoolRel M p (M4.set k y) := fun y => (PoolTo.rel hM4 hp).put hMk kp
  refine ⟨p, 2, rfl, (rel0 _).at, by decide, by decide, fun u M5 u0 u1 hM5 => ?_⟩
  have rel5 := (rel0 _).step hp hM5
  have at5 : M5 k = _ := (hM5.keep kp).trans Mem.set_same
  have fin2 : ∀ (D2 : List Dat) (ls : List Ln) (m : Mem), D2 = ls.map Ln.enc → ls.length ≤ 5 → (∀ l ∈ ls, Sl 3 l) → PoolRel M p m → Q (.d (.tup [.lst [Dat.tup [.str "ge", .tup (iL (v.map fun x => (1 + b) * x) ++ [Dat.int c])], Dat.tup [.str "ge", .tup (iL (v.map fun x => -(1 + a) * x) ++ [Dat.int (-((1 + a) * c / (1 + b)) - 1 + (if (false != decide (t = 3)) = true then 1 else 0))])]], .lst D2])) (M.restr (m.del k)) := fun D2 ls m h2 h3 h4 hm => by
    rw [← ho]
    exact fin _ _ ls m rfl h2 h3 h4 hm
  refine ifC (eq_dec u 1) (fun _ => ?_) (fun _ => ?_)
  · have r6 := rel5.drop hMk kp
    refine ⟨k, _, rfl, at5, p, 3, rfl, r6.at, by decide, by decide, fun x M6 x0 x1 hM6 => ⟨l2, l2, l2, l3, l1, l2, ?_⟩⟩
    have r7 := r6.step hp hM6
    have hk6 : M6 k = none := (hM6.keep kp).trans Mem.del_same
    have ed : M6.del k = M6 := by
      funext y
      unfold Mem.del
      by_cases z : y = k
      · rw [if_pos z, z, hk6]
      · rw [if_neg z]
    have h := fin2 [Ln.enc ⟨"sum", .sum (1 + x) [(at_, 1 + a), (at_ + 1, 1 + b)]⟩] [⟨"sum", .sum (1 + x) [(at_, 1 + a), (at_ + 1, 1 + b)]⟩] M6 rfl (lel rfl) (all1 (sl_2 (by omega) (by omega) (by omega) (by omega) (by omega))) r7
    rw [ed] at h
    exact h
  · refine ⟨l2, l1, l3, l2, l1, l3, l2, k, _, rfl, at5, l2, l2, l2, l3, l1, _, _, rfl, rfl, l3, l2, ?_⟩
    exact fin2 [Ln.enc ⟨"sum", .sum (1 + b) [(at_, 1)]⟩, Ln.enc ⟨"sum", .sum (1 + a) [(at_ + 1, 1)]⟩, Ln.enc ⟨"sum", .sum 1 [(size, 1), (size + 1, 1)]⟩] [⟨"sum", .sum (1 + b) [(at_, 1)]⟩, ⟨"sum", .sum (1 + a) [(at_ + 1, 1)]⟩, ⟨"sum", .sum 1 [(size, 1), (size + 1, 1)]⟩] M5 rfl (lel rfl)
      (allc (sl_1 (by omega) (by omega) (by omega)) (allc (sl_1 (by omega) (by omega) (by omega)) (all1 (sl_2 (by omega) (by omega) (by omega) (by omega) (by omega))))) rel5
end Lw
set_option Elab.async false
set_option linter.all false
set_option maxRecDepth 100000
set_option maxHeartbeats 4000000
namespace Lw
open PySem PySem.Spec PyProof.Rows L2 Dl
theorem gd_row1 {w : Nat} {v : List Int} {k : Kd} {c : Int} (hv : v.length = w) (hs : Sm 3 v) (hc : -10000 ≤ c ∧ c ≤ 10000) (hk : k.ok) : Gd w 10000 ⟨k, v, c⟩ := ⟨hv, fun z hz => by have := hs z hz; omega, hc.1, hc.2, hk⟩
theorem ok__law_parity (ds : List Dat) (M : Mem) (Q : Rv → Mem → Prop) (h : fs__law_parity ds M Q) : rd__law_parity (enD M Q) (startD N__law_parity ds) M := by
  obtain ⟨p, w, v, at_, size, rfl, hp, hw, ⟨hv, hvs, hat, hsz⟩, q⟩ := h
  refine ⟨p, 2, rfl, hp, by decide, by decide, fun a M1 a0 a1 hM1 => ?_⟩
  refine ⟨p, 4, 1, rfl, hM1.at, by decide, by decide, fun b M2 b0 b1 hM2 => ?_⟩
  have hM2 := hM1.trans hM2
  have ab := mul_b (A := 3) (B := 4) (a := 2 + a) (b := b) (by decide) (by omega) ⟨b0, b1⟩
  refine ⟨cmul_l (b := 3) (by omega) (by decide), p, 2 + a, rfl, hM2.at, by omega, log_ok (by omega) (by omega), fun c M3 c0 c1 hM3 => ?_⟩
  have hM3 := hM2.trans hM3
  refine ⟨l2, l1, l3, l2, l1, l3, l2, _, rfl, fun k hk => ?_⟩
  obtain ⟨hMk, kp⟩ := (PoolTo.rel hM3 hp).fresh hp hk
  refine ⟨k, _, rfl, Mem.set_same, l2, l2, l2, l3, _, Mem.set_same, hsz5 2 (by decide), ?_⟩
  rw [Mem.set_set]
  have rel := (PoolTo.rel hM3 hp).put (x := .lst [Ln.enc ⟨"sum", .sum (2 + a) [(at_, 1)]⟩, Ln.enc ⟨"sum", .sum (2 + a) [(at_ + 1, 1)]⟩, Ln.enc ⟨"sum", .sum 1 [(size + 1, 1), (size, 1)]⟩]) hMk kp
  refine ⟨v, 2 + a, _, rfl, rfl, by omega, by omega, by omega, l1, ?_, l2, l1, k, _, rfl, Mem.set_same, l2, ?_⟩
  · show (iL (v.map fun x => (2 + a) * x)).length + 1 ≤ sizeLine
    rw [iL_len, List.length_map]; exact lz (by omega)
  have er : iL (v.map fun x => (2 + a) * x) ++ [Dat.int ((2 + a) * b + 1 + c)] = iL ((v.map fun x => (2 + a) * x) ++ [(2 + a) * b + 1 + c]) := by rw [iL_app] <;> rfl
  show Q (.d (.tup [.lst [.tup [.str "eq", .tup (iL (v.map fun x => (2 + a) * x) ++ [Dat.int ((2 + a) * b + 1 + c)])]], _])) (M.restr _)
  rw [er]
  exact q [Cd.mk .eq (v.map fun x => (2 + a) * x) ((2 + a) * b + 1 + c)] [⟨"sum", .sum (2 + a) [(at_, 1)]⟩, ⟨"sum", .sum (2 + a) [(at_ + 1, 1)]⟩, ⟨"sum", .sum 1 [(size + 1, 1), (size, 1)]⟩] _ (lel rfl) (all1 (gd_row hv hvs (by omega) (by omega) trivial)) (lel rfl)
    (allc (sl_1 (by omega) (by omega) (by omega)) (allc (sl_1 (by omega) (by omega) (by omega)) (all1 (sl_2 (by omega) (by omega) (by omega) (by omega) (by omega))))) (rel.drop hMk kp).to
theorem ok__law_remainder (ds : List Dat) (M : Mem) (Q : Rv → Mem → Prop) (h : fs__law_remainder ds M Q) : rd__law_remainder (enD M Q) (startD N__law_remainder ds) M := by
  obtain ⟨p, w, v, at_, size, rfl, hp, hw, ⟨hv, hvs, hat, hsz⟩, q⟩ := h
  refine ⟨p, 6, rfl, hp, by decide, by decide, fun a M1 a0 a1 hM1 => ?_⟩
  refine ⟨p, 9, 1, rfl, hM1.at, by decide, by decide, fun b M2 b0 b1 hM2 => ?_⟩
  have hM2 := hM1.trans hM2
  refine ⟨p, 2 + a, rfl, hM2.at, by omega, log_ok (by omega) (by omega), fun c M3 c0 c1 hM3 => ?_⟩
  have hM3 := hM2.trans hM3
  refine ⟨l2, l2, l2, l3, l1, _, rfl, fun k hk => ?_⟩
  obtain ⟨hMk, kp⟩ := (PoolTo.rel hM3 hp).fresh hp hk
  refine ⟨k, _, rfl, Mem.set_same, l2, l2, l2, l3, _, Mem.set_same, hsz5 1 (by decide), ?_⟩
  rw [Mem.set_set]
  refine ⟨k, _, rfl, Mem.set_same, l2, l2, l2, l3, _, Mem.set_same, hsz5 2 (by decide), ?_⟩
  rw [Mem.set_set]
  have rel := (PoolTo.rel hM3 hp).put (x := .lst [Ln.enc ⟨"sum", .sum (2 + a) [(at_, 1), (at_ + 3, 1)]⟩, Ln.enc ⟨"sum", .sum (2 + a) [(at_ + 1, 1), (at_ + 2, 1)]⟩, Ln.enc ⟨"sum", .sum 1 [(size, 1), (size + 1, 1)]⟩]) hMk kp
  have ll : (iL v).length + 1 ≤ sizeLine := by rw [iL_len]; exact lz (by omega)
  refine ⟨l1, ll, l3, l1, ll, l2, l2, k, _, rfl, Mem.set_same, l2, ?_⟩
  have er : ∀ y : Int, iL v ++ [Dat.int y] = iL (v ++ [y]) := fun y => by rw [iL_app] <;> rfl
  show Q (.d (.tup [.lst [.tup [.str "div", .int (2 + a), .tup (iL v ++ [Dat.int b])], .tup [.str "eq", .tup (iL v ++ [Dat.int (b + (1 + c))])]], _])) (M.restr _)
  rw [er, er]
  exact q [Cd.mk (.div (2 + a)) v b, Cd.mk .eq v (b + (1 + c))] [⟨"sum", .sum (2 + a) [(at_, 1), (at_ + 3, 1)]⟩, ⟨"sum", .sum (2 + a) [(at_ + 1, 1), (at_ + 2, 1)]⟩, ⟨"sum", .sum 1 [(size, 1), (size + 1, 1)]⟩] _ (lel rfl)
    (allc (gd_row1 hv hvs (by omega) ⟨by omega, by omega⟩) (all1 (gd_row1 hv hvs (by omega) trivial))) (lel rfl)
    (allc (sl_2 (by omega) (by omega) (by omega) (by omega) (by omega)) (allc (sl_2 (by omega) (by omega) (by omega) (by omega) (by omega)) (all1 (sl_2 (by omega) (by omega) (by omega) (by omega) (by omega))))) (rel.drop hMk kp).to
/-! ### the lines are gathered -/
structure Gs (M : Mem) (p k : Addr) (n : Nat) (ls : List Ln) (m : Mem) : Prop where
  rel : PoolRel M p m
  at_ : m k = some (.lst (ls.map Ln.enc))
  len : ls.length ≤ n
  ok : ∀ l ∈ ls, Sl 3 l
theorem ok__law_free (ds : List Dat) (M : Mem) (Q : Rv → Mem → Prop) (h : fs__law_free ds M Q) : rd__law_free (enD M Q) (startD N__law_free ds) M := by
  obtain ⟨p, w, size, rfl, hp, hsz, q⟩ := h
  refine ⟨Nat.zero_le _, _, rfl, fun k hk => ?_⟩
  obtain ⟨hMk, kp⟩ := (PoolTo.rel hp.refl hp).fresh hp hk
  have g0 : Gs M p k 0 [] (M.set k (.lst [])) := ⟨(PoolTo.rel hp.refl hp).put hMk kp, Mem.set_same, Nat.le_refl _, fun l h => absurd h List.not_mem_nil⟩
  refine ⟨p, 6, rfl, g0.rel.at, by decide, by decide, fun n M1 n0 n1 hM1 => ⟨by omega, by omega, ?_⟩⟩
  have g1 : Gs M p k 0 [] M1 := ⟨g0.rel.step hp hM1, (hM1.keep kp).trans g0.at_, g0.len, g0.ok⟩
  refine for_rng (fun i env m => ∃ (ls : List Ln) (z3 z4 z5 z6 z7 : Option Dat), env = [some (.cell p), some (.int size), some (.cell k), z3, z4, z5, z6, z7] ∧ Gs M p k i ls m) ⟨[], _, _, _, _, _, rfl, g1⟩ ?_ ?_
  · rintro i env m hi ⟨ls, z3, z4, z5, z6, z7, rfl, g⟩
    have hi5 : i ≤ 4 := by omega
    refine ⟨Nat.zero_le _, _, rfl, fun k2 hk2 => ?_⟩
    obtain ⟨hMk2, k2p⟩ := g.rel.fresh hp hk2
    have k12 : k ≠ k2 := fun z => by
      subst z
      rw [g.at_] at hk2
      cases hk2
    have r2 : PoolRel M p (m.set k2 (.lst [])) := g.rel.put hMk2 k2p
    refine ⟨p, 4, rfl, r2.at, by decide, by decide, fun c M2 c0 c1 hM2 => ⟨show (0 : Int) < 4 by decide, ?_⟩⟩
    have kc := modb (c + 1) 4 (by decide)
    have et : ((c + 1) % 4).toNat ≤ 3 := by omega
    refine ⟨show -(2 ^ 62) ≤ (c + 1) % 4 by omega, show (c + 1) % 4 < 2 ^ 62 by omega, ?_⟩
    have tb : ∀ i' : Nat, i' = i → ((0 : Int) + (i' : Int)) ≤ 5 := fun i' h => by omega
    refine for_rng (n := ((c + 1) % 4).toNat) (fun j env m' => ∃ (ps : List (Int × Int)) (z6 z7 : Option Dat), env = [some (.cell p), some (.int size), some (.cell k), some (.int (0 + (i : Int))), some (.int (size + (0 + (i : Int)) + 2)), some (.cell k2), z6, z7] ∧ PoolRel M p m' ∧ m' k = some (.lst (ls.map Ln.enc)) ∧ m' k2 = some (.lst (ps.map encP)) ∧
      ps.length ≤ j ∧ ∀ x ∈ ps, (-5000 ≤ x.1 ∧ x.1 ≤ 5000) ∧ -5000 ≤ x.2 ∧ x.2 ≤ 5000) ⟨[], _, _, rfl, r2.step hp hM2, (hM2.keep kp).trans ((Mem.set_ne k12).trans g.at_), (hM2.keep k2p).trans Mem.set_same, Nat.le_refl _, fun x h => absurd h List.not_mem_nil⟩ ?_ ?_
    · rintro j env m' hj ⟨ps, z6, z7, rfl, rel, s1, s2, pl, pb⟩
      have hj3 : j ≤ 2 := by omega
      refine ⟨p, size + (0 + (i : Int)) + 2, rfl, rel.at, by omega, log_ok (by omega) (by omega), fun x M3 x0 x1 hM3 => ⟨show 0 < size + (0 + (i : Int)) + 2 by omega, ?_⟩⟩
      have kx := modb (x + 1) (size + (0 + (i : Int)) + 2) (by omega)
      have rel3 := rel.step hp hM3
      have s13 := (hM3.keep kp).trans s1
      have s23 := (hM3.keep k2p).trans s2
      refine ⟨k2, _, rfl, s23, p, 5, rfl, rel3.at, by decide, by decide, fun y M4 y0 y1 hM4 => ⟨show (0 : Int) < 5 by decide, l2, ?_⟩⟩
      have ky := modb (y + 2) 5 (by decide)
      have rel4 := rel3.step hp hM4
      have s14 := (hM4.keep kp).trans s13
      have s24 := (hM4.keep k2p).trans s23
      refine ⟨_, s24, Nat.lt_of_lt_of_le (show (ps.map encP).length < 11 by rw [List.length_map]; omega) (by decide), ps ++ [((x + 1) % (size + (0 + (i : Int)) + 2) - 1, (y + 2) % 5 - 1)], _, _, rfl, rel4.put hMk2 k2p, (Mem.set_ne k12).trans s14, ?_, by rw [List.length_append]; exact Nat.succ_le_succ pl, fun z hz => ?_⟩
      · rw [Mem.set_same, List.map_append] <;> rfl
      · rcases List.mem_append.mp hz with e | e
        · exact pb z e
        · rw [List.mem_singleton.mp e]
          exact ⟨by omega, by omega⟩
    · rintro env m' ⟨ps, z6, z7, rfl, rel, s1, s2, pl, pb⟩
      have pl3 : ps.length ≤ 3 := Nat.le_trans pl et
      refine ⟨k, _, rfl, s1, p, 4, rfl, rel.at, by decide, by decide, fun x M3 x0 x1 hM3 => ⟨show (0 : Int) < 4 by decide, ?_⟩⟩
      have kx := modb (x + 1) 4 (by decide)
      have rel3 := rel.step hp hM3
      have s13 := (hM3.keep kp).trans s1
      have s23 := (hM3.keep k2p).trans s2
      refine ⟨_, _, rfl, s23, l3, _, s13, Nat.lt_of_lt_of_le (show (ls.map Ln.enc).length < 11 by rw [List.length_map]; have := g.len; omega) (by decide), ls ++ [⟨"sum", .sum ((x + 1) % 4) ps⟩], _, _, _, _, _, rfl, rel3.put hMk kp, ?_, by rw [List.length_append]; exact Nat.succ_le_succ g.len, fun l hl => ?_⟩
      · rw [Mem.set_same, List.map_append] <;> rfl
      · rcases List.mem_append.mp hl with e | e
        · exact g.ok l e
        · rw [List.mem_singleton.mp e]
          exact ⟨_, _, _, rfl, Or.inl rfl, by omega, pl3, pb⟩
  · rintro env m ⟨ls, z3, z4, z5, z6, z7, rfl, g⟩
    refine ⟨Nat.zero_le _, k, _, rfl, g.at_, l2, ?_⟩
    exact q [] ls _ (Nat.zero_le _) (fun x h => absurd h List.not_mem_nil) (by have := g.len; omega) g.ok (g.rel.drop hMk kp).to
end Lw
set_option Elab.async false
set_option linter.all false
set_option maxRecDepth 100000
set_option maxHeartbeats 4000000
namespace Lw
open PySem PySem.Spec PyProof.Rows L2 Dl
theorem lc_noises {p : Addr} {M0 M : Mem} {n k w : Nat} {ε : DE} {env : Dl.Env} {QL : List Dat → Mem → Prop} (hM : PoolTo M0 p M) (hn : n ≤ 1000)
    (step : ∀ (i : Nat) (M' : Mem) (P : Rv → Mem → Prop), PoolAt M' p → (∀ x M2, Gd w 1000 x → PoolTo M' p M2 → P (.d x.enc) M2) → ε (env.set k (some (.int (0 + i)))) M' P)
    (fin : ∀ (cs : List Cd) M', cs.length = n → (∀ x ∈ cs, Gd w 1000 x) → PoolTo M0 p M' → QL (cs.map Cd.enc) M') :
    ∃ Inv : Nat → List Dat → Mem → Prop, Inv 0 [] M ∧ (∀ i acc M', i ≤ (rngD 0 n).length → Inv i acc M' → (fun _ => True) M') ∧
      (∀ i' y acc M', (rngD 0 n)[i']? = some y → Inv i' acc M' → dYes (env.set k (some y)) M' fun b M2 => if b = true then ε (env.set k (some y)) M2 fun r M3 => acc.length < sizeLine ∧ Inv (i' + 1) (acc ++ [Dl.settle r]) M3 else Inv (i' + 1) acc M2) ∧
      ∀ acc M', Inv (rngD 0 n).length acc M' → QL acc M' := by
  refine lc_rng (fun i acc m => ∃ cs : List Cd, acc = cs.map Cd.enc ∧ cs.length = i ∧ (∀ x ∈ cs, Gd w 1000 x) ∧ PoolTo M0 p m) ⟨[], rfl, rfl, fun x hx => absurd hx List.not_mem_nil, hM⟩ (fun t acc m ht hj => ?_) fun acc m hj => ?_
  · obtain ⟨cs, rfl, hr, hs, hm⟩ := hj
    simp only [dYes, ↓reduceIte]
    refine step t m _ hm.at fun x M2 gx hp => ⟨?_, cs ++ [x], ?_, ?_, ?_, hm.trans hp⟩
    · rw [List.length_map]
      exact Nat.lt_of_lt_of_le (show cs.length < 1001 by omega) (by decide)
    · rw [List.map_append] <;> rfl
    · rw [List.length_append, hr] <;> rfl
    · intro y hy
      rcases List.mem_append.mp hy with z | z
      · exact hs y z
      · rw [List.mem_singleton.mp z]
        exact gx
  · obtain ⟨cs, rfl, hr, hs, hm⟩ := hj
    exact fin cs m hr hs hm
theorem prows_ge {n : Nat} : ∀ (r : List Cd) (s : Nat), r.length ≤ (prows n s r).length
  | [], s => Nat.zero_le _
  | x :: r, s => by
    show _ ≤ (prows1 n s x ++ prows n (nxt s x.k) r).length
    have := prows_ge (n := n) r (nxt s x.k)
    rw [List.length_append, List.length_cons]
    unfold prows1
    rw [List.length_cons]
    omega
theorem lc_numbers3 {p : Addr} {M0 M : Mem} {n k : Nat} {ε : DE} {env : Dl.Env} {QL : List Dat → Mem → Prop} (hM : PoolTo M0 p M) (hn : n ≤ 1000)
    (step : ∀ (i : Nat) (M' : Mem) (P : Rv → Mem → Prop), PoolAt M' p → (∀ v M2, -3 ≤ v → v ≤ 3 → PoolTo M' p M2 → P (.d (.int v)) M2) → ε (env.set k (some (.int (0 + i)))) M' P)
    (fin : ∀ (r : List Int) M', r.length = n → Sm 3 r → PoolTo M0 p M' → QL (iL r) M') :
    ∃ Inv : Nat → List Dat → Mem → Prop, Inv 0 [] M ∧ (∀ i acc M', i ≤ (rngD 0 n).length → Inv i acc M' → (fun _ => True) M') ∧
      (∀ i' y acc M', (rngD 0 n)[i']? = some y → Inv i' acc M' → dYes (env.set k (some y)) M' fun b M2 => if b = true then ε (env.set k (some y)) M2 fun r M3 => acc.length < sizeLine ∧ Inv (i' + 1) (acc ++ [Dl.settle r]) M3 else Inv (i' + 1) acc M2) ∧
      ∀ acc M', Inv (rngD 0 n).length acc M' → QL acc M' := by
  refine lc_rng (fun i acc m => ∃ r : List Int, acc = iL r ∧ r.length = i ∧ Sm 3 r ∧ PoolTo M0 p m) ⟨[], rfl, rfl, fun x hx => absurd hx List.not_mem_nil, hM⟩ (fun t acc m ht hj => ?_) fun acc m hj => ?_
  · obtain ⟨r, rfl, hr, hs, hm⟩ := hj
    simp only [dYes, ↓reduceIte]
    refine step t m _ hm.at fun v M2 h1 h2 hp => ⟨?_, r ++ [v], ?_, ?_, ?_, hm.trans hp⟩
    · rw [iL_len]
      exact Nat.lt_of_lt_of_le (show r.length < 1001 by omega) (by decide)
    · rw [iL_app] <;> rfl
    · rw [List.length_append, hr] <;> rfl
    · intro x hx
      rcases List.mem_append.mp hx with z | z
      · exact hs x z
      · have := List.mem_singleton.mp z
        omega
  · obtain ⟨r, rfl, hr, hs, hm⟩ := hj
    exact fin r m hr hs hm
def WQ (p : Addr) (M : Mem) (Q : Rv → Mem → Prop) : Prop := ∀ (w : Nat) (cs : List Cd) (ls : List Ln) (size : Int) M', 1 ≤ w → w ≤ 2 → cs.length ≤ 6 → (∀ x ∈ cs, Gd w 10000 x) → ls.length ≤ 5 → (∀ l ∈ ls, Sl 3 l) → (1 ≤ size ∧ size ≤ 1000) → PoolTo M p M' →
  Q (.d (.tup [.int w, .lst (cs.map Cd.enc), .lst (ls.map Ln.enc), .int size])) M'
theorem gd_up {w : Nat} {x : Cd} (h : Gd w 1000 x) : Gd w 10000 x := ⟨h.1, h.2.1, by have := h.2.2.1; omega, by have := h.2.2.2.1; omega, h.2.2.2.2⟩
theorem wt7 {p : Addr} {M : Mem} {Q : Rv → Mem → Prop} (hp : PoolAt M p) (q : WQ p M Q) {w : Nat} {v : List Int} {fr bk : List Cd} {fam : Int} {m : Mem} {z3 z4 z8 z9 z10 z11 : Option Dat} (h1 : 1 ≤ w) (h2 : w ≤ 2) (hv : v.length = w) (hvs : Sm 3 v) (hf : 0 ≤ fam ∧ fam ≤ 3)
    (hfl : fr.length ≤ 2) (hbl : bk.length ≤ 1) (hb3 : fam = 3 → 1 ≤ bk.length) (hfg : ∀ x ∈ fr, Gd w 1000 x) (hbg : ∀ x ∈ bk, Gd w 1000 x) (hm : PoolTo M p m) :
    rt7__law_world (enD M Q) [some (.cell p), some (.int (w : Int)), some (.int fam), z3, z4, some (.lst (fr.map Cd.enc)), some (.lst (bk.map Cd.enc)), some (.tup (iL v)), z8, z9, z10, z11] m := by
  have nf := nd_le fr
  have nb := nd_le bk
  have a1 := prows_len (n := nd fr) fr 0
  have a2 := prows_len (n := nd bk) bk 0
  have a3 := prows_ge (n := nd bk) bk 0
  refine ⟨w, fr, rfl, by omega, by omega, fun x hx => (hfg x hx).1, _, _, rfl, rfl, ?_⟩
  obtain ⟨at_, hat, at0⟩ : ∃ at_ : Int, at_ = (((prows (nd fr) 0 fr).map encR).length : Int) ∧ 0 ≤ at_ ∧ at_ ≤ 10 := ⟨_, rfl, by rw [List.length_map]; omega⟩
  obtain ⟨add, hadd, had0, hge⟩ : ∃ add : Int, atI [Dat.int 2, .int 2, .int 4, .int 0] fam = some (.int add) ∧ (0 ≤ add ∧ add ≤ 4) ∧ (fam ≠ 3 → 2 ≤ add) := by
    have : fam = 0 ∨ fam = 1 ∨ fam = 2 ∨ fam = 3 := by omega
    rcases this with z | z | z | z <;> subst z
    · exact ⟨2, rfl, by decide, fun _ => by decide⟩
    · exact ⟨2, rfl, by decide, fun _ => by decide⟩
    · exact ⟨4, rfl, by decide, fun _ => by decide⟩
    · exact ⟨0, rfl, by decide, fun h => absurd rfl h⟩
  refine ⟨l4, fam, _, _, rfl, rfl, hadd, w, bk, rfl, by omega, by omega, fun x hx => (hbg x hx).1, _, _, rfl, rfl, ?_⟩
  obtain ⟨bl, hbl2, bl0⟩ : ∃ bl : Int, bl = (((prows (nd bk) 0 bk).map encR).length : Int) ∧ (bk.length : Int) ≤ bl ∧ bl ≤ 10 := ⟨_, rfl, by rw [List.length_map]; omega⟩
  have fin : ∀ (at1 size : Int) (z11 : Option Dat), at1 = at_ → size = at_ + add + bl → dSeq (dIfS (dTest (dOp oEq (dVar 2) (dC (.int 0)))) (dSet (dCB fs__law_pair (dCons (dVar 0) (dCons (dVar 7) (dCons (dVar 8) (dCons (dVar 9) (dNil)))))) 10) (dIfS (dTest (dOp oEq (dVar 2) (dC (.int 1)))) (dSet (dCB fs__law_parity (dCons (dVar 0) (dCons (dVar 7) (dCons (dVar 8) (dCons (dVar 9) (dNil)))))) 10) (dIfS (dTest (dOp oEq (dVar 2) (dC (.int 2)))) (dSet (dCB fs__law_remainder (dCons (dVar 0) (dCons (dVar 7) (dCons (dVar 8) (dCons (dVar 9) (dNil)))))) 10) (dSet (dCB fs__law_free (dCons (dVar 0) (dCons (dVar 9) (dNil)))) 10))))
      (dRet (dTup (dCons (dVar 1) (dCons (dOp oAdd (dOp oAdd (dVar 5) (dOp oIx (dVar 10) (dC (.int 0)))) (dVar 6)) (dCons (dOp oIx (dVar 10) (dC (.int 1))) (dCons (dVar 9) (dNil))))))) (enD M Q) [some (.cell p), some (.int (w : Int)), some (.int fam), z3, z4, some (.lst (fr.map Cd.enc)), some (.lst (bk.map Cd.enc)), some (.tup (iL v)), some (.int at1), some (.int size), z10, z11] m := by
    intro at1 size z11 e1 e2
    have s1 : 1 ≤ size ∧ size ≤ 1000 := by
      by_cases z : fam = 3
      · have := hb3 z
        omega
      · have := hge z
        omega
    have hA : coreA w v at1 size := ⟨hv, hvs, by omega, by omega⟩
    have core : ∀ (cs : List Cd) (ls : List Ln) M', cs.length ≤ 2 → (∀ x ∈ cs, Gd w 10000 x) → ls.length ≤ 5 → (∀ l ∈ ls, Sl 3 l) → PoolTo m p M' →
        dRet (dTup (dCons (dVar 1) (dCons (dOp oAdd (dOp oAdd (dVar 5) (dOp oIx (dVar 10) (dC (.int 0)))) (dVar 6)) (dCons (dOp oIx (dVar 10) (dC (.int 1))) (dCons (dVar 9) (dNil)))))) (enD M Q) [some (.cell p), some (.int (w : Int)), some (.int fam), z3, z4, some (.lst (fr.map Cd.enc)), some (.lst (bk.map Cd.enc)), some (.tup (iL v)), some (.int at1), some (.int size), some (.tup [.lst (cs.map Cd.enc), .lst (ls.map Ln.enc)]), z11] M' := by
      intro cs ls M' h1' h2' h3' h4' hM'
      have hM' := hm.trans hM'
      refine ⟨0, _, .lst (cs.map Cd.enc), rfl, rfl, rfl, _, _, rfl, rfl, lz (by rw [List.length_map, List.length_map]; omega), _, _, rfl, rfl, lz (by rw [List.length_append, List.length_map, List.length_map, List.length_map]; omega), 1, _, .lst (ls.map Ln.enc), rfl, rfl, rfl, l4, ?_⟩
      have e : fr.map Cd.enc ++ cs.map Cd.enc ++ bk.map Cd.enc = (fr ++ cs ++ bk).map Cd.enc := by rw [List.map_append, List.map_append]
      show Q (.d (.tup [.int (w : Int), .lst (fr.map Cd.enc ++ cs.map Cd.enc ++ bk.map Cd.enc), .lst (ls.map Ln.enc), .int size])) (M.restr M')
      rw [e, hM'.restr hp]
      refine q w (fr ++ cs ++ bk) ls size M' h1 h2 (by rw [List.length_append, List.length_append]; omega) (fun x hx => ?_) h3' h4' s1 hM'
      rcases List.mem_append.mp hx with z | z
      · rcases List.mem_append.mp z with z | z
        · exact gd_up (hfg x z)
        · exact h2' x z
      · exact gd_up (hbg x z)
    refine ifC (eq_dec fam 0) (fun _ => ?_) (fun _ => ?_)
    · exact ⟨p, w, v, at1, size, rfl, hm.at, h2, hA, core⟩
    refine ifC (eq_dec fam 1) (fun _ => ?_) (fun _ => ?_)
    · exact ⟨p, w, v, at1, size, rfl, hm.at, h2, hA, core⟩
    refine ifC (eq_dec fam 2) (fun _ => ?_) (fun _ => ?_)
    · exact ⟨p, w, v, at1, size, rfl, hm.at, h2, hA, core⟩
    · exact ⟨p, w, size, rfl, hm.at, by omega, core⟩
  exact fin _ _ _ hat.symm (by rw [hat, hbl2])
theorem wt1 {p : Addr} {M : Mem} {Q : Rv → Mem → Prop} (hp : PoolAt M p) (q : WQ p M Q) {w : Nat} {wi : Int} (hwi : wi = (w : Int)) {m : Mem} {z2 z3 z4 z5 z6 z7 z8 z9 z10 z11 : Option Dat} (h1 : 1 ≤ w) (h2 : w ≤ 2) (hm : PoolTo M p m) :
    rt1__law_world (enD M Q) [some (.cell p), some (.int wi), z2, z3, z4, z5, z6, z7, z8, z9, z10, z11] m := by
  subst hwi
  refine ⟨p, 4, rfl, hm.at, by decide, by decide, fun fam M1 f0 f1 hM1 => ?_⟩
  have hM1 := hm.trans hM1
  refine ⟨p, 3, rfl, hM1.at, by decide, by decide, fun n M2 n0 n1 hM2 => ⟨show (0 : Int) < 3 by decide, ?_⟩⟩
  have hM2 := hM1.trans hM2
  have kn := modb (n + 1) 3 (by decide)
  have et : ((n + 1) % 3).toNat ≤ 2 := by omega
  refine ⟨p, 2, rfl, hM2.at, by decide, by decide, fun b M3 b0 b1 hM3 => ?_⟩
  have hM3 := hM2.trans hM3
  refine ⟨show -(2 ^ 62) ≤ (n + 1) % 3 by omega, show (n + 1) % 3 < 2 ^ 62 by omega, ?_⟩
  refine lc_noises (n := ((n + 1) % 3).toNat) (w := w) hM3 (Nat.le_trans et (by decide)) (fun i M' P hP k => ?_) (fun fr M4 hl hg hM4 => ?_)
  · exact ⟨p, w, 0 + (i : Int) + 1, rfl, hP, h2, fun x M2 a c => k x M2 a c⟩
  obtain ⟨bb, hbb⟩ : ∃ bb : Int, bb = (if (if (false != decide (fam = 3)) = true then (1 : Int) else 0) > b then (if (false != decide (fam = 3)) = true then (1 : Int) else 0) else b) := ⟨_, rfl⟩
  have bb0 : 0 ≤ bb ∧ bb ≤ 1 ∧ (fam = 3 → bb = 1) := by
    by_cases z : fam = 3
    · rw [hbb, decide_eq_true z]
      simp only [Bool.false_bne, ↓reduceIte]
      split <;> omega
    · rw [hbb, decide_eq_false z]
      simp only [Bool.false_bne, Bool.false_eq_true, ↓reduceIte]
      split <;> omega
  have key : ∀ bi : Int, bi = bb → dRng1 (dCons (dVar 4) dNil) [some (.cell p), some (.int (w : Int)), some (.int fam), some (.int ((n + 1) % 3)), some (.int bi), some (.lst (fr.map Cd.enc)), z6, z7, z8, z9, z10, z11] M4 (fun ys stay M1 => ∃ Inv : Nat → List Dat → Mem → Prop, Inv 0 [] M1 ∧ (∀ i acc M', i ≤ ys.length → Inv i acc M' → stay M') ∧
      (∀ i y acc M', ys[i]? = some y → Inv i acc M' → dYes (([some (.cell p), some (.int (w : Int)), some (.int fam), some (.int ((n + 1) % 3)), some (.int bi), some (.lst (fr.map Cd.enc)), z6, z7, z8, z9, z10, z11] : Dl.Env).set 11 (some y)) M' fun b M2 => if b = true then (dCB fs__law_noise (dCons (dVar 0) (dCons (dVar 1) (dCons (dVar 11) (dNil))))) (([some (.cell p), some (.int (w : Int)), some (.int fam), some (.int ((n + 1) % 3)), some (.int bi), some (.lst (fr.map Cd.enc)), z6, z7, z8, z9, z10, z11] : Dl.Env).set 11 (some y)) M2 fun r M3 => acc.length < sizeLine ∧ Inv (i + 1) (acc ++ [Dl.settle r]) M3 else Inv (i + 1) acc M2) ∧
      ∀ acc M', Inv ys.length acc M' → dSeq (dSet (dCB bTuple (dCons (dLc (dRng1 (dCons (dVar 1) (dNil))) 11 (dYes) (dCB fs__law_number (dCons (dVar 0) (dCons (dC (.int 3)) (dCons (dOp oAdd (dVar 11) (dC (.int 1))) (dNil)))))) (dNil))) 7) rt7__law_world (enD M Q) (([some (.cell p), some (.int (w : Int)), some (.int fam), some (.int ((n + 1) % 3)), some (.int bi), some (.lst (fr.map Cd.enc)), z6, z7, z8, z9, z10, z11] : Dl.Env).set 6 (some (.lst acc))) M') := by
    intro bi hbi
    subst hbi
    refine ⟨by omega, by omega, ?_⟩
    refine lc_noises (n := bi.toNat) (w := w) hM4 (by omega) (fun i M' P hP k => ?_) (fun bk M5 hl2 hg2 hM5 => ?_)
    · exact ⟨p, w, 0 + (i : Int), rfl, hP, h2, fun x M2 a c => k x M2 a c⟩
    refine ⟨by omega, by omega, ?_⟩
    rw [Int.toNat_natCast]
    refine lc_numbers3 hM5 (by omega) (fun i M' P hP k => ?_) (fun v M6 hv hvs hM6 => ?_)
    · exact ⟨p, 3, _, rfl, hP, by decide, by decide, fun v M2 a b c => k v M2 a b c⟩
    refine ⟨_, _, rfl, rfl, ?_⟩
    exact wt7 hp q h1 h2 hv hvs (by omega) (by omega) (by omega) (fun z => by have := bb0.2.2 z; omega) hg hg2 hM6
  exact key _ hbb.symm
theorem ok__law_world (ds : List Dat) (M : Mem) (Q : Rv → Mem → Prop) (h : fs__law_world ds M Q) : rd__law_world (enD M Q) (startD N__law_world ds) M := by
  obtain ⟨p, rfl, hp, q⟩ := h
  refine ⟨p, 2, rfl, hp, by decide, by decide, fun d M1 d0 d1 hM1 => ?_⟩
  exact wt1 hp q (w := (2 - d).toNat) (show 2 - d = _ by omega) (by omega) (by omega) hM1
end Lw
set_option Elab.async false
set_option linter.all false
set_option maxRecDepth 100000
set_option maxHeartbeats 4000000
namespace Lw
open PySem PySem.Spec PyProof.Rows L2 Dl
theorem eqv_lines (ls : List Ln) : (false != PyData.eqv (.list (ls.map pyL)) (.list [])) = ls.isEmpty := by
  cases ls <;> rfl
abbrev eL (ls : List Ln) : List Dat := ls.map Ln.enc
theorem eL_len (ls : List Ln) : (eL ls).length = ls.length := List.length_map ..
theorem ct0 (ls : List Ln) (j : Nat) : cut (eL ls) none (some (j : Int)) = eL (ls.take j) := by rw [cut_to, ← List.map_take]
theorem ct1 (ls : List Ln) (j : Nat) : cut (eL ls) none (some ((j : Int) + 1)) = eL (ls.take (j + 1)) := ct0 ls (j + 1)
theorem cd0 (ls : List Ln) (j : Nat) : cut (eL ls) (some (j : Int)) none = eL (ls.drop j) := by rw [cut_from, ← List.map_drop]
theorem cd1 (ls : List Ln) (j : Nat) : cut (eL ls) (some ((j : Int) + 1)) none = eL (ls.drop (j + 1)) := cd0 ls (j + 1)
theorem cd2 (ls : List Ln) (j : Nat) : cut (eL ls) (some ((j : Int) + 2)) none = eL (ls.drop (j + 2)) := cd0 ls (j + 2)
theorem cut_two {α : Type} {xs : List α} {i k : Nat} (h : i ≤ k) : cut xs (some (i : Int)) (some (k : Int)) = (xs.drop i).take (k - i) := by
  unfold cut
  rw [HT.sIx_nat, HT.sIx_nat]
  by_cases h1 : k ≤ xs.length
  · rw [Nat.min_eq_left h1, Nat.min_eq_left (show i ≤ xs.length by omega)]
  · by_cases h2 : i ≤ xs.length
    · rw [Nat.min_eq_right (show xs.length ≤ k by omega), Nat.min_eq_left h2, List.take_of_length_le (by rw [List.length_drop]; omega), List.take_of_length_le (by rw [List.length_drop]; omega)]
    · rw [List.drop_of_length_le (show xs.length ≤ i by omega), List.drop_of_length_le (show xs.length ≤ min i xs.length by omega), List.take_nil, List.take_nil]
theorem c12 (ls : List Ln) (j : Nat) : cut (eL ls) (some ((j : Int) + 1)) (some ((j : Int) + 2)) = eL (((ls.drop (j + 1))).take 1) := by
  have h := cut_two (xs := eL ls) (i := j + 1) (k := j + 2) (by omega)
  rw [show j + 2 - (j + 1) = 1 by omega, ← List.map_drop, ← List.map_take] at h
  exact h
theorem eL_app (a b : List Ln) : eL (a ++ b) = eL a ++ eL b := List.map_append ..
theorem log_small {n : Nat} (h : n ≤ 1000) : n.log2 < 9000 := Nat.lt_of_le_of_lt (Nat.log2_le_self n) (by omega)
def okw (w : Str) : Prop := w = "sum" ∨ w = "sums" ∨ w = "" ∨ w = "Sum" ∨ w = "split" ∨ w = "false"
theorem ok1_str {w : Str} (h : okw w) : Ok1 6 0 (.str w) := by
  have key : Ok1 6 0 (.str "sum") ∧ Ok1 6 0 (.str "sums") ∧ Ok1 6 0 (.str "") ∧ Ok1 6 0 (.str "Sum") ∧ Ok1 6 0 (.str "split") ∧ Ok1 6 0 (.str "false") := by
    refine ⟨⟨?_, ?_, ?_, ?_, ?_, ?_⟩, ⟨?_, ?_, ?_, ?_, ?_, ?_⟩, ⟨?_, ?_, ?_, ?_, ?_, ?_⟩, ⟨?_, ?_, ?_, ?_, ?_, ?_⟩, ⟨?_, ?_, ?_, ?_, ?_, ?_⟩, ⟨?_, ?_, ?_, ?_, ?_, ?_⟩⟩ <;> decide +kernel
  rcases h with k | k | k | k | k | k <;> rw [k]
  · exact key.1
  · exact key.2.1
  · exact key.2.2.1
  · exact key.2.2.2.1
  · exact key.2.2.2.2.1
  · exact key.2.2.2.2.2
/-- what a line must be like to be shown -/
def shl (l : Ln) : Prop := okw l.w ∧ (match l.b with
  | .sum d ps => (-B40 ≤ d ∧ d ≤ B40) ∧ ps.length ≤ 20 ∧ ∀ p ∈ ps, (-B40 ≤ p.1 ∧ p.1 ≤ B40) ∧ (-B40 ≤ p.2 ∧ p.2 ≤ B40)
  | .split r => Sm B40 r ∧ r.length ≤ 100
  | .fls i => -B40 ≤ i ∧ i ≤ B40)
theorem ok1_line {l : Ln} (h : shl l) : Ok1 200 3 (pyL l) := by
  obtain ⟨h, g⟩ := h
  have hw := (ok1_str h).up (Nat.le_refl _) (show 0 ≤ 2 by decide)
  obtain ⟨w, bd⟩ := l
  cases bd with
  | sum d ps =>
    obtain ⟨s1, s3, s4⟩ : (-B40 ≤ d ∧ d ≤ B40) ∧ ps.length ≤ 20 ∧ ∀ p ∈ ps, (-B40 ≤ p.1 ∧ p.1 ≤ B40) ∧ (-B40 ≤ p.2 ∧ p.2 ≤ B40) := g
    have h1 : Ok1 0 0 (.int d) := ok1_int s1
    have h2 : Ok5 ((2 + 1 + 1) * ps.length) 1 (ps.map pyP) := ok5_all fun p hp => (Ok5.tup (ok5_ints (r := [p.1, p.2]) fun x hx => by
      rcases List.mem_cons.mp hx with z | z
      · rw [z]; exact (s4 p hp).1
      · rw [List.mem_singleton.mp z]; exact (s4 p hp).2))
    exact (Ok5.tup (Ok5.cons hw (Ok5.cons (h1.up (Nat.le_refl _) (show 0 ≤ 2 by decide)) (Ok5.cons h2.tup (Ok5.nil.up (Nat.le_refl _) (show 0 ≤ 2 by decide)))))).up (by omega) (Nat.le_refl _)
  | split r =>
    obtain ⟨s1, s2⟩ : Sm B40 r ∧ r.length ≤ 100 := g
    exact (Ok5.tup (Ok5.cons hw (Ok5.cons ((Ok5.tup (ok5_ints s1)).up (Nat.le_refl _) (show 0 + 1 ≤ 2 by decide)) (Ok5.nil.up (Nat.le_refl _) (show 0 ≤ 2 by decide))))).up (by omega) (Nat.le_refl _)
  | fls i =>
    have g : -B40 ≤ i ∧ i ≤ B40 := g
    have h1 : Ok1 0 0 (.int i) := ok1_int g
    exact (Ok5.tup (Ok5.cons hw (Ok5.cons (h1.up (Nat.le_refl _) (show 0 ≤ 2 by decide)) (Ok5.nil.up (Nat.le_refl _) (show 0 ≤ 2 by decide))))).up (by omega) (Nat.le_refl _)
theorem ok1_lines {ls : List Ln} (h : ∀ l ∈ ls, shl l) : Ok1 ((200 + 1) * ls.length + 1) 4 (.list (ls.map pyL)) := (ok5_all fun l hl => ok1_line (h l hl)).lst
theorem shows_lines {ls : List Ln} (h : ∀ l ∈ ls, shl l) (hl : ls.length ≤ 1000) : Shows (.list (ls.map pyL)) := (ok1_lines h).shows (Nat.le_trans (Nat.add_le_add_right (Nat.mul_le_mul_left _ hl) _) (by decide)) (by decide)
theorem shaped_lines {ls : List Ln} (h : ∀ l ∈ ls, shl l) : SeqAt.shaped (.list (ls.map pyL)) = true := (ok1_lines h).shaped (by decide)
theorem b40 {x : Int} (h : -1000000000000000000 ≤ x ∧ x ≤ 1000000000000000000) : -B40 ≤ x ∧ x ≤ B40 := ⟨Int.le_trans (by decide) h.1, Int.le_trans h.2 (by decide)⟩
theorem Sl.shl {m : Nat} {l : Ln} (h : Sl m l) (hm : m ≤ 20) : shl l := by
  obtain ⟨w, d, ps, rfl, hw, hd, hl, hp⟩ := h
  refine ⟨?_, b40 (by omega), by omega, fun p hp' => ⟨b40 (by have := hp p hp'; omega), b40 (by have := hp p hp'; omega)⟩⟩
  rcases hw with k | k | k | k
  · exact Or.inl k
  · exact Or.inr (Or.inl k)
  · exact Or.inr (Or.inr (Or.inl k))
  · exact Or.inr (Or.inr (Or.inr (Or.inl k)))
theorem Sl.up {m n : Nat} {l : Ln} (h : Sl m l) (hm : m ≤ n) : Sl n l := by
  obtain ⟨w, d, ps, rfl, hw, hd, hl, hp⟩ := h
  exact ⟨w, d, ps, rfl, hw, hd, by omega, hp⟩
def wds (w : Str) : Prop := w = "sum" ∨ w = "sums" ∨ w = "" ∨ w = "Sum"
def pbd (ps : List (Int × Int)) : Prop := ∀ p ∈ ps, (-5000 ≤ p.1 ∧ p.1 ≤ 5000) ∧ -5000 ≤ p.2 ∧ p.2 ≤ 5000
def SQ (p : Addr) (M : Mem) (Q : Rv → Mem → Prop) (ls : List Ln) (m : Nat) : Prop := ∀ (ls' : List Ln) M', ls'.length ≤ ls.length + 1 → (∀ l ∈ ls', Sl (m + 1) l) → PoolTo M p M' → Q (.d (.lst (ls'.map Ln.enc))) M' ∧ Q (.new (.lst (ls'.map Ln.enc))) M'
abbrev eP (ps : List (Int × Int)) : List Dat := ps.map encP
theorem pt0 (ps : List (Int × Int)) (j : Nat) : cut (eP ps) none (some (j : Int)) = eP (ps.take j) := by rw [cut_to, ← List.map_take]
theorem pd1 (ps : List (Int × Int)) (j : Nat) : cut (eP ps) (some ((j : Int) + 1)) none = eP (ps.drop (j + 1)) := by
  have h := cut_from (xs := eP ps) (k := j + 1)
  rw [← List.map_drop] at h
  exact h
theorem p01 (ps : List (Int × Int)) (j : Nat) : cut (eP ps) (some (j : Int)) (some ((j : Int) + 1)) = eP ((ps.drop j).take 1) := by
  have h := cut_two (xs := eP ps) (i := j) (k := j + 1) (by omega)
  rw [show j + 1 - j = 1 by omega, ← List.map_drop, ← List.map_take] at h
  exact h
theorem st13 {p : Addr} {M : Mem} {Q : Rv → Mem → Prop} {ls : List Ln} {m : Nat} (hp : PoolAt M p) (q : SQ p M Q ls m) {size how d place factor : Int} {j k : Nat} {w : Str} {ps hs : List (Int × Int)} {z12 z13 : Option Dat} {M' : Mem}
    (hll : ls.length ≤ 100) (hsl : ∀ l ∈ ls, Sl m l) (hm10 : m ≤ 10) (hj : j < ls.length) (hw : wds w) (hd : -5000 ≤ d ∧ d ≤ 5000) (hps : pbd ps) (hhs : pbd hs) (hpl : ps.length ≤ m) (hf : -1 ≤ factor ∧ factor ≤ 3) (hlen : (ps.take k).length + hs.length + (ps.drop (k + 1)).length ≤ ps.length + 1) (hM : PoolTo M p M') :
    rt13__law_spoilt (enD M Q) [some (.cell p), some (.lst (eL ls)), some (.int size), some (.int how), some (.int (j : Int)), some (.str w), some (.int d), some (.tup (eP ps)), some (.int (k : Int)), some (.int place), some (.int factor), some (.tup (eP hs)), z12, z13] M' := by
  have tk : ∀ (k : Nat), ∀ l ∈ ls.take k, Sl (m + 1) l := fun k l h => (hsl l (List.mem_of_mem_take h)).up (by omega)
  have dr : ∀ (k : Nat), ∀ l ∈ ls.drop k, Sl (m + 1) l := fun k l h => (hsl l (List.mem_of_mem_drop h)).up (by omega)
  have app : ∀ {x y : List Ln}, (∀ l ∈ x, Sl (m + 1) l) → (∀ l ∈ y, Sl (m + 1) l) → ∀ l ∈ x ++ y, Sl (m + 1) l := fun h g l hl => (List.mem_append.mp hl).elim (h l) (g l)
  have fin : ∀ (D : List Dat) (ls' : List Ln), D = eL ls' → ls'.length ≤ ls.length + 1 → (∀ l ∈ ls', Sl (m + 1) l) → Q (.new (.lst D)) (M.restr M') := fun D ls' hD h1 h2 => by
    rw [hM.restr hp, hD]
    exact (q ls' M' h1 h2 hM).2
  have s0 : (cut (eL ls) none (some (j : Int))).length ≤ 100 := by rw [ct0, eL_len, List.length_take]; omega
  have s1 : (cut (eL ls) none (some ((j : Int) + 1))).length ≤ 100 := by rw [ct1, eL_len, List.length_take]; omega
  have t0 : (cut (eL ls) (some (j : Int)) none).length ≤ 100 := by rw [cd0, eL_len, List.length_drop]; omega
  have t1 : (cut (eL ls) (some ((j : Int) + 1)) none).length ≤ 100 := by rw [cd1, eL_len, List.length_drop]; omega
  have bp : pbd (ps.take k ++ hs ++ ps.drop (k + 1)) := fun x hx => by
    rcases List.mem_append.mp hx with z | z
    · rcases List.mem_append.mp z with z | z
      · exact hps x (List.mem_of_mem_take z)
      · exact hhs x z
    · exact hps x (List.mem_of_mem_drop z)
  have lp : (ps.take k ++ hs ++ ps.drop (k + 1)).length ≤ m + 1 := by
    rw [List.length_append, List.length_append]; omega
  have u0 : (cut (eP ps) none (some (k : Int))).length = (ps.take k).length := by rw [pt0, List.length_map]
  have u1 : (cut (eP ps) (some ((k : Int) + 1)) none).length = (ps.drop (k + 1)).length := by rw [pd1, List.length_map]
  have rest : ∀ w : Str, wds w → dSeq (dIfS (dTest (dOp oEq (dVar 3) (dC (.int 7)))) (dRet (dOp oAdd (dSl (dVar 1) (dNo) (dPart (dVar 4))) (dSl (dVar 1) (dPart (dOp oAdd (dVar 4) (dC (.int 1)))) (dNo)))) (dNext))
      (dSeq (dSet (dTup (dCons (dVar 5) (dCons (dVar 6) (dCons (dOp oAdd (dOp oAdd (dSl (dVar 7) (dNo) (dPart (dVar 8))) (dVar 11)) (dSl (dVar 7) (dPart (dOp oAdd (dVar 8) (dC (.int 1)))) (dNo))) (dNil))))) 12)
      (dSeq (dIfS (dTest (dOp oEq (dVar 3) (dC (.int 8)))) (dRet (dOp oAdd (dSl (dVar 1) (dNo) (dPart (dOp oAdd (dVar 4) (dC (.int 1))))) (dSl (dVar 1) (dPart (dVar 4)) (dNo)))) (dNext))
      (dRet (dOp oAdd (dOp oAdd (dSl (dVar 1) (dNo) (dPart (dVar 4))) (dLst (dCons (dVar 12) (dNil)))) (dSl (dVar 1) (dPart (dOp oAdd (dVar 4) (dC (.int 1)))) (dNo)))))) (enD M Q) [some (.cell p), some (.lst (eL ls)), some (.int size), some (.int how), some (.int (j : Int)), some (.str w), some (.int d), some (.tup (eP ps)), some (.int (k : Int)), some (.int place), some (.int factor), some (.tup (eP hs)), z12, z13] M' := by
    intro w hw
    refine ifC (eq_dec how 7) (fun _ => ?_) (fun _ => ?_)
    · refine ⟨_, rfl, _, rfl, _, _, rfl, rfl, lz (Nat.le_trans (Nat.add_le_add s0 t1) (by decide)), ?_⟩
      refine fin _ (ls.take j ++ ls.drop (j + 1)) ?_ ?_ (app (tk _) (dr _))
      · rw [ct0, cd1, eL_app]
      · rw [List.length_append, List.length_take, List.length_drop]; omega
    refine ⟨?_, ?_, l3, ?_⟩
    · show (cut (eP ps) none (some (k : Int))).length + (eP hs).length ≤ sizeLine
      rw [u0, List.length_map]; exact lz (by omega)
    · show (cut (eP ps) none (some (k : Int)) ++ eP hs).length + (cut (eP ps) (some ((k : Int) + 1)) none).length ≤ sizeLine
      rw [List.length_append, u0, u1, List.length_map]; exact lz (by omega)
    refine ifC (eq_dec how 8) (fun _ => ?_) (fun _ => ?_)
    · refine ⟨_, rfl, _, rfl, _, _, rfl, rfl, lz (Nat.le_trans (Nat.add_le_add s1 t0) (by decide)), ?_⟩
      refine fin _ (ls.take (j + 1) ++ ls.drop j) ?_ ?_ (app (tk _) (dr _))
      · rw [ct1, cd0, eL_app]
      · rw [List.length_append, List.length_take, List.length_drop]; omega
    · refine ⟨_, rfl, l1, _, _, rfl, rfl, lz (Nat.le_trans (Nat.add_le_add s0 (Nat.le_refl 1)) (by decide)), _, rfl, _, _, rfl, rfl, ?_, ?_⟩
      · rw [List.length_append]; exact lz (by show _ + 1 + _ ≤ _; omega)
      · refine fin _ (ls.take j ++ [⟨w, .sum d (ps.take k ++ hs ++ ps.drop (k + 1))⟩] ++ ls.drop (j + 1)) ?_ ?_ (app (app (tk _) (all1 ⟨w, d, _, rfl, hw, hd, lp, bp⟩)) (dr _))
        · have e1 : cut (eP ps) none (some (k : Int)) ++ eP hs ++ cut (eP ps) (some ((k : Int) + 1)) none = eP (ps.take k ++ hs ++ ps.drop (k + 1)) := by
            rw [pt0, pd1]
            show List.map encP _ ++ List.map encP _ ++ List.map encP _ = List.map encP _
            rw [List.map_append, List.map_append]
          rw [ct0, cd1, eL_app, eL_app]
          show eL (ls.take j) ++ [Dat.tup [.str w, .int d, .tup (cut (eP ps) none (some (k : Int)) ++ eP hs ++ cut (eP ps) (some ((k : Int) + 1)) none)]] ++ _ = _
          rw [e1] <;> rfl
        · rw [List.length_append, List.length_append, List.length_take, List.length_drop]; show _ + 1 + _ ≤ _; omega
  refine ifC (eq_dec how 6) (fun _ => ?_) (fun _ => rest w hw)
  have kf := modb factor 3 (by decide)
  have three : factor % 3 = 0 ∨ factor % 3 = 1 ∨ factor % 3 = 2 := by omega
  obtain ⟨w2, h2, hw2⟩ : ∃ w2 : Str, atI [Dat.str "sums", .str "", .str "Sum"] (factor % 3) = some (.str w2) ∧ wds w2 := by
    rcases three with z | z | z <;> rw [z]
    · exact ⟨_, rfl, Or.inr (Or.inl rfl)⟩
    · exact ⟨_, rfl, Or.inr (Or.inr (Or.inl rfl))⟩
    · exact ⟨_, rfl, Or.inr (Or.inr (Or.inr rfl))⟩
  refine ⟨l3, show (0 : Int) < 3 by decide, factor % 3, _, _, rfl, rfl, h2, ?_⟩
  exact rest w2 hw2
end Lw
set_option Elab.async false
set_option linter.all false
set_option maxRecDepth 100000
set_option maxHeartbeats 4000000
namespace Lw
open PySem PySem.Spec PyProof.Rows L2 Dl
section
variable {p : Addr} {M : Mem} {Q : Rv → Mem → Prop} {ls : List Ln} {m : Nat} {size how d place factor : Int} {j k : Nat} {w : Str} {ps hs : List (Int × Int)} {z12 z13 : Option Dat} {M' : Mem}
abbrev envS (p : Addr) (ls : List Ln) (size how : Int) (j : Nat) (w : Str) (d : Int) (ps : List (Int × Int)) (k : Nat) (place factor : Int) (hs : List (Int × Int)) (z12 z13 : Option Dat) : Dl.Env := [some (.cell p), some (.lst (eL ls)), some (.int size), some (.int how), some (.int (j : Int)), some (.str w), some (.int d), some (.tup (eP ps)), some (.int (k : Int)), some (.int place), some (.int factor), some (.tup (eP hs)), z12, z13]
theorem st12 (hp : PoolAt M p) (q : SQ p M Q ls m) (hll : ls.length ≤ 100) (hsl : ∀ l ∈ ls, Sl m l) (hm10 : m ≤ 10) (hj : j < ls.length) (hw : wds w) (hd : -5000 ≤ d ∧ d ≤ 5000) (hps : pbd ps) (hhs : pbd hs) (hpl : ps.length ≤ m) (hf : -1 ≤ factor ∧ factor ≤ 3) (hplace : -5000 ≤ place ∧ place ≤ 5000)
    (hlen : (ps.take k).length + hs.length + (ps.drop (k + 1)).length ≤ ps.length) (hM : PoolTo M p M') : rt12__law_spoilt (enD M Q) (envS p ls size how j w d ps k place factor hs z12 z13) M' := by
  refine ifC (eq_dec how 5) (fun _ => ?_) (fun _ => ?_)
  · refine ⟨l2, l1, ?_, ?_⟩
    · show (eP hs).length + 1 ≤ sizeLine
      rw [List.length_map]; exact lz (by omega)
    have e : eP hs ++ [Dat.tup [.int place, .int factor]] = eP (hs ++ [(place, factor)]) := (List.map_append (f := encP) (l₁ := hs) (l₂ := [(place, factor)])).symm
    have fin : ∀ D : List Dat, D = eP (hs ++ [(place, factor)]) → rt13__law_spoilt (enD M Q) [some (.cell p), some (.lst (eL ls)), some (.int size), some (.int how), some (.int (j : Int)), some (.str w), some (.int d), some (.tup (eP ps)), some (.int (k : Int)), some (.int place), some (.int factor), some (.tup D), z12, z13] M' := fun D hD => by
      rw [hD]
      refine st13 hp q hll hsl hm10 hj hw hd hps (fun x hx => ?_) hpl hf (by rw [List.length_append]; show _ + (_ + 1) + _ ≤ _; omega) hM
      rcases List.mem_append.mp hx with z | z
      · exact hhs x z
      · rw [List.mem_singleton.mp z]; exact ⟨hplace, by omega⟩
    exact fin _ e
  · exact st13 hp q hll hsl hm10 hj hw hd hps hhs hpl hf (by omega) hM
theorem st9 (hp : PoolAt M p) (q : SQ p M Q ls m) (hll : ls.length ≤ 100) (hsl : ∀ l ∈ ls, Sl m l) (hm10 : m ≤ 10) (hj : j < ls.length) (hw : wds w) (hd : -5000 ≤ d ∧ d ≤ 5000) (hps : pbd ps) (hhs : pbd hs) (hpl : ps.length ≤ m) (hf : -1 ≤ factor ∧ factor ≤ 3) (hplace : -5000 ≤ place ∧ place ≤ 5000)
    (hlen : (ps.take k).length + hs.length + (ps.drop (k + 1)).length ≤ ps.length) (hM : PoolTo M p M') : rt9__law_spoilt (enD M Q) (envS p ls size how j w d ps k place factor hs z12 z13) M' := by
  have T11 : ∀ hs : List (Int × Int), pbd hs → (ps.take k).length + hs.length + (ps.drop (k + 1)).length ≤ ps.length → rt11__law_spoilt (enD M Q) (envS p ls size how j w d ps k place factor hs z12 z13) M' := by
    intro hs hhs hlen
    refine ifC (eq_dec how 4) (fun _ => ⟨Nat.zero_le _, ?_⟩) (fun _ => st12 hp q hll hsl hm10 hj hw hd hps hhs hpl hf hplace hlen hM)
    exact st12 (hs := []) hp q hll hsl hm10 hj hw hd hps (fun x hx => absurd hx List.not_mem_nil) hpl hf hplace (by show _ + 0 + _ ≤ _; omega) hM
  have len2 : hs.length ≤ 100000 := by omega
  have T10 : ∀ hs : List (Int × Int), pbd hs → (ps.take k).length + hs.length + (ps.drop (k + 1)).length ≤ ps.length → rt10__law_spoilt (enD M Q) (envS p ls size how j w d ps k place factor hs z12 z13) M' := by
    intro hs hhs hlen
    refine ifC (eq_dec how 3) (fun _ => ?_) (fun _ => T11 hs hhs hlen)
    refine ⟨_, rfl, ?_⟩
    refine lc_map (enc := encP) hs (fun x => encP (x.1, factor)) (lz (by omega)) ?_ (fun x hx P hP => ?_) ?_
    · trivial
    · exact ⟨0, _, _, rfl, rfl, rfl, l2, hP _ rfl⟩
    refine ⟨_, _, rfl, rfl, ?_⟩
    have e : hs.map (fun x => encP (x.1, factor)) = eP (hs.map fun x => (x.1, factor)) := by
      show _ = List.map encP (List.map _ hs)
      rw [List.map_map] <;> rfl
    have fin : ∀ D : List Dat, D = eP (hs.map fun x => (x.1, factor)) → rt11__law_spoilt (enD M Q) [some (.cell p), some (.lst (eL ls)), some (.int size), some (.int how), some (.int (j : Int)), some (.str w), some (.int d), some (.tup (eP ps)), some (.int (k : Int)), some (.int place), some (.int factor), some (.tup D), z12, z13] M' := fun D hD => by
      rw [hD]
      refine T11 _ (fun x hx => ?_) (by rw [List.length_map]; exact hlen)
      obtain ⟨y, hy, rfl⟩ := List.mem_map.mp hx
      exact ⟨(hhs y hy).1, by show -5000 ≤ factor ∧ factor ≤ 5000; omega⟩
    exact fin _ e
  refine ifC (eq_dec how 2) (fun _ => ?_) (fun _ => T10 hs hhs hlen)
  refine ⟨_, rfl, ?_⟩
  refine lc_map (enc := encP) hs (fun x => encP (place, x.2)) (lz (by omega)) ?_ (fun x hx P hP => ?_) ?_
  · trivial
  · exact ⟨1, _, _, rfl, rfl, rfl, l2, hP _ rfl⟩
  refine ⟨_, _, rfl, rfl, ?_⟩
  have e : hs.map (fun x => encP (place, x.2)) = eP (hs.map fun x => (place, x.2)) := by
    show _ = List.map encP (List.map _ hs)
    rw [List.map_map] <;> rfl
  have fin : ∀ D : List Dat, D = eP (hs.map fun x => (place, x.2)) → rt10__law_spoilt (enD M Q) [some (.cell p), some (.lst (eL ls)), some (.int size), some (.int how), some (.int (j : Int)), some (.str w), some (.int d), some (.tup (eP ps)), some (.int (k : Int)), some (.int place), some (.int factor), some (.tup D), z12, z13] M' := fun D hD => by
    rw [hD]
    refine T10 _ (fun x hx => ?_) (by rw [List.length_map]; exact hlen)
    obtain ⟨y, hy, rfl⟩ := List.mem_map.mp hx
    exact ⟨hplace, (hhs y hy).2⟩
  exact fin _ e
end
theorem ok__law_spoilt (ds : List Dat) (M : Mem) (Q : Rv → Mem → Prop) (h : fs__law_spoilt ds M Q) : rd__law_spoilt (enD M Q) (startD N__law_spoilt ds) M := by
  obtain ⟨p, ls, size, m, rfl, hp, hll, hm10, hsz, hsl, q⟩ := h
  have q : SQ p M Q ls m := q
  refine ⟨p, 9, rfl, hp, by decide, by decide, fun how M1 v0 v9 hM1 => ?_⟩
  have finD : Q (.d (.lst (eL ls))) (M.restr M1) := by
    rw [hM1.restr hp]
    exact (q ls M1 (by omega) (fun l h => (hsl l h).up (by omega)) hM1).1
  refine ifC (eq_dec how 0) (fun _ => finD) (fun h0 => ?_)
  refine ⟨Nat.zero_le _, .list (ls.map pyL), .list [], .lst (py_Ls ls), ⟨[], rfl, .nil⟩, shaped_lines fun l h => (hsl l h).shl (by omega), by decide, ?_⟩
  refine ifC (eqv_lines ls) (fun _ => finD) (fun he => ?_)
  have hpos : 0 < ls.length := by
    cases ls with
    | nil => cases he
    | cons a r => exact Nat.succ_pos _
  refine ⟨_, _, rfl, rfl, p, ((eL ls).length : Int), rfl, hM1.at, by rw [eL_len]; omega, by rw [eL_len]; exact log_small (by omega), fun at_ M2 a0 a1 hM2 => ?_⟩
  have hM2 := hM1.trans hM2
  rw [eL_len] at a1
  obtain ⟨j, rfl⟩ : ∃ j : Nat, at_ = (j : Int) := ⟨at_.toNat, by omega⟩
  have hj : j < ls.length := by omega
  have hget : atI (eL ls) (j : Int) = some (ls[j].enc) := Dl.atI_nat (by rw [List.getElem?_map, List.getElem?_eq_getElem hj] <;> rfl)
  have hlj := hsl ls[j] (List.getElem_mem hj)
  generalize ls[j] = lj at hget hlj
  obtain ⟨w, d, ps, rfl, hw, hd, hpl, hps⟩ := hlj
  refine ⟨_, _, _, rfl, rfl, hget, _, rfl, rfl, _, _, rfl, _, _, rfl, _, _, rfl, rfl, ?_⟩
  obtain ⟨mx, hmx, mx1⟩ : ∃ mx : Int, mx = (if ((eP ps).length : Int) > 1 then ((eP ps).length : Int) else 1) ∧ (1 ≤ mx ∧ mx ≤ 1000 ∧ mx ≤ (if ps.length = 0 then 1 else (ps.length : Int))) := ⟨_, rfl, by rw [List.length_map]; split <;> split <;> omega⟩
  refine ⟨_, _, rfl, rfl, p, _, rfl, hM2.at, ?_, ?_, fun ki M3 k0 k1 hM3 => ?_⟩
  · show (0 : Int) < (if ((eP ps).length : Int) > 1 then ((eP ps).length : Int) else 1)
    rw [← hmx]; omega
  · show (if ((eP ps).length : Int) > 1 then ((eP ps).length : Int) else 1).natAbs.log2 < 9000
    rw [← hmx]; exact log_ok (by omega) (by omega)
  have k1 : ki < (if ((eP ps).length : Int) > 1 then ((eP ps).length : Int) else 1) := k1
  rw [← hmx] at k1
  have hM3 := hM2.trans hM3
  obtain ⟨k, rfl⟩ : ∃ k : Nat, ki = (k : Int) := ⟨ki.toNat, by omega⟩
  refine ⟨p, size + (j : Int), rfl, hM3.at, by omega, log_ok (by omega) (by omega), fun y M4 y0 y1 hM4 => ⟨l3, p, 3, rfl, (hM3.trans hM4).at, by decide, by decide, fun t M5 t0 t1 hM5 => ?_⟩⟩
  have hM5 := (hM3.trans hM4).trans hM5
  obtain ⟨place, hpc, pb⟩ : ∃ place : Int, atI [Dat.int (-1), .int (size + (j : Int)), .int y] t = some (.int place) ∧ (-5000 ≤ place ∧ place ≤ 5000) := by
    have : t = 0 ∨ t = 1 ∨ t = 2 := by omega
    rcases this with z | z | z <;> subst z
    · exact ⟨_, rfl, by omega⟩
    · exact ⟨_, rfl, by omega⟩
    · exact ⟨_, rfl, by omega⟩
  refine ⟨t, _, _, rfl, rfl, hpc, p, 5, rfl, hM5.at, by decide, by decide, fun f M6 f0 f1 hM6 => ?_⟩
  have hM6 := hM5.trans hM6
  have hlen : (ps.take k).length + ((ps.drop k).take 1).length + (ps.drop (k + 1)).length ≤ ps.length := by
    rw [List.length_take, List.length_take, List.length_drop, List.length_drop]
    omega
  have hhs : pbd ((ps.drop k).take 1) := fun x hx => hps x (List.mem_of_mem_drop (List.mem_of_mem_take hx))
  have fin : ∀ (D : List Dat) (d : Int) (M' : Mem), D = eP ((ps.drop k).take 1) → -5000 ≤ d ∧ d ≤ 5000 → PoolTo M p M' → rt9__law_spoilt (enD M Q) [some (.cell p), some (.lst (eL ls)), some (.int size), some (.int how), some (.int (j : Int)), some (.str w), some (.int d), some (.tup (eP ps)), some (.int (k : Int)), some (.int place), some (.int (f - 1)), some (.tup D), none, none] M' := fun D d M' hD hd hM' => by
    rw [hD]
    exact st9 hp q hll hsl hm10 hj hw hd hps hhs hpl (by omega) pb hlen hM'
  refine ifC (eq_dec how 1) (fun _ => ?_) (fun _ => ?_)
  · refine ⟨p, 4, rfl, hM6.at, by decide, by decide, fun d2 M7 d0 d1 hM7 => ?_⟩
    exact fin _ d2 _ (p01 ps k) (by omega) (hM6.trans hM7)
  · exact fin _ d _ (p01 ps k) hd hM6
theorem ok__law_scaled (ds : List Dat) (M : Mem) (Q : Rv → Mem → Prop) (h : fs__law_scaled ds M Q) : rd__law_scaled (enD M Q) (startD N__law_scaled ds) M := by
  obtain ⟨ls, f, m, rfl, hll, hm, hsl, q⟩ := h
  refine ⟨Nat.zero_le _, _, rfl, fun k hk => ?_⟩
  have cm : ∀ y : Int, -5000 ≤ y ∧ y ≤ 5000 → CMulG f y := fun y hy => cmul_r (b := 5000) hy (by decide)
  refine ⟨_, rfl, ?_⟩
  refine for_rest (enc := Ln.enc) ls (fun r env mm => ∃ (done : List Ln) (z3 z4 z5 : Option Dat), mm = M.set k (.lst (done.map Ln.enc)) ∧ done ++ r.map (scale f) = ls.map (scale f) ∧ (∀ l ∈ r, Sl m l) ∧ done.length + r.length = ls.length ∧ env = [some (.lst (ls.map Ln.enc)), some (.int f), some (.cell k), z3, z4, z5]) ⟨[], _, _, _, rfl, rfl, hsl, Nat.zero_add _, rfl⟩ (fun _ _ _ _ => trivial) ?_ ?_
  · rintro l r env mm ⟨done, z3, z4, z5, rfl, h1, h2, h3, rfl⟩
    obtain ⟨w, d, ps, rfl, hw, hd, hpl, hps⟩ := h2 l List.mem_cons_self
    rw [List.length_cons] at h3
    refine ⟨2, _, .tup (eP ps), rfl, rfl, rfl, _, rfl, ?_⟩
    refine lc_map (enc := encP) ps (fun x => encP (x.1, f * x.2)) (lz (by omega)) ?_ (fun x hx P hP => ?_) ?_
    · trivial
    · exact ⟨0, _, _, rfl, rfl, rfl, 1, _, _, rfl, rfl, rfl, cm _ (hps x hx).2, l2, hP _ rfl⟩
    refine ⟨_, _, rfl, rfl, ?_⟩
    have e : ps.map (fun x => encP (x.1, f * x.2)) = eP (ps.map fun x => (x.1, f * x.2)) := by
      show _ = List.map encP (List.map _ ps)
      rw [List.map_map] <;> rfl
    refine ⟨k, _, rfl, Mem.set_same, 0, _, _, rfl, rfl, rfl, 1, _, .int d, rfl, rfl, rfl, cm d hd, l3, _, Mem.set_same, Nat.lt_of_lt_of_le (show (done.map Ln.enc).length < 101 by rw [List.length_map]; omega) (by decide), ?_⟩
    refine ⟨done ++ [scale f ⟨w, .sum d ps⟩], _, _, _, ?_, ?_, fun y hy => h2 y (List.mem_cons_of_mem _ hy), by rw [List.length_append]; show _ + 1 + _ = _; omega, rfl⟩
    · rw [Mem.set_set, List.map_append]
      show M.set k (.lst (done.map Ln.enc ++ [Dat.tup [.str w, .int (f * d), .tup (ps.map (fun x => encP (x.1, f * x.2)))]])) = _
      rw [e] <;> rfl
    · rw [List.append_assoc]
      exact h1
  · rintro env mm ⟨done, z3, z4, z5, rfl, h1, h2, h3, rfl⟩
    rw [List.map_nil, List.append_nil] at h1
    refine Or.inl ⟨hk, _, Mem.set_same, ?_⟩
    rw [Mem.restr_set_out hk, Mem.restr_self, h1]
    exact q
theorem shows_b2 (b : Bool) : Shows (.list [.bool b, .bool b]) := by
  cases b <;> exact ⟨rfl, by decide, rfl, by decide⟩
theorem py_b2 {M : Mem} (b : Bool) : PyOfA M [.bl b, .bl b] [.bool b, .bool b] := .cons (.bl b) (.cons (.bl b) .nil)
theorem ok__law_asked (C : Addr) (ds : List Dat) (M : Mem) (Q : Rv → Mem → Prop) (h : fs__law_asked C ds M Q) : rd__law_asked C (enD M Q) (startD N__law_asked ds) M := by
  obtain ⟨w, cs, ls, rfl, hw, hcl, hll, hg, hwd, hfit, hsh, q⟩ := h
  refine ⟨_, _, rfl, rfl, ?_⟩
  refine ⟨_, _, rfl, .lst (py_Ls ls), hsh, ?_⟩
  refine ⟨w, cs, .lst (ls.map Ln.enc), ls, rfl, (fun _ h => nomatch h), rfl, hw, hcl, by omega, hg, hwd, hfit, ?_⟩
  refine ⟨_, _, rfl, rfl, w, cs, .tup (ls.map Ln.enc), ls, rfl, (fun _ h => nomatch h), rfl, hw, hcl, by omega, hg, hwd, hfit, l2, ?_⟩
  refine ⟨_, _, rfl, .lst (py_b2 _), shows_b2 _, l2, _, _, rfl, .lst (py_b2 _), shows_b2 _, ifT (same_str2 _) ?_⟩
  refine ⟨_, _, rfl, .lst (py_Ls ls), hsh, ?_⟩
  show Q (.d (.bl (false != decide (_ = _)))) (M.restr M)
  rw [same_str2, Mem.restr_self]
  exact q
end Lw
set_option Elab.async false
set_option linter.all false
set_option maxRecDepth 100000
set_option maxHeartbeats 4000000
namespace Lw
open PySem PySem.Spec PyProof.Rows L2 Dl
/-! ### larger numbers shown -/
structure Op5 (n k : Nat) (ps : List PyData) : Prop where
  sh : PyData.showableAll ps = true
  nd : PyData.hasDictAll ps = false
  cl : PyData.canLayAll0 ps = true
  lv : PyData.leavesShortAll 120 ps = true
  bk : PyData.bulkAll ps ≤ n
  dp : PyData.depthAll ps ≤ k
structure Op1 (n k : Nat) (p : PyData) : Prop where
  sh : PyData.showable p = true
  nd : PyData.hasDict p = false
  cl : PyData.canLay0 p = true
  lv : PyData.leavesShort 120 p = true
  bk : PyData.bulk p ≤ n
  dp : PyData.depth p ≤ k
theorem Op5.nil : Op5 0 0 [] := ⟨rfl, rfl, rfl, rfl, Nat.zero_le _, Nat.zero_le _⟩
theorem Op5.cons {n m k : Nat} {p : PyData} {ps : List PyData} (h : Op1 n k p) (g : Op5 m k ps) : Op5 (n + m + 1) k (p :: ps) := by
  constructor
  · simp only [PyData.showableAll, h.sh, g.sh, Bool.and_self]
  · simp only [PyData.hasDictAll, h.nd, g.nd, Bool.or_self]
  · simp only [PyData.canLayAll0, h.cl, g.cl, Bool.and_self]
  · simp only [PyData.leavesShortAll, h.lv, g.lv, Bool.and_self]
  · have := h.bk
    have := g.bk
    simp only [PyData.bulkAll]
    omega
  · have := h.dp
    have := g.dp
    simp only [PyData.depthAll]
    omega
theorem Op5.tup {n k : Nat} {ps : List PyData} (g : Op5 n k ps) : Op1 (n + 1) (k + 1) (.tuple ps) := by
  constructor
  · simp only [PyData.showable, g.sh]
  · simp only [PyData.hasDict, g.nd]
  · simp only [PyData.canLay0, g.cl]
  · simp only [PyData.leavesShort, g.lv]
  · have := g.bk
    simp only [PyData.bulk]
    omega
  · have := g.dp
    simp only [PyData.depth]
    omega
theorem Op5.lst {n k : Nat} {ps : List PyData} (g : Op5 n k ps) : Op1 (n + 1) (k + 1) (.list ps) := by
  constructor
  · simp only [PyData.showable, g.sh]
  · simp only [PyData.hasDict, g.nd]
  · simp only [PyData.canLay0, g.cl]
  · simp only [PyData.leavesShort, g.lv]
  · have := g.bk
    simp only [PyData.bulk]
    omega
  · have := g.dp
    simp only [PyData.depth]
    omega
theorem Op5.up {n n2 k k2 : Nat} {ps : List PyData} (g : Op5 n k ps) (h : n ≤ n2) (h2 : k ≤ k2) : Op5 n2 k2 ps := ⟨g.sh, g.nd, g.cl, g.lv, Nat.le_trans g.bk h, Nat.le_trans g.dp h2⟩
theorem Op1.up {n n2 k k2 : Nat} {ps : PyData} (g : Op1 n k ps) (h : n ≤ n2) (h2 : k ≤ k2) : Op1 n2 k2 ps := ⟨g.sh, g.nd, g.cl, g.lv, Nat.le_trans g.bk h, Nat.le_trans g.dp h2⟩
theorem op5_all {α : Type} {n k : Nat} {f : α → PyData} : ∀ {xs : List α}, (∀ x ∈ xs, Op1 n k (f x)) → Op5 ((n + 1) * xs.length) k (xs.map f)
  | [], _ => Op5.nil.up (Nat.zero_le _) (Nat.zero_le _)
  | x :: xs, h => (Op5.cons (h x List.mem_cons_self) (op5_all fun y hy => h y (List.mem_cons_of_mem _ hy))).up (by rw [List.length_cons, Nat.mul_add, Nat.mul_one]; omega) (Nat.le_refl _)
theorem Op1.shows {n k : Nat} {p : PyData} (h : Op1 n k p) (hn : n ≤ 30000) (hk : k ≤ 60) : Shows p := by
  refine ⟨h.sh, Nat.le_trans h.dp hk, h.nd, ?_⟩
  have h6 := PyData.shown_le_bulk 120 (by decide) _ h.lv
  have h7 : (120 + 2) * PyData.bulk p ≤ 122 * 30000 := Nat.mul_le_mul (by decide) (Nat.le_trans h.bk hn)
  exact Nat.le_trans (by omega) (show 122 * 30000 + 120 ≤ sizeLine by decide)
theorem shown_int_len2 {i : Int} (h : i.natAbs < 2 ^ 250) : (PyData.shown (.int i)).length ≤ 120 := by
  have h2 := int_text_length_le10 (a := i) (k := 118) (by decide) (Nat.lt_of_lt_of_le h (by decide))
  show (Str.ofString (toString i)).length ≤ 120
  rw [PySem.ofString_length]
  omega
theorem show_int_log2 {i : Int} (h : i.natAbs < 2 ^ 250) : i.natAbs.log2 < 1920 := by
  by_cases z : i.natAbs = 0
  · rw [z]
    exact (by decide : Nat.log2 0 < 1920)
  · exact Nat.lt_of_lt_of_le ((Nat.log2_lt z).mpr h) (by decide)
theorem op1_int {i : Int} (h : i.natAbs < 2 ^ 250) : Op1 0 0 (.int i) := by
  constructor
  · simp only [PyData.showable]
    exact decide_eq_true (show_int_log2 h)
  · rfl
  · rfl
  · simp only [PyData.leavesShort]
    exact decide_eq_true (shown_int_len2 h)
  · exact Nat.le_refl _
  · exact Nat.le_refl _
theorem op5_ints {r : List Int} (h : Bt 250 r) : Op5 r.length 0 (r.map PyData.int) := by
  have h1 := op5_all (n := 0) (k := 0) (f := PyData.int) (xs := r) fun x hx => op1_int (h x hx)
  exact h1.up (by omega) (Nat.le_refl _)
theorem shows_row2 {r : List Int} (h : Bt 250 r) (hl : r.length ≤ 1000) : Shows (pyR r) := ((op5_ints h).tup).shows (by omega) (by decide)
theorem shows_int2 {i : Int} (h : i.natAbs < 2 ^ 250) : Shows (.int i) := (op1_int h).shows (by decide) (by decide)
def pyQ (q : Int × List Int) : PyData := .tuple [.int q.1, pyR q.2]
theorem shows_pairs {qs : List (Int × List Int)} (h : ∀ q ∈ qs, q.1.natAbs < 2 ^ 250 ∧ Bt 250 q.2 ∧ q.2.length ≤ 100) (hl : qs.length ≤ 100) : Shows (.list (qs.map pyQ)) := by
  have h1 : Op5 ((104 + 1) * qs.length) 2 (qs.map pyQ) := op5_all fun q hq => by
    obtain ⟨a, b, c⟩ := h q hq
    exact (Op5.tup (Op5.cons ((op1_int a).up (Nat.le_refl _) (show 0 ≤ 1 by decide)) (Op5.cons (op5_ints b).tup (Op5.nil.up (Nat.le_refl _) (show 0 ≤ 1 by decide))))).up (by omega) (Nat.le_refl _)
  exact h1.lst.shows (by have := Nat.mul_le_mul_left 105 hl; omega) (by decide)
theorem py_pairs {M : Mem} (qs : List (Int × List Int)) : PyOfA M (qs.map encF) (qs.map pyQ) := PyOfA.map (f := encF) (g := pyQ) (fun q => .tup (.cons (.int _) (.cons (.tup (PyOfA.ints M q.2)) .nil))) qs
/-! ### what the sums are -/
theorem sumRow_some {W : Nat} {rows : List (List Int)} {d : Int} {ps : List (Int × Int)} {t : List Int} (h : sumRow W rows d ps = some t) : 1 ≤ d ∧ ps ≠ [] ∧ ps.all (okP rows.length) = true ∧ t = (comb W (pick rows ps)).map fun x => x / d := by
  unfold sumRow at h
  split at h
  · cases h
  rename_i hd
  split at h
  rotate_left
  · cases h
  rename_i hall
  split at h
  rotate_left
  · cases h
  have hd1 : 1 ≤ d := by
    have : ¬ d < 1 := fun z => hd (Or.inl z)
    omega
  exact ⟨hd1, fun z => hd (Or.inr z), hall, (Option.some.inj h).symm⟩
theorem comb_bits {W f n : Nat} {rows : List (List Int)} {ps : List (Int × Int)} (hr : ∀ r ∈ rows, Bt n r) (hl : ps.length ≤ 100) (hp : ∀ p ∈ ps, p.2.natAbs < 2 ^ f) (hall : ps.all (okP rows.length) = true) : Bt (n + f + 8) (comb W (pick rows ps)) := by
  intro y hy
  have h2 := foldl_bits (B := 2 ^ (f + n)) (pick rows ps) (List.replicate (W + 1) 0) 0 (fun z hz => by rw [List.eq_of_mem_replicate hz]; decide) (fun q hq z hz => by
    obtain ⟨p, hp', rfl⟩ := List.mem_map.mp hq
    obtain ⟨h0, h1, _⟩ := okP_of (List.all_eq_true.mp hall p hp')
    have b1 := hp p hp'
    have b2 := hr _ (getD_mem (by omega)) z hz
    rw [Int.natAbs_mul, Nat.pow_add]
    exact Nat.mul_le_mul (Nat.le_of_lt b1) (Nat.le_of_lt b2)) y hy
  have h3 : (pick rows ps).length ≤ 100 := by rw [show (pick rows ps).length = ps.length from List.length_map ..]; exact hl
  have h4 : (pick rows ps).length * 2 ^ (f + n) ≤ 100 * 2 ^ (f + n) := Nat.mul_le_mul_right _ h3
  have h5 : (2 : Nat) ^ (n + f + 8) = 256 * 2 ^ (f + n) := by
    rw [Nat.pow_add, Nat.mul_comm, Nat.add_comm n f]
  have h6 : 0 < (2 : Nat) ^ (f + n) := Nat.pow_pos (by decide)
  rw [h5]
  omega
theorem addR_zero {t : List Int} : ∀ {r : List Int}, r.length = t.length → addR t 0 r = t := by
  induction t with
  | nil => intro r _; rfl
  | cons a t ih =>
    intro r h
    cases r with
    | nil => cases h
    | cons b r =>
      show (a + 0 * b) :: addR t 0 r = a :: t
      rw [ih (Nat.succ.inj h), Int.zero_mul, Int.add_zero]
theorem addR_rep {f : Int} : ∀ {T : List Int}, addR (List.replicate T.length 0) f T = T.map fun x => f * x
  | [] => rfl
  | a :: T => by
    show (0 + f * a) :: addR (List.replicate T.length 0) f T = f * a :: T.map fun x => f * x
    rw [addR_rep, Int.zero_add]
theorem comb_two {W : Nat} {T t : List Int} {f : Int} (h1 : T.length = W + 1) (h2 : t.length = W + 1) : comb W [(f, T), (0, t)] = T.map fun x => f * x := by
  show addR (addR (List.replicate (W + 1) 0) f T) 0 t = _
  rw [← h1, addR_rep, addR_zero (by rw [List.length_map, h1, h2])]
theorem gcds_bits {n : Nat} : ∀ (r : List Int) (g : Int), g.natAbs < 2 ^ n → Bt n r → (r.foldl (fun (g c : Int) => ((Nat.gcd g.natAbs c.natAbs : Nat) : Int)) g).natAbs < 2 ^ n
  | [], g, h, _ => h
  | c :: r, g, h, hb => by
    refine gcds_bits r _ ?_ fun x hx => hb x (List.mem_cons_of_mem _ hx)
    rw [Int.natAbs_natCast]
    by_cases z : c.natAbs = 0
    · rw [z, Nat.gcd_zero_right]; exact h
    · exact Nat.lt_of_le_of_lt (Nat.gcd_le_right _ (Nat.pos_of_ne_zero z)) (hb c List.mem_cons_self)
theorem bt_5000 {x : Int} (h : -5000 ≤ x ∧ x ≤ 5000) : x.natAbs < 2 ^ 13 := by
  have e : (2 : Nat) ^ 13 = 8192 := by decide
  omega
theorem encR_encB (rows : List (List Int)) : (rows.map fun r => (true, r)).map encB = rows.map encR := by
  rw [List.map_map] <;> rfl
theorem snd_true (rows : List (List Int)) : (rows.map fun r => (true, r)).map (fun x => x.2) = rows := by
  rw [List.map_map]
  exact List.map_id' _
end Lw
set_option Elab.async false
set_option linter.all false
set_option maxRecDepth 100000
set_option maxHeartbeats 4000000
namespace Lw
open PySem PySem.Spec PyProof.Rows L2 Dl
theorem neg_row_bits {n : Nat} {T : List Int} (h : Bt n T) : Bt (n + 2) (T.map fun x => -3 * x) := fun y hy => by
  obtain ⟨x, hx, rfl⟩ := List.mem_map.mp hy
  have := h x hx
  have e : (2 : Nat) ^ (n + 2) = 4 * 2 ^ n := by rw [Nat.pow_add, Nat.mul_comm]
  rw [e]
  omega
theorem ok__law_adds (ds : List Dat) (M : Mem) (Q : Rv → Mem → Prop) (h : fs__law_adds ds M Q) : rd__law_adds (enD M Q) (startD N__law_adds ds) M := by
  obtain ⟨W, rows0, ls, rfl, hL0, hW, hr0, hb0, hll, hsl, q⟩ := h
  refine ⟨_, _, rfl, rfl, _, rfl, fun kr hkr => ?_⟩
  have fin : ∀ D : List Dat, Q (.d (.bl true)) (M.restr (M.set kr (.lst D))) := fun D => by
    rw [Mem.restr_set_out hkr, Mem.restr_self]; exact q
  refine ⟨_, rfl, ?_⟩
  refine for_rest (enc := Ln.enc) ls (fun r env m => ∃ (i : Nat) (rows : List (List Int)) (z4 z5 z6 z7 z8 z9 z10 : Option Dat), m = M.set kr (.lst (rows.map encR)) ∧ Len W rows ∧ rows.length ≤ 100 + i ∧ (∀ x ∈ rows, Bt (31 + 21 * i) x) ∧ i + r.length = ls.length ∧ (∀ l ∈ r, Sl 5 l) ∧
    env = [some (.int (W : Int)), some (.lst (rows0.map encR)), some (.lst (ls.map Ln.enc)), some (.cell kr), z4, z5, z6, z7, z8, z9, z10, none, none]) ?_ (fun _ _ _ _ => trivial) ?_ ?_
  · refine ⟨0, rows0, _, _, _, _, _, _, _, rfl, hL0, by omega, fun x hx y hy => ?_, Nat.zero_add _, hsl, rfl⟩
    have := hb0 x hx y hy
    have e : (2 : Nat) ^ (31 + 21 * 0) = 2147483648 := by decide
    omega
  · rintro l r env m ⟨i, rows, z4, z5, z6, z7, z8, z9, z10, rfl, hL, hrl, hb, hir, hs, rfl⟩
    rw [List.length_cons] at hir
    have hi6 : i ≤ 6 := by omega
    obtain ⟨w, d, ps, rfl, hw, hd, hpl, hps⟩ := hs l List.mem_cons_self
    have hs' : ∀ l ∈ r, Sl 5 l := fun y hy => hs y (List.mem_cons_of_mem _ hy)
    have cm : ∀ p ∈ ps, ∀ y : Int, CMulG p.2 y := fun p hp y => cmul_l (b := 5000) (hps p hp).2 (by decide)
    have lg : d.natAbs.log2 < 9000 := log_bits (f := 13) (bt_5000 hd) (by decide)
    refine ⟨W, rows.map fun r => (true, r), _, w, d, ps, rfl, ?_, by rw [snd_true]; exact hL, by omega, by omega, lg, fun p hp r hr x hx => cm p hp x, ?_⟩
    · show M.set kr _ kr = _
      rw [Mem.set_same, encR_encB]
    rw [snd_true]
    refine ⟨0, _, .str w, rfl, rfl, rfl, ifC (c := true != decide (w = "sum")) (Bool.true_bne _) (fun h => fin _) (fun h => ?_)⟩
    cases hS : sumRow W rows d ps with
    | none => exact ⟨rfl, fin _⟩
    | some t =>
      refine ⟨rfl, ?_⟩
      obtain ⟨hd1, hpne, hall, ht⟩ := sumRow_some hS
      have pl := pick_ok hL hall
      have hT : (comb W (pick rows ps)).length = W + 1 := comb_len _ _ List.length_replicate pl
      have hTb : Bt (31 + 21 * (i + 1)) (comb W (pick rows ps)) := (comb_bits (f := 13) hb (by omega) (fun p hp => bt_5000 (hps p hp).2) hall).up (by omega)
      have hpb : ∀ q ∈ pick rows ps, q.1.natAbs < 2 ^ 250 ∧ Bt 250 q.2 ∧ q.2.length ≤ 100 := fun q hq => by
        obtain ⟨p, hp, rfl⟩ := List.mem_map.mp hq
        obtain ⟨h0, h1, _⟩ := okP_of (List.all_eq_true.mp hall p hp)
        exact ⟨Nat.lt_of_lt_of_le (bt_5000 (hps p hp).2) (Nat.pow_le_pow_right (by decide) (by decide)), (hb _ (getD_mem (by omega))).up (by omega), by rw [pl _ hq]; omega⟩
      have hpk : (pick rows ps).length = ps.length := List.length_map ..
      have hpc : ∀ q ∈ pick rows ps, ∀ x : Int, CMulG q.1 x := fun q hq x => by
        obtain ⟨p, hp, rfl⟩ := List.mem_map.mp hq
        exact cm p hp x
      have hpn : pick rows ps ≠ [] := fun z => hpne (List.map_eq_nil_iff.mp z)
      have shp := shows_pairs hpb (by omega)
      refine ⟨2, _, .tup (ps.map encP), rfl, rfl, rfl, _, rfl, ?_⟩
      refine lc_map (enc := encP) ps (fun p => encF (p.2, rows.getD p.1.toNat [])) (lz (by omega)) ?_ (fun p hp P hP => ?_) ?_
      · trivial
      · obtain ⟨h0, h1, _⟩ := okP_of (List.all_eq_true.mp hall p hp)
        refine ⟨1, _, .int p.2, rfl, rfl, rfl, 0, _, .int p.1, rfl, rfl, rfl, p.1, _, _, rfl, Mem.set_same, row_at (M := M) h0 h1, l2, hP _ rfl⟩
      have ep : ps.map (fun p => encF (p.2, rows.getD p.1.toNat [])) = (pick rows ps).map encF := by
        show _ = List.map encF (List.map _ ps)
        rw [List.map_map] <;> rfl
      rw [ep]
      generalize pick rows ps = qs at *
      refine ⟨_, _, rfl, .lst (py_pairs qs), shp, ?_⟩
      refine ⟨l1, _, rfl, by omega, by omega, by show 1 * ((W : Int) + 1).toNat ≤ sizeLine; exact lz (by omega), ?_⟩
      have eW : ((W : Int) + 1).toNat = W + 1 := by omega
      have e0 : (List.replicate ((W : Int) + 1).toNat [Dat.int 0]).flatten = iL (List.replicate (W + 1) 0) := by
        rw [eW, rep_flat, iL_rep]
      refine ⟨_, rfl, ?_⟩
      obtain ⟨T, hTd⟩ : ∃ T, T = comb W qs := ⟨_, rfl⟩
      rw [← hTd] at hT hTb ht
      refine for_rest (enc := encF) qs (fun rr env m => m = M.set kr (.lst (rows.map encR)) ∧ (∀ y ∈ rr, y ∈ qs) ∧ ∃ (tt : List Int) (z9 z10 : Option Dat), tt.length = W + 1 ∧ rr.foldl (fun t q => addR t q.1 q.2) tt = T ∧
        env = [some (.int (W : Int)), some (.lst (rows0.map encR)), some (.lst (ls.map Ln.enc)), some (.cell kr), some (Ln.enc ⟨w, .sum d ps⟩), some (encR t), some (.lst (qs.map encF)), some (.str (PyData.list (qs.map pyQ)).shown), some (.lst (iL tt)), z9, z10, none, none]) ?_ (fun _ _ _ _ => trivial) ?_ ?_
      · refine ⟨rfl, fun _ h => h, List.replicate (W + 1) 0, z9, z10, List.length_replicate, hTd.symm, ?_⟩
        show ([_, _, _, _, _, _, _, _, some (Dat.lst ((List.replicate ((W : Int) + 1).toNat [Dat.int 0]).flatten)), _, _, _, _] : List (Option Dat)) = _
        rw [e0] <;> rfl
      · rintro x rr env m ⟨rfl, hmem, tt, z9, z10, htt, hfold, rfl⟩
        have hR : x.2.length = W + 1 := pl x (hmem x List.mem_cons_self)
        have hc := hpc x (hmem x List.mem_cons_self)
        obtain ⟨f, R⟩ := x
        refine ⟨_, rfl, rfl, _, _, rfl, _, _, rfl, rfl, ?_⟩
        refine ⟨by omega, by omega, ?_⟩
        rw [eW]
        refine lc_rng (fun k acc m' => m' = M.set kr (.lst (rows.map encR)) ∧ acc = iL ((addR tt f R).take k)) ⟨rfl, by rw [List.take_zero] <;> rfl⟩ (fun k acc m' hk hj => ?_) (fun acc m' hj => ?_)
        · obtain ⟨rfl, rfl⟩ := hj
          simp only [dYes, ↓reduceIte]
          rw [Int.zero_add]
          have k1 : k < tt.length := by omega
          have k2 : k < R.length := by have : R.length = W + 1 := hR; omega
          refine ⟨k, _, _, rfl, rfl, at_iL k1, k, _, _, rfl, rfl, at_iL k2, hc _, ?_, rfl, ?_⟩
          · rw [iL_len, List.length_take]
            exact Nat.lt_of_lt_of_le (show min k _ < 1002 by omega) (by decide)
          · rw [List.take_succ, addR_get k1 k2]
            show _ = iL (_ ++ [tt[k] + f * R[k]])
            rw [iL_app] <;> rfl
        · obtain ⟨rfl, rfl⟩ := hj
          have hR : R.length = W + 1 := hR
          refine ⟨rfl, fun y hy => hmem y (List.mem_cons_of_mem _ hy), addR tt f R, some (.int f), some (encR R), by rw [addR_len (by omega), htt], hfold, ?_⟩
          show ([_, _, _, _, _, _, _, _, some (Dat.lst (iL ((addR tt f R).take (W + 1)))), _, _, _, _] : List (Option Dat)) = _
          rw [List.take_of_length_le (by rw [addR_len (by omega)]; omega)] <;> rfl
      · rintro env m ⟨rfl, _, tt, z9, z10, htt, hfold, rfl⟩
        have htt2 : tt = T := hfold
        subst htt2
        have eT : ∀ qs' : List (Int × Bool × List Int), qs' = qs.map tb → qs'.map nob = qs := fun qs' h => by
          rw [h, List.map_map]
          exact List.map_id' _
        have ht1 : t.length = W + 1 := by rw [ht, List.length_map, hT]
        have htb : Bt (31 + 21 * (i + 1)) t := fun y hy => by
          rw [ht] at hy
          obtain ⟨x, hx, rfl⟩ := List.mem_map.mp hy
          exact Nat.lt_of_le_of_lt (natAbs_div hd1) (hTb x hx)
        have b250 : 31 + 21 * (i + 1) ≤ 200 := by omega
        -- combined(pairs)
        refine ⟨qs.map tb, W, _, rfl, ?_, fun z => hpn (List.map_eq_nil_iff.mp z), by rw [List.length_map]; omega, by omega, fun q hq => ?_, ?_⟩
        · show (qs.map tb).map encFB = _
          rw [List.map_map] <;> rfl
        · obtain ⟨q2, hq2, rfl⟩ := List.mem_map.mp hq
          exact ⟨pl q2 hq2, fun x hx => hpc q2 hq2 x⟩
        rw [eT _ rfl, ← hTd]
        have shT := shows_row2 (hTb.up (show _ ≤ 250 by omega)) (by omega)
        refine ⟨_, _, rfl, .tup (PyOfA.ints _ tt), shT, _, _, rfl, rfl, _, _, rfl, .tup (PyOfA.ints _ tt), shT, ifF (same_str _) ?_⟩
        refine ⟨_, _, rfl, .lst (py_pairs qs), shp, ifF (same_str _) ?_⟩
        -- combined(((-3, total), (0, row)))
        refine ⟨l2, l2, l2, [(-3, false, tt), (0, true, t)], W, _, rfl, rfl, by simp, by show 2 ≤ 1000; decide, by omega, fun q hq => ?_, ?_⟩
        · rcases List.mem_cons.mp hq with z | z
          · rw [z]; exact ⟨hT, fun x _ => cmul_l (i := -3) (b := 3) (by decide) (by decide)⟩
          · rw [List.mem_singleton.mp z]; exact ⟨ht1, fun x _ => cmul_l (i := 0) (b := 3) (by decide) (by decide)⟩
        have ec : comb W ([((-3 : Int), false, tt), (0, true, t)].map nob) = tt.map fun x => -3 * x := comb_two hT ht1
        rw [ec]
        have sh3 := shows_row2 ((neg_row_bits hTb).up (show _ ≤ 250 by omega)) (by rw [List.length_map]; omega)
        refine ⟨_, _, rfl, .tup (PyOfA.ints _ _), sh3, tt, -3, _, rfl, rfl, by omega, by decide, by decide, ?_⟩
        refine ⟨_, _, rfl, .tup (PyOfA.ints _ _), sh3, ifF (same_str _) ?_⟩
        -- divisor
        have hg : (gcds (tt.take W)).natAbs < 2 ^ 250 := gcds_bits _ 0 (Nat.pow_pos (by decide)) fun x hx => (hTb.up (show _ ≤ 250 by omega)) x (List.mem_of_mem_take hx)
        refine ⟨W, tt, _, rfl, Or.inl rfl, hT, _, _, rfl, .int _, shows_int2 hg, _, rfl, tt.take W, ?_, _, _, rfl, .int _, shows_int2 hg, ifF (same_str _) ?_⟩
        · have e : cut (iL tt) none (some (W : Int)) = iL (tt.take W) := by rw [cut_to, ← List.map_take]
          exact congrArg (fun l => [Dat.lst l]) e
        -- divided
        refine ⟨1, _, .int d, rfl, rfl, rfl, tt, d, _, rfl, rfl, by omega, lg, by omega, ?_⟩
        rw [← ht]
        have sht := shows_row2 (htb.up (show _ ≤ 250 by omega)) (by omega)
        refine ⟨_, _, rfl, .tup (PyOfA.ints _ t), sht, _, _, rfl, .tup (PyOfA.ints _ t), sht, ifF (same_str _) ?_⟩
        refine ⟨kr, _, rfl, Mem.set_same, _, Mem.set_same, Nat.lt_of_lt_of_le (show (rows.map encR).length < 200 by rw [List.length_map]; omega) (by decide), ?_⟩
        refine ⟨i + 1, rows ++ [t], _, _, _, _, _, _, _, ?_, ?_, by rw [List.length_append]; show _ + 1 ≤ _; omega, fun x hx => ?_, by omega, hs', rfl⟩
        · rw [Mem.set_set, List.map_append] <;> rfl
        · intro x hx
          rcases List.mem_append.mp hx with z | z
          · exact hL x z
          · rw [List.mem_singleton.mp z]; exact ht1
        · rcases List.mem_append.mp hx with z | z
          · exact (hb x z).up (by omega)
          · rw [List.mem_singleton.mp z]; exact htb
  · rintro env m ⟨i, rows, z4, z5, z6, z7, z8, z9, z10, rfl, _, _, _, _, _, rfl⟩
    exact fin _
end Lw
set_option Elab.async false
set_option linter.all false
set_option maxRecDepth 100000
set_option maxHeartbeats 4000000
namespace Lw
open PySem PySem.Spec PyProof.Rows L2 Dl
/-! ### what lies behind the end, and what never ends -/
theorem run_more {W : Nat} : ∀ (ls : List Ln) (rows : List (List Int)) (marks : List (Nat × List Int)) (x : Ln) (r : List Ln), run W rows marks ls = true → run W rows marks (ls ++ x :: r) = false
  | [], rows, marks, x, r, h => by
    rw [run] at h
    cases h
  | l :: ls, rows, marks, x, r, h => by
    by_cases hw : l.w = l.b.nm
    rotate_left
    · rw [run_bad hw] at h
      cases h
    obtain ⟨w, bd⟩ := l
    have hw : w = bd.nm := hw
    subst hw
    cases bd with
    | sum d ps =>
      have h : run W rows marks (⟨"sum", .sum d ps⟩ :: ls) = true := h
      show run W rows marks (⟨"sum", .sum d ps⟩ :: (ls ++ x :: r)) = false
      rw [run_sum] at h ⊢
      cases e : sumRow W rows d ps with
      | none => rfl
      | some t =>
        rw [e] at h
        exact run_more ls _ _ x r h
    | split t =>
      have h : run W rows marks (⟨"split", .split t⟩ :: ls) = true := h
      show run W rows marks (⟨"split", .split t⟩ :: (ls ++ x :: r)) = false
      rw [run_split] at h ⊢
      split at h
      · rename_i hl
        rw [if_pos hl]
        exact run_more ls _ _ x r h
      · cases h
    | fls i =>
      have h : run W rows marks (⟨"false", .fls i⟩ :: ls) = true := h
      show run W rows marks (⟨"false", .fls i⟩ :: (ls ++ x :: r)) = false
      rw [run_fls] at h ⊢
      split at h
      · rename_i hl
        rw [if_pos hl]
        cases e : marks.getLast? with
        | none => cases ls <;> rfl
        | some q =>
          rw [e] at h
          exact run_more ls _ _ x r h
      · cases h
theorem run_sums {W : Nat} : ∀ (ls : List Ln) (rows : List (List Int)) (marks : List (Nat × List Int)), (∀ l ∈ ls, ∃ w d ps, l = ⟨w, .sum d ps⟩) → run W rows marks ls = false
  | [], rows, marks, _ => by rw [run]
  | l :: ls, rows, marks, h => by
    obtain ⟨w, d, ps, rfl⟩ := h l List.mem_cons_self
    by_cases hw : w = "sum"
    · subst hw
      rw [run_sum]
      cases e : sumRow W rows d ps with
      | none => rfl
      | some t => exact run_sums ls _ _ fun y hy => h y (List.mem_cons_of_mem _ hy)
    · exact run_bad hw
theorem nm_sums : (("sums" : Str) ≠ "sum" ∧ ("sums" : Str) ≠ "split" ∧ ("sums" : Str) ≠ "false") ∧ (("" : Str) ≠ "sum" ∧ ("" : Str) ≠ "split" ∧ ("" : Str) ≠ "false") ∧ (("Sum" : Str) ≠ "sum" ∧ ("Sum" : Str) ≠ "split" ∧ ("Sum" : Str) ≠ "false") := by decide +kernel
/-- what the law asks of a line that is handed in -/
structure Fine (l : Ln) : Prop where
  wd : l.wd
  bits : l.bits 120
  sh : shl l
theorem wd_sum {w : Str} {d : Int} {ps : List (Int × Int)} (h : wds w) : Ln.wd ⟨w, .sum d ps⟩ := by
  rcases h with k | k | k | k
  · exact Or.inl k
  · exact Or.inr (by rw [show (Ln.mk w (.sum d ps)).w = "sums" from k]; exact nm_sums.1)
  · exact Or.inr (by rw [show (Ln.mk w (.sum d ps)).w = "" from k]; exact nm_sums.2.1)
  · exact Or.inr (by rw [show (Ln.mk w (.sum d ps)).w = "Sum" from k]; exact nm_sums.2.2)
theorem okw_wds {w : Str} (h : wds w) : okw w := by
  rcases h with k | k | k | k
  · exact Or.inl k
  · exact Or.inr (Or.inl k)
  · exact Or.inr (Or.inr (Or.inl k))
  · exact Or.inr (Or.inr (Or.inr (Or.inl k)))
theorem p120 : (2 : Nat) ^ 120 = 1329227995784915872903807060280344576 := by decide
theorem fine_sum {w : Str} {d : Int} {ps : List (Int × Int)} (hw : wds w) (hd : -1000000000000000000000000000000000 ≤ d ∧ d ≤ 1000000000000000000000000000000000) (hl : ps.length ≤ 20) (hp : ∀ p ∈ ps, (-1000000 ≤ p.1 ∧ p.1 ≤ 1000000) ∧ -1000000000000000000000000000000000 ≤ p.2 ∧ p.2 ≤ 1000000000000000000000000000000000) : Fine ⟨w, .sum d ps⟩ := by
  have e := p120
  refine ⟨wd_sum hw, ⟨by omega, by rw [e]; omega, fun p hp' => by rw [e]; have := hp p hp'; omega⟩, okw_wds hw, ⟨Int.le_trans (by decide) hd.1, Int.le_trans hd.2 (by decide)⟩, hl, fun p hp' => ?_⟩
  have := hp p hp'
  exact ⟨⟨Int.le_trans (by decide) this.1.1, Int.le_trans this.1.2 (by decide)⟩, Int.le_trans (by decide) this.2.1, Int.le_trans this.2.2 (by decide)⟩
theorem fine_fls {i : Int} (h : -1000000000000000000000000000000000 ≤ i ∧ i ≤ 1000000000000000000000000000000000) : Fine ⟨"false", .fls i⟩ :=
  ⟨Or.inl rfl, trivial, Or.inr (Or.inr (Or.inr (Or.inr (Or.inr rfl)))), Int.le_trans (by decide) h.1, Int.le_trans h.2 (by decide)⟩
theorem fine_split {n : Nat} (h : n ≤ 100) : Fine ⟨"split", .split (List.replicate n 0)⟩ :=
  ⟨Or.inl rfl, fun x hx => by rw [List.eq_of_mem_replicate hx]; exact Nat.pow_pos (by decide), Or.inr (Or.inr (Or.inr (Or.inr (Or.inl rfl)))), fun x hx => by rw [List.eq_of_mem_replicate hx]; decide, by rw [List.length_replicate]; exact h⟩
theorem rows_120 {w n : Nat} {cs : List Cd} (hg : Good w cs) : ∀ r ∈ prows n 0 cs, Bt 120 r := fun r hr x hx => by
  obtain ⟨a, c, rfl, _, h2, h3, h4⟩ := prows_ok cs 0 hg r hr
  have e := p120
  rcases List.mem_append.mp hx with z | z
  · have := h2 x z
    omega
  · rw [List.mem_singleton.mp z]
    omega
theorem prows_len2 {w : Nat} {cs : List Cd} (hg : Good w cs) : Len (w + nd cs) (prows (nd cs) 0 cs) := fun r hr => by
  obtain ⟨a, c, rfl, h1, _⟩ := prows_ok cs 0 hg r hr
  rw [List.length_append, h1] <;> rfl
theorem fit_fine {w : Nat} {cs : List Cd} {ls : List Ln} (hg : Good w cs) (h : ∀ l ∈ ls, Fine l) (hl : ls.length ≤ 100) : fit (w + nd cs) (prows (nd cs) 0 cs) [] ls :=
  fit_bits (f := 120) (by decide) ls _ [] 120 (Nat.le_refl _) (rows_120 hg) (fun q hq => absurd hq List.not_mem_nil) (fun l h' => (h l h').bits) (by have := Nat.mul_le_mul_right 128 hl; omega)
theorem askE {C : Addr} {w : Nat} {cs : List Cd} {ls : List Ln} {D : List Dat} {b : Bool} (hb : run (w + nd cs) (prows (nd cs) 0 cs) [] ls = b) (hD : D = eL ls) : [sysD C w cs, Dat.lst D, Dat.bl b] = [sysD C w cs, .lst (ls.map Ln.enc), .bl (run (w + nd cs) (prows (nd cs) 0 cs) [] ls)] := by
  subst hD hb
  rfl
abbrev flL (e : Int) : Ln := ⟨"false", .fls e⟩
theorem lt13 (C : Addr) {M M1 : Mem} {Q : Rv → Mem → Prop} (q : ∀ M', Q (.d (.bl true)) M') {w : Nat} {cs : List Cd} {ls : List Ln} {x : Ln} {ends : List Int} {z0 z1 z2 z4 z6 z11 z13 z14 z15 z16 : Option Dat} (hw : w ≤ 2) (hcl : cs.length ≤ 6) (hg : Good w cs)
    (hls : ∀ l ∈ ls, Fine l) (hsum : ∀ l ∈ ls, ∃ w d ps, l = ⟨w, .sum d ps⟩) (hll : ls.length ≤ 10) (hx : Fine x) (hends : ∀ e ∈ ends, -1000000000000000000000000000000000 ≤ e ∧ e ≤ 1000000000000000000000000000000000) :
    rt13_law C (enD M Q) [z0, z1, z2, some (.int (w : Int)), z4, some (.lst (eL ls)), z6, some (sysD C w cs), some (.lst ((prows (nd cs) 0 cs).map encR)), some (.int ((w + nd cs : Nat) : Int)), some (.lst (iL ends)), z11, some x.enc, z13, z14, z15, z16] M1 := by
  have hnd := nd_le cs
  have hpl := prows_len (n := nd cs) cs 0
  refine ⟨_, rfl, ?_⟩
  refine for_rest (enc := Dat.int) ends (fun r env m => (∀ e ∈ r, e ∈ ends) ∧ ∃ (z13 z14 z15 : Option Dat), env = [z0, z1, z2, some (.int (w : Int)), z4, some (.lst (eL ls)), z6, some (sysD C w cs), some (.lst ((prows (nd cs) 0 cs).map encR)), some (.int ((w + nd cs : Nat) : Int)), some (.lst (iL ends)), z11, some x.enc, z13, z14, z15, z16]) ⟨fun _ h => h, _, _, _, rfl⟩ (fun _ _ _ _ => trivial) ?_ ?_
  · rintro e r env m ⟨hmem, z13, z14, z15, rfl⟩
    have he := hends e (hmem e List.mem_cons_self)
    have hmem' : ∀ y ∈ r, y ∈ ends := fun y hy => hmem y (List.mem_cons_of_mem _ hy)
    have hpf : ∀ l ∈ ls ++ [flL e], Fine l := fun l hl => (List.mem_append.mp hl).elim (hls l) fun z => by rw [List.mem_singleton.mp z]; exact fine_fls he
    have hplen : (ls ++ [flL e]).length ≤ 11 := by rw [List.length_append]; show _ + 1 ≤ _; omega
    have el : eL ls ++ [Dat.tup [.str "false", .int e]] = eL (ls ++ [flL e]) := (eL_app ls [flL e]).symm
    refine ⟨l2, l1, _, _, rfl, rfl, lz (by show (eL ls).length + 1 ≤ _; rw [eL_len]; omega), ?_⟩
    refine ⟨w + nd cs, prows (nd cs) 0 cs, ls ++ [flL e], ?_, prows_len2 hg, by omega, by omega, by omega, fun l h => (hpf l h).wd, fit_fine hg hpf (by omega), ?_⟩
    · exact congrArg (fun l => [Dat.int ((w + nd cs : Nat) : Int), .lst ((prows (nd cs) 0 cs).map encR), .lst l]) el
    obtain ⟨b, hb⟩ : ∃ b, run (w + nd cs) (prows (nd cs) 0 cs) [] (ls ++ [flL e]) = b := ⟨_, rfl⟩
    rw [hb]
    refine ⟨w, cs, ls ++ [flL e], askE hb el, by omega, by omega, (by omega), hg, fun l h' => (hpf l h').wd, fit_fine hg hpf (by omega), shows_lines (fun l h' => (hpf l h').sh) (by omega), ?_⟩
    cases b with
    | false => exact ⟨hmem', _, _, _, rfl⟩
    | true =>
      refine ⟨l1, _, _, rfl, rfl, lz (by show (eL ls ++ [Dat.tup [.str "false", .int e]]).length + 1 ≤ _; rw [el, eL_len]; omega), ?_⟩
      have hpx : ∀ l ∈ ls ++ [flL e] ++ [x], Fine l := fun l hl => (List.mem_append.mp hl).elim (hpf l) fun z => by rw [List.mem_singleton.mp z]; exact hx
      have lpx : (ls ++ [flL e] ++ [x]).length ≤ 100 := by rw [List.length_append]; show _ + 1 ≤ _; omega
      have elx : eL ls ++ [Dat.tup [.str "false", .int e]] ++ [x.enc] = eL (ls ++ [flL e] ++ [x]) := by rw [el, eL_app (ls ++ [_]) [x]] <;> rfl
      refine ⟨w, cs, ls ++ [flL e] ++ [x], askE (run_more _ _ _ x [] hb) elx, by omega, by omega, lpx, hg, fun l h' => (hpx l h').wd, fit_fine hg hpx lpx, shows_lines (fun l h' => (hpx l h').sh) (by omega), ?_⟩
      refine ⟨_, rfl, _, _, rfl, rfl, ?_, ?_⟩
      · show (eL ls ++ [Dat.tup [.str "false", .int e]]).length + (cut (eL ls ++ [Dat.tup [.str "false", .int e]]) (some (-1)) none).length ≤ sizeLine
        rw [cut_last, el, eL_len]
        exact lz (by show _ + 1 ≤ _; omega)
      have hpy : ∀ l ∈ ls ++ [flL e] ++ [flL e], Fine l := fun l hl => (List.mem_append.mp hl).elim (hpf l) fun z => by rw [List.mem_singleton.mp z]; exact fine_fls he
      have lpy : (ls ++ [flL e] ++ [flL e]).length ≤ 100 := by rw [List.length_append]; show _ + 1 ≤ _; omega
      have ely : eL ls ++ [Dat.tup [.str "false", .int e]] ++ cut (eL ls ++ [Dat.tup [.str "false", .int e]]) (some (-1)) none = eL (ls ++ [flL e] ++ [flL e]) := by rw [cut_last, el, eL_app (ls ++ [_]) [_]] <;> rfl
      refine ⟨w, cs, ls ++ [flL e] ++ [flL e], askE (run_more _ _ _ _ [] hb) ely, by omega, by omega, lpy, hg, fun l h' => (hpy l h').wd, fit_fine hg hpy lpy, shows_lines (fun l h' => (hpy l h').sh) (by omega), ?_⟩
      exact ⟨hmem', _, _, _, rfl⟩
  · rintro env m ⟨_, z13, z14, z15, rfl⟩
    have noL : ∀ l ∈ ([] : List Ln), Fine l := fun l h => absurd h List.not_mem_nil
    refine ⟨w, cs, ls, askE (run_sums ls _ _ hsum) rfl, by omega, by omega, (by omega), hg, fun l h' => (hls l h').wd, fit_fine hg hls (by omega), shows_lines (fun l h' => (hls l h').sh) (by omega),Nat.zero_le _, w, cs, [], askE (D := []) (b := false) (by rw [run]) rfl, by omega, by omega, (Nat.zero_le _), hg, fun l h' => (noL l h').wd, fit_fine hg noL (Nat.zero_le _), shows_lines (fun l h' => (noL l h').sh) (Nat.zero_le _), ?_⟩
    exact q _
end Lw
set_option Elab.async false
set_option linter.all false
set_option maxRecDepth 100000
set_option maxHeartbeats 4000000
namespace Lw
open PySem PySem.Spec PyProof.Rows L2 Dl
theorem cut_63 {xs : List Dat} : cut xs none (some 63) = xs.take 63 := cut_to (k := 63)
theorem gd_good4 {w : Nat} {x : Cd} (h : Gd w 10000 x) : Gd w 10000000000000000000 x := ⟨h.1, h.2.1, by have := h.2.2.1; omega, by have := h.2.2.2.1; omega, h.2.2.2.2⟩
theorem rngD_iL (lo : Int) (n : Nat) : rngD lo n = iL ((List.range n).map fun i : Nat => lo + (i : Int)) := by
  unfold rngD
  show _ = List.map Dat.int (List.map _ _)
  rw [List.map_map] <;> rfl
theorem prows_sm {w n : Nat} : ∀ {r : List Cd} {s : Nat}, (∀ x ∈ r, Gd w 10000 x) → ∀ y ∈ prows n s r, Sm 1000000000 y
  | [], s, _, y, hy => absurd hy List.not_mem_nil
  | x :: r, s, hg, y, hy => by
    have gx := hg x List.mem_cons_self
    have px : Sm 1000000000 (prow n s x) := fun z hz => by
      rcases List.mem_append.mp (show z ∈ x.a ++ qv n s x.k ++ [x.c] from hz) with k | k
      · rcases List.mem_append.mp k with k | k
        · exact gx.2.1 z k
        · have := qv_sm gx.2.2.2.2 z k
          omega
      · rw [List.mem_singleton.mp k]
        have h1 := gx.2.2.1
        have h2 := gx.2.2.2.1
        omega
    rcases List.mem_append.mp (show y ∈ prows1 n s x ++ prows n (nxt s x.k) r from hy) with k | k
    · unfold prows1 at k
      rcases List.mem_cons.mp k with z | z
      · rw [z]; exact px
      · split at z
        · exact absurd z List.not_mem_nil
        · rw [List.mem_singleton.mp z]
          intro v hv
          obtain ⟨u, hu, rfl⟩ := List.mem_map.mp hv
          have := px u hu
          omega
    · exact prows_sm (fun z hz => hg z (List.mem_cons_of_mem _ hz)) y k
theorem e1029 : (10 : Int) ^ (29 : Int).toNat = 100000000000000000000000000000 := by decide
theorem e1030 : (10 : Int) ^ (30 : Int).toNat = 1000000000000000000000000000000 := by decide
theorem cp1030 : CPow 10 30 := ⟨by decide, by decide, by decide⟩
theorem cp1029 : CPow 10 29 := ⟨by decide, by decide, by decide⟩
theorem fine_sl {m : Nat} {l : Ln} (h : Sl m l) (hm : m ≤ 20) : Fine l := by
  obtain ⟨w, d, ps, rfl, hw, hd, hl, hp⟩ := h
  exact fine_sum (d := d) (ps := ps) hw (by omega) (by omega) fun p hp' => ⟨by have := hp p hp'; omega, by have := hp p hp'; omega, by have := hp p hp'; omega⟩
theorem fine_scaled {m : Nat} {l : Ln} (h : Sl m l) (hm : m ≤ 20) : Fine (scale 100000000000000000000000000000 l) := by
  obtain ⟨w, d, ps, rfl, hw, hd, hl, hp⟩ := h
  refine fine_sum (d := 100000000000000000000000000000 * d) (ps := ps.map fun p => (p.1, 100000000000000000000000000000 * p.2)) hw (by omega) (by rw [List.length_map]; omega) fun p hp' => ?_
  obtain ⟨x, hx, rfl⟩ := List.mem_map.mp hp'
  have := hp x hx
  exact ⟨by omega, by show -1000000000000000000000000000000000 ≤ 100000000000000000000000000000 * x.2; omega, by show 100000000000000000000000000000 * x.2 ≤ 1000000000000000000000000000000000; omega⟩
theorem sum_sl {m : Nat} {l : Ln} (h : Sl m l) : ∃ w d ps, l = ⟨w, .sum d ps⟩ := by
  obtain ⟨w, d, ps, rfl, _⟩ := h
  exact ⟨w, d, ps, rfl⟩
theorem sum_scaled {m : Nat} {l : Ln} (f : Int) (h : Sl m l) : ∃ w d ps, scale f l = ⟨w, .sum d ps⟩ := by
  obtain ⟨w, d, ps, rfl, _⟩ := h
  exact ⟨w, f * d, ps.map fun p => (p.1, f * p.2), rfl⟩
theorem lt11 (C : Addr) {M M1 : Mem} {Q : Rv → Mem → Prop} {p : Addr} (hP : PoolAt M1 p) (q : ∀ M', Q (.d (.bl true)) M') {w : Nat} {cs : List Cd} {ls : List Ln} {ends : List Int} {size : Int} {z0 z2 z4 z11 z12 z13 z14 z15 z16 : Option Dat} (hw : w ≤ 2) (hcl : cs.length ≤ 6) (hg : Good w cs) (hsz : 1 ≤ size ∧ size ≤ 1000)
    (hls : ∀ l ∈ ls, Fine l) (hsum : ∀ l ∈ ls, ∃ w d ps, l = ⟨w, .sum d ps⟩) (hll : ls.length ≤ 10) (hends : ∀ e ∈ ends, -1000000000000000000000000000000000 ≤ e ∧ e ≤ 1000000000000000000000000000000000) :
    rt11_law C (enD M Q) [z0, some (.cell p), z2, some (.int (w : Int)), z4, some (.lst (eL ls)), some (.int size), some (sysD C w cs), some (.lst ((prows (nd cs) 0 cs).map encR)), some (.int ((w + nd cs : Nat) : Int)), some (.lst (iL ends)), z11, z12, z13, z14, z15, z16] M1 := by
  have hnd := nd_le cs
  have eW : (((w + nd cs : Nat) : Int) + 1).toNat = w + nd cs + 1 := by omega
  refine ⟨l2, l1, l3, l2, l1, show -1000 ≤ ((w + nd cs : Nat) : Int) + 1 by omega, show ((w + nd cs : Nat) : Int) + 1 ≤ 1000 by omega, show 1 ≤ 1000 by decide, l2, l3, ?_⟩
  refine ⟨p, 3, rfl, hP, by decide, by decide, fun v M2 v0 v1 hM2 => ?_⟩
  have er : (List.replicate (((w + nd cs : Nat) : Int) + 1).toNat [Dat.int 0]).flatten = iL (List.replicate (w + nd cs + 1) 0) := by rw [eW, rep_flat, iL_rep]
  obtain ⟨x, hx, hxf⟩ : ∃ x : Ln, atI [Dat.tup [.str "sum", .int 1, .tup [.tup [.int 0, .int 1]]], .tup [.str "false", .int size], .tup [.str "split", .tup (List.replicate (((w + nd cs : Nat) : Int) + 1).toNat [Dat.int 0]).flatten]] v = some x.enc ∧ Fine x := by
    have v3 : v = 0 ∨ v = 1 ∨ v = 2 := by omega
    rcases v3 with rfl | rfl | rfl
    · refine ⟨⟨"sum", .sum 1 [(0, 1)]⟩, rfl, fine_sum (Or.inl rfl) (by decide) (by decide) fun y hy => ?_⟩
      rw [List.mem_singleton.mp hy]
      decide
    · exact ⟨⟨"false", .fls size⟩, rfl, fine_fls (by omega)⟩
    · refine ⟨⟨"split", .split (List.replicate (w + nd cs + 1) 0)⟩, ?_, fine_split (by omega)⟩
      rw [er] <;> rfl
  refine ⟨v, _, _, rfl, rfl, hx, ?_⟩
  exact lt13 C q hw hcl hg hls hsum hll hxf hends
end Lw
set_option Elab.async false
set_option linter.all false
set_option maxRecDepth 100000
set_option maxHeartbeats 4000000
namespace Lw
open PySem PySem.Spec PyProof.Rows L2 Dl
theorem dNext_i {E : En} {env : Dl.Env} {M : Mem} (h : E.nx env M) : dNext E env M := h
theorem lt10 (C : Addr) {M M' : Mem} {Q : Rv → Mem → Prop} {p : Addr} (hP : PoolAt M' p) (q : ∀ M', Q (.d (.bl true)) M') {w : Nat} {cs : List Cd} {ls2 : List Ln} {size edge : Int} {z0 z4 : Option Dat} (w2 : w ≤ 2) (hcl : cs.length ≤ 6) (hg : Good w cs) (hsz : 1 ≤ size ∧ size ≤ 1000)
    (hs2 : ∀ l ∈ ls2, Sl 5 l) (hl2 : ls2.length ≤ 7) (D : List Dat) (n : Nat) (hn : n ≤ 2000) (hD : D = rngD (-1) n) :
      rt10_law C (enD M Q) [z0, some (.cell p), some (.int edge), some (.int (w : Int)), z4, some (.lst (eL ls2)), some (.int size), some (sysD C w cs), some (.lst ((prows (nd cs) 0 cs).map encR)), some (.int ((w + nd cs : Nat) : Int)), some (.lst D), none, none, none, none, none, none] M' := by
    subst hD
    have rb : ∀ e ∈ (List.range n).map fun i : Nat => (-1 : Int) + (i : Int), -1000000000000000000000000000000000 ≤ e ∧ e ≤ 1000000000000000000000000000000000 := fun e he => by
      obtain ⟨i, hi, rfl⟩ := List.mem_map.mp he
      have := List.mem_range.mp hi
      omega
    refine ifC (eq_dec edge 3) (fun _ => ?_) (fun _ => ?_)
    · refine ⟨cp1029, ls2, (10 : Int) ^ (29 : Int).toNat, 5, rfl, by omega, by decide, hs2, cp1030, cp1030, l2, _, _, rfl, rfl, lz (by rw [rngD_len]; show n + 2 ≤ _; omega), ?_⟩
      have fin : ∀ (D L : List Dat), D = iL (((List.range n).map fun i : Nat => (-1 : Int) + (i : Int)) ++ [1000000000000000000000000000000, -1000000000000000000000000000000]) → L = eL (ls2.map (scale 100000000000000000000000000000)) →
          rt11_law C (enD M Q) [z0, some (.cell p), some (.int edge), some (.int (w : Int)), z4, some (.lst L), some (.int size), some (sysD C w cs), some (.lst ((prows (nd cs) 0 cs).map encR)), some (.int ((w + nd cs : Nat) : Int)), some (.lst D), none, none, none, none, none, none] M' := by
        intro D L h1 h2
        rw [h1, h2]
        refine lt11 C hP q w2 hcl hg hsz (fun l hl => ?_) (fun l hl => ?_) (by rw [List.length_map]; omega) fun e he => ?_
        · obtain ⟨y, hy, rfl⟩ := List.mem_map.mp hl
          exact fine_scaled (hs2 y hy) (by decide)
        · obtain ⟨y, hy, rfl⟩ := List.mem_map.mp hl
          exact sum_scaled _ (hs2 y hy)
        · rcases List.mem_append.mp he with z | z
          · exact rb e z
          · rcases List.mem_cons.mp z with z | z
            · rw [z]; decide
            · rw [List.mem_singleton.mp z]; decide
      refine fin _ _ ?_ ?_
      · show rngD (-1) n ++ [Dat.int ((10 : Int) ^ (30 : Int).toNat), Dat.int (-((10 : Int) ^ (30 : Int).toNat))] = _
        rw [e1030, rngD_iL, iL_app] <;> rfl
      · show eL (ls2.map (scale ((10 : Int) ^ (29 : Int).toNat))) = _
        rw [e1029]
    · have h := lt11 C (M := M) (Q := Q) (z0 := z0) (z2 := some (.int edge)) (z4 := z4) (z11 := none) (z12 := none) (z13 := none) (z14 := none) (z15 := none) (z16 := none) hP q w2 hcl hg hsz (fun l hl => fine_sl (hs2 l hl) (by decide)) (fun l hl => sum_sl (hs2 l hl)) (by omega) rb
      rw [← rngD_iL] at h
      exact dNext_i h
end Lw
set_option Elab.async false
set_option linter.all false
set_option maxRecDepth 100000
set_option maxHeartbeats 4000000
namespace Lw
open PySem PySem.Spec PyProof.Rows L2 Dl
theorem ok_law (C : Addr) (ds : List Dat) (M : Mem) (Q : Rv → Mem → Prop) (h : fs_law C ds M Q) : rd_law C (enD M Q) (startD N_law ds) M := by
  obtain ⟨ns, rfl, hns, q⟩ := h
  refine ⟨_, rfl, ?_⟩
  refine ⟨_, rfl, ?_, _, rfl, fun p hp => ?_⟩
  · intro xs h
    have h2 := Rv.d.inj h
    cases h2
  have hP0 : PoolAt (M.set p (.lst (cut (ns.map Dat.int) none (some 63)).reverse)) p := by
    refine ⟨(ns.take 63).reverse, by rw [List.length_reverse, List.length_take]; omega, ?_⟩
    rw [Mem.set_same, cut_63, ← List.map_take, ← List.map_reverse]
  refine ⟨p, 4, rfl, hP0, by decide, by decide, fun edge M0 e0 e1 hM0 => ?_⟩
  refine ⟨p, rfl, hM0.at, fun w cs ls size M1 w1 w2 hcl hcg hll hsl hsz hM1 => ?_⟩
  have hg : Good w cs := fun x hx => gd_good4 (hcg x hx)
  have hnd := nd_le cs
  have hpl := prows_len (n := nd cs) cs 0
  refine ⟨_, rfl, rfl, ?_⟩
  refine ⟨_, _, rfl, ?_⟩
  refine ⟨_, _, rfl, ?_⟩
  refine ⟨_, _, rfl, ?_⟩
  refine ⟨_, _, rfl, rfl, ?_⟩
  refine ⟨p, ls, size, 3, rfl, hM1.at, by omega, by decide, hsz, hsl, fun ls1 M2 hl1 hs1 hM2 => (fun z => ⟨z, z⟩) ?_⟩
  refine ⟨p, ls1, size, 4, rfl, hM2.at, by omega, by decide, hsz, hs1, fun ls2 M3 hl2 hs2 hM3 => (fun z => ⟨z, z⟩) ?_⟩
  refine fun x hx => ⟨x, w, .lst (cs.map Cd.enc), cs, rfl, Mem.set_same, rfl, by omega, by omega, hg, rfl, _, Mem.set_same, ?_⟩
  rw [Mem.set_set, Mem.del_set hx]
  refine ⟨w, cs, rfl, by omega, by omega, fun x hx => (hg x hx).1, ?_⟩
  refine ⟨_, rfl, ?_⟩
  refine lc_filter (enc := Cd.enc) cs (fun x => x.k.isDiv) Cd.enc (lz (by omega)) ?_ (fun x hx P hP => ?_) (fun x hx P hP => ?_) ?_
  · trivial
  · refine ⟨0, _, _, rfl, seq_enc x, its_0 x, ?_⟩
    show P (false != decide (x.k.nm = "div")) _
    rw [nm_div2]
    exact hP
  · exact hP _ rfl
  refine ⟨_, _, rfl, rfl, ?_⟩
  have ln : ((cs.filter fun x => x.k.isDiv).map Cd.enc).length = nd cs := List.length_map ..
  generalize hN : ((cs.filter fun x => x.k.isDiv).map Cd.enc).length = N at ln
  subst ln
  have hsm : ∀ r ∈ prows (nd cs) 0 cs, Sm 1000000000 r := prows_sm hcg
  refine ⟨w + nd cs, prows (nd cs) 0 cs, ls2, rfl, prows_len2 hg, by omega, by omega, hsm, by omega, hs2, ?_⟩
  refine ⟨_, _, rfl, rfl, by omega, by rw [eL_len]; omega, by rw [eL_len]; exact lz (by omega), ?_⟩
  refine lt10 C hM3.at q w2 hcl hg hsz hs2 (by omega) _ _ ?_ rfl
  show ((size + ((eL ls2).length : Int) + 1) - -1).toNat ≤ 2000
  rw [eL_len]
  omega
end Lw
set_option Elab.async false
set_option linter.all false
set_option maxRecDepth 100000
set_option maxHeartbeats 4000000
namespace Lw
open PySem PySem.Spec PyProof.Rows L2 Dl StX ClX
theorem sc_combined : FnScope N_combined ["parts"] (defScope s_combined) := ⟨rfl, rfl, rfl, by decide +kernel, rfl, by decide +kernel, by decide +kernel⟩
theorem bx_combined {P : Program} {w : World} {K : PySem.W.Frag} {mg : Str → Option Value} {base : Heap} {f : Addr} (b_tuple : mg ("tuple" : Str) = none) (b_zip : mg ("zip" : Str) = none) (b_len : mg ("len" : Str) = none) (cdv : Value) (A : Around) (outer : List PySem.Env) (s : Shared) (H : Hp) (E : XK) (hr : Room 0 (A.deeper (envOfC "combined" (defScope s_combined) s.heap.objs.size f cdv))) :
    ∃ t, BX (cxOf CX0 P w K mg base N_combined "combined" (defScope s_combined) f cdv A outer s H E).nox (defBody s_combined) t (rd_combined) := by
  have S := sc_combined
  exact ⟨_, bx_cons (sx_set S.nd (ex_mul (ex_lst (ax_cons (ex_int) (ax_nil))) (ex_len b_len (ax_cons (ex_ix (ex_ix (ex_var 0) (ex_int)) (ex_int)) (ax_nil)))))
    (bx_cons (sx_for PassesOwn.never rfl (ix_seq (ex_var 0)) (gx_tup rfl (gs_cons (gx_name S.nd) (gs_cons (gx_name S.nd) (gs_nil)))) (bx_one (sx_setLcPD (by decide) rfl S.nd (ix_zip b_zip (ax_cons (ex_var 1) (ax_cons (ex_var 3) (ax_nil)))) (blkOk_by (N := N_combined) (sc := defScope s_combined) (by decide +kernel)) (fun _ _ _ _ _ => pg_pair (j1 := 4) (j2 := 5) rfl S.nd rfl rfl (by first | exact .inl rfl | exact .inr rfl) (by first | exact .inl rfl | exact .inr rfl) (by first | exact .inl rfl | exact .inr rfl) (by first | exact .inl rfl | exact .inr rfl)) (fun _ _ _ _ _ => ⟨_, ts_nil⟩) (fun _ _ _ _ _ => ⟨_, ex_add (ex_var 4) (ex_mul (ex_var 2) (ex_var 5))⟩) (sw_true rfl rfl rfl (by decide +kernel)))))
    (bx_one (sx_ret (ex_tuple b_tuple (ax_cons (ex_var 1) (ax_nil))))))⟩
theorem sc_divisor : FnScope N_divisor ["row"] (defScope s_divisor) := ⟨rfl, rfl, rfl, by decide +kernel, rfl, by decide +kernel, by decide +kernel⟩
theorem bx_divisor {P : Program} {w : World} {K : PySem.W.Frag} {mg : Str → Option Value} {base : Heap} {f : Addr} (im_gcd : mg ("gcd" : Str) = some (.builtin "math.gcd")) (cdv : Value) (A : Around) (outer : List PySem.Env) (s : Shared) (H : Hp) (E : XK) (hr : Room 0 (A.deeper (envOfC "divisor" (defScope s_divisor) s.heap.objs.size f cdv))) :
    ∃ t, BX (cxOf CX0 P w K mg base N_divisor "divisor" (defScope s_divisor) f cdv A outer s H E).nox (defBody s_divisor) t (rd_divisor) := by
  have S := sc_divisor
  exact ⟨_, bx_cons (sx_set S.nd (ex_int))
    (bx_cons (sx_for PassesOwn.never rfl (ix_seq (ex_sl (ex_var 0) (ox_none) (ox_some (ex_neg (ex_int))))) (gx_name S.nd) (bx_one (sx_set S.nd (ex_gcd im_gcd (ax_cons (ex_var 1) (ax_cons (ex_var 2) (ax_nil)))))))
    (bx_one (sx_ret (ex_var 1))))⟩
theorem sc_divided : FnScope N_divided ["row", "d"] (defScope s_divided) := ⟨rfl, rfl, rfl, by decide +kernel, rfl, by decide +kernel, by decide +kernel⟩
theorem bx_divided {P : Program} {w : World} {K : PySem.W.Frag} {mg : Str → Option Value} {base : Heap} {f : Addr} (b_tuple : mg ("tuple" : Str) = none) (cdv : Value) (A : Around) (outer : List PySem.Env) (s : Shared) (H : Hp) (E : XK) (hr : Room 0 (A.deeper (envOfC "divided" (defScope s_divided) s.heap.objs.size f cdv))) :
    ∃ t, BX (cxOf CX0 P w K mg base N_divided "divided" (defScope s_divided) f cdv A outer s H E).nox (defBody s_divided) t (rd_divided) := by
  have S := sc_divided
  exact ⟨_, bx_one (sx_ret (ex_tuple b_tuple (ax_cons (ex_lcx rfl S.nd (ix_seq (ex_var 0)) (blkOk_by (N := N_divided) (sc := defScope s_divided) (by decide +kernel)) (fun _ _ _ _ _ => pg_name (i := 2) S.nd rfl (Or.inl rfl)) (fun _ _ _ _ _ => ⟨_, ts_nil⟩) (fun _ _ _ _ _ => ⟨_, ex_div (ex_var 2) (ex_var 1)⟩)) (ax_nil))))⟩
theorem sc_negated : FnScope N_negated ["row"] (defScope s_negated) := ⟨rfl, rfl, rfl, by decide +kernel, rfl, by decide +kernel, by decide +kernel⟩
theorem bx_negated {P : Program} {w : World} {K : PySem.W.Frag} {mg : Str → Option Value} {base : Heap} {f : Addr} (b_tuple : mg ("tuple" : Str) = none) (cdv : Value) (A : Around) (outer : List PySem.Env) (s : Shared) (H : Hp) (E : XK) (hr : Room 0 (A.deeper (envOfC "negated" (defScope s_negated) s.heap.objs.size f cdv))) :
    ∃ t, BX (cxOf CX0 P w K mg base N_negated "negated" (defScope s_negated) f cdv A outer s H E).nox (defBody s_negated) t (rd_negated) := by
  have S := sc_negated
  exact ⟨_, bx_one (sx_ret (ex_tuple b_tuple (ax_cons (ex_lcx rfl S.nd (ix_seq (ex_var 0)) (blkOk_by (N := N_negated) (sc := defScope s_negated) (by decide +kernel)) (fun _ _ _ _ _ => pg_name (i := 1) S.nd rfl (Or.inl rfl)) (fun _ _ _ _ _ => ⟨_, ts_nil⟩) (fun _ _ _ _ _ => ⟨_, ex_neg (ex_var 1)⟩)) (ax_nil))))⟩
theorem sc_raised : FnScope N_raised ["row", "c"] (defScope s_raised) := ⟨rfl, rfl, rfl, by decide +kernel, rfl, by decide +kernel, by decide +kernel⟩
theorem bx_raised {P : Program} {w : World} {K : PySem.W.Frag} {mg : Str → Option Value} {base : Heap} {f : Addr} (b_tuple : mg ("tuple" : Str) = none) (cdv : Value) (A : Around) (outer : List PySem.Env) (s : Shared) (H : Hp) (E : XK) (hr : Room 0 (A.deeper (envOfC "raised" (defScope s_raised) s.heap.objs.size f cdv))) :
    ∃ t, BX (cxOf CX0 P w K mg base N_raised "raised" (defScope s_raised) f cdv A outer s H E).nox (defBody s_raised) t (rd_raised) := by
  have S := sc_raised
  exact ⟨_, bx_one (sx_ret (ex_add (ex_tuple b_tuple (ax_cons (ex_sl (ex_var 0) (ox_none) (ox_some (ex_neg (ex_int)))) (ax_nil))) (ex_tup (ax_cons (ex_add (ex_ix (ex_var 0) (ex_neg (ex_int))) (ex_var 1)) (ax_nil)))))⟩
theorem sc_extended : FnScope N_extended ["row", "count"] (defScope s_extended) := ⟨rfl, rfl, rfl, by decide +kernel, rfl, by decide +kernel, by decide +kernel⟩
theorem bx_extended {P : Program} {w : World} {K : PySem.W.Frag} {mg : Str → Option Value} {base : Heap} {f : Addr} (b_tuple : mg ("tuple" : Str) = none) (cdv : Value) (A : Around) (outer : List PySem.Env) (s : Shared) (H : Hp) (E : XK) (hr : Room 0 (A.deeper (envOfC "extended" (defScope s_extended) s.heap.objs.size f cdv))) :
    ∃ t, BX (cxOf CX0 P w K mg base N_extended "extended" (defScope s_extended) f cdv A outer s H E).nox (defBody s_extended) t (rd_extended) := by
  have S := sc_extended
  exact ⟨_, bx_one (sx_ret (ex_add (ex_add (ex_tuple b_tuple (ax_cons (ex_sl (ex_var 0) (ox_none) (ox_some (ex_neg (ex_int)))) (ax_nil))) (ex_mul (ex_tup (ax_cons (ex_int) (ax_nil))) (ex_var 1))) (ex_tup (ax_cons (ex_ix (ex_var 0) (ex_neg (ex_int))) (ax_nil)))))⟩
theorem sc__sum_row : FnScope N__sum_row ["rows", "d", "parts"] (defScope s__sum_row) := ⟨rfl, rfl, rfl, by decide +kernel, rfl, by decide +kernel, by decide +kernel⟩
theorem bx__sum_row {P : Program} {w : World} {K : PySem.W.Frag} {mg : Str → Option Value} {base : Heap} {f : Addr} (h_divided : KnO P w K mg base "divided" 1 fs_divided) (h_combined : KnO P w K mg base "combined" 1 fs_combined) (b_len : mg ("len" : Str) = none) (cdv : Value) (A : Around) (outer : List PySem.Env) (s : Shared) (H : Hp) (E : XK) (hr : Room 1 (A.deeper (envOfC "_sum_row" (defScope s__sum_row) s.heap.objs.size f cdv))) :
    ∃ t, BX (cxOf CX0 P w K mg base N__sum_row "_sum_row" (defScope s__sum_row) f cdv A outer s H E).nox (defBody s__sum_row) t (rd__sum_row) := by
  have S := sc__sum_row
  exact ⟨_, bx_cons (sx_if (WX.tx (wx_or (tx_lt (ex_var 1) (ex_int)) (wx_or1 (tx_eq hr.units (ex_len b_len (ax_cons (ex_var 2) (ax_nil))) (ex_int))))) (bx_one (sx_ret (ex_non))) (bx_nil))
    (bx_cons (sx_for PassesOwn.never rfl (ix_seq (ex_var 2)) (gx_tup rfl (gs_cons (gx_name S.nd) (gs_cons (gx_name S.nd) (gs_nil)))) (bx_one (sx_if (WX.tx (wx_or (tx_not (tx_lelt (ex_int) (ex_var 3) (ex_len b_len (ax_cons (ex_var 0) (ax_nil))))) (wx_or1 (tx_lt (ex_var 4) (ex_int))))) (bx_one (sx_ret (ex_non))) (bx_nil))))
    (bx_cons (sx_set S.nd (ex_callO h_combined (hr.mono (by decide)) (ax_cons (ex_lcp (by decide) rfl S.nd (ix_seq (ex_var 2)) (blkOk_by (N := N__sum_row) (sc := defScope s__sum_row) (by decide +kernel)) (fun _ _ _ _ _ => pg_pair (j1 := 3) (j2 := 4) rfl S.nd rfl rfl (by first | exact .inl rfl | exact .inr rfl) (by first | exact .inl rfl | exact .inr rfl) (by first | exact .inl rfl | exact .inr rfl) (by first | exact .inl rfl | exact .inr rfl)) (fun _ _ _ _ _ => ⟨_, ts_nil⟩) (fun _ _ _ _ _ => ⟨_, ex_tup (ax_cons (ex_var 4) (ax_cons (ex_ix (ex_var 0) (ex_var 3)) (ax_nil)))⟩)) (ax_nil))))
    (bx_cons (sx_for PassesOwn.never rfl (ix_seq (ex_sl (ex_var 5) (ox_none) (ox_some (ex_neg (ex_int))))) (gx_name S.nd) (bx_one (sx_if (tx_ne hr.units (ex_mod (ex_var 6) (ex_var 1)) (ex_int)) (bx_one (sx_ret (ex_non))) (bx_nil))))
    (bx_one (sx_ret (ex_callO h_divided (hr.mono (by decide)) (ax_cons (ex_var 5) (ax_cons (ex_var 1) (ax_nil)))))))))⟩
theorem sc__is_false : FnScope N__is_false ["rows", "index"] (defScope s__is_false) := ⟨rfl, rfl, rfl, by decide +kernel, rfl, by decide +kernel, by decide +kernel⟩
theorem bx__is_false {P : Program} {w : World} {K : PySem.W.Frag} {mg : Str → Option Value} {base : Heap} {f : Addr} (b_len : mg ("len" : Str) = none) (cdv : Value) (A : Around) (outer : List PySem.Env) (s : Shared) (H : Hp) (E : XK) (hr : Room 0 (A.deeper (envOfC "_is_false" (defScope s__is_false) s.heap.objs.size f cdv))) :
    ∃ t, BX (cxOf CX0 P w K mg base N__is_false "_is_false" (defScope s__is_false) f cdv A outer s H E).nox (defBody s__is_false) t (rd__is_false) := by
  have S := sc__is_false
  exact ⟨_, bx_cons (sx_if (tx_not (tx_lelt (ex_int) (ex_var 1) (ex_len b_len (ax_cons (ex_var 0) (ax_nil))))) (bx_one (sx_ret (ex_bl))) (bx_nil))
    (bx_cons (sx_for PassesOwn.never rfl (ix_seq (ex_sl (ex_ix (ex_var 0) (ex_var 1)) (ox_none) (ox_some (ex_neg (ex_int))))) (gx_name S.nd) (bx_one (sx_if (tx_ne hr.units (ex_var 2) (ex_int)) (bx_one (sx_ret (ex_bl))) (bx_nil))))
    (bx_one (sx_ret (ex_lt (ex_ix (ex_ix (ex_var 0) (ex_var 1)) (ex_neg (ex_int))) (ex_int)))))⟩
theorem sc__copied : FnScope N__copied ["condition", "width"] (defScope s__copied) := ⟨rfl, rfl, rfl, by decide +kernel, rfl, by decide +kernel, by decide +kernel⟩
theorem bx__copied {P : Program} {w : World} {K : PySem.W.Frag} {mg : Str → Option Value} {base : Heap} {f : Addr} (b_len : mg ("len" : Str) = none) (b_tuple : mg ("tuple" : Str) = none) (cdv : Value) (A : Around) (outer : List PySem.Env) (s : Shared) (H : Hp) (E : XK) (hr : Room 0 (A.deeper (envOfC "_copied" (defScope s__copied) s.heap.objs.size f cdv))) :
    ∃ t, BX (cxOf CX0 P w K mg base N__copied "_copied" (defScope s__copied) f cdv A outer s H E).nox (defBody s__copied) t (rd__copied) := by
  have S := sc__copied
  exact ⟨_, bx_cons (sx_if (tx_nin (ex_ix (ex_var 0) (ex_int)) (ex_tup (ax_cons (ex_str) (ax_cons (ex_str) (ax_cons (ex_str) (ax_nil)))))) (bx_one (sx_ret (ex_non))) (bx_nil))
    (bx_cons (sx_set S.nd (ex_tuple b_tuple (ax_cons (ex_ix (ex_var 0) (ex_neg (ex_int))) (ax_nil))))
    (bx_cons (sx_if (tx_ne hr.units (ex_len b_len (ax_cons (ex_var 2) (ax_nil))) (ex_add (ex_var 1) (ex_int))) (bx_one (sx_ret (ex_non))) (bx_nil))
    (bx_cons (sx_if (tx_ne hr.units (ex_ix (ex_var 0) (ex_int)) (ex_str)) (bx_one (sx_ret (ex_tup (ax_cons (ex_ix (ex_var 0) (ex_int)) (ax_cons (ex_var 2) (ax_nil)))))) (bx_nil))
    (bx_cons (sx_if (tx_lt (ex_ix (ex_var 0) (ex_int)) (ex_int)) (bx_one (sx_ret (ex_non))) (bx_nil))
    (bx_one (sx_ret (ex_tup (ax_cons (ex_str) (ax_cons (ex_ix (ex_var 0) (ex_int)) (ax_cons (ex_var 2) (ax_nil)))))))))))⟩
theorem sc_System___init__ : FnScope N_System___init__ ["self", "width", "conditions"] (defScope s_System___init__) := ⟨rfl, rfl, rfl, by decide +kernel, rfl, by decide +kernel, by decide +kernel⟩
theorem bx_System___init__ {P : Program} {w : World} {K : PySem.W.Frag} {mg : Str → Option Value} {base : Heap} {f : Addr} {C_System : Addr} (b_tuple : mg ("tuple" : Str) = none) (hc_System : Cls K C_System) (na_System_conditions : NoAttr K C_System "conditions") (na_System_width : NoAttr K C_System "width") (h__copied : KnO P w K mg base "_copied" 1 fs__copied) (hv_System_MOST : KnV K mg "System" "MOST" (.int 80)) (cdv : Value) (A : Around) (outer : List PySem.Env) (s : Shared) (H : Hp) (E : XK) (hr : Room 1 (A.deeper (envOfC "System.__init__" (defScope s_System___init__) s.heap.objs.size f cdv))) :
    ∃ t, BX (cxOf CX0 P w K mg base N_System___init__ "System.__init__" (defScope s_System___init__) f cdv A outer s H E).nox (defBody s_System___init__) t (rd_System___init__ C_System) := by
  have S := sc_System___init__
  exact ⟨_, bx_cons (sx_if (tx_not (tx_lele (ex_int) (ex_var 1) (ex_cvalK hv_System_MOST))) (bx_one (sx_never)) (bx_nil))
    (bx_cons (sx_setC S.nd (ex_lst (ax_nil)))
    (bx_cons (sx_for PassesOwn.never rfl (ix_seq (ex_var 2)) (gx_name S.nd) (bx_cons (sx_set S.nd (ex_callO h__copied (hr.mono (by decide)) (ax_cons (ex_var 4) (ax_cons (ex_var 1) (ax_nil)))))
    (bx_cons (sx_if (tx_is (ex_var 5) (ex_non)) (bx_one (sx_never)) (bx_nil))
    (bx_one (sx_expr (ex_append (ex_var 3) (ex_var 5)))))))
    (bx_cons (sx_setF hc_System na_System_width (ex_var 1) (ex_var 0))
    (bx_one (sx_setF hc_System na_System_conditions (ex_tuple b_tuple (ax_cons (ex_var 3) (ax_nil))) (ex_var 0))))))⟩
theorem sc_System_plain_width : FnScope N_System_plain_width ["self"] (defScope s_System_plain_width) := ⟨rfl, rfl, rfl, by decide +kernel, rfl, by decide +kernel, by decide +kernel⟩
theorem bx_System_plain_width {P : Program} {w : World} {K : PySem.W.Frag} {mg : Str → Option Value} {base : Heap} {f : Addr} {C_System : Addr} (hc_System : Cls K C_System) (na_System_width : NoAttr K C_System "width") (na_System_conditions : NoAttr K C_System "conditions") (b_len : mg ("len" : Str) = none) (cdv : Value) (A : Around) (outer : List PySem.Env) (s : Shared) (H : Hp) (E : XK) (hr : Room 0 (A.deeper (envOfC "System.plain_width" (defScope s_System_plain_width) s.heap.objs.size f cdv))) :
    ∃ t, BX (cxOf CX0 P w K mg base N_System_plain_width "System.plain_width" (defScope s_System_plain_width) f cdv A outer s H E).nox (defBody s_System_plain_width) t (rd_System_plain_width C_System) := by
  have S := sc_System_plain_width
  exact ⟨_, bx_one (sx_ret (ex_add (ex_fld hc_System na_System_width (ex_var 0)) (ex_len b_len (ax_cons (ex_lcx rfl S.nd (ix_seq (ex_fld hc_System na_System_conditions (ex_var 0))) (blkOk_by (N := N_System_plain_width) (sc := defScope s_System_plain_width) (by decide +kernel)) (fun _ _ _ _ _ => pg_name (i := 1) S.nd rfl (Or.inl rfl)) (fun _ _ _ _ _ => ⟨_, ts_one (tx_eq hr.units (ex_ix (ex_var 1) (ex_int)) (ex_str))⟩) (fun _ _ _ _ _ => ⟨_, ex_var 1⟩)) (ax_nil)))))⟩
theorem sc_System_plain_rows : FnScope N_System_plain_rows ["self"] (defScope s_System_plain_rows) := ⟨rfl, rfl, rfl, by decide +kernel, rfl, by decide +kernel, by decide +kernel⟩
theorem bx_System_plain_rows {P : Program} {w : World} {K : PySem.W.Frag} {mg : Str → Option Value} {base : Heap} {f : Addr} {C_System : Addr} (hc_System : Cls K C_System) (na_System_conditions : NoAttr K C_System "conditions") (h_negated : KnO P w K mg base "negated" 1 fs_negated) (h_extended : KnO P w K mg base "extended" 1 fs_extended) (na_System_width : NoAttr K C_System "width") (hp_System_plain_width : KnP P w K mg base C_System "plain_width" 1 (fs_System_plain_width C_System)) (cdv : Value) (A : Around) (outer : List PySem.Env) (s : Shared) (H : Hp) (E : XK) (hr : Room 2 (A.deeper (envOfC "System.plain_rows" (defScope s_System_plain_rows) s.heap.objs.size f cdv))) :
    ∃ t, BX (cxOf CX0 P w K mg base N_System_plain_rows "System.plain_rows" (defScope s_System_plain_rows) f cdv A outer s H E).nox (defBody s_System_plain_rows) t (rd_System_plain_rows C_System) := by
  have S := sc_System_plain_rows
  exact ⟨_, bx_cons (sx_set S.nd (ex_sub (ex_propK hc_System hp_System_plain_width (hr.mono (by decide)) (ex_var 0)) (ex_fld hc_System na_System_width (ex_var 0))))
    (bx_cons (sx_setC S.nd (ex_lst (ax_nil)))
    (bx_cons (sx_set S.nd (ex_fld hc_System na_System_width (ex_var 0)))
    (bx_cons (sx_for PassesOwn.never rfl (ix_seq (ex_fld hc_System na_System_conditions (ex_var 0))) (gx_name S.nd) (bx_cons (sx_set S.nd (ex_callO h_extended (hr.mono (by decide)) (ax_cons (ex_ix (ex_var 4) (ex_neg (ex_int))) (ax_cons (ex_var 1) (ax_nil)))))
    (bx_cons (sx_if (tx_eq hr.units (ex_ix (ex_var 4) (ex_int)) (ex_str)) (bx_cons (sx_set S.nd (ex_add (ex_add (ex_sl (ex_var 5) (ox_none) (ox_some (ex_var 3))) (ex_tup (ax_cons (ex_neg (ex_ix (ex_var 4) (ex_int))) (ax_nil)))) (ex_sl (ex_var 5) (ox_some (ex_add (ex_var 3) (ex_int))) (ox_none))))
    (bx_one (sx_set S.nd (ex_add (ex_var 3) (ex_int))))) (bx_nil))
    (bx_cons (sx_expr (ex_append (ex_var 2) (ex_var 5)))
    (bx_one (sx_if (tx_ne hr.units (ex_ix (ex_var 4) (ex_int)) (ex_str)) (bx_one (sx_expr (ex_append (ex_var 2) (ex_callO h_negated (hr.mono (by decide)) (ax_cons (ex_var 5) (ax_nil)))))) (bx_nil)))))))
    (bx_one (sx_ret (ex_var 2))))))⟩
theorem sc_accepts : FnScope N_accepts ["system", "certificate"] (defScope s_accepts) := ⟨rfl, rfl, rfl, by decide +kernel, rfl, by decide +kernel, by decide +kernel⟩
theorem bx_accepts {P : Program} {w : World} {K : PySem.W.Frag} {mg : Str → Option Value} {base : Heap} {f : Addr} {C_System : Addr} (b_enumerate : mg ("enumerate" : Str) = none) (h__sum_row : KnO P w K mg base "_sum_row" 2 fs__sum_row) (h_negated : KnO P w K mg base "negated" 1 fs_negated) (h_raised : KnO P w K mg base "raised" 1 fs_raised) (b_tuple : mg ("tuple" : Str) = none) (b_len : mg ("len" : Str) = none) (h__is_false : KnO P w K mg base "_is_false" 1 fs__is_false) (hc_System : Cls K C_System) (hp_System_plain_width : KnP P w K mg base C_System "plain_width" 1 (fs_System_plain_width C_System)) (hm_System_plain_rows : KnM P w K mg base C_System "plain_rows" 3 (fs_System_plain_rows C_System)) (cdv : Value) (A : Around) (outer : List PySem.Env) (s : Shared) (H : Hp) (E : XK) (hr : Room 3 (A.deeper (envOfC "accepts" (defScope s_accepts) s.heap.objs.size f cdv))) :
    ∃ t, BX (cxOf CX0 P w K mg base N_accepts "accepts" (defScope s_accepts) f cdv A outer s H E).nox (defBody s_accepts) t (rd_accepts C_System) := by
  have S := sc_accepts
  exact ⟨_, bx_cons (sx_setC S.nd (ex_methK0 hc_System hm_System_plain_rows (hr.mono (by decide)) (ex_var 0)))
    (bx_cons (sx_set S.nd (ex_add (ex_propK hc_System hp_System_plain_width (hr.mono (by decide)) (ex_var 0)) (ex_int)))
    (bx_cons (sx_setC S.nd (ex_lst (ax_nil)))
    (bx_cons (sx_for PassesOwn.never rfl (ix_enum b_enumerate (ax_cons (ex_var 1) (ax_nil))) (gx_tup rfl (gs_cons (gx_name S.nd) (gs_cons (gx_name S.nd) (gs_nil)))) (bx_one (sx_if (tx_eq hr.units (ex_ix (ex_var 6) (ex_int)) (ex_str)) (bx_cons (sx_set S.nd (ex_callO h__sum_row (hr.mono (by decide)) (ax_cons (ex_var 2) (ax_cons (ex_ix (ex_var 6) (ex_int)) (ax_cons (ex_ix (ex_var 6) (ex_int)) (ax_nil))))))
    (bx_cons (sx_if (tx_is (ex_var 7) (ex_non)) (bx_one (sx_ret (ex_bl))) (bx_nil))
    (bx_one (sx_expr (ex_append (ex_var 2) (ex_var 7)))))) (bx_one (sx_if (tx_eq hr.units (ex_ix (ex_var 6) (ex_int)) (ex_str)) (bx_cons (sx_if (tx_ne hr.units (ex_len b_len (ax_cons (ex_ix (ex_var 6) (ex_int)) (ax_nil))) (ex_var 3)) (bx_one (sx_ret (ex_bl))) (bx_nil))
    (bx_cons (sx_expr (ex_append (ex_var 4) (ex_tup (ax_cons (ex_len b_len (ax_cons (ex_var 2) (ax_nil))) (ax_cons (ex_tuple b_tuple (ax_cons (ex_ix (ex_var 6) (ex_int)) (ax_nil))) (ax_nil))))))
    (bx_one (sx_expr (ex_append (ex_var 2) (ex_callO h_raised (hr.mono (by decide)) (ax_cons (ex_callO h_negated (hr.mono (by decide)) (ax_cons (ex_ix (ex_var 6) (ex_int)) (ax_nil))) (ax_cons (ex_neg (ex_int)) (ax_nil))))))))) (bx_one (sx_if (tx_eq hr.units (ex_ix (ex_var 6) (ex_int)) (ex_str)) (bx_cons (sx_if (tx_not (tx_val (ex_callO h__is_false (hr.mono (by decide)) (ax_cons (ex_var 2) (ax_cons (ex_ix (ex_var 6) (ex_int)) (ax_nil)))))) (bx_one (sx_ret (ex_bl))) (bx_nil))
    (bx_cons (sx_if (tx_not (tx_tru (ex_var 4))) (bx_one (sx_ret (ex_eq hr.units (ex_var 5) (ex_sub (ex_len b_len (ax_cons (ex_var 1) (ax_nil))) (ex_int))))) (bx_nil))
    (bx_cons (sx_asg (ex_pop (ex_var 4)) (gx_tup rfl (gs_cons (gx_name S.nd) (gs_cons (gx_name S.nd) (gs_nil)))))
    (bx_cons (sx_delT (ex_var 2) (ex_var 8))
    (bx_one (sx_expr (ex_append (ex_var 2) (ex_var 7)))))))) (bx_one (sx_ret (ex_bl))))))))))
    (bx_one (sx_ret (ex_bl))))))⟩
theorem sc__law_draw : FnScope N__law_draw ["_law_pool", "_law_many"] (defScope s__law_draw) := ⟨rfl, rfl, rfl, by decide +kernel, rfl, by decide +kernel, by decide +kernel⟩
theorem bx__law_draw {P : Program} {w : World} {K : PySem.W.Frag} {mg : Str → Option Value} {base : Heap} {f : Addr} (b_int : mg ("int" : Str) = none) (cdv : Value) (A : Around) (outer : List PySem.Env) (s : Shared) (H : Hp) (E : XK) (hr : Room 0 (A.deeper (envOfC "_law_draw" (defScope s__law_draw) s.heap.objs.size f cdv))) :
    ∃ t, BX (cxOf CX0 P w K mg base N__law_draw "_law_draw" (defScope s__law_draw) f cdv A outer s H E).nox (defBody s__law_draw) t (rd__law_draw) := by
  have S := sc__law_draw
  exact ⟨_, bx_cons (sx_if (tx_eq hr.units (ex_var 0) (ex_lst (ax_nil))) (bx_one (sx_ret (ex_int))) (bx_nil))
    (bx_cons (sx_set S.nd (ex_pop (ex_var 0)))
    (bx_cons (sx_set S.nd (ex_div (ex_var 2) (ex_var 1)))
    (bx_cons (sx_if (tx_nin (ex_var 3) (ex_tup (ax_cons (ex_int) (ax_cons (ex_neg (ex_int)) (ax_nil))))) (bx_one (sx_expr (ex_append (ex_var 0) (ex_var 3)))) (bx_nil))
    (bx_one (sx_ret (ex_mod (ex_toint b_int (ax_cons (ex_var 2) (ax_nil))) (ex_var 1)))))))⟩
theorem sc__law_number : FnScope N__law_number ["_law_pool", "_law_size", "_law_at"] (defScope s__law_number) := ⟨rfl, rfl, rfl, by decide +kernel, rfl, by decide +kernel, by decide +kernel⟩
theorem bx__law_number {P : Program} {w : World} {K : PySem.W.Frag} {mg : Str → Option Value} {base : Heap} {f : Addr} (h__law_draw : KnO P w K mg base "_law_draw" 1 fs__law_draw) (b_int : mg ("int" : Str) = none) (cdv : Value) (A : Around) (outer : List PySem.Env) (s : Shared) (H : Hp) (E : XK) (hr : Room 1 (A.deeper (envOfC "_law_number" (defScope s__law_number) s.heap.objs.size f cdv))) :
    ∃ t, BX (cxOf CX0 P w K mg base N__law_number "_law_number" (defScope s__law_number) f cdv A outer s H E).nox (defBody s__law_number) t (rd__law_number) := by
  have S := sc__law_number
  exact ⟨_, bx_one (sx_ret (ex_sub (ex_mod (ex_toint b_int (ax_cons (ex_add (ex_add (ex_callO h__law_draw (hr.mono (by decide)) (ax_cons (ex_var 0) (ax_cons (ex_add (ex_mul (ex_int) (ex_var 1)) (ex_int)) (ax_nil)))) (ex_var 1)) (ex_var 2)) (ax_nil))) (ex_add (ex_mul (ex_int) (ex_var 1)) (ex_int))) (ex_var 1)))⟩
theorem sc__law_plain : FnScope N__law_plain ["_law_width", "_law_rules"] (defScope s__law_plain) := ⟨rfl, rfl, rfl, by decide +kernel, rfl, by decide +kernel, by decide +kernel⟩
theorem bx__law_plain {P : Program} {w : World} {K : PySem.W.Frag} {mg : Str → Option Value} {base : Heap} {f : Addr} (b_tuple : mg ("tuple" : Str) = none) (b_len : mg ("len" : Str) = none) (cdv : Value) (A : Around) (outer : List PySem.Env) (s : Shared) (H : Hp) (E : XK) (hr : Room 0 (A.deeper (envOfC "_law_plain" (defScope s__law_plain) s.heap.objs.size f cdv))) :
    ∃ t, BX (cxOf CX0 P w K mg base N__law_plain "_law_plain" (defScope s__law_plain) f cdv A outer s H E).nox (defBody s__law_plain) t (rd__law_plain) := by
  have S := sc__law_plain
  exact ⟨_, bx_cons (sx_set S.nd (ex_len b_len (ax_cons (ex_lcx rfl S.nd (ix_seq (ex_var 1)) (blkOk_by (N := N__law_plain) (sc := defScope s__law_plain) (by decide +kernel)) (fun _ _ _ _ _ => pg_name (i := 5) S.nd rfl (Or.inl rfl)) (fun _ _ _ _ _ => ⟨_, ts_one (tx_eq hr.units (ex_ix (ex_var 5) (ex_int)) (ex_str))⟩) (fun _ _ _ _ _ => ⟨_, ex_var 5⟩)) (ax_nil))))
    (bx_cons (sx_setC S.nd (ex_lst (ax_nil)))
    (bx_cons (sx_set S.nd (ex_int))
    (bx_cons (sx_for PassesOwn.never rfl (ix_seq (ex_var 1)) (gx_name S.nd) (bx_cons (sx_set S.nd (ex_tuple b_tuple (ax_cons (ex_ix (ex_var 5) (ex_neg (ex_int))) (ax_nil))))
    (bx_cons (sx_setC S.nd (ex_mul (ex_lst (ax_cons (ex_int) (ax_nil))) (ex_var 2)))
    (bx_cons (sx_if (tx_eq hr.units (ex_ix (ex_var 5) (ex_int)) (ex_str)) (bx_cons (sx_setI (ex_neg (ex_ix (ex_var 5) (ex_int))) (ex_var 7) (ex_var 4))
    (bx_one (sx_set S.nd (ex_add (ex_var 4) (ex_int))))) (bx_nil))
    (bx_cons (sx_set S.nd (ex_add (ex_add (ex_sl (ex_var 6) (ox_none) (ox_some (ex_var 0))) (ex_tuple b_tuple (ax_cons (ex_var 7) (ax_nil)))) (ex_sl (ex_var 6) (ox_some (ex_var 0)) (ox_none))))
    (bx_cons (sx_expr (ex_append (ex_var 3) (ex_var 6)))
    (bx_one (sx_if (tx_ne hr.units (ex_ix (ex_var 5) (ex_int)) (ex_str)) (bx_one (sx_expr (ex_append (ex_var 3) (ex_tuple b_tuple (ax_cons (ex_lcx rfl S.nd (ix_seq (ex_var 6)) (blkOk_by (N := N__law_plain) (sc := defScope s__law_plain) (by decide +kernel)) (fun _ _ _ _ _ => pg_name (i := 8) S.nd rfl (Or.inl rfl)) (fun _ _ _ _ _ => ⟨_, ts_nil⟩) (fun _ _ _ _ _ => ⟨_, ex_neg (ex_var 8)⟩)) (ax_nil)))))) (bx_nil)))))))))
    (bx_one (sx_ret (ex_var 3))))))⟩
theorem sc__law_summed : FnScope N__law_summed ["_law_width", "_law_rows", "_law_line"] (defScope s__law_summed) := ⟨rfl, rfl, rfl, by decide +kernel, rfl, by decide +kernel, by decide +kernel⟩
theorem bx__law_summed {P : Program} {w : World} {K : PySem.W.Frag} {mg : Str → Option Value} {base : Heap} {f : Addr} (b_tuple : mg ("tuple" : Str) = none) (b_int : mg ("int" : Str) = none) (b_any : mg ("any" : Str) = none) (b_range : mg ("range" : Str) = none) (b_len : mg ("len" : Str) = none) (cdv : Value) (A : Around) (outer : List PySem.Env) (s : Shared) (H : Hp) (E : XK) (hr : Room 0 (A.deeper (envOfC "_law_summed" (defScope s__law_summed) s.heap.objs.size f cdv))) :
    ∃ t, BX (cxOf CX0 P w K mg base N__law_summed "_law_summed" (defScope s__law_summed) f cdv A outer s H E).nox (defBody s__law_summed) t (rd__law_summed) := by
  have S := sc__law_summed
  exact ⟨_, bx_cons (sx_if (WX.tx (wx_or (tx_lt (ex_ix (ex_var 2) (ex_int)) (ex_int)) (wx_or1 (tx_lt (ex_len b_len (ax_cons (ex_ix (ex_var 2) (ex_int)) (ax_nil))) (ex_int))))) (bx_one (sx_ret (ex_non))) (bx_nil))
    (bx_cons (sx_set S.nd (ex_mul (ex_lst (ax_cons (ex_int) (ax_nil))) (ex_add (ex_var 0) (ex_int))))
    (bx_cons (sx_for PassesOwn.never rfl (ix_seq (ex_ix (ex_var 2) (ex_int))) (gx_name S.nd) (bx_cons (sx_if (WX.tx (wx_or (tx_not (tx_lelt (ex_int) (ex_ix (ex_var 4) (ex_int)) (ex_len b_len (ax_cons (ex_var 1) (ax_nil))))) (wx_or1 (tx_lt (ex_ix (ex_var 4) (ex_int)) (ex_int))))) (bx_one (sx_ret (ex_non))) (bx_nil))
    (bx_cons (sx_set S.nd (ex_ix (ex_var 1) (ex_ix (ex_var 4) (ex_int))))
    (bx_one (sx_set S.nd (ex_lcx rfl S.nd (ix_rng1 b_range (ax_cons (ex_add (ex_var 0) (ex_int)) (ax_nil))) (blkOk_by (N := N__law_summed) (sc := defScope s__law_summed) (by decide +kernel)) (fun _ _ _ _ _ => pg_name (i := 6) S.nd rfl (Or.inl rfl)) (fun _ _ _ _ _ => ⟨_, ts_nil⟩) (fun _ _ _ _ _ => ⟨_, ex_add (ex_ix (ex_var 3) (ex_var 6)) (ex_mul (ex_ix (ex_var 4) (ex_int)) (ex_ix (ex_var 5) (ex_var 6)))⟩)))))))
    (bx_cons (sx_if (tx_val (ex_any rfl b_any (ax_cons (ex_lcx rfl S.nd (ix_seq (ex_sl (ex_var 3) (ox_none) (ox_some (ex_var 0)))) (blkOk_by (N := N__law_summed) (sc := defScope s__law_summed) (by decide +kernel)) (fun _ _ _ _ _ => pg_name (i := 7) S.nd rfl (Or.inl rfl)) (fun _ _ _ _ _ => ⟨_, ts_nil⟩) (fun _ _ _ _ _ => ⟨_, ex_ne hr.units (ex_mod (ex_toint b_int (ax_cons (ex_var 7) (ax_nil))) (ex_ix (ex_var 2) (ex_int))) (ex_int)⟩)) (ax_nil)))) (bx_one (sx_ret (ex_non))) (bx_nil))
    (bx_one (sx_ret (ex_tuple b_tuple (ax_cons (ex_lcx rfl S.nd (ix_seq (ex_var 3)) (blkOk_by (N := N__law_summed) (sc := defScope s__law_summed) (by decide +kernel)) (fun _ _ _ _ _ => pg_name (i := 7) S.nd rfl (Or.inl rfl)) (fun _ _ _ _ _ => ⟨_, ts_nil⟩) (fun _ _ _ _ _ => ⟨_, ex_div (ex_var 7) (ex_ix (ex_var 2) (ex_int))⟩)) (ax_nil))))))))⟩
theorem sc__law_takes : FnScope N__law_takes ["_law_width", "_law_plain_here", "_law_lines"] (defScope s__law_takes) := ⟨rfl, rfl, rfl, by decide +kernel, rfl, by decide +kernel, by decide +kernel⟩
theorem bx__law_takes {P : Program} {w : World} {K : PySem.W.Frag} {mg : Str → Option Value} {base : Heap} {f : Addr} (b_len : mg ("len" : Str) = none) (b_range : mg ("range" : Str) = none) (b_any : mg ("any" : Str) = none) (b_list : mg ("list" : Str) = none) (h__law_summed : KnO P w K mg base "_law_summed" 1 fs__law_summed) (cdv : Value) (A : Around) (outer : List PySem.Env) (s : Shared) (H : Hp) (E : XK) (hr : Room 1 (A.deeper (envOfC "_law_takes" (defScope s__law_takes) s.heap.objs.size f cdv))) :
    ∃ t, BX (cxOf CX0 P w K mg base N__law_takes "_law_takes" (defScope s__law_takes) f cdv A outer s H E).nox (defBody s__law_takes) t (rd__law_takes) := by
  have S := sc__law_takes
  exact ⟨_, bx_cons (sx_setC S.nd (ex_list b_list (ax_cons (ex_var 1) (ax_nil))))
    (bx_cons (sx_setC S.nd (ex_lst (ax_nil)))
    (bx_cons (sx_set S.nd (ex_bl))
    (bx_cons (sx_for PassesOwn.never rfl (ix_seq (ex_var 2)) (gx_name S.nd) (bx_cons (sx_set S.nd (ex_non))
    (bx_cons (sx_if (WX.tx (wx_and (tx_not (tx_val (ex_var 5))) (wx_and1 (tx_eq hr.units (ex_ix (ex_var 6) (ex_int)) (ex_str))))) (bx_one (sx_set S.nd (ex_callO h__law_summed (hr.mono (by decide)) (ax_cons (ex_var 0) (ax_cons (ex_var 3) (ax_cons (ex_var 6) (ax_nil))))))) (bx_nil))
    (bx_cons (sx_if (WX.tx (wx_and (tx_not (tx_val (ex_var 5))) (wx_and (tx_eq hr.units (ex_ix (ex_var 6) (ex_int)) (ex_str)) (wx_and1 (tx_eq hr.units (ex_len b_len (ax_cons (ex_ix (ex_var 6) (ex_int)) (ax_nil))) (ex_add (ex_var 0) (ex_int))))))) (bx_cons (sx_expr (ex_append (ex_var 4) (ex_tup (ax_cons (ex_len b_len (ax_cons (ex_var 3) (ax_nil))) (ax_cons (ex_list b_list (ax_cons (ex_ix (ex_var 6) (ex_int)) (ax_nil))) (ax_nil))))))
    (bx_cons (sx_setLcC rfl S.nd (ix_seq (ex_ix (ex_var 6) (ex_int))) (blkOk_by (N := N__law_takes) (sc := defScope s__law_takes) (by decide +kernel)) (fun _ _ _ _ _ => pg_name (i := 10) S.nd rfl (Or.inl rfl)) (fun _ _ _ _ _ => ⟨_, ts_nil⟩) (fun _ _ _ _ _ => ⟨_, ex_neg (ex_var 10)⟩) (sw_true rfl rfl rfl (by decide +kernel)))
    (bx_one (sx_setI (ex_sub (ex_ix (ex_var 7) (ex_var 0)) (ex_int)) (ex_var 7) (ex_var 0))))) (bx_nil))
    (bx_cons (sx_if (WX.tx (wx_and (tx_not (tx_val (ex_var 5))) (wx_and (tx_eq hr.units (ex_ix (ex_var 6) (ex_int)) (ex_str)) (wx_and1 (tx_lelt (ex_int) (ex_ix (ex_var 6) (ex_int)) (ex_len b_len (ax_cons (ex_var 3) (ax_nil)))))))) (bx_cons (sx_set S.nd (ex_ix (ex_var 3) (ex_ix (ex_var 6) (ex_int))))
    (bx_one (sx_if (WX.tx (wx_and (tx_lt (ex_ix (ex_var 8) (ex_var 0)) (ex_int)) (wx_and1 (tx_not (tx_val (ex_any rfl b_any (ax_cons (ex_lcx rfl S.nd (ix_rng1 b_range (ax_cons (ex_var 0) (ax_nil))) (blkOk_by (N := N__law_takes) (sc := defScope s__law_takes) (by decide +kernel)) (fun _ _ _ _ _ => pg_name (i := 11) S.nd rfl (Or.inl rfl)) (fun _ _ _ _ _ => ⟨_, ts_nil⟩) (fun _ _ _ _ _ => ⟨_, ex_ne hr.units (ex_ix (ex_var 8) (ex_var 11)) (ex_int)⟩)) (ax_nil)))))))) (bx_cons (sx_set S.nd (ex_eq hr.units (ex_var 4) (ex_lst (ax_nil))))
    (bx_cons (sx_set S.nd (ex_var 8))
    (bx_one (sx_if (tx_not (tx_val (ex_var 5))) (bx_cons (sx_set S.nd (ex_pop (ex_var 4)))
    (bx_cons (sx_setC S.nd (ex_sl (ex_var 3) (ox_none) (ox_some (ex_ix (ex_var 9) (ex_int)))))
    (bx_one (sx_set S.nd (ex_ix (ex_var 9) (ex_int)))))) (bx_nil))))) (bx_nil)))) (bx_nil))
    (bx_cons (sx_if (tx_is (ex_var 7) (ex_non)) (bx_one (sx_ret (ex_bl))) (bx_nil))
    (bx_one (sx_expr (ex_append (ex_var 3) (ex_holdM (ex_var 7)))))))))))
    (bx_one (sx_ret (ex_var 5))))))⟩
theorem sc__law_times : FnScope N__law_times ["_law_row", "_law_factor"] (defScope s__law_times) := ⟨rfl, rfl, rfl, by decide +kernel, rfl, by decide +kernel, by decide +kernel⟩
theorem bx__law_times {P : Program} {w : World} {K : PySem.W.Frag} {mg : Str → Option Value} {base : Heap} {f : Addr} (b_tuple : mg ("tuple" : Str) = none) (cdv : Value) (A : Around) (outer : List PySem.Env) (s : Shared) (H : Hp) (E : XK) (hr : Room 0 (A.deeper (envOfC "_law_times" (defScope s__law_times) s.heap.objs.size f cdv))) :
    ∃ t, BX (cxOf CX0 P w K mg base N__law_times "_law_times" (defScope s__law_times) f cdv A outer s H E).nox (defBody s__law_times) t (rd__law_times) := by
  have S := sc__law_times
  exact ⟨_, bx_one (sx_ret (ex_tuple b_tuple (ax_cons (ex_lcx rfl S.nd (ix_seq (ex_var 0)) (blkOk_by (N := N__law_times) (sc := defScope s__law_times) (by decide +kernel)) (fun _ _ _ _ _ => pg_name (i := 2) S.nd rfl (Or.inl rfl)) (fun _ _ _ _ _ => ⟨_, ts_nil⟩) (fun _ _ _ _ _ => ⟨_, ex_mul (ex_var 1) (ex_var 2)⟩)) (ax_nil))))⟩
theorem sc__law_noise : FnScope N__law_noise ["_law_pool", "_law_width", "_law_at"] (defScope s__law_noise) := ⟨rfl, rfl, rfl, by decide +kernel, rfl, by decide +kernel, by decide +kernel⟩
theorem bx__law_noise {P : Program} {w : World} {K : PySem.W.Frag} {mg : Str → Option Value} {base : Heap} {f : Addr} (h__law_number : KnO P w K mg base "_law_number" 2 fs__law_number) (b_tuple : mg ("tuple" : Str) = none) (b_range : mg ("range" : Str) = none) (h__law_draw : KnO P w K mg base "_law_draw" 1 fs__law_draw) (b_int : mg ("int" : Str) = none) (cdv : Value) (A : Around) (outer : List PySem.Env) (s : Shared) (H : Hp) (E : XK) (hr : Room 2 (A.deeper (envOfC "_law_noise" (defScope s__law_noise) s.heap.objs.size f cdv))) :
    ∃ t, BX (cxOf CX0 P w K mg base N__law_noise "_law_noise" (defScope s__law_noise) f cdv A outer s H E).nox (defBody s__law_noise) t (rd__law_noise) := by
  have S := sc__law_noise
  exact ⟨_, bx_cons (sx_set S.nd (ex_mod (ex_toint b_int (ax_cons (ex_add (ex_callO h__law_draw (hr.mono (by decide)) (ax_cons (ex_var 0) (ax_cons (ex_int) (ax_nil)))) (ex_var 2)) (ax_nil))) (ex_int)))
    (bx_cons (sx_set S.nd (ex_add (ex_int) (ex_callO h__law_draw (hr.mono (by decide)) (ax_cons (ex_var 0) (ax_cons (ex_int) (ax_nil))))))
    (bx_cons (sx_setLcD rfl S.nd (ix_rng1 b_range (ax_cons (ex_var 1) (ax_nil))) (blkOk_by (N := N__law_noise) (sc := defScope s__law_noise) (by decide +kernel)) (fun _ _ _ _ _ => pg_name (i := 6) S.nd rfl (Or.inl rfl)) (fun _ _ _ _ _ => ⟨_, ts_nil⟩) (fun _ _ _ _ _ => ⟨_, ex_callO h__law_number (hr.mono (by decide)) (ax_cons (ex_var 0) (ax_cons (ex_int) (ax_cons (ex_add (ex_var 2) (ex_var 6)) (ax_nil))))⟩) (sw_true rfl rfl rfl (by decide +kernel)))
    (bx_cons (sx_set S.nd (ex_tuple b_tuple (ax_cons (ex_add (ex_var 5) (ex_lst (ax_cons (ex_callO h__law_number (hr.mono (by decide)) (ax_cons (ex_var 0) (ax_cons (ex_int) (ax_cons (ex_var 2) (ax_nil))))) (ax_nil)))) (ax_nil))))
    (bx_cons (sx_if (tx_eq hr.units (ex_var 3) (ex_int)) (bx_one (sx_ret (ex_tup (ax_cons (ex_str) (ax_cons (ex_var 4) (ax_cons (ex_var 5) (ax_nil))))))) (bx_nil))
    (bx_one (sx_ret (ex_tup (ax_cons (ex_ix (ex_lst (ax_cons (ex_str) (ax_cons (ex_str) (ax_nil)))) (ex_var 3)) (ax_cons (ex_var 5) (ax_nil))))))))))⟩
theorem sc__law_pair : FnScope N__law_pair ["_law_pool", "_law_v", "_law_at", "_law_size"] (defScope s__law_pair) := ⟨rfl, rfl, rfl, by decide +kernel, rfl, by decide +kernel, by decide +kernel⟩
theorem bx__law_pair {P : Program} {w : World} {K : PySem.W.Frag} {mg : Str → Option Value} {base : Heap} {f : Addr} (h__law_draw : KnO P w K mg base "_law_draw" 1 fs__law_draw) (h__law_times : KnO P w K mg base "_law_times" 1 fs__law_times) (b_int : mg ("int" : Str) = none) (h__law_number : KnO P w K mg base "_law_number" 2 fs__law_number) (cdv : Value) (A : Around) (outer : List PySem.Env) (s : Shared) (H : Hp) (E : XK) (hr : Room 2 (A.deeper (envOfC "_law_pair" (defScope s__law_pair) s.heap.objs.size f cdv))) :
    ∃ t, BX (cxOf CX0 P w K mg base N__law_pair "_law_pair" (defScope s__law_pair) f cdv A outer s H E).nox (defBody s__law_pair) t (rd__law_pair) := by
  have S := sc__law_pair
  exact ⟨_, bx_cons (sx_set S.nd (ex_add (ex_int) (ex_callO h__law_draw (hr.mono (by decide)) (ax_cons (ex_var 0) (ax_cons (ex_int) (ax_nil))))))
    (bx_cons (sx_set S.nd (ex_add (ex_int) (ex_callO h__law_draw (hr.mono (by decide)) (ax_cons (ex_var 0) (ax_cons (ex_int) (ax_nil))))))
    (bx_cons (sx_set S.nd (ex_callO h__law_number (hr.mono (by decide)) (ax_cons (ex_var 0) (ax_cons (ex_int) (ax_cons (ex_int) (ax_nil))))))
    (bx_cons (sx_set S.nd (ex_add (ex_sub (ex_neg (ex_div (ex_mul (ex_var 4) (ex_var 6)) (ex_var 5))) (ex_int)) (ex_toint b_int (ax_cons (ex_eq hr.units (ex_callO h__law_draw (hr.mono (by decide)) (ax_cons (ex_var 0) (ax_cons (ex_int) (ax_nil)))) (ex_int)) (ax_nil)))))
    (bx_cons (sx_setC S.nd (ex_lst (ax_cons (ex_tup (ax_cons (ex_str) (ax_cons (ex_add (ex_callO h__law_times (hr.mono (by decide)) (ax_cons (ex_var 1) (ax_cons (ex_var 5) (ax_nil)))) (ex_tup (ax_cons (ex_var 6) (ax_nil)))) (ax_nil)))) (ax_nil))))
    (bx_cons (sx_expr (ex_append (ex_var 8) (ex_tup (ax_cons (ex_str) (ax_cons (ex_add (ex_callO h__law_times (hr.mono (by decide)) (ax_cons (ex_var 1) (ax_cons (ex_neg (ex_var 4)) (ax_nil)))) (ex_tup (ax_cons (ex_var 7) (ax_nil)))) (ax_nil))))))
    (bx_cons (sx_if (tx_eq hr.units (ex_callO h__law_draw (hr.mono (by decide)) (ax_cons (ex_var 0) (ax_cons (ex_int) (ax_nil)))) (ex_int)) (bx_one (sx_ret (ex_tup (ax_cons (ex_hold (ex_var 8)) (ax_cons (ex_lst (ax_cons (ex_tup (ax_cons (ex_str) (ax_cons (ex_add (ex_int) (ex_callO h__law_draw (hr.mono (by decide)) (ax_cons (ex_var 0) (ax_cons (ex_int) (ax_nil))))) (ax_cons (ex_tup (ax_cons (ex_tup (ax_cons (ex_var 2) (ax_cons (ex_var 4) (ax_nil)))) (ax_cons (ex_tup (ax_cons (ex_add (ex_var 2) (ex_int)) (ax_cons (ex_var 5) (ax_nil)))) (ax_nil)))) (ax_nil))))) (ax_nil))) (ax_nil)))))) (bx_nil))
    (bx_cons (sx_set S.nd (ex_lst (ax_cons (ex_tup (ax_cons (ex_str) (ax_cons (ex_var 5) (ax_cons (ex_tup (ax_cons (ex_tup (ax_cons (ex_var 2) (ax_cons (ex_int) (ax_nil)))) (ax_nil))) (ax_nil))))) (ax_cons (ex_tup (ax_cons (ex_str) (ax_cons (ex_var 4) (ax_cons (ex_tup (ax_cons (ex_tup (ax_cons (ex_add (ex_var 2) (ex_int)) (ax_cons (ex_int) (ax_nil)))) (ax_nil))) (ax_nil))))) (ax_nil)))))
    (bx_one (sx_ret (ex_tup (ax_cons (ex_hold (ex_var 8)) (ax_cons (ex_add (ex_var 9) (ex_lst (ax_cons (ex_tup (ax_cons (ex_str) (ax_cons (ex_int) (ax_cons (ex_tup (ax_cons (ex_tup (ax_cons (ex_var 3) (ax_cons (ex_int) (ax_nil)))) (ax_cons (ex_tup (ax_cons (ex_add (ex_var 3) (ex_int)) (ax_cons (ex_int) (ax_nil)))) (ax_nil)))) (ax_nil))))) (ax_nil)))) (ax_nil)))))))))))))⟩
theorem sc__law_parity : FnScope N__law_parity ["_law_pool", "_law_v", "_law_at", "_law_size"] (defScope s__law_parity) := ⟨rfl, rfl, rfl, by decide +kernel, rfl, by decide +kernel, by decide +kernel⟩
theorem bx__law_parity {P : Program} {w : World} {K : PySem.W.Frag} {mg : Str → Option Value} {base : Heap} {f : Addr} (h__law_times : KnO P w K mg base "_law_times" 1 fs__law_times) (h__law_number : KnO P w K mg base "_law_number" 2 fs__law_number) (h__law_draw : KnO P w K mg base "_law_draw" 1 fs__law_draw) (cdv : Value) (A : Around) (outer : List PySem.Env) (s : Shared) (H : Hp) (E : XK) (hr : Room 2 (A.deeper (envOfC "_law_parity" (defScope s__law_parity) s.heap.objs.size f cdv))) :
    ∃ t, BX (cxOf CX0 P w K mg base N__law_parity "_law_parity" (defScope s__law_parity) f cdv A outer s H E).nox (defBody s__law_parity) t (rd__law_parity) := by
  have S := sc__law_parity
  exact ⟨_, bx_cons (sx_set S.nd (ex_add (ex_int) (ex_callO h__law_draw (hr.mono (by decide)) (ax_cons (ex_var 0) (ax_cons (ex_int) (ax_nil))))))
    (bx_cons (sx_set S.nd (ex_add (ex_add (ex_mul (ex_var 4) (ex_callO h__law_number (hr.mono (by decide)) (ax_cons (ex_var 0) (ax_cons (ex_int) (ax_cons (ex_int) (ax_nil)))))) (ex_int)) (ex_callO h__law_draw (hr.mono (by decide)) (ax_cons (ex_var 0) (ax_cons (ex_var 4) (ax_nil))))))
    (bx_cons (sx_setC S.nd (ex_lst (ax_cons (ex_tup (ax_cons (ex_str) (ax_cons (ex_var 4) (ax_cons (ex_tup (ax_cons (ex_tup (ax_cons (ex_var 2) (ax_cons (ex_int) (ax_nil)))) (ax_nil))) (ax_nil))))) (ax_cons (ex_tup (ax_cons (ex_str) (ax_cons (ex_var 4) (ax_cons (ex_tup (ax_cons (ex_tup (ax_cons (ex_add (ex_var 2) (ex_int)) (ax_cons (ex_int) (ax_nil)))) (ax_nil))) (ax_nil))))) (ax_nil)))))
    (bx_cons (sx_expr (ex_append (ex_var 6) (ex_tup (ax_cons (ex_str) (ax_cons (ex_int) (ax_cons (ex_tup (ax_cons (ex_tup (ax_cons (ex_add (ex_var 3) (ex_int)) (ax_cons (ex_int) (ax_nil)))) (ax_cons (ex_tup (ax_cons (ex_var 3) (ax_cons (ex_int) (ax_nil)))) (ax_nil)))) (ax_nil)))))))
    (bx_one (sx_ret (ex_tup (ax_cons (ex_lst (ax_cons (ex_tup (ax_cons (ex_str) (ax_cons (ex_add (ex_callO h__law_times (hr.mono (by decide)) (ax_cons (ex_var 1) (ax_cons (ex_var 4) (ax_nil)))) (ex_tup (ax_cons (ex_var 5) (ax_nil)))) (ax_nil)))) (ax_nil))) (ax_cons (ex_hold (ex_var 6)) (ax_nil)))))))))⟩
theorem sc__law_remainder : FnScope N__law_remainder ["_law_pool", "_law_v", "_law_at", "_law_size"] (defScope s__law_remainder) := ⟨rfl, rfl, rfl, by decide +kernel, rfl, by decide +kernel, by decide +kernel⟩
theorem bx__law_remainder {P : Program} {w : World} {K : PySem.W.Frag} {mg : Str → Option Value} {base : Heap} {f : Addr} (h__law_draw : KnO P w K mg base "_law_draw" 1 fs__law_draw) (h__law_number : KnO P w K mg base "_law_number" 2 fs__law_number) (cdv : Value) (A : Around) (outer : List PySem.Env) (s : Shared) (H : Hp) (E : XK) (hr : Room 2 (A.deeper (envOfC "_law_remainder" (defScope s__law_remainder) s.heap.objs.size f cdv))) :
    ∃ t, BX (cxOf CX0 P w K mg base N__law_remainder "_law_remainder" (defScope s__law_remainder) f cdv A outer s H E).nox (defBody s__law_remainder) t (rd__law_remainder) := by
  have S := sc__law_remainder
  exact ⟨_, bx_cons (sx_set S.nd (ex_add (ex_int) (ex_callO h__law_draw (hr.mono (by decide)) (ax_cons (ex_var 0) (ax_cons (ex_int) (ax_nil))))))
    (bx_cons (sx_set S.nd (ex_callO h__law_number (hr.mono (by decide)) (ax_cons (ex_var 0) (ax_cons (ex_int) (ax_cons (ex_int) (ax_nil))))))
    (bx_cons (sx_set S.nd (ex_add (ex_int) (ex_callO h__law_draw (hr.mono (by decide)) (ax_cons (ex_var 0) (ax_cons (ex_var 4) (ax_nil))))))
    (bx_cons (sx_setC S.nd (ex_lst (ax_cons (ex_tup (ax_cons (ex_str) (ax_cons (ex_var 4) (ax_cons (ex_tup (ax_cons (ex_tup (ax_cons (ex_var 2) (ax_cons (ex_int) (ax_nil)))) (ax_cons (ex_tup (ax_cons (ex_add (ex_var 2) (ex_int)) (ax_cons (ex_int) (ax_nil)))) (ax_nil)))) (ax_nil))))) (ax_nil))))
    (bx_cons (sx_expr (ex_append (ex_var 7) (ex_tup (ax_cons (ex_str) (ax_cons (ex_var 4) (ax_cons (ex_tup (ax_cons (ex_tup (ax_cons (ex_add (ex_var 2) (ex_int)) (ax_cons (ex_int) (ax_nil)))) (ax_cons (ex_tup (ax_cons (ex_add (ex_var 2) (ex_int)) (ax_cons (ex_int) (ax_nil)))) (ax_nil)))) (ax_nil)))))))
    (bx_cons (sx_expr (ex_append (ex_var 7) (ex_tup (ax_cons (ex_str) (ax_cons (ex_int) (ax_cons (ex_tup (ax_cons (ex_tup (ax_cons (ex_var 3) (ax_cons (ex_int) (ax_nil)))) (ax_cons (ex_tup (ax_cons (ex_add (ex_var 3) (ex_int)) (ax_cons (ex_int) (ax_nil)))) (ax_nil)))) (ax_nil)))))))
    (bx_one (sx_ret (ex_tup (ax_cons (ex_lst (ax_cons (ex_tup (ax_cons (ex_str) (ax_cons (ex_var 4) (ax_cons (ex_add (ex_var 1) (ex_tup (ax_cons (ex_var 5) (ax_nil)))) (ax_nil))))) (ax_cons (ex_tup (ax_cons (ex_str) (ax_cons (ex_add (ex_var 1) (ex_tup (ax_cons (ex_add (ex_var 5) (ex_var 6)) (ax_nil)))) (ax_nil)))) (ax_nil)))) (ax_cons (ex_hold (ex_var 7)) (ax_nil)))))))))))⟩
theorem sc__law_free : FnScope N__law_free ["_law_pool", "_law_size"] (defScope s__law_free) := ⟨rfl, rfl, rfl, by decide +kernel, rfl, by decide +kernel, by decide +kernel⟩
theorem bx__law_free {P : Program} {w : World} {K : PySem.W.Frag} {mg : Str → Option Value} {base : Heap} {f : Addr} (h__law_draw : KnO P w K mg base "_law_draw" 1 fs__law_draw) (b_range : mg ("range" : Str) = none) (b_tuple : mg ("tuple" : Str) = none) (b_int : mg ("int" : Str) = none) (cdv : Value) (A : Around) (outer : List PySem.Env) (s : Shared) (H : Hp) (E : XK) (hr : Room 1 (A.deeper (envOfC "_law_free" (defScope s__law_free) s.heap.objs.size f cdv))) :
    ∃ t, BX (cxOf CX0 P w K mg base N__law_free "_law_free" (defScope s__law_free) f cdv A outer s H E).nox (defBody s__law_free) t (rd__law_free) := by
  have S := sc__law_free
  exact ⟨_, bx_cons (sx_setC S.nd (ex_lst (ax_nil)))
    (bx_cons (sx_for PassesOwn.never rfl (ix_rng1 b_range (ax_cons (ex_callO h__law_draw (hr.mono (by decide)) (ax_cons (ex_var 0) (ax_cons (ex_int) (ax_nil)))) (ax_nil))) (gx_name S.nd) (bx_cons (sx_set S.nd (ex_add (ex_add (ex_var 1) (ex_var 3)) (ex_int)))
    (bx_cons (sx_setC S.nd (ex_lst (ax_nil)))
    (bx_cons (sx_for PassesOwn.never rfl (ix_rng1 b_range (ax_cons (ex_mod (ex_toint b_int (ax_cons (ex_add (ex_callO h__law_draw (hr.mono (by decide)) (ax_cons (ex_var 0) (ax_cons (ex_int) (ax_nil)))) (ex_int)) (ax_nil))) (ex_int)) (ax_nil))) (gx_name S.nd) (bx_cons (sx_set S.nd (ex_sub (ex_mod (ex_toint b_int (ax_cons (ex_add (ex_callO h__law_draw (hr.mono (by decide)) (ax_cons (ex_var 0) (ax_cons (ex_var 4) (ax_nil)))) (ex_int)) (ax_nil))) (ex_var 4)) (ex_int)))
    (bx_one (sx_expr (ex_append (ex_var 5) (ex_tup (ax_cons (ex_var 7) (ax_cons (ex_sub (ex_mod (ex_toint b_int (ax_cons (ex_add (ex_callO h__law_draw (hr.mono (by decide)) (ax_cons (ex_var 0) (ax_cons (ex_int) (ax_nil)))) (ex_int)) (ax_nil))) (ex_int)) (ex_int)) (ax_nil)))))))))
    (bx_one (sx_expr (ex_append (ex_var 2) (ex_tup (ax_cons (ex_str) (ax_cons (ex_mod (ex_toint b_int (ax_cons (ex_add (ex_callO h__law_draw (hr.mono (by decide)) (ax_cons (ex_var 0) (ax_cons (ex_int) (ax_nil)))) (ex_int)) (ax_nil))) (ex_int)) (ax_cons (ex_tuple b_tuple (ax_cons (ex_var 5) (ax_nil))) (ax_nil))))))))))))
    (bx_one (sx_ret (ex_tup (ax_cons (ex_lst (ax_nil)) (ax_cons (ex_hold (ex_var 2)) (ax_nil)))))))⟩
theorem sc__law_world : FnScope N__law_world ["_law_pool"] (defScope s__law_world) := ⟨rfl, rfl, rfl, by decide +kernel, rfl, by decide +kernel, by decide +kernel⟩
theorem bx__law_world {P : Program} {w : World} {K : PySem.W.Frag} {mg : Str → Option Value} {base : Heap} {f : Addr} (h__law_pair : KnO P w K mg base "_law_pair" 3 fs__law_pair) (h__law_parity : KnO P w K mg base "_law_parity" 3 fs__law_parity) (h__law_remainder : KnO P w K mg base "_law_remainder" 3 fs__law_remainder) (h__law_free : KnO P w K mg base "_law_free" 2 fs__law_free) (h__law_plain : KnO P w K mg base "_law_plain" 1 fs__law_plain) (b_len : mg ("len" : Str) = none) (b_range : mg ("range" : Str) = none) (h__law_number : KnO P w K mg base "_law_number" 2 fs__law_number) (b_tuple : mg ("tuple" : Str) = none) (h__law_noise : KnO P w K mg base "_law_noise" 3 fs__law_noise) (b_int : mg ("int" : Str) = none) (h__law_draw : KnO P w K mg base "_law_draw" 1 fs__law_draw) (b_max : mg ("max" : Str) = none) (cdv : Value) (A : Around) (outer : List PySem.Env) (s : Shared) (H : Hp) (E : XK) (hr : Room 3 (A.deeper (envOfC "_law_world" (defScope s__law_world) s.heap.objs.size f cdv))) :
    ∃ t, BX (cxOf CX0 P w K mg base N__law_world "_law_world" (defScope s__law_world) f cdv A outer s H E).nox (defBody s__law_world) t (rd__law_world) := by
  have S := sc__law_world
  exact ⟨_, bx_cons (sx_set S.nd (ex_sub (ex_int) (ex_callO h__law_draw (hr.mono (by decide)) (ax_cons (ex_var 0) (ax_cons (ex_int) (ax_nil))))))
    (bx_cons (sx_set S.nd (ex_callO h__law_draw (hr.mono (by decide)) (ax_cons (ex_var 0) (ax_cons (ex_int) (ax_nil)))))
    (bx_cons (sx_set S.nd (ex_mod (ex_toint b_int (ax_cons (ex_add (ex_callO h__law_draw (hr.mono (by decide)) (ax_cons (ex_var 0) (ax_cons (ex_int) (ax_nil)))) (ex_int)) (ax_nil))) (ex_int)))
    (bx_cons (sx_set S.nd (ex_max2 rfl b_max (ax_cons (ex_callO h__law_draw (hr.mono (by decide)) (ax_cons (ex_var 0) (ax_cons (ex_int) (ax_nil)))) (ax_cons (ex_toint b_int (ax_cons (ex_eq hr.units (ex_var 2) (ex_int)) (ax_nil))) (ax_nil)))))
    (bx_cons (sx_setLcD rfl S.nd (ix_rng1 b_range (ax_cons (ex_var 3) (ax_nil))) (blkOk_by (N := N__law_world) (sc := defScope s__law_world) (by decide +kernel)) (fun _ _ _ _ _ => pg_name (i := 11) S.nd rfl (Or.inl rfl)) (fun _ _ _ _ _ => ⟨_, ts_nil⟩) (fun _ _ _ _ _ => ⟨_, ex_callO h__law_noise (hr.mono (by decide)) (ax_cons (ex_var 0) (ax_cons (ex_var 1) (ax_cons (ex_add (ex_var 11) (ex_int)) (ax_nil))))⟩) (sw_true rfl rfl rfl (by decide +kernel)))
    (bx_cons (sx_setLcD rfl S.nd (ix_rng1 b_range (ax_cons (ex_var 4) (ax_nil))) (blkOk_by (N := N__law_world) (sc := defScope s__law_world) (by decide +kernel)) (fun _ _ _ _ _ => pg_name (i := 11) S.nd rfl (Or.inl rfl)) (fun _ _ _ _ _ => ⟨_, ts_nil⟩) (fun _ _ _ _ _ => ⟨_, ex_callO h__law_noise (hr.mono (by decide)) (ax_cons (ex_var 0) (ax_cons (ex_var 1) (ax_cons (ex_var 11) (ax_nil))))⟩) (sw_true rfl rfl rfl (by decide +kernel)))
    (bx_cons (sx_set S.nd (ex_tuple b_tuple (ax_cons (ex_lcx rfl S.nd (ix_rng1 b_range (ax_cons (ex_var 1) (ax_nil))) (blkOk_by (N := N__law_world) (sc := defScope s__law_world) (by decide +kernel)) (fun _ _ _ _ _ => pg_name (i := 11) S.nd rfl (Or.inl rfl)) (fun _ _ _ _ _ => ⟨_, ts_nil⟩) (fun _ _ _ _ _ => ⟨_, ex_callO h__law_number (hr.mono (by decide)) (ax_cons (ex_var 0) (ax_cons (ex_int) (ax_cons (ex_add (ex_var 11) (ex_int)) (ax_nil))))⟩)) (ax_nil))))
    (bx_cons (sx_set S.nd (ex_len b_len (ax_cons (ex_callO h__law_plain (hr.mono (by decide)) (ax_cons (ex_var 1) (ax_cons (ex_var 5) (ax_nil)))) (ax_nil))))
    (bx_cons (sx_set S.nd (ex_add (ex_add (ex_var 8) (ex_ix (ex_lst (ax_cons (ex_int) (ax_cons (ex_int) (ax_cons (ex_int) (ax_cons (ex_int) (ax_nil)))))) (ex_var 2))) (ex_len b_len (ax_cons (ex_callO h__law_plain (hr.mono (by decide)) (ax_cons (ex_var 1) (ax_cons (ex_var 6) (ax_nil)))) (ax_nil)))))
    (bx_cons (sx_if (tx_eq hr.units (ex_var 2) (ex_int)) (bx_one (sx_set S.nd (ex_callO h__law_pair (hr.mono (by decide)) (ax_cons (ex_var 0) (ax_cons (ex_var 7) (ax_cons (ex_var 8) (ax_cons (ex_var 9) (ax_nil)))))))) (bx_one (sx_if (tx_eq hr.units (ex_var 2) (ex_int)) (bx_one (sx_set S.nd (ex_callO h__law_parity (hr.mono (by decide)) (ax_cons (ex_var 0) (ax_cons (ex_var 7) (ax_cons (ex_var 8) (ax_cons (ex_var 9) (ax_nil)))))))) (bx_one (sx_if (tx_eq hr.units (ex_var 2) (ex_int)) (bx_one (sx_set S.nd (ex_callO h__law_remainder (hr.mono (by decide)) (ax_cons (ex_var 0) (ax_cons (ex_var 7) (ax_cons (ex_var 8) (ax_cons (ex_var 9) (ax_nil)))))))) (bx_one (sx_set S.nd (ex_callO h__law_free (hr.mono (by decide)) (ax_cons (ex_var 0) (ax_cons (ex_var 9) (ax_nil)))))))))))
    (bx_one (sx_ret (ex_tup (ax_cons (ex_var 1) (ax_cons (ex_add (ex_add (ex_var 5) (ex_ix (ex_var 10) (ex_int))) (ex_var 6)) (ax_cons (ex_ix (ex_var 10) (ex_int)) (ax_cons (ex_var 9) (ax_nil)))))))))))))))))⟩
theorem sc__law_spoilt : FnScope N__law_spoilt ["_law_pool", "_law_lines", "_law_size"] (defScope s__law_spoilt) := ⟨rfl, rfl, rfl, by decide +kernel, rfl, by decide +kernel, by decide +kernel⟩
theorem bx__law_spoilt {P : Program} {w : World} {K : PySem.W.Frag} {mg : Str → Option Value} {base : Heap} {f : Addr} (b_int : mg ("int" : Str) = none) (b_tuple : mg ("tuple" : Str) = none) (h__law_draw : KnO P w K mg base "_law_draw" 1 fs__law_draw) (b_len : mg ("len" : Str) = none) (b_max : mg ("max" : Str) = none) (cdv : Value) (A : Around) (outer : List PySem.Env) (s : Shared) (H : Hp) (E : XK) (hr : Room 1 (A.deeper (envOfC "_law_spoilt" (defScope s__law_spoilt) s.heap.objs.size f cdv))) :
    ∃ t, BX (cxOf CX0 P w K mg base N__law_spoilt "_law_spoilt" (defScope s__law_spoilt) f cdv A outer s H E).nox (defBody s__law_spoilt) t (rd__law_spoilt) := by
  have S := sc__law_spoilt
  exact ⟨_, bx_cons (sx_set S.nd (ex_callO h__law_draw (hr.mono (by decide)) (ax_cons (ex_var 0) (ax_cons (ex_int) (ax_nil)))))
    (bx_cons (sx_if (WX.tx (wx_or (tx_eq hr.units (ex_var 3) (ex_int)) (wx_or1 (tx_eq hr.units (ex_var 1) (ex_lst (ax_nil)))))) (bx_one (sx_ret (ex_var 1))) (bx_nil))
    (bx_cons (sx_set S.nd (ex_callO h__law_draw (hr.mono (by decide)) (ax_cons (ex_var 0) (ax_cons (ex_len b_len (ax_cons (ex_var 1) (ax_nil))) (ax_nil)))))
    (bx_cons (sx_asg (ex_ix (ex_var 1) (ex_var 4)) (gx_tup rfl (gs_cons (gx_name S.nd) (gs_cons (gx_name S.nd) (gs_cons (gx_name S.nd) (gs_nil))))))
    (bx_cons (sx_set S.nd (ex_callO h__law_draw (hr.mono (by decide)) (ax_cons (ex_var 0) (ax_cons (ex_max2 rfl b_max (ax_cons (ex_int) (ax_cons (ex_len b_len (ax_cons (ex_var 7) (ax_nil))) (ax_nil)))) (ax_nil)))))
    (bx_cons (sx_set S.nd (ex_ix (ex_lst (ax_cons (ex_neg (ex_int)) (ax_cons (ex_add (ex_var 2) (ex_var 4)) (ax_cons (ex_callO h__law_draw (hr.mono (by decide)) (ax_cons (ex_var 0) (ax_cons (ex_add (ex_var 2) (ex_var 4)) (ax_nil)))) (ax_nil))))) (ex_callO h__law_draw (hr.mono (by decide)) (ax_cons (ex_var 0) (ax_cons (ex_int) (ax_nil))))))
    (bx_cons (sx_set S.nd (ex_sub (ex_callO h__law_draw (hr.mono (by decide)) (ax_cons (ex_var 0) (ax_cons (ex_int) (ax_nil)))) (ex_int)))
    (bx_cons (sx_set S.nd (ex_sl (ex_var 7) (ox_some (ex_var 8)) (ox_some (ex_add (ex_var 8) (ex_int)))))
    (bx_cons (sx_if (tx_eq hr.units (ex_var 3) (ex_int)) (bx_one (sx_set S.nd (ex_callO h__law_draw (hr.mono (by decide)) (ax_cons (ex_var 0) (ax_cons (ex_int) (ax_nil)))))) (bx_nil))
    (bx_cons (sx_if (tx_eq hr.units (ex_var 3) (ex_int)) (bx_one (sx_set S.nd (ex_tuple b_tuple (ax_cons (ex_lcx rfl S.nd (ix_seq (ex_var 11)) (blkOk_by (N := N__law_spoilt) (sc := defScope s__law_spoilt) (by decide +kernel)) (fun _ _ _ _ _ => pg_name (i := 13) S.nd rfl (Or.inl rfl)) (fun _ _ _ _ _ => ⟨_, ts_nil⟩) (fun _ _ _ _ _ => ⟨_, ex_tup (ax_cons (ex_var 9) (ax_cons (ex_ix (ex_var 13) (ex_int)) (ax_nil)))⟩)) (ax_nil))))) (bx_nil))
    (bx_cons (sx_if (tx_eq hr.units (ex_var 3) (ex_int)) (bx_one (sx_set S.nd (ex_tuple b_tuple (ax_cons (ex_lcx rfl S.nd (ix_seq (ex_var 11)) (blkOk_by (N := N__law_spoilt) (sc := defScope s__law_spoilt) (by decide +kernel)) (fun _ _ _ _ _ => pg_name (i := 13) S.nd rfl (Or.inl rfl)) (fun _ _ _ _ _ => ⟨_, ts_nil⟩) (fun _ _ _ _ _ => ⟨_, ex_tup (ax_cons (ex_ix (ex_var 13) (ex_int)) (ax_cons (ex_var 10) (ax_nil)))⟩)) (ax_nil))))) (bx_nil))
    (bx_cons (sx_if (tx_eq hr.units (ex_var 3) (ex_int)) (bx_one (sx_set S.nd (ex_tup (ax_nil)))) (bx_nil))
    (bx_cons (sx_if (tx_eq hr.units (ex_var 3) (ex_int)) (bx_one (sx_set S.nd (ex_add (ex_var 11) (ex_tup (ax_cons (ex_tup (ax_cons (ex_var 9) (ax_cons (ex_var 10) (ax_nil)))) (ax_nil)))))) (bx_nil))
    (bx_cons (sx_if (tx_eq hr.units (ex_var 3) (ex_int)) (bx_one (sx_set S.nd (ex_ix (ex_lst (ax_cons (ex_str) (ax_cons (ex_str) (ax_cons (ex_str) (ax_nil))))) (ex_mod (ex_toint b_int (ax_cons (ex_var 10) (ax_nil))) (ex_int))))) (bx_nil))
    (bx_cons (sx_if (tx_eq hr.units (ex_var 3) (ex_int)) (bx_one (sx_ret (ex_add (ex_sl (ex_var 1) (ox_none) (ox_some (ex_var 4))) (ex_sl (ex_var 1) (ox_some (ex_add (ex_var 4) (ex_int))) (ox_none))))) (bx_nil))
    (bx_cons (sx_set S.nd (ex_tup (ax_cons (ex_var 5) (ax_cons (ex_var 6) (ax_cons (ex_add (ex_add (ex_sl (ex_var 7) (ox_none) (ox_some (ex_var 8))) (ex_var 11)) (ex_sl (ex_var 7) (ox_some (ex_add (ex_var 8) (ex_int))) (ox_none))) (ax_nil))))))
    (bx_cons (sx_if (tx_eq hr.units (ex_var 3) (ex_int)) (bx_one (sx_ret (ex_add (ex_sl (ex_var 1) (ox_none) (ox_some (ex_add (ex_var 4) (ex_int)))) (ex_sl (ex_var 1) (ox_some (ex_var 4)) (ox_none))))) (bx_nil))
    (bx_one (sx_ret (ex_add (ex_add (ex_sl (ex_var 1) (ox_none) (ox_some (ex_var 4))) (ex_lst (ax_cons (ex_var 12) (ax_nil)))) (ex_sl (ex_var 1) (ox_some (ex_add (ex_var 4) (ex_int))) (ox_none)))))))))))))))))))))⟩
theorem sc__law_scaled : FnScope N__law_scaled ["_law_lines", "_law_factor"] (defScope s__law_scaled) := ⟨rfl, rfl, rfl, by decide +kernel, rfl, by decide +kernel, by decide +kernel⟩
theorem bx__law_scaled {P : Program} {w : World} {K : PySem.W.Frag} {mg : Str → Option Value} {base : Heap} {f : Addr} (b_tuple : mg ("tuple" : Str) = none) (cdv : Value) (A : Around) (outer : List PySem.Env) (s : Shared) (H : Hp) (E : XK) (hr : Room 0 (A.deeper (envOfC "_law_scaled" (defScope s__law_scaled) s.heap.objs.size f cdv))) :
    ∃ t, BX (cxOf CX0 P w K mg base N__law_scaled "_law_scaled" (defScope s__law_scaled) f cdv A outer s H E).nox (defBody s__law_scaled) t (rd__law_scaled) := by
  have S := sc__law_scaled
  exact ⟨_, bx_cons (sx_setC S.nd (ex_lst (ax_nil)))
    (bx_cons (sx_for PassesOwn.never rfl (ix_seq (ex_var 0)) (gx_name S.nd) (bx_cons (sx_set S.nd (ex_tuple b_tuple (ax_cons (ex_lcx rfl S.nd (ix_seq (ex_ix (ex_var 3) (ex_int))) (blkOk_by (N := N__law_scaled) (sc := defScope s__law_scaled) (by decide +kernel)) (fun _ _ _ _ _ => pg_name (i := 5) S.nd rfl (Or.inl rfl)) (fun _ _ _ _ _ => ⟨_, ts_nil⟩) (fun _ _ _ _ _ => ⟨_, ex_tup (ax_cons (ex_ix (ex_var 5) (ex_int)) (ax_cons (ex_mul (ex_var 1) (ex_ix (ex_var 5) (ex_int))) (ax_nil)))⟩)) (ax_nil))))
    (bx_one (sx_expr (ex_append (ex_var 2) (ex_tup (ax_cons (ex_ix (ex_var 3) (ex_int)) (ax_cons (ex_mul (ex_var 1) (ex_ix (ex_var 3) (ex_int))) (ax_cons (ex_var 4) (ax_nil))))))))))
    (bx_one (sx_ret (ex_var 2))))⟩
theorem sc__law_gcd : FnScope N__law_gcd ["_law_row"] (defScope s__law_gcd) := ⟨rfl, rfl, rfl, by decide +kernel, rfl, by decide +kernel, by decide +kernel⟩
theorem bx__law_gcd {P : Program} {w : World} {K : PySem.W.Frag} {mg : Str → Option Value} {base : Heap} {f : Addr} (b_int : mg ("int" : Str) = none) (b_abs : mg ("abs" : Str) = none) (cdv : Value) (A : Around) (outer : List PySem.Env) (s : Shared) (H : Hp) (E : XK) (hr : Room 0 (A.deeper (envOfC "_law_gcd" (defScope s__law_gcd) s.heap.objs.size f cdv))) :
    ∃ t, BX (cxOf CX0 P w K mg base N__law_gcd "_law_gcd" (defScope s__law_gcd) f cdv A outer s H E).nox (defBody s__law_gcd) t (rd__law_gcd) := by
  have S := sc__law_gcd
  exact ⟨_, bx_cons (sx_set S.nd (ex_int))
    (bx_cons (sx_for PassesOwn.never rfl (ix_seq (ex_var 0)) (gx_name S.nd) (bx_cons (sx_set S.nd (ex_abs b_abs (ax_cons (ex_var 2) (ax_nil))))
    (bx_one (sx_while PassesOwn.never (tx_ne hr.units (ex_var 3) (ex_int)) (bx_one (sx_par rfl S.nd rfl rfl (by decide) rfl rfl (ax_cons (ex_var 3) (ax_cons (ex_mod (ex_toint b_int (ax_cons (ex_var 1) (ax_nil))) (ex_var 3)) (ax_nil))) (by rfl)))))))
    (bx_one (sx_ret (ex_var 1))))⟩
theorem sc__law_adds : FnScope N__law_adds ["_law_width", "_law_plain_here", "_law_lines"] (defScope s__law_adds) := ⟨rfl, rfl, rfl, by decide +kernel, rfl, by decide +kernel, by decide +kernel⟩
theorem bx__law_adds {P : Program} {w : World} {K : PySem.W.Frag} {mg : Str → Option Value} {base : Heap} {f : Addr} (h_divided : KnO P w K mg base "divided" 1 fs_divided) (b_repr : mg ("repr" : Str) = none) (h_divisor : KnO P w K mg base "divisor" 1 fs_divisor) (h__law_gcd : KnO P w K mg base "_law_gcd" 1 fs__law_gcd) (h_combined : KnO P w K mg base "combined" 1 fs_combined) (h__law_times : KnO P w K mg base "_law_times" 1 fs__law_times) (b_tuple : mg ("tuple" : Str) = none) (b_range : mg ("range" : Str) = none) (h__law_summed : KnO P w K mg base "_law_summed" 1 fs__law_summed) (b_list : mg ("list" : Str) = none) (cdv : Value) (A : Around) (outer : List PySem.Env) (s : Shared) (H : Hp) (E : XK) (hr : Room 1 (A.deeper (envOfC "_law_adds" (defScope s__law_adds) s.heap.objs.size f cdv))) (hgu : (A.deeper (envOfC "_law_adds" (defScope s__law_adds) s.heap.objs.size f cdv)).guards = some []) :
    ∃ t, BX (cxOf CX0 P w K mg base N__law_adds "_law_adds" (defScope s__law_adds) f cdv A outer s H E).nox (defBody s__law_adds) t (rd__law_adds) := by
  have S := sc__law_adds
  exact ⟨_, bx_cons (sx_setC S.nd (ex_list b_list (ax_cons (ex_var 1) (ax_nil))))
    (bx_cons (sx_for PassesOwn.never rfl (ix_seq (ex_var 2)) (gx_name S.nd) (bx_cons (sx_set S.nd (ex_callO h__law_summed (hr.mono (by decide)) (ax_cons (ex_var 0) (ax_cons (ex_var 3) (ax_cons (ex_var 4) (ax_nil))))))
    (bx_cons (sx_if (WX.tx (wx_or (tx_ne hr.units (ex_ix (ex_var 4) (ex_int)) (ex_str)) (wx_or1 (tx_is (ex_var 5) (ex_non))))) (bx_one (sx_ret (ex_bl))) (bx_nil))
    (bx_cons (sx_setLcD rfl S.nd (ix_seq (ex_ix (ex_var 4) (ex_int))) (blkOk_by (N := N__law_adds) (sc := defScope s__law_adds) (by decide +kernel)) (fun _ _ _ _ _ => pg_name (i := 11) S.nd rfl (Or.inl rfl)) (fun _ _ _ _ _ => ⟨_, ts_nil⟩) (fun _ _ _ _ _ => ⟨_, ex_tup (ax_cons (ex_ix (ex_var 11) (ex_int)) (ax_cons (ex_ix (ex_var 3) (ex_ix (ex_var 11) (ex_int))) (ax_nil)))⟩) (sw_true rfl rfl rfl (by decide +kernel)))
    (bx_cons (sx_set S.nd (ex_repr hgu hr.units b_repr (ax_cons (ex_var 6) (ax_nil))))
    (bx_cons (sx_set S.nd (ex_mul (ex_lst (ax_cons (ex_int) (ax_nil))) (ex_add (ex_var 0) (ex_int))))
    (bx_cons (sx_for PassesOwn.never rfl (ix_seq (ex_var 6)) (gx_tup rfl (gs_cons (gx_name S.nd) (gs_cons (gx_name S.nd) (gs_nil)))) (bx_one (sx_set S.nd (ex_lcx rfl S.nd (ix_rng1 b_range (ax_cons (ex_add (ex_var 0) (ex_int)) (ax_nil))) (blkOk_by (N := N__law_adds) (sc := defScope s__law_adds) (by decide +kernel)) (fun _ _ _ _ _ => pg_name (i := 12) S.nd rfl (Or.inl rfl)) (fun _ _ _ _ _ => ⟨_, ts_nil⟩) (fun _ _ _ _ _ => ⟨_, ex_add (ex_ix (ex_var 8) (ex_var 12)) (ex_mul (ex_var 9) (ex_ix (ex_var 10) (ex_var 12)))⟩)))))
    (bx_cons (sx_if (WX.tx (wx_or (tx_ne hr.units (ex_repr hgu hr.units b_repr (ax_cons (ex_callO h_combined (hr.mono (by decide)) (ax_cons (ex_var 6) (ax_nil))) (ax_nil))) (ex_repr hgu hr.units b_repr (ax_cons (ex_tuple b_tuple (ax_cons (ex_var 8) (ax_nil))) (ax_nil)))) (wx_or1 (tx_ne hr.units (ex_repr hgu hr.units b_repr (ax_cons (ex_var 6) (ax_nil))) (ex_var 7))))) (bx_one (sx_ret (ex_bl))) (bx_nil))
    (bx_cons (sx_if (tx_ne hr.units (ex_repr hgu hr.units b_repr (ax_cons (ex_callO h_combined (hr.mono (by decide)) (ax_cons (ex_tup (ax_cons (ex_tup (ax_cons (ex_neg (ex_int)) (ax_cons (ex_var 8) (ax_nil)))) (ax_cons (ex_tup (ax_cons (ex_int) (ax_cons (ex_var 5) (ax_nil)))) (ax_nil)))) (ax_nil))) (ax_nil))) (ex_repr hgu hr.units b_repr (ax_cons (ex_callO h__law_times (hr.mono (by decide)) (ax_cons (ex_var 8) (ax_cons (ex_neg (ex_int)) (ax_nil)))) (ax_nil)))) (bx_one (sx_ret (ex_bl))) (bx_nil))
    (bx_cons (sx_if (tx_ne hr.units (ex_repr hgu hr.units b_repr (ax_cons (ex_callO h_divisor (hr.mono (by decide)) (ax_cons (ex_var 8) (ax_nil))) (ax_nil))) (ex_repr hgu hr.units b_repr (ax_cons (ex_callO h__law_gcd (hr.mono (by decide)) (ax_cons (ex_sl (ex_var 8) (ox_none) (ox_some (ex_var 0))) (ax_nil))) (ax_nil)))) (bx_one (sx_ret (ex_bl))) (bx_nil))
    (bx_cons (sx_if (tx_ne hr.units (ex_repr hgu hr.units b_repr (ax_cons (ex_callO h_divided (hr.mono (by decide)) (ax_cons (ex_var 8) (ax_cons (ex_ix (ex_var 4) (ex_int)) (ax_nil)))) (ax_nil))) (ex_repr hgu hr.units b_repr (ax_cons (ex_var 5) (ax_nil)))) (bx_one (sx_ret (ex_bl))) (bx_nil))
    (bx_one (sx_expr (ex_append (ex_var 3) (ex_var 5)))))))))))))))
    (bx_one (sx_ret (ex_bl))))⟩
theorem sc__law_asked : FnScope N__law_asked ["_law_system", "_law_paper", "_law_due"] (defScope s__law_asked) := ⟨rfl, rfl, rfl, by decide +kernel, rfl, by decide +kernel, by decide +kernel⟩
theorem bx__law_asked {P : Program} {w : World} {K : PySem.W.Frag} {mg : Str → Option Value} {base : Heap} {f : Addr} {C_System : Addr} (b_repr : mg ("repr" : Str) = none) (b_tuple : mg ("tuple" : Str) = none) (h_accepts : KnO P w K mg base "accepts" 4 (fs_accepts C_System)) (b_list : mg ("list" : Str) = none) (cdv : Value) (A : Around) (outer : List PySem.Env) (s : Shared) (H : Hp) (E : XK) (hr : Room 4 (A.deeper (envOfC "_law_asked" (defScope s__law_asked) s.heap.objs.size f cdv))) (hgu : (A.deeper (envOfC "_law_asked" (defScope s__law_asked) s.heap.objs.size f cdv)).guards = some []) :
    ∃ t, BX (cxOf CX0 P w K mg base N__law_asked "_law_asked" (defScope s__law_asked) f cdv A outer s H E).nox (defBody s__law_asked) t (rd__law_asked C_System) := by
  have S := sc__law_asked
  exact ⟨_, bx_cons (sx_set S.nd (ex_list b_list (ax_cons (ex_var 1) (ax_nil))))
    (bx_cons (sx_set S.nd (ex_repr hgu hr.units b_repr (ax_cons (ex_var 3) (ax_nil))))
    (bx_cons (sx_set S.nd (ex_lst (ax_cons (ex_callO h_accepts (hr.mono (by decide)) (ax_cons (ex_var 0) (ax_cons (ex_var 3) (ax_nil)))) (ax_cons (ex_callO h_accepts (hr.mono (by decide)) (ax_cons (ex_var 0) (ax_cons (ex_tuple b_tuple (ax_cons (ex_var 1) (ax_nil))) (ax_nil)))) (ax_nil)))))
    (bx_one (sx_ret (ex_and (ex_eq hr.units (ex_repr hgu hr.units b_repr (ax_cons (ex_var 5) (ax_nil))) (ex_repr hgu hr.units b_repr (ax_cons (ex_lst (ax_cons (ex_var 2) (ax_cons (ex_var 2) (ax_nil)))) (ax_nil)))) (ex_one (ex_eq hr.units (ex_repr hgu hr.units b_repr (ax_cons (ex_var 3) (ax_nil))) (ex_var 4))))))))⟩
theorem sc_law : FnScope N_law ["_law_script"] (defScope s_law) := ⟨rfl, rfl, rfl, by decide +kernel, rfl, by decide +kernel, by decide +kernel⟩
theorem bx_law {P : Program} {w : World} {K : PySem.W.Frag} {mg : Str → Option Value} {base : Heap} {f : Addr} {C_System : Addr} (h__law_asked : KnG P w K mg base "_law_asked" 5 (fs__law_asked C_System)) (h__law_takes : KnO P w K mg base "_law_takes" 2 fs__law_takes) (h__law_draw : KnO P w K mg base "_law_draw" 1 fs__law_draw) (h__law_scaled : KnO P w K mg base "_law_scaled" 1 fs__law_scaled) (b_len : mg ("len" : Str) = none) (b_list : mg ("list" : Str) = none) (b_range : mg ("range" : Str) = none) (h__law_adds : KnG P w K mg base "_law_adds" 2 fs__law_adds) (h__law_plain : KnO P w K mg base "_law_plain" 1 fs__law_plain) (hi_System : KnI P w K mg base "System" C_System 2 (fs_System___init__ C_System)) (h__law_spoilt : KnO P w K mg base "_law_spoilt" 2 fs__law_spoilt) (h__law_world : KnO P w K mg base "_law_world" 4 fs__law_world) (cdv : Value) (A : Around) (outer : List PySem.Env) (s : Shared) (H : Hp) (E : XK) (hr : Room 5 (A.deeper (envOfC "law" (defScope s_law) s.heap.objs.size f cdv))) (hgu : (A.deeper (envOfC "law" (defScope s_law) s.heap.objs.size f cdv)).guards = some []) :
    ∃ t, BX (cxOf CX0 P w K mg base N_law "law" (defScope s_law) f cdv A outer s H E).nox (defBody s_law) t (rd_law C_System) := by
  have S := sc_law
  exact ⟨_, bx_cons (sx_set S.nd (ex_sl (ex_var 0) (ox_none) (ox_some (ex_int))))
    (bx_cons (sx_setC S.nd (ex_rev (ex_var 0)))
    (bx_cons (sx_set S.nd (ex_callO h__law_draw (hr.mono (by decide)) (ax_cons (ex_var 1) (ax_cons (ex_int) (ax_nil)))))
    (bx_cons (sx_asg (ex_callO h__law_world (hr.mono (by decide)) (ax_cons (ex_var 1) (ax_nil))) (gx_tup rfl (gs_cons (gx_name S.nd) (gs_cons (gx_name S.nd) (gs_cons (gx_name S.nd) (gs_cons (gx_name S.nd) (gs_nil)))))))
    (bx_cons (sx_set S.nd (ex_callO h__law_spoilt (hr.mono (by decide)) (ax_cons (ex_var 1) (ax_cons (ex_callO h__law_spoilt (hr.mono (by decide)) (ax_cons (ex_var 1) (ax_cons (ex_var 5) (ax_cons (ex_var 6) (ax_nil))))) (ax_cons (ex_var 6) (ax_nil))))))
    (bx_cons (sx_set S.nd (ex_makeK hi_System (hr.mono (by decide)) (ax_cons (ex_var 3) (ax_cons (ex_var 4) (ax_nil)))))
    (bx_cons (sx_set S.nd (ex_callO h__law_plain (hr.mono (by decide)) (ax_cons (ex_var 3) (ax_cons (ex_var 4) (ax_nil)))))
    (bx_cons (sx_set S.nd (ex_add (ex_var 3) (ex_len b_len (ax_cons (ex_lcx rfl S.nd (ix_seq (ex_var 4)) (blkOk_by (N := N_law) (sc := defScope s_law) (by decide +kernel)) (fun _ _ _ _ _ => pg_name (i := 16) S.nd rfl (Or.inl rfl)) (fun _ _ _ _ _ => ⟨_, ts_one (tx_eq hr.units (ex_ix (ex_var 16) (ex_int)) (ex_str))⟩) (fun _ _ _ _ _ => ⟨_, ex_var 16⟩)) (ax_nil)))))
    (bx_cons (sx_if (tx_not (tx_val (ex_callg h__law_adds hgu (hr.mono (by decide)) (ax_cons (ex_var 9) (ax_cons (ex_var 8) (ax_cons (ex_var 5) (ax_nil))))))) (bx_one (sx_ret (ex_bl))) (bx_nil))
    (bx_cons (sx_set S.nd (ex_listRng rfl b_list b_range (ax_cons (ex_neg (ex_int)) (ax_cons (ex_add (ex_add (ex_var 6) (ex_len b_len (ax_cons (ex_var 5) (ax_nil)))) (ex_int)) (ax_nil)))))
    (bx_cons (sx_if (tx_eq hr.units (ex_var 2) (ex_int)) (bx_cons (sx_set S.nd (ex_callO h__law_scaled (hr.mono (by decide)) (ax_cons (ex_var 5) (ax_cons (ex_pow (ex_int) (ex_int)) (ax_nil)))))
    (bx_one (sx_set S.nd (ex_add (ex_var 10) (ex_lst (ax_cons (ex_pow (ex_int) (ex_int)) (ax_cons (ex_neg (ex_pow (ex_int) (ex_int))) (ax_nil)))))))) (bx_nil))
    (bx_cons (sx_set S.nd (ex_lst (ax_cons (ex_tup (ax_cons (ex_str) (ax_cons (ex_int) (ax_cons (ex_tup (ax_cons (ex_tup (ax_cons (ex_int) (ax_cons (ex_int) (ax_nil)))) (ax_nil))) (ax_nil))))) (ax_cons (ex_tup (ax_cons (ex_str) (ax_cons (ex_var 6) (ax_nil)))) (ax_cons (ex_tup (ax_cons (ex_str) (ax_cons (ex_mul (ex_tup (ax_cons (ex_int) (ax_nil))) (ex_add (ex_var 9) (ex_int))) (ax_nil)))) (ax_nil))))))
    (bx_cons (sx_set S.nd (ex_ix (ex_var 11) (ex_callO h__law_draw (hr.mono (by decide)) (ax_cons (ex_var 1) (ax_cons (ex_int) (ax_nil))))))
    (bx_cons (sx_for PassesOwn.never rfl (ix_seq (ex_var 10)) (gx_name S.nd) (bx_cons (sx_set S.nd (ex_add (ex_var 5) (ex_lst (ax_cons (ex_tup (ax_cons (ex_str) (ax_cons (ex_var 13) (ax_nil)))) (ax_nil)))))
    (bx_cons (sx_set S.nd (ex_callO h__law_takes (hr.mono (by decide)) (ax_cons (ex_var 9) (ax_cons (ex_var 8) (ax_cons (ex_var 14) (ax_nil))))))
    (bx_cons (sx_if (tx_not (tx_val (ex_callg h__law_asked hgu (hr.mono (by decide)) (ax_cons (ex_var 7) (ax_cons (ex_var 14) (ax_cons (ex_var 15) (ax_nil))))))) (bx_one (sx_ret (ex_bl))) (bx_nil))
    (bx_cons (sx_if (WX.tx (wx_and (tx_val (ex_var 15)) (wx_and1 (tx_not (tx_val (ex_callg h__law_asked hgu (hr.mono (by decide)) (ax_cons (ex_var 7) (ax_cons (ex_add (ex_var 14) (ex_lst (ax_cons (ex_var 12) (ax_nil)))) (ax_cons (ex_bl) (ax_nil)))))))))) (bx_one (sx_ret (ex_bl))) (bx_nil))
    (bx_one (sx_if (WX.tx (wx_and (tx_val (ex_var 15)) (wx_and1 (tx_not (tx_val (ex_callg h__law_asked hgu (hr.mono (by decide)) (ax_cons (ex_var 7) (ax_cons (ex_add (ex_var 14) (ex_sl (ex_var 14) (ox_some (ex_neg (ex_int))) (ox_none))) (ax_cons (ex_bl) (ax_nil)))))))))) (bx_one (sx_ret (ex_bl))) (bx_nil))))))))
    (bx_one (sx_ret (ex_and (ex_callg h__law_asked hgu (hr.mono (by decide)) (ax_cons (ex_var 7) (ax_cons (ex_var 5) (ax_cons (ex_bl) (ax_nil))))) (ex_one (ex_callg h__law_asked hgu (hr.mono (by decide)) (ax_cons (ex_var 7) (ax_cons (ex_lst (ax_nil)) (ax_cons (ex_bl) (ax_nil))))))))))))))))))))))⟩
end Lw
set_option Elab.async false
set_option linter.all false
set_option maxRecDepth 100000
set_option maxHeartbeats 0
namespace Lw
open PySem PySem.Spec PyProof.Rows L2 Dl StX ClX He
def d_combined : DefD := ⟨("combined", none), "combined", "combined", defArgs s_combined, defBody s_combined, defScope s_combined, [], []⟩
def d_divisor : DefD := ⟨("divisor", none), "divisor", "divisor", defArgs s_divisor, defBody s_divisor, defScope s_divisor, [], []⟩
def d_divided : DefD := ⟨("divided", none), "divided", "divided", defArgs s_divided, defBody s_divided, defScope s_divided, [], []⟩
def d_negated : DefD := ⟨("negated", none), "negated", "negated", defArgs s_negated, defBody s_negated, defScope s_negated, [], []⟩
def d_raised : DefD := ⟨("raised", none), "raised", "raised", defArgs s_raised, defBody s_raised, defScope s_raised, [], []⟩
def d_extended : DefD := ⟨("extended", none), "extended", "extended", defArgs s_extended, defBody s_extended, defScope s_extended, [], []⟩
def d__sum_row : DefD := ⟨("_sum_row", none), "_sum_row", "_sum_row", defArgs s__sum_row, defBody s__sum_row, defScope s__sum_row, [], []⟩
def d__is_false : DefD := ⟨("_is_false", none), "_is_false", "_is_false", defArgs s__is_false, defBody s__is_false, defScope s__is_false, [], []⟩
def d__copied : DefD := ⟨("_copied", none), "_copied", "_copied", defArgs s__copied, defBody s__copied, defScope s__copied, [], []⟩
def d_System___init__ : DefD := ⟨("System", some "__init__"), "__init__", "System.__init__", defArgs s_System___init__, defBody s_System___init__, defScope s_System___init__, [], []⟩
def d_System_plain_width : DefD := ⟨("System", none), "plain_width", "System.plain_width", defArgs s_System_plain_width, defBody s_System_plain_width, defScope s_System_plain_width, [], []⟩
def d_System_plain_rows : DefD := ⟨("System", some "plain_rows"), "plain_rows", "System.plain_rows", defArgs s_System_plain_rows, defBody s_System_plain_rows, defScope s_System_plain_rows, [], []⟩
def d_accepts : DefD := ⟨("accepts", none), "accepts", "accepts", defArgs s_accepts, defBody s_accepts, defScope s_accepts, [], []⟩
def d__law_draw : DefD := ⟨("_law_draw", none), "_law_draw", "_law_draw", defArgs s__law_draw, defBody s__law_draw, defScope s__law_draw, [], []⟩
def d__law_number : DefD := ⟨("_law_number", none), "_law_number", "_law_number", defArgs s__law_number, defBody s__law_number, defScope s__law_number, [], []⟩
def d__law_plain : DefD := ⟨("_law_plain", none), "_law_plain", "_law_plain", defArgs s__law_plain, defBody s__law_plain, defScope s__law_plain, [], []⟩
def d__law_summed : DefD := ⟨("_law_summed", none), "_law_summed", "_law_summed", defArgs s__law_summed, defBody s__law_summed, defScope s__law_summed, [], []⟩
def d__law_takes : DefD := ⟨("_law_takes", none), "_law_takes", "_law_takes", defArgs s__law_takes, defBody s__law_takes, defScope s__law_takes, [], []⟩
def d__law_times : DefD := ⟨("_law_times", none), "_law_times", "_law_times", defArgs s__law_times, defBody s__law_times, defScope s__law_times, [], []⟩
def d__law_noise : DefD := ⟨("_law_noise", none), "_law_noise", "_law_noise", defArgs s__law_noise, defBody s__law_noise, defScope s__law_noise, [], []⟩
def d__law_pair : DefD := ⟨("_law_pair", none), "_law_pair", "_law_pair", defArgs s__law_pair, defBody s__law_pair, defScope s__law_pair, [], []⟩
def d__law_parity : DefD := ⟨("_law_parity", none), "_law_parity", "_law_parity", defArgs s__law_parity, defBody s__law_parity, defScope s__law_parity, [], []⟩
def d__law_remainder : DefD := ⟨("_law_remainder", none), "_law_remainder", "_law_remainder", defArgs s__law_remainder, defBody s__law_remainder, defScope s__law_remainder, [], []⟩
def d__law_free : DefD := ⟨("_law_free", none), "_law_free", "_law_free", defArgs s__law_free, defBody s__law_free, defScope s__law_free, [], []⟩
def d__law_world : DefD := ⟨("_law_world", none), "_law_world", "_law_world", defArgs s__law_world, defBody s__law_world, defScope s__law_world, [], []⟩
def d__law_spoilt : DefD := ⟨("_law_spoilt", none), "_law_spoilt", "_law_spoilt", defArgs s__law_spoilt, defBody s__law_spoilt, defScope s__law_spoilt, [], []⟩
def d__law_scaled : DefD := ⟨("_law_scaled", none), "_law_scaled", "_law_scaled", defArgs s__law_scaled, defBody s__law_scaled, defScope s__law_scaled, [], []⟩
def d__law_gcd : DefD := ⟨("_law_gcd", none), "_law_gcd", "_law_gcd", defArgs s__law_gcd, defBody s__law_gcd, defScope s__law_gcd, [], []⟩
def d__law_adds : DefD := ⟨("_law_adds", none), "_law_adds", "_law_adds", defArgs s__law_adds, defBody s__law_adds, defScope s__law_adds, [], []⟩
def d__law_asked : DefD := ⟨("_law_asked", none), "_law_asked", "_law_asked", defArgs s__law_asked, defBody s__law_asked, defScope s__law_asked, [], []⟩
def d_law : DefD := ⟨("law", none), "law", "law", defArgs s_law, defBody s_law, defScope s_law, [], []⟩
def fn : List DefD := [d_combined, d_divisor, d_divided, d_negated, d_raised, d_extended, d__sum_row, d__is_false, d__copied, d_System___init__, d_System_plain_rows, d_accepts, d__law_draw, d__law_number, d__law_plain, d__law_summed, d__law_takes, d__law_times, d__law_noise, d__law_pair, d__law_parity, d__law_remainder, d__law_free, d__law_world, d__law_spoilt, d__law_scaled, d__law_gcd, d__law_adds, d__law_asked, d_law]
def ps : List PDef := [("System", "plain_width", d_System_plain_width)]
def fa : List Fa := [.glo "combined", .glo "divisor", .glo "divided", .glo "negated", .glo "raised", .glo "extended", .glo "_sum_row", .glo "_is_false", .glo "_copied", .glo "accepts", .glo "_law_draw", .glo "_law_number", .glo "_law_plain", .glo "_law_summed", .glo "_law_takes", .glo "_law_times", .glo "_law_noise", .glo "_law_pair", .glo "_law_parity", .glo "_law_remainder", .glo "_law_free", .glo "_law_world", .glo "_law_spoilt", .glo "_law_scaled", .glo "_law_gcd", .glo "_law_adds", .glo "_law_asked", .glo "law", .free "abs", .free "any", .free "enumerate", .free "int", .free "len", .free "list", .free "max", .free "range", .free "repr", .free "tuple", .free "zip", .glo "System", .cls "System", .noat "System" "conditions", .noat "System" "width", .meth "System" "plain_rows", .mkr "System"]
def ex (K : PySem.W.Frag) : Bool := cvB K "System" "MOST" (.int 80) && eqO (PySem.W.nsIn K mainGlobals "gcd") (some (some (.builtin "math.gcd")))
abbrev R : PySem.W.OpenRow := PySem.W.OpenLaw.row PySem.Challenge.rw_loopsame_k03_judge_sum_lines
abbrev hk : PySem.W.Hook := hookY 7 fa fn ps ex
def ob (s : PySem.W.SharedT) : AlY := obsYG 7 fa fn ps ex (HandSHeadRun.getT s)
theorem ob_eq (s : PySem.W.SharedT) : ob s = hk.obs s.abs := obsYG_eq (HandSHeadRun.getT_eq s)
def loose : List Str := (["gcd", "_wall", "LoopError", "BadSystem", "BadPoint", "row_value", "combined", "divisor", "divided", "negated", "raised", "extended", "_sum_row", "_is_false", "accepts", "_copied"] : List Str) ++ (["_is_met", "System", "_law_draw", "_law_number", "_law_plain", "_law_summed", "_law_takes", "_law_times", "_law_noise", "_law_pair", "_law_parity", "_law_remainder", "_law_free", "_law_world", "_law_spoilt", "_law_scaled"] : List Str) ++ (["_law_gcd", "_law_adds", "_law_asked"] : List Str)
theorem head_run (w : World) : HandSHeadRun.RunEqI R (PySem.W.view R.prog [0, 40]) hk ob 4000 loose w := by
  unfold HandSHeadRun.RunEqI
  kernel_rfl
theorem the_facts {P : Program} {w : World} {K : PySem.W.Frag} {h : Heap} {mg : Str → Option Value} {f : Addr} (X : K.In h) (G : h.Ns mainGlobals mg) (hfa : mg ("law" : Str) = some (.ref f)) (c : SaysY fa fn ps ex K) :
    ∃ fd : FuncData, (∀ (s : Shared) (v : Value), BindsTo s fd ⟨[v], []⟩ [("_law_script", v)]) ∧ ∀ base : Heap, K.In base → base.Ns mainGlobals mg → FnG P w K mg base 6 f fd ["_law_script"] fsLaw := by
  have b_abs := free_ok X G (c.d.fact 28 (f := .free "abs") rfl)
  have b_any := free_ok X G (c.d.fact 29 (f := .free "any") rfl)
  have b_enumerate := free_ok X G (c.d.fact 30 (f := .free "enumerate") rfl)
  have b_int := free_ok X G (c.d.fact 31 (f := .free "int") rfl)
  have b_len := free_ok X G (c.d.fact 32 (f := .free "len") rfl)
  have b_list := free_ok X G (c.d.fact 33 (f := .free "list") rfl)
  have b_max := free_ok X G (c.d.fact 34 (f := .free "max") rfl)
  have b_range := free_ok X G (c.d.fact 35 (f := .free "range") rfl)
  have b_repr := free_ok X G (c.d.fact 36 (f := .free "repr") rfl)
  have b_tuple := free_ok X G (c.d.fact 37 (f := .free "tuple") rfl)
  have b_zip := free_ok X G (c.d.fact 38 (f := .free "zip") rfl)
  have g_System := glo_ok X G (c.d.fact 39 (f := .glo "System") rfl)
  have hc_System := cls_ok (c.d.fact 40 (f := .cls "System") rfl)
  have na_System_conditions := noat_ok (c.d.fact 41 (f := .noat "System" "conditions") rfl)
  have na_System_width := noat_ok (c.d.fact 42 (f := .noat "System" "width") rfl)
  have hex : (cvB K "System" "MOST" (.int 80) && eqO (PySem.W.nsIn K mainGlobals "gcd") (some (some (.builtin "math.gcd")))) = true := c.more
  simp only [Bool.and_eq_true] at hex
  have hv_System_MOST := cvB_ok (v := .int 80) g_System hex.1 fun _ => .int _
  have im_gcd := PySem.W.mg_of X G (eqO_ok hex.2)
  obtain ⟨fd_combined, FD_combined⟩ := c.d.def_ 0 (d := d_combined) rfl
  have g_combined := glo_ok X G (c.d.fact 0 (f := .glo "combined") rfl)
  obtain ⟨fd_divisor, FD_divisor⟩ := c.d.def_ 1 (d := d_divisor) rfl
  have g_divisor := glo_ok X G (c.d.fact 1 (f := .glo "divisor") rfl)
  obtain ⟨fd_divided, FD_divided⟩ := c.d.def_ 2 (d := d_divided) rfl
  have g_divided := glo_ok X G (c.d.fact 2 (f := .glo "divided") rfl)
  obtain ⟨fd_negated, FD_negated⟩ := c.d.def_ 3 (d := d_negated) rfl
  have g_negated := glo_ok X G (c.d.fact 3 (f := .glo "negated") rfl)
  obtain ⟨fd_raised, FD_raised⟩ := c.d.def_ 4 (d := d_raised) rfl
  have g_raised := glo_ok X G (c.d.fact 4 (f := .glo "raised") rfl)
  obtain ⟨fd_extended, FD_extended⟩ := c.d.def_ 5 (d := d_extended) rfl
  have g_extended := glo_ok X G (c.d.fact 5 (f := .glo "extended") rfl)
  obtain ⟨fd__sum_row, FD__sum_row⟩ := c.d.def_ 6 (d := d__sum_row) rfl
  have g__sum_row := glo_ok X G (c.d.fact 6 (f := .glo "_sum_row") rfl)
  obtain ⟨fd__is_false, FD__is_false⟩ := c.d.def_ 7 (d := d__is_false) rfl
  have g__is_false := glo_ok X G (c.d.fact 7 (f := .glo "_is_false") rfl)
  obtain ⟨fd__copied, FD__copied⟩ := c.d.def_ 8 (d := d__copied) rfl
  have g__copied := glo_ok X G (c.d.fact 8 (f := .glo "_copied") rfl)
  obtain ⟨fd_System___init__, FD_System___init__⟩ := c.d.def_ 9 (d := d_System___init__) rfl
  obtain ⟨fd_System_plain_rows, FD_System_plain_rows⟩ := c.d.def_ 10 (d := d_System_plain_rows) rfl
  obtain ⟨fd_accepts, FD_accepts⟩ := c.d.def_ 11 (d := d_accepts) rfl
  have g_accepts := glo_ok X G (c.d.fact 9 (f := .glo "accepts") rfl)
  obtain ⟨fd__law_draw, FD__law_draw⟩ := c.d.def_ 12 (d := d__law_draw) rfl
  have g__law_draw := glo_ok X G (c.d.fact 10 (f := .glo "_law_draw") rfl)
  obtain ⟨fd__law_number, FD__law_number⟩ := c.d.def_ 13 (d := d__law_number) rfl
  have g__law_number := glo_ok X G (c.d.fact 11 (f := .glo "_law_number") rfl)
  obtain ⟨fd__law_plain, FD__law_plain⟩ := c.d.def_ 14 (d := d__law_plain) rfl
  have g__law_plain := glo_ok X G (c.d.fact 12 (f := .glo "_law_plain") rfl)
  obtain ⟨fd__law_summed, FD__law_summed⟩ := c.d.def_ 15 (d := d__law_summed) rfl
  have g__law_summed := glo_ok X G (c.d.fact 13 (f := .glo "_law_summed") rfl)
  obtain ⟨fd__law_takes, FD__law_takes⟩ := c.d.def_ 16 (d := d__law_takes) rfl
  have g__law_takes := glo_ok X G (c.d.fact 14 (f := .glo "_law_takes") rfl)
  obtain ⟨fd__law_times, FD__law_times⟩ := c.d.def_ 17 (d := d__law_times) rfl
  have g__law_times := glo_ok X G (c.d.fact 15 (f := .glo "_law_times") rfl)
  obtain ⟨fd__law_noise, FD__law_noise⟩ := c.d.def_ 18 (d := d__law_noise) rfl
  have g__law_noise := glo_ok X G (c.d.fact 16 (f := .glo "_law_noise") rfl)
  obtain ⟨fd__law_pair, FD__law_pair⟩ := c.d.def_ 19 (d := d__law_pair) rfl
  have g__law_pair := glo_ok X G (c.d.fact 17 (f := .glo "_law_pair") rfl)
  obtain ⟨fd__law_parity, FD__law_parity⟩ := c.d.def_ 20 (d := d__law_parity) rfl
  have g__law_parity := glo_ok X G (c.d.fact 18 (f := .glo "_law_parity") rfl)
  obtain ⟨fd__law_remainder, FD__law_remainder⟩ := c.d.def_ 21 (d := d__law_remainder) rfl
  have g__law_remainder := glo_ok X G (c.d.fact 19 (f := .glo "_law_remainder") rfl)
  obtain ⟨fd__law_free, FD__law_free⟩ := c.d.def_ 22 (d := d__law_free) rfl
  have g__law_free := glo_ok X G (c.d.fact 20 (f := .glo "_law_free") rfl)
  obtain ⟨fd__law_world, FD__law_world⟩ := c.d.def_ 23 (d := d__law_world) rfl
  have g__law_world := glo_ok X G (c.d.fact 21 (f := .glo "_law_world") rfl)
  obtain ⟨fd__law_spoilt, FD__law_spoilt⟩ := c.d.def_ 24 (d := d__law_spoilt) rfl
  have g__law_spoilt := glo_ok X G (c.d.fact 22 (f := .glo "_law_spoilt") rfl)
  obtain ⟨fd__law_scaled, FD__law_scaled⟩ := c.d.def_ 25 (d := d__law_scaled) rfl
  have g__law_scaled := glo_ok X G (c.d.fact 23 (f := .glo "_law_scaled") rfl)
  obtain ⟨fd__law_gcd, FD__law_gcd⟩ := c.d.def_ 26 (d := d__law_gcd) rfl
  have g__law_gcd := glo_ok X G (c.d.fact 24 (f := .glo "_law_gcd") rfl)
  obtain ⟨fd__law_adds, FD__law_adds⟩ := c.d.def_ 27 (d := d__law_adds) rfl
  have g__law_adds := glo_ok X G (c.d.fact 25 (f := .glo "_law_adds") rfl)
  obtain ⟨fd__law_asked, FD__law_asked⟩ := c.d.def_ 28 (d := d__law_asked) rfl
  have g__law_asked := glo_ok X G (c.d.fact 26 (f := .glo "_law_asked") rfl)
  obtain ⟨fd_law, FD_law⟩ := c.d.def_ 29 (d := d_law) rfl
  have g_law := glo_ok X G (c.d.fact 27 (f := .glo "law") rfl)
  obtain ⟨pr_System_plain_width, fd_System_plain_width, FD_System_plain_width⟩ := c.prop 0 (q := ("System", "plain_width", d_System_plain_width)) rfl
  have bi_combined : Binds K fd_combined ["parts"] [] := FD_combined.bindsN fun _ _ _ _ _ _ us hl => match us, hl with | [_], _ => rfl
  have bi_divisor : Binds K fd_divisor ["row"] [] := FD_divisor.bindsN fun _ _ _ _ _ _ us hl => match us, hl with | [_], _ => rfl
  have bi_divided : Binds K fd_divided ["row", "d"] [] := FD_divided.bindsN fun _ _ _ _ _ _ us hl => match us, hl with | [_, _], _ => rfl
  have bi_negated : Binds K fd_negated ["row"] [] := FD_negated.bindsN fun _ _ _ _ _ _ us hl => match us, hl with | [_], _ => rfl
  have bi_raised : Binds K fd_raised ["row", "c"] [] := FD_raised.bindsN fun _ _ _ _ _ _ us hl => match us, hl with | [_, _], _ => rfl
  have bi_extended : Binds K fd_extended ["row", "count"] [] := FD_extended.bindsN fun _ _ _ _ _ _ us hl => match us, hl with | [_, _], _ => rfl
  have bi__sum_row : Binds K fd__sum_row ["rows", "d", "parts"] [] := FD__sum_row.bindsN fun _ _ _ _ _ _ us hl => match us, hl with | [_, _, _], _ => rfl
  have bi__is_false : Binds K fd__is_false ["rows", "index"] [] := FD__is_false.bindsN fun _ _ _ _ _ _ us hl => match us, hl with | [_, _], _ => rfl
  have bi__copied : Binds K fd__copied ["condition", "width"] [] := FD__copied.bindsN fun _ _ _ _ _ _ us hl => match us, hl with | [_, _], _ => rfl
  have bi_System___init__ : Binds K fd_System___init__ ["self", "width", "conditions"] [] := FD_System___init__.bindsN fun _ _ _ _ _ _ us hl => match us, hl with | [_, _, _], _ => rfl
  have bi_System_plain_width : Binds K fd_System_plain_width ["self"] [] := FD_System_plain_width.bindsN fun _ _ _ _ _ _ us hl => match us, hl with | [_], _ => rfl
  have bi_System_plain_rows : Binds K fd_System_plain_rows ["self"] [] := FD_System_plain_rows.bindsN fun _ _ _ _ _ _ us hl => match us, hl with | [_], _ => rfl
  have bi_accepts : Binds K fd_accepts ["system", "certificate"] [] := FD_accepts.bindsN fun _ _ _ _ _ _ us hl => match us, hl with | [_, _], _ => rfl
  have bi__law_draw : Binds K fd__law_draw ["_law_pool", "_law_many"] [] := FD__law_draw.bindsN fun _ _ _ _ _ _ us hl => match us, hl with | [_, _], _ => rfl
  have bi__law_number : Binds K fd__law_number ["_law_pool", "_law_size", "_law_at"] [] := FD__law_number.bindsN fun _ _ _ _ _ _ us hl => match us, hl with | [_, _, _], _ => rfl
  have bi__law_plain : Binds K fd__law_plain ["_law_width", "_law_rules"] [] := FD__law_plain.bindsN fun _ _ _ _ _ _ us hl => match us, hl with | [_, _], _ => rfl
  have bi__law_summed : Binds K fd__law_summed ["_law_width", "_law_rows", "_law_line"] [] := FD__law_summed.bindsN fun _ _ _ _ _ _ us hl => match us, hl with | [_, _, _], _ => rfl
  have bi__law_takes : Binds K fd__law_takes ["_law_width", "_law_plain_here", "_law_lines"] [] := FD__law_takes.bindsN fun _ _ _ _ _ _ us hl => match us, hl with | [_, _, _], _ => rfl
  have bi__law_times : Binds K fd__law_times ["_law_row", "_law_factor"] [] := FD__law_times.bindsN fun _ _ _ _ _ _ us hl => match us, hl with | [_, _], _ => rfl
  have bi__law_noise : Binds K fd__law_noise ["_law_pool", "_law_width", "_law_at"] [] := FD__law_noise.bindsN fun _ _ _ _ _ _ us hl => match us, hl with | [_, _, _], _ => rfl
  have bi__law_pair : Binds K fd__law_pair ["_law_pool", "_law_v", "_law_at", "_law_size"] [] := FD__law_pair.bindsN fun _ _ _ _ _ _ us hl => match us, hl with | [_, _, _, _], _ => rfl
  have bi__law_parity : Binds K fd__law_parity ["_law_pool", "_law_v", "_law_at", "_law_size"] [] := FD__law_parity.bindsN fun _ _ _ _ _ _ us hl => match us, hl with | [_, _, _, _], _ => rfl
  have bi__law_remainder : Binds K fd__law_remainder ["_law_pool", "_law_v", "_law_at", "_law_size"] [] := FD__law_remainder.bindsN fun _ _ _ _ _ _ us hl => match us, hl with | [_, _, _, _], _ => rfl
  have bi__law_free : Binds K fd__law_free ["_law_pool", "_law_size"] [] := FD__law_free.bindsN fun _ _ _ _ _ _ us hl => match us, hl with | [_, _], _ => rfl
  have bi__law_world : Binds K fd__law_world ["_law_pool"] [] := FD__law_world.bindsN fun _ _ _ _ _ _ us hl => match us, hl with | [_], _ => rfl
  have bi__law_spoilt : Binds K fd__law_spoilt ["_law_pool", "_law_lines", "_law_size"] [] := FD__law_spoilt.bindsN fun _ _ _ _ _ _ us hl => match us, hl with | [_, _, _], _ => rfl
  have bi__law_scaled : Binds K fd__law_scaled ["_law_lines", "_law_factor"] [] := FD__law_scaled.bindsN fun _ _ _ _ _ _ us hl => match us, hl with | [_, _], _ => rfl
  have bi__law_gcd : Binds K fd__law_gcd ["_law_row"] [] := FD__law_gcd.bindsN fun _ _ _ _ _ _ us hl => match us, hl with | [_], _ => rfl
  have bi__law_adds : Binds K fd__law_adds ["_law_width", "_law_plain_here", "_law_lines"] [] := FD__law_adds.bindsN fun _ _ _ _ _ _ us hl => match us, hl with | [_, _, _], _ => rfl
  have bi__law_asked : Binds K fd__law_asked ["_law_system", "_law_paper", "_law_due"] [] := FD__law_asked.bindsN fun _ _ _ _ _ _ us hl => match us, hl with | [_, _, _], _ => rfl
  have bi_law : Binds K fd_law ["_law_script"] [] := FD_law.bindsN fun _ _ _ _ _ _ us hl => match us, hl with | [_], _ => rfl
  have me_System_plain_rows := meth_ok (c.d.fact 43 (f := .meth "System" "plain_rows") rfl)
  have mk_System := mkr_ok (c.d.fact 44 (f := .mkr "System") rfl)
  have e := hfa.symm.trans g_law
  cases e
  have bl := FunD.bindsA (ps := ["_law_script"]) FD_law fun _ _ _ _ _ _ us hl => match us, hl with | [_], _ => rfl
  refine ⟨fd_law, fun s v => bl s [v] rfl, fun base _ _ => ?_⟩
  have F_combined : FnOk P w K mg base CX0 1 _ fd_combined ["parts"] (spD K (fs_combined)) := fn_D (fun_of FD_combined) sc_combined (fun ds M Q h => by first | (obtain ⟨_, rfl, _⟩ := h; rfl) | (obtain ⟨_, _, rfl, _⟩ := h; rfl) | (obtain ⟨_, _, _, rfl, _⟩ := h; rfl) | (obtain ⟨_, _, _, _, rfl, _⟩ := h; rfl) | (obtain ⟨_, _, _, _, _, rfl, _⟩ := h; rfl) | (obtain ⟨_, _, _, _, _, _, rfl, _⟩ := h; rfl) | (obtain ⟨_, _, _, _, _, _, _, rfl, _⟩ := h; rfl) | (obtain ⟨_, _, _, _, _, _, _, _, rfl, _⟩ := h; rfl) | (obtain ⟨_, _, _, _, _, _, _, _, _, rfl, _⟩ := h; rfl) | (obtain ⟨_, _, _, _, _, _, _, _, _, _, rfl, _⟩ := h; rfl) | (obtain ⟨_, _, _, _, _, _, _, _, _, _, _, rfl, _⟩ := h; rfl) | (obtain ⟨_, _, _, _, _, _, _, _, _, _, _, _, rfl, _⟩ := h; rfl) | (obtain ⟨_, _, _, _, _, _, _, _, _, _, _, _, _, rfl, _⟩ := h; rfl) | (obtain ⟨_, _, _, _, _, _, _, _, _, _, _, _, _, _, rfl, _⟩ := h; rfl)) (rd_combined) (fun cdv A outer s H E hr => bx_combined (b_tuple := b_tuple) (b_zip := b_zip) (b_len := b_len) cdv A outer s H E hr) (ok_combined)
  have h_combined : KnO P w K mg base "combined" 1 (fs_combined) := ⟨_, _, _, F_combined, g_combined, FD_combined.kp, bi_combined⟩
  have F_divisor : FnOk P w K mg base CX0 1 _ fd_divisor ["row"] (spD K (fs_divisor)) := fn_D (fun_of FD_divisor) sc_divisor (fun ds M Q h => by first | (obtain ⟨_, rfl, _⟩ := h; rfl) | (obtain ⟨_, _, rfl, _⟩ := h; rfl) | (obtain ⟨_, _, _, rfl, _⟩ := h; rfl) | (obtain ⟨_, _, _, _, rfl, _⟩ := h; rfl) | (obtain ⟨_, _, _, _, _, rfl, _⟩ := h; rfl) | (obtain ⟨_, _, _, _, _, _, rfl, _⟩ := h; rfl) | (obtain ⟨_, _, _, _, _, _, _, rfl, _⟩ := h; rfl) | (obtain ⟨_, _, _, _, _, _, _, _, rfl, _⟩ := h; rfl) | (obtain ⟨_, _, _, _, _, _, _, _, _, rfl, _⟩ := h; rfl) | (obtain ⟨_, _, _, _, _, _, _, _, _, _, rfl, _⟩ := h; rfl) | (obtain ⟨_, _, _, _, _, _, _, _, _, _, _, rfl, _⟩ := h; rfl) | (obtain ⟨_, _, _, _, _, _, _, _, _, _, _, _, rfl, _⟩ := h; rfl) | (obtain ⟨_, _, _, _, _, _, _, _, _, _, _, _, _, rfl, _⟩ := h; rfl) | (obtain ⟨_, _, _, _, _, _, _, _, _, _, _, _, _, _, rfl, _⟩ := h; rfl)) (rd_divisor) (fun cdv A outer s H E hr => bx_divisor (im_gcd := im_gcd) cdv A outer s H E hr) (ok_divisor)
  have h_divisor : KnO P w K mg base "divisor" 1 (fs_divisor) := ⟨_, _, _, F_divisor, g_divisor, FD_divisor.kp, bi_divisor⟩
  have F_divided : FnOk P w K mg base CX0 1 _ fd_divided ["row", "d"] (spD K (fs_divided)) := fn_D (fun_of FD_divided) sc_divided (fun ds M Q h => by first | (obtain ⟨_, rfl, _⟩ := h; rfl) | (obtain ⟨_, _, rfl, _⟩ := h; rfl) | (obtain ⟨_, _, _, rfl, _⟩ := h; rfl) | (obtain ⟨_, _, _, _, rfl, _⟩ := h; rfl) | (obtain ⟨_, _, _, _, _, rfl, _⟩ := h; rfl) | (obtain ⟨_, _, _, _, _, _, rfl, _⟩ := h; rfl) | (obtain ⟨_, _, _, _, _, _, _, rfl, _⟩ := h; rfl) | (obtain ⟨_, _, _, _, _, _, _, _, rfl, _⟩ := h; rfl) | (obtain ⟨_, _, _, _, _, _, _, _, _, rfl, _⟩ := h; rfl) | (obtain ⟨_, _, _, _, _, _, _, _, _, _, rfl, _⟩ := h; rfl) | (obtain ⟨_, _, _, _, _, _, _, _, _, _, _, rfl, _⟩ := h; rfl) | (obtain ⟨_, _, _, _, _, _, _, _, _, _, _, _, rfl, _⟩ := h; rfl) | (obtain ⟨_, _, _, _, _, _, _, _, _, _, _, _, _, rfl, _⟩ := h; rfl) | (obtain ⟨_, _, _, _, _, _, _, _, _, _, _, _, _, _, rfl, _⟩ := h; rfl)) (rd_divided) (fun cdv A outer s H E hr => bx_divided (b_tuple := b_tuple) cdv A outer s H E hr) (ok_divided)
  have h_divided : KnO P w K mg base "divided" 1 (fs_divided) := ⟨_, _, _, F_divided, g_divided, FD_divided.kp, bi_divided⟩
  have F_negated : FnOk P w K mg base CX0 1 _ fd_negated ["row"] (spD K (fs_negated)) := fn_D (fun_of FD_negated) sc_negated (fun ds M Q h => by first | (obtain ⟨_, rfl, _⟩ := h; rfl) | (obtain ⟨_, _, rfl, _⟩ := h; rfl) | (obtain ⟨_, _, _, rfl, _⟩ := h; rfl) | (obtain ⟨_, _, _, _, rfl, _⟩ := h; rfl) | (obtain ⟨_, _, _, _, _, rfl, _⟩ := h; rfl) | (obtain ⟨_, _, _, _, _, _, rfl, _⟩ := h; rfl) | (obtain ⟨_, _, _, _, _, _, _, rfl, _⟩ := h; rfl) | (obtain ⟨_, _, _, _, _, _, _, _, rfl, _⟩ := h; rfl) | (obtain ⟨_, _, _, _, _, _, _, _, _, rfl, _⟩ := h; rfl) | (obtain ⟨_, _, _, _, _, _, _, _, _, _, rfl, _⟩ := h; rfl) | (obtain ⟨_, _, _, _, _, _, _, _, _, _, _, rfl, _⟩ := h; rfl) | (obtain ⟨_, _, _, _, _, _, _, _, _, _, _, _, rfl, _⟩ := h; rfl) | (obtain ⟨_, _, _, _, _, _, _, _, _, _, _, _, _, rfl, _⟩ := h; rfl) | (obtain ⟨_, _, _, _, _, _, _, _, _, _, _, _, _, _, rfl, _⟩ := h; rfl)) (rd_negated) (fun cdv A outer s H E hr => bx_negated (b_tuple := b_tuple) cdv A outer s H E hr) (ok_negated)
  have h_negated : KnO P w K mg base "negated" 1 (fs_negated) := ⟨_, _, _, F_negated, g_negated, FD_negated.kp, bi_negated⟩
  have F_raised : FnOk P w K mg base CX0 1 _ fd_raised ["row", "c"] (spD K (fs_raised)) := fn_D (fun_of FD_raised) sc_raised (fun ds M Q h => by first | (obtain ⟨_, rfl, _⟩ := h; rfl) | (obtain ⟨_, _, rfl, _⟩ := h; rfl) | (obtain ⟨_, _, _, rfl, _⟩ := h; rfl) | (obtain ⟨_, _, _, _, rfl, _⟩ := h; rfl) | (obtain ⟨_, _, _, _, _, rfl, _⟩ := h; rfl) | (obtain ⟨_, _, _, _, _, _, rfl, _⟩ := h; rfl) | (obtain ⟨_, _, _, _, _, _, _, rfl, _⟩ := h; rfl) | (obtain ⟨_, _, _, _, _, _, _, _, rfl, _⟩ := h; rfl) | (obtain ⟨_, _, _, _, _, _, _, _, _, rfl, _⟩ := h; rfl) | (obtain ⟨_, _, _, _, _, _, _, _, _, _, rfl, _⟩ := h; rfl) | (obtain ⟨_, _, _, _, _, _, _, _, _, _, _, rfl, _⟩ := h; rfl) | (obtain ⟨_, _, _, _, _, _, _, _, _, _, _, _, rfl, _⟩ := h; rfl) | (obtain ⟨_, _, _, _, _, _, _, _, _, _, _, _, _, rfl, _⟩ := h; rfl) | (obtain ⟨_, _, _, _, _, _, _, _, _, _, _, _, _, _, rfl, _⟩ := h; rfl)) (rd_raised) (fun cdv A outer s H E hr => bx_raised (b_tuple := b_tuple) cdv A outer s H E hr) (ok_raised)
  have h_raised : KnO P w K mg base "raised" 1 (fs_raised) := ⟨_, _, _, F_raised, g_raised, FD_raised.kp, bi_raised⟩
  have F_extended : FnOk P w K mg base CX0 1 _ fd_extended ["row", "count"] (spD K (fs_extended)) := fn_D (fun_of FD_extended) sc_extended (fun ds M Q h => by first | (obtain ⟨_, rfl, _⟩ := h; rfl) | (obtain ⟨_, _, rfl, _⟩ := h; rfl) | (obtain ⟨_, _, _, rfl, _⟩ := h; rfl) | (obtain ⟨_, _, _, _, rfl, _⟩ := h; rfl) | (obtain ⟨_, _, _, _, _, rfl, _⟩ := h; rfl) | (obtain ⟨_, _, _, _, _, _, rfl, _⟩ := h; rfl) | (obtain ⟨_, _, _, _, _, _, _, rfl, _⟩ := h; rfl) | (obtain ⟨_, _, _, _, _, _, _, _, rfl, _⟩ := h; rfl) | (obtain ⟨_, _, _, _, _, _, _, _, _, rfl, _⟩ := h; rfl) | (obtain ⟨_, _, _, _, _, _, _, _, _, _, rfl, _⟩ := h; rfl) | (obtain ⟨_, _, _, _, _, _, _, _, _, _, _, rfl, _⟩ := h; rfl) | (obtain ⟨_, _, _, _, _, _, _, _, _, _, _, _, rfl, _⟩ := h; rfl) | (obtain ⟨_, _, _, _, _, _, _, _, _, _, _, _, _, rfl, _⟩ := h; rfl) | (obtain ⟨_, _, _, _, _, _, _, _, _, _, _, _, _, _, rfl, _⟩ := h; rfl)) (rd_extended) (fun cdv A outer s H E hr => bx_extended (b_tuple := b_tuple) cdv A outer s H E hr) (ok_extended)
  have h_extended : KnO P w K mg base "extended" 1 (fs_extended) := ⟨_, _, _, F_extended, g_extended, FD_extended.kp, bi_extended⟩
  have F__sum_row : FnOk P w K mg base CX0 2 _ fd__sum_row ["rows", "d", "parts"] (spD K (fs__sum_row)) := fn_D (fun_of FD__sum_row) sc__sum_row (fun ds M Q h => by first | (obtain ⟨_, rfl, _⟩ := h; rfl) | (obtain ⟨_, _, rfl, _⟩ := h; rfl) | (obtain ⟨_, _, _, rfl, _⟩ := h; rfl) | (obtain ⟨_, _, _, _, rfl, _⟩ := h; rfl) | (obtain ⟨_, _, _, _, _, rfl, _⟩ := h; rfl) | (obtain ⟨_, _, _, _, _, _, rfl, _⟩ := h; rfl) | (obtain ⟨_, _, _, _, _, _, _, rfl, _⟩ := h; rfl) | (obtain ⟨_, _, _, _, _, _, _, _, rfl, _⟩ := h; rfl) | (obtain ⟨_, _, _, _, _, _, _, _, _, rfl, _⟩ := h; rfl) | (obtain ⟨_, _, _, _, _, _, _, _, _, _, rfl, _⟩ := h; rfl) | (obtain ⟨_, _, _, _, _, _, _, _, _, _, _, rfl, _⟩ := h; rfl) | (obtain ⟨_, _, _, _, _, _, _, _, _, _, _, _, rfl, _⟩ := h; rfl) | (obtain ⟨_, _, _, _, _, _, _, _, _, _, _, _, _, rfl, _⟩ := h; rfl) | (obtain ⟨_, _, _, _, _, _, _, _, _, _, _, _, _, _, rfl, _⟩ := h; rfl)) (rd__sum_row) (fun cdv A outer s H E hr => bx__sum_row (h_divided := h_divided) (h_combined := h_combined) (b_len := b_len) cdv A outer s H E hr) (ok__sum_row)
  have h__sum_row : KnO P w K mg base "_sum_row" 2 (fs__sum_row) := ⟨_, _, _, F__sum_row, g__sum_row, FD__sum_row.kp, bi__sum_row⟩
  have F__is_false : FnOk P w K mg base CX0 1 _ fd__is_false ["rows", "index"] (spD K (fs__is_false)) := fn_D (fun_of FD__is_false) sc__is_false (fun ds M Q h => by first | (obtain ⟨_, rfl, _⟩ := h; rfl) | (obtain ⟨_, _, rfl, _⟩ := h; rfl) | (obtain ⟨_, _, _, rfl, _⟩ := h; rfl) | (obtain ⟨_, _, _, _, rfl, _⟩ := h; rfl) | (obtain ⟨_, _, _, _, _, rfl, _⟩ := h; rfl) | (obtain ⟨_, _, _, _, _, _, rfl, _⟩ := h; rfl) | (obtain ⟨_, _, _, _, _, _, _, rfl, _⟩ := h; rfl) | (obtain ⟨_, _, _, _, _, _, _, _, rfl, _⟩ := h; rfl) | (obtain ⟨_, _, _, _, _, _, _, _, _, rfl, _⟩ := h; rfl) | (obtain ⟨_, _, _, _, _, _, _, _, _, _, rfl, _⟩ := h; rfl) | (obtain ⟨_, _, _, _, _, _, _, _, _, _, _, rfl, _⟩ := h; rfl) | (obtain ⟨_, _, _, _, _, _, _, _, _, _, _, _, rfl, _⟩ := h; rfl) | (obtain ⟨_, _, _, _, _, _, _, _, _, _, _, _, _, rfl, _⟩ := h; rfl) | (obtain ⟨_, _, _, _, _, _, _, _, _, _, _, _, _, _, rfl, _⟩ := h; rfl)) (rd__is_false) (fun cdv A outer s H E hr => bx__is_false (b_len := b_len) cdv A outer s H E hr) (ok__is_false)
  have h__is_false : KnO P w K mg base "_is_false" 1 (fs__is_false) := ⟨_, _, _, F__is_false, g__is_false, FD__is_false.kp, bi__is_false⟩
  have F__copied : FnOk P w K mg base CX0 1 _ fd__copied ["condition", "width"] (spD K (fs__copied)) := fn_D (fun_of FD__copied) sc__copied (fun ds M Q h => by first | (obtain ⟨_, rfl, _⟩ := h; rfl) | (obtain ⟨_, _, rfl, _⟩ := h; rfl) | (obtain ⟨_, _, _, rfl, _⟩ := h; rfl) | (obtain ⟨_, _, _, _, rfl, _⟩ := h; rfl) | (obtain ⟨_, _, _, _, _, rfl, _⟩ := h; rfl) | (obtain ⟨_, _, _, _, _, _, rfl, _⟩ := h; rfl) | (obtain ⟨_, _, _, _, _, _, _, rfl, _⟩ := h; rfl) | (obtain ⟨_, _, _, _, _, _, _, _, rfl, _⟩ := h; rfl) | (obtain ⟨_, _, _, _, _, _, _, _, _, rfl, _⟩ := h; rfl) | (obtain ⟨_, _, _, _, _, _, _, _, _, _, rfl, _⟩ := h; rfl) | (obtain ⟨_, _, _, _, _, _, _, _, _, _, _, rfl, _⟩ := h; rfl) | (obtain ⟨_, _, _, _, _, _, _, _, _, _, _, _, rfl, _⟩ := h; rfl) | (obtain ⟨_, _, _, _, _, _, _, _, _, _, _, _, _, rfl, _⟩ := h; rfl) | (obtain ⟨_, _, _, _, _, _, _, _, _, _, _, _, _, _, rfl, _⟩ := h; rfl)) (rd__copied) (fun cdv A outer s H E hr => bx__copied (b_len := b_len) (b_tuple := b_tuple) cdv A outer s H E hr) (ok__copied)
  have h__copied : KnO P w K mg base "_copied" 1 (fs__copied) := ⟨_, _, _, F__copied, g__copied, FD__copied.kp, bi__copied⟩
  have F_System___init__ : FnOk P w K mg base CX0 2 _ fd_System___init__ ["self", "width", "conditions"] (spD K (fs_System___init__ (ga K "System"))) := fn_D (fun_of FD_System___init__) sc_System___init__ (fun ds M Q h => by first | (obtain ⟨_, rfl, _⟩ := h; rfl) | (obtain ⟨_, _, rfl, _⟩ := h; rfl) | (obtain ⟨_, _, _, rfl, _⟩ := h; rfl) | (obtain ⟨_, _, _, _, rfl, _⟩ := h; rfl) | (obtain ⟨_, _, _, _, _, rfl, _⟩ := h; rfl) | (obtain ⟨_, _, _, _, _, _, rfl, _⟩ := h; rfl) | (obtain ⟨_, _, _, _, _, _, _, rfl, _⟩ := h; rfl) | (obtain ⟨_, _, _, _, _, _, _, _, rfl, _⟩ := h; rfl) | (obtain ⟨_, _, _, _, _, _, _, _, _, rfl, _⟩ := h; rfl) | (obtain ⟨_, _, _, _, _, _, _, _, _, _, rfl, _⟩ := h; rfl) | (obtain ⟨_, _, _, _, _, _, _, _, _, _, _, rfl, _⟩ := h; rfl) | (obtain ⟨_, _, _, _, _, _, _, _, _, _, _, _, rfl, _⟩ := h; rfl) | (obtain ⟨_, _, _, _, _, _, _, _, _, _, _, _, _, rfl, _⟩ := h; rfl) | (obtain ⟨_, _, _, _, _, _, _, _, _, _, _, _, _, _, rfl, _⟩ := h; rfl)) (rd_System___init__ (ga K "System")) (fun cdv A outer s H E hr => bx_System___init__ (b_tuple := b_tuple) (hc_System := hc_System) (na_System_conditions := na_System_conditions) (na_System_width := na_System_width) (h__copied := h__copied) (hv_System_MOST := hv_System_MOST) cdv A outer s H E hr) (ok_System___init__ (ga K "System"))
  have hi_System : KnI P w K mg base "System" (ga K "System") 2 (fs_System___init__ (ga K "System")) := ⟨_, _, _, F_System___init__, mk_System, g_System, bi_System___init__⟩
  have F_System_plain_width : FnOk P w K mg base CX0 1 _ fd_System_plain_width ["self"] (spD K (fs_System_plain_width (ga K "System"))) := fn_D (fun_of FD_System_plain_width) sc_System_plain_width (fun ds M Q h => by first | (obtain ⟨_, rfl, _⟩ := h; rfl) | (obtain ⟨_, _, rfl, _⟩ := h; rfl) | (obtain ⟨_, _, _, rfl, _⟩ := h; rfl) | (obtain ⟨_, _, _, _, rfl, _⟩ := h; rfl) | (obtain ⟨_, _, _, _, _, rfl, _⟩ := h; rfl) | (obtain ⟨_, _, _, _, _, _, rfl, _⟩ := h; rfl) | (obtain ⟨_, _, _, _, _, _, _, rfl, _⟩ := h; rfl) | (obtain ⟨_, _, _, _, _, _, _, _, rfl, _⟩ := h; rfl) | (obtain ⟨_, _, _, _, _, _, _, _, _, rfl, _⟩ := h; rfl) | (obtain ⟨_, _, _, _, _, _, _, _, _, _, rfl, _⟩ := h; rfl) | (obtain ⟨_, _, _, _, _, _, _, _, _, _, _, rfl, _⟩ := h; rfl) | (obtain ⟨_, _, _, _, _, _, _, _, _, _, _, _, rfl, _⟩ := h; rfl) | (obtain ⟨_, _, _, _, _, _, _, _, _, _, _, _, _, rfl, _⟩ := h; rfl) | (obtain ⟨_, _, _, _, _, _, _, _, _, _, _, _, _, _, rfl, _⟩ := h; rfl)) (rd_System_plain_width (ga K "System")) (fun cdv A outer s H E hr => bx_System_plain_width (hc_System := hc_System) (na_System_width := na_System_width) (na_System_conditions := na_System_conditions) (b_len := b_len) cdv A outer s H E hr) (ok_System_plain_width (ga K "System"))
  have hp_System_plain_width : KnP P w K mg base (ga K "System") "plain_width" 1 (fs_System_plain_width (ga K "System")) := ⟨_, _, _, _, F_System_plain_width, pr_System_plain_width, bi_System_plain_width⟩
  have F_System_plain_rows : FnOk P w K mg base CX0 3 _ fd_System_plain_rows ["self"] (spD K (fs_System_plain_rows (ga K "System"))) := fn_D (fun_of FD_System_plain_rows) sc_System_plain_rows (fun ds M Q h => by first | (obtain ⟨_, rfl, _⟩ := h; rfl) | (obtain ⟨_, _, rfl, _⟩ := h; rfl) | (obtain ⟨_, _, _, rfl, _⟩ := h; rfl) | (obtain ⟨_, _, _, _, rfl, _⟩ := h; rfl) | (obtain ⟨_, _, _, _, _, rfl, _⟩ := h; rfl) | (obtain ⟨_, _, _, _, _, _, rfl, _⟩ := h; rfl) | (obtain ⟨_, _, _, _, _, _, _, rfl, _⟩ := h; rfl) | (obtain ⟨_, _, _, _, _, _, _, _, rfl, _⟩ := h; rfl) | (obtain ⟨_, _, _, _, _, _, _, _, _, rfl, _⟩ := h; rfl) | (obtain ⟨_, _, _, _, _, _, _, _, _, _, rfl, _⟩ := h; rfl) | (obtain ⟨_, _, _, _, _, _, _, _, _, _, _, rfl, _⟩ := h; rfl) | (obtain ⟨_, _, _, _, _, _, _, _, _, _, _, _, rfl, _⟩ := h; rfl) | (obtain ⟨_, _, _, _, _, _, _, _, _, _, _, _, _, rfl, _⟩ := h; rfl) | (obtain ⟨_, _, _, _, _, _, _, _, _, _, _, _, _, _, rfl, _⟩ := h; rfl)) (rd_System_plain_rows (ga K "System")) (fun cdv A outer s H E hr => bx_System_plain_rows (hc_System := hc_System) (na_System_conditions := na_System_conditions) (h_negated := h_negated) (h_extended := h_extended) (na_System_width := na_System_width) (hp_System_plain_width := hp_System_plain_width) cdv A outer s H E hr) (ok_System_plain_rows (ga K "System"))
  have hm_System_plain_rows : KnM P w K mg base (ga K "System") "plain_rows" 3 (fs_System_plain_rows (ga K "System")) := ⟨_, _, _, F_System_plain_rows, me_System_plain_rows, bi_System_plain_rows⟩
  have F_accepts : FnOk P w K mg base CX0 4 _ fd_accepts ["system", "certificate"] (spD K (fs_accepts (ga K "System"))) := fn_D (fun_of FD_accepts) sc_accepts (fun ds M Q h => by first | (obtain ⟨_, rfl, _⟩ := h; rfl) | (obtain ⟨_, _, rfl, _⟩ := h; rfl) | (obtain ⟨_, _, _, rfl, _⟩ := h; rfl) | (obtain ⟨_, _, _, _, rfl, _⟩ := h; rfl) | (obtain ⟨_, _, _, _, _, rfl, _⟩ := h; rfl) | (obtain ⟨_, _, _, _, _, _, rfl, _⟩ := h; rfl) | (obtain ⟨_, _, _, _, _, _, _, rfl, _⟩ := h; rfl) | (obtain ⟨_, _, _, _, _, _, _, _, rfl, _⟩ := h; rfl) | (obtain ⟨_, _, _, _, _, _, _, _, _, rfl, _⟩ := h; rfl) | (obtain ⟨_, _, _, _, _, _, _, _, _, _, rfl, _⟩ := h; rfl) | (obtain ⟨_, _, _, _, _, _, _, _, _, _, _, rfl, _⟩ := h; rfl) | (obtain ⟨_, _, _, _, _, _, _, _, _, _, _, _, rfl, _⟩ := h; rfl) | (obtain ⟨_, _, _, _, _, _, _, _, _, _, _, _, _, rfl, _⟩ := h; rfl) | (obtain ⟨_, _, _, _, _, _, _, _, _, _, _, _, _, _, rfl, _⟩ := h; rfl)) (rd_accepts (ga K "System")) (fun cdv A outer s H E hr => bx_accepts (b_enumerate := b_enumerate) (h__sum_row := h__sum_row) (h_negated := h_negated) (h_raised := h_raised) (b_tuple := b_tuple) (b_len := b_len) (h__is_false := h__is_false) (hc_System := hc_System) (hp_System_plain_width := hp_System_plain_width) (hm_System_plain_rows := hm_System_plain_rows) cdv A outer s H E hr) (ok_accepts (ga K "System"))
  have h_accepts : KnO P w K mg base "accepts" 4 (fs_accepts (ga K "System")) := ⟨_, _, _, F_accepts, g_accepts, FD_accepts.kp, bi_accepts⟩
  have F__law_draw : FnOk P w K mg base CX0 1 _ fd__law_draw ["_law_pool", "_law_many"] (spD K (fs__law_draw)) := fn_D (fun_of FD__law_draw) sc__law_draw (fun ds M Q h => by first | (obtain ⟨_, rfl, _⟩ := h; rfl) | (obtain ⟨_, _, rfl, _⟩ := h; rfl) | (obtain ⟨_, _, _, rfl, _⟩ := h; rfl) | (obtain ⟨_, _, _, _, rfl, _⟩ := h; rfl) | (obtain ⟨_, _, _, _, _, rfl, _⟩ := h; rfl) | (obtain ⟨_, _, _, _, _, _, rfl, _⟩ := h; rfl) | (obtain ⟨_, _, _, _, _, _, _, rfl, _⟩ := h; rfl) | (obtain ⟨_, _, _, _, _, _, _, _, rfl, _⟩ := h; rfl) | (obtain ⟨_, _, _, _, _, _, _, _, _, rfl, _⟩ := h; rfl) | (obtain ⟨_, _, _, _, _, _, _, _, _, _, rfl, _⟩ := h; rfl) | (obtain ⟨_, _, _, _, _, _, _, _, _, _, _, rfl, _⟩ := h; rfl) | (obtain ⟨_, _, _, _, _, _, _, _, _, _, _, _, rfl, _⟩ := h; rfl) | (obtain ⟨_, _, _, _, _, _, _, _, _, _, _, _, _, rfl, _⟩ := h; rfl) | (obtain ⟨_, _, _, _, _, _, _, _, _, _, _, _, _, _, rfl, _⟩ := h; rfl)) (rd__law_draw) (fun cdv A outer s H E hr => bx__law_draw (b_int := b_int) cdv A outer s H E hr) (ok__law_draw)
  have h__law_draw : KnO P w K mg base "_law_draw" 1 (fs__law_draw) := ⟨_, _, _, F__law_draw, g__law_draw, FD__law_draw.kp, bi__law_draw⟩
  have F__law_number : FnOk P w K mg base CX0 2 _ fd__law_number ["_law_pool", "_law_size", "_law_at"] (spD K (fs__law_number)) := fn_D (fun_of FD__law_number) sc__law_number (fun ds M Q h => by first | (obtain ⟨_, rfl, _⟩ := h; rfl) | (obtain ⟨_, _, rfl, _⟩ := h; rfl) | (obtain ⟨_, _, _, rfl, _⟩ := h; rfl) | (obtain ⟨_, _, _, _, rfl, _⟩ := h; rfl) | (obtain ⟨_, _, _, _, _, rfl, _⟩ := h; rfl) | (obtain ⟨_, _, _, _, _, _, rfl, _⟩ := h; rfl) | (obtain ⟨_, _, _, _, _, _, _, rfl, _⟩ := h; rfl) | (obtain ⟨_, _, _, _, _, _, _, _, rfl, _⟩ := h; rfl) | (obtain ⟨_, _, _, _, _, _, _, _, _, rfl, _⟩ := h; rfl) | (obtain ⟨_, _, _, _, _, _, _, _, _, _, rfl, _⟩ := h; rfl) | (obtain ⟨_, _, _, _, _, _, _, _, _, _, _, rfl, _⟩ := h; rfl) | (obtain ⟨_, _, _, _, _, _, _, _, _, _, _, _, rfl, _⟩ := h; rfl) | (obtain ⟨_, _, _, _, _, _, _, _, _, _, _, _, _, rfl, _⟩ := h; rfl) | (obtain ⟨_, _, _, _, _, _, _, _, _, _, _, _, _, _, rfl, _⟩ := h; rfl)) (rd__law_number) (fun cdv A outer s H E hr => bx__law_number (h__law_draw := h__law_draw) (b_int := b_int) cdv A outer s H E hr) (ok__law_number)
  have h__law_number : KnO P w K mg base "_law_number" 2 (fs__law_number) := ⟨_, _, _, F__law_number, g__law_number, FD__law_number.kp, bi__law_number⟩
  have F__law_plain : FnOk P w K mg base CX0 1 _ fd__law_plain ["_law_width", "_law_rules"] (spD K (fs__law_plain)) := fn_D (fun_of FD__law_plain) sc__law_plain (fun ds M Q h => by first | (obtain ⟨_, rfl, _⟩ := h; rfl) | (obtain ⟨_, _, rfl, _⟩ := h; rfl) | (obtain ⟨_, _, _, rfl, _⟩ := h; rfl) | (obtain ⟨_, _, _, _, rfl, _⟩ := h; rfl) | (obtain ⟨_, _, _, _, _, rfl, _⟩ := h; rfl) | (obtain ⟨_, _, _, _, _, _, rfl, _⟩ := h; rfl) | (obtain ⟨_, _, _, _, _, _, _, rfl, _⟩ := h; rfl) | (obtain ⟨_, _, _, _, _, _, _, _, rfl, _⟩ := h; rfl) | (obtain ⟨_, _, _, _, _, _, _, _, _, rfl, _⟩ := h; rfl) | (obtain ⟨_, _, _, _, _, _, _, _, _, _, rfl, _⟩ := h; rfl) | (obtain ⟨_, _, _, _, _, _, _, _, _, _, _, rfl, _⟩ := h; rfl) | (obtain ⟨_, _, _, _, _, _, _, _, _, _, _, _, rfl, _⟩ := h; rfl) | (obtain ⟨_, _, _, _, _, _, _, _, _, _, _, _, _, rfl, _⟩ := h; rfl) | (obtain ⟨_, _, _, _, _, _, _, _, _, _, _, _, _, _, rfl, _⟩ := h; rfl)) (rd__law_plain) (fun cdv A outer s H E hr => bx__law_plain (b_tuple := b_tuple) (b_len := b_len) cdv A outer s H E hr) (ok__law_plain)
  have h__law_plain : KnO P w K mg base "_law_plain" 1 (fs__law_plain) := ⟨_, _, _, F__law_plain, g__law_plain, FD__law_plain.kp, bi__law_plain⟩
  have F__law_summed : FnOk P w K mg base CX0 1 _ fd__law_summed ["_law_width", "_law_rows", "_law_line"] (spD K (fs__law_summed)) := fn_D (fun_of FD__law_summed) sc__law_summed (fun ds M Q h => by first | (obtain ⟨_, rfl, _⟩ := h; rfl) | (obtain ⟨_, _, rfl, _⟩ := h; rfl) | (obtain ⟨_, _, _, rfl, _⟩ := h; rfl) | (obtain ⟨_, _, _, _, rfl, _⟩ := h; rfl) | (obtain ⟨_, _, _, _, _, rfl, _⟩ := h; rfl) | (obtain ⟨_, _, _, _, _, _, rfl, _⟩ := h; rfl) | (obtain ⟨_, _, _, _, _, _, _, rfl, _⟩ := h; rfl) | (obtain ⟨_, _, _, _, _, _, _, _, rfl, _⟩ := h; rfl) | (obtain ⟨_, _, _, _, _, _, _, _, _, rfl, _⟩ := h; rfl) | (obtain ⟨_, _, _, _, _, _, _, _, _, _, rfl, _⟩ := h; rfl) | (obtain ⟨_, _, _, _, _, _, _, _, _, _, _, rfl, _⟩ := h; rfl) | (obtain ⟨_, _, _, _, _, _, _, _, _, _, _, _, rfl, _⟩ := h; rfl) | (obtain ⟨_, _, _, _, _, _, _, _, _, _, _, _, _, rfl, _⟩ := h; rfl) | (obtain ⟨_, _, _, _, _, _, _, _, _, _, _, _, _, _, rfl, _⟩ := h; rfl)) (rd__law_summed) (fun cdv A outer s H E hr => bx__law_summed (b_tuple := b_tuple) (b_int := b_int) (b_any := b_any) (b_range := b_range) (b_len := b_len) cdv A outer s H E hr) (ok__law_summed)
  have h__law_summed : KnO P w K mg base "_law_summed" 1 (fs__law_summed) := ⟨_, _, _, F__law_summed, g__law_summed, FD__law_summed.kp, bi__law_summed⟩
  have F__law_takes : FnOk P w K mg base CX0 2 _ fd__law_takes ["_law_width", "_law_plain_here", "_law_lines"] (spD K (fs__law_takes)) := fn_D (fun_of FD__law_takes) sc__law_takes (fun ds M Q h => by first | (obtain ⟨_, rfl, _⟩ := h; rfl) | (obtain ⟨_, _, rfl, _⟩ := h; rfl) | (obtain ⟨_, _, _, rfl, _⟩ := h; rfl) | (obtain ⟨_, _, _, _, rfl, _⟩ := h; rfl) | (obtain ⟨_, _, _, _, _, rfl, _⟩ := h; rfl) | (obtain ⟨_, _, _, _, _, _, rfl, _⟩ := h; rfl) | (obtain ⟨_, _, _, _, _, _, _, rfl, _⟩ := h; rfl) | (obtain ⟨_, _, _, _, _, _, _, _, rfl, _⟩ := h; rfl) | (obtain ⟨_, _, _, _, _, _, _, _, _, rfl, _⟩ := h; rfl) | (obtain ⟨_, _, _, _, _, _, _, _, _, _, rfl, _⟩ := h; rfl) | (obtain ⟨_, _, _, _, _, _, _, _, _, _, _, rfl, _⟩ := h; rfl) | (obtain ⟨_, _, _, _, _, _, _, _, _, _, _, _, rfl, _⟩ := h; rfl) | (obtain ⟨_, _, _, _, _, _, _, _, _, _, _, _, _, rfl, _⟩ := h; rfl) | (obtain ⟨_, _, _, _, _, _, _, _, _, _, _, _, _, _, rfl, _⟩ := h; rfl)) (rd__law_takes) (fun cdv A outer s H E hr => bx__law_takes (b_len := b_len) (b_range := b_range) (b_any := b_any) (b_list := b_list) (h__law_summed := h__law_summed) cdv A outer s H E hr) (ok__law_takes)
  have h__law_takes : KnO P w K mg base "_law_takes" 2 (fs__law_takes) := ⟨_, _, _, F__law_takes, g__law_takes, FD__law_takes.kp, bi__law_takes⟩
  have F__law_times : FnOk P w K mg base CX0 1 _ fd__law_times ["_law_row", "_law_factor"] (spD K (fs__law_times)) := fn_D (fun_of FD__law_times) sc__law_times (fun ds M Q h => by first | (obtain ⟨_, rfl, _⟩ := h; rfl) | (obtain ⟨_, _, rfl, _⟩ := h; rfl) | (obtain ⟨_, _, _, rfl, _⟩ := h; rfl) | (obtain ⟨_, _, _, _, rfl, _⟩ := h; rfl) | (obtain ⟨_, _, _, _, _, rfl, _⟩ := h; rfl) | (obtain ⟨_, _, _, _, _, _, rfl, _⟩ := h; rfl) | (obtain ⟨_, _, _, _, _, _, _, rfl, _⟩ := h; rfl) | (obtain ⟨_, _, _, _, _, _, _, _, rfl, _⟩ := h; rfl) | (obtain ⟨_, _, _, _, _, _, _, _, _, rfl, _⟩ := h; rfl) | (obtain ⟨_, _, _, _, _, _, _, _, _, _, rfl, _⟩ := h; rfl) | (obtain ⟨_, _, _, _, _, _, _, _, _, _, _, rfl, _⟩ := h; rfl) | (obtain ⟨_, _, _, _, _, _, _, _, _, _, _, _, rfl, _⟩ := h; rfl) | (obtain ⟨_, _, _, _, _, _, _, _, _, _, _, _, _, rfl, _⟩ := h; rfl) | (obtain ⟨_, _, _, _, _, _, _, _, _, _, _, _, _, _, rfl, _⟩ := h; rfl)) (rd__law_times) (fun cdv A outer s H E hr => bx__law_times (b_tuple := b_tuple) cdv A outer s H E hr) (ok__law_times)
  have h__law_times : KnO P w K mg base "_law_times" 1 (fs__law_times) := ⟨_, _, _, F__law_times, g__law_times, FD__law_times.kp, bi__law_times⟩
  have F__law_noise : FnOk P w K mg base CX0 3 _ fd__law_noise ["_law_pool", "_law_width", "_law_at"] (spD K (fs__law_noise)) := fn_D (fun_of FD__law_noise) sc__law_noise (fun ds M Q h => by first | (obtain ⟨_, rfl, _⟩ := h; rfl) | (obtain ⟨_, _, rfl, _⟩ := h; rfl) | (obtain ⟨_, _, _, rfl, _⟩ := h; rfl) | (obtain ⟨_, _, _, _, rfl, _⟩ := h; rfl) | (obtain ⟨_, _, _, _, _, rfl, _⟩ := h; rfl) | (obtain ⟨_, _, _, _, _, _, rfl, _⟩ := h; rfl) | (obtain ⟨_, _, _, _, _, _, _, rfl, _⟩ := h; rfl) | (obtain ⟨_, _, _, _, _, _, _, _, rfl, _⟩ := h; rfl) | (obtain ⟨_, _, _, _, _, _, _, _, _, rfl, _⟩ := h; rfl) | (obtain ⟨_, _, _, _, _, _, _, _, _, _, rfl, _⟩ := h; rfl) | (obtain ⟨_, _, _, _, _, _, _, _, _, _, _, rfl, _⟩ := h; rfl) | (obtain ⟨_, _, _, _, _, _, _, _, _, _, _, _, rfl, _⟩ := h; rfl) | (obtain ⟨_, _, _, _, _, _, _, _, _, _, _, _, _, rfl, _⟩ := h; rfl) | (obtain ⟨_, _, _, _, _, _, _, _, _, _, _, _, _, _, rfl, _⟩ := h; rfl)) (rd__law_noise) (fun cdv A outer s H E hr => bx__law_noise (h__law_number := h__law_number) (b_tuple := b_tuple) (b_range := b_range) (h__law_draw := h__law_draw) (b_int := b_int) cdv A outer s H E hr) (ok__law_noise)
  have h__law_noise : KnO P w K mg base "_law_noise" 3 (fs__law_noise) := ⟨_, _, _, F__law_noise, g__law_noise, FD__law_noise.kp, bi__law_noise⟩
  have F__law_pair : FnOk P w K mg base CX0 3 _ fd__law_pair ["_law_pool", "_law_v", "_law_at", "_law_size"] (spD K (fs__law_pair)) := fn_D (fun_of FD__law_pair) sc__law_pair (fun ds M Q h => by first | (obtain ⟨_, rfl, _⟩ := h; rfl) | (obtain ⟨_, _, rfl, _⟩ := h; rfl) | (obtain ⟨_, _, _, rfl, _⟩ := h; rfl) | (obtain ⟨_, _, _, _, rfl, _⟩ := h; rfl) | (obtain ⟨_, _, _, _, _, rfl, _⟩ := h; rfl) | (obtain ⟨_, _, _, _, _, _, rfl, _⟩ := h; rfl) | (obtain ⟨_, _, _, _, _, _, _, rfl, _⟩ := h; rfl) | (obtain ⟨_, _, _, _, _, _, _, _, rfl, _⟩ := h; rfl) | (obtain ⟨_, _, _, _, _, _, _, _, _, rfl, _⟩ := h; rfl) | (obtain ⟨_, _, _, _, _, _, _, _, _, _, rfl, _⟩ := h; rfl) | (obtain ⟨_, _, _, _, _, _, _, _, _, _, _, rfl, _⟩ := h; rfl) | (obtain ⟨_, _, _, _, _, _, _, _, _, _, _, _, rfl, _⟩ := h; rfl) | (obtain ⟨_, _, _, _, _, _, _, _, _, _, _, _, _, rfl, _⟩ := h; rfl) | (obtain ⟨_, _, _, _, _, _, _, _, _, _, _, _, _, _, rfl, _⟩ := h; rfl)) (rd__law_pair) (fun cdv A outer s H E hr => bx__law_pair (h__law_draw := h__law_draw) (h__law_times := h__law_times) (b_int := b_int) (h__law_number := h__law_number) cdv A outer s H E hr) (ok__law_pair)
  have h__law_pair : KnO P w K mg base "_law_pair" 3 (fs__law_pair) := ⟨_, _, _, F__law_pair, g__law_pair, FD__law_pair.kp, bi__law_pair⟩
  have F__law_parity : FnOk P w K mg base CX0 3 _ fd__law_parity ["_law_pool", "_law_v", "_law_at", "_law_size"] (spD K (fs__law_parity)) := fn_D (fun_of FD__law_parity) sc__law_parity (fun ds M Q h => by first | (obtain ⟨_, rfl, _⟩ := h; rfl) | (obtain ⟨_, _, rfl, _⟩ := h; rfl) | (obtain ⟨_, _, _, rfl, _⟩ := h; rfl) | (obtain ⟨_, _, _, _, rfl, _⟩ := h; rfl) | (obtain ⟨_, _, _, _, _, rfl, _⟩ := h; rfl) | (obtain ⟨_, _, _, _, _, _, rfl, _⟩ := h; rfl) | (obtain ⟨_, _, _, _, _, _, _, rfl, _⟩ := h; rfl) | (obtain ⟨_, _, _, _, _, _, _, _, rfl, _⟩ := h; rfl) | (obtain ⟨_, _, _, _, _, _, _, _, _, rfl, _⟩ := h; rfl) | (obtain ⟨_, _, _, _, _, _, _, _, _, _, rfl, _⟩ := h; rfl) | (obtain ⟨_, _, _, _, _, _, _, _, _, _, _, rfl, _⟩ := h; rfl) | (obtain ⟨_, _, _, _, _, _, _, _, _, _, _, _, rfl, _⟩ := h; rfl) | (obtain ⟨_, _, _, _, _, _, _, _, _, _, _, _, _, rfl, _⟩ := h; rfl) | (obtain ⟨_, _, _, _, _, _, _, _, _, _, _, _, _, _, rfl, _⟩ := h; rfl)) (rd__law_parity) (fun cdv A outer s H E hr => bx__law_parity (h__law_times := h__law_times) (h__law_number := h__law_number) (h__law_draw := h__law_draw) cdv A outer s H E hr) (ok__law_parity)
  have h__law_parity : KnO P w K mg base "_law_parity" 3 (fs__law_parity) := ⟨_, _, _, F__law_parity, g__law_parity, FD__law_parity.kp, bi__law_parity⟩
  have F__law_remainder : FnOk P w K mg base CX0 3 _ fd__law_remainder ["_law_pool", "_law_v", "_law_at", "_law_size"] (spD K (fs__law_remainder)) := fn_D (fun_of FD__law_remainder) sc__law_remainder (fun ds M Q h => by first | (obtain ⟨_, rfl, _⟩ := h; rfl) | (obtain ⟨_, _, rfl, _⟩ := h; rfl) | (obtain ⟨_, _, _, rfl, _⟩ := h; rfl) | (obtain ⟨_, _, _, _, rfl, _⟩ := h; rfl) | (obtain ⟨_, _, _, _, _, rfl, _⟩ := h; rfl) | (obtain ⟨_, _, _, _, _, _, rfl, _⟩ := h; rfl) | (obtain ⟨_, _, _, _, _, _, _, rfl, _⟩ := h; rfl) | (obtain ⟨_, _, _, _, _, _, _, _, rfl, _⟩ := h; rfl) | (obtain ⟨_, _, _, _, _, _, _, _, _, rfl, _⟩ := h; rfl) | (obtain ⟨_, _, _, _, _, _, _, _, _, _, rfl, _⟩ := h; rfl) | (obtain ⟨_, _, _, _, _, _, _, _, _, _, _, rfl, _⟩ := h; rfl) | (obtain ⟨_, _, _, _, _, _, _, _, _, _, _, _, rfl, _⟩ := h; rfl) | (obtain ⟨_, _, _, _, _, _, _, _, _, _, _, _, _, rfl, _⟩ := h; rfl) | (obtain ⟨_, _, _, _, _, _, _, _, _, _, _, _, _, _, rfl, _⟩ := h; rfl)) (rd__law_remainder) (fun cdv A outer s H E hr => bx__law_remainder (h__law_draw := h__law_draw) (h__law_number := h__law_number) cdv A outer s H E hr) (ok__law_remainder)
  have h__law_remainder : KnO P w K mg base "_law_remainder" 3 (fs__law_remainder) := ⟨_, _, _, F__law_remainder, g__law_remainder, FD__law_remainder.kp, bi__law_remainder⟩
  have F__law_free : FnOk P w K mg base CX0 2 _ fd__law_free ["_law_pool", "_law_size"] (spD K (fs__law_free)) := fn_D (fun_of FD__law_free) sc__law_free (fun ds M Q h => by first | (obtain ⟨_, rfl, _⟩ := h; rfl) | (obtain ⟨_, _, rfl, _⟩ := h; rfl) | (obtain ⟨_, _, _, rfl, _⟩ := h; rfl) | (obtain ⟨_, _, _, _, rfl, _⟩ := h; rfl) | (obtain ⟨_, _, _, _, _, rfl, _⟩ := h; rfl) | (obtain ⟨_, _, _, _, _, _, rfl, _⟩ := h; rfl) | (obtain ⟨_, _, _, _, _, _, _, rfl, _⟩ := h; rfl) | (obtain ⟨_, _, _, _, _, _, _, _, rfl, _⟩ := h; rfl) | (obtain ⟨_, _, _, _, _, _, _, _, _, rfl, _⟩ := h; rfl) | (obtain ⟨_, _, _, _, _, _, _, _, _, _, rfl, _⟩ := h; rfl) | (obtain ⟨_, _, _, _, _, _, _, _, _, _, _, rfl, _⟩ := h; rfl) | (obtain ⟨_, _, _, _, _, _, _, _, _, _, _, _, rfl, _⟩ := h; rfl) | (obtain ⟨_, _, _, _, _, _, _, _, _, _, _, _, _, rfl, _⟩ := h; rfl) | (obtain ⟨_, _, _, _, _, _, _, _, _, _, _, _, _, _, rfl, _⟩ := h; rfl)) (rd__law_free) (fun cdv A outer s H E hr => bx__law_free (h__law_draw := h__law_draw) (b_range := b_range) (b_tuple := b_tuple) (b_int := b_int) cdv A outer s H E hr) (ok__law_free)
  have h__law_free : KnO P w K mg base "_law_free" 2 (fs__law_free) := ⟨_, _, _, F__law_free, g__law_free, FD__law_free.kp, bi__law_free⟩
  have F__law_world : FnOk P w K mg base CX0 4 _ fd__law_world ["_law_pool"] (spD K (fs__law_world)) := fn_D (fun_of FD__law_world) sc__law_world (fun ds M Q h => by first | (obtain ⟨_, rfl, _⟩ := h; rfl) | (obtain ⟨_, _, rfl, _⟩ := h; rfl) | (obtain ⟨_, _, _, rfl, _⟩ := h; rfl) | (obtain ⟨_, _, _, _, rfl, _⟩ := h; rfl) | (obtain ⟨_, _, _, _, _, rfl, _⟩ := h; rfl) | (obtain ⟨_, _, _, _, _, _, rfl, _⟩ := h; rfl) | (obtain ⟨_, _, _, _, _, _, _, rfl, _⟩ := h; rfl) | (obtain ⟨_, _, _, _, _, _, _, _, rfl, _⟩ := h; rfl) | (obtain ⟨_, _, _, _, _, _, _, _, _, rfl, _⟩ := h; rfl) | (obtain ⟨_, _, _, _, _, _, _, _, _, _, rfl, _⟩ := h; rfl) | (obtain ⟨_, _, _, _, _, _, _, _, _, _, _, rfl, _⟩ := h; rfl) | (obtain ⟨_, _, _, _, _, _, _, _, _, _, _, _, rfl, _⟩ := h; rfl) | (obtain ⟨_, _, _, _, _, _, _, _, _, _, _, _, _, rfl, _⟩ := h; rfl) | (obtain ⟨_, _, _, _, _, _, _, _, _, _, _, _, _, _, rfl, _⟩ := h; rfl)) (rd__law_world) (fun cdv A outer s H E hr => bx__law_world (h__law_pair := h__law_pair) (h__law_parity := h__law_parity) (h__law_remainder := h__law_remainder) (h__law_free := h__law_free) (h__law_plain := h__law_plain) (b_len := b_len) (b_range := b_range) (h__law_number := h__law_number) (b_tuple := b_tuple) (h__law_noise := h__law_noise) (b_int := b_int) (h__law_draw := h__law_draw) (b_max := b_max) cdv A outer s H E hr) (ok__law_world)
  have h__law_world : KnO P w K mg base "_law_world" 4 (fs__law_world) := ⟨_, _, _, F__law_world, g__law_world, FD__law_world.kp, bi__law_world⟩
  have F__law_spoilt : FnOk P w K mg base CX0 2 _ fd__law_spoilt ["_law_pool", "_law_lines", "_law_size"] (spD K (fs__law_spoilt)) := fn_D (fun_of FD__law_spoilt) sc__law_spoilt (fun ds M Q h => by first | (obtain ⟨_, rfl, _⟩ := h; rfl) | (obtain ⟨_, _, rfl, _⟩ := h; rfl) | (obtain ⟨_, _, _, rfl, _⟩ := h; rfl) | (obtain ⟨_, _, _, _, rfl, _⟩ := h; rfl) | (obtain ⟨_, _, _, _, _, rfl, _⟩ := h; rfl) | (obtain ⟨_, _, _, _, _, _, rfl, _⟩ := h; rfl) | (obtain ⟨_, _, _, _, _, _, _, rfl, _⟩ := h; rfl) | (obtain ⟨_, _, _, _, _, _, _, _, rfl, _⟩ := h; rfl) | (obtain ⟨_, _, _, _, _, _, _, _, _, rfl, _⟩ := h; rfl) | (obtain ⟨_, _, _, _, _, _, _, _, _, _, rfl, _⟩ := h; rfl) | (obtain ⟨_, _, _, _, _, _, _, _, _, _, _, rfl, _⟩ := h; rfl) | (obtain ⟨_, _, _, _, _, _, _, _, _, _, _, _, rfl, _⟩ := h; rfl) | (obtain ⟨_, _, _, _, _, _, _, _, _, _, _, _, _, rfl, _⟩ := h; rfl) | (obtain ⟨_, _, _, _, _, _, _, _, _, _, _, _, _, _, rfl, _⟩ := h; rfl)) (rd__law_spoilt) (fun cdv A outer s H E hr => bx__law_spoilt (b_int := b_int) (b_tuple := b_tuple) (h__law_draw := h__law_draw) (b_len := b_len) (b_max := b_max) cdv A outer s H E hr) (ok__law_spoilt)
  have h__law_spoilt : KnO P w K mg base "_law_spoilt" 2 (fs__law_spoilt) := ⟨_, _, _, F__law_spoilt, g__law_spoilt, FD__law_spoilt.kp, bi__law_spoilt⟩
  have F__law_scaled : FnOk P w K mg base CX0 1 _ fd__law_scaled ["_law_lines", "_law_factor"] (spD K (fs__law_scaled)) := fn_D (fun_of FD__law_scaled) sc__law_scaled (fun ds M Q h => by first | (obtain ⟨_, rfl, _⟩ := h; rfl) | (obtain ⟨_, _, rfl, _⟩ := h; rfl) | (obtain ⟨_, _, _, rfl, _⟩ := h; rfl) | (obtain ⟨_, _, _, _, rfl, _⟩ := h; rfl) | (obtain ⟨_, _, _, _, _, rfl, _⟩ := h; rfl) | (obtain ⟨_, _, _, _, _, _, rfl, _⟩ := h; rfl) | (obtain ⟨_, _, _, _, _, _, _, rfl, _⟩ := h; rfl) | (obtain ⟨_, _, _, _, _, _, _, _, rfl, _⟩ := h; rfl) | (obtain ⟨_, _, _, _, _, _, _, _, _, rfl, _⟩ := h; rfl) | (obtain ⟨_, _, _, _, _, _, _, _, _, _, rfl, _⟩ := h; rfl) | (obtain ⟨_, _, _, _, _, _, _, _, _, _, _, rfl, _⟩ := h; rfl) | (obtain ⟨_, _, _, _, _, _, _, _, _, _, _, _, rfl, _⟩ := h; rfl) | (obtain ⟨_, _, _, _, _, _, _, _, _, _, _, _, _, rfl, _⟩ := h; rfl) | (obtain ⟨_, _, _, _, _, _, _, _, _, _, _, _, _, _, rfl, _⟩ := h; rfl)) (rd__law_scaled) (fun cdv A outer s H E hr => bx__law_scaled (b_tuple := b_tuple) cdv A outer s H E hr) (ok__law_scaled)
  have h__law_scaled : KnO P w K mg base "_law_scaled" 1 (fs__law_scaled) := ⟨_, _, _, F__law_scaled, g__law_scaled, FD__law_scaled.kp, bi__law_scaled⟩
  have F__law_gcd : FnOk P w K mg base CX0 1 _ fd__law_gcd ["_law_row"] (spD K (fs__law_gcd)) := fn_D (fun_of FD__law_gcd) sc__law_gcd (fun ds M Q h => by first | (obtain ⟨_, rfl, _⟩ := h; rfl) | (obtain ⟨_, _, rfl, _⟩ := h; rfl) | (obtain ⟨_, _, _, rfl, _⟩ := h; rfl) | (obtain ⟨_, _, _, _, rfl, _⟩ := h; rfl) | (obtain ⟨_, _, _, _, _, rfl, _⟩ := h; rfl) | (obtain ⟨_, _, _, _, _, _, rfl, _⟩ := h; rfl) | (obtain ⟨_, _, _, _, _, _, _, rfl, _⟩ := h; rfl) | (obtain ⟨_, _, _, _, _, _, _, _, rfl, _⟩ := h; rfl) | (obtain ⟨_, _, _, _, _, _, _, _, _, rfl, _⟩ := h; rfl) | (obtain ⟨_, _, _, _, _, _, _, _, _, _, rfl, _⟩ := h; rfl) | (obtain ⟨_, _, _, _, _, _, _, _, _, _, _, rfl, _⟩ := h; rfl) | (obtain ⟨_, _, _, _, _, _, _, _, _, _, _, _, rfl, _⟩ := h; rfl) | (obtain ⟨_, _, _, _, _, _, _, _, _, _, _, _, _, rfl, _⟩ := h; rfl) | (obtain ⟨_, _, _, _, _, _, _, _, _, _, _, _, _, _, rfl, _⟩ := h; rfl)) (rd__law_gcd) (fun cdv A outer s H E hr => bx__law_gcd (b_int := b_int) (b_abs := b_abs) cdv A outer s H E hr) (ok__law_gcd)
  have h__law_gcd : KnO P w K mg base "_law_gcd" 1 (fs__law_gcd) := ⟨_, _, _, F__law_gcd, g__law_gcd, FD__law_gcd.kp, bi__law_gcd⟩
  have F__law_adds : FnG P w K mg base 2 _ fd__law_adds ["_law_width", "_law_plain_here", "_law_lines"] (fs__law_adds) := fn_G (fun_of FD__law_adds) sc__law_adds (fun ds M Q h => by first | (obtain ⟨_, rfl, _⟩ := h; rfl) | (obtain ⟨_, _, rfl, _⟩ := h; rfl) | (obtain ⟨_, _, _, rfl, _⟩ := h; rfl) | (obtain ⟨_, _, _, _, rfl, _⟩ := h; rfl) | (obtain ⟨_, _, _, _, _, rfl, _⟩ := h; rfl) | (obtain ⟨_, _, _, _, _, _, rfl, _⟩ := h; rfl) | (obtain ⟨_, _, _, _, _, _, _, rfl, _⟩ := h; rfl) | (obtain ⟨_, _, _, _, _, _, _, _, rfl, _⟩ := h; rfl) | (obtain ⟨_, _, _, _, _, _, _, _, _, rfl, _⟩ := h; rfl) | (obtain ⟨_, _, _, _, _, _, _, _, _, _, rfl, _⟩ := h; rfl) | (obtain ⟨_, _, _, _, _, _, _, _, _, _, _, rfl, _⟩ := h; rfl) | (obtain ⟨_, _, _, _, _, _, _, _, _, _, _, _, rfl, _⟩ := h; rfl) | (obtain ⟨_, _, _, _, _, _, _, _, _, _, _, _, _, rfl, _⟩ := h; rfl) | (obtain ⟨_, _, _, _, _, _, _, _, _, _, _, _, _, _, rfl, _⟩ := h; rfl)) (rd__law_adds) (fun cdv A outer s H E hr hgu => bx__law_adds (h_divided := h_divided) (b_repr := b_repr) (h_divisor := h_divisor) (h__law_gcd := h__law_gcd) (h_combined := h_combined) (h__law_times := h__law_times) (b_tuple := b_tuple) (b_range := b_range) (h__law_summed := h__law_summed) (b_list := b_list) cdv A outer s H E hr hgu) (ok__law_adds)
  have h__law_adds : KnG P w K mg base "_law_adds" 2 (fs__law_adds) := ⟨_, _, _, F__law_adds, g__law_adds, FD__law_adds.kp, bi__law_adds⟩
  have F__law_asked : FnG P w K mg base 5 _ fd__law_asked ["_law_system", "_law_paper", "_law_due"] (fs__law_asked (ga K "System")) := fn_G (fun_of FD__law_asked) sc__law_asked (fun ds M Q h => by first | (obtain ⟨_, rfl, _⟩ := h; rfl) | (obtain ⟨_, _, rfl, _⟩ := h; rfl) | (obtain ⟨_, _, _, rfl, _⟩ := h; rfl) | (obtain ⟨_, _, _, _, rfl, _⟩ := h; rfl) | (obtain ⟨_, _, _, _, _, rfl, _⟩ := h; rfl) | (obtain ⟨_, _, _, _, _, _, rfl, _⟩ := h; rfl) | (obtain ⟨_, _, _, _, _, _, _, rfl, _⟩ := h; rfl) | (obtain ⟨_, _, _, _, _, _, _, _, rfl, _⟩ := h; rfl) | (obtain ⟨_, _, _, _, _, _, _, _, _, rfl, _⟩ := h; rfl) | (obtain ⟨_, _, _, _, _, _, _, _, _, _, rfl, _⟩ := h; rfl) | (obtain ⟨_, _, _, _, _, _, _, _, _, _, _, rfl, _⟩ := h; rfl) | (obtain ⟨_, _, _, _, _, _, _, _, _, _, _, _, rfl, _⟩ := h; rfl) | (obtain ⟨_, _, _, _, _, _, _, _, _, _, _, _, _, rfl, _⟩ := h; rfl) | (obtain ⟨_, _, _, _, _, _, _, _, _, _, _, _, _, _, rfl, _⟩ := h; rfl)) (rd__law_asked (ga K "System")) (fun cdv A outer s H E hr hgu => bx__law_asked (b_repr := b_repr) (b_tuple := b_tuple) (h_accepts := h_accepts) (b_list := b_list) cdv A outer s H E hr hgu) (ok__law_asked (ga K "System"))
  have h__law_asked : KnG P w K mg base "_law_asked" 5 (fs__law_asked (ga K "System")) := ⟨_, _, _, F__law_asked, g__law_asked, FD__law_asked.kp, bi__law_asked⟩
  have F_law : FnG P w K mg base 6 _ fd_law ["_law_script"] (fs_law (ga K "System")) := fn_G (fun_of FD_law) sc_law (fun ds M Q h => by first | (obtain ⟨_, rfl, _⟩ := h; rfl) | (obtain ⟨_, _, rfl, _⟩ := h; rfl) | (obtain ⟨_, _, _, rfl, _⟩ := h; rfl) | (obtain ⟨_, _, _, _, rfl, _⟩ := h; rfl) | (obtain ⟨_, _, _, _, _, rfl, _⟩ := h; rfl) | (obtain ⟨_, _, _, _, _, _, rfl, _⟩ := h; rfl) | (obtain ⟨_, _, _, _, _, _, _, rfl, _⟩ := h; rfl) | (obtain ⟨_, _, _, _, _, _, _, _, rfl, _⟩ := h; rfl) | (obtain ⟨_, _, _, _, _, _, _, _, _, rfl, _⟩ := h; rfl) | (obtain ⟨_, _, _, _, _, _, _, _, _, _, rfl, _⟩ := h; rfl) | (obtain ⟨_, _, _, _, _, _, _, _, _, _, _, rfl, _⟩ := h; rfl) | (obtain ⟨_, _, _, _, _, _, _, _, _, _, _, _, rfl, _⟩ := h; rfl) | (obtain ⟨_, _, _, _, _, _, _, _, _, _, _, _, _, rfl, _⟩ := h; rfl) | (obtain ⟨_, _, _, _, _, _, _, _, _, _, _, _, _, _, rfl, _⟩ := h; rfl)) (rd_law (ga K "System")) (fun cdv A outer s H E hr hgu => bx_law (h__law_asked := h__law_asked) (h__law_takes := h__law_takes) (h__law_draw := h__law_draw) (h__law_scaled := h__law_scaled) (b_len := b_len) (b_list := b_list) (b_range := b_range) (h__law_adds := h__law_adds) (h__law_plain := h__law_plain) (hi_System := hi_System) (h__law_spoilt := h__law_spoilt) (h__law_world := h__law_world) cdv A outer s H E hr hgu) (ok_law (ga K "System"))
  exact F_law
end Lw
open PySem PySem.W PySem.Calls PyProof.Rows
theorem PySem.Challenge.cw_loopsame_k03_judge_sum_lines_holds : PySem.Challenge.rw_loopsame_k03_judge_sum_lines.Holds := by
  w_on; o_law
  refine HandSHeadRun.head_imp (r := OpenLaw.row PySem.Challenge.rw_loopsame_k03_judge_sum_lines) (q := view (OpenLaw.row PySem.Challenge.rw_loopsame_k03_judge_sum_lines).prog [0, 40]) (H := Lw.hk) (ob := Lw.ob) (M := 4000) (loose := Lw.loose) (d := HandSHeadRun.topDef (OpenLaw.row PySem.Challenge.rw_loopsame_k03_judge_sum_lines).prog 40) (kwd := []) Lw.ob_eq
    Lw.head_run (by kernel_rfl) (by kernel_rfl) (by kernel_rfl) (by rfl) (by first | assumption | decide +kernel) (by decide +kernel) ⟨rfl, rfl, rfl, rfl, rfl, by decide +kernel⟩ ?hw ?hc
  case hw => w_witness2
  case hc =>
    refine Dl.walk_D (l := PySem.Challenge.rw_loopsame_k03_judge_sum_lines) (k := 6) (x := "_law_script") rfl (by kernel_rfl) ⟨rfl, by decide, by decide⟩ ?F
    intro w mg fa h Y G hmg0
    obtain ⟨K, KX, c⟩ := Y
    have hmg : mg ("law" : PySem.Str) = some (.ref fa) := by
      have e : (HandSHeadRun.topDef (OpenLaw.row PySem.Challenge.rw_loopsame_k03_judge_sum_lines).prog 40).name = ("law" : PySem.Str) := by kernel_rfl
      rw [← e]
      exact hmg0
    obtain ⟨fd, hb, hF⟩ := Lw.the_facts (P := (PySem.Challenge.rw_loopsame_k03_judge_sum_lines).prog) (w := w) KX G hmg c
    exact ⟨K, fd, KX, hb, hF⟩
