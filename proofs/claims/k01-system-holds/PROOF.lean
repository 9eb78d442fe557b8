import PyProof.Rows.All
import Wide.All
import OpenK.AllK
import Wide.FinOn
import PyProof.EqAt
import PyProof.EqKinds
import PyProof.TupleCall
import PyProof.ReprReads
import HandS.Base
import HandS.Call
import HandS.List
import HandS.Comp
import HandS.Ends
import HandS.Words
import HandS.WordsList
import HandS.TupAny
import HandS.TupMul
import HandS.More
import HandS.Wide
import HandS.Style
import HandS.WideBits
import PyProof.ListMulRoad
import PyProof.FactsAll.tuple_2
import HandS.ClsMeth
import HandS.Property
import HandS.HeadEnd
import HandS.Head0
import HandS.Head1
import HandS.Head2
import HandS.HeadHook1
import HandS.HeadHook2
import HandS.HeadHook3
import HandS.HeadHook4
import HandS.Star
import OpenK.KMeth
import HandS.Iter
import HandS.Zip
import KE.GoesEnum
import KE.GoesMore
import HandS.Flow
import HandS.Gcd
import HandS.Conv
import HandS.Sort
import PyProof.ListRange
import HandS.Exc
import HandS.ExcInit
import HandS.ExcField
import HandS.ExcIs
import HandS.TryMany
import HandS.Nested
import KE.KExcSuper
import HandS.WordsExc
import KE.KExcIs
import KE.KStateDown
import Lean
import PySem.Challenge.RW_loopsame_k01_system_holds
set_option Elab.async false
set_option linter.all false
set_option maxRecDepth 100000
set_option maxHeartbeats 4000000
/-! Dl: readings over data. A value is told by its data (ints, texts, tuples, lists, instances, or a cell: something that may still change);
the memory tells what the cells hold. B is the part of the abstract heap that no longer changes. -/
namespace Dl
open PySem PySem.Spec PyProof.Rows L2

inductive Dat where
  | non | bl (b : Bool) | int (i : Int) | str (x : Str)
  | tup (xs : List Dat) | lst (xs : List Dat) | fz (xs : List Dat)
  | ins (C : Addr) (fs : List (Str × Dat))
  | cell (p : Addr)
  /-- a caught error at a, its dict at d, its class at C -/
  | exn (a d C : Addr) (fs : List (Str × Dat))

def Ex (H H' : Hp) : Prop := ∀ a o, H a = some o → H' a = some o
theorem Ex.refl (H : Hp) : Ex H H := fun _ _ h => h
theorem Ex.trans {H1 H2 H3 : Hp} (a : Ex H1 H2) (b : Ex H2 H3) : Ex H1 H3 := fun x o h => b x o (a x o h)
theorem Ex.rd {H H' : Hp} {a : Addr} {u : HO} (e : Ex H H') (h : Rd H a u) : Rd H' a u := by
  rcases h with h | ⟨o, h⟩
  · exact Or.inl (e a _ h)
  · exact Or.inr ⟨o, e a _ h⟩
theorem Ex.sl {K : PySem.W.Frag} {H H' : Hp} {a : Addr} {xs : List V} (e : Ex H H') (h : SqL K H a xs) : SqL K H' a xs := by
  rcases h with h | h
  · exact Or.inl (e.rd h)
  · exact Or.inr h
theorem Ex.st {K : PySem.W.Frag} {H H' : Hp} {a : Addr} {xs : List V} (e : Ex H H') (h : SqT K H a xs) : SqT K H' a xs := by
  rcases h with h | h
  · exact Or.inl (e.rd h)
  · exact Or.inr h

mutual
inductive Rp (K : PySem.W.Frag) (B : Hp) : V → Dat → Prop
  | non : Rp K B .non .non
  | bl (b : Bool) : Rp K B (.bl b) (.bl b)
  | int (i : Int) : Rp K B (.int i) (.int i)
  | str (x : Str) : Rp K B (.str x) (.str x)
  | tup {a : Addr} {xs : List V} {ds : List Dat} : SqT K B a xs → RpA K B xs ds → Rp K B (.ref a) (.tup ds)
  | lst {a : Addr} {xs : List V} {ds : List Dat} : B a = some (.lst xs) → RpA K B xs ds → Rp K B (.ref a) (.lst ds)
  | fz {a : Addr} {xs : List V} {ds : List Dat} : SqL K B a xs → RpA K B xs ds → Rp K B (.ref a) (.fz ds)
  | ins {a C dx : Addr} {vs : List (Str × V)} {fs : List (Str × Dat)} : B a = some (.ins C dx vs) → RpF K B vs fs → Rp K B (.ref a) (.ins C fs)
  | cell (p : Addr) : Rp K B (.ref p) (.cell p)
  | exn {a d C : Addr} {vs : List (Str × V)} {fs : List (Str × Dat)} : B d = some (.xd vs) → RpF K B vs fs → Rp K B (.ref a) (.exn a d C fs)
inductive RpA (K : PySem.W.Frag) (B : Hp) : List V → List Dat → Prop
  | nil : RpA K B [] []
  | cons {v : V} {vs : List V} {d : Dat} {ds : List Dat} : Rp K B v d → RpA K B vs ds → RpA K B (v :: vs) (d :: ds)
inductive RpF (K : PySem.W.Frag) (B : Hp) : List (Str × V) → List (Str × Dat) → Prop
  | nil : RpF K B [] []
  | cons {f : Str} {v : V} {vs : List (Str × V)} {d : Dat} {ds : List (Str × Dat)} : Rp K B v d → RpF K B vs ds → RpF K B ((f, v) :: vs) ((f, d) :: ds)
end

section
variable {K : PySem.W.Frag} {B B' : Hp}
mutual
theorem Rp.mono (e : Ex B B') : ∀ {v : V} {d : Dat}, Rp K B v d → Rp K B' v d
  | _, _, .non => .non
  | _, _, .bl b => .bl b
  | _, _, .int i => .int i
  | _, _, .str x => .str x
  | _, _, .tup h a => .tup (e.st h) (RpA.mono e a)
  | _, _, .lst h a => .lst (e _ _ h) (RpA.mono e a)
  | _, _, .fz h a => .fz (e.sl h) (RpA.mono e a)
  | _, _, .ins h a => .ins (e _ _ h) (RpF.mono e a)
  | _, _, .cell p => .cell p
  | _, _, .exn h a => .exn (e _ _ h) (RpF.mono e a)
theorem RpA.mono (e : Ex B B') : ∀ {vs : List V} {ds : List Dat}, RpA K B vs ds → RpA K B' vs ds
  | _, _, .nil => .nil
  | _, _, .cons h a => .cons (Rp.mono e h) (RpA.mono e a)
theorem RpF.mono (e : Ex B B') : ∀ {vs : List (Str × V)} {ds : List (Str × Dat)}, RpF K B vs ds → RpF K B' vs ds
  | _, _, .nil => .nil
  | _, _, .cons h a => .cons (Rp.mono e h) (RpF.mono e a)
end
theorem RpA.length : ∀ {vs : List V} {ds : List Dat}, RpA K B vs ds → vs.length = ds.length
  | _, _, .nil => rfl
  | _, _, .cons _ a => congrArg (· + 1) (RpA.length a)
theorem RpA.get : ∀ {vs : List V} {ds : List Dat} {i : Nat} {d : Dat}, RpA K B vs ds → ds[i]? = some d → ∃ v, vs[i]? = some v ∧ Rp K B v d
  | _, _, _, _, .nil, h => by simp at h
  | _, _, 0, _, .cons h _, e => by
    simp at e
    subst e
    exact ⟨_, rfl, h⟩
  | _, _, i + 1, _, .cons _ a, e => RpA.get (i := i) a (by simpa using e)
theorem RpA.get' : ∀ {vs : List V} {ds : List Dat} {i : Nat} {v : V}, RpA K B vs ds → vs[i]? = some v → ∃ d, ds[i]? = some d ∧ Rp K B v d
  | _, _, _, _, .nil, h => by simp at h
  | _, _, 0, _, .cons h _, e => by
    simp at e
    subst e
    exact ⟨_, rfl, h⟩
  | _, _, i + 1, _, .cons _ a, e => RpA.get' (i := i) a (by simpa using e)
theorem RpA.append : ∀ {vs us : List V} {ds es : List Dat}, RpA K B vs ds → RpA K B us es → RpA K B (vs ++ us) (ds ++ es)
  | _, _, _, _, .nil, b => b
  | _, _, _, _, .cons h a, b => .cons h (RpA.append a b)
theorem RpA.take : ∀ {vs : List V} {ds : List Dat} (n : Nat), RpA K B vs ds → RpA K B (vs.take n) (ds.take n)
  | _, _, 0, _ => .nil
  | _, _, _ + 1, .nil => .nil
  | _, _, n + 1, .cons h a => .cons h (RpA.take n a)
theorem RpA.drop : ∀ {vs : List V} {ds : List Dat} (n : Nat), RpA K B vs ds → RpA K B (vs.drop n) (ds.drop n)
  | _, _, 0, a => a
  | _, _, _ + 1, .nil => .nil
  | _, _, n + 1, .cons _ a => RpA.drop n a
theorem RpA.set {v : V} {d : Dat} (h : Rp K B v d) : ∀ {vs : List V} {ds : List Dat} (i : Nat), RpA K B vs ds → RpA K B (vs.set i v) (ds.set i d)
  | _, _, _, .nil => .nil
  | _, _, 0, .cons _ a => .cons h a
  | _, _, i + 1, .cons g a => .cons g (RpA.set h i a)
theorem RpA.dropLast : ∀ {vs : List V} {ds : List Dat}, RpA K B vs ds → RpA K B vs.dropLast ds.dropLast
  | _, _, .nil => .nil
  | _, _, .cons _ .nil => .nil
  | _, _, .cons h (.cons g a) => .cons h (RpA.dropLast (.cons g a))
theorem RpA.rep {vs : List V} {ds : List Dat} (h : RpA K B vs ds) : ∀ k : Nat, RpA K B (List.replicate k vs).flatten (List.replicate k ds).flatten
  | 0 => .nil
  | k + 1 => by
    rw [List.replicate_succ, List.replicate_succ, List.flatten_cons, List.flatten_cons]
    exact h.append (RpA.rep h k)
theorem RpA.reverse {vs : List V} {ds : List Dat} (h : RpA K B vs ds) : RpA K B vs.reverse ds.reverse := by
  induction vs generalizing ds with
  | nil => cases h; exact .nil
  | cons v vs ih =>
    cases h with
    | cons a b =>
      rw [List.reverse_cons, List.reverse_cons]
      exact (ih b).append (.cons a .nil)
theorem RpF.look {f : Str} {d : Dat} : ∀ {vs : List (Str × V)} {fs : List (Str × Dat)}, RpF K B vs fs → fs.lookup f = some d → ∃ v, vs.lookup f = some v ∧ Rp K B v d
  | _, _, .nil, e => by cases e
  | _, _, .cons (f := g) (v := v) (d := d') h a, e => by
    rw [List.lookup_cons] at e ⊢
    cases q : (f == g) with
    | true =>
      rw [q] at e
      cases e
      exact ⟨_, rfl, h⟩
    | false =>
      rw [q] at e
      exact RpF.look a e
theorem RpF.none {f : Str} : ∀ {vs : List (Str × V)} {fs : List (Str × Dat)}, RpF K B vs fs → fs.lookup f = none → vs.lookup f = none
  | _, _, .nil, _ => rfl
  | _, _, .cons (f := g) h a, e => by
    rw [List.lookup_cons] at e ⊢
    cases q : (f == g) with
    | true =>
      rw [q] at e
      cases e
    | false =>
      rw [q] at e
      exact RpF.none a e
theorem RpF.length : ∀ {vs : List (Str × V)} {ds : List (Str × Dat)}, RpF K B vs ds → vs.length = ds.length
  | _, _, .nil => rfl
  | _, _, .cons _ a => congrArg (· + 1) (RpF.length a)
end
/-- an attribute stored -/
def putD (f : Str) (d : Dat) : List (Str × Dat) → List (Str × Dat)
  | [] => [(f, d)]
  | (g, x) :: r => if g = f then (g, d) :: r else (g, x) :: putD f d r
theorem RpF.put {K : PySem.W.Frag} {B : Hp} {f : Str} {v : V} {d : Dat} (h : Rp K B v d) : ∀ {vs : List (Str × V)} {fs : List (Str × Dat)}, RpF K B vs fs → RpF K B (putF f v vs) (putD f d fs)
  | _, _, .nil => .cons h .nil
  | _, _, .cons (f := g) (v := u) (vs := vs) (d := c) (ds := ds) x a => by
    by_cases q : g = f
    · have e1 : putF f v ((g, u) :: vs) = (g, v) :: vs := if_pos q
      have e2 : putD f d ((g, c) :: ds) = (g, d) :: ds := if_pos q
      rw [e1, e2]
      exact .cons h a
    · have e1 : putF f v ((g, u) :: vs) = (g, u) :: putF f v vs := if_neg q
      have e2 : putD f d ((g, c) :: ds) = (g, c) :: putD f d ds := if_neg q
      rw [e1, e2]
      exact .cons x (RpF.put h a)

/-! ### memory -/
inductive MV where
  | lst (ds : List Dat)
  | obj (C : Addr) (fs : List (Str × Dat))
abbrev Mem := Addr → Option MV
def Mem.set (M : Mem) (p : Addr) (m : MV) : Mem := fun q => if q = p then some m else M q
def Mem.del (M : Mem) (p : Addr) : Mem := fun q => if q = p then none else M q
/-- what is left of M' of the names of M -/
def Mem.restr (M M' : Mem) : Mem := fun q => match M q with
  | none => none
  | some _ => M' q
theorem Mem.set_same {M : Mem} {p : Addr} {m : MV} : M.set p m p = some m := if_pos rfl
theorem Mem.set_ne {M : Mem} {p q : Addr} {m : MV} (h : q ≠ p) : M.set p m q = M q := if_neg h
theorem Mem.del_same {M : Mem} {p : Addr} : M.del p p = none := if_pos rfl
theorem Mem.del_ne {M : Mem} {p q : Addr} (h : q ≠ p) : M.del p q = M q := if_neg h
theorem Mem.set_set {M : Mem} {p : Addr} {m n : MV} : (M.set p m).set p n = M.set p n := by
  funext q
  unfold Mem.set
  by_cases h : q = p
  · rw [if_pos h, if_pos h]
  · rw [if_neg h, if_neg h, if_neg h]
theorem Mem.set_self {M : Mem} {p : Addr} {m : MV} (h : M p = some m) : M.set p m = M := by
  funext q
  unfold Mem.set
  by_cases e : q = p
  · rw [if_pos e, e, h]
  · rw [if_neg e]
theorem Mem.set_comm {M : Mem} {p q : Addr} {m n : MV} (h : p ≠ q) : (M.set p m).set q n = (M.set q n).set p m := by
  funext r
  unfold Mem.set
  by_cases e1 : r = q
  · by_cases e2 : r = p
    · exact absurd (e2.symm.trans e1) h
    · rw [if_pos e1, if_neg e2, if_pos e1]
  · rw [if_neg e1, if_neg e1]
theorem Mem.del_set {M : Mem} {p : Addr} {m : MV} (h : M p = none) : (M.set p m).del p = M := by
  funext q
  unfold Mem.set Mem.del
  by_cases e : q = p
  · rw [if_pos e, e, h]
  · rw [if_neg e]
    exact if_neg e
theorem Mem.del_set_ne {M : Mem} {p q : Addr} {m : MV} (h : p ≠ q) : (M.set p m).del q = (M.del q).set p m := by
  funext r
  unfold Mem.set Mem.del
  by_cases e1 : r = q
  · by_cases e2 : r = p
    · exact absurd (e2.symm.trans e1) h
    · rw [if_pos e1, if_neg e2, if_pos e1]
  · rw [if_neg e1, if_neg e1]
theorem Mem.del_del {M : Mem} {p : Addr} : (M.del p).del p = M.del p := by
  funext r
  unfold Mem.del
  by_cases e : r = p
  · rw [if_pos e, if_pos e]
  · rw [if_neg e, if_neg e]
theorem Mem.restr_self (M : Mem) : M.restr M = M := by
  funext q
  unfold Mem.restr
  cases M q <;> rfl
theorem Mem.restr_set_out {M M' : Mem} {p : Addr} {m : MV} (h : M p = none) : M.restr (M'.set p m) = M.restr M' := by
  funext q
  unfold Mem.restr Mem.set
  by_cases e : q = p
  · subst e
    rw [h]
  · rw [if_neg e]
theorem Mem.restr_del_out {M M' : Mem} {p : Addr} (h : M p = none) : M.restr (M'.del p) = M.restr M' := by
  funext q
  unfold Mem.restr Mem.del
  by_cases e : q = p
  · subst e
    rw [h]
  · rw [if_neg e]
theorem Mem.restr_set_in {M M' : Mem} {p : Addr} {m x : MV} (h : M p = some x) : M.restr (M'.set p m) = (M.restr M').set p m := by
  funext q
  unfold Mem.restr Mem.set
  by_cases e : q = p
  · subst e
    rw [h, if_pos rfl]
    exact (if_pos rfl).symm
  · rw [if_neg e, if_neg e]
theorem Mem.ne_of {M : Mem} {p q : Addr} {m : MV} (h : M p = some m) (h' : M q = none) : p ≠ q := by
  intro e
  subst e
  rw [h] at h'
  cases h'

def MR (K : PySem.W.Frag) (B H : Hp) (p : Addr) : MV → Prop
  | .lst ds => ∃ xs, H p = some (.lst xs) ∧ RpA K B xs ds
  | .obj C fs => ∃ dx vs, H p = some (.ins C dx vs) ∧ RpF K B vs fs
theorem MR.mono {K : PySem.W.Frag} {B B' H H' : Hp} {p : Addr} {m : MV} (h : MR K B H p m) (e : Ex B B') (k : ∀ o, H p = some o → H' p = some o) : MR K B' H' p m := by
  cases m with
  | lst ds =>
    obtain ⟨xs, h1, h2⟩ := h
    exact ⟨xs, k _ h1, h2.mono e⟩
  | obj C fs =>
    obtain ⟨dx, vs, h1, h2⟩ := h
    exact ⟨dx, vs, k _ h1, h2.mono e⟩
theorem MR.some {K : PySem.W.Frag} {B H : Hp} {p : Addr} {m : MV} (h : MR K B H p m) : ∃ o, H p = some o := by
  cases m with
  | lst ds =>
    obtain ⟨xs, h1, h2⟩ := h
    exact ⟨_, h1⟩
  | obj C fs =>
    obtain ⟨dx, vs, h1, h2⟩ := h
    exact ⟨_, h1⟩

structure Cs (K : PySem.W.Frag) (B : Hp) (M : Mem) (H : Hp) : Prop where
  ex : Ex B H
  cell : ∀ p m, M p = some m → B p = none ∧ MR K B H p m
theorem Cs.there {K : PySem.W.Frag} {B : Hp} {M : Mem} {H : Hp} (s : Cs K B M H) {p : Addr} {m : MV} (h : M p = some m) : ∃ o, H p = some o := (s.cell p m h).2.some

/-- from one state to a later one -/
structure Nx (K : PySem.W.Frag) (B : Hp) (M : Mem) (H B' : Hp) (M' : Mem) (H' : Hp) : Prop where
  ext : Ex B B'
  st : Cs K B' M' H'
  keep : ∀ a o, M a = none → H a = some o → H' a = some o
  new : ∀ a o, H a = some o → M a = none → B' a = B a
  dom : ∀ a o, H a = some o → M a = none → M' a = none
  there : ∀ a o, H a = some o → ∃ o', H' a = some o'
theorem Nx.refl {K : PySem.W.Frag} {B : Hp} {M : Mem} {H : Hp} (s : Cs K B M H) : Nx K B M H B M H :=
  ⟨Ex.refl B, s, fun _ _ _ h => h, fun _ _ _ _ => rfl, fun _ _ _ h => h, fun _ o h => ⟨o, h⟩⟩
theorem Nx.trans {K : PySem.W.Frag} {B B1 B2 : Hp} {M M1 M2 : Mem} {H H1 H2 : Hp} (a : Nx K B M H B1 M1 H1) (b : Nx K B1 M1 H1 B2 M2 H2) : Nx K B M H B2 M2 H2 where
  ext := a.ext.trans b.ext
  st := b.st
  keep := fun x o m h => b.keep x o (a.dom x o h m) (a.keep x o m h)
  new := fun x o h m => (b.new x o (a.keep x o m h) (a.dom x o h m)).trans (a.new x o h m)
  dom := fun x o h m => b.dom x o (a.keep x o m h) (a.dom x o h m)
  there := fun x o h => by
    obtain ⟨o', h'⟩ := a.there x o h
    exact b.there x o' h'
theorem Nx.back {K : PySem.W.Frag} {B B1 : Hp} {M M1 : Mem} {H H1 : Hp} (a : Nx K B M H B1 M1 H1) {p : Addr} (h : H1 p = none) : H p = none := by
  cases q : H p with
  | none => rfl
  | some o =>
    obtain ⟨o', h'⟩ := a.there p o q
    rw [h] at h'
    cases h'
/-- only something new has been laid, or nothing -/
theorem Nx.same {K : PySem.W.Frag} {B : Hp} {M : Mem} {H H' : Hp} (s : Cs K B M H) (e : Ex H H') : Nx K B M H B M H' where
  ext := Ex.refl B
  st := ⟨s.ex.trans e, fun p m h => ⟨(s.cell p m h).1, (s.cell p m h).2.mono (Ex.refl B) fun o q => e p o q⟩⟩
  keep := fun a o _ h => e a o h
  new := fun _ _ _ _ => rfl
  dom := fun _ _ _ h => h
  there := fun a o h => ⟨o, e a o h⟩
theorem ex_upd {H : Hp} {p : Addr} {o : HO} (h : H p = none) : Ex H (upd H p o) := fun a u e => by
  rw [upd_ne (ne_of_none e h)]
  exact e
/-- a new tuple, at once part of what stays -/
theorem Nx.fresh {K : PySem.W.Frag} {B : Hp} {M : Mem} {H : Hp} {p : Addr} {o : HO} (s : Cs K B M H) (h : H p = none) : Nx K B M H (upd B p o) M (upd H p o) := by
  have hB : B p = none := by
    cases q : B p with
    | none => rfl
    | some u =>
      rw [s.ex p u q] at h
      cases h
  refine ⟨ex_upd hB, ⟨fun a u e => ?_, fun q m e => ?_⟩, fun a u _ e => ex_upd h a u e, fun a u e _ => upd_ne (ne_of_none e h), fun _ _ _ e => e, fun a u e => ⟨u, ex_upd h a u e⟩⟩
  · by_cases z : a = p
    · subst z
      rw [upd_same] at e ⊢
      exact e
    · rw [upd_ne z] at e ⊢
      exact s.ex a u e
  · obtain ⟨h1, h2⟩ := s.cell q m e
    obtain ⟨u, hu⟩ := h2.some
    have nq : q ≠ p := ne_of_none hu h
    exact ⟨(upd_ne nq).trans h1, h2.mono (ex_upd hB) fun o e => ex_upd h q o e⟩

/-! ### results -/
inductive Rv where
  | d (x : Dat)
  | new (m : MV)
def frz : MV → Dat
  | .lst ds => .lst ds
  | .obj C fs => .ins C fs
/-- v stands for the result r; H0: the heap ahead of its making -/
def RR (K : PySem.W.Frag) (B : Hp) (M : Mem) (H0 H : Hp) (v : V) : Rv → Prop
  | .d x => Rp K B v x
  | .new m => ∃ p, v = .ref p ∧ H0 p = none ∧ B p = none ∧ M p = none ∧ MR K B H p m
section
variable {K : PySem.W.Frag} {B B1 B2 : Hp} {M M1 M2 : Mem} {H H0 H1 H2 : Hp} {v : V} {r : Rv} {m : MV}
theorem RR.back (a : Nx K B M H B1 M1 H1) (h : RR K B2 M2 H1 H2 v r) : RR K B2 M2 H H2 v r := by
  cases r with
  | d x => exact h
  | new m =>
    obtain ⟨p, h1, h2, h3⟩ := h
    exact ⟨p, h1, a.back h2, h3⟩
theorem RR.fwd (h : RR K B1 M1 H0 H1 v r) (a : Nx K B1 M1 H1 B2 M2 H2) : RR K B2 M2 H0 H2 v r := by
  cases r with
  | d x => exact Rp.mono a.ext h
  | new m =>
    obtain ⟨p, h1, h2, h3, h4, h5⟩ := h
    obtain ⟨o, ho⟩ := h5.some
    exact ⟨p, h1, h2, (a.new p o ho h4).trans h3, a.dom p o ho h4, h5.mono a.ext fun o q => a.keep p o h4 q⟩
/-- what is new is held for good -/
theorem RR.freeze (h : RR K B1 M1 H H1 v (.new m)) (a : Nx K B M H B1 M1 H1) : ∃ B2, Nx K B M H B2 M1 H1 ∧ Rp K B2 v (frz m) ∧ Ex B1 B2 := by
  obtain ⟨p, rfl, h2, h3, h4, h5⟩ := h
  obtain ⟨o, ho⟩ := h5.some
  have e12 : Ex B1 (upd B1 p o) := ex_upd h3
  refine ⟨upd B1 p o, ⟨a.ext.trans e12, ⟨fun b u e => ?_, fun q n e => ?_⟩, a.keep, fun b u e hm => ?_, a.dom, a.there⟩, ?_, e12⟩
  · by_cases z : b = p
    · subst z
      rw [upd_same] at e
      rw [ho]
      exact e
    · rw [upd_ne z] at e
      exact a.st.ex b u e
  · obtain ⟨c1, c2⟩ := a.st.cell q n e
    have nq : q ≠ p := by
      intro z
      subst z
      rw [h4] at e
      cases e
    exact ⟨(upd_ne nq).trans c1, c2.mono e12 fun _ z => z⟩
  · exact (upd_ne (ne_of_none e h2)).trans (a.new b u e hm)
  · cases m with
    | lst ds =>
      obtain ⟨xs, g1, g2⟩ := h5
      rw [ho] at g1
      cases g1
      exact .lst upd_same (g2.mono e12)
    | obj C fs =>
      obtain ⟨dx, vs, g1, g2⟩ := h5
      rw [ho] at g1
      cases g1
      exact .ins upd_same (g2.mono e12)
/-- what is new becomes a cell -/
theorem RR.celled (h : RR K B1 M1 H H1 v (.new m)) (a : Nx K B M H B1 M1 H1) : ∃ p, v = .ref p ∧ M1 p = none ∧ Nx K B M H B1 (M1.set p m) H1 := by
  obtain ⟨p, rfl, h2, h3, h4, h5⟩ := h
  refine ⟨p, rfl, h4, ⟨a.ext, ⟨a.st.ex, fun q n e => ?_⟩, a.keep, a.new, fun b u e hm => ?_, a.there⟩⟩
  · by_cases z : q = p
    · subst z
      rw [Mem.set_same] at e
      cases e
      exact ⟨h3, h5⟩
    · rw [Mem.set_ne z] at e
      exact a.st.cell q n e
  · rw [Mem.set_ne (ne_of_none e h2)]
    exact a.dom b u e hm
/-- a cell is held for good -/
theorem Cs.hold (s : Cs K B M H) {p : Addr} (h : M p = some m) : ∃ B2, Nx K B M H B2 (M.del p) H ∧ Rp K B2 (.ref p) (frz m) := by
  obtain ⟨c1, c2⟩ := s.cell p m h
  obtain ⟨o, ho⟩ := c2.some
  have e12 : Ex B (upd B p o) := ex_upd c1
  refine ⟨upd B p o, ⟨e12, ⟨fun b u e => ?_, fun q n e => ?_⟩, fun _ _ _ e => e, fun b u e hm => ?_, fun b u e hm => ?_, fun b u e => ⟨u, e⟩⟩, ?_⟩
  · by_cases z : b = p
    · subst z
      rw [upd_same] at e
      rw [ho]
      exact e
    · rw [upd_ne z] at e
      exact s.ex b u e
  · by_cases z : q = p
    · subst z
      rw [Mem.del_same] at e
      cases e
    · rw [Mem.del_ne z] at e
      obtain ⟨g1, g2⟩ := s.cell q n e
      exact ⟨(upd_ne z).trans g1, g2.mono e12 fun _ z => z⟩
  · exact upd_ne fun z => by
      subst z
      rw [h] at hm
      cases hm
  · unfold Mem.del
    split
    · rfl
    · exact hm
  · cases m with
    | lst ds =>
      obtain ⟨xs, g1, g2⟩ := c2
      rw [ho] at g1
      cases g1
      exact .lst upd_same (g2.mono e12)
    | obj C fs =>
      obtain ⟨dx, vs, g1, g2⟩ := c2
      rw [ho] at g1
      cases g1
      exact .ins upd_same (g2.mono e12)
/-- a list cell is written -/
theorem Cs.write (s : Cs K B M H) {p : Addr} {m' : MV} {o : HO} (h : M p = some m) (hm : MR K B (upd H p o) p m') : Nx K B M H B (M.set p m') (upd H p o) := by
  obtain ⟨c1, c2⟩ := s.cell p m h
  have np : ∀ b, M b = none → b ≠ p := fun b e z => by
    subst z
    rw [h] at e
    cases e
  refine ⟨Ex.refl B, ⟨fun b u e => ?_, fun q n e => ?_⟩, fun b u e1 e2 => ?_, fun _ _ _ _ => rfl, fun b u e1 e2 => ?_, fun b u e => ?_⟩
  · rw [upd_ne (fun z => by subst z; rw [c1] at e; cases e)]
    exact s.ex b u e
  · by_cases z : q = p
    · subst z
      rw [Mem.set_same] at e
      cases e
      exact ⟨c1, hm⟩
    · rw [Mem.set_ne z] at e
      obtain ⟨g1, g2⟩ := s.cell q n e
      exact ⟨g1, g2.mono (Ex.refl B) fun o q => by rw [upd_ne z]; exact q⟩
  · rw [upd_ne (np b e1)]
    exact e2
  · rw [Mem.set_ne (np b e2)]
    exact e2
  · by_cases z : b = p
    · subst z
      exact ⟨_, upd_same⟩
    · exact ⟨u, (upd_ne z).trans e⟩
end
end Dl
set_option Elab.async false
set_option linter.all false
set_option maxRecDepth 100000
set_option maxHeartbeats 4000000
namespace Dl
open PySem PySem.Spec PyProof.Rows L2

abbrev Env := List (Option Dat)
def SR (K : PySem.W.Frag) (B : Hp) (σ : L2.St) (env : Env) : Prop := σ.length = env.length ∧ ∀ (i : Nat) (x : Dat), env[i]? = some (some x) → ∃ v, σ[i]? = some (some v) ∧ Rp K B v x
theorem SR.mono {K : PySem.W.Frag} {B B' : Hp} {σ : L2.St} {env : Env} (h : SR K B σ env) (e : Ex B B') : SR K B' σ env :=
  ⟨h.1, fun i x q => by
    obtain ⟨v, h1, h2⟩ := h.2 i x q
    exact ⟨v, h1, h2.mono e⟩⟩
theorem SR.set {K : PySem.W.Frag} {B : Hp} {σ : L2.St} {env : Env} {v : V} {x : Dat} (h : SR K B σ env) (r : Rp K B v x) (i : Nat) : SR K B (σ.set i (some v)) (env.set i (some x)) := by
  refine ⟨by rw [List.length_set, List.length_set]; exact h.1, fun j y q => ?_⟩
  by_cases e : i = j
  · subst e
    by_cases hl : i < env.length
    · rw [List.getElem?_set_self hl] at q
      cases q
      rw [List.getElem?_set_self (by rw [h.1]; exact hl)]
      exact ⟨v, rfl, r⟩
    · rw [List.getElem?_eq_none (by rw [List.length_set]; omega)] at q
      cases q
  · rw [List.getElem?_set_ne e] at q
    rw [List.getElem?_set_ne e]
    exact h.2 j y q
/-- the slots of a comprehension's own names are empty within -/
def wipeD (env : Env) : List Nat → Env
  | [] => env
  | i :: r => (wipeD env r).set i none

abbrev DE := Env → Mem → (Rv → Mem → Prop) → Prop
abbrev DT := Env → Mem → (Bool → Mem → Prop) → Prop
abbrev DA := Env → Mem → (List Dat → Mem → Prop) → Prop
def SE (K : PySem.W.Frag) (t : TE) (φ : DE) : Prop := ∀ (env : Env) (M : Mem) (Q : Rv → Mem → Prop) (σ : L2.St) (B H : Hp) (QV : VK), SR K B σ env → Cs K B M H → φ env M Q →
  (∀ r M' v B' H', Q r M' → Nx K B M H B' M' H' → RR K B' M' H H' v r → QV v H') → t σ H QV
def ST (K : PySem.W.Frag) (t : TT) (φ : DT) : Prop := ∀ (env : Env) (M : Mem) (Q : Bool → Mem → Prop) (σ : L2.St) (B H : Hp) (QV : Bool → Hp → Prop), SR K B σ env → Cs K B M H → φ env M Q →
  (∀ b M' B' H', Q b M' → Nx K B M H B' M' H' → QV b H') → t σ H QV
def SA (K : PySem.W.Frag) (t : TA) (φ : DA) : Prop := ∀ (env : Env) (M : Mem) (Q : List Dat → Mem → Prop) (σ : L2.St) (B H : Hp) (QV : List V → Hp → Prop), SR K B σ env → Cs K B M H → φ env M Q →
  (∀ ds M' vs B' H', Q ds M' → Nx K B M H B' M' H' → RpA K B' vs ds → QV vs H') → t σ H QV
structure EX (X : Cx) (e : Expr) (t : TE) (φ : DE) : Prop where
  pe : PE X e t
  s : SE X.K t φ
structure TX (X : Cx) (e : Expr) (t : TT) (φ : DT) : Prop where
  pt : PT X e t
  s : ST X.K t φ
structure WX (X : Cx) (e : Expr) (t : TT) (φ : DT) : Prop where
  pw : PW X e t
  s : ST X.K t φ
structure AX (X : Cx) (es : List Expr) (t : TA) (φ : DA) : Prop where
  pa : PA X es t
  s : SA X.K t φ
theorem WX.tx {X : Cx} {e : Expr} {t : TT} {φ : DT} (h : WX X e t φ) : TX X e t φ := ⟨h.pw.pt, h.s⟩

/-- a result as data: what is new is held for good -/
def settle : Rv → Dat
  | .d x => x
  | .new m => frz m
theorem settle_ok {K : PySem.W.Frag} {B B1 : Hp} {M M1 : Mem} {H H1 : Hp} {v : V} {r : Rv} (h : RR K B1 M1 H H1 v r) (a : Nx K B M H B1 M1 H1) : ∃ B2, Nx K B M H B2 M1 H1 ∧ Rp K B2 v (settle r) ∧ Ex B1 B2 := by
  cases r with
  | d x => exact ⟨B1, a, h, Ex.refl _⟩
  | new m => exact h.freeze a

section
variable {X : Cx} {K : PySem.W.Frag}
/-! ### names, constants -/
def dVar (i : Nat) : DE := fun env M Q => match env[i]? with
  | some (some x) => Q (.d x) M
  | _ => False
def dC (x : Dat) : DE := fun _ M Q => Q (.d x) M
theorem se_var {i : Nat} : SE K (tVar i) (dVar i) := by
  intro env M Q σ B H QV hs hc h k
  unfold dVar at h
  split at h
  · rename_i x e
    obtain ⟨v, h1, h2⟩ := hs.2 i x e
    exact ⟨v, h1, k _ _ _ _ _ h (Nx.refl hc) h2⟩
  · exact h.elim
theorem se_c {v : V} {x : Dat} (r : ∀ B, Rp K B v x) : SE K (tC v) (dC x) := fun env M Q σ B H QV hs hc h k => k _ _ _ _ _ h (Nx.refl hc) (r B)
theorem ex_var (i : Nat) {x : Str} {pos : Pos} (hN : X.N[i]? = some x := by rfl) (hv : Vis X.env.scope x := by first | exact Or.inl rfl | exact Or.inr (Or.inl rfl) | exact Or.inr (Or.inr rfl)) (hd : (x == ("__debug__" : Str)) = false := by decide)
    (hcd : (x == ("__classdict__" : Str)) = false := by decide) : EX X (.Name x pos) (tVar i) (dVar i) := ⟨pe_var hN hv hd hcd, se_var⟩
theorem ex_int {i j pos} : EX X (.Constant (.int i) j pos) (tC (.int i)) (dC (.int i)) := ⟨pe_int, se_c fun _ => .int i⟩
theorem ex_bl {b j pos} : EX X (.Constant (.bool b) j pos) (tC (.bl b)) (dC (.bl b)) := ⟨pe_bl, se_c fun _ => .bl b⟩
theorem ex_non {j pos} : EX X (.Constant .none j pos) (tC .non) (dC .non) := ⟨pe_non, se_c fun _ => .non⟩
theorem ex_str {x j pos} : EX X (.Constant (.str x) j pos) (tC (.str x)) (dC (.str x)) := ⟨pe_str, se_c fun _ => .str x⟩
/-- a cell is held for good here (a name at its last use) -/
def dHold (φ : DE) : DE := fun env M Q => φ env M fun r M1 => ∃ p m, r = .d (.cell p) ∧ M1 p = some m ∧ Q (.d (frz m)) (M1.del p)
theorem ex_hold {e : Expr} {t : TE} {φ : DE} (h : EX X e t φ) : EX X e t (dHold φ) := ⟨h.pe, fun env M Q σ B H QV hs hc q k => by
  refine h.s env M _ σ B H QV hs hc q fun r M1 v B1 H1 q1 n1 r1 => ?_
  obtain ⟨p, m, rfl, hm, q2⟩ := q1
  cases r1
  obtain ⟨B2, n2, g2⟩ := n1.st.hold hm
  exact k _ _ _ _ _ q2 (n1.trans n2) g2⟩

/-! ### operations of two -/
abbrev D2 := Rv → Rv → Mem → (Rv → Mem → Prop) → Prop
def S2 (K : PySem.W.Frag) (r : R2) (ρ : D2) : Prop := ∀ (B : Hp) (M : Mem) (H0 H : Hp) (x y : V) (rx ry : Rv) (Q : Rv → Mem → Prop) (QV : VK), Cs K B M H → RR K B M H0 H x rx → RR K B M H0 H y ry → ρ rx ry M Q →
  (∀ r M' v B' H', Q r M' → Nx K B M H B' M' H' → RR K B' M' H H' v r → QV v H') → r x y H QV
def dOp (ρ : D2) (φa φb : DE) : DE := fun env M Q => φa env M fun ra M1 => φb env M1 fun rb M2 => ρ ra rb M2 Q
theorem SE.op {r : R2} {ρ : D2} {ta tb : TE} {φa φb : DE} (ha : SE K ta φa) (hb : SE K tb φb) (hr : S2 K r ρ) : SE K (tOp r ta tb) (dOp ρ φa φb) := by
  intro env M Q σ B H QV hs hc h k
  refine ha env M _ σ B H _ hs hc h fun ra M1 x B1 H1 q1 n1 r1 => ?_
  refine hb env M1 _ σ B1 H1 _ (hs.mono n1.ext) n1.st q1 fun rb M2 y B2 H2 q2 n2 r2 => ?_
  exact hr B2 M2 H H2 x y ra rb Q QV n2.st (r1.fwd n2) (r2.back n1) q2 fun r M' v B' H' q3 n3 r3 => k r M' v B' H' q3 ((n1.trans n2).trans n3) (r3.back (n1.trans n2))
theorem S2.or {r r' : R2} {ρ ρ' : D2} (h : S2 K r ρ) (h' : S2 K r' ρ') : S2 K (fun x y H Q => r x y H Q ∨ r' x y H Q) (fun a b M Q => ρ a b M Q ∨ ρ' a b M Q) := by
  intro B M H0 H x y rx ry Q QV hc h1 h2 q k
  rcases q with q | q
  · exact Or.inl (h B M H0 H x y rx ry Q QV hc h1 h2 q k)
  · exact Or.inr (h' B M H0 H x y rx ry Q QV hc h1 h2 q k)
theorem S2.weak {r : R2} {ρ ρ' : D2} (h : S2 K r ρ) (w : ∀ a b M Q, ρ' a b M Q → ρ a b M Q) : S2 K r ρ' := fun B M H0 H x y rx ry Q QV hc h1 h2 q k => h B M H0 H x y rx ry Q QV hc h1 h2 (w _ _ _ _ q) k
theorem ex_op {op : Operator} {r : R2} {ρ : D2} {a b : Expr} {ta tb : TE} {φa φb : DE} {pos : Pos} (ho : OpR X (binaryOp op) r) (hr : S2 X.K r ρ) (ha : EX X a ta φa) (hb : EX X b tb φb) : EX X (.BinOp a op b pos) (tOp r ta tb) (dOp ρ φa φb) :=
  ⟨pe_op ho ha.pe hb.pe, SE.op ha.s hb.s hr⟩
theorem ex_cmp {op : CmpOp} {r : R2} {ρ : D2} {a b : Expr} {ta tb : TE} {φa φb : DE} {pos : Pos} (ho : OpR X (compareOp op) r) (hr : S2 X.K r ρ) (ha : EX X a ta φa) (hb : EX X b tb φb) (hm : behindInMarks op b = false) :
    EX X (.Compare a [op] [b] pos) (tOp r ta tb) (dOp ρ φa φb) := ⟨pe_cmpR ho ha.pe hb.pe hm, SE.op ha.s hb.s hr⟩
/-- the bool of a result -/
def blR : Rv → (Bool → Prop) → Prop
  | .d (.bl b), Q => Q b
  | _, _ => False
theorem blR_ok {B : Hp} {M : Mem} {H0 H : Hp} {v : V} {r : Rv} {Q : Bool → Prop} (h : RR K B M H0 H v r) (q : blR r Q) : ∃ b, v = .bl b ∧ Q b := by
  unfold blR at q
  split at q
  · cases h
    exact ⟨_, rfl, q⟩
  · exact q.elim
def dTest (φ : DE) : DT := fun env M Q => φ env M fun r M1 => blR r fun b => Q b M1
theorem ST.test {t : TE} {φ : DE} (h : SE K t φ) : ST K (tTest t) (dTest φ) := by
  intro env M Q σ B H QV hs hc q k
  refine h env M _ σ B H _ hs hc q fun r M1 v B1 H1 q1 n1 r1 => ?_
  obtain ⟨b, rfl, q2⟩ := blR_ok r1 q1
  exact ⟨b, rfl, k _ _ _ _ q2 n1⟩
theorem ST.tb {t : TE} {φ : DE} (h : SE K t φ) : ST K (tB t) (dTest φ) := ST.test h
theorem tx_cmp {op : CmpOp} {r : R2} {ρ : D2} {a b : Expr} {ta tb : TE} {φa φb : DE} {pos : Pos} (ho : OpR X (compareOp op) r) (hr : S2 X.K r ρ) (ha : EX X a ta φa) (hb : EX X b tb φb) (hm : behindInMarks op b = false) :
    TX X (.Compare a [op] [b] pos) (tTest (tOp r ta tb)) (dTest (dOp ρ φa φb)) := ⟨pt_cmpR ho ha.pe hb.pe hm, ST.test (SE.op ha.s hb.s hr)⟩
theorem tx_val {e : Expr} {t : TE} {φ : DE} (h : EX X e t φ) (he : ∀ whole, isTrue e X.env whole = (do let v ← whole; standAt e.pos; holding [v] (truthy v)) := by intro _; rfl) : TX X e (tB t) (dTest φ) := ⟨pt_val h.pe he, ST.tb h.s⟩
/-! ### a < b < c -/
def dChain (ρ ρ' : D2) (φa φb φc : DE) : DE := fun env M Q => φa env M fun ra M1 => φb env M1 fun rb M2 => ρ ra rb M2 fun r3 M3 => blR r3 fun k => if k = true then φc env M3 fun rc M4 => ρ' rb rc M4 Q else Q (.d (.bl false)) M3
theorem SE.chain {r r' : R2} {ρ ρ' : D2} {ta tb tc : TE} {φa φb φc : DE} (ha : SE K ta φa) (hb : SE K tb φb) (hc' : SE K tc φc) (hr : S2 K r ρ) (hr' : S2 K r' ρ') : SE K (tChain r r' ta tb tc) (dChain ρ ρ' φa φb φc) := by
  intro env M Q σ B H QV hs hc h k
  refine ha env M _ σ B H _ hs hc h fun ra M1 x B1 H1 q1 n1 r1 => ?_
  refine hb env M1 _ σ B1 H1 _ (hs.mono n1.ext) n1.st q1 fun rb M2 y B2 H2 q2 n2 r2 => ?_
  refine hr B2 M2 H H2 x y ra rb _ _ n2.st (r1.fwd n2) (r2.back n1) q2 fun r3 M3 z B3 H3 q3 n3 r3' => ?_
  obtain ⟨b, rfl, q4⟩ := blR_ok r3' q3
  refine ⟨b, rfl, ?_⟩
  have n123 := (n1.trans n2).trans n3
  cases b with
  | true =>
    rw [if_pos rfl] at q4 ⊢
    refine hc' env M3 _ σ B3 H3 _ (hs.mono n123.ext) n123.st q4 fun rc M4 w B4 H4 q5 n4 r4 => ?_
    exact hr' B4 M4 H H4 y w rb rc Q QV n4.st (((r2.back n1).fwd n3).fwd n4) (r4.back n123) q5 fun r M' v B' H' q6 n5 r5 => k r M' v B' H' q6 ((n123.trans n4).trans n5) (r5.back (n123.trans n4))
  | false =>
    rw [if_neg Bool.false_ne_true] at q4 ⊢
    exact k _ _ _ _ _ q4 n123 (.bl false)
/-! ### and, or, not -/
def dAnd (φ ψ : DT) : DT := fun env M Q => φ env M fun b M1 => if b = true then ψ env M1 Q else Q false M1
def dOr (φ ψ : DT) : DT := fun env M Q => φ env M fun b M1 => if b = true then Q true M1 else ψ env M1 Q
def dNot (φ : DT) : DT := fun env M Q => φ env M fun b M1 => Q (!b) M1
theorem ST.and {t u : TT} {φ ψ : DT} (h : ST K t φ) (g : ST K u ψ) : ST K (tAnd t u) (dAnd φ ψ) := by
  intro env M Q σ B H QV hs hc q k
  refine h env M _ σ B H _ hs hc q fun b M1 B1 H1 q1 n1 => ?_
  cases b with
  | true =>
    rw [if_pos rfl] at q1 ⊢
    exact g env M1 Q σ B1 H1 QV (hs.mono n1.ext) n1.st q1 fun b M' B' H' q2 n2 => k b M' B' H' q2 (n1.trans n2)
  | false =>
    rw [if_neg Bool.false_ne_true] at q1 ⊢
    exact k _ _ _ _ q1 n1
theorem ST.or {t u : TT} {φ ψ : DT} (h : ST K t φ) (g : ST K u ψ) : ST K (tOr t u) (dOr φ ψ) := by
  intro env M Q σ B H QV hs hc q k
  refine h env M _ σ B H _ hs hc q fun b M1 B1 H1 q1 n1 => ?_
  cases b with
  | false =>
    rw [if_neg Bool.false_ne_true] at q1 ⊢
    exact g env M1 Q σ B1 H1 QV (hs.mono n1.ext) n1.st q1 fun b M' B' H' q2 n2 => k b M' B' H' q2 (n1.trans n2)
  | true =>
    rw [if_pos rfl] at q1 ⊢
    exact k _ _ _ _ q1 n1
theorem ST.not {t : TT} {φ : DT} (h : ST K t φ) : ST K (tNot t) (dNot φ) := fun env M Q σ B H QV hs hc q k => h env M _ σ B H _ hs hc q fun b M1 B1 H1 q1 n1 => k _ _ _ _ q1 n1
theorem wx_and1 {a : Expr} {t : TT} {φ : DT} {pos : Pos} (h : TX X a t φ) : WX X (.BoolOp .And [a] pos) t φ := ⟨pw_and1 h.pt, h.s⟩
theorem wx_or1 {a : Expr} {t : TT} {φ : DT} {pos : Pos} (h : TX X a t φ) : WX X (.BoolOp .Or [a] pos) t φ := ⟨pw_or1 h.pt, h.s⟩
theorem wx_and {a b : Expr} {rest : List Expr} {t u : TT} {φ ψ : DT} {pos : Pos} (h : TX X a t φ) (g : WX X (.BoolOp .And (b :: rest) pos) u ψ) : WX X (.BoolOp .And (a :: b :: rest) pos) (tAnd t u) (dAnd φ ψ) := ⟨pw_and h.pt g.pw, ST.and h.s g.s⟩
theorem wx_or {a b : Expr} {rest : List Expr} {t u : TT} {φ ψ : DT} {pos : Pos} (h : TX X a t φ) (g : WX X (.BoolOp .Or (b :: rest) pos) u ψ) : WX X (.BoolOp .Or (a :: b :: rest) pos) (tOr t u) (dOr φ ψ) := ⟨pw_or h.pt g.pw, ST.or h.s g.s⟩
theorem tx_not {a : Expr} {t : TT} {φ : DT} {pos : Pos} (h : TX X a t φ) : TX X (.UnaryOp .Not a pos) (tNot t) (dNot φ) := ⟨pt_not h.pt, ST.not h.s⟩
/-- as values -/
def dAndV (φ ψ : DE) : DE := fun env M Q => φ env M fun r M1 => blR r fun b => if b = true then ψ env M1 Q else Q (.d (.bl false)) M1
def dOrV (φ ψ : DE) : DE := fun env M Q => φ env M fun r M1 => blR r fun b => if b = true then Q (.d (.bl true)) M1 else ψ env M1 Q
def dNotV (φ : DE) : DE := fun env M Q => φ env M fun r M1 => blR r fun b => Q (.d (.bl (!b))) M1
theorem SE.andV {t u : TE} {φ ψ : DE} (h : SE K t φ) (g : SE K u ψ) : SE K (tAndV t u) (dAndV φ ψ) := by
  intro env M Q σ B H QV hs hc q k
  refine h env M _ σ B H _ hs hc q fun r M1 v B1 H1 q1 n1 r1 => ?_
  obtain ⟨b, rfl, q2⟩ := blR_ok r1 q1
  refine ⟨b, rfl, ?_⟩
  cases b with
  | true =>
    rw [if_pos rfl] at q2 ⊢
    exact g env M1 Q σ B1 H1 QV (hs.mono n1.ext) n1.st q2 fun r M' v B' H' q3 n2 r2 => k r M' v B' H' q3 (n1.trans n2) (r2.back n1)
  | false =>
    rw [if_neg Bool.false_ne_true] at q2 ⊢
    exact k _ _ _ _ _ q2 n1 (.bl false)
theorem SE.orV {t u : TE} {φ ψ : DE} (h : SE K t φ) (g : SE K u ψ) : SE K (tOrV t u) (dOrV φ ψ) := by
  intro env M Q σ B H QV hs hc q k
  refine h env M _ σ B H _ hs hc q fun r M1 v B1 H1 q1 n1 r1 => ?_
  obtain ⟨b, rfl, q2⟩ := blR_ok r1 q1
  refine ⟨b, rfl, ?_⟩
  cases b with
  | false =>
    rw [if_neg Bool.false_ne_true] at q2 ⊢
    exact g env M1 Q σ B1 H1 QV (hs.mono n1.ext) n1.st q2 fun r M' v B' H' q3 n2 r2 => k r M' v B' H' q3 (n1.trans n2) (r2.back n1)
  | true =>
    rw [if_pos rfl] at q2 ⊢
    exact k _ _ _ _ _ q2 n1 (.bl true)
theorem SE.notV {t : TE} {φ : DE} (h : SE K t φ) : SE K (tNotV t) (dNotV φ) := by
  intro env M Q σ B H QV hs hc q k
  refine h env M _ σ B H _ hs hc q fun r M1 v B1 H1 q1 n1 r1 => ?_
  obtain ⟨b, rfl, q2⟩ := blR_ok r1 q1
  exact ⟨b, rfl, k _ _ _ _ _ q2 n1 (.bl _)⟩
theorem ex_one {op} {a : Expr} {t : TE} {φ : DE} {pos : Pos} (h : EX X a t φ) : EX X (.BoolOp op [a] pos) t φ := ⟨pe_one h.pe, h.s⟩
theorem ex_and {a b : Expr} {rest : List Expr} {t u : TE} {φ ψ : DE} {pos : Pos} (h : EX X a t φ) (g : EX X (.BoolOp .And (b :: rest) pos) u ψ) : EX X (.BoolOp .And (a :: b :: rest) pos) (tAndV t u) (dAndV φ ψ) := ⟨pe_and h.pe g.pe, SE.andV h.s g.s⟩
theorem ex_or {a b : Expr} {rest : List Expr} {t u : TE} {φ ψ : DE} {pos : Pos} (h : EX X a t φ) (g : EX X (.BoolOp .Or (b :: rest) pos) u ψ) : EX X (.BoolOp .Or (a :: b :: rest) pos) (tOrV t u) (dOrV φ ψ) := ⟨pe_or h.pe g.pe, SE.orV h.s g.s⟩
theorem ex_not {a : Expr} {t : TE} {φ : DE} {pos : Pos} (h : EX X a t φ) : EX X (.UnaryOp .Not a pos) (tNotV t) (dNotV φ) := ⟨pe_not h.pe, SE.notV h.s⟩
def dIf (τ : DT) (φ ψ : DE) : DE := fun env M Q => τ env M fun b M1 => if b = true then φ env M1 Q else ψ env M1 Q
theorem ex_if {c a b : Expr} {tc : TT} {t u : TE} {τ : DT} {φ ψ : DE} {pos : Pos} (hc : TX X c tc τ) (ha : EX X a t φ) (hb : EX X b u ψ) : EX X (.IfExp c a b pos) (tIf tc t u) (dIf τ φ ψ) := by
  refine ⟨pe_ifExp hc.pt ha.pe hb.pe, fun env M Q σ B H QV hs hc' q k => ?_⟩
  refine hc.s env M _ σ B H _ hs hc' q fun b M1 B1 H1 q1 n1 => ?_
  cases b with
  | true =>
    rw [if_pos rfl] at q1 ⊢
    exact ha.s env M1 Q σ B1 H1 QV (hs.mono n1.ext) n1.st q1 fun r M' v B' H' q3 n2 r2 => k r M' v B' H' q3 (n1.trans n2) (r2.back n1)
  | false =>
    rw [if_neg Bool.false_ne_true] at q1 ⊢
    exact hb.s env M1 Q σ B1 H1 QV (hs.mono n1.ext) n1.st q1 fun r M' v B' H' q3 n2 r2 => k r M' v B' H' q3 (n1.trans n2) (r2.back n1)
/-! ### arguments, displays -/
def dNil : DA := fun _ M Q => Q [] M
def dCons (φ : DE) (ψ : DA) : DA := fun env M Q => φ env M fun r M1 => ψ env M1 fun ds M2 => Q (settle r :: ds) M2
theorem SA.nil : SA K tNil dNil := fun env M Q σ B H QV hs hc q k => k _ _ _ _ _ q (Nx.refl hc) .nil
theorem SA.cons {t : TE} {u : TA} {φ : DE} {ψ : DA} (h : SE K t φ) (g : SA K u ψ) : SA K (tCons t u) (dCons φ ψ) := by
  intro env M Q σ B H QV hs hc q k
  refine h env M _ σ B H _ hs hc q fun r M1 v B1 H1 q1 n1 r1 => ?_
  obtain ⟨B2, n2, g2, _⟩ := settle_ok r1 n1
  refine g env M1 _ σ B2 H1 _ (hs.mono n2.ext) n2.st q1 fun ds M' vs B' H' q3 n3 r3 => ?_
  exact k _ _ _ _ _ q3 (n2.trans n3) (.cons (g2.mono n3.ext) r3)
theorem ax_nil : AX X [] tNil dNil := ⟨pa_nil, SA.nil⟩
theorem ax_cons {e : Expr} {es : List Expr} {t : TE} {u : TA} {φ : DE} {ψ : DA} (h : EX X e t φ) (g : AX X es u ψ) (hs : starEach (e :: es) X.env = (false, eval e X.env) :: starEach es X.env := by rfl) : AX X (e :: es) (tCons t u) (dCons φ ψ) := ⟨pa_cons h.pe g.pa hs, SA.cons h.s g.s⟩
def dTup (ψ : DA) : DE := fun env M Q => ψ env M fun ds M1 => ds.length ≤ sizeLine ∧ Q (.d (.tup ds)) M1
def dLst (ψ : DA) : DE := fun env M Q => ψ env M fun ds M1 => ds.length ≤ sizeLine ∧ Q (.new (.lst ds)) M1
/-- a new list -/
theorem RR.newL {B : Hp} {M : Mem} {H : Hp} {p : Addr} {xs : List V} {ds : List Dat} (s : Cs K B M H) (h : H p = none) (r : RpA K B xs ds) : Nx K B M H B M (upd H p (.lst xs)) ∧ RR K B M H (upd H p (.lst xs)) (.ref p) (.new (.lst ds)) := by
  refine ⟨Nx.same s (ex_upd h), p, rfl, h, ?_, ?_, xs, upd_same, r⟩
  · cases q : B p with
    | none => rfl
    | some o =>
      rw [s.ex p o q] at h
      cases h
  · cases q : M p with
    | none => rfl
    | some m =>
      obtain ⟨o, ho⟩ := s.there q
      rw [ho] at h
      cases h
/-- a new tuple -/
theorem RR.newT {B : Hp} {M : Mem} {H : Hp} {p : Addr} {xs : List V} {ds : List Dat} (s : Cs K B M H) (h : H p = none) (r : RpA K B xs ds) : Nx K B M H (upd B p (.tup xs)) M (upd H p (.tup xs)) ∧ Rp K (upd B p (.tup xs)) (.ref p) (.tup ds) := by
  have n := Nx.fresh (o := .tup xs) s h
  exact ⟨n, .tup (SqT.of upd_same) (r.mono n.ext)⟩
theorem ex_tup {es : List Expr} {u : TA} {ψ : DA} {x1} {pos : Pos} (h : AX X es u ψ) : EX X (.Tuple es x1 pos) (tTup u) (dTup ψ) := by
  refine ⟨pe_tup h.pa, fun env M Q σ B H QV hs hc q k => ?_⟩
  refine h.s env M _ σ B H _ hs hc q fun ds M1 vs B1 H1 q1 n1 r1 => ?_
  obtain ⟨z, q2⟩ := q1
  refine ⟨by rw [r1.length]; exact z, fun p hp => ?_⟩
  obtain ⟨n2, g2⟩ := RR.newT n1.st hp r1
  exact k _ _ _ _ _ q2 (n1.trans n2) g2
theorem ex_lst {es : List Expr} {u : TA} {ψ : DA} {pos : Pos} (h : AX X es u ψ) : EX X (.List es pos) (tLst u) (dLst ψ) := by
  refine ⟨pe_lst h.pa, fun env M Q σ B H QV hs hc q k => ?_⟩
  refine h.s env M _ σ B H _ hs hc q fun ds M1 vs B1 H1 q1 n1 r1 => ?_
  obtain ⟨z, q2⟩ := q1
  refine ⟨by rw [r1.length]; exact z, fun p hp => ?_⟩
  obtain ⟨n2, g2⟩ := RR.newL n1.st hp r1
  exact k _ _ _ _ _ q2 (n1.trans n2) (g2.back n1)
end
end Dl
set_option Elab.async false
set_option linter.all false
set_option maxRecDepth 100000
set_option maxHeartbeats 4000000
namespace Dl
open PySem PySem.Spec PyProof.Rows L2

/-! ### sequences read -/
def LstR (M : Mem) : Rv → List Dat → Prop
  | .d (.lst xs), ys => ys = xs
  | .d (.cell p), ys => M p = some (.lst ys)
  | .new (.lst xs), ys => ys = xs
  | _, _ => False
def SeqR (M : Mem) : Rv → List Dat → Prop
  | .d (.lst xs), ys => ys = xs
  | .d (.tup xs), ys => ys = xs
  | .d (.fz xs), ys => ys = xs
  | .d (.cell p), ys => M p = some (.lst ys)
  | .new (.lst xs), ys => ys = xs
  | _, _ => False
section
variable {X : Cx} {K : PySem.W.Frag} {B : Hp} {M : Mem} {H0 H : Hp} {v : V} {r : Rv} {ys : List Dat}
theorem LstR.at (hc : Cs K B M H) (h : RR K B M H0 H v r) (q : LstR M r ys) : ∃ p xs, v = .ref p ∧ H p = some (.lst xs) ∧ RpA K B xs ys := by
  unfold LstR at q
  split at q
  · subst q
    cases h with
    | lst h1 h2 => exact ⟨_, _, rfl, hc.ex _ _ h1, h2⟩
  · cases h
    obtain ⟨_, xs, h1, h2⟩ := hc.cell _ _ q
    exact ⟨_, xs, rfl, h1, h2⟩
  · subst q
    obtain ⟨p, rfl, _, _, _, xs, h1, h2⟩ := h
    exact ⟨p, xs, rfl, h1, h2⟩
  · exact q.elim
theorem SeqR.at (hc : Cs K B M H) (h : RR K B M H0 H v r) (q : SeqR M r ys) : ∃ p xs, v = .ref p ∧ (SqL K H p xs ∨ SqT K H p xs) ∧ RpA K B xs ys := by
  unfold SeqR at q
  split at q
  · subst q
    cases h with
    | lst h1 h2 => exact ⟨_, _, rfl, Or.inl (SqL.of (hc.ex _ _ h1)), h2⟩
  · subst q
    cases h with
    | tup h1 h2 => exact ⟨_, _, rfl, Or.inr (hc.ex.st h1), h2⟩
  · subst q
    cases h with
    | fz h1 h2 => exact ⟨_, _, rfl, Or.inl (hc.ex.sl h1), h2⟩
  · cases h
    obtain ⟨_, xs, h1, h2⟩ := hc.cell _ _ q
    exact ⟨_, xs, rfl, Or.inl (SqL.of h1), h2⟩
  · subst q
    obtain ⟨p, rfl, _, _, _, xs, h1, h2⟩ := h
    exact ⟨p, xs, rfl, Or.inl (SqL.of h1), h2⟩
  · exact q.elim

/-! ### + -/
def oAdd : D2 := fun ra rb M Q => match ra, rb with
  | .d (.int i), .d (.int j) => Q (.d (.int (i + j))) M
  | .d (.str a), .d (.str b) => a.length + b.length ≤ sizeLine ∧ Q (.d (.str (a ++ b))) M
  | .d (.tup as), .d (.tup bs) => as.length + bs.length ≤ sizeLine ∧ Q (.d (.tup (as ++ bs))) M
  | ra, rb => ∃ as bs, LstR M ra as ∧ LstR M rb bs ∧ as.length + bs.length ≤ sizeLine ∧ Q (.new (.lst (as ++ bs))) M
def rAddS : R2 := fun x y H Q => ∃ i j, x = .str i ∧ y = .str j ∧ i.length + j.length ≤ sizeLine ∧ Q (.str (i ++ j)) H
def rAddAny (K : PySem.W.Frag) : R2 := fun x y H Q => rI0 (fun i j => .int (i + j)) x y H Q ∨ rAddS x y H Q ∨ rCatA K x y H Q ∨ rCat x y H Q
theorem op_addAny : OpR X (binaryOp .Add) (rAddAny X.K) := op_add.or (OpR.or (r := rAddS) op_add_str (op_catA.or op_cat))
theorem s2_add : S2 K (rAddAny K) oAdd := by
  intro B M H0 H x y rx ry Q QV hc h1 h2 q k
  unfold oAdd at q
  split at q
  · cases h1
    cases h2
    exact Or.inl ⟨_, _, rfl, rfl, k _ _ _ _ _ q (Nx.refl hc) (.int _)⟩
  · cases h1
    cases h2
    exact Or.inr (Or.inl ⟨_, _, rfl, rfl, q.1, k _ _ _ _ _ q.2 (Nx.refl hc) (.str _)⟩)
  · obtain ⟨z, q⟩ := q
    cases h1 with
    | tup a1 b1 =>
      cases h2 with
      | tup a2 b2 =>
        rename_i a xs b ys
        have l1 := b1.length
        have l2 := b2.length
        refine Or.inr (Or.inr (Or.inl ⟨_, _, _, _, rfl, rfl, hc.ex.st a1, hc.ex.st a2, by omega, fun e => ?_, fun e1 e2 => ?_, fun e1 e2 p hp => ?_⟩))
        · subst e
          cases b1
          exact k _ _ _ _ _ q (Nx.refl hc) (.tup a2 b2)
        · subst e2
          cases b2
          rw [List.append_nil] at q
          exact k _ _ _ _ _ q (Nx.refl hc) (.tup a1 b1)
        · obtain ⟨n, g⟩ := RR.newT hc hp (b1.append b2)
          exact k _ _ _ _ _ q n g
  · obtain ⟨as, bs, g1, g2, z, q⟩ := q
    obtain ⟨p1, xs, rfl, e1, r1⟩ := g1.at hc h1
    obtain ⟨p2, ys, rfl, e2, r2⟩ := g2.at hc h2
    have l1 := r1.length
    have l2 := r2.length
    refine Or.inr (Or.inr (Or.inr ⟨_, _, _, _, rfl, rfl, e1, e2, by omega, fun p hp => ?_⟩))
    obtain ⟨n, g⟩ := RR.newL hc hp (r1.append r2)
    exact k _ _ _ _ _ q n g
/-! ### ints -/
def oII (C : Int → Int → Prop) (f : Int → Int → Int) : D2 := fun ra rb M Q => match ra, rb with
  | .d (.int i), .d (.int j) => C i j ∧ Q (.d (.int (f i j))) M
  | _, _ => False
theorem s2_ii {C : Int → Int → Prop} {f : Int → Int → Int} : S2 K (rI C fun i j => .int (f i j)) (oII C f) := by
  intro B M H0 H x y rx ry Q QV hc h1 h2 q k
  unfold oII at q
  split at q
  · cases h1
    cases h2
    exact ⟨_, _, rfl, rfl, q.1, k _ _ _ _ _ q.2 (Nx.refl hc) (.int _)⟩
  · exact q.elim
def oI0 (f : Int → Int → Int) : D2 := fun ra rb M Q => match ra, rb with
  | .d (.int i), .d (.int j) => Q (.d (.int (f i j))) M
  | _, _ => False
theorem s2_i0 {f : Int → Int → Int} : S2 K (rI0 fun i j => .int (f i j)) (oI0 f) := by
  intro B M H0 H x y rx ry Q QV hc h1 h2 q k
  unfold oI0 at q
  split at q
  · cases h1
    cases h2
    exact ⟨_, _, rfl, rfl, k _ _ _ _ _ q (Nx.refl hc) (.int _)⟩
  · exact q.elim
def oIB (f : Int → Int → Bool) : D2 := fun ra rb M Q => match ra, rb with
  | .d (.int i), .d (.int j) => Q (.d (.bl (f i j))) M
  | _, _ => False
theorem s2_ib {f : Int → Int → Bool} : S2 K (rI0 fun i j => .bl (f i j)) (oIB f) := by
  intro B M H0 H x y rx ry Q QV hc h1 h2 q k
  unfold oIB at q
  split at q
  · cases h1
    cases h2
    exact ⟨_, _, rfl, rfl, k _ _ _ _ _ q (Nx.refl hc) (.bl _)⟩
  · exact q.elim
abbrev oSub : D2 := oI0 fun i j => i - j
abbrev oMulI : D2 := oII CMul fun i j => i * j
abbrev oDivI : D2 := oII CDivW fun i j => i / j
abbrev oModI : D2 := oII (fun _ j => 0 < j) fun i j => i % j
abbrev oPow : D2 := oII CPow fun i j => i ^ j.toNat
abbrev oLt : D2 := oIB fun i j => decide (i < j)
abbrev oLe : D2 := oIB fun i j => decide (i ≤ j)
abbrev oGt : D2 := oIB fun i j => decide (j < i)
abbrev oGe : D2 := oIB fun i j => decide (j ≤ i)
section
variable {a b : Expr} {ta tb : TE} {φa φb : DE} {pos : Pos}
theorem ex_add (ha : EX X a ta φa) (hb : EX X b tb φb) : EX X (.BinOp a .Add b pos) (tOp (rAddAny X.K) ta tb) (dOp oAdd φa φb) := ex_op op_addAny s2_add ha hb
theorem ex_sub (ha : EX X a ta φa) (hb : EX X b tb φb) : EX X (.BinOp a .Sub b pos) (tOp (rI0 fun i j => .int (i - j)) ta tb) (dOp oSub φa φb) := ex_op op_sub s2_i0 ha hb
theorem ex_mulI (ha : EX X a ta φa) (hb : EX X b tb φb) : EX X (.BinOp a .Mult b pos) (tOp (rI CMul fun i j => .int (i * j)) ta tb) (dOp oMulI φa φb) := ex_op op_mul s2_ii ha hb
theorem ex_div (ha : EX X a ta φa) (hb : EX X b tb φb) : EX X (.BinOp a .FloorDiv b pos) (tOp (rI CDivW fun i j => .int (i / j)) ta tb) (dOp oDivI φa φb) := ex_op op_fdivW s2_ii ha hb
theorem ex_mod (ha : EX X a ta φa) (hb : EX X b tb φb) : EX X (.BinOp a .Mod b pos) (tOp (rI (fun _ j => 0 < j) fun i j => .int (i % j)) ta tb) (dOp oModI φa φb) := ex_op op_mod s2_ii ha hb
theorem ex_pow (ha : EX X a ta φa) (hb : EX X b tb φb) : EX X (.BinOp a .Pow b pos) (tOp (rI CPow fun i j => .int (i ^ j.toNat)) ta tb) (dOp oPow φa φb) := ex_op op_pow s2_ii ha hb
theorem ex_lt (ha : EX X a ta φa) (hb : EX X b tb φb) : EX X (.Compare a [.Lt] [b] pos) (tOp (rI0 fun i j => .bl (decide (i < j))) ta tb) (dOp oLt φa φb) := ex_cmp op_lt s2_ib ha hb (nomark _)
theorem ex_le (ha : EX X a ta φa) (hb : EX X b tb φb) : EX X (.Compare a [.LtE] [b] pos) (tOp (rI0 fun i j => .bl (decide (i ≤ j))) ta tb) (dOp oLe φa φb) := ex_cmp op_le s2_ib ha hb (nomark _)
theorem ex_gt (ha : EX X a ta φa) (hb : EX X b tb φb) : EX X (.Compare a [.Gt] [b] pos) (tOp (rI0 fun i j => .bl (decide (j < i))) ta tb) (dOp oGt φa φb) := ex_cmp op_gt s2_ib ha hb (nomark _)
theorem ex_ge (ha : EX X a ta φa) (hb : EX X b tb φb) : EX X (.Compare a [.GtE] [b] pos) (tOp (rI0 fun i j => .bl (decide (j ≤ i))) ta tb) (dOp oGe φa φb) := ex_cmp op_ge s2_ib ha hb (nomark _)
theorem tx_lt (ha : EX X a ta φa) (hb : EX X b tb φb) : TX X (.Compare a [.Lt] [b] pos) (tTest (tOp (rI0 fun i j => .bl (decide (i < j))) ta tb)) (dTest (dOp oLt φa φb)) := tx_cmp op_lt s2_ib ha hb (nomark _)
theorem tx_le (ha : EX X a ta φa) (hb : EX X b tb φb) : TX X (.Compare a [.LtE] [b] pos) (tTest (tOp (rI0 fun i j => .bl (decide (i ≤ j))) ta tb)) (dTest (dOp oLe φa φb)) := tx_cmp op_le s2_ib ha hb (nomark _)
theorem tx_gt (ha : EX X a ta φa) (hb : EX X b tb φb) : TX X (.Compare a [.Gt] [b] pos) (tTest (tOp (rI0 fun i j => .bl (decide (j < i))) ta tb)) (dTest (dOp oGt φa φb)) := tx_cmp op_gt s2_ib ha hb (nomark _)
theorem tx_ge (ha : EX X a ta φa) (hb : EX X b tb φb) : TX X (.Compare a [.GtE] [b] pos) (tTest (tOp (rI0 fun i j => .bl (decide (j ≤ i))) ta tb)) (dTest (dOp oGe φa φb)) := tx_cmp op_ge s2_ib ha hb (nomark _)
/-- a <= b <= c -/
theorem tx_lele {c : Expr} {tc : TE} {φc : DE} (ha : EX X a ta φa) (hb : EX X b tb φb) (hc : EX X c tc φc) (hm : lastMarks [CmpOp.LtE, CmpOp.LtE] [b, c] = false := by with_unfolding_all rfl) :
    TX X (.Compare a [.LtE, .LtE] [b, c] pos) (tTest (tChain (rI0 fun i j => .bl (decide (i ≤ j))) (rI0 fun i j => .bl (decide (i ≤ j))) ta tb tc)) (dTest (dChain oLe oLe φa φb φc)) :=
  ⟨pt_chain op_le op_le ha.pe hb.pe hc.pe (hm := hm), ST.test (SE.chain ha.s hb.s hc.s s2_ib s2_ib)⟩
theorem tx_lelt {c : Expr} {tc : TE} {φc : DE} (ha : EX X a ta φa) (hb : EX X b tb φb) (hc : EX X c tc φc) (hm : lastMarks [CmpOp.LtE, CmpOp.Lt] [b, c] = false := by with_unfolding_all rfl) :
    TX X (.Compare a [.LtE, .Lt] [b, c] pos) (tTest (tChain (rI0 fun i j => .bl (decide (i ≤ j))) (rI0 fun i j => .bl (decide (i < j))) ta tb tc)) (dTest (dChain oLe oLt φa φb φc)) :=
  ⟨pt_chain op_le op_lt ha.pe hb.pe hc.pe (hm := hm), ST.test (SE.chain ha.s hb.s hc.s s2_ib s2_ib)⟩
/-! ### -a -/
def dNeg (φ : DE) : DE := fun env M Q => φ env M fun r M1 => match r with
  | .d (.int i) => Q (.d (.int (-i))) M1
  | _ => False
theorem ex_neg (ha : EX X a ta φa) : EX X (.UnaryOp .USub a pos) (tUn (rU fun i => .int (-i)) ta) (dNeg φa) := by
  refine ⟨pe_un un_neg ha.pe, fun env M Q σ B H QV hs hc q k => ?_⟩
  refine ha.s env M _ σ B H _ hs hc q fun r M1 v B1 H1 q1 n1 r1 => ?_
  split at q1
  · cases r1
    exact ⟨_, rfl, k _ _ _ _ _ q1 n1 (.int _)⟩
  · exact q1.elim
end
end

/-! ### data without instances, as PyData -/
mutual
inductive PyOf (M : Mem) : Dat → PyData → Prop
  | non : PyOf M .non .none
  | bl (b : Bool) : PyOf M (.bl b) (.bool b)
  | int (i : Int) : PyOf M (.int i) (.int i)
  | str (x : Str) : PyOf M (.str x) (.str x)
  | tup {xs : List Dat} {ps : List PyData} : PyOfA M xs ps → PyOf M (.tup xs) (.tuple ps)
  | lst {xs : List Dat} {ps : List PyData} : PyOfA M xs ps → PyOf M (.lst xs) (.list ps)
  | fz {xs : List Dat} {ps : List PyData} : PyOfA M xs ps → PyOf M (.fz xs) (.list ps)
  | cell {p : Addr} {xs : List Dat} {ps : List PyData} : M p = some (.lst xs) → PyOfA M xs ps → PyOf M (.cell p) (.list ps)
inductive PyOfA (M : Mem) : List Dat → List PyData → Prop
  | nil : PyOfA M [] []
  | cons {d : Dat} {ds : List Dat} {p : PyData} {ps : List PyData} : PyOf M d p → PyOfA M ds ps → PyOfA M (d :: ds) (p :: ps)
end
section
variable {K : PySem.W.Frag} {B : Hp} {M : Mem} {H0 H : Hp} {v : V} {r : Rv}
mutual
theorem PyOf.dp (hc : Cs K B M H) : ∀ {d : Dat} {p : PyData} {v : V}, PyOf M d p → Rp K B v d → Dp K H v p
  | _, _, _, .non, h => by cases h; exact .non
  | _, _, _, .bl b, h => by cases h; exact .bl b
  | _, _, _, .int i, h => by cases h; exact .int i
  | _, _, _, .str x, h => by cases h; exact .str x
  | _, _, _, .tup a, h => by
    cases h with
    | tup h1 h2 => exact .tup (hc.ex.st h1) (PyOfA.dp hc a h2)
  | _, _, _, .lst a, h => by
    cases h with
    | lst h1 h2 => exact .lst (SqL.of (hc.ex _ _ h1)) (PyOfA.dp hc a h2)
  | _, _, _, .fz a, h => by
    cases h with
    | fz h1 h2 => exact .lst (hc.ex.sl h1) (PyOfA.dp hc a h2)
  | _, _, _, .cell e a, h => by
    cases h
    obtain ⟨_, xs, h1, h2⟩ := hc.cell _ _ e
    exact .lst (SqL.of h1) (PyOfA.dp hc a h2)
theorem PyOfA.dp (hc : Cs K B M H) : ∀ {ds : List Dat} {ps : List PyData} {vs : List V}, PyOfA M ds ps → RpA K B vs ds → DpAll K H vs ps
  | _, _, _, .nil, h => by cases h; exact .nil
  | _, _, _, .cons a b, h => by
    cases h with
    | cons h1 h2 => exact .cons (PyOf.dp hc a h1) (PyOfA.dp hc b h2)
end
def PyR (M : Mem) : Rv → PyData → Prop
  | .d x, p => PyOf M x p
  | .new (.lst xs), p => ∃ ps, p = .list ps ∧ PyOfA M xs ps
  | .new (.obj _ _), _ => False
theorem PyR.dp {p : PyData} (hc : Cs K B M H) (h : RR K B M H0 H v r) (q : PyR M r p) : Dp K H v p := by
  unfold PyR at q
  split at q
  · exact q.dp hc h
  · obtain ⟨ps, rfl, q⟩ := q
    obtain ⟨a, rfl, _, _, _, xs, h1, h2⟩ := h
    exact .lst (SqL.of h1) (q.dp hc h2)
  · exact q.elim
theorem PyOfA.ints (M : Mem) : ∀ ns : List Int, PyOfA M (ns.map Dat.int) (ns.map PyData.int)
  | [] => .nil
  | n :: r => .cons (.int n) (PyOfA.ints M r)
theorem PyOfA.map {α : Type} {f : α → Dat} {g : α → PyData} (h : ∀ a, PyOf M (f a) (g a)) : ∀ xs : List α, PyOfA M (xs.map f) (xs.map g)
  | [] => .nil
  | n :: r => .cons (h n) (PyOfA.map h r)
end

section
variable {X : Cx} {K : PySem.W.Frag}
/-! ### ==, != -/
def oEqB (n : Bool) : D2 := fun ra rb M Q => match ra, rb with
  | .d (.int i), .d (.int j) => Q (.d (.bl (n != decide (i = j)))) M
  | .d (.str a), .d (.str b) => Q (.d (.bl (n != decide (a = b)))) M
  | ra, rb => ∃ a b, PyR M ra a ∧ PyR M rb b ∧ SeqAt.shaped a = true ∧ SeqAt.shaped b = true ∧ Q (.d (.bl (n != PyData.eqv a b))) M
abbrev oEq : D2 := oEqB false
abbrev oNe : D2 := oEqB true
def rEqAny (K : PySem.W.Frag) : R2 := fun x y H Q => rEq x y H Q ∨ rEqD K x y H Q
def rNeAny (K : PySem.W.Frag) : R2 := fun x y H Q => rNe x y H Q ∨ rNeD K x y H Q
theorem op_eqAny (hu : X.A.units + 64 < cLine) : OpR X (compareOp .Eq) (rEqAny X.K) := op_eq.or (op_eqD hu)
theorem op_neAny (hu : X.A.units + 64 < cLine) : OpR X (compareOp .NotEq) (rNeAny X.K) := op_ne.or (op_neD hu)
theorem s2_eq : S2 K (rEqAny K) oEq := by
  intro B M H0 H x y rx ry Q QV hc h1 h2 q k
  unfold oEq oEqB at q
  split at q
  · cases h1
    cases h2
    rename_i i j
    refine Or.inl ⟨rfl, ?_⟩
    have e : decide (V.int i = V.int j) = (false != decide (i = j)) := by
      rw [dec_int, Bool.false_bne] <;> rfl
    rw [e]
    exact k _ _ _ _ _ q (Nx.refl hc) (.bl _)
  · cases h1
    cases h2
    rename_i i j
    refine Or.inl ⟨rfl, ?_⟩
    have e : decide (V.str i = V.str j) = (false != decide (i = j)) := by
      rw [Bool.false_bne]
      by_cases z : i = j
      · rw [decide_eq_true z, z] <;> simp
      · rw [decide_eq_false z]
        exact decide_eq_false fun q => z (V.str.inj q)
    rw [e]
    exact k _ _ _ _ _ q (Nx.refl hc) (.bl _)
  · obtain ⟨a, b, g1, g2, s1, s2, q⟩ := q
    refine Or.inr ⟨a, b, g1.dp hc h1, g2.dp hc h2, s1, s2, ?_⟩
    rw [Bool.false_bne] at q
    exact k _ _ _ _ _ q (Nx.refl hc) (.bl _)
theorem s2_ne : S2 K (rNeAny K) oNe := by
  intro B M H0 H x y rx ry Q QV hc h1 h2 q k
  unfold oNe oEqB at q
  split at q
  · cases h1
    cases h2
    rename_i i j
    refine Or.inl ⟨rfl, ?_⟩
    have e : (!decide (V.int i = V.int j)) = (true != decide (i = j)) := by
      rw [dec_int, Bool.true_bne] <;> rfl
    rw [e]
    exact k _ _ _ _ _ q (Nx.refl hc) (.bl _)
  · cases h1
    cases h2
    rename_i i j
    refine Or.inl ⟨rfl, ?_⟩
    have e : (!decide (V.str i = V.str j)) = (true != decide (i = j)) := by
      rw [Bool.true_bne]
      by_cases z : i = j
      · rw [decide_eq_true z, z] <;> simp
      · rw [decide_eq_false z]
        exact congrArg Bool.not (decide_eq_false fun q => z (V.str.inj q))
    rw [e]
    exact k _ _ _ _ _ q (Nx.refl hc) (.bl _)
  · obtain ⟨a, b, g1, g2, s1, s2, q⟩ := q
    refine Or.inr ⟨a, b, g1.dp hc h1, g2.dp hc h2, s1, s2, ?_⟩
    rw [Bool.true_bne] at q
    exact k _ _ _ _ _ q (Nx.refl hc) (.bl _)
/-! ### in, not in: flat items -/
def flatO : Dat → Option V
  | .non => some .non
  | .bl b => some (.bl b)
  | .int i => some (.int i)
  | .str x => some (.str x)
  | _ => none
theorem flatO_ok {B : Hp} {d : Dat} {v u : V} (h : flatO d = some u) (r : Rp K B v d) : v = u ∧ flatV u = true := by
  cases r <;> first
    | (have e := Option.some.inj h; subst e; exact ⟨rfl, rfl⟩)
    | cases h
theorem flatO_all {B : Hp} : ∀ {ds : List Dat} {vs us : List V}, ds.mapM flatO = some us → RpA K B vs ds → vs = us ∧ us.all flatV = true
  | [], _, us, h, .nil => by
    have e : us = [] := by simpa using h.symm
    subst e
    exact ⟨rfl, rfl⟩
  | d :: ds, _, us, h, .cons r a => by
    rw [List.mapM_cons] at h
    cases e1 : flatO d with
    | none =>
      rw [e1] at h
      cases h
    | some u =>
      rw [e1] at h
      cases e2 : ds.mapM flatO with
      | none =>
        rw [e2] at h
        cases h
      | some us' =>
        rw [e2] at h
        have e3 : u :: us' = us := Option.some.inj h
        subst e3
        obtain ⟨g1, g2⟩ := flatO_ok e1 r
        obtain ⟨g3, g4⟩ := flatO_all e2 a
        subst g1 g3
        exact ⟨rfl, by rw [List.all_cons, g2, g4] <;> rfl⟩
def oInB (n : Bool) : D2 := fun ra rb M Q => ∃ x u ys us, ra = .d x ∧ SeqR M rb ys ∧ flatO x = some u ∧ ys.mapM flatO = some us ∧ Q (.d (.bl (n != inV u us))) M
theorem s2_in {n : Bool} : S2 K (rIn K n) (oInB n) := by
  intro B M H0 H x y rx ry Q QV hc h1 h2 q k
  obtain ⟨d, u, ys, us, rfl, g1, g2, g3, q⟩ := q
  obtain ⟨p, xs, rfl, hp, ra⟩ := g1.at hc h2
  obtain ⟨rfl, f1⟩ := flatO_ok g2 h1
  obtain ⟨rfl, f2⟩ := flatO_all g3 ra
  refine ⟨p, xs, rfl, hp, f1, f2, ?_⟩
  have e : (n != inV x xs) = (if n then !inV x xs else inV x xs) := by
    cases n
    · rw [Bool.false_bne] <;> rfl
    · rw [Bool.true_bne] <;> rfl
  rw [e] at q
  exact k _ _ _ _ _ q (Nx.refl hc) (.bl _)
/-! ### is None -/
def isNo : Rv → Bool
  | .d .non => true
  | _ => false
theorem isNo_ok {B : Hp} {M : Mem} {H0 H : Hp} {v : V} {r : Rv} (h : RR K B M H0 H v r) : decide (v = .non) = isNo r := by
  cases r with
  | d x => cases h <;> first | rfl | exact decide_eq_false fun z => by cases z
  | new m =>
    obtain ⟨p, rfl, _⟩ := h
    exact decide_eq_false fun z => by cases z
def oIs (n : Bool) : D2 := fun ra rb M Q => rb = .d .non ∧ Q (.d (.bl (n != isNo ra))) M
def rIsN : R2 := fun x y H Q => y = .non ∧ Q (.bl (decide (x = .non))) H
def rNotN : R2 := fun x y H Q => y = .non ∧ Q (.bl (!decide (x = .non))) H
theorem s2_is : S2 K rIsN (oIs false) := by
  intro B M H0 H x y rx ry Q QV hc h1 h2 q k
  obtain ⟨rfl, q⟩ := q
  cases h2
  refine ⟨rfl, ?_⟩
  rw [isNo_ok h1]
  rw [Bool.false_bne] at q
  exact k _ _ _ _ _ q (Nx.refl hc) (.bl _)
theorem s2_nis : S2 K rNotN (oIs true) := by
  intro B M H0 H x y rx ry Q QV hc h1 h2 q k
  obtain ⟨rfl, q⟩ := q
  cases h2
  refine ⟨rfl, ?_⟩
  rw [isNo_ok h1]
  rw [Bool.true_bne] at q
  exact k _ _ _ _ _ q (Nx.refl hc) (.bl _)
section
variable {a b : Expr} {ta tb : TE} {φa φb : DE} {pos : Pos}
theorem ex_eq (hu : X.A.units + 64 < cLine) (ha : EX X a ta φa) (hb : EX X b tb φb) : EX X (.Compare a [.Eq] [b] pos) (tOp (rEqAny X.K) ta tb) (dOp oEq φa φb) := ex_cmp (op_eqAny hu) s2_eq ha hb (nomark _)
theorem ex_ne (hu : X.A.units + 64 < cLine) (ha : EX X a ta φa) (hb : EX X b tb φb) : EX X (.Compare a [.NotEq] [b] pos) (tOp (rNeAny X.K) ta tb) (dOp oNe φa φb) := ex_cmp (op_neAny hu) s2_ne ha hb (nomark _)
theorem tx_eq (hu : X.A.units + 64 < cLine) (ha : EX X a ta φa) (hb : EX X b tb φb) : TX X (.Compare a [.Eq] [b] pos) (tTest (tOp (rEqAny X.K) ta tb)) (dTest (dOp oEq φa φb)) := tx_cmp (op_eqAny hu) s2_eq ha hb (nomark _)
theorem tx_ne (hu : X.A.units + 64 < cLine) (ha : EX X a ta φa) (hb : EX X b tb φb) : TX X (.Compare a [.NotEq] [b] pos) (tTest (tOp (rNeAny X.K) ta tb)) (dTest (dOp oNe φa φb)) := tx_cmp (op_neAny hu) s2_ne ha hb (nomark _)
theorem tx_in (ha : EX X a ta φa) (hb : EX X b tb φb) (hm : behindInMarks .In b = false := by rfl) : TX X (.Compare a [.In] [b] pos) (tTest (tOp (rIn X.K false) ta tb)) (dTest (dOp (oInB false) φa φb)) := tx_cmp op_in_seq s2_in ha hb hm
theorem tx_nin (ha : EX X a ta φa) (hb : EX X b tb φb) (hm : behindInMarks .NotIn b = false := by rfl) : TX X (.Compare a [.NotIn] [b] pos) (tTest (tOp (rIn X.K true) ta tb)) (dTest (dOp (oInB true) φa φb)) := tx_cmp op_notIn_seq s2_in ha hb hm
theorem tx_is (ha : EX X a ta φa) (hb : EX X b tb φb) : TX X (.Compare a [.Is] [b] pos) (tTest (tOp rIsN ta tb)) (dTest (dOp (oIs false) φa φb)) := tx_cmp op_isN s2_is ha hb (nomark _)
theorem tx_nis (ha : EX X a ta φa) (hb : EX X b tb φb) : TX X (.Compare a [.IsNot] [b] pos) (tTest (tOp rNotN ta tb)) (dTest (dOp (oIs true) φa φb)) := tx_cmp op_notN s2_nis ha hb (nomark _)
end
end
end Dl
set_option Elab.async false
set_option linter.all false
set_option maxRecDepth 100000
set_option maxHeartbeats 4000000
namespace Dl
open PySem PySem.Spec PyProof.Rows L2
/-! ### tuple * int: the cases that HandS.TupMul leaves open -/
theorem mulT_same (l : Addr) (items : Array Value) (n : Nat) (dd : Option Addr) (sl : Array (Option Value)) (x : Int) (u : Tok) (c0 : (decide (x < -(2 ^ 63)) || decide (x ≥ 2 ^ 63)) = false) (c1 : (items.isEmpty || x == 1) = true) :
    Meets (Builtin.«tuple.__mul__» ⟨[.ref l, .int x u], []⟩) (fun _ R s => s.heap.get? l = some { cls := .type "tuple", dict := dd, data := .seq items n, slots := sl } ∧ R (.ok (.ret (Value.ref l))) s) :=
  .of_wp fun prog w A R s h => by
    obtain ⟨hp, g, d, tk, os⟩ := s
    obtain ⟨hl, h⟩ := h
    have f1 := AutoSeq1.idx_int
    wp_walk using wpAny_loadPart' hl
    repeat (first
      | (refine wpAny_ite_false (decide_eq_false (by rw [c0]; exact Bool.false_ne_true)) ?_; wp_walk using wpAny_loadPart' hl)
      | (refine wpAny_ite_true (decide_eq_true c1) ?_; wp_walk using wpAny_loadPart' hl))
    exact ⟨_, rfl, h⟩
theorem mulT_none (l : Addr) (items : Array Value) (n : Nat) (dd : Option Addr) (sl : Array (Option Value)) (x : Int) (u : Tok) (c0 : (decide (x < -(2 ^ 63)) || decide (x ≥ 2 ^ 63)) = false) (c1 : (items.isEmpty || x == 1) = false) (c2 : (decide (x ≤ 0) || items.isEmpty) = true) :
    Meets (Builtin.«tuple.__mul__» ⟨[.ref l, .int x u], []⟩) (fun _ R s => s.heap.get? l = some { cls := .type "tuple", dict := dd, data := .seq items n, slots := sl } ∧
      R (.ok (.ret (Value.ref s.heap.objs.size))) { s with heap := s.heap.push { cls := Value.type "tuple", data := Data.seq #[] }, toks := s.toks }) :=
  .of_wp fun prog w A R s h => by
    obtain ⟨hp, g, d, tk, os⟩ := s
    obtain ⟨hl, h⟩ := h
    have f1 := AutoSeq1.idx_int
    wp_walk using wpAny_loadPart' hl
    repeat (first
      | (refine wpAny_ite_false (decide_eq_false (by rw [c0]; exact Bool.false_ne_true)) ?_; wp_walk using wpAny_loadPart' hl)
      | (refine wpAny_ite_false (decide_eq_false (by rw [c1]; exact Bool.false_ne_true)) ?_; wp_walk using wpAny_loadPart' hl)
      | (refine wpAny_ite_true (decide_eq_true c2) ?_; wp_walk using wpAny_loadPart' hl))
    exact ⟨_, rfl, h⟩

def rRepA (K : PySem.W.Frag) : R2 := fun x y H Q => ∃ l k xs, x = .ref l ∧ y = .int k ∧ SqT K H l xs ∧ -1000 ≤ k ∧ k ≤ 1000 ∧ xs.length ≤ 1000 ∧ (xs = [] ∨ k = 1 → Q (.ref l) H) ∧ (¬ (xs = [] ∨ k = 1) → ∀ p, H p = none → Q (.ref p) (upd H p (.tup (List.replicate k.toNat xs).flatten)))
theorem op_repA {X : Cx} : OpR X (binaryOp .Mult) (rRepA X.K) := by
  intro pins s σ H x y v u Q I rx ry h
  obtain ⟨l, k, xs, rfl, rfl, hT, h1, h2, hz, q1, q2⟩ := h
  have c0 : (decide (k < -(2 ^ 63)) || decide (k ≥ 2 ^ 63)) = false := by
    rw [decide_eq_false (by omega), decide_eq_false (by omega)] <;> rfl
  by_cases big : xs ≠ [] ∧ 2 ≤ k
  · exact op_repT pins s σ H _ _ v u Q I rx ry ⟨l, k, xs, rfl, rfl, hT, big.1, big.2, h2, hz, q2 (fun z => z.elim big.1 fun e => by have := big.2; omega)⟩
  · cases rx
    obtain ⟨t, rfl⟩ := ry
    obtain ⟨its, r, ⟨⟨cls, dd, data, sl⟩, ho, hc, n, hd⟩, hs⟩ := I.tuple hT
    simp only at hc hd
    subst hc hd
    have hle : its.length = xs.length := r.length.symm
    have hi : its.toArray.isEmpty = decide (xs = []) := by
      cases its with
      | nil =>
        have e : xs = [] := List.eq_nil_of_length_eq_zero (by rw [← hle]; rfl)
        rw [e] <;> rfl
      | cons a b =>
        have e : xs ≠ [] := fun z => by
          rw [z] at hle
          cases hle
        rw [decide_eq_false e] <;> rfl
    by_cases same : xs = [] ∨ k = 1
    · have c1 : (its.toArray.isEmpty || k == 1) = true := by
        rw [hi]
        rcases same with e | e
        · rw [decide_eq_true e, Bool.true_or]
        · rw [e, show ((1 : Int) == 1) = true from rfl, Bool.or_true]
      refine wpAny_binaryOp_repeat_ref (T := "tuple") (U := "int") (by decide) ⟨_, ho, rfl⟩ (fun s' => typeIs_int s' k t) noFill_tuple_mul F.fills_int_mul F.slot_int_rmul repeat_tuple F.slot_int_index.lookup
        (call_meets F.slot_int_rmul (typeIs_int s k t) F.entry_int_rmul (F.args_int_rmul_2 _ _) (int_rmul_tuple k t l its.toArray n dd sl)
          ⟨ho, rfl, ⟨_, ho, rfl⟩, call_meets F.slot_tuple_mul ⟨_, ho, rfl⟩ F.entry_tuple_mul (F.args_tuple_mul_2 _ _) (mulT_same l its.toArray n dd sl k t c0 c1) ⟨ho, ?_⟩⟩)
      exact ⟨.ref l, H, I, rfl, q1 same⟩
    · have e1 : xs ≠ [] := fun z => same (Or.inl z)
      have e2 : k ≠ 1 := fun z => same (Or.inr z)
      have e3 : k ≤ 0 := by
        have : ¬ 2 ≤ k := fun z => big ⟨e1, z⟩
        omega
      have c1 : (its.toArray.isEmpty || k == 1) = false := by
        rw [hi, decide_eq_false e1, Bool.false_or]
        exact beq_eq_false_iff_ne.mpr e2
      have c2 : (decide (k ≤ 0) || its.toArray.isEmpty) = true := by
        rw [decide_eq_true e3, Bool.true_or]
      refine wpAny_binaryOp_repeat_ref (T := "tuple") (U := "int") (by decide) ⟨_, ho, rfl⟩ (fun s' => typeIs_int s' k t) noFill_tuple_mul F.fills_int_mul F.slot_int_rmul repeat_tuple F.slot_int_index.lookup
        (call_meets F.slot_int_rmul (typeIs_int s k t) F.entry_int_rmul (F.args_int_rmul_2 _ _) (int_rmul_tuple k t l its.toArray n dd sl)
          ⟨ho, rfl, ⟨_, ho, rfl⟩, call_meets F.slot_tuple_mul ⟨_, ho, rfl⟩ F.entry_tuple_mul (F.args_tuple_mul_2 _ _) (mulT_none l its.toArray n dd sl k t c0 c1 c2) ⟨ho, ?_⟩⟩)
      have ek : k.toNat = 0 := by omega
      have q3 := q2 same
      rw [ek] at q3
      refine ⟨.ref s.heap.objs.size, _, I.laid (t' := s.toks) (o := .tup []) (fun b ob q => Heap.get?_push_of_some _ q) (Nat.le_refl _) ?_, rfl, q3 _ (I.hok.fresh (Nat.le_refl _))⟩
      exact ⟨Nat.zero_le _, [], .nil, IsTup.new _ _⟩
section
variable {X : Cx} {K : PySem.W.Frag}
/-! ### * of any kind -/
/-- one factor below 2 ^ 64, or both of together at most 2 ^ 27 bits -/
def CMulG (i j : Int) : Prop := CMul i j ∨ CMulX i j
theorem op_mulG {X : Cx} : OpR X (binaryOp .Mult) (rI CMulG fun i j => .int (i * j)) := by
  intro pins s σ H x y v u Q I rx ry h
  obtain ⟨i, j, rfl, rfl, hc, q⟩ := h
  rcases hc with hc | hc
  · exact op_mul pins s σ H _ _ v u Q I rx ry ⟨i, j, rfl, rfl, hc, q⟩
  · exact op_mulX pins s σ H _ _ v u Q I rx ry ⟨i, j, rfl, rfl, hc, q⟩
def oMul : D2 := fun ra rb M Q => match ra, rb with
  | .d (.int i), .d (.int j) => CMulG i j ∧ Q (.d (.int (i * j))) M
  | .d (.tup as), .d (.int k) => -1000 ≤ k ∧ k ≤ 1000 ∧ as.length ≤ 1000 ∧ Q (.d (.tup (List.replicate k.toNat as).flatten)) M
  | ra, .d (.int k) => ∃ as, LstR M ra as ∧ -(2 ^ 63) ≤ k ∧ k < 2 ^ 63 ∧ as.length * k.toNat ≤ sizeLine ∧ Q (.new (.lst (List.replicate k.toNat as).flatten)) M
  | _, _ => False
def rMulAny (K : PySem.W.Frag) : R2 := fun x y H Q => rI CMulG (fun i j => .int (i * j)) x y H Q ∨ rRepA K x y H Q ∨ rRep x y H Q
theorem op_mulAny : OpR X (binaryOp .Mult) (rMulAny X.K) := op_mulG.or (op_repA.or op_rep)
theorem s2_mul : S2 K (rMulAny K) oMul := by
  intro B M H0 H x y rx ry Q QV hc h1 h2 q k
  unfold oMul at q
  split at q
  · cases h1
    cases h2
    exact Or.inl ⟨_, _, rfl, rfl, q.1, k _ _ _ _ _ q.2 (Nx.refl hc) (.int _)⟩
  · rename_i as kk
    obtain ⟨z1, z2, z3, q⟩ := q
    cases h2
    cases h1 with
    | tup a1 b1 =>
      have l1 := b1.length
      refine Or.inr (Or.inl ⟨_, _, _, rfl, rfl, hc.ex.st a1, z1, z2, by omega, fun e => ?_, fun e p hp => ?_⟩)
      · rcases e with e | e
        · subst e
          cases b1
          rw [show (List.replicate _ ([] : List Dat)).flatten = [] from by simp] at q
          exact k _ _ _ _ _ q (Nx.refl hc) (.tup a1 .nil)
        · subst e
          rw [show (List.replicate (1 : Int).toNat as).flatten = as from by simp] at q
          exact k _ _ _ _ _ q (Nx.refl hc) (.tup a1 b1)
      · obtain ⟨n, g⟩ := RR.newT hc hp (b1.rep _)
        exact k _ _ _ _ _ q n g
  · obtain ⟨as, g1, z1, z2, z3, q⟩ := q
    obtain ⟨p1, xs, rfl, e1, r1⟩ := g1.at hc h1
    cases h2
    have l1 := r1.length
    refine Or.inr (Or.inr ⟨_, _, _, rfl, rfl, e1, z1, z2, by rw [l1]; exact z3, fun p hp => ?_⟩)
    obtain ⟨n, g⟩ := RR.newL hc hp (r1.rep _)
    exact k _ _ _ _ _ q n g
  · exact q.elim
theorem ex_mul {a b : Expr} {ta tb : TE} {φa φb : DE} {pos : Pos} (ha : EX X a ta φa) (hb : EX X b tb φb) : EX X (.BinOp a .Mult b pos) (tOp (rMulAny X.K) ta tb) (dOp oMul φa φb) := ex_op op_mulAny s2_mul ha hb
/-! ### items, slices -/
theorem atI_rp {B : Hp} {xs : List V} {ys : List Dat} {i : Int} {y : Dat} (r : RpA K B xs ys) (h : atI ys i = some y) : ∃ v, atI xs i = some v ∧ Rp K B v y := by
  unfold atI at h ⊢
  rw [r.length]
  cases e : ixN ys.length i with
  | none =>
    rw [e] at h
    cases h
  | some j =>
    rw [e] at h
    exact r.get h
def oIx : D2 := fun ra rb M Q => ∃ i ys y, rb = .d (.int i) ∧ SeqR M ra ys ∧ atI ys i = some y ∧ Q (.d y) M
theorem s2_ix : S2 K (rIx K) oIx := by
  intro B M H0 H x y rx ry Q QV hc h1 h2 q k
  obtain ⟨i, ys, z, rfl, g1, g2, q⟩ := q
  obtain ⟨p, xs, rfl, hp, r⟩ := g1.at hc h1
  cases h2
  obtain ⟨v, e, rv⟩ := atI_rp r g2
  rcases hp with hp | hp
  · exact Or.inl ⟨p, xs, i, v, rfl, rfl, hp, e, k _ _ _ _ _ q (Nx.refl hc) rv⟩
  · exact Or.inr (Or.inl ⟨p, xs, i, v, rfl, rfl, hp, e, k _ _ _ _ _ q (Nx.refl hc) rv⟩)
theorem ex_ix {a b : Expr} {ta tb : TE} {φa φb : DE} {pos : Pos} (ha : EX X a ta φa) (hb : EX X b tb φb) (hs : PlainIx b := by intro _ _; rfl) : EX X (.Subscript a b pos) (tOp (rIx X.K) ta tb) (dOp oIx φa φb) :=
  ⟨pe_ix ix_seq ha.pe hb.pe hs, SE.op ha.s hb.s s2_ix⟩
abbrev DO := Env → Mem → (Option Int → Mem → Prop) → Prop
def SO (K : PySem.W.Frag) (t : TO) (φ : DO) : Prop := ∀ (env : Env) (M : Mem) (Q : Option Int → Mem → Prop) (σ : L2.St) (B H : Hp) (QV : Option Int → Hp → Prop), SR K B σ env → Cs K B M H → φ env M Q →
  (∀ o M' B' H', Q o M' → Nx K B M H B' M' H' → QV o H') → t σ H QV
structure OX (X : Cx) (e : Option Expr) (t : TO) (φ : DO) : Prop where
  po : PO X e t
  s : SO X.K t φ
def dNo : DO := fun _ M Q => Q none M
def dPart (φ : DE) : DO := fun env M Q => φ env M fun r M1 => match r with
  | .d (.int i) => Q (some i) M1
  | _ => False
theorem ox_none : OX X none tNoPart dNo := ⟨po_none, fun env M Q σ B H QV hs hc q k => k _ _ _ _ q (Nx.refl hc)⟩
theorem ox_some {e : Expr} {t : TE} {φ : DE} (h : EX X e t φ) : OX X (some e) (tPart t) (dPart φ) := by
  refine ⟨po_some h.pe, fun env M Q σ B H QV hs hc q k => ?_⟩
  refine h.s env M _ σ B H _ hs hc q fun r M1 v B1 H1 q1 n1 r1 => ?_
  split at q1
  · cases r1
    exact ⟨_, rfl, k _ _ _ _ q1 n1⟩
  · exact q1.elim
/-- xs[lo:hi] -/
def cut {α : Type} (xs : List α) (lo hi : Option Int) : List α := (xs.drop (HT.sIx xs.length 0 lo)).take (HT.sIx xs.length xs.length hi - HT.sIx xs.length 0 lo)
theorem cut_rp {B : Hp} {xs : List V} {ys : List Dat} {lo hi : Option Int} (r : RpA K B xs ys) : RpA K B (cutV xs lo hi) (cut ys lo hi) := by
  unfold cutV cut
  rw [r.length]
  exact (r.drop _).take _
theorem cut_whole {α : Type} {xs : List α} {lo hi : Option Int} (h : HT.sIx xs.length 0 lo = 0 ∧ HT.sIx xs.length xs.length hi = xs.length) : cut xs lo hi = xs := by
  unfold cut
  rw [h.1, h.2, List.drop_zero, Nat.sub_zero, List.take_length]
def oSl (lo hi : Option Int) (r : Rv) (M : Mem) (Q : Rv → Mem → Prop) : Prop := match r with
  | .d (.tup xs) => Q (.d (.tup (cut xs lo hi))) M
  | r => ∃ ys, SeqR M r ys ∧ Q (.new (.lst (cut ys lo hi))) M
def dSl (φ : DE) (lo hi : DO) : DE := fun env M Q => φ env M fun r M1 => lo env M1 fun l M2 => hi env M2 fun h M3 => oSl l h r M3 Q
def rSl (K : PySem.W.Frag) : V → Option Int → Option Int → Hp → VK → Prop := fun x lo hi H Q => rSlA K x lo hi H Q ∨ rSlL K x lo hi H Q
theorem ex_sl {e : Expr} {lo hi : Option Expr} {t : TE} {tl th : TO} {φ : DE} {φl φh : DO} {pos p2 : Pos} (h : EX X e t φ) (hl : OX X lo tl φl) (hh : OX X hi th φh) : EX X (.Subscript e (.Slice lo hi none p2) pos) (tSl (rSl X.K) t tl th) (dSl φ φl φh) := by
  refine ⟨pe_slice (sl_tupA.or sl_list) h.pe hl.po hh.po, fun env M Q σ B H QV hs hc q k => ?_⟩
  refine h.s env M _ σ B H _ hs hc q fun r M1 v B1 H1 q1 n1 r1 => ?_
  refine hl.s env M1 _ σ B1 H1 _ (hs.mono n1.ext) n1.st q1 fun l M2 B2 H2 q2 n2 => ?_
  have n12 := n1.trans n2
  refine hh.s env M2 _ σ B2 H2 _ (hs.mono n12.ext) n12.st q2 fun u M3 B3 H3 q3 n3 => ?_
  have n := n12.trans n3
  have r3 := (r1.fwd n2).fwd n3
  have nt : ∀ {ys : List Dat}, (∃ a xs, v = .ref a ∧ SqT X.K H3 a xs ∧ RpA X.K B3 xs ys) → (Q (.d (.tup (cut ys l u))) M3) → Rp X.K B3 v (.tup ys) → rSlA X.K v l u H3 QV := by
    intro ys ⟨a, xs, ev, ht, ra⟩ q rv
    subst ev
    refine ⟨a, xs, rfl, ht, fun w => ?_, fun w p hp => ?_⟩
    · rw [cut_whole (by rw [← ra.length]; exact w)] at q
      exact k _ _ _ _ _ q n rv
    · obtain ⟨n4, g⟩ := RR.newT n.st hp (cut_rp (lo := l) (hi := u) ra)
      exact k _ _ _ _ _ q (n.trans n4) g
  unfold oSl at q3
  split at q3
  · cases r3 with
    | tup h1 h2 => exact Or.inl (nt ⟨_, _, rfl, n.st.ex.st h1, h2⟩ q3 (.tup h1 h2))
  · obtain ⟨ys, g, q4⟩ := q3
    rename_i r hne
    have hl : ∃ a xs, v = .ref a ∧ SqL X.K H3 a xs ∧ RpA X.K B3 xs ys := by
      unfold SeqR at g
      split at g
      · subst g
        cases r3 with
        | lst h1 h2 => exact ⟨_, _, rfl, SqL.of (n.st.ex _ _ h1), h2⟩
      · exact (hne _ rfl).elim
      · subst g
        cases r3 with
        | fz h1 h2 => exact ⟨_, _, rfl, n.st.ex.sl h1, h2⟩
      · cases r3
        obtain ⟨_, xs, h1, h2⟩ := n.st.cell _ _ g
        exact ⟨_, xs, rfl, SqL.of h1, h2⟩
      · subst g
        obtain ⟨p, rfl, _, _, _, xs, h1, h2⟩ := r3
        exact ⟨p, xs, rfl, SqL.of h1, h2⟩
      · exact g.elim
    obtain ⟨a, xs, rfl, hp, ra⟩ := hl
    refine Or.inr ⟨a, xs, rfl, hp, fun p hp => ?_⟩
    obtain ⟨n4, g4⟩ := RR.newL n.st hp (cut_rp (lo := l) (hi := u) ra)
    exact k _ _ _ _ _ q4 (n.trans n4) (g4.back n)
/-- xs[::-1] -/
def dRev (φ : DE) : DE := fun env M Q => φ env M fun r M1 => ∃ ys, SeqR M1 r ys ∧ (∀ xs, r ≠ .d (.tup xs)) ∧ Q (.new (.lst ys.reverse)) M1
theorem ex_rev {e : Expr} {t : TE} {φ : DE} {k : Nat} {p1 p2 p3 pos : Pos} (h : EX X e t φ) : EX X (.Subscript e (.Slice none none (some (.UnaryOp .USub (.Constant (.int 1) k p1) p2)) p3) pos) (tRevL X.K t) (dRev φ) := by
  refine ⟨pe_revL h.pe, fun env M Q σ B H QV hs hc q k => ?_⟩
  refine h.s env M _ σ B H _ hs hc q fun r M1 v B1 H1 q1 n1 r1 => ?_
  obtain ⟨ys, g, nt, q2⟩ := q1
  have hl : ∃ a xs, v = .ref a ∧ SqL X.K H1 a xs ∧ RpA X.K B1 xs ys := by
    unfold SeqR at g
    split at g
    · subst g
      cases r1 with
      | lst h1 h2 => exact ⟨_, _, rfl, SqL.of (n1.st.ex _ _ h1), h2⟩
    · exact (nt _ rfl).elim
    · subst g
      cases r1 with
      | fz h1 h2 => exact ⟨_, _, rfl, n1.st.ex.sl h1, h2⟩
    · cases r1
      obtain ⟨_, xs, h1, h2⟩ := n1.st.cell _ _ g
      exact ⟨_, xs, rfl, SqL.of h1, h2⟩
    · subst g
      obtain ⟨p, rfl, _, _, _, xs, h1, h2⟩ := r1
      exact ⟨p, xs, rfl, SqL.of h1, h2⟩
    · exact g.elim
  obtain ⟨a, xs, rfl, hp, ra⟩ := hl
  refine ⟨a, xs, rfl, hp, fun p hp => ?_⟩
  obtain ⟨n4, g4⟩ := RR.newL n1.st hp ra.reverse
  exact k _ _ _ _ _ q2 (n1.trans n4) (g4.back n1)
end
end Dl
set_option Elab.async false
set_option linter.all false
set_option maxRecDepth 100000
set_option maxHeartbeats 4000000
namespace Dl
open PySem PySem.Spec PyProof.Rows L2 ClX
abbrev FS := List Dat → Mem → (Rv → Mem → Prop) → Prop
def SC (K : PySem.W.Frag) (r : List V → Hp → VK → Prop) (ρ : FS) : Prop := ∀ (B : Hp) (M : Mem) (H : Hp) (vs : List V) (ds : List Dat) (Q : Rv → Mem → Prop) (QV : VK), Cs K B M H → RpA K B vs ds → ρ ds M Q →
  (∀ r M' v B' H', Q r M' → Nx K B M H B' M' H' → RR K B' M' H H' v r → QV v H') → r vs H QV
def rLenV (K : PySem.W.Frag) : List V → Hp → VK → Prop := fun xs H Q => ∃ p ys, xs = [.ref p] ∧ (SqL K H p ys ∨ SqT K H p ys) ∧ Q (.int ys.length) H
def rIntV : List V → Hp → VK → Prop := fun xs H Q => (∃ i, xs = [.int i] ∧ Q (.int i) H) ∨ ∃ k, xs = [.bl k] ∧ Q (.int (if k then 1 else 0)) H
def rAbsV : List V → Hp → VK → Prop := fun xs H Q => ∃ i, xs = [.int i] ∧ Q (.int (if i < 0 then -i else i)) H
def rIIV (f : Int → Int → Int) : List V → Hp → VK → Prop := fun xs H Q => ∃ i j, xs = [.int i, .int j] ∧ Q (.int (f i j)) H
def rListV (K : PySem.W.Frag) : List V → Hp → VK → Prop := fun xs H Q => ∃ p ys, xs = [.ref p] ∧ (SqL K H p ys ∨ SqT K H p ys) ∧ ∀ l, H l = none → Q (.ref l) (upd H l (.lst ys))
def rTupleV (K : PySem.W.Frag) : List V → Hp → VK → Prop := fun xs H Q => ∃ p ys, xs = [.ref p] ∧ ((SqL K H p ys ∧ ∀ l, H l = none → Q (.ref l) (upd H l (.tup ys))) ∨ (SqT K H p ys ∧ Q (.ref p) H))
def rStrV : List V → Hp → VK → Prop := fun xs H Q => ∃ i, xs = [.int i] ∧ i.natAbs.log2 < 1920 ∧ Q (.str (toString i)) H
def dCB (ρ : FS) (ψ : DA) : DE := fun env M Q => ψ env M fun ds M1 => ρ ds M1 Q
section
variable {X : Cx} {K : PySem.W.Frag}
theorem SE.cb {r : List V → Hp → VK → Prop} {ρ : FS} {t : TA} {ψ : DA} (h : SC K r ρ) (g : SA K t ψ) : SE K (tCB r t) (dCB ρ ψ) := by
  intro env M Q σ B H QV hs hc q k
  refine g env M _ σ B H _ hs hc q fun ds M1 vs B1 H1 q1 n1 r1 => ?_
  exact h B1 M1 H1 vs ds Q QV n1.st r1 q1 fun r M' v B' H' q2 n2 r2 => k r M' v B' H' q2 (n1.trans n2) (r2.back n1)
section
variable {x : Str} {p pos : Pos} {e : Expr} {es : List Expr} {id T : String} {r : List V → Hp → VK → Prop} {ρ : FS} {t : TA} {ψ : DA}
theorem ex_callB (hc : CallR X (.builtin id) r) (h : SC X.K r ρ) (hm : X.mg x = none) (hv : bootBuiltins x = some (.builtin id)) (ha : AX X (e :: es) t ψ) (hg : Gl X x := by rfl) (hn : x ≠ "__name__" := by decide) (hdb : (x == ("__debug__" : Str)) = false := by decide)
    (he : starEach (e :: es) X.env = (false, eval e X.env) :: starEach es X.env := by rfl) (hpl : (backTo pos (starEach es X.env)).any (·.1) = false := by rfl) : EX X (.Call (.Name x p) (e :: es) [] pos) (tCB r t) (dCB ρ ψ) :=
  ⟨pe_callB hc hg hm hv ha.pa hn hdb he hpl, SE.cb h ha.s⟩
theorem ex_callTy (hc : CallR X (.type T) r) (h : SC X.K r ρ) (hm : X.mg x = none) (hv : bootBuiltins x = some (.type T)) (ha : AX X (e :: es) t ψ) (hg : Gl X x := by rfl) (hn : x ≠ "__name__" := by decide) (hdb : (x == ("__debug__" : Str)) = false := by decide)
    (he : starEach (e :: es) X.env = (false, eval e X.env) :: starEach es X.env := by rfl) (hpl : (backTo pos (starEach es X.env)).any (·.1) = false := by rfl) : EX X (.Call (.Name x p) (e :: es) [] pos) (tCB r t) (dCB ρ ψ) :=
  ⟨pe_callTy hc hg hm hv ha.pa hn hdb he hpl, SE.cb h ha.s⟩
end
theorem RpA.one {B : Hp} {vs : List V} {d : Dat} (h : RpA K B vs [d]) : ∃ v, vs = [v] ∧ Rp K B v d := by
  cases h with
  | cons a b =>
    cases b
    exact ⟨_, rfl, a⟩
theorem RpA.two {B : Hp} {vs : List V} {d e : Dat} (h : RpA K B vs [d, e]) : ∃ v w, vs = [v, w] ∧ Rp K B v d ∧ Rp K B w e := by
  cases h with
  | cons a b =>
    cases b with
    | cons b c =>
      cases c
      exact ⟨_, _, rfl, a, b⟩
theorem RpA.ints {B : Hp} : ∀ {vs : List V} {ns : List Int}, RpA K B vs (ns.map Dat.int) → vs = ns.map V.int
  | _, [], h => by cases h; rfl
  | _, n :: ns, h => by
    cases h with
    | cons a b =>
      cases a
      rw [RpA.ints b] <;> rfl
def bLen : FS := fun ds M Q => ∃ d ys, ds = [d] ∧ SeqR M (.d d) ys ∧ Q (.d (.int (ys.length : Int))) M
theorem sc_len : SC K (rLenV K) bLen := by
  intro B M H vs ds Q QV hc ra q k
  obtain ⟨d, ys, rfl, g, q⟩ := q
  obtain ⟨v, rfl, r⟩ := ra.one
  obtain ⟨p, xs, rfl, h1, h2⟩ := g.at (H0 := H) (v := v) hc (show RR K B M H H v (.d d) from r)
  refine ⟨p, xs, rfl, h1, ?_⟩
  rw [h2.length]
  exact k _ _ _ _ _ q (Nx.refl hc) (.int _)
def bInt : FS := fun ds M Q => match ds with
  | [.int i] => Q (.d (.int i)) M
  | [.bl b] => Q (.d (.int (if b then 1 else 0))) M
  | _ => False
theorem sc_int : SC K (rIntV) bInt := by
  intro B M H vs ds Q QV hc ra q k
  unfold bInt at q
  split at q
  · obtain ⟨v, rfl, r⟩ := ra.one
    cases r
    exact Or.inl ⟨_, rfl, k _ _ _ _ _ q (Nx.refl hc) (.int _)⟩
  · obtain ⟨v, rfl, r⟩ := ra.one
    cases r
    exact Or.inr ⟨_, rfl, k _ _ _ _ _ q (Nx.refl hc) (.int _)⟩
  · exact q.elim
def bAbs : FS := fun ds M Q => match ds with
  | [.int i] => Q (.d (.int (if i < 0 then -i else i))) M
  | _ => False
theorem sc_abs : SC K (rAbsV) bAbs := by
  intro B M H vs ds Q QV hc ra q k
  unfold bAbs at q
  split at q
  · obtain ⟨v, rfl, r⟩ := ra.one
    cases r
    exact ⟨_, rfl, k _ _ _ _ _ q (Nx.refl hc) (.int _)⟩
  · exact q.elim
def bII (f : Int → Int → Int) : FS := fun ds M Q => match ds with
  | [.int i, .int j] => Q (.d (.int (f i j))) M
  | _ => False
theorem sc_ii {f : Int → Int → Int} : SC K (rIIV f) (bII f) := by
  intro B M H vs ds Q QV hc ra q k
  unfold bII at q
  split at q
  · obtain ⟨v, w, rfl, r1, r2⟩ := ra.two
    cases r1
    cases r2
    exact ⟨_, _, rfl, k _ _ _ _ _ q (Nx.refl hc) (.int _)⟩
  · exact q.elim
abbrev bMax2 : FS := bII fun i j => if j > i then j else i
abbrev bMin2 : FS := bII fun i j => if j < i then j else i
def bMaxL : FS := fun ds M Q => ∃ (d : Dat) (ns : List Int), ds = [d] ∧ LstR M (.d d) (ns.map Dat.int) ∧ 0 < ns.length ∧ ∀ m, m ∈ ns → (∀ y, y ∈ ns → y ≤ m) → Q (.d (.int m)) M
def bMinL : FS := fun ds M Q => ∃ (d : Dat) (ns : List Int), ds = [d] ∧ LstR M (.d d) (ns.map Dat.int) ∧ 0 < ns.length ∧ ∀ m, m ∈ ns → (∀ y, y ∈ ns → m ≤ y) → Q (.d (.int m)) M
def bSum : FS := fun ds M Q => ∃ (d : Dat) (ns : List Int), ds = [d] ∧ LstR M (.d d) (ns.map Dat.int) ∧ Q (.d (.int ns.sum)) M
theorem lst_ints {B : Hp} {M : Mem} {H : Hp} {d : Dat} {ns : List Int} {v : V} (hc : Cs K B M H) (r : Rp K B v d) (g : LstR M (.d d) (ns.map Dat.int)) : ∃ p, v = .ref p ∧ SqL K H p (ns.map V.int) := by
  obtain ⟨p, xs, rfl, h1, h2⟩ := g.at (H0 := H) (v := v) hc (show RR K B M H H v (.d d) from r)
  exact ⟨p, rfl, by rw [← h2.ints]; exact SqL.of h1⟩
theorem sc_maxL : SC K (rMax K) bMaxL := by
  intro B M H vs ds Q QV hc ra q k
  obtain ⟨d, ns, rfl, g, z, q⟩ := q
  obtain ⟨v, rfl, r⟩ := ra.one
  obtain ⟨p, rfl, h⟩ := lst_ints hc r g
  exact ⟨p, ns, rfl, h, z, fun m h1 h2 => k _ _ _ _ _ (q m h1 h2) (Nx.refl hc) (.int _)⟩
theorem sc_minL : SC K (rMin K) bMinL := by
  intro B M H vs ds Q QV hc ra q k
  obtain ⟨d, ns, rfl, g, z, q⟩ := q
  obtain ⟨v, rfl, r⟩ := ra.one
  obtain ⟨p, rfl, h⟩ := lst_ints hc r g
  exact ⟨p, ns, rfl, h, z, fun m h1 h2 => k _ _ _ _ _ (q m h1 h2) (Nx.refl hc) (.int _)⟩
theorem sc_sum : SC K (rSum K) bSum := by
  intro B M H vs ds Q QV hc ra q k
  obtain ⟨d, ns, rfl, g, q⟩ := q
  obtain ⟨v, rfl, r⟩ := ra.one
  obtain ⟨p, rfl, h⟩ := lst_ints hc r g
  exact ⟨p, ns, rfl, h, k _ _ _ _ _ q (Nx.refl hc) (.int _)⟩
def bList : FS := fun ds M Q => ∃ d ys, ds = [d] ∧ SeqR M (.d d) ys ∧ Q (.new (.lst ys)) M
theorem sc_list : SC K (rListV K) bList := by
  intro B M H vs ds Q QV hc ra q k
  obtain ⟨d, ys, rfl, g, q⟩ := q
  obtain ⟨v, rfl, r⟩ := ra.one
  obtain ⟨p, xs, rfl, h1, h2⟩ := g.at (H0 := H) (v := v) hc (show RR K B M H H v (.d d) from r)
  refine ⟨p, xs, rfl, h1, fun l hl => ?_⟩
  obtain ⟨n, g⟩ := RR.newL hc hl h2
  exact k _ _ _ _ _ q n g
def bTuple : FS := fun ds M Q => ∃ d ys, ds = [d] ∧ SeqR M (.d d) ys ∧ Q (.d (.tup ys)) M
theorem sc_tuple : SC K (rTupleV K) bTuple := by
  intro B M H vs ds Q QV hc ra q k
  obtain ⟨d, ys, rfl, g, q⟩ := q
  obtain ⟨v, rfl, r⟩ := ra.one
  have ll : (∃ p xs, v = .ref p ∧ SqL K H p xs ∧ RpA K B xs ys) ∨ Rp K B v (.tup ys) := by
    unfold SeqR at g
    split at g
    · rename_i xs0 e
      have e := Rv.d.inj e
      subst e g
      cases r with
      | lst h1 h2 => exact Or.inl ⟨_, _, rfl, SqL.of (hc.ex _ _ h1), h2⟩
    · rename_i xs0 e
      have e := Rv.d.inj e
      subst e g
      exact Or.inr r
    · rename_i xs0 e
      have e := Rv.d.inj e
      subst e g
      cases r with
      | fz h1 h2 => exact Or.inl ⟨_, _, rfl, hc.ex.sl h1, h2⟩
    · rename_i p0 e
      have e := Rv.d.inj e
      subst e
      cases r
      obtain ⟨_, xs, h1, h2⟩ := hc.cell _ _ g
      exact Or.inl ⟨_, xs, rfl, SqL.of h1, h2⟩
    · rename_i xs0 e
      cases e
    · exact g.elim
  rcases ll with ⟨p, xs, rfl, h1, h2⟩ | h
  · refine ⟨p, xs, rfl, Or.inl ⟨h1, fun l hl => ?_⟩⟩
    obtain ⟨n, g⟩ := RR.newT hc hl h2
    exact k _ _ _ _ _ q n g
  · cases h with
    | tup h1 h2 => exact ⟨_, _, rfl, Or.inr ⟨hc.ex.st h1, k _ _ _ _ _ q (Nx.refl hc) (.tup h1 h2)⟩⟩
def bStr : FS := fun ds M Q => match ds with
  | [.int i] => i.natAbs.log2 < 1920 ∧ Q (.d (.str (toString i))) M
  | _ => False
theorem sc_str : SC K (rStrV) bStr := by
  intro B M H vs ds Q QV hc ra q k
  unfold bStr at q
  split at q
  · obtain ⟨v, rfl, r⟩ := ra.one
    cases r
    exact ⟨_, rfl, q.1, k _ _ _ _ _ q.2 (Nx.refl hc) (.str _)⟩
  · exact q.elim
/-! ### repr of data -/
structure Shows (p : PyData) : Prop where
  sh : p.showable = true
  dp : p.depth ≤ 60
  nd : p.hasDict = false
  sz : p.shown.length ≤ sizeLine
def rRepr (K : PySem.W.Frag) : List V → Hp → VK → Prop := fun xs H Q => ∃ v p, xs = [v] ∧ Dp K H v p ∧ Shows p ∧ Q (.str p.shown) H
theorem call_repr (hg : X.A.guards = some []) (hu : X.A.units + 64 < cLine) : CallR X (.builtin "repr") (rRepr X.K) := by
  intro pins s σ H xs us Q I r h
  obtain ⟨v, p, rfl, hd, S, q⟩ := h
  obtain ⟨u, rfl, ru⟩ := vals1 r
  obtain ⟨as, rd⟩ := Dp.reads I p v u hd ru
  have fin : ∀ (h' : Heap) (tk : Nat) (u' : Tok), (∀ b o, s.heap.get? b = some o → h'.get? b = some o) → EP X pins σ Q (.str p.shown u') { s with heap := h', toks := tk } := fun h' tk u' k => ⟨.str p.shown, H, I.kept k, ⟨u', rfl⟩, q⟩
  have big : ∀ a, u = .ref a → wpAny (model X.prog X.w) X.A (call (.builtin "repr") [u]) (EP X pins σ Q) X.xe s := fun a e => by
    subst e
    refine PySem.repr_of_reads' rd S.sh (fun z => ?_) hg (by have := S.dp; omega) (fun _ _ e => e) (fun h' u' tk k => fin h' tk u' k) S.sz
    rw [S.nd] at z
    cases z
  cases hd with
  | non =>
    cases ru
    exact PySem.P.repr_of_none (fin s.heap _ _ fun _ _ e => e)
  | bl b =>
    cases ru
    exact PySem.P.repr_of_bool (fin s.heap _ _ fun _ _ e => e)
  | int i =>
    obtain ⟨t, rfl⟩ := ru
    exact PySem.P.repr_of_int (of_decide_eq_true S.sh) (fin s.heap _ _ fun _ _ e => e)
  | str x =>
    obtain ⟨t, rfl⟩ := ru
    exact PySem.P.repr_of_str (fin s.heap _ _ fun _ _ e => e) S.sz
  | lst h1 h2 => exact big _ ru
  | tup h1 h2 => exact big _ ru
def bRepr : FS := fun ds M Q => ∃ d p, ds = [d] ∧ PyOf M d p ∧ Shows p ∧ Q (.d (.str p.shown)) M
theorem sc_repr : SC K (rRepr K) bRepr := by
  intro B M H vs ds Q QV hc ra q k
  obtain ⟨d, p, rfl, g, S, q⟩ := q
  obtain ⟨v, rfl, r⟩ := ra.one
  exact ⟨v, p, rfl, g.dp hc r, S, k _ _ _ _ _ q (Nx.refl hc) (.str _)⟩
section
variable {p pos : Pos} {a b : Expr} {t : TA} {ψ : DA}
theorem ex_len (hm : X.mg "len" = none) (ha : AX X [a] t ψ) (hg : Gl X "len" := by rfl) (he : starEach [a] X.env = (false, eval a X.env) :: starEach [] X.env := by rfl) (hpl : (backTo pos (starEach [] X.env)).any (·.1) = false := by rfl) :
    EX X (.Call (.Name "len" p) [a] [] pos) (tCB (rLenV X.K) t) (dCB bLen ψ) := ex_callB call_len_seq sc_len hm PySem.boot_len ha (hg := hg) (he := he) (hpl := hpl)
theorem ex_toint (hm : X.mg "int" = none) (ha : AX X [a] t ψ) (hg : Gl X "int" := by rfl) (he : starEach [a] X.env = (false, eval a X.env) :: starEach [] X.env := by rfl) (hpl : (backTo pos (starEach [] X.env)).any (·.1) = false := by rfl) :
    EX X (.Call (.Name "int" p) [a] [] pos) (tCB rIntV t) (dCB bInt ψ) := ex_callTy call_int1 sc_int hm (by decide +kernel) ha (hg := hg) (he := he) (hpl := hpl)
theorem ex_abs (hm : X.mg "abs" = none) (ha : AX X [a] t ψ) (hg : Gl X "abs" := by rfl) (he : starEach [a] X.env = (false, eval a X.env) :: starEach [] X.env := by rfl) (hpl : (backTo pos (starEach [] X.env)).any (·.1) = false := by rfl) :
    EX X (.Call (.Name "abs" p) [a] [] pos) (tCB rAbsV t) (dCB bAbs ψ) := ex_callB call_abs sc_abs hm (by decide +kernel) ha (hg := hg) (he := he) (hpl := hpl)
theorem ex_max2 (hc : X.calm = true) (hm : X.mg "max" = none) (ha : AX X [a, b] t ψ) (hg : Gl X "max" := by rfl) (he : starEach [a, b] X.env = (false, eval a X.env) :: starEach [b] X.env := by rfl) (hpl : (backTo pos (starEach [b] X.env)).any (·.1) = false := by rfl) :
    EX X (.Call (.Name "max" p) [a, b] [] pos) (tCB (rIIV fun i j => if j > i then j else i) t) (dCB bMax2 ψ) := ex_callB (call_max2 hc) sc_ii hm (by decide +kernel) ha (hg := hg) (he := he) (hpl := hpl)
theorem ex_min2 (hc : X.calm = true) (hm : X.mg "min" = none) (ha : AX X [a, b] t ψ) (hg : Gl X "min" := by rfl) (he : starEach [a, b] X.env = (false, eval a X.env) :: starEach [b] X.env := by rfl) (hpl : (backTo pos (starEach [b] X.env)).any (·.1) = false := by rfl) :
    EX X (.Call (.Name "min" p) [a, b] [] pos) (tCB (rIIV fun i j => if j < i then j else i) t) (dCB bMin2 ψ) := ex_callB (call_min2 hc) sc_ii hm (by decide +kernel) ha (hg := hg) (he := he) (hpl := hpl)
theorem ex_maxL (hc : X.calm = true) (hm : X.mg "max" = none) (ha : AX X [a] t ψ) (hg : Gl X "max" := by rfl) (he : starEach [a] X.env = (false, eval a X.env) :: starEach [] X.env := by rfl) (hpl : (backTo pos (starEach [] X.env)).any (·.1) = false := by rfl) :
    EX X (.Call (.Name "max" p) [a] [] pos) (tCB (rMax X.K) t) (dCB bMaxL ψ) := ex_callB (cr_max hc) sc_maxL hm (by decide +kernel) ha (hg := hg) (he := he) (hpl := hpl)
theorem ex_minL (hc : X.calm = true) (hm : X.mg "min" = none) (ha : AX X [a] t ψ) (hg : Gl X "min" := by rfl) (he : starEach [a] X.env = (false, eval a X.env) :: starEach [] X.env := by rfl) (hpl : (backTo pos (starEach [] X.env)).any (·.1) = false := by rfl) :
    EX X (.Call (.Name "min" p) [a] [] pos) (tCB (rMin X.K) t) (dCB bMinL ψ) := ex_callB (cr_min hc) sc_minL hm (by decide +kernel) ha (hg := hg) (he := he) (hpl := hpl)
theorem ex_sum (hc : X.calm = true) (hm : X.mg "sum" = none) (ha : AX X [a] t ψ) (hg : Gl X "sum" := by rfl) (he : starEach [a] X.env = (false, eval a X.env) :: starEach [] X.env := by rfl) (hpl : (backTo pos (starEach [] X.env)).any (·.1) = false := by rfl) :
    EX X (.Call (.Name "sum" p) [a] [] pos) (tCB (rSum X.K) t) (dCB bSum ψ) := ex_callB (cr_sum hc) sc_sum hm (by decide +kernel) ha (hg := hg) (he := he) (hpl := hpl)
theorem ex_list (hm : X.mg "list" = none) (ha : AX X [a] t ψ) (hg : Gl X "list" := by rfl) (he : starEach [a] X.env = (false, eval a X.env) :: starEach [] X.env := by rfl) (hpl : (backTo pos (starEach [] X.env)).any (·.1) = false := by rfl) :
    EX X (.Call (.Name "list" p) [a] [] pos) (tCB (rListV X.K) t) (dCB bList ψ) := ex_callTy call_list_of sc_list hm (by decide +kernel) ha (hg := hg) (he := he) (hpl := hpl)
theorem ex_tuple (hm : X.mg "tuple" = none) (ha : AX X [a] t ψ) (hg : Gl X "tuple" := by rfl) (he : starEach [a] X.env = (false, eval a X.env) :: starEach [] X.env := by rfl) (hpl : (backTo pos (starEach [] X.env)).any (·.1) = false := by rfl) :
    EX X (.Call (.Name "tuple" p) [a] [] pos) (tCB (rTupleV X.K) t) (dCB bTuple ψ) := ex_callTy call_tuple_of sc_tuple hm (by decide +kernel) ha (hg := hg) (he := he) (hpl := hpl)
theorem ex_tostr (hm : X.mg "str" = none) (ha : AX X [a] t ψ) (hg : Gl X "str" := by rfl) (he : starEach [a] X.env = (false, eval a X.env) :: starEach [] X.env := by rfl) (hpl : (backTo pos (starEach [] X.env)).any (·.1) = false := by rfl) :
    EX X (.Call (.Name "str" p) [a] [] pos) (tCB rStrV t) (dCB bStr ψ) := ex_callTy call_str_int sc_str hm (by decide +kernel) ha (hg := hg) (he := he) (hpl := hpl)
theorem ex_repr (hgu : X.A.guards = some []) (hu : X.A.units + 64 < cLine) (hm : X.mg "repr" = none) (ha : AX X [a] t ψ) (hg : Gl X "repr" := by rfl) (he : starEach [a] X.env = (false, eval a X.env) :: starEach [] X.env := by rfl)
    (hpl : (backTo pos (starEach [] X.env)).any (·.1) = false := by rfl) : EX X (.Call (.Name "repr" p) [a] [] pos) (tCB (rRepr X.K) t) (dCB bRepr ψ) := ex_callB (call_repr hgu hu) sc_repr hm (by decide +kernel) ha (hg := hg) (he := he) (hpl := hpl)
end
/-! ### attributes -/
def dFld (C0 : Addr) (f : Str) (φ : DE) : DE := fun env M Q => φ env M fun r M1 => match r with
  | .d (.ins C fs) => C = C0 ∧ ∃ y, fs.lookup f = some y ∧ Q (.d y) M1
  | .d (.cell p) => ∃ fs y, M1 p = some (.obj C0 fs) ∧ fs.lookup f = some y ∧ Q (.d y) M1
  | _ => False
/-- an instance, as it stands -/
def insR (C0 : Addr) (M : Mem) : Dat → List (Str × Dat) → Prop
  | .ins C fs, gs => C = C0 ∧ gs = fs
  | .cell p, gs => M p = some (.obj C0 gs)
  | _, _ => False
theorem insR.at {B : Hp} {M : Mem} {H : Hp} {v : V} {d : Dat} {C0 : Addr} {fs : List (Str × Dat)} (hc : Cs K B M H) (r : Rp K B v d) (g : insR C0 M d fs) : ∃ a dx vs, v = .ref a ∧ H a = some (.ins C0 dx vs) ∧ RpF K B vs fs := by
  unfold insR at g
  split at g
  · obtain ⟨rfl, rfl⟩ := g
    cases r with
    | ins h1 h2 => exact ⟨_, _, _, rfl, hc.ex _ _ h1, h2⟩
  · cases r
    obtain ⟨_, dx, vs, h1, h2⟩ := hc.cell _ _ g
    exact ⟨_, dx, vs, rfl, h1, h2⟩
  · exact g.elim
theorem ex_fld {C0 : Addr} {f : Str} {e : Expr} {t : TE} {φ : DE} {pos : Pos} (c : Cls X.K C0) (n : NoAttr X.K C0 f) (h : EX X e t φ) (hb : attributeBase e f X.env (eval e X.env) = eval e X.env := by rfl) :
    EX X (.Attribute e f pos) (tFld X.K t f) (dFld C0 f φ) := by
  refine ⟨pe_fld h.pe hb, fun env M Q σ B H QV hs hc q k => ?_⟩
  refine h.s env M _ σ B H _ hs hc q fun r M1 v B1 H1 q1 n1 r1 => ?_
  have core : ∀ d fs y, r = .d d → insR C0 M1 d fs → fs.lookup f = some y → Q (.d y) M1 → ∃ a C dx vs w, v = .ref a ∧ H1 a = some (.ins C dx vs) ∧ Cls X.K C ∧ NoAttr X.K C f ∧ vs.lookup f = some w ∧ QV w H1 := by
    intro d fs y e g l q2
    subst e
    obtain ⟨a, dx, vs, rfl, h1, h2⟩ := g.at n1.st r1
    obtain ⟨w, h3, h4⟩ := h2.look l
    exact ⟨a, C0, dx, vs, w, rfl, h1, c, n, h3, k _ _ _ _ _ q2 n1 h4⟩
  split at q1
  · obtain ⟨rfl, y, l, q2⟩ := q1
    exact core _ _ y rfl ⟨rfl, rfl⟩ l q2
  · obtain ⟨fs, y, hm, l, q2⟩ := q1
    exact core _ fs y rfl hm l q2
  · exact q1.elim
/-- a constant of a class -/
theorem ex_cval {C : Addr} {mc : Value} {u : Value} {x f : Str} {d : Dat} {v : V} {p pos : Pos} (hm : X.mg x = some (.ref C)) (r : CRead X.K C mc) (c : CVal X.K C mc f v u) (rel : ∀ B, Rp X.K B v d) (hg : Gl X x := by rfl) (hd : (x == ("__debug__" : Str)) = false := by decide)
    (hb : attributeBase (.Name x p) f X.env (eval (.Name x p) X.env) = eval (.Name x p) X.env := by rfl) : EX X (.Attribute (.Name x p) f pos) (tCVal X.K (tC (.ref C)) f) (dC d) :=
  ⟨pe_cval (pe_glob hg hm rfl hd) hb, fun env M Q σ B H QV hs hc q k => ⟨C, mc, v, u, rfl, r, c, k _ _ _ _ _ q (Nx.refl hc) (rel B)⟩⟩
end
end Dl
set_option Elab.async false
set_option linter.all false
set_option maxRecDepth 100000
set_option maxHeartbeats 4000000
namespace Dl
open PySem PySem.Spec PyProof.Rows L2
/-! ### promises over data -/
/-- what a def promises, said over data -/
def spD (K : PySem.W.Frag) (fs : FS) : Sp := fun vs H Q _ => ∃ (ds : List Dat) (M : Mem) (B : Hp) (QD : Rv → Mem → Prop), RpA K B vs ds ∧ Cs K B M H ∧ fs ds M QD ∧
  ∀ r M' v B' H', QD r M' → Nx K B M H B' M' H' → RR K B' M' H H' v r → Q v H'
/-- .. where nothing is being shown -/
structure FnG (P : Program) (w : World) (K : PySem.W.Frag) (mg : Str → Option Value) (base : Heap) (k : Nat) (f : Addr) (fd : FuncData) (ps : List Str) (fs : FS) : Prop where
  len : ∀ ds M Q, fs ds M Q → ds.length = ps.length
  run : ∀ (A : Around) (outer : List PySem.Env) (s : Shared) (H : Hp) (args : Args) (us : List Value) (vs : List V) (Q : VK) (E : XK), Room k A → A.guards = some [] → Env0 P w K mg base A outer s H → BindsTo s fd args (ps.zip us) → Vals vs us → spD K fs vs H Q E →
    codeAny (model P w) A (.call (.ref f) args) (CR CX0 outer P w H s Q E) s
section
variable {X : Cx} {K : PySem.W.Frag} {fs : FS}
theorem SC.spD {E : XK} : SC K (fun vs H Q => spD K fs vs H Q E) fs := fun B M H vs ds Q QV hc ra q k => ⟨ds, M, B, Q, ra, hc, q, k⟩
theorem se_call {t : TA} {ψ : DA} {E : XK} (h : SA K t ψ) : SE K (tCall (spD K fs) [] E t) (dCB fs ψ) := by
  intro env M Q σ B H QV hs hc q k
  refine h env M _ σ B H _ hs hc q fun ds M1 vs B1 H1 q1 n1 r1 => ?_
  show spD K fs (vs ++ []) H1 QV E
  rw [List.append_nil]
  exact ⟨ds, M1, B1, Q, r1, n1.st, q1, fun r M' v B' H' q2 n2 r2 => k r M' v B' H' q2 (n1.trans n2) (r2.back n1)⟩
section
variable {k : Nat} {f : Addr} {fd : FuncData} {ps : List Str} {x : Str} {p pos : Pos} {e : Expr} {es : List Expr} {t : TA} {ψ : DA}
theorem ex_call (F : FnOk X.prog X.w X.K X.mg X.base CX0 k f fd ps (spD X.K fs)) (hr : Room k X.A) (hm : X.mg x = some (.ref f)) (hk : PySem.W.keepIn X.K (.ref f) = true) (hb : Binds X.K fd ps []) (ha : AX X (e :: es) t ψ) (hg : Gl X x := by rfl)
    (hdb : (x == ("__debug__" : Str)) = false := by decide) (he : starEach (e :: es) X.env = (false, eval e X.env) :: starEach es X.env := by rfl) (hpl : (backTo pos (starEach es X.env)).any (·.1) = false := by rfl) :
    EX X (.Call (.Name x p) (e :: es) [] pos) (tCall (spD X.K fs) [] E0 t) (dCB fs ψ) := ⟨pe_call F hr hg hm hk hb .nil pass0 ha.pa hdb he hpl, se_call ha.s⟩
/-- the call of a def that is promised where nothing is being shown -/
theorem ex_callG (F : FnG X.prog X.w X.K X.mg X.base k f fd ps fs) (hgu : X.A.guards = some []) (hr : Room k X.A) (hm : X.mg x = some (.ref f)) (hk : PySem.W.keepIn X.K (.ref f) = true) (hb : Binds X.K fd ps []) (ha : AX X (e :: es) t ψ) (hg : Gl X x := by rfl)
    (hdb : (x == ("__debug__" : Str)) = false := by decide) (he : starEach (e :: es) X.env = (false, eval e X.env) :: starEach es X.env := by rfl) (hpl : (backTo pos (starEach es X.env)).any (·.1) = false := by rfl) :
    EX X (.Call (.Name x p) (e :: es) [] pos) (tCall (spD X.K fs) [] E0 t) (dCB fs ψ) := by
  refine ⟨⟨fun pins s σ H Q I h => wpAny_Call_Name_kw (ld_glob I hg hm (PySem.W.callWith_K (h₀ := X.base) I.ok.mod.kin hk (thn (ha.pa.run pos pins s σ H _ I h) fun us s1 ⟨vs, H1, I1, r, q⟩ => ⟨I1.kIn, ?_⟩) he hpl) hdb)⟩, se_call ha.s⟩
  have q' : spD X.K fs vs H1 Q E0 := by
    have q0 : spD X.K fs (vs ++ []) H1 Q E0 := q
    rw [List.append_nil] at q0
    exact q0
  have hl : us.length = ps.length := by
    obtain ⟨ds, M, B, QD, ra, _, hf, _⟩ := q'
    rw [← r.length, ra.length]
    exact F.len ds M QD hf
  have hbb := hb s1 us I1.kIn (by rw [List.append_nil]; exact hl)
  rw [List.append_nil] at hbb
  refine wpAny_call (codeAny_mono (F.run X.A X.stack s1 H1 _ us vs Q E0 hr hgu I1.env0 hbb r q') fun res s' hq => ?_)
  match res, hq with
  | .ok (.ret u), hq => exact I1.after hq
  | .error e, hq => exact False.elim hq
end
/-! ### methods, properties, making -/
def dMeth (C0 : Addr) (m : Str) (fs : FS) (φ : DE) (ψ : DA) : DE := fun env M Q => φ env M fun r M1 => ∃ d gs, r = .d d ∧ insR C0 M1 d gs ∧ gs.lookup m = none ∧ ψ env M1 fun ds M2 => fs (d :: ds) M2 Q
theorem se_meth {C0 : Addr} {m : Str} {E : XK} {t : TE} {u : TA} {φ : DE} {ψ : DA} (h : SE K t φ) (g : SA K u ψ) : SE K (tMeth C0 m (spD K fs) [] E t u) (dMeth C0 m fs φ ψ) := by
  intro env M Q σ B H QV hs hc q k
  refine h env M _ σ B H _ hs hc q fun r M1 v B1 H1 q1 n1 r1 => ?_
  obtain ⟨d, gs, rfl, gi, gl, q2⟩ := q1
  obtain ⟨a, dx, vs, rfl, h1, h2⟩ := gi.at n1.st r1
  refine ⟨a, dx, vs, rfl, h1, h2.none gl, ?_⟩
  refine g env M1 _ σ B1 H1 _ (hs.mono n1.ext) n1.st q2 fun ds M2 ws B2 H2 q3 n2 r2 => ?_
  show spD K fs (.ref a :: (ws ++ [])) H2 QV E
  rw [List.append_nil]
  have n12 := n1.trans n2
  exact ⟨d :: ds, M2, B2, Q, .cons (Rp.mono n2.ext r1) r2, n2.st, q3, fun r M' v B' H' q4 n3 r3 => k r M' v B' H' q4 (n12.trans n3) (r3.back n12)⟩
section
variable {k : Nat} {f C0 : Addr} {fd : FuncData} {ps : List Str} {m : Str} {apos pos : Pos} {o e : Expr} {es : List Expr} {to : TE} {t : TA} {φ : DE} {ψ : DA}
theorem ex_meth {pl : Sem Bool} (ho : EX X o to φ) (c : Cls X.K C0) (hm : Meth X.K C0 m f) (F : FnOk X.prog X.w X.K X.mg X.base CX0 k f fd ps (spD X.K fs)) (hr : Room k X.A) (hb : Binds X.K fd ps []) (ha : AX X (e :: es) t ψ)
    (hst : starEach (e :: es) X.env = (false, eval e X.env) :: starEach es X.env := by rfl) (hpl : (backTo pos (starEach es X.env)).any (·.1) = false := by rfl)
    (ht : eval (.Call (.Attribute o m apos) (e :: es) [] pos) X.env = (do
      let ov ← eval o X.env
      standAt apos.atName
      let (f, first) ← holding [ov] (getMethod ov m pl)
      callWith pos f first (backTo pos (starEach (e :: es) X.env)) (backToKw pos (keywordEach [] X.env))) := by rfl) :
    EX X (.Call (.Attribute o m apos) (e :: es) [] pos) (tMeth C0 m (spD X.K fs) [] E0 to t) (dMeth C0 m fs φ ψ) := ⟨pe_meth ho.pe c hm F hr hb .nil pass0 ha.pa hst hpl ht, se_meth ho.s ha.s⟩
theorem ex_meth0 {pl : Sem Bool} (ho : EX X o to φ) (c : Cls X.K C0) (hm : Meth X.K C0 m f) (F : FnOk X.prog X.w X.K X.mg X.base CX0 k f fd ps (spD X.K fs)) (hr : Room k X.A) (hb : Binds X.K fd ps [])
    (ht : eval (.Call (.Attribute o m apos) [] [] pos) X.env = (do
      let ov ← eval o X.env
      standAt apos.atName
      let (f, first) ← holding [ov] (getMethod ov m pl)
      callWith pos f first (backTo pos (starEach [] X.env)) (backToKw pos (keywordEach [] X.env))) := by rfl) :
    EX X (.Call (.Attribute o m apos) [] [] pos) (tMeth C0 m (spD X.K fs) [] E0 to tNil) (dMeth C0 m fs φ dNil) := ⟨pe_meth0 ho.pe c hm F hr hb .nil pass0 ht, se_meth ho.s SA.nil⟩
def dProp (C0 : Addr) (fs : FS) (φ : DE) : DE := fun env M Q => φ env M fun r M1 => ∃ d gs, r = .d d ∧ insR C0 M1 d gs ∧ fs [d] M1 Q
theorem ex_prop {q : Addr} (ho : EX X e to φ) (c : Cls X.K C0) (hp : PropOf X.K C0 m q f) (F : FnOk X.prog X.w X.K X.mg X.base CX0 k f fd ps (spD X.K fs)) (hr : Room (k + 1) X.A) (hb : Binds X.K fd ps [])
    (hab : attributeBase e m X.env (eval e X.env) = eval e X.env := by rfl) : EX X (.Attribute e m pos) (tProp C0 (spD X.K fs) [] E0 to) (dProp C0 fs φ) := by
  refine ⟨pe_prop ho.pe c hp F hr hb .nil pass0 hab, fun env M Q σ B H QV hs hc q k => ?_⟩
  refine ho.s env M _ σ B H _ hs hc q fun r M1 v B1 H1 q1 n1 r1 => ?_
  obtain ⟨d, gs, rfl, gi, q2⟩ := q1
  obtain ⟨a, dx, vs, rfl, h1, h2⟩ := gi.at n1.st r1
  exact ⟨a, dx, vs, rfl, h1, [d], M1, B1, Q, .cons r1 .nil, n1.st, q2, fun r M' v B' H' q3 n2 r2 => k r M' v B' H' q3 (n1.trans n2) (r2.back n1)⟩
/-- C(..): a new instance as a cell, then __init__; then it is held as it stands -/
def dMake (C0 : Addr) (fs : FS) (ψ : DA) : DE := fun env M Q => ψ env M fun ds M1 => ∀ x, M1 x = none → fs (.cell x :: ds) (M1.set x (.obj C0 [])) fun r M2 => r = .d .non ∧ ∃ m, M2 x = some m ∧ Q (.d (frz m)) (M2.del x)
theorem se_make {E : XK} {t : TA} {ψ : DA} {C0 : Addr} (h : SA K t ψ) : SE K (tMake C0 (spD K fs) [] E t) (dMake C0 fs ψ) := by
  intro env M Q σ B H QV hs hc q k
  refine h env M _ σ B H _ hs hc q fun ds M1 vs B1 H1 q1 n1 r1 => ?_
  intro x dx hx hdx ne
  have hBx : B1 x = none := by
    cases z : B1 x with
    | none => rfl
    | some o =>
      rw [n1.st.ex x o z] at hx
      cases hx
  have hMx : M1 x = none := by
    cases z : M1 x with
    | none => rfl
    | some m =>
      obtain ⟨o, ho⟩ := n1.st.there z
      rw [ho] at hx
      cases hx
  have e1 : Ex H1 (upd (upd H1 dx (.own x)) x (.ins C0 dx [])) := fun b o e => by
    rw [upd_ne (ne_of_none e hx), upd_ne (ne_of_none e hdx)]
    exact e
  have n2 : Nx K B1 M1 H1 B1 (M1.set x (.obj C0 [])) (upd (upd H1 dx (.own x)) x (.ins C0 dx [])) := by
    refine ⟨Ex.refl _, ⟨n1.st.ex.trans e1, fun p m e => ?_⟩, fun a o _ e => e1 a o e, fun _ _ _ _ => rfl, fun a o e z => ?_, fun a o e => ⟨o, e1 a o e⟩⟩
    · by_cases z : p = x
      · subst z
        rw [Mem.set_same] at e
        cases e
        exact ⟨hBx, dx, [], upd_same, .nil⟩
      · rw [Mem.set_ne z] at e
        exact ⟨(n1.st.cell p m e).1, (n1.st.cell p m e).2.mono (Ex.refl _) fun o q => e1 p o q⟩
    · rw [Mem.set_ne (ne_of_none e hx)]
      exact z
  show spD K fs (.ref x :: (vs ++ [])) _ _ _
  rw [List.append_nil]
  refine ⟨.cell x :: ds, M1.set x (.obj C0 []), B1, _, .cons (.cell x) r1, n2.st, q1 x hMx, fun r M' v B' H' q2 n3 r2 => ?_⟩
  obtain ⟨rfl, m, hm, q3⟩ := q2
  cases r2
  refine ⟨rfl, ?_⟩
  have n123 := (n1.trans n2).trans n3
  obtain ⟨B2, n4, g4⟩ := n3.st.hold hm
  exact k _ _ _ _ _ q3 (n123.trans n4) g4
theorem ex_make {x : Str} {p : Pos} (M : Mk X.K C0 f) (F : FnOk X.prog X.w X.K X.mg X.base CX0 k f fd ps (spD X.K fs)) (hr : Room (k + 1) X.A) (hm : X.mg x = some (.ref C0)) (hb : Binds X.K fd ps []) (ha : AX X (e :: es) t ψ) (hg : Gl X x := by rfl)
    (hdb : (x == ("__debug__" : Str)) = false := by decide) (he : starEach (e :: es) X.env = (false, eval e X.env) :: starEach es X.env := by rfl) (hpl : (backTo pos (starEach es X.env)).any (·.1) = false := by rfl) :
    EX X (.Call (.Name x p) (e :: es) [] pos) (tMake C0 (spD X.K fs) [] E0 t) (dMake C0 fs ψ) := ⟨pe_make M F hr hg hm hb .nil pass0 ha.pa hdb he hpl, se_make ha.s⟩
end
/-! ### a list's own methods -/
section
variable {o e : Expr} {to te : TE} {φ ψ : DE} {apos cpos : Pos}
def dAppend (φ ψ : DE) : DE := fun env M Q => φ env M fun r M1 => ∃ p ds1, r = .d (.cell p) ∧ M1 p = some (.lst ds1) ∧ ψ env M1 fun y M2 => ∃ ds, M2 p = some (.lst ds) ∧ ds.length < sizeLine ∧ Q (.d .non) (M2.set p (.lst (ds ++ [settle y])))
theorem ex_append (ho : EX X o to φ) (he : EX X e te ψ) (hbase : attributeBase o "append" X.env (eval o X.env) = eval o X.env := by rfl)
    (hfew : ((backTo cpos (starEach (e :: []) X.env)).all (fun x => !x.1) && (backToKw cpos (keywordEach [] X.env)).all (fun x => x.1.isSome)
      && decide ((e :: []).length + ([] : List Keyword).length + (if ([] : List Keyword).isEmpty then 0 else 1) < 30)) = true := by rfl)
    (hline : (apos.endLine == cpos.line) = true := by rfl) (hs : starEach (e :: []) X.env = (false, eval e X.env) :: starEach [] X.env := by rfl) (hplain : (backTo cpos (starEach [] X.env)).any (·.1) = false := by rfl) :
    EX X (.Call (.Attribute o "append" apos) [e] [] cpos) (tBM X.K "list" rAppend to (tCons te tNil)) (dAppend φ ψ) := by
  refine ⟨pe_bm PySem.F.plainAttrs_list PySem.F.slot_list_append PySem.F.type_list_append mt_append ho.pe (pa_cons he.pe pa_nil hs) hbase hfew hline hs hplain, fun env M Q σ B H QV hs hc q k => ?_⟩
  refine ho.s env M _ σ B H _ hs hc q fun r M1 v B1 H1 q1 n1 r1 => ?_
  obtain ⟨p, ds1, rfl, hm1, q2⟩ := q1
  cases r1
  obtain ⟨_, xs1, g1, g2⟩ := n1.st.cell _ _ hm1
  refine ⟨Or.inl ⟨rfl, xs1, SqL.of g1⟩, ?_⟩
  refine he.s env M1 _ σ B1 H1 _ (hs.mono n1.ext) n1.st q2 fun y M2 w B2 H2 q3 n2 r2 => ?_
  obtain ⟨ds, hm2, hl, q4⟩ := q3
  obtain ⟨B3, n3, g3, _⟩ := settle_ok r2 n2
  obtain ⟨_, xs, g4, g5⟩ := n3.st.cell _ _ hm2
  refine ⟨p, xs, w, rfl, rfl, g4, by rw [g5.length]; exact hl, ?_⟩
  have n4 := n3.st.write (o := .lst (xs ++ [w])) hm2 (m' := .lst (ds ++ [settle y])) ⟨_, upd_same, g5.append (.cons g3 .nil)⟩
  exact k _ _ _ _ _ q4 ((n1.trans n3).trans n4) .non
def dPop (φ : DE) : DE := fun env M Q => φ env M fun r M1 => ∃ p ds y, r = .d (.cell p) ∧ M1 p = some (.lst ds) ∧ ds[ds.length - 1]? = some y ∧ Q (.d y) (M1.set p (.lst ds.dropLast))
theorem ex_pop (ho : EX X o to φ) (hbase : attributeBase o "pop" X.env (eval o X.env) = eval o X.env := by rfl) (hline : (apos.endLine == cpos.line) = true := by rfl) :
    EX X (.Call (.Attribute o "pop" apos) [] [] cpos) (tBM0 X.K "list" rPop to) (dPop φ) := by
  refine ⟨pe_bm0 PySem.F.plainAttrs_list PySem.F.slot_list_pop PySem.F.type_list_pop mt_pop ho.pe hbase hline, fun env M Q σ B H QV hs hc q k => ?_⟩
  refine ho.s env M _ σ B H _ hs hc q fun r M1 v B1 H1 q1 n1 r1 => ?_
  obtain ⟨p, ds, y, rfl, hm, hy, q2⟩ := q1
  cases r1
  obtain ⟨_, xs, g1, g2⟩ := n1.st.cell _ _ hm
  rw [← g2.length] at hy
  obtain ⟨w, hw, rw_⟩ := g2.get hy
  refine ⟨Or.inl ⟨rfl, xs, SqL.of g1⟩, p, xs, w, rfl, rfl, g1, hw, ?_⟩
  have n4 := n1.st.write (o := .lst xs.dropLast) hm (m' := .lst ds.dropLast) ⟨_, upd_same, g2.dropLast⟩
  exact k _ _ _ _ _ q2 (n1.trans n4) rw_
end
end
end Dl
set_option Elab.async false
set_option linter.all false
set_option maxRecDepth 100000
set_option maxHeartbeats 4000000
namespace Dl
open PySem PySem.Spec PyProof.Rows L2
/-! ### what is walked -/
abbrev DW := Env → Mem → (List Dat → (Mem → Prop) → Mem → Prop) → Prop
structure Wk (K : PySem.W.Frag) (B0 : Hp) (J : It) (ys : List Dat) (stay : Mem → Prop) : Prop where
  go : ∀ (i : Nat) B M H, Ex B0 B → Cs K B M H → stay M → i < ys.length → J.go i H
  yld : ∀ (i : Nat) x B M H H', Ex B0 B → Cs K B M H → stay M → i < ys.length → J.yld i H x H' → ∃ B' y, Nx K B M H B' M H' ∧ ys[i]? = some y ∧ Rp K B' x y
  stop : ∀ (i : Nat) B M H, Ex B0 B → Cs K B M H → stay M → i = ys.length → J.stop i H
def SW (K : PySem.W.Frag) (wi : TI) (ω : DW) : Prop := ∀ (env : Env) (M : Mem) (Q : List Dat → (Mem → Prop) → Mem → Prop) (σ : L2.St) (B H : Hp) (R : It → Hp → Prop), SR K B σ env → Cs K B M H → ω env M Q →
  (∀ ys stay M' B' H' J, Q ys stay M' → Nx K B M H B' M' H' → Wk K B' J ys stay → R J H') → wi σ H R
structure IX (X : Cx) (tg iter : Expr) (wi : TI) (ω : DW) : Prop where
  pi : PI X tg iter wi
  s : SW X.K wi ω
section
variable {X : Cx} {K : PySem.W.Frag} {tg : Expr}
def iSeq (K : PySem.W.Frag) (tl : TE) : TI := fun σ H R => tl σ H fun x H1 => ∃ a, x = .ref a ∧ (((∃ xs, SqL K H1 a xs) ∧ R (Itl K a) H1) ∨ ((∃ xs, SqT K H1 a xs) ∧ R (Itt K a) H1))
theorem pi_seq {l : Expr} {tl : TE} (hl : PE X l tl) : PI X tg l (iSeq X.K tl) := by
  refine ⟨fun pins s σ H R I h => thn (hl.run pins s σ H _ I h) fun v s1 hv => ?_⟩
  obtain ⟨x, H1, I1, r1, a, e, q⟩ := hv
  subst e
  cases r1
  have fr : ∀ b ∈ [s1.heap.objs.size], FpOk X pins H1 b := fun b hb => by
    cases List.mem_singleton.mp hb
    exact I1.fpOk (Nat.le_refl _) I1.fresh
  rcases q with ⟨⟨xs, hq⟩, q⟩ | ⟨⟨xs, hq⟩, q⟩
  · obtain ⟨its, rv, p, hz⟩ := I1.list hq
    exact wpAny_pyIter_list p.isList ⟨s1.heap.objs.size, [s1.heap.objs.size], _, _, H1, rfl, I1.kept (t' := s1.toks) (fun b o e => Heap.get?_push_of_some _ e), turn_list a _, ⟨_, Heap.get?_push_size _ rfl, rfl, rfl⟩, fr, q⟩
  · obtain ⟨its, rv, p, hz⟩ := I1.tuple hq
    exact wpAny_pyIter_tuple (show s1.heap.IsTuple a its.toArray from p) ⟨s1.heap.objs.size, [s1.heap.objs.size], _, _, H1, rfl, I1.kept (t' := s1.toks) (fun b o e => Heap.get?_push_of_some _ e), turn_tuple a _, ⟨_, Heap.get?_push_size _ rfl, rfl, rfl⟩, fr, q⟩
def stayR (ys : List Dat) : Dat → Mem → Prop
  | .cell p, M => M p = some (.lst ys)
  | _, _ => True
def dSeqW (φ : DE) : DW := fun env M Q => φ env M fun r M1 => ∃ ys, SeqR M1 r ys ∧ Q ys (stayR ys (settle r)) M1
theorem wk_list {B0 : Hp} {a : Addr} {ys : List Dat} {stay : Mem → Prop} (h : ∀ B M H, Ex B0 B → Cs K B M H → stay M → ∃ xs, SqL K H a xs ∧ RpA K B xs ys) : Wk K B0 (Itl K a) ys stay := by
  refine ⟨fun i B M H e s t hi => ?_, fun i x B M H H' e s t hi y => ?_, fun i B M H e s t hi => ?_⟩
  · obtain ⟨xs, h1, h2⟩ := h B M H e s t
    have hl : i < xs.length := by rw [h2.length]; exact hi
    exact ⟨xs, xs[i], h1, List.getElem?_eq_getElem hl⟩
  · obtain ⟨xs, h1, h2⟩ := h B M H e s t
    obtain ⟨rfl, y⟩ := y
    obtain ⟨d, g1, g2⟩ := h2.get' (y xs h1)
    exact ⟨B, d, Nx.refl s, g1, g2⟩
  · obtain ⟨xs, h1, h2⟩ := h B M H e s t
    exact ⟨xs, h1, by rw [h2.length]; exact Nat.le_of_eq hi.symm⟩
theorem wk_tup {B0 : Hp} {a : Addr} {ys : List Dat} {xs : List V} {stay : Mem → Prop} (h1 : SqT K B0 a xs) (h2 : RpA K B0 xs ys) : Wk K B0 (Itt K a) ys stay := by
  refine ⟨fun i B M H e s t hi => ?_, fun i x B M H H' e s t hi y => ?_, fun i B M H e s t hi => ?_⟩
  · have hl : i < xs.length := by rw [h2.length]; exact hi
    exact ⟨xs, xs[i], s.ex.st (e.st h1), List.getElem?_eq_getElem hl⟩
  · obtain ⟨rfl, y⟩ := y
    obtain ⟨d, g1, g2⟩ := h2.get' (y xs (s.ex.st (e.st h1)))
    exact ⟨B, d, Nx.refl s, g1, g2.mono e⟩
  · exact ⟨xs, s.ex.st (e.st h1), by rw [h2.length]; exact Nat.le_of_eq hi.symm⟩
theorem ix_seq {l : Expr} {tl : TE} {φ : DE} (h : EX X l tl φ) : IX X tg l (iSeq X.K tl) (dSeqW φ) := by
  refine ⟨pi_seq h.pe, fun env M Q σ B H R hs hc q k => ?_⟩
  refine h.s env M _ σ B H _ hs hc q fun r M1 v B1 H1 q1 n1 r1 => ?_
  obtain ⟨ys, g, q2⟩ := q1
  obtain ⟨B2, n2, g2, _⟩ := settle_ok r1 n1
  have fin : ∀ J, Wk X.K B2 J ys (stayR ys (settle r)) → R J H1 := fun J w => k ys _ M1 B2 H1 J q2 n2 w
  have g' : SeqR M1 (.d (settle r)) ys := by
    cases r with
    | d x => exact g
    | new m =>
      cases m with
      | lst ds => exact g
      | obj C fs => exact False.elim g
  have lst : (∃ a, v = .ref a ∧ ∀ B M H, Ex B2 B → Cs X.K B M H → stayR ys (settle r) M → ∃ xs, SqL X.K H a xs ∧ RpA X.K B xs ys) → ∃ a, v = .ref a ∧ (((∃ xs, SqL X.K H1 a xs) ∧ R (Itl X.K a) H1) ∨ ((∃ xs, SqT X.K H1 a xs) ∧ R (Itt X.K a) H1)) := by
    rintro ⟨a, rfl, w⟩
    refine ⟨a, rfl, Or.inl ⟨?_, fin _ (wk_list w)⟩⟩
    have st0 : stayR ys (settle r) M1 := by
      unfold stayR
      split
      · rename_i p0 e
        rw [e] at g'
        exact g'
      · trivial
    obtain ⟨xs, h1, _⟩ := w B2 M1 H1 (Ex.refl _) n2.st st0
    exact ⟨xs, h1⟩
  generalize settle r = d at *
  unfold SeqR at g'
  split at g'
  · rename_i xs0 e
    have e := Rv.d.inj e
    subst e g'
    cases g2 with
    | lst h1 h2 => exact lst ⟨_, rfl, fun B M H e s _ => ⟨_, SqL.of (s.ex _ _ (e _ _ h1)), h2.mono e⟩⟩
  · rename_i xs0 e
    have e := Rv.d.inj e
    subst e g'
    cases g2 with
    | tup h1 h2 => exact ⟨_, rfl, Or.inr ⟨⟨_, n2.st.ex.st h1⟩, fin _ (wk_tup h1 h2)⟩⟩
  · rename_i xs0 e
    have e := Rv.d.inj e
    subst e g'
    cases g2 with
    | fz h1 h2 => exact lst ⟨_, rfl, fun B M H e s _ => ⟨_, s.ex.sl (e.sl h1), h2.mono e⟩⟩
  · rename_i p0 e
    have e := Rv.d.inj e
    subst e
    cases g2
    refine lst ⟨_, rfl, fun B M H e s t => ?_⟩
    obtain ⟨_, xs, h1, h2⟩ := s.cell _ _ (show M p0 = some (.lst _) from t)
    exact ⟨xs, SqL.of h1, h2⟩
  · rename_i xs0 e
    cases e
  · exact g'.elim
/-- lo, lo + 1, .. -/
def rngD (lo : Int) (n : Nat) : List Dat := (List.range n).map fun i : Nat => Dat.int (lo + i)
theorem rngD_len {lo : Int} {n : Nat} : (rngD lo n).length = n := by
  unfold rngD
  rw [List.length_map, List.length_range]
theorem rngD_get {lo : Int} {n i : Nat} {y : Dat} : (rngD lo n)[i]? = some y ↔ i < n ∧ y = .int (lo + i) := by
  unfold rngD
  rw [List.getElem?_map]
  constructor
  · intro h
    by_cases hi : i < n
    · rw [List.getElem?_range hi] at h
      exact ⟨hi, (Option.some.inj h).symm⟩
    · rw [List.getElem?_eq_none (by rw [List.length_range]; omega)] at h
      cases h
  · rintro ⟨hi, rfl⟩
    rw [List.getElem?_range hi] <;> rfl
theorem wk_rng {B0 : Hp} {lo : Int} {n : Nat} : Wk K B0 (Itr lo n) (rngD lo n) (fun _ => True) := by
  refine ⟨fun i B M H e s t hi => by rw [rngD_len] at hi; exact hi, fun i x B M H H' e s t hi y => ?_, fun i B M H e s t hi => by rw [rngD_len] at hi; exact Nat.le_of_eq hi.symm⟩
  obtain ⟨rfl, rfl⟩ := y
  rw [rngD_len] at hi
  exact ⟨B, .int (lo + i), Nx.refl s, rngD_get.mpr ⟨hi, rfl⟩, .int _⟩
def dRng1 (ψ : DA) : DW := fun env M Q => ψ env M fun ds M1 => match ds with
  | [.int j] => -(2 ^ 62) ≤ j ∧ j < 2 ^ 62 ∧ Q (rngD 0 j.toNat) (fun _ => True) M1
  | _ => False
def dRng2 (ψ : DA) : DW := fun env M Q => ψ env M fun ds M1 => match ds with
  | [.int i, .int j] => (-(2 ^ 62) ≤ i ∧ i < 2 ^ 62 ∧ -(2 ^ 62) ≤ j ∧ j < 2 ^ 62) ∧ Q (rngD i (j - i).toNat) (fun _ => True) M1
  | _ => False
theorem ix_rng1 {a : Expr} {ta : TA} {ψ : DA} {p pos : Pos} (hm : X.mg "range" = none) (ha : AX X [a] ta ψ) (hg : Gl X "range" := by rfl) (hs : starEach [a] X.env = [(false, eval a X.env)] := by rfl) : IX X tg (.Call (.Name "range" p) [a] [] pos) (iRng1 ta) (dRng1 ψ) := by
  refine ⟨pi_range1 hg hm ha.pa hs, fun env M Q σ B H R hs hc q k => ?_⟩
  refine ha.s env M _ σ B H _ hs hc q fun ds M1 vs B1 H1 q1 n1 r1 => ?_
  split at q1
  · obtain ⟨z1, z2, q2⟩ := q1
    obtain ⟨v, rfl, r⟩ := r1.one
    cases r
    exact ⟨_, rfl, z1, z2, k _ _ _ _ _ _ q2 n1 wk_rng⟩
  · exact q1.elim
theorem ix_rng2 {a b : Expr} {ta : TA} {ψ : DA} {p pos : Pos} (hm : X.mg "range" = none) (ha : AX X [a, b] ta ψ) (hg : Gl X "range" := by rfl) (hs : starEach [a, b] X.env = [(false, eval a X.env), (false, eval b X.env)] := by rfl) (hs2 : starEach [b] X.env = [(false, eval b X.env)] := by rfl) :
    IX X tg (.Call (.Name "range" p) [a, b] [] pos) (iRng2 ta) (dRng2 ψ) := by
  refine ⟨pi_range2 hg hm ha.pa hs hs2, fun env M Q σ B H R hs hc q k => ?_⟩
  refine ha.s env M _ σ B H _ hs hc q fun ds M1 vs B1 H1 q1 n1 r1 => ?_
  split at q1
  · obtain ⟨z, q2⟩ := q1
    obtain ⟨v, w, rfl, r, r'⟩ := r1.two
    cases r
    cases r'
    exact ⟨_, _, rfl, z, k _ _ _ _ _ _ q2 n1 wk_rng⟩
  · exact q1.elim
/-! ### targets -/
abbrev DG := Dat → Env → (Env → Prop) → Prop
abbrev DGs := List Dat → Env → (Env → Prop) → Prop
def SG (K : PySem.W.Frag) (g : TG) (γ : DG) : Prop := ∀ (v : V) (y : Dat) (σ : L2.St) (env : Env) (B : Hp) (M : Mem) (H : Hp) (k : Env → Prop) (Q : L2.St → Hp → Prop), Cs K B M H → SR K B σ env → Rp K B v y → γ y env k → (∀ env' σ', k env' → SR K B σ' env' → Q σ' H) → g v σ H Q
def SGs (K : PySem.W.Frag) (g : TGs) (γ : DGs) : Prop := ∀ (vs : List V) (ys : List Dat) (σ : L2.St) (env : Env) (B : Hp) (M : Mem) (H : Hp) (k : Env → Prop) (Q : L2.St → Hp → Prop), Cs K B M H → SR K B σ env → RpA K B vs ys → γ ys env k → (∀ env' σ', k env' → SR K B σ' env' → Q σ' H) → g vs σ H Q
structure GX (X : Cx) (tg : Expr) (g : TG) (γ : DG) : Prop where
  pg : PG X tg g
  s : SG X.K g γ
structure GsX (X : Cx) (tgs : List Expr) (g : TGs) (γ : DGs) : Prop where
  pg : PGs X tgs g
  s : SGs X.K g γ
def gd (j : Nat) : DG := fun y env k => k (env.set j (some y))
def gdNil : DGs := fun ys env k => ys = [] ∧ k env
def gdCons (γ : DG) (δ : DGs) : DGs := fun ys env k => ∃ y r, ys = y :: r ∧ γ y env fun env' => δ r env' k
def gdTup (n : Nat) (δ : DGs) : DG := fun y env k => ∃ ys, y = .tup ys ∧ ys.length = n ∧ δ ys env k
theorem sg_name {j : Nat} : SG K (gName j) (gd j) := fun v y σ env B M H k Q hc hs r q w => w _ _ q (hs.set r j)
theorem gx_name {i : Nat} {x : Str} {pos : Pos} (hN : X.N.Nodup) (hi : X.N[i]? = some x := by rfl) (hx : Loc X.env.scope x := by first | exact Or.inl rfl | exact Or.inr rfl) (hf : X.fn x = true ∨ X.env.scope.names.lookup x = some .local := by first | exact .inl rfl | exact .inr rfl | assumption) : GX X (.Name x pos) (gName i) (gd i) := ⟨pg_name hN hi hx hf, sg_name⟩
theorem gs_nil : GsX X [] gNil gdNil := ⟨pgs_nil, fun vs ys σ env B M H k Q hc hs r q w => by
  obtain ⟨rfl, q⟩ := q
  cases r
  exact ⟨rfl, w _ _ q hs⟩⟩
theorem gs_cons {e : Expr} {es : List Expr} {g : TG} {gs : TGs} {γ : DG} {δ : DGs} (h : GX X e g γ) (h2 : GsX X es gs δ) (hs : (assignEach (e :: es) X.env).map (fun x => x.snd) = assign e X.env :: (assignEach es X.env).map (fun x => x.snd) := by rfl) : GsX X (e :: es) (gCons g gs) (gdCons γ δ) := ⟨pgs_cons h.pg h2.pg hs, fun vs ys σ env B M H k Q hc hs r q w => by
  obtain ⟨y, t, rfl, q⟩ := q
  cases r with
  | cons a b => exact ⟨_, _, rfl, h.s _ y σ env B M H _ _ hc hs a q fun env' σ' q2 s2 => h2.s _ t σ' env' B M H k Q hc s2 b q2 w⟩⟩
theorem gx_tup {es : List Expr} {c : Nat} {g : TGs} {γ : DGs} {n : Nat} {pos : Pos} (hc : X.calm = true) (h : GsX X es g γ) (hn : (assignEach es X.env).length = n := by rfl) (hst : (assignEach es X.env).findIdx? (·.1) = none := by rfl) : GX X (.Tuple es c pos) (gTup X.K n g) (gdTup n γ) := ⟨pg_tup hc h.pg hn hst, fun v y σ env B M H k Q hc hs r q w => by
  obtain ⟨ys, rfl, hl, q⟩ := q
  cases r with
  | tup a b => exact ⟨_, _, rfl, hc.ex.st a, by rw [b.length]; exact hl, h.s _ ys σ env B M H k Q hc hs b q w⟩⟩
end
end Dl
set_option Elab.async false
set_option linter.all false
set_option maxRecDepth 100000
set_option maxHeartbeats 4000000
namespace Dl
open PySem PySem.Spec PyProof.Rows L2
/-! ### statements -/
structure En where
  nx : Env → Mem → Prop
  rt : Rv → Mem → Prop
  bk : Env → Mem → Prop := fun _ _ => False
  ct : Env → Mem → Prop := fun _ _ => False
  ex : Addr → Addr → List (Str × Dat) → Env → Mem → Prop := fun _ _ _ _ _ => False
abbrev DS := En → Env → Mem → Prop
/-- what is wanted over data is what is wanted -/
structure Lk (K : PySem.W.Frag) (B : Hp) (M : Mem) (H : Hp) (E : En) (D : Ends) : Prop where
  nx : ∀ env' M' σ' B' H', E.nx env' M' → Nx K B M H B' M' H' → SR K B' σ' env' → D.nx σ' H'
  bk : ∀ env' M' σ' B' H', E.bk env' M' → Nx K B M H B' M' H' → SR K B' σ' env' → D.bk σ' H'
  ct : ∀ env' M' σ' B' H', E.ct env' M' → Nx K B M H B' M' H' → SR K B' σ' env' → D.ct σ' H'
  rt : ∀ r M' v B' H', E.rt r M' → Nx K B M H B' M' H' → RR K B' M' H H' v r → D.rt v H'
theorem Lk.trans {K : PySem.W.Frag} {B B1 : Hp} {M M1 : Mem} {H H1 : Hp} {E : En} {D : Ends} (l : Lk K B M H E D) (n : Nx K B M H B1 M1 H1) : Lk K B1 M1 H1 E D :=
  ⟨fun env' M' σ' B' H' q n' s => l.nx env' M' σ' B' H' q (n.trans n') s, fun env' M' σ' B' H' q n' s => l.bk env' M' σ' B' H' q (n.trans n') s, fun env' M' σ' B' H' q n' s => l.ct env' M' σ' B' H' q (n.trans n') s,
    fun r M' v B' H' q n' rr => l.rt r M' v B' H' q (n.trans n') (rr.back n)⟩
def SS (K : PySem.W.Frag) (t : TS) (φ : DS) : Prop := ∀ (E : En) (env : Env) (M : Mem) (σ : L2.St) (B H : Hp) (D : Ends), SR K B σ env → Cs K B M H → φ E env M → Lk K B M H E D → t D σ H
structure SX (X : Cx) (st : Stmt) (t : TS) (φ : DS) : Prop where
  ps : PS X st t
  s : SS X.K t φ
structure BX (X : Cx) (sts : List Stmt) (t : TS) (φ : DS) : Prop where
  ps : PSs X sts t
  s : SS X.K t φ
section
variable {X : Cx} {K : PySem.W.Frag}
def dNext : DS := fun E env M => E.nx env M
def dSeq (φ ψ : DS) : DS := fun E env M => φ { E with nx := ψ E } env M
theorem SS.next : SS K tNext dNext := fun E env M σ B H D hs hc q l => l.nx _ _ _ _ _ q (Nx.refl hc) hs
theorem SS.seq {t u : TS} {φ ψ : DS} (h : SS K t φ) (g : SS K u ψ) : SS K (tSeq t u) (dSeq φ ψ) := fun E env M σ B H D hs hc q l =>
  h { E with nx := ψ E } env M σ B H { D with nx := u D } hs hc q ⟨fun env' M' σ' B' H' q' n s => g E env' M' σ' B' H' D s n.st q' (l.trans n), l.bk, l.ct, l.rt⟩
theorem bx_nil : BX X [] tNext dNext := ⟨pss_nil, SS.next⟩
theorem bx_cons {st : Stmt} {rest : List Stmt} {t u : TS} {φ ψ : DS} (h : SX X st t φ) (g : BX X rest u ψ) : BX X (st :: rest) (tSeq t u) (dSeq φ ψ) := ⟨pss_cons h.ps g.ps, SS.seq h.s g.s⟩
theorem bx_one {st : Stmt} {t : TS} {φ : DS} (h : SX X st t φ) : BX X [st] t φ := ⟨pss_one h.ps, h.s⟩
def dNever : DS := fun _ _ _ => False
theorem sx_never {st : Stmt} : SX X st tNever dNever := ⟨ps_never, fun _ _ _ _ _ _ _ _ _ q _ => q.elim⟩
theorem sx_pass {pos : Pos} : SX X (.Pass pos) tNext dNext := ⟨ps_pass, SS.next⟩
def dBreak : DS := fun E env M => E.bk env M
def dCont : DS := fun E env M => E.ct env M
theorem sx_break {pos : Pos} : SX X (.Break pos) tBreak dBreak := ⟨ps_break, fun E env M σ B H D hs hc q l => l.bk _ _ _ _ _ q (Nx.refl hc) hs⟩
theorem sx_continue {pos : Pos} : SX X (.Continue pos) tCont dCont := ⟨ps_continue, fun E env M σ B H D hs hc q l => l.ct _ _ _ _ _ q (Nx.refl hc) hs⟩
/-- x = e, what is new held for good -/
def dSet (φ : DE) (i : Nat) : DS := fun E env M => φ env M fun r M1 => E.nx (env.set i (some (settle r))) M1
/-- x = e, a new list or instance that will change -/
def dSetC (φ : DE) (i : Nat) : DS := fun E env M => φ env M fun r M1 => ∃ m, r = .new m ∧ ∀ p, M1 p = none → E.nx (env.set i (some (.cell p))) (M1.set p m)
theorem SS.set {t : TE} {φ : DE} {i : Nat} (h : SE K t φ) : SS K (tAsg t (gName i)) (dSet φ i) := fun E env M σ B H D hs hc q l => by
  refine h env M _ σ B H _ hs hc q fun r M1 v B1 H1 q1 n1 r1 => ?_
  obtain ⟨B2, n2, g2, _⟩ := settle_ok r1 n1
  exact l.nx _ _ _ _ _ q1 n2 ((hs.mono n2.ext).set g2 i)
theorem SS.setC {t : TE} {φ : DE} {i : Nat} (h : SE K t φ) : SS K (tAsg t (gName i)) (dSetC φ i) := fun E env M σ B H D hs hc q l => by
  refine h env M _ σ B H _ hs hc q fun r M1 v B1 H1 q1 n1 r1 => ?_
  obtain ⟨m, rfl, q2⟩ := q1
  obtain ⟨p, rfl, hp, n2⟩ := r1.celled n1
  exact l.nx _ _ _ _ _ (q2 p hp) n2 ((hs.mono n2.ext).set (.cell p) i)
section
variable {i : Nat} {x : Str} {e : Expr} {t : TE} {φ : DE} {pos pos' : Pos}
theorem sx_set (hN : X.N.Nodup) (he : EX X e t φ) (hi : X.N[i]? = some x := by rfl) (hx : Loc X.env.scope x := by first | exact Or.inl rfl | exact Or.inr rfl) (hs : swapsWith e (some (.Name x pos')) pos.line X.env = pure false := by rfl)
    (hf : X.fn x = true ∨ X.env.scope.names.lookup x = some .local := by first | exact .inl rfl | exact .inr rfl | assumption) : SX X (.Assign [.Name x pos'] e pos) (tAsg t (gName i)) (dSet φ i) := ⟨ps_set hN hi hx he.pe hs hf, SS.set he.s⟩
theorem sx_setC (hN : X.N.Nodup) (he : EX X e t φ) (hi : X.N[i]? = some x := by rfl) (hx : Loc X.env.scope x := by first | exact Or.inl rfl | exact Or.inr rfl) (hs : swapsWith e (some (.Name x pos')) pos.line X.env = pure false := by rfl)
    (hf : X.fn x = true ∨ X.env.scope.names.lookup x = some .local := by first | exact .inl rfl | exact .inr rfl | assumption) : SX X (.Assign [.Name x pos'] e pos) (tAsg t (gName i)) (dSetC φ i) := ⟨ps_set hN hi hx he.pe hs hf, SS.setC he.s⟩
end
/-- a, b = e -/
def dAsg (φ : DE) (γ : DG) : DS := fun E env M => φ env M fun r M1 => γ (settle r) env fun env' => E.nx env' M1
theorem SS.asg {t : TE} {g : TG} {φ : DE} {γ : DG} (h : SE K t φ) (hg : SG K g γ) : SS K (tAsg t g) (dAsg φ γ) := fun E env M σ B H D hs hc q l => by
  refine h env M _ σ B H _ hs hc q fun r M1 v B1 H1 q1 n1 r1 => ?_
  obtain ⟨B2, n2, g2, _⟩ := settle_ok r1 n1
  exact hg v _ σ env B2 M1 H1 _ _ n2.st (hs.mono n2.ext) g2 q1 fun env' σ' q2 s2 => l.nx _ _ _ _ _ q2 n2 s2
theorem sx_asg {tg e : Expr} {t : TE} {g : TG} {φ : DE} {γ : DG} {pos : Pos} (he : EX X e t φ) (hg : GX X tg g γ) (hs : swapsWithSole [tg] e pos.line X.env = pure false := by rfl) (hw : swappedStores [tg] e X.env = pure none := by rfl)
    (h1 : (assignEach [tg] X.env).map (·.2) = [assign tg X.env] := by rfl) : SX X (.Assign [tg] e pos) (tAsg t g) (dAsg φ γ) := ⟨ps_asg he.pe hg.pg hs hw h1, SS.asg he.s hg.s⟩
/-- xs[i] = e -/
def dSetI (φ φo φi : DE) : DS := fun E env M => φ env M fun r M1 => φo env M1 fun ro M2 => φi env M2 fun ri M3 => ∃ p ds i j, ro = .d (.cell p) ∧ ri = .d (.int i) ∧ M3 p = some (.lst ds) ∧ ixN ds.length i = some j ∧ E.nx env (M3.set p (.lst (ds.set j (settle r))))
theorem SS.setI {t to ti : TE} {φ φo φi : DE} (h : SE K t φ) (ho : SE K to φo) (hi : SE K ti φi) : SS K (tAsg t (gSub to ti rSetL)) (dSetI φ φo φi) := fun E env M σ B H D hs hc q l => by
  refine h env M _ σ B H _ hs hc q fun r M1 v B0 H1 q1 n0 r0 => ?_
  obtain ⟨B1, n1, g1, _⟩ := settle_ok r0 n0
  refine ho env M1 _ σ B1 H1 _ (hs.mono n1.ext) n1.st q1 fun ro M2 vo B2 H2 q2 n2 r2 => ?_
  have n12 := n1.trans n2
  refine hi env M2 _ σ B2 H2 _ (hs.mono n12.ext) n12.st q2 fun ri M3 vi B3 H3 q3 n3 r3 => ?_
  obtain ⟨p, ds, i, j, rfl, rfl, hm, hj, q4⟩ := q3
  cases r2
  cases r3
  have n := n12.trans n3
  obtain ⟨_, xs, e1, e2⟩ := n.st.cell _ _ hm
  refine ⟨p, xs, i, j, rfl, rfl, e1, by rw [e2.length]; exact hj, ?_⟩
  have n4 := n.st.write (o := .lst (xs.set j v)) hm (m' := .lst (ds.set j (settle r))) ⟨_, upd_same, e2.set (g1.mono (n2.trans n3).ext) j⟩
  exact l.nx _ _ _ _ _ q4 (n.trans n4) (hs.mono (n.trans n4).ext)
theorem sx_setI {o i e : Expr} {t to ti : TE} {φ φo φi : DE} {pos tpos : Pos} (he : EX X e t φ) (ho : EX X o to φo) (hi : EX X i ti φi) (ha : ∀ v, assign (.Subscript o i tpos) X.env v = (do
      let ov ← holding [v] (eval o X.env)
      let iv ← holding [v, ov] (eval i X.env)
      standAt tpos
      holding [v, ov, iv] (setItem ov iv v)
      release [v, ov, iv] []) := by intro _; rfl) (hs : swapsWithSole [.Subscript o i tpos] e pos.line X.env = pure false := by rfl)
    (hw : swappedStores [.Subscript o i tpos] e X.env = pure none := by rfl) (h1 : (assignEach [.Subscript o i tpos] X.env).map (·.2) = [assign (.Subscript o i tpos) X.env] := by rfl) : SX X (.Assign [.Subscript o i tpos] e pos) (tAsg t (gSub to ti rSetL)) (dSetI φ φo φi) :=
  ⟨ps_asg he.pe (pg_sub ho.pe hi.pe set_list ha) hs hw h1, SS.setI he.s ho.s hi.s⟩
/-- o.f = e -/
def dSetF (C0 : Addr) (f : Str) (φ φo : DE) : DS := fun E env M => φ env M fun r M1 => φo env M1 fun ro M2 => ∃ p fs, ro = .d (.cell p) ∧ M2 p = some (.obj C0 fs) ∧ fs.length < 1000 ∧ E.nx env (M2.set p (.obj C0 (putD f (settle r) fs)))
theorem sx_setF {C0 : Addr} {f : Str} {o e : Expr} {t to : TE} {φ φo : DE} {pos pos' : Pos} (c : Cls X.K C0) (n : NoAttr X.K C0 f) (he : EX X e t φ) (ho : EX X o to φo) (hs : swapsWith e (some (.Attribute o f pos')) pos.line X.env = pure false := by rfl) :
    SX X (.Assign [.Attribute o f pos'] e pos) (sFld X.K to t f) (dSetF C0 f φ φo) := ⟨ps_fld ho.pe he.pe hs, fun E env M σ B H D hs hc q l => by
  refine he.s env M _ σ B H _ hs hc q fun r M1 v B0 H1 q1 n0 r0 => ?_
  obtain ⟨B1, n1, g1, _⟩ := settle_ok r0 n0
  refine ho.s env M1 _ σ B1 H1 _ (hs.mono n1.ext) n1.st q1 fun ro M2 vo B2 H2 q2 n2 r2 => ?_
  obtain ⟨p, fs, rfl, hm, hl, q3⟩ := q2
  cases r2
  have n12 := n1.trans n2
  obtain ⟨_, dx, vs, e1, e2⟩ := n12.st.cell _ _ hm
  refine ⟨p, C0, dx, vs, rfl, e1, c, n, by rw [e2.length]; exact hl, ?_⟩
  have n4 := n12.st.write (o := .ins C0 dx (putF f v vs)) hm (m' := .obj C0 (putD f (settle r) fs)) ⟨_, _, upd_same, e2.put (g1.mono n2.ext)⟩
  exact l.nx _ _ _ _ _ q3 (n12.trans n4) (hs.mono (n12.trans n4).ext)⟩
/-- e -/
def dDrop (φ : DE) : DS := fun E env M => φ env M fun _ M1 => E.nx env M1
theorem sx_expr {e : Expr} {t : TE} {φ : DE} {pos : Pos} (he : EX X e t φ) (hs : swapsWith e none pos.line X.env = pure false := by rfl) : SX X (.Expr e pos) (tDrop t) (dDrop φ) := ⟨ps_expr he.pe hs, fun E env M σ B H D hs hc q l => by
  refine he.s env M _ σ B H _ hs hc q fun r M1 v B1 H1 q1 n1 r1 => ?_
  exact l.nx _ _ _ _ _ q1 n1 (hs.mono n1.ext)⟩
/-- return e -/
def dRet (φ : DE) : DS := fun E env M => φ env M E.rt
theorem sx_ret {e : Expr} {t : TE} {φ : DE} {pos : Pos} (he : EX X e t φ) : SX X (.Return (some e) pos) (tRet t) (dRet φ) := ⟨ps_ret he.pe, fun E env M σ B H D hs hc q l => he.s env M _ σ B H _ hs hc q fun r M1 v B1 H1 q1 n1 r1 => l.rt _ _ _ _ _ q1 n1 r1⟩
def dRetN : DS := fun E env M => E.rt (.d .non) M
theorem sx_retN {pos : Pos} : SX X (.Return none pos) tRetN dRetN := ⟨ps_retN, fun E env M σ B H D hs hc q l => l.rt _ _ _ _ _ q (Nx.refl hc) .non⟩
/-- if -/
def dIfS (τ : DT) (φ ψ : DS) : DS := fun E env M => τ env M fun b M1 => if b = true then φ E env M1 else ψ E env M1
theorem sx_if {c : Expr} {a b : List Stmt} {tc : TT} {t u : TS} {τ : DT} {φ ψ : DS} {pos : Pos} (hc : TX X c tc τ) (ha : BX X a t φ) (hb : BX X b u ψ) : SX X (.If c a b pos) (tIfS tc t u) (dIfS τ φ ψ) := ⟨ps_if hc.pt ha.ps hb.ps, fun E env M σ B H D hs hc' q l => by
  refine hc.s env M _ σ B H _ hs hc' q fun k M1 B1 H1 q1 n1 => ?_
  cases k with
  | true =>
    rw [if_pos rfl] at q1 ⊢
    exact ha.s E env M1 σ B1 H1 D (hs.mono n1.ext) n1.st q1 (l.trans n1)
  | false =>
    rw [if_neg Bool.false_ne_true] at q1 ⊢
    exact hb.s E env M1 σ B1 H1 D (hs.mono n1.ext) n1.st q1 (l.trans n1)⟩
/-- for -/
def dFor (ω : DW) (γ : DG) (φ : DS) : DS := fun E env M => ω env M fun ys stay M1 => ∃ Inv : Nat → Env → Mem → Prop, Inv 0 env M1 ∧ (∀ i env' M', i ≤ ys.length → Inv i env' M' → stay M') ∧
  (∀ i y env' M', ys[i]? = some y → Inv i env' M' → γ y env' fun env'' => φ ⟨Inv (i + 1), E.rt, E.nx, Inv (i + 1), E.ex⟩ env'' M') ∧ ∀ env' M', Inv ys.length env' M' → E.nx env' M'
theorem SS.for_ {wi : TI} {g : TG} {t : TS} {ω : DW} {γ : DG} {φ : DS} (hw : SW K wi ω) (hg : SG K g γ) (hb : SS K t φ) : SS K (tFor wi g t) (dFor ω γ φ) := fun E env M σ B H D hs hc q l => by
  refine hw env M _ σ B H _ hs hc q fun ys stay M1 B1 H1 J q1 n1 w => ?_
  obtain ⟨Inv, i0, ist, istep, iend⟩ := q1
  refine ⟨fun i m σ' H' => m = ys.length - i ∧ i ≤ ys.length ∧ ∃ env' M' B', Inv i env' M' ∧ Nx K B1 M1 H1 B' M' H' ∧ SR K B' σ' env', ⟨ys.length, by omega, Nat.zero_le _, env, M1, B1, i0, Nx.refl n1.st, hs.mono n1.ext⟩, ?_⟩
  rintro i m σ' H' ⟨rfl, hi, env', M', B', iv, n2, s2⟩
  have st := ist i env' M' hi iv
  by_cases hlt : i < ys.length
  · refine Or.inr ⟨w.go i B' M' H' n2.ext n2.st st hlt, fun σ3 H3 => ∃ env3 M3 B3, Inv (i + 1) env3 M3 ∧ Nx K B1 M1 H1 B3 M3 H3 ∧ SR K B3 σ3 env3, fun σ3 H3 hN => ⟨ys.length - (i + 1), by omega, rfl, hlt, hN⟩, fun x H3 y => ?_⟩
    obtain ⟨B3, d, n3, hd, rd⟩ := w.yld i x B' M' H' H3 n2.ext n2.st st hlt y
    refine hg x d σ' env' B3 M' H3 _ _ n3.st (s2.mono n3.ext) rd (istep i d env' M' hd iv) fun env4 σ4 q4 s4 => ?_
    have n23 := n2.trans n3
    refine hb _ env4 M' σ4 B3 H3 _ s4 n3.st q4 ⟨fun env5 M5 σ5 B5 H5 q5 n5 s5 => ⟨env5, M5, B5, q5, n23.trans n5, s5⟩, fun env5 M5 σ5 B5 H5 q5 n5 s5 => ?_, fun env5 M5 σ5 B5 H5 q5 n5 s5 => ⟨env5, M5, B5, q5, n23.trans n5, s5⟩, fun r M5 v B5 H5 q5 n5 r5 => ?_⟩
    · exact l.nx _ _ _ _ _ q5 ((n1.trans n23).trans n5) s5
    · exact l.rt _ _ _ _ _ q5 ((n1.trans n23).trans n5) (r5.back (n1.trans n23))
  · have e : i = ys.length := by omega
    subst e
    exact Or.inl ⟨w.stop _ B' M' H' n2.ext n2.st st rfl, l.nx _ _ _ _ _ (iend env' M' iv) (n1.trans n2) s2⟩
theorem sx_for {tg iter : Expr} {body : List Stmt} {wi : TI} {g : TG} {t : TS} {ω : DW} {γ : DG} {φ : DS} {pos : Pos} (hp : PassesOwn (model X.prog X.w) X.A X.env X.xe) (hc : X.calm = true) (hi : IX X tg iter wi ω) (hg : GX X tg g γ) (hb : BX X body t φ)
    (hs : ∀ x, foldedSetIterable iter X.env x = pure x := by intro _; rfl) : SX X (.For tg iter body [] pos) (tFor wi g t) (dFor ω γ φ) := ⟨ps_for hp hc hi.pi hg.pg hb.ps hs, SS.for_ hi.s hg.s hb.s⟩
/-- while -/
def dWhile (τ : DT) (φ : DS) : DS := fun E env M => ∃ Inv : Nat → Env → Mem → Prop, (∃ m, Inv m env M) ∧ ∀ m env' M', Inv m env' M' → τ env' M' fun b M1 => if b = true then φ ⟨fun e2 M2 => ∃ m', m' < m ∧ Inv m' e2 M2, E.rt, E.nx, fun e2 M2 => ∃ m', m' < m ∧ Inv m' e2 M2, E.ex⟩ env' M1 else E.nx env' M1
theorem SS.while_ {tc : TT} {t : TS} {τ : DT} {φ : DS} (hc0 : ST K tc τ) (hb : SS K t φ) : SS K (tWhile tc t) (dWhile τ φ) := fun E env M σ B H D hs hc q l => by
  obtain ⟨Inv, ⟨m0, i0⟩, step⟩ := q
  refine ⟨fun m σ' H' => ∃ env' M' B', Inv m env' M' ∧ Nx K B M H B' M' H' ∧ SR K B' σ' env', ⟨m0, env, M, B, i0, Nx.refl hc, hs⟩, ?_⟩
  rintro m σ' H' ⟨env', M', B', iv, n1, s1⟩
  refine hc0 env' M' _ σ' B' H' _ s1 n1.st (step m env' M' iv) fun b M2 B2 H2 q2 n2 => ?_
  have n12 := n1.trans n2
  cases b with
  | true =>
    rw [if_pos rfl] at q2 ⊢
    refine ⟨fun σ3 H3 => ∃ m', m' < m ∧ ∃ env3 M3 B3, Inv m' env3 M3 ∧ Nx K B M H B3 M3 H3 ∧ SR K B3 σ3 env3, fun _ _ z => z, ?_⟩
    refine hb _ env' M2 σ' B2 H2 _ (s1.mono n2.ext) n2.st q2 ⟨fun env5 M5 σ5 B5 H5 q5 n5 s5 => ?_, fun env5 M5 σ5 B5 H5 q5 n5 s5 => ?_, fun env5 M5 σ5 B5 H5 q5 n5 s5 => ?_, fun r M5 v B5 H5 q5 n5 r5 => ?_⟩
    · obtain ⟨m', hm, iv'⟩ := q5
      exact ⟨m', hm, env5, M5, B5, iv', n12.trans n5, s5⟩
    · exact l.nx _ _ _ _ _ q5 (n12.trans n5) s5
    · obtain ⟨m', hm, iv'⟩ := q5
      exact ⟨m', hm, env5, M5, B5, iv', n12.trans n5, s5⟩
    · exact l.rt _ _ _ _ _ q5 (n12.trans n5) (r5.back n12)
  | false =>
    rw [if_neg Bool.false_ne_true] at q2 ⊢
    exact l.nx _ _ _ _ _ q2 n12 (s1.mono n2.ext)
theorem sx_while {c : Expr} {body : List Stmt} {tc : TT} {t : TS} {τ : DT} {φ : DS} {pos : Pos} (hp : PassesOwn (model X.prog X.w) X.A X.env X.xe) (hc : TX X c tc τ) (hb : BX X body t φ) : SX X (.While c body [] pos) (tWhile tc t) (dWhile τ φ) := ⟨ps_while hp hc.pt hb.ps, SS.while_ hc.s hb.s⟩
/-! ### comprehensions -/
structure TsX (X : Cx) (ifs : List Expr) (t : TT) (τ : DT) : Prop where
  pt : PTs X ifs t
  s : ST X.K t τ
def dYes : DT := fun _ M Q => Q true M
theorem ts_nil : TsX X [] tYes dYes := ⟨pts_nil, fun env M Q σ B H QV hs hc q k => k _ _ _ _ q (Nx.refl hc)⟩
theorem ts_one {c : Expr} {t : TT} {τ : DT} (h : TX X c t τ) : TsX X [c] t τ := ⟨pts_one h.pt, h.s⟩
/-- [e for x in xs if c] -/
def dLc (ω : DW) (j : Nat) (τ : DT) (φ : DE) : DE := fun env M Q => ω env M fun ys stay M1 => ∃ Inv : Nat → List Dat → Mem → Prop, Inv 0 [] M1 ∧ (∀ i acc M', i ≤ ys.length → Inv i acc M' → stay M') ∧
  (∀ i y acc M', ys[i]? = some y → Inv i acc M' → τ (env.set j (some y)) M' fun b M2 => if b = true then φ (env.set j (some y)) M2 fun r M3 => acc.length < sizeLine ∧ Inv (i + 1) (acc ++ [settle r]) M3 else Inv (i + 1) acc M2) ∧
  ∀ acc M', Inv ys.length acc M' → Q (.new (.lst acc)) M'
/-- an object that nobody knows is written -/
theorem Nx.poke {B B' : Hp} {M M' : Mem} {H H' : Hp} {D : Addr} {o : HO} (n : Nx K B M H B' M' H') (h0 : H D = none) (hb : B' D = none) (hm : M' D = none) : Nx K B M H B' M' (upd H' D o) where
  ext := n.ext
  st := ⟨fun a u e => by
    rw [upd_ne (fun z => by subst z; rw [hb] at e; cases e)]
    exact n.st.ex a u e, fun p m e => by
    have np : p ≠ D := fun z => by
      subst z
      rw [hm] at e
      cases e
    exact ⟨(n.st.cell p m e).1, (n.st.cell p m e).2.mono (Ex.refl _) fun o q => (upd_ne np).trans q⟩⟩
  keep := fun a u e1 e2 => (upd_ne (ne_of_none e2 h0)).trans (n.keep a u e1 e2)
  new := n.new
  dom := n.dom
  there := fun a u e => by
    obtain ⟨u', h'⟩ := n.there a u e
    exact ⟨u', (upd_ne (ne_of_none e h0)).trans h'⟩
theorem SE.lc {wi : TI} {j : Nat} {tt : TT} {te : TE} {ω : DW} {τ : DT} {φ : DE} (hw : SW K wi ω) (ht : ST K tt τ) (he : SE K te φ) : SE K (tLc wi (gName j) tt te [j]) (dLc ω j τ φ) := by
  intro env M Q σ B H QV hs hc q k
  refine hw env M _ σ B H _ hs hc q fun ys stay M1 B1 H1 J q1 n1 w => ?_
  obtain ⟨Inv, i0, ist, istep, iend⟩ := q1
  intro D hD
  have hBD : B1 D = none := by
    cases z : B1 D with
    | none => rfl
    | some o =>
      rw [n1.st.ex D o z] at hD
      cases hD
  have hMD : M1 D = none := by
    cases z : M1 D with
    | none => rfl
    | some m =>
      obtain ⟨o, ho⟩ := n1.st.there z
      rw [ho] at hD
      cases hD
  refine ⟨fun i m H' => m = ys.length - i ∧ i ≤ ys.length ∧ ∃ acc M' B' xs, Inv i acc M' ∧ Nx K B1 M1 H1 B' M' H' ∧ B' D = none ∧ M' D = none ∧ H' D = some (.lst xs) ∧ RpA K B' xs acc, ⟨ys.length, by omega, Nat.zero_le _, [], M1, B1, [], i0, (Nx.refl n1.st).poke hD hBD hMD, hBD, hMD, upd_same, .nil⟩, ?_⟩
  rintro i m H' ⟨rfl, hi, acc, M', B', xs, iv, n2, hb2, hm2, hx, ra⟩
  have st := ist i acc M' hi iv
  by_cases hlt : i < ys.length
  · refine Or.inr ⟨w.go i B' M' H' n2.ext n2.st st hlt, fun H3 => ∃ acc M' B' xs, Inv (i + 1) acc M' ∧ Nx K B1 M1 H1 B' M' H3 ∧ B' D = none ∧ M' D = none ∧ H3 D = some (.lst xs) ∧ RpA K B' xs acc, fun H3 hN => ⟨ys.length - (i + 1), by omega, rfl, hlt, hN⟩, fun x H3 y => ?_⟩
    obtain ⟨B3, d, n3, hd, rd⟩ := w.yld i x B' M' H' H3 n2.ext n2.st st hlt y
    show wipe ((wipe σ [j]).set j (some x)) [j] = wipe σ [j] ∧ _
    have ew : (wipe σ [j]).set j (some x) = σ.set j (some x) := by
      show (σ.set j none).set j (some x) = _
      rw [List.set_set]
    refine ⟨by rw [ew]; show (σ.set j (some x)).set j none = σ.set j none; rw [List.set_set], ?_⟩
    rw [ew]
    have n23 := n2.trans n3
    have s3 : SR K B3 (σ.set j (some x)) (env.set j (some d)) := ((hs.mono n1.ext).mono n23.ext).set rd j
    have hx3 := n3.keep D _ hm2 hx
    have hb3 : B3 D = none := (n3.new D _ hx hm2).trans hb2
    refine ht _ M' _ _ B3 H3 _ s3 n3.st (istep i d acc M' hd iv) fun b M4 B4 H4 q4 n4 => ?_
    have n234 := n23.trans n4
    have hx4 := n4.keep D _ hm2 hx3
    have hb4 : B4 D = none := (n4.new D _ hx3 hm2).trans hb3
    have hm4 : M4 D = none := n4.dom D _ hx3 hm2
    cases b with
    | true =>
      rw [if_pos rfl] at q4 ⊢
      refine he _ M4 _ _ B4 H4 _ (s3.mono n4.ext) n4.st q4 fun r M5 v B5 H5 q5 n5 r5 => ?_
      obtain ⟨hl, iv'⟩ := q5
      obtain ⟨B6, n6, g6, _⟩ := settle_ok r5 n5
      have hx6 := n6.keep D _ hm4 hx4
      have hb6 : B6 D = none := (n6.new D _ hx4 hm4).trans hb4
      have hm6 : M5 D = none := n6.dom D _ hx4 hm4
      have n26 := n234.trans n6
      have ra6 : RpA K B6 (xs ++ [v]) (acc ++ [settle r]) := (ra.mono ((n3.trans n4).trans n6).ext).append (.cons g6 .nil)
      exact ⟨xs, hx6, by rw [ra.length]; exact hl, acc ++ [settle r], M5, B6, xs ++ [v], iv', n26.poke hD hb6 hm6, hb6, hm6, upd_same, ra6⟩
    | false =>
      rw [if_neg Bool.false_ne_true] at q4 ⊢
      exact ⟨acc, M4, B4, xs, q4, n234, hb4, hm4, hx4, ra.mono (n3.trans n4).ext⟩
  · have e : i = ys.length := by omega
    subst e
    refine Or.inl ⟨w.stop _ B' M' H' n2.ext n2.st st rfl, ?_⟩
    exact k _ _ _ _ _ (iend acc M' iv) (n1.trans n2) ⟨D, rfl, n1.back hD, hb2, hm2, xs, hx, ra⟩
section
variable {j : Nat} {x : Str} {px pos : Pos} {elt iter : Expr} {ifs : List Expr} {scope : Scope} {wi : TI} {tt : TT} {te : TE} {ω : DW} {τ : DT} {φ : DE}
theorem ex_lc (hc : X.calm = true) (hN : X.N.Nodup) (hi : IX X (.Name x px) iter wi ω) (ok : BlkOk X.N X.env.scope scope [(x, j)])
    (hg : ∀ (s : Shared) (H : Hp) (C : Addr) (cl : List (Str × Addr)) (fp : List Addr), PG (X.blk s H scope (compEnvC scope cl C X.env) fp) (.Name x px) (gName j)) (ht : ∀ (s : Shared) (H : Hp) (C : Addr) (cl : List (Str × Addr)) (fp : List Addr), TsX (X.blk s H scope (compEnvC scope cl C X.env) fp) ifs tt τ)
    (he : ∀ (s : Shared) (H : Hp) (C : Addr) (cl : List (Str × Addr)) (fp : List Addr), EX (X.blk s H scope (compEnvC scope cl C X.env) fp) elt te φ) (hs : ∀ x, foldedSetIterable iter X.env x = pure x := by intro _; rfl) :
    EX X (.ListComp elt [⟨.Name x px, iter, ifs, 0⟩] scope pos) (tLc wi (gName j) tt te [j]) (dLc ω j τ φ) :=
  ⟨pe_lc (own := [(x, j)]) hc hN hi.pi ok hg (fun s H C cl fp => (ht s H C cl fp).pt) (fun s H C cl fp => (he s H C cl fp).pe) hs, SE.lc hi.s (ht X.s_0 X.H_0 0 [] []).s (he X.s_0 X.H_0 0 [] []).s⟩
/-- y = [..] on one line -/
theorem sx_setLc {i : Nat} {y : Str} {py spos : Pos} (cell : Bool) (hc : X.calm = true) (hN : X.N.Nodup) (hi : IX X (.Name x px) iter wi ω) (ok : BlkOk X.N X.env.scope scope [(x, j)])
    (hg : ∀ (s : Shared) (H : Hp) (C : Addr) (cl : List (Str × Addr)) (fp : List Addr), PG (X.blk s H scope (compEnvC scope cl C X.env) fp) (.Name x px) (gName j)) (ht : ∀ (s : Shared) (H : Hp) (C : Addr) (cl : List (Str × Addr)) (fp : List Addr), TsX (X.blk s H scope (compEnvC scope cl C X.env) fp) ifs tt τ)
    (he : ∀ (s : Shared) (H : Hp) (C : Addr) (cl : List (Str × Addr)) (fp : List Addr), EX (X.blk s H scope (compEnvC scope cl C X.env) fp) elt te φ) (hsw : swapsWith (.ListComp elt [⟨.Name x px, iter, ifs, 0⟩] scope pos) (some (.Name y py)) spos.line X.env = pure true)
    (hy : X.N[i]? = some y := by rfl) (hyl : X.env.scope.names.lookup y = some .local := by rfl) (hs : ∀ x, foldedSetIterable iter X.env x = pure x := by intro _; rfl) :
    SX X (.Assign [.Name y py] (.ListComp elt [⟨.Name x px, iter, ifs, 0⟩] scope pos) spos) (tAsg (tLc wi (gName j) tt te [j]) (gName i)) (if cell = true then dSetC (dLc ω j τ φ) i else dSet (dLc ω j τ φ) i) := by
  have hS := SE.lc hi.s (ht X.s_0 X.H_0 0 [] []).s (he X.s_0 X.H_0 0 [] []).s (j := j)
  refine ⟨ps_setLc (own := [(x, j)]) hc hN hy hyl hsw hi.pi ok hg (fun s H C cl fp => (ht s H C cl fp).pt) (fun s H C cl fp => (he s H C cl fp).pe) hs, ?_⟩
  cases cell with
  | true =>
    rw [if_pos rfl]
    exact SS.setC hS
  | false =>
    rw [if_neg Bool.false_ne_true]
    exact SS.set hS
end
end
end Dl
set_option Elab.async false
set_option linter.all false
set_option maxRecDepth 100000
set_option maxHeartbeats 4000000
namespace Dl
open PySem PySem.Spec PyProof.Rows L2
/-! ### a def's body keeps its promise -/
def startD (N : List Str) (ds : List Dat) : Env := ds.map some ++ List.replicate (N.length - ds.length) none
theorem start_sr {K : PySem.W.Frag} {B : Hp} {N : List Str} {vs : List V} {ds : List Dat} (r : RpA K B vs ds) : SR K B (L2.start N vs) (startD N ds) := by
  unfold L2.start startD
  refine ⟨by rw [List.length_append, List.length_append, List.length_map, List.length_map, List.length_replicate, List.length_replicate, r.length], fun i x h => ?_⟩
  have hl := r.length
  by_cases hi : i < ds.length
  · rw [List.getElem?_append_left (by rw [List.length_map]; exact hi), List.getElem?_map] at h
    rw [List.getElem?_append_left (by rw [List.length_map]; omega), List.getElem?_map]
    cases e : ds[i]? with
    | none =>
      rw [e] at h
      cases h
    | some d =>
      rw [e] at h
      cases h
      obtain ⟨v, h1, h2⟩ := r.get e
      exact ⟨v, by rw [h1] <;> rfl, h2⟩
  · rw [List.getElem?_append_right (by rw [List.length_map]; omega), List.getElem?_replicate] at h
    split at h <;> cases h
/-- the end of a body: what its own cells hold is new to the caller -/
def leave (M : Mem) (Q : Rv → Mem → Prop) (r : Rv) (M' : Mem) : Prop := match r with
  | .d (.cell p) => (M p = none ∧ ∃ m, M' p = some m ∧ Q (.new m) (M.restr M')) ∨ ((∃ m, M p = some m) ∧ Q (.d (.cell p)) (M.restr M'))
  | r => Q r (M.restr M')
def enD (M : Mem) (Q : Rv → Mem → Prop) : En := ⟨fun _ M' => Q (.d .non) (M.restr M'), leave M Q, fun _ _ => False, fun _ _ => False, fun _ _ _ _ _ => False⟩
section
variable {K : PySem.W.Frag} {B B' : Hp} {M M' : Mem} {H H' : Hp}
theorem Nx.restr (n : Nx K B M H B' M' H') : Nx K B M H B' (M.restr M') H' := by
  have sub : ∀ p m, M.restr M' p = some m → M' p = some m := fun p m e => by
    unfold Mem.restr at e
    split at e
    · cases e
    · exact e
  refine ⟨n.ext, ⟨n.st.ex, fun p m e => n.st.cell p m (sub p m e)⟩, n.keep, n.new, fun a o e hm => ?_, n.there⟩
  unfold Mem.restr
  rw [hm]
theorem RR.restr {H0 : Hp} {v : V} {r : Rv} (h : RR K B' M' H0 H' v r) : RR K B' (M.restr M') H0 H' v r := by
  cases r with
  | d x => exact h
  | new m =>
    obtain ⟨p, h1, h2, h3, h4, h5⟩ := h
    refine ⟨p, h1, h2, h3, ?_, h5⟩
    unfold Mem.restr
    split
    · rfl
    · exact h4
theorem leave_ok {Q : Rv → Mem → Prop} {QV : VK} (hc : Cs K B M H) (k : ∀ r M' v B' H', Q r M' → Nx K B M H B' M' H' → RR K B' M' H H' v r → QV v H') : Lk K B M H (enD M Q) { nx := fun _ H' => QV .non H', rt := QV } := by
  refine ⟨fun env' M' σ' B' H' q n s => k _ _ _ _ _ q n.restr .non, fun _ _ _ _ _ q => q.elim, fun _ _ _ _ _ q => q.elim, fun r M' v B' H' q n rr => ?_⟩
  show QV v H'
  have q' : leave M Q r M' := q
  unfold leave at q'
  split at q'
  · rename_i p
    rcases q' with ⟨h1, m, h2, q2⟩ | ⟨_, q2⟩
    · cases rr
      obtain ⟨g1, g2⟩ := n.st.cell p m h2
      have hp : H p = none := by
        cases z : H p with
        | none => rfl
        | some o =>
          have := n.dom p o z h1
          rw [h2] at this
          cases this
      refine k _ _ _ _ _ q2 n.restr ⟨p, rfl, hp, g1, ?_, g2⟩
      unfold Mem.restr
      rw [h1]
    · exact k _ _ _ _ _ q2 n.restr rr
  · exact k _ _ _ _ _ q' n.restr rr.restr
end
section
variable {P : Program} {w : World} {K : PySem.W.Frag} {mg : Str → Option Value} {base : Heap}
/-- a def that raises nothing, by its body's reading over data -/
theorem fn_D {x qual : Str} {st : Stmt} {f : Addr} {fd : FuncData} {N ps : List Str} {k : Nat} {fs : FS} (F : Fun K x qual st f fd) (S : FnScope N ps (defScope st)) (len : ∀ ds M Q, fs ds M Q → ds.length = ps.length)
    (φ : DS) (body : ∀ (cdv : Value) (A : Around) (outer : List PySem.Env) (s : Shared) (H : Hp) (E : XK), Room k (A.deeper (envOfC qual (defScope st) s.heap.objs.size f cdv)) → ∃ t, BX (cxOf CX0 P w K mg base N qual (defScope st) f cdv A outer s H E).nox (defBody st) t φ)
    (rd : ∀ ds M Q, fs ds M Q → φ (enD M Q) (startD N ds) M) : FnOk P w K mg base CX0 (k + 1) f fd ps (spD K fs) := by
  refine F.ok S (fun vs H Q E h => ?_) (fun cdv A outer s H vs Q E hr h => ?_)
  · obtain ⟨ds, M, B, QD, ra, _, hf, _⟩ := h
    rw [ra.length]
    exact len ds M QD hf
  · obtain ⟨ds, M, B, QD, ra, hc, hf, kk⟩ := h
    obtain ⟨t, hb⟩ := body cdv A outer s H E hr
    exact ⟨t, hb.ps, hb.s (enD M QD) (startD N ds) M (L2.start N vs) B H _ (start_sr ra) hc (rd ds M QD hf) (leave_ok hc kk)⟩
/-- .. where nothing is being shown -/
theorem fn_G {x qual : Str} {st : Stmt} {f : Addr} {fd : FuncData} {N ps : List Str} {k : Nat} {fs : FS} (F : Fun K x qual st f fd) (S : FnScope N ps (defScope st)) (len : ∀ ds M Q, fs ds M Q → ds.length = ps.length)
    (φ : DS) (body : ∀ (cdv : Value) (A : Around) (outer : List PySem.Env) (s : Shared) (H : Hp) (E : XK), Room k (A.deeper (envOfC qual (defScope st) s.heap.objs.size f cdv)) → (A.deeper (envOfC qual (defScope st) s.heap.objs.size f cdv)).guards = some [] →
      ∃ t, BX (cxOf CX0 P w K mg base N qual (defScope st) f cdv A outer s H E).nox (defBody st) t φ)
    (rd : ∀ ds M Q, fs ds M Q → φ (enD M Q) (startD N ds) M) : FnG P w K mg base (k + 1) f fd ps fs := by
  obtain ⟨oc, od, kV, doc, pm, an, cdv, ct, osl, rfl, lk, hcd⟩ := F.ex
  refine ⟨len, fun A outer s H args us vs Q E room hgu e0 hbind vals hsp => ?_⟩
  obtain ⟨ds, M, B, QD, ra, hc, hf, kk⟩ := hsp
  have hn : vs.length = ps.length := by
    rw [ra.length]
    exact len ds M QD hf
  have kin : K.In s.heap := e0.mod.kin.keeps fun b o e => (e0.bs b o e).1
  have nolim : s.heap.NoLimit := e0.mod.nolimit.keeps fun b o e => (e0.bs b o e).1
  have kinds : ∀ y ∈ ps.zip us, (defScope st).names.lookup y.1 = some .local ∨ ((defScope st).names.lookup y.1 = some .cell ∧ ((cellsFrom (s.heap.objs.size + 1) (defScope st).names []).lookup y.1).isSome = true) := by
    rintro ⟨nm, u⟩ hy
    rcases S.par nm (List.of_mem_zip hy).1 with q | q
    · exact .inl q
    · exact .inr ⟨q, PySem.W.cellsFrom_some _ _ _ (.inl q)⟩
  refine codeAny_call_function room.depth (kin _ _ lk) rfl S.co S.gen rfl (PySem.W.codeRec_of kin hcd) (hbind _ _ _ _ (wpAny_newFunctionEnv_cells S.kind kinds fun env he s1 ic => ?_))
  subst he
  refine ⟨nolim.keeps ic.toInCall.keep, codeAny_func ?_⟩
  obtain ⟨t, hb⟩ := body cdv A outer s H E (room.deeper _) hgu
  have I : Inv (cxOf CX0 P w K mg base N qual (defScope st) f cdv A outer s H E) [] (L2.start N vs) H s1 := inv_start S room.hd e0 hn vals ic
  have q := hb.s (enD M QD) (startD N ds) M (L2.start N vs) B H _ (start_sr ra) hc (rd ds M QD hf) (leave_ok hc kk)
  refine wpAny_mono (hb.ps.nox.run [] s1 (L2.start N vs) H _ I q) (fun fl s' z => ?_) fun _ _ z => z
  have done : ∀ {σ' : L2.St} {H' : Hp} {v : V} {u : Value}, Inv (cxOf CX0 P w K mg base N qual (defScope st) f cdv A outer s H E) [] σ' H' s' → RelV v u → Q v H' → CE outer P w H s Q u s' := fun J rv z => ⟨_, _, J.os, J.bare, J.base, J.hok, rv, z⟩
  match fl, z with
  | .ret u, ⟨v, σ', H', J, rv, z⟩ => exact done J rv z
  | .next, ⟨σ', H', J, z⟩ => exact done (v := V.non) (u := Value.none) J rfl z
  | .brk, ⟨_, _, _, z⟩ => exact False.elim z
  | .cont, ⟨_, _, _, z⟩ => exact False.elim z
end
end Dl
set_option Elab.async false
set_option linter.all false
set_option maxRecDepth 100000
set_option maxHeartbeats 4000000
namespace Dl
open PySem PySem.Spec PyProof.Rows L2
theorem RpA.of_ints {K : PySem.W.Frag} {B : Hp} : ∀ ns : List Int, RpA K B (ns.map V.int) (ns.map Dat.int)
  | [] => .nil
  | n :: ns => .cons (.int n) (RpA.of_ints ns)
/-- what a law promises: handed at most 63 ints, True -/
def fsLaw : FS := fun ds M Q => ∃ ns : List Int, ds = [.fz (ns.map Dat.int)] ∧ ns.length ≤ 63 ∧ ∀ M', Q (.d (.bl true)) M'
/-- the call of the law, at the heap behind the top -/
theorem law_run {P : Program} {w : World} {K : PySem.W.Frag} {mg mb : Str → Option Value} {k : Nat} {fa a : Addr} {fd : FuncData} {x : Str} {s₁ : Shared} {vs : List Value} {ns : List Int} (hK : K.In s₁.heap) (hmain : s₁.heap.Ns mainGlobals mg) (hblt : s₁.heap.Ns builtinsNs mb)
    (hbb : ∀ x : Str, x ≠ "__name__" → mb x = bootBuiltins x) (hlim : s₁.heap.NoLimit) (hgens : s₁.gens = #[]) (ha : s₁.heap.get? a = some { cls := .type "list", data := .seq vs.toArray }) (hi : IntsAre vs ns) (h63 : ns.length ≤ 63) (room : Room k callerA)
    (F : ∀ base : Heap, K.In base → base.Ns mainGlobals mg → FnG P w K mg base k fa fd [x] fsLaw) (hbind : ∀ (s : Shared) (u : Value), BindsTo s fd ⟨[u], []⟩ [(x, u)]) :
    codeAny (model P w) callerA (.call (.ref fa) ⟨[.ref a], []⟩) (fun r s' => r = .ok (.ret (.bool true)) ∧ OldK s₁.heap s'.heap ∧ s'.os = s₁.os ∧ AllBare s'.gens) s₁ := by
  have rv : Vals (ns.map V.int) vs := vals_ints hi
  have hline : ns.length ≤ sizeLine := Nat.le_trans h63 (by decide)
  -- at any abstract heap that tracks nothing but, perhaps, the script as a locked list
  have go : ∀ H : Hp, (∀ b u, H b = some u → b = a ∧ ∃ o xs, u = .frz o (.lst xs)) → (∀ u, H a = some u → K.lookup a = none) → HOk P w H s₁.heap → SqL K H a (ns.map V.int) →
      codeAny (model P w) callerA (.call (.ref fa) ⟨[.ref a], []⟩) (fun r s' => r = .ok (.ret (.bool true)) ∧ OldK s₁.heap s'.heap ∧ s'.os = s₁.os ∧ AllBare s'.gens) s₁ := by
    intro H only written ok seq
    have free : ∀ {b : Addr} {o : Obj} {es : Array DictEntry} {ep : Nat}, s₁.heap.get? b = some o → o.data = .dict es ep → H b = none := by
      intro b o es ep e d
      match q : H b with
      | none => rfl
      | some u =>
        obtain ⟨rfl, _⟩ := only b u q
        have e' := Option.some.inj (ha.symm.trans e)
        rw [← e'] at d
        cases d
    have keepNs : ∀ {b : Addr} {m : Str → Option Value}, s₁.heap.Ns b m → (hidT s₁.heap H).Ns b m := by
      rintro b m ⟨o, es, ep, e, d, rest⟩
      exact ⟨o, es, ep, hidT_get e (free e d), d, rest⟩
    have inB : K.In (hidT s₁.heap H) := by
      intro b o e
      refine hidT_get (hK b o e) ?_
      match q : H b with
      | none => rfl
      | some u =>
        obtain ⟨rfl, _⟩ := only b u q
        rw [written u q] at e
        cases e
    obtain ⟨mc, l1, l2⟩ := hlim
    have md : Mod K mg (hidT s₁.heap H) := ⟨inB, keepNs hmain, ⟨mb, keepNs hblt, hbb⟩, ⟨mc, keepNs l1, l2⟩⟩
    have env : Env0 P w K mg (hidT s₁.heap H) callerA [] s₁ H := by
      refine ⟨rfl, md, fun b o e => of_hidT e, Nat.le_of_eq (hidT_size _ _), trivial, fun b hb => ?_, ok, .of_eq hgens⟩
      exact absurd (show b ∈ ([] : List Addr) from hb) List.not_mem_nil
    have promise : spD K fsLaw [.ref a] H (fun v _ => v = .bl true) fun _ _ _ => False := by
      refine ⟨[.fz (ns.map Dat.int)], fun _ => none, H, fun r _ => r = .d (.bl true), .cons (.fz seq (RpA.of_ints ns)) .nil, ⟨Ex.refl H, fun p m e => by cases e⟩, ⟨ns, rfl, h63, fun _ => rfl⟩, fun r M' v B' H' q n rr => ?_⟩
      subst q
      cases rr
      rfl
    refine codeAny_mono ((F _ inB (keepNs hmain)).run callerA [] s₁ H ⟨[.ref a], []⟩ [.ref a] [.ref a] _ _ room rfl env (hbind s₁ (.ref a)) (.cons rfl .nil) promise) fun r s' h => ?_
    match r, h with
    | .error e, h => exact False.elim h
    | .ok .next, h => exact False.elim h
    | .ok .brk, h => exact False.elim h
    | .ok .cont, h => exact False.elim h
    | .ok (.ret u), h =>
      obtain ⟨v, H', os, bare, un, ok', rel, q⟩ := h
      subst q
      have eu : u = Value.bool true := rel
      subst eu
      refine ⟨rfl, OldK.of_keep fun b o e => ?_, os, bare⟩
      match q : H b with
      | none => exact un.keep b o e q (fun z => absurd (show b ∈ ([] : List Addr) from z) List.not_mem_nil) List.not_mem_nil
      | some u =>
        obtain ⟨_, ob, xs, rfl⟩ := only b u q
        have e1 := (ok b _ q).1
        have e2 := (ok' b _ (un.frzs b ob _ q)).1
        rw [e] at e1
        cases e1
        exact e2
  match q : K.lookup a with
  | some o =>
    have eo := Option.some.inj ((hK a o q).symm.trans ha)
    refine go (fun _ => none) (fun b u z => by cases z) (fun u z => by cases z) (fun b u z => by cases z) ?_
    refine .inr ⟨o, vs.toArray, 0, q, by rw [eo], by rw [eo], by rw [eo], by rw [List.size_toArray, hi.length]; exact hline, by simpa using rv⟩
  | none =>
    let ob : Obj := { cls := .type "list", data := .seq vs.toArray }
    let u0 : HO := .frz ob (.lst (ns.map V.int))
    have at_ : (fun b => if b = a then some u0 else none : Hp) a = some u0 := if_pos rfl
    refine go (fun b => if b = a then some u0 else none) (fun b u z => ?_) (fun _ _ => q) (fun b u z => ?_) (.inl (.inr ⟨ob, at_⟩))
    · by_cases e : b = a
      · refine ⟨e, ob, ns.map V.int, ?_⟩
        have z' := (if_pos e).symm.trans z
        exact (Option.some.inj z').symm
      · have z' := (if_neg e).symm.trans z
        cases z'
    · by_cases e : b = a
      · have z' := (if_pos e).symm.trans z
        cases z'
        subst e
        exact ⟨ha, by rw [List.length_map]; exact hline, vs, 0, rv, ha⟩
      · have z' := (if_neg e).symm.trans z
        cases z'
/-- a law's end over a head by facts -/
theorem walk_D {l : PySem.W.OpenLaw} {k : Nat} {q : Program} {loose : List Str} {XP : (Str → Option Value) → Heap → Prop} {YP : World → Heap → Prop} {d : DefRec} {x : Str} (hn : l.most = some 63) (hdf : d.params.defaults = []) (room : Room k callerA)
    (F : ∀ (w : World) (mg : Str → Option Value) (fa : Addr) (h : Heap), YP w h → h.Ns mainGlobals mg → mg d.name = some (.ref fa) →
      ∃ (K : PySem.W.Frag) (fd : FuncData), K.In h ∧ (∀ (s : Shared) (u : Value), BindsTo s fd ⟨[u], []⟩ [(x, u)]) ∧ ∀ base : Heap, K.In base → base.Ns mainGlobals mg → FnG l.prog w K mg base k fa fd [x] fsLaw) :
    PySem.W.WalkO q loose XP YP l.row.toRowW d [] (fun f vs => PySem.call f vs) := by
  refine Att.attach_call hn hdf fun w s₀ s₁ mg mb fa o pm cd doc a vs ns G Y _ _ _ hmg hobj hints hlen hg => ?_
  obtain ⟨K, fd, hK, hb, hF⟩ := F w mg fa _ Y G.T.g hmg
  exact law_run hK G.T.g G.T.b G.T.builtins G.T.nolimit hg hobj hints hlen room hF hb
end Dl
set_option Elab.async false
set_option linter.all false
set_option maxRecDepth 100000
set_option maxHeartbeats 4000000
namespace Dl
open PySem PySem.Spec PyProof.Rows L2 StX
theorem fun_of {K : PySem.W.Frag} {x qual : Str} {st : Stmt} {f : Addr} {fd : FuncData} (F : FunD K x qual (defArgs st) (defBody st) (defScope st) [] [] f fd) : Fun K x qual st f fd := by
  obtain ⟨oc, od, dV, kV, doc, pm, an, cdv, ct, osl, e, lk, hcd, hD, _⟩ := F.ex
  rcases hD with ⟨_, e2⟩ | ⟨e2, _⟩
  · subst e2
    exact ⟨⟨oc, od, kV, doc, pm, an, cdv, ct, osl, e, lk, hcd⟩, F.kp⟩
  · exact absurd rfl e2
section
variable {X : Cx} {K : PySem.W.Frag}
/-! ### operators of one's own -/
/-- the class has the operator's method as a def -/
structure OpOf (K : PySem.W.Frag) (C : Addr) (m : Str) (f : Addr) : Prop where
  sf : PySem.W.selfFirst K C = true
  at_ : PySem.W.findIn K (.ref C) m = some (some (.ref f))
  fn : PySem.W.isFn K (.ref f) = true
def rOwn (C0 : Addr) (sp : Sp) : R2 := fun x y H Q => ∃ a b dx dy vs ws, x = .ref a ∧ y = .ref b ∧ H a = some (.ins C0 dx vs) ∧ H b = some (.ins C0 dy ws) ∧ sp [.ref a, .ref b] H Q E0
theorem op_own {op : Operator} {k : Nat} {f C0 : Addr} {fd : FuncData} {ps : List Str} {sp : Sp} (h : OpOf X.K C0 (PySem.dunder op.info.2) f) (F : FnOk X.prog X.w X.K X.mg X.base CX0 k f fd ps sp) (hr : Room k X.A) (hb : Binds X.K fd ps []) : OpR X (binaryOp op) (rOwn C0 sp) := by
  intro pins s σ H x y v u Q I rx ry hq
  obtain ⟨a, b, dx, dy, vs, ws, rfl, rfl, ha, hb', q⟩ := hq
  cases rx
  cases ry
  obtain ⟨m, fr⟩ := I.fr
  obtain ⟨_, O1, _⟩ := ins_get I.hok ha
  obtain ⟨_, O2, _⟩ := ins_get I.hok hb'
  obtain ⟨od1, I1, _⟩ := O1.look
  obtain ⟨od2, I2, _⟩ := O2.look
  refine PySem.W.binop_K fr I.ok.mod.kin I1 I2.type h.sf h.at_ h.fn ?_
  refine thn (run_fn (Q := Q) (dvs := []) (vs := [.ref a, .ref b]) F hr hb .nil pass0 I (.cons rfl (.cons rfl .nil)) q) fun r s' hr' => ?_
  obtain ⟨w, H', I', rw_, qw⟩ := hr'
  have z : EP X pins σ Q r s' := ⟨w, H', I', rw_, qw⟩
  cases r with
  | notImplemented =>
    cases w with
    | int i => obtain ⟨_, e⟩ := rw_; cases e
    | str i => obtain ⟨_, e⟩ := rw_; cases e
    | byt i => obtain ⟨_, e⟩ := rw_; cases e
    | flt i => obtain ⟨_, e⟩ := rw_; cases e
    | _ => cases rw_
  | _ => exact z
def oOwn (C0 : Addr) (fs : FS) : D2 := fun ra rb M Q => ∃ d e gs hs, ra = .d d ∧ rb = .d e ∧ insR C0 M d gs ∧ insR C0 M e hs ∧ fs [d, e] M Q
theorem s2_own {C0 : Addr} {fs : FS} : S2 K (rOwn C0 (spD K fs)) (oOwn C0 fs) := by
  intro B M H0 H x y rx ry Q QV hc h1 h2 q k
  obtain ⟨d, e, gs, hs, rfl, rfl, g1, g2, q⟩ := q
  obtain ⟨a, dx, vs, rfl, i1, _⟩ := g1.at hc h1
  obtain ⟨b, dy, ws, rfl, i2, _⟩ := g2.at hc h2
  exact ⟨a, b, dx, dy, vs, ws, rfl, rfl, i1, i2, [d, e], M, B, Q, .cons h1 (.cons h2 .nil), hc, q, k⟩
theorem ex_own {op : Operator} {k : Nat} {f C0 : Addr} {fd : FuncData} {ps : List Str} {fs : FS} {a b : Expr} {ta tb : TE} {φa φb : DE} {pos : Pos} (h : OpOf X.K C0 (PySem.dunder op.info.2) f) (F : FnOk X.prog X.w X.K X.mg X.base CX0 k f fd ps (spD X.K fs)) (hr : Room k X.A) (hb : Binds X.K fd ps [])
    (ha : EX X a ta φa) (hb' : EX X b tb φb) : EX X (.BinOp a op b pos) (tOp (rOwn C0 (spD X.K fs)) ta tb) (dOp (oOwn C0 fs) φa φb) := ex_op (op_own h F hr hb) s2_own ha hb'
/-! ### def m(self, *v) -/
def spStar (K : PySem.W.Frag) (n : Nat) (fs : FS) : Sp := fun vs H Q E => ∃ ws rest, vs = ws ++ rest ∧ ws.length = n ∧ rest.length ≤ sizeLine ∧ ∀ p, H p = Option.none → spD K fs (ws ++ [V.ref p]) (upd H p (.tup rest)) Q E
/-- the promise of a method with *v alone behind self, as its callers see it -/
def fsStar (fs : FS) : FS := fun ds M Q => match ds with
  | d :: r => r.length ≤ sizeLine ∧ fs [d, .tup r] M Q
  | [] => False
theorem sp_star {B : Hp} {M : Mem} {H : Hp} {vs : List V} {ds : List Dat} {fs : FS} {Q : Rv → Mem → Prop} {QV : VK} {E : XK} (hc : Cs K B M H) (ra : RpA K B vs ds) (h : fsStar fs ds M Q) (k : ∀ r M' v B' H', Q r M' → Nx K B M H B' M' H' → RR K B' M' H H' v r → QV v H') : spStar K 1 fs vs H QV E := by
  cases ra with
  | nil => exact h.elim
  | cons r1 r2 =>
    rename_i v vs d ds
    obtain ⟨hz, h⟩ := h
    refine ⟨[v], vs, rfl, rfl, by rw [r2.length]; exact hz, fun p hp => ?_⟩
    obtain ⟨n, g⟩ := RR.newT hc hp r2
    exact ⟨[d, .tup ds], M, _, Q, .cons (r1.mono n.ext) (.cons g .nil), n.st, h, fun r M' v' B' H' q n' rr => k r M' v' B' H' q (n.trans n') (rr.back n)⟩
theorem ex_methS {k : Nat} {f C0 : Addr} {m : Str} {apos pos : Pos} {o e : Expr} {es : List Expr} {to : TE} {t : TA} {φ : DE} {ψ : DA} {fs : FS} {pl : Sem Bool} (ho : EX X o to φ) (c : Cls X.K C0) (hm : Meth X.K C0 m f) (F : FnR X.prog X.w X.K X.mg X.base CX0 k f (spStar X.K 1 fs)) (hr : Room k X.A) (ha : AX X (e :: es) t ψ)
    (hst : starEach (e :: es) X.env = (false, eval e X.env) :: starEach es X.env := by rfl) (hpl : (backTo pos (starEach es X.env)).any (·.1) = false := by rfl)
    (ht : eval (.Call (.Attribute o m apos) (e :: es) [] pos) X.env = (do
      let ov ← eval o X.env
      standAt apos.atName
      let (f, first) ← holding [ov] (getMethod ov m pl)
      callWith pos f first (backTo pos (starEach (e :: es) X.env)) (backToKw pos (keywordEach [] X.env))) := by rfl) :
    EX X (.Call (.Attribute o m apos) (e :: es) [] pos) (tMethR C0 m (spStar X.K 1 fs) E0 to t) (dMeth C0 m (fsStar fs) φ ψ) := by
  refine ⟨pe_methR ho.pe c hm F hr pass0 ha.pa hst hpl ht, fun env M Q σ B H QV hs hc q k => ?_⟩
  refine ho.s env M _ σ B H _ hs hc q fun r M1 v B1 H1 q1 n1 r1 => ?_
  obtain ⟨d, gs, rfl, gi, gl, q2⟩ := q1
  obtain ⟨a, dx, vs, rfl, h1, h2⟩ := gi.at n1.st r1
  refine ⟨a, dx, vs, rfl, h1, h2.none gl, ?_⟩
  refine ha.s env M1 _ σ B1 H1 _ (hs.mono n1.ext) n1.st q2 fun ds M2 ws B2 H2 q3 n2 r2 => ?_
  have n12 := n1.trans n2
  exact sp_star n2.st (.cons (Rp.mono n2.ext r1) r2) q3 fun r M' v B' H' q4 n3 r3 => k r M' v B' H' q4 (n12.trans n3) (r3.back n12)
end
/-- a def m(self, *v) that raises nothing -/
theorem fn_star_D {P : Program} {w : World} {K : PySem.W.Frag} {mg : Str → Option Value} {base : Heap} {x qual : Str} {st : Stmt} {f : Addr} {fd : FuncData} {N : List Str} {k : Nat} {fs : FS} {self pv : Str} (F : Fun K x qual st f fd) (S : FnScope N [self, pv] (defScope st))
    (φ : DS) (body : ∀ (cdv : Value) (A : Around) (outer : List PySem.Env) (s : Shared) (H : Hp) (E : XK), Room k (A.deeper (envOfC qual (defScope st) s.heap.objs.size f cdv)) → ∃ t, BX (cxOf CX0 P w K mg base N qual (defScope st) f cdv A outer s H E).nox (defBody st) t φ)
    (rd : ∀ ds M Q, fs ds M Q → φ (enD M Q) (startD N ds) M)
    (hb : ∀ (kV doc pm : Value) (an : Option Addr) (cdv ct : Value) (us rest : List Value), us.length = 1 → bindArgs (PySem.W.fnOf x qual (defArgs st) (defBody st) (defScope st) .none kV doc pm an cdv ct) ⟨us ++ rest, []⟩ = (newTuple rest >>= fun t => pure ([self].zip us ++ [(pv, t)]))) :
    FnR P w K mg base CX0 (k + 1) f (spStar K 1 fs) := by
  obtain ⟨oc, od, kV, doc, pm, an, cdv, ct, osl, rfl, lk, hcd⟩ := F.ex
  refine fn_star (ps := [self]) (pv := pv) lk hcd S cxUp_none (hb kV doc pm an cdv ct) fun A outer s H vs Q E hr hsp => ?_
  obtain ⟨ds, M, B, QD, ra, hc, hf, kk⟩ := hsp
  obtain ⟨t, h⟩ := body cdv A outer s H E hr
  exact ⟨t, h.ps.nox, h.s (enD M QD) (startD N ds) M (L2.start N vs) B H _ (start_sr ra) hc (rd ds M QD hf) (leave_ok hc kk)⟩
end Dl
set_option Elab.async false
set_option linter.all false
set_option maxRecDepth 100000
set_option maxHeartbeats 4000000
namespace Dl
open PySem PySem.Spec PyProof.Rows L2 StX ClX
/-! ### what is known of the other defs -/
section
variable (P : Program) (w : World) (K : PySem.W.Frag) (mg : Str → Option Value) (base : Heap)
def KnO (x : Str) (k : Nat) (fs : FS) : Prop := ∃ f fd ps, FnOk P w K mg base CX0 k f fd ps (spD K fs) ∧ mg x = some (.ref f) ∧ PySem.W.keepIn K (.ref f) = true ∧ Binds K fd ps []
def KnG (x : Str) (k : Nat) (fs : FS) : Prop := ∃ f fd ps, FnG P w K mg base k f fd ps fs ∧ mg x = some (.ref f) ∧ PySem.W.keepIn K (.ref f) = true ∧ Binds K fd ps []
def KnM (C : Addr) (m : Str) (k : Nat) (fs : FS) : Prop := ∃ f fd ps, FnOk P w K mg base CX0 k f fd ps (spD K fs) ∧ Meth K C m f ∧ Binds K fd ps []
def KnP (C : Addr) (m : Str) (k : Nat) (fs : FS) : Prop := ∃ q f fd ps, FnOk P w K mg base CX0 k f fd ps (spD K fs) ∧ PropOf K C m q f ∧ Binds K fd ps []
def KnI (x : Str) (C : Addr) (k : Nat) (fs : FS) : Prop := ∃ f fd ps, FnOk P w K mg base CX0 k f fd ps (spD K fs) ∧ Mk K C f ∧ mg x = some (.ref C) ∧ Binds K fd ps []
def KnS (C : Addr) (m : Str) (k : Nat) (fs : FS) : Prop := ∃ f, FnR P w K mg base CX0 k f (spStar K 1 fs) ∧ Meth K C m f
def KnB (C : Addr) (m : Str) (k : Nat) (fs : FS) : Prop := ∃ f fd ps, FnOk P w K mg base CX0 k f fd ps (spD K fs) ∧ OpOf K C m f ∧ Binds K fd ps []
end
section
variable {X : Cx} {k : Nat} {x m : Str} {fs : FS} {p pos apos : Pos} {e o : Expr} {es : List Expr} {t : TA} {to : TE} {ψ : DA} {φ : DE} {C : Addr}
theorem ex_callO (h : KnO X.prog X.w X.K X.mg X.base x k fs) (hr : Room k X.A) (ha : AX X (e :: es) t ψ) (hg : Gl X x := by rfl)
    (hdb : (x == ("__debug__" : Str)) = false := by decide) (he : starEach (e :: es) X.env = (false, eval e X.env) :: starEach es X.env := by rfl) (hpl : (backTo pos (starEach es X.env)).any (·.1) = false := by rfl) :
    EX X (.Call (.Name x p) (e :: es) [] pos) (tCall (spD X.K fs) [] E0 t) (dCB fs ψ) := by
  obtain ⟨f, fd, ps, F, hm, hk, hb⟩ := h
  exact ex_call F hr hm hk hb ha hg hdb he hpl
theorem ex_callg (h : KnG X.prog X.w X.K X.mg X.base x k fs) (hgu : X.A.guards = some []) (hr : Room k X.A) (ha : AX X (e :: es) t ψ) (hg : Gl X x := by rfl)
    (hdb : (x == ("__debug__" : Str)) = false := by decide) (he : starEach (e :: es) X.env = (false, eval e X.env) :: starEach es X.env := by rfl) (hpl : (backTo pos (starEach es X.env)).any (·.1) = false := by rfl) :
    EX X (.Call (.Name x p) (e :: es) [] pos) (tCall (spD X.K fs) [] E0 t) (dCB fs ψ) := by
  obtain ⟨f, fd, ps, F, hm, hk, hb⟩ := h
  exact ex_callG F hgu hr hm hk hb ha hg hdb he hpl
theorem ex_methK {pl : Sem Bool} (c : Cls X.K C) (h : KnM X.prog X.w X.K X.mg X.base C m k fs) (hr : Room k X.A) (ho : EX X o to φ) (ha : AX X (e :: es) t ψ)
    (hst : starEach (e :: es) X.env = (false, eval e X.env) :: starEach es X.env := by rfl) (hpl : (backTo pos (starEach es X.env)).any (·.1) = false := by rfl)
    (ht : eval (.Call (.Attribute o m apos) (e :: es) [] pos) X.env = (do
      let ov ← eval o X.env
      standAt apos.atName
      let (f, first) ← holding [ov] (getMethod ov m pl)
      callWith pos f first (backTo pos (starEach (e :: es) X.env)) (backToKw pos (keywordEach [] X.env))) := by rfl) :
    EX X (.Call (.Attribute o m apos) (e :: es) [] pos) (tMeth C m (spD X.K fs) [] E0 to t) (dMeth C m fs φ ψ) := by
  obtain ⟨f, fd, ps, F, hm, hb⟩ := h
  exact ex_meth ho c hm F hr hb ha hst hpl ht
theorem ex_methK0 {pl : Sem Bool} (c : Cls X.K C) (h : KnM X.prog X.w X.K X.mg X.base C m k fs) (hr : Room k X.A) (ho : EX X o to φ)
    (ht : eval (.Call (.Attribute o m apos) [] [] pos) X.env = (do
      let ov ← eval o X.env
      standAt apos.atName
      let (f, first) ← holding [ov] (getMethod ov m pl)
      callWith pos f first (backTo pos (starEach [] X.env)) (backToKw pos (keywordEach [] X.env))) := by rfl) :
    EX X (.Call (.Attribute o m apos) [] [] pos) (tMeth C m (spD X.K fs) [] E0 to tNil) (dMeth C m fs φ dNil) := by
  obtain ⟨f, fd, ps, F, hm, hb⟩ := h
  exact ex_meth0 ho c hm F hr hb ht
theorem ex_methKS {pl : Sem Bool} (c : Cls X.K C) (h : KnS X.prog X.w X.K X.mg X.base C m k fs) (hr : Room k X.A) (ho : EX X o to φ) (ha : AX X (e :: es) t ψ)
    (hst : starEach (e :: es) X.env = (false, eval e X.env) :: starEach es X.env := by rfl) (hpl : (backTo pos (starEach es X.env)).any (·.1) = false := by rfl)
    (ht : eval (.Call (.Attribute o m apos) (e :: es) [] pos) X.env = (do
      let ov ← eval o X.env
      standAt apos.atName
      let (f, first) ← holding [ov] (getMethod ov m pl)
      callWith pos f first (backTo pos (starEach (e :: es) X.env)) (backToKw pos (keywordEach [] X.env))) := by rfl) :
    EX X (.Call (.Attribute o m apos) (e :: es) [] pos) (tMethR C m (spStar X.K 1 fs) E0 to t) (dMeth C m (fsStar fs) φ ψ) := by
  obtain ⟨f, F, hm⟩ := h
  exact ex_methS ho c hm F hr ha hst hpl ht
theorem ex_propK (c : Cls X.K C) (h : KnP X.prog X.w X.K X.mg X.base C m k fs) (hr : Room (k + 1) X.A) (ho : EX X e to φ) (hab : attributeBase e m X.env (eval e X.env) = eval e X.env := by rfl) :
    EX X (.Attribute e m pos) (tProp C (spD X.K fs) [] E0 to) (dProp C fs φ) := by
  obtain ⟨q, f, fd, ps, F, hp, hb⟩ := h
  exact ex_prop ho c hp F hr hb hab
theorem ex_makeK (h : KnI X.prog X.w X.K X.mg X.base x C k fs) (hr : Room (k + 1) X.A) (ha : AX X (e :: es) t ψ) (hg : Gl X x := by rfl)
    (hdb : (x == ("__debug__" : Str)) = false := by decide) (he : starEach (e :: es) X.env = (false, eval e X.env) :: starEach es X.env := by rfl) (hpl : (backTo pos (starEach es X.env)).any (·.1) = false := by rfl) :
    EX X (.Call (.Name x p) (e :: es) [] pos) (tMake C (spD X.K fs) [] E0 t) (dMake C fs ψ) := by
  obtain ⟨f, fd, ps, F, M, hm, hb⟩ := h
  exact ex_make M F hr hm hb ha hg hdb he hpl
theorem ex_ownK {op : Operator} {a b : Expr} {ta tb : TE} {φa φb : DE} (h : KnB X.prog X.w X.K X.mg X.base C (PySem.dunder op.info.2) k fs) (hr : Room k X.A) (ha : EX X a ta φa) (hb : EX X b tb φb) :
    EX X (.BinOp a op b pos) (tOp (rOwn C (spD X.K fs)) ta tb) (dOp (oOwn C fs) φa φb) := by
  obtain ⟨f, fd, ps, F, ho, hbb⟩ := h
  exact ex_own ho F hr hbb ha hb
end
end Dl
set_option Elab.async false
set_option linter.all false
set_option maxRecDepth 100000
set_option maxHeartbeats 4000000
namespace Dl
open PySem PySem.Spec PyProof.Rows L2 StX ClX
/-- a constant of a class, by the class's name -/
def KnV (K : PySem.W.Frag) (mg : Str → Option Value) (x f : Str) (d : Dat) : Prop := ∃ C mc v u, mg x = some (.ref C) ∧ CRead K C mc ∧ CVal K C mc f v u ∧ ∀ B, Rp K B v d
def tCvK (K : PySem.W.Frag) (mg : Str → Option Value) (x f : Str) (d : Dat) : TE := fun σ H Q => ∃ C, mg x = some (.ref C) ∧ tCVal K (tC (.ref C)) f σ H Q
/-- the widest reading that a data reading gives -/
def tOf (K : PySem.W.Frag) (φ : DE) : TE := fun σ H QV => ∃ env M Q B, SR K B σ env ∧ Cs K B M H ∧ φ env M Q ∧ ∀ r M' v B' H', Q r M' → Nx K B M H B' M' H' → RR K B' M' H H' v r → QV v H'
def tOfT (K : PySem.W.Frag) (φ : DT) : TT := fun σ H QV => ∃ env M Q B, SR K B σ env ∧ Cs K B M H ∧ φ env M Q ∧ ∀ b M' B' H', Q b M' → Nx K B M H B' M' H' → QV b H'
theorem EX.of {X : Cx} {e : Expr} {t : TE} {φ : DE} (h : EX X e t φ) : EX X e (tOf X.K φ) φ := ⟨⟨fun pins s σ H Q I ⟨env, M, Q', B, hs, hc, q, k⟩ => h.pe.run pins s σ H Q I (h.s env M Q' σ B H Q hs hc q k)⟩, fun env M Q σ B H QV hs hc q k => ⟨env, M, Q, B, hs, hc, q, k⟩⟩
theorem TsX.of {X : Cx} {e : List Expr} {t : TT} {φ : DT} (h : TsX X e t φ) : TsX X e (tOfT X.K φ) φ := ⟨⟨fun pins s σ H Q I ⟨env, M, Q', B, hs, hc, q, k⟩ => h.pt.run pins s σ H Q I (h.s env M Q' σ B H Q hs hc q k)⟩, fun env M Q σ B H QV hs hc q k => ⟨env, M, Q, B, hs, hc, q, k⟩⟩
section
variable {X : Cx} {j : Nat} {x : Str} {px pos : Pos} {elt iter : Expr} {ifs : List Expr} {scope : Scope} {wi : TI} {tt : TT} {te : TE} {ω : DW} {τ : DT} {φ : DE}
theorem ex_cvalK {x f : Str} {d : Dat} {p pos : Pos} (h : KnV X.K X.mg x f d) (hg : Gl X x := by rfl) (hd : (x == ("__debug__" : Str)) = false := by decide)
    (hb : attributeBase (.Name x p) f X.env (eval (.Name x p) X.env) = eval (.Name x p) X.env := by rfl) : EX X (.Attribute (.Name x p) f pos) (tCvK X.K X.mg x f d) (dC d) := by
  obtain ⟨C, mc, v, u, hm, r, c, rel⟩ := h
  have g := ex_cval (pos := pos) hm r c rel hg hd hb
  refine ⟨⟨fun pins s σ H Q I q => g.pe.run pins s σ H Q I ?_⟩, fun env M Q σ B H QV hs hc q k => ⟨C, hm, g.s env M Q σ B H QV hs hc q k⟩⟩
  obtain ⟨C', h1, q⟩ := q
  rw [hm] at h1
  cases h1
  exact q
theorem ex_lcx (hc : X.calm = true) (hN : X.N.Nodup) (hi : IX X (.Name x px) iter wi ω) (ok : BlkOk X.N X.env.scope scope [(x, j)])
    (hg : ∀ (s : Shared) (H : Hp) (C : Addr) (cl : List (Str × Addr)) (fp : List Addr), PG (X.blk s H scope (compEnvC scope cl C X.env) fp) (.Name x px) (gName j)) (ht : ∀ (s : Shared) (H : Hp) (C : Addr) (cl : List (Str × Addr)) (fp : List Addr), ∃ tt, TsX (X.blk s H scope (compEnvC scope cl C X.env) fp) ifs tt τ)
    (he : ∀ (s : Shared) (H : Hp) (C : Addr) (cl : List (Str × Addr)) (fp : List Addr), ∃ te, EX (X.blk s H scope (compEnvC scope cl C X.env) fp) elt te φ) (hs : ∀ x, foldedSetIterable iter X.env x = pure x := by intro _; rfl) :
    EX X (.ListComp elt [⟨.Name x px, iter, ifs, 0⟩] scope pos) (tLc wi (gName j) (tOfT X.K τ) (tOf X.K φ) [j]) (dLc ω j τ φ) := ex_lc hc hN hi ok hg (fun s H C cl fp => (ht s H C cl fp).elim fun _ h => h.of) (fun s H C cl fp => (he s H C cl fp).elim fun _ h => h.of) hs
theorem sx_setLcC {i : Nat} {y : Str} {py spos : Pos} (hc : X.calm = true) (hN : X.N.Nodup) (hi : IX X (.Name x px) iter wi ω) (ok : BlkOk X.N X.env.scope scope [(x, j)])
    (hg : ∀ (s : Shared) (H : Hp) (C : Addr) (cl : List (Str × Addr)) (fp : List Addr), PG (X.blk s H scope (compEnvC scope cl C X.env) fp) (.Name x px) (gName j)) (ht : ∀ (s : Shared) (H : Hp) (C : Addr) (cl : List (Str × Addr)) (fp : List Addr), ∃ tt, TsX (X.blk s H scope (compEnvC scope cl C X.env) fp) ifs tt τ)
    (he : ∀ (s : Shared) (H : Hp) (C : Addr) (cl : List (Str × Addr)) (fp : List Addr), ∃ te, EX (X.blk s H scope (compEnvC scope cl C X.env) fp) elt te φ) (hsw : swapsWith (.ListComp elt [⟨.Name x px, iter, ifs, 0⟩] scope pos) (some (.Name y py)) spos.line X.env = pure true)
    (hy : X.N[i]? = some y := by rfl) (hyl : X.env.scope.names.lookup y = some .local := by rfl) (hs : ∀ x, foldedSetIterable iter X.env x = pure x := by intro _; rfl) :
    SX X (.Assign [.Name y py] (.ListComp elt [⟨.Name x px, iter, ifs, 0⟩] scope pos) spos) (tAsg (tLc wi (gName j) (tOfT X.K τ) (tOf X.K φ) [j]) (gName i)) (dSetC (dLc ω j τ φ) i) := sx_setLc true hc hN hi ok hg (fun s H C cl fp => (ht s H C cl fp).elim fun _ h => h.of) (fun s H C cl fp => (he s H C cl fp).elim fun _ h => h.of) hsw hy hyl hs
theorem sx_setLcD {i : Nat} {y : Str} {py spos : Pos} (hc : X.calm = true) (hN : X.N.Nodup) (hi : IX X (.Name x px) iter wi ω) (ok : BlkOk X.N X.env.scope scope [(x, j)])
    (hg : ∀ (s : Shared) (H : Hp) (C : Addr) (cl : List (Str × Addr)) (fp : List Addr), PG (X.blk s H scope (compEnvC scope cl C X.env) fp) (.Name x px) (gName j)) (ht : ∀ (s : Shared) (H : Hp) (C : Addr) (cl : List (Str × Addr)) (fp : List Addr), ∃ tt, TsX (X.blk s H scope (compEnvC scope cl C X.env) fp) ifs tt τ)
    (he : ∀ (s : Shared) (H : Hp) (C : Addr) (cl : List (Str × Addr)) (fp : List Addr), ∃ te, EX (X.blk s H scope (compEnvC scope cl C X.env) fp) elt te φ) (hsw : swapsWith (.ListComp elt [⟨.Name x px, iter, ifs, 0⟩] scope pos) (some (.Name y py)) spos.line X.env = pure true)
    (hy : X.N[i]? = some y := by rfl) (hyl : X.env.scope.names.lookup y = some .local := by rfl) (hs : ∀ x, foldedSetIterable iter X.env x = pure x := by intro _; rfl) :
    SX X (.Assign [.Name y py] (.ListComp elt [⟨.Name x px, iter, ifs, 0⟩] scope pos) spos) (tAsg (tLc wi (gName j) (tOfT X.K τ) (tOf X.K φ) [j]) (gName i)) (dSet (dLc ω j τ φ) i) := sx_setLc false hc hN hi ok hg (fun s H C cl fp => (ht s H C cl fp).elim fun _ h => h.of) (fun s H C cl fp => (he s H C cl fp).elim fun _ h => h.of) hsw hy hyl hs
end
end Dl
set_option Elab.async false
set_option linter.all false
set_option maxRecDepth 100000
set_option maxHeartbeats 4000000
namespace Dl
open PySem PySem.Spec PyProof.Rows L2
/-! ### loops, by what remains -/
section
variable {α : Type} {enc : α → Dat} {γ : DG} {φ : DS} {τ : DT} {ε : DE} {E : En} {env : Env} {M1 : Mem} {stay : Mem → Prop} {Q : List Dat → Mem → Prop} {j : Nat}
theorem map_drop_get {xs : List α} {i : Nat} {y : Dat} (h : (xs.map enc)[i]? = some y) : ∃ x, xs.drop i = x :: xs.drop (i + 1) ∧ y = enc x ∧ x ∈ xs := by
  rw [List.getElem?_map] at h
  cases e : xs[i]? with
  | none =>
    rw [e] at h
    cases h
  | some x =>
    rw [e] at h
    have hi : i < xs.length := by
      by_cases z : i < xs.length
      · exact z
      · rw [List.getElem?_eq_none (by omega)] at e
        cases e
    have e2 : xs[i] = x := by
      rw [List.getElem?_eq_getElem hi] at e
      exact Option.some.inj e
    refine ⟨x, ?_, (Option.some.inj h).symm, e2 ▸ List.getElem_mem hi⟩
    rw [List.drop_eq_getElem_cons hi, e2]
theorem for_rest (xs : List α) (J : List α → Env → Mem → Prop) (h0 : J xs env M1) (hst : ∀ r e m, J r e m → stay m) (step : ∀ x r e m, J (x :: r) e m → γ (enc x) e fun e' => φ ⟨J r, E.rt, E.nx, J r, E.ex⟩ e' m) (fin : ∀ e m, J [] e m → E.nx e m) :
    ∃ Inv : Nat → Env → Mem → Prop, Inv 0 env M1 ∧ (∀ i env' M', i ≤ (xs.map enc).length → Inv i env' M' → stay M') ∧
      (∀ i y env' M', (xs.map enc)[i]? = some y → Inv i env' M' → γ y env' fun env'' => φ ⟨Inv (i + 1), E.rt, E.nx, Inv (i + 1), E.ex⟩ env'' M') ∧ ∀ env' M', Inv (xs.map enc).length env' M' → E.nx env' M' := by
  refine ⟨fun i e m => J (xs.drop i) e m, h0, fun i e m _ h => hst _ _ _ h, fun i y e m hy h => ?_, fun e m h => fin e m ?_⟩
  · obtain ⟨x, e1, rfl, _⟩ := map_drop_get hy
    have h' : J (xs.drop i) e m := h
    rw [e1] at h'
    exact step x _ e m h'
  · have e1 : xs.drop (xs.map enc).length = [] := by rw [List.length_map, List.drop_length]
    have h' : J (xs.drop (xs.map enc).length) e m := h
    rw [e1] at h'
    exact h'
theorem for_rng {lo : Int} {n : Nat} (J : Nat → Env → Mem → Prop) (h0 : J 0 env M1) (step : ∀ i e m, i < n → J i e m → γ (.int (lo + i)) e fun e' => φ ⟨J (i + 1), E.rt, E.nx, J (i + 1), E.ex⟩ e' m) (fin : ∀ e m, J n e m → E.nx e m) :
    ∃ Inv : Nat → Env → Mem → Prop, Inv 0 env M1 ∧ (∀ i env' M', i ≤ (rngD lo n).length → Inv i env' M' → (fun _ => True) M') ∧
      (∀ i y env' M', (rngD lo n)[i]? = some y → Inv i env' M' → γ y env' fun env'' => φ ⟨Inv (i + 1), E.rt, E.nx, Inv (i + 1), E.ex⟩ env'' M') ∧ ∀ env' M', Inv (rngD lo n).length env' M' → E.nx env' M' := by
  refine ⟨J, h0, fun _ _ _ _ _ => trivial, fun i y e m hy h => ?_, fun e m h => fin e m ?_⟩
  · obtain ⟨hi, rfl⟩ := rngD_get.mp hy
    exact step i e m hi h
  · rw [rngD_len] at h
    exact h
theorem lc_rest (xs : List α) (J : List α → List Dat → Mem → Prop) (h0 : J xs [] M1) (hst : ∀ r a m, J r a m → stay m)
    (step : ∀ x r acc m, J (x :: r) acc m → τ (env.set j (some (enc x))) m fun b M2 => if b = true then ε (env.set j (some (enc x))) M2 fun r3 M3 => acc.length < sizeLine ∧ J r (acc ++ [settle r3]) M3 else J r acc M2)
    (fin : ∀ acc m, J [] acc m → Q acc m) :
    ∃ Inv : Nat → List Dat → Mem → Prop, Inv 0 [] M1 ∧ (∀ i acc M', i ≤ (xs.map enc).length → Inv i acc M' → stay M') ∧
      (∀ i y acc M', (xs.map enc)[i]? = some y → Inv i acc M' → τ (env.set j (some y)) M' fun b M2 => if b = true then ε (env.set j (some y)) M2 fun r M3 => acc.length < sizeLine ∧ Inv (i + 1) (acc ++ [settle r]) M3 else Inv (i + 1) acc M2) ∧
      ∀ acc M', Inv (xs.map enc).length acc M' → Q acc M' := by
  refine ⟨fun i a m => J (xs.drop i) a m, h0, fun i a m _ h => hst _ _ _ h, fun i y a m hy h => ?_, fun a m h => fin a m ?_⟩
  · obtain ⟨x, e1, rfl, _⟩ := map_drop_get hy
    have h' : J (xs.drop i) a m := h
    rw [e1] at h'
    exact step x _ a m h'
  · have e1 : xs.drop (xs.map enc).length = [] := by rw [List.length_map, List.drop_length]
    have h' : J (xs.drop (xs.map enc).length) a m := h
    rw [e1] at h'
    exact h'
theorem lc_rng {lo : Int} {n : Nat} (J : Nat → List Dat → Mem → Prop) (h0 : J 0 [] M1)
    (step : ∀ i acc m, i < n → J i acc m → τ (env.set j (some (.int (lo + i)))) m fun b M2 => if b = true then ε (env.set j (some (.int (lo + i)))) M2 fun r3 M3 => acc.length < sizeLine ∧ J (i + 1) (acc ++ [settle r3]) M3 else J (i + 1) acc M2)
    (fin : ∀ acc m, J n acc m → Q acc m) :
    ∃ Inv : Nat → List Dat → Mem → Prop, Inv 0 [] M1 ∧ (∀ i acc M', i ≤ (rngD lo n).length → Inv i acc M' → (fun _ => True) M') ∧
      (∀ i y acc M', (rngD lo n)[i]? = some y → Inv i acc M' → τ (env.set j (some y)) M' fun b M2 => if b = true then ε (env.set j (some y)) M2 fun r M3 => acc.length < sizeLine ∧ Inv (i + 1) (acc ++ [settle r]) M3 else Inv (i + 1) acc M2) ∧
      ∀ acc M', Inv (rngD lo n).length acc M' → Q acc M' := by
  refine ⟨J, h0, fun _ _ _ _ _ => trivial, fun i y a m hy h => ?_, fun a m h => fin a m ?_⟩
  · obtain ⟨hi, rfl⟩ := rngD_get.mp hy
    exact step i a m hi h
  · rw [rngD_len] at h
    exact h
/-- each element kept, nothing else changed -/
theorem lc_map (xs : List α) (g : α → Dat) (hl : xs.length ≤ sizeLine) (hst : stay M1) (he : ∀ x ∈ xs, ∀ P : Rv → Mem → Prop, (∀ r, settle r = g x → P r M1) → ε (env.set j (some (enc x))) M1 P) (fin : Q (xs.map g) M1) :
    ∃ Inv : Nat → List Dat → Mem → Prop, Inv 0 [] M1 ∧ (∀ i acc M', i ≤ (xs.map enc).length → Inv i acc M' → stay M') ∧
      (∀ i y acc M', (xs.map enc)[i]? = some y → Inv i acc M' → dYes (env.set j (some y)) M' fun b M2 => if b = true then ε (env.set j (some y)) M2 fun r M3 => acc.length < sizeLine ∧ Inv (i + 1) (acc ++ [settle r]) M3 else Inv (i + 1) acc M2) ∧
      ∀ acc M', Inv (xs.map enc).length acc M' → Q acc M' := by
  refine lc_rest xs (fun r a m => m = M1 ∧ a ++ r.map g = xs.map g ∧ ∀ x ∈ r, x ∈ xs) ⟨rfl, rfl, fun _ h => h⟩ (fun r a m h => by rw [h.1]; exact hst) (fun x r acc m h => ?_) fun acc m h => ?_
  · obtain ⟨rfl, h2, h3⟩ := h
    simp only [dYes, ↓reduceIte]
    refine he x (h3 x List.mem_cons_self) _ fun rr hr => ⟨?_, rfl, ?_, fun y hy => h3 y (List.mem_cons_of_mem _ hy)⟩
    · have e := congrArg List.length h2
      rw [List.length_append, List.length_map, List.length_map, List.length_cons] at e
      omega
    · rw [hr, List.append_assoc]
      exact h2
  · obtain ⟨rfl, h2, _⟩ := h
    rw [List.map_nil, List.append_nil] at h2
    rw [h2]
    exact fin
/-- those that pass the test -/
theorem lc_filter (xs : List α) (t : α → Bool) (g : α → Dat) (hl : xs.length ≤ sizeLine) (hst : stay M1) (ht : ∀ x ∈ xs, ∀ P : Bool → Mem → Prop, P (t x) M1 → τ (env.set j (some (enc x))) M1 P)
    (he : ∀ x ∈ xs, ∀ P : Rv → Mem → Prop, (∀ r, settle r = g x → P r M1) → ε (env.set j (some (enc x))) M1 P) (fin : Q ((xs.filter t).map g) M1) :
    ∃ Inv : Nat → List Dat → Mem → Prop, Inv 0 [] M1 ∧ (∀ i acc M', i ≤ (xs.map enc).length → Inv i acc M' → stay M') ∧
      (∀ i y acc M', (xs.map enc)[i]? = some y → Inv i acc M' → τ (env.set j (some y)) M' fun b M2 => if b = true then ε (env.set j (some y)) M2 fun r M3 => acc.length < sizeLine ∧ Inv (i + 1) (acc ++ [settle r]) M3 else Inv (i + 1) acc M2) ∧
      ∀ acc M', Inv (xs.map enc).length acc M' → Q acc M' := by
  refine lc_rest xs (fun r a m => m = M1 ∧ a ++ (r.filter t).map g = (xs.filter t).map g ∧ ∀ x ∈ r, x ∈ xs) ⟨rfl, rfl, fun _ h => h⟩ (fun r a m h => by rw [h.1]; exact hst) (fun x r acc m h => ?_) fun acc m h => ?_
  · obtain ⟨rfl, h2, h3⟩ := h
    refine ht x (h3 x List.mem_cons_self) _ ?_
    cases e : t x with
    | true =>
      rw [if_pos rfl]
      rw [List.filter_cons_of_pos e] at h2
      refine he x (h3 x List.mem_cons_self) _ fun rr hr => ⟨?_, rfl, ?_, fun y hy => h3 y (List.mem_cons_of_mem _ hy)⟩
      · have e := congrArg List.length h2
        rw [List.length_append, List.length_map, List.length_map, List.length_cons] at e
        have := List.length_filter_le t xs
        omega
      · rw [hr, List.append_assoc]
        exact h2
    | false =>
      rw [if_neg Bool.false_ne_true]
      rw [List.filter_cons_of_neg (by rw [e]; exact Bool.false_ne_true)] at h2
      exact ⟨rfl, h2, fun y hy => h3 y (List.mem_cons_of_mem _ hy)⟩
  · obtain ⟨rfl, h2, _⟩ := h
    rw [List.filter_nil, List.map_nil, List.append_nil] at h2
    rw [h2]
    exact fin
end
/-! ### reads at places -/
section
variable {α β : Type}
theorem atI_nat {xs : List α} {i : Nat} {y : α} (h : xs[i]? = some y) : atI xs (i : Int) = some y := by
  have hi : i < xs.length := by
    by_cases z : i < xs.length
    · exact z
    · rw [List.getElem?_eq_none (by omega)] at h
      cases h
  unfold atI ixN
  rw [if_pos (by omega), if_pos (by omega), Int.toNat_natCast]
  exact h
theorem atI_last {xs : List α} {y : α} : atI (xs ++ [y]) (-1) = some y := by
  unfold atI ixN
  rw [if_neg (by omega), if_pos (by rw [List.length_append, List.length_singleton]; omega)]
  have e : ((-1 : Int) + ((xs ++ [y]).length : Nat)).toNat = xs.length := by
    rw [List.length_append, List.length_singleton]
    omega
  rw [e]
  show (xs ++ [y])[xs.length]? = some y
  rw [List.getElem?_append_right (Nat.le_refl _), Nat.sub_self] <;> rfl
theorem cut_to {xs : List α} {k : Nat} : cut xs none (some (k : Int)) = xs.take k := by
  unfold cut
  rw [HT.sIx_none, HT.sIx_nat, List.drop_zero, Nat.sub_zero]
  by_cases h : k ≤ xs.length
  · rw [Nat.min_eq_left h]
  · rw [Nat.min_eq_right (by omega), List.take_length, List.take_of_length_le (by omega)]
theorem cut_from {xs : List α} {k : Nat} : cut xs (some (k : Int)) none = xs.drop k := by
  unfold cut
  rw [HT.sIx_none, HT.sIx_nat]
  by_cases h : k ≤ xs.length
  · rw [Nat.min_eq_left h, List.take_of_length_le (by rw [List.length_drop]; omega)]
  · rw [Nat.min_eq_right (by omega), List.drop_length, List.drop_of_length_le (by omega), List.take_nil]
theorem sIx_m1 (n d : Nat) : HT.sIx n d (some (-1)) = ((-1 : Int) + (n : Int)).toNat := rfl
theorem cut_butlast {xs : List α} {y : α} : cut (xs ++ [y]) none (some (-1)) = xs := by
  have e : HT.sIx (xs ++ [y]).length (xs ++ [y]).length (some (-1)) = xs.length := by
    rw [sIx_m1, List.length_append, List.length_singleton]
    omega
  unfold cut
  rw [e, HT.sIx_none, List.drop_zero, Nat.sub_zero, List.take_left' rfl]
theorem cut_last {xs : List α} {y : α} : cut (xs ++ [y]) (some (-1)) none = [y] := by
  have e : HT.sIx (xs ++ [y]).length 0 (some (-1)) = xs.length := by
    rw [sIx_m1, List.length_append, List.length_singleton]
    omega
  unfold cut
  rw [e, HT.sIx_none, List.length_append, List.length_singleton, List.drop_left' rfl, Nat.add_sub_cancel_left] <;> rfl
theorem cut_mid {xs ys : List α} {y : α} {k : Nat} (h : k = xs.length) : cut (xs ++ ys ++ [y]) (some (k : Int)) (some (-1)) = ys := by
  have e : HT.sIx (xs ++ ys ++ [y]).length (xs ++ ys ++ [y]).length (some (-1)) = xs.length + ys.length := by
    rw [sIx_m1, List.length_append, List.length_singleton, List.length_append]
    omega
  unfold cut
  rw [e, HT.sIx_nat, Nat.min_eq_left (by rw [h, List.length_append, List.length_append]; omega), h, List.append_assoc, List.drop_left' rfl, Nat.add_sub_cancel_left, List.take_left' rfl]
theorem cut_fromto {xs : List α} {i k : Nat} (h : i ≤ k) (h2 : k ≤ xs.length) : cut xs (some (i : Int)) (some (k : Int)) = (xs.drop i).take (k - i) := by
  unfold cut
  rw [HT.sIx_nat, HT.sIx_nat, Nat.min_eq_left h2, Nat.min_eq_left (show i ≤ xs.length by omega)]
end
end Dl
set_option Elab.async false
set_option linter.all false
set_option maxRecDepth 100000
set_option maxHeartbeats 4000000
namespace Dl
open PySem PySem.Spec PyProof.Rows L2 StX ClX He
/-! ### the head told by a hook of one's own: properties' getters, constants of a class, operators -/
def fnA (K : PySem.W.Frag) (a : Addr) : FnW := match K.lookup a with
  | some ⟨_, _, .func fd, _⟩ => some (fd.name, fd.qualname, fd.params, fd.body, fd.scope, fd.globals, fd.closure, fd.builtins)
  | _ => none
def okA (K : PySem.W.Frag) (a : Addr) (q : Str) : Bool := PySem.W.keepIn K (.ref a) && (match K.lookup a with
  | some ⟨_, _, .func fd, _⟩ => PySem.W.codeIn K fd.code q && (dflB K fd.defaults [] && kwdB K fd.kwdefaults [])
  | _ => false)
theorem funA {K : PySem.W.Frag} {a : Addr} {d : DefD} (e : fnA K a = d.val) (c : okA K a d.qual = true) : ∃ fd, FunD K d.name d.qual d.params d.body d.scope [] [] a fd := by
  obtain ⟨kp, c2⟩ := ba c
  unfold fnA at e
  cases q : K.lookup a with
  | none =>
    rw [q] at c2
    cases c2
  | some o =>
    obtain ⟨oc, od, dt, osl⟩ := o
    rw [q] at c2 e
    cases dt with
    | func fd =>
      obtain ⟨n1, n2, n3, n4, n5, n6, n7, n8, n9, n10, n11, n12, n13, n14, n15⟩ := fd
      have e2 : (some (n1, n2, n3, n4, n5, n6, n7, n15) : FnW) = some (d.name, d.qual, d.params, .stmts d.body, d.scope, mainGlobals, [], builtinsNs) := e
      simp only [Option.some.injEq, Prod.mk.injEq] at e2
      obtain ⟨h1, h2, h3, h4, h5, h6, h7, h8⟩ := e2
      subst h1 h2 h3 h4 h5 h6 h7 h8
      have c3 : (PySem.W.codeIn K n13 d.qual && (dflB K n8 [] && kwdB K n9 [])) = true := c2
      obtain ⟨k1, k2⟩ := ba c3
      obtain ⟨k3, k4⟩ := ba k2
      exact ⟨_, ⟨oc, od, n8, n9, n10, n11, n12, n13, n14, osl, rfl, q, k1, dflB_ok k3, kwdB_ok k4⟩, kp⟩
    | _ => cases c2
/-- a property's getter -/
def gAd (K : PySem.W.Frag) (C m : Str) : Addr := match PySem.W.recIn K (ma K (ga K C) m) "property" with
  | some (.ref g :: _) => g
  | _ => 0
def propB (K : PySem.W.Frag) (C m : Str) : Bool := eqO (PySem.W.findIn K (.ref (ga K C)) m) (some (some (.ref (ma K (ga K C) m)))) && (eqO (PySem.W.specialIn K (.ref (ma K (ga K C) m)) "__get__") (some (some (.builtin "property.__get__"))) &&
  (decide (PySem.W.takesIn K (.ref (ma K (ga K C) m)) = some true) && (match PySem.W.recIn K (ma K (ga K C) m) "property" with
    | some (.ref _ :: _) => true
    | _ => false)))
theorem propB_ok {K : PySem.W.Frag} {C m : Str} (h : propB K C m = true) : PropOf K (ga K C) m (ma K (ga K C) m) (gAd K C m) := by
  obtain ⟨h1, h⟩ := ba h
  obtain ⟨h2, h⟩ := ba h
  obtain ⟨h3, h4⟩ := ba h
  refine ⟨eqO_ok h1, eqO_ok h2, of_decide_eq_true h3, ?_⟩
  unfold gAd
  cases e : PySem.W.recIn K (ma K (ga K C) m) "property" with
  | none =>
    rw [e] at h4
    cases h4
  | some l =>
    rw [e] at h4
    cases l with
    | nil => cases h4
    | cons v r =>
      cases v with
      | ref g => exact ⟨r, rfl⟩
      | _ => cases h4
/-- a class's constant -/
def cvB (K : PySem.W.Frag) (C f : Str) (v : Dv) : Bool := PySem.W.readsIn K (ga K C) (.type "type") && (eqO (PySem.W.specialIn K (.ref (ga K C)) "__getattribute__") (some (some (.builtin "type.__getattribute__"))) && (match PySem.W.findCls K (.ref (ga K C)) (.type "type") f with
  | some (.val u) => relB (v.v K) u
  | _ => false))
theorem cvB_ok {K : PySem.W.Frag} {mg : Str → Option Value} {C f : Str} {v : Dv} {d : Dat} (hg : mg C = some (.ref (ga K C))) (h : cvB K C f v = true) (hd : ∀ B, Rp K B (v.v K) d) : KnV K mg C f d := by
  obtain ⟨h1, h⟩ := ba h
  obtain ⟨h2, h3⟩ := ba h
  cases e : PySem.W.findCls K (.ref (ga K C)) (.type "type") f with
  | none =>
    rw [e] at h3
    cases h3
  | some r =>
    rw [e] at h3
    cases r with
    | val u => exact ⟨ga K C, .type "type", v.v K, u, hg, ⟨h1, eqO_ok h2⟩, ⟨e, relB_ok h3⟩, hd⟩
    | _ => cases h3
/-- an own operator -/
def opB (K : PySem.W.Frag) (C m : Str) : Bool := PySem.W.selfFirst K (ga K C) && (eqO (PySem.W.findIn K (.ref (ga K C)) m) (some (some (.ref (ma K (ga K C) m)))) && PySem.W.isFn K (.ref (ma K (ga K C) m)))
theorem opB_ok {K : PySem.W.Frag} {C m : Str} (h : opB K C m = true) : OpOf K (ga K C) m (ma K (ga K C) m) := by
  obtain ⟨h1, h⟩ := ba h
  obtain ⟨h2, h3⟩ := ba h
  exact ⟨h1, eqO_ok h2, h3⟩
/-! ### the hook -/
abbrev PDef : Type := Str × Str × DefD
abbrev AlY : Type := AlD × List FnW × Bool
def obsY (fa : List Fa) (fn : List DefD) (ps : List PDef) (ex : PySem.W.Frag → Bool) (K : PySem.W.Frag) : AlY := (obsD fa fn K, ps.map fun q => fnA K (gAd K q.1 q.2.1), ex K && ps.all fun q => propB K q.1 q.2.1 && okA K (gAd K q.1 q.2.1) q.2.2.qual)
def valY (fn : List DefD) (ps : List PDef) : AlY := (valD fn, ps.map fun q => q.2.2.val, true)
def SaysY (fa : List Fa) (fn : List DefD) (ps : List PDef) (ex : PySem.W.Frag → Bool) (K : PySem.W.Frag) : Prop := obsY fa fn ps ex K = valY fn ps
def obsYG (n : Nat) (fa : List Fa) (fn : List DefD) (ps : List PDef) (ex : PySem.W.Frag → Bool) (g : Addr → Option Obj) : AlY := obsY fa fn ps ex (frG g (PySem.cStatics :: asD g n))
def hookY (n : Nat) (fa : List Fa) (fn : List DefD) (ps : List PDef) (ex : PySem.W.Frag → Bool) : PySem.W.Hook where
  α := AlY
  obs := fun s => obsYG n fa fn ps ex s.heap.get?
  val := fun _ => valY fn ps
  says := fun _ h => ∃ K : PySem.W.Frag, K.In h ∧ SaysY fa fn ps ex K
  of := fun _ _ e => ⟨_, frG_in, e⟩
  keeps := fun _ _ _ ⟨K, hK, c⟩ k => ⟨K, PySem.W.Frag.In.keeps hK k, c⟩
theorem obsYG_eq {n : Nat} {fa : List Fa} {fn : List DefD} {ps : List PDef} {ex : PySem.W.Frag → Bool} {g : Addr → Option Obj} {s : Shared} (h : ∀ a, g a = s.heap.get? a) : obsYG n fa fn ps ex g = (hookY n fa fn ps ex).obs s := by
  have e : g = s.heap.get? := funext h
  rw [e] <;> rfl
section
variable {fa : List Fa} {fn : List DefD} {ps : List PDef} {ex : PySem.W.Frag → Bool} {K : PySem.W.Frag}
theorem SaysY.d (c : SaysY fa fn ps ex K) : SaysD fa fn K := congrArg (fun z : AlY => z.1) c
theorem SaysY.more (c : SaysY fa fn ps ex K) : ex K = true := (ba (show (ex K && ps.all fun q => propB K q.1 q.2.1 && okA K (gAd K q.1 q.2.1) q.2.2.qual) = true from congrArg (fun z : AlY => z.2.2) c)).1
theorem SaysY.prop (c : SaysY fa fn ps ex K) (i : Nat) {q : PDef} (h : ps[i]? = some q := by rfl) : PropOf K (ga K q.1) q.2.1 (ma K (ga K q.1) q.2.1) (gAd K q.1 q.2.1) ∧ ∃ fd, FunD K q.2.2.name q.2.2.qual q.2.2.params q.2.2.body q.2.2.scope [] [] (gAd K q.1 q.2.1) fd := by
  have c2 := (ba (show (ex K && ps.all fun q => propB K q.1 q.2.1 && okA K (gAd K q.1 q.2.1) q.2.2.qual) = true from congrArg (fun z : AlY => z.2.2) c)).2
  obtain ⟨h1, h2⟩ := ba (List.all_eq_true.mp c2 q (List.mem_of_getElem? h))
  have e : ps.map (fun q => fnA K (gAd K q.1 q.2.1)) = ps.map (fun q => q.2.2.val) := congrArg (fun z : AlY => z.2.1) c
  have e2 : (ps.map fun q => fnA K (gAd K q.1 q.2.1))[i]? = (ps.map fun q => q.2.2.val)[i]? := by rw [e]
  rw [List.getElem?_map, List.getElem?_map, h] at e2
  exact ⟨propB_ok h1, funA (Option.some.inj e2) h2⟩
end
end Dl
set_option Elab.async false
set_option linter.all false
set_option maxRecDepth 100000
set_option maxHeartbeats 4000000
namespace Dl
open PySem PySem.Spec PyProof.Rows L2
/-! ### walks over a list or a tuple by number, two at a time -/
def ItA (b : Bool) (h : Heap) (it a : Addr) (i : Nat) : Prop := if b = true then h.IsTupleIter it a i else h.IsListIter it a i
def SqB (b : Bool) (K : PySem.W.Frag) (H : Hp) (a : Addr) (xs : List V) : Prop := if b = true then SqT K H a xs else SqL K H a xs
theorem ItA.at {b : Bool} {h h' : Heap} {it a : Addr} {i : Nat} (t : ItA b h it a i) (k : ∀ o, h.get? it = some o → h'.get? it = some o) : ItA b h' it a i := by
  cases b with
  | true => exact (show h.IsTupleIter it a i from t).at k
  | false => exact (show h.IsListIter it a i from t).at k
theorem ItA.obj {b : Bool} {h : Heap} {it a : Addr} {i : Nat} (t : ItA b h it a i) : ∃ o, h.get? it = some o ∧ ∀ v, o.data ≠ .cell v := by
  cases b with
  | true =>
    obtain ⟨o, ho, hc, hd⟩ := (show h.IsTupleIter it a i from t)
    exact ⟨o, ho, fun v q => by rw [hd] at q; cases q⟩
  | false =>
    obtain ⟨o, ho, hc, hd⟩ := (show h.IsListIter it a i from t)
    exact ⟨o, ho, fun v q => by rw [hd] at q; cases q⟩
section
variable {X : Cx} {pins : List (Addr × Obj)} {σ : L2.St} {H : Hp} {s : Shared}
theorem sqB_inj {b : Bool} {a : Addr} {xs ys : List V} (I : Inv X pins σ H s) (h : SqB b X.K H a xs) (h' : SqB b X.K H a ys) : xs = ys := by
  cases b with
  | true => exact I.tuple_inj (show SqT X.K H a xs from h) h'
  | false => exact I.list_inj (show SqL X.K H a xs from h) h'
/-- an iterator over it draws its items -/
theorem drawsB {b : Bool} {it a : Addr} {xs : List V} {A : Around} (I : Inv X pins σ H s) (hh : A.handled = none) (hne : a ≠ it) (h : SqB b X.K H a xs) :
    ∃ its : List Value, Vals xs its ∧ ∃ St : Nat → Heap → Prop, Draws X.prog X.w A it [it, a] its.length (fun i v => its[i]? = some v) St ∧ (∀ i, ItA b s.heap it a i → St i s.heap) ∧ ∀ i h', St i h' → ItA b h' it a i := by
  cases b with
  | true =>
    obtain ⟨its, rv, p, _⟩ := I.tuple (show SqT X.K H a xs from h)
    refine ⟨its, rv, fun i h' => h'.IsTupleIter it a i ∧ h'.IsTuple a its.toArray, ?_, fun i t => ⟨t, p⟩, fun i h' t => t.1⟩
    have D := Draws.tuple (prog := X.prog) (w := X.w) hh it a hne its.toArray
    simpa using D
  | false =>
    obtain ⟨its, rv, p, _⟩ := I.list (show SqL X.K H a xs from h)
    refine ⟨its, rv, fun i h' => h'.IsListIter it a i ∧ h'.IsList a its.toArray, ?_, fun i t => ⟨t, p.isList⟩, fun i h' t => t.1⟩
    have D := Draws.list (prog := X.prog) (w := X.w) hh it a hne its.toArray
    simpa using D
end
/-- the sequence at a as it stands at each turn, each item in a new pair -/
def IteB (b : Bool) (K : PySem.W.Frag) (a : Addr) : It :=
  ⟨fun i H => ∃ (xs : List V) (x : V), SqB b K H a xs ∧ xs[i]? = some x, fun i H v H' => ∃ T x, v = .ref T ∧ H T = none ∧ H' = upd H T (.tup [.int (i : Nat), x]) ∧ ∀ xs, SqB b K H a xs → xs[i]? = some x, fun i H => ∃ xs : List V, SqB b K H a xs ∧ xs.length = i⟩
theorem turn_enumB {b : Bool} {P : Program} {w : World} {K : PySem.W.Frag} {elts : List Expr} {kk : Nat} {tpos : Pos} (a e it : Addr) (hae : a ≠ e) (hai : a ≠ it) :
    Turn P w K (.Tuple elts kk tpos) (IteB b K a) [e, it] e (fun i h => (∃ old, IsEnum h e it ((i : Nat) : Int) old) ∧ ItA b h it a i ∧ e ≠ it) where
  mem := by simp
  obj := fun i h st b hb => by
    obtain ⟨⟨old, he⟩, hi, _⟩ := st
    have e' : b = e ∨ b = it := by simpa using hb
    rcases e' with z | z
    · rw [z]; exact ⟨_, he, fun v q => nomatch q⟩
    · rw [z]; exact hi.obj
  keep := fun i h h' st k => let ⟨⟨old, he⟩, hi, hne⟩ := st; ⟨⟨old, k e (by simp) _ he⟩, hi.at fun o q => k it (by simp) o q, hne⟩
  item := by
    intro X hP hw hK hc i pins s σ H E I hf st hg
    subst hP hw hK
    obtain ⟨⟨old, he⟩, hit, hne⟩ := st
    obtain ⟨xs, x, hq, hx⟩ := hg
    obtain ⟨its, rv, St, D, hs1, hs2⟩ := drawsB (A := X.A.in1) (it := it) I (I.ok.hd hc) hai hq
    obtain ⟨u, hu, ru⟩ := rv.get hx
    have hel : e < s.heap.objs.size := Heap.lt_size he
    have hil : it < s.heap.objs.size := by obtain ⟨_, q, _⟩ := hit.obj; exact Heap.lt_size q
    have hlt : i < its.length := by
      by_cases z : i < its.length
      · exact z
      · rw [List.getElem?_eq_none (by omega)] at hu
        cases hu
    refine wpAny_pyNext_enum_itemD D he (hs1 i hit) hlt hne (by simp; exact ⟨hne, hae.symm⟩) fun u' h' tk hu' ho hst' hT hsz hk => ?_
    have eu : u' = u := by
      have hu2 : its[i]? = some u' := hu'
      rw [hu] at hu2
      exact (Option.some.inj hu2).symm
    subst eu
    have hit' := hs2 _ _ hst'
    refine ⟨_, rfl, wpAny_letOwnedTupleGo_enum (s := { s with heap := h', toks := tk + 1 }) ho fun h'' he' sb => ?_⟩
    have hT2 : h''.get? s.heap.objs.size = some { cls := .type "tuple", data := .seq #[.int i tk, u'] } := (sb.2 _ (Nat.ne_of_gt hel)).trans hT
    have new : ObjOk X.prog X.w (upd H s.heap.objs.size (.tup [.int (i : Nat), x])) h'' s.heap.objs.size (.tup [.int (i : Nat), x]) :=
      ⟨by show 2 ≤ sizeLine; decide, [.int i tk, u'], .cons ⟨_, rfl⟩ (.cons ru .nil), ⟨_, hT2, rfl, _, rfl⟩⟩
    have I1 : Inv X pins σ (upd H s.heap.objs.size (.tup [.int (i : Nat), x])) { s with heap := h'', toks := tk + 1 } :=
      I.turnedNew (ch := [e, it]) (fun b ob hb q => (sb.2 b (fun z => hb (by simp [z]))).trans (hk b ob (fun z => hb (by simp [z])) (fun z => hb (by simp [z])) q)) hf (Nat.le_refl _) new
    refine ⟨.ref s.heap.objs.size, _, I1, rfl, ⟨_, x, rfl, I.hok.fresh (Nat.le_refl _), rfl, fun ys hy => by rw [sqB_inj I hy hq]; exact hx⟩, ⟨⟨u', ?_⟩, hit'.at fun o q => (sb.2 it (Ne.symm hne)).trans q, hne⟩, fun b hb => ?_⟩
    · have e1 : ((i + 1 : Nat) : Int) = (i : Int) + 1 := by omega
      rw [e1]; exact he'
    · have hb' : b < s.heap.objs.size := by
        have e' : b = e ∨ b = it := by simpa using hb
        rcases e' with z | z
        · rw [z]; exact hel
        · rw [z]; exact hil
      rw [upd_ne (Nat.ne_of_lt hb')]
      exact (hf b hb).1
  done := by
    intro X hP hw hK hc i pins s σ H E I hf st hg
    subst hP hw hK
    obtain ⟨⟨old, he⟩, hit, hne⟩ := st
    obtain ⟨xs, hq, hx⟩ := hg
    obtain ⟨its, rv, St, D, hs1, hs2⟩ := drawsB (A := X.A.in1) (it := it) I (I.ok.hd hc) hai hq
    obtain ⟨f0, f1, f2, f3, f4, f5⟩ := hf it (by simp)
    have hl := rv.length
    exact wpAny_pyNext_enum_endD D he (by rw [← hl, hx]; exact hs1 i hit) fun h' eb => ⟨rfl, I.turned (t' := s.toks) (fun b o hb q => eb b o hb q) f0 f1 f3 f4 f5⟩
  self := fun A i s Q E st h => let ⟨⟨_, he⟩, _⟩ := st; wpAny_pyIter_enum he h
theorem meets_enum1 {v : Value} {o : Obj} {H : Heap → Prop} (B : Begins v o H) :
    Meets (Builtin.«enumerate.__new__» ⟨[.type "enumerate", v], []⟩) (fun _ R s => H s.heap ∧
      R (.ok (.ret (.ref (s.heap.push o).objs.size))) { s with heap := (s.heap.push o).push { cls := .type "enumerate", data := .fields #[.none, .bool false, .ref s.heap.objs.size, rawInt 0, .none, .none] } }) :=
  .of_wp fun prog w A R s h => by
    obtain ⟨hp, g, d, tk, os⟩ := s; obtain ⟨h1, h⟩ := h
    have hsub := sub_enumerate
    have q1 : ∀ {A' : Around} {E : Value → Shared → Prop} {Q : Value → Shared → Prop}, Q (.ref hp.objs.size) ⟨hp.push o, g, d, tk, os⟩ → wpAny (model prog w) A' (pyIter v) Q E ⟨hp, g, d, tk, os⟩ :=
      fun q => B.iter prog w _ _ ⟨hp, g, d, tk, os⟩ _ h1 q
    wp_walk using q1
    refine wpAny_stack_any fun st => wpAny_pure ?_
    split
    · rename_i c _ _ _ _ _
      cases (c == Value.type "enumerate")
      · wp_walk using q1
        exact ⟨_, rfl, h⟩
      · wp_walk using q1
        exact ⟨_, rfl, h⟩
    · wp_walk using q1
      exact ⟨_, rfl, h⟩
theorem enum_begins1 {prog : Program} {w : World} {A : Around} {E : Value → Shared → Prop} {s : Shared} {v : Value} {o : Obj} {H : Heap → Prop} {Q : Value → Shared → Prop} (B : Begins v o H) (h1 : H s.heap)
    (h : ∀ h', IsEnum h' (s.heap.objs.size + 1) s.heap.objs.size 0 .none → h'.get? s.heap.objs.size = some o → h'.objs.size = s.heap.objs.size + 2 →
      (∀ b o, s.heap.get? b = some o → h'.get? b = some o) → Q (.ref (s.heap.objs.size + 1)) { s with heap := h' }) :
    wpAny (model prog w) A (call (.type "enumerate") [v]) Q E s := by
  refine callType_new F.called_enumerate (by decide) (F.typeCall_enumerate_1 _) (F.newCall_enumerate_1 _) (fun obj => F.args_object_init_2 obj _) F.entry_enumerate_new (meets_enum1 B) ⟨h1, ?_⟩
  have hz : (s.heap.push o).objs.size = s.heap.objs.size + 1 := Heap.size_push ..
  show _ ∧ _
  rw [hz]
  have he : IsEnum ((s.heap.push o).push { cls := .type "enumerate", data := .fields #[.none, .bool false, .ref s.heap.objs.size, rawInt 0, .none, .none] }) (s.heap.objs.size + 1) s.heap.objs.size 0 .none := by
    have := Heap.get?_push_size (s.heap.push o) (o := { cls := .type "enumerate", data := .fields #[.none, .bool false, .ref s.heap.objs.size, rawInt 0, .none, .none] }) rfl
    rw [hz] at this; exact this
  refine ⟨⟨_, he, rfl⟩, h _ he (Heap.get?_push_of_some _ (Heap.get?_push_size _ B.free)) (by rw [Heap.size_push, hz]) fun b o x => Heap.get?_push_of_some _ (Heap.get?_push_of_some _ x)⟩
/-- an iterator begins -/
theorem beginsB {X : Cx} {pins : List (Addr × Obj)} {σ : L2.St} {H : Hp} {s : Shared} {b : Bool} {a : Addr} {xs : List V} (I : Inv X pins σ H s) (h : SqB b X.K H a xs) :
    a < s.heap.objs.size ∧ ∃ o Hh, Begins (.ref a) o Hh ∧ Hh s.heap ∧ ∀ h' it, h'.get? it = some o → ItA b h' it a 0 := by
  cases b with
  | true =>
    obtain ⟨its, rv, p, _⟩ := I.tuple (show SqT X.K H a xs from h)
    obtain ⟨o, ho, _⟩ := id p
    exact ⟨Heap.lt_size ho, _, _, begins_tuple a its.toArray, p, fun h' it q => ⟨_, q, rfl, rfl⟩⟩
  | false =>
    obtain ⟨its, rv, p, _⟩ := I.list (show SqL X.K H a xs from h)
    obtain ⟨o, ho, _⟩ := p.isList
    exact ⟨Heap.lt_size ho, _, _, begins_list a its.toArray, p.isList, fun h' it q => ⟨_, q, rfl, rfl⟩⟩
def iEnumB (K : PySem.W.Frag) (ta : TA) : TI := fun σ H R => ta σ H fun vs H1 => ∃ b a xs, vs = [.ref a] ∧ SqB b K H1 a xs ∧ R (IteB b K a) H1
theorem pi_enumB {X : Cx} {e : Expr} {ta : TA} {p pos tpos : Pos} {elts : List Expr} {kk : Nat} (hg : Gl X "enumerate") (hm : X.mg "enumerate" = none) (ha : PA X [e] ta) (hs : starEach [e] X.env = [(false, eval e X.env)] := by rfl) :
    PI X (.Tuple elts kk tpos) (.Call (.Name "enumerate" p) [e] [] pos) (iEnumB X.K ta) := by
  refine ⟨fun pins s σ H R I h => ?_⟩
  refine Call_ (ld_blt I hg hm boot_enumerate (PyProof.Rows.callWith_type1 (thn (ha.run pos pins s σ H _ I h) fun us s1 ⟨vs, H1, I1, r1, q1⟩ => ?_) hs rfl))
  obtain ⟨b, a, xs, ex, hq, q⟩ := q1
  subst ex
  cases r1 with
  | cons r rr =>
    cases rr
    cases r
    obtain ⟨hlt, o, Hh, B, hh, hit0⟩ := beginsB I1 hq
    refine enum_begins1 B hh fun h' he hit hsz hk => wpAny_pyIter_enum he ?_
    have I2 : Inv X pins σ H1 { s1 with heap := h' } := I1.kept (t' := s1.toks) hk
    refine ⟨s1.heap.objs.size + 1, [s1.heap.objs.size + 1, s1.heap.objs.size], _, _, H1, rfl, I2, turn_enumB a (s1.heap.objs.size + 1) s1.heap.objs.size (Nat.ne_of_lt (Nat.lt_succ_of_lt hlt)) (Nat.ne_of_lt hlt), ⟨⟨.none, he⟩, hit0 _ _ hit, Nat.succ_ne_self _⟩, fun b hb => ?_, q⟩
    have e' : b = s1.heap.objs.size + 1 ∨ b = s1.heap.objs.size := by simpa using hb
    have hle : s1.heap.objs.size ≤ b := by
      rcases e' with z | z
      · rw [z]; exact Nat.le_add_right _ _
      · rw [z]; exact Nat.le_refl _
    exact I1.fpOk hle (I1.hok.fresh hle)
/-- two sequences as they stand at each turn, the items in new pairs -/
def ItzB (b c : Bool) (K : PySem.W.Frag) (a1 a2 : Addr) : It :=
  ⟨fun i H => ∃ (xs ys : List V) (x y : V), SqB b K H a1 xs ∧ SqB c K H a2 ys ∧ xs[i]? = some x ∧ ys[i]? = some y,
    fun i H v H' => ∃ T x y, v = .ref T ∧ H T = none ∧ H' = upd H T (.tup [x, y]) ∧ (∀ xs, SqB b K H a1 xs → xs[i]? = some x) ∧ ∀ ys, SqB c K H a2 ys → ys[i]? = some y,
    fun i H => ∃ xs ys : List V, SqB b K H a1 xs ∧ SqB c K H a2 ys ∧ i ≤ xs.length ∧ i ≤ ys.length ∧ (i = xs.length ∨ i = ys.length)⟩
theorem zip_sep {z TI TO i1 i2 a1 a2 : Addr} (D : ZipApart z TI TO i1 i2 a1 a2) : ZipSep2 z TI TO i1 i2 [i1, a1] [i2, a2] where
  TIz := D.TIz
  TOz := D.TOz
  TITO := D.TITO
  TIi1 := D.TIi1
  mem1 := List.mem_cons_self
  zf1 := by simp; exact ⟨D.i1z.symm, D.l1z.symm⟩
  Tf1 := by simp; exact ⟨D.TOi1, D.l1TO.symm⟩
  TIi2 := D.TIi2
  mem2 := List.mem_cons_self
  zf2 := by simp; exact ⟨D.i2z.symm, D.l2z.symm⟩
  Tf2 := by simp; exact ⟨D.TOi2, D.l2TO.symm⟩
  sep1_2 := by simp; exact ⟨D.i12, D.l2i1.symm⟩
  sep2_1 := by simp; exact ⟨D.i12.symm, D.l1i2.symm⟩
theorem turn_zipB {b c : Bool} {P : Program} {w : World} {K : PySem.W.Frag} {elts : List Expr} {kk : Nat} {tpos : Pos} {a1 a2 z TI TO i1 i2 : Addr} (D : ZipApart z TI TO i1 i2 a1 a2) :
    Turn P w K (.Tuple elts kk tpos) (ItzB b c K a1 a2) [z, TI, TO, i1, i2] z (fun i h => IsZip h z TI TO .none ∧ IsTupOf2 h TI (.ref i1) (.ref i2) ∧ (∃ x y, IsTupOf2 h TO x y) ∧ ItA b h i1 a1 i ∧ ItA c h i2 a2 i) where
  mem := by simp
  obj := fun i h st c hc => by
    obtain ⟨hz, hTI, ⟨x, y, hTO⟩, h1, h2⟩ := st
    have e' : c = z ∨ c = TI ∨ c = TO ∨ c = i1 ∨ c = i2 := by simpa using hc
    rcases e' with q | q | q | q | q
    · rw [q]; exact ⟨_, hz, fun v q => nomatch q⟩
    · rw [q]; exact ⟨_, hTI, fun v q => nomatch q⟩
    · rw [q]; exact ⟨_, hTO, fun v q => nomatch q⟩
    · rw [q]; exact h1.obj
    · rw [q]; exact h2.obj
  keep := fun i h h' st k => by
    obtain ⟨hz, hTI, ⟨x, y, hTO⟩, h1, h2⟩ := st
    exact ⟨k z (by simp) _ hz, k TI (by simp) _ hTI, ⟨x, y, k TO (by simp) _ hTO⟩, h1.at fun o q => k i1 (by simp) o q, h2.at fun o q => k i2 (by simp) o q⟩
  item := by
    intro X hP hw hK hc i pins s σ H E I hf st hg
    subst hP hw hK
    obtain ⟨hz, hTI, ⟨x0, y0, hTO⟩, h1, h2⟩ := st
    obtain ⟨xs, ys, x, y, hqx, hqy, hx, hy⟩ := hg
    obtain ⟨its, rv, St1, D1, s11, s12⟩ := drawsB (A := X.A.in1) (it := i1) I (I.ok.hd hc) D.l1i1 hqx
    obtain ⟨its2, rv2, St2, D2, s21, s22⟩ := drawsB (A := X.A.in1) (it := i2) I (I.ok.hd hc) D.l2i2 hqy
    obtain ⟨u, hu, ru⟩ := rv.get hx
    obtain ⟨u2, hu2, ru2⟩ := rv2.get hy
    have hzl : z < s.heap.objs.size := Heap.lt_size hz
    have lt1 : i < its.length := by
      by_cases z : i < its.length
      · exact z
      · rw [List.getElem?_eq_none (by omega)] at hu
        cases hu
    have lt2 : i < its2.length := by
      by_cases z : i < its2.length
      · exact z
      · rw [List.getElem?_eq_none (by omega)] at hu2
        cases hu2
    refine wpAny_pyNext_zipD2_item (zip_sep D) D1 D2 hz hTI hTO (s11 i h1) (s21 i h2) lt1 lt2 fun w1 w2 h' tk e1 e2 z' TO' h1' h2' hT hsz hk => ?_
    have eu : w1 = u := by
      have e3 : its[i]? = some w1 := e1
      rw [hu] at e3
      exact (Option.some.inj e3).symm
    have eu2 : w2 = u2 := by
      have e3 : its2[i]? = some w2 := e2
      rw [hu2] at e3
      exact (Option.some.inj e3).symm
    subst eu eu2
    refine ⟨_, rfl, wpAny_letOwnedTupleGo_zip (s := { s with heap := h', toks := tk }) z' fun h'' z'' sb => ?_⟩
    have hT2 : h''.get? s.heap.objs.size = some { cls := .type "tuple", data := .seq #[w1, w2] } := (sb.2 _ (Nat.ne_of_gt hzl)).trans hT
    have new : ObjOk X.prog X.w (upd H s.heap.objs.size (.tup [x, y])) h'' s.heap.objs.size (.tup [x, y]) :=
      ⟨by show 2 ≤ sizeLine; decide, [w1, w2], .cons ru (.cons ru2 .nil), ⟨_, hT2, rfl, _, rfl⟩⟩
    have I1 : Inv X pins σ (upd H s.heap.objs.size (.tup [x, y])) { s with heap := h'', toks := tk } :=
      I.turnedNew (t' := tk) (ch := [z, TI, TO, i1, i2]) (fun c o hb q => (sb.2 c (fun q' => hb (by simp [q']))).trans (hk c o (fun q' => hb (by simp [q'])) (fun q' => hb (by simp [q'])) (fun q' => hb (by simp [q'])) (fun q' => hb (by simp [q'])) q)) hf (Nat.le_refl _) new
    refine ⟨.ref s.heap.objs.size, _, I1, rfl, ⟨_, x, y, rfl, I.hok.fresh (Nat.le_refl _), rfl, fun l hl => by rw [sqB_inj I hl hqx]; exact hx, fun l hl => by rw [sqB_inj I hl hqy]; exact hy⟩, ⟨z'', ?_, ⟨w1, w2, ?_⟩, ?_, ?_⟩, fun c hcm => ?_⟩
    · exact (sb.2 _ D.TIz).trans (hk _ _ D.TIz D.TITO D.TIi1 D.TIi2 hTI)
    · exact (sb.2 _ D.TOz).trans TO'
    · exact (s12 _ _ h1').at fun o q => (sb.2 _ D.i1z).trans q
    · exact (s22 _ _ h2').at fun o q => (sb.2 _ D.i2z).trans q
    · have hlt : c < s.heap.objs.size := by
        have e' : c = z ∨ c = TI ∨ c = TO ∨ c = i1 ∨ c = i2 := by simpa using hcm
        rcases e' with q | q | q | q | q
        · rw [q]; exact hzl
        · rw [q]; exact Heap.lt_size hTI
        · rw [q]; exact Heap.lt_size hTO
        · rw [q]; obtain ⟨_, e1, _⟩ := h1.obj; exact Heap.lt_size e1
        · rw [q]; obtain ⟨_, e2, _⟩ := h2.obj; exact Heap.lt_size e2
      rw [upd_ne (Nat.ne_of_lt hlt)]
      exact (hf c hcm).1
  done := by
    intro X hP hw hK hc i pins s σ H E I hf st hg
    subst hP hw hK
    obtain ⟨hz, hTI, ⟨x0, y0, hTO⟩, h1, h2⟩ := st
    obtain ⟨xs, ys, hqx, hqy, le1, le2, hend⟩ := hg
    obtain ⟨its, rv, St1, D1, s11, s12⟩ := drawsB (A := X.A.in1) (it := i1) I (I.ok.hd hc) D.l1i1 hqx
    obtain ⟨its2, rv2, St2, D2, s21, s22⟩ := drawsB (A := X.A.in1) (it := i2) I (I.ok.hd hc) D.l2i2 hqy
    have l1 := rv.length
    have l2 := rv2.length
    exact wpAny_pyNext_zipD2_end (zip_sep D) D1 D2 hz hTI hTO (s11 i h1) (s21 i h2) (by omega) (by omega) (by omega) fun h' tk hk => ⟨rfl, I.turnedL (t' := tk) (ch := [z, TI, TO, i1, i2]) (fun c o hb q =>
      hk c o (fun q' => hb (by simp [q'])) (fun q' => hb (by simp [q'])) (fun q' => hb (by simp [q'])) (fun q' => hb (by simp [q'])) q) hf⟩
  self := fun A i s Q E st h => wpAny_pyIter_zip st.1 h
def iZipB (K : PySem.W.Frag) (ta : TA) : TI := fun σ H R => ta σ H fun vs H1 => ∃ b c a1 a2 xs ys, vs = [.ref a1, .ref a2] ∧ SqB b K H1 a1 xs ∧ SqB c K H1 a2 ys ∧ R (ItzB b c K a1 a2) H1
theorem pi_zipB {X : Cx} {e e2 : Expr} {ta : TA} {p pos tpos : Pos} {elts : List Expr} {kk : Nat} (hg : Gl X "zip") (hm : X.mg "zip" = none) (ha : PA X [e, e2] ta)
    (hs : starEach [e, e2] X.env = (false, eval e X.env) :: starEach [e2] X.env := by rfl) (hpl : (backTo pos (starEach [e2] X.env)).any (·.1) = false := by rfl) :
    PI X (.Tuple elts kk tpos) (.Call (.Name "zip" p) [e, e2] [] pos) (iZipB X.K ta) := by
  refine ⟨fun pins s σ H R I h => ?_⟩
  refine Call_ (ld_blt I hg hm PyProof.Rows.boot_zip (PyProof.Rows.callWith_type1 (thn (ha.run pos pins s σ H _ I h) fun us s1 ⟨vs, H1, I1, r1, q1⟩ => ?_) hs hpl))
  obtain ⟨b, c, a1, a2, xs, ys, ex, hqx, hqy, q⟩ := q1
  subst ex
  cases r1 with
  | cons r rr =>
    cases rr with
    | cons r' rr =>
      cases rr
      cases r
      cases r'
      obtain ⟨lt1, o1, H1', B1, hh1, hi1⟩ := beginsB I1 hqx
      obtain ⟨lt2, o2, H2', B2, hh2, hi2⟩ := beginsB I1 hqy
      refine zip_begins2 B1 B2 hh1 hh2 fun h' hz hTI hTO g1 g2 hsz hk => wpAny_pyIter_zip hz ?_
      have I2 : Inv X pins σ H1 { s1 with heap := h' } := I1.kept (t' := s1.toks) hk
      refine ⟨s1.heap.objs.size + 4, [s1.heap.objs.size + 4, s1.heap.objs.size + 2, s1.heap.objs.size + 3, s1.heap.objs.size, s1.heap.objs.size + 1], _, _, H1, rfl, I2, turn_zipB (PySem.W.ktu_apart s1.heap.objs.size a1 a2 lt1 lt2), ⟨hz, hTI, ⟨_, _, hTO⟩, hi1 _ _ g1, hi2 _ _ g2⟩, fun c hcm => ?_, q⟩
      have e' : c = s1.heap.objs.size + 4 ∨ c = s1.heap.objs.size + 2 ∨ c = s1.heap.objs.size + 3 ∨ c = s1.heap.objs.size ∨ c = s1.heap.objs.size + 1 := by simpa using hcm
      have hle : s1.heap.objs.size ≤ c := by
        rcases e' with z | z | z | z | z
        · rw [z]; exact Nat.le_add_right _ _
        · rw [z]; exact Nat.le_add_right _ _
        · rw [z]; exact Nat.le_add_right _ _
        · rw [z]; exact Nat.le_refl _
        · rw [z]; exact Nat.le_add_right _ _
      exact I1.fpOk hle (I1.hok.fresh hle)
end Dl
set_option Elab.async false
set_option linter.all false
set_option maxRecDepth 100000
set_option maxHeartbeats 4000000
namespace Dl
open PySem PySem.Spec PyProof.Rows L2
/-! ### del xs[c:] -/
theorem keep_take {α : Type} (g : α × Nat → Option α) (c : Nat) : ∀ (xs : List α) (m : Nat), (∀ x k, k < m + xs.length → g (x, k) = if c ≤ k then none else some x) → (xs.zipIdx m).filterMap g = xs.take (c - m)
  | [], m, _ => by simp
  | x :: xs, m, h => by
    have ih := keep_take g c xs (m + 1) (fun x k hk => h x k (by rw [List.length_cons]; omega))
    have h0 := h x m (by rw [List.length_cons]; omega)
    rw [List.zipIdx_cons, List.filterMap_cons]
    by_cases z : c ≤ m
    · rw [if_pos z] at h0
      simp only [h0]
      rw [ih, show c - (m + 1) = 0 by omega, show c - m = 0 by omega, List.take_zero, List.take_zero]
    · rw [if_neg z] at h0
      simp only [h0]
      rw [ih, show c - m = (c - (m + 1)) + 1 by omega, List.take_succ_cons]
section
variable {prog : Program} {w : World} {A : Around} {E : Value → Shared → Prop} {s : Shared}
theorem delItem_tail {l sl : Addr} {items : Array Value} {n : Nat} {vl : Value} {c : Nat} {Q : Unit → Shared → Prop}
    (e : s.heap.get? l = some { cls := .type "list", data := .seq items n }) (hs : s.heap.IsSliceOf sl vl .none .none) (pl : IsPart vl (some (c : Int))) (hc : c ≤ items.size)
    (hsz : items.size ≤ sizeLine) (h : ∀ f : Array Value → Array Value, f items = (items.toList.take c).toArray → Q () { s with heap := s.heap.update l (Obj.mapSeq f) }) :
    wpAny (model prog w) A (delItem (.ref l) (.ref sl)) Q E s := by
  have hl : s.heap.IsList l items := PySem.IsL.isList e
  obtain ⟨os, hos, hcs, hds⟩ := id hs
  have hTs : s.TypeIs (.ref sl) "slice" := ⟨os, hos, hcs⟩
  have hstep : ¬ ((rawPart none == rawInt 0) = true) := Bool.false_ne_true
  refine wpAny_delItem_slot hl.typeIs (by decide) PySem.F.slot_list_delitem ?_
  refine wpAny_call_entry PySem.F.slot_list_delitem hl.typeIs PySem.F.entry_list_delitem ?_ (PySem.F.args_list_delitem_2 _ _)
  show wpAny _ _ (Builtin.List.listSubscript? (.ref sl) >>= _) _ _ s
  refine wpAny_bind ?_
  unfold Builtin.List.listSubscript?
  refine wpAny_bind (wpAny_specialOf hTs slice_no_index ?_)
  simp only [Option.isNone_none, if_true]
  refine wpAny_pure ?_
  show wpAny _ _ (typeOf (.ref sl) >>= _) _ _ s
  refine wpAny_bind (wpAny_typeOf hTs ?_)
  first
    | rw [if_neg (by decide)]
    | refine PySem.W.KFB.if_not (by decide) ?_
  rw [listSliceParts_eq]
  refine wpAny_bind (wpAny_bind (wpAny_field hos hds (x := .none) rfl (wpAny_bind (wpAny_listPart .none ?_))))
  rw [if_neg hstep]
  refine wpAny_bind (wpAny_field hos hds (x := vl) rfl (wpAny_bind (wpAny_listPart pl ?_)))
  refine wpAny_bind (wpAny_field hos hds (x := .none) rfl (wpAny_bind (wpAny_listPart .none (wpAny_pure ?_))))
  unfold Builtin.List.listItems
  refine wpAny_bind (wpAny_bind (wpAny_seqItems e rfl (wpAny_pure ?_)))
  refine wpAny_bind (wpAny_of_eq (sliceIndices_raw (some (c : Int)) none none items.size (by simp)) ?_)
  have hb : sliceBounds (some (c : Int)) none none items.size = ((c : Int), (items.size : Int), 1) := by
    simp only [sliceBounds, Option.getD_none]
    have h1 : ¬ ((c : Int) < 0) := by omega
    simp only [h1, if_false]
    have h2 : min (c : Int) (items.size : Int) = (c : Int) := by omega
    rw [h2, if_pos (by decide), if_pos (by decide), show max 0 (c : Int) = (c : Int) by omega]
  rw [hb]
  refine wpAny_bind (wpAny_rule ?_)
  have hf : ∀ g : Value × Nat → Option Value, (∀ x k, k < items.size → g (x, k) = if c ≤ k then none else some x) → ((fun xs : Array Value => (xs.toList.zipIdx.filterMap g).toArray) items) = (items.toList.take c).toArray := by
    intro g hg
    have := keep_take g c items.toList 0 (fun x k hk => hg x k (by simpa using hk))
    rw [Nat.sub_zero] at this
    exact congrArg List.toArray this
  have sel : ∀ k : Nat, k < items.size → (if (1 : Int) > 0 then decide ((c : Int) ≤ (k : Int)) && decide ((k : Int) < (items.size : Int)) && (((k : Int) - (c : Int)) % 1 == 0) else decide ((items.size : Int) < (k : Int)) && decide ((k : Int) ≤ (c : Int)) && (((c : Int) - (k : Int)) % (-1) == 0)) = decide (c ≤ k) := by
    intro k hk
    rw [if_pos (by decide), Int.emod_one, decide_eq_true (show (k : Int) < (items.size : Int) by omega), Bool.and_true, show ((0 : Int) == 0) = true from rfl, Bool.and_true]
    by_cases z : c ≤ k
    · rw [decide_eq_true z, decide_eq_true (by omega)]
    · rw [decide_eq_false z, decide_eq_false (by omega)]
  have sel2 : ∀ (b : Bool) (x : Value) (k : Nat), b = decide (c ≤ k) → (if b = true then none else some x) = if c ≤ k then none else some x := by
    intro b x k hb
    subst hb
    by_cases z : c ≤ k
    · rw [decide_eq_true z, if_pos rfl, if_pos z]
    · rw [decide_eq_false z, if_neg Bool.false_ne_true, if_neg z]
  refine wpAny_bind (m := updateSeq l _) (wpAny_updateSeq (hz := hsz) (_hz' := ?hz) e rfl ?go)
  case go =>
    refine wpAny_bind (wpAny_letGo ?_)
    exact wpAny_pure ⟨.none, rfl, h _ (hf _ fun x k hk => sel2 _ x k (sel k hk))⟩
  case hz =>
    rw [List.size_toArray]
    refine Nat.le_trans (List.length_filterMap_le _ _) ?_
    rw [List.length_zipIdx]
    have : items.toList.length = items.size := by simp
    omega
end
section
variable {X : Cx}
def tDelT (to ti : TE) : TS := fun D σ H => to σ H fun x H1 => ti σ H1 fun y H2 => ∃ (l : Addr) (xs : List V) (c : Nat), x = .ref l ∧ y = .int (c : Int) ∧ H2 l = some (.lst xs) ∧ c ≤ xs.length ∧ D.nx σ (upd H2 l (.lst (xs.take c)))
theorem ps_delT {o lo : Expr} {to tl : TE} {tpos p2 pos : Pos} (ho : PE X o to) (hl : PE X lo tl) : PS X (.Delete [.Subscript o (.Slice (some lo) none none p2) tpos] pos) (tDelT to tl) := by
  refine ⟨fun pins s σ H D I h => ?_⟩
  refine wpAny_Delete (wpAny_deleteEach_cons (wpAny_delete_Subscript (thn (ho.run pins s σ H _ I h) fun u s1 ⟨x, H1, I1, rx, q1⟩ => ?_)))
  refine wpAny_Slice (thn (hl.run pins s1 σ H1 _ I1 q1) fun vl s2 ⟨y, H2, I2, ry, l, xs, c, ex, ey, hH, hc, q2⟩ => ?_)
  subst ex ey
  rw [evalPart_none]
  refine wpAny_pure ?_
  refine wpAny_pure ?_
  cases (show u = Value.ref l from rx)
  obtain ⟨t, rfl⟩ := (show ∃ t, vl = Value.int (c : Int) t from ry)
  have I4 : Inv X pins σ H2 { s2 with heap := s2.heap.push { cls := .type "slice", data := .fields #[.int c t, .none, .none] } } := I2.kept (t' := s2.toks) fun b ob q => Heap.get?_push_of_some _ q
  obtain ⟨z, its, n, r, hl, e⟩ := I4.lstM hH
  refine delItem_tail (c := c) e (Heap.IsSliceOf.new ..) (.int _ _) (by rw [List.size_toArray, ← hl]; exact hc) (by rw [List.size_toArray]; omega) fun f hf => wpAny_deleteEach_nil ⟨σ, _, ?_, q2⟩
  refine I4.lset (its' := its.take c) (t' := s2.toks) hH e ?_ (r.take c) ?_
  · rw [hf]
  · rw [List.length_take]
    omega
def dDelT (φ ψ : DE) : DS := fun E env M => φ env M fun ro M1 => ψ env M1 fun ri M2 => ∃ (p : Addr) (ds : List Dat) (c : Nat), ro = .d (.cell p) ∧ ri = .d (.int (c : Int)) ∧ M2 p = some (.lst ds) ∧ c ≤ ds.length ∧ E.nx env (M2.set p (.lst (ds.take c)))
theorem sx_delT {o lo : Expr} {to tl : TE} {φ ψ : DE} {tpos p2 pos : Pos} (ho : EX X o to φ) (hl : EX X lo tl ψ) : SX X (.Delete [.Subscript o (.Slice (some lo) none none p2) tpos] pos) (tDelT to tl) (dDelT φ ψ) := ⟨ps_delT ho.pe hl.pe, fun E env M σ B H D hs hc q l => by
  refine ho.s env M _ σ B H _ hs hc q fun ro M1 vo B1 H1 q1 n1 r1 => ?_
  refine hl.s env M1 _ σ B1 H1 _ (hs.mono n1.ext) n1.st q1 fun ri M2 vi B2 H2 q2 n2 r2 => ?_
  obtain ⟨p, ds, c, rfl, rfl, hm, hcl, q3⟩ := q2
  cases r1
  cases r2
  have n := n1.trans n2
  obtain ⟨_, xs, e1, e2⟩ := n.st.cell _ _ hm
  refine ⟨p, xs, c, rfl, rfl, e1, by rw [e2.length]; exact hcl, ?_⟩
  have n4 := n.st.write (o := .lst (xs.take c)) hm (m' := .lst (ds.take c)) ⟨_, upd_same, e2.take c⟩
  exact l.nx _ _ _ _ _ q3 (n.trans n4) (hs.mono (n.trans n4).ext)⟩
/-! ### truth of a list -/
def dTru (φ : DE) : DT := fun env M Q => φ env M fun r M1 => ∃ ys, SeqR M1 r ys ∧ Q (!ys.isEmpty) M1
theorem RpA.isEmpty {K : PySem.W.Frag} {B : Hp} {xs : List V} {ys : List Dat} (h : RpA K B xs ys) : (!xs.isEmpty) = !ys.isEmpty := by
  cases h <;> rfl
theorem tx_tru {e : Expr} {t : TE} {φ : DE} (h : EX X e t φ) (he : ∀ whole, isTrue e X.env whole = (do let v ← whole; standAt e.pos; holding [v] (truthy v)) := by intro _; rfl) :
    TX X e (fun σ H Q => t σ H fun x H' => ∃ k, TruV X.K x H' k ∧ Q k H') (dTru φ) := by
  refine ⟨pt_truth h.pe he, fun env M Q σ B H QV hs hc q k => ?_⟩
  refine h.s env M _ σ B H _ hs hc q fun r M1 v B1 H1 q1 n1 r1 => ?_
  obtain ⟨ys, g, q2⟩ := q1
  obtain ⟨p, xs, rfl, hp, ra⟩ := g.at n1.st r1
  refine ⟨!ys.isEmpty, ?_, k _ _ _ _ q2 n1⟩
  rcases hp with hp | hp
  · exact Or.inl ⟨xs, hp, ra.isEmpty.symm⟩
  · exact Or.inr (Or.inl ⟨xs, hp, ra.isEmpty.symm⟩)
/-! ### any of bools -/
def bAny : FS := fun ds M Q => ∃ (d : Dat) (bs : List Bool), ds = [d] ∧ LstR M (.d d) (bs.map Dat.bl) ∧ Q (.d (.bl (bs.any id))) M
theorem RpA.bls {K : PySem.W.Frag} {B : Hp} : ∀ {vs : List V} {bs : List Bool}, RpA K B vs (bs.map Dat.bl) → vs = bs.map V.bl
  | _, [], h => by cases h; rfl
  | _, n :: ns, h => by
    cases h with
    | cons a b =>
      cases a
      rw [RpA.bls b] <;> rfl
theorem sc_any {K : PySem.W.Frag} : SC K (rAny K) bAny := by
  intro B M H vs ds Q QV hc ra q k
  obtain ⟨d, bs, rfl, g, q⟩ := q
  obtain ⟨v, rfl, r⟩ := ra.one
  obtain ⟨p, xs, rfl, h1, h2⟩ := g.at (H0 := H) (v := v) hc (show RR K B M H H v (.d d) from r)
  have e := h2.bls
  subst e
  exact ⟨p, bs, rfl, SqL.of h1, k _ _ _ _ _ q (Nx.refl hc) (.bl _)⟩
theorem ex_any {a : Expr} {t : TA} {ψ : DA} {p pos : Pos} (hc : X.calm = true) (hm : X.mg "any" = none) (ha : AX X [a] t ψ) (hg : Gl X "any" := by rfl) (he : starEach [a] X.env = (false, eval a X.env) :: starEach [] X.env := by rfl) (hpl : (backTo pos (starEach [] X.env)).any (·.1) = false := by rfl) :
    EX X (.Call (.Name "any" p) [a] [] pos) (tCB (rAny X.K) t) (dCB bAny ψ) := ex_callB (cr_any hc) sc_any hm (by decide +kernel) ha (hg := hg) (he := he) (hpl := hpl)
/-! ### enumerate, zip -/
theorem SeqR.atB {K : PySem.W.Frag} {B : Hp} {M : Mem} {H0 H : Hp} {v : V} {r : Rv} {ys : List Dat} (hc : Cs K B M H) (h : RR K B M H0 H v r) (q : SeqR M r ys) : ∃ b p xs, v = .ref p ∧ SqB b K H p xs ∧ RpA K B xs ys := by
  obtain ⟨p, xs, e, hp, ra⟩ := q.at hc h
  rcases hp with hp | hp
  · exact ⟨false, p, xs, e, hp, ra⟩
  · exact ⟨true, p, xs, e, hp, ra⟩
/-- a sequence that stays: its place, its kind -/
theorem seq_stays {K : PySem.W.Frag} {B : Hp} {M : Mem} {H : Hp} {v : V} {d : Dat} {ys : List Dat} (hc : Cs K B M H) (r : Rp K B v d) (q : SeqR M (.d d) ys) :
    ∃ b p, v = .ref p ∧ (∃ xs, SqB b K H p xs) ∧ ∀ B' M' H', Ex B B' → Cs K B' M' H' → stayR ys d M' → ∃ xs, SqB b K H' p xs ∧ RpA K B' xs ys := by
  have fin : (∃ b p, v = .ref p ∧ ∀ B' M' H', Ex B B' → Cs K B' M' H' → stayR ys d M' → ∃ xs, SqB b K H' p xs ∧ RpA K B' xs ys) → ∃ b p, v = .ref p ∧ (∃ xs, SqB b K H p xs) ∧ ∀ B' M' H', Ex B B' → Cs K B' M' H' → stayR ys d M' → ∃ xs, SqB b K H' p xs ∧ RpA K B' xs ys := by
    rintro ⟨b, p, e, w⟩
    have st0 : stayR ys d M := by
      unfold stayR
      split
      · exact q
      · trivial
    obtain ⟨xs, h1, _⟩ := w B M H (Ex.refl _) hc st0
    exact ⟨b, p, e, ⟨xs, h1⟩, w⟩
  refine fin ?_
  unfold SeqR at q
  split at q
  · rename_i xs0 e
    have e := Rv.d.inj e
    subst e q
    cases r with
    | lst h1 h2 => exact ⟨false, _, rfl, fun B' M' H' e s _ => ⟨_, SqL.of (s.ex _ _ (e _ _ h1)), h2.mono e⟩⟩
  · rename_i xs0 e
    have e := Rv.d.inj e
    subst e q
    cases r with
    | tup h1 h2 => exact ⟨true, _, rfl, fun B' M' H' e s _ => ⟨_, s.ex.st (e.st h1), h2.mono e⟩⟩
  · rename_i xs0 e
    have e := Rv.d.inj e
    subst e q
    cases r with
    | fz h1 h2 => exact ⟨false, _, rfl, fun B' M' H' e s _ => ⟨_, s.ex.sl (e.sl h1), h2.mono e⟩⟩
  · rename_i p0 e
    have e := Rv.d.inj e
    subst e
    cases r
    refine ⟨false, _, rfl, fun B' M' H' e s t => ?_⟩
    obtain ⟨_, xs, h1, h2⟩ := s.cell _ _ (show M' p0 = some (.lst _) from t)
    exact ⟨xs, SqL.of h1, h2⟩
  · rename_i xs0 e
    cases e
  · exact q.elim
def enumD (ys : List Dat) : List Dat := ys.zipIdx.map fun q => .tup [.int (q.2 : Nat), q.1]
theorem enumD_get {ys : List Dat} {i : Nat} {y : Dat} (h : ys[i]? = some y) : (enumD ys)[i]? = some (.tup [.int (i : Nat), y]) := by
  unfold enumD
  rw [List.getElem?_map, List.getElem?_zipIdx, h, Nat.zero_add] <;> rfl
theorem enumD_len {ys : List Dat} : (enumD ys).length = ys.length := by
  unfold enumD
  rw [List.length_map, List.length_zipIdx]
theorem wk_enum {K : PySem.W.Frag} {B0 : Hp} {b : Bool} {a : Addr} {ys : List Dat} {stay : Mem → Prop} (h : ∀ B M H, Ex B0 B → Cs K B M H → stay M → ∃ xs, SqB b K H a xs ∧ RpA K B xs ys) : Wk K B0 (IteB b K a) (enumD ys) stay := by
  refine ⟨fun i B M H e s t hi => ?_, fun i x B M H H' e s t hi y => ?_, fun i B M H e s t hi => ?_⟩
  · obtain ⟨xs, h1, h2⟩ := h B M H e s t
    rw [enumD_len] at hi
    have hl : i < xs.length := by rw [h2.length]; exact hi
    exact ⟨xs, xs[i], h1, List.getElem?_eq_getElem hl⟩
  · obtain ⟨xs, h1, h2⟩ := h B M H e s t
    obtain ⟨T, v, rfl, hT, rfl, y⟩ := y
    obtain ⟨d, g1, g2⟩ := h2.get' (y xs h1)
    obtain ⟨n, g⟩ := RR.newT (ds := [.int (i : Nat), d]) s hT (.cons (.int _) (.cons g2 .nil))
    exact ⟨_, _, n, enumD_get g1, g⟩
  · obtain ⟨xs, h1, h2⟩ := h B M H e s t
    rw [enumD_len] at hi
    exact ⟨xs, h1, by rw [h2.length]; exact hi.symm⟩
def dEnumW (ψ : DA) : DW := fun env M Q => ψ env M fun ds M1 => ∃ d ys, ds = [d] ∧ SeqR M1 (.d d) ys ∧ Q (enumD ys) (stayR ys d) M1
theorem ix_enum {e : Expr} {ta : TA} {ψ : DA} {p pos tpos : Pos} {elts : List Expr} {kk : Nat} (hm : X.mg "enumerate" = none) (ha : AX X [e] ta ψ) (hg : Gl X "enumerate" := by rfl) (hs : starEach [e] X.env = [(false, eval e X.env)] := by rfl) :
    IX X (.Tuple elts kk tpos) (.Call (.Name "enumerate" p) [e] [] pos) (iEnumB X.K ta) (dEnumW ψ) := by
  refine ⟨pi_enumB hg hm ha.pa hs, fun env M Q σ B H R hs hc q k => ?_⟩
  refine ha.s env M _ σ B H _ hs hc q fun ds M1 vs B1 H1 q1 n1 r1 => ?_
  obtain ⟨d, ys, rfl, g, q2⟩ := q1
  obtain ⟨v, rfl, r⟩ := r1.one
  obtain ⟨b, a, rfl, ⟨xs, hx⟩, w⟩ := seq_stays n1.st r g
  exact ⟨b, a, xs, rfl, hx, k _ _ M1 B1 H1 _ q2 n1 (wk_enum w)⟩
def zipD (ys zs : List Dat) : List Dat := (ys.zip zs).map fun q => .tup [q.1, q.2]
theorem zipD_len {ys zs : List Dat} : (zipD ys zs).length = min ys.length zs.length := by
  unfold zipD
  rw [List.length_map, List.length_zip]
theorem zipD_get {ys zs : List Dat} {i : Nat} {y z : Dat} (h : ys[i]? = some y) (h' : zs[i]? = some z) : (zipD ys zs)[i]? = some (.tup [y, z]) := by
  unfold zipD
  rw [List.getElem?_map]
  have e : (ys.zip zs)[i]? = some (y, z) := List.getElem?_zip_eq_some.mpr ⟨h, h'⟩
  rw [e] <;> rfl
theorem wk_zip {K : PySem.W.Frag} {B0 : Hp} {b c : Bool} {a a2 : Addr} {ys zs : List Dat} {stay : Mem → Prop} (h : ∀ B M H, Ex B0 B → Cs K B M H → stay M → ∃ xs, SqB b K H a xs ∧ RpA K B xs ys)
    (h' : ∀ B M H, Ex B0 B → Cs K B M H → stay M → ∃ xs, SqB c K H a2 xs ∧ RpA K B xs zs) : Wk K B0 (ItzB b c K a a2) (zipD ys zs) stay := by
  refine ⟨fun i B M H e s t hi => ?_, fun i x B M H H' e s t hi y => ?_, fun i B M H e s t hi => ?_⟩
  · obtain ⟨xs, h1, h2⟩ := h B M H e s t
    obtain ⟨us, g1, g2⟩ := h' B M H e s t
    rw [zipD_len] at hi
    have hl : i < xs.length := by rw [h2.length]; omega
    have gl : i < us.length := by rw [g2.length]; omega
    exact ⟨xs, us, xs[i], us[i], h1, g1, List.getElem?_eq_getElem hl, List.getElem?_eq_getElem gl⟩
  · obtain ⟨xs, h1, h2⟩ := h B M H e s t
    obtain ⟨us, g1, g2⟩ := h' B M H e s t
    obtain ⟨T, v, u, rfl, hT, rfl, y, z⟩ := y
    obtain ⟨d, d1, d2⟩ := h2.get' (y xs h1)
    obtain ⟨f, f1, f2⟩ := g2.get' (z us g1)
    obtain ⟨n, g⟩ := RR.newT (ds := [d, f]) s hT (.cons d2 (.cons f2 .nil))
    exact ⟨_, _, n, zipD_get d1 f1, g⟩
  · obtain ⟨xs, h1, h2⟩ := h B M H e s t
    obtain ⟨us, g1, g2⟩ := h' B M H e s t
    rw [zipD_len] at hi
    have l1 := h2.length
    have l2 := g2.length
    exact ⟨xs, us, h1, g1, by omega, by omega, by omega⟩
def dZipW (ψ : DA) : DW := fun env M Q => ψ env M fun ds M1 => ∃ d e ys zs, ds = [d, e] ∧ SeqR M1 (.d d) ys ∧ SeqR M1 (.d e) zs ∧ Q (zipD ys zs) (fun m => stayR ys d m ∧ stayR zs e m) M1
theorem ix_zip {e e2 : Expr} {ta : TA} {ψ : DA} {p pos tpos : Pos} {elts : List Expr} {kk : Nat} (hm : X.mg "zip" = none) (ha : AX X [e, e2] ta ψ) (hg : Gl X "zip" := by rfl)
    (hs : starEach [e, e2] X.env = (false, eval e X.env) :: starEach [e2] X.env := by rfl) (hpl : (backTo pos (starEach [e2] X.env)).any (·.1) = false := by rfl) :
    IX X (.Tuple elts kk tpos) (.Call (.Name "zip" p) [e, e2] [] pos) (iZipB X.K ta) (dZipW ψ) := by
  refine ⟨pi_zipB hg hm ha.pa hs hpl, fun env M Q σ B H R hs hc q k => ?_⟩
  refine ha.s env M _ σ B H _ hs hc q fun ds M1 vs B1 H1 q1 n1 r1 => ?_
  obtain ⟨d, f, ys, zs, rfl, g, g', q2⟩ := q1
  obtain ⟨v, u, rfl, r, r'⟩ := r1.two
  obtain ⟨b, a, rfl, ⟨xs, hx⟩, w⟩ := seq_stays n1.st r g
  obtain ⟨c, a2, rfl, ⟨us, hu⟩, w'⟩ := seq_stays n1.st r' g'
  exact ⟨b, c, a, a2, xs, us, rfl, hx, hu, k _ _ M1 B1 H1 _ q2 n1 (wk_zip (fun B M H e s t => w B M H e s t.1) (fun B M H e s t => w' B M H e s t.2))⟩
end
end Dl
set_option Elab.async false
set_option linter.all false
set_option maxRecDepth 100000
set_option maxHeartbeats 4000000
namespace Dl
open PySem PySem.Spec PyProof.Rows L2
/-! ### comprehensions over pairs -/
def dLcP (ω : DW) (j1 j2 : Nat) (τ : DT) (φ : DE) : DE := fun env M Q => ω env M fun ys stay M1 => ∃ Inv : Nat → List Dat → Mem → Prop, Inv 0 [] M1 ∧ (∀ i acc M', i ≤ ys.length → Inv i acc M' → stay M') ∧
  (∀ i y acc M', ys[i]? = some y → Inv i acc M' → ∃ y1 y2, y = .tup [y1, y2] ∧ τ ((env.set j1 (some y1)).set j2 (some y2)) M' fun b M2 => if b = true then φ ((env.set j1 (some y1)).set j2 (some y2)) M2 fun r M3 => acc.length < sizeLine ∧ Inv (i + 1) (acc ++ [settle r]) M3 else Inv (i + 1) acc M2) ∧
  ∀ acc M', Inv ys.length acc M' → Q (.new (.lst acc)) M'
abbrev gPair (K : PySem.W.Frag) (j1 j2 : Nat) : TG := gTup K 2 (gCons (gName j1) (gCons (gName j2) gNil))
section
variable {X : Cx} {K : PySem.W.Frag}
theorem set_pair {σ : L2.St} {j1 j2 : Nat} {a b : Option V} (h : j1 ≠ j2) : ((wipe σ [j1, j2]).set j1 a).set j2 b = (σ.set j1 a).set j2 b := by
  show ((((σ.set j2 none).set j1 none).set j1 a).set j2 b) = _
  rw [List.set_set, List.set_comm none a (Ne.symm h), List.set_set]
theorem wipe_pair {σ : L2.St} {j1 j2 : Nat} {a b : Option V} (h : j1 ≠ j2) : wipe ((σ.set j1 a).set j2 b) [j1, j2] = wipe σ [j1, j2] := by
  show ((((σ.set j1 a).set j2 b).set j2 none).set j1 none) = (σ.set j2 none).set j1 none
  rw [List.set_set, List.set_comm a none h, List.set_set]
theorem SE.lcp {wi : TI} {j1 j2 : Nat} {tt : TT} {te : TE} {ω : DW} {τ : DT} {φ : DE} (hj : j1 ≠ j2) (hw : SW K wi ω) (ht : ST K tt τ) (he : SE K te φ) : SE K (tLc wi (gPair K j1 j2) tt te [j1, j2]) (dLcP ω j1 j2 τ φ) := by
  intro env M Q σ B H QV hs hc q k
  refine hw env M _ σ B H _ hs hc q fun ys stay M1 B1 H1 J q1 n1 w => ?_
  obtain ⟨Inv, i0, ist, istep, iend⟩ := q1
  intro D hD
  have hBD : B1 D = none := by
    cases z : B1 D with
    | none => rfl
    | some o =>
      rw [n1.st.ex D o z] at hD
      cases hD
  have hMD : M1 D = none := by
    cases z : M1 D with
    | none => rfl
    | some m =>
      obtain ⟨o, ho⟩ := n1.st.there z
      rw [ho] at hD
      cases hD
  refine ⟨fun i m H' => m = ys.length - i ∧ i ≤ ys.length ∧ ∃ acc M' B' xs, Inv i acc M' ∧ Nx K B1 M1 H1 B' M' H' ∧ B' D = none ∧ M' D = none ∧ H' D = some (.lst xs) ∧ RpA K B' xs acc, ⟨ys.length, by omega, Nat.zero_le _, [], M1, B1, [], i0, (Nx.refl n1.st).poke hD hBD hMD, hBD, hMD, upd_same, .nil⟩, ?_⟩
  rintro i m H' ⟨rfl, hi, acc, M', B', xs, iv, n2, hb2, hm2, hx, ra⟩
  have st := ist i acc M' hi iv
  by_cases hlt : i < ys.length
  · refine Or.inr ⟨w.go i B' M' H' n2.ext n2.st st hlt, fun H3 => ∃ acc M' B' xs, Inv (i + 1) acc M' ∧ Nx K B1 M1 H1 B' M' H3 ∧ B' D = none ∧ M' D = none ∧ H3 D = some (.lst xs) ∧ RpA K B' xs acc, fun H3 hN => ⟨ys.length - (i + 1), by omega, rfl, hlt, hN⟩, fun x H3 y => ?_⟩
    obtain ⟨B3, d, n3, hd, rd⟩ := w.yld i x B' M' H' H3 n2.ext n2.st st hlt y
    obtain ⟨y1, y2, rfl, q3⟩ := istep i d acc M' hd iv
    cases rd with
    | tup t1 t2 =>
      obtain ⟨v1, v2, rfl, r1, r2⟩ := t2.two
      refine ⟨_, _, rfl, n3.st.ex.st t1, rfl, v1, [v2], rfl, v2, [], rfl, rfl, ?_⟩
      rw [set_pair hj]
      refine ⟨wipe_pair hj, ?_⟩
      have n23 := n2.trans n3
      have s3 : SR K B3 ((σ.set j1 (some v1)).set j2 (some v2)) ((env.set j1 (some y1)).set j2 (some y2)) := (((hs.mono n1.ext).mono n23.ext).set r1 j1).set r2 j2
      have hx3 := n3.keep D _ hm2 hx
      have hb3 : B3 D = none := (n3.new D _ hx hm2).trans hb2
      refine ht _ M' _ _ B3 H3 _ s3 n3.st q3 fun b M4 B4 H4 q4 n4 => ?_
      have n234 := n23.trans n4
      have hx4 := n4.keep D _ hm2 hx3
      have hb4 : B4 D = none := (n4.new D _ hx3 hm2).trans hb3
      have hm4 : M4 D = none := n4.dom D _ hx3 hm2
      cases b with
      | true =>
        rw [if_pos rfl] at q4 ⊢
        refine he _ M4 _ _ B4 H4 _ (s3.mono n4.ext) n4.st q4 fun r M5 v B5 H5 q5 n5 r5 => ?_
        obtain ⟨hl, iv'⟩ := q5
        obtain ⟨B6, n6, g6, _⟩ := settle_ok r5 n5
        have hx6 := n6.keep D _ hm4 hx4
        have hb6 : B6 D = none := (n6.new D _ hx4 hm4).trans hb4
        have hm6 : M5 D = none := n6.dom D _ hx4 hm4
        have n26 := n234.trans n6
        have ra6 : RpA K B6 (xs ++ [v]) (acc ++ [settle r]) := (ra.mono ((n3.trans n4).trans n6).ext).append (.cons g6 .nil)
        exact ⟨xs, hx6, by rw [ra.length]; exact hl, acc ++ [settle r], M5, B6, xs ++ [v], iv', n26.poke hD hb6 hm6, hb6, hm6, upd_same, ra6⟩
      | false =>
        rw [if_neg Bool.false_ne_true] at q4 ⊢
        exact ⟨acc, M4, B4, xs, q4, n234, hb4, hm4, hx4, ra.mono (n3.trans n4).ext⟩
  · have e : i = ys.length := by omega
    subst e
    refine Or.inl ⟨w.stop _ B' M' H' n2.ext n2.st st rfl, ?_⟩
    exact k _ _ _ _ _ (iend acc M' iv) (n1.trans n2) ⟨D, rfl, n1.back hD, hb2, hm2, xs, hx, ra⟩
section
variable {j1 j2 : Nat} {x1 x2 : Str} {p1 p2 tp pos : Pos} {cc : Nat} {elt iter : Expr} {ifs : List Expr} {scope : Scope} {wi : TI} {tt : TT} {te : TE} {ω : DW} {τ : DT} {φ : DE}
theorem pg_pair {X : Cx} (hc : X.calm = true) (hN : X.N.Nodup) (h1 : X.N[j1]? = some x1) (h2 : X.N[j2]? = some x2) (l1 : Loc X.env.scope x1) (l2 : Loc X.env.scope x2) (f1 : X.fn x1 = true ∨ X.env.scope.names.lookup x1 = some .local) (f2 : X.fn x2 = true ∨ X.env.scope.names.lookup x2 = some .local) :
    PG X (.Tuple [.Name x1 p1, .Name x2 p2] cc tp) (gPair X.K j1 j2) :=
  pg_tup hc (pgs_cons (pg_name hN h1 l1 f1) (pgs_cons (pg_name hN h2 l2 f2) pgs_nil (by rfl)) (by rfl)) (by rfl) (by rfl)
theorem ex_lcp (hj : j1 ≠ j2) (hc : X.calm = true) (hN : X.N.Nodup) (hi : IX X (.Tuple [.Name x1 p1, .Name x2 p2] cc tp) iter wi ω) (ok : BlkOk X.N X.env.scope scope [(x1, j1), (x2, j2)])
    (hg : ∀ (s : Shared) (H : Hp) (C : Addr) (cl : List (Str × Addr)) (fp : List Addr), PG (X.blk s H scope (compEnvC scope cl C X.env) fp) (.Tuple [.Name x1 p1, .Name x2 p2] cc tp) (gPair X.K j1 j2)) (ht : ∀ (s : Shared) (H : Hp) (C : Addr) (cl : List (Str × Addr)) (fp : List Addr), ∃ tt, TsX (X.blk s H scope (compEnvC scope cl C X.env) fp) ifs tt τ)
    (he : ∀ (s : Shared) (H : Hp) (C : Addr) (cl : List (Str × Addr)) (fp : List Addr), ∃ te, EX (X.blk s H scope (compEnvC scope cl C X.env) fp) elt te φ) (hs : ∀ x, foldedSetIterable iter X.env x = pure x := by intro _; rfl) :
    EX X (.ListComp elt [⟨.Tuple [.Name x1 p1, .Name x2 p2] cc tp, iter, ifs, 0⟩] scope pos) (tLc wi (gPair X.K j1 j2) (tOfT X.K τ) (tOf X.K φ) [j1, j2]) (dLcP ω j1 j2 τ φ) :=
  ⟨pe_lc (own := [(x1, j1), (x2, j2)]) hc hN hi.pi ok hg (fun s H C cl fp => (ht s H C cl fp).elim fun _ h => h.of.pt) (fun s H C cl fp => (he s H C cl fp).elim fun _ h => h.of.pe) hs,
    SE.lcp hj hi.s ((ht X.s_0 X.H_0 0 [] []).elim fun _ h => h.of.s) ((he X.s_0 X.H_0 0 [] []).elim fun _ h => h.of.s)⟩
theorem sx_setLcPD {i : Nat} {y : Str} {py spos : Pos} (hj : j1 ≠ j2) (hc : X.calm = true) (hN : X.N.Nodup) (hi : IX X (.Tuple [.Name x1 p1, .Name x2 p2] cc tp) iter wi ω) (ok : BlkOk X.N X.env.scope scope [(x1, j1), (x2, j2)])
    (hg : ∀ (s : Shared) (H : Hp) (C : Addr) (cl : List (Str × Addr)) (fp : List Addr), PG (X.blk s H scope (compEnvC scope cl C X.env) fp) (.Tuple [.Name x1 p1, .Name x2 p2] cc tp) (gPair X.K j1 j2)) (ht : ∀ (s : Shared) (H : Hp) (C : Addr) (cl : List (Str × Addr)) (fp : List Addr), ∃ tt, TsX (X.blk s H scope (compEnvC scope cl C X.env) fp) ifs tt τ)
    (he : ∀ (s : Shared) (H : Hp) (C : Addr) (cl : List (Str × Addr)) (fp : List Addr), ∃ te, EX (X.blk s H scope (compEnvC scope cl C X.env) fp) elt te φ) (hsw : swapsWith (.ListComp elt [⟨.Tuple [.Name x1 p1, .Name x2 p2] cc tp, iter, ifs, 0⟩] scope pos) (some (.Name y py)) spos.line X.env = pure true)
    (hy : X.N[i]? = some y := by rfl) (hyl : X.env.scope.names.lookup y = some .local := by rfl) (hs : ∀ x, foldedSetIterable iter X.env x = pure x := by intro _; rfl) :
    SX X (.Assign [.Name y py] (.ListComp elt [⟨.Tuple [.Name x1 p1, .Name x2 p2] cc tp, iter, ifs, 0⟩] scope pos) spos) (tAsg (tLc wi (gPair X.K j1 j2) (tOfT X.K τ) (tOf X.K φ) [j1, j2]) (gName i)) (dSet (dLcP ω j1 j2 τ φ) i) :=
  ⟨ps_setLc (own := [(x1, j1), (x2, j2)]) hc hN hy hyl hsw hi.pi ok hg (fun s H C cl fp => (ht s H C cl fp).elim fun _ h => h.of.pt) (fun s H C cl fp => (he s H C cl fp).elim fun _ h => h.of.pe) hs,
    SS.set (SE.lcp hj hi.s ((ht X.s_0 X.H_0 0 [] []).elim fun _ h => h.of.s) ((he X.s_0 X.H_0 0 [] []).elim fun _ h => h.of.s))⟩
end
/-! ### is True -/
def rIsB : R2 := fun x y H Q => ∃ a b, x = .bl a ∧ y = .bl b ∧ Q (.bl (a == b)) H
theorem op_isB : OpR X (compareOp .Is) rIsB := by
  intro pins s σ H x y v u Q I rx ry h
  obtain ⟨a, b, rfl, rfl, q⟩ := h
  cases rx
  cases ry
  show wpAny _ _ ((isSame (Value.bool a) (Value.bool b)) >>= fun z => pure (Value.bool z)) _ _ s
  exact wpAny_bind (wpAny_of_eq (a := (a == b)) (by cases a <;> cases b <;> rfl) (wpAny_pure ⟨.bl (a == b), H, I, rfl, q⟩))
def oIsB : D2 := fun ra rb M Q => match ra, rb with
  | .d (.bl a), .d (.bl b) => Q (.d (.bl (a == b))) M
  | _, _ => False
theorem s2_isB : S2 K rIsB oIsB := by
  intro B M H0 H x y rx ry Q QV hc h1 h2 q k
  unfold oIsB at q
  split at q
  · cases h1
    cases h2
    exact ⟨_, _, rfl, rfl, k _ _ _ _ _ q (Nx.refl hc) (.bl _)⟩
  · exact q.elim
theorem tx_isB {a b : Expr} {ta tb : TE} {φa φb : DE} {pos : Pos} (ha : EX X a ta φa) (hb : EX X b tb φb) : TX X (.Compare a [.Is] [b] pos) (tTest (tOp rIsB ta tb)) (dTest (dOp oIsB φa φb)) := tx_cmp op_isB s2_isB ha hb (nomark _)
end
end Dl
namespace Dl
open PySem PySem.Spec PyProof.Rows L2
/-- what may be a cell is held for good here -/
def dHoldM (φ : DE) : DE := fun env M Q => φ env M fun r M1 => match r with
  | .d (.cell p) => ∃ m, M1 p = some m ∧ Q (.d (frz m)) (M1.del p)
  | r => Q r M1
theorem ex_holdM {X : Cx} {e : Expr} {t : TE} {φ : DE} (h : EX X e t φ) : EX X e t (dHoldM φ) := ⟨h.pe, fun env M Q σ B H QV hs hc q k => by
  refine h.s env M _ σ B H _ hs hc q fun r M1 v B1 H1 q1 n1 r1 => ?_
  split at q1
  · obtain ⟨m, hm, q2⟩ := q1
    cases r1
    obtain ⟨B2, n2, g2⟩ := n1.st.hold hm
    exact k _ _ _ _ _ q2 (n1.trans n2) g2
  · exact k _ _ _ _ _ q1 n1 r1⟩
end Dl
set_option Elab.async false
set_option linter.all false
set_option maxRecDepth 100000
set_option maxHeartbeats 4000000
namespace Dl
open PySem PySem.Spec PyProof.Rows L2
section
variable {X : Cx} {K : PySem.W.Frag}
/-! ### math.gcd -/
def bGcd : FS := fun ds M Q => match ds with
  | [.int i, .int j] => Q (.d (.int ((Nat.gcd i.natAbs j.natAbs : Nat) : Int))) M
  | _ => False
theorem sc_gcd : SC K rGcd bGcd := by
  intro B M H vs ds Q QV hc ra q k
  unfold bGcd at q
  split at q
  · obtain ⟨v, w, rfl, r1, r2⟩ := ra.two
    cases r1
    cases r2
    exact ⟨_, _, rfl, k _ _ _ _ _ q (Nx.refl hc) (.int _)⟩
  · exact q.elim
theorem ex_gcd {x : Str} {p pos : Pos} {e : Expr} {es : List Expr} {t : TA} {ψ : DA} (hm : X.mg x = some (.builtin "math.gcd")) (ha : AX X (e :: es) t ψ) (hg : Gl X x := by rfl) (hdb : (x == ("__debug__" : Str)) = false := by decide)
    (he : starEach (e :: es) X.env = (false, eval e X.env) :: starEach es X.env := by rfl) (hpl : (backTo pos (starEach es X.env)).any (·.1) = false := by rfl) : EX X (.Call (.Name x p) (e :: es) [] pos) (tCB rGcd t) (dCB bGcd ψ) :=
  ⟨pe_callBfun cr_gcd hg hm ha.pa hdb he hpl, SE.cb sc_gcd ha.s⟩
/-! ### list(range(a, b)) -/
def rngV (lo : Int) (n : Nat) : List V := (List.range n).map fun i : Nat => V.int (lo + i)
def rLRng : List V → Hp → VK → Prop := fun xs H Q => ∃ p lo hi, xs = [.ref p] ∧ H p = some (.rng lo hi) ∧ (-(2 ^ 60) ≤ lo ∧ lo < 2 ^ 60) ∧ (-(2 ^ 60) ≤ hi ∧ hi < 2 ^ 60) ∧ (hi - lo).toNat ≤ sizeLine ∧ ∀ q, H q = none → Q (.ref q) (upd H q (.lst (rngV lo (hi - lo).toNat)))
theorem small_rng {lo hi : Int} (h1 : -(2 ^ 60) ≤ lo ∧ lo < 2 ^ 60) (h2 : -(2 ^ 60) ≤ hi ∧ hi < 2 ^ 60) : Builtin.Range.small lo hi 1 = true := by
  unfold Builtin.Range.small Builtin.Range.rangeSize
  have e : (2 : Int) ^ 60 = 1152921504606846976 := by decide
  rw [e] at h1 h2
  rw [if_pos (by decide), Int.ediv_one]
  have e3 : (2 : Int) ^ 63 = 9223372036854775808 := by decide
  have fl : ∀ z : Int, -9223372036854775808 ≤ z → z < 9223372036854775808 → Builtin.Range.rangeFitsLong z = true := fun z a b => by
    unfold Builtin.Range.rangeFitsLong
    rw [e3, decide_eq_true a, decide_eq_true b] <;> rfl
  rw [fl lo (by omega) (by omega), fl hi (by omega) (by omega), fl 1 (by omega) (by omega), fl _ (by split <;> omega) (by split <;> omega), fl (hi + (1 - 1)) (by omega) (by omega), if_pos (show (1 : Int) > 0 by decide), Bool.or_true] <;> rfl
theorem call_list_rng (hc : X.calm = true) : CallR X (.type "list") rLRng := by
  intro pins s σ H xs us Q I r h
  obtain ⟨p, lo, hi, rfl, hp, h1, h2, hz, q⟩ := h
  obtain ⟨u, rfl, rx⟩ := vals1 r
  obtain rfl : u = Value.ref p := rx
  obtain ⟨t, u, v, ho⟩ := (show ObjOk X.prog X.w H s.heap p (.rng lo hi) from I.hok p _ hp)
  have hn : Builtin.Range.rangeSize lo hi 1 = (hi - lo).toNat := by
    unfold Builtin.Range.rangeSize
    rw [if_pos (by decide)]
    split
    · rw [Int.ediv_one]; omega
    · omega
  refine PySem.call_list_range (I.ok.hd hc) ho (small_rng h1 h2) hn (by rw [sizeLine_eq] at hz; exact hz) fun h' tk acc' c' hkeep hS hacc => ?_
  refine ⟨.ref s.heap.objs.size, upd H s.heap.objs.size (.lst (rngV lo (hi - lo).toNat)), I.laid hkeep (Nat.le_refl _) (show ObjOk X.prog X.w _ _ _ (.lst (rngV lo (hi - lo).toNat)) from ⟨?_, acc'.toList, c', ?_, ?_⟩), rfl, q _ (I.hok.fresh (Nat.le_refl _))⟩
  · unfold rngV
    rw [List.length_map, List.length_range]; exact hz
  · have el : acc'.toList.length = acc'.size := by simp
    refine vals_of_at (by unfold rngV; rw [List.length_map, List.length_range, el, hacc.1]) fun j x w h1 h2 => ?_
    obtain ⟨tk, e⟩ := hacc.2 j w (by rw [← Array.getElem?_toList]; exact h2)
    have hj : j < (hi - lo).toNat := by
      by_cases z : j < (hi - lo).toNat
      · exact z
      · unfold rngV at h1
        rw [List.getElem?_eq_none (by rw [List.length_map, List.length_range]; omega)] at h1
        cases h1
    unfold rngV at h1
    rw [List.getElem?_map, List.getElem?_range hj] at h1
    have e1 := Option.some.inj h1
    subst e1 e
    rw [Int.mul_one]
    exact ⟨_, rfl⟩
  · rw [Array.toArray_toList]; exact hS
def rRng2 : List V → Hp → VK → Prop := fun vs H Q => ∃ i j, vs = [V.int i, V.int j] ∧ ∀ p, H p = none → Q (.ref p) (upd H p (.rng i j))
def dLRng (ψ : DA) : DE := fun env M Q => ψ env M fun ds M1 => match ds with
  | [.int i, .int j] => (-(2 ^ 60) ≤ i ∧ i < 2 ^ 60) ∧ (-(2 ^ 60) ≤ j ∧ j < 2 ^ 60) ∧ (j - i).toNat ≤ sizeLine ∧ Q (.new (.lst (rngD i (j - i).toNat))) M1
  | _ => False
theorem rngD_rp {B : Hp} {lo : Int} {n : Nat} : RpA K B (rngV lo n) (rngD lo n) := by
  unfold rngV rngD
  induction List.range n with
  | nil => exact .nil
  | cons a r ih => exact .cons (.int _) ih
theorem ex_listRng {p p2 pos pos2 : Pos} {a b : Expr} {t : TA} {ψ : DA} (hc : X.calm = true) (hl : X.mg "list" = none) (hm : X.mg "range" = none) (ha : AX X [a, b] t ψ) (hg : Gl X "list" := by rfl) (hg2 : Gl X "range" := by rfl)
    (he : starEach [a, b] X.env = (false, eval a X.env) :: starEach [b] X.env := by rfl) (hpl : (backTo pos2 (starEach [b] X.env)).any (·.1) = false := by rfl)
    (he2 : starEach [.Call (.Name "range" p2) [a, b] [] pos2] X.env = (false, eval (.Call (.Name "range" p2) [a, b] [] pos2) X.env) :: starEach [] X.env := by rfl) (hpl2 : (backTo pos (starEach [] X.env)).any (·.1) = false := by rfl) :
    EX X (.Call (.Name "list" p) [.Call (.Name "range" p2) [a, b] [] pos2] [] pos) (tCB rLRng (tCons (tCB rRng2 t) tNil)) (dLRng ψ) := by
  refine ⟨pe_callTy (call_list_rng hc) hg hl (by decide +kernel) (pa_cons (pe_callTy cr_range2 hg2 hm (by decide +kernel) ha.pa (by decide) (by decide) he hpl) pa_nil he2) (by decide) (by decide) he2 hpl2, fun env M Q σ B H QV hs hc q k => ?_⟩
  refine ha.s env M _ σ B H _ hs hc q fun ds M1 vs B1 H1 q1 n1 r1 => ?_
  split at q1
  · rename_i i j
    obtain ⟨z1, z2, z3, q2⟩ := q1
    obtain ⟨v, w, rfl, ra, rb⟩ := r1.two
    cases ra
    cases rb
    refine ⟨i, j, rfl, fun p hp => ?_⟩
    have n2 := Nx.same n1.st (ex_upd (o := .rng i j) hp)
    refine ⟨p, i, j, rfl, upd_same, z1, z2, z3, fun l hl => ?_⟩
    obtain ⟨n3, g3⟩ := RR.newL n2.st hl (rngD_rp (lo := i) (n := (j - i).toNat))
    exact k _ _ _ _ _ q2 ((n1.trans n2).trans n3) (g3.back (n1.trans n2))
  · exact q1.elim
/-! ### a, b = x, y: no pair is made -/
def dPar (i j : Nat) (ψ : DA) : DS := fun E env M => ψ env M fun ds M1 => match ds with
  | [a, b] => E.nx ((env.set i (some a)).set j (some b)) M1
  | _ => False
theorem sx_par {i j : Nat} {x y : Str} {a b : Expr} {t : TA} {ψ : DA} {px py pt pos : Pos} {kt k2 : Nat} {pt2 : Pos} (hc : X.calm = true) (hN : X.N.Nodup) (hi : X.N[i]? = some x) (hj : X.N[j]? = some y) (hij : i ≠ j)
    (hx : X.env.scope.names.lookup x = some .local) (hy : X.env.scope.names.lookup y = some .local) (ha : AX X [a, b] t ψ)
    (hw : swappedStores [.Tuple [.Name x px, .Name y py] kt pt] (.Tuple [a, b] k2 pt2) X.env = pure (some [x, y]))
    (hs : swapsWithSole [.Tuple [.Name x px, .Name y py] kt pt] (.Tuple [a, b] k2 pt2) pos.line X.env = pure false := by rfl) :
    SX X (.Assign [.Tuple [.Name x px, .Name y py] kt pt] (.Tuple [a, b] k2 pt2) pos) (tPar i j t) (dPar i j ψ) := ⟨ps_par hc hN hi hj hij hx hy ha.pa hw hs, fun E env M σ B H D hs hc q l => by
  refine ha.s env M _ σ B H _ hs hc q fun ds M1 vs B1 H1 q1 n1 r1 => ?_
  split at q1
  · obtain ⟨v, w, rfl, ra, rb⟩ := r1.two
    exact ⟨v, w, rfl, l.nx _ _ _ _ _ q1 n1 (((hs.mono n1.ext).set ra i).set rb j)⟩
  · exact q1.elim⟩
end
end Dl
set_option Elab.async false
set_option linter.all false
set_option maxRecDepth 100000
set_option maxHeartbeats 4000000
namespace Dl
open PySem PySem.Spec PyProof.Rows L2
/-! ### super().__init__(..) within the own __init__ of an error's class -/
/-- what the written part says of it: C the class, its __init__ at f, its cell __class__ at cc, its code at cda -/
structure SupC (P : Program) (K : PySem.W.Frag) (mg : Str → Option Value) (C f cc cda : Addr) (fd : FuncData) : Prop where
  ox : OexC K C
  lk : ∃ oc od osl, K.lookup f = some (⟨oc, od, .func fd, osl⟩ : Obj)
  code : ∃ ccl cdd vs ccs file tf, K.lookup cda = some (⟨ccl, cdd, .fields vs, ccs⟩ : Obj) ∧ vs[2]? = some (.str file tf) ∧ ((P.main.file : Str) == file) = true
  cell : ∃ cl cld csl, K.lookup cc = some (⟨cl, cld, .cell (some (.ref C)), csl⟩ : Obj)
  mgs : mg "super" = none
  stat : PySem.W.nsIn K cStatics "thirdparty.any" = some none
  sup : PySem.W.ks_superIn K C C "__init__" = some (some (.builtin "ValueError.__init__"))
  self : PySem.W.mroIn K C (.ref C) = some true
  sub : PySem.W.subIn K (.ref C) (.type "ValueError") = some true
  top : (P.main.scope.names.lookup ("super" : Str)).isSome = false
theorem sup_walk {X : Cx} {pins : List (Addr × Obj)} {σ : L2.St} {H : Hp} {s : Shared} {C f cc cda a : Addr} {fd : FuncData} {ar : Arg} {i : Nat} {body : List Stmt} {e : Expr} {es : List Expr} {ta : TA} {p0 p1 ap pos epos : Pos} {D : Hp → Prop}
    (Z : SupC X.prog X.K X.mg C f cc cda fd) (hgs : Gl X "super") (hkc : X.env.kindOf "__class__" = some .free) (hci : X.env.cells.lookup ("__class__" : Str) = some cc) (hfu : X.env.func = some f) (hp : (fd.params.posonlyargs ++ fd.params.args).head? = some ar) (hco : X.env.code = .ref cda)
    (hN : X.N[i]? = some ar.arg) (hka : X.env.kindOf ar.arg = some .local) (hv : Vis X.env.scope ar.arg) (ha : PA X (e :: es) ta) (I : Inv X pins σ H s) (hσ : σ[i]? = some (some (.ref a))) (hH : H a = some (exo a C none))
    (h : ta σ H fun ws H1 => ws.length ≤ 1000 ∧ H1 a = some (exo a C none) ∧ D H1)
    (hni : interactive X.env = false := by rfl) (hsw : swapsWith (.Call (.Attribute (.Call (.Name "super" p0) [] [] p1) "__init__" ap) (e :: es) [] pos) none epos.line X.env = pure false := by rfl)
    (hev : eval (.Call (.Attribute (.Call (.Name "super" p0) [] [] p1) "__init__" ap) (e :: es) [] pos) X.env = (do
      let ov ← attributeBase (.Call (.Name "super" p0) [] [] p1) "__init__" X.env (eval (.Call (.Name "super" p0) [] [] p1) X.env)
      standAt ap.atName
      let (f, first) ← holding [ov] (getMethod ov "__init__" (pure false))
      callWith pos f first (backTo pos (starEach (e :: es) X.env)) []) := by rfl)
    (he : starEach (e :: es) X.env = (false, eval e X.env) :: starEach es X.env := by rfl) (hpl : (backTo pos (starEach es X.env)).any (·.1) = false := by rfl) :
    PySem.wpAt (model X.prog X.w) X.A (.func body X.env) (exec (.Expr (.Call (.Attribute (.Call (.Name "super" p0) [] [] p1) "__init__" ap) (e :: es) [] pos) epos) X.env) (fun fl s' => fl = .next ∧ ∃ H', Inv X pins σ H' s' ∧ D H') X.xe s := by
  obtain ⟨oc, od, osl, hlk⟩ := Z.lk
  obtain ⟨ccl, cdd, vs, ccs, file, tf, hcode, hvs, hfile⟩ := Z.code
  obtain ⟨cl, cld, csl, hcell⟩ := Z.cell
  obtain ⟨nm, q, N, bs, bm, sn, sub, ab, col, dd, k0, k1, k2, k3, k5, hC, hbm⟩ := Z.ox.cls
  obtain ⟨t1, hx⟩ := exo_at I.hok hH
  have KI := I.kIn
  have hcl : PySem.W.clsIn X.K C = some { name := nm, bases := bs, mro := .ref C :: bm, ns := N, qualname := q, hasDict := true, slotNames := sn, subclasses := sub, abstract := ab, collection := col, hasDel := false } := by unfold PySem.W.clsIn; rw [hC] <;> rfl
  refine ks_wpAt_Expr_any ?_ hni hsw
  refine ks_wpAt_MethodCall (pl := pure false) ?_ hev
  refine ks_wpAt_super_base hgs hkc (by decide) hfu (KI _ _ hlk) rfl hp hco (KI _ _ hcode) rfl hvs hfile Z.top ?_
  obtain ⟨mb, b1, b2⟩ := I.mod.blt
  refine PySem.W.ks_loadName_global I.ok.kind hgs (PySem.Calls.loadGlobal_builtin (by rw [I.ok.glob]; exact I.mod.glob.keeps I.bk) Z.mgs (by rw [I.ok.blt]; exact b1.keeps I.bk) ((b2 "super" (by decide)).trans PyProof.Rows.Boot.«super») ⟨rfl, ?_⟩)
  refine wpAny_loadName_free I.ok.kind hkc hci ⟨_, KI _ _ hcell, rfl⟩ ?_
  obtain ⟨m, hn, hl⟩ := I.loc
  obtain ⟨u, ru, lu⟩ := hl i ar.arg _ hN hσ hv
  obtain rfl : u = Value.ref a := ru
  have hm : m ar.arg = some (.ref a) := by
    rcases lu with ⟨_, z⟩ | ⟨z, _⟩
    · exact z
    · rcases z with z | z <;> (have z' := hka.symm.trans z; cases z')
  refine wpAny_loadName_local I.ok.kind hka hn hm ?_
  obtain ⟨hh, g, d, t, os⟩ := s
  refine ks_wpAny_isType_cls (KI _ _ hC) rfl ⟨rfl, ?_⟩
  refine ks_wpAny_call_super (KI _ _ hC) rfl hx rfl (fun c z => by cases z) (PySem.W.looks_mroIn KI Z.self) fun h1 e1 kk1 => ?_
  have I1 : Inv X pins σ H ⟨h1, g, d, t, os⟩ := I.kept (t' := t) kk1
  have KI1 := I1.kIn
  have J : PySem.W.InstAt h1 a ({ cls := .ref C, dict := none, data := .fields #[.ref t1, .none, .none, .none, .bool false, .none] } : Obj) C none := ⟨kk1 _ _ hx, rfl, rfl, trivial⟩
  have hI : PySem.W.Looks (model X.prog X.w) h1 (isInstance (.ref a) (.type "ValueError")) true := J.type.andThen (PySem.W.looks_subIn KI1 Z.sub)
  have hsup : PySem.W.alongIn X.K "__init__" (((Value.ref C :: bm).dropWhile (· != .ref C)).drop 1) = some (some (.builtin "ValueError.__init__")) := by
    have z := Z.sup
    unfold PySem.W.ks_superIn at z
    rw [hcl] at z
    exact z
  refine PySem.W.kxs_getMethod PySem.W.kxs_ValueError e1 (PySem.W.looks_opaque KI1 Z.stat) (l₀ := .ref C :: bm) (fun A Q E s k q => wpAny_bind ((PySem.W.looks_clsIn KI1 hcl) A _ E s k (wpAny_pure q))) rfl KI1 hsup hI (PySem.W.ks_ne KI1 J hcl) (by decide) ?_
  have kk2 : ∀ b o, h1.get? b = some o → (h1.push (PySem.W.kxs_mw "ValueError.__init__" a)).get? b = some o := fun b o z => Heap.get?_push_of_some _ z
  have I2 : Inv X pins σ H ⟨h1.push (PySem.W.kxs_mw "ValueError.__init__" a), g, d, t + 1, os⟩ := I1.kept (t' := t + 1) kk2
  have hmw : (h1.push (PySem.W.kxs_mw "ValueError.__init__" a)).get? h1.objs.size = some (PySem.W.kxs_mw "ValueError.__init__" a) := Heap.get?_push_at rfl rfl
  have nu : h1.objs.size ∉ X.fs := I1.nofs (Nat.le_refl _)
  have nl : h1.objs.size ≠ X.env.locals := fun z => by
    have z2 := I1.lt
    rw [← z] at z2
    exact absurd z2 (Nat.lt_irrefl _)
  have I3 : Inv X ((h1.objs.size, PySem.W.kxs_mw "ValueError.__init__" a) :: pins) σ H ⟨h1.push (PySem.W.kxs_mw "ValueError.__init__" a), g, d, t + 1, os⟩ := I2.pins_of fun p hp => by
    rcases List.mem_cons.mp hp with rfl | hp
    · exact ⟨hmw, I1.hok.fresh (Nat.le_refl _), nl, nu, fun v z => by cases z⟩
    · exact I2.pin p (List.mem_append_right _ hp)
  rw [he]
  have run := ha.run pos ((h1.objs.size, PySem.W.kxs_mw "ValueError.__init__" a) :: pins) _ σ H _ I3 h
  rw [he] at run
  refine PySem.W.kxs_callWith (i := "ValueError.__init__") (x := a) (by show (false || (backTo pos (starEach es X.env)).any (·.1)) = false; rw [hpl]; rfl) (PySem.Calls.evalArgs_plain (thn run fun us s4 h4 => ?_))
  obtain ⟨ws, H4, I4, rws, hlen, hH4, q⟩ := h4
  have hu4 := (I4.pin (h1.objs.size, PySem.W.kxs_mw "ValueError.__init__" a) (List.mem_append_right _ List.mem_cons_self)).1
  refine ⟨hu4, ?_⟩
  have I5 : Inv X pins σ H4 s4 := I4.pins_of fun p hp => I4.pin p (List.mem_append_right _ (List.mem_cons_of_mem _ hp))
  obtain ⟨t4, hx4⟩ := exo_at I5.hok hH4
  have hus : us.length ≤ sizeLine := by
    rw [← Paired.length rws, sizeLine_eq]
    omega
  obtain ⟨h5, g5, d5, tk5, os5⟩ := s4
  refine wpAny_call (codeAny_of_tree ?_)
  show wpAny _ X.A.in1 (callAny (.ref h1.objs.size) ⟨us, []⟩) _ _ _
  simp only [callAny]
  refine wpAny_bind (wpAny_load hu4 ?_)
  simp only [PySem.W.kxs_mw, show (Value.type "method-wrapper" == Value.type "method" || Value.type "method-wrapper" == Value.type "builtin_function_or_method" || Value.type "method-wrapper" == Value.type "method-wrapper") = true by decide, if_true]
  refine PySem.W.KFB.if_so (by decide) ?_
  refine wpAny_bind (PySem.W.check_bound_init F.excBase_ValueError.toExcCallFacts (I5.kIn _ _ hC) hx4 rfl ?_)
  refine wpAny_bind (wpAny_pure (wpAny_pure ?_))
  refine ⟨plainId_quiet F.excBase_ValueError.init.plain _, codeAny_builtin F.excBase_ValueError.initEntry ?_⟩
  refine PySem.W.exc_init_tree (cls := .ref C) (t0 := t4) (dv := none) (c2 := .none) (c3 := .none) (b4 := .bool false) hx4 hus fun h' k hx5 ht5 => ?_
  have J5 := I5.write (t' := tk5) (x := a) (e := a) (o := exo a C none) (by rw [hH4]; exact True.intro) (.inl rfl) k ⟨_, hx5⟩ (exo_ok hx5)
  have eu : upd H4 a (exo a C none) = H4 := by
    funext b
    by_cases hb : b = a
    · rw [hb, upd_same, hH4]
    · rw [upd_ne hb]
  rw [eu] at J5
  exact ⟨True.intro, H4, J5, q⟩
end Dl
set_option Elab.async false
set_option linter.all false
set_option maxRecDepth 100000
set_option maxHeartbeats 4000000
namespace Dl
open PySem PySem.Spec PyProof.Rows L2 NdefX
/-! ### an own error's __init__: super().__init__(..), then self.f = e, .. -/
abbrev FSI := List Dat → Mem → (List (Str × Dat) → Mem → Prop) → Prop
abbrev DI := Env → Mem → List (Str × Dat) → (List (Str × Dat) → Mem → Prop) → Prop
/-- the end of it -/
structure IEnd (K : PySem.W.Frag) (C a d : Addr) (B0 : Hp) (M0 : Mem) (H0 B' : Hp) (M' : Mem) (H' : Hp) (fs : List (Str × Dat)) : Prop where
  n : Nx K B0 M0 H0 B' M' H'
  ha : H' a = some (exo a C (some d))
  hd : ∃ us, H' d = some (exd d us) ∧ RpF K B' us fs
  h0 : H0 a = none ∧ H0 d = none
  hb : B' a = none ∧ B' d = none
  hm : M' a = none ∧ M' d = none
  ne : d ≠ a
  no : ∀ f x, fs.lookup f = some x → PySem.W.findIn K (.ref C) f = some none
/-- how far it has come -/
def ISt (K : PySem.W.Frag) (C a : Addr) (B0 : Hp) (M0 : Mem) (H0 B' : Hp) (M' : Mem) (H' : Hp) (fs : List (Str × Dat)) : Prop :=
  (fs = [] ∧ Nx K B0 M0 H0 B' M' H' ∧ H' a = some (exo a C none) ∧ H0 a = none ∧ B' a = none ∧ M' a = none) ∨ ∃ d, IEnd K C a d B0 M0 H0 B' M' H' fs
theorem ISt.facts {K : PySem.W.Frag} {C a : Addr} {B0 : Hp} {M0 : Mem} {H0 B' : Hp} {M' : Mem} {H' : Hp} {fs : List (Str × Dat)} (h : ISt K C a B0 M0 H0 B' M' H' fs) : Nx K B0 M0 H0 B' M' H' ∧ H0 a = none ∧ B' a = none ∧ M' a = none ∧ ∃ od, H' a = some (exo a C od) := by
  rcases h with ⟨_, n, ha, h0, hb, hm⟩ | ⟨d, e⟩
  · exact ⟨n, h0, hb, hm, _, ha⟩
  · exact ⟨e.n, e.h0.1, e.hb.1, e.hm.1, _, e.ha⟩
theorem ISt.step {K : PySem.W.Frag} {C a : Addr} {B0 : Hp} {M0 : Mem} {H0 B' : Hp} {M' : Mem} {H' : Hp} {fs : List (Str × Dat)} (h : ISt K C a B0 M0 H0 B' M' H' fs) {B1 : Hp} {M1 : Mem} {H1 : Hp} (n1 : Nx K B' M' H' B1 M1 H1) : ISt K C a B0 M0 H0 B1 M1 H1 fs := by
  rcases h with ⟨e, n, ha, h0, hb, hm⟩ | ⟨d, e⟩
  · exact Or.inl ⟨e, n.trans n1, n1.keep a _ hm ha, h0, (n1.new a _ ha hm).trans hb, n1.dom a _ ha hm⟩
  · obtain ⟨us, hd, r⟩ := e.hd
    exact Or.inr ⟨d, e.n.trans n1, n1.keep a _ e.hm.1 e.ha, ⟨us, n1.keep d _ e.hm.2 hd, r.mono n1.ext⟩, e.h0, ⟨(n1.new a _ e.ha e.hm.1).trans e.hb.1, (n1.new d _ hd e.hm.2).trans e.hb.2⟩, ⟨n1.dom a _ e.ha e.hm.1, n1.dom d _ hd e.hm.2⟩, e.ne, e.no⟩
def IZ (X : Cx) (C : Addr) (sts : List Stmt) (φ : DI) : Prop := ∃ t : TS, PSs X sts t ∧ ∀ (env : Env) (M : Mem) (acc : List (Str × Dat)) (Q : List (Str × Dat) → Mem → Prop) (σ : L2.St) (B H B0 : Hp) (M0 : Mem) (H0 : Hp) (a : Addr) (D : Ends),
  SR X.K B σ env → σ[0]? = some (some (.ref a)) → ISt X.K C a B0 M0 H0 B M H acc → φ env M acc Q → (∀ d fs M' B' H', Q fs M' → IEnd X.K C a d B0 M0 H0 B' M' H' fs → D.nx σ H') → t D σ H
def dINil : DI := fun _ M acc Q => acc ≠ [] ∧ Q acc M
theorem iz_nil {X : Cx} {C : Addr} : IZ X C [] dINil := by
  refine ⟨tNext, pss_nil, fun env M acc Q σ B H B0 M0 H0 a D hs ha st q l => ?_⟩
  obtain ⟨q1, q2⟩ := q
  rcases st with ⟨e, _⟩ | ⟨d, e⟩
  · exact absurd e q1
  · exact l d _ _ _ _ q2 e
def dICons (f : Str) (φ : DE) (ψ : DI) : DI := fun env M acc Q => acc.length ≤ 900 ∧ φ env M fun r M1 => ψ env M1 ((f, settle r) :: acc) Q
theorem iz_cons {X : Cx} {C : Addr} {f : Str} {e : Expr} {te : TE} {φ : DE} {ψ : DI} {sts : List Stmt} {p p' pos : Pos} {x : Str} (T : OexC X.K C) (hno : PySem.W.findIn X.K (.ref C) f = some none) (he : EX X e te φ) (h : IZ X C sts ψ)
    (hN : X.N[0]? = some x) (hv : Vis X.env.scope x) (hd : (x == ("__debug__" : Str)) = false := by decide) (hcd : (x == ("__classdict__" : Str)) = false := by decide)
    (hs : swapsWith e (some (.Attribute (.Name x p) f p')) pos.line X.env = pure false := by rfl) : IZ X C (.Assign [.Attribute (.Name x p) f p'] e pos :: sts) (dICons f φ ψ) := by
  obtain ⟨t, ht, hh⟩ := h
  refine ⟨_, pss_cons (ps_ost (pe_var hN hv hd hcd) he.pe hs) ht, fun env M acc Q σ B H B0 M0 H0 a D sr ha st q l => ?_⟩
  obtain ⟨hl, q⟩ := q
  obtain ⟨n0, h00, hb0, hm0, od, hH0⟩ := st.facts
  refine he.s env M _ σ B H _ sr n0.st q fun r M1 y B1 H1 q1 n1 r1 => ?_
  obtain ⟨B2, n2, g2, e2⟩ := settle_ok r1 n1
  have st2 := st.step n2
  refine ⟨.ref a, ha, a, C, rfl, T, hno, ?_⟩
  obtain ⟨nn, h0a, hba, hma, _⟩ := st2.facts
  rcases st2 with ⟨rfl, n, eH, _⟩ | ⟨d, E⟩
  · refine Or.inl ⟨eH, fun dx hdx ne => ?_⟩
    have h0x : H0 dx = none := n.back hdx
    have hbx : B2 dx = none := by
      cases z : B2 dx with
      | none => rfl
      | some o =>
        rw [n.st.ex dx o z] at hdx
        cases hdx
    have hmx : M1 dx = none := by
      cases z : M1 dx with
      | none => rfl
      | some m =>
        obtain ⟨o, ho⟩ := n.st.there z
        rw [ho] at hdx
        cases hdx
    have nA := (n.poke (o := exd dx [(f, y)]) h0x hbx hmx).poke (o := exo a C (some dx)) h0a hba hma
    refine hh env M1 [(f, settle r)] Q σ B2 _ B0 M0 H0 a D (sr.mono n2.ext) ha (Or.inr ⟨dx, nA, upd_same, ⟨[(f, y)], ?_, .cons g2 .nil⟩, ⟨h0a, h0x⟩, ⟨hba, hbx⟩, ⟨hma, hmx⟩, ne, fun g x z => ?_⟩) q1 l
    · rw [upd_ne ne]
      exact upd_same
    · rw [List.lookup_cons] at z
      split at z
      · rename_i q
        rw [beq_iff_eq.mp q]
        exact hno
      · cases z
  · obtain ⟨us, hd2, ru⟩ := E.hd
    refine Or.inr ⟨d, us, E.ha, hd2, by rw [ru.length]; exact hl, ?_⟩
    have nA := E.n.poke (o := exd d ((f, y) :: us)) E.h0.2 E.hb.2 E.hm.2
    refine hh env M1 ((f, settle r) :: acc) Q σ B2 _ B0 M0 H0 a D (sr.mono n2.ext) ha (Or.inr ⟨d, nA, ?_, ⟨_, upd_same, .cons g2 ru⟩, E.h0, E.hb, E.hm, E.ne, fun g x z => ?_⟩) q1 l
    · rw [upd_ne (Ne.symm E.ne)]
      exact E.ha
    · rw [List.lookup_cons] at z
      split at z
      · rename_i q
        rw [beq_iff_eq.mp q]
        exact hno
      · exact E.no g x z
/-- what the __init__ of the class at C promises -/
def spI (K : PySem.W.Frag) (C : Addr) (fs : FSI) : Sp := fun vs H Q _ => ∃ (a : Addr) (vs' : List V) (ds : List Dat) (M : Mem) (B H0 : Hp) (QD : List (Str × Dat) → Mem → Prop), vs = .ref a :: vs' ∧ H = upd H0 a (exo a C none) ∧ H0 a = none ∧ RpA K B vs' ds ∧ Cs K B M H0 ∧ fs ds M QD ∧
  ∀ d fl M' B' H', QD fl M' → IEnd K C a d B M H0 B' M' H' fl → Q .non H'
theorem none_of {K : PySem.W.Frag} {B : Hp} {M : Mem} {H : Hp} (s : Cs K B M H) {a : Addr} (h : H a = none) : B a = none ∧ M a = none := by
  constructor
  · cases z : B a with
    | none => rfl
    | some o =>
      rw [s.ex a o z] at h
      cases h
  · cases z : M a with
    | none => rfl
    | some m =>
      obtain ⟨o, ho⟩ := s.there z
      rw [ho] at h
      cases h
def startI (N : List Str) (a C : Addr) (ds : List Dat) : Env := none :: ds.map some ++ (none :: List.replicate (N.length - (ds.length + 1) - 1) none)
theorem startI_sr {K : PySem.W.Frag} {B : Hp} {N : List Str} {vs : List V} {ds : List Dat} {a C : Addr} (r : RpA K B vs ds) : SR K B (startF N (.ref a :: vs) [some (.ref C)]) (startI N a C ds) := by
  have hl := r.length
  unfold startF startI
  refine ⟨by simp [hl], fun i x h => ?_⟩
  match i, h with
  | 0, h => simp at h
  | i + 1, h =>
    rw [List.cons_append, List.getElem?_cons_succ] at h
    rw [List.map_cons, List.cons_append, List.getElem?_cons_succ]
    by_cases hi : i < ds.length
    · rw [List.getElem?_append_left (by rw [List.length_map]; exact hi), List.getElem?_map] at h
      rw [List.getElem?_append_left (by rw [List.length_map]; omega), List.getElem?_map]
      cases e : ds[i]? with
      | none =>
        rw [e] at h
        cases h
      | some d =>
        rw [e] at h
        cases h
        obtain ⟨v, h1, h2⟩ := r.get e
        exact ⟨v, by rw [h1] <;> rfl, h2⟩
    · rw [List.getElem?_append_right (by rw [List.length_map]; omega)] at h
      cases z : i - (List.map some ds).length with
      | zero =>
        rw [z] at h
        cases h
      | succ k =>
        rw [z, List.getElem?_cons_succ, List.getElem?_replicate] at h
        split at h <;> cases h
section
variable {P : Program} {w : World} {K : PySem.W.Frag} {mg : Str → Option Value} {base : Heap}
/-- THE RULE: an own error's __init__ by its lines -/
theorem fn_sup {F : NF} {f C cc : Addr} {fd : FuncData} {dV kV doc pm ctv : Value} {an : Option Addr} {N ps : List Str} {k : Nat} {fs : FSI} {ar : Arg} {e : Expr} {es : List Expr} {rest : List Stmt} {p0 p1 ap pos epos : Pos} {ψ : DA} {φ : DI}
    (hfd : fd = PySem.W.fnX F.name F.qual F.params F.body F.scope F.cl dV kV doc pm an (.ref F.c) ctv) (hcl : F.cl = [(("__class__" : Str), cc)]) (Z : SupC P K mg C f cc F.c fd) (S : NScope N ps ["__class__"] F.scope) (hcd : PySem.W.codeIn K (.ref F.c) F.qual = true)
    (hbody : F.body = .Expr (.Call (.Attribute (.Call (.Name "super" p0) [] [] p1) "__init__" ap) (e :: es) [] pos) epos :: rest) (hp : (F.params.posonlyargs ++ F.params.args).head? = some ar) (h0 : ps[0]? = some ar.arg)
    (len : ∀ ds M Q, fs ds M Q → ds.length + 1 = ps.length)
    (body : ∀ (A : Around) (outer : List PySem.Env) (s : Shared) (H : Hp) (E : XK), Room k (A.deeper (envF F f s.heap.objs.size)) → (∃ t, AX (ncx CX0 P w K mg base N F f A outer s H E) (e :: es) t ψ) ∧ IZ (ncx CX0 P w K mg base N F f A outer s H E) C rest φ)
    (rd : ∀ ds M Q, fs ds M Q → ψ (startI N 0 C ds) M fun ms M1 => ms.length ≤ 1000 ∧ φ (startI N 0 C ds) M1 [] Q)
    (hgs : F.scope.names.lookup ("super" : Str) = some .globalImplicit)
    (hsw : ∀ A : Around, ∀ L : Addr, swapsWith (.Call (.Attribute (.Call (.Name "super" p0) [] [] p1) "__init__" ap) (e :: es) [] pos) none epos.line (envF F f L) = pure false)
    (hev : ∀ L : Addr, eval (.Call (.Attribute (.Call (.Name "super" p0) [] [] p1) "__init__" ap) (e :: es) [] pos) (envF F f L) = (do
      let ov ← attributeBase (.Call (.Name "super" p0) [] [] p1) "__init__" (envF F f L) (eval (.Call (.Name "super" p0) [] [] p1) (envF F f L))
      standAt ap.atName
      let (fv, first) ← holding [ov] (getMethod ov "__init__" (pure false))
      callWith pos fv first (backTo pos (starEach (e :: es) (envF F f L))) []))
    (he : ∀ L : Addr, starEach (e :: es) (envF F f L) = (false, eval e (envF F f L)) :: starEach es (envF F f L)) (hpl : ∀ L : Addr, (backTo pos (starEach es (envF F f L))).any (·.1) = false) :
    FnOk P w K mg base CX0 (k + 1) f fd ps (spI K C fs) := by
  refine ⟨fun vs H Q E h => ?_, fun A outer s H args us vs Q E hr e0 hb r hsp => ?_⟩
  · obtain ⟨a, vs', ds, M, B, H0, QD, rfl, _, _, ra, _, hf, _⟩ := h
    rw [List.length_cons, ra.length]
    exact len ds M QD hf
  · obtain ⟨a, vs', ds, M, B, H0, QD, rfl, rfl, ha0, ra, hc, hf, kk⟩ := hsp
    have hl : (V.ref a :: vs').length = ps.length := by
      rw [List.length_cons, ra.length]
      exact len ds M QD hf
    obtain ⟨oc, od, osl, hlk⟩ := Z.lk
    obtain ⟨cl, cld, csl, hcell⟩ := Z.cell
    have KX : K.In s.heap := e0.mod.kin.keeps fun b o e => (e0.bs b o e).1
    have lim : s.heap.NoLimit := e0.mod.nolimit.keeps fun b o e => (e0.bs b o e).1
    subst hfd
    refine codeAny_call_function hr.depth (KX _ _ hlk) rfl S.co S.gen rfl (PySem.W.codeRec_of KX hcd) (hb _ _ _ _ ?_)
    refine wpAny_newFunctionEnv S.nocell (fun ⟨n, _⟩ hy => S.par n (List.of_mem_zip hy).1) (fun h₁ hns hsb => ⟨lim.fresh _ hsb, ?_⟩) S.kind
    show codeAny _ _ (.func F.body (envF F f s.heap.objs.size)) _ _
    refine ks_codeAny_funcAt ?_
    have kp : ∀ b o, s.heap.get? b = some o → h₁.get? b = some o := fun b o e => hsb.extBut b o (Nat.ne_of_lt (Heap.lt_size e)) (Heap.get?_push_of_some _ e)
    have hcB : upd H0 a (exo a C none) cc = none := (e0.bs _ _ (e0.mod.kin _ _ hcell)).2
    have CA : CellsAt F.cl ["__class__"] [some (.ref C)] s.heap (upd H0 a (exo a C none)) := by
      rw [hcl]
      refine ⟨rfl, fun y c z => ?_, fun x y c z1 z2 => ?_, fun i y z => ?_⟩
      · have z' : c = cc := by
          rw [List.lookup_cons] at z
          split at z
          · exact (Option.some.inj z).symm
          · cases z
        subst z'
        exact ⟨hcB, _, _, KX _ _ hcell, rfl⟩
      · have one : ∀ {x : Str} {c : Addr}, List.lookup x [(("__class__" : Str), cc)] = some c → x = "__class__" := fun {x c} z => by
          rw [List.lookup_cons] at z
          split at z
          · rename_i q
            exact beq_iff_eq.mp q
          · cases z
        rw [one z1, one z2]
      · match i, z with
        | 0, z =>
          have ey : y = "__class__" := (Option.some.inj z).symm
          subst ey
          refine ⟨cc, by simp [List.lookup], fun v hv => ?_⟩
          have ev : v = .ref C := by
            have := Option.some.inj hv
            exact (Option.some.inj this).symm
          subst ev
          exact ⟨.ref C, rfl, _, KX _ _ hcell, rfl⟩
        | i + 1, z => simp at z
    have I : Inv (ncx CX0 P w K mg base N F f A outer s (upd H0 a (exo a C none)) E) [] (startF N (.ref a :: vs') [some (.ref C)]) (upd H0 a (exo a C none)) { s with heap := h₁, toks := s.toks + (ps.zip us).length } := inv_startN S hr.hd e0 hl r CA hns kp
    obtain ⟨⟨ta, hta⟩, t, ht, hh⟩ := body A outer s (upd H0 a (exo a C none)) E (hr.deeper _)
    have hN : N[0]? = some ar.arg := by
      have hq : (ps ++ (["__class__"] : List Str))[0]? = some ar.arg := by
        cases ps with
        | nil => cases h0
        | cons p0 r => exact h0
      rw [← S.pre, List.getElem?_take_of_lt (by simp)] at hq
      exact hq
    have hka : F.scope.names.lookup ar.arg = some .local := S.par _ (List.mem_of_getElem? h0)
    have sr : SR K B (startF N (.ref a :: vs') [some (.ref C)]) (startI N 0 C ds) := startI_sr ra
    obtain ⟨hBa, hMa⟩ := none_of hc ha0
    have nP : Nx K B M H0 B M (upd H0 a (exo a C none)) := (Nx.refl hc).poke ha0 hBa hMa
    rw [hbody]
    refine ks_wpAt_execs_cons ?_
    refine ks_wpAt_mono (sup_walk (X := ncx CX0 P w K mg base N F f A outer s (upd H0 a (exo a C none)) E) (i := 0) (D := fun H1 => t { nx := fun _ H' => Q .non H', rt := Q } (startF N (.ref a :: vs') [some (.ref C)]) H1) Z hgs (S.frk _ (List.mem_singleton.mpr rfl)) (by
        show List.lookup ("__class__" : Str) F.cl = some cc
        rw [hcl]
        simp [List.lookup]) rfl hp rfl hN hka (Or.inl hka) hta.pa I rfl upd_same ?_ (by
        show interactive (envF F f s.heap.objs.size) = false
        simp [interactive, envF, PySem.W.envX, S.kind]) (hsw A _) (hev _) (he _) (hpl _)) (fun fl s' hs => ?_) fun e s' z => z
    · refine hta.s (startI N 0 C ds) M _ _ B _ _ sr nP.st (rd ds M QD hf) fun ms M1 ws B1 H1 q1 n1 r1 => ?_
      obtain ⟨q1, q2⟩ := q1
      refine ⟨by rw [r1.length]; exact q1, n1.keep a _ hMa upd_same, ?_⟩
      exact hh _ M1 [] QD _ B1 H1 B M H0 a _ (sr.mono n1.ext) rfl (Or.inl ⟨rfl, nP.trans n1, n1.keep a _ hMa upd_same, ha0, (n1.new a _ upd_same hMa).trans hBa, n1.dom a _ upd_same hMa⟩) q2 fun d fl M' B' H' q3 E => kk d fl M' B' H' q3 E
    · obtain ⟨e1, H', J, q⟩ := hs
      subst e1
      refine PySem.wpAt_of_wpAny (wpAny_mono (ht.run [] s' _ H' _ J q) (fun fl s'' hs => ?_) fun e s' hs => hs)
      have fin : ∀ {σ' : L2.St} {H' : Hp} {v : V} {u : Value}, Inv (ncx CX0 P w K mg base N F f A outer s (upd H0 a (exo a C none)) E) [] σ' H' s'' → L2.RelV v u → Q v H' → CE outer P w (upd H0 a (exo a C none)) s Q u s'' :=
        fun {σ' H' v u} J rv q => ⟨v, H', J.os, J.bare, J.base, J.hok, rv, q⟩
      cases fl with
      | ret u =>
        obtain ⟨v, σ', H', J, rv, q⟩ := hs
        exact fin J rv q
      | next =>
        obtain ⟨σ', H', J, q⟩ := hs
        exact fin (v := V.non) (u := Value.none) J rfl q
      | brk =>
        obtain ⟨_, _, _, q⟩ := hs
        exact False.elim q
      | cont =>
        obtain ⟨_, _, _, q⟩ := hs
        exact False.elim q
end
end Dl
set_option Elab.async false
set_option linter.all false
set_option maxRecDepth 100000
set_option maxHeartbeats 4000000
namespace Dl
open PySem PySem.Spec PyProof.Rows L2 NdefX
/-! ### statements that may raise -/
/-- what a suite may ask of an error of the class at C with the fields fs -/
structure ErrF (K : PySem.W.Frag) (C : Addr) (fs : List (Str × Dat)) : Prop where
  xf : XfC K C
  ic : ExcC K C
  no : ∀ f x, fs.lookup f = some x → PySem.W.findIn K (.ref C) f = some none
abbrev XD := Addr → Addr → List (Str × Dat) → Env → Mem → Prop
/-- what is wanted of an error, over data: d its dict, C its class, fs its fields -/
def XL (K : PySem.W.Frag) (B : Hp) (M : Mem) (H : Hp) (ex : XD) : L2.WX := fun cls dd σ' H' => ∃ (d C : Addr) (fs : List (Str × Dat)) (env' : Env) (M' : Mem) (B' : Hp) (us : List (Str × V)), cls = .ref C ∧ dd = some d ∧ ex d C fs env' M' ∧ Nx K B M H B' M' H' ∧ SR K B' σ' env' ∧ B' d = some (.xd us) ∧ RpF K B' us fs ∧ ErrF K C fs
def Lz (X : Cx) (B : Hp) (M : Mem) (H : Hp) (ex : XD) : Prop := Takes X (XL X.K B M H ex)
theorem Lz.trans {X : Cx} {B B1 : Hp} {M M1 : Mem} {H H1 : Hp} {ex : XD} (l : Lz X B M H ex) (n : Nx X.K B M H B1 M1 H1) : Lz X B1 M1 H1 ex :=
  Takes.imp l fun _ _ _ _ ⟨d, C, fs, env', M', B', us, h1, h2, h3, h4, h5⟩ => ⟨d, C, fs, env', M', B', us, h1, h2, h3, n.trans h4, h5⟩
/-- the statements at their weakest -/
def tW (X : Cx) (sts : List Stmt) : TS := fun D σ H => ∀ (pins : List (Addr × Obj)) (s : Shared), Inv X pins σ H s → wpAny (model X.prog X.w) X.A (execs sts X.env) (SP X pins D) X.xe s
def tW1 (X : Cx) (st : Stmt) : TS := fun D σ H => ∀ (pins : List (Addr × Obj)) (s : Shared), Inv X pins σ H s → wpAny (model X.prog X.w) X.A (exec st X.env) (SP X pins D) X.xe s
theorem tW_ps {X : Cx} {sts : List Stmt} : PSs X sts (tW X sts) := ⟨fun pins s _ _ _ I h => h pins s I⟩
theorem tW1_ps {X : Cx} {st : Stmt} : PS X st (tW1 X st) := ⟨fun pins s _ _ _ I h => h pins s I⟩
def SZ (X : Cx) (t : TS) (φ : DS) : Prop := ∀ (E : En) (env : Env) (M : Mem) (σ : L2.St) (B H : Hp) (D : Ends), SR X.K B σ env → Cs X.K B M H → φ E env M → Lk X.K B M H E D → Lz X B M H E.ex → t D σ H
/-- a statement, statements that may raise -/
structure ZX (X : Cx) (st : Stmt) (φ : DS) : Prop where
  s : SZ X (tW1 X st) φ
structure ZS (X : Cx) (sts : List Stmt) (φ : DS) : Prop where
  s : SZ X (tW X sts) φ
theorem ZX.mk' {X : Cx} {st : Stmt} {t : TS} {φ : DS} (h : PS X st t) (s : SZ X t φ) : ZX X st φ := ⟨fun E env M σ B H D sr hc q l z pins s' I => h.run pins s' σ H D I (s E env M σ B H D sr hc q l z)⟩
theorem ZS.mk' {X : Cx} {sts : List Stmt} {t : TS} {φ : DS} (h : PSs X sts t) (s : SZ X t φ) : ZS X sts φ := ⟨fun E env M σ B H D sr hc q l z pins s' I => h.run pins s' σ H D I (s E env M σ B H D sr hc q l z)⟩
section
variable {X : Cx}
theorem zx_of {st : Stmt} {t : TS} {φ : DS} (h : SX X st t φ) : ZX X st φ := .mk' h.ps fun E env M σ B H D sr hc q l _ => h.s E env M σ B H D sr hc q l
theorem zs_of {sts : List Stmt} {t : TS} {φ : DS} (h : BX X sts t φ) : ZS X sts φ := .mk' h.ps fun E env M σ B H D sr hc q l _ => h.s E env M σ B H D sr hc q l
theorem zs_nil : ZS X [] dNext := .mk' pss_nil fun E env M σ B H D sr hc q l _ => l.nx _ _ _ _ _ q (Nx.refl hc) sr
theorem zs_cons {st : Stmt} {sts : List Stmt} {φ ψ : DS} (h : ZX X st φ) (g : ZS X sts ψ) : ZS X (st :: sts) (dSeq φ ψ) := .mk' (pss_cons tW1_ps tW_ps) fun E env M σ B H D sr hc q l z =>
  h.s { E with nx := ψ E } env M σ B H _ sr hc q ⟨fun env' M' σ' B' H' q' n s' => g.s E env' M' σ' B' H' D s' n.st q' (l.trans n) (z.trans n), l.bk, l.ct, l.rt⟩ z
theorem zx_if {c : Expr} {a b : List Stmt} {tc : TT} {τ : DT} {φ ψ : DS} {pos : Pos} (hc : TX X c tc τ) (ha : ZS X a φ) (hb : ZS X b ψ) : ZX X (.If c a b pos) (dIfS τ φ ψ) := .mk' (ps_if hc.pt tW_ps tW_ps) fun E env M σ B H D sr hc' q l z => by
  refine hc.s env M _ σ B H _ sr hc' q fun k M1 B1 H1 q1 n1 => ?_
  cases k with
  | true =>
    rw [if_pos rfl] at q1 ⊢
    exact ha.s E env M1 σ B1 H1 D (sr.mono n1.ext) n1.st q1 (l.trans n1) (z.trans n1)
  | false =>
    rw [if_neg Bool.false_ne_true] at q1 ⊢
    exact hb.s E env M1 σ B1 H1 D (sr.mono n1.ext) n1.st q1 (l.trans n1) (z.trans n1)
theorem zx_for {tg iter : Expr} {body : List Stmt} {wi : TI} {g : TG} {ω : DW} {γ : DG} {φ : DS} {pos : Pos} (hp : PassesOwn (model X.prog X.w) X.A X.env X.xe) (hc : X.calm = true) (hi : IX X tg iter wi ω) (hg : GX X tg g γ) (hb : ZS X body φ)
    (hs : ∀ x, foldedSetIterable iter X.env x = pure x := by intro _; rfl) : ZX X (.For tg iter body [] pos) (dFor ω γ φ) := .mk' (ps_for hp hc hi.pi hg.pg tW_ps hs) fun E env M σ B H D hs hc q l z => by
  refine hi.s env M _ σ B H _ hs hc q fun ys stay M1 B1 H1 J q1 n1 w => ?_
  obtain ⟨Inv, i0, ist, istep, iend⟩ := q1
  refine ⟨fun i m σ' H' => m = ys.length - i ∧ i ≤ ys.length ∧ ∃ env' M' B', Inv i env' M' ∧ Nx X.K B1 M1 H1 B' M' H' ∧ SR X.K B' σ' env', ⟨ys.length, by omega, Nat.zero_le _, env, M1, B1, i0, Nx.refl n1.st, hs.mono n1.ext⟩, ?_⟩
  rintro i m σ' H' ⟨rfl, hi, env', M', B', iv, n2, s2⟩
  have st := ist i env' M' hi iv
  by_cases hlt : i < ys.length
  · refine Or.inr ⟨w.go i B' M' H' n2.ext n2.st st hlt, fun σ3 H3 => ∃ env3 M3 B3, Inv (i + 1) env3 M3 ∧ Nx X.K B1 M1 H1 B3 M3 H3 ∧ SR X.K B3 σ3 env3, fun σ3 H3 hN => ⟨ys.length - (i + 1), by omega, rfl, hlt, hN⟩, fun x H3 y => ?_⟩
    obtain ⟨B3, d, n3, hd, rd⟩ := w.yld i x B' M' H' H3 n2.ext n2.st st hlt y
    refine hg.s x d σ' env' B3 M' H3 _ _ n3.st (s2.mono n3.ext) rd (istep i d env' M' hd iv) fun env4 σ4 q4 s4 => ?_
    have n23 := n2.trans n3
    refine hb.s _ env4 M' σ4 B3 H3 _ s4 n3.st q4 ⟨fun env5 M5 σ5 B5 H5 q5 n5 s5 => ⟨env5, M5, B5, q5, n23.trans n5, s5⟩, fun env5 M5 σ5 B5 H5 q5 n5 s5 => ?_, fun env5 M5 σ5 B5 H5 q5 n5 s5 => ⟨env5, M5, B5, q5, n23.trans n5, s5⟩, fun r M5 v B5 H5 q5 n5 r5 => ?_⟩ (z.trans (n1.trans n23))
    · exact l.nx _ _ _ _ _ q5 ((n1.trans n23).trans n5) s5
    · exact l.rt _ _ _ _ _ q5 ((n1.trans n23).trans n5) (r5.back (n1.trans n23))
  · have e : i = ys.length := by omega
    subst e
    exact Or.inl ⟨w.stop _ B' M' H' n2.ext n2.st st rfl, l.nx _ _ _ _ _ (iend env' M' iv) (n1.trans n2) s2⟩
end
/-! ### an own error is made and raised -/
/-- what is known of the error's class: its name x, its address C, its __init__ -/
structure KnE (P : Program) (w : World) (K : PySem.W.Frag) (mg : Str → Option Value) (base : Heap) (x : Str) (C : Addr) (k : Nat) (n : Nat) (fs : FSI) : Prop where
  ex : ∃ (fI : Addr) (fd : FuncData) (ps : List Str), FnOk P w K mg base CX0 k fI fd ps (spI K C fs) ∧ OexC K C ∧ PySem.W.findIn K (.ref C) "__init__" = some (some (.ref fI)) ∧ PySem.W.typeIn K (.ref fI) = some (.type "function") ∧ mg x = some (.ref C) ∧ Binds K fd ps []
  xf : XfC K C
  ic : ExcC K C
def dRaise (C : Addr) (fs : FSI) (ψ : DA) : DS := fun E env M => ψ env M fun ds M1 => ds.length ≤ 1000 ∧ fs ds M1 fun fl M2 => ∀ d, E.ex d C fl env M2
theorem IEnd.done {K : PySem.W.Frag} {C a d : Addr} {B0 : Hp} {M0 : Mem} {H0 B' : Hp} {M' : Mem} {H' : Hp} {fs : List (Str × Dat)} (e : IEnd K C a d B0 M0 H0 B' M' H' fs) :
    ∃ us, H' d = some (exd d us) ∧ Nx K B0 M0 H0 (upd B' d (.xd us)) M' (upd (del H' a) d (.xd us)) ∧ RpF K (upd B' d (.xd us)) us fs := by
  obtain ⟨us, hd, r⟩ := e.hd
  have eB : Ex B' (upd B' d (.xd us)) := fun b o q => by
    rw [upd_ne (fun z => by rw [z, e.hb.2] at q; cases q)]
    exact q
  have kH : ∀ b o, b ≠ a → b ≠ d → H' b = some o → upd (del H' a) d (.xd us) b = some o := fun b o h1 h2 q => by
    rw [upd_ne h2, del_ne h1]
    exact q
  have nb : ∀ b o, H0 b = some o → @Ne Addr b a ∧ @Ne Addr b d := fun b o q => ⟨fun z => (by rw [z, e.h0.1] at q; cases q), fun z => (by rw [z, e.h0.2] at q; cases q)⟩
  refine ⟨us, hd, ⟨e.n.ext.trans eB, ⟨fun b o q => ?_, fun p m q => ?_⟩, fun b o m q => kH b o (nb b o q).1 (nb b o q).2 (e.n.keep b o m q), fun b o q m => ?_, e.n.dom, fun b o q => ?_⟩, r.mono eB⟩
  · by_cases z : b = d
    · subst z
      rw [upd_same] at q ⊢
      exact q
    · rw [upd_ne z] at q
      exact kH b o (fun z2 => by rw [z2, e.hb.1] at q; cases q) z (e.n.st.ex b o q)
  · have p1 : p ≠ a := fun z => by rw [z, e.hm.1] at q; cases q
    have p2 : p ≠ d := fun z => by rw [z, e.hm.2] at q; cases q
    obtain ⟨h1, h2⟩ := e.n.st.cell p m q
    exact ⟨by rw [upd_ne p2]; exact h1, h2.mono eB fun o z => kH p o p1 p2 z⟩
  · rw [upd_ne (nb b o q).2]
    exact e.n.new b o q m
  · obtain ⟨o', q'⟩ := e.n.there b o q
    exact ⟨o', kH b o' (nb b o q).1 (nb b o q).2 q'⟩
section
variable {X : Cx}
theorem zx_raise {x : Str} {C : Addr} {k n : Nat} {fs : FSI} {e : Expr} {es : List Expr} {t : TA} {ψ : DA} {p pos pos' : Pos} (hk : KnE X.prog X.w X.K X.mg X.base x C k n fs) (hc : X.calm = true) (hr : Room (k + 1) X.A) (ha : AX X (e :: es) t ψ) (hg : Gl X x := by rfl)
    (hdb : (x == ("__debug__" : Str)) = false := by decide) (he : starEach (e :: es) X.env = (false, eval e X.env) :: starEach es X.env := by rfl) (hpl : (backTo pos (starEach es X.env)).any (·.1) = false := by rfl) :
    ZX X (.Raise (some (.Call (.Name x p) (e :: es) [] pos)) none pos') (dRaise C fs ψ) := by
  obtain ⟨fI, fd, ps, F, ox, iC, tI, hm, hb⟩ := hk.ex
  refine ⟨fun E env M σ B H D sr hc' q l z pins s I => ?_⟩
  refine (ps_raise (W := XL X.K B M H E.ex) hc z (pmk_oex ox iC tI F hr hb .nil (CX := CX0) (fun _ _ _ _ _ _ _ h => h.elim) hg hm ha.pa hdb he hpl)).run pins s σ H D I ?_
  refine ha.s env M _ σ B H _ sr hc' q fun ds M1 vs B1 H1 q1 n1 r1 => ?_
  obtain ⟨q1, q2⟩ := q1
  refine ⟨by rw [r1.length]; exact q1, fun a ha0 => ?_⟩
  rw [List.append_nil]
  refine ⟨a, vs, ds, M1, B1, H1, _, rfl, rfl, ha0, r1, n1.st, q2, fun d fl M' B' H' q3 E3 => ?_⟩
  obtain ⟨us, hd, nn, ru⟩ := E3.done
  exact ⟨rfl, d, us, E3.ha, hd, E3.h0.2, d, C, fl, env, M', _, us, rfl, rfl, q3 d, n1.trans nn, sr.mono (n1.trans nn).ext, upd_same, ru, hk.xf, hk.ic, E3.no⟩
end
end Dl
set_option Elab.async false
set_option linter.all false
set_option maxRecDepth 100000
set_option maxHeartbeats 4000000
namespace Dl
open PySem PySem.Spec PyProof.Rows L2 NdefX StX ClX
/-! ### calls that may raise: each stands alone in its statement -/
abbrev XF := Addr → Addr → List (Str × Dat) → Mem → Prop
abbrev FSX := List Dat → Mem → (Rv → Mem → Prop) → XF → Prop
abbrev DZ := Env → Mem → (Rv → Mem → Prop) → XF → Prop
/-- what is wanted of an error, no local being told -/
def XN (K : PySem.W.Frag) (B : Hp) (M : Mem) (H : Hp) (W : XF) : XK := fun cls dd H' => ∃ (d C : Addr) (fs : List (Str × Dat)) (M' : Mem) (B' : Hp) (us : List (Str × V)), cls = .ref C ∧ dd = some d ∧ W d C fs M' ∧ Nx K B M H B' M' H' ∧ B' d = some (.xd us) ∧ RpF K B' us fs ∧ ErrF K C fs
theorem XN.trans {K : PySem.W.Frag} {B B1 : Hp} {M M1 : Mem} {H H1 : Hp} {W : XF} (n : Nx K B M H B1 M1 H1) {c : Value} {d : Option Addr} {H' : Hp} (x : XN K B1 M1 H1 W c d H') : XN K B M H W c d H' := by
  obtain ⟨d, C, fs, M', B', us, h1, h2, h3, h4, h5⟩ := x
  exact ⟨d, C, fs, M', B', us, h1, h2, h3, n.trans h4, h5⟩
/-- no local is told -/
def noEnv (X : Cx) : Env := List.replicate X.N.length none
theorem no_sr {X : Cx} {B : Hp} {σ : L2.St} (h : σ.length = X.N.length) : SR X.K B σ (noEnv X) := by
  refine ⟨by unfold noEnv; rw [List.length_replicate, h], fun i x q => ?_⟩
  unfold noEnv at q
  rw [List.getElem?_replicate] at q
  split at q <;> cases q
theorem pass_of {X : Cx} {B : Hp} {M : Mem} {H : Hp} {ex : XD} {W : XF} (z : Lz X B M H ex) (hw : ∀ d C fs M', W d C fs M' → ex d C fs (noEnv X) M') : Passes (L2.CX X.prog X.w) X (XN X.K B M H W) := fun pins σ H1 s e s' I c => by
  refine z e s' (XE.of_call (W := XL X.K B M H ex) I (fun cls dd H' q => ?_) c)
  obtain ⟨d, C, fs, M', B', us, h1, h2, h3, h4, h5, h6⟩ := q
  exact ⟨d, C, fs, noEnv X, M', B', us, h1, h2, hw _ _ _ _ h3, h4, no_sr I.len, h5, h6⟩
/-- what a def promises that may raise -/
def spX (K : PySem.W.Frag) (fs : FSX) : Sp := fun vs H Q E => ∃ (ds : List Dat) (M : Mem) (B : Hp) (QD : Rv → Mem → Prop) (W : XF), RpA K B vs ds ∧ Cs K B M H ∧ fs ds M QD W ∧ (∀ r M' v B' H', QD r M' → Nx K B M H B' M' H' → RR K B' M' H H' v r → Q v H') ∧ ∀ c d H', XN K B M H W c d H' → E c d H'
def enX (M : Mem) (Q : Rv → Mem → Prop) (W : XF) : En := { enD M Q with ex := fun d C fs _ M' => W d C fs (M.restr M') }
section
variable {P : Program} {w : World} {K : PySem.W.Frag} {mg : Str → Option Value} {base : Heap}
/-- a def that may raise, by its body's reading -/
theorem fn_X {x qual : Str} {st : Stmt} {f : Addr} {fd : FuncData} {N ps : List Str} {k : Nat} {fs : FSX} (F : Fun K x qual st f fd) (S : FnScope N ps (defScope st)) (len : ∀ ds M Q W, fs ds M Q W → ds.length = ps.length)
    (φ : DS) (body : ∀ (cdv : Value) (A : Around) (outer : List PySem.Env) (s : Shared) (H : Hp) (E : XK), Room k (A.deeper (envOfC qual (defScope st) s.heap.objs.size f cdv)) → ZS (cxOf (L2.CX P w) P w K mg base N qual (defScope st) f cdv A outer s H E) (defBody st) φ)
    (rd : ∀ ds M Q W, fs ds M Q W → φ (enX M Q W) (startD N ds) M) : FnOk P w K mg base (L2.CX P w) (k + 1) f fd ps (spX K fs) := by
  refine F.okX S (fun vs H Q E h => ?_) (fun cdv A outer s H vs Q E hr h => ?_)
  · obtain ⟨ds, M, B, QD, W, ra, _, hf, _⟩ := h
    rw [ra.length]
    exact len ds M QD W hf
  · obtain ⟨ds, M, B, QD, W, ra, hc, hf, kk, xx⟩ := h
    have hb := body cdv A outer s H E hr
    refine ⟨_, tW_ps, hb.s (enX M QD W) (startD N ds) M (L2.start N vs) B H _ (start_sr ra) hc (rd ds M QD W hf) ?_ ?_⟩
    · have l := leave_ok (Q := QD) (QV := Q) hc kk
      exact ⟨l.nx, l.bk, l.ct, l.rt⟩
    · refine Takes.imp (takes_of (X := cxOf (L2.CX P w) P w K mg base N qual (defScope st) f cdv A outer s H E) (E := E) rfl rfl rfl rfl) fun c d σ H' q => ?_
      obtain ⟨d, C, fs', env', M', B', us, h1, h2, h3, h4, h5, h6, h7⟩ := q
      exact xx _ _ _ ⟨d, C, fs', M.restr M', B', us, h1, h2, h3, h4.restr, h6, h7⟩
end
/-- an expression that may raise -/
structure ZE (X : Cx) (e : Expr) (φ : DZ) : Prop where
  run : ∀ (env : Env) (M : Mem) (Q : Rv → Mem → Prop) (W : XF) (ex : XD) (pins : List (Addr × Obj)) (s : Shared) (σ : L2.St) (B H : Hp) (QV : VK), Inv X pins σ H s → SR X.K B σ env → Cs X.K B M H → φ env M Q W → Lz X B M H ex → (∀ d C fs M', W d C fs M' → ex d C fs (noEnv X) M') →
    (∀ r M' v B' H', Q r M' → Nx X.K B M H B' M' H' → RR X.K B' M' H H' v r → QV v H') → wpAny (model X.prog X.w) X.A (eval e X.env) (EP X pins σ QV) X.xe s
def tWe (X : Cx) (e : Expr) : TE := fun σ H Q => ∀ (pins : List (Addr × Obj)) (s : Shared), Inv X pins σ H s → wpAny (model X.prog X.w) X.A (eval e X.env) (EP X pins σ Q) X.xe s
theorem tWe_pe {X : Cx} {e : Expr} : PE X e (tWe X e) := ⟨fun pins s _ _ _ I h => h pins s I⟩
/-- of expressions: e raises with the reading t at the wish E -/
theorem ZE.of {X : Cx} {e : Expr} {φ : DZ} (t : XK → TE) (hp : ∀ (ex : XD) (W : XF) (B : Hp) (M : Mem) (H : Hp), Lz X B M H ex → (∀ d C fs M', W d C fs M' → ex d C fs (noEnv X) M') → PE X e (t (XN X.K B M H W)))
    (hs : ∀ (env : Env) (M : Mem) (Q : Rv → Mem → Prop) (W : XF) (σ : L2.St) (B H : Hp) (QV : VK), SR X.K B σ env → Cs X.K B M H → φ env M Q W → (∀ r M' v B' H', Q r M' → Nx X.K B M H B' M' H' → RR X.K B' M' H H' v r → QV v H') → t (XN X.K B M H W) σ H QV) : ZE X e φ :=
  ⟨fun env M Q W ex pins s σ B H QV I sr hc q z hw k => (hp ex W B M H z hw).run pins s σ H QV I (hs env M Q W σ B H QV sr hc q k)⟩
section
variable {X : Cx}
/-- return e -/
def dRetZ (φ : DZ) : DS := fun E env M => φ env M E.rt fun d C fs M' => E.ex d C fs (List.replicate env.length none) M'
theorem noEnv_eq {B : Hp} {σ : L2.St} {env : Env} {pins : List (Addr × Obj)} {H : Hp} {s : Shared} (sr : SR X.K B σ env) (I : Inv X pins σ H s) : List.replicate env.length none = noEnv X := by
  unfold noEnv
  rw [← sr.1, I.len]
theorem zx_ret {e : Expr} {φ : DZ} {pos : Pos} (he : ZE X e φ) : ZX X (.Return (some e) pos) (dRetZ φ) := .mk' (ps_ret tWe_pe) fun E env M σ B H D sr hc q l z pins s I =>
  he.run env M E.rt _ E.ex pins s σ B H D.rt I sr hc q z (fun d C fs M' h => by rw [← noEnv_eq sr I]; exact h) fun r M1 v B1 H1 q1 n1 r1 => l.rt _ _ _ _ _ q1 n1 r1
/-- e -/
def dDropZ (φ : DZ) : DS := fun E env M => φ env M (fun _ M1 => E.nx env M1) fun d C fs M' => E.ex d C fs (List.replicate env.length none) M'
theorem zx_expr {e : Expr} {φ : DZ} {pos : Pos} (he : ZE X e φ) (hs : swapsWith e none pos.line X.env = pure false := by rfl) : ZX X (.Expr e pos) (dDropZ φ) := .mk' (ps_expr tWe_pe hs) fun E env M σ B H D sr hc q l z pins s I =>
  he.run env M _ _ E.ex pins s σ B H _ I sr hc q z (fun d C fs M' h => by rw [← noEnv_eq sr I]; exact h) fun r M1 v B1 H1 q1 n1 r1 => l.nx _ _ _ _ _ q1 n1 (sr.mono n1.ext)
/-- x = e -/
def dSetZ (φ : DZ) (i : Nat) : DS := fun E env M => φ env M (fun r M1 => E.nx (env.set i (some (settle r))) M1) fun d C fs M' => E.ex d C fs (List.replicate env.length none) M'
theorem zx_set {tg e : Expr} {φ : DZ} {i : Nat} {pos : Pos} (he : ZE X e φ) (hg : PG X tg (gName i)) (hs : swapsWithSole [tg] e pos.line X.env = pure false := by rfl) (hw : swappedStores [tg] e X.env = pure none := by rfl)
    (h1 : (assignEach [tg] X.env).map (·.2) = [assign tg X.env] := by rfl) : ZX X (.Assign [tg] e pos) (dSetZ φ i) := .mk' (ps_asg tWe_pe hg hs hw h1) fun E env M σ B H D sr hc q l z pins s I =>
  he.run env M _ _ E.ex pins s σ B H _ I sr hc q z (fun d C fs M' h => by rw [← noEnv_eq sr I]; exact h) fun r M1 v B1 H1 q1 n1 r1 => by
    obtain ⟨B2, n2, g2, _⟩ := settle_ok r1 n1
    exact l.nx _ _ _ _ _ q1 n2 ((sr.mono n2.ext).set g2 i)
/-! ### f(..), o.m(..), C(..) -/
def dCallZ (fs : FSX) (ψ : DA) : DZ := fun env M Q W => ψ env M fun ds M1 => fs ds M1 Q W
section
variable {k : Nat} {f C0 : Addr} {fd : FuncData} {ps : List Str} {x m : Str} {p pos apos : Pos} {o e : Expr} {es : List Expr} {t : TA} {to : TE} {ψ : DA} {φ : DE} {fs : FSX}
theorem ze_call (F : FnOk X.prog X.w X.K X.mg X.base (L2.CX X.prog X.w) k f fd ps (spX X.K fs)) (hr : Room k X.A) (hm : X.mg x = some (.ref f)) (hk : PySem.W.keepIn X.K (.ref f) = true) (hb : Binds X.K fd ps []) (ha : AX X (e :: es) t ψ) (hg : Gl X x := by rfl)
    (hdb : (x == ("__debug__" : Str)) = false := by decide) (he : starEach (e :: es) X.env = (false, eval e X.env) :: starEach es X.env := by rfl) (hpl : (backTo pos (starEach es X.env)).any (·.1) = false := by rfl) :
    ZE X (.Call (.Name x p) (e :: es) [] pos) (dCallZ fs ψ) := .of (fun E => tCall (spX X.K fs) [] E t) (fun ex W B M H z hw => pe_call F hr hg hm hk hb .nil (pass_of z hw) ha.pa hdb he hpl) fun env M Q W σ B H QV sr hc q k => by
  refine ha.s env M _ σ B H _ sr hc q fun ds M1 vs B1 H1 q1 n1 r1 => ?_
  show spX X.K fs (vs ++ []) H1 QV _
  rw [List.append_nil]
  exact ⟨ds, M1, B1, Q, W, r1, n1.st, q1, fun r M' v B' H' q2 n2 r2 => k r M' v B' H' q2 (n1.trans n2) (r2.back n1), fun c d H' y => y.trans n1⟩
def dMethZ (C0 : Addr) (m : Str) (fs : FSX) (φ : DE) (ψ : DA) : DZ := fun env M Q W => φ env M fun r M1 => ∃ d gs, r = .d d ∧ insR C0 M1 d gs ∧ gs.lookup m = none ∧ ψ env M1 fun ds M2 => fs (d :: ds) M2 Q W
theorem se_methZ {env : Env} {M : Mem} {Q : Rv → Mem → Prop} {W : XF} {σ : L2.St} {B H : Hp} {QV : VK} (h : SE X.K to φ) (g : SA X.K t ψ) (hs : SR X.K B σ env) (hc : Cs X.K B M H) (q : dMethZ C0 m fs φ ψ env M Q W)
    (k : ∀ r M' v B' H', Q r M' → Nx X.K B M H B' M' H' → RR X.K B' M' H H' v r → QV v H') : tMeth C0 m (spX X.K fs) [] (XN X.K B M H W) to t σ H QV := by
  refine h env M _ σ B H _ hs hc q fun r M1 v B1 H1 q1 n1 r1 => ?_
  obtain ⟨d, gs, rfl, gi, gl, q2⟩ := q1
  obtain ⟨a, dx, vs, rfl, h1, h2⟩ := gi.at n1.st r1
  refine ⟨a, dx, vs, rfl, h1, h2.none gl, ?_⟩
  refine g env M1 _ σ B1 H1 _ (hs.mono n1.ext) n1.st q2 fun ds M2 ws B2 H2 q3 n2 r2 => ?_
  show spX X.K fs (.ref a :: (ws ++ [])) H2 QV _
  rw [List.append_nil]
  have n12 := n1.trans n2
  exact ⟨d :: ds, M2, B2, Q, W, .cons (Rp.mono n2.ext r1) r2, n2.st, q3, fun r M' v B' H' q4 n3 r3 => k r M' v B' H' q4 (n12.trans n3) (r3.back n12), fun c d H' y => y.trans n12⟩
theorem ze_meth {pl : Sem Bool} (ho : EX X o to φ) (c : Cls X.K C0) (hm : Meth X.K C0 m f) (F : FnOk X.prog X.w X.K X.mg X.base (L2.CX X.prog X.w) k f fd ps (spX X.K fs)) (hr : Room k X.A) (hb : Binds X.K fd ps []) (ha : AX X (e :: es) t ψ)
    (hst : starEach (e :: es) X.env = (false, eval e X.env) :: starEach es X.env := by rfl) (hpl : (backTo pos (starEach es X.env)).any (·.1) = false := by rfl)
    (ht : eval (.Call (.Attribute o m apos) (e :: es) [] pos) X.env = (do
      let ov ← eval o X.env
      standAt apos.atName
      let (f, first) ← holding [ov] (getMethod ov m pl)
      callWith pos f first (backTo pos (starEach (e :: es) X.env)) (backToKw pos (keywordEach [] X.env))) := by rfl) :
    ZE X (.Call (.Attribute o m apos) (e :: es) [] pos) (dMethZ C0 m fs φ ψ) := .of (fun E => tMeth C0 m (spX X.K fs) [] E to t) (fun ex W B M H z hw => pe_meth ho.pe c hm F hr hb .nil (pass_of z hw) ha.pa hst hpl ht)
  fun env M Q W σ B H QV sr hc q k => se_methZ ho.s ha.s sr hc q k
theorem ze_meth0 {pl : Sem Bool} (ho : EX X o to φ) (c : Cls X.K C0) (hm : Meth X.K C0 m f) (F : FnOk X.prog X.w X.K X.mg X.base (L2.CX X.prog X.w) k f fd ps (spX X.K fs)) (hr : Room k X.A) (hb : Binds X.K fd ps [])
    (ht : eval (.Call (.Attribute o m apos) [] [] pos) X.env = (do
      let ov ← eval o X.env
      standAt apos.atName
      let (f, first) ← holding [ov] (getMethod ov m pl)
      callWith pos f first (backTo pos (starEach [] X.env)) (backToKw pos (keywordEach [] X.env))) := by rfl) :
    ZE X (.Call (.Attribute o m apos) [] [] pos) (dMethZ C0 m fs φ dNil) := .of (fun E => tMeth C0 m (spX X.K fs) [] E to tNil) (fun ex W B M H z hw => pe_meth0 ho.pe c hm F hr hb .nil (pass_of z hw) ht)
  fun env M Q W σ B H QV sr hc q k => se_methZ ho.s SA.nil sr hc q k
end
end
end Dl
set_option Elab.async false
set_option linter.all false
set_option maxRecDepth 100000
set_option maxHeartbeats 4000000
namespace Dl
open PySem PySem.Spec PyProof.Rows L2 NdefX StX ClX
/-! ### C(..) where __init__ may raise; own &, own in; def m(self, *v) -/
theorem Nx.del {K : PySem.W.Frag} {B : Hp} {M : Mem} {H B' : Hp} {M' : Mem} {H' : Hp} (n : Nx K B M H B' M' H') (x : Addr) : Nx K B M H B' (M'.del x) H' := by
  have sub : ∀ p m, M'.del x p = some m → M' p = some m := fun p m e => by
    unfold Mem.del at e
    split at e
    · cases e
    · exact e
  refine ⟨n.ext, ⟨n.st.ex, fun p m e => n.st.cell p m (sub p m e)⟩, n.keep, n.new, fun a o e hm => ?_, n.there⟩
  unfold Mem.del
  split
  · rfl
  · exact n.dom a o e hm
section
variable {X : Cx} {k : Nat} {f C0 : Addr} {fd : FuncData} {ps : List Str} {x m : Str} {p pos apos : Pos} {o e : Expr} {es : List Expr} {t : TA} {to : TE} {ψ : DA} {φ : DE} {fs : FSX}
def dMakeZ (C0 : Addr) (fs : FSX) (ψ : DA) : DZ := fun env M Q W => ψ env M fun ds M1 => ∀ x, M1 x = none → fs (.cell x :: ds) (M1.set x (.obj C0 [])) (fun r M2 => r = .d .non ∧ ∃ m, M2 x = some m ∧ Q (.d (frz m)) (M2.del x)) fun d C fl M2 => W d C fl (M2.del x)
theorem ze_make (Mk0 : Mk X.K C0 f) (F : FnOk X.prog X.w X.K X.mg X.base (L2.CX X.prog X.w) k f fd ps (spX X.K fs)) (hr : Room (k + 1) X.A) (hm : X.mg x = some (.ref C0)) (hb : Binds X.K fd ps []) (ha : AX X (e :: es) t ψ) (hg : Gl X x := by rfl)
    (hdb : (x == ("__debug__" : Str)) = false := by decide) (he : starEach (e :: es) X.env = (false, eval e X.env) :: starEach es X.env := by rfl) (hpl : (backTo pos (starEach es X.env)).any (·.1) = false := by rfl) :
    ZE X (.Call (.Name x p) (e :: es) [] pos) (dMakeZ C0 fs ψ) := .of (fun E => tMake C0 (spX X.K fs) [] E t) (fun ex W B M H z hw => pe_make Mk0 F hr hg hm hb .nil (pass_of z hw) ha.pa hdb he hpl) fun env M Q W σ B H QV hs hc q k => by
  refine ha.s env M _ σ B H _ hs hc q fun ds M1 vs B1 H1 q1 n1 r1 => ?_
  intro x dx hx hdx ne
  obtain ⟨hBx, hMx⟩ := none_of n1.st hx
  have e1 : Ex H1 (upd (upd H1 dx (.own x)) x (.ins C0 dx [])) := fun b o e => by
    rw [upd_ne (ne_of_none e hx), upd_ne (ne_of_none e hdx)]
    exact e
  have n2 : Nx X.K B1 M1 H1 B1 (M1.set x (.obj C0 [])) (upd (upd H1 dx (.own x)) x (.ins C0 dx [])) := by
    refine ⟨Ex.refl _, ⟨n1.st.ex.trans e1, fun p m e => ?_⟩, fun a o _ e => e1 a o e, fun _ _ _ _ => rfl, fun a o e z => ?_, fun a o e => ⟨o, e1 a o e⟩⟩
    · by_cases z : p = x
      · subst z
        rw [Mem.set_same] at e
        cases e
        exact ⟨hBx, dx, [], upd_same, .nil⟩
      · rw [Mem.set_ne z] at e
        exact ⟨(n1.st.cell p m e).1, (n1.st.cell p m e).2.mono (Ex.refl _) fun o q => e1 p o q⟩
    · rw [Mem.set_ne (ne_of_none e hx)]
      exact z
  show spX X.K fs (.ref x :: (vs ++ [])) _ _ _
  rw [List.append_nil]
  refine ⟨.cell x :: ds, M1.set x (.obj C0 []), B1, _, _, .cons (.cell x) r1, n2.st, q1 x hMx, fun r M' v B' H' q2 n3 r2 => ?_, fun c dd H' y => ?_⟩
  · obtain ⟨rfl, m, hm, q3⟩ := q2
    cases r2
    refine ⟨rfl, ?_⟩
    have n123 := (n1.trans n2).trans n3
    obtain ⟨B2, n4, g4⟩ := n3.st.hold hm
    exact k _ _ _ _ _ q3 (n123.trans n4) g4
  · obtain ⟨d, C, fl, M', B', us, h1, h2, h3, h4, h5, h6⟩ := y
    exact ⟨d, C, fl, M'.del x, B', us, h1, h2, h3, (((n1.trans n2).trans h4).del x), h5, h6⟩
/-- a & b of one's own -/
def rOwnX (C0 : Addr) (sp : Sp) (E : XK) : R2 := fun x y H Q => ∃ a b dx dy vs ws, x = .ref a ∧ y = .ref b ∧ H a = some (.ins C0 dx vs) ∧ H b = some (.ins C0 dy ws) ∧ sp [.ref a, .ref b] H Q E
theorem op_ownX {op : Operator} {sp : Sp} {E : XK} (h : OpOf X.K C0 (PySem.dunder op.info.2) f) (F : FnOk X.prog X.w X.K X.mg X.base (L2.CX X.prog X.w) k f fd ps sp) (hr : Room k X.A) (hb : Binds X.K fd ps []) (hx : Passes (L2.CX X.prog X.w) X E) : OpR X (binaryOp op) (rOwnX C0 sp E) := by
  intro pins s σ H x y v u Q I rx ry hq
  obtain ⟨a, b, dx, dy, vs, ws, rfl, rfl, ha, hb', q⟩ := hq
  cases rx
  cases ry
  obtain ⟨m, fr⟩ := I.fr
  obtain ⟨_, O1, _⟩ := ins_get I.hok ha
  obtain ⟨_, O2, _⟩ := ins_get I.hok hb'
  obtain ⟨od1, I1, _⟩ := O1.look
  obtain ⟨od2, I2, _⟩ := O2.look
  refine PySem.W.binop_K fr I.ok.mod.kin I1 I2.type h.sf h.at_ h.fn ?_
  refine thn (run_fn (Q := Q) (dvs := []) (vs := [.ref a, .ref b]) F hr hb .nil hx I (.cons rfl (.cons rfl .nil)) q) fun r s' hr' => ?_
  obtain ⟨w, H', I', rw_, qw⟩ := hr'
  have z : EP X pins σ Q r s' := ⟨w, H', I', rw_, qw⟩
  cases r with
  | notImplemented =>
    cases w with
    | int i => obtain ⟨_, e⟩ := rw_; cases e
    | str i => obtain ⟨_, e⟩ := rw_; cases e
    | byt i => obtain ⟨_, e⟩ := rw_; cases e
    | flt i => obtain ⟨_, e⟩ := rw_; cases e
    | _ => cases rw_
  | _ => exact z
def dOwnZ (C0 : Addr) (fs : FSX) (φa φb : DE) : DZ := fun env M Q W => φa env M fun ra M1 => φb env M1 fun rb M2 => ∃ d e gs hs, ra = .d d ∧ rb = .d e ∧ insR C0 M2 d gs ∧ insR C0 M2 e hs ∧ fs [d, e] M2 Q W
theorem ze_own {op : Operator} {a b : Expr} {ta tb : TE} {φa φb : DE} (h : OpOf X.K C0 (PySem.dunder op.info.2) f) (F : FnOk X.prog X.w X.K X.mg X.base (L2.CX X.prog X.w) k f fd ps (spX X.K fs)) (hr : Room k X.A) (hb : Binds X.K fd ps []) (ha : EX X a ta φa) (hb' : EX X b tb φb) :
    ZE X (.BinOp a op b pos) (dOwnZ C0 fs φa φb) := .of (fun E => tOp (rOwnX C0 (spX X.K fs) E) ta tb) (fun ex W B M H z hw => pe_op (op_ownX h F hr hb (pass_of z hw)) ha.pe hb'.pe) fun env M Q W σ B H QV sr hc q k => by
  refine ha.s env M _ σ B H _ sr hc q fun ra M1 v1 B1 H1 q1 n1 r1 => ?_
  refine hb'.s env M1 _ σ B1 H1 _ (sr.mono n1.ext) n1.st q1 fun rb M2 v2 B2 H2 q2 n2 r2 => ?_
  obtain ⟨d, e, gs, hs, rfl, rfl, g1, g2, q3⟩ := q2
  have n12 := n1.trans n2
  have r1' := r1.fwd n2
  obtain ⟨a1, dx, vs, rfl, i1, _⟩ := g1.at n2.st r1'
  obtain ⟨a2, dy, ws, rfl, i2, _⟩ := g2.at n2.st r2
  exact ⟨a1, a2, dx, dy, vs, ws, rfl, rfl, i1, i2, [d, e], M2, B2, Q, W, .cons r1' (.cons r2 .nil), n2.st, q3, fun r M' v B' H' q4 n3 r3 => k r M' v B' H' q4 (n12.trans n3) (r3.back n12), fun c d H' y => y.trans n12⟩
/-- a in b of one's own -/
def rInX (C0 : Addr) (sp : Sp) (E : XK) : R2 := fun x y H Q => ∃ b dy ws, y = .ref b ∧ H b = some (.ins C0 dy ws) ∧ sp [.ref b, x] H (fun v H' => ∃ k, v = .bl k ∧ Q (.bl k) H') E
structure InOf (K : PySem.W.Frag) (C f : Addr) : Prop where
  at_ : PySem.W.findIn K (.ref C) "__contains__" = some (some (.ref f))
  fn : PySem.W.isFn K (.ref f) = true
theorem op_inX {CX : CXT} {sp : Sp} {E : XK} (h : InOf X.K C0 f) (F : FnOk X.prog X.w X.K X.mg X.base CX k f fd ps sp) (hr : Room k X.A) (hb : Binds X.K fd ps []) (hx : Passes CX X E) : OpR X (compareOp .In) (rInX C0 sp E) := by
  intro pins s σ H x y v u Q I rx ry hq
  obtain ⟨b, dy, ws, rfl, hb', q⟩ := hq
  cases ry
  obtain ⟨m, fr⟩ := I.fr
  obtain ⟨_, O2, _⟩ := ins_get I.hok hb'
  obtain ⟨od2, I2, _⟩ := O2.look
  refine PySem.W.in_K fr I.ok.mod.kin I2 h.at_ h.fn ?_
  refine thn (run_fn (dvs := []) (vs := [.ref b, x]) F hr hb .nil hx I (.cons rfl (.cons rx .nil)) q) fun r s' hr' => ?_
  obtain ⟨w, H', I', rw_, kk, rfl, qw⟩ := hr'
  obtain rfl : r = Value.bool kk := rw_
  exact wpAny_pure ⟨.bl kk, H', I', rfl, qw⟩
def dInZ (C0 : Addr) (fs : FSX) (φa φb : DE) : DZ := fun env M Q W => φa env M fun ra M1 => φb env M1 fun rb M2 => ∃ d e hs, ra = .d d ∧ rb = .d e ∧ insR C0 M2 e hs ∧ fs [e, d] M2 (fun r M3 => ∃ b, r = .d (.bl b) ∧ Q (.d (.bl b)) M3) W
theorem ze_in {a b : Expr} {ta tb : TE} {φa φb : DE} (h : InOf X.K C0 f) (F : FnOk X.prog X.w X.K X.mg X.base (L2.CX X.prog X.w) k f fd ps (spX X.K fs)) (hr : Room k X.A) (hb : Binds X.K fd ps []) (ha : EX X a ta φa) (hb' : EX X b tb φb) (hm : behindInMarks .In b = false := by rfl) :
    ZE X (.Compare a [.In] [b] pos) (dInZ C0 fs φa φb) := .of (fun E => tOp (rInX C0 (spX X.K fs) E) ta tb) (fun ex W B M H z hw => pe_cmpR (op_inX h F hr hb (pass_of z hw)) ha.pe hb'.pe hm) fun env M Q W σ B H QV sr hc q k => by
  refine ha.s env M _ σ B H _ sr hc q fun ra M1 v1 B1 H1 q1 n1 r1 => ?_
  refine hb'.s env M1 _ σ B1 H1 _ (sr.mono n1.ext) n1.st q1 fun rb M2 v2 B2 H2 q2 n2 r2 => ?_
  obtain ⟨d, e, hs, rfl, rfl, g2, q3⟩ := q2
  have n12 := n1.trans n2
  have r1' := r1.fwd n2
  obtain ⟨a2, dy, ws, rfl, i2, _⟩ := g2.at n2.st r2
  refine ⟨a2, dy, ws, rfl, i2, [e, d], M2, B2, _, W, .cons r2 (.cons r1' .nil), n2.st, q3, fun r M' v B' H' q4 n3 r3 => ?_, fun c d H' y => y.trans n12⟩
  obtain ⟨b, rfl, q5⟩ := q4
  cases r3
  exact ⟨b, rfl, k _ _ _ _ _ q5 (n12.trans n3) (.bl b)⟩
/-- the same where nothing is raised -/
def oInO (C0 : Addr) (fs : FS) : D2 := fun ra rb M Q => ∃ d e hs, ra = .d d ∧ rb = .d e ∧ insR C0 M e hs ∧ fs [e, d] M fun r M3 => ∃ b, r = .d (.bl b) ∧ Q (.d (.bl b)) M3
theorem s2_inO {K : PySem.W.Frag} {fs : FS} : S2 K (rInX C0 (spD K fs) E0) (oInO C0 fs) := by
  intro B M H0 H x y rx ry Q QV hc h1 h2 q k
  obtain ⟨d, e, hs, rfl, rfl, g2, q⟩ := q
  obtain ⟨b, dy, ws, rfl, i2, _⟩ := g2.at hc h2
  refine ⟨b, dy, ws, rfl, i2, [e, d], M, B, _, .cons h2 (.cons h1 .nil), hc, q, fun r M' v B' H' q4 n3 r3 => ?_⟩
  obtain ⟨b, rfl, q5⟩ := q4
  cases r3
  exact ⟨b, rfl, k _ _ _ _ _ q5 n3 (.bl b)⟩
theorem tx_inO {fs : FS} {a b : Expr} {ta tb : TE} {φa φb : DE} (h : InOf X.K C0 f) (F : FnOk X.prog X.w X.K X.mg X.base CX0 k f fd ps (spD X.K fs)) (hr : Room k X.A) (hb : Binds X.K fd ps []) (ha : EX X a ta φa) (hb' : EX X b tb φb) (hm : behindInMarks .In b = false := by rfl) :
    TX X (.Compare a [.In] [b] pos) (tTest (tOp (rInX C0 (spD X.K fs) E0) ta tb)) (dTest (dOp (oInO C0 fs) φa φb)) := tx_cmp (op_inX h F hr hb pass0) s2_inO ha hb' hm
theorem ex_inO {fs : FS} {a b : Expr} {ta tb : TE} {φa φb : DE} (h : InOf X.K C0 f) (F : FnOk X.prog X.w X.K X.mg X.base CX0 k f fd ps (spD X.K fs)) (hr : Room k X.A) (hb : Binds X.K fd ps []) (ha : EX X a ta φa) (hb' : EX X b tb φb) (hm : behindInMarks .In b = false := by rfl) :
    EX X (.Compare a [.In] [b] pos) (tOp (rInX C0 (spD X.K fs) E0) ta tb) (dOp (oInO C0 fs) φa φb) := ex_cmp (op_inX h F hr hb pass0) s2_inO ha hb' hm
/-! ### def m(self, *v) -/
def spStarX (K : PySem.W.Frag) (n : Nat) (fs : FSX) : Sp := fun vs H Q E => ∃ ws rest, vs = ws ++ rest ∧ ws.length = n ∧ rest.length ≤ sizeLine ∧ ∀ p, H p = Option.none → spX K fs (ws ++ [V.ref p]) (upd H p (.tup rest)) Q E
def fsStarX (fs : FSX) : FSX := fun ds M Q W => match ds with
  | d :: r => r.length ≤ sizeLine ∧ fs [d, .tup r] M Q W
  | [] => False
theorem sp_starX {B : Hp} {M : Mem} {H : Hp} {vs : List V} {ds : List Dat} {Q : Rv → Mem → Prop} {W : XF} {QV : VK} {E : XK} (hc : Cs X.K B M H) (ra : RpA X.K B vs ds) (h : fsStarX fs ds M Q W) (k : ∀ r M' v B' H', Q r M' → Nx X.K B M H B' M' H' → RR X.K B' M' H H' v r → QV v H')
    (kx : ∀ c d H', XN X.K B M H W c d H' → E c d H') : spStarX X.K 1 fs vs H QV E := by
  cases ra with
  | nil => exact h.elim
  | cons r1 r2 =>
    rename_i v vs d ds
    obtain ⟨hz, h⟩ := h
    refine ⟨[v], vs, rfl, rfl, by rw [r2.length]; exact hz, fun p hp => ?_⟩
    obtain ⟨n, g⟩ := RR.newT hc hp r2
    exact ⟨[d, .tup ds], M, _, Q, W, .cons (r1.mono n.ext) (.cons g .nil), n.st, h, fun r M' v' B' H' q n' rr => k r M' v' B' H' q (n.trans n') (rr.back n), fun c d H' y => kx c d H' (y.trans n)⟩
theorem ze_methS {pl : Sem Bool} (ho : EX X o to φ) (c : Cls X.K C0) (hm : Meth X.K C0 m f) (F : FnR X.prog X.w X.K X.mg X.base (L2.CX X.prog X.w) k f (spStarX X.K 1 fs)) (hr : Room k X.A) (ha : AX X (e :: es) t ψ)
    (hst : starEach (e :: es) X.env = (false, eval e X.env) :: starEach es X.env := by rfl) (hpl : (backTo pos (starEach es X.env)).any (·.1) = false := by rfl)
    (ht : eval (.Call (.Attribute o m apos) (e :: es) [] pos) X.env = (do
      let ov ← eval o X.env
      standAt apos.atName
      let (f, first) ← holding [ov] (getMethod ov m pl)
      callWith pos f first (backTo pos (starEach (e :: es) X.env)) (backToKw pos (keywordEach [] X.env))) := by rfl) :
    ZE X (.Call (.Attribute o m apos) (e :: es) [] pos) (dMethZ C0 m (fsStarX fs) φ ψ) := .of (fun E => tMethR C0 m (spStarX X.K 1 fs) E to t) (fun ex W B M H z hw => pe_methR ho.pe c hm F hr (pass_of z hw) ha.pa hst hpl ht) fun env M Q W σ B H QV hs hc q k => by
  refine ho.s env M _ σ B H _ hs hc q fun r M1 v B1 H1 q1 n1 r1 => ?_
  obtain ⟨d, gs, rfl, gi, gl, q2⟩ := q1
  obtain ⟨a, dx, vs, rfl, h1, h2⟩ := gi.at n1.st r1
  refine ⟨a, dx, vs, rfl, h1, h2.none gl, ?_⟩
  refine ha.s env M1 _ σ B1 H1 _ (hs.mono n1.ext) n1.st q2 fun ds M2 ws B2 H2 q3 n2 r2 => ?_
  have n12 := n1.trans n2
  exact sp_starX n2.st (.cons (Rp.mono n2.ext r1) r2) q3 (fun r M' v B' H' q4 n3 r3 => k r M' v B' H' q4 (n12.trans n3) (r3.back n12)) fun c d H' y => y.trans n12
end
theorem fn_star_X {P : Program} {w : World} {K : PySem.W.Frag} {mg : Str → Option Value} {base : Heap} {x qual : Str} {st : Stmt} {f : Addr} {fd : FuncData} {N : List Str} {k : Nat} {fs : FSX} {self pv : Str} (F : Fun K x qual st f fd) (S : FnScope N [self, pv] (defScope st))
    (φ : DS) (body : ∀ (cdv : Value) (A : Around) (outer : List PySem.Env) (s : Shared) (H : Hp) (E : XK), Room k (A.deeper (envOfC qual (defScope st) s.heap.objs.size f cdv)) → ZS (cxOf (L2.CX P w) P w K mg base N qual (defScope st) f cdv A outer s H E) (defBody st) φ)
    (rd : ∀ ds M Q W, fs ds M Q W → φ (enX M Q W) (startD N ds) M)
    (hb : ∀ (kV doc pm : Value) (an : Option Addr) (cdv ct : Value) (us rest : List Value), us.length = 1 → bindArgs (PySem.W.fnOf x qual (defArgs st) (defBody st) (defScope st) .none kV doc pm an cdv ct) ⟨us ++ rest, []⟩ = (newTuple rest >>= fun t => pure ([self].zip us ++ [(pv, t)]))) :
    FnR P w K mg base (L2.CX P w) (k + 1) f (spStarX K 1 fs) := by
  obtain ⟨oc, od, kV, doc, pm, an, cdv, ct, osl, rfl, lk, hcd⟩ := F.ex
  refine fn_star (ps := [self]) (pv := pv) lk hcd S cxUp (hb kV doc pm an cdv ct) fun A outer s H vs Q E hr hsp => ?_
  obtain ⟨ds, M, B, QD, W, ra, hc, hf, kk, xx⟩ := hsp
  have hbd := body cdv A outer s H E hr
  refine ⟨_, tW_ps, hbd.s (enX M QD W) (startD N ds) M (L2.start N vs) B H _ (start_sr ra) hc (rd ds M QD W hf) ?_ ?_⟩
  · have l := leave_ok (Q := QD) (QV := Q) hc kk
    exact ⟨l.nx, l.bk, l.ct, l.rt⟩
  · refine Takes.imp (takes_of (X := cxOf (L2.CX P w) P w K mg base N qual (defScope st) f cdv A outer s H E) (E := E) rfl rfl rfl rfl) fun c d σ H' q => ?_
    obtain ⟨d, C, fs', env', M', B', us, h1, h2, h3, h4, h5, h6, h7⟩ := q
    exact xx _ _ _ ⟨d, C, fs', M.restr M', B', us, h1, h2, h3, h4.restr, h6, h7⟩
end Dl
set_option Elab.async false
set_option linter.all false
set_option maxRecDepth 100000
set_option maxHeartbeats 4000000
namespace Dl
open PySem PySem.Spec PyProof.Rows L2 NdefX StX ClX
/-! ### try: .. except A as e: .. except B as e: .. -/
abbrev Hd : Type := Value × Nat × (Addr → Value → Option Addr → TS)
/-- the ends of a suite whose name goes -/
def outE (D : Ends) (i : Nat) : Ends := { nx := fun σ H => D.nx (σ.set i none) H, rt := D.rt, bk := fun σ H => D.bk (σ.set i none) H, ct := fun σ H => D.ct (σ.set i none) H }
def wAll (K : PySem.W.Frag) (Wout : L2.WX) (D : Ends) : List Hd → L2.WX
  | [] => Wout
  | (c, i, ts) :: r => fun cls d σ H => ∃ b, PySem.W.exmOne K cls c = some b ∧ (b = true → ∀ a, H a = none → ts a cls d (outE D i) (σ.set i (some (.ref a))) H) ∧ (b = false → wAll K Wout D r cls d σ H)
inductive HdsAs (X : Cx) : List ExceptHandler → List Hd → Prop
  | nil : HdsAs X [] []
  | cons {x n : Str} {c : Value} {i : Nat} {ts : Addr → Value → Option Addr → TS} {b₀ : Stmt} {suite : List Stmt} {np pos : Pos} {hds : List ExceptHandler} {l : List Hd} (hc : Names X x c) (hi : X.N[i]? = some n) (hl : X.env.kindOf n = some .local)
      (hs : ∀ (a : Addr) (oe : Obj) (cls : Value) (d : Option Addr) (pn : List (Addr × Obj)), Zc cls d oe → (∃ vs, oe.data = .fields vs) → PSs (X.suite a ((a, oe) :: pn)) (b₀ :: suite) (ts a cls d)) (r : HdsAs X hds l) : HdsAs X (.ExceptHandler (some (.Name x np)) (some n) (b₀ :: suite) pos :: hds) ((c, i, ts) :: l)
section
variable {X : Cx} {body : List Stmt} {h₀ : ExceptHandler} {hds : List ExceptHandler} {l : List Hd} {pos : Pos} {tb : L2.WX → TS} {Wout : L2.WX}
/-- the clauses of an error that is held -/
theorem hds_run {pins : List (Addr × Obj)} {σ : L2.St} {H : Hp} {s1 s2 : Shared} {B : Heap} {a : Addr} {cls : Value} {d : Option Addr} {D : Ends} (hst : X.stack = X.env :: X.outer) (hf : X.env.frame = some X.env.locals) (hN : X.N.Nodup) (tk : Takes X Wout)
    (I : Inv X pins σ H s1) (nb : ∀ b o, s1.heap.get? b = some o → b ∉ frs X.stack → B.get? b = some o) (fl : HandSPX.FlyingZ B (X.env :: X.outer) a (Zc cls d) s2.heap) (up : s1.heap.UpToSlots s2.heap) (na : H a = none) (os : s2.os = s1.os) (ag : AllBare s2.gens) :
    ∀ {hds : List ExceptHandler} {l : List Hd}, HdsAs X hds l → wAll X.K Wout D l cls d σ H → wpAny (model X.prog X.w) X.A (handleBy (.ref a) X.env hds) (SP X pins D) X.xe s2 := by
  have ok := I.ok
  have nfr : ∀ {h : Heap} {o : Obj} {vs : Array Value}, h.FunFrames B (X.env :: X.outer) → h.get? a = some o → o.data = .fields vs → a ∉ frs (X.env :: X.outer) := fun {h o vs} ff e dd hm => by
    obtain ⟨_, o', e', hnf⟩ := ff.mem hm
    rw [e] at e'
    cases e'
    exact hnf _ dd
  obtain ⟨oe, vs, he, hz, hd⟩ := fl.there
  have na2 := nfr fl.2.2.1 he hd
  have nL : a ≠ X.env.locals := fun z => na2 (List.mem_filterMap.mpr ⟨X.env, List.mem_cons_self, by rw [hf, z]⟩)
  have nF : a ∉ X.fs := fun hm => by
    obtain ⟨e, he, q⟩ := List.mem_filterMap.mp hm
    exact na2 (List.mem_filterMap.mpr ⟨e, List.mem_cons_of_mem _ he, q⟩)
  have J : Inv X pins σ H s2 := I.landed nb fl.1 up os ag
  intro hds l hh
  induction hh with
  | nil =>
    intro w
    refine wpAny_handleBy_nil ?_
    obtain ⟨k1, k2, k3, oe, vs, T, oT, ts', he, hz, hd, h1, hr⟩ := id fl
    unfold PySem.passOn
    refine wpAny_bind (wpAny_field he hd h1 ?_)
    rw [if_neg (show ¬ ((Value.ref T == Value.none) = true) from by simp)]
    have fin : wpAny (model X.prog X.w) X.A (setFlight (.ref a) X.env.frame) (fun _ s4 => wpAny (model X.prog X.w) X.A (throw (.ref a) : Sem Flow) (SP X pins D) X.xe s4) X.xe s2 := by
      rw [hf]
      refine HandSPX.setFlight_upZ fl fun h4 hh4 up4 => wpAny_throw (tk _ _ ?_)
      exact ⟨a, B, s1, pins, σ, H, cls, d, rfl, I, nb, up.trans up4, .inr (.inr (by rw [hst]; exact hh4)), na, os, ag, w⟩
    first
      | exact wpAny_bind (wpAny_pure (wpAny_bind fin))
      | exact wpAny_bind fin
  | @cons x n c i ts b₀ suite np pos' hds2 l2 hc hi hl hs r ih =>
    intro w
    obtain ⟨b, hb1, hyes, hno⟩ := w
    have S2 := J.suite he hd na nL nF
    refine wpAny_handleBy_cons (codeAny_handlers_test ?_) (by intro q; cases q)
    have LT : PySem.W.Looks (model X.prog X.w) s2.heap (typeOf (.ref a)) cls := fun A Q E s k q => wpAny_typeOf_ref (k _ _ he) (by rw [hz.1]; exact q)
    have LM := PySem.W.exm_one (M := model X.prog X.w) J.kIn LT hb1
    have test : ∀ {Q : Value → Shared → Prop} {E : Value → Shared → Prop}, Q c s2 → wpAny (model X.prog X.w) (X.A.mark (some (.ref a))) (eval (.Name x np) X.env) Q E s2 := fun {Q E} q => by
      obtain ⟨hg, hdbg, hm | ⟨hm, hv, hnn⟩⟩ := hc
      · exact ld_glob (X := X.suite a ((a, oe) :: (X.pn ++ pins))) S2 hg hm q hdbg
      · exact ld_blt (X := X.suite a ((a, oe) :: (X.pn ++ pins))) S2 hg hm hv q hnn hdbg
    refine test (LM.here ?_)
    cases b with
    | true =>
      refine codeAny_handlers_suite_as ?_
      refine HandSPX.lands_againZ fl fun h4 fl4 up4 => ?_
      have J4 : Inv X pins σ H { s2 with heap := h4 } := I.landed nb fl4.1 (up.trans up4) os ag
      obtain ⟨oe4, vs4, he4, hz4, hd4⟩ := fl4.there
      have S4 := J4.suite he4 hd4 na nL nF
      refine store_ok (X := X.suite a ((a, oe4) :: (X.pn ++ pins))) (v := .ref a) S4 hN hi (.inl hl) rfl (fun s5 S5 => ?_) (.inr hl)
      refine wpAny_mono ((hs a oe4 cls d (X.pn ++ pins) hz4 ⟨_, hd4⟩).run [] s5 _ H _ S5 (hyes rfl a na)) (fun f s6 hsp => ?_) (fun _ _ z => False.elim z)
      have end_ : ∀ {σ6 : L2.St} {H6 : Hp} {Q : Shared → Prop}, Inv (X.suite a ((a, oe4) :: (X.pn ++ pins))) [] σ6 H6 s6 → (∀ s7, Inv X pins (σ6.set i none) H6 s7 → Q s7) →
          wpAny (model X.prog X.w) X.A (do bindName X.env n .none; unbindBehindTheSuite X.env n pos') (fun _ s7 => Q s7) X.xe s6 := fun {σ6 H6 Q} S6 hq => gone_ok (S6.unsuite ok) hN hi hl hq
      cases f with
      | next =>
        obtain ⟨σ6, H6, S6, q6⟩ := hsp
        exact end_ S6 fun s7 J7 => ⟨_, _, J7, q6⟩
      | brk =>
        obtain ⟨σ6, H6, S6, q6⟩ := hsp
        exact end_ S6 fun s7 J7 => ⟨_, _, J7, q6⟩
      | cont =>
        obtain ⟨σ6, H6, S6, q6⟩ := hsp
        exact end_ S6 fun s7 J7 => ⟨_, _, J7, q6⟩
      | ret u =>
        obtain ⟨v6, σ6, H6, S6, r6, q6⟩ := hsp
        exact end_ S6 fun s7 J7 => ⟨_, _, _, J7, r6, q6⟩
    | false => exact ih (hno rfl)
theorem ps_try_all (hst : X.stack = X.env :: X.outer) (hf : X.env.frame = some X.env.locals) (hN : X.N.Nodup) (tk : Takes X Wout)
    (hb : ∀ (W : L2.WX) (pn : List (Addr × Obj)) (xe : Value → Shared → Prop), Takes (X.tr pn xe) W → PassesOwn (model X.prog X.w) X.A X.env xe → PSs (X.tr pn xe) body (tb W))
    (hh : HdsAs X (h₀ :: hds) l) : PS X (.Try body (h₀ :: hds) [] [] pos) (fun D σ H => tb (wAll X.K Wout D l) D σ H) := by
  refine ⟨fun pins s σ H D I h => ?_⟩
  have ok := I.ok
  have hfr : X.A.frames = some (X.env :: X.outer) := by rw [ok.frames, hst]
  refine wpAny_Try_except ?_
  refine wpAny_mono ((hb (wAll X.K Wout D l) (X.pn ++ pins) (fun e s₁ => wpAny (model X.prog X.w) X.A (noteFrame e X.env) (fun _ s₂ => wpAny (model X.prog X.w) X.A (setFlight e none) (fun _ s₃ =>
    wpAny (model X.prog X.w) X.A (handleBy e X.env (h₀ :: hds)) (SP X pins D) X.xe s₃) X.xe s₂) X.xe s₁) (fun u s' xx => ?_) PassesOwn.looking).run [] s σ H D (I.toTry _) h) (fun f s1 hsp => ?_) (fun e s1 he => he)
  · obtain ⟨a, B, sI, pins', σ', H', cls, d, rfl, J', nb, up, sky, na, os, ag, w⟩ := xx
    have J : Inv X pins σ' H' sI := J'.ofTry ok
    have sky' : Sky B (X.env :: X.outer) a (Zc cls d) X.env.locals s'.heap := by rw [← hst]; exact sky
    show wpAny (model X.prog X.w) X.A (noteFrame (.ref a) X.env) _ _ _
    refine Sky.land Zc.steady hfr hf sky' fun h3 fl3 up3 => ?_
    exact hds_run (s2 := { s' with heap := h3 }) hst hf hN tk J nb fl3 (up.trans up3) na os ag hh w
  · cases f with
    | next =>
      obtain ⟨σ', H', J', q⟩ := hsp
      exact wpAny_execs_nil ⟨σ', H', J'.ofTry ok, q⟩
    | brk =>
      obtain ⟨σ', H', J', q⟩ := hsp
      exact ⟨σ', H', J'.ofTry ok, q⟩
    | cont =>
      obtain ⟨σ', H', J', q⟩ := hsp
      exact ⟨σ', H', J'.ofTry ok, q⟩
    | ret u =>
      obtain ⟨v, σ', H', J', r, q⟩ := hsp
      exact ⟨v, σ', H', J'.ofTry ok, r, q⟩
end
end Dl
set_option Elab.async false
set_option linter.all false
set_option maxRecDepth 100000
set_option maxHeartbeats 4000000
namespace Dl
open PySem PySem.Spec PyProof.Rows L2 NdefX StX ClX
/-! ### try, over data -/
/-- the wish of a clause: its class, the slot of its name, its suite (a the error, d its dict, C its class, fs its fields) -/
abbrev Cl : Type := Addr × Nat × (Addr → Addr → Addr → List (Str × Dat) → DS)
def outZ (E : En) (i : Nat) : En := { nx := fun env M => E.nx (env.set i none) M, rt := E.rt, bk := fun env M => E.bk (env.set i none) M, ct := fun env M => E.ct (env.set i none) M }
/-- mt: does an error of the first class go into a clause of the second -/
def dCl (mt : Addr → Addr → Option Bool) (E : En) : List Cl → XD
  | [] => E.ex
  | (Cc, i, φ) :: r => fun d C fs env M => ∃ b, mt C Cc = some b ∧ (b = true → ∀ a, φ a d C fs (outZ E i) (env.set i (some (.exn a d C fs))) M) ∧ (b = false → dCl mt E r d C fs env M)
def dTry (mt : Addr → Addr → Option Bool) (cl : List Cl) (φ : DS) : DS := fun E env M => φ { E with ex := dCl mt E cl } env M
theorem SR.setN {K : PySem.W.Frag} {B : Hp} {σ : L2.St} {env : Env} (h : SR K B σ env) (i : Nat) : SR K B (σ.set i none) (env.set i none) := by
  refine ⟨by rw [List.length_set, List.length_set]; exact h.1, fun j y q => ?_⟩
  by_cases e : i = j
  · subst e
    by_cases hl : i < env.length
    · rw [List.getElem?_set_self hl] at q
      cases q
    · rw [List.getElem?_eq_none (by rw [List.length_set]; omega)] at q
      cases q
  · rw [List.getElem?_set_ne e] at q
    rw [List.getElem?_set_ne e]
    exact h.2 j y q
/-- how mt is told -/
def mtK (K : PySem.W.Frag) (C Cc : Addr) : Option Bool := PySem.W.exmOne K (.ref C) (.ref Cc)
structure HdsZ (X : Cx) (hds : List ExceptHandler) (cl : List Cl) : Prop where
  ex : ∃ l, HdsAs X hds l ∧ ∀ (E : En) (D : Ends) (B : Hp) (M : Mem) (H : Hp) (d C : Addr) (fs : List (Str × Dat)) (env' : Env) (M' : Mem) (B' : Hp) (σ' : L2.St) (H' : Hp) (us : List (Str × V)), dCl (mtK X.K) E cl d C fs env' M' → Nx X.K B M H B' M' H' → SR X.K B' σ' env' → B' d = some (.xd us) → RpF X.K B' us fs → ErrF X.K C fs →
    Lk X.K B M H E D → wAll X.K (XL X.K B M H E.ex) D l (.ref C) (some d) σ' H'
section
variable {X : Cx}
theorem hz_nil : HdsZ X [] [] := ⟨[], .nil, fun E D B M H d C fs env' M' B' σ' H' us q n s h1 h2 h3 l => ⟨d, C, fs, env', M', B', us, rfl, rfl, q, n, s, h1, h2, h3⟩⟩
def tS (X : Cx) (sts : List Stmt) (a : Addr) (cls : Value) (d : Option Addr) : TS := fun D σ H => ∀ (oe : Obj) (pn : List (Addr × Obj)), Zc cls d oe → (∃ vs, oe.data = .fields vs) → tW (X.suite a ((a, oe) :: pn)) sts D σ H
theorem hz_cons {x n : Str} {Cc : Addr} {i : Nat} {φ : Addr → Addr → Addr → List (Str × Dat) → DS} {b₀ : Stmt} {suite : List Stmt} {np pos : Pos} {hds : List ExceptHandler} {cl : List Cl} (hm : X.mg x = some (.ref Cc)) (hi : X.N[i]? = some n) (hl : X.env.kindOf n = some .local)
    (hs : ∀ (a d C : Addr) (fs : List (Str × Dat)) (oe : Obj) (pn : List (Addr × Obj)), ErrF X.K C fs → Zc (.ref C) (some d) oe → (∃ vs, oe.data = .fields vs) → ∃ t, BX (X.suite a ((a, oe) :: pn)) (b₀ :: suite) t (φ a d C fs)) (r : HdsZ X hds cl) (hg : Gl X x := by rfl) (hdb : (x == ("__debug__" : Str)) = false := by decide) :
    HdsZ X (.ExceptHandler (some (.Name x np)) (some n) (b₀ :: suite) pos :: hds) ((Cc, i, φ) :: cl) := by
  obtain ⟨l, hl2, hw⟩ := r.ex
  refine ⟨(.ref Cc, i, tS X (b₀ :: suite)) :: l, .cons ⟨hg, hdb, .inl hm⟩ hi hl (fun a oe cls d pn hz hv => ⟨fun pins s σ H D I h => h oe pn hz hv pins s I⟩) hl2, fun E D B M H d C fs env' M' B' σ' H' us q n sr h1 h2 h3 lk => ?_⟩
  obtain ⟨b, hb1, hy, hn⟩ := q
  refine ⟨b, hb1, fun e a ha => ?_, fun e => hw E D B M H d C fs env' M' B' σ' H' us (hn e) n sr h1 h2 h3 lk⟩
  intro oe pn hz hv pins s I
  obtain ⟨t, hb⟩ := hs a d C fs oe pn h3 hz hv
  refine hb.ps.run pins s _ H' _ I (hb.s (outZ E i) _ M' _ B' H' _ (SR.set sr (.exn h1 h2) i) n.st (hy e a) ?_)
  exact ⟨fun env5 M5 σ5 B5 H5 q5 n5 s5 => lk.nx _ _ _ _ _ q5 (n.trans n5) (s5.setN i), fun env5 M5 σ5 B5 H5 q5 n5 s5 => lk.bk _ _ _ _ _ q5 (n.trans n5) (s5.setN i), fun env5 M5 σ5 B5 H5 q5 n5 s5 => lk.ct _ _ _ _ _ q5 (n.trans n5) (s5.setN i),
    fun r M5 v B5 H5 q5 n5 r5 => lk.rt _ _ _ _ _ q5 (n.trans n5) (r5.back n)⟩
theorem zx_try {body : List Stmt} {h₀ : ExceptHandler} {hds : List ExceptHandler} {cl : List Cl} {φ : DS} {pos : Pos} (hst : X.stack = X.env :: X.outer) (hf : X.env.frame = some X.env.locals) (hN : X.N.Nodup)
    (hb : ∀ (pn : List (Addr × Obj)) (xe : Value → Shared → Prop), PassesOwn (model X.prog X.w) X.A X.env xe → ZS (X.tr pn xe) body φ) (hh : HdsZ X (h₀ :: hds) cl) : ZX X (.Try body (h₀ :: hds) [] [] pos) (dTry (mtK X.K) cl φ) := by
  obtain ⟨l, hl, hw⟩ := hh.ex
  refine ⟨fun E env M σ B H D sr hc q lk z pins s I => ?_⟩
  refine (ps_try_all (tb := fun W D σ H => ∀ (pn : List (Addr × Obj)) (xe : Value → Shared → Prop), Takes (X.tr pn xe) W → PassesOwn (model X.prog X.w) X.A X.env xe → tW (X.tr pn xe) body D σ H) (Wout := XL X.K B M H E.ex) hst hf hN z
    (fun W pn xe tk hp => ⟨fun pins s σ H D I h => h pn xe tk hp pins s I⟩) hl).run pins s σ H D I ?_
  intro pn xe tk hp
  refine (hb pn xe hp).s { E with ex := dCl (mtK X.K) E cl } env M σ B H D sr hc q ⟨lk.nx, lk.bk, lk.ct, lk.rt⟩ ?_
  refine Takes.imp tk fun c dd σ' H' x => ?_
  obtain ⟨d, C, fs, env', M', B', us, h1, h2, h3, h4, h5, h6, h7, h8⟩ := x
  subst h1 h2
  exact hw E D B M H d C fs env' M' B' σ' H' us h3 h4 h5 h6 h7 h8 lk
/-! ### what a suite does with its error -/
/-- e.f -/
def dXF (a d : Addr) (f : Str) (fs : List (Str × Dat)) (φ : DE) : DE := fun env M Q => φ env M fun r M1 => ∃ C x, r = .d (.exn a d C fs) ∧ fs.lookup f = some x ∧ Q (.d x) M1
def tXG (a : Addr) (cls : Value) (d : Option Addr) (C : Addr) (f : Str) (fs : List (Str × Dat)) (te : TE) : TE := match fs.lookup f with
  | none => fun σ H _ => te σ H fun _ _ => False
  | some _ => tXf a cls d C f te
theorem ex_xf {a d C : Addr} {fs : List (Str × Dat)} {oe : Obj} {pn : List (Addr × Obj)} {e : Expr} {te : TE} {φ : DE} {pos : Pos} {f : Str} (T : ErrF X.K C fs) (hz : Zc (.ref C) (some d) oe) (hf : ∃ vs, oe.data = .fields vs) (he : EX (X.suite a ((a, oe) :: pn)) e te φ)
    (hb : attributeBase e f X.env (eval e X.env) = eval e X.env := by rfl) : EX (X.suite a ((a, oe) :: pn)) (.Attribute e f pos) (tXG a (.ref C) (some d) C f fs te) (dXF a d f fs φ) := by
  unfold tXG
  cases hl : fs.lookup f with
  | none =>
    refine ⟨⟨fun pins s σ H Q I h => attr_of hb (thn (he.pe.run pins s σ H _ I h) fun u s1 ⟨x, H1, I1, rx, z⟩ => z.elim)⟩, fun env M Q σ B H QV hs hc q k => ?_⟩
    refine he.s env M _ σ B H _ hs hc q fun r M1 v B1 H1 q1 n1 r1 => ?_
    obtain ⟨C', x, _, hl2, _⟩ := q1
    rw [hl] at hl2
    cases hl2
  | some y =>
    refine ⟨pe_xf T.xf (T.no f y hl) hz hf he.pe hb, fun env M Q σ B H QV hs hc q k => ?_⟩
    refine he.s env M _ σ B H _ hs hc q fun r M1 v B1 H1 q1 n1 r1 => ?_
    obtain ⟨C', x, rfl, hl2, q2⟩ := q1
    cases r1 with
    | exn h1 h2 =>
      obtain ⟨u, hu, ru⟩ := h2.look hl2
      exact ⟨rfl, rfl, d, _, u, rfl, n1.st.ex _ _ h1, hu, k _ _ _ _ _ q2 n1 ru⟩
/-- isinstance(e, c) -/
def rIsD (K : PySem.W.Frag) (D a d : Addr) (cv : Value) : List V → Hp → VK → Prop := fun xs H Q => ∃ (c : V) (b : Bool) (fs : List (Str × V)), xs = [.ref a, c] ∧ (∀ u, RelV c u → u = cv) ∧ PySem.W.kitOne K (.ref D) cv = some b ∧ H d = some (.xd fs) ∧ Q (.bl b) H
theorem call_isD {a d D : Addr} {cv : Value} {oe : Obj} {pn : List (Addr × Obj)} (C : ExcC X.K D) (hz : Zc (.ref D) (some d) oe) (hf : ∃ vs, oe.data = .fields vs) : CallR (X.suite a ((a, oe) :: pn)) (.builtin "isinstance") (rIsD X.K D a d cv) := by
  intro pins s σ H xs us Q I r h
  obtain ⟨c, b, fs, rfl, hcv, e, hd, q⟩ := h
  cases r with
  | cons rx rr =>
    cases rr with
    | cons rt rr =>
      cases rr
      cases rx
      have ec := hcv _ rt
      subst ec
      obtain ⟨hget, _⟩ := I.pin (a, oe) (List.mem_append.mpr (.inl List.mem_cons_self))
      obtain ⟨vs, hv⟩ := hf
      have hx : ObjOk X.prog X.w H s.heap d (.xd fs) := I.hok d _ hd
      obtain ⟨mA, hns, hr⟩ := hx
      obtain ⟨od, ho, hl⟩ := lookIn_ns hns
      have J : PySem.W.InstAt s.heap a oe D (some od) := ⟨hget, hz.1, by unfold PySem.W.notCls; rw [hv] <;> rfl, by rw [hz.2]; exact ho⟩
      have hcl : (PySem.W.clsIn X.K D).isSome = true := by
        obtain ⟨cd, hc, _⟩ := PySem.W.any_some C.hd
        rw [hc] <;> rfl
      exact PySem.W.kia_one (PySem.W.kitx_exc hcl C.hg C.hk C.hs C.ha C.hn C.ht C.hm) I.kIn J e (fun z => nomatch z) fun tk => ⟨.bl b, H, I.kept (t' := tk) fun _ _ z => z, rfl, q⟩
def dIsE (a d C : Addr) (ans : Addr → Option Bool) (φ : DE) : DE := fun env M Q => φ env M fun r M1 => ∃ fs b, r = .d (.exn a d C fs) ∧ ans C = some b ∧ Q (.d (.bl b)) M1
def itK (K : PySem.W.Frag) (cv : Value) (C : Addr) : Option Bool := PySem.W.kitOne K (.ref C) cv
/-- a class by its name -/
structure ClsN (X : Cx) (x : Str) (c : V) (cv : Value) : Prop where
  gl : Gl X x
  dbg : (x == ("__debug__" : Str)) = false
  at_ : X.mg x = some cv ∨ (X.mg x = none ∧ bootBuiltins x = some cv ∧ x ≠ "__name__")
  rel : ∀ u, RelV c u → u = cv
  is : RelV c cv
theorem ex_isE {a d C : Addr} {fs : List (Str × Dat)} {oe : Obj} {pn : List (Addr × Obj)} {e : Expr} {te : TE} {φ : DE} {p px pos : Pos} {x : Str} {c : V} {cv : Value} (T : ErrF X.K C fs) (hz : Zc (.ref C) (some d) oe) (hf : ∃ vs, oe.data = .fields vs) (hcn : ClsN (X.suite a ((a, oe) :: pn)) x c cv) (he : EX (X.suite a ((a, oe) :: pn)) e te φ)
    (hm : X.mg "isinstance" = none) (hg : Gl X "isinstance" := by rfl) (hst : starEach [e, .Name x px] X.env = (false, eval e X.env) :: starEach [.Name x px] X.env := by rfl) (hst2 : starEach [.Name x px] X.env = (false, eval (.Name x px) X.env) :: starEach [] X.env := by rfl)
    (hpl : (backTo pos (starEach [.Name x px] X.env)).any (·.1) = false := by rfl) :
    EX (X.suite a ((a, oe) :: pn)) (.Call (.Name "isinstance" p) [e, .Name x px] [] pos) (tCB (rIsD X.K C a d cv) (tCons te (tCons (tC c) tNil))) (dIsE a d C (itK X.K cv) φ) := by
  have pc : PE (X.suite a ((a, oe) :: pn)) (.Name x px) (tC c) := by
    rcases hcn.at_ with h | ⟨h1, h2, h3⟩
    · exact pe_glob hcn.gl h hcn.is hcn.dbg
    · exact pe_bltn hcn.gl h1 h2 hcn.is h3 hcn.dbg
  refine ⟨pe_callB (call_isD T.ic hz hf) hg hm PyProof.Rows.Boot.«isinstance» (pa_cons he.pe (pa_cons pc pa_nil hst2) hst) (by decide) (by decide) hst hpl, fun env M Q σ B H QV hs hc q k => ?_⟩
  refine he.s env M _ σ B H _ hs hc q fun r M1 v B1 H1 q1 n1 r1 => ?_
  obtain ⟨fs', b, rfl, hb, q2⟩ := q1
  cases r1 with
  | exn h1 h2 => exact ⟨c, b, _, rfl, hcn.rel, hb, n1.st.ex _ _ h1, k _ _ _ _ _ q2 n1 (.bl b)⟩
end
end Dl
set_option Elab.async false
set_option linter.all false
set_option maxRecDepth 100000
set_option maxHeartbeats 4000000
namespace Dl
open PySem PySem.Spec PyProof.Rows L2 NdefX StX ClX
/-! ### where a def that may raise does not -/
def noX : XF := fun _ _ _ _ => False
def calm (fs : FSX) : FS := fun ds M Q => fs ds M Q noX
section
variable {P : Program} {w : World} {K : PySem.W.Frag} {mg : Str → Option Value} {base : Heap} {k : Nat} {f : Addr} {fd : FuncData} {ps : List Str} {fs : FSX}
theorem spX_calm {vs : List V} {H : Hp} {Q : VK} {E : XK} (h : spD K (calm fs) vs H Q E) : spX K fs vs H Q fun _ _ _ => False := by
  obtain ⟨ds, M, B, QD, ra, hc, hf, kk⟩ := h
  refine ⟨ds, M, B, QD, noX, ra, hc, hf, kk, fun c d H' x => ?_⟩
  obtain ⟨_, _, _, _, _, _, _, _, z, _⟩ := x
  exact z
theorem CX.no {outer : List PySem.Env} {H : Hp} {s s' : Shared} {u : Value} (h : L2.CX P w outer H s (fun _ _ _ => False) u s') : False := by
  obtain ⟨_, _, _, _, _, _, _, _, _, _, _, _, z⟩ := h
  exact z
theorem fnok_calm (F : FnOk P w K mg base (L2.CX P w) k f fd ps (spX K fs)) : FnOk P w K mg base CX0 k f fd ps (spD K (calm fs)) := by
  refine ⟨fun vs H Q E h => F.len vs H Q _ (spX_calm h), fun A outer s H args us vs Q E hr e0 hb r h => ?_⟩
  refine codeAny_mono (F.run A outer s H args us vs Q (fun _ _ _ => False) hr e0 hb r (spX_calm h)) fun res s' hq => ?_
  match res, hq with
  | .ok (.ret u), hq => exact hq
  | .ok .next, hq => exact hq
  | .ok .brk, hq => exact hq
  | .ok .cont, hq => exact hq
  | .error e, hq => exact (CX.no hq).elim
theorem fnr_calm (F : FnR P w K mg base (L2.CX P w) k f (spStarX K 1 fs)) : FnR P w K mg base CX0 k f (spStar K 1 (Dl.calm fs)) := by
  intro A outer s H us vs Q E hr e0 r h
  obtain ⟨ws, rest, h1, h2, h3, h4⟩ := h
  refine codeAny_mono (F A outer s H us vs Q (fun _ _ _ => False) hr e0 r ⟨ws, rest, h1, h2, h3, fun p hp => spX_calm (h4 p hp)⟩) fun res s' hq => ?_
  match res, hq with
  | .ok (.ret u), hq => exact hq
  | .ok .next, hq => exact hq
  | .ok .brk, hq => exact hq
  | .ok .cont, hq => exact hq
  | .error e, hq => exact (CX.no hq).elim
end
/-! ### what is known of the other defs -/
section
variable (P : Program) (w : World) (K : PySem.W.Frag) (mg : Str → Option Value) (base : Heap)
def KxO (x : Str) (k : Nat) (fs : FSX) : Prop := ∃ f fd ps, FnOk P w K mg base (L2.CX P w) k f fd ps (spX K fs) ∧ mg x = some (.ref f) ∧ PySem.W.keepIn K (.ref f) = true ∧ Binds K fd ps []
def KxM (C : Addr) (m : Str) (k : Nat) (fs : FSX) : Prop := ∃ f fd ps, FnOk P w K mg base (L2.CX P w) k f fd ps (spX K fs) ∧ Meth K C m f ∧ Binds K fd ps []
def KxI (x : Str) (C : Addr) (k : Nat) (fs : FSX) : Prop := ∃ f fd ps, FnOk P w K mg base (L2.CX P w) k f fd ps (spX K fs) ∧ Mk K C f ∧ mg x = some (.ref C) ∧ Binds K fd ps []
def KxS (C : Addr) (m : Str) (k : Nat) (fs : FSX) : Prop := ∃ f, FnR P w K mg base (L2.CX P w) k f (spStarX K 1 fs) ∧ Meth K C m f
def KxB (C : Addr) (m : Str) (k : Nat) (fs : FSX) : Prop := ∃ f fd ps, FnOk P w K mg base (L2.CX P w) k f fd ps (spX K fs) ∧ OpOf K C m f ∧ Binds K fd ps []
def KxN (C : Addr) (k : Nat) (fs : FSX) : Prop := ∃ f fd ps, FnOk P w K mg base (L2.CX P w) k f fd ps (spX K fs) ∧ InOf K C f ∧ Binds K fd ps []
def KnN (C : Addr) (k : Nat) (fs : FS) : Prop := ∃ f fd ps, FnOk P w K mg base CX0 k f fd ps (spD K fs) ∧ InOf K C f ∧ Binds K fd ps []
variable {P w K mg base}
theorem KxO.calm {x k fs} (h : KxO P w K mg base x k fs) : KnO P w K mg base x k (calm fs) := let ⟨f, fd, ps, F, r⟩ := h; ⟨f, fd, ps, fnok_calm F, r⟩
theorem KxM.calm {C m k fs} (h : KxM P w K mg base C m k fs) : KnM P w K mg base C m k (calm fs) := let ⟨f, fd, ps, F, r⟩ := h; ⟨f, fd, ps, fnok_calm F, r⟩
theorem KxI.calm {x C k fs} (h : KxI P w K mg base x C k fs) : KnI P w K mg base x C k (calm fs) := let ⟨f, fd, ps, F, r⟩ := h; ⟨f, fd, ps, fnok_calm F, r⟩
theorem KxS.calm {C m k fs} (h : KxS P w K mg base C m k fs) : KnS P w K mg base C m k (calm fs) := let ⟨f, F, r⟩ := h; ⟨f, fnr_calm F, r⟩
theorem KxB.calm {C m k fs} (h : KxB P w K mg base C m k fs) : KnB P w K mg base C m k (calm fs) := let ⟨f, fd, ps, F, r⟩ := h; ⟨f, fd, ps, fnok_calm F, r⟩
theorem KxN.calm {C k fs} (h : KxN P w K mg base C k fs) : KnN P w K mg base C k (calm fs) := let ⟨f, fd, ps, F, r⟩ := h; ⟨f, fd, ps, fnok_calm F, r⟩
end
section
variable {X : Cx} {k : Nat} {x m : Str} {fs : FSX} {p pos apos : Pos} {e o : Expr} {es : List Expr} {t : TA} {to : TE} {ψ : DA} {φ : DE} {C : Addr}
theorem ze_callO (h : KxO X.prog X.w X.K X.mg X.base x k fs) (hr : Room k X.A) (ha : AX X (e :: es) t ψ) (hg : Gl X x := by rfl)
    (hdb : (x == ("__debug__" : Str)) = false := by decide) (he : starEach (e :: es) X.env = (false, eval e X.env) :: starEach es X.env := by rfl) (hpl : (backTo pos (starEach es X.env)).any (·.1) = false := by rfl) :
    ZE X (.Call (.Name x p) (e :: es) [] pos) (dCallZ fs ψ) := by
  obtain ⟨f, fd, ps, F, hm, hk, hb⟩ := h
  exact ze_call F hr hm hk hb ha hg hdb he hpl
theorem ze_methK {pl : Sem Bool} (c : Cls X.K C) (h : KxM X.prog X.w X.K X.mg X.base C m k fs) (hr : Room k X.A) (ho : EX X o to φ) (ha : AX X (e :: es) t ψ)
    (hst : starEach (e :: es) X.env = (false, eval e X.env) :: starEach es X.env := by rfl) (hpl : (backTo pos (starEach es X.env)).any (·.1) = false := by rfl)
    (ht : eval (.Call (.Attribute o m apos) (e :: es) [] pos) X.env = (do
      let ov ← eval o X.env
      standAt apos.atName
      let (f, first) ← holding [ov] (getMethod ov m pl)
      callWith pos f first (backTo pos (starEach (e :: es) X.env)) (backToKw pos (keywordEach [] X.env))) := by rfl) :
    ZE X (.Call (.Attribute o m apos) (e :: es) [] pos) (dMethZ C m fs φ ψ) := by
  obtain ⟨f, fd, ps, F, hm, hb⟩ := h
  exact ze_meth ho c hm F hr hb ha hst hpl ht
theorem ze_methK0 {pl : Sem Bool} (c : Cls X.K C) (h : KxM X.prog X.w X.K X.mg X.base C m k fs) (hr : Room k X.A) (ho : EX X o to φ)
    (ht : eval (.Call (.Attribute o m apos) [] [] pos) X.env = (do
      let ov ← eval o X.env
      standAt apos.atName
      let (f, first) ← holding [ov] (getMethod ov m pl)
      callWith pos f first (backTo pos (starEach [] X.env)) (backToKw pos (keywordEach [] X.env))) := by rfl) :
    ZE X (.Call (.Attribute o m apos) [] [] pos) (dMethZ C m fs φ dNil) := by
  obtain ⟨f, fd, ps, F, hm, hb⟩ := h
  exact ze_meth0 ho c hm F hr hb ht
theorem ze_methKS {pl : Sem Bool} (c : Cls X.K C) (h : KxS X.prog X.w X.K X.mg X.base C m k fs) (hr : Room k X.A) (ho : EX X o to φ) (ha : AX X (e :: es) t ψ)
    (hst : starEach (e :: es) X.env = (false, eval e X.env) :: starEach es X.env := by rfl) (hpl : (backTo pos (starEach es X.env)).any (·.1) = false := by rfl)
    (ht : eval (.Call (.Attribute o m apos) (e :: es) [] pos) X.env = (do
      let ov ← eval o X.env
      standAt apos.atName
      let (f, first) ← holding [ov] (getMethod ov m pl)
      callWith pos f first (backTo pos (starEach (e :: es) X.env)) (backToKw pos (keywordEach [] X.env))) := by rfl) :
    ZE X (.Call (.Attribute o m apos) (e :: es) [] pos) (dMethZ C m (fsStarX fs) φ ψ) := by
  obtain ⟨f, F, hm⟩ := h
  exact ze_methS ho c hm F hr ha hst hpl ht
theorem ze_makeK (h : KxI X.prog X.w X.K X.mg X.base x C k fs) (hr : Room (k + 1) X.A) (ha : AX X (e :: es) t ψ) (hg : Gl X x := by rfl)
    (hdb : (x == ("__debug__" : Str)) = false := by decide) (he : starEach (e :: es) X.env = (false, eval e X.env) :: starEach es X.env := by rfl) (hpl : (backTo pos (starEach es X.env)).any (·.1) = false := by rfl) :
    ZE X (.Call (.Name x p) (e :: es) [] pos) (dMakeZ C fs ψ) := by
  obtain ⟨f, fd, ps, F, M, hm, hb⟩ := h
  exact ze_make M F hr hm hb ha hg hdb he hpl
theorem ze_ownK {op : Operator} {a b : Expr} {ta tb : TE} {φa φb : DE} (h : KxB X.prog X.w X.K X.mg X.base C (PySem.dunder op.info.2) k fs) (hr : Room k X.A) (ha : EX X a ta φa) (hb : EX X b tb φb) :
    ZE X (.BinOp a op b pos) (dOwnZ C fs φa φb) := by
  obtain ⟨f, fd, ps, F, ho, hbb⟩ := h
  exact ze_own ho F hr hbb ha hb
theorem ze_inK {a b : Expr} {ta tb : TE} {φa φb : DE} (h : KxN X.prog X.w X.K X.mg X.base C k fs) (hr : Room k X.A) (ha : EX X a ta φa) (hb : EX X b tb φb) (hm : behindInMarks .In b = false := by rfl) :
    ZE X (.Compare a [.In] [b] pos) (dInZ C fs φa φb) := by
  obtain ⟨f, fd, ps, F, ho, hbb⟩ := h
  exact ze_in ho F hr hbb ha hb hm
theorem ex_inK {gs : FS} {a b : Expr} {ta tb : TE} {φa φb : DE} (h : KnN X.prog X.w X.K X.mg X.base C k gs) (hr : Room k X.A) (ha : EX X a ta φa) (hb : EX X b tb φb) (hm : behindInMarks .In b = false := by rfl) :
    EX X (.Compare a [.In] [b] pos) (tOp (rInX C (spD X.K gs) E0) ta tb) (dOp (oInO C gs) φa φb) := by
  obtain ⟨f, fd, ps, F, ho, hbb⟩ := h
  exact ex_inO ho F hr hbb ha hb hm
end
/-! ### str(an int) -/
section
variable {X : Cx} {p pos : Pos} {e : Expr} {te : TE} {φ : DE}
def bStrI : FS := fun ds M Q => ∃ i : Int, ds = [.int i] ∧ i.natAbs.log2 < 1920 ∧ Q (.d (.str (toString i))) M
theorem sc_strI {K : PySem.W.Frag} : SC K (fun xs H Q => ∃ i : Int, xs = [.int i] ∧ i.natAbs.log2 < 1920 ∧ Q (.str (toString i)) H) bStrI := by
  intro B M H vs ds Q QV hc r q k
  obtain ⟨i, rfl, hi, q⟩ := q
  cases r with
  | cons r1 r2 =>
    cases r1
    cases r2
    exact ⟨i, rfl, hi, k _ _ _ _ _ q (Nx.refl hc) (.str _)⟩
theorem ex_strI (hm : X.mg "str" = none) (he : EX X e te φ) (hg : Gl X "str" := by rfl) (hst : starEach [e] X.env = (false, eval e X.env) :: starEach [] X.env := by rfl) :
    EX X (.Call (.Name "str" p) [e] [] pos) (tCB (fun xs H Q => ∃ i : Int, xs = [.int i] ∧ i.natAbs.log2 < 1920 ∧ Q (.str (toString i)) H) (tCons te tNil)) (dCB bStrI (dCons φ dNil)) :=
  ex_callTy call_str_int sc_strI hm PyProof.Rows.Boot.«str» (ax_cons he ax_nil hst) hg (by decide) (by decide) hst rfl
end
end Dl
set_option Elab.async false
set_option linter.all false
set_option maxRecDepth 100000
set_option maxHeartbeats 4000000
namespace Dl
open PySem PySem.Spec PyProof.Rows L2 NdefX StX ClX He
/-! ### the head tells own errors with an __init__ -/
abbrev FnV := Option (Str × Str × Arguments × FuncBody × Scope × Addr × List Str × Addr)
def fnV (K : PySem.W.Frag) (a : Addr) : FnV := match K.lookup a with
  | some ⟨_, _, .func fd, _⟩ => some (fd.name, fd.qualname, fd.params, fd.body, fd.scope, fd.globals, fd.closure.map (·.1), fd.builtins)
  | _ => none
def dValV (d : DefD) : FnV := some (d.name, d.qual, d.params, .stmts d.body, d.scope, mainGlobals, [("__class__" : Str)], builtinsNs)
def oexB (K : PySem.W.Frag) (C : Addr) : Bool := (match K.lookup C with
  | some ⟨.type "type", _, .cls cd, sl⟩ => (match cd.mro, sl.toList with
    | .ref C' :: bm, [_, _, _, _, some (.builtin n), _] => C' == C && n == "ValueError.__new__" && !cd.hasDel && cd.hasDict && PySem.HandSPX.refsVE bm
    | _, _ => false)
  | _ => false) && (eqO (PySem.W.findIn K (.ref C) "__setattr__") (some (some (.builtin "object.__setattr__"))) && (decide (PySem.W.subIn K (.ref C) (.type "BaseException") = some true) && (decide (PySem.W.typeIn K (.ref C) = some (.type "type")) && PySem.W.keepIn K (.ref C))))
theorem oexB_ok {K : PySem.W.Frag} {C : Addr} (h : oexB K C = true) : OexC K C := by
  obtain ⟨q, h⟩ := ba h
  obtain ⟨h1, h⟩ := ba h
  obtain ⟨h2, h⟩ := ba h
  obtain ⟨h3, h4⟩ := ba h
  refine ⟨?_, eqO_ok h1, of_decide_eq_true h2, of_decide_eq_true h3, h4⟩
  split at q
  · rename_i dd cd sl ho
    split at q
    · rename_i C' bm k0 k1 k2 k3 n k5 hm hs
      simp only [Bool.and_eq_true, beq_iff_eq, Bool.not_eq_true'] at q
      obtain ⟨⟨⟨⟨rfl, rfl⟩, hdel⟩, hd⟩, hr⟩ := q
      obtain ⟨nm, bs, mro, ns, qn, hdct, sn, sub, ab, col, del⟩ := cd
      dsimp only at hm hdel hd
      subst hm hdel hd
      have hsl : sl = #[k0, k1, k2, k3, some (.builtin "ValueError.__new__"), k5] := by
        obtain ⟨l⟩ := sl
        simp only at hs
        rw [hs]
      subst hsl
      exact ⟨nm, qn, ns, bs, bm, sn, sub, ab, col, dd, k0, k1, k2, k3, k5, ho, hr⟩
    · cases q
  · cases q
def clo1 (K : PySem.W.Frag) (f : Addr) : Addr := match K.lookup f with
  | some ⟨_, _, .func fd, _⟩ => (match fd.closure with
    | [(_, c)] => c
    | _ => 0)
  | _ => 0
def codeA (K : PySem.W.Frag) (f : Addr) : Addr := match K.lookup f with
  | some ⟨_, _, .func fd, _⟩ => (match fd.code with
    | .ref c => c
    | _ => 0)
  | _ => 0
def cellB (K : PySem.W.Frag) (c C : Addr) : Bool := match K.lookup c with
  | some ⟨_, _, .cell (some (.ref D)), _⟩ => D == C
  | _ => false
def fileB (K : PySem.W.Frag) (c : Addr) (file : Str) : Bool := match K.lookup c with
  | some ⟨_, _, .fields vs, _⟩ => (match (vs : Array Value)[2]? with
    | some (Value.str g _) => file == g
    | _ => false)
  | _ => false
def fdB (K : PySem.W.Frag) (f : Addr) : Bool := match K.lookup f with
  | some ⟨_, _, .func fd, _⟩ => (match fd.code with
    | .ref _ => true
    | _ => false) && (match fd.defaults with
    | .none => true
    | _ => false)
  | _ => false
def icB (K : PySem.W.Frag) (C : Addr) : Bool := eqO (PySem.W.findIn K (.ref C) "__class__") (some (some (.builtin "object.__class__"))) && (eqO (PySem.W.specialIn K (.builtin "object.__class__") "__get__") (some (some (.builtin "getset_descriptor.__get__"))) &&
  (decide (PySem.W.takesIn K (.builtin "object.__class__") = some true) && decide (PySem.W.mroIn K C (.type "object") = some true)))
theorem icB_ok {K : PySem.W.Frag} {C : Addr} (x : XfC K C) (h : icB K C = true) : ExcC K C := by
  obtain ⟨h1, h⟩ := ba h
  obtain ⟨h2, h⟩ := ba h
  obtain ⟨h3, h4⟩ := ba h
  exact ⟨x.ga, x.gg, x.exC, x.hdC, eqO_ok h1, eqO_ok h2, of_decide_eq_true h3, of_decide_eq_true h4⟩
def errB (K : PySem.W.Frag) (x qual file : Str) : Bool :=
  oexB K (ga K x) && (xfB K (ga K x) && (icB K (ga K x) && (eqO (PySem.W.findIn K (.ref (ga K x)) "__init__") (some (some (.ref (ma K (ga K x) "__init__")))) && (decide (PySem.W.typeIn K (.ref (ma K (ga K x) "__init__")) = some (.type "function")) &&
    (fdB K (ma K (ga K x) "__init__") && (PySem.W.codeIn K (.ref (codeA K (ma K (ga K x) "__init__"))) qual && (fileB K (codeA K (ma K (ga K x) "__init__")) file && (cellB K (clo1 K (ma K (ga K x) "__init__")) (ga K x) &&
      (eqO (PySem.W.nsIn K mainGlobals "super") (some none) && (eqO (PySem.W.nsIn K cStatics "thirdparty.any") (some none) && (eqO (PySem.W.ks_superIn K (ga K x) (ga K x) "__init__") (some (some (.builtin "ValueError.__init__"))) &&
        (decide (PySem.W.mroIn K (ga K x) (.ref (ga K x)) = some true) && (decide (PySem.W.subIn K (.ref (ga K x)) (.type "ValueError") = some true) && eqO (PySem.W.nsIn K mainGlobals x) (some (some (.ref (ga K x)))))))))))))))))
/-- what is known of an error's class -/
structure ErrK (P : Program) (K : PySem.W.Frag) (mg : Str → Option Value) (x : Str) (d : DefD) (f cc cda : Addr) (fd : FuncData) : Prop where
  ex : ∃ (kV doc pm ctv : Value) (an : Option Addr), fd = PySem.W.fnX d.name d.qual d.params d.body d.scope [(("__class__" : Str), cc)] .none kV doc pm an (.ref cda) ctv
  sup : SupC P K mg (ga K x) f cc cda fd
  iC : PySem.W.findIn K (.ref (ga K x)) "__init__" = some (some (.ref f))
  tI : PySem.W.typeIn K (.ref f) = some (.type "function")
  cd : PySem.W.codeIn K (.ref cda) d.qual = true
  at_ : mg x = some (.ref (ga K x))
  xf : XfC K (ga K x)
  ic : ExcC K (ga K x)
theorem err_ok {P : Program} {K : PySem.W.Frag} {h : Heap} {mg : Str → Option Value} {x file : Str} {d : DefD} (X : K.In h) (G : h.Ns mainGlobals mg) (e : fnV K (ma K (ga K x) "__init__") = dValV d) (b : errB K x d.qual file = true) (hfile : ((P.main.file : Str) == file) = true)
    (top : (P.main.scope.names.lookup ("super" : Str)).isSome = false) : ∃ f cc cda fd, ErrK P K mg x d f cc cda fd := by
  obtain ⟨b1, b⟩ := ba b
  obtain ⟨b2, b⟩ := ba b
  obtain ⟨b3, b⟩ := ba b
  obtain ⟨b4, b⟩ := ba b
  obtain ⟨b5, b⟩ := ba b
  obtain ⟨b6, b⟩ := ba b
  obtain ⟨b7, b⟩ := ba b
  obtain ⟨b8, b⟩ := ba b
  obtain ⟨b9, b⟩ := ba b
  obtain ⟨b10, b⟩ := ba b
  obtain ⟨b11, b⟩ := ba b
  obtain ⟨b12, b⟩ := ba b
  obtain ⟨b13, b⟩ := ba b
  obtain ⟨b14, b15⟩ := ba b
  have xf := xfB_ok b2
  generalize hf : ma K (ga K x) "__init__" = f at *
  unfold fnV at e
  unfold fdB at b6
  unfold clo1 at b9
  unfold codeA at b7 b8
  cases q : K.lookup f with
  | none =>
    rw [q] at b6
    cases b6
  | some o =>
    obtain ⟨oc, od, dt, osl⟩ := o
    rw [q] at e b6 b7 b8 b9
    cases dt with
    | func fd =>
      obtain ⟨n1, n2, n3, n4, n5, n6, n7, n8, n9, n10, n11, n12, n13, n14, n15⟩ := fd
      have e2 : (some (n1, n2, n3, n4, n5, n6, n7.map (·.1), n15) : FnV) = some (d.name, d.qual, d.params, .stmts d.body, d.scope, mainGlobals, [("__class__" : Str)], builtinsNs) := e
      simp only [Option.some.injEq, Prod.mk.injEq] at e2
      obtain ⟨h1, h2, h3, h4, h5, h6, h7, h8⟩ := e2
      subst h1 h2 h3 h4 h5 h6 h8
      match n7, h7 with
      | [(y, cc)], h7 =>
        have ey : y = "__class__" := by simpa using h7
        subst ey
        have b6' : ((match (generalizing := false) n13 with
          | .ref _ => true
          | _ => false) && (match (generalizing := false) n8 with
          | .none => true
          | _ => false)) = true := b6
        obtain ⟨b61, b62⟩ := ba b6'
        have e8 : n8 = .none := by
          cases n8 <;> first | rfl | cases b62
        subst e8
        cases n13 with
        | ref cda =>
          have b8' : fileB K cda file = true := b8
          have b9' : cellB K cc (ga K x) = true := b9
          refine ⟨f, cc, cda, _, ⟨n9, n10, n11, n14, n12, rfl⟩, ⟨oexB_ok b1, ⟨oc, od, osl, q⟩, ?_, ?_, PySem.W.mg_none_of X G (eqO_ok b10), eqO_ok b11, eqO_ok b12, of_decide_eq_true b13, of_decide_eq_true b14, top⟩, eqO_ok b4, of_decide_eq_true b5, b7, PySem.W.mg_of X G (eqO_ok b15), xf, icB_ok xf b3⟩
          · unfold fileB at b8'
            split at b8'
            · rename_i c1 c2 vs c3 hq
              split at b8'
              · rename_i g t hv
                refine ⟨c1, c2, vs, c3, g, t, hq, hv, ?_⟩
                rw [beq_iff_eq.mp hfile]
                exact b8'
              · cases b8'
            · cases b8'
          · unfold cellB at b9'
            split at b9'
            · rename_i c1 c2 D c3 hq
              rw [beq_iff_eq.mp b9'] at hq
              exact ⟨c1, c2, c3, hq⟩
            · cases b9'
        | _ => cases b61
    | _ => cases b6
end Dl
namespace Dl
open PySem PySem.Spec PyProof.Rows L2 NdefX StX ClX He
/-! ### the hook -/
abbrev AlZ : Type := AlY × List FnV × Bool
def obsZ (fa : List Fa) (fn : List DefD) (ps : List PDef) (es : List (Str × DefD)) (file : Str) (ex : PySem.W.Frag → Bool) (K : PySem.W.Frag) : AlZ := (obsY fa fn ps ex K, es.map fun e => fnV K (ma K (ga K e.1) "__init__"), es.all fun e => errB K e.1 e.2.qual file)
def valZ (fn : List DefD) (ps : List PDef) (es : List (Str × DefD)) : AlZ := (valY fn ps, es.map fun e => dValV e.2, true)
def SaysZ (fa : List Fa) (fn : List DefD) (ps : List PDef) (es : List (Str × DefD)) (file : Str) (ex : PySem.W.Frag → Bool) (K : PySem.W.Frag) : Prop := obsZ fa fn ps es file ex K = valZ fn ps es
def obsZG (n : Nat) (fa : List Fa) (fn : List DefD) (ps : List PDef) (es : List (Str × DefD)) (file : Str) (ex : PySem.W.Frag → Bool) (g : Addr → Option Obj) : AlZ := obsZ fa fn ps es file ex (frG g (PySem.cStatics :: asD g n))
def hookZ (n : Nat) (fa : List Fa) (fn : List DefD) (ps : List PDef) (es : List (Str × DefD)) (file : Str) (ex : PySem.W.Frag → Bool) : PySem.W.Hook where
  α := AlZ
  obs := fun s => obsZG n fa fn ps es file ex s.heap.get?
  val := fun _ => valZ fn ps es
  says := fun _ h => ∃ K : PySem.W.Frag, K.In h ∧ SaysZ fa fn ps es file ex K
  of := fun _ _ e => ⟨_, frG_in, e⟩
  keeps := fun _ _ _ ⟨K, hK, c⟩ k => ⟨K, PySem.W.Frag.In.keeps hK k, c⟩
theorem obsZG_eq {n : Nat} {fa : List Fa} {fn : List DefD} {ps : List PDef} {es : List (Str × DefD)} {file : Str} {ex : PySem.W.Frag → Bool} {g : Addr → Option Obj} {s : Shared} (h : ∀ a, g a = s.heap.get? a) : obsZG n fa fn ps es file ex g = (hookZ n fa fn ps es file ex).obs s := by
  have e : g = s.heap.get? := funext h
  rw [e] <;> rfl
section
variable {fa : List Fa} {fn : List DefD} {ps : List PDef} {es : List (Str × DefD)} {file : Str} {ex : PySem.W.Frag → Bool} {K : PySem.W.Frag}
theorem SaysZ.y (c : SaysZ fa fn ps es file ex K) : SaysY fa fn ps ex K := congrArg (fun z : AlZ => z.1) c
theorem SaysZ.err {P : Program} {h : Heap} {mg : Str → Option Value} (c : SaysZ fa fn ps es file ex K) (X : K.In h) (G : h.Ns mainGlobals mg) (i : Nat) {e : Str × DefD} (hi : es[i]? = some e) (hfile : ((P.main.file : Str) == file) = true) (top : (P.main.scope.names.lookup ("super" : Str)).isSome = false) :
    ∃ f cc cda fd, ErrK P K mg e.1 e.2 f cc cda fd := by
  have c2 : (es.all fun e => errB K e.1 e.2.qual file) = true := congrArg (fun z : AlZ => z.2.2) c
  have e1 : es.map (fun e => fnV K (ma K (ga K e.1) "__init__")) = es.map (fun e => dValV e.2) := congrArg (fun z : AlZ => z.2.1) c
  have e2 : (es.map fun e => fnV K (ma K (ga K e.1) "__init__"))[i]? = (es.map fun e => dValV e.2)[i]? := by rw [e1]
  rw [List.getElem?_map, List.getElem?_map, hi] at e2
  exact err_ok X G (Option.some.inj e2) (List.all_eq_true.mp c2 e (List.mem_of_getElem? hi)) hfile top
end
/-- THE RULE: an error's class, by its __init__ -/
theorem kn_err {P : Program} {w : World} {K : PySem.W.Frag} {mg : Str → Option Value} {base : Heap} {x : Str} {d : DefD} {f cc cda : Addr} {fd : FuncData} {N ps : List Str} {k : Nat} {fs : FSI} {ar : Arg} {e : Expr} {es : List Expr} {rest : List Stmt} {p0 p1 ap pos epos : Pos} {ψ : DA} {φ : DI} {n : Nat}
    (h : ErrK P K mg x d f cc cda fd) (S : NScope N ps ["__class__"] d.scope) (hbody : d.body = .Expr (.Call (.Attribute (.Call (.Name "super" p0) [] [] p1) "__init__" ap) (e :: es) [] pos) epos :: rest) (hp : (d.params.posonlyargs ++ d.params.args).head? = some ar) (h0 : ps[0]? = some ar.arg)
    (len : ∀ ds M Q, fs ds M Q → ds.length + 1 = ps.length)
    (hbi : ∀ (kV doc pm ctv : Value) (an : Option Addr) (us : List Value), us.length = ps.length → bindArgs (PySem.W.fnX d.name d.qual d.params d.body d.scope [(("__class__" : Str), cc)] .none kV doc pm an (.ref cda) ctv) ⟨us, []⟩ = pure (ps.zip us))
    (body : ∀ (A : Around) (outer : List PySem.Env) (s : Shared) (H : Hp) (E : XK), Room k (A.deeper (envF ⟨d.name, d.qual, d.params, d.body, d.scope, [(("__class__" : Str), cc)], cda⟩ f s.heap.objs.size)) →
      (∃ t, AX (ncx CX0 P w K mg base N ⟨d.name, d.qual, d.params, d.body, d.scope, [(("__class__" : Str), cc)], cda⟩ f A outer s H E) (e :: es) t ψ) ∧ IZ (ncx CX0 P w K mg base N ⟨d.name, d.qual, d.params, d.body, d.scope, [(("__class__" : Str), cc)], cda⟩ f A outer s H E) (ga K x) rest φ)
    (rd : ∀ ds M Q, fs ds M Q → ψ (startI N 0 0 ds) M fun ms M1 => ms.length ≤ 1000 ∧ φ (startI N 0 0 ds) M1 [] Q)
    (hgs : d.scope.names.lookup ("super" : Str) = some .globalImplicit)
    (hsw : ∀ L : Addr, swapsWith (.Call (.Attribute (.Call (.Name "super" p0) [] [] p1) "__init__" ap) (e :: es) [] pos) none epos.line (envF ⟨d.name, d.qual, d.params, d.body, d.scope, [(("__class__" : Str), cc)], cda⟩ f L) = pure false)
    (hev : ∀ L : Addr, eval (.Call (.Attribute (.Call (.Name "super" p0) [] [] p1) "__init__" ap) (e :: es) [] pos) (envF ⟨d.name, d.qual, d.params, d.body, d.scope, [(("__class__" : Str), cc)], cda⟩ f L) = (do
      let ov ← attributeBase (.Call (.Name "super" p0) [] [] p1) "__init__" (envF ⟨d.name, d.qual, d.params, d.body, d.scope, [(("__class__" : Str), cc)], cda⟩ f L) (eval (.Call (.Name "super" p0) [] [] p1) (envF ⟨d.name, d.qual, d.params, d.body, d.scope, [(("__class__" : Str), cc)], cda⟩ f L))
      standAt ap.atName
      let (fv, first) ← holding [ov] (getMethod ov "__init__" (pure false))
      callWith pos fv first (backTo pos (starEach (e :: es) (envF ⟨d.name, d.qual, d.params, d.body, d.scope, [(("__class__" : Str), cc)], cda⟩ f L))) []))
    (he : ∀ L : Addr, starEach (e :: es) (envF ⟨d.name, d.qual, d.params, d.body, d.scope, [(("__class__" : Str), cc)], cda⟩ f L) = (false, eval e (envF ⟨d.name, d.qual, d.params, d.body, d.scope, [(("__class__" : Str), cc)], cda⟩ f L)) :: starEach es (envF ⟨d.name, d.qual, d.params, d.body, d.scope, [(("__class__" : Str), cc)], cda⟩ f L))
    (hpl : ∀ L : Addr, (backTo pos (starEach es (envF ⟨d.name, d.qual, d.params, d.body, d.scope, [(("__class__" : Str), cc)], cda⟩ f L))).any (·.1) = false) : KnE P w K mg base x (ga K x) (k + 1) n fs := by
  obtain ⟨kV, doc, pm, ctv, an, hfd⟩ := h.ex
  refine ⟨⟨f, fd, ps, fn_sup (F := ⟨d.name, d.qual, d.params, d.body, d.scope, [(("__class__" : Str), cc)], cda⟩) hfd rfl h.sup S h.cd hbody hp h0 len body rd hgs (fun _ L => hsw L) hev he hpl, h.sup.ox, h.iC, h.tI, h.at_, ?_⟩, h.xf, h.ic⟩
  subst hfd
  exact .all (hbi kV doc pm ctv an)
end Dl
set_option Elab.async false
set_option linter.all false
set_option maxRecDepth 100000
set_option maxHeartbeats 4000000
namespace Dl
open PySem PySem.Spec PyProof.Rows L2 NdefX StX ClX
section
variable {X : Cx} {k : Nat} {m : Str} {fs : FS} {pos apos : Pos} {e o : Expr} {t to : TE} {φ : DE} {C : Addr}
/-- o.m() where m is def m(self, *v) -/
theorem ex_methKS0 {pl : Sem Bool} (c : Cls X.K C) (h : KnS X.prog X.w X.K X.mg X.base C m k fs) (hr : Room k X.A) (ho : EX X o to φ)
    (ht : eval (.Call (.Attribute o m apos) [] [] pos) X.env = (do
      let ov ← eval o X.env
      standAt apos.atName
      let (f, first) ← holding [ov] (getMethod ov m pl)
      callWith pos f first (backTo pos (starEach [] X.env)) (backToKw pos (keywordEach [] X.env))) := by rfl) :
    EX X (.Call (.Attribute o m apos) [] [] pos) (tMethR C m (spStar X.K 1 fs) E0 to tNil) (dMeth C m (fsStar fs) φ dNil) := by
  obtain ⟨f, F, hm⟩ := h
  refine ⟨⟨fun pins s σ H Q I h => ?_⟩, fun env M Q σ B H QV hs hc q k => ?_⟩
  · refine PySem.W.methodCall_KW (pl := pl) (thn (ho.pe.run pins s σ H _ I h) fun u s1 ⟨x, H1, I1, rx, a, dx, fs, ex, ea, l, q⟩ => ?_) ht
    subst ex
    obtain rfl : u = Value.ref a := rx
    refine getmeth_ok I1 ea c hm l ?_
    exact PySem.W.callWith_K0 (first := [.ref a]) I1.kIn hm.kp (wpAny_call (run_fnR (us := [.ref a]) (vs := [.ref a]) F hr pass0 I1 (.cons rfl .nil) q))
  · refine ho.s env M _ σ B H _ hs hc q fun r M1 v B1 H1 q1 n1 r1 => ?_
    obtain ⟨d, gs, rfl, gi, gl, q2⟩ := q1
    obtain ⟨a, dx, vs, rfl, h1, h2⟩ := gi.at n1.st r1
    refine ⟨a, dx, vs, rfl, h1, h2.none gl, ?_⟩
    exact sp_star n1.st (.cons r1 .nil) q2 fun r M' v B' H' q4 n3 r3 => k r M' v B' H' q4 (n1.trans n3) (r3.back n1)
/-- a new list stays a cell -/
def dCel (φ : DE) : DE := fun env M Q => φ env M fun r M1 => ∃ m, r = .new m ∧ ∀ p, M1 p = none → Q (.d (.cell p)) (M1.set p m)
theorem ex_cel (h : EX X e t φ) : EX X e t (dCel φ) := ⟨h.pe, fun env M Q σ B H QV hs hc q k => by
  refine h.s env M _ σ B H _ hs hc q fun r M1 v B1 H1 q1 n1 r1 => ?_
  obtain ⟨m, rfl, q2⟩ := q1
  obtain ⟨p, rfl, hp, n2⟩ := r1.celled n1
  exact k _ _ _ _ _ (q2 p hp) n2 (.cell p)⟩
end
end Dl
set_option Elab.async false
set_option linter.all false
set_option maxRecDepth 100000
set_option maxHeartbeats 4000000
namespace Lw
open PySem PySem.Spec PyProof.Rows L2 Dl
def top (i : Nat) : Stmt := PySem.Challenge.pw_loopsame_k01_system_holds.main.body.getD i (.Pass ⟨0, 0, 0, 0⟩)
/-! ### the plain law's words -/
abbrev iL (ns : List Int) : List Dat := ns.map Dat.int
inductive Kd where
  | ge | eq | div (m : Int)
structure Cd where
  k : Kd
  a : List Int
  c : Int
def Cd.row (x : Cd) : List Int := x.a ++ [x.c]
def Cd.its (x : Cd) : List Dat := match x.k with
  | .ge => [.str "ge", .tup (iL x.row)]
  | .eq => [.str "eq", .tup (iL x.row)]
  | .div m => [.str "div", .int m, .tup (iL x.row)]
def Cd.enc (x : Cd) : Dat := .tup x.its
def dot : List Int → List Int → Int
  | a :: r, b :: p => a * b + dot r p
  | _, _ => 0
def Cd.val (x : Cd) (p : List Int) : Int := x.c + dot x.a p
def Cd.met (x : Cd) (p : List Int) : Bool := match x.k with
  | .ge => decide (0 ≤ x.val p)
  | .eq => decide (x.val p = 0)
  | .div m => decide (x.val p % m = 0)
def Kd.isDiv : Kd → Bool
  | .div _ => true
  | _ => false
def Kd.isGe : Kd → Bool
  | .ge => true
  | _ => false
def nd (cs : List Cd) : Nat := (cs.filter fun x => x.k.isDiv).length
def qv (many seen : Nat) : Kd → List Int
  | .div m => (List.replicate many 0).set seen (-m)
  | _ => List.replicate many 0
def prow (many seen : Nat) (x : Cd) : List Int := x.a ++ qv many seen x.k ++ [x.c]
def prows1 (many seen : Nat) (x : Cd) : List (List Int) := prow many seen x :: (if x.k.isGe = true then [] else [(prow many seen x).map fun y => -y])
def nxt (seen : Nat) (k : Kd) : Nat := if k.isDiv = true then seen + 1 else seen
def prows (many : Nat) : Nat → List Cd → List (List Int)
  | _, [] => []
  | seen, x :: r => prows1 many seen x ++ prows many (nxt seen x.k) r
abbrev encR (r : List Int) : Dat := .tup (iL r)
def Sm (b : Int) (l : List Int) : Prop := ∀ x ∈ l, -b ≤ x ∧ x ≤ b
def Kd.ok : Kd → Prop
  | .div m => 2 ≤ m ∧ m ≤ 60
  | _ => True
def Gd (w : Nat) (b : Int) (x : Cd) : Prop := x.a.length = w ∧ Sm 1000000000 x.a ∧ -b ≤ x.c ∧ x.c ≤ b ∧ x.k.ok
def Good (w : Nat) (cs : List Cd) : Prop := ∀ x ∈ cs, Gd w 10000000000000000000 x
def sysD (C : Addr) (w : Nat) (cs : List Cd) : Dat := .ins C [("width", .int w), ("conditions", .tup (cs.map Cd.enc))]
def Cd.wide (n : Nat) (x : Cd) : Cd := ⟨x.k, x.a ++ List.replicate n 0, x.c⟩
def Cd.fix (ns : List Int) (x : Cd) : Cd := ⟨x.k, x.a.drop ns.length, x.c + dot (x.a.take ns.length) ns⟩
/-! ### promises -/
def PoolAt (M : Mem) (p : Addr) : Prop := ∃ ns : List Int, ns.length ≤ 63 ∧ M p = some (.lst (iL ns))
def PoolTo (M : Mem) (p : Addr) (M' : Mem) : Prop := ∃ ns : List Int, ns.length ≤ 63 ∧ M' = M.set p (.lst (iL ns))
def fs_row_value : FS := fun ds M Q => ∃ (a : List Int) (c : Int) (pt : List Int) (d e : Dat), ds = [d, e] ∧ SeqR M (.d d) (iL (a ++ [c])) ∧ SeqR M (.d e) (iL pt) ∧ a.length = pt.length ∧ pt.length ≤ 1000 ∧ Sm 1000000000 a ∧ Q (.d (.int (c + dot a pt))) M
def fs_extended : FS := fun ds M Q => ∃ (a : List Int) (c : Int) (n : Nat), ds = [encR (a ++ [c]), .int n] ∧ a.length ≤ 1000 ∧ n ≤ 1000 ∧ Q (.d (encR (a ++ List.replicate n 0 ++ [c]))) M
def fs__is_met : FS := fun ds M Q => ∃ (x : Cd) (pt : List Int) (e : Dat), ds = [x.enc, e] ∧ SeqR M (.d e) (iL pt) ∧ x.a.length = pt.length ∧ pt.length ≤ 1000 ∧ Sm 1000000000 x.a ∧ x.k.ok ∧ Q (.d (.bl (x.met pt))) M
def fs__law_draw : FS := fun ds M Q => ∃ (p : Addr) (m : Int), ds = [.cell p, .int m] ∧ PoolAt M p ∧ 0 < m ∧ m.natAbs.log2 < 9000 ∧ ∀ v M', 0 ≤ v → v < m → PoolTo M p M' → Q (.d (.int v)) M'
def fs__law_number : FS := fun ds M Q => ∃ (p : Addr) (z t : Int), ds = [.cell p, .int z, .int t] ∧ PoolAt M p ∧ 0 ≤ z ∧ z ≤ 1000000000 ∧ ∀ v M', -z ≤ v → v ≤ z → PoolTo M p M' → Q (.d (.int v)) M'
def fs__law_value : FS := fun ds M Q => ∃ (a : List Int) (c : Int) (pt : List Int) (e : Dat), ds = [encR (a ++ [c]), e] ∧ SeqR M (.d e) (iL pt) ∧ a.length = pt.length ∧ pt.length ≤ 1000 ∧ Sm 1000000000 a ∧ Q (.d (.int (c + dot a pt))) M
def fs__law_holds : FS := fun ds M Q => ∃ (cs : List Cd) (pt : List Int) (e : Dat), ds = [.lst (cs.map Cd.enc), e] ∧ SeqR M (.d e) (iL pt) ∧ pt.length ≤ 1000 ∧ Good pt.length cs ∧ Q (.d (.bl (cs.all fun x => x.met pt))) M
def fs__law_rule : FS := fun ds M Q => ∃ (p : Addr) (pt : List Int) (t mood : Int), ds = [.cell p, .lst (iL pt), .int t, .int mood] ∧ PoolAt M p ∧ pt.length ≤ 3 ∧ Sm 9 pt ∧ ∀ x M', Gd pt.length 1000000000 x → PoolTo M p M' → Q (.d x.enc) M'
def fs__law_world : FS := fun ds M Q => ∃ p : Addr, ds = [.cell p] ∧ PoolAt M p ∧ ∀ (edge : Int) (pt : List Int) (cs : List Cd) M', 0 ≤ edge → edge < 4 → pt.length ≤ 3 → Sm 9 pt → cs.length ≤ 5 → (∀ x ∈ cs, Gd pt.length 1000000000 x) → PoolTo M p M' →
  Q (.d (.tup [.int edge, .int pt.length, .lst (iL pt), .lst (cs.map Cd.enc)])) M'
def fs__law_points : FS := fun ds M Q => ∃ (p : Addr) (edge : Int) (pt : List Int), ds = [.cell p, .int edge, .lst (iL pt)] ∧ PoolAt M p ∧ pt.length ≤ 3 ∧ Sm 9 pt ∧ ∀ (p1 p2 : List Int) M', p1.length = pt.length → p2.length = pt.length → Sm 1000000000 p1 → Sm 1000000000 p2 → PoolTo M p M' →
  Q (.new (.lst [.lst (iL pt), .lst (iL p1), .lst (iL p2)])) M'
def fs__law_widened : FS := fun ds M Q => ∃ (w n : Nat) (cs : List Cd), ds = [.lst (cs.map Cd.enc), .int w, .int n] ∧ w ≤ 80 ∧ n ≤ 80 ∧ cs.length ≤ 500 ∧ (∀ x ∈ cs, x.a.length = w) ∧ Q (.new (.lst ((cs.map (Cd.wide n)).map Cd.enc))) M
def fs__law_fixed : FS := fun ds M Q => ∃ (w : Nat) (ns : List Int) (cs : List Cd), ds = [.lst (cs.map Cd.enc), .int w, .lst (iL ns)] ∧ ns.length ≤ w ∧ w ≤ 80 ∧ cs.length ≤ 500 ∧ Good w cs ∧ Q (.new (.lst ((cs.map (Cd.fix ns)).map Cd.enc))) M
/-! ### conditions as they are handed -/
def Kd.its : Kd → Dat → List Dat
  | .ge, d => [.str "ge", d]
  | .eq, d => [.str "eq", d]
  | .div m, d => [.str "div", .int m, d]
/-- well formed (d: its row as it is handed); another word; a row of another length; a modulus too small -/
inductive Rc where
  | good (x : Cd) (d : Dat) | word (kw : Str) (d : Dat) | len (k : Kd) (row : List Int) (d : Dat) | mod (m : Int) (row : List Int) (d : Dat)
def Rc.dat : Rc → Dat
  | .good x d => .tup (x.k.its d)
  | .word kw d => .tup [.str kw, d]
  | .len k _ d => .tup (k.its d)
  | .mod m _ d => .tup [.str "div", .int m, d]
def Rc.fit (M : Mem) (w : Nat) : Rc → Prop
  | .good x d => SeqR M (.d d) (iL x.row) ∧ Gd w 10000000000000000000 x
  | .word kw _ => kw ≠ "ge" ∧ kw ≠ "eq" ∧ kw ≠ "div"
  | .len _ row d => SeqR M (.d d) (iL row) ∧ row.length ≠ w + 1 ∧ row.length ≤ 1000
  | .mod m row d => SeqR M (.d d) (iL row) ∧ row.length = w + 1 ∧ row.length ≤ 1000 ∧ m < 2
def Rc.cd : Rc → Option Cd
  | .good x _ => some x
  | _ => none
def Rc.out (x : Rc) : Dat := match x.cd with
  | some c => c.enc
  | none => .non
/-- the place of the first that is not well formed -/
def firstBad : List Rc → Option Nat
  | [] => none
  | x :: r => match x.cd with
    | none => some 0
    | some _ => (firstBad r).map (· + 1)
def cdsOf (xs : List Rc) : List Cd := xs.filterMap Rc.cd
/-! ### errors -/
def fsi_BadSystem : FSI := fun ds M Q => ∃ i : Int, ds = [.int i] ∧ -1000000 ≤ i ∧ i ≤ 1000000 ∧ Q [("at", .int i)] M
def fsi_BadPoint : FSI := fun ds M Q => ∃ i : Int, ds = [.int i] ∧ -1000000 ≤ i ∧ i ≤ 1000000 ∧ Q [("length", .int i)] M
def fsi_BadCount : FSI := fun ds M Q => ∃ i : Int, ds = [.int i] ∧ -1000000 ≤ i ∧ i ≤ 1000000 ∧ Q [("count", .int i)] M
def throwS (cS : Addr) (W : XF) (i : Int) (M : Mem) : Prop := ∀ d, W d cS [("at", .int i)] M
def throwP (cP : Addr) (W : XF) (i : Int) (M : Mem) : Prop := ∀ d, W d cP [("length", .int i)] M
def throwC (cC : Addr) (W : XF) (i : Int) (M : Mem) : Prop := ∀ d, W d cC [("count", .int i)] M
/-! ### promises of what may raise -/
def fs__copied : FS := fun ds M Q => ∃ (x : Rc) (w : Nat), ds = [x.dat, .int w] ∧ x.fit M w ∧ Q (.d x.out) M
/-- what System(w, xs) does -/
def sysIn (cS : Addr) (w : Int) (xs : List Rc) (M : Mem) (Q : List Cd → Prop) (W : XF) : Prop :=
  (∃ n : Nat, w = (n : Int) ∧ n ≤ 80 ∧ (∀ x ∈ xs, x.fit M n) ∧ (match firstBad xs with
    | none => Q (cdsOf xs)
    | some i => throwS cS W i M)) ∨ ((w < 0 ∨ 80 < w) ∧ throwS cS W (-1) M)
def fx_System___init__ (cS C : Addr) : FSX := fun ds M Q W => ∃ (p : Addr) (w : Int) (d : Dat) (xs : List Rc), ds = [.cell p, .int w, d] ∧ M p = some (.obj C []) ∧ SeqR M (.d d) (xs.map Rc.dat) ∧ xs.length ≤ 1000 ∧
  sysIn cS w xs M (fun cs => Q (.d .non) (M.set p (.obj C [("width", .int w), ("conditions", .tup (cs.map Cd.enc))]))) W
def fx_System_holds (cP C : Addr) : FSX := fun ds M Q W => ∃ (w : Nat) (cs : List Cd) (pt : List Int) (e : Dat), ds = [sysD C w cs, e] ∧ SeqR M (.d e) (iL pt) ∧ pt.length ≤ 1000 ∧ w ≤ 100 ∧ Good w cs ∧ (if pt.length = w then Q (.d (.bl (cs.all fun x => x.met pt))) M else throwP cP W pt.length M)
def fx_System___contains__ (cP C : Addr) : FSX := fx_System_holds cP C
def fx_System___and__ (cS C : Addr) : FSX := fun ds M Q W => ∃ (w v : Nat) (cs es : List Cd), ds = [sysD C w cs, sysD C v es] ∧ w ≤ 80 ∧ cs.length ≤ 500 ∧ es.length ≤ 500 ∧ Good w cs ∧ Good v es ∧ (if v = w then Q (.d (sysD C w (cs ++ es))) M else throwS cS W (-1) M)
def fx_System_adding (cS C : Addr) : FSX := fun ds M Q W => ∃ (w : Nat) (cs : List Cd) (xs : List Rc), ds = [sysD C w cs, .tup (xs.map Rc.dat)] ∧ w ≤ 80 ∧ cs.length ≤ 500 ∧ xs.length ≤ 500 ∧ Good w cs ∧ (∀ x ∈ xs, x.fit M w) ∧ (match firstBad xs with
    | none => Q (.d (sysD C w (cs ++ cdsOf xs))) M
    | some i => throwS cS W (cs.length + i : Nat) M)
def fx_System_widened (cC cS C : Addr) : FSX := fun ds M Q W => ∃ (w : Nat) (n : Int) (cs : List Cd), ds = [sysD C w cs, .int n] ∧ w ≤ 80 ∧ -1000 ≤ n ∧ n ≤ 1000 ∧ cs.length ≤ 500 ∧ Good w cs ∧
  (if n < 0 ∨ 80 < n then throwC cC W n M else if 80 < (w : Int) + n then throwS cS W (-1) M else Q (.d (sysD C (w + n.toNat) (cs.map (Cd.wide n.toNat)))) M)
def fx_System_fixed (cP cS C : Addr) : FSX := fun ds M Q W => ∃ (w : Nat) (ns : List Int) (e : Dat) (cs : List Cd), ds = [sysD C w cs, e] ∧ SeqR M (.d e) (iL ns) ∧ ns.length ≤ 1000 ∧ w ≤ 80 ∧ cs.length ≤ 500 ∧ Good w cs ∧
  (if w < ns.length then throwP cP W ns.length M else Good (w - ns.length) (cs.map (Cd.fix ns)) ∧ Q (.d (sysD C (w - ns.length) (cs.map (Cd.fix ns)))) M)
/-! ### the law's own defs -/
abbrev encP (p : List Int) : Dat := .lst (iL p)
def fs__law_agrees (cP C : Addr) : FS := fun ds M Q => ∃ (w : Nat) (cs : List Cd) (ps : List (List Int)), ds = [sysD C w cs, .int w, .lst (cs.map Cd.enc), .lst (ps.map encP)] ∧ w ≤ 80 ∧ cs.length ≤ 500 ∧ cs.length * (w + 3) ≤ 3000 ∧ Good w cs ∧ ps.length ≤ 3 ∧
  (∀ p ∈ ps, p.length = w ∧ Sm 1000000000000 p) ∧ Q (.d (.bl true)) M
def fs__law_listed : FS := fun ds M Q => ∃ x : Cd, ds = [x.enc] ∧ x.a.length ≤ 1000 ∧ Q (.d (.tup (x.k.its (encP x.row)))) M
def fs__law_bad : FS := fun ds M Q => ∃ (p : Addr) (w : Nat), ds = [.cell p, .int w] ∧ PoolAt M p ∧ w ≤ 10 ∧ ∀ (x : Rc) M', PoolTo M p M' → (∀ N : Mem, x.fit N w) → x.cd = none → Q (.d x.dat) M'
/-- what _law_do may be asked -/
def fx__law_do (cC cP cS C : Addr) : FSX := fun ds M Q W => ∃ (sy th : Dat) (deed : Str), ds = [sy, .str deed, th] ∧
  ((deed = "make" ∧ ∃ (v : Int) (d : Dat) (xs : List Rc), th = .tup [.int v, d] ∧ SeqR M (.d d) (xs.map Rc.dat) ∧ xs.length ≤ 1000 ∧ sysIn cS v xs M (fun cs => Q (.d (sysD C v.toNat cs)) M) W) ∨
    (deed = "holds" ∧ fx_System_holds cP C [sy, th] M Q W) ∨ (deed = "in" ∧ fx_System_holds cP C [sy, th] M Q W) ∨ (deed = "and" ∧ fx_System___and__ cS C [sy, th] M Q W) ∨
    (deed = "adding" ∧ ∃ x y : Dat, th = .tup [x, y] ∧ fx_System_adding cS C [sy, .tup [x, y]] M Q W) ∨ (deed = "widened" ∧ fx_System_widened cC cS C [sy, th] M Q W) ∨ (deed = "fixed" ∧ fx_System_fixed cP cS C [sy, th] M Q W))
def told (w : Str) (i : Int) : Dat := .tup [.str w, .int i, .bl true]
def fx__law_fault (cC cP cS _cL C : Addr) : FSX := fun ds M Q _ => ds.length = 3 ∧ fx__law_do cC cP cS C ds M (fun _ M' => Q (.d (told "none" 0)) (M.restr M')) fun _ cls fl M' =>
  (cls = cS ∧ ∃ i, fl = ([(("at" : Str), Dat.int i)] : List (Str × Dat)) ∧ Q (.d (told "system" i)) (M.restr M')) ∨ (cls = cP ∧ ∃ i, fl = ([(("length" : Str), Dat.int i)] : List (Str × Dat)) ∧ Q (.d (told "point" i)) (M.restr M')) ∨ (cls = cC ∧ ∃ i, fl = ([(("count" : Str), Dat.int i)] : List (Str × Dat)) ∧ Q (.d (told "count" i)) (M.restr M'))
def fs__law_refuses (cC cP cS cL C : Addr) : FS := fun ds M Q => ∃ (sy th : Dat) (deed w : Str) (i : Int), ds = [sy, .str deed, th, .str w, .int i] ∧ (w = "system" ∨ w = "point" ∨ w = "count") ∧ -1000000 ≤ i ∧ i ≤ 1000000 ∧
  fx__law_fault cC cP cS cL C [sy, .str deed, th] M (fun r M' => r = .d (told w i) ∧ Q (.d (.bl true)) (M.restr M')) noX
def fs__law_refused_rules (cC cP cS cL C : Addr) : FS := fun ds M Q => ∃ (p : Addr) (w : Nat) (cs : List Cd), ds = [.cell p, sysD C w cs, .int w, .lst (cs.map Cd.enc)] ∧ PoolAt M p ∧ w ≤ 3 ∧ cs.length ≤ 5 ∧ Good w cs ∧ ∀ M', PoolTo M p M' → Q (.d (.bl true)) M'
def fs__law_refused_sizes (cC cP cS cL C : Addr) : FS := fun ds M Q => ∃ (p : Addr) (w : Nat) (cs : List Cd), ds = [.cell p, sysD C w cs, .int w] ∧ PoolAt M p ∧ w ≤ 3 ∧ cs.length ≤ 5 ∧ Good w cs ∧ ∀ M', PoolTo M p M' → Q (.d (.bl true)) M'
def fs__law_joined (cP cS C : Addr) : FS := fun ds M Q => ∃ (p : Addr) (w : Nat) (cs : List Cd) (pt : List Int) (ps : List (List Int)), ds = [.cell p, sysD C w cs, .int w, .lst (cs.map Cd.enc), .lst (iL pt), .lst (ps.map encP)] ∧ PoolAt M p ∧ w ≤ 3 ∧ cs.length ≤ 5 ∧ Good w cs ∧ pt.length = w ∧ Sm 9 pt ∧ ps.length ≤ 3 ∧
  (∀ p ∈ ps, p.length = w ∧ Sm 1000000000 p) ∧ ∀ M', PoolTo M p M' → Q (.d (.bl true)) M'
def fs__law_resized (cC cP cS C : Addr) : FS := fun ds M Q => ∃ (p : Addr) (w : Nat) (cs : List Cd) (ps : List (List Int)), ds = [.cell p, sysD C w cs, .int w, .lst (cs.map Cd.enc), .lst (ps.map encP)] ∧ PoolAt M p ∧ w ≤ 3 ∧ cs.length ≤ 5 ∧ (∀ x ∈ cs, Gd w 1000000000 x) ∧ ps.length = 3 ∧
  (∀ p ∈ ps, p.length = w ∧ Sm 1000000000 p) ∧ ∀ M', PoolTo M p M' → Q (.d (.bl true)) M'
def fs_law (cC cP cS cL C : Addr) : FS := fsLaw
end Lw
set_option Elab.async false
set_option linter.all false
set_option maxRecDepth 100000
set_option maxHeartbeats 4000000
namespace Lw
open PySem PySem.Spec PyProof.Rows L2 Dl StX ClX
/-! ### BadSystem.__init__ -/
abbrev s_BadSystem___init__ : Stmt := inClass (top 3) 0
abbrev N_BadSystem___init__ : List Str := ["self", "at", "__class__"]
def rdm_BadSystem___init__ : DA := dCons (dOp oAdd (dC (.str "bad system: ")) (dCB bStrI (dCons (dVar 1) dNil))) (dNil)
def rdi_BadSystem___init__ : DI := dICons "at" (dVar 1) (dINil)
/-! ### BadPoint.__init__ -/
abbrev s_BadPoint___init__ : Stmt := inClass (top 4) 0
abbrev N_BadPoint___init__ : List Str := ["self", "length", "__class__"]
def rdm_BadPoint___init__ : DA := dCons (dOp oAdd (dC (.str "bad number of integers: ")) (dCB bStrI (dCons (dVar 1) dNil))) (dNil)
def rdi_BadPoint___init__ : DI := dICons "length" (dVar 1) (dINil)
/-! ### BadCount.__init__ -/
abbrev s_BadCount___init__ : Stmt := inClass (top 5) 0
abbrev N_BadCount___init__ : List Str := ["self", "count", "__class__"]
def rdm_BadCount___init__ : DA := dCons (dOp oAdd (dC (.str "bad count: ")) (dCB bStrI (dCons (dVar 1) dNil))) (dNil)
def rdi_BadCount___init__ : DI := dICons "count" (dVar 1) (dINil)
/-! ### row_value -/
abbrev s_row_value : Stmt := top 7
abbrev N_row_value : List Str := ["row", "point", "value", "index"]
def rd_row_value : DS := dSeq (dSet (dOp oIx (dVar 0) (dNeg (dC (.int 1)))) 2)
  (dSeq (dFor (dRng1 (dCons (dCB bLen (dCons (dVar 1) (dNil))) (dNil))) (gd 3) (dSet (dOp oAdd (dVar 2) (dOp oMul (dOp oIx (dVar 0) (dVar 3)) (dOp oIx (dVar 1) (dVar 3)))) 2))
  (dRet (dVar 2)))
/-! ### extended -/
abbrev s_extended : Stmt := top 8
abbrev N_extended : List Str := ["row", "count"]
def rd_extended : DS := dRet (dOp oAdd (dOp oAdd (dCB bTuple (dCons (dSl (dVar 0) (dNo) (dPart (dNeg (dC (.int 1))))) (dNil))) (dOp oMul (dTup (dCons (dC (.int 0)) (dNil))) (dVar 1))) (dTup (dCons (dOp oIx (dVar 0) (dNeg (dC (.int 1)))) (dNil))))
/-! ### _copied -/
abbrev s__copied : Stmt := top 10
abbrev N__copied : List Str := ["condition", "width", "row"]
def rd__copied : DS := dSeq (dIfS (dTest (dOp (oInB true) (dOp oIx (dVar 0) (dC (.int 0))) (dTup (dCons (dC (.str "ge")) (dCons (dC (.str "eq")) (dCons (dC (.str "div")) (dNil))))))) (dRet (dC .non)) (dNext))
  (dSeq (dSet (dCB bTuple (dCons (dOp oIx (dVar 0) (dNeg (dC (.int 1)))) (dNil))) 2)
  (dSeq (dIfS (dTest (dOp oNe (dCB bLen (dCons (dVar 2) (dNil))) (dOp oAdd (dVar 1) (dC (.int 1))))) (dRet (dC .non)) (dNext))
  (dSeq (dIfS (dTest (dOp oNe (dOp oIx (dVar 0) (dC (.int 0))) (dC (.str "div")))) (dRet (dTup (dCons (dOp oIx (dVar 0) (dC (.int 0))) (dCons (dVar 2) (dNil))))) (dNext))
  (dSeq (dIfS (dTest (dOp oLt (dOp oIx (dVar 0) (dC (.int 1))) (dC (.int 2)))) (dRet (dC .non)) (dNext))
  (dRet (dTup (dCons (dC (.str "div")) (dCons (dOp oIx (dVar 0) (dC (.int 1))) (dCons (dVar 2) (dNil))))))))))
/-! ### _is_met -/
abbrev s__is_met : Stmt := top 11
abbrev N__is_met : List Str := ["condition", "point", "value"]
def rd__is_met : DS := dSeq (dSet (dCB fs_row_value (dCons (dOp oIx (dVar 0) (dNeg (dC (.int 1)))) (dCons (dVar 1) (dNil)))) 2)
  (dSeq (dIfS (dTest (dOp oEq (dOp oIx (dVar 0) (dC (.int 0))) (dC (.str "ge")))) (dRet (dOp oGe (dVar 2) (dC (.int 0)))) (dNext))
  (dSeq (dIfS (dTest (dOp oEq (dOp oIx (dVar 0) (dC (.int 0))) (dC (.str "eq")))) (dRet (dOp oEq (dVar 2) (dC (.int 0)))) (dNext))
  (dRet (dOp oEq (dOp oModI (dVar 2) (dOp oIx (dVar 0) (dC (.int 1)))) (dC (.int 0))))))
/-! ### System.__init__ -/
abbrev s_System___init__ : Stmt := inClass (top 12) 1
abbrev N_System___init__ : List Str := ["self", "width", "conditions", "kept", "condition", "copy"]
def rd_System___init__ (C_BadSystem : Addr) (C_System : Addr) : DS := dSeq (dIfS (dNot (dTest (dChain oLe oLe (dC (.int 0)) (dVar 1) (dC (.int 80))))) (dSeq (dRaise C_BadSystem fsi_BadSystem (dCons (dNeg (dC (.int 1))) (dNil)))
  (dNext)) (dNext))
  (dSeq (dSetC (dLst (dNil)) 3)
  (dSeq (dFor (dSeqW (dVar 2)) (gd 4) (dSeq (dSet (dCB fs__copied (dCons (dVar 4) (dCons (dVar 1) (dNil)))) 5)
  (dSeq (dIfS (dTest (dOp (oIs false) (dVar 5) (dC .non))) (dSeq (dRaise C_BadSystem fsi_BadSystem (dCons (dCB bLen (dCons (dVar 3) (dNil))) (dNil)))
  (dNext)) (dNext))
  (dSeq (dDrop (dAppend (dVar 3) (dVar 5)))
  (dNext)))))
  (dSeq (dSetF C_System "width" (dVar 1) (dVar 0))
  (dSeq (dSetF C_System "conditions" (dCB bTuple (dCons (dVar 3) (dNil))) (dVar 0))
  (dNext)))))
/-! ### System.holds -/
abbrev s_System_holds : Stmt := inClass (top 12) 2
abbrev N_System_holds : List Str := ["self", "point", "condition"]
def rd_System_holds (C_BadPoint : Addr) (C_System : Addr) : DS := dSeq (dIfS (dTest (dOp oNe (dCB bLen (dCons (dVar 1) (dNil))) (dFld C_System "width" (dVar 0)))) (dSeq (dRaise C_BadPoint fsi_BadPoint (dCons (dCB bLen (dCons (dVar 1) (dNil))) (dNil)))
  (dNext)) (dNext))
  (dSeq (dFor (dSeqW (dFld C_System "conditions" (dVar 0))) (gd 2) (dIfS (dNot (dTest (dCB fs__is_met (dCons (dVar 2) (dCons (dVar 1) (dNil)))))) (dRet (dC (.bl false))) (dNext)))
  (dSeq (dRet (dC (.bl true)))
  (dNext)))
/-! ### System.__contains__ -/
abbrev s_System___contains__ : Stmt := inClass (top 12) 3
abbrev N_System___contains__ : List Str := ["self", "point"]
def rd_System___contains__ (C_BadPoint : Addr) (C_System : Addr) : DS := dSeq (dRetZ (dMethZ C_System "holds" (fx_System_holds C_BadPoint C_System) (dVar 0) (dCons (dVar 1) (dNil))))
  (dNext)
/-! ### System.__and__ -/
abbrev s_System___and__ : Stmt := inClass (top 12) 4
abbrev N_System___and__ : List Str := ["self", "other"]
def rd_System___and__ (C_BadSystem : Addr) (C_System : Addr) : DS := dSeq (dIfS (dTest (dOp oNe (dFld C_System "width" (dVar 1)) (dFld C_System "width" (dVar 0)))) (dSeq (dRaise C_BadSystem fsi_BadSystem (dCons (dNeg (dC (.int 1))) (dNil)))
  (dNext)) (dNext))
  (dSeq (dRetZ (dMakeZ C_System (fx_System___init__ C_BadSystem C_System) (dCons (dFld C_System "width" (dVar 0)) (dCons (dOp oAdd (dFld C_System "conditions" (dVar 0)) (dFld C_System "conditions" (dVar 1))) (dNil)))))
  (dNext))
/-! ### System.adding -/
abbrev s_System_adding : Stmt := inClass (top 12) 5
abbrev N_System_adding : List Str := ["self", "conditions"]
def rd_System_adding (C_BadSystem : Addr) (C_System : Addr) : DS := dSeq (dRetZ (dMakeZ C_System (fx_System___init__ C_BadSystem C_System) (dCons (dFld C_System "width" (dVar 0)) (dCons (dOp oAdd (dFld C_System "conditions" (dVar 0)) (dVar 1)) (dNil)))))
  (dNext)
/-! ### System.widened -/
abbrev s_System_widened : Stmt := inClass (top 12) 6
abbrev N_System_widened : List Str := ["self", "count", "conditions", "condition"]
def rd_System_widened (C_BadCount : Addr) (C_BadSystem : Addr) (C_System : Addr) : DS := dSeq (dIfS (dNot (dTest (dChain oLe oLe (dC (.int 0)) (dVar 1) (dC (.int 80))))) (dSeq (dRaise C_BadCount fsi_BadCount (dCons (dVar 1) (dNil)))
  (dNext)) (dNext))
  (dSeq (dIfS (dTest (dOp oGt (dOp oAdd (dFld C_System "width" (dVar 0)) (dVar 1)) (dC (.int 80)))) (dSeq (dRaise C_BadSystem fsi_BadSystem (dCons (dNeg (dC (.int 1))) (dNil)))
  (dNext)) (dNext))
  (dSeq (dSet (dLc (dSeqW (dFld C_System "conditions" (dVar 0))) 3 (dYes) (dOp oAdd (dSl (dVar 3) (dNo) (dPart (dNeg (dC (.int 1))))) (dTup (dCons (dCB fs_extended (dCons (dOp oIx (dVar 3) (dNeg (dC (.int 1)))) (dCons (dVar 1) (dNil)))) (dNil))))) 2)
  (dSeq (dRetZ (dMakeZ C_System (fx_System___init__ C_BadSystem C_System) (dCons (dOp oAdd (dFld C_System "width" (dVar 0)) (dVar 1)) (dCons (dVar 2) (dNil)))))
  (dNext))))
/-! ### System.fixed -/
abbrev s_System_fixed : Stmt := inClass (top 12) 7
abbrev N_System_fixed : List Str := ["self", "numbers", "count", "conditions", "condition", "row", "constant"]
def rd_System_fixed (C_BadPoint : Addr) (C_BadSystem : Addr) (C_System : Addr) : DS := dSeq (dSet (dCB bLen (dCons (dVar 1) (dNil))) 2)
  (dSeq (dIfS (dTest (dOp oGt (dVar 2) (dFld C_System "width" (dVar 0)))) (dSeq (dRaise C_BadPoint fsi_BadPoint (dCons (dVar 2) (dNil)))
  (dNext)) (dNext))
  (dSeq (dSetC (dLst (dNil)) 3)
  (dSeq (dFor (dSeqW (dFld C_System "conditions" (dVar 0))) (gd 4) (dSeq (dSet (dOp oIx (dVar 4) (dNeg (dC (.int 1)))) 5)
  (dSeq (dSet (dCB fs_row_value (dCons (dOp oAdd (dSl (dVar 5) (dNo) (dPart (dVar 2))) (dSl (dVar 5) (dPart (dNeg (dC (.int 1)))) (dNo))) (dCons (dVar 1) (dNil)))) 6)
  (dDrop (dAppend (dVar 3) (dOp oAdd (dSl (dVar 4) (dNo) (dPart (dNeg (dC (.int 1))))) (dTup (dCons (dOp oAdd (dSl (dVar 5) (dPart (dVar 2)) (dPart (dNeg (dC (.int 1))))) (dTup (dCons (dVar 6) (dNil)))) (dNil)))))))))
  (dSeq (dRetZ (dMakeZ C_System (fx_System___init__ C_BadSystem C_System) (dCons (dOp oSub (dFld C_System "width" (dVar 0)) (dVar 2)) (dCons (dVar 3) (dNil)))))
  (dNext)))))
/-! ### _law_draw -/
abbrev s__law_draw : Stmt := top 14
abbrev N__law_draw : List Str := ["_law_pool", "_law_many", "_law_cell", "_law_rest"]
def rd__law_draw : DS := dSeq (dIfS (dTest (dOp oEq (dVar 0) (dLst (dNil)))) (dRet (dC (.int 0))) (dNext))
  (dSeq (dSet (dPop (dVar 0)) 2)
  (dSeq (dSet (dOp oDivI (dVar 2) (dVar 1)) 3)
  (dSeq (dIfS (dTest (dOp (oInB true) (dVar 3) (dTup (dCons (dC (.int 0)) (dCons (dNeg (dC (.int 1))) (dNil)))))) (dDrop (dAppend (dVar 0) (dVar 3))) (dNext))
  (dRet (dOp oModI (dCB bInt (dCons (dVar 2) (dNil))) (dVar 1))))))
/-! ### _law_number -/
abbrev s__law_number : Stmt := top 15
abbrev N__law_number : List Str := ["_law_pool", "_law_size", "_law_at"]
def rd__law_number : DS := dRet (dOp oSub (dOp oModI (dCB bInt (dCons (dOp oAdd (dOp oAdd (dCB fs__law_draw (dCons (dVar 0) (dCons (dOp oAdd (dOp oMul (dC (.int 2)) (dVar 1)) (dC (.int 1))) (dNil)))) (dVar 1)) (dVar 2)) (dNil))) (dOp oAdd (dOp oMul (dC (.int 2)) (dVar 1)) (dC (.int 1)))) (dVar 1))
/-! ### _law_value -/
abbrev s__law_value : Stmt := top 16
abbrev N__law_value : List Str := ["_law_row", "_law_point", "_law_k"]
def rd__law_value : DS := dRet (dOp oAdd (dOp oIx (dVar 0) (dNeg (dC (.int 1)))) (dCB bSum (dCons (dLc (dRng1 (dCons (dCB bLen (dCons (dVar 1) (dNil))) (dNil))) 2 (dYes) (dOp oMul (dOp oIx (dVar 0) (dVar 2)) (dOp oIx (dVar 1) (dVar 2)))) (dNil))))
/-! ### _law_holds -/
abbrev s__law_holds : Stmt := top 17
abbrev N__law_holds : List Str := ["_law_rules", "_law_point", "_law_rule_here", "_law_value_here"]
def rd__law_holds : DS := dSeq (dFor (dSeqW (dVar 0)) (gd 2) (dSeq (dSet (dCB fs__law_value (dCons (dOp oIx (dVar 2) (dNeg (dC (.int 1)))) (dCons (dVar 1) (dNil)))) 3)
  (dSeq (dIfS (dAnd (dTest (dOp oEq (dOp oIx (dVar 2) (dC (.int 0))) (dC (.str "ge")))) (dTest (dOp oLt (dVar 3) (dC (.int 0))))) (dRet (dC (.bl false))) (dNext))
  (dSeq (dIfS (dAnd (dTest (dOp oEq (dOp oIx (dVar 2) (dC (.int 0))) (dC (.str "eq")))) (dTest (dOp oNe (dVar 3) (dC (.int 0))))) (dRet (dC (.bl false))) (dNext))
  (dIfS (dAnd (dTest (dOp oEq (dOp oIx (dVar 2) (dC (.int 0))) (dC (.str "div")))) (dTest (dOp oNe (dOp oModI (dCB bInt (dCons (dVar 3) (dNil))) (dOp oIx (dVar 2) (dC (.int 1)))) (dC (.int 0))))) (dRet (dC (.bl false))) (dNext))))))
  (dRet (dC (.bl true)))
/-! ### _law_rule -/
abbrev s__law_rule : Stmt := top 18
abbrev N__law_rule : List Str := ["_law_pool", "_law_point", "_law_at", "_law_mood", "_law_kind", "_law_m", "_law_row", "_law_constant", "_law_spare", "_law_k"]
def rd__law_rule : DS := dSeq (dSet (dOp oModI (dCB bInt (dCons (dOp oAdd (dCB fs__law_draw (dCons (dVar 0) (dCons (dC (.int 3)) (dNil)))) (dVar 2)) (dNil))) (dC (.int 3))) 4)
  (dSeq (dSet (dOp oAdd (dC (.int 2)) (dOp oModI (dCB bInt (dCons (dOp oAdd (dCB fs__law_draw (dCons (dVar 0) (dCons (dC (.int 59)) (dNil)))) (dOp oMul (dC (.int 7)) (dVar 2))) (dNil))) (dC (.int 59)))) 5)
  (dSeq (dSet (dLc (dRng1 (dCons (dCB bLen (dCons (dVar 1) (dNil))) (dNil))) 9 (dYes) (dCB fs__law_number (dCons (dVar 0) (dCons (dC (.int 9)) (dCons (dOp oAdd (dOp oAdd (dVar 2) (dOp oMul (dC (.int 2)) (dVar 9))) (dC (.int 1))) (dNil)))))) 6)
  (dSeq (dSet (dNeg (dCB bSum (dCons (dLc (dRng1 (dCons (dCB bLen (dCons (dVar 1) (dNil))) (dNil))) 9 (dYes) (dOp oMul (dOp oIx (dVar 6) (dVar 9)) (dOp oIx (dVar 1) (dVar 9)))) (dNil)))) 7)
  (dSeq (dSet (dCB fs__law_draw (dCons (dVar 0) (dCons (dC (.int 10)) (dNil)))) 8)
  (dSeq (dIfS (dAnd (dTest (dOp oEq (dVar 3) (dC (.int 0)))) (dTest (dOp oEq (dVar 4) (dC (.int 0))))) (dSet (dOp oAdd (dVar 7) (dVar 8)) 7) (dNext))
  (dSeq (dIfS (dAnd (dTest (dOp oEq (dVar 3) (dC (.int 0)))) (dTest (dOp oEq (dVar 4) (dC (.int 2))))) (dSet (dOp oAdd (dVar 7) (dOp oMul (dVar 5) (dOp oSub (dOp oModI (dCB bInt (dCons (dVar 8) (dNil))) (dC (.int 3))) (dC (.int 1))))) 7) (dNext))
  (dSeq (dIfS (dTest (dOp oEq (dVar 3) (dC (.int 1)))) (dSet (dOp oSub (dVar 7) (dC (.int 1))) 7) (dNext))
  (dSeq (dIfS (dTest (dOp oEq (dVar 3) (dC (.int 2)))) (dSet (dOp oSub (dCB fs__law_draw (dCons (dVar 0) (dCons (dC (.int 199)) (dNil)))) (dC (.int 99))) 7) (dNext))
  (dSeq (dSet (dCB bTuple (dCons (dOp oAdd (dVar 6) (dLst (dCons (dVar 7) (dNil)))) (dNil))) 6)
  (dSeq (dIfS (dTest (dOp oEq (dVar 4) (dC (.int 2)))) (dRet (dTup (dCons (dC (.str "div")) (dCons (dVar 5) (dCons (dVar 6) (dNil)))))) (dNext))
  (dRet (dTup (dCons (dOp oIx (dLst (dCons (dC (.str "ge")) (dCons (dC (.str "eq")) (dNil)))) (dVar 4)) (dCons (dVar 6) (dNil)))))))))))))))
/-! ### _law_world -/
abbrev s__law_world : Stmt := top 19
abbrev N__law_world : List Str := ["_law_pool", "_law_edge", "_law_width", "_law_many", "_law_point", "_law_mood", "_law_odd", "_law_rules", "_law_j", "_law_k", "_law_row"]
def rd__law_world : DS := dSeq (dSet (dCB fs__law_draw (dCons (dVar 0) (dCons (dC (.int 4)) (dNil)))) 1)
  (dSeq (dSet (dOp oModI (dCB bInt (dCons (dOp oAdd (dCB fs__law_draw (dCons (dVar 0) (dCons (dC (.int 4)) (dNil)))) (dC (.int 2))) (dNil))) (dC (.int 4))) 2)
  (dSeq (dSet (dOp oModI (dCB bInt (dCons (dOp oAdd (dCB fs__law_draw (dCons (dVar 0) (dCons (dC (.int 6)) (dNil)))) (dC (.int 3))) (dNil))) (dC (.int 6))) 3)
  (dSeq (dSet (dLc (dRng1 (dCons (dVar 2) (dNil))) 9 (dYes) (dCB fs__law_number (dCons (dVar 0) (dCons (dC (.int 9)) (dCons (dOp oAdd (dVar 9) (dC (.int 1))) (dNil)))))) 4)
  (dSeq (dSet (dCB fs__law_draw (dCons (dVar 0) (dCons (dC (.int 3)) (dNil)))) 5)
  (dSeq (dSet (dCB fs__law_draw (dCons (dVar 0) (dCons (dCB bMax2 (dCons (dC (.int 1)) (dCons (dVar 3) (dNil)))) (dNil)))) 6)
  (dSeq (dSetC (dLst (dNil)) 7)
  (dSeq (dFor (dRng1 (dCons (dVar 3) (dNil))) (gd 8) (dDrop (dAppend (dVar 7) (dCB fs__law_rule (dCons (dVar 0) (dCons (dVar 4) (dCons (dVar 8) (dCons (dOp oIx (dLst (dCons (dC (.int 0)) (dCons (dCB bInt (dCons (dOp oEq (dVar 8) (dVar 6)) (dNil))) (dCons (dC (.int 2)) (dNil))))) (dVar 5)) (dNil)))))))))
  (dSeq (dIfS (dAnd (dTest (dOp oEq (dVar 1) (dC (.int 3)))) (dTest (dOp oGt (dVar 3) (dC (.int 0))))) (dSeq (dSet (dCB fs__law_draw (dCons (dVar 0) (dCons (dVar 3) (dNil)))) 8)
  (dSeq (dSet (dCB fs__law_draw (dCons (dVar 0) (dCons (dOp oAdd (dVar 2) (dC (.int 1))) (dNil)))) 9)
  (dSeq (dSetC (dCB bList (dCons (dOp oIx (dOp oIx (dVar 7) (dVar 8)) (dNeg (dC (.int 1)))) (dNil))) 10)
  (dSeq (dSetI (dOp oSub (dCB fs__law_draw (dCons (dVar 0) (dCons (dOp oAdd (dOp oMul (dC (.int 2)) (dOp oPow (dC (.int 10)) (dC (.int 9)))) (dC (.int 1))) (dNil)))) (dOp oPow (dC (.int 10)) (dC (.int 9)))) (dVar 10) (dVar 9))
  (dSetI (dOp oAdd (dSl (dOp oIx (dVar 7) (dVar 8)) (dNo) (dPart (dNeg (dC (.int 1))))) (dTup (dCons (dCB bTuple (dCons (dVar 10) (dNil))) (dNil)))) (dVar 7) (dVar 8)))))) (dNext))
  (dRet (dTup (dCons (dVar 1) (dCons (dVar 2) (dCons (dVar 4) (dCons (dHold (dVar 7)) (dNil)))))))))))))))
/-! ### _law_points -/
abbrev s__law_points : Stmt := top 20
abbrev N__law_points : List Str := ["_law_pool", "_law_edge", "_law_point", "_law_near", "_law_far", "_law_k"]
def rd__law_points : DS := dSeq (dSetC (dCB bList (dCons (dVar 2) (dNil))) 3)
  (dSeq (dSetC (dLc (dRng1 (dCons (dCB bLen (dCons (dVar 2) (dNil))) (dNil))) 5 (dYes) (dCB fs__law_number (dCons (dVar 0) (dCons (dC (.int 9)) (dCons (dOp oSub (dC (.int 3)) (dVar 5)) (dNil)))))) 4)
  (dSeq (dIfS (dTest (dOp oGt (dCB bLen (dCons (dVar 2) (dNil))) (dC (.int 0)))) (dSeq (dSet (dCB fs__law_draw (dCons (dVar 0) (dCons (dCB bLen (dCons (dVar 2) (dNil))) (dNil)))) 5)
  (dSetI (dOp oSub (dOp oAdd (dOp oIx (dVar 3) (dVar 5)) (dC (.int 1))) (dOp oMul (dC (.int 2)) (dCB fs__law_draw (dCons (dVar 0) (dCons (dC (.int 2)) (dNil)))))) (dVar 3) (dVar 5))) (dNext))
  (dSeq (dIfS (dAnd (dTest (dOp oEq (dVar 1) (dC (.int 3)))) (dTest (dOp oGt (dCB bLen (dCons (dVar 2) (dNil))) (dC (.int 0))))) (dSeq (dSet (dCB fs__law_draw (dCons (dVar 0) (dCons (dCB bLen (dCons (dVar 2) (dNil))) (dNil)))) 5)
  (dSetI (dOp oSub (dCB fs__law_draw (dCons (dVar 0) (dCons (dOp oAdd (dOp oMul (dC (.int 2)) (dOp oPow (dC (.int 10)) (dC (.int 9)))) (dC (.int 1))) (dNil)))) (dOp oPow (dC (.int 10)) (dC (.int 9)))) (dVar 4) (dVar 5))) (dNext))
  (dRet (dLst (dCons (dVar 2) (dCons (dHold (dVar 3)) (dCons (dHold (dVar 4)) (dNil)))))))))
/-! ### _law_widened -/
abbrev s__law_widened : Stmt := top 21
abbrev N__law_widened : List Str := ["_law_rules", "_law_width", "_law_count", "_law_due", "_law_rule_here", "_law_row"]
def rd__law_widened : DS := dSeq (dSetC (dLst (dNil)) 3)
  (dSeq (dFor (dSeqW (dVar 0)) (gd 4) (dSeq (dSet (dOp oIx (dVar 4) (dNeg (dC (.int 1)))) 5)
  (dDrop (dAppend (dVar 3) (dOp oAdd (dSl (dVar 4) (dNo) (dPart (dNeg (dC (.int 1))))) (dTup (dCons (dOp oAdd (dOp oAdd (dSl (dVar 5) (dNo) (dPart (dVar 1))) (dOp oMul (dTup (dCons (dC (.int 0)) (dNil))) (dVar 2))) (dSl (dVar 5) (dPart (dVar 1)) (dNo))) (dNil))))))))
  (dRet (dVar 3)))
/-! ### _law_fixed -/
abbrev s__law_fixed : Stmt := top 22
abbrev N__law_fixed : List Str := ["_law_rules", "_law_width", "_law_numbers", "_law_many", "_law_due", "_law_rule_here", "_law_row", "_law_known", "_law_k"]
def rd__law_fixed : DS := dSeq (dSet (dCB bLen (dCons (dVar 2) (dNil))) 3)
  (dSeq (dSetC (dLst (dNil)) 4)
  (dSeq (dFor (dSeqW (dVar 0)) (gd 5) (dSeq (dSet (dOp oIx (dVar 5) (dNeg (dC (.int 1)))) 6)
  (dSeq (dSet (dCB bSum (dCons (dLc (dRng1 (dCons (dVar 3) (dNil))) 8 (dYes) (dOp oMul (dOp oIx (dVar 6) (dVar 8)) (dOp oIx (dVar 2) (dVar 8)))) (dNil))) 7)
  (dSeq (dSet (dOp oAdd (dSl (dVar 6) (dPart (dVar 3)) (dPart (dVar 1))) (dTup (dCons (dOp oAdd (dOp oIx (dVar 6) (dVar 1)) (dVar 7)) (dNil)))) 6)
  (dDrop (dAppend (dVar 4) (dOp oAdd (dSl (dVar 5) (dNo) (dPart (dNeg (dC (.int 1))))) (dTup (dCons (dVar 6) (dNil))))))))))
  (dRet (dVar 4))))
/-! ### _law_agrees -/
abbrev s__law_agrees : Stmt := top 23
abbrev N__law_agrees : List Str := ["_law_system", "_law_width", "_law_rules", "_law_points_here", "_law_point", "_law_due", "_law_row", "_law_pair"]
def rd__law_agrees (C_BadPoint : Addr) (C_System : Addr) : DS := dSeq (dIfS (dOr (dTest (dOp oNe (dCB bRepr (dCons (dFld C_System "width" (dVar 0)) (dNil))) (dCB bRepr (dCons (dVar 1) (dNil))))) (dTest (dOp oNe (dCB bRepr (dCons (dFld C_System "conditions" (dVar 0)) (dNil))) (dCB bRepr (dCons (dCB bTuple (dCons (dVar 2) (dNil))) (dNil)))))) (dRet (dC (.bl false))) (dNext))
  (dSeq (dFor (dSeqW (dVar 3)) (gd 4) (dSeq (dSet (dCB fs__law_holds (dCons (dVar 2) (dCons (dVar 4) (dNil)))) 5)
  (dSeq (dSet (dCB bList (dCons (dVar 4) (dNil))) 6)
  (dSeq (dSet (dCB bTuple (dCons (dVar 4) (dNil))) 7)
  (dSeq (dIfS (dTest (dOp oNe (dCB bRepr (dCons (dLst (dCons (dMeth C_System "holds" (calm (fx_System_holds C_BadPoint C_System)) (dVar 0) (dCons (dVar 6) (dNil))) (dCons (dMeth C_System "holds" (calm (fx_System_holds C_BadPoint C_System)) (dVar 0) (dCons (dVar 7) (dNil))) (dNil)))) (dNil))) (dCB bRepr (dCons (dLst (dCons (dVar 5) (dCons (dVar 5) (dNil)))) (dNil))))) (dRet (dC (.bl false))) (dNext))
  (dSeq (dIfS (dOr (dTest (dOp oNe (dOp (oInO C_System (calm (fx_System___contains__ C_BadPoint C_System))) (dVar 6) (dVar 0)) (dVar 5))) (dTest (dOp oNe (dOp (oInO C_System (calm (fx_System___contains__ C_BadPoint C_System))) (dVar 7) (dVar 0)) (dVar 5)))) (dRet (dC (.bl false))) (dNext))
  (dIfS (dTest (dOp oNe (dVar 6) (dVar 4))) (dRet (dC (.bl false))) (dNext))))))))
  (dRet (dC (.bl true))))
/-! ### _law_listed -/
abbrev s__law_listed : Stmt := top 24
abbrev N__law_listed : List Str := ["_law_rule_here"]
def rd__law_listed : DS := dRet (dOp oAdd (dSl (dVar 0) (dNo) (dPart (dNeg (dC (.int 1))))) (dTup (dCons (dCB bList (dCons (dOp oIx (dVar 0) (dNeg (dC (.int 1)))) (dNil))) (dNil))))
/-! ### _law_bad -/
abbrev s__law_bad : Stmt := top 25
abbrev N__law_bad : List Str := ["_law_pool", "_law_width", "_law_which", "_law_low", "_law_row", "_law_k"]
def rd__law_bad : DS := dSeq (dSet (dCB fs__law_draw (dCons (dVar 0) (dCons (dC (.int 8)) (dNil)))) 2)
  (dSeq (dSet (dCB fs__law_draw (dCons (dVar 0) (dCons (dC (.int 8)) (dNil)))) 3)
  (dSeq (dSet (dCB bTuple (dCons (dLc (dRng1 (dCons (dOp oAdd (dVar 1) (dC (.int 1))) (dNil))) 5 (dYes) (dCB fs__law_number (dCons (dVar 0) (dCons (dC (.int 9)) (dCons (dVar 5) (dNil)))))) (dNil))) 4)
  (dSeq (dIfS (dTest (dOp oEq (dVar 2) (dC (.int 0)))) (dRet (dTup (dCons (dC (.str "ge")) (dCons (dOp oAdd (dVar 4) (dTup (dCons (dC (.int 1)) (dNil)))) (dNil))))) (dNext))
  (dSeq (dIfS (dTest (dOp oEq (dVar 2) (dC (.int 1)))) (dRet (dTup (dCons (dC (.str "ge")) (dCons (dSl (dVar 4) (dPart (dC (.int 1))) (dNo)) (dNil))))) (dNext))
  (dSeq (dIfS (dTest (dOp oEq (dVar 2) (dC (.int 2)))) (dRet (dTup (dCons (dC (.str "eq")) (dCons (dSl (dVar 4) (dPart (dC (.int 1))) (dNo)) (dNil))))) (dNext))
  (dSeq (dIfS (dTest (dOp oEq (dVar 2) (dC (.int 3)))) (dRet (dTup (dCons (dC (.str "eq")) (dCons (dOp oAdd (dVar 4) (dTup (dCons (dC (.int 0)) (dCons (dC (.int 0)) (dNil))))) (dNil))))) (dNext))
  (dSeq (dIfS (dTest (dOp oEq (dVar 2) (dC (.int 4)))) (dRet (dTup (dCons (dC (.str "div")) (dCons (dOp oAdd (dC (.int 2)) (dVar 3)) (dCons (dSl (dVar 4) (dPart (dC (.int 1))) (dNo)) (dNil)))))) (dNext))
  (dSeq (dIfS (dTest (dOp oEq (dVar 2) (dC (.int 5)))) (dRet (dTup (dCons (dC (.str "div")) (dCons (dOp oAdd (dC (.int 2)) (dVar 3)) (dCons (dOp oAdd (dVar 4) (dTup (dCons (dC (.int 4)) (dNil)))) (dNil)))))) (dNext))
  (dSeq (dIfS (dTest (dOp oEq (dVar 2) (dC (.int 6)))) (dRet (dTup (dCons (dC (.str "div")) (dCons (dOp oSub (dC (.int 1)) (dOp oModI (dCB bInt (dCons (dVar 3) (dNil))) (dC (.int 3)))) (dCons (dVar 4) (dNil)))))) (dNext))
  (dRet (dTup (dCons (dOp oIx (dLst (dCons (dC (.str "gt")) (dCons (dC (.str "")) (dCons (dC (.str "GE")) (dCons (dC (.str "e")) (dCons (dC (.str "divs")) (dCons (dC (.str "di")) (dCons (dC (.str "ge ")) (dCons (dC (.str "eqq")) (dNil)))))))))) (dVar 3)) (dCons (dVar 4) (dNil))))))))))))))
/-! ### _law_do -/
abbrev s__law_do : Stmt := top 26
abbrev N__law_do : List Str := ["_law_system", "_law_deed", "_law_thing"]
def rd__law_do (C_BadCount : Addr) (C_BadPoint : Addr) (C_BadSystem : Addr) (C_System : Addr) : DS := dSeq (dIfS (dTest (dOp oEq (dVar 1) (dC (.str "make")))) (dSeq (dRetZ (dMakeZ C_System (fx_System___init__ C_BadSystem C_System) (dCons (dOp oIx (dVar 2) (dC (.int 0))) (dCons (dOp oIx (dVar 2) (dC (.int 1))) (dNil)))))
  (dNext)) (dNext))
  (dSeq (dIfS (dTest (dOp oEq (dVar 1) (dC (.str "holds")))) (dSeq (dRetZ (dMethZ C_System "holds" (fx_System_holds C_BadPoint C_System) (dVar 0) (dCons (dVar 2) (dNil))))
  (dNext)) (dNext))
  (dSeq (dIfS (dTest (dOp oEq (dVar 1) (dC (.str "in")))) (dSeq (dRetZ (dInZ C_System (fx_System___contains__ C_BadPoint C_System) (dVar 2) (dVar 0)))
  (dNext)) (dNext))
  (dSeq (dIfS (dTest (dOp oEq (dVar 1) (dC (.str "and")))) (dSeq (dRetZ (dOwnZ C_System (fx_System___and__ C_BadSystem C_System) (dVar 0) (dVar 2)))
  (dNext)) (dNext))
  (dSeq (dIfS (dTest (dOp oEq (dVar 1) (dC (.str "adding")))) (dSeq (dRetZ (dMethZ C_System "adding" (fsStarX (fx_System_adding C_BadSystem C_System)) (dVar 0) (dCons (dOp oIx (dVar 2) (dC (.int 0))) (dCons (dOp oIx (dVar 2) (dC (.int 1))) (dNil)))))
  (dNext)) (dNext))
  (dSeq (dIfS (dTest (dOp oEq (dVar 1) (dC (.str "widened")))) (dSeq (dRetZ (dMethZ C_System "widened" (fx_System_widened C_BadCount C_BadSystem C_System) (dVar 0) (dCons (dVar 2) (dNil))))
  (dNext)) (dNext))
  (dSeq (dRetZ (dMethZ C_System "fixed" (fx_System_fixed C_BadPoint C_BadSystem C_System) (dVar 0) (dCons (dVar 2) (dNil))))
  (dNext)))))))
/-! ### _law_fault -/
abbrev s__law_fault : Stmt := top 27
abbrev N__law_fault : List Str := ["_law_system", "_law_deed", "_law_thing", "_law_own", "e"]
def rd__law_fault (K : PySem.W.Frag) (C_BadCount : Addr) (C_BadPoint : Addr) (C_BadSystem : Addr) (C_LoopError : Addr) (C_System : Addr) : DS := dSeq (dTry (mtK K) [(C_BadSystem, 4, fun a d C fs => dSeq (dSet (dAndV (dNotV (dIsE a d C (itK K (.ref C_BadPoint)) (dVar 4))) (dNotV (dIsE a d C (itK K (.ref C_BadCount)) (dVar 4)))) 3)
  (dRet (dTup (dCons (dC (.str "system")) (dCons (dXF a d "at" fs (dVar 4)) (dCons (dAndV (dVar 3) (dAndV (dIsE a d C (itK K (.ref C_LoopError)) (dVar 4)) (dIsE a d C (itK K (.type "ValueError")) (dVar 4)))) (dNil))))))), (C_BadPoint, 4, fun a d C fs => dSeq (dSet (dNotV (dIsE a d C (itK K (.ref C_BadCount)) (dVar 4))) 3)
  (dRet (dTup (dCons (dC (.str "point")) (dCons (dXF a d "length" fs (dVar 4)) (dCons (dAndV (dVar 3) (dAndV (dIsE a d C (itK K (.ref C_LoopError)) (dVar 4)) (dIsE a d C (itK K (.type "ValueError")) (dVar 4)))) (dNil))))))), (C_BadCount, 4, fun a d C fs => dRet (dTup (dCons (dC (.str "count")) (dCons (dXF a d "count" fs (dVar 4)) (dCons (dAndV (dIsE a d C (itK K (.ref C_LoopError)) (dVar 4)) (dIsE a d C (itK K (.type "ValueError")) (dVar 4))) (dNil))))))] (dSeq (dDropZ (dCallZ (fx__law_do C_BadCount C_BadPoint C_BadSystem C_System) (dCons (dVar 0) (dCons (dVar 1) (dCons (dVar 2) (dNil))))))
  (dNext)))
  (dSeq (dRet (dTup (dCons (dC (.str "none")) (dCons (dC (.int 0)) (dCons (dC (.bl true)) (dNil))))))
  (dNext))
/-! ### _law_refuses -/
abbrev s__law_refuses : Stmt := top 28
abbrev N__law_refuses : List Str := ["_law_system", "_law_deed", "_law_thing", "_law_word", "_law_field"]
def rd__law_refuses (C_BadCount : Addr) (C_BadPoint : Addr) (C_BadSystem : Addr) (C_LoopError : Addr) (C_System : Addr) : DS := dRet (dOp oEq (dCB bRepr (dCons (dCB (calm (fx__law_fault C_BadCount C_BadPoint C_BadSystem C_LoopError C_System)) (dCons (dVar 0) (dCons (dVar 1) (dCons (dVar 2) (dNil))))) (dNil))) (dCB bRepr (dCons (dTup (dCons (dVar 3) (dCons (dVar 4) (dCons (dC (.bl true)) (dNil))))) (dNil))))
/-! ### _law_refused_rules -/
abbrev s__law_refused_rules : Stmt := top 29
abbrev N__law_refused_rules : List Str := ["_law_pool", "_law_system", "_law_width", "_law_rules", "_law_many", "_law_low", "_law_place", "_law_bad_here", "_law_worse", "_law_good", "_law_spoilt", "_law_wide"]
def rd__law_refused_rules (C_BadCount : Addr) (C_BadPoint : Addr) (C_BadSystem : Addr) (C_LoopError : Addr) (C_System : Addr) : DS := dSeq (dSet (dCB bLen (dCons (dVar 3) (dNil))) 4)
  (dSeq (dSet (dCB fs__law_draw (dCons (dVar 0) (dCons (dC (.int 9)) (dNil)))) 5)
  (dSeq (dSet (dCB fs__law_draw (dCons (dVar 0) (dCons (dOp oAdd (dVar 4) (dC (.int 1))) (dNil)))) 6)
  (dSeq (dSet (dCB fs__law_bad (dCons (dVar 0) (dCons (dVar 2) (dNil)))) 7)
  (dSeq (dSet (dCB fs__law_bad (dCons (dVar 0) (dCons (dVar 2) (dNil)))) 8)
  (dSeq (dSet (dTup (dCons (dC (.str "div")) (dCons (dC (.int 2)) (dCons (dCB bTuple (dCons (dOp oAdd (dOp oMul (dLst (dCons (dC (.int 1)) (dNil))) (dVar 2)) (dLst (dCons (dVar 5) (dNil)))) (dNil))) (dNil))))) 9)
  (dSeq (dSet (dOp oAdd (dOp oAdd (dOp oAdd (dSl (dVar 3) (dNo) (dPart (dVar 6))) (dLst (dCons (dVar 7) (dNil)))) (dSl (dVar 3) (dPart (dVar 6)) (dNo))) (dLst (dCons (dVar 8) (dNil)))) 10)
  (dSeq (dFor (dSeqW (dLst (dCons (dOp oSub (dNeg (dC (.int 1))) (dVar 5)) (dCons (dOp oAdd (dC (.int 81)) (dVar 5)) (dNil))))) (gd 11) (dSeq (dIfS (dNot (dTest (dCB (fs__law_refuses C_BadCount C_BadPoint C_BadSystem C_LoopError C_System) (dCons (dVar 1) (dCons (dC (.str "make")) (dCons (dTup (dCons (dVar 11) (dCons (dVar 10) (dNil)))) (dCons (dC (.str "system")) (dCons (dNeg (dC (.int 1))) (dNil))))))))) (dRet (dC (.bl false))) (dNext))
  (dIfS (dNot (dTest (dCB (fs__law_refuses C_BadCount C_BadPoint C_BadSystem C_LoopError C_System) (dCons (dVar 1) (dCons (dC (.str "widened")) (dCons (dVar 11) (dCons (dC (.str "count")) (dCons (dVar 11) (dNil))))))))) (dRet (dC (.bl false))) (dNext))))
  (dSeq (dIfS (dNot (dTest (dCB (fs__law_refuses C_BadCount C_BadPoint C_BadSystem C_LoopError C_System) (dCons (dVar 1) (dCons (dC (.str "make")) (dCons (dTup (dCons (dVar 2) (dCons (dVar 10) (dNil)))) (dCons (dC (.str "system")) (dCons (dVar 6) (dNil))))))))) (dRet (dC (.bl false))) (dNext))
  (dSeq (dIfS (dNot (dTest (dCB (fs__law_refuses C_BadCount C_BadPoint C_BadSystem C_LoopError C_System) (dCons (dVar 1) (dCons (dC (.str "adding")) (dCons (dTup (dCons (dVar 7) (dCons (dVar 8) (dNil)))) (dCons (dC (.str "system")) (dCons (dVar 4) (dNil))))))))) (dRet (dC (.bl false))) (dNext))
  (dRet (dCB (fs__law_refuses C_BadCount C_BadPoint C_BadSystem C_LoopError C_System) (dCons (dVar 1) (dCons (dC (.str "adding")) (dCons (dTup (dCons (dVar 9) (dCons (dVar 8) (dNil)))) (dCons (dC (.str "system")) (dCons (dOp oAdd (dVar 4) (dC (.int 1))) (dNil)))))))))))))))))
/-! ### _law_refused_sizes -/
abbrev s__law_refused_sizes : Stmt := top 30
abbrev N__law_refused_sizes : List Str := ["_law_pool", "_law_system", "_law_width", "_law_low", "_law_length", "_law_point", "_law_deed", "_law_wide", "_law_place", "_law_there", "_law_short", "_law_rule_here", "_law_one", "_law_k"]
def rt5__law_refused_sizes (C_BadCount : Addr) (C_BadPoint : Addr) (C_BadSystem : Addr) (C_LoopError : Addr) (C_System : Addr) : DS := dRet (dOp oEq (dCB bRepr (dCons (dLst (dCons (dFld C_System "width" (dMeth C_System "widened" (calm (fx_System_widened C_BadCount C_BadSystem C_System)) (dVar 1) (dCons (dOp oSub (dC (.int 80)) (dVar 2)) (dNil)))) (dCons (dC (.int 80)) (dNil)))) (dNil))) (dC (.str "[80, 80]")))
def rt4__law_refused_sizes (C_BadCount : Addr) (C_BadPoint : Addr) (C_BadSystem : Addr) (C_LoopError : Addr) (C_System : Addr) : DS := dSeq (dFor (dSeqW (dLst (dCons (dC (.int 1)) (dCons (dOp oSub (dC (.int 80)) (dVar 3)) (dCons (dC (.int 80)) (dNil)))))) (gd 7) (dSeq (dSet (dOp oModI (dCB bInt (dCons (dOp oMul (dC (.int 9)) (dVar 3)) (dNil))) (dVar 7)) 8)
  (dSeq (dSet (dOp oAdd (dOp oAdd (dOp oMul (dLst (dCons (dC (.int 0)) (dNil))) (dVar 8)) (dLst (dCons (dVar 3) (dNil)))) (dOp oMul (dLst (dCons (dC (.int 0)) (dNil))) (dOp oSub (dOp oSub (dVar 7) (dC (.int 1))) (dVar 8)))) 9)
  (dSeq (dSet (dOp oAdd (dOp oAdd (dOp oMul (dLst (dCons (dC (.int 0)) (dNil))) (dVar 8)) (dLst (dCons (dOp oSub (dVar 3) (dC (.int 1))) (dNil)))) (dOp oMul (dLst (dCons (dC (.int 0)) (dNil))) (dOp oSub (dOp oSub (dVar 7) (dC (.int 1))) (dVar 8)))) 10)
  (dSeq (dSet (dTup (dCons (dC (.str "ge")) (dCons (dCB bTuple (dCons (dOp oAdd (dLc (dRng1 (dCons (dVar 7) (dNil))) 13 (dYes) (dCB bInt (dCons (dOp oEq (dVar 13) (dVar 8)) (dNil)))) (dLst (dCons (dNeg (dVar 3)) (dNil)))) (dNil))) (dNil)))) 11)
  (dSeq (dSet (dMake C_System (calm (fx_System___init__ C_BadSystem C_System)) (dCons (dVar 7) (dCons (dLst (dCons (dVar 11) (dNil))) (dNil)))) 12)
  (dSeq (dIfS (dNot (dTest (dCB (fs__law_agrees C_BadPoint C_System) (dCons (dVar 12) (dCons (dVar 7) (dCons (dLst (dCons (dVar 11) (dNil))) (dCons (dLst (dCons (dVar 9) (dCons (dVar 10) (dNil)))) (dNil)))))))) (dRet (dC (.bl false))) (dNext))
  (dIfS (dNot (dTest (dCB (fs__law_agrees C_BadPoint C_System) (dCons (dMake C_System (calm (fx_System___init__ C_BadSystem C_System)) (dCons (dVar 7) (dCons (dTup (dNil)) (dNil)))) (dCons (dVar 7) (dCons (dLst (dNil)) (dCons (dLst (dCons (dVar 9) (dNil))) (dNil)))))))) (dRet (dC (.bl false))) (dNext)))))))))
  (rt5__law_refused_sizes C_BadCount C_BadPoint C_BadSystem C_LoopError C_System)
def rt3__law_refused_sizes (C_BadCount : Addr) (C_BadPoint : Addr) (C_BadSystem : Addr) (C_LoopError : Addr) (C_System : Addr) : DS := dSeq (dFor (dSeqW (dLst (dCons (dOp oAdd (dOp oAdd (dVar 2) (dC (.int 1))) (dOp oModI (dCB bInt (dCons (dVar 3) (dNil))) (dC (.int 3)))) (dCons (dOp oSub (dOp oSub (dVar 2) (dC (.int 1))) (dOp oModI (dCB bInt (dCons (dVar 3) (dNil))) (dC (.int 2)))) (dNil))))) (gd 4) (dSeq (dSet (dLc (dRng1 (dCons (dCB bMax2 (dCons (dC (.int 0)) (dCons (dVar 4) (dNil)))) (dNil))) 13 (dYes) (dOp oSub (dVar 3) (dVar 13))) 5)
  (dFor (dSeqW (dLst (dCons (dC (.str "holds")) (dCons (dC (.str "in")) (dCons (dC (.str "fixed")) (dNil)))))) (gd 6) (dIfS (dOr (dTest (dOp oGt (dVar 4) (dVar 2))) (dAnd (dTest (dOp oGe (dVar 4) (dC (.int 0)))) (dTest (dOp oNe (dVar 6) (dC (.str "fixed")))))) (dIfS (dNot (dTest (dCB (fs__law_refuses C_BadCount C_BadPoint C_BadSystem C_LoopError C_System) (dCons (dVar 1) (dCons (dVar 6) (dCons (dVar 5) (dCons (dC (.str "point")) (dCons (dVar 4) (dNil))))))))) (dRet (dC (.bl false))) (dNext)) (dNext)))))
  (rt4__law_refused_sizes C_BadCount C_BadPoint C_BadSystem C_LoopError C_System)
def rd__law_refused_sizes (C_BadCount : Addr) (C_BadPoint : Addr) (C_BadSystem : Addr) (C_LoopError : Addr) (C_System : Addr) : DS := dSeq (dSet (dCB fs__law_draw (dCons (dVar 0) (dCons (dC (.int 9)) (dNil)))) 3)
  (dSeq (dIfS (dNot (dTest (dCB (fs__law_refuses C_BadCount C_BadPoint C_BadSystem C_LoopError C_System) (dCons (dVar 1) (dCons (dC (.str "and")) (dCons (dMake C_System (calm (fx_System___init__ C_BadSystem C_System)) (dCons (dOp oAdd (dVar 2) (dC (.int 1))) (dCons (dLst (dNil)) (dNil)))) (dCons (dC (.str "system")) (dCons (dNeg (dC (.int 1))) (dNil))))))))) (dRet (dC (.bl false))) (dNext))
  (dSeq (dIfS (dTest (dOp oGt (dVar 2) (dC (.int 0)))) (dSeq (dIfS (dNot (dTest (dCB (fs__law_refuses C_BadCount C_BadPoint C_BadSystem C_LoopError C_System) (dCons (dVar 1) (dCons (dC (.str "and")) (dCons (dMake C_System (calm (fx_System___init__ C_BadSystem C_System)) (dCons (dOp oSub (dVar 2) (dC (.int 1))) (dCons (dLst (dNil)) (dNil)))) (dCons (dC (.str "system")) (dCons (dNeg (dC (.int 1))) (dNil))))))))) (dRet (dC (.bl false))) (dNext))
  (dIfS (dNot (dTest (dCB (fs__law_refuses C_BadCount C_BadPoint C_BadSystem C_LoopError C_System) (dCons (dVar 1) (dCons (dC (.str "widened")) (dCons (dOp oSub (dC (.int 80)) (dOp oModI (dCB bInt (dCons (dVar 3) (dNil))) (dVar 2))) (dCons (dC (.str "system")) (dCons (dNeg (dC (.int 1))) (dNil))))))))) (dRet (dC (.bl false))) (dNext))) (dNext))
  (rt3__law_refused_sizes C_BadCount C_BadPoint C_BadSystem C_LoopError C_System)))
/-! ### _law_joined -/
abbrev s__law_joined : Stmt := top 31
abbrev N__law_joined : List Str := ["_law_pool", "_law_system", "_law_width", "_law_rules", "_law_point", "_law_points_here", "_law_many", "_law_others", "_law_other", "_law_first", "_law_second", "_law_added", "_law_j"]
def rd__law_joined (C_BadPoint : Addr) (C_BadSystem : Addr) (C_System : Addr) : DS := dSeq (dSet (dOp oModI (dCB bInt (dCons (dOp oAdd (dCB fs__law_draw (dCons (dVar 0) (dCons (dC (.int 3)) (dNil)))) (dC (.int 1))) (dNil))) (dC (.int 3))) 6)
  (dSeq (dSet (dLc (dRng1 (dCons (dVar 6) (dNil))) 12 (dYes) (dCB fs__law_rule (dCons (dVar 0) (dCons (dVar 4) (dCons (dOp oAdd (dVar 12) (dC (.int 1))) (dCons (dC (.int 2)) (dNil))))))) 7)
  (dSeq (dSet (dMake C_System (calm (fx_System___init__ C_BadSystem C_System)) (dCons (dVar 2) (dCons (dCB bTuple (dCons (dVar 7) (dNil))) (dNil)))) 8)
  (dSeq (dSet (dCB fs__law_rule (dCons (dVar 0) (dCons (dVar 4) (dCons (dC (.int 2)) (dCons (dC (.int 0)) (dNil)))))) 9)
  (dSeq (dSet (dCB fs__law_rule (dCons (dVar 0) (dCons (dVar 4) (dCons (dC (.int 0)) (dCons (dC (.int 1)) (dNil)))))) 10)
  (dSeq (dIfS (dNot (dTest (dCB (fs__law_agrees C_BadPoint C_System) (dCons (dOp (oOwn C_System (calm (fx_System___and__ C_BadSystem C_System))) (dVar 1) (dVar 8)) (dCons (dVar 2) (dCons (dOp oAdd (dVar 3) (dVar 7)) (dCons (dVar 5) (dNil)))))))) (dRet (dC (.bl false))) (dNext))
  (dSeq (dIfS (dNot (dTest (dCB (fs__law_agrees C_BadPoint C_System) (dCons (dOp (oOwn C_System (calm (fx_System___and__ C_BadSystem C_System))) (dVar 8) (dVar 1)) (dCons (dVar 2) (dCons (dOp oAdd (dVar 7) (dVar 3)) (dCons (dVar 5) (dNil)))))))) (dRet (dC (.bl false))) (dNext))
  (dSeq (dSet (dMeth C_System "adding" (fsStar (calm (fx_System_adding C_BadSystem C_System))) (dVar 1) (dCons (dCB fs__law_listed (dCons (dVar 9) (dNil))) (dCons (dVar 10) (dNil)))) 11)
  (dSeq (dIfS (dNot (dTest (dCB (fs__law_agrees C_BadPoint C_System) (dCons (dVar 11) (dCons (dVar 2) (dCons (dOp oAdd (dVar 3) (dLst (dCons (dVar 9) (dCons (dVar 10) (dNil))))) (dCons (dVar 5) (dNil)))))))) (dRet (dC (.bl false))) (dNext))
  (dSeq (dIfS (dNot (dTest (dCB (fs__law_agrees C_BadPoint C_System) (dCons (dMeth C_System "adding" (fsStar (calm (fx_System_adding C_BadSystem C_System))) (dVar 1) dNil) (dCons (dVar 2) (dCons (dVar 3) (dCons (dVar 5) (dNil)))))))) (dRet (dC (.bl false))) (dNext))
  (dRet (dCB (fs__law_agrees C_BadPoint C_System) (dCons (dVar 8) (dCons (dVar 2) (dCons (dVar 7) (dCons (dVar 5) (dNil))))))))))))))))
/-! ### _law_resized -/
abbrev s__law_resized : Stmt := top 32
abbrev N__law_resized : List Str := ["_law_pool", "_law_system", "_law_width", "_law_rules", "_law_points_here", "_law_count", "_law_size", "_law_tail", "_law_longer", "_law_due", "_law_numbers", "_law_less", "_law_shorter", "_law_k", "_law_one"]
def rt7__law_resized (C_BadCount : Addr) (C_BadPoint : Addr) (C_BadSystem : Addr) (C_System : Addr) : DS := dSeq (dSet (dMeth C_System "fixed" (calm (fx_System_fixed C_BadPoint C_BadSystem C_System)) (dVar 1) (dCons (dVar 10) (dNil))) 11)
  (dSeq (dIfS (dTest (dOp oNe (dVar 10) (dSl (dOp oIx (dVar 4) (dC (.int 2))) (dNo) (dPart (dVar 6))))) (dRet (dC (.bl false))) (dNext))
  (dSeq (dSet (dCB fs__law_fixed (dCons (dVar 3) (dCons (dVar 2) (dCons (dVar 10) (dNil))))) 9)
  (dSeq (dSet (dLc (dSeqW (dVar 4)) 14 (dYes) (dSl (dVar 14) (dPart (dVar 6)) (dNo))) 12)
  (dRet (dCB (fs__law_agrees C_BadPoint C_System) (dCons (dVar 11) (dCons (dOp oSub (dVar 2) (dVar 6)) (dCons (dVar 9) (dCons (dVar 12) (dNil))))))))))
def rd__law_resized (C_BadCount : Addr) (C_BadPoint : Addr) (C_BadSystem : Addr) (C_System : Addr) : DS := dSeq (dSet (dOp oIx (dLst (dCons (dC (.int 1)) (dCons (dC (.int 0)) (dCons (dC (.int 2)) (dCons (dOp oSub (dC (.int 80)) (dVar 2)) (dNil)))))) (dCB fs__law_draw (dCons (dVar 0) (dCons (dC (.int 4)) (dNil))))) 5)
  (dSeq (dSet (dCB fs__law_draw (dCons (dVar 0) (dCons (dOp oAdd (dVar 2) (dC (.int 1))) (dNil)))) 6)
  (dSeq (dSet (dLc (dRng1 (dCons (dVar 5) (dNil))) 13 (dYes) (dOp oSub (dOp oMul (dC (.int 5)) (dVar 13)) (dC (.int 7)))) 7)
  (dSeq (dSet (dLc (dSeqW (dVar 4)) 14 (dYes) (dOp oAdd (dVar 14) (dVar 7))) 8)
  (dSeq (dSet (dCB fs__law_widened (dCons (dVar 3) (dCons (dVar 2) (dCons (dVar 5) (dNil))))) 9)
  (dSeq (dIfS (dNot (dTest (dCB (fs__law_agrees C_BadPoint C_System) (dCons (dMeth C_System "widened" (calm (fx_System_widened C_BadCount C_BadSystem C_System)) (dVar 1) (dCons (dVar 5) (dNil))) (dCons (dOp oAdd (dVar 2) (dVar 5)) (dCons (dVar 9) (dCons (dVar 8) (dNil)))))))) (dRet (dC (.bl false))) (dNext))
  (dSeq (dSet (dSl (dOp oIx (dVar 4) (dC (.int 2))) (dNo) (dPart (dVar 6))) 10)
  (rt7__law_resized C_BadCount C_BadPoint C_BadSystem C_System)))))))
/-! ### law -/
abbrev s_law : Stmt := top 33
abbrev N_law : List Str := ["_law_script", "_law_pool", "_law_edge", "_law_width", "_law_point", "_law_rules", "_law_points_here", "_law_rows", "_law_handed", "_law_kept", "_law_system", "_law_j", "_law_row", "_law_long", "_law_rule_here"]
def rt11_law (C_BadCount : Addr) (C_BadPoint : Addr) (C_BadSystem : Addr) (C_LoopError : Addr) (C_System : Addr) : DS := dSeq (dIfS (dNot (dTest (dCB (fs__law_agrees C_BadPoint C_System) (dCons (dVar 10) (dCons (dVar 3) (dCons (dVar 5) (dCons (dVar 6) (dNil)))))))) (dRet (dC (.bl false))) (dNext))
  (dSeq (dSet (dOp oMul (dVar 5) (dOp oIx (dLst (dCons (dC (.int 1)) (dCons (dC (.int 7)) (dCons (dC (.int 30)) (dCons (dC (.int 80)) (dNil)))))) (dVar 2))) 13)
  (dSeq (dIfS (dNot (dTest (dCB (fs__law_agrees C_BadPoint C_System) (dCons (dMake C_System (calm (fx_System___init__ C_BadSystem C_System)) (dCons (dVar 3) (dCons (dVar 13) (dNil)))) (dCons (dVar 3) (dCons (dVar 13) (dCons (dVar 6) (dNil)))))))) (dRet (dC (.bl false))) (dNext))
  (dSeq (dIfS (dNot (dTest (dCB (fs__law_joined C_BadPoint C_BadSystem C_System) (dCons (dVar 1) (dCons (dVar 10) (dCons (dVar 3) (dCons (dVar 5) (dCons (dVar 4) (dCons (dVar 6) (dNil)))))))))) (dRet (dC (.bl false))) (dNext))
  (dSeq (dIfS (dNot (dTest (dCB (fs__law_resized C_BadCount C_BadPoint C_BadSystem C_System) (dCons (dVar 1) (dCons (dVar 10) (dCons (dVar 3) (dCons (dVar 5) (dCons (dVar 6) (dNil))))))))) (dRet (dC (.bl false))) (dNext))
  (dSeq (dIfS (dNot (dTest (dCB (fs__law_refused_rules C_BadCount C_BadPoint C_BadSystem C_LoopError C_System) (dCons (dVar 1) (dCons (dVar 10) (dCons (dVar 3) (dCons (dVar 5) (dNil)))))))) (dRet (dC (.bl false))) (dNext))
  (dSeq (dIfS (dNot (dTest (dCB (fs__law_refused_sizes C_BadCount C_BadPoint C_BadSystem C_LoopError C_System) (dCons (dVar 1) (dCons (dVar 10) (dCons (dVar 3) (dNil))))))) (dRet (dC (.bl false))) (dNext))
  (dRet (dCB (fs__law_agrees C_BadPoint C_System) (dCons (dVar 10) (dCons (dVar 3) (dCons (dVar 5) (dCons (dVar 6) (dNil)))))))))))))
def rt7_law (C_BadCount : Addr) (C_BadPoint : Addr) (C_BadSystem : Addr) (C_LoopError : Addr) (C_System : Addr) : DS := dSeq (dSet (dMake C_System (calm (fx_System___init__ C_BadSystem C_System)) (dCons (dVar 3) (dCons (dVar 8) (dNil)))) 10)
  (dSeq (dIfS (dTest (dOp oNe (dCB bRepr (dCons (dVar 8) (dNil))) (dVar 9))) (dRet (dC (.bl false))) (dNext))
  (dSeq (dFor (dRng1 (dCons (dCB bLen (dCons (dVar 7) (dNil))) (dNil))) (gd 11) (dSeq (dSet (dOp oIx (dVar 7) (dVar 11)) 12)
  (dSetI (dOp oAdd (dOp oIx (dVar 12) (dVar 3)) (dC (.int 1))) (dVar 12) (dVar 3))))
  (dSeq (dDrop (dAppend (dVar 8) (dTup (dCons (dC (.str "eq")) (dCons (dCB bTuple (dCons (dOp oAdd (dOp oMul (dLst (dCons (dC (.int 0)) (dNil))) (dVar 3)) (dLst (dCons (dC (.int 1)) (dNil)))) (dNil))) (dNil))))))
  (rt11_law C_BadCount C_BadPoint C_BadSystem C_LoopError C_System))))
def rt4_law (C_BadCount : Addr) (C_BadPoint : Addr) (C_BadSystem : Addr) (C_LoopError : Addr) (C_System : Addr) : DS := dSeq (dSet (dLc (dSeqW (dVar 5)) 14 (dYes) (dCel (dCB bList (dCons (dOp oIx (dVar 14) (dNeg (dC (.int 1)))) (dNil))))) 7)
  (dSeq (dSetC (dLc (dRng1 (dCons (dCB bLen (dCons (dVar 7) (dNil))) (dNil))) 11 (dYes) (dOp oAdd (dSl (dOp oIx (dVar 5) (dVar 11)) (dNo) (dPart (dNeg (dC (.int 1))))) (dTup (dCons (dOp oIx (dVar 7) (dVar 11)) (dNil))))) 8)
  (dSeq (dSet (dCB bRepr (dCons (dVar 8) (dNil))) 9)
  (rt7_law C_BadCount C_BadPoint C_BadSystem C_LoopError C_System)))
def rd_law (C_BadCount : Addr) (C_BadPoint : Addr) (C_BadSystem : Addr) (C_LoopError : Addr) (C_System : Addr) : DS := dSeq (dSet (dSl (dVar 0) (dNo) (dPart (dC (.int 63)))) 0)
  (dSeq (dSetC (dRev (dVar 0)) 1)
  (dSeq (dAsg (dCB fs__law_world (dCons (dVar 1) (dNil))) (gdTup 4 (gdCons (gd 2) (gdCons (gd 3) (gdCons (gd 4) (gdCons (gd 5) (gdNil)))))))
  (dSeq (dSet (dCB fs__law_points (dCons (dVar 1) (dCons (dVar 2) (dCons (dVar 4) (dNil))))) 6)
  (rt4_law C_BadCount C_BadPoint C_BadSystem C_LoopError C_System))))
end Lw
set_option Elab.async false
set_option linter.all false
set_option maxRecDepth 100000
set_option maxHeartbeats 4000000
namespace Lw
open PySem PySem.Spec PyProof.Rows L2 Dl
theorem l1 : 1 ≤ sizeLine := by decide
theorem l2 : 2 ≤ sizeLine := by decide
theorem l3 : 3 ≤ sizeLine := by decide
theorem l4 : 4 ≤ sizeLine := by decide
theorem lz {n : Nat} (h : n ≤ 100000) : n ≤ sizeLine := Nat.le_trans h (by decide)
theorem ifF {c : Bool} {A B : Prop} (h : c = false) (b : B) : if c = true then A else B := by
  subst h
  rw [if_neg Bool.false_ne_true]
  exact b
theorem ifT {c : Bool} {A B : Prop} (h : c = true) (a : A) : if c = true then A else B := by
  subst h
  rw [if_pos rfl]
  exact a
theorem ifC {c d : Bool} {A B : Prop} (h : c = d) (a : d = true → A) (b : d = false → B) : if c = true then A else B := by
  subst h
  cases c with
  | true => exact ifT rfl (a rfl)
  | false => exact ifF rfl (b rfl)
theorem iL_len (ns : List Int) : (iL ns).length = ns.length := List.length_map ..
theorem iL_app (a b : List Int) : iL (a ++ b) = iL a ++ iL b := List.map_append ..
theorem iL_get {ns : List Int} {i : Nat} (h : i < ns.length) : (iL ns)[i]? = some (.int ns[i]) := by
  rw [List.getElem?_map, List.getElem?_eq_getElem h] <;> rfl
theorem at_iL {ns : List Int} {i : Nat} (h : i < ns.length) : atI (iL ns) (i : Int) = some (.int ns[i]) := Dl.atI_nat (iL_get h)
theorem at_iL_last {a : List Int} {c : Int} : atI (iL (a ++ [c])) (-1) = some (.int c) := by
  rw [iL_app]
  exact atI_last
theorem cmul_l {b i j : Int} (h : -b ≤ i ∧ i ≤ b) (hb : b ≤ 1000000000000000000) : CMulG i j := Or.inl (Or.inl (by omega))
theorem cmul_r {b i j : Int} (h : -b ≤ j ∧ j ≤ b) (hb : b ≤ 1000000000000000000) : CMulG i j := Or.inl (Or.inr (by omega))
theorem Sm.get {b : Int} {l : List Int} (h : Sm b l) {i : Nat} (hi : i < l.length) : -b ≤ l[i] ∧ l[i] ≤ b := h _ (List.getElem_mem hi)
theorem dot_step {a p : List Int} {i : Nat} (h1 : i < a.length) (h2 : i < p.length) : dot (a.take (i + 1)) (p.take (i + 1)) = dot (a.take i) (p.take i) + a[i] * p[i] := by
  induction i generalizing a p with
  | zero =>
    cases a with
    | nil => exact absurd h1 (Nat.lt_irrefl _)
    | cons x a =>
      cases p with
      | nil => exact absurd h2 (Nat.lt_irrefl _)
      | cons y p =>
        show x * y + dot [] [] = 0 + x * y
        show x * y + 0 = 0 + x * y
        omega
  | succ i ih =>
    cases a with
    | nil => exact absurd h1 (Nat.not_lt_zero _)
    | cons x a =>
      cases p with
      | nil => exact absurd h2 (Nat.not_lt_zero _)
      | cons y p =>
        have k1 := Nat.lt_of_succ_lt_succ h1
        have k2 := Nat.lt_of_succ_lt_succ h2
        show x * y + dot (a.take (i + 1)) (p.take (i + 1)) = x * y + dot (a.take i) (p.take i) + a[i] * p[i]
        rw [ih (Nat.lt_of_succ_lt_succ h1) (Nat.lt_of_succ_lt_succ h2)]
        omega
theorem getElem_app {a : List Int} {c : Int} {i : Nat} (h : i < a.length) (h2 : i < (a ++ [c]).length) : (a ++ [c])[i] = a[i] := List.getElem_append_left h
theorem ok_row_value (ds : List Dat) (M : Mem) (Q : Rv → Mem → Prop) (h : fs_row_value ds M Q) : rd_row_value (enD M Q) (startD N_row_value ds) M := by
  obtain ⟨a, c, pt, d, e, rfl, g1, g2, hl, hb, hs, q⟩ := h
  refine ⟨-1, _, .int c, rfl, g1, at_iL_last, ?_⟩
  refine ⟨e, _, rfl, g2, ?_, ?_, ?_⟩
  · rw [iL_len]; omega
  · rw [iL_len]; omega
  rw [iL_len, Int.toNat_natCast]
  refine for_rng (fun i env m => m = M ∧ ∃ z, env = [some d, some e, some (.int (c + dot (a.take i) (pt.take i))), z]) ⟨rfl, none, ?_⟩ (fun i env m hi hj => ?_) fun env m hj => ?_
  · show [_, _, _, _] = _
    rw [List.take_zero, List.take_zero]
    show [some d, some e, some (.int c), none] = [some d, some e, some (.int (c + 0)), none]
    rw [Int.add_zero]
  · obtain ⟨rfl, z, rfl⟩ := hj
    rw [Int.zero_add]
    have hia : i < (a ++ [c]).length := by rw [List.length_append]; omega
    refine ⟨i, _, _, rfl, g1, at_iL hia, i, _, _, rfl, g2, at_iL hi, ?_⟩
    rw [getElem_app (by omega) hia]
    refine ⟨cmul_l (hs.get (by omega)) (by decide), rfl, some (.int i), ?_⟩
    rw [dot_step (by omega) hi, ← Int.add_assoc]
    rfl
  · obtain ⟨rfl, z, rfl⟩ := hj
    show Q _ (m.restr m)
    rw [Mem.restr_self, List.take_of_length_le (Nat.le_refl _), List.take_of_length_le (by omega)]
    exact q
theorem rep_flat (n : Nat) (x : Dat) : (List.replicate n [x]).flatten = List.replicate n x := by
  induction n with
  | zero => rfl
  | succ n ih =>
    rw [List.replicate_succ, List.flatten_cons, ih, List.replicate_succ] <;> rfl
theorem iL_rep (n : Nat) (c : Int) : iL (List.replicate n c) = List.replicate n (Dat.int c) := List.map_replicate ..
theorem ok_extended (ds : List Dat) (M : Mem) (Q : Rv → Mem → Prop) (h : fs_extended ds M Q) : rd_extended (enD M Q) (startD N_extended ds) M := by
  obtain ⟨a, c, n, rfl, ha, hn, q⟩ := h
  have e1 : cut (iL (a ++ [c])) none (some (-1)) = iL a := by rw [iL_app]; exact cut_butlast
  refine ⟨_, _, rfl, rfl, ?_⟩
  refine ⟨l1, by omega, by omega, show 1 ≤ 1000 by decide, ?_, ?_⟩
  · rw [e1, iL_len, Int.toNat_natCast, rep_flat, List.length_replicate]
    exact Nat.le_trans (Nat.add_le_add ha hn) (by decide)
  refine ⟨-1, _, .int c, rfl, rfl, at_iL_last, l1, ?_, ?_⟩
  · rw [e1, Int.toNat_natCast, rep_flat, List.length_append, iL_len, List.length_replicate]
    exact Nat.le_trans (Nat.add_le_add (Nat.add_le_add ha hn) (Nat.le_refl 1)) (by decide)
  · show Q _ (M.restr M)
    rw [e1, Mem.restr_self, Int.toNat_natCast, rep_flat]
    have e3 := iL_rep n 0
    show Q (.d (.tup (iL a ++ List.replicate n (Dat.int 0) ++ iL [c]))) M
    rw [← e3]
    show Q (.d (.tup (iL a ++ iL (List.replicate n 0) ++ iL [c]))) M
    rw [← iL_app, ← iL_app]
    exact q
theorem in_kind_false (s : Str) (h : s = "ge" ∨ s = "eq" ∨ s = "div") : (true != inV (.str s) [.str "ge", .str "eq", .str "div"]) = false := by
  rcases h with h | h | h <;> subst h <;> decide +kernel
/-- a condition's kind and row -/
def Kd.nm : Kd → Str
  | .ge => "ge"
  | .eq => "eq"
  | .div _ => "div"
theorem enc_its (x : Cd) : x.enc = .tup x.its := rfl
theorem its_0 (x : Cd) : atI x.its 0 = some (.str x.k.nm) := by
  obtain ⟨k, a, c⟩ := x
  cases k <;> rfl
theorem its_l (x : Cd) : atI x.its (-1) = some (encR (x.a ++ [x.c])) := by
  obtain ⟨k, a, c⟩ := x
  cases k <;> rfl
theorem nm_in (k : Kd) : (true != inV (.str k.nm) [.str "ge", .str "eq", .str "div"]) = false := by
  refine in_kind_false _ ?_
  cases k
  · exact Or.inl rfl
  · exact Or.inr (Or.inl rfl)
  · exact Or.inr (Or.inr rfl)
theorem nm_div (k : Kd) : (true != decide (k.nm = "div")) = !k.isDiv := by
  cases k with
  | ge => exact (by decide +kernel : (true != decide (("ge" : Str) = "div")) = true)
  | eq => exact (by decide +kernel : (true != decide (("eq" : Str) = "div")) = true)
  | div m => exact (by decide +kernel : (true != decide (("div" : Str) = "div")) = false)
theorem nm_div2 (k : Kd) : (false != decide (k.nm = "div")) = k.isDiv := by
  cases k with
  | ge => exact (by decide +kernel : (false != decide (("ge" : Str) = "div")) = false)
  | eq => exact (by decide +kernel : (false != decide (("eq" : Str) = "div")) = false)
  | div m => exact (by decide +kernel : (false != decide (("div" : Str) = "div")) = true)
theorem nm_ge (k : Kd) : (false != decide (k.nm = "ge")) = k.isGe := by
  cases k with
  | ge => exact (by decide +kernel : (false != decide (("ge" : Str) = "ge")) = true)
  | eq => exact (by decide +kernel : (false != decide (("eq" : Str) = "ge")) = false)
  | div m => exact (by decide +kernel : (false != decide (("div" : Str) = "ge")) = false)
theorem nm_ge2 (k : Kd) : (true != decide (k.nm = "ge")) = !k.isGe := by
  cases k with
  | ge => exact (by decide +kernel : (true != decide (("ge" : Str) = "ge")) = false)
  | eq => exact (by decide +kernel : (true != decide (("eq" : Str) = "ge")) = true)
  | div m => exact (by decide +kernel : (true != decide (("div" : Str) = "ge")) = true)
theorem nm_eq (k : Kd) : (false != decide (k.nm = "eq")) = (match k with | .eq => true | _ => false) := by
  cases k with
  | ge => exact (by decide +kernel : (false != decide (("ge" : Str) = "eq")) = false)
  | eq => exact (by decide +kernel : (false != decide (("eq" : Str) = "eq")) = true)
  | div m => exact (by decide +kernel : (false != decide (("div" : Str) = "eq")) = false)
theorem seq_enc {M : Mem} (x : Cd) : SeqR M (.d x.enc) x.its := by
  exact rfl
theorem div_of {k : Kd} (h : (!k.isDiv) = false) : ∃ m, k = .div m := by
  cases k with
  | ge => cases h
  | eq => cases h
  | div m => exact ⟨m, rfl⟩
theorem enc_nd {x : Cd} (h : (!x.k.isDiv) = true) : x.enc = .tup [.str x.k.nm, encR (x.a ++ [x.c])] := by
  obtain ⟨k, a, c⟩ := x
  cases k with
  | ge => rfl
  | eq => rfl
  | div m => cases h
theorem enc_d {x : Cd} {m : Int} (h : x.k = .div m) : x.enc = .tup [.str "div", .int m, encR (x.a ++ [x.c])] := by
  obtain ⟨k, a, c⟩ := x
  cases h
  rfl
theorem its_1 {x : Cd} {m : Int} (h : x.k = .div m) : atI x.its 1 = some (.int m) := by
  obtain ⟨k, a, c⟩ := x
  cases h
  rfl
theorem ok__is_met (ds : List Dat) (M : Mem) (Q : Rv → Mem → Prop) (h : fs__is_met ds M Q) : rd__is_met (enD M Q) (startD N__is_met ds) M := by
  obtain ⟨x, pt, e, rfl, g, hl, hp, hs, hk, q⟩ := h
  refine ⟨-1, _, _, rfl, seq_enc x, its_l x, x.a, x.c, pt, _, e, rfl, rfl, g, hl, hp, hs, ?_⟩
  refine ⟨0, _, _, rfl, seq_enc x, its_0 x, ifC (nm_ge x.k) (fun hd => ?_) (fun hd => ?_)⟩
  · show Q _ (M.restr M)
    rw [Mem.restr_self]
    have e1 : x.met pt = decide (0 ≤ x.c + dot x.a pt) := by
      unfold Cd.met
      cases hx : x.k with
      | ge => rfl
      | eq => rw [hx] at hd; cases hd
      | div m => rw [hx] at hd; cases hd
    rw [e1] at q
    exact q
  · refine ⟨0, _, _, rfl, seq_enc x, its_0 x, ifC (nm_eq x.k) (fun hd2 => ?_) (fun hd2 => ?_)⟩
    · show Q (.d (.bl (false != decide _))) (M.restr M)
      rw [Mem.restr_self, Bool.false_bne]
      have e1 : x.met pt = decide (x.c + dot x.a pt = 0) := by
        unfold Cd.met
        cases hx : x.k with
        | ge => rw [hx] at hd2; cases hd2
        | eq => rfl
        | div m => rw [hx] at hd2; cases hd2
      rw [e1] at q
      exact q
    · obtain ⟨m, hm⟩ : ∃ m, x.k = .div m := by
        cases hx : x.k with
        | ge => rw [hx] at hd; cases hd
        | eq => rw [hx] at hd2; cases hd2
        | div m => exact ⟨m, rfl⟩
      have hk' : 2 ≤ m ∧ m ≤ 60 := by
        rw [hm] at hk
        exact hk
      refine ⟨1, _, _, rfl, seq_enc x, its_1 hm, by omega, ?_⟩
      show Q (.d (.bl (false != decide _))) (M.restr M)
      rw [Mem.restr_self, Bool.false_bne]
      have e1 : x.met pt = decide ((x.c + dot x.a pt) % m = 0) := by
        unfold Cd.met
        rw [hm] <;> rfl
      rw [e1] at q
      exact q
end Lw
set_option Elab.async false
set_option linter.all false
set_option maxRecDepth 100000
set_option maxHeartbeats 4000000
namespace Lw
open PySem PySem.Spec PyProof.Rows L2 Dl
theorem its_0k (k : Kd) (d : Dat) : atI (k.its d) 0 = some (.str k.nm) := by cases k <;> rfl
theorem its_lk (k : Kd) (d : Dat) : atI (k.its d) (-1) = some d := by cases k <;> rfl
theorem in_kind_true (s : Str) (h : s ≠ "ge" ∧ s ≠ "eq" ∧ s ≠ "div") : (true != inV (.str s) [.str "ge", .str "eq", .str "div"]) = true := by
  have e : inV (.str s) [.str "ge", .str "eq", .str "div"] = false := by
    unfold inV
    simp [eqV, Ne.symm h.1, Ne.symm h.2.1, Ne.symm h.2.2]
  rw [e]
  rfl
theorem ok__copied (ds : List Dat) (M : Mem) (Q : Rv → Mem → Prop) (h : fs__copied ds M Q) : rd__copied (enD M Q) (startD N__copied ds) M := by
  obtain ⟨x, w, rfl, hf, q⟩ := h
  cases x with
  | good x d =>
    obtain ⟨hs, hw, _, _, _, hk⟩ := hf
    refine ⟨0, _, _, rfl, rfl, its_0k x.k d, l3, _, _, _, _, rfl, rfl, rfl, rfl, ifF (nm_in _) ?_⟩
    refine ⟨-1, _, _, rfl, rfl, its_lk x.k d, _, _, rfl, hs, ?_⟩
    refine ⟨_, _, rfl, rfl, ifF ?_ ?_⟩
    · show (true != decide (((iL (x.a ++ [x.c])).length : Int) = (w : Int) + 1)) = false
      rw [iL_len, List.length_append, hw, Bool.true_bne, decide_eq_true (show ((w + [x.c].length : Nat) : Int) = (w : Int) + 1 from rfl)] <;> rfl
    refine ⟨0, _, _, rfl, rfl, its_0k x.k d, ifC (nm_div x.k) (fun hd => ?_) (fun hd => ?_)⟩
    · refine ⟨0, _, _, rfl, rfl, its_0k x.k d, l2, ?_⟩
      show Q _ (M.restr M)
      rw [Mem.restr_self]
      have e : Rc.out (.good x d) = .tup [.str x.k.nm, encR (x.a ++ [x.c])] := enc_nd hd
      rw [e] at q
      exact q
    · obtain ⟨m, hm⟩ := div_of hd
      have hk' : 2 ≤ m ∧ m ≤ 60 := by
        rw [hm] at hk
        exact hk
      have i1 : atI (x.k.its d) 1 = some (.int m) := by rw [hm]; rfl
      refine ⟨1, _, _, rfl, rfl, i1, ifF (decide_eq_false (by omega)) ?_⟩
      refine ⟨1, _, _, rfl, rfl, i1, l3, ?_⟩
      show Q _ (M.restr M)
      rw [Mem.restr_self]
      have e : Rc.out (.good x d) = .tup [.str "div", .int m, encR (x.a ++ [x.c])] := enc_d hm
      rw [e] at q
      exact q
  | word kw d =>
    refine ⟨0, _, _, rfl, rfl, rfl, l3, _, _, _, _, rfl, rfl, rfl, rfl, ifT (in_kind_true kw hf) ?_⟩
    show Q _ (M.restr M)
    rw [Mem.restr_self]
    exact q
  | len k row d =>
    obtain ⟨hs, hw, _⟩ := hf
    refine ⟨0, _, _, rfl, rfl, its_0k k d, l3, _, _, _, _, rfl, rfl, rfl, rfl, ifF (nm_in _) ?_⟩
    refine ⟨-1, _, _, rfl, rfl, its_lk k d, _, _, rfl, hs, ?_⟩
    refine ⟨_, _, rfl, rfl, ifT ?_ ?_⟩
    · show (true != decide (((iL row).length : Int) = (w : Int) + 1)) = true
      rw [iL_len, Bool.true_bne, decide_eq_false (by omega)] <;> rfl
    show Q _ (M.restr M)
    rw [Mem.restr_self]
    exact q
  | mod m row d =>
    obtain ⟨hs, hw, _, hm⟩ := hf
    refine ⟨0, _, _, rfl, rfl, rfl, l3, _, _, _, _, rfl, rfl, rfl, rfl, ?_⟩
    refine ⟨-1, _, _, rfl, rfl, rfl, _, _, rfl, hs, ?_⟩
    refine ⟨_, _, rfl, rfl, ifF ?_ ?_⟩
    · show (true != decide (((iL row).length : Int) = (w : Int) + 1)) = false
      rw [iL_len, Bool.true_bne, decide_eq_true (by omega)] <;> rfl
    refine ⟨0, _, _, rfl, rfl, rfl, ?_⟩
    refine ⟨1, _, _, rfl, rfl, rfl, ifT (decide_eq_true (by omega)) ?_⟩
    show Q _ (M.restr M)
    rw [Mem.restr_self]
    exact q
/-! ### errors -/
theorem strI_len {i : Int} (h1 : -1000000 ≤ i) (h2 : i ≤ 1000000) : i.natAbs.log2 < 1920 := by
  have h : i.natAbs < 2 ^ 20 := by omega
  have := (Nat.log2_lt (n := i.natAbs) (k := 20))
  by_cases z : i.natAbs = 0
  · rw [z]; decide
  · exact Nat.lt_of_lt_of_le ((Nat.log2_lt z).mpr h) (by decide)
end Lw
set_option Elab.async false
set_option linter.all false
set_option maxRecDepth 100000
set_option maxHeartbeats 4000000
namespace Lw
open PySem PySem.Spec PyProof.Rows L2 Dl
theorem textI_len {i : Int} (h1 : -1000000 ≤ i) (h2 : i ≤ 1000000) : (Str.ofString (toString i)).length ≤ 42 := by
  have h3 : i.natAbs < 10 ^ 41 := by
    have e2 : (10 : Nat) ^ 41 = 100000000000000000000000000000000000000000 := by decide
    rw [e2]
    omega
  have h4 := int_text_length_le10 (k := 41) (by decide) h3
  rw [PySem.ofString_length]
  exact h4
theorem ok_BadSystem___init__ (ds : List Dat) (M : Mem) (Q : List (Str × Dat) → Mem → Prop) (h : fsi_BadSystem ds M Q) : rdm_BadSystem___init__ (startI N_BadSystem___init__ 0 0 ds) M fun ms M1 => ms.length ≤ 1000 ∧ rdi_BadSystem___init__ (startI N_BadSystem___init__ 0 0 ds) M1 [] Q := by
  obtain ⟨i, rfl, h1, h2, q⟩ := h
  have e := textI_len h1 h2
  refine ⟨i, rfl, strI_len h1 h2, ?_⟩
  refine ⟨?_, by show 1 ≤ 1000; decide, ?_⟩
  · exact lz (Nat.le_trans (Nat.add_le_add (show (Str.ofString "bad system: ").length ≤ 100 by decide +kernel) e) (by decide))
  · exact ⟨by show 0 ≤ 900; decide, by simp, q⟩
theorem ok_BadPoint___init__ (ds : List Dat) (M : Mem) (Q : List (Str × Dat) → Mem → Prop) (h : fsi_BadPoint ds M Q) : rdm_BadPoint___init__ (startI N_BadPoint___init__ 0 0 ds) M fun ms M1 => ms.length ≤ 1000 ∧ rdi_BadPoint___init__ (startI N_BadPoint___init__ 0 0 ds) M1 [] Q := by
  obtain ⟨i, rfl, h1, h2, q⟩ := h
  have e := textI_len h1 h2
  refine ⟨i, rfl, strI_len h1 h2, ?_⟩
  refine ⟨?_, by show 1 ≤ 1000; decide, ?_⟩
  · exact lz (Nat.le_trans (Nat.add_le_add (show (Str.ofString "bad number of integers: ").length ≤ 100 by decide +kernel) e) (by decide))
  · exact ⟨by show 0 ≤ 900; decide, by simp, q⟩
theorem ok_BadCount___init__ (ds : List Dat) (M : Mem) (Q : List (Str × Dat) → Mem → Prop) (h : fsi_BadCount ds M Q) : rdm_BadCount___init__ (startI N_BadCount___init__ 0 0 ds) M fun ms M1 => ms.length ≤ 1000 ∧ rdi_BadCount___init__ (startI N_BadCount___init__ 0 0 ds) M1 [] Q := by
  obtain ⟨i, rfl, h1, h2, q⟩ := h
  have e := textI_len h1 h2
  refine ⟨i, rfl, strI_len h1 h2, ?_⟩
  refine ⟨?_, by show 1 ≤ 1000; decide, ?_⟩
  · exact lz (Nat.le_trans (Nat.add_le_add (show (Str.ofString "bad count: ").length ≤ 100 by decide +kernel) e) (by decide))
  · exact ⟨by show 0 ≤ 900; decide, by simp, q⟩
/-! ### System.__init__ -/
theorem stay_seq {M M' : Mem} {d : Dat} {ys : List Dat} (h : SeqR M (.d d) ys) (k : ∀ q m, M q = some m → M' q = some m) : stayR ys d M' := by
  cases d with
  | cell p => exact k _ _ h
  | _ => trivial
theorem seq_keep {M M' : Mem} {r : Rv} {ys : List Dat} (h : SeqR M r ys) (k : ∀ q m, M q = some m → M' q = some m) : SeqR M' r ys := by
  unfold SeqR at h ⊢
  split at h <;> first | exact h | exact k _ _ h
theorem set_keep {M : Mem} {p : Addr} {m : MV} (h : M p = none) : ∀ q n, M q = some n → M.set p m q = some n := fun q n e => by
  rw [Mem.set_ne (fun z => by subst z; rw [h] at e; cases e)]
  exact e
theorem fit_keep {M M' : Mem} {w : Nat} {x : Rc} (h : x.fit M w) (k : ∀ q m, M q = some m → M' q = some m) : x.fit M' w := by
  cases x with
  | good x d => exact ⟨seq_keep h.1 k, h.2⟩
  | word kw d => exact h
  | len k' row d => exact ⟨seq_keep h.1 k, h.2⟩
  | mod m row d => exact ⟨seq_keep h.1 k, h.2⟩
theorem isNo_enc (c : Cd) : (false != isNo (.d c.enc)) = false := rfl
theorem ok_System___init__ (cS C : Addr) (ds : List Dat) (M : Mem) (Q : Rv → Mem → Prop) (W : XF) (h : fx_System___init__ cS C ds M Q W) : rd_System___init__ cS C (enX M Q W) (startD N_System___init__ ds) M := by
  obtain ⟨p, w, d, xs, rfl, hp, hs, hl, hh⟩ := h
  rcases hh with ⟨n, rfl, hn, hf, hq⟩ | ⟨hw, hq⟩
  · refine ifF (c := !decide ((n : Int) ≤ 80)) (by rw [decide_eq_true (by omega)] <;> rfl) ?_
    refine ⟨Nat.zero_le _, _, rfl, fun k hk => ?_⟩
    have kp : k ≠ p := fun z => by
      subst z
      rw [hp] at hk
      cases hk
    refine ⟨_, seq_keep hs (set_keep hk), ?_⟩
    refine for_rest (enc := Rc.dat) xs (fun r env m => ∃ (cs : List Cd) (z1 z2 : Option Dat), m = M.set k (.lst (cs.map Cd.enc)) ∧ env = [some (.cell p), some (.int n), some d, some (.cell k), z1, z2] ∧ cs.length + r.length = xs.length ∧ (∀ x ∈ r, x ∈ xs) ∧
      (match firstBad r with
        | none => Q (.d .non) (M.set p (.obj C [("width", .int n), ("conditions", .tup ((cs ++ cdsOf r).map Cd.enc))]))
        | some i => throwS cS W ((cs.length + i : Nat) : Int) M)) ?_ ?_ ?_ ?_
    · refine ⟨[], none, none, rfl, rfl, by simp, fun _ h => h, ?_⟩
      cases hb : firstBad xs with
      | none =>
        rw [hb] at hq
        exact hq
      | some i =>
        rw [hb] at hq
        show throwS cS W ((0 + i : Nat) : Int) M
        rw [Nat.zero_add]
        exact hq
    · rintro r env m ⟨cs, z1, z2, rfl, rfl, _⟩
      exact stay_seq hs (set_keep hk)
    · rintro x r env m ⟨cs, z1, z2, rfl, rfl, h1, h2, h3⟩
      have fx := hf x (h2 x List.mem_cons_self)
      refine ⟨x, n, rfl, fit_keep fx (set_keep hk), ?_⟩
      rw [List.length_cons] at h1
      cases hx : x.cd with
      | none =>
        have e1 : firstBad (x :: r) = some 0 := by
          unfold firstBad
          rw [hx]
        rw [e1] at h3
        have e2 : x.out = .non := by
          unfold Rc.out
          rw [hx]
        rw [e2]
        refine ⟨rfl, ?_⟩
        refine ⟨.cell k, cs.map Cd.enc, rfl, Mem.set_same, by show 1 ≤ 1000; decide, ((cs.map Cd.enc).length : Int), rfl, by omega, by rw [List.length_map]; omega, fun d' => ?_⟩
        show W d' cS _ (M.restr (M.set k _))
        rw [Mem.restr_set_out hk, Mem.restr_self, List.length_map]
        exact h3 d'
      | some c =>
        have e2 : x.out = c.enc := by
          unfold Rc.out
          rw [hx]
        rw [e2]
        refine ⟨rfl, ?_⟩
        refine ⟨k, cs.map Cd.enc, rfl, Mem.set_same, cs.map Cd.enc, Mem.set_same, ?_, ?_⟩
        · rw [List.length_map]
          exact Nat.lt_of_lt_of_le (show cs.length < 1001 by omega) (by decide)
        · refine ⟨cs ++ [c], _, _, ?_, rfl, by rw [List.length_append, List.length_singleton]; omega, fun y hy => h2 y (List.mem_cons_of_mem _ hy), ?_⟩
          · rw [Mem.set_set, List.map_append]
            rfl
          · have e1 : firstBad (x :: r) = (firstBad r).map (· + 1) := by
              show (match x.cd with
                | none => some 0
                | some _ => (firstBad r).map (· + 1)) = _
              rw [hx]
            rw [e1] at h3
            cases hb : firstBad r with
            | none =>
              rw [hb] at h3
              have e3 : cdsOf (x :: r) = c :: cdsOf r := by
                unfold cdsOf
                rw [List.filterMap_cons, hx]
              have h3' : Q (.d .non) (M.set p (.obj C [("width", .int n), ("conditions", .tup ((cs ++ cdsOf (x :: r)).map Cd.enc))])) := h3
              rw [e3] at h3'
              rw [List.append_assoc]
              exact h3'
            | some i =>
              rw [hb] at h3
              have h3' : throwS cS W ((cs.length + (i + 1) : Nat) : Int) M := h3
              show throwS cS W (((cs ++ [c]).length + i : Nat) : Int) M
              rw [List.length_append, List.length_singleton, Nat.add_assoc, Nat.add_comm 1 i]
              exact h3'
    · rintro env m ⟨cs, z1, z2, rfl, rfl, h1, h2, h3⟩
      refine ⟨p, [], rfl, (Mem.set_ne kp.symm).trans hp, by decide, ?_⟩
      refine ⟨_, _, rfl, (Mem.set_ne kp).trans Mem.set_same, p, [("width", .int n)], rfl, Mem.set_same, show 1 < 1000 by decide, ?_⟩
      show Q _ (M.restr _)
      rw [Mem.set_set, Mem.restr_set_in hp, Mem.restr_set_out hk, Mem.restr_self]
      have h3' : Q (.d .non) (M.set p (.obj C [("width", .int n), ("conditions", .tup ((cs ++ []).map Cd.enc))])) := h3
      rw [List.append_nil] at h3'
      exact h3'
  · have done : ∀ d', W d' cS [("at", .int (-1))] (M.restr M) := fun d' => by
      rw [Mem.restr_self]
      exact hq d'
    rcases hw with hw | hw
    · exact ifF (c := decide ((0 : Int) ≤ w)) (decide_eq_false (by omega)) ⟨by show 1 ≤ 1000; decide, -1, rfl, by decide, by decide, done⟩
    · exact ifT (c := decide ((0 : Int) ≤ w)) (decide_eq_true (by omega)) (ifT (c := !decide (w ≤ 80)) (by rw [decide_eq_false (by omega)] <;> rfl) ⟨by show 1 ≤ 1000; decide, -1, rfl, by decide, by decide, done⟩)
end Lw
set_option Elab.async false
set_option linter.all false
set_option maxRecDepth 100000
set_option maxHeartbeats 4000000
namespace Lw
open PySem PySem.Spec PyProof.Rows L2 Dl
theorem ok_System_holds (cP C : Addr) (ds : List Dat) (M : Mem) (Q : Rv → Mem → Prop) (W : XF) (h : fx_System_holds cP C ds M Q W) : rd_System_holds cP C (enX M Q W) (startD N_System_holds ds) M := by
  obtain ⟨w, cs, pt, e, rfl, hs, hp, hw, hg, q⟩ := h
  refine ⟨e, _, rfl, hs, rfl, _, rfl, ?_⟩
  by_cases hl : pt.length = w
  · rw [if_pos hl] at q
    refine ifF (c := true != decide (((iL pt).length : Int) = (w : Int))) (by rw [iL_len, hl, decide_eq_true rfl] <;> rfl) ?_
    refine ⟨rfl, _, rfl, _, rfl, ?_⟩
    refine for_rest (enc := Cd.enc) cs (fun r env m => m = M ∧ (∃ z, env = [some (sysD C w cs), some e, z]) ∧ (cs.all fun x => x.met pt) = (r.all fun x => x.met pt) ∧ ∀ x ∈ r, x ∈ cs) ?_ ?_ ?_ ?_
    · exact ⟨rfl, ⟨_, rfl⟩, rfl, fun _ h => h⟩
    · rintro r env m _
      trivial
    · rintro x r env m ⟨rfl, ⟨z, rfl⟩, h1, h2⟩
      have gx := hg x (h2 x List.mem_cons_self)
      refine ⟨x, pt, e, rfl, hs, by rw [gx.1, hl], by omega, gx.2.1, gx.2.2.2.2, ?_⟩
      rw [List.all_cons] at h1
      refine ifC (c := !(x.met pt)) rfl (fun k => ?_) fun k => ?_
      · have k' : x.met pt = false := by simpa using k
        rw [k', Bool.false_and] at h1
        show Q _ (m.restr m)
        rw [Mem.restr_self]
        rw [h1] at q
        exact q
      · have k' : x.met pt = true := by simpa using k
        rw [k', Bool.true_and] at h1
        exact ⟨rfl, ⟨_, rfl⟩, h1, fun y hy => h2 y (List.mem_cons_of_mem _ hy)⟩
    · rintro env m ⟨rfl, ⟨z, rfl⟩, h1, h2⟩
      show Q (.d (.bl true)) (m.restr m)
      rw [Mem.restr_self]
      rw [h1] at q
      exact q
  · rw [if_neg hl] at q
    refine ifT (c := true != decide (((iL pt).length : Int) = (w : Int))) (by rw [iL_len, decide_eq_false (by omega)] <;> rfl) ?_
    refine ⟨e, _, rfl, hs, by show 1 ≤ 1000; decide, ((iL pt).length : Int), rfl, by omega, by rw [iL_len]; omega, fun d' => ?_⟩
    show W d' cP _ (M.restr M)
    rw [Mem.restr_self, iL_len]
    exact q d'
theorem ok_System___contains__ (cP C : Addr) (ds : List Dat) (M : Mem) (Q : Rv → Mem → Prop) (W : XF) (h : fx_System___contains__ cP C ds M Q W) : rd_System___contains__ cP C (enX M Q W) (startD N_System___contains__ ds) M := by
  obtain ⟨w, cs, pt, e, rfl, hs, hp, hw, hg, q⟩ := h
  refine ⟨_, _, rfl, ⟨rfl, rfl⟩, rfl, w, cs, pt, e, rfl, hs, hp, hw, hg, ?_⟩
  by_cases hl : pt.length = w
  · rw [if_pos hl] at q ⊢
    show Q _ (M.restr M)
    rw [Mem.restr_self]
    exact q
  · rw [if_neg hl] at q ⊢
    intro d'
    show W d' cP _ (M.restr M)
    rw [Mem.restr_self]
    exact q d'
/-! ### System(..) within the program -/
def goodR (cs : List Cd) : List Rc := cs.map fun c => .good c (encR c.row)
theorem goodR_dat (cs : List Cd) : (goodR cs).map Rc.dat = cs.map Cd.enc := by
  unfold goodR
  rw [List.map_map]
  refine List.map_congr_left fun c _ => ?_
  obtain ⟨k, a, c⟩ := c
  cases k <;> rfl
theorem goodR_fit {M : Mem} {w : Nat} {cs : List Cd} (h : Good w cs) : ∀ x ∈ goodR cs, x.fit M w := fun x hx => by
  obtain ⟨c, hc, rfl⟩ := List.mem_map.mp hx
  exact ⟨rfl, h c hc⟩
theorem firstBad_app : ∀ (cs : List Cd) (f : Cd → Dat) (xs : List Rc), firstBad ((cs.map fun c => Rc.good c (f c)) ++ xs) = (firstBad xs).map (cs.length + ·)
  | [], f, xs => by
    cases h : firstBad xs with
    | none => exact h
    | some i =>
      show firstBad xs = some (0 + i)
      rw [h, Nat.zero_add]
  | c :: r, f, xs => by
    show (firstBad ((r.map fun c => Rc.good c (f c)) ++ xs)).map (· + 1) = _
    rw [firstBad_app r f xs]
    cases firstBad xs with
    | none => rfl
    | some i =>
      show some (r.length + i + 1) = some (r.length + 1 + i)
      rw [Nat.add_right_comm]
theorem cdsOf_app (cs : List Cd) (f : Cd → Dat) (xs : List Rc) : cdsOf ((cs.map fun c => Rc.good c (f c)) ++ xs) = cs ++ cdsOf xs := by
  unfold cdsOf
  rw [List.filterMap_append, List.filterMap_map]
  have e : (Rc.cd ∘ fun c => Rc.good c (f c)) = some := rfl
  rw [e, List.filterMap_some]
theorem goodR_first (cs : List Cd) : firstBad (goodR cs) = none := by
  have := firstBad_app cs (fun c => encR c.row) []
  rw [List.append_nil] at this
  exact this
theorem goodR_cds (cs : List Cd) : cdsOf (goodR cs) = cs := by
  have := cdsOf_app cs (fun c => encR c.row) []
  rw [List.append_nil] at this
  rw [goodR, this]
  exact List.append_nil cs
theorem good_app {w : Nat} {a b : List Cd} (h : Good w a) (g : Good w b) : Good w (a ++ b) := fun x hx => by
  rcases List.mem_append.mp hx with z | z
  · exact h x z
  · exact g x z
/-- the call System(w, xs): what it makes -/
theorem mk_rc {cS C : Addr} {w : Int} {d : Dat} {xs : List Rc} {M : Mem} {Q : Rv → Mem → Prop} {W : XF} (hs : SeqR M (.d d) (xs.map Rc.dat)) (hl : xs.length ≤ 1000) (h : sysIn cS w xs M (fun cs => Q (.d (.ins C [("width", .int w), ("conditions", .tup (cs.map Cd.enc))])) M) W) :
    ∀ x, M x = none → fx_System___init__ cS C (.cell x :: [.int w, d]) (M.set x (.obj C [])) (fun r M2 => r = .d .non ∧ ∃ m, M2 x = some m ∧ Q (.d (frz m)) (M2.del x)) fun d C fl M2 => W d C fl (M2.del x) := fun x hx => by
  have dl : (M.set x (.obj C [])).del x = M := Mem.del_set hx
  refine ⟨x, w, d, xs, rfl, Mem.set_same, seq_keep hs (set_keep hx), hl, ?_⟩
  rcases h with ⟨n, rfl, hn, hf, hq⟩ | ⟨hw, hq⟩
  · refine Or.inl ⟨n, rfl, hn, fun y hy => fit_keep (hf y hy) (set_keep hx), ?_⟩
    cases hb : firstBad xs with
    | none =>
      rw [hb] at hq
      refine ⟨rfl, _, Mem.set_same, ?_⟩
      rw [Mem.set_set, Mem.del_set hx]
      exact hq
    | some i =>
      rw [hb] at hq
      intro d'
      show W d' cS _ ((M.set x (.obj C [])).del x)
      rw [dl]
      exact hq d'
  · refine Or.inr ⟨hw, fun d' => ?_⟩
    show W d' cS _ ((M.set x (.obj C [])).del x)
    rw [dl]
    exact hq d'
theorem mk_sys {cS C : Addr} {w : Nat} {d : Dat} {cs : List Cd} {M : Mem} {Q : Rv → Mem → Prop} {W : XF} (hs : SeqR M (.d d) (cs.map Cd.enc)) (hw : w ≤ 80) (hl : cs.length ≤ 1000) (hg : Good w cs) (q : Q (.d (sysD C w cs)) M) :
    ∀ x, M x = none → fx_System___init__ cS C (.cell x :: [.int w, d]) (M.set x (.obj C [])) (fun r M2 => r = .d .non ∧ ∃ m, M2 x = some m ∧ Q (.d (frz m)) (M2.del x)) fun d C fl M2 => W d C fl (M2.del x) := by
  refine mk_rc (xs := goodR cs) (by rw [goodR_dat]; exact hs) (by rw [goodR, List.length_map]; exact hl) (Or.inl ⟨w, rfl, hw, goodR_fit hg, ?_⟩)
  rw [goodR_first, goodR_cds]
  exact q
theorem ok_System___and__ (cS C : Addr) (ds : List Dat) (M : Mem) (Q : Rv → Mem → Prop) (W : XF) (h : fx_System___and__ cS C ds M Q W) : rd_System___and__ cS C (enX M Q W) (startD N_System___and__ ds) M := by
  obtain ⟨w, v, cs, es, rfl, hw, h1, h2, g1, g2, q⟩ := h
  refine ⟨rfl, _, rfl, rfl, _, rfl, ?_⟩
  by_cases hv : v = w
  · subst hv
    rw [if_pos rfl] at q
    refine ifF (c := true != decide ((v : Int) = (v : Int))) (by rw [decide_eq_true rfl] <;> rfl) ?_
    refine ⟨rfl, _, rfl, rfl, _, rfl, rfl, _, rfl, ?_, ?_⟩
    · rw [List.length_map, List.length_map]
      exact lz (by omega)
    · have e1 : cs.map Cd.enc ++ es.map Cd.enc = (cs ++ es).map Cd.enc := List.map_append.symm
      refine mk_sys (cs := cs ++ es) e1.symm hw (by rw [List.length_append]; omega) (good_app g1 g2) ?_
      show Q _ (M.restr M)
      rw [Mem.restr_self]
      exact q
  · rw [if_neg hv] at q
    refine ifT (c := true != decide ((v : Int) = (w : Int))) (by rw [decide_eq_false (by omega)] <;> rfl) ?_
    refine ⟨by show 1 ≤ 1000; decide, -1, rfl, by decide, by decide, fun d' => ?_⟩
    show W d' cS _ (M.restr M)
    rw [Mem.restr_self]
    exact q d'
theorem ok_System_adding (cS C : Addr) (ds : List Dat) (M : Mem) (Q : Rv → Mem → Prop) (W : XF) (h : fx_System_adding cS C ds M Q W) : rd_System_adding cS C (enX M Q W) (startD N_System_adding ds) M := by
  obtain ⟨w, cs, xs, rfl, hw, h1, h2, g1, g2, q⟩ := h
  refine ⟨rfl, _, rfl, rfl, _, rfl, ?_, ?_⟩
  · rw [List.length_map, List.length_map]
    exact lz (by omega)
  · have e1 : cs.map Cd.enc ++ xs.map Rc.dat = (goodR cs ++ xs).map Rc.dat := by rw [List.map_append, goodR_dat]
    refine mk_rc (xs := goodR cs ++ xs) e1.symm (by rw [List.length_append, goodR, List.length_map]; omega) (Or.inl ⟨w, rfl, hw, fun x hx => ?_, ?_⟩)
    · rcases List.mem_append.mp hx with z | z
      · exact goodR_fit g1 x z
      · exact g2 x z
    · have e2 : firstBad (goodR cs ++ xs) = (firstBad xs).map (cs.length + ·) := firstBad_app cs _ xs
      have e3 : cdsOf (goodR cs ++ xs) = cs ++ cdsOf xs := cdsOf_app cs _ xs
      rw [e2]
      cases hb : firstBad xs with
      | none =>
        rw [hb] at q
        show Q (.d (.ins C [("width", .int w), ("conditions", .tup ((cdsOf (goodR cs ++ xs)).map Cd.enc))])) (M.restr M)
        rw [Mem.restr_self, e3]
        exact q
      | some i =>
        rw [hb] at q
        intro d'
        show W d' cS _ (M.restr M)
        rw [Mem.restr_self]
        exact q d'
end Lw
set_option Elab.async false
set_option linter.all false
set_option maxRecDepth 100000
set_option maxHeartbeats 4000000
namespace Lw
open PySem PySem.Spec PyProof.Rows L2 Dl
theorem its_put (k : Kd) (a a' : List Int) (c c' : Int) : cut (Cd.its ⟨k, a, c⟩) none (some (-1)) ++ [encR (a' ++ [c'])] = Cd.its ⟨k, a', c'⟩ := by
  cases k <;> rfl
theorem its_cut_len (x : Cd) : (cut x.its none (some (-1))).length ≤ 2 := by
  obtain ⟨k, a, c⟩ := x
  cases k
  · exact (by decide : 1 ≤ 2)
  · exact (by decide : 1 ≤ 2)
  · exact Nat.le_refl 2
theorem good_wide {w n : Nat} {cs : List Cd} (h : Good w cs) : Good (w + n) (cs.map (Cd.wide n)) := fun x hx => by
  obtain ⟨y, hy, rfl⟩ := List.mem_map.mp hx
  obtain ⟨h1, h2, h3, h4, h5⟩ := h y hy
  refine ⟨?_, fun z hz => ?_, h3, h4, h5⟩
  · show (y.a ++ List.replicate n 0).length = _
    rw [List.length_append, List.length_replicate, h1]
  · rcases List.mem_append.mp hz with k | k
    · exact h2 z k
    · have := List.eq_of_mem_replicate k
      omega
theorem ok_System_widened (cC cS C : Addr) (ds : List Dat) (M : Mem) (Q : Rv → Mem → Prop) (W : XF) (h : fx_System_widened cC cS C ds M Q W) : rd_System_widened cC cS C (enX M Q W) (startD N_System_widened ds) M := by
  obtain ⟨w, n, cs, rfl, hw, b1, b2, hl, hg, q⟩ := h
  by_cases hn : n < 0 ∨ 80 < n
  · rw [if_pos hn] at q
    have done : ∀ d', W d' cC [("count", .int n)] (M.restr M) := fun d' => by
      rw [Mem.restr_self]
      exact q d'
    rcases hn with hn | hn
    · exact ifF (c := decide ((0 : Int) ≤ n)) (decide_eq_false (by omega)) ⟨by show 1 ≤ 1000; decide, n, rfl, by omega, by omega, done⟩
    · exact ifT (c := decide ((0 : Int) ≤ n)) (decide_eq_true (by omega)) (ifT (c := !decide (n ≤ 80)) (by rw [decide_eq_false (by omega)] <;> rfl) ⟨by show 1 ≤ 1000; decide, n, rfl, by omega, by omega, done⟩)
  · rw [if_neg hn] at q
    obtain ⟨m, rfl⟩ : ∃ m : Nat, n = (m : Int) := ⟨n.toNat, by omega⟩
    refine ifF (c := !decide ((m : Int) ≤ 80)) (by rw [decide_eq_true (by omega)] <;> rfl) ?_
    by_cases hs : 80 < (w : Int) + (m : Int)
    · rw [if_pos hs] at q
      refine ⟨rfl, _, rfl, ifT (c := decide ((80 : Int) < (w : Int) + (m : Int))) (decide_eq_true (by omega)) ?_⟩
      refine ⟨by show 1 ≤ 1000; decide, -1, rfl, by decide, by decide, fun d' => ?_⟩
      show W d' cS _ (M.restr M)
      rw [Mem.restr_self]
      exact q d'
    · rw [if_neg hs] at q
      have q' : Q (.d (sysD C (w + m) (cs.map (Cd.wide m)))) M := q
      refine ⟨rfl, _, rfl, ifF (c := decide ((80 : Int) < (w : Int) + (m : Int))) (decide_eq_false (by omega)) ?_⟩
      refine ⟨rfl, _, rfl, _, rfl, ?_⟩
      refine lc_map (enc := Cd.enc) cs (fun x => (Cd.wide m x).enc) (lz (by omega)) ?_ (fun x hx P hP => ?_) ?_
      · trivial
      · have gx := hg x hx
        refine ⟨-1, _, _, rfl, seq_enc x, its_l x, x.a, x.c, m, rfl, by have := gx.1; omega, by omega, l1, ?_⟩
        refine ⟨?_, hP _ ?_⟩
        · exact Nat.le_trans (Nat.add_le_add_right (its_cut_len x) 1) (by decide)
        · exact congrArg Dat.tup (its_put x.k x.a (x.a ++ List.replicate m 0) x.c x.c)
      · refine ⟨rfl, _, rfl, ?_⟩
        refine mk_sys (w := w + m) (cs := cs.map (Cd.wide m)) ?_ (by omega) (by rw [List.length_map]; omega) (good_wide hg) ?_
        · show List.map Cd.enc _ = List.map _ cs
          rw [List.map_map] <;> rfl
        · show Q _ (M.restr M)
          rw [Mem.restr_self]
          exact q'
theorem take_app_drop {a : List Int} {n : Nat} (h : n ≤ a.length) : (a.take n).length = n := by
  rw [List.length_take]; omega
theorem mk_sysI {cS C : Addr} {w : Nat} {wi : Int} {d : Dat} {cs : List Cd} {M : Mem} {Q : Rv → Mem → Prop} {W : XF} (e : wi = (w : Int)) (hs : SeqR M (.d d) (cs.map Cd.enc)) (hw : w ≤ 80) (hl : cs.length ≤ 1000) (hg : Good w cs) (q : Q (.d (sysD C w cs)) M) :
    ∀ x, M x = none → fx_System___init__ cS C (.cell x :: [.int wi, d]) (M.set x (.obj C [])) (fun r M2 => r = .d .non ∧ ∃ m, M2 x = some m ∧ Q (.d (frz m)) (M2.del x)) fun d C fl M2 => W d C fl (M2.del x) := by
  subst e
  exact mk_sys hs hw hl hg q
theorem ok_System_fixed (cP cS C : Addr) (ds : List Dat) (M : Mem) (Q : Rv → Mem → Prop) (W : XF) (h : fx_System_fixed cP cS C ds M Q W) : rd_System_fixed cP cS C (enX M Q W) (startD N_System_fixed ds) M := by
  obtain ⟨w, ns, e, cs, rfl, hse, hnl, hw, hl, hg, q⟩ := h
  by_cases hn : w < ns.length
  · rw [if_pos hn] at q
    refine ⟨_, _, rfl, hse, ?_⟩
    refine ⟨rfl, _, rfl, ifT (c := decide ((w : Int) < ((iL ns).length : Int))) (decide_eq_true (by rw [iL_len]; omega)) ?_⟩
    refine ⟨by show 1 ≤ 1000; decide, ((iL ns).length : Int), rfl, by omega, by rw [iL_len]; omega, fun d' => ?_⟩
    show W d' cP _ (M.restr M)
    rw [Mem.restr_self, iL_len]
    exact q d'
  rw [if_neg hn] at q
  obtain ⟨hg2, q⟩ := q
  have hn : ns.length ≤ w := by omega
  refine ⟨_, _, rfl, hse, ?_⟩
  refine ⟨rfl, _, rfl, ifF (c := decide ((w : Int) < ((iL ns).length : Int))) (decide_eq_false (by rw [iL_len]; omega)) ?_⟩
  refine ⟨Nat.zero_le _, _, rfl, fun k hk => ?_⟩
  refine ⟨rfl, _, rfl, _, rfl, ?_⟩
  refine for_rest (enc := Cd.enc) cs (fun r env m => ∃ acc z1 z2 z3, m = M.set k (.lst acc) ∧ env = [some (sysD C w cs), some e, some (.int (iL ns).length), some (.cell k), z1, z2, z3] ∧ acc ++ (r.map (Cd.fix ns)).map Cd.enc = (cs.map (Cd.fix ns)).map Cd.enc ∧ ∀ x ∈ r, x ∈ cs) ?_ ?_ ?_ ?_
  · exact ⟨[], none, none, none, rfl, rfl, rfl, fun _ h => h⟩
  · rintro r env m _
    trivial
  · rintro x r env m ⟨acc, z1, z2, z3, rfl, rfl, h1, h2⟩
    have gx := hg x (h2 x List.mem_cons_self)
    have e1 : cut (iL (x.a ++ [x.c])) none (some ((iL ns).length : Int)) = iL (x.a.take ns.length) := by
      rw [cut_to, iL_len, ← List.map_take, List.take_append_of_le_length (by have := gx.1; omega)]
    have e2 : cut (iL (x.a ++ [x.c])) (some (-1)) none = iL [x.c] := by
      rw [iL_app]
      exact cut_last
    have e3 : cut (iL (x.a ++ [x.c])) (some ((iL ns).length : Int)) (some (-1)) = iL (x.a.drop ns.length) := by
      have e4 : iL (x.a ++ [x.c]) = iL (x.a.take ns.length) ++ iL (x.a.drop ns.length) ++ [Dat.int x.c] := by
        rw [← iL_app, List.take_append_drop, iL_app] <;> rfl
      rw [e4]
      exact cut_mid (by rw [iL_len, iL_len, take_app_drop (by have := gx.1; omega)])
    have hlen := congrArg List.length h1
    rw [List.length_append, List.length_map, List.length_map, List.length_map, List.length_map, List.length_cons] at hlen
    refine ⟨-1, _, _, rfl, seq_enc x, its_l x, ?_, ?_⟩
    · rw [e1, e2, iL_len, iL_len, take_app_drop (by have := gx.1; omega)]
      exact lz (by show ns.length + 1 ≤ _; omega)
    refine ⟨x.a.take ns.length, x.c, ns, _, _, rfl, ?_, seq_keep hse (set_keep hk), take_app_drop (by have := gx.1; omega), by omega, fun z hz => gx.2.1 z (List.mem_of_mem_take hz), ?_⟩
    · rw [e1, e2, ← iL_app] <;> rfl
    refine ⟨k, acc, rfl, Mem.set_same, l1, ?_, l1, ?_, acc, Mem.set_same, ?_, ?_⟩
    · rw [e3, iL_len]
      exact lz (by have := gx.1; rw [List.length_drop]; show _ + 1 ≤ _; omega)
    · exact Nat.le_trans (Nat.add_le_add_right (its_cut_len x) 1) (by decide)
    · exact Nat.lt_of_lt_of_le (show acc.length < 1001 by omega) (by decide)
    · refine ⟨acc ++ [(Cd.fix ns x).enc], _, _, _, ?_, rfl, ?_, fun y hy => h2 y (List.mem_cons_of_mem _ hy)⟩
      · rw [Mem.set_set, e3]
        have e5 := congrArg Dat.tup (its_put x.k x.a (x.a.drop ns.length) x.c (x.c + dot (x.a.take ns.length) ns))
        rw [show encR (x.a.drop ns.length ++ [x.c + dot (x.a.take ns.length) ns]) = Dat.tup (iL (x.a.drop ns.length) ++ [Dat.int (x.c + dot (x.a.take ns.length) ns)]) from by
          show Dat.tup (iL (_ ++ [_])) = _
          rw [iL_app] <;> rfl] at e5
        exact congrArg (fun d => M.set k (.lst (acc ++ [d]))) e5
      · rw [List.append_assoc]
        exact h1
  · rintro env m ⟨acc, z1, z2, z3, rfl, rfl, h1, h2⟩
    rw [List.map_nil, List.map_nil, List.append_nil] at h1
    subst h1
    refine ⟨rfl, _, rfl, ?_⟩
    refine mk_sysI (w := w - ns.length) (wi := (w : Int) - ((iL ns).length : Int)) (by rw [iL_len]; omega) (cs := cs.map (Cd.fix ns)) Mem.set_same (by omega) (by rw [List.length_map]; omega) hg2 ?_
    show Q _ (M.restr _)
    rw [Mem.restr_set_out hk, Mem.restr_self]
    exact q
end Lw
set_option Elab.async false
set_option linter.all false
set_option maxRecDepth 100000
set_option maxHeartbeats 4000000
namespace Lw
open PySem PySem.Spec PyProof.Rows L2 Dl
theorem canLay_ints : ∀ ns : List Int, PyData.canLayAll0 (ns.map PyData.int) = true
  | [] => rfl
  | n :: r => by
    rw [List.map_cons]
    simp only [PyData.canLayAll0, PyData.canLay0, Bool.true_and]
    exact canLay_ints r
theorem depth_ints : ∀ ns : List Int, PyData.depthAll (ns.map PyData.int) = 0
  | [] => rfl
  | n :: r => by
    rw [List.map_cons]
    simp only [PyData.depthAll, PyData.depth]
    rw [depth_ints r] <;> rfl
theorem shaped_ints (ns : List Int) : SeqAt.shaped (.list (ns.map PyData.int)) = true := by
  have h1 : PyData.canLay0 (.list (ns.map PyData.int)) = true := by
    simp only [PyData.canLay0]
    exact canLay_ints ns
  have h2 : PyData.depth (.list (ns.map PyData.int)) ≤ 64 := by
    simp only [PyData.depth]
    rw [depth_ints]
    decide
  unfold SeqAt.shaped
  rw [h1, decide_eq_true h2] <;> rfl
theorem eqv_empty (ns : List Int) : (false != PyData.eqv (.list (ns.map PyData.int)) (.list [])) = ns.isEmpty := by
  cases ns <;> rfl
theorem PoolTo.at {M M' : Mem} {p : Addr} (h : PoolTo M p M') : PoolAt M' p := by
  obtain ⟨ns, h1, rfl⟩ := h
  exact ⟨ns, h1, Mem.set_same⟩
theorem PoolTo.trans {M M1 M2 : Mem} {p : Addr} (h : PoolTo M p M1) (g : PoolTo M1 p M2) : PoolTo M p M2 := by
  obtain ⟨ns, h1, rfl⟩ := h
  obtain ⟨ms, g1, rfl⟩ := g
  exact ⟨ms, g1, Mem.set_set⟩
theorem PoolAt.refl {M : Mem} {p : Addr} (h : PoolAt M p) : PoolTo M p M := by
  obtain ⟨ns, h1, h2⟩ := h
  exact ⟨ns, h1, (Mem.set_self h2).symm⟩
theorem PoolTo.restr {M M' : Mem} {p : Addr} (h : PoolTo M p M') (g : PoolAt M p) : M.restr M' = M' := by
  obtain ⟨ns, h1, rfl⟩ := h
  obtain ⟨ms, g1, g2⟩ := g
  rw [Mem.restr_set_in g2, Mem.restr_self]
theorem bl_flat (b : Bool) : (true != b) = !b := by cases b <;> rfl
theorem last_get {ns : List Int} (h : ns ≠ []) : (iL ns)[(iL ns).length - 1]? = some (.int (ns.getLast h)) := by
  rw [iL_len, List.getElem?_map]
  rw [← List.getLast?_eq_getElem?, List.getLast?_eq_some_getLast h] <;> rfl
theorem ok__law_draw (ds : List Dat) (M : Mem) (Q : Rv → Mem → Prop) (h : fs__law_draw ds M Q) : rd__law_draw (enD M Q) (startD N__law_draw ds) M := by
  obtain ⟨p, m, rfl, ⟨ns, hn, hp⟩, hm, hlog, q⟩ := h
  refine ⟨Nat.zero_le _, .list (ns.map PyData.int), .list [], .cell hp (PyOfA.ints M ns), ⟨[], rfl, .nil⟩, shaped_ints ns, by decide, ?_⟩
  refine ifC (eqv_empty ns) (fun he => ?_) (fun he => ?_)
  · show Q _ (M.restr M)
    rw [Mem.restr_self]
    exact q 0 M (Int.le_refl 0) hm ⟨ns, hn, (Mem.set_self hp).symm⟩
  have ne : ns ≠ [] := fun z => by
    subst z
    cases he
  refine ⟨p, _, _, rfl, hp, last_get ne, ?_⟩
  refine ⟨⟨hm, hlog⟩, ?_⟩
  have hmod : 0 ≤ ns.getLast ne % m ∧ ns.getLast ne % m < m := ⟨Int.emod_nonneg _ (by omega), Int.emod_lt_of_pos _ hm⟩
  have hdl : (iL ns).dropLast = iL ns.dropLast := List.map_dropLast.symm
  have hdn : ns.dropLast.length ≤ 62 := by rw [List.length_dropLast]; omega
  refine ⟨l2, _, _, _, _, rfl, rfl, rfl, rfl, ?_⟩
  refine ifC rfl (fun hin => ?_) (fun hin => ?_)
  · refine ⟨p, _, rfl, Mem.set_same, _, Mem.set_same, ?_, ?_⟩
    · rw [hdl, iL_len]
      exact Nat.lt_of_le_of_lt hdn (by decide)
    refine ⟨hm, ?_⟩
    show Q _ (M.restr _)
    rw [Mem.set_set, Mem.restr_set_in hp, Mem.restr_self, hdl]
    refine q _ _ hmod.1 hmod.2 ⟨ns.dropLast ++ [ns.getLast ne / m], ?_, ?_⟩
    · rw [List.length_append]
      show _ + 1 ≤ _
      omega
    · rw [iL_app] <;> rfl
  · refine ⟨hm, ?_⟩
    show Q _ (M.restr _)
    rw [Mem.restr_set_in hp, Mem.restr_self, hdl]
    exact q _ _ hmod.1 hmod.2 ⟨ns.dropLast, by omega, rfl⟩
theorem log_ok {m : Int} (h0 : 0 ≤ m) (h : m ≤ 10000000000000000000) : m.natAbs.log2 < 9000 := by
  by_cases z : m.natAbs = 0
  · rw [z]
    exact (by decide : Nat.log2 0 < 9000)
  · have h2 : m.natAbs < 2 ^ 64 := Nat.lt_of_le_of_lt (show m.natAbs ≤ 10000000000000000000 by omega) (by decide)
    exact Nat.lt_of_lt_of_le ((Nat.log2_lt z).mpr h2) (by decide)
theorem ok__law_number (ds : List Dat) (M : Mem) (Q : Rv → Mem → Prop) (h : fs__law_number ds M Q) : rd__law_number (enD M Q) (startD N__law_number ds) M := by
  obtain ⟨p, z, t, rfl, hp, h0, h1, q⟩ := h
  refine ⟨Or.inl (Or.inl (by decide)), ?_⟩
  refine ⟨p, 2 * z + 1, rfl, hp, by omega, log_ok (by omega) (by omega), fun v M' v0 v1 hM => ?_⟩
  refine ⟨Or.inl (Or.inl (by decide)), show 0 < 2 * z + 1 by omega, ?_⟩
  show Q _ (M.restr M')
  rw [hM.restr hp]
  have hmod : 0 ≤ (v + z + t) % (2 * z + 1) ∧ (v + z + t) % (2 * z + 1) < 2 * z + 1 := ⟨Int.emod_nonneg _ (by omega), Int.emod_lt_of_pos _ (by omega)⟩
  exact q _ M' (show -z ≤ (v + z + t) % (2 * z + 1) - z by omega) (show (v + z + t) % (2 * z + 1) - z ≤ z by omega) hM
/-- the products, summed -/
def prods (a p : List Int) : Nat → List Int
  | 0 => []
  | n + 1 => prods a p n ++ [a.getD n 0 * p.getD n 0]
theorem prods_len (a p : List Int) : ∀ n, (prods a p n).length = n
  | 0 => rfl
  | n + 1 => by
    show (prods a p n ++ [_]).length = _
    rw [List.length_append, prods_len a p n] <;> rfl
theorem getD_of {a : List Int} {i : Nat} (h : i < a.length) : a.getD i 0 = a[i] := by
  rw [List.getD_eq_getElem?_getD, List.getElem?_eq_getElem h] <;> rfl
theorem prods_sum (a p : List Int) : ∀ n, n ≤ a.length → n ≤ p.length → (prods a p n).sum = dot (a.take n) (p.take n)
  | 0, _, _ => by
    rw [List.take_zero, List.take_zero] <;> rfl
  | n + 1, h1, h2 => by
    show (prods a p n ++ [_]).sum = _
    rw [List.sum_append, prods_sum a p n (by omega) (by omega), dot_step (by omega) (by omega), getD_of (by omega), getD_of (by omega)]
    simp
/-- [row[k] * point[k] for k in range(n)], then whatever -/
theorem lc_prods {row e : Dat} {a pt : List Int} {ys : List Dat} {env : Dl.Env} {M : Mem} {i j k : Nat} {n : Nat} {QL : List Dat → Mem → Prop} (hr : ∀ d, (env.set k d)[i]? = some (some row)) (he : ∀ d, (env.set k d)[j]? = some (some e)) (hk : ∀ d, (env.set k (some d))[k]? = some (some d)) (g1 : SeqR M (.d row) ys) (g2 : SeqR M (.d e) (iL pt))
    (ga : ∀ i, (h : i < n) → atI ys (i : Int) = some (.int (a.getD i 0))) (hs : ∀ i, i < n → -1000000000 ≤ a.getD i 0 ∧ a.getD i 0 ≤ 1000000000) (hn : n ≤ 1000) (hp : n ≤ pt.length) (fin : QL (iL (prods a pt n)) M) :
    ∃ Inv : Nat → List Dat → Mem → Prop, Inv 0 [] M ∧ (∀ i acc M', i ≤ (rngD 0 n).length → Inv i acc M' → (fun _ => True) M') ∧
      (∀ i' y acc M', (rngD 0 n)[i']? = some y → Inv i' acc M' → dYes (env.set k (some y)) M' fun b M2 => if b = true then dOp oMul (dOp oIx (dVar i) (dVar k)) (dOp oIx (dVar j) (dVar k)) (env.set k (some y)) M2 fun r M3 => acc.length < sizeLine ∧ Inv (i' + 1) (acc ++ [Dl.settle r]) M3 else Inv (i' + 1) acc M2) ∧
      ∀ acc M', Inv (rngD 0 n).length acc M' → QL acc M' := by
  refine lc_rng (fun i acc m => m = M ∧ acc = iL (prods a pt i)) ⟨rfl, rfl⟩ (fun t acc m ht hj => ?_) fun acc m hj => ?_
  · obtain ⟨rfl, rfl⟩ := hj
    simp only [dYes, ↓reduceIte]
    rw [Int.zero_add]
    have tp : t < pt.length := by omega
    simp only [dOp, dVar, hr, he, hk]
    refine ⟨t, _, _, rfl, g1, ga t ht, t, _, _, rfl, g2, at_iL tp, cmul_l (hs t ht) (by decide), ?_, rfl, ?_⟩
    · rw [iL_len, prods_len]
      exact Nat.lt_of_lt_of_le (show t < 1001 by omega) (by decide)
    · show _ = iL (prods a pt t ++ [_])
      rw [iL_app, getD_of tp] <;> rfl
  · obtain ⟨rfl, rfl⟩ := hj
    exact fin
theorem ok__law_value (ds : List Dat) (M : Mem) (Q : Rv → Mem → Prop) (h : fs__law_value ds M Q) : rd__law_value (enD M Q) (startD N__law_value ds) M := by
  obtain ⟨a, c, pt, e, rfl, g, hl, hb, hs, q⟩ := h
  refine ⟨-1, _, .int c, rfl, rfl, at_iL_last, ?_⟩
  refine ⟨e, _, rfl, g, ?_, ?_, ?_⟩
  · rw [iL_len]; omega
  · rw [iL_len]; omega
  rw [iL_len, Int.toNat_natCast]
  refine lc_prods (row := encR (a ++ [c])) (e := e) (a := a) (pt := pt) (fun _ => rfl) (fun _ => rfl) (fun _ => rfl) rfl g (fun i hi => ?_) (fun i hi => ?_) hb (Nat.le_refl _) ?_
  · rw [at_iL (by rw [List.length_append]; omega), getElem_app (by omega), getD_of (by omega)]
  · rw [getD_of (by omega)]
    exact hs.get (by omega)
  · refine ⟨_, _, rfl, rfl, ?_⟩
    show Q _ (M.restr M)
    rw [Mem.restr_self, prods_sum a pt _ (by omega) (Nat.le_refl _), List.take_of_length_le (by omega), List.take_of_length_le (Nat.le_refl _)]
    exact q
end Lw
set_option Elab.async false
set_option linter.all false
set_option maxRecDepth 100000
set_option maxHeartbeats 4000000
namespace Lw
open PySem PySem.Spec PyProof.Rows L2 Dl
theorem kd_cases (k : Kd) : k = .ge ∨ k = .eq ∨ ∃ m, k = .div m := by
  cases k with
  | ge => exact Or.inl rfl
  | eq => exact Or.inr (Or.inl rfl)
  | div m => exact Or.inr (Or.inr ⟨m, rfl⟩)
theorem met_ge {x : Cd} {pt : List Int} (h : x.k = .ge) : x.met pt = decide (0 ≤ x.c + dot x.a pt) := by
  unfold Cd.met
  rw [h] <;> rfl
theorem met_eq {x : Cd} {pt : List Int} (h : x.k = .eq) : x.met pt = decide (x.c + dot x.a pt = 0) := by
  unfold Cd.met
  rw [h] <;> rfl
theorem met_div {x : Cd} {pt : List Int} {m : Int} (h : x.k = .div m) : x.met pt = decide ((x.c + dot x.a pt) % m = 0) := by
  unfold Cd.met
  rw [h] <;> rfl
theorem ne_dec (a b : Int) : (true != decide (a = b)) = !decide (a = b) := Bool.true_bne _
theorem ok__law_holds (ds : List Dat) (M : Mem) (Q : Rv → Mem → Prop) (h : fs__law_holds ds M Q) : rd__law_holds (enD M Q) (startD N__law_holds ds) M := by
  obtain ⟨cs, pt, e, rfl, hs, hp, hg, q⟩ := h
  refine ⟨_, rfl, ?_⟩
  refine for_rest (enc := Cd.enc) cs (fun r env m => m = M ∧ (∃ z1 z2, env = [some (.lst (cs.map Cd.enc)), some e, z1, z2]) ∧ (cs.all fun x => x.met pt) = (r.all fun x => x.met pt) ∧ ∀ x ∈ r, x ∈ cs) ?_ ?_ ?_ ?_
  · exact ⟨rfl, ⟨_, _, rfl⟩, rfl, fun _ h => h⟩
  · rintro r env m _
    trivial
  · rintro x r env m ⟨rfl, ⟨z1, z2, rfl⟩, h1, h2⟩
    have gx := hg x (h2 x List.mem_cons_self)
    rw [List.all_cons] at h1
    have bad : x.met pt = false → Q (.d (.bl false)) (m.restr m) := fun k => by
      rw [k, Bool.false_and] at h1
      rw [Mem.restr_self]
      rw [h1] at q
      exact q
    have good : x.met pt = true → (cs.all fun x => x.met pt) = (r.all fun x => x.met pt) := fun k => by
      rw [k, Bool.true_and] at h1
      exact h1
    have mem' : ∀ y ∈ r, y ∈ cs := fun y hy => h2 y (List.mem_cons_of_mem _ hy)
    refine ⟨-1, _, _, rfl, seq_enc x, its_l x, x.a, x.c, pt, _, rfl, hs, gx.1, hp, gx.2.1, ?_⟩
    refine ⟨0, _, _, rfl, seq_enc x, its_0 x, ?_⟩
    rcases kd_cases x.k with hk | hk | ⟨d, hk⟩
    · refine ifT ((nm_ge x.k).trans (by rw [hk] <;> rfl)) ?_
      refine ifC (c := decide (x.c + dot x.a pt < 0)) rfl (fun k => ?_) fun k => ?_
      · exact bad ((met_ge hk).trans (decide_eq_false (by have := of_decide_eq_true k; omega)))
      refine ⟨0, _, _, rfl, seq_enc x, its_0 x, ifF ((nm_eq x.k).trans (by rw [hk])) ?_⟩
      refine ⟨0, _, _, rfl, seq_enc x, its_0 x, ifF ((nm_div2 x.k).trans (by rw [hk] <;> rfl)) ?_⟩
      exact ⟨rfl, ⟨_, _, rfl⟩, good ((met_ge hk).trans (decide_eq_true (by have := of_decide_eq_false k; omega))), mem'⟩
    · refine ifF ((nm_ge x.k).trans (by rw [hk] <;> rfl)) ?_
      refine ⟨0, _, _, rfl, seq_enc x, its_0 x, ifT ((nm_eq x.k).trans (by rw [hk])) ?_⟩
      refine ifC (c := true != decide (x.c + dot x.a pt = 0)) (ne_dec _ _) (fun k => ?_) fun k => ?_
      · exact bad ((met_eq hk).trans (by simpa using k))
      refine ⟨0, _, _, rfl, seq_enc x, its_0 x, ifF ((nm_div2 x.k).trans (by rw [hk] <;> rfl)) ?_⟩
      exact ⟨rfl, ⟨_, _, rfl⟩, good ((met_eq hk).trans (by simpa using k)), mem'⟩
    · refine ifF ((nm_ge x.k).trans (by rw [hk] <;> rfl)) ?_
      refine ⟨0, _, _, rfl, seq_enc x, its_0 x, ifF ((nm_eq x.k).trans (by rw [hk])) ?_⟩
      refine ⟨0, _, _, rfl, seq_enc x, its_0 x, ifT ((nm_div2 x.k).trans (by rw [hk] <;> rfl)) ?_⟩
      have hd : 2 ≤ d ∧ d ≤ 60 := by
        have := gx.2.2.2.2
        rw [hk] at this
        exact this
      refine ⟨1, _, _, rfl, seq_enc x, its_1 hk, by omega, ?_⟩
      refine ifC (c := true != decide ((x.c + dot x.a pt) % d = 0)) (ne_dec _ _) (fun k => ?_) fun k => ?_
      · exact bad ((met_div hk).trans (by simpa using k))
      exact ⟨rfl, ⟨_, _, rfl⟩, good ((met_div hk).trans (by simpa using k)), mem'⟩
  · rintro env m ⟨rfl, ⟨z1, z2, rfl⟩, h1, h2⟩
    show Q _ (m.restr m)
    rw [Mem.restr_self]
    rw [h1] at q
    exact q
theorem restr_none {M m : Mem} {q : Addr} (h : M.restr m = M) (hq : m q = none) : M q = none := by
  cases e : M q with
  | none => rfl
  | some v =>
    have h2 : (M.restr m) q = m q := by
      unfold Mem.restr
      rw [e]
    rw [h, hq, e] at h2
    cases h2
end Lw
set_option Elab.async false
set_option linter.all false
set_option maxRecDepth 100000
set_option maxHeartbeats 4000000
namespace Lw
open PySem PySem.Spec PyProof.Rows L2 Dl
theorem ok__law_widened (ds : List Dat) (M : Mem) (Q : Rv → Mem → Prop) (h : fs__law_widened ds M Q) : rd__law_widened (enD M Q) (startD N__law_widened ds) M := by
  obtain ⟨w, n, cs, rfl, hw, hn, hl, ha, q⟩ := h
  refine ⟨Nat.zero_le _, _, rfl, fun k hk => ?_⟩
  refine ⟨_, rfl, ?_⟩
  refine for_rest (enc := Cd.enc) cs (fun r env m => ∃ acc z1 z2, m = M.set k (.lst acc) ∧ env = [some (.lst (cs.map Cd.enc)), some (.int (w : Int)), some (.int (n : Int)), some (.cell k), z1, z2] ∧ acc ++ (r.map (Cd.wide n)).map Cd.enc = (cs.map (Cd.wide n)).map Cd.enc ∧ ∀ x ∈ r, x ∈ cs) ?_ ?_ ?_ ?_
  · exact ⟨[], none, none, rfl, rfl, rfl, fun _ h => h⟩
  · rintro r env m _
    trivial
  · rintro x r env m ⟨acc, z1, z2, rfl, rfl, h1, h2⟩
    have hxa := ha x (h2 x List.mem_cons_self)
    have c1 : cut (iL (x.a ++ [x.c])) none (some (w : Int)) = iL x.a := by
      rw [cut_to, ← List.map_take, List.take_left' hxa]
    have c2 : cut (iL (x.a ++ [x.c])) (some (w : Int)) none = iL [x.c] := by
      rw [cut_from, ← List.map_drop, List.drop_left' hxa]
    have ez : (List.replicate (n : Int).toNat [Dat.int 0]).flatten = iL (List.replicate n 0) := by
      rw [Int.toNat_natCast, rep_flat, iL_rep]
    have hlen := congrArg List.length h1
    rw [List.length_append, List.length_map, List.length_map, List.length_map, List.length_map, List.length_cons] at hlen
    refine ⟨-1, _, _, rfl, seq_enc x, its_l x, ?_⟩
    refine ⟨k, acc, rfl, Mem.set_same, l1, by omega, by omega, show 1 ≤ 1000 by decide, ?_, ?_⟩
    · refine Nat.le_trans (Nat.le_of_eq (congrArg (fun l : List Dat => (cut (iL (x.a ++ [x.c])) none (some (w : Int))).length + l.length) ez)) ?_
      rw [c1, iL_len, iL_len, List.length_replicate]
      exact lz (by omega)
    refine ⟨?_, ?_⟩
    · refine Nat.le_trans (Nat.le_of_eq (congrArg (fun l : List Dat => (cut (iL (x.a ++ [x.c])) none (some (w : Int)) ++ l).length + (cut (iL (x.a ++ [x.c])) (some (w : Int)) none).length) ez)) ?_
      rw [c1, c2, ← iL_app, iL_len, iL_len, List.length_append, List.length_replicate]
      exact lz (by show _ + 1 ≤ _; omega)
    refine ⟨l1, ?_, acc, Mem.set_same, ?_, ?_⟩
    · exact Nat.le_trans (Nat.add_le_add_right (its_cut_len x) 1) (by decide)
    · exact Nat.lt_of_lt_of_le (show acc.length < 1001 by omega) (by decide)
    · refine ⟨acc ++ [(Cd.wide n x).enc], _, _, ?_, rfl, ?_, fun y hy => h2 y (List.mem_cons_of_mem _ hy)⟩
      · rw [Mem.set_set]
        have e5 := congrArg Dat.tup (its_put x.k x.a (x.a ++ List.replicate n 0) x.c x.c)
        have e6 : cut (iL (x.a ++ [x.c])) none (some (w : Int)) ++ (List.replicate (n : Int).toNat [Dat.int 0]).flatten ++ cut (iL (x.a ++ [x.c])) (some (w : Int)) none = iL (x.a ++ List.replicate n 0 ++ [x.c]) := by
          rw [c1, c2, ez, ← iL_app, ← iL_app]
        have e7 := congrArg (fun l => Dat.tup (cut x.its none (some (-1)) ++ [Dat.tup l])) e6
        exact congrArg (fun d => M.set k (.lst (acc ++ [d]))) (e7.trans e5)
      · rw [List.append_assoc]
        exact h1
  · rintro env m ⟨acc, z1, z2, rfl, rfl, h1, h2⟩
    rw [List.map_nil, List.map_nil, List.append_nil] at h1
    subst h1
    refine Or.inl ⟨hk, _, Mem.set_same, ?_⟩
    rw [Mem.restr_set_out hk, Mem.restr_self]
    exact q
theorem at_iL_w {a : List Int} {c : Int} {w : Nat} (h : a.length = w) : atI (iL (a ++ [c])) (w : Int) = some (.int c) := by
  have hw : w < (a ++ [c]).length := by rw [List.length_append, h]; exact Nat.lt_succ_self w
  rw [at_iL hw]
  subst h
  rw [List.getElem_append_right (Nat.le_refl _)]
  simp
theorem ok__law_fixed (ds : List Dat) (M : Mem) (Q : Rv → Mem → Prop) (h : fs__law_fixed ds M Q) : rd__law_fixed (enD M Q) (startD N__law_fixed ds) M := by
  obtain ⟨w, ns, cs, rfl, hn, hw, hl, hg, q⟩ := h
  refine ⟨_, _, rfl, rfl, ?_⟩
  refine ⟨Nat.zero_le _, _, rfl, fun k hk => ?_⟩
  refine ⟨_, rfl, ?_⟩
  refine for_rest (enc := Cd.enc) cs (fun r env m => ∃ acc z1 z2 z3 z4, m = M.set k (.lst acc) ∧ env = [some (.lst (cs.map Cd.enc)), some (.int (w : Int)), some (.lst (iL ns)), some (.int (ns.length : Int)), some (.cell k), z1, z2, z3, z4] ∧ acc ++ (r.map (Cd.fix ns)).map Cd.enc = (cs.map (Cd.fix ns)).map Cd.enc ∧ ∀ x ∈ r, x ∈ cs) ?_ ?_ ?_ ?_
  · refine ⟨[], none, none, none, none, rfl, ?_, rfl, fun _ h => h⟩
    show ([_, _, _, some (Dat.int (iL ns).length), _, _, _, _, _] : List (Option Dat)) = _
    rw [iL_len] <;> rfl
  · rintro r env m _
    trivial
  · rintro x r env m ⟨acc, z1, z2, z3, z4, rfl, rfl, h1, h2⟩
    have gx := hg x (h2 x List.mem_cons_self)
    have hxa := gx.1
    have hlen := congrArg List.length h1
    rw [List.length_append, List.length_map, List.length_map, List.length_map, List.length_map, List.length_cons] at hlen
    refine ⟨-1, _, _, rfl, seq_enc x, its_l x, ?_⟩
    refine ⟨?_, ?_, ?_⟩
    · omega
    · omega
    rw [Int.toNat_natCast]
    refine lc_prods (row := encR (x.a ++ [x.c])) (e := .lst (iL ns)) (a := x.a) (pt := ns) (fun _ => rfl) (fun _ => rfl) (fun _ => rfl) rfl rfl (fun i hi => ?_) (fun i hi => ?_) (by omega) (Nat.le_refl _) ?_
    · rw [at_iL (by rw [List.length_append]; omega), getElem_app (by omega), getD_of (by omega)]
    · rw [getD_of (by omega)]
      exact gx.2.1.get (by omega)
    refine ⟨_, _, rfl, rfl, ?_⟩
    have e3 : cut (iL (x.a ++ [x.c])) (some (ns.length : Int)) (some (w : Int)) = iL (x.a.drop ns.length) := by
      rw [cut_fromto hn (by rw [iL_len, List.length_append]; omega), ← List.map_drop, ← List.map_take, List.drop_append_of_le_length (by omega), List.take_left' (by rw [List.length_drop]; omega)]
    refine ⟨(w : Int), _, _, rfl, rfl, at_iL_w hxa, l1, ?_, ?_⟩
    · refine Nat.le_trans (Nat.le_of_eq (congrArg (fun l : List Dat => l.length + 1) e3)) ?_
      rw [iL_len, List.length_drop]
      exact lz (by omega)
    refine ⟨k, acc, rfl, Mem.set_same, l1, ?_, acc, Mem.set_same, ?_, ?_⟩
    · exact Nat.le_trans (Nat.add_le_add_right (its_cut_len x) 1) (by decide)
    · exact Nat.lt_of_lt_of_le (show acc.length < 1001 by omega) (by decide)
    · refine ⟨acc ++ [(Cd.fix ns x).enc], _, _, _, _, ?_, rfl, ?_, fun y hy => h2 y (List.mem_cons_of_mem _ hy)⟩
      · rw [Mem.set_set]
        have e5 := congrArg Dat.tup (its_put x.k x.a (x.a.drop ns.length) x.c (x.c + dot (x.a.take ns.length) ns))
        have e4 : (prods x.a ns ns.length).sum = dot (x.a.take ns.length) ns := by
          rw [prods_sum x.a ns _ (by omega) (Nat.le_refl _), List.take_of_length_le (l := ns) (Nat.le_refl _)]
        have e6 : cut (iL (x.a ++ [x.c])) (some (ns.length : Int)) (some (w : Int)) ++ [Dat.int (x.c + (prods x.a ns ns.length).sum)] = iL (x.a.drop ns.length ++ [x.c + dot (x.a.take ns.length) ns]) := by
          rw [e3, e4, iL_app] <;> rfl
        have e7 := congrArg (fun l => Dat.tup (cut x.its none (some (-1)) ++ [Dat.tup l])) e6
        exact congrArg (fun d => M.set k (.lst (acc ++ [d]))) (e7.trans e5)
      · rw [List.append_assoc]
        exact h1
  · rintro env m ⟨acc, z1, z2, z3, z4, rfl, rfl, h1, h2⟩
    rw [List.map_nil, List.map_nil, List.append_nil] at h1
    subst h1
    refine Or.inl ⟨hk, _, Mem.set_same, ?_⟩
    rw [Mem.restr_set_out hk, Mem.restr_self]
    exact q
end Lw
set_option Elab.async false
set_option linter.all false
set_option maxRecDepth 100000
set_option maxHeartbeats 4000000
namespace Lw
open PySem PySem.Spec PyProof.Rows L2 Dl
theorem mulb {A B x y : Int} (hx : -A ≤ x ∧ x ≤ A) (hy : -B ≤ y ∧ y ≤ B) : -(A * B) ≤ x * y ∧ x * y ≤ A * B := by
  have h1 : x.natAbs ≤ A.toNat := by omega
  have h2 : y.natAbs ≤ B.toNat := by omega
  have h3 : (x * y).natAbs ≤ A.toNat * B.toNat := by
    rw [Int.natAbs_mul]
    exact Nat.mul_le_mul h1 h2
  have h4 : ((A.toNat * B.toNat : Nat) : Int) = A * B := by
    rw [Int.natCast_mul, Int.toNat_of_nonneg (by omega), Int.toNat_of_nonneg (by omega)]
  omega
theorem dot_b {A B : Int} (hA : 0 ≤ A) (hB : 0 ≤ B) : ∀ (a p : List Int), Sm A a → Sm B p → -(A * B * p.length) ≤ dot a p ∧ dot a p ≤ A * B * p.length
  | [], p, _, _ => by
    have h := Int.mul_nonneg (Int.mul_nonneg hA hB) (Int.natCast_nonneg p.length)
    show -(A * B * p.length) ≤ 0 ∧ 0 ≤ A * B * p.length
    omega
  | x :: a, [], _, _ => by
    show -(A * B * (0 : Nat)) ≤ 0 ∧ 0 ≤ A * B * (0 : Nat)
    rw [Int.natCast_zero, Int.mul_zero]
    decide
  | x :: a, y :: p, h1, h2 => by
    have h3 := mulb (h1 x List.mem_cons_self) (h2 y List.mem_cons_self)
    have h4 := dot_b hA hB a p (fun z hz => h1 z (List.mem_cons_of_mem _ hz)) (fun z hz => h2 z (List.mem_cons_of_mem _ hz))
    show -(A * B * ((p.length + 1 : Nat) : Int)) ≤ x * y + dot a p ∧ x * y + dot a p ≤ A * B * ((p.length + 1 : Nat) : Int)
    rw [show ((p.length + 1 : Nat) : Int) = (p.length : Int) + 1 from rfl, Int.mul_add, Int.mul_one]
    omega
theorem modb (v m : Int) (h : 0 < m) : 0 ≤ v % m ∧ v % m < m := ⟨Int.emod_nonneg _ (by omega), Int.emod_lt_of_pos _ h⟩
theorem eq_dec (a b : Int) : (false != decide (a = b)) = decide (a = b) := Bool.false_bne _
/-- [number(pool, 9, ..) for k in range(n)] -/
theorem lc_numbers {p : Addr} {M0 M : Mem} {n k : Nat} {ε : DE} {env : Dl.Env} {QL : List Dat → Mem → Prop} (hM : PoolTo M0 p M) (hn : n ≤ 1000)
    (step : ∀ (i : Nat) (M' : Mem) (P : Rv → Mem → Prop), PoolAt M' p → (∀ v M2, -9 ≤ v → v ≤ 9 → PoolTo M' p M2 → P (.d (.int v)) M2) → ε (env.set k (some (.int (0 + i)))) M' P)
    (fin : ∀ (r : List Int) M', r.length = n → Sm 9 r → PoolTo M0 p M' → QL (iL r) M') :
    ∃ Inv : Nat → List Dat → Mem → Prop, Inv 0 [] M ∧ (∀ i acc M', i ≤ (rngD 0 n).length → Inv i acc M' → (fun _ => True) M') ∧
      (∀ i' y acc M', (rngD 0 n)[i']? = some y → Inv i' acc M' → dYes (env.set k (some y)) M' fun b M2 => if b = true then ε (env.set k (some y)) M2 fun r M3 => acc.length < sizeLine ∧ Inv (i' + 1) (acc ++ [Dl.settle r]) M3 else Inv (i' + 1) acc M2) ∧
      ∀ acc M', Inv (rngD 0 n).length acc M' → QL acc M' := by
  refine lc_rng (fun i acc m => ∃ r : List Int, acc = iL r ∧ r.length = i ∧ Sm 9 r ∧ PoolTo M0 p m) ⟨[], rfl, rfl, fun x hx => absurd hx List.not_mem_nil, hM⟩ (fun t acc m ht hj => ?_) fun acc m hj => ?_
  · obtain ⟨r, rfl, hr, hs, hm⟩ := hj
    simp only [dYes, ↓reduceIte]
    refine step t m _ hm.at fun v M2 h1 h2 hp => ⟨?_, r ++ [v], ?_, ?_, ?_, hm.trans hp⟩
    · rw [iL_len]
      exact Nat.lt_of_lt_of_le (show r.length < 1001 by omega) (by decide)
    · rw [iL_app] <;> rfl
    · rw [List.length_append, hr] <;> rfl
    · intro x hx
      rcases List.mem_append.mp hx with z | z
      · exact hs x z
      · have := List.mem_singleton.mp z
        omega
  · obtain ⟨r, rfl, hr, hs, hm⟩ := hj
    exact fin r m hr hs hm
def rule5 : DS := dSeq (dSet (dCB bTuple (dCons (dOp oAdd (dVar 6) (dLst (dCons (dVar 7) (dNil)))) (dNil))) 6)
  (dSeq (dIfS (dTest (dOp oEq (dVar 4) (dC (.int 2)))) (dRet (dTup (dCons (dC (.str "div")) (dCons (dVar 5) (dCons (dVar 6) (dNil)))))) (dNext))
  (dRet (dTup (dCons (dOp oIx (dLst (dCons (dC (.str "ge")) (dCons (dC (.str "eq")) (dNil)))) (dVar 4)) (dCons (dVar 6) (dNil))))))
def rule4 : DS := dSeq (dIfS (dTest (dOp oEq (dVar 3) (dC (.int 2)))) (dSet (dOp oSub (dCB fs__law_draw (dCons (dVar 0) (dCons (dC (.int 199)) (dNil)))) (dC (.int 99))) 7) (dNext)) rule5
def rule3 : DS := dSeq (dIfS (dTest (dOp oEq (dVar 3) (dC (.int 1)))) (dSet (dOp oSub (dVar 7) (dC (.int 1))) 7) (dNext)) rule4
def rule2 : DS := dSeq (dIfS (dAnd (dTest (dOp oEq (dVar 3) (dC (.int 0)))) (dTest (dOp oEq (dVar 4) (dC (.int 2))))) (dSet (dOp oAdd (dVar 7) (dOp oMul (dVar 5) (dOp oSub (dOp oModI (dCB bInt (dCons (dVar 8) (dNil))) (dC (.int 3))) (dC (.int 1))))) 7) (dNext)) rule3
def rule1 : DS := dSeq (dIfS (dAnd (dTest (dOp oEq (dVar 3) (dC (.int 0)))) (dTest (dOp oEq (dVar 4) (dC (.int 0))))) (dSet (dOp oAdd (dVar 7) (dVar 8)) 7) (dNext)) rule2
theorem ok__law_rule (ds : List Dat) (M : Mem) (Q : Rv → Mem → Prop) (h : fs__law_rule ds M Q) : rd__law_rule (enD M Q) (startD N__law_rule ds) M := by
  obtain ⟨p, pt, t, mood, rfl, hp, hl, hs, q⟩ := h
  refine ⟨p, 3, rfl, hp, by decide, by decide, fun v1 M1 _ _ hM1 => ⟨show (0 : Int) < 3 by decide, ?_⟩⟩
  have hk := modb (v1 + t) 3 (by decide)
  refine ⟨p, 59, rfl, hM1.at, by decide, by decide, fun v2 M2 _ _ hM2 => ⟨Or.inl (Or.inl (by decide)), show (0 : Int) < 59 by decide, ?_⟩⟩
  have hm := modb (v2 + 7 * t) 59 (by decide)
  have hM2 := hM1.trans hM2
  refine ⟨_, _, rfl, rfl, by rw [iL_len]; omega, by rw [iL_len]; omega, ?_⟩
  rw [iL_len, Int.toNat_natCast]
  refine lc_numbers hM2 (by omega) (fun i M' P hP k => ?_) (fun r M3 hr hrs hM3 => ?_)
  · exact ⟨Or.inl (Or.inl (by decide)), p, 9, _, rfl, hP, by decide, by decide, k⟩
  refine ⟨_, _, rfl, rfl, by rw [iL_len]; omega, by rw [iL_len]; omega, ?_⟩
  rw [iL_len, Int.toNat_natCast]
  refine lc_prods (row := .lst (iL r)) (e := .lst (iL pt)) (a := r) (pt := pt) (fun _ => rfl) (fun _ => rfl) (fun _ => rfl) rfl rfl (fun i hi => ?_) (fun i hi => ?_) (by omega) (Nat.le_refl _) ?_
  · rw [at_iL (by omega), getD_of (by omega)]
  · rw [getD_of (by omega)]
    have := hrs.get (i := i) (by omega)
    omega
  refine ⟨_, _, rfl, rfl, ?_⟩
  have eS : (prods r pt pt.length).sum = dot r pt := by
    rw [prods_sum r pt _ (by omega) (Nat.le_refl _), List.take_of_length_le (by omega), List.take_of_length_le (Nat.le_refl _)]
  have bS : -243 ≤ (prods r pt pt.length).sum ∧ (prods r pt pt.length).sum ≤ 243 := by
    rw [eS]
    have := dot_b (A := 9) (B := 9) (by decide) (by decide) r pt hrs hs
    omega
  refine ⟨p, 10, rfl, hM3.at, by decide, by decide, fun v3 M4 h31 h32 hM4 => ?_⟩
  have hM4 := hM3.trans hM4
  generalize (prods r pt pt.length).sum = S at bS
  -- from the end
  have T5 : ∀ c M', -1000000 ≤ c → c ≤ 1000000 → PoolTo M p M' → rule5 (enD M Q)
      [some (.cell p), some (.lst (iL pt)), some (.int t), some (.int mood), some (.int ((v1 + t) % 3)), some (.int (2 + (v2 + 7 * t) % 59)), some (.lst (iL r)), some (.int c), some (.int v3), none] M' := by
    intro c M' c1 c2 hM'
    have gd : ∀ k : Kd, k.ok → Q (.d (Cd.enc ⟨k, r, c⟩)) M' := fun k hk => q ⟨k, r, c⟩ M' ⟨hr, fun z hz => by have := hrs z hz; omega, by show -1000000000 ≤ c; omega, by show c ≤ 1000000000; omega, hk⟩ hM'
    have er : iL r ++ [Dat.int c] = iL (r ++ [c]) := by rw [iL_app] <;> rfl
    refine ⟨l1, _, _, rfl, rfl, ?_, _, _, rfl, rfl, ?_⟩
    · rw [iL_len]
      exact lz (by show _ + 1 ≤ _; omega)
    refine ifC (c := false != decide ((v1 + t) % 3 = 2)) (eq_dec _ _) (fun hd => ⟨l3, ?_⟩) (fun hd => ?_)
    · show Q (.d (.tup [.str "div", .int (2 + (v2 + 7 * t) % 59), .tup (iL r ++ [.int c])])) (M.restr M')
      rw [hM'.restr hp, er]
      exact gd (.div _) ⟨by omega, by omega⟩
    · have hne : (v1 + t) % 3 ≠ 2 := of_decide_eq_false hd
      have two : (v1 + t) % 3 = 0 ∨ (v1 + t) % 3 = 1 := by omega
      refine ⟨l2, (v1 + t) % 3, [.str "ge", .str "eq"], .str (if (v1 + t) % 3 = 0 then "ge" else "eq"), rfl, rfl, ?_, l2, ?_⟩
      · rcases two with z | z <;> rw [z] <;> rfl
      show Q (.d (.tup [.str (if (v1 + t) % 3 = 0 then "ge" else "eq"), .tup (iL r ++ [.int c])])) (M.restr M')
      rw [hM'.restr hp, er]
      rcases two with z | z
      · rw [if_pos z]
        exact gd .ge trivial
      · rw [if_neg (by omega)]
        exact gd .eq trivial
  have T4 : ∀ c, -100000 ≤ c → c ≤ 100000 → rule4 (enD M Q) [some (.cell p), some (.lst (iL pt)), some (.int t), some (.int mood), some (.int ((v1 + t) % 3)), some (.int (2 + (v2 + 7 * t) % 59)), some (.lst (iL r)), some (.int c), some (.int v3), none] M4 := fun c c1 c2 =>
    ifC (eq_dec mood 2) (fun _ => ⟨p, 199, rfl, hM4.at, by decide, by decide, fun v M5 h1 h2 hM5 => T5 (v - 99) M5 (by omega) (by omega) (hM4.trans hM5)⟩) (fun _ => T5 c M4 (by omega) (by omega) hM4)
  have T3 : ∀ c, -10000 ≤ c → c ≤ 10000 → rule3 (enD M Q) [some (.cell p), some (.lst (iL pt)), some (.int t), some (.int mood), some (.int ((v1 + t) % 3)), some (.int (2 + (v2 + 7 * t) % 59)), some (.lst (iL r)), some (.int c), some (.int v3), none] M4 := fun c c1 c2 =>
    ifC (eq_dec mood 1) (fun _ => T4 (c - 1) (by omega) (by omega)) (fun _ => T4 c (by omega) (by omega))
  have T2 : ∀ c, -1000 ≤ c → c ≤ 1000 → rule2 (enD M Q) [some (.cell p), some (.lst (iL pt)), some (.int t), some (.int mood), some (.int ((v1 + t) % 3)), some (.int (2 + (v2 + 7 * t) % 59)), some (.lst (iL r)), some (.int c), some (.int v3), none] M4 := fun c c1 c2 => by
    have b3 := modb v3 3 (by decide)
    have b := mulb (A := 61) (B := 1) (x := 2 + (v2 + 7 * t) % 59) (y := v3 % 3 - 1) (by omega) (by omega)
    refine ifC (eq_dec mood 0) (fun _ => ifC (eq_dec ((v1 + t) % 3) 2) (fun _ => ⟨show (0 : Int) < 3 by decide, cmul_r (b := 1) (show -1 ≤ v3 % 3 - 1 ∧ v3 % 3 - 1 ≤ 1 by omega) (by decide), T3 (c + (2 + (v2 + 7 * t) % 59) * (v3 % 3 - 1)) (by omega) (by omega)⟩) (fun _ => T3 c (by omega) (by omega))) (fun _ => T3 c (by omega) (by omega))
  have T1 : ∀ c, -900 ≤ c → c ≤ 900 → rule1 (enD M Q) [some (.cell p), some (.lst (iL pt)), some (.int t), some (.int mood), some (.int ((v1 + t) % 3)), some (.int (2 + (v2 + 7 * t) % 59)), some (.lst (iL r)), some (.int c), some (.int v3), none] M4 := fun c c1 c2 =>
    ifC (eq_dec mood 0) (fun _ => ifC (eq_dec ((v1 + t) % 3) 0) (fun _ => T2 (c + v3) (by omega) (by omega)) (fun _ => T2 c (by omega) (by omega))) (fun _ => T2 c (by omega) (by omega))
  exact T1 (-S) (by omega) (by omega)
end Lw
set_option Elab.async false
set_option linter.all false
set_option maxRecDepth 100000
set_option maxHeartbeats 4000000
namespace Lw
open PySem PySem.Spec PyProof.Rows L2 Dl
/-- the pool has moved on; of the rest, what was there is as it was -/
def PoolRel (M : Mem) (p : Addr) (m : Mem) : Prop := ∃ ns : List Int, ns.length ≤ 63 ∧ m p = some (.lst (iL ns)) ∧ M.restr m = M.set p (.lst (iL ns))
theorem PoolTo.rel {M M' : Mem} {p : Addr} (h : PoolTo M p M') (g : PoolAt M p) : PoolRel M p M' := by
  obtain ⟨ns, h1, rfl⟩ := h
  obtain ⟨ms, g1, g2⟩ := g
  exact ⟨ns, h1, Mem.set_same, by rw [Mem.restr_set_in g2, Mem.restr_self]⟩
theorem PoolRel.at {M m : Mem} {p : Addr} (h : PoolRel M p m) : PoolAt m p := by
  obtain ⟨ns, h1, h2, _⟩ := h
  exact ⟨ns, h1, h2⟩
theorem PoolRel.to {M m : Mem} {p : Addr} (h : PoolRel M p m) : PoolTo M p (M.restr m) := by
  obtain ⟨ns, h1, _, h2⟩ := h
  exact ⟨ns, h1, h2⟩
theorem PoolRel.step {M m m' : Mem} {p : Addr} (h : PoolRel M p m) (hp : PoolAt M p) (g : PoolTo m p m') : PoolRel M p m' := by
  obtain ⟨ns, h1, h2, h3⟩ := h
  obtain ⟨ms, g1, rfl⟩ := g
  obtain ⟨ks, k1, k2⟩ := hp
  exact ⟨ms, g1, Mem.set_same, by rw [Mem.restr_set_in k2, h3, Mem.set_set]⟩
theorem PoolRel.fresh {M m : Mem} {p k : Addr} (h : PoolRel M p m) (hp : PoolAt M p) (hk : m k = none) : M k = none ∧ k ≠ p := by
  obtain ⟨ns, h1, h2, h3⟩ := h
  have kp : k ≠ p := fun z => by
    subst z
    rw [hk] at h2
    cases h2
  refine ⟨?_, kp⟩
  cases e : M k with
  | none => rfl
  | some v =>
    have e2 : (M.restr m) k = m k := by
      unfold Mem.restr
      rw [e]
    rw [h3, hk, Mem.set_ne kp, e] at e2
    cases e2
theorem PoolRel.put {M m : Mem} {p k : Addr} {x : MV} (h : PoolRel M p m) (hk : M k = none) (kp : k ≠ p) : PoolRel M p (m.set k x) := by
  obtain ⟨ns, h1, h2, h3⟩ := h
  exact ⟨ns, h1, (Mem.set_ne kp.symm).trans h2, by rw [Mem.restr_set_out hk]; exact h3⟩
theorem PoolRel.drop {M m : Mem} {p k : Addr} (h : PoolRel M p m) (hk : M k = none) (kp : k ≠ p) : PoolRel M p (m.del k) := by
  obtain ⟨ns, h1, h2, h3⟩ := h
  exact ⟨ns, h1, (Mem.del_ne kp.symm).trans h2, by rw [Mem.restr_del_out hk]; exact h3⟩
theorem PoolTo.keep {m m' : Mem} {p k : Addr} (g : PoolTo m p m') (kp : k ≠ p) : m' k = m k := by
  obtain ⟨ns, h1, rfl⟩ := g
  exact Mem.set_ne kp
theorem ixN_of {n j : Nat} (h : j < n) : ixN n (j : Int) = some j := by
  unfold ixN
  rw [if_pos (by omega), if_pos (by omega), Int.toNat_natCast]
theorem last_split {l : List Int} {w : Nat} (h : l.length = w + 1) : ∃ a c, l = a ++ [c] ∧ a.length = w := by
  have ne : l ≠ [] := fun z => by
    rw [z] at h
    cases h
  refine ⟨l.dropLast, l.getLast ne, (List.dropLast_concat_getLast ne).symm, ?_⟩
  rw [List.length_dropLast, h] <;> rfl
theorem cp109 : CPow 10 9 := ⟨by decide, by decide, by decide⟩
theorem e109 : (10 : Int) ^ (9 : Int).toNat = 1000000000 := by decide
theorem sm_set {b v : Int} {l : List Int} {i : Nat} (h : Sm b l) (hv : -b ≤ v ∧ v ≤ b) : Sm b (l.set i v) := fun x hx => by
  rcases List.mem_or_eq_of_mem_set hx with z | z
  · exact h x z
  · rw [z]
    exact hv
/-- the tail of _law_world -/
def world2 : DS := dRet (dTup (dCons (dVar 1) (dCons (dVar 2) (dCons (dVar 4) (dCons (dHold (dVar 7)) (dNil))))))
theorem mem_set_cd {cs : List Cd} {j : Nat} {y x : Cd} (h : x ∈ cs.set j y) : x ∈ cs ∨ x = y := List.mem_or_eq_of_mem_set h
theorem map_set_cd {cs : List Cd} {j : Nat} {y : Cd} : (cs.map Cd.enc).set j y.enc = (cs.set j y).map Cd.enc := List.map_set.symm
theorem ok__law_world (ds : List Dat) (M : Mem) (Q : Rv → Mem → Prop) (h : fs__law_world ds M Q) : rd__law_world (enD M Q) (startD N__law_world ds) M := by
  obtain ⟨p, rfl, hp, q⟩ := h
  refine ⟨p, 4, rfl, hp, by decide, by decide, fun edge M1 e1 e2 hM1 => ?_⟩
  refine ⟨p, 4, rfl, hM1.at, by decide, by decide, fun v2 M2 _ _ hM2 => ⟨show (0 : Int) < 4 by decide, ?_⟩⟩
  have hw := modb (v2 + 2) 4 (by decide)
  have hM2 := hM1.trans hM2
  refine ⟨p, 6, rfl, hM2.at, by decide, by decide, fun v3 M3 _ _ hM3 => ⟨show (0 : Int) < 6 by decide, ?_⟩⟩
  have hn := modb (v3 + 3) 6 (by decide)
  have hM3 := hM2.trans hM3
  generalize eW : (v2 + 2) % 4 = W at hw
  generalize eN : (v3 + 3) % 6 = N at hn
  refine ⟨show -(2 ^ 62) ≤ (v2 + 2) % 4 by omega, show (v2 + 2) % 4 < 2 ^ 62 by omega, ?_⟩
  refine lc_numbers (n := ((v2 + 2) % 4).toNat) hM3 (by omega) (fun i M' P hP k => ?_) (fun pt M4 hpl hps hM4 => ?_)
  · exact ⟨p, 9, _, rfl, hP, by decide, by decide, k⟩
  refine ⟨p, 3, rfl, hM4.at, by decide, by decide, fun mood M5 m1 m2 hM5 => ?_⟩
  have hM5 := hM4.trans hM5
  refine ⟨p, (if (v3 + 3) % 6 > 1 then (v3 + 3) % 6 else 1), rfl, hM5.at, by split <;> omega, log_ok (by split <;> omega) (by split <;> omega), fun odd M6 _ _ hM6 => ?_⟩
  have hM6 := (hM5.trans hM6).rel hp
  rw [eW] at hpl
  refine ⟨Nat.zero_le _, _, rfl, fun k hk => ?_⟩
  obtain ⟨hMk, kp⟩ := hM6.fresh hp hk
  have hpl' : pt.length ≤ 3 := by omega
  have eWp : (v2 + 2) % 4 = (pt.length : Int) := by omega
  -- the end
  have fin : ∀ (cs : List Cd) (m : Mem) z8 z9 z10, PoolRel M p m → m k = some (.lst (cs.map Cd.enc)) → cs.length ≤ 5 → (∀ x ∈ cs, Gd pt.length 1000000000 x) → world2 (enD M Q) [some (.cell p), some (.int edge), some (.int ((v2 + 2) % 4)), some (.int ((v3 + 3) % 6)), some (.lst (iL pt)), some (.int mood), some (.int odd), some (.cell k), z8, z9, z10] m := by
    intro cs m z8 z9 z10 hm hmk hl hg
    refine ⟨k, _, rfl, hmk, l4, ?_⟩
    show Q (.d (.tup [.int edge, .int ((v2 + 2) % 4), .lst (iL pt), .lst (cs.map Cd.enc)])) (M.restr (m.del k))
    rw [eWp]
    exact q edge pt cs _ e1 e2 hpl' hps hl hg (hm.drop hMk kp).to
  refine ⟨show -(2 ^ 62) ≤ (v3 + 3) % 6 by omega, show (v3 + 3) % 6 < 2 ^ 62 by omega, ?_⟩
  refine for_rng (n := ((v3 + 3) % 6).toNat) (fun i env m => ∃ (cs : List Cd) (z8 : Option Dat), PoolRel M p m ∧ m k = some (.lst (cs.map Cd.enc)) ∧ cs.length = i ∧ (∀ x ∈ cs, Gd pt.length 1000000000 x) ∧ env = [some (.cell p), some (.int edge), some (.int ((v2 + 2) % 4)), some (.int ((v3 + 3) % 6)), some (.lst (iL pt)), some (.int mood), some (.int odd), some (.cell k), z8, none, none]) ?_ (fun i env m hi hj => ?_) fun env m hj => ?_
  · exact ⟨[], none, hM6.put hMk kp, Mem.set_same, rfl, fun x hx => absurd hx List.not_mem_nil, rfl⟩
  · obtain ⟨cs, z8, hm, hmk, hcl, hg, rfl⟩ := hj
    refine ⟨k, _, rfl, hmk, l3, mood, _, .int (if mood = 0 then 0 else if mood = 1 then (if (false != decide (0 + (i : Int) = odd)) = true then 1 else 0) else 2), rfl, rfl, ?_, ?_⟩
    · have three : mood = 0 ∨ mood = 1 ∨ mood = 2 := by omega
      rcases three with z | z | z <;> rw [z] <;> rfl
    refine ⟨p, pt, _, _, rfl, hm.at, hpl', hps, fun x M' gx hM' => ?_⟩
    have hmk' := (hM'.keep kp).trans hmk
    refine ⟨_, hmk', ?_, ?_⟩
    · rw [List.length_map]
      exact Nat.lt_of_lt_of_le (show cs.length < 1001 by omega) (by decide)
    · refine ⟨cs ++ [x], _, (hm.step hp hM').put hMk kp, ?_, ?_, ?_, rfl⟩
      · rw [Mem.set_same, List.map_append] <;> rfl
      · rw [List.length_append, hcl] <;> rfl
      · intro y hy
        rcases List.mem_append.mp hy with z | z
        · exact hg y z
        · rw [List.mem_singleton.mp z]
          exact gx
  · obtain ⟨cs, z8, hm, hmk, hcl, hg, rfl⟩ := hj
    refine ifC (eq_dec edge 3) (fun _ => ?_) (fun _ => fin cs m _ _ _ hm hmk (by omega) hg)
    refine ifC (c := decide (0 < (v3 + 3) % 6)) rfl (fun hpos => ?_) (fun _ => fin cs m _ _ _ hm hmk (by omega) hg)
    have hpos := of_decide_eq_true hpos
    refine ⟨p, (v3 + 3) % 6, rfl, hm.at, hpos, log_ok (by omega) (by omega), fun j m1 j1 j2 hm1 => ?_⟩
    have hm1k := (hm1.keep kp).trans hmk
    have hm1 := hm.step hp hm1
    refine ⟨p, (v2 + 2) % 4 + 1, rfl, hm1.at, by omega, log_ok (by omega) (by omega), fun c m2 c1 c2 hm2 => ?_⟩
    have hm2k := (hm2.keep kp).trans hm1k
    have hm2 := hm1.step hp hm2
    have hj : j.toNat < cs.length := by omega
    have ej : j = (j.toNat : Int) := by omega
    have ex : atI (cs.map Cd.enc) j = some (cs[j.toNat]).enc := by
      have h := Dl.atI_nat (xs := cs.map Cd.enc) (i := j.toNat) (y := (cs[j.toNat]).enc) (by rw [List.getElem?_map, List.getElem?_eq_getElem hj] <;> rfl)
      rwa [← ej] at h
    generalize ecx : cs[j.toNat] = x at ex
    have gx : Gd pt.length 1000000000 x := by
      rw [← ecx]
      exact hg _ (List.getElem_mem hj)
    refine ⟨j, _, _, rfl, hm2k, ex, -1, _, _, rfl, seq_enc x, its_l x, _, _, rfl, rfl, _, rfl, fun k2 hk2 => ?_⟩
    obtain ⟨hMk2, k2p⟩ := hm2.fresh hp hk2
    have kk2 : k ≠ k2 := fun z => by
      subst z
      rw [hm2k] at hk2
      cases hk2
    refine ⟨cp109, Or.inl (Or.inl (by decide)), p, 2 * 10 ^ (9 : Int).toNat + 1, rfl, (hm2.put hMk2 k2p).at, by decide, by decide, fun v m3 v1 v2' hm3 => ⟨cp109, ?_⟩⟩
    have bv : -1000000000 ≤ v - 10 ^ (9 : Int).toNat ∧ v - 10 ^ (9 : Int).toNat ≤ 1000000000 := by
      rw [e109] at v2' ⊢
      omega
    have hm3k2 : m3 k2 = some (.lst (iL (x.a ++ [x.c]))) := (hm3.keep k2p).trans Mem.set_same
    have hm3k : m3 k = some (.lst (cs.map Cd.enc)) := ((hm3.keep kp).trans (Mem.set_ne kk2)).trans hm2k
    have hm3 := (hm2.put hMk2 k2p).step hp hm3
    have cl : c.toNat < (x.a ++ [x.c]).length := by
      rw [List.length_append, gx.1]
      show _ < _ + 1
      omega
    refine ⟨k2, _, c, c.toNat, rfl, rfl, hm3k2, ?_, ?_⟩
    · have := ixN_of (n := (iL (x.a ++ [x.c])).length) (j := c.toNat) (by rw [iL_len]; exact cl)
      rw [show c = (c.toNat : Int) by omega]
      exact this
    have e5 : (iL (x.a ++ [x.c])).set c.toNat (Dat.int (v - 10 ^ (9 : Int).toNat)) = iL ((x.a ++ [x.c]).set c.toNat (v - 10 ^ (9 : Int).toNat)) := List.map_set.symm
    have sm0 : Sm 1000000000 (x.a ++ [x.c]) := fun z hz => by
      rcases List.mem_append.mp hz with h | h
      · exact gx.2.1 z h
      · rw [List.mem_singleton.mp h]
        exact ⟨gx.2.2.1, gx.2.2.2.1⟩
    have sm1 := sm_set (i := c.toNat) sm0 bv
    obtain ⟨a', c', e6, la⟩ := last_split (l := (x.a ++ [x.c]).set c.toNat (v - 10 ^ (9 : Int).toNat)) (w := pt.length) (by rw [List.length_set, List.length_append, gx.1] <;> rfl)
    have hm4k : (m3.set k2 (.lst ((iL (x.a ++ [x.c])).set c.toNat (Dat.int (v - 10 ^ (9 : Int).toNat))))) k = some (.lst (cs.map Cd.enc)) := (Mem.set_ne kk2).trans hm3k
    refine ⟨j, _, _, rfl, hm4k, ex, _, _, rfl, Mem.set_same, l1, ?_, k, _, j, j.toNat, rfl, rfl, hm4k, ?_, ?_⟩
    · exact Nat.le_trans (Nat.add_le_add_right (its_cut_len x) 1) (by decide)
    · have := ixN_of (n := (cs.map Cd.enc).length) (j := j.toNat) (by rw [List.length_map]; exact hj)
      rw [ej]
      exact this
    have gx' : Gd pt.length 1000000000 ⟨x.k, a', c'⟩ := by
      rw [e6] at sm1
      exact ⟨la, fun z hz => sm1 z (List.mem_append_left _ hz), (sm1 c' (List.mem_append_right _ List.mem_cons_self)).1, (sm1 c' (List.mem_append_right _ List.mem_cons_self)).2, gx.2.2.2.2⟩
    have e7 : Dat.tup (cut x.its none (some (-1)) ++ [Dat.tup ((iL (x.a ++ [x.c])).set c.toNat (Dat.int (v - 10 ^ (9 : Int).toNat)))]) = Cd.enc ⟨x.k, a', c'⟩ := by
      rw [e5, e6]
      exact congrArg Dat.tup (its_put x.k x.a a' x.c c')
    refine fin (cs.set j.toNat ⟨x.k, a', c'⟩) _ _ _ _ (((hm3.put hMk2 k2p)).put hMk kp) ?_ (by rw [List.length_set]; omega) (fun y hy => ?_)
    · rw [Mem.set_same]
      exact congrArg (fun l => some (MV.lst l)) ((congrArg (fun d => (cs.map Cd.enc).set j.toNat d) e7).trans map_set_cd)
    · rcases mem_set_cd hy with z | z
      · exact hg y z
      · rw [z]
        exact gx'
end Lw
set_option Elab.async false
set_option linter.all false
set_option maxRecDepth 100000
set_option maxHeartbeats 4000000
namespace Lw
open PySem PySem.Spec PyProof.Rows L2 Dl
def points2 : DS := dRet (dLst (dCons (dVar 2) (dCons (dHold (dVar 3)) (dCons (dHold (dVar 4)) (dNil)))))
def points1 : DS := dSeq (dIfS (dAnd (dTest (dOp oEq (dVar 1) (dC (.int 3)))) (dTest (dOp oGt (dCB bLen (dCons (dVar 2) (dNil))) (dC (.int 0))))) (dSeq (dSet (dCB fs__law_draw (dCons (dVar 0) (dCons (dCB bLen (dCons (dVar 2) (dNil))) (dNil)))) 5)
  (dSetI (dOp oSub (dCB fs__law_draw (dCons (dVar 0) (dCons (dOp oAdd (dOp oMul (dC (.int 2)) (dOp oPow (dC (.int 10)) (dC (.int 9)))) (dC (.int 1))) (dNil)))) (dOp oPow (dC (.int 10)) (dC (.int 9)))) (dVar 4) (dVar 5))) (dNext)) points2
theorem sm_mono {a b : Int} {l : List Int} (h : Sm a l) (hab : a ≤ b) : Sm b l := fun x hx => by
  have := h x hx
  omega
theorem ok__law_points (ds : List Dat) (M : Mem) (Q : Rv → Mem → Prop) (h : fs__law_points ds M Q) : rd__law_points (enD M Q) (startD N__law_points ds) M := by
  obtain ⟨p, edge, pt, rfl, hp, hl, hs, q⟩ := h
  refine ⟨_, _, rfl, rfl, _, rfl, fun k1 hk1 => ?_⟩
  obtain ⟨hM1, k1p⟩ := (hp.refl.rel hp).fresh hp hk1
  refine ⟨_, _, rfl, rfl, by rw [iL_len]; omega, by rw [iL_len]; omega, ?_⟩
  rw [iL_len, Int.toNat_natCast]
  have hR0 : PoolRel M p (M.set k1 (.lst (iL pt))) := (hp.refl.rel hp).put hM1 k1p
  refine lc_numbers (hR0.at).refl (by omega) (fun i M' P hP k => ?_) (fun far M2 hfl hfs hM2 => ?_)
  · exact ⟨p, 9, _, rfl, hP, by decide, by decide, k⟩
  have hk1' : M2 k1 = some (.lst (iL pt)) := (hM2.keep k1p).trans Mem.set_same
  have hR1 := hR0.step hp hM2
  refine ⟨_, rfl, fun k2 hk2 => ?_⟩
  obtain ⟨hMk2, k2p⟩ := hR1.fresh hp hk2
  have k12 : k1 ≠ k2 := fun z => by
    subst z
    rw [hk1'] at hk2
    cases hk2
  have hR2 : PoolRel M p (M2.set k2 (.lst (iL far))) := hR1.put hMk2 k2p
  have hk1'' : (M2.set k2 (.lst (iL far))) k1 = some (.lst (iL pt)) := (Mem.set_ne k12).trans hk1'
  have fin2 : ∀ (near far : List Int) z m, PoolRel M p m → m k1 = some (.lst (iL near)) → m k2 = some (.lst (iL far)) → near.length = pt.length → far.length = pt.length → Sm 1000000000 near → Sm 1000000000 far →
      points2 (enD M Q) [some (.cell p), some (.int edge), some (.lst (iL pt)), some (.cell k1), some (.cell k2), z] m := by
    intro near far z m hm h1 h2 l1' l2' s1 s2
    refine ⟨k1, _, rfl, h1, k2, _, rfl, (Mem.del_ne k12.symm).trans h2, l3, ?_⟩
    show Q (.new (.lst [.lst (iL pt), .lst (iL near), .lst (iL far)])) (M.restr ((m.del k1).del k2))
    exact q near far _ l1' l2' s1 s2 ((hm.drop hM1 k1p).drop hMk2 k2p).to
  have fin1 : ∀ (near : List Int) z m, PoolRel M p m → m k1 = some (.lst (iL near)) → m k2 = some (.lst (iL far)) → near.length = pt.length → Sm 1000000000 near →
      points1 (enD M Q) [some (.cell p), some (.int edge), some (.lst (iL pt)), some (.cell k1), some (.cell k2), z] m := by
    intro near z m hm h1 h2 l1' s1
    have sf := sm_mono (b := 1000000000) hfs (by decide)
    refine ifC (eq_dec edge 3) (fun _ => ?_) (fun _ => fin2 near far z m hm h1 h2 l1' hfl s1 sf)
    refine ⟨_, _, rfl, rfl, ifC (c := decide ((0 : Int) < (iL pt).length)) rfl (fun hpos => ?_) (fun _ => fin2 near far z m hm h1 h2 l1' hfl s1 sf)⟩
    have hpos := of_decide_eq_true hpos
    rw [iL_len] at hpos
    refine ⟨_, _, rfl, rfl, p, _, rfl, hm.at, by rw [iL_len]; exact hpos, log_ok (by omega) (by rw [iL_len]; omega), fun j m1 j1 j2 hm1 => ?_⟩
    have h1a := (hm1.keep k1p).trans h1
    have h2a := (hm1.keep k2p).trans h2
    have hm1 := hm.step hp hm1
    refine ⟨cp109, Or.inl (Or.inl (by decide)), p, 2 * 10 ^ (9 : Int).toNat + 1, rfl, hm1.at, by decide, by decide, fun v m3 v1 v2' hm3 => ⟨cp109, ?_⟩⟩
    have bv : -1000000000 ≤ v - 10 ^ (9 : Int).toNat ∧ v - 10 ^ (9 : Int).toNat ≤ 1000000000 := by
      rw [e109] at v2' ⊢
      omega
    have h1b := (hm3.keep k1p).trans h1a
    have h2b := (hm3.keep k2p).trans h2a
    have hm3 := hm1.step hp hm3
    rw [iL_len] at j2
    have hj : j.toNat < far.length := by omega
    have ej : j = (j.toNat : Int) := by omega
    refine ⟨k2, _, j, j.toNat, rfl, rfl, h2b, ?_, ?_⟩
    · have := ixN_of (n := (iL far).length) (j := j.toNat) (by rw [iL_len]; exact hj)
      rwa [← ej] at this
    refine fin2 near (far.set j.toNat (v - 10 ^ (9 : Int).toNat)) _ _ (hm3.put hMk2 k2p) ((Mem.set_ne k12).trans h1b) ?_ l1' (by rw [List.length_set]; exact hfl) s1 (sm_set sf bv)
    rw [Mem.set_same]
    exact congrArg (fun l => some (MV.lst l)) List.map_set.symm
  refine ⟨_, _, rfl, rfl, ifC (c := decide ((0 : Int) < (iL pt).length)) rfl (fun hpos => ?_) (fun _ => fin1 pt _ _ hR2 hk1'' Mem.set_same rfl (sm_mono hs (by decide)))⟩
  have hpos := of_decide_eq_true hpos
  rw [iL_len] at hpos
  refine ⟨_, _, rfl, rfl, p, _, rfl, hR2.at, by rw [iL_len]; exact hpos, log_ok (by omega) (by rw [iL_len]; omega), fun j m1 j1 j2 hm1 => ?_⟩
  have h1a := (hm1.keep k1p).trans hk1''
  have h2a := (hm1.keep k2p).trans (Mem.set_same (M := M2) (m := .lst (iL far)))
  have hm1 := hR2.step hp hm1
  rw [iL_len] at j2
  have hj : j.toNat < pt.length := by omega
  have ej : j = (j.toNat : Int) := by omega
  have ex : atI (iL pt) j = some (.int pt[j.toNat]) := by
    have h := at_iL hj
    rwa [← ej] at h
  have bj := hs.get hj
  refine ⟨j, _, _, rfl, h1a, ex, p, 2, rfl, hm1.at, by decide, by decide, fun v m3 v1 v2' hm3 => ⟨Or.inl (Or.inl (by decide)), ?_⟩⟩
  have h1b := (hm3.keep k1p).trans h1a
  have h2b := (hm3.keep k2p).trans h2a
  have hm3 := hm1.step hp hm3
  refine ⟨k1, _, j, j.toNat, rfl, rfl, h1b, ?_, ?_⟩
  · have := ixN_of (n := (iL pt).length) (j := j.toNat) (by rw [iL_len]; exact hj)
    rwa [← ej] at this
  refine fin1 (pt.set j.toNat (pt[j.toNat] + 1 - 2 * v)) _ _ (hm3.put hM1 k1p) ?_ ((Mem.set_ne k12.symm).trans h2b) (by rw [List.length_set]) (sm_set (sm_mono hs (by decide)) (by omega))
  rw [Mem.set_same]
  exact congrArg (fun l => some (MV.lst l)) List.map_set.symm
end Lw
set_option Elab.async false
set_option linter.all false
set_option maxRecDepth 100000
set_option maxHeartbeats 4000000
namespace Lw
open PySem PySem.Spec PyProof.Rows L2 Dl
theorem its_lst (k : Kd) (a : List Int) (c : Int) (d : Dat) : cut (Cd.its ⟨k, a, c⟩) none (some (-1)) ++ [d] = k.its d := by
  cases k <;> rfl
theorem ok__law_listed (ds : List Dat) (M : Mem) (Q : Rv → Mem → Prop) (h : fs__law_listed ds M Q) : rd__law_listed (enD M Q) (startD N__law_listed ds) M := by
  obtain ⟨x, rfl, hl, q⟩ := h
  refine ⟨-1, _, _, rfl, seq_enc x, its_l x, _, _, rfl, rfl, l1, ?_⟩
  refine ⟨?_, ?_⟩
  · exact Nat.le_trans (Nat.add_le_add_right (its_cut_len x) 1) (by decide)
  · show Q _ (M.restr M)
    rw [Mem.restr_self]
    have e := its_lst x.k x.a x.c (encP x.row)
    rw [← e] at q
    exact q
/-! ### weaker wishes -/
section
variable {cC cP cS C : Addr} {ds : List Dat} {M : Mem} {Q Q' : Rv → Mem → Prop} {W W' : XF}
theorem sysIn_mono {w : Int} {xs : List Rc} {P P' : List Cd → Prop} (h : sysIn cS w xs M P W) (k : ∀ cs, P cs → P' cs) (kw : ∀ d c fl, W d c fl M → W' d c fl M) : sysIn cS w xs M P' W' := by
  rcases h with ⟨n, e, h1, h2, h3⟩ | ⟨h1, h2⟩
  · refine Or.inl ⟨n, e, h1, h2, ?_⟩
    cases hb : firstBad xs with
    | none =>
      rw [hb] at h3
      exact k _ h3
    | some i =>
      rw [hb] at h3
      exact fun d => kw _ _ _ (h3 d)
  · exact Or.inr ⟨h1, fun d => kw _ _ _ (h2 d)⟩
theorem holds_mono (h : fx_System_holds cP C ds M Q W) (k : ∀ r, (∀ p, r ≠ .d (.cell p)) → Q r M → Q' r M) (kw : ∀ d c fl, W d c fl M → W' d c fl M) : fx_System_holds cP C ds M Q' W' := by
  obtain ⟨w, cs, pt, e, h1, h2, h3, h4, h5, h6⟩ := h
  refine ⟨w, cs, pt, e, h1, h2, h3, h4, h5, ?_⟩
  split
  · rename_i z
    rw [if_pos z] at h6
    exact k _ (fun _ y => by cases y) h6
  · rename_i z
    rw [if_neg z] at h6
    exact fun d => kw _ _ _ (h6 d)
theorem and_mono (h : fx_System___and__ cS C ds M Q W) (k : ∀ r, (∀ p, r ≠ .d (.cell p)) → Q r M → Q' r M) (kw : ∀ d c fl, W d c fl M → W' d c fl M) : fx_System___and__ cS C ds M Q' W' := by
  obtain ⟨w, v, cs, es, h1, h2, h3, h4, h5, h6, h7⟩ := h
  refine ⟨w, v, cs, es, h1, h2, h3, h4, h5, h6, ?_⟩
  split
  · rename_i z
    rw [if_pos z] at h7
    exact k _ (fun _ y => by cases y) h7
  · rename_i z
    rw [if_neg z] at h7
    exact fun d => kw _ _ _ (h7 d)
theorem adding_mono (h : fx_System_adding cS C ds M Q W) (k : ∀ r, (∀ p, r ≠ .d (.cell p)) → Q r M → Q' r M) (kw : ∀ d c fl, W d c fl M → W' d c fl M) : fx_System_adding cS C ds M Q' W' := by
  obtain ⟨w, cs, xs, h1, h2, h3, h4, h5, h6, h7⟩ := h
  refine ⟨w, cs, xs, h1, h2, h3, h4, h5, h6, ?_⟩
  cases hb : firstBad xs with
  | none =>
    rw [hb] at h7
    exact k _ (fun _ y => by cases y) h7
  | some i =>
    rw [hb] at h7
    exact fun d => kw _ _ _ (h7 d)
theorem widened_mono (h : fx_System_widened cC cS C ds M Q W) (k : ∀ r, (∀ p, r ≠ .d (.cell p)) → Q r M → Q' r M) (kw : ∀ d c fl, W d c fl M → W' d c fl M) : fx_System_widened cC cS C ds M Q' W' := by
  obtain ⟨w, n, cs, h1, h2, h3, h4, h5, h6, h7⟩ := h
  refine ⟨w, n, cs, h1, h2, h3, h4, h5, h6, ?_⟩
  split
  · rename_i z
    rw [if_pos z] at h7
    exact fun d => kw _ _ _ (h7 d)
  · rename_i z
    rw [if_neg z] at h7
    split
    · rename_i z2
      rw [if_pos z2] at h7
      exact fun d => kw _ _ _ (h7 d)
    · rename_i z2
      rw [if_neg z2] at h7
      exact k _ (fun _ y => by cases y) h7
theorem fixed_mono (h : fx_System_fixed cP cS C ds M Q W) (k : ∀ r, (∀ p, r ≠ .d (.cell p)) → Q r M → Q' r M) (kw : ∀ d c fl, W d c fl M → W' d c fl M) : fx_System_fixed cP cS C ds M Q' W' := by
  obtain ⟨w, ns, e, cs, h1, h2, h3, h4, h5, h6, h7⟩ := h
  refine ⟨w, ns, e, cs, h1, h2, h3, h4, h5, h6, ?_⟩
  split
  · rename_i z
    rw [if_pos z] at h7
    exact fun d => kw _ _ _ (h7 d)
  · rename_i z
    rw [if_neg z] at h7
    exact ⟨h7.1, k _ (fun _ y => by cases y) h7.2⟩
theorem do_mono (h : fx__law_do cC cP cS C ds M Q W) (k : ∀ r, (∀ p, r ≠ .d (.cell p)) → Q r M → Q' r M) (kw : ∀ d c fl, W d c fl M → W' d c fl M) : fx__law_do cC cP cS C ds M Q' W' := by
  obtain ⟨sy, th, deed, h1, h2⟩ := h
  refine ⟨sy, th, deed, h1, ?_⟩
  rcases h2 with ⟨e, v, d, xs, h3, h4, h5, h6⟩ | ⟨e, h3⟩ | ⟨e, h3⟩ | ⟨e, h3⟩ | ⟨e, x, y, h3, h4⟩ | ⟨e, h3⟩ | ⟨e, h3⟩
  · exact Or.inl ⟨e, v, d, xs, h3, h4, h5, sysIn_mono h6 (fun _ z => k _ (fun _ y => by cases y) z) kw⟩
  · exact Or.inr (Or.inl ⟨e, holds_mono h3 k kw⟩)
  · exact Or.inr (Or.inr (Or.inl ⟨e, holds_mono h3 k kw⟩))
  · exact Or.inr (Or.inr (Or.inr (Or.inl ⟨e, and_mono h3 k kw⟩)))
  · exact Or.inr (Or.inr (Or.inr (Or.inr (Or.inl ⟨e, x, y, h3, adding_mono h4 k kw⟩))))
  · exact Or.inr (Or.inr (Or.inr (Or.inr (Or.inr (Or.inl ⟨e, widened_mono h3 k kw⟩)))))
  · exact Or.inr (Or.inr (Or.inr (Or.inr (Or.inr (Or.inr ⟨e, fixed_mono h3 k kw⟩)))))
end
/-! ### _law_fault -/
theorem drop_call (fs : FSX) (ψ : DA) (ds : List Dat) {E : En} {env : Dl.Env} {M : Mem} (k : ∀ P : List Dat → Mem → Prop, P ds M → ψ env M P) (h : fs ds M (fun _ M1 => E.nx env M1) fun d C fl M' => E.ex d C fl (List.replicate env.length none) M') : dDropZ (dCallZ fs ψ) E env M := k _ h
theorem try_at {mt : Addr → Addr → Option Bool} {cl : List Cl} {φ : DS} {E : En} {env : Dl.Env} {M : Mem} (h : φ { E with ex := dCl mt E cl } env M) : dTry mt cl φ E env M := h
structure EF (K : PySem.W.Frag) (cC cP cS cL : Addr) : Prop where
  mSS : mtK K cS cS = some true
  mPS : mtK K cP cS = some false
  mPP : mtK K cP cP = some true
  mCS : mtK K cC cS = some false
  mCP : mtK K cC cP = some false
  mCC : mtK K cC cC = some true
  iSP : itK K (.ref cP) cS = some false
  iSC : itK K (.ref cC) cS = some false
  iSL : itK K (.ref cL) cS = some true
  iSV : itK K (.type "ValueError") cS = some true
  iPC : itK K (.ref cC) cP = some false
  iPL : itK K (.ref cL) cP = some true
  iPV : itK K (.type "ValueError") cP = some true
  iCL : itK K (.ref cL) cC = some true
  iCV : itK K (.type "ValueError") cC = some true
theorem ok__law_fault (K : PySem.W.Frag) (cC cP cS cL C : Addr) (F : EF K cC cP cS cL) (ds : List Dat) (M : Mem) (Q : Rv → Mem → Prop) (W : XF) (h : fx__law_fault cC cP cS cL C ds M Q W) : rd__law_fault K cC cP cS cL C (enX M Q W) (startD N__law_fault ds) M := by
  obtain ⟨hl, h⟩ := h
  match ds, hl, h with
  | [x, y, z], _, h =>
    unfold rd__law_fault
    refine try_at (E := { enX M Q W with nx := _ }) (drop_call (fx__law_do cC cP cS C) (dCons (dVar 0) (dCons (dVar 1) (dCons (dVar 2) dNil))) [x, y, z] (fun P p => p) ?_)
    refine do_mono h ?_ ?_
    · exact fun r _ q => ⟨l3, q⟩
    intro d c fl w
    rcases w with ⟨rfl, i, rfl, q⟩ | ⟨rfl, i, rfl, q⟩ | ⟨rfl, i, rfl, q⟩
    · refine ⟨true, F.mSS, fun _ a => ?_, fun z => by cases z⟩
      refine ⟨_, false, rfl, F.iSP, ?_⟩
      refine ⟨_, false, rfl, F.iSC, ?_⟩
      refine ⟨_, _, rfl, rfl, ?_⟩
      refine ⟨_, true, rfl, F.iSL, ?_⟩
      exact ⟨_, true, rfl, F.iSV, l3, q⟩
    · refine ⟨false, F.mPS, fun z => (by cases z), fun _ => ⟨true, F.mPP, fun _ a => ?_, fun z => by cases z⟩⟩
      refine ⟨_, false, rfl, F.iPC, ?_⟩
      refine ⟨_, _, rfl, rfl, ?_⟩
      refine ⟨_, true, rfl, F.iPL, ?_⟩
      exact ⟨_, true, rfl, F.iPV, l3, q⟩
    · refine ⟨false, F.mCS, fun z => (by cases z), fun _ => ⟨false, F.mCP, fun z => (by cases z), fun _ => ⟨true, F.mCC, fun _ a => ?_, fun z => by cases z⟩⟩⟩
      refine ⟨_, _, rfl, rfl, ?_⟩
      refine ⟨_, true, rfl, F.iCL, ?_⟩
      exact ⟨_, true, rfl, F.iCV, l3, q⟩
end Lw
set_option Elab.async false
set_option linter.all false
set_option maxRecDepth 100000
set_option maxHeartbeats 4000000
namespace Lw
open PySem PySem.Spec PyProof.Rows L2 Dl
theorem leave_of {M : Mem} {Q : Rv → Mem → Prop} {r : Rv} (hr : ∀ p, r ≠ .d (.cell p)) (h : Q r M) : leave M Q r M := by
  unfold leave
  split
  · exact absurd rfl (hr _)
  · rw [Mem.restr_self]
    exact h
theorem ok__law_do (cC cP cS C : Addr) (ds : List Dat) (M : Mem) (Q : Rv → Mem → Prop) (W : XF) (h : fx__law_do cC cP cS C ds M Q W) : rd__law_do cC cP cS C (enX M Q W) (startD N__law_do ds) M := by
  obtain ⟨sy, th, deed, rfl, h⟩ := h
  have kw : ∀ d c fl, W d c fl M → W d c fl (M.restr M) := fun d c fl z => by
    rw [Mem.restr_self]
    exact z
  rcases h with ⟨rfl, v, d, xs, rfl, h4, h5, h6⟩ | ⟨rfl, h⟩ | ⟨rfl, h⟩ | ⟨rfl, h⟩ | ⟨rfl, x, y, rfl, h⟩ | ⟨rfl, h⟩ | ⟨rfl, h⟩
  · refine ⟨0, _, _, rfl, rfl, rfl, 1, _, _, rfl, rfl, rfl, ?_⟩
    refine mk_rc h4 h5 ?_
    rcases h6 with ⟨n, rfl, hn, hf, hq⟩ | ⟨hw, hq⟩
    · refine Or.inl ⟨n, rfl, hn, hf, ?_⟩
      cases hb : firstBad xs with
      | none =>
        rw [hb] at hq
        exact leave_of (fun _ y => by cases y) hq
      | some i =>
        rw [hb] at hq
        exact fun d => kw _ _ _ (hq d)
    · exact Or.inr ⟨hw, fun d => kw _ _ _ (hq d)⟩
  · obtain ⟨w, cs, pt, e, he, _⟩ := id h
    have e1 : sy = sysD C w cs := (List.cons.inj he).1
    have e2 : th = e := (List.cons.inj (List.cons.inj he).2).1
    subst e1 e2
    exact ⟨_, _, rfl, ⟨rfl, rfl⟩, rfl, holds_mono h (fun r hr q => leave_of hr q) kw⟩
  · obtain ⟨w, cs, pt, e, he, _⟩ := id h
    have e1 : sy = sysD C w cs := (List.cons.inj he).1
    have e2 : th = e := (List.cons.inj (List.cons.inj he).2).1
    subst e1 e2
    refine ⟨_, _, _, rfl, rfl, ⟨rfl, rfl⟩, ?_⟩
    obtain ⟨w', cs', pt', e', he', g1, g2, g3, g4, g5⟩ := h
    refine ⟨w', cs', pt', e', he', g1, g2, g3, g4, ?_⟩
    split
    · rename_i z
      rw [if_pos z] at g5
      exact ⟨_, rfl, leave_of (fun _ y => by cases y) g5⟩
    · rename_i z
      rw [if_neg z] at g5
      exact fun d => kw _ _ _ (g5 d)
  · obtain ⟨w, v, cs, es, he, _⟩ := id h
    have e1 : sy = sysD C w cs := (List.cons.inj he).1
    have e2 : th = sysD C v es := (List.cons.inj (List.cons.inj he).2).1
    subst e1 e2
    exact ⟨_, _, _, _, rfl, rfl, ⟨rfl, rfl⟩, ⟨rfl, rfl⟩, and_mono h (fun r hr q => leave_of hr q) kw⟩
  · obtain ⟨w, cs, xs, he, _⟩ := id h
    have e1 : sy = sysD C w cs := (List.cons.inj he).1
    subst e1
    refine ⟨_, _, rfl, ⟨rfl, rfl⟩, rfl, 0, _, _, rfl, rfl, rfl, 1, _, _, rfl, rfl, rfl, l2, ?_⟩
    exact adding_mono h (fun r hr q => leave_of hr q) kw
  · obtain ⟨w, n, cs, he, _⟩ := id h
    have e1 : sy = sysD C w cs := (List.cons.inj he).1
    subst e1
    exact ⟨_, _, rfl, ⟨rfl, rfl⟩, rfl, widened_mono h (fun r hr q => leave_of hr q) kw⟩
  · obtain ⟨w, ns, e, cs, he, _⟩ := id h
    have e1 : sy = sysD C w cs := (List.cons.inj he).1
    subst e1
    exact ⟨_, _, rfl, ⟨rfl, rfl⟩, rfl, fixed_mono h (fun r hr q => leave_of hr q) kw⟩
end Lw
set_option Elab.async false
set_option linter.all false
set_option maxRecDepth 100000
set_option maxHeartbeats 4000000
namespace Lw
open PySem PySem.Spec PyProof.Rows L2 Dl
/-! ### what repr shows -/
theorem shown_int_len {i : Int} (h : -10000000000000000000000000000000000000000 ≤ i ∧ i ≤ 10000000000000000000000000000000000000000) : (PyData.shown (.int i)).length ≤ 42 := by
  have h1 : i.natAbs < 10 ^ 41 := by
    have e2 : (10 : Nat) ^ 41 = 100000000000000000000000000000000000000000 := by decide
    rw [e2]
    omega
  have h2 := int_text_length_le10 (k := 41) (by decide) h1
  show (Str.ofString (toString i)).length ≤ 42
  rw [PySem.ofString_length]
  exact h2
theorem show_int_log {i : Int} (h : -10000000000000000000000000000000000000000 ≤ i ∧ i ≤ 10000000000000000000000000000000000000000) : i.natAbs.log2 < 1920 := by
  by_cases z : i.natAbs = 0
  · rw [z]
    exact (by decide : Nat.log2 0 < 1920)
  · have h2 : i.natAbs < 2 ^ 150 := Nat.lt_of_le_of_lt (show i.natAbs ≤ 10000000000000000000000000000000000000000 by omega) (by decide)
    exact Nat.lt_of_lt_of_le ((Nat.log2_lt z).mpr h2) (by decide)
theorem shows_int {i : Int} (h : -10000000000000000000000000000000000000000 ≤ i ∧ i ≤ 10000000000000000000000000000000000000000) : Shows (.int i) :=
  ⟨by
    simp only [PyData.showable]
    exact decide_eq_true (show_int_log h), Nat.zero_le _, rfl, Nat.le_trans (shown_int_len h) (by decide)⟩
theorem shows_bool (b : Bool) : Shows (.bool b) := by
  cases b <;> exact ⟨rfl, by decide, rfl, by decide⟩
abbrev pyR (r : List Int) : PyData := .tuple (r.map PyData.int)
abbrev B40 : Int := 10000000000000000000000000000000000000000
theorem ints_sh : ∀ {r : List Int}, Sm B40 r → PyData.showableAll (r.map PyData.int) = true
  | [], _ => rfl
  | x :: r, h => by
    rw [List.map_cons]
    simp only [PyData.showableAll, PyData.showable, Bool.and_eq_true]
    exact ⟨decide_eq_true (show_int_log (h x List.mem_cons_self)), ints_sh fun y hy => h y (List.mem_cons_of_mem _ hy)⟩
theorem ints_nd : ∀ (r : List Int), PyData.hasDictAll (r.map PyData.int) = false
  | [] => rfl
  | x :: r => by
    rw [List.map_cons]
    simp only [PyData.hasDictAll, PyData.hasDict, Bool.false_or]
    exact ints_nd r
theorem ints_lv : ∀ {r : List Int}, Sm B40 r → PyData.leavesShortAll 42 (r.map PyData.int) = true
  | [], _ => rfl
  | x :: r, h => by
    rw [List.map_cons]
    simp only [PyData.leavesShortAll, PyData.leavesShort, Bool.and_eq_true]
    exact ⟨decide_eq_true (shown_int_len (h x List.mem_cons_self)), ints_lv fun y hy => h y (List.mem_cons_of_mem _ hy)⟩
theorem ints_bk : ∀ (r : List Int), PyData.bulkAll (r.map PyData.int) = r.length
  | [] => rfl
  | x :: r => by
    rw [List.map_cons]
    simp only [PyData.bulkAll, PyData.bulk, List.length_cons]
    rw [ints_bk r]
    omega
structure Ok5 (n k : Nat) (ps : List PyData) : Prop where
  sh : PyData.showableAll ps = true
  nd : PyData.hasDictAll ps = false
  cl : PyData.canLayAll0 ps = true
  lv : PyData.leavesShortAll 42 ps = true
  bk : PyData.bulkAll ps ≤ n
  dp : PyData.depthAll ps ≤ k
structure Ok1 (n k : Nat) (p : PyData) : Prop where
  sh : PyData.showable p = true
  nd : PyData.hasDict p = false
  cl : PyData.canLay0 p = true
  lv : PyData.leavesShort 42 p = true
  bk : PyData.bulk p ≤ n
  dp : PyData.depth p ≤ k
theorem Ok5.nil : Ok5 0 0 [] := ⟨rfl, rfl, rfl, rfl, Nat.zero_le _, Nat.zero_le _⟩
theorem Ok5.cons {n m k : Nat} {p : PyData} {ps : List PyData} (h : Ok1 n k p) (g : Ok5 m k ps) : Ok5 (n + m + 1) k (p :: ps) := by
  constructor
  · simp only [PyData.showableAll, h.sh, g.sh, Bool.and_self]
  · simp only [PyData.hasDictAll, h.nd, g.nd, Bool.or_self]
  · simp only [PyData.canLayAll0, h.cl, g.cl, Bool.and_self]
  · simp only [PyData.leavesShortAll, h.lv, g.lv, Bool.and_self]
  · have := h.bk
    have := g.bk
    simp only [PyData.bulkAll]
    omega
  · have := h.dp
    have := g.dp
    simp only [PyData.depthAll]
    omega
theorem Ok5.tup {n k : Nat} {ps : List PyData} (g : Ok5 n k ps) : Ok1 (n + 1) (k + 1) (.tuple ps) := by
  constructor
  · simp only [PyData.showable, g.sh]
  · simp only [PyData.hasDict, g.nd]
  · simp only [PyData.canLay0, g.cl]
  · simp only [PyData.leavesShort, g.lv]
  · have := g.bk
    simp only [PyData.bulk]
    omega
  · have := g.dp
    simp only [PyData.depth]
    omega
theorem Ok5.lst {n k : Nat} {ps : List PyData} (g : Ok5 n k ps) : Ok1 (n + 1) (k + 1) (.list ps) := by
  constructor
  · simp only [PyData.showable, g.sh]
  · simp only [PyData.hasDict, g.nd]
  · simp only [PyData.canLay0, g.cl]
  · simp only [PyData.leavesShort, g.lv]
  · have := g.bk
    simp only [PyData.bulk]
    omega
  · have := g.dp
    simp only [PyData.depth]
    omega
theorem Ok5.up {n n2 k k2 : Nat} {ps : List PyData} (g : Ok5 n k ps) (h : n ≤ n2) (h2 : k ≤ k2) : Ok5 n2 k2 ps := ⟨g.sh, g.nd, g.cl, g.lv, Nat.le_trans g.bk h, Nat.le_trans g.dp h2⟩
theorem Ok1.up {n n2 k k2 : Nat} {ps : PyData} (g : Ok1 n k ps) (h : n ≤ n2) (h2 : k ≤ k2) : Ok1 n2 k2 ps := ⟨g.sh, g.nd, g.cl, g.lv, Nat.le_trans g.bk h, Nat.le_trans g.dp h2⟩
theorem ok1_int {i : Int} (h : -B40 ≤ i ∧ i ≤ B40) : Ok1 0 0 (.int i) := by
  constructor
  · simp only [PyData.showable]
    exact decide_eq_true (show_int_log h)
  · rfl
  · rfl
  · simp only [PyData.leavesShort]
    exact decide_eq_true (shown_int_len h)
  · exact Nat.le_refl _
  · exact Nat.le_refl _
theorem ok5_ints {r : List Int} (h : Sm B40 r) : Ok5 r.length 0 (r.map PyData.int) := ⟨ints_sh h, ints_nd r, canLay_ints r, ints_lv h, Nat.le_of_eq (ints_bk r), Nat.le_of_eq (depth_ints r)⟩
theorem ok5_all {α : Type} {n k : Nat} {f : α → PyData} : ∀ {xs : List α}, (∀ x ∈ xs, Ok1 n k (f x)) → Ok5 ((n + 1) * xs.length) k (xs.map f)
  | [], _ => Ok5.nil.up (Nat.zero_le _) (Nat.zero_le _)
  | x :: xs, h => (Ok5.cons (h x List.mem_cons_self) (ok5_all fun y hy => h y (List.mem_cons_of_mem _ hy))).up (by rw [List.length_cons, Nat.mul_add, Nat.mul_one]; omega) (Nat.le_refl _)
theorem Ok1.shows {n k : Nat} {p : PyData} (h : Ok1 n k p) (hn : n ≤ 300000) (hk : k ≤ 60) : Shows p := by
  refine ⟨h.sh, Nat.le_trans h.dp hk, h.nd, ?_⟩
  have h6 := PyData.shown_le_bulk 42 (by decide) _ h.lv
  have h7 : (42 + 2) * PyData.bulk p ≤ 44 * 300000 := Nat.mul_le_mul (by decide) (Nat.le_trans h.bk hn)
  exact Nat.le_trans (by omega) (show 44 * 300000 + 42 ≤ sizeLine by decide)
theorem Ok1.shaped {n k : Nat} {p : PyData} (h : Ok1 n k p) (hk : k ≤ 20) : SeqAt.shaped p = true := by
  unfold SeqAt.shaped
  rw [h.cl, decide_eq_true (Nat.le_trans h.dp (show k ≤ _ by omega))] <;> rfl
theorem same_str (s : Str) : (true != decide (s = s)) = false := by
  rw [decide_eq_true rfl] <;> rfl
theorem same_str2 (s : Str) : (false != decide (s = s)) = true := by
  rw [decide_eq_true rfl] <;> rfl
theorem ok1_str {w : Str} (hw : w = "system" ∨ w = "point" ∨ w = "count") : Ok1 6 0 (.str w) := by
  have key : Ok1 6 0 (.str "system") ∧ Ok1 6 0 (.str "point") ∧ Ok1 6 0 (.str "count") := by
    refine ⟨?_, ?_, ?_⟩ <;> constructor <;> decide +kernel
  rcases hw with rfl | rfl | rfl
  · exact key.1
  · exact key.2.1
  · exact key.2.2
theorem ok1_bool (b : Bool) : Ok1 0 0 (.bool b) := by
  constructor
  · rfl
  · rfl
  · rfl
  · cases b <;> decide
  · exact Nat.le_refl _
  · exact Nat.le_refl _
abbrev toldP (w : Str) (i : Int) : PyData := .tuple [.str w, .int i, .bool true]
theorem told_py {M : Mem} (w : Str) (i : Int) : PyOf M (told w i) (toldP w i) := .tup (.cons (.str _) (.cons (.int _) (.cons (.bl _) .nil)))
theorem told_ok {w : Str} {i : Int} (hw : w = "system" ∨ w = "point" ∨ w = "count") (h1 : -1000000 ≤ i) (h2 : i ≤ 1000000) : Shows (toldP w i) := by
  have hi : Ok1 0 0 (.int i) := ok1_int (show -10000000000000000000000000000000000000000 ≤ i ∧ i ≤ 10000000000000000000000000000000000000000 by omega)
  have hs := ok1_str hw
  exact (Ok5.tup (Ok5.cons hs (Ok5.cons hi (Ok5.cons (ok1_bool true) (Ok5.nil.up (Nat.le_refl _) (Nat.le_refl _)))))).shows (by decide) (by decide)
theorem fault_mono {cC cP cS cL C : Addr} {ds : List Dat} {M : Mem} {Q Q' : Rv → Mem → Prop} {W W' : XF} (h : fx__law_fault cC cP cS cL C ds M Q W) (k : ∀ w i, Q (.d (told w i)) (M.restr M) → Q' (.d (told w i)) (M.restr M)) : fx__law_fault cC cP cS cL C ds M Q' W' := by
  obtain ⟨hl, h⟩ := h
  refine ⟨hl, do_mono h (fun r _ q => k _ _ q) fun d c fl z => ?_⟩
  rcases z with ⟨e, i, e2, q⟩ | ⟨e, i, e2, q⟩ | ⟨e, i, e2, q⟩
  · exact Or.inl ⟨e, i, e2, k _ _ q⟩
  · exact Or.inr (Or.inl ⟨e, i, e2, k _ _ q⟩)
  · exact Or.inr (Or.inr ⟨e, i, e2, k _ _ q⟩)
theorem two_repr {fs : FS} {ψ ψ2 : DA} {E : En} {env : Dl.Env} {M : Mem} {ds : List Dat} {w : Str} {i : Int} (k : ∀ P : List Dat → Mem → Prop, P ds M → ψ env M P) (k2 : ∀ (N : Mem) (P : List Dat → Mem → Prop), P [.str w, .int i, .bl true] N → ψ2 env N P)
    (hs : Shows (toldP w i)) (h : ∀ P : Rv → Mem → Prop, (∀ N, E.rt (.d (.bl true)) N → P (.d (told w i)) N) → fs ds M P) : dRet (dOp oEq (dCB bRepr (dCons (dCB fs ψ) dNil)) (dCB bRepr (dCons (dTup ψ2) dNil))) E env M := by
  refine k _ (h _ fun N g => ?_)
  refine ⟨told w i, toldP w i, rfl, told_py w i, hs, ?_⟩
  refine k2 N _ ⟨l3, ?_⟩
  refine ⟨told w i, toldP w i, rfl, told_py w i, hs, ?_⟩
  show E.rt (.d (.bl (false != decide (_ = _)))) N
  rw [same_str2]
  exact g
theorem ok__law_refuses (cC cP cS cL C : Addr) (ds : List Dat) (M : Mem) (Q : Rv → Mem → Prop) (h : fs__law_refuses cC cP cS cL C ds M Q) : rd__law_refuses cC cP cS cL C (enD M Q) (startD N__law_refuses ds) M := by
  obtain ⟨sy, th, deed, w, i, rfl, hw, h1, h2, h⟩ := h
  unfold rd__law_refuses
  refine two_repr (ds := [sy, .str deed, th]) (w := w) (i := i) (fun P p => p) (fun N P p => p) (told_ok hw h1 h2) fun P hP => ?_
  refine fault_mono (W' := noX) h fun w' i' z => ?_
  obtain ⟨e, q⟩ := z
  rw [e]
  refine hP _ ?_
  show Q _ (M.restr (M.restr M))
  exact q
end Lw
set_option Elab.async false
set_option linter.all false
set_option maxRecDepth 100000
set_option maxHeartbeats 4000000
namespace Lw
open PySem PySem.Spec PyProof.Rows L2 Dl
theorem ok__law_bad (ds : List Dat) (M : Mem) (Q : Rv → Mem → Prop) (h : fs__law_bad ds M Q) : rd__law_bad (enD M Q) (startD N__law_bad ds) M := by
  obtain ⟨p, w, rfl, hp, hw, q⟩ := h
  refine ⟨p, 8, rfl, hp, by decide, by decide, fun v1 M1 a1 a2 hM1 => ?_⟩
  refine ⟨p, 8, rfl, hM1.at, by decide, by decide, fun v2 M2 b1 b2 hM2 => ?_⟩
  have hM2 := hM1.trans hM2
  refine ⟨by omega, by omega, ?_⟩
  rw [show ((w : Int) + 1).toNat = w + 1 by omega]
  refine lc_numbers hM2 (by omega) (fun i M' P hP k => ?_) (fun r M3 hr hrs hM3 => ?_)
  · exact ⟨p, 9, _, rfl, hP, by decide, by decide, k⟩
  refine ⟨_, _, rfl, rfl, ?_⟩
  have fin : ∀ x : Rc, (∀ N : Mem, x.fit N w) → x.cd = none → Q (.d x.dat) (M.restr M3) := fun x hx hc => by
    rw [hM3.restr hp]
    exact q x M3 hM3 hx hc
  have er : ∀ t : List Int, iL r ++ iL t = iL (r ++ t) := fun t => (iL_app r t).symm
  have lr : (iL r).length ≤ 100 := by rw [iL_len]; omega
  refine ifC (eq_dec v1 0) (fun _ => ?_) fun _ => ?_
  · refine ⟨l1, lz (Nat.le_trans (Nat.add_le_add_right lr 1) (by decide)), l2, ?_⟩
    have z := fin (.len .ge (r ++ [1]) (encR (r ++ [1]))) (fun N => ⟨rfl, by rw [List.length_append, List.length_singleton]; omega, by rw [List.length_append, List.length_singleton]; omega⟩) rfl
    rw [show encR (r ++ [1]) = .tup (iL r ++ [.int 1]) from congrArg Dat.tup (iL_app r [1])] at z
    exact z
  have cutl : cut (iL r) (some ((1 : Nat) : Int)) none = iL (r.drop 1) := by rw [cut_from, ← List.map_drop]
  have short : ∀ k : Kd, Q (.d (.tup (k.its (encR (r.drop 1))))) (M.restr M3) := fun k => fin (.len k (r.drop 1) (encR (r.drop 1))) (fun N => ⟨rfl, by rw [List.length_drop]; omega, by rw [List.length_drop]; omega⟩) rfl
  refine ifC (eq_dec v1 1) (fun _ => ?_) fun _ => ?_
  · refine ⟨l2, ?_⟩
    show Q (.d (.tup [.str "ge", .tup (cut (iL r) (some ((1 : Nat) : Int)) none)])) _
    rw [cutl]
    exact short .ge
  refine ifC (eq_dec v1 2) (fun _ => ?_) fun _ => ?_
  · refine ⟨l2, ?_⟩
    show Q (.d (.tup [.str "eq", .tup (cut (iL r) (some ((1 : Nat) : Int)) none)])) _
    rw [cutl]
    exact short .eq
  refine ifC (eq_dec v1 3) (fun _ => ?_) fun _ => ?_
  · refine ⟨l2, lz (Nat.le_trans (Nat.add_le_add_right lr 2) (by decide)), l2, ?_⟩
    have z := fin (.len .eq (r ++ [0, 0]) (encR (r ++ [0, 0]))) (fun N => ⟨rfl, by rw [List.length_append]; show r.length + 2 ≠ _; omega, by rw [List.length_append]; show r.length + 2 ≤ _; omega⟩) rfl
    rw [show encR (r ++ [0, 0]) = .tup (iL r ++ [.int 0, .int 0]) from congrArg Dat.tup (iL_app r [0, 0])] at z
    exact z
  refine ifC (eq_dec v1 4) (fun _ => ?_) fun _ => ?_
  · refine ⟨l3, ?_⟩
    show Q (.d (.tup [.str "div", .int (2 + v2), .tup (cut (iL r) (some ((1 : Nat) : Int)) none)])) _
    rw [cutl]
    exact short (.div (2 + v2))
  refine ifC (eq_dec v1 5) (fun _ => ?_) fun _ => ?_
  · refine ⟨l1, lz (Nat.le_trans (Nat.add_le_add_right lr 1) (by decide)), l3, ?_⟩
    have z := fin (.len (.div (2 + v2)) (r ++ [4]) (encR (r ++ [4]))) (fun N => ⟨rfl, by rw [List.length_append, List.length_singleton]; omega, by rw [List.length_append, List.length_singleton]; omega⟩) rfl
    rw [show encR (r ++ [4]) = .tup (iL r ++ [.int 4]) from congrArg Dat.tup (iL_app r [4])] at z
    exact z
  refine ifC (eq_dec v1 6) (fun _ => ?_) fun _ => ?_
  · refine ⟨show (0 : Int) < 3 by decide, l3, ?_⟩
    have hm := modb v2 3 (by decide)
    exact fin (.mod (1 - v2 % 3) r (encR r)) (fun N => ⟨rfl, by omega, by omega, by omega⟩) rfl
  · refine ⟨by show 8 ≤ sizeLine; decide, ?_⟩
    have hv : v2 = 0 ∨ v2 = 1 ∨ v2 = 2 ∨ v2 = 3 ∨ v2 = 4 ∨ v2 = 5 ∨ v2 = 6 ∨ v2 = 7 := by omega
    have ww : ∀ s : Str, s ≠ "ge" ∧ s ≠ "eq" ∧ s ≠ "div" → Q (.d (.tup [.str s, encR r])) (M.restr M3) := fun s hs => fin (.word s (encR r)) (fun N => hs) rfl
    rcases hv with rfl | rfl | rfl | rfl | rfl | rfl | rfl | rfl
    · exact ⟨0, _, _, rfl, rfl, rfl, l2, ww _ (by decide +kernel)⟩
    · exact ⟨1, _, _, rfl, rfl, rfl, l2, ww _ (by decide +kernel)⟩
    · exact ⟨2, _, _, rfl, rfl, rfl, l2, ww _ (by decide +kernel)⟩
    · exact ⟨3, _, _, rfl, rfl, rfl, l2, ww _ (by decide +kernel)⟩
    · exact ⟨4, _, _, rfl, rfl, rfl, l2, ww _ (by decide +kernel)⟩
    · exact ⟨5, _, _, rfl, rfl, rfl, l2, ww _ (by decide +kernel)⟩
    · exact ⟨6, _, _, rfl, rfl, rfl, l2, ww _ (by decide +kernel)⟩
    · exact ⟨7, _, _, rfl, rfl, rfl, l2, ww _ (by decide +kernel)⟩
end Lw
set_option Elab.async false
set_option linter.all false
set_option maxRecDepth 100000
set_option maxHeartbeats 4000000
namespace Lw
open PySem PySem.Spec PyProof.Rows L2 Dl
theorem eqv_refl_ints : ∀ ns : List Int, PyData.eqvAll (ns.map PyData.int) (ns.map PyData.int) = true
  | [] => rfl
  | n :: r => by
    rw [List.map_cons]
    simp only [PyData.eqvAll, PyData.eqv, Bool.and_eq_true]
    exact ⟨beq_self_eq_true n, eqv_refl_ints r⟩
theorem eqv_self (ns : List Int) : (true != PyData.eqv (.list (ns.map PyData.int)) (.list (ns.map PyData.int))) = false := by
  have : PyData.eqv (.list (ns.map PyData.int)) (.list (ns.map PyData.int)) = true := by
    simp only [PyData.eqv]
    exact eqv_refl_ints ns
  rw [this] <;> rfl
theorem bool_ne (a : Bool) : (true != PyData.eqv (.bool a) (.bool a)) = false := by cases a <;> rfl
/-! ### conditions shown -/
def pyC (x : Cd) : PyData := .tuple (match x.k with
  | .ge => [.str "ge", pyR x.row]
  | .eq => [.str "eq", pyR x.row]
  | .div m => [.str "div", .int m, pyR x.row])
theorem py_C {M : Mem} (x : Cd) : PyOf M x.enc (pyC x) := by
  obtain ⟨k, a, c⟩ := x
  cases k with
  | ge => exact .tup (.cons (.str _) (.cons (.tup (PyOfA.ints M _)) .nil))
  | eq => exact .tup (.cons (.str _) (.cons (.tup (PyOfA.ints M _)) .nil))
  | div m => exact .tup (.cons (.str _) (.cons (.int _) (.cons (.tup (PyOfA.ints M _)) .nil)))
theorem ok1_kind : Ok1 6 0 (.str "ge") ∧ Ok1 6 0 (.str "eq") ∧ Ok1 6 0 (.str "div") := by
  refine ⟨?_, ?_, ?_⟩ <;> constructor <;> decide +kernel
theorem row_sm {w : Nat} {x : Cd} (h : Gd w 10000000000000000000 x) : Sm B40 x.row ∧ x.row.length = w + 1 := by
  obtain ⟨h1, h2, h3, h4, _⟩ := h
  refine ⟨fun z hz => ?_, by show (x.a ++ [x.c]).length = _; rw [List.length_append, h1] <;> rfl⟩
  rcases List.mem_append.mp hz with k | k
  · have := h2 z k
    show -10000000000000000000000000000000000000000 ≤ z ∧ z ≤ 10000000000000000000000000000000000000000
    omega
  · rw [List.mem_singleton.mp k]
    show -10000000000000000000000000000000000000000 ≤ x.c ∧ x.c ≤ 10000000000000000000000000000000000000000
    omega
theorem ok1_C {w : Nat} {x : Cd} (h : Gd w 10000000000000000000 x) : Ok1 (w + 30) 2 (pyC x) := by
  obtain ⟨h1, h2⟩ := row_sm h
  have hr : Ok1 (w + 2) 1 (pyR x.row) := (ok5_ints h1).tup.up (by omega) (Nat.le_refl _)
  have n0 : Ok5 0 1 [] := Ok5.nil.up (Nat.le_refl _) (by decide)
  have hk := h.2.2.2.2
  unfold pyC
  cases hx : x.k with
  | ge => exact (Ok5.tup (Ok5.cons (ok1_kind.1.up (Nat.le_refl _) (by decide)) (Ok5.cons hr n0))).up (by omega) (Nat.le_refl _)
  | eq => exact (Ok5.tup (Ok5.cons (ok1_kind.2.1.up (Nat.le_refl _) (by decide)) (Ok5.cons hr n0))).up (by omega) (Nat.le_refl _)
  | div m =>
    rw [hx] at hk
    have hm : 2 ≤ m ∧ m ≤ 60 := hk
    have hi : Ok1 0 1 (.int m) := (ok1_int (show -10000000000000000000000000000000000000000 ≤ m ∧ m ≤ 10000000000000000000000000000000000000000 by omega)).up (Nat.le_refl _) (by decide)
    exact (Ok5.tup (Ok5.cons (ok1_kind.2.2.up (Nat.le_refl _) (by decide)) (Ok5.cons hi (Ok5.cons hr n0)))).up (by omega) (Nat.le_refl _)
theorem shows_cs {w : Nat} {cs : List Cd} (hl : cs.length ≤ 500) (hb : cs.length * (w + 3) ≤ 3000) (hg : Good w cs) : Shows (.tuple (cs.map pyC)) := by
  have h := (ok5_all (f := pyC) (xs := cs) fun x hx => ok1_C (hg x hx)).tup
  refine h.shows ?_ (by decide)
  have e : (w + 30 + 1) * cs.length = cs.length * (w + 3) + 28 * cs.length := by
    rw [Nat.mul_comm, show w + 30 + 1 = (w + 3) + 28 by omega, Nat.mul_add, Nat.mul_comm cs.length 28]
  omega
theorem py_cs {M : Mem} (cs : List Cd) : PyOfA M (cs.map Cd.enc) (cs.map pyC) := PyOfA.map py_C cs
theorem shows_bb (a b : Bool) : Shows (.list [.bool a, .bool b]) := (Ok5.lst (Ok5.cons (ok1_bool a) (Ok5.cons (ok1_bool b) Ok5.nil))).shows (by decide) (by decide)
theorem ok__law_agrees (cP C : Addr) (ds : List Dat) (M : Mem) (Q : Rv → Mem → Prop) (h : fs__law_agrees cP C ds M Q) : rd__law_agrees cP C (enD M Q) (startD N__law_agrees ds) M := by
  obtain ⟨w, cs, ps, rfl, hw, hl, hb, hg, hpl, hps, q⟩ := h
  have sI : Shows (.int (w : Int)) := shows_int (by omega)
  have sC := shows_cs hl hb hg
  refine ⟨rfl, _, rfl, _, _, rfl, .int _, sI, _, _, rfl, .int _, sI, ifF (same_str _) ?_⟩
  refine ⟨rfl, _, rfl, _, _, rfl, .tup (py_cs cs), sC, _, _, rfl, rfl, _, _, rfl, .tup (py_cs cs), sC, ifF (same_str _) ?_⟩
  refine ⟨_, rfl, ?_⟩
  refine for_rest (enc := encP) ps (fun r env m => m = M ∧ (∃ z4 z5 z6 z7, env = [some (sysD C w cs), some (.int w), some (.lst (cs.map Cd.enc)), some (.lst (ps.map encP)), z4, z5, z6, z7]) ∧ ∀ x ∈ r, x ∈ ps) ?_ ?_ ?_ ?_
  · exact ⟨rfl, ⟨_, _, _, _, rfl⟩, fun _ h => h⟩
  · rintro r env m _
    trivial
  · rintro x r env m ⟨rfl, ⟨z4, z5, z6, z7, rfl⟩, h2⟩
    obtain ⟨hx, hs⟩ := hps x (h2 x List.mem_cons_self)
    refine ⟨cs, x, _, rfl, rfl, by omega, by rw [hx]; exact hg, ?_⟩
    refine ⟨_, _, rfl, rfl, ?_⟩
    refine ⟨_, _, rfl, rfl, ?_⟩
    refine ⟨_, _, rfl, ⟨rfl, rfl⟩, rfl, w, cs, x, _, rfl, rfl, by omega, by omega, hg, ?_⟩
    rw [if_pos hx]
    refine ⟨_, _, rfl, ⟨rfl, rfl⟩, rfl, w, cs, x, _, rfl, rfl, by omega, by omega, hg, ?_⟩
    rw [if_pos hx]
    refine ⟨l2, _, _, rfl, .lst (.cons (.bl _) (.cons (.bl _) .nil)), shows_bb _ _, l2, _, _, rfl, .lst (.cons (.bl _) (.cons (.bl _) .nil)), shows_bb _ _, ifF (same_str _) ?_⟩
    refine ⟨_, _, _, rfl, rfl, ⟨rfl, rfl⟩, w, cs, x, _, rfl, rfl, by omega, by omega, hg, ?_⟩
    rw [if_pos hx]
    refine ⟨_, rfl, .bool _, .bool _, .bl _, .bl _, rfl, rfl, ifF (bool_ne _) ?_⟩
    refine ⟨_, _, _, rfl, rfl, ⟨rfl, rfl⟩, w, cs, x, _, rfl, rfl, by omega, by omega, hg, ?_⟩
    rw [if_pos hx]
    refine ⟨_, rfl, .bool _, .bool _, .bl _, .bl _, rfl, rfl, ifF (bool_ne _) ?_⟩
    refine ⟨.list (x.map PyData.int), .list (x.map PyData.int), .lst (PyOfA.ints _ x), .lst (PyOfA.ints _ x), shaped_ints x, shaped_ints x, ifF (eqv_self x) ?_⟩
    exact ⟨rfl, ⟨_, _, _, _, rfl⟩, fun y hy => h2 y (List.mem_cons_of_mem _ hy)⟩
  · rintro env m ⟨rfl, ⟨z4, z5, z6, z7, rfl⟩, _⟩
    show Q _ (m.restr m)
    rw [Mem.restr_self]
    exact q
end Lw
set_option Elab.async false
set_option linter.all false
set_option maxRecDepth 100000
set_option maxHeartbeats 4000000
namespace Lw
open PySem PySem.Spec PyProof.Rows L2 Dl
/-! ### what is refused -/
section
variable {cC cP cS cL C : Addr} {sy th : Dat} {deed : Str} {i : Int} {M : Mem} {Q : Rv → Mem → Prop}
theorem refuse_S (b1 : -1000000 ≤ i) (b2 : i ≤ 1000000) (h : ∀ (Q' : Rv → Mem → Prop) (W' : XF), throwS cS W' i M → fx__law_do cC cP cS C [sy, .str deed, th] M Q' W') (q : Q (.d (.bl true)) M) : fs__law_refuses cC cP cS cL C [sy, .str deed, th, .str "system", .int i] M Q :=
  ⟨sy, th, deed, "system", i, rfl, Or.inl rfl, b1, b2, rfl, h _ _ fun d => Or.inl ⟨rfl, i, rfl, rfl, by rw [Mem.restr_self, Mem.restr_self]; exact q⟩⟩
theorem refuse_P (b1 : -1000000 ≤ i) (b2 : i ≤ 1000000) (h : ∀ (Q' : Rv → Mem → Prop) (W' : XF), throwP cP W' i M → fx__law_do cC cP cS C [sy, .str deed, th] M Q' W') (q : Q (.d (.bl true)) M) : fs__law_refuses cC cP cS cL C [sy, .str deed, th, .str "point", .int i] M Q :=
  ⟨sy, th, deed, "point", i, rfl, Or.inr (Or.inl rfl), b1, b2, rfl, h _ _ fun d => Or.inr (Or.inl ⟨rfl, i, rfl, rfl, by rw [Mem.restr_self, Mem.restr_self]; exact q⟩)⟩
theorem refuse_C (b1 : -1000000 ≤ i) (b2 : i ≤ 1000000) (h : ∀ (Q' : Rv → Mem → Prop) (W' : XF), throwC cC W' i M → fx__law_do cC cP cS C [sy, .str deed, th] M Q' W') (q : Q (.d (.bl true)) M) : fs__law_refuses cC cP cS cL C [sy, .str deed, th, .str "count", .int i] M Q :=
  ⟨sy, th, deed, "count", i, rfl, Or.inr (Or.inr rfl), b1, b2, rfl, h _ _ fun d => Or.inr (Or.inr ⟨rfl, i, rfl, rfl, by rw [Mem.restr_self, Mem.restr_self]; exact q⟩)⟩
/-- System(v, d) with the first bad one at k -/
theorem refuse_make {n : Nat} {d : Dat} {xs : List Rc} {k : Nat} (hs : SeqR M (.d d) (xs.map Rc.dat)) (hl : xs.length ≤ 1000) (hn : n ≤ 80) (hf : ∀ x ∈ xs, x.fit M n) (hb : firstBad xs = some k) (hk : (k : Int) ≤ 1000000) (q : Q (.d (.bl true)) M) :
    fs__law_refuses cC cP cS cL C [sy, .str "make", .tup [.int n, d], .str "system", .int k] M Q :=
  refuse_S (by omega) hk (fun Q' W' t => ⟨sy, _, "make", rfl, Or.inl ⟨rfl, n, d, xs, rfl, hs, hl, Or.inl ⟨n, rfl, hn, hf, by rw [hb]; exact t⟩⟩⟩) q
/-- System(v, d) with a width out of bounds -/
theorem refuse_wide {v : Int} {d : Dat} {xs : List Rc} (hs : SeqR M (.d d) (xs.map Rc.dat)) (hl : xs.length ≤ 1000) (hv : v < 0 ∨ 80 < v) (q : Q (.d (.bl true)) M) :
    fs__law_refuses cC cP cS cL C [sy, .str "make", .tup [.int v, d], .str "system", .int (-1)] M Q :=
  refuse_S (by decide) (by decide) (fun Q' W' t => ⟨sy, _, "make", rfl, Or.inl ⟨rfl, v, d, xs, rfl, hs, hl, Or.inr ⟨hv, t⟩⟩⟩) q
theorem refuse_widened {w : Nat} {cs : List Cd} {n : Int} (hw : w ≤ 80) (h1 : -1000 ≤ n) (h2 : n ≤ 1000) (hn : n < 0 ∨ 80 < n) (hl : cs.length ≤ 500) (hg : Good w cs) (q : Q (.d (.bl true)) M) :
    fs__law_refuses cC cP cS cL C [sysD C w cs, .str "widened", .int n, .str "count", .int n] M Q :=
  refuse_C (by omega) (by omega) (fun Q' W' t => ⟨_, _, "widened", rfl, Or.inr (Or.inr (Or.inr (Or.inr (Or.inr (Or.inl ⟨rfl, w, n, cs, rfl, hw, h1, h2, hl, hg, by rw [if_pos hn]; exact t⟩)))))⟩) q
theorem refuse_over {w : Nat} {cs : List Cd} {n : Int} (hw : w ≤ 80) (h1 : 0 ≤ n) (h2 : n ≤ 80) (hn : 80 < (w : Int) + n) (hl : cs.length ≤ 500) (hg : Good w cs) (q : Q (.d (.bl true)) M) :
    fs__law_refuses cC cP cS cL C [sysD C w cs, .str "widened", .int n, .str "system", .int (-1)] M Q :=
  refuse_S (by decide) (by decide) (fun Q' W' t => ⟨_, _, "widened", rfl, Or.inr (Or.inr (Or.inr (Or.inr (Or.inr (Or.inl ⟨rfl, w, n, cs, rfl, hw, by omega, by omega, hl, hg, by rw [if_neg (by omega), if_pos hn]; exact t⟩)))))⟩) q
theorem refuse_adding {w : Nat} {cs : List Cd} {x y : Rc} {k : Nat} (hw : w ≤ 80) (hl : cs.length ≤ 500) (hg : Good w cs) (hx : x.fit M w) (hy : y.fit M w) (hb : firstBad [x, y] = some k) (q : Q (.d (.bl true)) M) :
    fs__law_refuses cC cP cS cL C [sysD C w cs, .str "adding", .tup [x.dat, y.dat], .str "system", .int ((cs.length + k : Nat) : Int)] M Q := by
  have hk : k ≤ 1 := by
    unfold firstBad at hb
    cases hx2 : x.cd with
    | none => rw [hx2] at hb; cases hb; decide
    | some c =>
      rw [hx2] at hb
      unfold firstBad at hb
      cases hy2 : y.cd with
      | none => rw [hy2] at hb; cases hb; decide
      | some c2 => rw [hy2] at hb; cases hb
  refine refuse_S (by omega) (by omega) (fun Q' W' t => ⟨_, _, "adding", rfl, Or.inr (Or.inr (Or.inr (Or.inr (Or.inl ⟨rfl, _, _, rfl, w, cs, [x, y], rfl, hw, hl, by show 2 ≤ 500; decide, hg, fun z hz => ?_, by rw [hb]; exact t⟩))))⟩) q
  rcases List.mem_cons.mp hz with rfl | hz
  · exact hx
  · rw [List.mem_singleton.mp hz]
    exact hy
theorem refuse_and {w v : Nat} {cs es : List Cd} (hw : w ≤ 80) (h1 : cs.length ≤ 500) (h2 : es.length ≤ 500) (g1 : Good w cs) (g2 : Good v es) (hv : v ≠ w) (q : Q (.d (.bl true)) M) :
    fs__law_refuses cC cP cS cL C [sysD C w cs, .str "and", sysD C v es, .str "system", .int (-1)] M Q :=
  refuse_S (by decide) (by decide) (fun Q' W' t => ⟨_, _, "and", rfl, Or.inr (Or.inr (Or.inr (Or.inl ⟨rfl, w, v, cs, es, rfl, hw, h1, h2, g1, g2, by rw [if_neg hv]; exact t⟩)))⟩) q
theorem refuse_holds {w : Nat} {cs : List Cd} {pt : List Int} {e : Dat} (he : SeqR M (.d e) (iL pt)) (hp : pt.length ≤ 1000) (hw : w ≤ 100) (hg : Good w cs) (hn : pt.length ≠ w) (hd : deed = "holds" ∨ deed = "in") (q : Q (.d (.bl true)) M) :
    fs__law_refuses cC cP cS cL C [sysD C w cs, .str deed, e, .str "point", .int pt.length] M Q :=
  refuse_P (by omega) (by omega) (fun Q' W' t => ⟨_, _, deed, rfl, by
    have z : fx_System_holds cP C [sysD C w cs, e] M Q' W' := ⟨w, cs, pt, e, rfl, he, hp, hw, hg, by rw [if_neg hn]; exact t⟩
    rcases hd with rfl | rfl
    · exact Or.inr (Or.inl ⟨rfl, z⟩)
    · exact Or.inr (Or.inr (Or.inl ⟨rfl, z⟩))⟩) q
theorem refuse_fixed {w : Nat} {cs : List Cd} {ns : List Int} {e : Dat} (he : SeqR M (.d e) (iL ns)) (hp : ns.length ≤ 1000) (hw : w ≤ 80) (hl : cs.length ≤ 500) (hg : Good w cs) (hn : w < ns.length) (q : Q (.d (.bl true)) M) :
    fs__law_refuses cC cP cS cL C [sysD C w cs, .str "fixed", e, .str "point", .int ns.length] M Q :=
  refuse_P (by omega) (by omega) (fun Q' W' t => ⟨_, _, "fixed", rfl, Or.inr (Or.inr (Or.inr (Or.inr (Or.inr (Or.inr ⟨rfl, w, ns, e, cs, rfl, he, hp, hw, hl, hg, by rw [if_pos hn]; exact t⟩)))))⟩) q
end
end Lw
set_option Elab.async false
set_option linter.all false
set_option maxRecDepth 100000
set_option maxHeartbeats 4000000
namespace Lw
open PySem PySem.Spec PyProof.Rows L2 Dl
theorem firstBad_bad {x : Rc} (h : x.cd = none) (r : List Rc) : firstBad (x :: r) = some 0 := by
  show (match x.cd with
    | none => some 0
    | some _ => (firstBad r).map (· + 1)) = _
  rw [h]
theorem firstBad_good {x : Rc} {c : Cd} (h : x.cd = some c) (r : List Rc) : firstBad (x :: r) = (firstBad r).map (· + 1) := by
  show (match x.cd with
    | none => some 0
    | some _ => (firstBad r).map (· + 1)) = _
  rw [h]
theorem ask {fs : FS} {ψ : DA} {E : En} {env : Dl.Env} {M : Mem} (ds : List Dat) (k : ∀ P : List Dat → Mem → Prop, P ds M → ψ env M P) (h : ∀ Q : Rv → Mem → Prop, Q (.d (.bl true)) M → fs ds M Q) (n : E.nx env M) :
    dIfS (dNot (dTest (dCB fs ψ))) (dRet (dC (.bl false))) dNext E env M := k _ (h _ n)
theorem ask_ret {fs : FS} {ψ : DA} {E : En} {env : Dl.Env} {M : Mem} (ds : List Dat) (k : ∀ P : List Dat → Mem → Prop, P ds M → ψ env M P) (h : ∀ Q : Rv → Mem → Prop, Q (.d (.bl true)) M → fs ds M Q) (n : E.rt (.d (.bl true)) M) : dRet (dCB fs ψ) E env M := k _ (h _ n)
theorem ok__law_refused_rules (cC cP cS cL C : Addr) (ds : List Dat) (M : Mem) (Q : Rv → Mem → Prop) (h : fs__law_refused_rules cC cP cS cL C ds M Q) : rd__law_refused_rules cC cP cS cL C (enD M Q) (startD N__law_refused_rules ds) M := by
  obtain ⟨p, w, cs, rfl, hp, hw, hl, hg, q⟩ := h
  refine ⟨_, _, rfl, rfl, ?_⟩
  refine ⟨p, 9, rfl, hp, by decide, by decide, fun low M1 a1 a2 hM1 => ?_⟩
  have el : ((cs.map Cd.enc).length : Int) = (cs.length : Int) := by rw [List.length_map]
  refine ⟨p, _, rfl, hM1.at, by rw [el]; omega, ?_, fun place M2 b1 b2 hM2 => ?_⟩
  · rw [el]
    exact log_ok (by omega) (by omega)
  have hM2 := hM1.trans hM2
  rw [el] at b2
  refine ⟨p, w, rfl, hM2.at, by omega, fun x M3 hM3 fx ex => ?_⟩
  have hM3 := hM2.trans hM3
  refine ⟨p, w, rfl, hM3.at, by omega, fun y M4 hM4 fy ey => ?_⟩
  have hM4 := hM3.trans hM4
  obtain ⟨k, rfl⟩ : ∃ k : Nat, place = (k : Int) := ⟨place.toNat, by omega⟩
  have hk : k ≤ cs.length := by omega
  refine ⟨l1, _, rfl, by omega, by omega, ?_, l1, _, _, rfl, rfl, ?_, _, _, rfl, rfl, l3, ?_⟩
  · show 1 * (w : Int).toNat ≤ sizeLine
    exact lz (by omega)
  · rw [rep_flat, List.length_replicate]
    exact lz (by show (w : Int).toNat + 1 ≤ _; omega)
  have hxa : ∀ z ∈ cs, z ∈ cs := fun _ h => h
  refine ⟨_, rfl, l1, _, _, rfl, rfl, ?_, _, rfl, _, _, rfl, rfl, ?_, l1, _, _, rfl, rfl, ?_, ?_⟩
  · rw [cut_to, List.length_take, List.length_map]
    exact lz (by show _ + 1 ≤ _; omega)
  · rw [cut_to, cut_from, List.length_append, List.length_take, List.length_drop, List.length_map]
    exact lz (by show _ + 1 + _ ≤ _; omega)
  · rw [cut_to, cut_from, List.length_append, List.length_append, List.length_take, List.length_drop, List.length_map]
    exact lz (by show _ + 1 + _ + 1 ≤ _; omega)
  have esp : cut (cs.map Cd.enc) none (some (k : Int)) ++ [x.dat] ++ cut (cs.map Cd.enc) (some (k : Int)) none ++ [y.dat] = (goodR (cs.take k) ++ (x :: (goodR (cs.drop k) ++ [y]))).map Rc.dat := by
    rw [cut_to, cut_from, List.map_append, goodR_dat, List.map_cons, List.map_append, goodR_dat, ← List.map_take, ← List.map_drop]
    simp
  obtain ⟨xs, exs⟩ : ∃ xs, xs = goodR (cs.take k) ++ (x :: (goodR (cs.drop k) ++ [y])) := ⟨_, rfl⟩
  rw [← exs] at esp
  have lxs : xs.length ≤ 1000 := by
    rw [exs, List.length_append, List.length_cons, List.length_append, goodR, goodR, List.length_map, List.length_map, List.length_take, List.length_drop]
    show _ + (_ + 1 + 1) ≤ _
    omega
  have hfx : ∀ z ∈ xs, z.fit M4 w := fun z hz => by
    rw [exs] at hz
    rcases List.mem_append.mp hz with h1 | h1
    · exact goodR_fit (fun c hc => hg c (List.mem_of_mem_take hc)) z h1
    rcases List.mem_cons.mp h1 with rfl | h1
    · exact fx M4
    rcases List.mem_append.mp h1 with h2 | h2
    · exact goodR_fit (fun c hc => hg c (List.mem_of_mem_drop hc)) z h2
    · rw [List.mem_singleton.mp h2]
      exact fy M4
  have hfb : firstBad xs = some k := by
    rw [exs]
    have e := firstBad_app (cs.take k) (fun c => encR c.row) (x :: (goodR (cs.drop k) ++ [y]))
    rw [firstBad_bad ex] at e
    rw [goodR]
    rw [e]
    show some ((cs.take k).length + 0) = some k
    rw [List.length_take, Nat.add_zero, Nat.min_eq_left hk]
  refine ⟨l2, _, rfl, ?_⟩
  refine for_rest (enc := Dat.int) [-1 - low, 81 + low] (fun r env m => m = M4 ∧ (∃ z, env = [some (.cell p), some (sysD C w cs), some (.int w), some (.lst (cs.map Cd.enc)), some (.int (cs.map Cd.enc).length), some (.int low), some (.int k), some x.dat, some y.dat, some (.tup [.str "div", .int 2, .tup ((List.replicate (w : Int).toNat [Dat.int 1]).flatten ++ [.int low])]), some (.lst (cut (cs.map Cd.enc) none (some (k : Int)) ++ [x.dat] ++ cut (cs.map Cd.enc) (some (k : Int)) none ++ [y.dat])), z]) ∧ ∀ v ∈ r, (v < 0 ∨ 80 < v) ∧ -1000 ≤ v ∧ v ≤ 1000) ?_ ?_ ?_ ?_
  · refine ⟨rfl, ⟨_, rfl⟩, fun v hv => ?_⟩
    rcases List.mem_cons.mp hv with rfl | hv
    · omega
    · rw [List.mem_singleton.mp hv]
      omega
  · rintro r env m _
    trivial
  · rintro v r env m ⟨rfl, ⟨z, rfl⟩, hv⟩
    have v1 := hv v List.mem_cons_self
    refine ask (fs := fs__law_refuses cC cP cS cL C) [sysD C w cs, .str "make", .tup [.int v, .lst _], .str "system", .int (-1)] ?_ (fun Q' q' => refuse_wide (xs := xs) (show SeqR _ (.d (.lst _)) _ from esp.symm) lxs v1.1 q') ?_
    · exact fun P p => ⟨l2, p⟩
    dsimp only [dSeq]
    refine ask (fs := fs__law_refuses cC cP cS cL C) [sysD C w cs, .str "widened", .int v, .str "count", .int v] ?_ (fun Q' q' => refuse_widened (by omega) v1.2.1 v1.2.2 v1.1 (by omega) hg q') ?_
    · exact fun P p => p
    exact ⟨rfl, ⟨_, rfl⟩, fun u hu => hv u (List.mem_cons_of_mem _ hu)⟩
  · rintro env m ⟨rfl, ⟨z, rfl⟩, _⟩
    rw [el]
    dsimp only [dSeq]
    refine ask (fs := fs__law_refuses cC cP cS cL C) [sysD C w cs, .str "make", .tup [.int w, .lst _], .str "system", .int k] ?_ (fun Q' q' => refuse_make (xs := xs) (show SeqR _ (.d (.lst _)) _ from esp.symm) lxs (by omega) hfx hfb (by omega) q') ?_
    · exact fun P p => ⟨l2, p⟩
    dsimp only [dSeq]
    refine ask (fs := fs__law_refuses cC cP cS cL C) [sysD C w cs, .str "adding", .tup [x.dat, y.dat], .str "system", .int cs.length] ?_ (fun Q' q' => refuse_adding (k := 0) (by omega) (by omega) hg (fx m) (fy m) (firstBad_bad ex _) q') ?_
    · exact fun P p => ⟨l2, p⟩
    have e9 : (Dat.tup [Dat.str "div", Dat.int 2, Dat.tup ((List.replicate (w : Int).toNat [Dat.int 1]).flatten ++ [Dat.int low])]) = (Rc.good ⟨.div 2, List.replicate w 1, low⟩ (encR (List.replicate w 1 ++ [low]))).dat := by
      rw [rep_flat, Int.toNat_natCast]
      show Dat.tup [Dat.str "div", Dat.int 2, Dat.tup (List.replicate w (Dat.int 1) ++ [Dat.int low])] = Dat.tup [Dat.str "div", Dat.int 2, Dat.tup (iL (List.replicate w 1 ++ [low]))]
      rw [iL_app, iL, List.map_replicate]
      rfl
    dsimp only [dSeq]
    refine ask_ret (fs := fs__law_refuses cC cP cS cL C) [sysD C w cs, .str "adding", .tup [.tup [.str "div", .int 2, .tup ((List.replicate (w : Int).toNat [Dat.int 1]).flatten ++ [.int low])], y.dat], .str "system", .int (cs.length + 1)] ?_ (fun Q' q' => ?_) ?_
    · exact fun P p => ⟨l2, p⟩
    · rw [e9]
      refine refuse_adding (k := 1) (by omega) (by omega) hg ⟨rfl, ?_⟩ (fy m) ?_ q'
      · refine ⟨List.length_replicate .., fun z hz => ?_, by show -10000000000000000000 ≤ low; omega, by show low ≤ 10000000000000000000; omega, ⟨by omega, by omega⟩⟩
        rw [List.eq_of_mem_replicate hz]
        decide
      · rw [firstBad_good rfl, firstBad_bad ey] <;> rfl
    · show Q _ (M.restr m)
      rw [hM4.restr hp]
      exact q m hM4
end Lw
set_option Elab.async false
set_option linter.all false
set_option maxRecDepth 100000
set_option maxHeartbeats 4000000
namespace Lw
open PySem PySem.Spec PyProof.Rows L2 Dl
/-- [rule(pool, ..) for k in range(n)] -/
theorem lc_rules {p : Addr} {w : Nat} {M0 M : Mem} {n k : Nat} {ε : DE} {env : Dl.Env} {QL : List Dat → Mem → Prop} (hM : PoolTo M0 p M) (hn : n ≤ 1000)
    (step : ∀ (i : Nat) (M' : Mem) (P : Rv → Mem → Prop), PoolAt M' p → (∀ x M2, Gd w 1000000000 x → PoolTo M' p M2 → P (.d x.enc) M2) → ε (env.set k (some (.int (0 + i)))) M' P)
    (fin : ∀ (r : List Cd) M', r.length = n → (∀ x ∈ r, Gd w 1000000000 x) → PoolTo M0 p M' → QL (r.map Cd.enc) M') :
    ∃ Inv : Nat → List Dat → Mem → Prop, Inv 0 [] M ∧ (∀ i acc M', i ≤ (rngD 0 n).length → Inv i acc M' → (fun _ => True) M') ∧
      (∀ i' y acc M', (rngD 0 n)[i']? = some y → Inv i' acc M' → dYes (env.set k (some y)) M' fun b M2 => if b = true then ε (env.set k (some y)) M2 fun r M3 => acc.length < sizeLine ∧ Inv (i' + 1) (acc ++ [Dl.settle r]) M3 else Inv (i' + 1) acc M2) ∧
      ∀ acc M', Inv (rngD 0 n).length acc M' → QL acc M' := by
  refine lc_rng (fun i acc m => ∃ r : List Cd, acc = r.map Cd.enc ∧ r.length = i ∧ (∀ x ∈ r, Gd w 1000000000 x) ∧ PoolTo M0 p m) ⟨[], rfl, rfl, fun x hx => absurd hx List.not_mem_nil, hM⟩ (fun t acc m ht hj => ?_) fun acc m hj => ?_
  · obtain ⟨r, rfl, hr, hs, hm⟩ := hj
    simp only [dYes, ↓reduceIte]
    refine step t m _ hm.at fun x M2 hx hp => ⟨?_, r ++ [x], ?_, ?_, ?_, hm.trans hp⟩
    · rw [List.length_map]
      exact Nat.lt_of_lt_of_le (show r.length < 1001 by omega) (by decide)
    · rw [List.map_append] <;> rfl
    · rw [List.length_append, hr] <;> rfl
    · intro y hy
      rcases List.mem_append.mp hy with z | z
      · exact hs y z
      · rw [List.mem_singleton.mp z]
        exact hx
  · obtain ⟨r, rfl, hr, hs, hm⟩ := hj
    exact fin r m hr hs hm
end Lw
set_option Elab.async false
set_option linter.all false
set_option maxRecDepth 100000
set_option maxHeartbeats 4000000
namespace Lw
open PySem PySem.Spec PyProof.Rows L2 Dl
theorem gd_up {w : Nat} {x : Cd} (h : Gd w 1000000000 x) : Gd w 10000000000000000000 x := ⟨h.1, h.2.1, by have := h.2.2.1; omega, by have := h.2.2.2.1; omega, h.2.2.2.2⟩
/-- System(w, d) that is not refused, as its callers see it -/
theorem make_calm {cS C : Addr} {w : Nat} {d : Dat} {cs : List Cd} {M : Mem} {Q : Rv → Mem → Prop} (hs : SeqR M (.d d) (cs.map Cd.enc)) (hw : w ≤ 80) (hl : cs.length ≤ 1000) (hg : Good w cs) (q : Q (.d (sysD C w cs)) M) :
    ∀ x, M x = none → calm (fx_System___init__ cS C) (.cell x :: [.int w, d]) (M.set x (.obj C [])) fun r M2 => r = .d .non ∧ ∃ m, M2 x = some m ∧ Q (.d (frz m)) (M2.del x) := fun x hx => by
  obtain ⟨p, v, e, xs, h1, h2, h3, h4, h5⟩ := mk_sys (cS := cS) (C := C) (W := noX) hs hw hl hg q x hx
  refine ⟨p, v, e, xs, h1, h2, h3, h4, sysIn_mono h5 (fun _ z => z) fun _ _ _ z => z.elim⟩
end Lw
set_option Elab.async false
set_option linter.all false
set_option maxRecDepth 100000
set_option maxHeartbeats 4000000
namespace Lw
open PySem PySem.Spec PyProof.Rows L2 Dl
theorem ask_t {fs : FS} {ψ : DA} {E : En} {env : Dl.Env} {M : Mem} {φ : DS} (ds : List Dat) (k : ∀ P : List Dat → Mem → Prop, P ds M → ψ env M P) (h : ∀ Q : Rv → Mem → Prop, Q (.d (.bl true)) M → fs ds M Q) (n : φ E env M) :
    dSeq (dIfS (dNot (dTest (dCB fs ψ))) (dRet (dC (.bl false))) dNext) φ E env M := k _ (h _ n)
/-- what agrees says -/
theorem agree {cP C : Addr} {w : Nat} {cs : List Cd} {ps : List (List Int)} {M : Mem} {Q : Rv → Mem → Prop} (hw : w ≤ 80) (hl : cs.length ≤ 500) (hb : cs.length * (w + 3) ≤ 3000) (hg : Good w cs) (hp : ps.length ≤ 3) (hpp : ∀ p ∈ ps, p.length = w ∧ Sm 1000000000000 p) (q : Q (.d (.bl true)) M) :
    fs__law_agrees cP C [sysD C w cs, .int w, .lst (cs.map Cd.enc), .lst (ps.map encP)] M Q := ⟨w, cs, ps, rfl, hw, hl, hb, hg, hp, hpp, q⟩
theorem ins_sys {C : Addr} {w : Nat} {cs : List Cd} {M : Mem} : ∃ gs, insR C M (sysD C w cs) gs := ⟨_, rfl, rfl⟩
theorem set_make {cS C : Addr} {w : Nat} {d : Dat} {cs : List Cd} {ψ : DA} {i : Nat} {φ : DS} {E : En} {env : Dl.Env} {M : Mem} (k : ∀ P : List Dat → Mem → Prop, P [.int w, d] M → ψ env M P) (hs : SeqR M (.d d) (cs.map Cd.enc)) (hw : w ≤ 80) (hl : cs.length ≤ 1000) (hg : Good w cs) (n : φ E (env.set i (some (sysD C w cs))) M) :
    dSeq (dSet (dMake C (calm (fx_System___init__ cS C)) ψ) i) φ E env M := k _ (make_calm (Q := fun r M1 => φ E (env.set i (some (Dl.settle r))) M1) hs hw hl hg n)
theorem cons_make {cS C : Addr} {w : Nat} {d : Dat} {cs : List Cd} {ψ ψ2 : DA} {env : Dl.Env} {M : Mem} {P : List Dat → Mem → Prop} (k : ∀ P : List Dat → Mem → Prop, P [.int w, d] M → ψ env M P) (hs : SeqR M (.d d) (cs.map Cd.enc)) (hw : w ≤ 80) (hl : cs.length ≤ 1000) (hg : Good w cs) (n : ψ2 env M fun ds M2 => P (sysD C w cs :: ds) M2) :
    dCons (dMake C (calm (fx_System___init__ cS C)) ψ) ψ2 env M P := k _ (make_calm (Q := fun r M1 => ψ2 env M1 fun ds M2 => P (Dl.settle r :: ds) M2) hs hw hl hg n)
theorem cons_var {i : Nat} {x : Dat} {ψ2 : DA} {env : Dl.Env} {M : Mem} {P : List Dat → Mem → Prop} (h : env[i]? = some (some x)) (n : ψ2 env M fun ds M2 => P (x :: ds) M2) : dCons (dVar i) ψ2 env M P := by
  unfold dCons dVar
  rw [h]
  exact n
theorem cons_c {x : Dat} {ψ2 : DA} {env : Dl.Env} {M : Mem} {P : List Dat → Mem → Prop} (n : ψ2 env M fun ds M2 => P (x :: ds) M2) : dCons (dC x) ψ2 env M P := n
theorem good_enc (x : Cd) : (Rc.good x (encR x.row)).dat = x.enc := by
  obtain ⟨k, a, c⟩ := x
  cases k <;> rfl
theorem ok__law_joined (cP cS C : Addr) (ds : List Dat) (M : Mem) (Q : Rv → Mem → Prop) (h : fs__law_joined cP cS C ds M Q) : rd__law_joined cP cS C (enD M Q) (startD N__law_joined ds) M := by
  obtain ⟨p, w, cs, pt, ps, rfl, hp, hw, hl, hg, hpt, hps, hpl, hpp, q⟩ := h
  refine ⟨p, 3, rfl, hp, by decide, by decide, fun v M1 _ _ hM1 => ⟨show (0 : Int) < 3 by decide, ?_⟩⟩
  have hn := modb (v + 1) 3 (by decide)
  refine ⟨by show -_ ≤ (v + 1) % 3; omega, by show (v + 1) % 3 < _; omega, ?_⟩
  refine lc_rules (w := w) (n := ((v + 1) % 3).toNat) hM1 (by omega) (fun i M' P hP k => ?_) (fun es M2 hel heg hM2 => ?_)
  · exact ⟨p, pt, _, 2, rfl, hP, by omega, hps, fun x M2 hx hp => k x M2 (by rw [← hpt]; exact hx) hp⟩
  have hge : Good w es := fun x hx => gd_up (heg x hx)
  have hel3 : es.length ≤ 2 := by omega
  dsimp only
  refine set_make (w := w) (d := .tup (es.map Cd.enc)) (cs := es) ?_ rfl (by omega) (by omega) hge ?_
  · exact fun P p => ⟨_, _, rfl, rfl, p⟩
  refine ⟨p, pt, 2, 0, rfl, hM2.at, by omega, hps, fun xa M3 ga hM3 => ?_⟩
  refine ⟨p, pt, 0, 1, rfl, hM3.at, by omega, hps, fun xb M4 gb hM4 => ?_⟩
  rw [hpt] at ga gb
  have hM4 := (hM2.trans hM3).trans hM4
  have hpp' : ∀ p ∈ ps, p.length = w ∧ Sm 1000000000000 p := fun z hz => ⟨(hpp z hz).1, sm_mono (hpp z hz).2 (by decide)⟩
  have sz : ∀ n : Nat, n ≤ 10 → n * (w + 3) ≤ 3000 := fun n hn => Nat.le_trans (Nat.mul_le_mul hn (show w + 3 ≤ 6 by omega)) (by decide)
  have gab : Good w (cs ++ [xa, xb]) := good_app hg fun x hx => by
    rcases List.mem_cons.mp hx with rfl | hx
    · exact gd_up ga
    · rw [List.mem_singleton.mp hx]
      exact gd_up gb
  try dsimp only
  refine ask_t (fs := fs__law_agrees cP C) [sysD C w (cs ++ es), .int w, .lst ((cs ++ es).map Cd.enc), .lst (ps.map encP)] ?_ (fun Q' q' => agree (by omega) (by rw [List.length_append]; omega) (sz _ (by rw [List.length_append]; omega)) (good_app hg hge) hpl hpp' q') ?_
  · intro P hP
    refine ⟨_, _, _, _, rfl, rfl, ⟨rfl, rfl⟩, ⟨rfl, rfl⟩, w, w, cs, es, rfl, by omega, by omega, by omega, hg, hge, ?_⟩
    rw [if_pos rfl]
    refine ⟨_, _, rfl, rfl, ?_, ?_⟩
    · rw [List.length_map, List.length_map]
      exact lz (by omega)
    · rw [List.map_append] at hP
      exact hP
  try dsimp only
  refine ask_t (fs := fs__law_agrees cP C) [sysD C w (es ++ cs), .int w, .lst ((es ++ cs).map Cd.enc), .lst (ps.map encP)] ?_ (fun Q' q' => agree (by omega) (by rw [List.length_append]; omega) (sz _ (by rw [List.length_append]; omega)) (good_app hge hg) hpl hpp' q') ?_
  · intro P hP
    refine ⟨_, _, _, _, rfl, rfl, ⟨rfl, rfl⟩, ⟨rfl, rfl⟩, w, w, es, cs, rfl, by omega, by omega, by omega, hge, hg, ?_⟩
    rw [if_pos rfl]
    refine ⟨_, _, rfl, rfl, ?_, ?_⟩
    · rw [List.length_map, List.length_map]
      exact lz (by omega)
    · rw [List.map_append] at hP
      exact hP
  have fa : (Rc.good xa (encP xa.row)).fit M4 w := ⟨rfl, gd_up ga⟩
  have fb : (Rc.good xb (encR xb.row)).fit M4 w := ⟨rfl, gd_up gb⟩
  refine ⟨_, _, rfl, ⟨rfl, rfl⟩, rfl, xa, rfl, by rw [ga.1]; omega, l2, w, cs, [.good xa (encP xa.row), .good xb (encR xb.row)], congrArg (fun d => [sysD C w cs, Dat.tup [Dat.tup (xa.k.its (encP xa.row)), d]]) (good_enc xb).symm, by omega, by omega, by show 2 ≤ 500; decide, hg, fun z hz => ?_, ?_⟩
  · rcases List.mem_cons.mp hz with rfl | hz
    · exact fa
    · rw [List.mem_singleton.mp hz]
      exact fb
  try dsimp only
  refine ask_t (fs := fs__law_agrees cP C) [sysD C w (cs ++ [xa, xb]), .int w, .lst ((cs ++ [xa, xb]).map Cd.enc), .lst (ps.map encP)] ?_ (fun Q' q' => agree (by omega) (by rw [List.length_append]; show _ + 2 ≤ 500; omega) (sz _ (by rw [List.length_append]; show _ + 2 ≤ 10; omega)) gab hpl hpp' q') ?_
  · intro P hP
    refine ⟨l2, _, _, rfl, rfl, ?_, ?_⟩
    · rw [List.length_map]
      exact lz (by show _ + 2 ≤ _; omega)
    · rw [List.map_append] at hP
      exact hP
  try dsimp only
  refine ask_t (fs := fs__law_agrees cP C) [sysD C w cs, .int w, .lst (cs.map Cd.enc), .lst (ps.map encP)] ?_ (fun Q' q' => agree (by omega) (by omega) (sz _ (by omega)) hg hpl hpp' q') ?_
  · intro P hP
    refine ⟨_, _, rfl, ⟨rfl, rfl⟩, rfl, by show 0 ≤ _; exact Nat.zero_le _, w, cs, [], rfl, by omega, by omega, by decide, hg, fun z hz => absurd hz List.not_mem_nil, ?_⟩
    show P [sysD C w (cs ++ []), _, _, _] _
    rw [List.append_nil]
    exact hP
  try dsimp only
  refine ask_ret (fs := fs__law_agrees cP C) [sysD C w es, .int w, .lst (es.map Cd.enc), .lst (ps.map encP)] (fun P p => p) (fun Q' q' => agree (by omega) (by omega) (sz _ (by omega)) hge hpl hpp' q') ?_
  show Q _ (M.restr M4)
  rw [hM4.restr hp]
  exact q M4 hM4
end Lw
set_option Elab.async false
set_option linter.all false
set_option maxRecDepth 100000
set_option maxHeartbeats 4000000
namespace Lw
open PySem PySem.Spec PyProof.Rows L2 Dl
theorem good_fix {w : Nat} {cs : List Cd} {ns : List Int} (hg : ∀ x ∈ cs, Gd w 1000000000 x) (hn : ns.length ≤ w) (hw : w ≤ 3) (hs : Sm 1000000000 ns) : Good (w - ns.length) (cs.map (Cd.fix ns)) := fun x hx => by
  obtain ⟨y, hy, rfl⟩ := List.mem_map.mp hx
  obtain ⟨h1, h2, h3, h4, h5⟩ := hg y hy
  have hd := dot_b (A := 1000000000) (B := 1000000000) (by decide) (by decide) (y.a.take ns.length) ns (fun z hz => h2 z (List.mem_of_mem_take hz)) hs
  refine ⟨?_, fun z hz => h2 z (List.mem_of_mem_drop hz), ?_, ?_, h5⟩
  · show (y.a.drop ns.length).length = _
    rw [List.length_drop, h1]
  · show _ ≤ y.c + dot (y.a.take ns.length) ns
    omega
  · show y.c + dot (y.a.take ns.length) ns ≤ _
    omega
def tailL (n : Nat) : List Int := (List.range n).map fun k : Nat => 5 * (0 + (k : Int)) - 7
theorem tailL_len (n : Nat) : (tailL n).length = n := by rw [tailL, List.length_map, List.length_range]
theorem tailL_sm {n : Nat} (h : n ≤ 80) : Sm 1000000000000 (tailL n) := fun x hx => by
  obtain ⟨k, hk, rfl⟩ := List.mem_map.mp hx
  have := List.mem_range.mp hk
  omega
theorem sm_app {b : Int} {l r : List Int} (h : Sm b l) (g : Sm b r) : Sm b (l ++ r) := fun x hx => by
  rcases List.mem_append.mp hx with z | z
  · exact h x z
  · exact g x z
theorem ok__law_resized (cC cP cS C : Addr) (ds : List Dat) (M : Mem) (Q : Rv → Mem → Prop) (h : fs__law_resized cC cP cS C ds M Q) : rd__law_resized cC cP cS C (enD M Q) (startD N__law_resized ds) M := by
  obtain ⟨p, w, cs, ps, rfl, hp, hw, hl, hg, hpl, hpp, q⟩ := h
  have hgd : Good w cs := fun x hx => gd_up (hg x hx)
  refine ⟨l4, p, 4, rfl, hp, by decide, by decide, fun v M1 v0 v1 hM1 => ?_⟩
  obtain ⟨n, hn, en⟩ : ∃ n : Nat, w + n ≤ 80 ∧ atI [Dat.int 1, Dat.int 0, Dat.int 2, Dat.int (80 - (w : Int))] v = some (.int (n : Int)) := by
    have : v = 0 ∨ v = 1 ∨ v = 2 ∨ v = 3 := by omega
    rcases this with z | z | z | z <;> rw [z]
    · exact ⟨1, by omega, rfl⟩
    · exact ⟨0, by omega, rfl⟩
    · exact ⟨2, by omega, rfl⟩
    · refine ⟨80 - w, by omega, ?_⟩
      rw [show ((80 - w : Nat) : Int) = 80 - (w : Int) by omega] <;> rfl
  refine ⟨v, _, _, rfl, rfl, en, ?_⟩
  refine ⟨p, (w : Int) + 1, rfl, hM1.at, by omega, log_ok (by omega) (by omega), fun sz M2 s0 s1 hM2 => ?_⟩
  obtain ⟨k, rfl⟩ : ∃ k : Nat, sz = (k : Int) := ⟨sz.toNat, by omega⟩
  have hM2 := hM1.trans hM2
  refine ⟨by omega, by omega, ?_⟩
  refine lc_rng (n := (n : Int).toNat) (fun i acc m => m = M2 ∧ acc = iL (tailL i)) ⟨rfl, rfl⟩ (fun i acc m hi hj => ?_) (fun acc m hj => ?_)
  · obtain ⟨rfl, rfl⟩ := hj
    refine ⟨Or.inl (Or.inl (by decide)), ?_, rfl, ?_⟩
    · rw [iL_len, tailL_len]
      exact Nat.lt_of_lt_of_le (show i < 100 by omega) (by decide)
    · rw [tailL, tailL, List.range_succ, List.map_append, iL_app] <;> rfl
  obtain ⟨rfl, rfl⟩ := hj
  rw [Int.toNat_natCast]
  refine ⟨_, rfl, ?_⟩
  refine lc_map (enc := encP) ps (fun x => encP (x ++ tailL n)) (by rw [hpl]; decide) trivial (fun x hx P kk => ?_) ?_
  · refine ⟨_, _, rfl, rfl, ?_, kk _ ?_⟩
    · rw [iL_len, iL_len, tailL_len, (hpp x hx).1]
      exact lz (by omega)
    · show Dat.lst (iL x ++ iL (tailL n)) = Dat.lst (iL (x ++ tailL n))
      rw [iL_app]
  refine ⟨w, n, cs, rfl, by omega, by omega, by omega, fun x hx => (hg x hx).1, ?_⟩
  have sz : ∀ a b : Nat, a ≤ 5 → b ≤ 80 → a * (b + 3) ≤ 3000 := fun a b ha hb => Nat.le_trans (Nat.mul_le_mul ha (show b + 3 ≤ 83 by omega)) (by decide)
  try dsimp only
  refine ask_t (fs := fs__law_agrees cP C) [sysD C (w + n) (cs.map (Cd.wide n)), .int ((w + n : Nat) : Int), .lst ((cs.map (Cd.wide n)).map Cd.enc), .lst ((ps.map fun x => x ++ tailL n).map encP)] ?_ (fun Q' q' => agree (by omega) (by rw [List.length_map]; omega) (sz _ _ (by rw [List.length_map]; omega) (by omega)) (good_wide hgd) (by rw [List.length_map]; omega) (fun z hz => ?_) q') ?_
  · intro P hP
    refine ⟨_, _, rfl, ⟨rfl, rfl⟩, rfl, w, (n : Int), cs, rfl, by omega, by omega, by omega, by omega, hgd, ?_⟩
    rw [if_neg (by omega), if_neg (by omega), Int.toNat_natCast]
    rw [show (ps.map fun x => x ++ tailL n).map encP = ps.map fun x => encP (x ++ tailL n) from by rw [List.map_map] <;> rfl] at hP
    exact hP
  · obtain ⟨x, hx, rfl⟩ := List.mem_map.mp hz
    exact ⟨by rw [List.length_append, tailL_len, (hpp x hx).1], sm_app (sm_mono (hpp x hx).2 (by decide)) (tailL_sm (by omega))⟩
  match ps, hpl, hpp with
  | [p1, p2, p3], _, hpp =>
    refine ⟨2, _, _, rfl, rfl, rfl, _, rfl, ?_⟩
    have h3 := hpp p3 (by simp)
    have ecut : cut (iL p3) none (some (k : Int)) = iL (p3.take k) := by
      rw [cut_to]
      exact List.map_take.symm
    have ltk : (p3.take k).length = k := by rw [List.length_take, h3.1]; omega
    have stk : Sm 1000000000 (p3.take k) := fun z hz => h3.2 z (List.mem_of_mem_take hz)
    have last : ∀ (nums : List Dat) z7 z8 z9 z11 z12 z13 z14, nums = iL (p3.take k) → rt7__law_resized cC cP cS C (enD M Q)
        [some (.cell p), some (sysD C w cs), some (.int w), some (.lst (cs.map Cd.enc)), some (.lst [encP p1, encP p2, encP p3]), some (.int n), some (.int k), z7, z8, z9, some (.lst nums), z11, z12, z13, z14] m := by
      intro nums z7 z8 z9 z11 z12 z13 z14 e
      subst e
      have gf := good_fix (ns := p3.take k) hg (by omega) hw stk
      refine ⟨_, _, rfl, ⟨rfl, rfl⟩, rfl, w, p3.take k, _, cs, rfl, rfl, by omega, by omega, by omega, hgd, ?_⟩
      rw [if_neg (by omega)]
      refine ⟨gf, ?_⟩
      refine ⟨2, _, _, rfl, rfl, rfl, _, rfl, .list ((p3.take k).map PyData.int), .list ((p3.take k).map PyData.int), .lst (PyOfA.ints _ _), ⟨_, rfl, ecut ▸ PyOfA.ints _ _⟩, shaped_ints _, shaped_ints _, ifF (eqv_self _) ?_⟩
      refine ⟨w, p3.take k, cs, rfl, by omega, by omega, by omega, hgd, ?_⟩
      refine ⟨_, rfl, ?_⟩
      refine lc_map (enc := encP) [p1, p2, p3] (fun x => encP (x.drop k)) (by show 3 ≤ _; decide) trivial (fun x hx P kk => ?_) ?_
      · refine ⟨_, rfl, kk _ ?_⟩
        show Dat.lst (cut (iL x) (some (k : Int)) none) = _
        rw [cut_from]
        exact congrArg Dat.lst List.map_drop.symm
      try dsimp only
      refine ask_ret (fs := fs__law_agrees cP C) [sysD C (w - (p3.take k).length) (cs.map (Cd.fix (p3.take k))), .int ((w - (p3.take k).length : Nat) : Int), .lst ((cs.map (Cd.fix (p3.take k))).map Cd.enc), .lst (([p1, p2, p3].map fun x => x.drop k).map encP)] ?_
        (fun Q' q' => agree (by omega) (by rw [List.length_map]; omega) (sz _ _ (by rw [List.length_map]; omega) (by omega)) gf (by show 3 ≤ 3; decide) (fun z hz => ?_) q') ?_
      · intro P hP
        rw [show ((w - (p3.take k).length : Nat) : Int) = (w : Int) - (k : Int) by omega] at hP
        exact hP
      · obtain ⟨x, hx, rfl⟩ := List.mem_map.mp hz
        exact ⟨by rw [List.length_drop, (hpp x hx).1, ltk], fun y hy => sm_mono (hpp x hx).2 (by decide) y (List.mem_of_mem_drop hy)⟩
      · show Q _ (M.restr m)
        rw [hM2.restr hp]
        exact q m hM2
    exact last _ _ _ _ _ _ _ _ ecut
end Lw
set_option Elab.async false
set_option linter.all false
set_option maxRecDepth 100000
set_option maxHeartbeats 4000000
namespace Lw
open PySem PySem.Spec PyProof.Rows L2 Dl
theorem s8080 : (false != decide (PyData.shown (.list [.int 80, .int 80]) = ("[80, 80]" : Str))) = true := by decide +kernel
theorem sh8080 : Shows (.list [.int 80, .int 80]) := (Ok5.lst (Ok5.cons (ok1_int (by decide)) (Ok5.cons (ok1_int (by decide)) Ok5.nil))).shows (by decide) (by decide)
section
variable (cC cP cS cL C : Addr) {p : Addr} {w : Nat} {cs : List Cd} {M M1 : Mem} {Q : Rv → Mem → Prop} {low : Int} (hw : w ≤ 3) (hl : cs.length ≤ 5) (hg : Good w cs) (hp : PoolAt M p) (hM1 : PoolTo M p M1) (q : ∀ M', PoolTo M p M' → Q (.d (.bl true)) M') (lo0 : 0 ≤ low) (lo9 : low < 9)
include hw hl hg hp hM1 q lo0 lo9
theorem sizes5 (z4 z5 z6 z7 z8 z9 z10 z11 z12 z13 : Option Dat) : rt5__law_refused_sizes cC cP cS cL C (enD M Q) [some (.cell p), some (sysD C w cs), some (.int w), some (.int low), z4, z5, z6, z7, z8, z9, z10, z11, z12, z13] M1 := by
  refine ⟨_, _, rfl, ⟨rfl, rfl⟩, rfl, w, 80 - (w : Int), cs, rfl, by omega, by omega, by omega, by omega, hg, ?_⟩
  rw [if_neg (by omega), if_neg (by omega)]
  refine ⟨rfl, _, rfl, l2, _, .list [.int 80, .int 80], rfl, ?_⟩
  have e : ((w + (80 - (w : Int)).toNat : Nat) : Int) = 80 := by omega
  refine ⟨?_, sh8080, ?_⟩
  · show PyOf _ (.lst [.int ((w + (80 - (w : Int)).toNat : Nat) : Int), .int 80]) _
    rw [e]
    exact .lst (.cons (.int _) (.cons (.int _) .nil))
  · show Q (.d (.bl (false != decide (PyData.shown (.list [.int 80, .int 80]) = ("[80, 80]" : Str))))) (M.restr M1)
    rw [s8080, hM1.restr hp]
    exact q M1 hM1
def unitL (i : Nat) (pl : Int) : List Int := (List.range i).map fun j : Nat => if (false != decide (0 + (j : Int) = pl)) = true then 1 else 0
theorem sizes4 (z4 z5 z6 z7 z8 z9 z10 z11 z12 z13 : Option Dat) : rt4__law_refused_sizes cC cP cS cL C (enD M Q) [some (.cell p), some (sysD C w cs), some (.int w), some (.int low), z4, z5, z6, z7, z8, z9, z10, z11, z12, z13] M1 := by
  refine ⟨l3, _, rfl, ?_⟩
  refine for_rest (enc := Dat.int) [1, 80 - low, 80] (fun r env m => m = M1 ∧ (∃ z7 z8 z9 z10 z11 z12 z13, env = [some (.cell p), some (sysD C w cs), some (.int w), some (.int low), z4, z5, z6, z7, z8, z9, z10, z11, z12, z13]) ∧ ∀ v ∈ r, 1 ≤ v ∧ v ≤ 80) ?_ ?_ ?_ ?_
  · refine ⟨rfl, ⟨_, _, _, _, _, _, _, rfl⟩, fun v hv => ?_⟩
    rcases List.mem_cons.mp hv with rfl | hv
    · omega
    rcases List.mem_cons.mp hv with rfl | hv
    · omega
    · rw [List.mem_singleton.mp hv]
      omega
  · rintro r env m _
    trivial
  · rintro v r env m ⟨rfl, ⟨z7, z8, z9, z10, z11, z12, z13, rfl⟩, hv⟩
    obtain ⟨v1, v2⟩ := hv v List.mem_cons_self
    obtain ⟨n, rfl⟩ : ∃ n : Nat, v = (n : Int) := ⟨v.toNat, by omega⟩
    refine ⟨Or.inl (Or.inl (by decide)), by show (0 : Int) < n; omega, ?_⟩
    have hpl := modb (9 * low) (n : Int) (by omega)
    obtain ⟨k, ek⟩ : ∃ k : Nat, (9 * low) % (n : Int) = (k : Int) := ⟨((9 * low) % (n : Int)).toNat, by omega⟩
    rw [ek] at hpl
    dsimp only
    rw [ek]
    refine ⟨l1, _, rfl, by omega, by omega, lz (by show 1 * (k : Int).toNat ≤ _; omega), l1, _, _, rfl, rfl, ?_, l1, _, rfl, by dsimp only; omega, by dsimp only; omega, lz (by show 1 * ((n : Int) - 1 - (k : Int)).toNat ≤ _; omega), _, _, rfl, rfl, ?_, ?_⟩
    · rw [rep_flat, List.length_replicate]
      exact lz (by show _ + 1 ≤ _; omega)
    · rw [rep_flat, rep_flat, List.length_append, List.length_replicate, List.length_replicate]
      exact lz (by show _ + 1 + ((n : Int) - 1 - (k : Int)).toNat ≤ _; omega)
    refine ⟨l1, _, rfl, by omega, by omega, lz (by show 1 * (k : Int).toNat ≤ _; omega), l1, _, _, rfl, rfl, ?_, l1, _, rfl, by dsimp only; omega, by dsimp only; omega, lz (by show 1 * ((n : Int) - 1 - (k : Int)).toNat ≤ _; omega), _, _, rfl, rfl, ?_, ?_⟩
    · rw [rep_flat, List.length_replicate]
      exact lz (by show _ + 1 ≤ _; omega)
    · rw [rep_flat, rep_flat, List.length_append, List.length_replicate, List.length_replicate]
      exact lz (by show _ + 1 + ((n : Int) - 1 - (k : Int)).toNat ≤ _; omega)
    refine ⟨by omega, by omega, ?_⟩
    refine lc_rng (n := (n : Int).toNat) (fun i acc m2 => m2 = m ∧ acc = iL (unitL i k)) ⟨rfl, rfl⟩ (fun i acc m2 hi hj => ?_) (fun acc m2 hj => ?_)
    · obtain ⟨rfl, rfl⟩ := hj
      refine ⟨?_, rfl, ?_⟩
      · rw [iL_len, unitL, List.length_map, List.length_range]
        exact Nat.lt_of_lt_of_le (show i < 100 by omega) (by decide)
      · rw [unitL, unitL, List.range_succ, List.map_append, iL_app] <;> rfl
    obtain ⟨rfl, rfl⟩ := hj
    rw [Int.toNat_natCast n]
    have lul : (unitL n k).length = n := by rw [unitL, List.length_map, List.length_range]
    refine ⟨l1, _, _, rfl, rfl, ?_, _, _, rfl, rfl, l2, ?_⟩
    · rw [iL_len, lul]
      exact lz (by show _ + 1 ≤ _; omega)
    obtain ⟨x, ex⟩ : ∃ x : Cd, x = ⟨.ge, unitL n k, -low⟩ := ⟨_, rfl⟩
    have exd : Dat.tup [Dat.str "ge", Dat.tup (iL (unitL n k) ++ [Dat.int (-low)])] = x.enc := by
      rw [ex]
      show _ = Dat.tup [Dat.str "ge", Dat.tup (iL (unitL n k ++ [-low]))]
      rw [iL_app] <;> rfl
    have gx : Good n [x] := fun y hy => by
      rw [List.mem_singleton.mp hy, ex]
      refine ⟨lul, fun z hz => ?_, by show _ ≤ -low; omega, by show -low ≤ _; omega, trivial⟩
      obtain ⟨j, _, rfl⟩ := List.mem_map.mp hz
      split <;> decide
    try dsimp only
    refine set_make (w := n) (d := .lst [Dat.tup [Dat.str "ge", Dat.tup (iL (unitL n k) ++ [Dat.int (-low)])]]) (cs := [x]) ?_ (show [x.enc] = [_] from by rw [← exd]) (by omega) (by show 1 ≤ 1000; decide) gx ?_
    · exact fun P p => ⟨l1, p⟩
    have pt : ∀ c : Int, -10 ≤ c → c ≤ 10 → ∃ l : List Int, (List.replicate (k : Int).toNat [Dat.int 0]).flatten ++ [Dat.int c] ++ (List.replicate ((n : Int) - 1 - (k : Int)).toNat [Dat.int 0]).flatten = iL l ∧ l.length = n ∧ Sm 1000000000000 l := by
      intro c c1 c2
      refine ⟨List.replicate (k : Int).toNat 0 ++ [c] ++ List.replicate ((n : Int) - 1 - (k : Int)).toNat 0, ?_, ?_, ?_⟩
      · rw [rep_flat, rep_flat, iL_app, iL_app, iL_rep, iL_rep] <;> rfl
      · rw [List.length_append, List.length_append, List.length_replicate, List.length_replicate]
        show _ + 1 + _ = _
        omega
      · intro z hz
        rcases List.mem_append.mp hz with hz | hz
        · rcases List.mem_append.mp hz with hz | hz
          · rw [List.eq_of_mem_replicate hz]
            decide
          · rw [List.mem_singleton.mp hz]
            omega
        · rw [List.eq_of_mem_replicate hz]
          decide
    obtain ⟨l1', e1, ll1, sl1⟩ := pt low (by omega) (by omega)
    obtain ⟨l2', e2, ll2, sl2⟩ := pt (low - 1) (by omega) (by omega)
    try dsimp only
    refine ask_t (fs := fs__law_agrees cP C) [sysD C n [x], .int n, .lst ([x].map Cd.enc), .lst ([l1', l2'].map encP)] ?_ (fun Q' q' => agree (by omega) (by show 1 ≤ 500; decide) (by show 1 * (n + 3) ≤ 3000; omega) gx (by show 2 ≤ 3; decide) (fun z hz => ?_) q') ?_
    · intro P hP
      refine ⟨l1, l2, ?_⟩
      show P [sysD C n [x], .int n, .lst [Dat.tup [Dat.str "ge", Dat.tup (iL (unitL n k) ++ [Dat.int (-low)])]], .lst [.lst ((List.replicate (k : Int).toNat [Dat.int 0]).flatten ++ [Dat.int low] ++ (List.replicate ((n : Int) - 1 - (k : Int)).toNat [Dat.int 0]).flatten), .lst ((List.replicate (k : Int).toNat [Dat.int 0]).flatten ++ [Dat.int (low - 1)] ++ (List.replicate ((n : Int) - 1 - (k : Int)).toNat [Dat.int 0]).flatten)]] _
      rw [e1, e2, exd]
      exact hP
    · rcases List.mem_cons.mp hz with rfl | hz
      · exact ⟨ll1, sl1⟩
      · rw [List.mem_singleton.mp hz]
        exact ⟨ll2, sl2⟩
    try dsimp only
    refine ask (fs := fs__law_agrees cP C) [sysD C n [], .int n, .lst [], .lst ([l1'].map encP)] ?_ (fun Q' q' => agree (by omega) (by decide) (by show 0 * (n + 3) ≤ 3000; omega) (fun z hz => absurd hz List.not_mem_nil) (by show 1 ≤ 3; decide) (fun z hz => ?_) q') ?_
    · intro P hP
      refine cons_make (w := n) (d := .tup []) (cs := []) ?_ rfl (by omega) (by decide) (fun z hz => absurd hz List.not_mem_nil) ?_
      · exact fun P p => ⟨Nat.zero_le _, p⟩
      refine ⟨Nat.zero_le _, l1, ?_⟩
      show P [sysD C n [], .int n, .lst [], .lst [.lst ((List.replicate (k : Int).toNat [Dat.int 0]).flatten ++ [Dat.int low] ++ (List.replicate ((n : Int) - 1 - (k : Int)).toNat [Dat.int 0]).flatten)]] _
      rw [e1]
      exact hP
    · rw [List.mem_singleton.mp hz]
      exact ⟨ll1, sl1⟩
    exact ⟨rfl, ⟨_, _, _, _, _, _, _, rfl⟩, fun u hu => hv u (List.mem_cons_of_mem _ hu)⟩
  · rintro env m ⟨rfl, ⟨z7, z8, z9, z10, z11, z12, z13, rfl⟩, _⟩
    exact sizes5 cC cP cS cL C hw hl hg hp hM1 q lo0 lo9 _ _ _ _ _ _ _ _ _ _
def downL (low : Int) (i : Nat) : List Int := (List.range i).map fun k : Nat => low - (0 + (k : Int))
theorem sizes3 (z4 z5 z6 z7 z8 z9 z10 z11 z12 z13 : Option Dat) : rt3__law_refused_sizes cC cP cS cL C (enD M Q) [some (.cell p), some (sysD C w cs), some (.int w), some (.int low), z4, z5, z6, z7, z8, z9, z10, z11, z12, z13] M1 := by
  refine ⟨show (0 : Int) < 3 by decide, show (0 : Int) < 2 by decide, l2, _, rfl, ?_⟩
  have m3 := modb low 3 (by decide)
  have m2 := modb low 2 (by decide)
  refine for_rest (enc := Dat.int) [(w : Int) + 1 + low % 3, (w : Int) - 1 - low % 2] (fun r env m => m = M1 ∧ (∃ z4 z5 z6 z13, env = [some (.cell p), some (sysD C w cs), some (.int w), some (.int low), z4, z5, z6, z7, z8, z9, z10, z11, z12, z13]) ∧ ∀ v ∈ r, v ≠ w ∧ -2 ≤ v ∧ v ≤ 6) ?_ ?_ ?_ ?_
  · refine ⟨rfl, ⟨_, _, _, _, rfl⟩, fun v hv => ?_⟩
    rcases List.mem_cons.mp hv with rfl | hv
    · omega
    · rw [List.mem_singleton.mp hv]
      omega
  · rintro r env m _
    trivial
  · rintro v r env m ⟨rfl, ⟨z4, z5, z6, z13, rfl⟩, hv⟩
    obtain ⟨vw, v1, v2⟩ := hv v List.mem_cons_self
    have eb : (if v > 0 then v else 0) = ((v.toNat : Nat) : Int) := by split <;> omega
    refine ⟨by show -_ ≤ (if v > 0 then v else 0); rw [eb]; omega, by show (if v > 0 then v else 0) < _; rw [eb]; omega, ?_⟩
    refine lc_rng (n := (if v > 0 then v else 0).toNat) (fun i acc m2 => m2 = m ∧ acc = iL (downL low i)) ⟨rfl, rfl⟩ (fun i acc m2 hi hj => ?_) (fun acc m2 hj => ?_)
    · obtain ⟨rfl, rfl⟩ := hj
      rw [eb, Int.toNat_natCast] at hi
      refine ⟨?_, rfl, ?_⟩
      · rw [iL_len, downL, List.length_map, List.length_range]
        exact Nat.lt_of_lt_of_le (show i < 100 by omega) (by decide)
      · rw [downL, downL, List.range_succ, List.map_append, iL_app] <;> rfl
    obtain ⟨rfl, rfl⟩ := hj
    rw [eb, Int.toNat_natCast]
    have lpl : (downL low v.toNat).length = v.toNat := by rw [downL, List.length_map, List.length_range]
    refine ⟨l3, _, rfl, ?_⟩
    refine for_rest (enc := Dat.str) ["holds", "in", "fixed"] (fun r2 env m3 => m3 = m2 ∧ (∃ z6, env = [some (.cell p), some (sysD C w cs), some (.int w), some (.int low), some (.int v), some (.lst (iL (downL low v.toNat))), z6, z7, z8, z9, z10, z11, z12, z13]) ∧ ∀ x ∈ r2, x = "holds" ∨ x = "in" ∨ x = "fixed") ?_ ?_ ?_ ?_
    · refine ⟨rfl, ⟨_, rfl⟩, fun x hx => ?_⟩
      rcases List.mem_cons.mp hx with rfl | hx
      · exact Or.inl rfl
      rcases List.mem_cons.mp hx with rfl | hx
      · exact Or.inr (Or.inl rfl)
      · exact Or.inr (Or.inr (List.mem_singleton.mp hx))
    · rintro r env m _
      trivial
    · rintro x r2 env m3 ⟨rfl, ⟨z6, rfl⟩, hx⟩
      have hxx := hx x List.mem_cons_self
      have hr : ∀ u ∈ r2, u = "holds" ∨ u = "in" ∨ u = "fixed" := fun u hu => hx u (List.mem_cons_of_mem _ hu)
      have eA : (w : Int) < v ∨ 0 ≤ v → Dat.int v = Dat.int (((downL low v.toNat).length : Nat) : Int) := fun h => by
        rw [lpl]
        exact congrArg Dat.int (by omega)
      have rf : ∀ Q' : Rv → Mem → Prop, (w : Int) < v ∨ (0 ≤ v ∧ (x = "holds" ∨ x = "in")) → Q' (.d (.bl true)) m3 → fs__law_refuses cC cP cS cL C [sysD C w cs, .str x, .lst (iL (downL low v.toNat)), .str "point", .int v] m3 Q' := fun Q' hc q' => by
        rw [eA (hc.imp id And.left)]
        rcases hxx with z | z | z
        · exact refuse_holds rfl (by omega) (by omega) hg (by omega) (Or.inl z) q'
        · exact refuse_holds rfl (by omega) (by omega) hg (by omega) (Or.inr z) q'
        · subst z
          refine refuse_fixed rfl (by omega) (by omega) (by omega) hg ?_ q'
          rcases hc with h | ⟨_, h | h⟩
          · omega
          · exact absurd h (by decide)
          · exact absurd h (by decide)
      by_cases h1 : (w : Int) < v
      · refine ifT (c := decide ((w : Int) < v)) (decide_eq_true h1) ?_
        try dsimp only
        refine ask (fs := fs__law_refuses cC cP cS cL C) [sysD C w cs, .str x, .lst (iL (downL low v.toNat)), .str "point", .int v] ?_ (fun Q' q' => rf Q' (Or.inl h1) q') ?_
        · exact fun P p => p
        · exact ⟨rfl, ⟨_, rfl⟩, hr⟩
      · refine ifF (c := decide ((w : Int) < v)) (decide_eq_false h1) ?_
        by_cases h2 : 0 ≤ v
        · refine ifT (c := decide (0 ≤ v)) (decide_eq_true h2) ?_
          by_cases h3 : x = "fixed"
          · refine ifF (c := true != decide (x = "fixed")) (by rw [decide_eq_true h3] <;> rfl) ?_
            exact ⟨rfl, ⟨_, rfl⟩, hr⟩
          · refine ifT (c := true != decide (x = "fixed")) (by rw [decide_eq_false h3] <;> rfl) ?_
            try dsimp only
            refine ask (fs := fs__law_refuses cC cP cS cL C) [sysD C w cs, .str x, .lst (iL (downL low v.toNat)), .str "point", .int v] ?_ (fun Q' q' => rf Q' (Or.inr ⟨h2, ?_⟩) q') ?_
            · exact fun P p => p
            · rcases hxx with z | z | z
              · exact Or.inl z
              · exact Or.inr z
              · exact absurd z h3
            · exact ⟨rfl, ⟨_, rfl⟩, hr⟩
        · refine ifF (c := decide (0 ≤ v)) (decide_eq_false h2) ?_
          exact ⟨rfl, ⟨_, rfl⟩, hr⟩
    · rintro env m ⟨rfl, ⟨z6, rfl⟩, _⟩
      exact ⟨rfl, ⟨_, _, _, _, rfl⟩, fun u hu => hv u (List.mem_cons_of_mem _ hu)⟩
  · rintro env m ⟨rfl, ⟨z4, z5, z6, z13, rfl⟩, _⟩
    exact sizes4 cC cP cS cL C hw hl hg hp hM1 q lo0 lo9 _ _ _ _ _ _ _ _ _ _
end
theorem ok__law_refused_sizes (cC cP cS cL C : Addr) (ds : List Dat) (M : Mem) (Q : Rv → Mem → Prop) (h : fs__law_refused_sizes cC cP cS cL C ds M Q) : rd__law_refused_sizes cC cP cS cL C (enD M Q) (startD N__law_refused_sizes ds) M := by
  obtain ⟨p, w, cs, rfl, hp, hw, hl, hg, q⟩ := h
  refine ⟨p, 9, rfl, hp, by decide, by decide, fun low M1 a1 a2 hM1 => ?_⟩
  have g0 : ∀ n, Good n ([] : List Cd) := fun n z hz => absurd hz List.not_mem_nil
  try dsimp only
  refine ask_t (fs := fs__law_refuses cC cP cS cL C) [sysD C w cs, .str "and", sysD C (w + 1) [], .str "system", .int (-1)] ?_ (fun Q' q' => refuse_and (by omega) (by omega) (by decide) hg (g0 _) (by omega) q') ?_
  · intro P hP
    refine cons_var rfl (cons_c ?_)
    refine cons_make (w := w + 1) (d := .lst []) (cs := []) ?_ rfl (by omega) (by decide) (g0 _) hP
    · exact fun P p => ⟨Nat.zero_le _, p⟩
  refine ifC (c := decide ((0 : Int) < (w : Int))) rfl (fun h0 => ?_) (fun _ => sizes3 cC cP cS cL C hw hl hg hp hM1 q a1 a2 _ _ _ _ _ _ _ _ _ _)
  have h0 := of_decide_eq_true h0
  try dsimp only
  refine ask_t (fs := fs__law_refuses cC cP cS cL C) [sysD C w cs, .str "and", sysD C (w - 1) [], .str "system", .int (-1)] ?_ (fun Q' q' => refuse_and (by omega) (by omega) (by decide) hg (g0 _) (by omega) q') ?_
  · intro P hP
    refine cons_var rfl (cons_c ?_)
    refine cons_make (w := w - 1) (d := .lst []) (cs := []) ?_ rfl (by omega) (by decide) (g0 _) hP
    · exact fun P p => ⟨Nat.zero_le _, by rw [show ((w - 1 : Nat) : Int) = (w : Int) - 1 by omega] at p; exact p⟩
  try dsimp only
  refine ask (fs := fs__law_refuses cC cP cS cL C) [sysD C w cs, .str "widened", .int (80 - low % (w : Int)), .str "system", .int (-1)] ?_ (fun Q' q' => ?_) ?_
  · intro P hP
    exact ⟨h0, hP⟩
  · have := modb low (w : Int) h0
    exact refuse_over (by omega) (by omega) (by omega) (by omega) (by omega) hg q'
  · exact sizes3 cC cP cS cL C hw hl hg hp hM1 q a1 a2 _ _ _ _ _ _ _ _ _ _
end Lw
set_option Elab.async false
set_option linter.all false
set_option maxRecDepth 100000
set_option maxHeartbeats 4000000
namespace Lw
open PySem PySem.Spec PyProof.Rows L2 Dl
theorem good_flat {w : Nat} {cs : List Cd} (h : Good w cs) (n : Nat) : Good w (List.replicate n cs).flatten := fun x hx => by
  obtain ⟨l, hl, hx⟩ := List.mem_flatten.mp hx
  rw [List.eq_of_mem_replicate hl] at hx
  exact h x hx
theorem enc_flat (cs : List Cd) : ∀ n : Nat, (List.replicate n (cs.map Cd.enc)).flatten = (List.replicate n cs).flatten.map Cd.enc
  | 0 => rfl
  | n + 1 => by
    rw [List.replicate_succ, List.replicate_succ, List.flatten_cons, List.flatten_cons, List.map_append, enc_flat cs n]
theorem flat_len (cs : List Cd) : ∀ n : Nat, (List.replicate n cs).flatten.length = n * cs.length
  | 0 => by rw [Nat.zero_mul] <;> rfl
  | n + 1 => by
    rw [List.replicate_succ, List.flatten_cons, List.length_append, flat_len cs n, Nat.succ_mul]
    omega
theorem law_end (cC cP cS cL C : Addr) {p : Addr} {edge : Int} {W : Nat} {pt p1 p2 : List Int} {cs : List Cd} {M M1 : Mem} {Q : Rv → Mem → Prop} (e0 : 0 ≤ edge) (e1 : edge < 4) (hpl : pt.length ≤ 3) (hW : pt.length = W) (hps : Sm 9 pt) (hcl : cs.length ≤ 5) (hcg : ∀ x ∈ cs, Gd W 1000000000 x)
    (l1' : p1.length = W) (l2' : p2.length = W) (s1 : Sm 1000000000 p1) (s2 : Sm 1000000000 p2) (hp : PoolAt M1 p) (q : ∀ M', Q (.d (.bl true)) M') (z0 z7 z8 z9 z11 z12 z13 z14 : Option Dat) :
    rt11_law cC cP cS cL C (enD M Q) [z0, some (.cell p), some (.int edge), some (.int W), some (.lst (iL pt)), some (.lst (cs.map Cd.enc)), some (.lst [encP pt, encP p1, encP p2]), z7, z8, z9, some (sysD C W cs), z11, z12, z13, z14] M1 := by
  have hg : Good W cs := fun x hx => gd_up (hcg x hx)
  have hpp : ∀ x ∈ [pt, p1, p2], x.length = W ∧ Sm 1000000000 x := fun x hx => by
    rcases List.mem_cons.mp hx with z | z
    · rw [z]; exact ⟨hW, sm_mono hps (by decide)⟩
    rcases List.mem_cons.mp z with z | z
    · rw [z]; exact ⟨l1', s1⟩
    · rw [List.mem_singleton.mp z]; exact ⟨l2', s2⟩
  have hpp2 : ∀ x ∈ [pt, p1, p2], x.length = W ∧ Sm 1000000000000 x := fun x hx => ⟨(hpp x hx).1, sm_mono (hpp x hx).2 (by decide)⟩
  have sz : cs.length * (W + 3) ≤ 3000 := Nat.le_trans (Nat.mul_le_mul hcl (show W + 3 ≤ 6 by omega)) (by decide)
  try dsimp only
  refine ask_t (fs := fs__law_agrees cP C) [sysD C W cs, .int W, .lst (cs.map Cd.enc), .lst ([pt, p1, p2].map encP)] ?_ (fun Q' q' => agree (by omega) (by omega) sz hg (by show 3 ≤ 3; decide) hpp2 q') ?_
  · exact fun P p => p
  have four : ∃ n : Nat, n ≤ 80 ∧ atI [Dat.int 1, Dat.int 7, Dat.int 30, Dat.int 80] edge = some (.int (n : Int)) := by
    have : edge = 0 ∨ edge = 1 ∨ edge = 2 ∨ edge = 3 := by omega
    rcases this with z | z | z | z <;> rw [z]
    · exact ⟨1, by decide, rfl⟩
    · exact ⟨7, by decide, rfl⟩
    · exact ⟨30, by decide, rfl⟩
    · exact ⟨80, by decide, rfl⟩
  obtain ⟨n, hn, e4⟩ := four
  have hmul : n * cs.length ≤ 80 * 5 := Nat.mul_le_mul hn hcl
  refine ⟨l4, edge, _, _, rfl, rfl, e4, _, rfl, by omega, by omega, ?_, ?_⟩
  · rw [Int.toNat_natCast, List.length_map, Nat.mul_comm]
    exact lz (by omega)
  have efl : (List.replicate (n : Int).toNat (cs.map Cd.enc)).flatten = (List.replicate n cs).flatten.map Cd.enc := by
    rw [Int.toNat_natCast, enc_flat]
  have lfl : (List.replicate n cs).flatten.length ≤ 400 := by rw [flat_len]; exact hmul
  have szl : (List.replicate n cs).flatten.length * (W + 3) ≤ 3000 := Nat.le_trans (Nat.mul_le_mul lfl (show W + 3 ≤ 6 by omega)) (by decide)
  try dsimp only
  refine ask_t (fs := fs__law_agrees cP C) [sysD C W (List.replicate n cs).flatten, .int W, .lst ((List.replicate n cs).flatten.map Cd.enc), .lst ([pt, p1, p2].map encP)] ?_ (fun Q' q' => agree (by omega) (by omega) szl (good_flat hg n) (by show 3 ≤ 3; decide) hpp2 q') ?_
  · intro P hP
    refine cons_make (d := .lst (List.replicate (n : Int).toNat (cs.map Cd.enc)).flatten) (cs := (List.replicate n cs).flatten) ?_ efl.symm (by omega) (by omega) (good_flat hg n) ?_
    · exact fun P p => p
    rw [← efl] at hP
    exact hP
  refine ⟨p, W, cs, pt, [pt, p1, p2], rfl, hp, by omega, by omega, hg, hW, hps, by show 3 ≤ 3; decide, hpp, fun M2 hM2 => ?_⟩
  refine ⟨p, W, cs, [pt, p1, p2], rfl, hM2.at, by omega, by omega, hcg, rfl, hpp, fun M3 hM3 => ?_⟩
  refine ⟨p, W, cs, rfl, hM3.at, by omega, by omega, hg, fun M4 hM4 => ?_⟩
  refine ⟨p, W, cs, rfl, hM4.at, by omega, by omega, hg, fun M5 hM5 => ?_⟩
  exact ⟨W, cs, [pt, p1, p2], rfl, by omega, by omega, sz, hg, by show 3 ≤ 3; decide, hpp2, q _⟩
end Lw
set_option Elab.async false
set_option linter.all false
set_option maxRecDepth 100000
set_option maxHeartbeats 4000000
namespace Lw
open PySem PySem.Spec PyProof.Rows L2 Dl
/-- rows handed in as lists -/
structure Rows (M0 : Mem) (as : List Addr) (cs : List Cd) (m : Mem) : Prop where
  len : as.length = cs.length
  out : ∀ a ∈ as, M0 a = none
  rows : ∀ (i : Nat) (a : Addr) (x : Cd), as[i]? = some a → cs[i]? = some x → m a = some (.lst (iL x.row))
  rest : ∀ q, q ∉ as → m q = M0 q
theorem Rows.some {M0 : Mem} {as : List Addr} {cs : List Cd} {m : Mem} (h : Rows M0 as cs m) {a : Addr} (ha : a ∈ as) : ∃ x ∈ cs, m a = some (.lst (iL x.row)) := by
  obtain ⟨i, hi, e⟩ := List.mem_iff_getElem.mp ha
  have hi2 : i < cs.length := by rw [← h.len]; exact hi
  exact ⟨cs[i], List.getElem_mem hi2, h.rows i a _ (by rw [List.getElem?_eq_getElem hi, e]) (List.getElem?_eq_getElem hi2)⟩
theorem Rows.push {M0 : Mem} {as : List Addr} {cs : List Cd} {m : Mem} (h : Rows M0 as cs m) {a : Addr} (x : Cd) (ha : m a = none) : Rows M0 (as ++ [a]) (cs ++ [x]) (m.set a (.lst (iL x.row))) := by
  have na : a ∉ as := fun z => by
    obtain ⟨y, _, e⟩ := h.some z
    rw [ha] at e
    cases e
  refine ⟨by rw [List.length_append, List.length_append, h.len] <;> rfl, fun b hb => ?_, fun i b y e1 e2 => ?_, fun q hq => ?_⟩
  · rcases List.mem_append.mp hb with z | z
    · exact h.out b z
    · rw [List.mem_singleton.mp z, ← h.rest a na]
      exact ha
  · by_cases hi : i < as.length
    · rw [List.getElem?_append_left hi] at e1
      rw [List.getElem?_append_left (by rw [← h.len]; exact hi)] at e2
      have hb : b ∈ as := List.mem_of_getElem? e1
      rw [Mem.set_ne (show b ≠ a from fun z => na (z ▸ hb))]
      exact h.rows i b y e1 e2
    · rw [List.getElem?_append_right (by omega)] at e1
      rw [List.getElem?_append_right (by rw [← h.len]; omega), ← h.len] at e2
      have hz : i - as.length = 0 := by
        by_cases z : i - as.length = 0
        · exact z
        · rw [List.getElem?_eq_none (by show 1 ≤ _; omega)] at e1
          cases e1
      rw [hz] at e1 e2
      cases e1
      cases e2
      exact Mem.set_same
  · have h1 : q ≠ a := fun z => hq (by rw [z]; exact List.mem_append_right _ (List.mem_singleton.mpr rfl))
    rw [Mem.set_ne h1]
    exact h.rest q fun z => hq (List.mem_append_left _ z)
/-- the conditions as they are handed in -/
def hand (cs : List Cd) (as : List Addr) : List Rc := List.zipWith (fun x a => Rc.good x (.cell a)) cs as
theorem hand_len {cs : List Cd} {as : List Addr} (h : as.length = cs.length) : (hand cs as).length = cs.length := by
  rw [hand, List.length_zipWith, h, Nat.min_self]
theorem hand_get {cs : List Cd} {as : List Addr} {i : Nat} {x : Cd} {a : Addr} (h1 : cs[i]? = some x) (h2 : as[i]? = some a) : (hand cs as)[i]? = some (.good x (.cell a)) := by
  rw [hand, List.getElem?_zipWith, h1, h2]
theorem hand_mem {cs : List Cd} {as : List Addr} {z : Rc} (h : z ∈ hand cs as) : ∃ (i : Nat) (x : Cd) (a : Addr), cs[i]? = some x ∧ as[i]? = some a ∧ z = .good x (.cell a) := by
  obtain ⟨i, hi, e⟩ := List.mem_iff_getElem.mp h
  have hl : i < cs.length ∧ i < as.length := by
    rw [hand, List.length_zipWith] at hi
    omega
  refine ⟨i, cs[i], as[i], List.getElem?_eq_getElem hl.1, List.getElem?_eq_getElem hl.2, ?_⟩
  have := hand_get (List.getElem?_eq_getElem hl.1) (List.getElem?_eq_getElem hl.2)
  rw [List.getElem?_eq_getElem hi, e] at this
  exact Option.some.inj this
theorem hand_first : ∀ (cs : List Cd) (as : List Addr), firstBad (hand cs as) = none
  | [], _ => rfl
  | _ :: _, [] => rfl
  | x :: cs, a :: as => by
    show (firstBad (hand cs as)).map (· + 1) = none
    rw [hand_first cs as] <;> rfl
theorem hand_cds : ∀ (cs : List Cd) (as : List Addr), as.length = cs.length → cdsOf (hand cs as) = cs
  | [], _, _ => rfl
  | x :: cs, [], h => by cases h
  | x :: cs, a :: as, h => by
    show x :: cdsOf (hand cs as) = _
    rw [hand_cds cs as (Nat.succ.inj h)]
theorem Rows.fit {M0 : Mem} {as : List Addr} {cs : List Cd} {m : Mem} {w : Nat} (h : Rows M0 as cs m) (hg : Good w cs) : ∀ z ∈ hand cs as, z.fit m w := fun z hz => by
  obtain ⟨i, x, a, h1, h2, rfl⟩ := hand_mem hz
  exact ⟨h.rows i a x h2 h1, hg x (List.mem_of_getElem? h1)⟩
/-! ### repr of what is handed in -/
def pyL (x : Cd) : PyData := .tuple (match x.k with
  | .ge => [.str "ge", .list (x.row.map PyData.int)]
  | .eq => [.str "eq", .list (x.row.map PyData.int)]
  | .div m => [.str "div", .int m, .list (x.row.map PyData.int)])
theorem py_L {M : Mem} {x : Cd} {a : Addr} (h : M a = some (.lst (iL x.row))) : PyOf M (Rc.good x (.cell a)).dat (pyL x) := by
  obtain ⟨k, b, c⟩ := x
  have hr := PyOf.cell h (PyOfA.ints M _)
  cases k with
  | ge => exact .tup (.cons (.str _) (.cons hr .nil))
  | eq => exact .tup (.cons (.str _) (.cons hr .nil))
  | div m => exact .tup (.cons (.str _) (.cons (.int _) (.cons hr .nil)))
theorem py_hand {m : Mem} : ∀ (cs : List Cd) (as : List Addr), as.length = cs.length → (∀ (i : Nat) (a : Addr) (x : Cd), as[i]? = some a → cs[i]? = some x → m a = some (.lst (iL x.row))) → PyOfA m ((hand cs as).map Rc.dat) (cs.map pyL)
  | [], _, _, _ => .nil
  | x :: cs, [], h, _ => by cases h
  | x :: cs, a :: as, h, g => .cons (py_L (g 0 a x rfl rfl)) (py_hand cs as (Nat.succ.inj h) fun i b y e1 e2 => g (i + 1) b y (by simpa using e1) (by simpa using e2))
theorem ok1_L {w : Nat} {x : Cd} (h : Gd w 10000000000000000000 x) : Ok1 (w + 30) 2 (pyL x) := by
  obtain ⟨h1, h2⟩ := row_sm h
  have hr : Ok1 (w + 2) 1 (.list (x.row.map PyData.int)) := (ok5_ints h1).lst.up (by omega) (Nat.le_refl _)
  have n0 : Ok5 0 1 [] := Ok5.nil.up (Nat.le_refl _) (by decide)
  have hk := h.2.2.2.2
  unfold pyL
  cases hx : x.k with
  | ge => exact (Ok5.tup (Ok5.cons (ok1_kind.1.up (Nat.le_refl _) (by decide)) (Ok5.cons hr n0))).up (by omega) (Nat.le_refl _)
  | eq => exact (Ok5.tup (Ok5.cons (ok1_kind.2.1.up (Nat.le_refl _) (by decide)) (Ok5.cons hr n0))).up (by omega) (Nat.le_refl _)
  | div m =>
    rw [hx] at hk
    have hm : 2 ≤ m ∧ m ≤ 60 := hk
    have hi : Ok1 0 1 (.int m) := (ok1_int (show -10000000000000000000000000000000000000000 ≤ m ∧ m ≤ 10000000000000000000000000000000000000000 by omega)).up (Nat.le_refl _) (by decide)
    exact (Ok5.tup (Ok5.cons (ok1_kind.2.2.up (Nat.le_refl _) (by decide)) (Ok5.cons hi (Ok5.cons hr n0)))).up (by omega) (Nat.le_refl _)
theorem shows_L {w : Nat} {cs : List Cd} (hl : cs.length ≤ 5) (hw : w ≤ 3) (hg : Good w cs) : Shows (.list (cs.map pyL)) := by
  have h := (ok5_all (f := pyL) (xs := cs) fun x hx => ok1_L (hg x hx)).lst
  refine h.shows ?_ (by decide)
  have := Nat.mul_le_mul (show w + 30 + 1 ≤ 34 by omega) hl
  omega
/-- System(w, d) over rows of any kind, not refused -/
theorem make_rcs {cS C : Addr} {w : Nat} {d : Dat} {xs : List Rc} {cs : List Cd} {M : Mem} {Q : Rv → Mem → Prop} (hs : SeqR M (.d d) (xs.map Rc.dat)) (hw : w ≤ 80) (hl : xs.length ≤ 1000) (hf : ∀ x ∈ xs, x.fit M w) (hb : firstBad xs = none) (hc : cdsOf xs = cs) (q : Q (.d (sysD C w cs)) M) :
    ∀ x, M x = none → calm (fx_System___init__ cS C) (.cell x :: [.int w, d]) (M.set x (.obj C [])) fun r M2 => r = .d .non ∧ ∃ m, M2 x = some m ∧ Q (.d (frz m)) (M2.del x) := fun x hx => by
  obtain ⟨p, v, e, ys, h1, h2, h3, h4, h5⟩ := mk_rc (cS := cS) (C := C) (W := noX) (Q := Q) hs hl (Or.inl ⟨w, rfl, hw, hf, by rw [hb, hc]; exact q⟩) x hx
  refine ⟨p, v, e, ys, h1, h2, h3, h4, sysIn_mono h5 (fun _ z => z) fun _ _ _ z => z.elim⟩
theorem set_rcs {cS C : Addr} {w : Nat} {d : Dat} {xs : List Rc} {cs : List Cd} {ψ : DA} {i : Nat} {φ : DS} {E : En} {env : Dl.Env} {M : Mem} (k : ∀ P : List Dat → Mem → Prop, P [.int w, d] M → ψ env M P) (hs : SeqR M (.d d) (xs.map Rc.dat)) (hw : w ≤ 80) (hl : xs.length ≤ 1000) (hf : ∀ x ∈ xs, x.fit M w) (hb : firstBad xs = none) (hc : cdsOf xs = cs)
    (n : φ E (env.set i (some (sysD C w cs))) M) : dSeq (dSet (dMake C (calm (fx_System___init__ cS C)) ψ) i) φ E env M := k _ (make_rcs (Q := fun r M1 => φ E (env.set i (some (Dl.settle r))) M1) hs hw hl hf hb hc n)
end Lw
set_option Elab.async false
set_option linter.all false
set_option maxRecDepth 100000
set_option maxHeartbeats 4000000
namespace Lw
open PySem PySem.Spec PyProof.Rows L2 Dl
theorem PoolAt.of {m m' : Mem} {p : Addr} (h : PoolAt m p) (e : m' p = m p) : PoolAt m' p := by
  obtain ⟨ns, h1, h2⟩ := h
  exact ⟨ns, h1, e.trans h2⟩
theorem law_mid (cC cP cS cL C : Addr) {p h : Addr} {edge : Int} {W : Nat} {pt p1 p2 : List Int} {cs : List Cd} {as : List Addr} {M M0 M1 : Mem} {Q : Rv → Mem → Prop} (e0 : 0 ≤ edge) (e1 : edge < 4) (hpl : pt.length ≤ 3) (hW : pt.length = W) (hps : Sm 9 pt) (hcl : cs.length ≤ 5) (hcg : ∀ x ∈ cs, Gd W 1000000000 x)
    (l1' : p1.length = W) (l2' : p2.length = W) (s1 : Sm 1000000000 p1) (s2 : Sm 1000000000 p2) (hp : PoolAt M0 p) (hr : Rows M0 as cs M1) (hh : h ∉ as) (hph : p ≠ h) (q : ∀ M', Q (.d (.bl true)) M') (z0 z11 z12 z13 z14 : Option Dat) (z10 : Option Dat) :
    rt7_law cC cP cS cL C (enD M Q) [z0, some (.cell p), some (.int edge), some (.int W), some (.lst (iL pt)), some (.lst (cs.map Cd.enc)), some (.lst [encP pt, encP p1, encP p2]), some (.lst (as.map Dat.cell)), some (.cell h), some (.str (PyData.shown (.list (cs.map pyL)))), z10, z11, z12, z13, z14] (M1.set h (.lst ((hand cs as).map Rc.dat))) := by
  have hg : Good W cs := fun x hx => gd_up (hcg x hx)
  have hpa : p ∉ as := fun z => by
    obtain ⟨ns, _, e⟩ := hp
    rw [hr.out p z] at e
    cases e
  have ah : ∀ a ∈ as, a ≠ h := fun a ha z => hh (z ▸ ha)
  have rows' : ∀ (i : Nat) (a : Addr) (x : Cd), as[i]? = some a → cs[i]? = some x → (M1.set h (.lst ((hand cs as).map Rc.dat))) a = some (.lst (iL x.row)) := fun i a x g1 g2 => by
    rw [Mem.set_ne (ah a (List.mem_of_getElem? g1))]
    exact hr.rows i a x g1 g2
  obtain ⟨m1, em1⟩ : ∃ m, m = M1.set h (.lst ((hand cs as).map Rc.dat)) := ⟨_, rfl⟩
  rw [← em1] at rows' ⊢
  have hmh : m1 h = some (.lst ((hand cs as).map Rc.dat)) := by rw [em1]; exact Mem.set_same
  try dsimp only
  refine set_rcs (w := W) (d := .cell h) (xs := hand cs as) (cs := cs) ?_ (show SeqR m1 (.d (.cell h)) _ from hmh) (by omega) (by rw [hand_len hr.len]; omega) (fun z hz => ?_) (hand_first _ _) (hand_cds _ _ hr.len) ?_
  · exact fun P p => p
  · obtain ⟨i, x, a, h1, h2, rfl⟩ := hand_mem hz
    exact ⟨rows' i a x h2 h1, hg x (List.mem_of_getElem? h1)⟩
  refine ⟨_, .list (cs.map pyL), rfl, .cell hmh (py_hand cs as hr.len rows'), shows_L hcl (by omega) hg, ifF (same_str _) ?_⟩
  refine ⟨_, _, rfl, rfl, by rw [List.length_map, hr.len]; omega, by rw [List.length_map, hr.len]; omega, ?_⟩
  rw [List.length_map, Int.toNat_natCast]
  refine for_rng (n := as.length) (fun i env m => (∃ z11 z12, env = [z0, some (.cell p), some (.int edge), some (.int W), some (.lst (iL pt)), some (.lst (cs.map Cd.enc)), some (.lst [encP pt, encP p1, encP p2]), some (.lst (as.map Dat.cell)), some (.cell h), some (.str (PyData.shown (.list (cs.map pyL)))), some (sysD C W cs), z11, z12, z13, z14]) ∧
    (∀ a ∈ as, ∃ r : List Int, r.length = W + 1 ∧ m a = some (.lst (iL r))) ∧ ∀ b, b ∉ as → m b = m1 b) ?_ ?_ ?_
  · refine ⟨⟨_, _, rfl⟩, fun a ha => ?_, fun _ _ => rfl⟩
    obtain ⟨i, hi, e⟩ := List.mem_iff_getElem.mp ha
    have hi2 : i < cs.length := by rw [← hr.len]; exact hi
    refine ⟨cs[i].row, ?_, rows' i a _ (by rw [List.getElem?_eq_getElem hi, e]) (List.getElem?_eq_getElem hi2)⟩
    show (cs[i].a ++ [cs[i].c]).length = _
    rw [List.length_append, (hg _ (List.getElem_mem hi2)).1] <;> rfl
  · rintro i env m hi ⟨⟨z11, z12, rfl⟩, g1, g2⟩
    obtain ⟨r, hr1, hr2⟩ := g1 as[i] (List.getElem_mem hi)
    have hwr : W < r.length := by omega
    refine ⟨_, _, _, rfl, rfl, by rw [Int.zero_add]; exact atI_nat (y := Dat.cell as[i]) (by rw [List.getElem?_map, List.getElem?_eq_getElem hi] <;> rfl), ?_⟩
    refine ⟨_, iL r, _, rfl, hr2, at_iL hwr, as[i], iL r, W, W, rfl, rfl, hr2, ixN_of (by rw [iL_len]; exact hwr), ⟨_, _, rfl⟩, fun a ha => ?_, fun b hb => ?_⟩
    · by_cases e : a = as[i]
      · subst e
        refine ⟨r.set W (r[W] + 1), by rw [List.length_set]; exact hr1, ?_⟩
        rw [Mem.set_same]
        exact congrArg (fun l => some (MV.lst l)) (List.map_set (f := Dat.int)).symm
      · rw [Mem.set_ne e]
        exact g1 a ha
    · rw [Mem.set_ne (show b ≠ as[i] from fun z => hb (z ▸ List.getElem_mem hi))]
      exact g2 b hb
  · rintro env m ⟨⟨z11, z12, rfl⟩, g1, g2⟩
    have hm : m h = some (.lst ((hand cs as).map Rc.dat)) := (g2 h hh).trans hmh
    refine ⟨h, _, rfl, hm, l1, _, rfl, by omega, by omega, lz (by show 1 * (W : Int).toNat ≤ _; omega), l1, _, _, rfl, rfl, ?_, _, _, rfl, rfl, l2, _, hm, ?_, ?_⟩
    · rw [rep_flat, List.length_replicate]
      exact lz (by show _ + 1 ≤ _; omega)
    · rw [List.length_map, hand_len hr.len]
      exact Nat.lt_of_lt_of_le (show cs.length < 6 by omega) (by decide)
    · refine law_end cC cP cS cL C e0 e1 hpl hW hps hcl hcg l1' l2' s1 s2 ?_ q _ _ _ _ _ _ _ _
      refine hp.of ?_
      rw [Mem.set_ne hph, g2 p hpa, em1, Mem.set_ne hph, hr.rest p hpa]
end Lw
set_option Elab.async false
set_option linter.all false
set_option maxRecDepth 100000
set_option maxHeartbeats 4000000
namespace Lw
open PySem PySem.Spec PyProof.Rows L2 Dl
theorem law_from (cC cP cS cL C : Addr) {p : Addr} {edge : Int} {W : Nat} {pt p1 p2 : List Int} {cs : List Cd} {M M0 : Mem} {Q : Rv → Mem → Prop} (e0 : 0 ≤ edge) (e1 : edge < 4) (hpl : pt.length ≤ 3) (hW : pt.length = W) (hps : Sm 9 pt) (hcl : cs.length ≤ 5) (hcg : ∀ x ∈ cs, Gd W 1000000000 x)
    (l1' : p1.length = W) (l2' : p2.length = W) (s1 : Sm 1000000000 p1) (s2 : Sm 1000000000 p2) (hp : PoolAt M0 p) (q : ∀ M', Q (.d (.bl true)) M') (z0 z7 z8 z9 z10 z11 z12 z13 z14 : Option Dat) :
    rt4_law cC cP cS cL C (enD M Q) [z0, some (.cell p), some (.int edge), some (.int W), some (.lst (iL pt)), some (.lst (cs.map Cd.enc)), some (.lst [encP pt, encP p1, encP p2]), z7, z8, z9, z10, z11, z12, z13, z14] M0 := by
  have hg : Good W cs := fun x hx => gd_up (hcg x hx)
  refine ⟨_, rfl, ?_⟩
  refine lc_rest (enc := Cd.enc) cs (fun r acc m => ∃ pre as, cs = pre ++ r ∧ acc = as.map Dat.cell ∧ Rows M0 as pre m) ?_ ?_ ?_ ?_
  · exact ⟨[], [], rfl, rfl, rfl, fun a ha => absurd ha List.not_mem_nil, fun i a x e => by simp at e, fun _ _ => rfl⟩
  · rintro r a m _
    trivial
  · rintro x r acc m ⟨pre, as, e1, rfl, hr⟩
    simp only [dYes, ↓reduceIte]
    refine ⟨-1, _, _, rfl, seq_enc x, its_l x, _, _, rfl, rfl, _, rfl, fun a ha => ⟨?_, pre ++ [x], as ++ [a], ?_, ?_, hr.push x ha⟩⟩
    · rw [List.length_map, hr.len]
      have := congrArg List.length e1
      rw [List.length_append, List.length_cons] at this
      exact Nat.lt_of_lt_of_le (show pre.length < 6 by omega) (by decide)
    · rw [e1, List.append_assoc] <;> rfl
    · rw [List.map_append] <;> rfl
  rintro acc M1 ⟨pre, as, e1', rfl, hr⟩
  rw [List.append_nil] at e1'
  subst e1'
  have hl := hr.len
  refine ⟨_, _, rfl, rfl, by rw [List.length_map, hl]; omega, by rw [List.length_map, hl]; omega, ?_⟩
  rw [List.length_map, Int.toNat_natCast]
  refine lc_rng (n := as.length) (fun i acc m => m = M1 ∧ acc = ((hand cs as).take i).map Rc.dat) ⟨rfl, rfl⟩ (fun i acc m hi hj => ?_) (fun acc m hj => ?_)
  · obtain ⟨rfl, rfl⟩ := hj
    have hi2 : i < cs.length := by omega
    have g1 : cs[i]? = some cs[i] := List.getElem?_eq_getElem hi2
    have g2 : as[i]? = some as[i] := List.getElem?_eq_getElem hi
    simp only [dYes, ↓reduceIte]
    refine ⟨_, _, _, rfl, rfl, by rw [Int.zero_add]; exact atI_nat (y := cs[i].enc) (by rw [List.getElem?_map, g1] <;> rfl), ?_⟩
    refine ⟨_, _, _, rfl, rfl, by rw [Int.zero_add]; exact atI_nat (y := Dat.cell as[i]) (by rw [List.getElem?_map, g2] <;> rfl), l1, ?_, ?_, rfl, ?_⟩
    · have := its_cut_len cs[i]
      exact lz (by show _ + 1 ≤ _; omega)
    · rw [List.length_map, List.length_take]
      exact Nat.lt_of_lt_of_le (show min i _ < 6 by omega) (by decide)
    · rw [List.take_add_one, hand_get g1 g2, List.map_append]
      show _ ++ [Dat.tup (cut cs[i].its none (some (-1)) ++ [Dat.cell as[i]])] = _ ++ [Rc.dat (.good cs[i] (.cell as[i]))]
      exact congrArg (fun l => _ ++ [Dat.tup l]) (its_lst cs[i].k cs[i].a cs[i].c (Dat.cell as[i]))
  obtain ⟨rfl, rfl⟩ := hj
  refine ⟨_, rfl, fun h hh => ?_⟩
  rw [List.take_of_length_le (by rw [hand_len hl, hl]; exact Nat.le_refl _)]
  have hha : h ∉ as := fun z => by
    obtain ⟨y, _, e⟩ := hr.some z
    rw [hh] at e
    cases e
  have hph : p ≠ h := fun z => by
    obtain ⟨ns, _, e⟩ := hp
    rw [z, ← hr.rest h hha, hh] at e
    cases e
  refine ⟨_, .list (cs.map pyL), rfl, .cell Mem.set_same (py_hand cs as hl fun i a x g1 g2 => ?_), shows_L hcl (by omega) hg, ?_⟩
  · rw [Mem.set_ne (show a ≠ h from fun z => hha (z ▸ List.mem_of_getElem? g1))]
    exact hr.rows i a x g1 g2
  exact law_mid cC cP cS cL C e0 e1 hpl hW hps hcl hcg l1' l2' s1 s2 hp hr hha hph q _ _ _ _ _ _
theorem cut_63 {xs : List Dat} : cut xs none (some 63) = xs.take 63 := cut_to (k := 63)
theorem ok_law (cC cP cS cL C : Addr) (ds : List Dat) (M : Mem) (Q : Rv → Mem → Prop) (h : fs_law cC cP cS cL C ds M Q) : rd_law cC cP cS cL C (enD M Q) (startD N_law ds) M := by
  obtain ⟨ns, rfl, hns, q⟩ := h
  refine ⟨_, rfl, ?_⟩
  refine ⟨_, rfl, ?_, _, rfl, fun p hp => ?_⟩
  · intro xs h
    have h2 := Rv.d.inj h
    cases h2
  have hP0 : PoolAt (M.set p (.lst (cut (ns.map Dat.int) none (some 63)).reverse)) p := by
    refine ⟨(ns.take 63).reverse, by rw [List.length_reverse, List.length_take]; omega, ?_⟩
    rw [Mem.set_same, cut_63, ← List.map_take, ← List.map_reverse]
  refine ⟨p, rfl, hP0, fun edge pt cs M1 e0 e1 hpl hps hcl hcg hM1 => ?_⟩
  have hP1 := hM1.at
  refine ⟨_, rfl, rfl, ?_⟩
  refine ⟨_, _, rfl, ?_⟩
  refine ⟨_, _, rfl, ?_⟩
  refine ⟨_, _, rfl, ?_⟩
  refine ⟨_, _, rfl, rfl, ?_⟩
  refine ⟨p, edge, pt, rfl, hP1, hpl, hps, fun p1 p2 M2 l1' l2' s1 s2 hM2 => ?_⟩
  exact law_from cC cP cS cL C e0 e1 hpl rfl hps hcl hcg l1' l2' s1 s2 hM2.at q _ _ _ _ _ _ _ _ _
end Lw
set_option Elab.async false
set_option linter.all false
set_option maxRecDepth 100000
set_option maxHeartbeats 4000000
namespace Lw
open PySem PySem.Spec PyProof.Rows L2 Dl StX ClX
def m_BadSystem___init__ : List Expr := match defBody s_BadSystem___init__ with
  | .Expr (.Call _ a _ _) _ :: _ => a
  | _ => []
def r_BadSystem___init__ : List Stmt := (defBody s_BadSystem___init__).tail
theorem bi_BadSystem___init__ {P : Program} {w : World} {K : PySem.W.Frag} {mg : Str → Option Value} {base : Heap} {C f cc cda : Addr} (ox : OexC K C) (b_str : mg ("str" : Str) = none) (nf_BadSystem_at : PySem.W.findIn K (.ref C) "at" = some none) (A : Around) (outer : List PySem.Env) (s : Shared) (H : Hp) (E : XK) (hr : Room 0 (A.deeper (NdefX.envF ⟨"__init__", "BadSystem.__init__", defArgs s_BadSystem___init__, defBody s_BadSystem___init__, defScope s_BadSystem___init__, [(("__class__" : Str), cc)], cda⟩ f s.heap.objs.size))) :
    (∃ t, AX (NdefX.ncx CX0 P w K mg base N_BadSystem___init__ ⟨"__init__", "BadSystem.__init__", defArgs s_BadSystem___init__, defBody s_BadSystem___init__, defScope s_BadSystem___init__, [(("__class__" : Str), cc)], cda⟩ f A outer s H E) m_BadSystem___init__ t rdm_BadSystem___init__) ∧ IZ (NdefX.ncx CX0 P w K mg base N_BadSystem___init__ ⟨"__init__", "BadSystem.__init__", defArgs s_BadSystem___init__, defBody s_BadSystem___init__, defScope s_BadSystem___init__, [(("__class__" : Str), cc)], cda⟩ f A outer s H E) C r_BadSystem___init__ rdi_BadSystem___init__ := by
  exact ⟨⟨_, ax_cons (ex_add (ex_str) (ex_strI b_str (ex_var 1))) (ax_nil)⟩, iz_cons ox nf_BadSystem_at (ex_var 1) (iz_nil) rfl (Or.inl rfl)⟩
def m_BadPoint___init__ : List Expr := match defBody s_BadPoint___init__ with
  | .Expr (.Call _ a _ _) _ :: _ => a
  | _ => []
def r_BadPoint___init__ : List Stmt := (defBody s_BadPoint___init__).tail
theorem bi_BadPoint___init__ {P : Program} {w : World} {K : PySem.W.Frag} {mg : Str → Option Value} {base : Heap} {C f cc cda : Addr} (ox : OexC K C) (b_str : mg ("str" : Str) = none) (nf_BadPoint_length : PySem.W.findIn K (.ref C) "length" = some none) (A : Around) (outer : List PySem.Env) (s : Shared) (H : Hp) (E : XK) (hr : Room 0 (A.deeper (NdefX.envF ⟨"__init__", "BadPoint.__init__", defArgs s_BadPoint___init__, defBody s_BadPoint___init__, defScope s_BadPoint___init__, [(("__class__" : Str), cc)], cda⟩ f s.heap.objs.size))) :
    (∃ t, AX (NdefX.ncx CX0 P w K mg base N_BadPoint___init__ ⟨"__init__", "BadPoint.__init__", defArgs s_BadPoint___init__, defBody s_BadPoint___init__, defScope s_BadPoint___init__, [(("__class__" : Str), cc)], cda⟩ f A outer s H E) m_BadPoint___init__ t rdm_BadPoint___init__) ∧ IZ (NdefX.ncx CX0 P w K mg base N_BadPoint___init__ ⟨"__init__", "BadPoint.__init__", defArgs s_BadPoint___init__, defBody s_BadPoint___init__, defScope s_BadPoint___init__, [(("__class__" : Str), cc)], cda⟩ f A outer s H E) C r_BadPoint___init__ rdi_BadPoint___init__ := by
  exact ⟨⟨_, ax_cons (ex_add (ex_str) (ex_strI b_str (ex_var 1))) (ax_nil)⟩, iz_cons ox nf_BadPoint_length (ex_var 1) (iz_nil) rfl (Or.inl rfl)⟩
def m_BadCount___init__ : List Expr := match defBody s_BadCount___init__ with
  | .Expr (.Call _ a _ _) _ :: _ => a
  | _ => []
def r_BadCount___init__ : List Stmt := (defBody s_BadCount___init__).tail
theorem bi_BadCount___init__ {P : Program} {w : World} {K : PySem.W.Frag} {mg : Str → Option Value} {base : Heap} {C f cc cda : Addr} (ox : OexC K C) (b_str : mg ("str" : Str) = none) (nf_BadCount_count : PySem.W.findIn K (.ref C) "count" = some none) (A : Around) (outer : List PySem.Env) (s : Shared) (H : Hp) (E : XK) (hr : Room 0 (A.deeper (NdefX.envF ⟨"__init__", "BadCount.__init__", defArgs s_BadCount___init__, defBody s_BadCount___init__, defScope s_BadCount___init__, [(("__class__" : Str), cc)], cda⟩ f s.heap.objs.size))) :
    (∃ t, AX (NdefX.ncx CX0 P w K mg base N_BadCount___init__ ⟨"__init__", "BadCount.__init__", defArgs s_BadCount___init__, defBody s_BadCount___init__, defScope s_BadCount___init__, [(("__class__" : Str), cc)], cda⟩ f A outer s H E) m_BadCount___init__ t rdm_BadCount___init__) ∧ IZ (NdefX.ncx CX0 P w K mg base N_BadCount___init__ ⟨"__init__", "BadCount.__init__", defArgs s_BadCount___init__, defBody s_BadCount___init__, defScope s_BadCount___init__, [(("__class__" : Str), cc)], cda⟩ f A outer s H E) C r_BadCount___init__ rdi_BadCount___init__ := by
  exact ⟨⟨_, ax_cons (ex_add (ex_str) (ex_strI b_str (ex_var 1))) (ax_nil)⟩, iz_cons ox nf_BadCount_count (ex_var 1) (iz_nil) rfl (Or.inl rfl)⟩
theorem sc_row_value : FnScope N_row_value ["row", "point"] (defScope s_row_value) := ⟨rfl, rfl, rfl, by decide +kernel, rfl, by decide +kernel, by decide +kernel⟩
theorem bx_row_value {P : Program} {w : World} {K : PySem.W.Frag} {mg : Str → Option Value} {base : Heap} {f : Addr} (b_len : mg ("len" : Str) = none) (b_range : mg ("range" : Str) = none) (cdv : Value) (A : Around) (outer : List PySem.Env) (s : Shared) (H : Hp) (E : XK) (hr : Room 0 (A.deeper (envOfC "row_value" (defScope s_row_value) s.heap.objs.size f cdv))) :
    ∃ t, BX (cxOf CX0 P w K mg base N_row_value "row_value" (defScope s_row_value) f cdv A outer s H E).nox (defBody s_row_value) t (rd_row_value) := by
  have S := sc_row_value
  exact ⟨_, bx_cons (sx_set S.nd (ex_ix (ex_var 0) (ex_neg (ex_int))))
    (bx_cons (sx_for PassesOwn.never rfl (ix_rng1 b_range (ax_cons (ex_len b_len (ax_cons (ex_var 1) (ax_nil))) (ax_nil))) (gx_name S.nd) (bx_one (sx_set S.nd (ex_add (ex_var 2) (ex_mul (ex_ix (ex_var 0) (ex_var 3)) (ex_ix (ex_var 1) (ex_var 3)))))))
    (bx_one (sx_ret (ex_var 2))))⟩
theorem sc_extended : FnScope N_extended ["row", "count"] (defScope s_extended) := ⟨rfl, rfl, rfl, by decide +kernel, rfl, by decide +kernel, by decide +kernel⟩
theorem bx_extended {P : Program} {w : World} {K : PySem.W.Frag} {mg : Str → Option Value} {base : Heap} {f : Addr} (b_tuple : mg ("tuple" : Str) = none) (cdv : Value) (A : Around) (outer : List PySem.Env) (s : Shared) (H : Hp) (E : XK) (hr : Room 0 (A.deeper (envOfC "extended" (defScope s_extended) s.heap.objs.size f cdv))) :
    ∃ t, BX (cxOf CX0 P w K mg base N_extended "extended" (defScope s_extended) f cdv A outer s H E).nox (defBody s_extended) t (rd_extended) := by
  have S := sc_extended
  exact ⟨_, bx_one (sx_ret (ex_add (ex_add (ex_tuple b_tuple (ax_cons (ex_sl (ex_var 0) (ox_none) (ox_some (ex_neg (ex_int)))) (ax_nil))) (ex_mul (ex_tup (ax_cons (ex_int) (ax_nil))) (ex_var 1))) (ex_tup (ax_cons (ex_ix (ex_var 0) (ex_neg (ex_int))) (ax_nil)))))⟩
theorem sc__copied : FnScope N__copied ["condition", "width"] (defScope s__copied) := ⟨rfl, rfl, rfl, by decide +kernel, rfl, by decide +kernel, by decide +kernel⟩
theorem bx__copied {P : Program} {w : World} {K : PySem.W.Frag} {mg : Str → Option Value} {base : Heap} {f : Addr} (b_len : mg ("len" : Str) = none) (b_tuple : mg ("tuple" : Str) = none) (cdv : Value) (A : Around) (outer : List PySem.Env) (s : Shared) (H : Hp) (E : XK) (hr : Room 0 (A.deeper (envOfC "_copied" (defScope s__copied) s.heap.objs.size f cdv))) :
    ∃ t, BX (cxOf CX0 P w K mg base N__copied "_copied" (defScope s__copied) f cdv A outer s H E).nox (defBody s__copied) t (rd__copied) := by
  have S := sc__copied
  exact ⟨_, bx_cons (sx_if (tx_nin (ex_ix (ex_var 0) (ex_int)) (ex_tup (ax_cons (ex_str) (ax_cons (ex_str) (ax_cons (ex_str) (ax_nil)))))) (bx_one (sx_ret (ex_non))) (bx_nil))
    (bx_cons (sx_set S.nd (ex_tuple b_tuple (ax_cons (ex_ix (ex_var 0) (ex_neg (ex_int))) (ax_nil))))
    (bx_cons (sx_if (tx_ne hr.units (ex_len b_len (ax_cons (ex_var 2) (ax_nil))) (ex_add (ex_var 1) (ex_int))) (bx_one (sx_ret (ex_non))) (bx_nil))
    (bx_cons (sx_if (tx_ne hr.units (ex_ix (ex_var 0) (ex_int)) (ex_str)) (bx_one (sx_ret (ex_tup (ax_cons (ex_ix (ex_var 0) (ex_int)) (ax_cons (ex_var 2) (ax_nil)))))) (bx_nil))
    (bx_cons (sx_if (tx_lt (ex_ix (ex_var 0) (ex_int)) (ex_int)) (bx_one (sx_ret (ex_non))) (bx_nil))
    (bx_one (sx_ret (ex_tup (ax_cons (ex_str) (ax_cons (ex_ix (ex_var 0) (ex_int)) (ax_cons (ex_var 2) (ax_nil)))))))))))⟩
theorem sc__is_met : FnScope N__is_met ["condition", "point"] (defScope s__is_met) := ⟨rfl, rfl, rfl, by decide +kernel, rfl, by decide +kernel, by decide +kernel⟩
theorem bx__is_met {P : Program} {w : World} {K : PySem.W.Frag} {mg : Str → Option Value} {base : Heap} {f : Addr} (h_row_value : KnO P w K mg base "row_value" 1 fs_row_value) (cdv : Value) (A : Around) (outer : List PySem.Env) (s : Shared) (H : Hp) (E : XK) (hr : Room 1 (A.deeper (envOfC "_is_met" (defScope s__is_met) s.heap.objs.size f cdv))) :
    ∃ t, BX (cxOf CX0 P w K mg base N__is_met "_is_met" (defScope s__is_met) f cdv A outer s H E).nox (defBody s__is_met) t (rd__is_met) := by
  have S := sc__is_met
  exact ⟨_, bx_cons (sx_set S.nd (ex_callO h_row_value (hr.mono (by decide)) (ax_cons (ex_ix (ex_var 0) (ex_neg (ex_int))) (ax_cons (ex_var 1) (ax_nil)))))
    (bx_cons (sx_if (tx_eq hr.units (ex_ix (ex_var 0) (ex_int)) (ex_str)) (bx_one (sx_ret (ex_ge (ex_var 2) (ex_int)))) (bx_nil))
    (bx_cons (sx_if (tx_eq hr.units (ex_ix (ex_var 0) (ex_int)) (ex_str)) (bx_one (sx_ret (ex_eq hr.units (ex_var 2) (ex_int)))) (bx_nil))
    (bx_one (sx_ret (ex_eq hr.units (ex_mod (ex_var 2) (ex_ix (ex_var 0) (ex_int))) (ex_int))))))⟩
theorem sc_System___init__ : FnScope N_System___init__ ["self", "width", "conditions"] (defScope s_System___init__) := ⟨rfl, rfl, rfl, by decide +kernel, rfl, by decide +kernel, by decide +kernel⟩
theorem bx_System___init__ {P : Program} {w : World} {K : PySem.W.Frag} {mg : Str → Option Value} {base : Heap} {f : Addr} {C_BadSystem : Addr} {C_System : Addr} (b_tuple : mg ("tuple" : Str) = none) (hc_System : Cls K C_System) (na_System_conditions : NoAttr K C_System "conditions") (na_System_width : NoAttr K C_System "width") (he_BadSystem : KnE P w K mg base "BadSystem" C_BadSystem 1 0 fsi_BadSystem) (b_len : mg ("len" : Str) = none) (h__copied : KnO P w K mg base "_copied" 1 fs__copied) (hv_System_MOST : KnV K mg "System" "MOST" (.int 80)) (cdv : Value) (A : Around) (outer : List PySem.Env) (s : Shared) (H : Hp) (E : XK) (hr : Room 2 (A.deeper (envOfC "System.__init__" (defScope s_System___init__) s.heap.objs.size f cdv))) :
    ZS (cxOf (L2.CX P w) P w K mg base N_System___init__ "System.__init__" (defScope s_System___init__) f cdv A outer s H E) (defBody s_System___init__) (rd_System___init__ C_BadSystem C_System) := by
  have S := sc_System___init__
  exact zs_cons (zx_if (tx_not (tx_lele (ex_int) (ex_var 1) (ex_cvalK hv_System_MOST))) (zs_cons (zx_raise he_BadSystem rfl (hr.mono (by decide)) (ax_cons (ex_neg (ex_int)) (ax_nil)))
    (zs_nil)) (zs_nil))
    (zs_cons (zx_of (sx_setC S.nd (ex_lst (ax_nil))))
    (zs_cons (zx_for (passes_of rfl) rfl (ix_seq (ex_var 2)) (gx_name S.nd) (zs_cons (zx_of (sx_set S.nd (ex_callO h__copied (hr.mono (by decide)) (ax_cons (ex_var 4) (ax_cons (ex_var 1) (ax_nil))))))
    (zs_cons (zx_if (tx_is (ex_var 5) (ex_non)) (zs_cons (zx_raise he_BadSystem rfl (hr.mono (by decide)) (ax_cons (ex_len b_len (ax_cons (ex_var 3) (ax_nil))) (ax_nil)))
    (zs_nil)) (zs_nil))
    (zs_cons (zx_of (sx_expr (ex_append (ex_var 3) (ex_var 5))))
    (zs_nil)))))
    (zs_cons (zx_of (sx_setF hc_System na_System_width (ex_var 1) (ex_var 0)))
    (zs_cons (zx_of (sx_setF hc_System na_System_conditions (ex_tuple b_tuple (ax_cons (ex_var 3) (ax_nil))) (ex_var 0)))
    (zs_nil)))))
theorem sc_System_holds : FnScope N_System_holds ["self", "point"] (defScope s_System_holds) := ⟨rfl, rfl, rfl, by decide +kernel, rfl, by decide +kernel, by decide +kernel⟩
theorem bx_System_holds {P : Program} {w : World} {K : PySem.W.Frag} {mg : Str → Option Value} {base : Heap} {f : Addr} {C_BadPoint : Addr} {C_System : Addr} (hc_System : Cls K C_System) (na_System_conditions : NoAttr K C_System "conditions") (h__is_met : KnO P w K mg base "_is_met" 2 fs__is_met) (b_len : mg ("len" : Str) = none) (na_System_width : NoAttr K C_System "width") (he_BadPoint : KnE P w K mg base "BadPoint" C_BadPoint 1 0 fsi_BadPoint) (cdv : Value) (A : Around) (outer : List PySem.Env) (s : Shared) (H : Hp) (E : XK) (hr : Room 2 (A.deeper (envOfC "System.holds" (defScope s_System_holds) s.heap.objs.size f cdv))) :
    ZS (cxOf (L2.CX P w) P w K mg base N_System_holds "System.holds" (defScope s_System_holds) f cdv A outer s H E) (defBody s_System_holds) (rd_System_holds C_BadPoint C_System) := by
  have S := sc_System_holds
  exact zs_cons (zx_if (tx_ne hr.units (ex_len b_len (ax_cons (ex_var 1) (ax_nil))) (ex_fld hc_System na_System_width (ex_var 0))) (zs_cons (zx_raise he_BadPoint rfl (hr.mono (by decide)) (ax_cons (ex_len b_len (ax_cons (ex_var 1) (ax_nil))) (ax_nil)))
    (zs_nil)) (zs_nil))
    (zs_cons (zx_of (sx_for (passes_of rfl) rfl (ix_seq (ex_fld hc_System na_System_conditions (ex_var 0))) (gx_name S.nd) (bx_one (sx_if (tx_not (tx_val (ex_callO h__is_met (hr.mono (by decide)) (ax_cons (ex_var 2) (ax_cons (ex_var 1) (ax_nil)))))) (bx_one (sx_ret (ex_bl))) (bx_nil)))))
    (zs_cons (zx_of (sx_ret (ex_bl)))
    (zs_nil)))
theorem sc_System___contains__ : FnScope N_System___contains__ ["self", "point"] (defScope s_System___contains__) := ⟨rfl, rfl, rfl, by decide +kernel, rfl, by decide +kernel, by decide +kernel⟩
theorem bx_System___contains__ {P : Program} {w : World} {K : PySem.W.Frag} {mg : Str → Option Value} {base : Heap} {f : Addr} {C_BadPoint : Addr} {C_System : Addr} (hc_System : Cls K C_System) (hm_System_holds : KxM P w K mg base C_System "holds" 3 (fx_System_holds C_BadPoint C_System)) (cdv : Value) (A : Around) (outer : List PySem.Env) (s : Shared) (H : Hp) (E : XK) (hr : Room 3 (A.deeper (envOfC "System.__contains__" (defScope s_System___contains__) s.heap.objs.size f cdv))) :
    ZS (cxOf (L2.CX P w) P w K mg base N_System___contains__ "System.__contains__" (defScope s_System___contains__) f cdv A outer s H E) (defBody s_System___contains__) (rd_System___contains__ C_BadPoint C_System) := by
  have S := sc_System___contains__
  exact zs_cons (zx_ret (ze_methK hc_System hm_System_holds (hr.mono (by decide)) (ex_var 0) (ax_cons (ex_var 1) (ax_nil))))
    (zs_nil)
theorem sc_System___and__ : FnScope N_System___and__ ["self", "other"] (defScope s_System___and__) := ⟨rfl, rfl, rfl, by decide +kernel, rfl, by decide +kernel, by decide +kernel⟩
theorem bx_System___and__ {P : Program} {w : World} {K : PySem.W.Frag} {mg : Str → Option Value} {base : Heap} {f : Addr} {C_BadSystem : Addr} {C_System : Addr} (hc_System : Cls K C_System) (na_System_conditions : NoAttr K C_System "conditions") (na_System_width : NoAttr K C_System "width") (hi_System : KxI P w K mg base "System" C_System 3 (fx_System___init__ C_BadSystem C_System)) (he_BadSystem : KnE P w K mg base "BadSystem" C_BadSystem 1 0 fsi_BadSystem) (cdv : Value) (A : Around) (outer : List PySem.Env) (s : Shared) (H : Hp) (E : XK) (hr : Room 4 (A.deeper (envOfC "System.__and__" (defScope s_System___and__) s.heap.objs.size f cdv))) :
    ZS (cxOf (L2.CX P w) P w K mg base N_System___and__ "System.__and__" (defScope s_System___and__) f cdv A outer s H E) (defBody s_System___and__) (rd_System___and__ C_BadSystem C_System) := by
  have S := sc_System___and__
  exact zs_cons (zx_if (tx_ne hr.units (ex_fld hc_System na_System_width (ex_var 1)) (ex_fld hc_System na_System_width (ex_var 0))) (zs_cons (zx_raise he_BadSystem rfl (hr.mono (by decide)) (ax_cons (ex_neg (ex_int)) (ax_nil)))
    (zs_nil)) (zs_nil))
    (zs_cons (zx_ret (ze_makeK hi_System (hr.mono (by decide)) (ax_cons (ex_fld hc_System na_System_width (ex_var 0)) (ax_cons (ex_add (ex_fld hc_System na_System_conditions (ex_var 0)) (ex_fld hc_System na_System_conditions (ex_var 1))) (ax_nil)))))
    (zs_nil))
theorem sc_System_adding : FnScope N_System_adding ["self", "conditions"] (defScope s_System_adding) := ⟨rfl, rfl, rfl, by decide +kernel, rfl, by decide +kernel, by decide +kernel⟩
theorem bx_System_adding {P : Program} {w : World} {K : PySem.W.Frag} {mg : Str → Option Value} {base : Heap} {f : Addr} {C_BadSystem : Addr} {C_System : Addr} (hc_System : Cls K C_System) (na_System_conditions : NoAttr K C_System "conditions") (na_System_width : NoAttr K C_System "width") (hi_System : KxI P w K mg base "System" C_System 3 (fx_System___init__ C_BadSystem C_System)) (cdv : Value) (A : Around) (outer : List PySem.Env) (s : Shared) (H : Hp) (E : XK) (hr : Room 4 (A.deeper (envOfC "System.adding" (defScope s_System_adding) s.heap.objs.size f cdv))) :
    ZS (cxOf (L2.CX P w) P w K mg base N_System_adding "System.adding" (defScope s_System_adding) f cdv A outer s H E) (defBody s_System_adding) (rd_System_adding C_BadSystem C_System) := by
  have S := sc_System_adding
  exact zs_cons (zx_ret (ze_makeK hi_System (hr.mono (by decide)) (ax_cons (ex_fld hc_System na_System_width (ex_var 0)) (ax_cons (ex_add (ex_fld hc_System na_System_conditions (ex_var 0)) (ex_var 1)) (ax_nil)))))
    (zs_nil)
theorem sc_System_widened : FnScope N_System_widened ["self", "count"] (defScope s_System_widened) := ⟨rfl, rfl, rfl, by decide +kernel, rfl, by decide +kernel, by decide +kernel⟩
theorem bx_System_widened {P : Program} {w : World} {K : PySem.W.Frag} {mg : Str → Option Value} {base : Heap} {f : Addr} {C_BadCount : Addr} {C_BadSystem : Addr} {C_System : Addr} (hc_System : Cls K C_System) (na_System_width : NoAttr K C_System "width") (hi_System : KxI P w K mg base "System" C_System 3 (fx_System___init__ C_BadSystem C_System)) (na_System_conditions : NoAttr K C_System "conditions") (h_extended : KnO P w K mg base "extended" 1 fs_extended) (hv_System_MOST : KnV K mg "System" "MOST" (.int 80)) (he_BadSystem : KnE P w K mg base "BadSystem" C_BadSystem 1 0 fsi_BadSystem) (he_BadCount : KnE P w K mg base "BadCount" C_BadCount 1 0 fsi_BadCount) (cdv : Value) (A : Around) (outer : List PySem.Env) (s : Shared) (H : Hp) (E : XK) (hr : Room 4 (A.deeper (envOfC "System.widened" (defScope s_System_widened) s.heap.objs.size f cdv))) :
    ZS (cxOf (L2.CX P w) P w K mg base N_System_widened "System.widened" (defScope s_System_widened) f cdv A outer s H E) (defBody s_System_widened) (rd_System_widened C_BadCount C_BadSystem C_System) := by
  have S := sc_System_widened
  exact zs_cons (zx_if (tx_not (tx_lele (ex_int) (ex_var 1) (ex_cvalK hv_System_MOST))) (zs_cons (zx_raise he_BadCount rfl (hr.mono (by decide)) (ax_cons (ex_var 1) (ax_nil)))
    (zs_nil)) (zs_nil))
    (zs_cons (zx_if (tx_gt (ex_add (ex_fld hc_System na_System_width (ex_var 0)) (ex_var 1)) (ex_cvalK hv_System_MOST)) (zs_cons (zx_raise he_BadSystem rfl (hr.mono (by decide)) (ax_cons (ex_neg (ex_int)) (ax_nil)))
    (zs_nil)) (zs_nil))
    (zs_cons (zx_of (sx_setLcD rfl S.nd (ix_seq (ex_fld hc_System na_System_conditions (ex_var 0))) (blkOk_by (N := N_System_widened) (sc := defScope s_System_widened) (by decide +kernel)) (fun _ _ _ _ _ => pg_name (i := 3) S.nd rfl (Or.inl rfl)) (fun _ _ _ _ _ => ⟨_, ts_nil⟩) (fun _ _ _ _ _ => ⟨_, ex_add (ex_sl (ex_var 3) (ox_none) (ox_some (ex_neg (ex_int)))) (ex_tup (ax_cons (ex_callO h_extended (hr.mono (by decide)) (ax_cons (ex_ix (ex_var 3) (ex_neg (ex_int))) (ax_cons (ex_var 1) (ax_nil)))) (ax_nil)))⟩) (sw_true rfl rfl rfl (by decide +kernel))))
    (zs_cons (zx_ret (ze_makeK hi_System (hr.mono (by decide)) (ax_cons (ex_add (ex_fld hc_System na_System_width (ex_var 0)) (ex_var 1)) (ax_cons (ex_var 2) (ax_nil)))))
    (zs_nil))))
theorem sc_System_fixed : FnScope N_System_fixed ["self", "numbers"] (defScope s_System_fixed) := ⟨rfl, rfl, rfl, by decide +kernel, rfl, by decide +kernel, by decide +kernel⟩
theorem bx_System_fixed {P : Program} {w : World} {K : PySem.W.Frag} {mg : Str → Option Value} {base : Heap} {f : Addr} {C_BadPoint : Addr} {C_BadSystem : Addr} {C_System : Addr} (hc_System : Cls K C_System) (na_System_width : NoAttr K C_System "width") (hi_System : KxI P w K mg base "System" C_System 3 (fx_System___init__ C_BadSystem C_System)) (na_System_conditions : NoAttr K C_System "conditions") (h_row_value : KnO P w K mg base "row_value" 1 fs_row_value) (he_BadPoint : KnE P w K mg base "BadPoint" C_BadPoint 1 0 fsi_BadPoint) (b_len : mg ("len" : Str) = none) (cdv : Value) (A : Around) (outer : List PySem.Env) (s : Shared) (H : Hp) (E : XK) (hr : Room 4 (A.deeper (envOfC "System.fixed" (defScope s_System_fixed) s.heap.objs.size f cdv))) :
    ZS (cxOf (L2.CX P w) P w K mg base N_System_fixed "System.fixed" (defScope s_System_fixed) f cdv A outer s H E) (defBody s_System_fixed) (rd_System_fixed C_BadPoint C_BadSystem C_System) := by
  have S := sc_System_fixed
  exact zs_cons (zx_of (sx_set S.nd (ex_len b_len (ax_cons (ex_var 1) (ax_nil)))))
    (zs_cons (zx_if (tx_gt (ex_var 2) (ex_fld hc_System na_System_width (ex_var 0))) (zs_cons (zx_raise he_BadPoint rfl (hr.mono (by decide)) (ax_cons (ex_var 2) (ax_nil)))
    (zs_nil)) (zs_nil))
    (zs_cons (zx_of (sx_setC S.nd (ex_lst (ax_nil))))
    (zs_cons (zx_of (sx_for (passes_of rfl) rfl (ix_seq (ex_fld hc_System na_System_conditions (ex_var 0))) (gx_name S.nd) (bx_cons (sx_set S.nd (ex_ix (ex_var 4) (ex_neg (ex_int))))
    (bx_cons (sx_set S.nd (ex_callO h_row_value (hr.mono (by decide)) (ax_cons (ex_add (ex_sl (ex_var 5) (ox_none) (ox_some (ex_var 2))) (ex_sl (ex_var 5) (ox_some (ex_neg (ex_int))) (ox_none))) (ax_cons (ex_var 1) (ax_nil)))))
    (bx_one (sx_expr (ex_append (ex_var 3) (ex_add (ex_sl (ex_var 4) (ox_none) (ox_some (ex_neg (ex_int)))) (ex_tup (ax_cons (ex_add (ex_sl (ex_var 5) (ox_some (ex_var 2)) (ox_some (ex_neg (ex_int)))) (ex_tup (ax_cons (ex_var 6) (ax_nil)))) (ax_nil)))))))))))
    (zs_cons (zx_ret (ze_makeK hi_System (hr.mono (by decide)) (ax_cons (ex_sub (ex_fld hc_System na_System_width (ex_var 0)) (ex_var 2)) (ax_cons (ex_var 3) (ax_nil)))))
    (zs_nil)))))
theorem sc__law_draw : FnScope N__law_draw ["_law_pool", "_law_many"] (defScope s__law_draw) := ⟨rfl, rfl, rfl, by decide +kernel, rfl, by decide +kernel, by decide +kernel⟩
theorem bx__law_draw {P : Program} {w : World} {K : PySem.W.Frag} {mg : Str → Option Value} {base : Heap} {f : Addr} (b_int : mg ("int" : Str) = none) (cdv : Value) (A : Around) (outer : List PySem.Env) (s : Shared) (H : Hp) (E : XK) (hr : Room 0 (A.deeper (envOfC "_law_draw" (defScope s__law_draw) s.heap.objs.size f cdv))) :
    ∃ t, BX (cxOf CX0 P w K mg base N__law_draw "_law_draw" (defScope s__law_draw) f cdv A outer s H E).nox (defBody s__law_draw) t (rd__law_draw) := by
  have S := sc__law_draw
  exact ⟨_, bx_cons (sx_if (tx_eq hr.units (ex_var 0) (ex_lst (ax_nil))) (bx_one (sx_ret (ex_int))) (bx_nil))
    (bx_cons (sx_set S.nd (ex_pop (ex_var 0)))
    (bx_cons (sx_set S.nd (ex_div (ex_var 2) (ex_var 1)))
    (bx_cons (sx_if (tx_nin (ex_var 3) (ex_tup (ax_cons (ex_int) (ax_cons (ex_neg (ex_int)) (ax_nil))))) (bx_one (sx_expr (ex_append (ex_var 0) (ex_var 3)))) (bx_nil))
    (bx_one (sx_ret (ex_mod (ex_toint b_int (ax_cons (ex_var 2) (ax_nil))) (ex_var 1)))))))⟩
theorem sc__law_number : FnScope N__law_number ["_law_pool", "_law_size", "_law_at"] (defScope s__law_number) := ⟨rfl, rfl, rfl, by decide +kernel, rfl, by decide +kernel, by decide +kernel⟩
theorem bx__law_number {P : Program} {w : World} {K : PySem.W.Frag} {mg : Str → Option Value} {base : Heap} {f : Addr} (h__law_draw : KnO P w K mg base "_law_draw" 1 fs__law_draw) (b_int : mg ("int" : Str) = none) (cdv : Value) (A : Around) (outer : List PySem.Env) (s : Shared) (H : Hp) (E : XK) (hr : Room 1 (A.deeper (envOfC "_law_number" (defScope s__law_number) s.heap.objs.size f cdv))) :
    ∃ t, BX (cxOf CX0 P w K mg base N__law_number "_law_number" (defScope s__law_number) f cdv A outer s H E).nox (defBody s__law_number) t (rd__law_number) := by
  have S := sc__law_number
  exact ⟨_, bx_one (sx_ret (ex_sub (ex_mod (ex_toint b_int (ax_cons (ex_add (ex_add (ex_callO h__law_draw (hr.mono (by decide)) (ax_cons (ex_var 0) (ax_cons (ex_add (ex_mul (ex_int) (ex_var 1)) (ex_int)) (ax_nil)))) (ex_var 1)) (ex_var 2)) (ax_nil))) (ex_add (ex_mul (ex_int) (ex_var 1)) (ex_int))) (ex_var 1)))⟩
theorem sc__law_value : FnScope N__law_value ["_law_row", "_law_point"] (defScope s__law_value) := ⟨rfl, rfl, rfl, by decide +kernel, rfl, by decide +kernel, by decide +kernel⟩
theorem bx__law_value {P : Program} {w : World} {K : PySem.W.Frag} {mg : Str → Option Value} {base : Heap} {f : Addr} (b_len : mg ("len" : Str) = none) (b_range : mg ("range" : Str) = none) (b_sum : mg ("sum" : Str) = none) (cdv : Value) (A : Around) (outer : List PySem.Env) (s : Shared) (H : Hp) (E : XK) (hr : Room 0 (A.deeper (envOfC "_law_value" (defScope s__law_value) s.heap.objs.size f cdv))) :
    ∃ t, BX (cxOf CX0 P w K mg base N__law_value "_law_value" (defScope s__law_value) f cdv A outer s H E).nox (defBody s__law_value) t (rd__law_value) := by
  have S := sc__law_value
  exact ⟨_, bx_one (sx_ret (ex_add (ex_ix (ex_var 0) (ex_neg (ex_int))) (ex_sum rfl b_sum (ax_cons (ex_lcx rfl S.nd (ix_rng1 b_range (ax_cons (ex_len b_len (ax_cons (ex_var 1) (ax_nil))) (ax_nil))) (blkOk_by (N := N__law_value) (sc := defScope s__law_value) (by decide +kernel)) (fun _ _ _ _ _ => pg_name (i := 2) S.nd rfl (Or.inl rfl)) (fun _ _ _ _ _ => ⟨_, ts_nil⟩) (fun _ _ _ _ _ => ⟨_, ex_mul (ex_ix (ex_var 0) (ex_var 2)) (ex_ix (ex_var 1) (ex_var 2))⟩)) (ax_nil)))))⟩
theorem sc__law_holds : FnScope N__law_holds ["_law_rules", "_law_point"] (defScope s__law_holds) := ⟨rfl, rfl, rfl, by decide +kernel, rfl, by decide +kernel, by decide +kernel⟩
theorem bx__law_holds {P : Program} {w : World} {K : PySem.W.Frag} {mg : Str → Option Value} {base : Heap} {f : Addr} (b_int : mg ("int" : Str) = none) (h__law_value : KnO P w K mg base "_law_value" 1 fs__law_value) (cdv : Value) (A : Around) (outer : List PySem.Env) (s : Shared) (H : Hp) (E : XK) (hr : Room 1 (A.deeper (envOfC "_law_holds" (defScope s__law_holds) s.heap.objs.size f cdv))) :
    ∃ t, BX (cxOf CX0 P w K mg base N__law_holds "_law_holds" (defScope s__law_holds) f cdv A outer s H E).nox (defBody s__law_holds) t (rd__law_holds) := by
  have S := sc__law_holds
  exact ⟨_, bx_cons (sx_for PassesOwn.never rfl (ix_seq (ex_var 0)) (gx_name S.nd) (bx_cons (sx_set S.nd (ex_callO h__law_value (hr.mono (by decide)) (ax_cons (ex_ix (ex_var 2) (ex_neg (ex_int))) (ax_cons (ex_var 1) (ax_nil)))))
    (bx_cons (sx_if (WX.tx (wx_and (tx_eq hr.units (ex_ix (ex_var 2) (ex_int)) (ex_str)) (wx_and1 (tx_lt (ex_var 3) (ex_int))))) (bx_one (sx_ret (ex_bl))) (bx_nil))
    (bx_cons (sx_if (WX.tx (wx_and (tx_eq hr.units (ex_ix (ex_var 2) (ex_int)) (ex_str)) (wx_and1 (tx_ne hr.units (ex_var 3) (ex_int))))) (bx_one (sx_ret (ex_bl))) (bx_nil))
    (bx_one (sx_if (WX.tx (wx_and (tx_eq hr.units (ex_ix (ex_var 2) (ex_int)) (ex_str)) (wx_and1 (tx_ne hr.units (ex_mod (ex_toint b_int (ax_cons (ex_var 3) (ax_nil))) (ex_ix (ex_var 2) (ex_int))) (ex_int))))) (bx_one (sx_ret (ex_bl))) (bx_nil)))))))
    (bx_one (sx_ret (ex_bl)))⟩
theorem sc__law_rule : FnScope N__law_rule ["_law_pool", "_law_point", "_law_at", "_law_mood"] (defScope s__law_rule) := ⟨rfl, rfl, rfl, by decide +kernel, rfl, by decide +kernel, by decide +kernel⟩
theorem bx__law_rule {P : Program} {w : World} {K : PySem.W.Frag} {mg : Str → Option Value} {base : Heap} {f : Addr} (b_tuple : mg ("tuple" : Str) = none) (h__law_draw : KnO P w K mg base "_law_draw" 1 fs__law_draw) (b_int : mg ("int" : Str) = none) (b_len : mg ("len" : Str) = none) (b_range : mg ("range" : Str) = none) (b_sum : mg ("sum" : Str) = none) (h__law_number : KnO P w K mg base "_law_number" 2 fs__law_number) (cdv : Value) (A : Around) (outer : List PySem.Env) (s : Shared) (H : Hp) (E : XK) (hr : Room 2 (A.deeper (envOfC "_law_rule" (defScope s__law_rule) s.heap.objs.size f cdv))) :
    ∃ t, BX (cxOf CX0 P w K mg base N__law_rule "_law_rule" (defScope s__law_rule) f cdv A outer s H E).nox (defBody s__law_rule) t (rd__law_rule) := by
  have S := sc__law_rule
  exact ⟨_, bx_cons (sx_set S.nd (ex_mod (ex_toint b_int (ax_cons (ex_add (ex_callO h__law_draw (hr.mono (by decide)) (ax_cons (ex_var 0) (ax_cons (ex_int) (ax_nil)))) (ex_var 2)) (ax_nil))) (ex_int)))
    (bx_cons (sx_set S.nd (ex_add (ex_int) (ex_mod (ex_toint b_int (ax_cons (ex_add (ex_callO h__law_draw (hr.mono (by decide)) (ax_cons (ex_var 0) (ax_cons (ex_int) (ax_nil)))) (ex_mul (ex_int) (ex_var 2))) (ax_nil))) (ex_int))))
    (bx_cons (sx_set S.nd (ex_lcx rfl S.nd (ix_rng1 b_range (ax_cons (ex_len b_len (ax_cons (ex_var 1) (ax_nil))) (ax_nil))) (blkOk_by (N := N__law_rule) (sc := defScope s__law_rule) (by decide +kernel)) (fun _ _ _ _ _ => pg_name (i := 9) S.nd rfl (Or.inl rfl)) (fun _ _ _ _ _ => ⟨_, ts_nil⟩) (fun _ _ _ _ _ => ⟨_, ex_callO h__law_number (hr.mono (by decide)) (ax_cons (ex_var 0) (ax_cons (ex_int) (ax_cons (ex_add (ex_add (ex_var 2) (ex_mul (ex_int) (ex_var 9))) (ex_int)) (ax_nil))))⟩)))
    (bx_cons (sx_set S.nd (ex_neg (ex_sum rfl b_sum (ax_cons (ex_lcx rfl S.nd (ix_rng1 b_range (ax_cons (ex_len b_len (ax_cons (ex_var 1) (ax_nil))) (ax_nil))) (blkOk_by (N := N__law_rule) (sc := defScope s__law_rule) (by decide +kernel)) (fun _ _ _ _ _ => pg_name (i := 9) S.nd rfl (Or.inl rfl)) (fun _ _ _ _ _ => ⟨_, ts_nil⟩) (fun _ _ _ _ _ => ⟨_, ex_mul (ex_ix (ex_var 6) (ex_var 9)) (ex_ix (ex_var 1) (ex_var 9))⟩)) (ax_nil)))))
    (bx_cons (sx_set S.nd (ex_callO h__law_draw (hr.mono (by decide)) (ax_cons (ex_var 0) (ax_cons (ex_int) (ax_nil)))))
    (bx_cons (sx_if (WX.tx (wx_and (tx_eq hr.units (ex_var 3) (ex_int)) (wx_and1 (tx_eq hr.units (ex_var 4) (ex_int))))) (bx_one (sx_set S.nd (ex_add (ex_var 7) (ex_var 8)))) (bx_nil))
    (bx_cons (sx_if (WX.tx (wx_and (tx_eq hr.units (ex_var 3) (ex_int)) (wx_and1 (tx_eq hr.units (ex_var 4) (ex_int))))) (bx_one (sx_set S.nd (ex_add (ex_var 7) (ex_mul (ex_var 5) (ex_sub (ex_mod (ex_toint b_int (ax_cons (ex_var 8) (ax_nil))) (ex_int)) (ex_int)))))) (bx_nil))
    (bx_cons (sx_if (tx_eq hr.units (ex_var 3) (ex_int)) (bx_one (sx_set S.nd (ex_sub (ex_var 7) (ex_int)))) (bx_nil))
    (bx_cons (sx_if (tx_eq hr.units (ex_var 3) (ex_int)) (bx_one (sx_set S.nd (ex_sub (ex_callO h__law_draw (hr.mono (by decide)) (ax_cons (ex_var 0) (ax_cons (ex_int) (ax_nil)))) (ex_int)))) (bx_nil))
    (bx_cons (sx_set S.nd (ex_tuple b_tuple (ax_cons (ex_add (ex_var 6) (ex_lst (ax_cons (ex_var 7) (ax_nil)))) (ax_nil))))
    (bx_cons (sx_if (tx_eq hr.units (ex_var 4) (ex_int)) (bx_one (sx_ret (ex_tup (ax_cons (ex_str) (ax_cons (ex_var 5) (ax_cons (ex_var 6) (ax_nil))))))) (bx_nil))
    (bx_one (sx_ret (ex_tup (ax_cons (ex_ix (ex_lst (ax_cons (ex_str) (ax_cons (ex_str) (ax_nil)))) (ex_var 4)) (ax_cons (ex_var 6) (ax_nil))))))))))))))))⟩
theorem sc__law_world : FnScope N__law_world ["_law_pool"] (defScope s__law_world) := ⟨rfl, rfl, rfl, by decide +kernel, rfl, by decide +kernel, by decide +kernel⟩
theorem bx__law_world {P : Program} {w : World} {K : PySem.W.Frag} {mg : Str → Option Value} {base : Heap} {f : Addr} (b_tuple : mg ("tuple" : Str) = none) (h__law_draw : KnO P w K mg base "_law_draw" 1 fs__law_draw) (b_list : mg ("list" : Str) = none) (b_range : mg ("range" : Str) = none) (b_int : mg ("int" : Str) = none) (h__law_rule : KnO P w K mg base "_law_rule" 3 fs__law_rule) (b_max : mg ("max" : Str) = none) (h__law_number : KnO P w K mg base "_law_number" 2 fs__law_number) (cdv : Value) (A : Around) (outer : List PySem.Env) (s : Shared) (H : Hp) (E : XK) (hr : Room 3 (A.deeper (envOfC "_law_world" (defScope s__law_world) s.heap.objs.size f cdv))) :
    ∃ t, BX (cxOf CX0 P w K mg base N__law_world "_law_world" (defScope s__law_world) f cdv A outer s H E).nox (defBody s__law_world) t (rd__law_world) := by
  have S := sc__law_world
  exact ⟨_, bx_cons (sx_set S.nd (ex_callO h__law_draw (hr.mono (by decide)) (ax_cons (ex_var 0) (ax_cons (ex_int) (ax_nil)))))
    (bx_cons (sx_set S.nd (ex_mod (ex_toint b_int (ax_cons (ex_add (ex_callO h__law_draw (hr.mono (by decide)) (ax_cons (ex_var 0) (ax_cons (ex_int) (ax_nil)))) (ex_int)) (ax_nil))) (ex_int)))
    (bx_cons (sx_set S.nd (ex_mod (ex_toint b_int (ax_cons (ex_add (ex_callO h__law_draw (hr.mono (by decide)) (ax_cons (ex_var 0) (ax_cons (ex_int) (ax_nil)))) (ex_int)) (ax_nil))) (ex_int)))
    (bx_cons (sx_setLcD rfl S.nd (ix_rng1 b_range (ax_cons (ex_var 2) (ax_nil))) (blkOk_by (N := N__law_world) (sc := defScope s__law_world) (by decide +kernel)) (fun _ _ _ _ _ => pg_name (i := 9) S.nd rfl (Or.inl rfl)) (fun _ _ _ _ _ => ⟨_, ts_nil⟩) (fun _ _ _ _ _ => ⟨_, ex_callO h__law_number (hr.mono (by decide)) (ax_cons (ex_var 0) (ax_cons (ex_int) (ax_cons (ex_add (ex_var 9) (ex_int)) (ax_nil))))⟩) (sw_true rfl rfl rfl (by decide +kernel)))
    (bx_cons (sx_set S.nd (ex_callO h__law_draw (hr.mono (by decide)) (ax_cons (ex_var 0) (ax_cons (ex_int) (ax_nil)))))
    (bx_cons (sx_set S.nd (ex_callO h__law_draw (hr.mono (by decide)) (ax_cons (ex_var 0) (ax_cons (ex_max2 rfl b_max (ax_cons (ex_int) (ax_cons (ex_var 3) (ax_nil)))) (ax_nil)))))
    (bx_cons (sx_setC S.nd (ex_lst (ax_nil)))
    (bx_cons (sx_for PassesOwn.never rfl (ix_rng1 b_range (ax_cons (ex_var 3) (ax_nil))) (gx_name S.nd) (bx_one (sx_expr (ex_append (ex_var 7) (ex_callO h__law_rule (hr.mono (by decide)) (ax_cons (ex_var 0) (ax_cons (ex_var 4) (ax_cons (ex_var 8) (ax_cons (ex_ix (ex_lst (ax_cons (ex_int) (ax_cons (ex_toint b_int (ax_cons (ex_eq hr.units (ex_var 8) (ex_var 6)) (ax_nil))) (ax_cons (ex_int) (ax_nil))))) (ex_var 5)) (ax_nil))))))))))
    (bx_cons (sx_if (WX.tx (wx_and (tx_eq hr.units (ex_var 1) (ex_int)) (wx_and1 (tx_gt (ex_var 3) (ex_int))))) (bx_cons (sx_set S.nd (ex_callO h__law_draw (hr.mono (by decide)) (ax_cons (ex_var 0) (ax_cons (ex_var 3) (ax_nil)))))
    (bx_cons (sx_set S.nd (ex_callO h__law_draw (hr.mono (by decide)) (ax_cons (ex_var 0) (ax_cons (ex_add (ex_var 2) (ex_int)) (ax_nil)))))
    (bx_cons (sx_setC S.nd (ex_list b_list (ax_cons (ex_ix (ex_ix (ex_var 7) (ex_var 8)) (ex_neg (ex_int))) (ax_nil))))
    (bx_cons (sx_setI (ex_sub (ex_callO h__law_draw (hr.mono (by decide)) (ax_cons (ex_var 0) (ax_cons (ex_add (ex_mul (ex_int) (ex_pow (ex_int) (ex_int))) (ex_int)) (ax_nil)))) (ex_pow (ex_int) (ex_int))) (ex_var 10) (ex_var 9))
    (bx_one (sx_setI (ex_add (ex_sl (ex_ix (ex_var 7) (ex_var 8)) (ox_none) (ox_some (ex_neg (ex_int)))) (ex_tup (ax_cons (ex_tuple b_tuple (ax_cons (ex_var 10) (ax_nil))) (ax_nil)))) (ex_var 7) (ex_var 8))))))) (bx_nil))
    (bx_one (sx_ret (ex_tup (ax_cons (ex_var 1) (ax_cons (ex_var 2) (ax_cons (ex_var 4) (ax_cons (ex_hold (ex_var 7)) (ax_nil))))))))))))))))⟩
theorem sc__law_points : FnScope N__law_points ["_law_pool", "_law_edge", "_law_point"] (defScope s__law_points) := ⟨rfl, rfl, rfl, by decide +kernel, rfl, by decide +kernel, by decide +kernel⟩
theorem bx__law_points {P : Program} {w : World} {K : PySem.W.Frag} {mg : Str → Option Value} {base : Heap} {f : Addr} (b_len : mg ("len" : Str) = none) (h__law_draw : KnO P w K mg base "_law_draw" 1 fs__law_draw) (b_range : mg ("range" : Str) = none) (h__law_number : KnO P w K mg base "_law_number" 2 fs__law_number) (b_list : mg ("list" : Str) = none) (cdv : Value) (A : Around) (outer : List PySem.Env) (s : Shared) (H : Hp) (E : XK) (hr : Room 2 (A.deeper (envOfC "_law_points" (defScope s__law_points) s.heap.objs.size f cdv))) :
    ∃ t, BX (cxOf CX0 P w K mg base N__law_points "_law_points" (defScope s__law_points) f cdv A outer s H E).nox (defBody s__law_points) t (rd__law_points) := by
  have S := sc__law_points
  exact ⟨_, bx_cons (sx_setC S.nd (ex_list b_list (ax_cons (ex_var 2) (ax_nil))))
    (bx_cons (sx_setLcC rfl S.nd (ix_rng1 b_range (ax_cons (ex_len b_len (ax_cons (ex_var 2) (ax_nil))) (ax_nil))) (blkOk_by (N := N__law_points) (sc := defScope s__law_points) (by decide +kernel)) (fun _ _ _ _ _ => pg_name (i := 5) S.nd rfl (Or.inl rfl)) (fun _ _ _ _ _ => ⟨_, ts_nil⟩) (fun _ _ _ _ _ => ⟨_, ex_callO h__law_number (hr.mono (by decide)) (ax_cons (ex_var 0) (ax_cons (ex_int) (ax_cons (ex_sub (ex_int) (ex_var 5)) (ax_nil))))⟩) (sw_true rfl rfl rfl (by decide +kernel)))
    (bx_cons (sx_if (tx_gt (ex_len b_len (ax_cons (ex_var 2) (ax_nil))) (ex_int)) (bx_cons (sx_set S.nd (ex_callO h__law_draw (hr.mono (by decide)) (ax_cons (ex_var 0) (ax_cons (ex_len b_len (ax_cons (ex_var 2) (ax_nil))) (ax_nil)))))
    (bx_one (sx_setI (ex_sub (ex_add (ex_ix (ex_var 3) (ex_var 5)) (ex_int)) (ex_mul (ex_int) (ex_callO h__law_draw (hr.mono (by decide)) (ax_cons (ex_var 0) (ax_cons (ex_int) (ax_nil)))))) (ex_var 3) (ex_var 5)))) (bx_nil))
    (bx_cons (sx_if (WX.tx (wx_and (tx_eq hr.units (ex_var 1) (ex_int)) (wx_and1 (tx_gt (ex_len b_len (ax_cons (ex_var 2) (ax_nil))) (ex_int))))) (bx_cons (sx_set S.nd (ex_callO h__law_draw (hr.mono (by decide)) (ax_cons (ex_var 0) (ax_cons (ex_len b_len (ax_cons (ex_var 2) (ax_nil))) (ax_nil)))))
    (bx_one (sx_setI (ex_sub (ex_callO h__law_draw (hr.mono (by decide)) (ax_cons (ex_var 0) (ax_cons (ex_add (ex_mul (ex_int) (ex_pow (ex_int) (ex_int))) (ex_int)) (ax_nil)))) (ex_pow (ex_int) (ex_int))) (ex_var 4) (ex_var 5)))) (bx_nil))
    (bx_one (sx_ret (ex_lst (ax_cons (ex_var 2) (ax_cons (ex_hold (ex_var 3)) (ax_cons (ex_hold (ex_var 4)) (ax_nil))))))))))⟩
theorem sc__law_widened : FnScope N__law_widened ["_law_rules", "_law_width", "_law_count"] (defScope s__law_widened) := ⟨rfl, rfl, rfl, by decide +kernel, rfl, by decide +kernel, by decide +kernel⟩
theorem bx__law_widened {P : Program} {w : World} {K : PySem.W.Frag} {mg : Str → Option Value} {base : Heap} {f : Addr} (cdv : Value) (A : Around) (outer : List PySem.Env) (s : Shared) (H : Hp) (E : XK) (hr : Room 0 (A.deeper (envOfC "_law_widened" (defScope s__law_widened) s.heap.objs.size f cdv))) :
    ∃ t, BX (cxOf CX0 P w K mg base N__law_widened "_law_widened" (defScope s__law_widened) f cdv A outer s H E).nox (defBody s__law_widened) t (rd__law_widened) := by
  have S := sc__law_widened
  exact ⟨_, bx_cons (sx_setC S.nd (ex_lst (ax_nil)))
    (bx_cons (sx_for PassesOwn.never rfl (ix_seq (ex_var 0)) (gx_name S.nd) (bx_cons (sx_set S.nd (ex_ix (ex_var 4) (ex_neg (ex_int))))
    (bx_one (sx_expr (ex_append (ex_var 3) (ex_add (ex_sl (ex_var 4) (ox_none) (ox_some (ex_neg (ex_int)))) (ex_tup (ax_cons (ex_add (ex_add (ex_sl (ex_var 5) (ox_none) (ox_some (ex_var 1))) (ex_mul (ex_tup (ax_cons (ex_int) (ax_nil))) (ex_var 2))) (ex_sl (ex_var 5) (ox_some (ex_var 1)) (ox_none))) (ax_nil)))))))))
    (bx_one (sx_ret (ex_var 3))))⟩
theorem sc__law_fixed : FnScope N__law_fixed ["_law_rules", "_law_width", "_law_numbers"] (defScope s__law_fixed) := ⟨rfl, rfl, rfl, by decide +kernel, rfl, by decide +kernel, by decide +kernel⟩
theorem bx__law_fixed {P : Program} {w : World} {K : PySem.W.Frag} {mg : Str → Option Value} {base : Heap} {f : Addr} (b_range : mg ("range" : Str) = none) (b_sum : mg ("sum" : Str) = none) (b_len : mg ("len" : Str) = none) (cdv : Value) (A : Around) (outer : List PySem.Env) (s : Shared) (H : Hp) (E : XK) (hr : Room 0 (A.deeper (envOfC "_law_fixed" (defScope s__law_fixed) s.heap.objs.size f cdv))) :
    ∃ t, BX (cxOf CX0 P w K mg base N__law_fixed "_law_fixed" (defScope s__law_fixed) f cdv A outer s H E).nox (defBody s__law_fixed) t (rd__law_fixed) := by
  have S := sc__law_fixed
  exact ⟨_, bx_cons (sx_set S.nd (ex_len b_len (ax_cons (ex_var 2) (ax_nil))))
    (bx_cons (sx_setC S.nd (ex_lst (ax_nil)))
    (bx_cons (sx_for PassesOwn.never rfl (ix_seq (ex_var 0)) (gx_name S.nd) (bx_cons (sx_set S.nd (ex_ix (ex_var 5) (ex_neg (ex_int))))
    (bx_cons (sx_set S.nd (ex_sum rfl b_sum (ax_cons (ex_lcx rfl S.nd (ix_rng1 b_range (ax_cons (ex_var 3) (ax_nil))) (blkOk_by (N := N__law_fixed) (sc := defScope s__law_fixed) (by decide +kernel)) (fun _ _ _ _ _ => pg_name (i := 8) S.nd rfl (Or.inl rfl)) (fun _ _ _ _ _ => ⟨_, ts_nil⟩) (fun _ _ _ _ _ => ⟨_, ex_mul (ex_ix (ex_var 6) (ex_var 8)) (ex_ix (ex_var 2) (ex_var 8))⟩)) (ax_nil))))
    (bx_cons (sx_set S.nd (ex_add (ex_sl (ex_var 6) (ox_some (ex_var 3)) (ox_some (ex_var 1))) (ex_tup (ax_cons (ex_add (ex_ix (ex_var 6) (ex_var 1)) (ex_var 7)) (ax_nil)))))
    (bx_one (sx_expr (ex_append (ex_var 4) (ex_add (ex_sl (ex_var 5) (ox_none) (ox_some (ex_neg (ex_int)))) (ex_tup (ax_cons (ex_var 6) (ax_nil)))))))))))
    (bx_one (sx_ret (ex_var 4)))))⟩
theorem sc__law_agrees : FnScope N__law_agrees ["_law_system", "_law_width", "_law_rules", "_law_points_here"] (defScope s__law_agrees) := ⟨rfl, rfl, rfl, by decide +kernel, rfl, by decide +kernel, by decide +kernel⟩
theorem bx__law_agrees {P : Program} {w : World} {K : PySem.W.Frag} {mg : Str → Option Value} {base : Heap} {f : Addr} {C_BadPoint : Addr} {C_System : Addr} (hn_System : KxN P w K mg base C_System 4 (fx_System___contains__ C_BadPoint C_System)) (hc_System : Cls K C_System) (hm_System_holds : KxM P w K mg base C_System "holds" 3 (fx_System_holds C_BadPoint C_System)) (b_repr : mg ("repr" : Str) = none) (b_tuple : mg ("tuple" : Str) = none) (b_list : mg ("list" : Str) = none) (h__law_holds : KnO P w K mg base "_law_holds" 2 fs__law_holds) (na_System_width : NoAttr K C_System "width") (na_System_conditions : NoAttr K C_System "conditions") (cdv : Value) (A : Around) (outer : List PySem.Env) (s : Shared) (H : Hp) (E : XK) (hr : Room 4 (A.deeper (envOfC "_law_agrees" (defScope s__law_agrees) s.heap.objs.size f cdv))) (hgu : (A.deeper (envOfC "_law_agrees" (defScope s__law_agrees) s.heap.objs.size f cdv)).guards = some []) :
    ∃ t, BX (cxOf CX0 P w K mg base N__law_agrees "_law_agrees" (defScope s__law_agrees) f cdv A outer s H E).nox (defBody s__law_agrees) t (rd__law_agrees C_BadPoint C_System) := by
  have S := sc__law_agrees
  exact ⟨_, bx_cons (sx_if (WX.tx (wx_or (tx_ne hr.units (ex_repr hgu hr.units b_repr (ax_cons (ex_fld hc_System na_System_width (ex_var 0)) (ax_nil))) (ex_repr hgu hr.units b_repr (ax_cons (ex_var 1) (ax_nil)))) (wx_or1 (tx_ne hr.units (ex_repr hgu hr.units b_repr (ax_cons (ex_fld hc_System na_System_conditions (ex_var 0)) (ax_nil))) (ex_repr hgu hr.units b_repr (ax_cons (ex_tuple b_tuple (ax_cons (ex_var 2) (ax_nil))) (ax_nil))))))) (bx_one (sx_ret (ex_bl))) (bx_nil))
    (bx_cons (sx_for PassesOwn.never rfl (ix_seq (ex_var 3)) (gx_name S.nd) (bx_cons (sx_set S.nd (ex_callO h__law_holds (hr.mono (by decide)) (ax_cons (ex_var 2) (ax_cons (ex_var 4) (ax_nil)))))
    (bx_cons (sx_set S.nd (ex_list b_list (ax_cons (ex_var 4) (ax_nil))))
    (bx_cons (sx_set S.nd (ex_tuple b_tuple (ax_cons (ex_var 4) (ax_nil))))
    (bx_cons (sx_if (tx_ne hr.units (ex_repr hgu hr.units b_repr (ax_cons (ex_lst (ax_cons (ex_methK hc_System hm_System_holds.calm (hr.mono (by decide)) (ex_var 0) (ax_cons (ex_var 6) (ax_nil))) (ax_cons (ex_methK hc_System hm_System_holds.calm (hr.mono (by decide)) (ex_var 0) (ax_cons (ex_var 7) (ax_nil))) (ax_nil)))) (ax_nil))) (ex_repr hgu hr.units b_repr (ax_cons (ex_lst (ax_cons (ex_var 5) (ax_cons (ex_var 5) (ax_nil)))) (ax_nil)))) (bx_one (sx_ret (ex_bl))) (bx_nil))
    (bx_cons (sx_if (WX.tx (wx_or (tx_ne hr.units (ex_inK hn_System.calm (hr.mono (by decide)) (ex_var 6) (ex_var 0)) (ex_var 5)) (wx_or1 (tx_ne hr.units (ex_inK hn_System.calm (hr.mono (by decide)) (ex_var 7) (ex_var 0)) (ex_var 5))))) (bx_one (sx_ret (ex_bl))) (bx_nil))
    (bx_one (sx_if (tx_ne hr.units (ex_var 6) (ex_var 4)) (bx_one (sx_ret (ex_bl))) (bx_nil)))))))))
    (bx_one (sx_ret (ex_bl))))⟩
theorem sc__law_listed : FnScope N__law_listed ["_law_rule_here"] (defScope s__law_listed) := ⟨rfl, rfl, rfl, by decide +kernel, rfl, by decide +kernel, by decide +kernel⟩
theorem bx__law_listed {P : Program} {w : World} {K : PySem.W.Frag} {mg : Str → Option Value} {base : Heap} {f : Addr} (b_list : mg ("list" : Str) = none) (cdv : Value) (A : Around) (outer : List PySem.Env) (s : Shared) (H : Hp) (E : XK) (hr : Room 0 (A.deeper (envOfC "_law_listed" (defScope s__law_listed) s.heap.objs.size f cdv))) :
    ∃ t, BX (cxOf CX0 P w K mg base N__law_listed "_law_listed" (defScope s__law_listed) f cdv A outer s H E).nox (defBody s__law_listed) t (rd__law_listed) := by
  have S := sc__law_listed
  exact ⟨_, bx_one (sx_ret (ex_add (ex_sl (ex_var 0) (ox_none) (ox_some (ex_neg (ex_int)))) (ex_tup (ax_cons (ex_list b_list (ax_cons (ex_ix (ex_var 0) (ex_neg (ex_int))) (ax_nil))) (ax_nil)))))⟩
theorem sc__law_bad : FnScope N__law_bad ["_law_pool", "_law_width"] (defScope s__law_bad) := ⟨rfl, rfl, rfl, by decide +kernel, rfl, by decide +kernel, by decide +kernel⟩
theorem bx__law_bad {P : Program} {w : World} {K : PySem.W.Frag} {mg : Str → Option Value} {base : Heap} {f : Addr} (b_int : mg ("int" : Str) = none) (b_range : mg ("range" : Str) = none) (h__law_number : KnO P w K mg base "_law_number" 2 fs__law_number) (b_tuple : mg ("tuple" : Str) = none) (h__law_draw : KnO P w K mg base "_law_draw" 1 fs__law_draw) (cdv : Value) (A : Around) (outer : List PySem.Env) (s : Shared) (H : Hp) (E : XK) (hr : Room 2 (A.deeper (envOfC "_law_bad" (defScope s__law_bad) s.heap.objs.size f cdv))) :
    ∃ t, BX (cxOf CX0 P w K mg base N__law_bad "_law_bad" (defScope s__law_bad) f cdv A outer s H E).nox (defBody s__law_bad) t (rd__law_bad) := by
  have S := sc__law_bad
  exact ⟨_, bx_cons (sx_set S.nd (ex_callO h__law_draw (hr.mono (by decide)) (ax_cons (ex_var 0) (ax_cons (ex_int) (ax_nil)))))
    (bx_cons (sx_set S.nd (ex_callO h__law_draw (hr.mono (by decide)) (ax_cons (ex_var 0) (ax_cons (ex_int) (ax_nil)))))
    (bx_cons (sx_set S.nd (ex_tuple b_tuple (ax_cons (ex_lcx rfl S.nd (ix_rng1 b_range (ax_cons (ex_add (ex_var 1) (ex_int)) (ax_nil))) (blkOk_by (N := N__law_bad) (sc := defScope s__law_bad) (by decide +kernel)) (fun _ _ _ _ _ => pg_name (i := 5) S.nd rfl (Or.inl rfl)) (fun _ _ _ _ _ => ⟨_, ts_nil⟩) (fun _ _ _ _ _ => ⟨_, ex_callO h__law_number (hr.mono (by decide)) (ax_cons (ex_var 0) (ax_cons (ex_int) (ax_cons (ex_var 5) (ax_nil))))⟩)) (ax_nil))))
    (bx_cons (sx_if (tx_eq hr.units (ex_var 2) (ex_int)) (bx_one (sx_ret (ex_tup (ax_cons (ex_str) (ax_cons (ex_add (ex_var 4) (ex_tup (ax_cons (ex_int) (ax_nil)))) (ax_nil)))))) (bx_nil))
    (bx_cons (sx_if (tx_eq hr.units (ex_var 2) (ex_int)) (bx_one (sx_ret (ex_tup (ax_cons (ex_str) (ax_cons (ex_sl (ex_var 4) (ox_some (ex_int)) (ox_none)) (ax_nil)))))) (bx_nil))
    (bx_cons (sx_if (tx_eq hr.units (ex_var 2) (ex_int)) (bx_one (sx_ret (ex_tup (ax_cons (ex_str) (ax_cons (ex_sl (ex_var 4) (ox_some (ex_int)) (ox_none)) (ax_nil)))))) (bx_nil))
    (bx_cons (sx_if (tx_eq hr.units (ex_var 2) (ex_int)) (bx_one (sx_ret (ex_tup (ax_cons (ex_str) (ax_cons (ex_add (ex_var 4) (ex_tup (ax_cons (ex_int) (ax_cons (ex_int) (ax_nil))))) (ax_nil)))))) (bx_nil))
    (bx_cons (sx_if (tx_eq hr.units (ex_var 2) (ex_int)) (bx_one (sx_ret (ex_tup (ax_cons (ex_str) (ax_cons (ex_add (ex_int) (ex_var 3)) (ax_cons (ex_sl (ex_var 4) (ox_some (ex_int)) (ox_none)) (ax_nil))))))) (bx_nil))
    (bx_cons (sx_if (tx_eq hr.units (ex_var 2) (ex_int)) (bx_one (sx_ret (ex_tup (ax_cons (ex_str) (ax_cons (ex_add (ex_int) (ex_var 3)) (ax_cons (ex_add (ex_var 4) (ex_tup (ax_cons (ex_int) (ax_nil)))) (ax_nil))))))) (bx_nil))
    (bx_cons (sx_if (tx_eq hr.units (ex_var 2) (ex_int)) (bx_one (sx_ret (ex_tup (ax_cons (ex_str) (ax_cons (ex_sub (ex_int) (ex_mod (ex_toint b_int (ax_cons (ex_var 3) (ax_nil))) (ex_int))) (ax_cons (ex_var 4) (ax_nil))))))) (bx_nil))
    (bx_one (sx_ret (ex_tup (ax_cons (ex_ix (ex_lst (ax_cons (ex_str) (ax_cons (ex_str) (ax_cons (ex_str) (ax_cons (ex_str) (ax_cons (ex_str) (ax_cons (ex_str) (ax_cons (ex_str) (ax_cons (ex_str) (ax_nil)))))))))) (ex_var 3)) (ax_cons (ex_var 4) (ax_nil)))))))))))))))⟩
theorem sc__law_do : FnScope N__law_do ["_law_system", "_law_deed", "_law_thing"] (defScope s__law_do) := ⟨rfl, rfl, rfl, by decide +kernel, rfl, by decide +kernel, by decide +kernel⟩
theorem bx__law_do {P : Program} {w : World} {K : PySem.W.Frag} {mg : Str → Option Value} {base : Heap} {f : Addr} {C_BadCount : Addr} {C_BadPoint : Addr} {C_BadSystem : Addr} {C_System : Addr} (hc_System : Cls K C_System) (hm_System_fixed : KxM P w K mg base C_System "fixed" 5 (fx_System_fixed C_BadPoint C_BadSystem C_System)) (hm_System_widened : KxM P w K mg base C_System "widened" 5 (fx_System_widened C_BadCount C_BadSystem C_System)) (hs_System_adding : KxS P w K mg base C_System "adding" 5 (fx_System_adding C_BadSystem C_System)) (hb_System_and : KxB P w K mg base C_System "__and__" 5 (fx_System___and__ C_BadSystem C_System)) (hn_System : KxN P w K mg base C_System 4 (fx_System___contains__ C_BadPoint C_System)) (hm_System_holds : KxM P w K mg base C_System "holds" 3 (fx_System_holds C_BadPoint C_System)) (hi_System : KxI P w K mg base "System" C_System 3 (fx_System___init__ C_BadSystem C_System)) (cdv : Value) (A : Around) (outer : List PySem.Env) (s : Shared) (H : Hp) (E : XK) (hr : Room 5 (A.deeper (envOfC "_law_do" (defScope s__law_do) s.heap.objs.size f cdv))) :
    ZS (cxOf (L2.CX P w) P w K mg base N__law_do "_law_do" (defScope s__law_do) f cdv A outer s H E) (defBody s__law_do) (rd__law_do C_BadCount C_BadPoint C_BadSystem C_System) := by
  have S := sc__law_do
  exact zs_cons (zx_if (tx_eq hr.units (ex_var 1) (ex_str)) (zs_cons (zx_ret (ze_makeK hi_System (hr.mono (by decide)) (ax_cons (ex_ix (ex_var 2) (ex_int)) (ax_cons (ex_ix (ex_var 2) (ex_int)) (ax_nil)))))
    (zs_nil)) (zs_nil))
    (zs_cons (zx_if (tx_eq hr.units (ex_var 1) (ex_str)) (zs_cons (zx_ret (ze_methK hc_System hm_System_holds (hr.mono (by decide)) (ex_var 0) (ax_cons (ex_var 2) (ax_nil))))
    (zs_nil)) (zs_nil))
    (zs_cons (zx_if (tx_eq hr.units (ex_var 1) (ex_str)) (zs_cons (zx_ret (ze_inK hn_System (hr.mono (by decide)) (ex_var 2) (ex_var 0)))
    (zs_nil)) (zs_nil))
    (zs_cons (zx_if (tx_eq hr.units (ex_var 1) (ex_str)) (zs_cons (zx_ret (ze_ownK (op := .BitAnd) hb_System_and (hr.mono (by decide)) (ex_var 0) (ex_var 2)))
    (zs_nil)) (zs_nil))
    (zs_cons (zx_if (tx_eq hr.units (ex_var 1) (ex_str)) (zs_cons (zx_ret (ze_methKS hc_System hs_System_adding (hr.mono (by decide)) (ex_var 0) (ax_cons (ex_ix (ex_var 2) (ex_int)) (ax_cons (ex_ix (ex_var 2) (ex_int)) (ax_nil)))))
    (zs_nil)) (zs_nil))
    (zs_cons (zx_if (tx_eq hr.units (ex_var 1) (ex_str)) (zs_cons (zx_ret (ze_methK hc_System hm_System_widened (hr.mono (by decide)) (ex_var 0) (ax_cons (ex_var 2) (ax_nil))))
    (zs_nil)) (zs_nil))
    (zs_cons (zx_ret (ze_methK hc_System hm_System_fixed (hr.mono (by decide)) (ex_var 0) (ax_cons (ex_var 2) (ax_nil))))
    (zs_nil)))))))
theorem sc__law_fault : FnScope N__law_fault ["_law_system", "_law_deed", "_law_thing"] (defScope s__law_fault) := ⟨rfl, rfl, rfl, by decide +kernel, rfl, by decide +kernel, by decide +kernel⟩
theorem bx__law_fault {P : Program} {w : World} {K : PySem.W.Frag} {mg : Str → Option Value} {base : Heap} {f : Addr} {C_BadCount : Addr} {C_BadPoint : Addr} {C_BadSystem : Addr} {C_LoopError : Addr} {C_System : Addr} (h__law_do : KxO P w K mg base "_law_do" 6 (fx__law_do C_BadCount C_BadPoint C_BadSystem C_System)) (gm_BadCount : mg ("BadCount" : Str) = some (.ref C_BadCount)) (gm_LoopError : mg ("LoopError" : Str) = some (.ref C_LoopError)) (b_isinstance : mg ("isinstance" : Str) = none) (b_ValueError : mg ("ValueError" : Str) = none) (gm_BadPoint : mg ("BadPoint" : Str) = some (.ref C_BadPoint)) (gm_BadSystem : mg ("BadSystem" : Str) = some (.ref C_BadSystem)) (cdv : Value) (A : Around) (outer : List PySem.Env) (s : Shared) (H : Hp) (E : XK) (hr : Room 6 (A.deeper (envOfC "_law_fault" (defScope s__law_fault) s.heap.objs.size f cdv))) :
    ZS (cxOf (L2.CX P w) P w K mg base N__law_fault "_law_fault" (defScope s__law_fault) f cdv A outer s H E) (defBody s__law_fault) (rd__law_fault K C_BadCount C_BadPoint C_BadSystem C_LoopError C_System) := by
  have S := sc__law_fault
  exact zs_cons (zx_try rfl rfl S.nd (fun pn xe hp => zs_cons (zx_expr (ze_callO h__law_do (hr.mono (by decide)) (ax_cons (ex_var 0) (ax_cons (ex_var 1) (ax_cons (ex_var 2) (ax_nil))))))
    (zs_nil))
      (hz_cons (i := 4) gm_BadSystem rfl rfl (fun a d C fs oe pn T hz hf => ⟨_, bx_cons (sx_set S.nd (ex_and (ex_not (ex_isE (c := .ref C_BadPoint) T hz hf ⟨rfl, by decide, .inl gm_BadPoint, fun _ h => h, rfl⟩ (ex_var 4) b_isinstance)) (ex_one (ex_not (ex_isE (c := .ref C_BadCount) T hz hf ⟨rfl, by decide, .inl gm_BadCount, fun _ h => h, rfl⟩ (ex_var 4) b_isinstance)))))
    (bx_one (sx_ret (ex_tup (ax_cons (ex_str) (ax_cons (ex_xf T hz hf (ex_var 4)) (ax_cons (ex_and (ex_var 3) (ex_and (ex_isE (c := .ref C_LoopError) T hz hf ⟨rfl, by decide, .inl gm_LoopError, fun _ h => h, rfl⟩ (ex_var 4) b_isinstance) (ex_one (ex_isE (c := .ty "ValueError") T hz hf ⟨rfl, by decide, .inr ⟨b_ValueError, PyProof.Rows.Boot.«ValueError», by decide⟩, fun _ h => h, rfl⟩ (ex_var 4) b_isinstance)))) (ax_nil)))))))⟩)
      (hz_cons (i := 4) gm_BadPoint rfl rfl (fun a d C fs oe pn T hz hf => ⟨_, bx_cons (sx_set S.nd (ex_not (ex_isE (c := .ref C_BadCount) T hz hf ⟨rfl, by decide, .inl gm_BadCount, fun _ h => h, rfl⟩ (ex_var 4) b_isinstance)))
    (bx_one (sx_ret (ex_tup (ax_cons (ex_str) (ax_cons (ex_xf T hz hf (ex_var 4)) (ax_cons (ex_and (ex_var 3) (ex_and (ex_isE (c := .ref C_LoopError) T hz hf ⟨rfl, by decide, .inl gm_LoopError, fun _ h => h, rfl⟩ (ex_var 4) b_isinstance) (ex_one (ex_isE (c := .ty "ValueError") T hz hf ⟨rfl, by decide, .inr ⟨b_ValueError, PyProof.Rows.Boot.«ValueError», by decide⟩, fun _ h => h, rfl⟩ (ex_var 4) b_isinstance)))) (ax_nil)))))))⟩)
      (hz_cons (i := 4) gm_BadCount rfl rfl (fun a d C fs oe pn T hz hf => ⟨_, bx_one (sx_ret (ex_tup (ax_cons (ex_str) (ax_cons (ex_xf T hz hf (ex_var 4)) (ax_cons (ex_and (ex_isE (c := .ref C_LoopError) T hz hf ⟨rfl, by decide, .inl gm_LoopError, fun _ h => h, rfl⟩ (ex_var 4) b_isinstance) (ex_one (ex_isE (c := .ty "ValueError") T hz hf ⟨rfl, by decide, .inr ⟨b_ValueError, PyProof.Rows.Boot.«ValueError», by decide⟩, fun _ h => h, rfl⟩ (ex_var 4) b_isinstance))) (ax_nil))))))⟩)
      (hz_nil)))))
    (zs_cons (zx_of (sx_ret (ex_tup (ax_cons (ex_str) (ax_cons (ex_int) (ax_cons (ex_bl) (ax_nil)))))))
    (zs_nil))
theorem sc__law_refuses : FnScope N__law_refuses ["_law_system", "_law_deed", "_law_thing", "_law_word", "_law_field"] (defScope s__law_refuses) := ⟨rfl, rfl, rfl, by decide +kernel, rfl, by decide +kernel, by decide +kernel⟩
theorem bx__law_refuses {P : Program} {w : World} {K : PySem.W.Frag} {mg : Str → Option Value} {base : Heap} {f : Addr} {C_BadCount : Addr} {C_BadPoint : Addr} {C_BadSystem : Addr} {C_LoopError : Addr} {C_System : Addr} (h__law_fault : KxO P w K mg base "_law_fault" 7 (fx__law_fault C_BadCount C_BadPoint C_BadSystem C_LoopError C_System)) (b_repr : mg ("repr" : Str) = none) (cdv : Value) (A : Around) (outer : List PySem.Env) (s : Shared) (H : Hp) (E : XK) (hr : Room 7 (A.deeper (envOfC "_law_refuses" (defScope s__law_refuses) s.heap.objs.size f cdv))) (hgu : (A.deeper (envOfC "_law_refuses" (defScope s__law_refuses) s.heap.objs.size f cdv)).guards = some []) :
    ∃ t, BX (cxOf CX0 P w K mg base N__law_refuses "_law_refuses" (defScope s__law_refuses) f cdv A outer s H E).nox (defBody s__law_refuses) t (rd__law_refuses C_BadCount C_BadPoint C_BadSystem C_LoopError C_System) := by
  have S := sc__law_refuses
  exact ⟨_, bx_one (sx_ret (ex_eq hr.units (ex_repr hgu hr.units b_repr (ax_cons (ex_callO h__law_fault.calm (hr.mono (by decide)) (ax_cons (ex_var 0) (ax_cons (ex_var 1) (ax_cons (ex_var 2) (ax_nil))))) (ax_nil))) (ex_repr hgu hr.units b_repr (ax_cons (ex_tup (ax_cons (ex_var 3) (ax_cons (ex_var 4) (ax_cons (ex_bl) (ax_nil))))) (ax_nil)))))⟩
theorem sc__law_refused_rules : FnScope N__law_refused_rules ["_law_pool", "_law_system", "_law_width", "_law_rules"] (defScope s__law_refused_rules) := ⟨rfl, rfl, rfl, by decide +kernel, rfl, by decide +kernel, by decide +kernel⟩
theorem bx__law_refused_rules {P : Program} {w : World} {K : PySem.W.Frag} {mg : Str → Option Value} {base : Heap} {f : Addr} {C_BadCount : Addr} {C_BadPoint : Addr} {C_BadSystem : Addr} {C_LoopError : Addr} {C_System : Addr} (h__law_refuses : KnG P w K mg base "_law_refuses" 8 (fs__law_refuses C_BadCount C_BadPoint C_BadSystem C_LoopError C_System)) (b_tuple : mg ("tuple" : Str) = none) (h__law_bad : KnO P w K mg base "_law_bad" 3 fs__law_bad) (h__law_draw : KnO P w K mg base "_law_draw" 1 fs__law_draw) (b_len : mg ("len" : Str) = none) (cdv : Value) (A : Around) (outer : List PySem.Env) (s : Shared) (H : Hp) (E : XK) (hr : Room 8 (A.deeper (envOfC "_law_refused_rules" (defScope s__law_refused_rules) s.heap.objs.size f cdv))) (hgu : (A.deeper (envOfC "_law_refused_rules" (defScope s__law_refused_rules) s.heap.objs.size f cdv)).guards = some []) :
    ∃ t, BX (cxOf CX0 P w K mg base N__law_refused_rules "_law_refused_rules" (defScope s__law_refused_rules) f cdv A outer s H E).nox (defBody s__law_refused_rules) t (rd__law_refused_rules C_BadCount C_BadPoint C_BadSystem C_LoopError C_System) := by
  have S := sc__law_refused_rules
  exact ⟨_, bx_cons (sx_set S.nd (ex_len b_len (ax_cons (ex_var 3) (ax_nil))))
    (bx_cons (sx_set S.nd (ex_callO h__law_draw (hr.mono (by decide)) (ax_cons (ex_var 0) (ax_cons (ex_int) (ax_nil)))))
    (bx_cons (sx_set S.nd (ex_callO h__law_draw (hr.mono (by decide)) (ax_cons (ex_var 0) (ax_cons (ex_add (ex_var 4) (ex_int)) (ax_nil)))))
    (bx_cons (sx_set S.nd (ex_callO h__law_bad (hr.mono (by decide)) (ax_cons (ex_var 0) (ax_cons (ex_var 2) (ax_nil)))))
    (bx_cons (sx_set S.nd (ex_callO h__law_bad (hr.mono (by decide)) (ax_cons (ex_var 0) (ax_cons (ex_var 2) (ax_nil)))))
    (bx_cons (sx_set S.nd (ex_tup (ax_cons (ex_str) (ax_cons (ex_int) (ax_cons (ex_tuple b_tuple (ax_cons (ex_add (ex_mul (ex_lst (ax_cons (ex_int) (ax_nil))) (ex_var 2)) (ex_lst (ax_cons (ex_var 5) (ax_nil)))) (ax_nil))) (ax_nil))))))
    (bx_cons (sx_set S.nd (ex_add (ex_add (ex_add (ex_sl (ex_var 3) (ox_none) (ox_some (ex_var 6))) (ex_lst (ax_cons (ex_var 7) (ax_nil)))) (ex_sl (ex_var 3) (ox_some (ex_var 6)) (ox_none))) (ex_lst (ax_cons (ex_var 8) (ax_nil)))))
    (bx_cons (sx_for PassesOwn.never rfl (ix_seq (ex_lst (ax_cons (ex_sub (ex_neg (ex_int)) (ex_var 5)) (ax_cons (ex_add (ex_int) (ex_var 5)) (ax_nil))))) (gx_name S.nd) (bx_cons (sx_if (tx_not (tx_val (ex_callg h__law_refuses hgu (hr.mono (by decide)) (ax_cons (ex_var 1) (ax_cons (ex_str) (ax_cons (ex_tup (ax_cons (ex_var 11) (ax_cons (ex_var 10) (ax_nil)))) (ax_cons (ex_str) (ax_cons (ex_neg (ex_int)) (ax_nil))))))))) (bx_one (sx_ret (ex_bl))) (bx_nil))
    (bx_one (sx_if (tx_not (tx_val (ex_callg h__law_refuses hgu (hr.mono (by decide)) (ax_cons (ex_var 1) (ax_cons (ex_str) (ax_cons (ex_var 11) (ax_cons (ex_str) (ax_cons (ex_var 11) (ax_nil))))))))) (bx_one (sx_ret (ex_bl))) (bx_nil)))))
    (bx_cons (sx_if (tx_not (tx_val (ex_callg h__law_refuses hgu (hr.mono (by decide)) (ax_cons (ex_var 1) (ax_cons (ex_str) (ax_cons (ex_tup (ax_cons (ex_var 2) (ax_cons (ex_var 10) (ax_nil)))) (ax_cons (ex_str) (ax_cons (ex_var 6) (ax_nil))))))))) (bx_one (sx_ret (ex_bl))) (bx_nil))
    (bx_cons (sx_if (tx_not (tx_val (ex_callg h__law_refuses hgu (hr.mono (by decide)) (ax_cons (ex_var 1) (ax_cons (ex_str) (ax_cons (ex_tup (ax_cons (ex_var 7) (ax_cons (ex_var 8) (ax_nil)))) (ax_cons (ex_str) (ax_cons (ex_var 4) (ax_nil))))))))) (bx_one (sx_ret (ex_bl))) (bx_nil))
    (bx_one (sx_ret (ex_callg h__law_refuses hgu (hr.mono (by decide)) (ax_cons (ex_var 1) (ax_cons (ex_str) (ax_cons (ex_tup (ax_cons (ex_var 9) (ax_cons (ex_var 8) (ax_nil)))) (ax_cons (ex_str) (ax_cons (ex_add (ex_var 4) (ex_int)) (ax_nil))))))))))))))))))⟩
theorem sc__law_refused_sizes : FnScope N__law_refused_sizes ["_law_pool", "_law_system", "_law_width"] (defScope s__law_refused_sizes) := ⟨rfl, rfl, rfl, by decide +kernel, rfl, by decide +kernel, by decide +kernel⟩
theorem bx__law_refused_sizes {P : Program} {w : World} {K : PySem.W.Frag} {mg : Str → Option Value} {base : Heap} {f : Addr} {C_BadCount : Addr} {C_BadPoint : Addr} {C_BadSystem : Addr} {C_LoopError : Addr} {C_System : Addr} (hv_System_MOST : KnV K mg "System" "MOST" (.int 80)) (hc_System : Cls K C_System) (hm_System_widened : KxM P w K mg base C_System "widened" 5 (fx_System_widened C_BadCount C_BadSystem C_System)) (na_System_width : NoAttr K C_System "width") (b_repr : mg ("repr" : Str) = none) (hi_System : KxI P w K mg base "System" C_System 3 (fx_System___init__ C_BadSystem C_System)) (h__law_agrees : KnG P w K mg base "_law_agrees" 5 (fs__law_agrees C_BadPoint C_System)) (b_range : mg ("range" : Str) = none) (b_int : mg ("int" : Str) = none) (b_tuple : mg ("tuple" : Str) = none) (h__law_refuses : KnG P w K mg base "_law_refuses" 8 (fs__law_refuses C_BadCount C_BadPoint C_BadSystem C_LoopError C_System)) (b_max : mg ("max" : Str) = none) (h__law_draw : KnO P w K mg base "_law_draw" 1 fs__law_draw) (cdv : Value) (A : Around) (outer : List PySem.Env) (s : Shared) (H : Hp) (E : XK) (hr : Room 8 (A.deeper (envOfC "_law_refused_sizes" (defScope s__law_refused_sizes) s.heap.objs.size f cdv))) (hgu : (A.deeper (envOfC "_law_refused_sizes" (defScope s__law_refused_sizes) s.heap.objs.size f cdv)).guards = some []) :
    ∃ t, BX (cxOf CX0 P w K mg base N__law_refused_sizes "_law_refused_sizes" (defScope s__law_refused_sizes) f cdv A outer s H E).nox (defBody s__law_refused_sizes) t (rd__law_refused_sizes C_BadCount C_BadPoint C_BadSystem C_LoopError C_System) := by
  have S := sc__law_refused_sizes
  exact ⟨_, bx_cons (sx_set S.nd (ex_callO h__law_draw (hr.mono (by decide)) (ax_cons (ex_var 0) (ax_cons (ex_int) (ax_nil)))))
    (bx_cons (sx_if (tx_not (tx_val (ex_callg h__law_refuses hgu (hr.mono (by decide)) (ax_cons (ex_var 1) (ax_cons (ex_str) (ax_cons (ex_makeK hi_System.calm (hr.mono (by decide)) (ax_cons (ex_add (ex_var 2) (ex_int)) (ax_cons (ex_lst (ax_nil)) (ax_nil)))) (ax_cons (ex_str) (ax_cons (ex_neg (ex_int)) (ax_nil))))))))) (bx_one (sx_ret (ex_bl))) (bx_nil))
    (bx_cons (sx_if (tx_gt (ex_var 2) (ex_int)) (bx_cons (sx_if (tx_not (tx_val (ex_callg h__law_refuses hgu (hr.mono (by decide)) (ax_cons (ex_var 1) (ax_cons (ex_str) (ax_cons (ex_makeK hi_System.calm (hr.mono (by decide)) (ax_cons (ex_sub (ex_var 2) (ex_int)) (ax_cons (ex_lst (ax_nil)) (ax_nil)))) (ax_cons (ex_str) (ax_cons (ex_neg (ex_int)) (ax_nil))))))))) (bx_one (sx_ret (ex_bl))) (bx_nil))
    (bx_one (sx_if (tx_not (tx_val (ex_callg h__law_refuses hgu (hr.mono (by decide)) (ax_cons (ex_var 1) (ax_cons (ex_str) (ax_cons (ex_sub (ex_int) (ex_mod (ex_toint b_int (ax_cons (ex_var 3) (ax_nil))) (ex_var 2))) (ax_cons (ex_str) (ax_cons (ex_neg (ex_int)) (ax_nil))))))))) (bx_one (sx_ret (ex_bl))) (bx_nil)))) (bx_nil))
    (bx_cons (sx_for PassesOwn.never rfl (ix_seq (ex_lst (ax_cons (ex_add (ex_add (ex_var 2) (ex_int)) (ex_mod (ex_toint b_int (ax_cons (ex_var 3) (ax_nil))) (ex_int))) (ax_cons (ex_sub (ex_sub (ex_var 2) (ex_int)) (ex_mod (ex_toint b_int (ax_cons (ex_var 3) (ax_nil))) (ex_int))) (ax_nil))))) (gx_name S.nd) (bx_cons (sx_setLcD rfl S.nd (ix_rng1 b_range (ax_cons (ex_max2 rfl b_max (ax_cons (ex_int) (ax_cons (ex_var 4) (ax_nil)))) (ax_nil))) (blkOk_by (N := N__law_refused_sizes) (sc := defScope s__law_refused_sizes) (by decide +kernel)) (fun _ _ _ _ _ => pg_name (i := 13) S.nd rfl (Or.inl rfl)) (fun _ _ _ _ _ => ⟨_, ts_nil⟩) (fun _ _ _ _ _ => ⟨_, ex_sub (ex_var 3) (ex_var 13)⟩) (sw_true rfl rfl rfl (by decide +kernel)))
    (bx_one (sx_for PassesOwn.never rfl (ix_seq (ex_lst (ax_cons (ex_str) (ax_cons (ex_str) (ax_cons (ex_str) (ax_nil)))))) (gx_name S.nd) (bx_one (sx_if (WX.tx (wx_or (tx_gt (ex_var 4) (ex_var 2)) (wx_or1 (WX.tx (wx_and (tx_ge (ex_var 4) (ex_int)) (wx_and1 (tx_ne hr.units (ex_var 6) (ex_str)))))))) (bx_one (sx_if (tx_not (tx_val (ex_callg h__law_refuses hgu (hr.mono (by decide)) (ax_cons (ex_var 1) (ax_cons (ex_var 6) (ax_cons (ex_var 5) (ax_cons (ex_str) (ax_cons (ex_var 4) (ax_nil))))))))) (bx_one (sx_ret (ex_bl))) (bx_nil))) (bx_nil)))))))
    (bx_cons (sx_for PassesOwn.never rfl (ix_seq (ex_lst (ax_cons (ex_int) (ax_cons (ex_sub (ex_int) (ex_var 3)) (ax_cons (ex_int) (ax_nil)))))) (gx_name S.nd) (bx_cons (sx_set S.nd (ex_mod (ex_toint b_int (ax_cons (ex_mul (ex_int) (ex_var 3)) (ax_nil))) (ex_var 7)))
    (bx_cons (sx_set S.nd (ex_add (ex_add (ex_mul (ex_lst (ax_cons (ex_int) (ax_nil))) (ex_var 8)) (ex_lst (ax_cons (ex_var 3) (ax_nil)))) (ex_mul (ex_lst (ax_cons (ex_int) (ax_nil))) (ex_sub (ex_sub (ex_var 7) (ex_int)) (ex_var 8)))))
    (bx_cons (sx_set S.nd (ex_add (ex_add (ex_mul (ex_lst (ax_cons (ex_int) (ax_nil))) (ex_var 8)) (ex_lst (ax_cons (ex_sub (ex_var 3) (ex_int)) (ax_nil)))) (ex_mul (ex_lst (ax_cons (ex_int) (ax_nil))) (ex_sub (ex_sub (ex_var 7) (ex_int)) (ex_var 8)))))
    (bx_cons (sx_set S.nd (ex_tup (ax_cons (ex_str) (ax_cons (ex_tuple b_tuple (ax_cons (ex_add (ex_lcx rfl S.nd (ix_rng1 b_range (ax_cons (ex_var 7) (ax_nil))) (blkOk_by (N := N__law_refused_sizes) (sc := defScope s__law_refused_sizes) (by decide +kernel)) (fun _ _ _ _ _ => pg_name (i := 13) S.nd rfl (Or.inl rfl)) (fun _ _ _ _ _ => ⟨_, ts_nil⟩) (fun _ _ _ _ _ => ⟨_, ex_toint b_int (ax_cons (ex_eq hr.units (ex_var 13) (ex_var 8)) (ax_nil))⟩)) (ex_lst (ax_cons (ex_neg (ex_var 3)) (ax_nil)))) (ax_nil))) (ax_nil)))))
    (bx_cons (sx_set S.nd (ex_makeK hi_System.calm (hr.mono (by decide)) (ax_cons (ex_var 7) (ax_cons (ex_lst (ax_cons (ex_var 11) (ax_nil))) (ax_nil)))))
    (bx_cons (sx_if (tx_not (tx_val (ex_callg h__law_agrees hgu (hr.mono (by decide)) (ax_cons (ex_var 12) (ax_cons (ex_var 7) (ax_cons (ex_lst (ax_cons (ex_var 11) (ax_nil))) (ax_cons (ex_lst (ax_cons (ex_var 9) (ax_cons (ex_var 10) (ax_nil)))) (ax_nil)))))))) (bx_one (sx_ret (ex_bl))) (bx_nil))
    (bx_one (sx_if (tx_not (tx_val (ex_callg h__law_agrees hgu (hr.mono (by decide)) (ax_cons (ex_makeK hi_System.calm (hr.mono (by decide)) (ax_cons (ex_var 7) (ax_cons (ex_tup (ax_nil)) (ax_nil)))) (ax_cons (ex_var 7) (ax_cons (ex_lst (ax_nil)) (ax_cons (ex_lst (ax_cons (ex_var 9) (ax_nil))) (ax_nil)))))))) (bx_one (sx_ret (ex_bl))) (bx_nil))))))))))
    (bx_one (sx_ret (ex_eq hr.units (ex_repr hgu hr.units b_repr (ax_cons (ex_lst (ax_cons (ex_fld hc_System na_System_width (ex_methK hc_System hm_System_widened.calm (hr.mono (by decide)) (ex_var 1) (ax_cons (ex_sub (ex_int) (ex_var 2)) (ax_nil)))) (ax_cons (ex_cvalK hv_System_MOST) (ax_nil)))) (ax_nil))) (ex_str))))))))⟩
theorem sc__law_joined : FnScope N__law_joined ["_law_pool", "_law_system", "_law_width", "_law_rules", "_law_point", "_law_points_here"] (defScope s__law_joined) := ⟨rfl, rfl, rfl, by decide +kernel, rfl, by decide +kernel, by decide +kernel⟩
theorem bx__law_joined {P : Program} {w : World} {K : PySem.W.Frag} {mg : Str → Option Value} {base : Heap} {f : Addr} {C_BadPoint : Addr} {C_BadSystem : Addr} {C_System : Addr} (h__law_agrees : KnG P w K mg base "_law_agrees" 5 (fs__law_agrees C_BadPoint C_System)) (hc_System : Cls K C_System) (hs_System_adding : KxS P w K mg base C_System "adding" 5 (fx_System_adding C_BadSystem C_System)) (h__law_listed : KnO P w K mg base "_law_listed" 1 fs__law_listed) (hb_System_and : KxB P w K mg base C_System "__and__" 5 (fx_System___and__ C_BadSystem C_System)) (h__law_rule : KnO P w K mg base "_law_rule" 3 fs__law_rule) (b_tuple : mg ("tuple" : Str) = none) (hi_System : KxI P w K mg base "System" C_System 3 (fx_System___init__ C_BadSystem C_System)) (b_range : mg ("range" : Str) = none) (h__law_draw : KnO P w K mg base "_law_draw" 1 fs__law_draw) (b_int : mg ("int" : Str) = none) (cdv : Value) (A : Around) (outer : List PySem.Env) (s : Shared) (H : Hp) (E : XK) (hr : Room 5 (A.deeper (envOfC "_law_joined" (defScope s__law_joined) s.heap.objs.size f cdv))) (hgu : (A.deeper (envOfC "_law_joined" (defScope s__law_joined) s.heap.objs.size f cdv)).guards = some []) :
    ∃ t, BX (cxOf CX0 P w K mg base N__law_joined "_law_joined" (defScope s__law_joined) f cdv A outer s H E).nox (defBody s__law_joined) t (rd__law_joined C_BadPoint C_BadSystem C_System) := by
  have S := sc__law_joined
  exact ⟨_, bx_cons (sx_set S.nd (ex_mod (ex_toint b_int (ax_cons (ex_add (ex_callO h__law_draw (hr.mono (by decide)) (ax_cons (ex_var 0) (ax_cons (ex_int) (ax_nil)))) (ex_int)) (ax_nil))) (ex_int)))
    (bx_cons (sx_setLcD rfl S.nd (ix_rng1 b_range (ax_cons (ex_var 6) (ax_nil))) (blkOk_by (N := N__law_joined) (sc := defScope s__law_joined) (by decide +kernel)) (fun _ _ _ _ _ => pg_name (i := 12) S.nd rfl (Or.inl rfl)) (fun _ _ _ _ _ => ⟨_, ts_nil⟩) (fun _ _ _ _ _ => ⟨_, ex_callO h__law_rule (hr.mono (by decide)) (ax_cons (ex_var 0) (ax_cons (ex_var 4) (ax_cons (ex_add (ex_var 12) (ex_int)) (ax_cons (ex_int) (ax_nil)))))⟩) (sw_true rfl rfl rfl (by decide +kernel)))
    (bx_cons (sx_set S.nd (ex_makeK hi_System.calm (hr.mono (by decide)) (ax_cons (ex_var 2) (ax_cons (ex_tuple b_tuple (ax_cons (ex_var 7) (ax_nil))) (ax_nil)))))
    (bx_cons (sx_set S.nd (ex_callO h__law_rule (hr.mono (by decide)) (ax_cons (ex_var 0) (ax_cons (ex_var 4) (ax_cons (ex_int) (ax_cons (ex_int) (ax_nil)))))))
    (bx_cons (sx_set S.nd (ex_callO h__law_rule (hr.mono (by decide)) (ax_cons (ex_var 0) (ax_cons (ex_var 4) (ax_cons (ex_int) (ax_cons (ex_int) (ax_nil)))))))
    (bx_cons (sx_if (tx_not (tx_val (ex_callg h__law_agrees hgu (hr.mono (by decide)) (ax_cons (ex_ownK (op := .BitAnd) hb_System_and.calm (hr.mono (by decide)) (ex_var 1) (ex_var 8)) (ax_cons (ex_var 2) (ax_cons (ex_add (ex_var 3) (ex_var 7)) (ax_cons (ex_var 5) (ax_nil)))))))) (bx_one (sx_ret (ex_bl))) (bx_nil))
    (bx_cons (sx_if (tx_not (tx_val (ex_callg h__law_agrees hgu (hr.mono (by decide)) (ax_cons (ex_ownK (op := .BitAnd) hb_System_and.calm (hr.mono (by decide)) (ex_var 8) (ex_var 1)) (ax_cons (ex_var 2) (ax_cons (ex_add (ex_var 7) (ex_var 3)) (ax_cons (ex_var 5) (ax_nil)))))))) (bx_one (sx_ret (ex_bl))) (bx_nil))
    (bx_cons (sx_set S.nd (ex_methKS hc_System hs_System_adding.calm (hr.mono (by decide)) (ex_var 1) (ax_cons (ex_callO h__law_listed (hr.mono (by decide)) (ax_cons (ex_var 9) (ax_nil))) (ax_cons (ex_var 10) (ax_nil)))))
    (bx_cons (sx_if (tx_not (tx_val (ex_callg h__law_agrees hgu (hr.mono (by decide)) (ax_cons (ex_var 11) (ax_cons (ex_var 2) (ax_cons (ex_add (ex_var 3) (ex_lst (ax_cons (ex_var 9) (ax_cons (ex_var 10) (ax_nil))))) (ax_cons (ex_var 5) (ax_nil)))))))) (bx_one (sx_ret (ex_bl))) (bx_nil))
    (bx_cons (sx_if (tx_not (tx_val (ex_callg h__law_agrees hgu (hr.mono (by decide)) (ax_cons (ex_methKS0 hc_System hs_System_adding.calm (hr.mono (by decide)) (ex_var 1)) (ax_cons (ex_var 2) (ax_cons (ex_var 3) (ax_cons (ex_var 5) (ax_nil)))))))) (bx_one (sx_ret (ex_bl))) (bx_nil))
    (bx_one (sx_ret (ex_callg h__law_agrees hgu (hr.mono (by decide)) (ax_cons (ex_var 8) (ax_cons (ex_var 2) (ax_cons (ex_var 7) (ax_cons (ex_var 5) (ax_nil)))))))))))))))))⟩
theorem sc__law_resized : FnScope N__law_resized ["_law_pool", "_law_system", "_law_width", "_law_rules", "_law_points_here"] (defScope s__law_resized) := ⟨rfl, rfl, rfl, by decide +kernel, rfl, by decide +kernel, by decide +kernel⟩
theorem bx__law_resized {P : Program} {w : World} {K : PySem.W.Frag} {mg : Str → Option Value} {base : Heap} {f : Addr} {C_BadCount : Addr} {C_BadPoint : Addr} {C_BadSystem : Addr} {C_System : Addr} (h__law_agrees : KnG P w K mg base "_law_agrees" 5 (fs__law_agrees C_BadPoint C_System)) (h__law_fixed : KnO P w K mg base "_law_fixed" 1 fs__law_fixed) (hc_System : Cls K C_System) (hm_System_fixed : KxM P w K mg base C_System "fixed" 5 (fx_System_fixed C_BadPoint C_BadSystem C_System)) (hm_System_widened : KxM P w K mg base C_System "widened" 5 (fx_System_widened C_BadCount C_BadSystem C_System)) (h__law_widened : KnO P w K mg base "_law_widened" 1 fs__law_widened) (b_range : mg ("range" : Str) = none) (h__law_draw : KnO P w K mg base "_law_draw" 1 fs__law_draw) (cdv : Value) (A : Around) (outer : List PySem.Env) (s : Shared) (H : Hp) (E : XK) (hr : Room 5 (A.deeper (envOfC "_law_resized" (defScope s__law_resized) s.heap.objs.size f cdv))) (hgu : (A.deeper (envOfC "_law_resized" (defScope s__law_resized) s.heap.objs.size f cdv)).guards = some []) :
    ∃ t, BX (cxOf CX0 P w K mg base N__law_resized "_law_resized" (defScope s__law_resized) f cdv A outer s H E).nox (defBody s__law_resized) t (rd__law_resized C_BadCount C_BadPoint C_BadSystem C_System) := by
  have S := sc__law_resized
  exact ⟨_, bx_cons (sx_set S.nd (ex_ix (ex_lst (ax_cons (ex_int) (ax_cons (ex_int) (ax_cons (ex_int) (ax_cons (ex_sub (ex_int) (ex_var 2)) (ax_nil)))))) (ex_callO h__law_draw (hr.mono (by decide)) (ax_cons (ex_var 0) (ax_cons (ex_int) (ax_nil))))))
    (bx_cons (sx_set S.nd (ex_callO h__law_draw (hr.mono (by decide)) (ax_cons (ex_var 0) (ax_cons (ex_add (ex_var 2) (ex_int)) (ax_nil)))))
    (bx_cons (sx_set S.nd (ex_lcx rfl S.nd (ix_rng1 b_range (ax_cons (ex_var 5) (ax_nil))) (blkOk_by (N := N__law_resized) (sc := defScope s__law_resized) (by decide +kernel)) (fun _ _ _ _ _ => pg_name (i := 13) S.nd rfl (Or.inl rfl)) (fun _ _ _ _ _ => ⟨_, ts_nil⟩) (fun _ _ _ _ _ => ⟨_, ex_sub (ex_mul (ex_int) (ex_var 13)) (ex_int)⟩)))
    (bx_cons (sx_setLcD rfl S.nd (ix_seq (ex_var 4)) (blkOk_by (N := N__law_resized) (sc := defScope s__law_resized) (by decide +kernel)) (fun _ _ _ _ _ => pg_name (i := 14) S.nd rfl (Or.inl rfl)) (fun _ _ _ _ _ => ⟨_, ts_nil⟩) (fun _ _ _ _ _ => ⟨_, ex_add (ex_var 14) (ex_var 7)⟩) (sw_true rfl rfl rfl (by decide +kernel)))
    (bx_cons (sx_set S.nd (ex_callO h__law_widened (hr.mono (by decide)) (ax_cons (ex_var 3) (ax_cons (ex_var 2) (ax_cons (ex_var 5) (ax_nil))))))
    (bx_cons (sx_if (tx_not (tx_val (ex_callg h__law_agrees hgu (hr.mono (by decide)) (ax_cons (ex_methK hc_System hm_System_widened.calm (hr.mono (by decide)) (ex_var 1) (ax_cons (ex_var 5) (ax_nil))) (ax_cons (ex_add (ex_var 2) (ex_var 5)) (ax_cons (ex_var 9) (ax_cons (ex_var 8) (ax_nil)))))))) (bx_one (sx_ret (ex_bl))) (bx_nil))
    (bx_cons (sx_set S.nd (ex_sl (ex_ix (ex_var 4) (ex_int)) (ox_none) (ox_some (ex_var 6))))
    (bx_cons (sx_set S.nd (ex_methK hc_System hm_System_fixed.calm (hr.mono (by decide)) (ex_var 1) (ax_cons (ex_var 10) (ax_nil))))
    (bx_cons (sx_if (tx_ne hr.units (ex_var 10) (ex_sl (ex_ix (ex_var 4) (ex_int)) (ox_none) (ox_some (ex_var 6)))) (bx_one (sx_ret (ex_bl))) (bx_nil))
    (bx_cons (sx_set S.nd (ex_callO h__law_fixed (hr.mono (by decide)) (ax_cons (ex_var 3) (ax_cons (ex_var 2) (ax_cons (ex_var 10) (ax_nil))))))
    (bx_cons (sx_setLcD rfl S.nd (ix_seq (ex_var 4)) (blkOk_by (N := N__law_resized) (sc := defScope s__law_resized) (by decide +kernel)) (fun _ _ _ _ _ => pg_name (i := 14) S.nd rfl (Or.inl rfl)) (fun _ _ _ _ _ => ⟨_, ts_nil⟩) (fun _ _ _ _ _ => ⟨_, ex_sl (ex_var 14) (ox_some (ex_var 6)) (ox_none)⟩) (sw_true rfl rfl rfl (by decide +kernel)))
    (bx_one (sx_ret (ex_callg h__law_agrees hgu (hr.mono (by decide)) (ax_cons (ex_var 11) (ax_cons (ex_sub (ex_var 2) (ex_var 6)) (ax_cons (ex_var 9) (ax_cons (ex_var 12) (ax_nil))))))))))))))))))⟩
theorem sc_law : FnScope N_law ["_law_script"] (defScope s_law) := ⟨rfl, rfl, rfl, by decide +kernel, rfl, by decide +kernel, by decide +kernel⟩
theorem bx_law {P : Program} {w : World} {K : PySem.W.Frag} {mg : Str → Option Value} {base : Heap} {f : Addr} {C_BadCount : Addr} {C_BadPoint : Addr} {C_BadSystem : Addr} {C_LoopError : Addr} {C_System : Addr} (h__law_agrees : KnG P w K mg base "_law_agrees" 5 (fs__law_agrees C_BadPoint C_System)) (h__law_refused_sizes : KnG P w K mg base "_law_refused_sizes" 9 (fs__law_refused_sizes C_BadCount C_BadPoint C_BadSystem C_LoopError C_System)) (h__law_refused_rules : KnG P w K mg base "_law_refused_rules" 9 (fs__law_refused_rules C_BadCount C_BadPoint C_BadSystem C_LoopError C_System)) (h__law_resized : KnG P w K mg base "_law_resized" 6 (fs__law_resized C_BadCount C_BadPoint C_BadSystem C_System)) (h__law_joined : KnG P w K mg base "_law_joined" 6 (fs__law_joined C_BadPoint C_BadSystem C_System)) (hi_System : KxI P w K mg base "System" C_System 3 (fx_System___init__ C_BadSystem C_System)) (b_tuple : mg ("tuple" : Str) = none) (b_len : mg ("len" : Str) = none) (b_range : mg ("range" : Str) = none) (b_repr : mg ("repr" : Str) = none) (b_list : mg ("list" : Str) = none) (h__law_points : KnO P w K mg base "_law_points" 3 fs__law_points) (h__law_world : KnO P w K mg base "_law_world" 4 fs__law_world) (cdv : Value) (A : Around) (outer : List PySem.Env) (s : Shared) (H : Hp) (E : XK) (hr : Room 9 (A.deeper (envOfC "law" (defScope s_law) s.heap.objs.size f cdv))) (hgu : (A.deeper (envOfC "law" (defScope s_law) s.heap.objs.size f cdv)).guards = some []) :
    ∃ t, BX (cxOf CX0 P w K mg base N_law "law" (defScope s_law) f cdv A outer s H E).nox (defBody s_law) t (rd_law C_BadCount C_BadPoint C_BadSystem C_LoopError C_System) := by
  have S := sc_law
  exact ⟨_, bx_cons (sx_set S.nd (ex_sl (ex_var 0) (ox_none) (ox_some (ex_int))))
    (bx_cons (sx_setC S.nd (ex_rev (ex_var 0)))
    (bx_cons (sx_asg (ex_callO h__law_world (hr.mono (by decide)) (ax_cons (ex_var 1) (ax_nil))) (gx_tup rfl (gs_cons (gx_name S.nd) (gs_cons (gx_name S.nd) (gs_cons (gx_name S.nd) (gs_cons (gx_name S.nd) (gs_nil)))))))
    (bx_cons (sx_set S.nd (ex_callO h__law_points (hr.mono (by decide)) (ax_cons (ex_var 1) (ax_cons (ex_var 2) (ax_cons (ex_var 4) (ax_nil))))))
    (bx_cons (sx_set S.nd (ex_lcx rfl S.nd (ix_seq (ex_var 5)) (blkOk_by (N := N_law) (sc := defScope s_law) (by decide +kernel)) (fun _ _ _ _ _ => pg_name (i := 14) S.nd rfl (Or.inl rfl)) (fun _ _ _ _ _ => ⟨_, ts_nil⟩) (fun _ _ _ _ _ => ⟨_, ex_cel (ex_list b_list (ax_cons (ex_ix (ex_var 14) (ex_neg (ex_int))) (ax_nil)))⟩)))
    (bx_cons (sx_setLcC rfl S.nd (ix_rng1 b_range (ax_cons (ex_len b_len (ax_cons (ex_var 7) (ax_nil))) (ax_nil))) (blkOk_by (N := N_law) (sc := defScope s_law) (by decide +kernel)) (fun _ _ _ _ _ => pg_name (i := 11) S.nd rfl (Or.inl rfl)) (fun _ _ _ _ _ => ⟨_, ts_nil⟩) (fun _ _ _ _ _ => ⟨_, ex_add (ex_sl (ex_ix (ex_var 5) (ex_var 11)) (ox_none) (ox_some (ex_neg (ex_int)))) (ex_tup (ax_cons (ex_ix (ex_var 7) (ex_var 11)) (ax_nil)))⟩) (sw_true rfl rfl rfl (by decide +kernel)))
    (bx_cons (sx_set S.nd (ex_repr hgu hr.units b_repr (ax_cons (ex_var 8) (ax_nil))))
    (bx_cons (sx_set S.nd (ex_makeK hi_System.calm (hr.mono (by decide)) (ax_cons (ex_var 3) (ax_cons (ex_var 8) (ax_nil)))))
    (bx_cons (sx_if (tx_ne hr.units (ex_repr hgu hr.units b_repr (ax_cons (ex_var 8) (ax_nil))) (ex_var 9)) (bx_one (sx_ret (ex_bl))) (bx_nil))
    (bx_cons (sx_for PassesOwn.never rfl (ix_rng1 b_range (ax_cons (ex_len b_len (ax_cons (ex_var 7) (ax_nil))) (ax_nil))) (gx_name S.nd) (bx_cons (sx_set S.nd (ex_ix (ex_var 7) (ex_var 11)))
    (bx_one (sx_setI (ex_add (ex_ix (ex_var 12) (ex_var 3)) (ex_int)) (ex_var 12) (ex_var 3)))))
    (bx_cons (sx_expr (ex_append (ex_var 8) (ex_tup (ax_cons (ex_str) (ax_cons (ex_tuple b_tuple (ax_cons (ex_add (ex_mul (ex_lst (ax_cons (ex_int) (ax_nil))) (ex_var 3)) (ex_lst (ax_cons (ex_int) (ax_nil)))) (ax_nil))) (ax_nil))))))
    (bx_cons (sx_if (tx_not (tx_val (ex_callg h__law_agrees hgu (hr.mono (by decide)) (ax_cons (ex_var 10) (ax_cons (ex_var 3) (ax_cons (ex_var 5) (ax_cons (ex_var 6) (ax_nil)))))))) (bx_one (sx_ret (ex_bl))) (bx_nil))
    (bx_cons (sx_set S.nd (ex_mul (ex_var 5) (ex_ix (ex_lst (ax_cons (ex_int) (ax_cons (ex_int) (ax_cons (ex_int) (ax_cons (ex_int) (ax_nil)))))) (ex_var 2))))
    (bx_cons (sx_if (tx_not (tx_val (ex_callg h__law_agrees hgu (hr.mono (by decide)) (ax_cons (ex_makeK hi_System.calm (hr.mono (by decide)) (ax_cons (ex_var 3) (ax_cons (ex_var 13) (ax_nil)))) (ax_cons (ex_var 3) (ax_cons (ex_var 13) (ax_cons (ex_var 6) (ax_nil)))))))) (bx_one (sx_ret (ex_bl))) (bx_nil))
    (bx_cons (sx_if (tx_not (tx_val (ex_callg h__law_joined hgu (hr.mono (by decide)) (ax_cons (ex_var 1) (ax_cons (ex_var 10) (ax_cons (ex_var 3) (ax_cons (ex_var 5) (ax_cons (ex_var 4) (ax_cons (ex_var 6) (ax_nil)))))))))) (bx_one (sx_ret (ex_bl))) (bx_nil))
    (bx_cons (sx_if (tx_not (tx_val (ex_callg h__law_resized hgu (hr.mono (by decide)) (ax_cons (ex_var 1) (ax_cons (ex_var 10) (ax_cons (ex_var 3) (ax_cons (ex_var 5) (ax_cons (ex_var 6) (ax_nil))))))))) (bx_one (sx_ret (ex_bl))) (bx_nil))
    (bx_cons (sx_if (tx_not (tx_val (ex_callg h__law_refused_rules hgu (hr.mono (by decide)) (ax_cons (ex_var 1) (ax_cons (ex_var 10) (ax_cons (ex_var 3) (ax_cons (ex_var 5) (ax_nil)))))))) (bx_one (sx_ret (ex_bl))) (bx_nil))
    (bx_cons (sx_if (tx_not (tx_val (ex_callg h__law_refused_sizes hgu (hr.mono (by decide)) (ax_cons (ex_var 1) (ax_cons (ex_var 10) (ax_cons (ex_var 3) (ax_nil))))))) (bx_one (sx_ret (ex_bl))) (bx_nil))
    (bx_one (sx_ret (ex_callg h__law_agrees hgu (hr.mono (by decide)) (ax_cons (ex_var 10) (ax_cons (ex_var 3) (ax_cons (ex_var 5) (ax_cons (ex_var 6) (ax_nil)))))))))))))))))))))))))⟩
end Lw
set_option Elab.async false
set_option linter.all false
set_option maxRecDepth 100000
set_option maxHeartbeats 0
namespace Lw
open PySem PySem.Spec PyProof.Rows L2 Dl StX ClX He
def d_row_value : DefD := ⟨("row_value", none), "row_value", "row_value", defArgs s_row_value, defBody s_row_value, defScope s_row_value, [], []⟩
def d_extended : DefD := ⟨("extended", none), "extended", "extended", defArgs s_extended, defBody s_extended, defScope s_extended, [], []⟩
def d__copied : DefD := ⟨("_copied", none), "_copied", "_copied", defArgs s__copied, defBody s__copied, defScope s__copied, [], []⟩
def d__is_met : DefD := ⟨("_is_met", none), "_is_met", "_is_met", defArgs s__is_met, defBody s__is_met, defScope s__is_met, [], []⟩
def d_System___init__ : DefD := ⟨("System", some "__init__"), "__init__", "System.__init__", defArgs s_System___init__, defBody s_System___init__, defScope s_System___init__, [], []⟩
def d_System_holds : DefD := ⟨("System", some "holds"), "holds", "System.holds", defArgs s_System_holds, defBody s_System_holds, defScope s_System_holds, [], []⟩
def d_System___contains__ : DefD := ⟨("System", some "__contains__"), "__contains__", "System.__contains__", defArgs s_System___contains__, defBody s_System___contains__, defScope s_System___contains__, [], []⟩
def d_System___and__ : DefD := ⟨("System", some "__and__"), "__and__", "System.__and__", defArgs s_System___and__, defBody s_System___and__, defScope s_System___and__, [], []⟩
def d_System_adding : DefD := ⟨("System", some "adding"), "adding", "System.adding", defArgs s_System_adding, defBody s_System_adding, defScope s_System_adding, [], []⟩
def d_System_widened : DefD := ⟨("System", some "widened"), "widened", "System.widened", defArgs s_System_widened, defBody s_System_widened, defScope s_System_widened, [], []⟩
def d_System_fixed : DefD := ⟨("System", some "fixed"), "fixed", "System.fixed", defArgs s_System_fixed, defBody s_System_fixed, defScope s_System_fixed, [], []⟩
def d__law_draw : DefD := ⟨("_law_draw", none), "_law_draw", "_law_draw", defArgs s__law_draw, defBody s__law_draw, defScope s__law_draw, [], []⟩
def d__law_number : DefD := ⟨("_law_number", none), "_law_number", "_law_number", defArgs s__law_number, defBody s__law_number, defScope s__law_number, [], []⟩
def d__law_value : DefD := ⟨("_law_value", none), "_law_value", "_law_value", defArgs s__law_value, defBody s__law_value, defScope s__law_value, [], []⟩
def d__law_holds : DefD := ⟨("_law_holds", none), "_law_holds", "_law_holds", defArgs s__law_holds, defBody s__law_holds, defScope s__law_holds, [], []⟩
def d__law_rule : DefD := ⟨("_law_rule", none), "_law_rule", "_law_rule", defArgs s__law_rule, defBody s__law_rule, defScope s__law_rule, [], []⟩
def d__law_world : DefD := ⟨("_law_world", none), "_law_world", "_law_world", defArgs s__law_world, defBody s__law_world, defScope s__law_world, [], []⟩
def d__law_points : DefD := ⟨("_law_points", none), "_law_points", "_law_points", defArgs s__law_points, defBody s__law_points, defScope s__law_points, [], []⟩
def d__law_widened : DefD := ⟨("_law_widened", none), "_law_widened", "_law_widened", defArgs s__law_widened, defBody s__law_widened, defScope s__law_widened, [], []⟩
def d__law_fixed : DefD := ⟨("_law_fixed", none), "_law_fixed", "_law_fixed", defArgs s__law_fixed, defBody s__law_fixed, defScope s__law_fixed, [], []⟩
def d__law_agrees : DefD := ⟨("_law_agrees", none), "_law_agrees", "_law_agrees", defArgs s__law_agrees, defBody s__law_agrees, defScope s__law_agrees, [], []⟩
def d__law_listed : DefD := ⟨("_law_listed", none), "_law_listed", "_law_listed", defArgs s__law_listed, defBody s__law_listed, defScope s__law_listed, [], []⟩
def d__law_bad : DefD := ⟨("_law_bad", none), "_law_bad", "_law_bad", defArgs s__law_bad, defBody s__law_bad, defScope s__law_bad, [], []⟩
def d__law_do : DefD := ⟨("_law_do", none), "_law_do", "_law_do", defArgs s__law_do, defBody s__law_do, defScope s__law_do, [], []⟩
def d__law_fault : DefD := ⟨("_law_fault", none), "_law_fault", "_law_fault", defArgs s__law_fault, defBody s__law_fault, defScope s__law_fault, [], []⟩
def d__law_refuses : DefD := ⟨("_law_refuses", none), "_law_refuses", "_law_refuses", defArgs s__law_refuses, defBody s__law_refuses, defScope s__law_refuses, [], []⟩
def d__law_refused_rules : DefD := ⟨("_law_refused_rules", none), "_law_refused_rules", "_law_refused_rules", defArgs s__law_refused_rules, defBody s__law_refused_rules, defScope s__law_refused_rules, [], []⟩
def d__law_refused_sizes : DefD := ⟨("_law_refused_sizes", none), "_law_refused_sizes", "_law_refused_sizes", defArgs s__law_refused_sizes, defBody s__law_refused_sizes, defScope s__law_refused_sizes, [], []⟩
def d__law_joined : DefD := ⟨("_law_joined", none), "_law_joined", "_law_joined", defArgs s__law_joined, defBody s__law_joined, defScope s__law_joined, [], []⟩
def d__law_resized : DefD := ⟨("_law_resized", none), "_law_resized", "_law_resized", defArgs s__law_resized, defBody s__law_resized, defScope s__law_resized, [], []⟩
def d_law : DefD := ⟨("law", none), "law", "law", defArgs s_law, defBody s_law, defScope s_law, [], []⟩
def d_BadSystem___init__ : DefD := ⟨("BadSystem", some "__init__"), "__init__", "BadSystem.__init__", defArgs s_BadSystem___init__, defBody s_BadSystem___init__, defScope s_BadSystem___init__, [], []⟩
def d_BadPoint___init__ : DefD := ⟨("BadPoint", some "__init__"), "__init__", "BadPoint.__init__", defArgs s_BadPoint___init__, defBody s_BadPoint___init__, defScope s_BadPoint___init__, [], []⟩
def d_BadCount___init__ : DefD := ⟨("BadCount", some "__init__"), "__init__", "BadCount.__init__", defArgs s_BadCount___init__, defBody s_BadCount___init__, defScope s_BadCount___init__, [], []⟩
def fn : List DefD := [d_row_value, d_extended, d__copied, d__is_met, d_System___init__, d_System_holds, d_System___contains__, d_System___and__, d_System_adding, d_System_widened, d_System_fixed, d__law_draw, d__law_number, d__law_value, d__law_holds, d__law_rule, d__law_world, d__law_points, d__law_widened, d__law_fixed, d__law_agrees, d__law_listed, d__law_bad, d__law_do, d__law_fault, d__law_refuses, d__law_refused_rules, d__law_refused_sizes, d__law_joined, d__law_resized, d_law]
def ps : List PDef := []
def fa : List Fa := [.glo "row_value", .glo "extended", .glo "_copied", .glo "_is_met", .glo "_law_draw", .glo "_law_number", .glo "_law_value", .glo "_law_holds", .glo "_law_rule", .glo "_law_world", .glo "_law_points", .glo "_law_widened", .glo "_law_fixed", .glo "_law_agrees", .glo "_law_listed", .glo "_law_bad", .glo "_law_do", .glo "_law_fault", .glo "_law_refuses", .glo "_law_refused_rules", .glo "_law_refused_sizes", .glo "_law_joined", .glo "_law_resized", .glo "law", .free "ValueError", .free "int", .free "isinstance", .free "len", .free "list", .free "max", .free "range", .free "repr", .free "str", .free "sum", .free "tuple", .glo "BadCount", .glo "BadPoint", .glo "BadSystem", .glo "LoopError", .noat "BadSystem" "at", .noat "BadPoint" "length", .noat "BadCount" "count", .glo "System", .cls "System", .noat "System" "conditions", .noat "System" "width", .meth "System" "holds", .mkr "System", .meth "System" "fixed", .meth "System" "widened", .meth "System" "adding"]
def ex (K : PySem.W.Frag) : Bool := cvB K "System" "MOST" (.int 80) && opB K "System" "__contains__" && decide (mtK K (ga K "BadSystem") (ga K "BadSystem") = some true) && decide (mtK K (ga K "BadPoint") (ga K "BadSystem") = some false) && decide (mtK K (ga K "BadPoint") (ga K "BadPoint") = some true) && decide (mtK K (ga K "BadCount") (ga K "BadSystem") = some false) && decide (mtK K (ga K "BadCount") (ga K "BadPoint") = some false) && decide (mtK K (ga K "BadCount") (ga K "BadCount") = some true) && decide (itK K (.ref (ga K "BadPoint")) (ga K "BadSystem") = some false) && decide (itK K (.ref (ga K "BadCount")) (ga K "BadSystem") = some false) && decide (itK K (.ref (ga K "LoopError")) (ga K "BadSystem") = some true) && decide (itK K (.type "ValueError") (ga K "BadSystem") = some true) && decide (itK K (.ref (ga K "BadCount")) (ga K "BadPoint") = some false) && decide (itK K (.ref (ga K "LoopError")) (ga K "BadPoint") = some true) && decide (itK K (.type "ValueError") (ga K "BadPoint") = some true) && decide (itK K (.ref (ga K "LoopError")) (ga K "BadCount") = some true) && decide (itK K (.type "ValueError") (ga K "BadCount") = some true) && opB K "System" "__and__"
abbrev R : PySem.W.OpenRow := PySem.W.OpenLaw.row PySem.Challenge.rw_loopsame_k01_system_holds
def es : List (Str × DefD) := [("BadSystem", d_BadSystem___init__), ("BadPoint", d_BadPoint___init__), ("BadCount", d_BadCount___init__)]
abbrev fileS : Str := PySem.Challenge.pw_loopsame_k01_system_holds.main.file
abbrev hk : PySem.W.Hook := hookZ 7 fa fn ps es fileS ex
def ob (s : PySem.W.SharedT) : AlZ := obsZG 7 fa fn ps es fileS ex (HandSHeadRun.getT s)
theorem ob_eq (s : PySem.W.SharedT) : ob s = hk.obs s.abs := obsZG_eq (HandSHeadRun.getT_eq s)
def loose : List Str := (["_wall", "LoopError", "BadSystem", "BadPoint", "BadCount", "row_value", "extended", "_copied", "_is_met", "System", "_law_draw", "_law_number", "_law_value", "_law_holds", "_law_rule", "_law_world"] : List Str) ++ (["_law_points", "_law_widened", "_law_fixed", "_law_agrees", "_law_listed", "_law_bad", "_law_do", "_law_fault", "_law_refuses", "_law_refused_rules", "_law_refused_sizes", "_law_joined", "_law_resized"] : List Str)
theorem head_run (w : World) : HandSHeadRun.RunEq R (PySem.W.view R.prog [33]) hk ob 4000 loose w := by
  intro os
  kernel_rfl
theorem the_facts {P : Program} {w : World} {K : PySem.W.Frag} {h : Heap} {mg : Str → Option Value} {f : Addr} (X : K.In h) (G : h.Ns mainGlobals mg) (hfa : mg ("law" : Str) = some (.ref f)) (cz : SaysZ fa fn ps es fileS ex K) (hfile : ((P.main.file : Str) == fileS) = true) (htop : (P.main.scope.names.lookup ("super" : Str)).isSome = false) :
    ∃ fd : FuncData, (∀ (s : Shared) (v : Value), BindsTo s fd ⟨[v], []⟩ [("_law_script", v)]) ∧ ∀ base : Heap, K.In base → base.Ns mainGlobals mg → FnG P w K mg base 10 f fd ["_law_script"] fsLaw := by
  have c := cz.y
  have b_ValueError := free_ok X G (c.d.fact 24 (f := .free "ValueError") rfl)
  have b_int := free_ok X G (c.d.fact 25 (f := .free "int") rfl)
  have b_isinstance := free_ok X G (c.d.fact 26 (f := .free "isinstance") rfl)
  have b_len := free_ok X G (c.d.fact 27 (f := .free "len") rfl)
  have b_list := free_ok X G (c.d.fact 28 (f := .free "list") rfl)
  have b_max := free_ok X G (c.d.fact 29 (f := .free "max") rfl)
  have b_range := free_ok X G (c.d.fact 30 (f := .free "range") rfl)
  have b_repr := free_ok X G (c.d.fact 31 (f := .free "repr") rfl)
  have b_str := free_ok X G (c.d.fact 32 (f := .free "str") rfl)
  have b_sum := free_ok X G (c.d.fact 33 (f := .free "sum") rfl)
  have b_tuple := free_ok X G (c.d.fact 34 (f := .free "tuple") rfl)
  have gm_BadCount := glo_ok X G (c.d.fact 35 (f := .glo "BadCount") rfl)
  have gm_BadPoint := glo_ok X G (c.d.fact 36 (f := .glo "BadPoint") rfl)
  have gm_BadSystem := glo_ok X G (c.d.fact 37 (f := .glo "BadSystem") rfl)
  have gm_LoopError := glo_ok X G (c.d.fact 38 (f := .glo "LoopError") rfl)
  have nf_BadSystem_at := noat_ok (c.d.fact 39 (f := .noat "BadSystem" "at") rfl)
  have nf_BadPoint_length := noat_ok (c.d.fact 40 (f := .noat "BadPoint" "length") rfl)
  have nf_BadCount_count := noat_ok (c.d.fact 41 (f := .noat "BadCount" "count") rfl)
  have g_System := glo_ok X G (c.d.fact 42 (f := .glo "System") rfl)
  have hc_System := cls_ok (c.d.fact 43 (f := .cls "System") rfl)
  have na_System_conditions := noat_ok (c.d.fact 44 (f := .noat "System" "conditions") rfl)
  have na_System_width := noat_ok (c.d.fact 45 (f := .noat "System" "width") rfl)
  have hex : (cvB K "System" "MOST" (.int 80) && opB K "System" "__contains__" && decide (mtK K (ga K "BadSystem") (ga K "BadSystem") = some true) && decide (mtK K (ga K "BadPoint") (ga K "BadSystem") = some false) && decide (mtK K (ga K "BadPoint") (ga K "BadPoint") = some true) && decide (mtK K (ga K "BadCount") (ga K "BadSystem") = some false) && decide (mtK K (ga K "BadCount") (ga K "BadPoint") = some false) && decide (mtK K (ga K "BadCount") (ga K "BadCount") = some true) && decide (itK K (.ref (ga K "BadPoint")) (ga K "BadSystem") = some false) && decide (itK K (.ref (ga K "BadCount")) (ga K "BadSystem") = some false) && decide (itK K (.ref (ga K "LoopError")) (ga K "BadSystem") = some true) && decide (itK K (.type "ValueError") (ga K "BadSystem") = some true) && decide (itK K (.ref (ga K "BadCount")) (ga K "BadPoint") = some false) && decide (itK K (.ref (ga K "LoopError")) (ga K "BadPoint") = some true) && decide (itK K (.type "ValueError") (ga K "BadPoint") = some true) && decide (itK K (.ref (ga K "LoopError")) (ga K "BadCount") = some true) && decide (itK K (.type "ValueError") (ga K "BadCount") = some true) && opB K "System" "__and__") = true := c.more
  simp only [Bool.and_eq_true] at hex
  have hv_System_MOST := cvB_ok (v := .int 80) g_System hex.1.1.1.1.1.1.1.1.1.1.1.1.1.1.1.1.1 fun _ => .int _
  have in_System := (fun z => (⟨(opB_ok z).at_, (opB_ok z).fn⟩ : InOf K (ga K "System") (ma K (ga K "System") "__contains__"))) (hex.1.1.1.1.1.1.1.1.1.1.1.1.1.1.1.1.2)
  have ef_0 := of_decide_eq_true (hex.1.1.1.1.1.1.1.1.1.1.1.1.1.1.1.2)
  have ef_1 := of_decide_eq_true (hex.1.1.1.1.1.1.1.1.1.1.1.1.1.1.2)
  have ef_2 := of_decide_eq_true (hex.1.1.1.1.1.1.1.1.1.1.1.1.1.2)
  have ef_3 := of_decide_eq_true (hex.1.1.1.1.1.1.1.1.1.1.1.1.2)
  have ef_4 := of_decide_eq_true (hex.1.1.1.1.1.1.1.1.1.1.1.2)
  have ef_5 := of_decide_eq_true (hex.1.1.1.1.1.1.1.1.1.1.2)
  have ef_6 := of_decide_eq_true (hex.1.1.1.1.1.1.1.1.1.2)
  have ef_7 := of_decide_eq_true (hex.1.1.1.1.1.1.1.1.2)
  have ef_8 := of_decide_eq_true (hex.1.1.1.1.1.1.1.2)
  have ef_9 := of_decide_eq_true (hex.1.1.1.1.1.1.2)
  have ef_10 := of_decide_eq_true (hex.1.1.1.1.1.2)
  have ef_11 := of_decide_eq_true (hex.1.1.1.1.2)
  have ef_12 := of_decide_eq_true (hex.1.1.1.2)
  have ef_13 := of_decide_eq_true (hex.1.1.2)
  have ef_14 := of_decide_eq_true (hex.1.2)
  have op_System_and := opB_ok hex.2
  obtain ⟨fd_row_value, FD_row_value⟩ := c.d.def_ 0 (d := d_row_value) rfl
  have g_row_value := glo_ok X G (c.d.fact 0 (f := .glo "row_value") rfl)
  obtain ⟨fd_extended, FD_extended⟩ := c.d.def_ 1 (d := d_extended) rfl
  have g_extended := glo_ok X G (c.d.fact 1 (f := .glo "extended") rfl)
  obtain ⟨fd__copied, FD__copied⟩ := c.d.def_ 2 (d := d__copied) rfl
  have g__copied := glo_ok X G (c.d.fact 2 (f := .glo "_copied") rfl)
  obtain ⟨fd__is_met, FD__is_met⟩ := c.d.def_ 3 (d := d__is_met) rfl
  have g__is_met := glo_ok X G (c.d.fact 3 (f := .glo "_is_met") rfl)
  obtain ⟨fd_System___init__, FD_System___init__⟩ := c.d.def_ 4 (d := d_System___init__) rfl
  obtain ⟨fd_System_holds, FD_System_holds⟩ := c.d.def_ 5 (d := d_System_holds) rfl
  obtain ⟨fd_System___contains__, FD_System___contains__⟩ := c.d.def_ 6 (d := d_System___contains__) rfl
  obtain ⟨fd_System___and__, FD_System___and__⟩ := c.d.def_ 7 (d := d_System___and__) rfl
  obtain ⟨fd_System_adding, FD_System_adding⟩ := c.d.def_ 8 (d := d_System_adding) rfl
  obtain ⟨fd_System_widened, FD_System_widened⟩ := c.d.def_ 9 (d := d_System_widened) rfl
  obtain ⟨fd_System_fixed, FD_System_fixed⟩ := c.d.def_ 10 (d := d_System_fixed) rfl
  obtain ⟨fd__law_draw, FD__law_draw⟩ := c.d.def_ 11 (d := d__law_draw) rfl
  have g__law_draw := glo_ok X G (c.d.fact 4 (f := .glo "_law_draw") rfl)
  obtain ⟨fd__law_number, FD__law_number⟩ := c.d.def_ 12 (d := d__law_number) rfl
  have g__law_number := glo_ok X G (c.d.fact 5 (f := .glo "_law_number") rfl)
  obtain ⟨fd__law_value, FD__law_value⟩ := c.d.def_ 13 (d := d__law_value) rfl
  have g__law_value := glo_ok X G (c.d.fact 6 (f := .glo "_law_value") rfl)
  obtain ⟨fd__law_holds, FD__law_holds⟩ := c.d.def_ 14 (d := d__law_holds) rfl
  have g__law_holds := glo_ok X G (c.d.fact 7 (f := .glo "_law_holds") rfl)
  obtain ⟨fd__law_rule, FD__law_rule⟩ := c.d.def_ 15 (d := d__law_rule) rfl
  have g__law_rule := glo_ok X G (c.d.fact 8 (f := .glo "_law_rule") rfl)
  obtain ⟨fd__law_world, FD__law_world⟩ := c.d.def_ 16 (d := d__law_world) rfl
  have g__law_world := glo_ok X G (c.d.fact 9 (f := .glo "_law_world") rfl)
  obtain ⟨fd__law_points, FD__law_points⟩ := c.d.def_ 17 (d := d__law_points) rfl
  have g__law_points := glo_ok X G (c.d.fact 10 (f := .glo "_law_points") rfl)
  obtain ⟨fd__law_widened, FD__law_widened⟩ := c.d.def_ 18 (d := d__law_widened) rfl
  have g__law_widened := glo_ok X G (c.d.fact 11 (f := .glo "_law_widened") rfl)
  obtain ⟨fd__law_fixed, FD__law_fixed⟩ := c.d.def_ 19 (d := d__law_fixed) rfl
  have g__law_fixed := glo_ok X G (c.d.fact 12 (f := .glo "_law_fixed") rfl)
  obtain ⟨fd__law_agrees, FD__law_agrees⟩ := c.d.def_ 20 (d := d__law_agrees) rfl
  have g__law_agrees := glo_ok X G (c.d.fact 13 (f := .glo "_law_agrees") rfl)
  obtain ⟨fd__law_listed, FD__law_listed⟩ := c.d.def_ 21 (d := d__law_listed) rfl
  have g__law_listed := glo_ok X G (c.d.fact 14 (f := .glo "_law_listed") rfl)
  obtain ⟨fd__law_bad, FD__law_bad⟩ := c.d.def_ 22 (d := d__law_bad) rfl
  have g__law_bad := glo_ok X G (c.d.fact 15 (f := .glo "_law_bad") rfl)
  obtain ⟨fd__law_do, FD__law_do⟩ := c.d.def_ 23 (d := d__law_do) rfl
  have g__law_do := glo_ok X G (c.d.fact 16 (f := .glo "_law_do") rfl)
  obtain ⟨fd__law_fault, FD__law_fault⟩ := c.d.def_ 24 (d := d__law_fault) rfl
  have g__law_fault := glo_ok X G (c.d.fact 17 (f := .glo "_law_fault") rfl)
  obtain ⟨fd__law_refuses, FD__law_refuses⟩ := c.d.def_ 25 (d := d__law_refuses) rfl
  have g__law_refuses := glo_ok X G (c.d.fact 18 (f := .glo "_law_refuses") rfl)
  obtain ⟨fd__law_refused_rules, FD__law_refused_rules⟩ := c.d.def_ 26 (d := d__law_refused_rules) rfl
  have g__law_refused_rules := glo_ok X G (c.d.fact 19 (f := .glo "_law_refused_rules") rfl)
  obtain ⟨fd__law_refused_sizes, FD__law_refused_sizes⟩ := c.d.def_ 27 (d := d__law_refused_sizes) rfl
  have g__law_refused_sizes := glo_ok X G (c.d.fact 20 (f := .glo "_law_refused_sizes") rfl)
  obtain ⟨fd__law_joined, FD__law_joined⟩ := c.d.def_ 28 (d := d__law_joined) rfl
  have g__law_joined := glo_ok X G (c.d.fact 21 (f := .glo "_law_joined") rfl)
  obtain ⟨fd__law_resized, FD__law_resized⟩ := c.d.def_ 29 (d := d__law_resized) rfl
  have g__law_resized := glo_ok X G (c.d.fact 22 (f := .glo "_law_resized") rfl)
  obtain ⟨fd_law, FD_law⟩ := c.d.def_ 30 (d := d_law) rfl
  have g_law := glo_ok X G (c.d.fact 23 (f := .glo "law") rfl)
  have bi_row_value : Binds K fd_row_value ["row", "point"] [] := FD_row_value.bindsN fun _ _ _ _ _ _ us hl => match us, hl with | [_, _], _ => rfl
  have bi_extended : Binds K fd_extended ["row", "count"] [] := FD_extended.bindsN fun _ _ _ _ _ _ us hl => match us, hl with | [_, _], _ => rfl
  have bi__copied : Binds K fd__copied ["condition", "width"] [] := FD__copied.bindsN fun _ _ _ _ _ _ us hl => match us, hl with | [_, _], _ => rfl
  have bi__is_met : Binds K fd__is_met ["condition", "point"] [] := FD__is_met.bindsN fun _ _ _ _ _ _ us hl => match us, hl with | [_, _], _ => rfl
  have bi_System___init__ : Binds K fd_System___init__ ["self", "width", "conditions"] [] := FD_System___init__.bindsN fun _ _ _ _ _ _ us hl => match us, hl with | [_, _, _], _ => rfl
  have bi_System_holds : Binds K fd_System_holds ["self", "point"] [] := FD_System_holds.bindsN fun _ _ _ _ _ _ us hl => match us, hl with | [_, _], _ => rfl
  have bi_System___contains__ : Binds K fd_System___contains__ ["self", "point"] [] := FD_System___contains__.bindsN fun _ _ _ _ _ _ us hl => match us, hl with | [_, _], _ => rfl
  have bi_System___and__ : Binds K fd_System___and__ ["self", "other"] [] := FD_System___and__.bindsN fun _ _ _ _ _ _ us hl => match us, hl with | [_, _], _ => rfl
  have bi_System_widened : Binds K fd_System_widened ["self", "count"] [] := FD_System_widened.bindsN fun _ _ _ _ _ _ us hl => match us, hl with | [_, _], _ => rfl
  have bi_System_fixed : Binds K fd_System_fixed ["self", "numbers"] [] := FD_System_fixed.bindsN fun _ _ _ _ _ _ us hl => match us, hl with | [_, _], _ => rfl
  have bi__law_draw : Binds K fd__law_draw ["_law_pool", "_law_many"] [] := FD__law_draw.bindsN fun _ _ _ _ _ _ us hl => match us, hl with | [_, _], _ => rfl
  have bi__law_number : Binds K fd__law_number ["_law_pool", "_law_size", "_law_at"] [] := FD__law_number.bindsN fun _ _ _ _ _ _ us hl => match us, hl with | [_, _, _], _ => rfl
  have bi__law_value : Binds K fd__law_value ["_law_row", "_law_point"] [] := FD__law_value.bindsN fun _ _ _ _ _ _ us hl => match us, hl with | [_, _], _ => rfl
  have bi__law_holds : Binds K fd__law_holds ["_law_rules", "_law_point"] [] := FD__law_holds.bindsN fun _ _ _ _ _ _ us hl => match us, hl with | [_, _], _ => rfl
  have bi__law_rule : Binds K fd__law_rule ["_law_pool", "_law_point", "_law_at", "_law_mood"] [] := FD__law_rule.bindsN fun _ _ _ _ _ _ us hl => match us, hl with | [_, _, _, _], _ => rfl
  have bi__law_world : Binds K fd__law_world ["_law_pool"] [] := FD__law_world.bindsN fun _ _ _ _ _ _ us hl => match us, hl with | [_], _ => rfl
  have bi__law_points : Binds K fd__law_points ["_law_pool", "_law_edge", "_law_point"] [] := FD__law_points.bindsN fun _ _ _ _ _ _ us hl => match us, hl with | [_, _, _], _ => rfl
  have bi__law_widened : Binds K fd__law_widened ["_law_rules", "_law_width", "_law_count"] [] := FD__law_widened.bindsN fun _ _ _ _ _ _ us hl => match us, hl with | [_, _, _], _ => rfl
  have bi__law_fixed : Binds K fd__law_fixed ["_law_rules", "_law_width", "_law_numbers"] [] := FD__law_fixed.bindsN fun _ _ _ _ _ _ us hl => match us, hl with | [_, _, _], _ => rfl
  have bi__law_agrees : Binds K fd__law_agrees ["_law_system", "_law_width", "_law_rules", "_law_points_here"] [] := FD__law_agrees.bindsN fun _ _ _ _ _ _ us hl => match us, hl with | [_, _, _, _], _ => rfl
  have bi__law_listed : Binds K fd__law_listed ["_law_rule_here"] [] := FD__law_listed.bindsN fun _ _ _ _ _ _ us hl => match us, hl with | [_], _ => rfl
  have bi__law_bad : Binds K fd__law_bad ["_law_pool", "_law_width"] [] := FD__law_bad.bindsN fun _ _ _ _ _ _ us hl => match us, hl with | [_, _], _ => rfl
  have bi__law_do : Binds K fd__law_do ["_law_system", "_law_deed", "_law_thing"] [] := FD__law_do.bindsN fun _ _ _ _ _ _ us hl => match us, hl with | [_, _, _], _ => rfl
  have bi__law_fault : Binds K fd__law_fault ["_law_system", "_law_deed", "_law_thing"] [] := FD__law_fault.bindsN fun _ _ _ _ _ _ us hl => match us, hl with | [_, _, _], _ => rfl
  have bi__law_refuses : Binds K fd__law_refuses ["_law_system", "_law_deed", "_law_thing", "_law_word", "_law_field"] [] := FD__law_refuses.bindsN fun _ _ _ _ _ _ us hl => match us, hl with | [_, _, _, _, _], _ => rfl
  have bi__law_refused_rules : Binds K fd__law_refused_rules ["_law_pool", "_law_system", "_law_width", "_law_rules"] [] := FD__law_refused_rules.bindsN fun _ _ _ _ _ _ us hl => match us, hl with | [_, _, _, _], _ => rfl
  have bi__law_refused_sizes : Binds K fd__law_refused_sizes ["_law_pool", "_law_system", "_law_width"] [] := FD__law_refused_sizes.bindsN fun _ _ _ _ _ _ us hl => match us, hl with | [_, _, _], _ => rfl
  have bi__law_joined : Binds K fd__law_joined ["_law_pool", "_law_system", "_law_width", "_law_rules", "_law_point", "_law_points_here"] [] := FD__law_joined.bindsN fun _ _ _ _ _ _ us hl => match us, hl with | [_, _, _, _, _, _], _ => rfl
  have bi__law_resized : Binds K fd__law_resized ["_law_pool", "_law_system", "_law_width", "_law_rules", "_law_points_here"] [] := FD__law_resized.bindsN fun _ _ _ _ _ _ us hl => match us, hl with | [_, _, _, _, _], _ => rfl
  have bi_law : Binds K fd_law ["_law_script"] [] := FD_law.bindsN fun _ _ _ _ _ _ us hl => match us, hl with | [_], _ => rfl
  have me_System_holds := meth_ok (c.d.fact 46 (f := .meth "System" "holds") rfl)
  have mk_System := mkr_ok (c.d.fact 47 (f := .mkr "System") rfl)
  have me_System_fixed := meth_ok (c.d.fact 48 (f := .meth "System" "fixed") rfl)
  have me_System_widened := meth_ok (c.d.fact 49 (f := .meth "System" "widened") rfl)
  have me_System_adding := meth_ok (c.d.fact 50 (f := .meth "System" "adding") rfl)
  have e := hfa.symm.trans g_law
  cases e
  have bl := FunD.bindsA (ps := ["_law_script"]) FD_law fun _ _ _ _ _ _ us hl => match us, hl with | [_], _ => rfl
  refine ⟨fd_law, fun s v => bl s [v] rfl, fun base _ _ => ?_⟩
  obtain ⟨fe_BadSystem, cc_BadSystem, cd_BadSystem, fde_BadSystem, EK_BadSystem⟩ := cz.err (P := P) X G 0 (e := ("BadSystem", d_BadSystem___init__)) rfl hfile htop
  obtain ⟨fe_BadPoint, cc_BadPoint, cd_BadPoint, fde_BadPoint, EK_BadPoint⟩ := cz.err (P := P) X G 1 (e := ("BadPoint", d_BadPoint___init__)) rfl hfile htop
  obtain ⟨fe_BadCount, cc_BadCount, cd_BadCount, fde_BadCount, EK_BadCount⟩ := cz.err (P := P) X G 2 (e := ("BadCount", d_BadCount___init__)) rfl hfile htop
  have EFk : EF K (ga K "BadCount") (ga K "BadPoint") (ga K "BadSystem") (ga K "LoopError") := ⟨ef_0, ef_1, ef_2, ef_3, ef_4, ef_5, ef_6, ef_7, ef_8, ef_9, ef_10, ef_11, ef_12, ef_13, ef_14⟩
  have he_BadSystem : KnE P w K mg base "BadSystem" (ga K "BadSystem") 1 0 fsi_BadSystem := kn_err (k := 0) (N := N_BadSystem___init__) (ps := ["self", "at"]) (fs := fsi_BadSystem) (ψ := rdm_BadSystem___init__) (φ := rdi_BadSystem___init__) EK_BadSystem (NdefX.nscope_by (by decide +kernel)) rfl rfl rfl (fun ds M Q h => by first | (obtain ⟨_, rfl, _⟩ := h; rfl) | (obtain ⟨_, _, rfl, _⟩ := h; rfl) | (obtain ⟨_, _, _, rfl, _⟩ := h; rfl) | (obtain ⟨_, _, _, _, rfl, _⟩ := h; rfl) | (obtain ⟨_, _, _, _, _, rfl, _⟩ := h; rfl) | (obtain ⟨_, _, _, _, _, _, rfl, _⟩ := h; rfl) | (obtain ⟨_, _, _, _, _, _, _, rfl, _⟩ := h; rfl) | (obtain ⟨_, _, _, _, _, _, _, _, rfl, _⟩ := h; rfl) | (obtain ⟨_, _, _, _, _, _, _, _, _, rfl, _⟩ := h; rfl) | (obtain ⟨_, _, _, _, _, _, _, _, _, _, rfl, _⟩ := h; rfl) | (obtain ⟨_, _, _, _, _, _, _, _, _, _, _, rfl, _⟩ := h; rfl) | (obtain ⟨_, _, _, _, _, _, _, _, _, _, _, _, rfl, _⟩ := h; rfl) | (obtain ⟨_, _, _, _, _, _, _, _, _, _, _, _, _, rfl, _⟩ := h; rfl) | (obtain ⟨_, _, _, _, _, _, _, _, _, _, _, _, _, _, rfl, _⟩ := h; rfl)) (fun _ _ _ _ _ us hl => match us, hl with | [_, _], _ => rfl) (fun A outer s H E hr => bi_BadSystem___init__ EK_BadSystem.sup.ox (b_str := b_str) (nf_BadSystem_at := nf_BadSystem_at) A outer s H E hr) ok_BadSystem___init__ rfl (fun _ => rfl) (fun _ => rfl) (fun _ => rfl) (fun _ => rfl)
  have he_BadPoint : KnE P w K mg base "BadPoint" (ga K "BadPoint") 1 0 fsi_BadPoint := kn_err (k := 0) (N := N_BadPoint___init__) (ps := ["self", "length"]) (fs := fsi_BadPoint) (ψ := rdm_BadPoint___init__) (φ := rdi_BadPoint___init__) EK_BadPoint (NdefX.nscope_by (by decide +kernel)) rfl rfl rfl (fun ds M Q h => by first | (obtain ⟨_, rfl, _⟩ := h; rfl) | (obtain ⟨_, _, rfl, _⟩ := h; rfl) | (obtain ⟨_, _, _, rfl, _⟩ := h; rfl) | (obtain ⟨_, _, _, _, rfl, _⟩ := h; rfl) | (obtain ⟨_, _, _, _, _, rfl, _⟩ := h; rfl) | (obtain ⟨_, _, _, _, _, _, rfl, _⟩ := h; rfl) | (obtain ⟨_, _, _, _, _, _, _, rfl, _⟩ := h; rfl) | (obtain ⟨_, _, _, _, _, _, _, _, rfl, _⟩ := h; rfl) | (obtain ⟨_, _, _, _, _, _, _, _, _, rfl, _⟩ := h; rfl) | (obtain ⟨_, _, _, _, _, _, _, _, _, _, rfl, _⟩ := h; rfl) | (obtain ⟨_, _, _, _, _, _, _, _, _, _, _, rfl, _⟩ := h; rfl) | (obtain ⟨_, _, _, _, _, _, _, _, _, _, _, _, rfl, _⟩ := h; rfl) | (obtain ⟨_, _, _, _, _, _, _, _, _, _, _, _, _, rfl, _⟩ := h; rfl) | (obtain ⟨_, _, _, _, _, _, _, _, _, _, _, _, _, _, rfl, _⟩ := h; rfl)) (fun _ _ _ _ _ us hl => match us, hl with | [_, _], _ => rfl) (fun A outer s H E hr => bi_BadPoint___init__ EK_BadPoint.sup.ox (b_str := b_str) (nf_BadPoint_length := nf_BadPoint_length) A outer s H E hr) ok_BadPoint___init__ rfl (fun _ => rfl) (fun _ => rfl) (fun _ => rfl) (fun _ => rfl)
  have he_BadCount : KnE P w K mg base "BadCount" (ga K "BadCount") 1 0 fsi_BadCount := kn_err (k := 0) (N := N_BadCount___init__) (ps := ["self", "count"]) (fs := fsi_BadCount) (ψ := rdm_BadCount___init__) (φ := rdi_BadCount___init__) EK_BadCount (NdefX.nscope_by (by decide +kernel)) rfl rfl rfl (fun ds M Q h => by first | (obtain ⟨_, rfl, _⟩ := h; rfl) | (obtain ⟨_, _, rfl, _⟩ := h; rfl) | (obtain ⟨_, _, _, rfl, _⟩ := h; rfl) | (obtain ⟨_, _, _, _, rfl, _⟩ := h; rfl) | (obtain ⟨_, _, _, _, _, rfl, _⟩ := h; rfl) | (obtain ⟨_, _, _, _, _, _, rfl, _⟩ := h; rfl) | (obtain ⟨_, _, _, _, _, _, _, rfl, _⟩ := h; rfl) | (obtain ⟨_, _, _, _, _, _, _, _, rfl, _⟩ := h; rfl) | (obtain ⟨_, _, _, _, _, _, _, _, _, rfl, _⟩ := h; rfl) | (obtain ⟨_, _, _, _, _, _, _, _, _, _, rfl, _⟩ := h; rfl) | (obtain ⟨_, _, _, _, _, _, _, _, _, _, _, rfl, _⟩ := h; rfl) | (obtain ⟨_, _, _, _, _, _, _, _, _, _, _, _, rfl, _⟩ := h; rfl) | (obtain ⟨_, _, _, _, _, _, _, _, _, _, _, _, _, rfl, _⟩ := h; rfl) | (obtain ⟨_, _, _, _, _, _, _, _, _, _, _, _, _, _, rfl, _⟩ := h; rfl)) (fun _ _ _ _ _ us hl => match us, hl with | [_, _], _ => rfl) (fun A outer s H E hr => bi_BadCount___init__ EK_BadCount.sup.ox (b_str := b_str) (nf_BadCount_count := nf_BadCount_count) A outer s H E hr) ok_BadCount___init__ rfl (fun _ => rfl) (fun _ => rfl) (fun _ => rfl) (fun _ => rfl)
  have F_row_value : FnOk P w K mg base CX0 1 _ fd_row_value ["row", "point"] (spD K (fs_row_value)) := fn_D (fun_of FD_row_value) sc_row_value (fun ds M Q h => by first | (obtain ⟨_, rfl, _⟩ := h; rfl) | (obtain ⟨_, _, rfl, _⟩ := h; rfl) | (obtain ⟨_, _, _, rfl, _⟩ := h; rfl) | (obtain ⟨_, _, _, _, rfl, _⟩ := h; rfl) | (obtain ⟨_, _, _, _, _, rfl, _⟩ := h; rfl) | (obtain ⟨_, _, _, _, _, _, rfl, _⟩ := h; rfl) | (obtain ⟨_, _, _, _, _, _, _, rfl, _⟩ := h; rfl) | (obtain ⟨_, _, _, _, _, _, _, _, rfl, _⟩ := h; rfl) | (obtain ⟨_, _, _, _, _, _, _, _, _, rfl, _⟩ := h; rfl) | (obtain ⟨_, _, _, _, _, _, _, _, _, _, rfl, _⟩ := h; rfl) | (obtain ⟨_, _, _, _, _, _, _, _, _, _, _, rfl, _⟩ := h; rfl) | (obtain ⟨_, _, _, _, _, _, _, _, _, _, _, _, rfl, _⟩ := h; rfl) | (obtain ⟨_, _, _, _, _, _, _, _, _, _, _, _, _, rfl, _⟩ := h; rfl) | (obtain ⟨_, _, _, _, _, _, _, _, _, _, _, _, _, _, rfl, _⟩ := h; rfl)) (rd_row_value) (fun cdv A outer s H E hr => bx_row_value (b_len := b_len) (b_range := b_range) cdv A outer s H E hr) (ok_row_value)
  have h_row_value : KnO P w K mg base "row_value" 1 (fs_row_value) := ⟨_, _, _, F_row_value, g_row_value, FD_row_value.kp, bi_row_value⟩
  have F_extended : FnOk P w K mg base CX0 1 _ fd_extended ["row", "count"] (spD K (fs_extended)) := fn_D (fun_of FD_extended) sc_extended (fun ds M Q h => by first | (obtain ⟨_, rfl, _⟩ := h; rfl) | (obtain ⟨_, _, rfl, _⟩ := h; rfl) | (obtain ⟨_, _, _, rfl, _⟩ := h; rfl) | (obtain ⟨_, _, _, _, rfl, _⟩ := h; rfl) | (obtain ⟨_, _, _, _, _, rfl, _⟩ := h; rfl) | (obtain ⟨_, _, _, _, _, _, rfl, _⟩ := h; rfl) | (obtain ⟨_, _, _, _, _, _, _, rfl, _⟩ := h; rfl) | (obtain ⟨_, _, _, _, _, _, _, _, rfl, _⟩ := h; rfl) | (obtain ⟨_, _, _, _, _, _, _, _, _, rfl, _⟩ := h; rfl) | (obtain ⟨_, _, _, _, _, _, _, _, _, _, rfl, _⟩ := h; rfl) | (obtain ⟨_, _, _, _, _, _, _, _, _, _, _, rfl, _⟩ := h; rfl) | (obtain ⟨_, _, _, _, _, _, _, _, _, _, _, _, rfl, _⟩ := h; rfl) | (obtain ⟨_, _, _, _, _, _, _, _, _, _, _, _, _, rfl, _⟩ := h; rfl) | (obtain ⟨_, _, _, _, _, _, _, _, _, _, _, _, _, _, rfl, _⟩ := h; rfl)) (rd_extended) (fun cdv A outer s H E hr => bx_extended (b_tuple := b_tuple) cdv A outer s H E hr) (ok_extended)
  have h_extended : KnO P w K mg base "extended" 1 (fs_extended) := ⟨_, _, _, F_extended, g_extended, FD_extended.kp, bi_extended⟩
  have F__copied : FnOk P w K mg base CX0 1 _ fd__copied ["condition", "width"] (spD K (fs__copied)) := fn_D (fun_of FD__copied) sc__copied (fun ds M Q h => by first | (obtain ⟨_, rfl, _⟩ := h; rfl) | (obtain ⟨_, _, rfl, _⟩ := h; rfl) | (obtain ⟨_, _, _, rfl, _⟩ := h; rfl) | (obtain ⟨_, _, _, _, rfl, _⟩ := h; rfl) | (obtain ⟨_, _, _, _, _, rfl, _⟩ := h; rfl) | (obtain ⟨_, _, _, _, _, _, rfl, _⟩ := h; rfl) | (obtain ⟨_, _, _, _, _, _, _, rfl, _⟩ := h; rfl) | (obtain ⟨_, _, _, _, _, _, _, _, rfl, _⟩ := h; rfl) | (obtain ⟨_, _, _, _, _, _, _, _, _, rfl, _⟩ := h; rfl) | (obtain ⟨_, _, _, _, _, _, _, _, _, _, rfl, _⟩ := h; rfl) | (obtain ⟨_, _, _, _, _, _, _, _, _, _, _, rfl, _⟩ := h; rfl) | (obtain ⟨_, _, _, _, _, _, _, _, _, _, _, _, rfl, _⟩ := h; rfl) | (obtain ⟨_, _, _, _, _, _, _, _, _, _, _, _, _, rfl, _⟩ := h; rfl) | (obtain ⟨_, _, _, _, _, _, _, _, _, _, _, _, _, _, rfl, _⟩ := h; rfl)) (rd__copied) (fun cdv A outer s H E hr => bx__copied (b_len := b_len) (b_tuple := b_tuple) cdv A outer s H E hr) (ok__copied)
  have h__copied : KnO P w K mg base "_copied" 1 (fs__copied) := ⟨_, _, _, F__copied, g__copied, FD__copied.kp, bi__copied⟩
  have F__is_met : FnOk P w K mg base CX0 2 _ fd__is_met ["condition", "point"] (spD K (fs__is_met)) := fn_D (fun_of FD__is_met) sc__is_met (fun ds M Q h => by first | (obtain ⟨_, rfl, _⟩ := h; rfl) | (obtain ⟨_, _, rfl, _⟩ := h; rfl) | (obtain ⟨_, _, _, rfl, _⟩ := h; rfl) | (obtain ⟨_, _, _, _, rfl, _⟩ := h; rfl) | (obtain ⟨_, _, _, _, _, rfl, _⟩ := h; rfl) | (obtain ⟨_, _, _, _, _, _, rfl, _⟩ := h; rfl) | (obtain ⟨_, _, _, _, _, _, _, rfl, _⟩ := h; rfl) | (obtain ⟨_, _, _, _, _, _, _, _, rfl, _⟩ := h; rfl) | (obtain ⟨_, _, _, _, _, _, _, _, _, rfl, _⟩ := h; rfl) | (obtain ⟨_, _, _, _, _, _, _, _, _, _, rfl, _⟩ := h; rfl) | (obtain ⟨_, _, _, _, _, _, _, _, _, _, _, rfl, _⟩ := h; rfl) | (obtain ⟨_, _, _, _, _, _, _, _, _, _, _, _, rfl, _⟩ := h; rfl) | (obtain ⟨_, _, _, _, _, _, _, _, _, _, _, _, _, rfl, _⟩ := h; rfl) | (obtain ⟨_, _, _, _, _, _, _, _, _, _, _, _, _, _, rfl, _⟩ := h; rfl)) (rd__is_met) (fun cdv A outer s H E hr => bx__is_met (h_row_value := h_row_value) cdv A outer s H E hr) (ok__is_met)
  have h__is_met : KnO P w K mg base "_is_met" 2 (fs__is_met) := ⟨_, _, _, F__is_met, g__is_met, FD__is_met.kp, bi__is_met⟩
  have F_System___init__ : FnOk P w K mg base (L2.CX P w) 3 _ fd_System___init__ ["self", "width", "conditions"] (spX K (fx_System___init__ (ga K "BadSystem") (ga K "System"))) := fn_X (fun_of FD_System___init__) sc_System___init__ (fun ds M Q W h => by first | (obtain ⟨_, rfl, _⟩ := h; rfl) | (obtain ⟨_, _, rfl, _⟩ := h; rfl) | (obtain ⟨_, _, _, rfl, _⟩ := h; rfl) | (obtain ⟨_, _, _, _, rfl, _⟩ := h; rfl) | (obtain ⟨_, _, _, _, _, rfl, _⟩ := h; rfl) | (obtain ⟨_, _, _, _, _, _, rfl, _⟩ := h; rfl) | (obtain ⟨_, _, _, _, _, _, _, rfl, _⟩ := h; rfl) | (obtain ⟨_, _, _, _, _, _, _, _, rfl, _⟩ := h; rfl) | (obtain ⟨_, _, _, _, _, _, _, _, _, rfl, _⟩ := h; rfl) | (obtain ⟨_, _, _, _, _, _, _, _, _, _, rfl, _⟩ := h; rfl) | (obtain ⟨_, _, _, _, _, _, _, _, _, _, _, rfl, _⟩ := h; rfl) | (obtain ⟨_, _, _, _, _, _, _, _, _, _, _, _, rfl, _⟩ := h; rfl) | (obtain ⟨_, _, _, _, _, _, _, _, _, _, _, _, _, rfl, _⟩ := h; rfl) | (obtain ⟨_, _, _, _, _, _, _, _, _, _, _, _, _, _, rfl, _⟩ := h; rfl)) (rd_System___init__ (ga K "BadSystem") (ga K "System")) (fun cdv A outer s H E hr => bx_System___init__ (b_tuple := b_tuple) (hc_System := hc_System) (na_System_conditions := na_System_conditions) (na_System_width := na_System_width) (he_BadSystem := he_BadSystem) (b_len := b_len) (h__copied := h__copied) (hv_System_MOST := hv_System_MOST) cdv A outer s H E hr) (ok_System___init__ (ga K "BadSystem") (ga K "System"))
  have hi_System : KxI P w K mg base "System" (ga K "System") 3 (fx_System___init__ (ga K "BadSystem") (ga K "System")) := ⟨_, _, _, F_System___init__, mk_System, g_System, bi_System___init__⟩
  have F_System_holds : FnOk P w K mg base (L2.CX P w) 3 _ fd_System_holds ["self", "point"] (spX K (fx_System_holds (ga K "BadPoint") (ga K "System"))) := fn_X (fun_of FD_System_holds) sc_System_holds (fun ds M Q W h => by first | (obtain ⟨_, rfl, _⟩ := h; rfl) | (obtain ⟨_, _, rfl, _⟩ := h; rfl) | (obtain ⟨_, _, _, rfl, _⟩ := h; rfl) | (obtain ⟨_, _, _, _, rfl, _⟩ := h; rfl) | (obtain ⟨_, _, _, _, _, rfl, _⟩ := h; rfl) | (obtain ⟨_, _, _, _, _, _, rfl, _⟩ := h; rfl) | (obtain ⟨_, _, _, _, _, _, _, rfl, _⟩ := h; rfl) | (obtain ⟨_, _, _, _, _, _, _, _, rfl, _⟩ := h; rfl) | (obtain ⟨_, _, _, _, _, _, _, _, _, rfl, _⟩ := h; rfl) | (obtain ⟨_, _, _, _, _, _, _, _, _, _, rfl, _⟩ := h; rfl) | (obtain ⟨_, _, _, _, _, _, _, _, _, _, _, rfl, _⟩ := h; rfl) | (obtain ⟨_, _, _, _, _, _, _, _, _, _, _, _, rfl, _⟩ := h; rfl) | (obtain ⟨_, _, _, _, _, _, _, _, _, _, _, _, _, rfl, _⟩ := h; rfl) | (obtain ⟨_, _, _, _, _, _, _, _, _, _, _, _, _, _, rfl, _⟩ := h; rfl)) (rd_System_holds (ga K "BadPoint") (ga K "System")) (fun cdv A outer s H E hr => bx_System_holds (hc_System := hc_System) (na_System_conditions := na_System_conditions) (h__is_met := h__is_met) (b_len := b_len) (na_System_width := na_System_width) (he_BadPoint := he_BadPoint) cdv A outer s H E hr) (ok_System_holds (ga K "BadPoint") (ga K "System"))
  have hm_System_holds : KxM P w K mg base (ga K "System") "holds" 3 (fx_System_holds (ga K "BadPoint") (ga K "System")) := ⟨_, _, _, F_System_holds, me_System_holds, bi_System_holds⟩
  have F_System___contains__ : FnOk P w K mg base (L2.CX P w) 4 _ fd_System___contains__ ["self", "point"] (spX K (fx_System___contains__ (ga K "BadPoint") (ga K "System"))) := fn_X (fun_of FD_System___contains__) sc_System___contains__ (fun ds M Q W h => by first | (obtain ⟨_, rfl, _⟩ := h; rfl) | (obtain ⟨_, _, rfl, _⟩ := h; rfl) | (obtain ⟨_, _, _, rfl, _⟩ := h; rfl) | (obtain ⟨_, _, _, _, rfl, _⟩ := h; rfl) | (obtain ⟨_, _, _, _, _, rfl, _⟩ := h; rfl) | (obtain ⟨_, _, _, _, _, _, rfl, _⟩ := h; rfl) | (obtain ⟨_, _, _, _, _, _, _, rfl, _⟩ := h; rfl) | (obtain ⟨_, _, _, _, _, _, _, _, rfl, _⟩ := h; rfl) | (obtain ⟨_, _, _, _, _, _, _, _, _, rfl, _⟩ := h; rfl) | (obtain ⟨_, _, _, _, _, _, _, _, _, _, rfl, _⟩ := h; rfl) | (obtain ⟨_, _, _, _, _, _, _, _, _, _, _, rfl, _⟩ := h; rfl) | (obtain ⟨_, _, _, _, _, _, _, _, _, _, _, _, rfl, _⟩ := h; rfl) | (obtain ⟨_, _, _, _, _, _, _, _, _, _, _, _, _, rfl, _⟩ := h; rfl) | (obtain ⟨_, _, _, _, _, _, _, _, _, _, _, _, _, _, rfl, _⟩ := h; rfl)) (rd_System___contains__ (ga K "BadPoint") (ga K "System")) (fun cdv A outer s H E hr => bx_System___contains__ (hc_System := hc_System) (hm_System_holds := hm_System_holds) cdv A outer s H E hr) (ok_System___contains__ (ga K "BadPoint") (ga K "System"))
  have hn_System : KxN P w K mg base (ga K "System") 4 (fx_System___contains__ (ga K "BadPoint") (ga K "System")) := ⟨_, _, _, F_System___contains__, in_System, bi_System___contains__⟩
  have F_System___and__ : FnOk P w K mg base (L2.CX P w) 5 _ fd_System___and__ ["self", "other"] (spX K (fx_System___and__ (ga K "BadSystem") (ga K "System"))) := fn_X (fun_of FD_System___and__) sc_System___and__ (fun ds M Q W h => by first | (obtain ⟨_, rfl, _⟩ := h; rfl) | (obtain ⟨_, _, rfl, _⟩ := h; rfl) | (obtain ⟨_, _, _, rfl, _⟩ := h; rfl) | (obtain ⟨_, _, _, _, rfl, _⟩ := h; rfl) | (obtain ⟨_, _, _, _, _, rfl, _⟩ := h; rfl) | (obtain ⟨_, _, _, _, _, _, rfl, _⟩ := h; rfl) | (obtain ⟨_, _, _, _, _, _, _, rfl, _⟩ := h; rfl) | (obtain ⟨_, _, _, _, _, _, _, _, rfl, _⟩ := h; rfl) | (obtain ⟨_, _, _, _, _, _, _, _, _, rfl, _⟩ := h; rfl) | (obtain ⟨_, _, _, _, _, _, _, _, _, _, rfl, _⟩ := h; rfl) | (obtain ⟨_, _, _, _, _, _, _, _, _, _, _, rfl, _⟩ := h; rfl) | (obtain ⟨_, _, _, _, _, _, _, _, _, _, _, _, rfl, _⟩ := h; rfl) | (obtain ⟨_, _, _, _, _, _, _, _, _, _, _, _, _, rfl, _⟩ := h; rfl) | (obtain ⟨_, _, _, _, _, _, _, _, _, _, _, _, _, _, rfl, _⟩ := h; rfl)) (rd_System___and__ (ga K "BadSystem") (ga K "System")) (fun cdv A outer s H E hr => bx_System___and__ (hc_System := hc_System) (na_System_conditions := na_System_conditions) (na_System_width := na_System_width) (hi_System := hi_System) (he_BadSystem := he_BadSystem) cdv A outer s H E hr) (ok_System___and__ (ga K "BadSystem") (ga K "System"))
  have hb_System_and : KxB P w K mg base (ga K "System") "__and__" 5 (fx_System___and__ (ga K "BadSystem") (ga K "System")) := ⟨_, _, _, F_System___and__, op_System_and, bi_System___and__⟩
  have F_System_adding := fn_star_X (P := P) (w := w) (mg := mg) (base := base) (fun_of FD_System_adding) sc_System_adding (rd_System_adding (ga K "BadSystem") (ga K "System")) (fun cdv A outer s H E hr => bx_System_adding (hc_System := hc_System) (na_System_conditions := na_System_conditions) (na_System_width := na_System_width) (hi_System := hi_System) cdv A outer s H E hr) (ok_System_adding (ga K "BadSystem") (ga K "System")) (fun kV doc pm an cdv ct us rest hl => bind_star1 (B := fun l => bindArgs (PySem.W.fnOf "adding" "System.adding" (defArgs s_System_adding) (defBody s_System_adding) (defScope s_System_adding) .none kV doc pm an cdv ct) ⟨l, []⟩) (fun _ => rfl) (fun _ _ _ => rfl) us rest hl)
  have hs_System_adding : KxS P w K mg base (ga K "System") "adding" 5 (fx_System_adding (ga K "BadSystem") (ga K "System")) := ⟨_, F_System_adding, me_System_adding⟩
  have F_System_widened : FnOk P w K mg base (L2.CX P w) 5 _ fd_System_widened ["self", "count"] (spX K (fx_System_widened (ga K "BadCount") (ga K "BadSystem") (ga K "System"))) := fn_X (fun_of FD_System_widened) sc_System_widened (fun ds M Q W h => by first | (obtain ⟨_, rfl, _⟩ := h; rfl) | (obtain ⟨_, _, rfl, _⟩ := h; rfl) | (obtain ⟨_, _, _, rfl, _⟩ := h; rfl) | (obtain ⟨_, _, _, _, rfl, _⟩ := h; rfl) | (obtain ⟨_, _, _, _, _, rfl, _⟩ := h; rfl) | (obtain ⟨_, _, _, _, _, _, rfl, _⟩ := h; rfl) | (obtain ⟨_, _, _, _, _, _, _, rfl, _⟩ := h; rfl) | (obtain ⟨_, _, _, _, _, _, _, _, rfl, _⟩ := h; rfl) | (obtain ⟨_, _, _, _, _, _, _, _, _, rfl, _⟩ := h; rfl) | (obtain ⟨_, _, _, _, _, _, _, _, _, _, rfl, _⟩ := h; rfl) | (obtain ⟨_, _, _, _, _, _, _, _, _, _, _, rfl, _⟩ := h; rfl) | (obtain ⟨_, _, _, _, _, _, _, _, _, _, _, _, rfl, _⟩ := h; rfl) | (obtain ⟨_, _, _, _, _, _, _, _, _, _, _, _, _, rfl, _⟩ := h; rfl) | (obtain ⟨_, _, _, _, _, _, _, _, _, _, _, _, _, _, rfl, _⟩ := h; rfl)) (rd_System_widened (ga K "BadCount") (ga K "BadSystem") (ga K "System")) (fun cdv A outer s H E hr => bx_System_widened (hc_System := hc_System) (na_System_width := na_System_width) (hi_System := hi_System) (na_System_conditions := na_System_conditions) (h_extended := h_extended) (hv_System_MOST := hv_System_MOST) (he_BadSystem := he_BadSystem) (he_BadCount := he_BadCount) cdv A outer s H E hr) (ok_System_widened (ga K "BadCount") (ga K "BadSystem") (ga K "System"))
  have hm_System_widened : KxM P w K mg base (ga K "System") "widened" 5 (fx_System_widened (ga K "BadCount") (ga K "BadSystem") (ga K "System")) := ⟨_, _, _, F_System_widened, me_System_widened, bi_System_widened⟩
  have F_System_fixed : FnOk P w K mg base (L2.CX P w) 5 _ fd_System_fixed ["self", "numbers"] (spX K (fx_System_fixed (ga K "BadPoint") (ga K "BadSystem") (ga K "System"))) := fn_X (fun_of FD_System_fixed) sc_System_fixed (fun ds M Q W h => by first | (obtain ⟨_, rfl, _⟩ := h; rfl) | (obtain ⟨_, _, rfl, _⟩ := h; rfl) | (obtain ⟨_, _, _, rfl, _⟩ := h; rfl) | (obtain ⟨_, _, _, _, rfl, _⟩ := h; rfl) | (obtain ⟨_, _, _, _, _, rfl, _⟩ := h; rfl) | (obtain ⟨_, _, _, _, _, _, rfl, _⟩ := h; rfl) | (obtain ⟨_, _, _, _, _, _, _, rfl, _⟩ := h; rfl) | (obtain ⟨_, _, _, _, _, _, _, _, rfl, _⟩ := h; rfl) | (obtain ⟨_, _, _, _, _, _, _, _, _, rfl, _⟩ := h; rfl) | (obtain ⟨_, _, _, _, _, _, _, _, _, _, rfl, _⟩ := h; rfl) | (obtain ⟨_, _, _, _, _, _, _, _, _, _, _, rfl, _⟩ := h; rfl) | (obtain ⟨_, _, _, _, _, _, _, _, _, _, _, _, rfl, _⟩ := h; rfl) | (obtain ⟨_, _, _, _, _, _, _, _, _, _, _, _, _, rfl, _⟩ := h; rfl) | (obtain ⟨_, _, _, _, _, _, _, _, _, _, _, _, _, _, rfl, _⟩ := h; rfl)) (rd_System_fixed (ga K "BadPoint") (ga K "BadSystem") (ga K "System")) (fun cdv A outer s H E hr => bx_System_fixed (hc_System := hc_System) (na_System_width := na_System_width) (hi_System := hi_System) (na_System_conditions := na_System_conditions) (h_row_value := h_row_value) (he_BadPoint := he_BadPoint) (b_len := b_len) cdv A outer s H E hr) (ok_System_fixed (ga K "BadPoint") (ga K "BadSystem") (ga K "System"))
  have hm_System_fixed : KxM P w K mg base (ga K "System") "fixed" 5 (fx_System_fixed (ga K "BadPoint") (ga K "BadSystem") (ga K "System")) := ⟨_, _, _, F_System_fixed, me_System_fixed, bi_System_fixed⟩
  have F__law_draw : FnOk P w K mg base CX0 1 _ fd__law_draw ["_law_pool", "_law_many"] (spD K (fs__law_draw)) := fn_D (fun_of FD__law_draw) sc__law_draw (fun ds M Q h => by first | (obtain ⟨_, rfl, _⟩ := h; rfl) | (obtain ⟨_, _, rfl, _⟩ := h; rfl) | (obtain ⟨_, _, _, rfl, _⟩ := h; rfl) | (obtain ⟨_, _, _, _, rfl, _⟩ := h; rfl) | (obtain ⟨_, _, _, _, _, rfl, _⟩ := h; rfl) | (obtain ⟨_, _, _, _, _, _, rfl, _⟩ := h; rfl) | (obtain ⟨_, _, _, _, _, _, _, rfl, _⟩ := h; rfl) | (obtain ⟨_, _, _, _, _, _, _, _, rfl, _⟩ := h; rfl) | (obtain ⟨_, _, _, _, _, _, _, _, _, rfl, _⟩ := h; rfl) | (obtain ⟨_, _, _, _, _, _, _, _, _, _, rfl, _⟩ := h; rfl) | (obtain ⟨_, _, _, _, _, _, _, _, _, _, _, rfl, _⟩ := h; rfl) | (obtain ⟨_, _, _, _, _, _, _, _, _, _, _, _, rfl, _⟩ := h; rfl) | (obtain ⟨_, _, _, _, _, _, _, _, _, _, _, _, _, rfl, _⟩ := h; rfl) | (obtain ⟨_, _, _, _, _, _, _, _, _, _, _, _, _, _, rfl, _⟩ := h; rfl)) (rd__law_draw) (fun cdv A outer s H E hr => bx__law_draw (b_int := b_int) cdv A outer s H E hr) (ok__law_draw)
  have h__law_draw : KnO P w K mg base "_law_draw" 1 (fs__law_draw) := ⟨_, _, _, F__law_draw, g__law_draw, FD__law_draw.kp, bi__law_draw⟩
  have F__law_number : FnOk P w K mg base CX0 2 _ fd__law_number ["_law_pool", "_law_size", "_law_at"] (spD K (fs__law_number)) := fn_D (fun_of FD__law_number) sc__law_number (fun ds M Q h => by first | (obtain ⟨_, rfl, _⟩ := h; rfl) | (obtain ⟨_, _, rfl, _⟩ := h; rfl) | (obtain ⟨_, _, _, rfl, _⟩ := h; rfl) | (obtain ⟨_, _, _, _, rfl, _⟩ := h; rfl) | (obtain ⟨_, _, _, _, _, rfl, _⟩ := h; rfl) | (obtain ⟨_, _, _, _, _, _, rfl, _⟩ := h; rfl) | (obtain ⟨_, _, _, _, _, _, _, rfl, _⟩ := h; rfl) | (obtain ⟨_, _, _, _, _, _, _, _, rfl, _⟩ := h; rfl) | (obtain ⟨_, _, _, _, _, _, _, _, _, rfl, _⟩ := h; rfl) | (obtain ⟨_, _, _, _, _, _, _, _, _, _, rfl, _⟩ := h; rfl) | (obtain ⟨_, _, _, _, _, _, _, _, _, _, _, rfl, _⟩ := h; rfl) | (obtain ⟨_, _, _, _, _, _, _, _, _, _, _, _, rfl, _⟩ := h; rfl) | (obtain ⟨_, _, _, _, _, _, _, _, _, _, _, _, _, rfl, _⟩ := h; rfl) | (obtain ⟨_, _, _, _, _, _, _, _, _, _, _, _, _, _, rfl, _⟩ := h; rfl)) (rd__law_number) (fun cdv A outer s H E hr => bx__law_number (h__law_draw := h__law_draw) (b_int := b_int) cdv A outer s H E hr) (ok__law_number)
  have h__law_number : KnO P w K mg base "_law_number" 2 (fs__law_number) := ⟨_, _, _, F__law_number, g__law_number, FD__law_number.kp, bi__law_number⟩
  have F__law_value : FnOk P w K mg base CX0 1 _ fd__law_value ["_law_row", "_law_point"] (spD K (fs__law_value)) := fn_D (fun_of FD__law_value) sc__law_value (fun ds M Q h => by first | (obtain ⟨_, rfl, _⟩ := h; rfl) | (obtain ⟨_, _, rfl, _⟩ := h; rfl) | (obtain ⟨_, _, _, rfl, _⟩ := h; rfl) | (obtain ⟨_, _, _, _, rfl, _⟩ := h; rfl) | (obtain ⟨_, _, _, _, _, rfl, _⟩ := h; rfl) | (obtain ⟨_, _, _, _, _, _, rfl, _⟩ := h; rfl) | (obtain ⟨_, _, _, _, _, _, _, rfl, _⟩ := h; rfl) | (obtain ⟨_, _, _, _, _, _, _, _, rfl, _⟩ := h; rfl) | (obtain ⟨_, _, _, _, _, _, _, _, _, rfl, _⟩ := h; rfl) | (obtain ⟨_, _, _, _, _, _, _, _, _, _, rfl, _⟩ := h; rfl) | (obtain ⟨_, _, _, _, _, _, _, _, _, _, _, rfl, _⟩ := h; rfl) | (obtain ⟨_, _, _, _, _, _, _, _, _, _, _, _, rfl, _⟩ := h; rfl) | (obtain ⟨_, _, _, _, _, _, _, _, _, _, _, _, _, rfl, _⟩ := h; rfl) | (obtain ⟨_, _, _, _, _, _, _, _, _, _, _, _, _, _, rfl, _⟩ := h; rfl)) (rd__law_value) (fun cdv A outer s H E hr => bx__law_value (b_len := b_len) (b_range := b_range) (b_sum := b_sum) cdv A outer s H E hr) (ok__law_value)
  have h__law_value : KnO P w K mg base "_law_value" 1 (fs__law_value) := ⟨_, _, _, F__law_value, g__law_value, FD__law_value.kp, bi__law_value⟩
  have F__law_holds : FnOk P w K mg base CX0 2 _ fd__law_holds ["_law_rules", "_law_point"] (spD K (fs__law_holds)) := fn_D (fun_of FD__law_holds) sc__law_holds (fun ds M Q h => by first | (obtain ⟨_, rfl, _⟩ := h; rfl) | (obtain ⟨_, _, rfl, _⟩ := h; rfl) | (obtain ⟨_, _, _, rfl, _⟩ := h; rfl) | (obtain ⟨_, _, _, _, rfl, _⟩ := h; rfl) | (obtain ⟨_, _, _, _, _, rfl, _⟩ := h; rfl) | (obtain ⟨_, _, _, _, _, _, rfl, _⟩ := h; rfl) | (obtain ⟨_, _, _, _, _, _, _, rfl, _⟩ := h; rfl) | (obtain ⟨_, _, _, _, _, _, _, _, rfl, _⟩ := h; rfl) | (obtain ⟨_, _, _, _, _, _, _, _, _, rfl, _⟩ := h; rfl) | (obtain ⟨_, _, _, _, _, _, _, _, _, _, rfl, _⟩ := h; rfl) | (obtain ⟨_, _, _, _, _, _, _, _, _, _, _, rfl, _⟩ := h; rfl) | (obtain ⟨_, _, _, _, _, _, _, _, _, _, _, _, rfl, _⟩ := h; rfl) | (obtain ⟨_, _, _, _, _, _, _, _, _, _, _, _, _, rfl, _⟩ := h; rfl) | (obtain ⟨_, _, _, _, _, _, _, _, _, _, _, _, _, _, rfl, _⟩ := h; rfl)) (rd__law_holds) (fun cdv A outer s H E hr => bx__law_holds (b_int := b_int) (h__law_value := h__law_value) cdv A outer s H E hr) (ok__law_holds)
  have h__law_holds : KnO P w K mg base "_law_holds" 2 (fs__law_holds) := ⟨_, _, _, F__law_holds, g__law_holds, FD__law_holds.kp, bi__law_holds⟩
  have F__law_rule : FnOk P w K mg base CX0 3 _ fd__law_rule ["_law_pool", "_law_point", "_law_at", "_law_mood"] (spD K (fs__law_rule)) := fn_D (fun_of FD__law_rule) sc__law_rule (fun ds M Q h => by first | (obtain ⟨_, rfl, _⟩ := h; rfl) | (obtain ⟨_, _, rfl, _⟩ := h; rfl) | (obtain ⟨_, _, _, rfl, _⟩ := h; rfl) | (obtain ⟨_, _, _, _, rfl, _⟩ := h; rfl) | (obtain ⟨_, _, _, _, _, rfl, _⟩ := h; rfl) | (obtain ⟨_, _, _, _, _, _, rfl, _⟩ := h; rfl) | (obtain ⟨_, _, _, _, _, _, _, rfl, _⟩ := h; rfl) | (obtain ⟨_, _, _, _, _, _, _, _, rfl, _⟩ := h; rfl) | (obtain ⟨_, _, _, _, _, _, _, _, _, rfl, _⟩ := h; rfl) | (obtain ⟨_, _, _, _, _, _, _, _, _, _, rfl, _⟩ := h; rfl) | (obtain ⟨_, _, _, _, _, _, _, _, _, _, _, rfl, _⟩ := h; rfl) | (obtain ⟨_, _, _, _, _, _, _, _, _, _, _, _, rfl, _⟩ := h; rfl) | (obtain ⟨_, _, _, _, _, _, _, _, _, _, _, _, _, rfl, _⟩ := h; rfl) | (obtain ⟨_, _, _, _, _, _, _, _, _, _, _, _, _, _, rfl, _⟩ := h; rfl)) (rd__law_rule) (fun cdv A outer s H E hr => bx__law_rule (b_tuple := b_tuple) (h__law_draw := h__law_draw) (b_int := b_int) (b_len := b_len) (b_range := b_range) (b_sum := b_sum) (h__law_number := h__law_number) cdv A outer s H E hr) (ok__law_rule)
  have h__law_rule : KnO P w K mg base "_law_rule" 3 (fs__law_rule) := ⟨_, _, _, F__law_rule, g__law_rule, FD__law_rule.kp, bi__law_rule⟩
  have F__law_world : FnOk P w K mg base CX0 4 _ fd__law_world ["_law_pool"] (spD K (fs__law_world)) := fn_D (fun_of FD__law_world) sc__law_world (fun ds M Q h => by first | (obtain ⟨_, rfl, _⟩ := h; rfl) | (obtain ⟨_, _, rfl, _⟩ := h; rfl) | (obtain ⟨_, _, _, rfl, _⟩ := h; rfl) | (obtain ⟨_, _, _, _, rfl, _⟩ := h; rfl) | (obtain ⟨_, _, _, _, _, rfl, _⟩ := h; rfl) | (obtain ⟨_, _, _, _, _, _, rfl, _⟩ := h; rfl) | (obtain ⟨_, _, _, _, _, _, _, rfl, _⟩ := h; rfl) | (obtain ⟨_, _, _, _, _, _, _, _, rfl, _⟩ := h; rfl) | (obtain ⟨_, _, _, _, _, _, _, _, _, rfl, _⟩ := h; rfl) | (obtain ⟨_, _, _, _, _, _, _, _, _, _, rfl, _⟩ := h; rfl) | (obtain ⟨_, _, _, _, _, _, _, _, _, _, _, rfl, _⟩ := h; rfl) | (obtain ⟨_, _, _, _, _, _, _, _, _, _, _, _, rfl, _⟩ := h; rfl) | (obtain ⟨_, _, _, _, _, _, _, _, _, _, _, _, _, rfl, _⟩ := h; rfl) | (obtain ⟨_, _, _, _, _, _, _, _, _, _, _, _, _, _, rfl, _⟩ := h; rfl)) (rd__law_world) (fun cdv A outer s H E hr => bx__law_world (b_tuple := b_tuple) (h__law_draw := h__law_draw) (b_list := b_list) (b_range := b_range) (b_int := b_int) (h__law_rule := h__law_rule) (b_max := b_max) (h__law_number := h__law_number) cdv A outer s H E hr) (ok__law_world)
  have h__law_world : KnO P w K mg base "_law_world" 4 (fs__law_world) := ⟨_, _, _, F__law_world, g__law_world, FD__law_world.kp, bi__law_world⟩
  have F__law_points : FnOk P w K mg base CX0 3 _ fd__law_points ["_law_pool", "_law_edge", "_law_point"] (spD K (fs__law_points)) := fn_D (fun_of FD__law_points) sc__law_points (fun ds M Q h => by first | (obtain ⟨_, rfl, _⟩ := h; rfl) | (obtain ⟨_, _, rfl, _⟩ := h; rfl) | (obtain ⟨_, _, _, rfl, _⟩ := h; rfl) | (obtain ⟨_, _, _, _, rfl, _⟩ := h; rfl) | (obtain ⟨_, _, _, _, _, rfl, _⟩ := h; rfl) | (obtain ⟨_, _, _, _, _, _, rfl, _⟩ := h; rfl) | (obtain ⟨_, _, _, _, _, _, _, rfl, _⟩ := h; rfl) | (obtain ⟨_, _, _, _, _, _, _, _, rfl, _⟩ := h; rfl) | (obtain ⟨_, _, _, _, _, _, _, _, _, rfl, _⟩ := h; rfl) | (obtain ⟨_, _, _, _, _, _, _, _, _, _, rfl, _⟩ := h; rfl) | (obtain ⟨_, _, _, _, _, _, _, _, _, _, _, rfl, _⟩ := h; rfl) | (obtain ⟨_, _, _, _, _, _, _, _, _, _, _, _, rfl, _⟩ := h; rfl) | (obtain ⟨_, _, _, _, _, _, _, _, _, _, _, _, _, rfl, _⟩ := h; rfl) | (obtain ⟨_, _, _, _, _, _, _, _, _, _, _, _, _, _, rfl, _⟩ := h; rfl)) (rd__law_points) (fun cdv A outer s H E hr => bx__law_points (b_len := b_len) (h__law_draw := h__law_draw) (b_range := b_range) (h__law_number := h__law_number) (b_list := b_list) cdv A outer s H E hr) (ok__law_points)
  have h__law_points : KnO P w K mg base "_law_points" 3 (fs__law_points) := ⟨_, _, _, F__law_points, g__law_points, FD__law_points.kp, bi__law_points⟩
  have F__law_widened : FnOk P w K mg base CX0 1 _ fd__law_widened ["_law_rules", "_law_width", "_law_count"] (spD K (fs__law_widened)) := fn_D (fun_of FD__law_widened) sc__law_widened (fun ds M Q h => by first | (obtain ⟨_, rfl, _⟩ := h; rfl) | (obtain ⟨_, _, rfl, _⟩ := h; rfl) | (obtain ⟨_, _, _, rfl, _⟩ := h; rfl) | (obtain ⟨_, _, _, _, rfl, _⟩ := h; rfl) | (obtain ⟨_, _, _, _, _, rfl, _⟩ := h; rfl) | (obtain ⟨_, _, _, _, _, _, rfl, _⟩ := h; rfl) | (obtain ⟨_, _, _, _, _, _, _, rfl, _⟩ := h; rfl) | (obtain ⟨_, _, _, _, _, _, _, _, rfl, _⟩ := h; rfl) | (obtain ⟨_, _, _, _, _, _, _, _, _, rfl, _⟩ := h; rfl) | (obtain ⟨_, _, _, _, _, _, _, _, _, _, rfl, _⟩ := h; rfl) | (obtain ⟨_, _, _, _, _, _, _, _, _, _, _, rfl, _⟩ := h; rfl) | (obtain ⟨_, _, _, _, _, _, _, _, _, _, _, _, rfl, _⟩ := h; rfl) | (obtain ⟨_, _, _, _, _, _, _, _, _, _, _, _, _, rfl, _⟩ := h; rfl) | (obtain ⟨_, _, _, _, _, _, _, _, _, _, _, _, _, _, rfl, _⟩ := h; rfl)) (rd__law_widened) (fun cdv A outer s H E hr => bx__law_widened  cdv A outer s H E hr) (ok__law_widened)
  have h__law_widened : KnO P w K mg base "_law_widened" 1 (fs__law_widened) := ⟨_, _, _, F__law_widened, g__law_widened, FD__law_widened.kp, bi__law_widened⟩
  have F__law_fixed : FnOk P w K mg base CX0 1 _ fd__law_fixed ["_law_rules", "_law_width", "_law_numbers"] (spD K (fs__law_fixed)) := fn_D (fun_of FD__law_fixed) sc__law_fixed (fun ds M Q h => by first | (obtain ⟨_, rfl, _⟩ := h; rfl) | (obtain ⟨_, _, rfl, _⟩ := h; rfl) | (obtain ⟨_, _, _, rfl, _⟩ := h; rfl) | (obtain ⟨_, _, _, _, rfl, _⟩ := h; rfl) | (obtain ⟨_, _, _, _, _, rfl, _⟩ := h; rfl) | (obtain ⟨_, _, _, _, _, _, rfl, _⟩ := h; rfl) | (obtain ⟨_, _, _, _, _, _, _, rfl, _⟩ := h; rfl) | (obtain ⟨_, _, _, _, _, _, _, _, rfl, _⟩ := h; rfl) | (obtain ⟨_, _, _, _, _, _, _, _, _, rfl, _⟩ := h; rfl) | (obtain ⟨_, _, _, _, _, _, _, _, _, _, rfl, _⟩ := h; rfl) | (obtain ⟨_, _, _, _, _, _, _, _, _, _, _, rfl, _⟩ := h; rfl) | (obtain ⟨_, _, _, _, _, _, _, _, _, _, _, _, rfl, _⟩ := h; rfl) | (obtain ⟨_, _, _, _, _, _, _, _, _, _, _, _, _, rfl, _⟩ := h; rfl) | (obtain ⟨_, _, _, _, _, _, _, _, _, _, _, _, _, _, rfl, _⟩ := h; rfl)) (rd__law_fixed) (fun cdv A outer s H E hr => bx__law_fixed (b_range := b_range) (b_sum := b_sum) (b_len := b_len) cdv A outer s H E hr) (ok__law_fixed)
  have h__law_fixed : KnO P w K mg base "_law_fixed" 1 (fs__law_fixed) := ⟨_, _, _, F__law_fixed, g__law_fixed, FD__law_fixed.kp, bi__law_fixed⟩
  have F__law_agrees : FnG P w K mg base 5 _ fd__law_agrees ["_law_system", "_law_width", "_law_rules", "_law_points_here"] (fs__law_agrees (ga K "BadPoint") (ga K "System")) := fn_G (fun_of FD__law_agrees) sc__law_agrees (fun ds M Q h => by first | (obtain ⟨_, rfl, _⟩ := h; rfl) | (obtain ⟨_, _, rfl, _⟩ := h; rfl) | (obtain ⟨_, _, _, rfl, _⟩ := h; rfl) | (obtain ⟨_, _, _, _, rfl, _⟩ := h; rfl) | (obtain ⟨_, _, _, _, _, rfl, _⟩ := h; rfl) | (obtain ⟨_, _, _, _, _, _, rfl, _⟩ := h; rfl) | (obtain ⟨_, _, _, _, _, _, _, rfl, _⟩ := h; rfl) | (obtain ⟨_, _, _, _, _, _, _, _, rfl, _⟩ := h; rfl) | (obtain ⟨_, _, _, _, _, _, _, _, _, rfl, _⟩ := h; rfl) | (obtain ⟨_, _, _, _, _, _, _, _, _, _, rfl, _⟩ := h; rfl) | (obtain ⟨_, _, _, _, _, _, _, _, _, _, _, rfl, _⟩ := h; rfl) | (obtain ⟨_, _, _, _, _, _, _, _, _, _, _, _, rfl, _⟩ := h; rfl) | (obtain ⟨_, _, _, _, _, _, _, _, _, _, _, _, _, rfl, _⟩ := h; rfl) | (obtain ⟨_, _, _, _, _, _, _, _, _, _, _, _, _, _, rfl, _⟩ := h; rfl)) (rd__law_agrees (ga K "BadPoint") (ga K "System")) (fun cdv A outer s H E hr hgu => bx__law_agrees (hn_System := hn_System) (hc_System := hc_System) (hm_System_holds := hm_System_holds) (b_repr := b_repr) (b_tuple := b_tuple) (b_list := b_list) (h__law_holds := h__law_holds) (na_System_width := na_System_width) (na_System_conditions := na_System_conditions) cdv A outer s H E hr hgu) (ok__law_agrees (ga K "BadPoint") (ga K "System"))
  have h__law_agrees : KnG P w K mg base "_law_agrees" 5 (fs__law_agrees (ga K "BadPoint") (ga K "System")) := ⟨_, _, _, F__law_agrees, g__law_agrees, FD__law_agrees.kp, bi__law_agrees⟩
  have F__law_listed : FnOk P w K mg base CX0 1 _ fd__law_listed ["_law_rule_here"] (spD K (fs__law_listed)) := fn_D (fun_of FD__law_listed) sc__law_listed (fun ds M Q h => by first | (obtain ⟨_, rfl, _⟩ := h; rfl) | (obtain ⟨_, _, rfl, _⟩ := h; rfl) | (obtain ⟨_, _, _, rfl, _⟩ := h; rfl) | (obtain ⟨_, _, _, _, rfl, _⟩ := h; rfl) | (obtain ⟨_, _, _, _, _, rfl, _⟩ := h; rfl) | (obtain ⟨_, _, _, _, _, _, rfl, _⟩ := h; rfl) | (obtain ⟨_, _, _, _, _, _, _, rfl, _⟩ := h; rfl) | (obtain ⟨_, _, _, _, _, _, _, _, rfl, _⟩ := h; rfl) | (obtain ⟨_, _, _, _, _, _, _, _, _, rfl, _⟩ := h; rfl) | (obtain ⟨_, _, _, _, _, _, _, _, _, _, rfl, _⟩ := h; rfl) | (obtain ⟨_, _, _, _, _, _, _, _, _, _, _, rfl, _⟩ := h; rfl) | (obtain ⟨_, _, _, _, _, _, _, _, _, _, _, _, rfl, _⟩ := h; rfl) | (obtain ⟨_, _, _, _, _, _, _, _, _, _, _, _, _, rfl, _⟩ := h; rfl) | (obtain ⟨_, _, _, _, _, _, _, _, _, _, _, _, _, _, rfl, _⟩ := h; rfl)) (rd__law_listed) (fun cdv A outer s H E hr => bx__law_listed (b_list := b_list) cdv A outer s H E hr) (ok__law_listed)
  have h__law_listed : KnO P w K mg base "_law_listed" 1 (fs__law_listed) := ⟨_, _, _, F__law_listed, g__law_listed, FD__law_listed.kp, bi__law_listed⟩
  have F__law_bad : FnOk P w K mg base CX0 3 _ fd__law_bad ["_law_pool", "_law_width"] (spD K (fs__law_bad)) := fn_D (fun_of FD__law_bad) sc__law_bad (fun ds M Q h => by first | (obtain ⟨_, rfl, _⟩ := h; rfl) | (obtain ⟨_, _, rfl, _⟩ := h; rfl) | (obtain ⟨_, _, _, rfl, _⟩ := h; rfl) | (obtain ⟨_, _, _, _, rfl, _⟩ := h; rfl) | (obtain ⟨_, _, _, _, _, rfl, _⟩ := h; rfl) | (obtain ⟨_, _, _, _, _, _, rfl, _⟩ := h; rfl) | (obtain ⟨_, _, _, _, _, _, _, rfl, _⟩ := h; rfl) | (obtain ⟨_, _, _, _, _, _, _, _, rfl, _⟩ := h; rfl) | (obtain ⟨_, _, _, _, _, _, _, _, _, rfl, _⟩ := h; rfl) | (obtain ⟨_, _, _, _, _, _, _, _, _, _, rfl, _⟩ := h; rfl) | (obtain ⟨_, _, _, _, _, _, _, _, _, _, _, rfl, _⟩ := h; rfl) | (obtain ⟨_, _, _, _, _, _, _, _, _, _, _, _, rfl, _⟩ := h; rfl) | (obtain ⟨_, _, _, _, _, _, _, _, _, _, _, _, _, rfl, _⟩ := h; rfl) | (obtain ⟨_, _, _, _, _, _, _, _, _, _, _, _, _, _, rfl, _⟩ := h; rfl)) (rd__law_bad) (fun cdv A outer s H E hr => bx__law_bad (b_int := b_int) (b_range := b_range) (h__law_number := h__law_number) (b_tuple := b_tuple) (h__law_draw := h__law_draw) cdv A outer s H E hr) (ok__law_bad)
  have h__law_bad : KnO P w K mg base "_law_bad" 3 (fs__law_bad) := ⟨_, _, _, F__law_bad, g__law_bad, FD__law_bad.kp, bi__law_bad⟩
  have F__law_do : FnOk P w K mg base (L2.CX P w) 6 _ fd__law_do ["_law_system", "_law_deed", "_law_thing"] (spX K (fx__law_do (ga K "BadCount") (ga K "BadPoint") (ga K "BadSystem") (ga K "System"))) := fn_X (fun_of FD__law_do) sc__law_do (fun ds M Q W h => by first | (obtain ⟨_, rfl, _⟩ := h; rfl) | (obtain ⟨_, _, rfl, _⟩ := h; rfl) | (obtain ⟨_, _, _, rfl, _⟩ := h; rfl) | (obtain ⟨_, _, _, _, rfl, _⟩ := h; rfl) | (obtain ⟨_, _, _, _, _, rfl, _⟩ := h; rfl) | (obtain ⟨_, _, _, _, _, _, rfl, _⟩ := h; rfl) | (obtain ⟨_, _, _, _, _, _, _, rfl, _⟩ := h; rfl) | (obtain ⟨_, _, _, _, _, _, _, _, rfl, _⟩ := h; rfl) | (obtain ⟨_, _, _, _, _, _, _, _, _, rfl, _⟩ := h; rfl) | (obtain ⟨_, _, _, _, _, _, _, _, _, _, rfl, _⟩ := h; rfl) | (obtain ⟨_, _, _, _, _, _, _, _, _, _, _, rfl, _⟩ := h; rfl) | (obtain ⟨_, _, _, _, _, _, _, _, _, _, _, _, rfl, _⟩ := h; rfl) | (obtain ⟨_, _, _, _, _, _, _, _, _, _, _, _, _, rfl, _⟩ := h; rfl) | (obtain ⟨_, _, _, _, _, _, _, _, _, _, _, _, _, _, rfl, _⟩ := h; rfl)) (rd__law_do (ga K "BadCount") (ga K "BadPoint") (ga K "BadSystem") (ga K "System")) (fun cdv A outer s H E hr => bx__law_do (hc_System := hc_System) (hm_System_fixed := hm_System_fixed) (hm_System_widened := hm_System_widened) (hs_System_adding := hs_System_adding) (hb_System_and := hb_System_and) (hn_System := hn_System) (hm_System_holds := hm_System_holds) (hi_System := hi_System) cdv A outer s H E hr) (ok__law_do (ga K "BadCount") (ga K "BadPoint") (ga K "BadSystem") (ga K "System"))
  have h__law_do : KxO P w K mg base "_law_do" 6 (fx__law_do (ga K "BadCount") (ga K "BadPoint") (ga K "BadSystem") (ga K "System")) := ⟨_, _, _, F__law_do, g__law_do, FD__law_do.kp, bi__law_do⟩
  have F__law_fault : FnOk P w K mg base (L2.CX P w) 7 _ fd__law_fault ["_law_system", "_law_deed", "_law_thing"] (spX K (fx__law_fault (ga K "BadCount") (ga K "BadPoint") (ga K "BadSystem") (ga K "LoopError") (ga K "System"))) := fn_X (fun_of FD__law_fault) sc__law_fault (fun ds M Q W h => by first | (obtain ⟨_, rfl, _⟩ := h; rfl) | (obtain ⟨_, _, rfl, _⟩ := h; rfl) | (obtain ⟨_, _, _, rfl, _⟩ := h; rfl) | (obtain ⟨_, _, _, _, rfl, _⟩ := h; rfl) | (obtain ⟨_, _, _, _, _, rfl, _⟩ := h; rfl) | (obtain ⟨_, _, _, _, _, _, rfl, _⟩ := h; rfl) | (obtain ⟨_, _, _, _, _, _, _, rfl, _⟩ := h; rfl) | (obtain ⟨_, _, _, _, _, _, _, _, rfl, _⟩ := h; rfl) | (obtain ⟨_, _, _, _, _, _, _, _, _, rfl, _⟩ := h; rfl) | (obtain ⟨_, _, _, _, _, _, _, _, _, _, rfl, _⟩ := h; rfl) | (obtain ⟨_, _, _, _, _, _, _, _, _, _, _, rfl, _⟩ := h; rfl) | (obtain ⟨_, _, _, _, _, _, _, _, _, _, _, _, rfl, _⟩ := h; rfl) | (obtain ⟨_, _, _, _, _, _, _, _, _, _, _, _, _, rfl, _⟩ := h; rfl) | (obtain ⟨_, _, _, _, _, _, _, _, _, _, _, _, _, _, rfl, _⟩ := h; rfl)) (rd__law_fault K (ga K "BadCount") (ga K "BadPoint") (ga K "BadSystem") (ga K "LoopError") (ga K "System")) (fun cdv A outer s H E hr => bx__law_fault (h__law_do := h__law_do) (gm_BadCount := gm_BadCount) (gm_LoopError := gm_LoopError) (b_isinstance := b_isinstance) (b_ValueError := b_ValueError) (gm_BadPoint := gm_BadPoint) (gm_BadSystem := gm_BadSystem) cdv A outer s H E hr) (ok__law_fault K (ga K "BadCount") (ga K "BadPoint") (ga K "BadSystem") (ga K "LoopError") (ga K "System") EFk)
  have h__law_fault : KxO P w K mg base "_law_fault" 7 (fx__law_fault (ga K "BadCount") (ga K "BadPoint") (ga K "BadSystem") (ga K "LoopError") (ga K "System")) := ⟨_, _, _, F__law_fault, g__law_fault, FD__law_fault.kp, bi__law_fault⟩
  have F__law_refuses : FnG P w K mg base 8 _ fd__law_refuses ["_law_system", "_law_deed", "_law_thing", "_law_word", "_law_field"] (fs__law_refuses (ga K "BadCount") (ga K "BadPoint") (ga K "BadSystem") (ga K "LoopError") (ga K "System")) := fn_G (fun_of FD__law_refuses) sc__law_refuses (fun ds M Q h => by first | (obtain ⟨_, rfl, _⟩ := h; rfl) | (obtain ⟨_, _, rfl, _⟩ := h; rfl) | (obtain ⟨_, _, _, rfl, _⟩ := h; rfl) | (obtain ⟨_, _, _, _, rfl, _⟩ := h; rfl) | (obtain ⟨_, _, _, _, _, rfl, _⟩ := h; rfl) | (obtain ⟨_, _, _, _, _, _, rfl, _⟩ := h; rfl) | (obtain ⟨_, _, _, _, _, _, _, rfl, _⟩ := h; rfl) | (obtain ⟨_, _, _, _, _, _, _, _, rfl, _⟩ := h; rfl) | (obtain ⟨_, _, _, _, _, _, _, _, _, rfl, _⟩ := h; rfl) | (obtain ⟨_, _, _, _, _, _, _, _, _, _, rfl, _⟩ := h; rfl) | (obtain ⟨_, _, _, _, _, _, _, _, _, _, _, rfl, _⟩ := h; rfl) | (obtain ⟨_, _, _, _, _, _, _, _, _, _, _, _, rfl, _⟩ := h; rfl) | (obtain ⟨_, _, _, _, _, _, _, _, _, _, _, _, _, rfl, _⟩ := h; rfl) | (obtain ⟨_, _, _, _, _, _, _, _, _, _, _, _, _, _, rfl, _⟩ := h; rfl)) (rd__law_refuses (ga K "BadCount") (ga K "BadPoint") (ga K "BadSystem") (ga K "LoopError") (ga K "System")) (fun cdv A outer s H E hr hgu => bx__law_refuses (h__law_fault := h__law_fault) (b_repr := b_repr) cdv A outer s H E hr hgu) (ok__law_refuses (ga K "BadCount") (ga K "BadPoint") (ga K "BadSystem") (ga K "LoopError") (ga K "System"))
  have h__law_refuses : KnG P w K mg base "_law_refuses" 8 (fs__law_refuses (ga K "BadCount") (ga K "BadPoint") (ga K "BadSystem") (ga K "LoopError") (ga K "System")) := ⟨_, _, _, F__law_refuses, g__law_refuses, FD__law_refuses.kp, bi__law_refuses⟩
  have F__law_refused_rules : FnG P w K mg base 9 _ fd__law_refused_rules ["_law_pool", "_law_system", "_law_width", "_law_rules"] (fs__law_refused_rules (ga K "BadCount") (ga K "BadPoint") (ga K "BadSystem") (ga K "LoopError") (ga K "System")) := fn_G (fun_of FD__law_refused_rules) sc__law_refused_rules (fun ds M Q h => by first | (obtain ⟨_, rfl, _⟩ := h; rfl) | (obtain ⟨_, _, rfl, _⟩ := h; rfl) | (obtain ⟨_, _, _, rfl, _⟩ := h; rfl) | (obtain ⟨_, _, _, _, rfl, _⟩ := h; rfl) | (obtain ⟨_, _, _, _, _, rfl, _⟩ := h; rfl) | (obtain ⟨_, _, _, _, _, _, rfl, _⟩ := h; rfl) | (obtain ⟨_, _, _, _, _, _, _, rfl, _⟩ := h; rfl) | (obtain ⟨_, _, _, _, _, _, _, _, rfl, _⟩ := h; rfl) | (obtain ⟨_, _, _, _, _, _, _, _, _, rfl, _⟩ := h; rfl) | (obtain ⟨_, _, _, _, _, _, _, _, _, _, rfl, _⟩ := h; rfl) | (obtain ⟨_, _, _, _, _, _, _, _, _, _, _, rfl, _⟩ := h; rfl) | (obtain ⟨_, _, _, _, _, _, _, _, _, _, _, _, rfl, _⟩ := h; rfl) | (obtain ⟨_, _, _, _, _, _, _, _, _, _, _, _, _, rfl, _⟩ := h; rfl) | (obtain ⟨_, _, _, _, _, _, _, _, _, _, _, _, _, _, rfl, _⟩ := h; rfl)) (rd__law_refused_rules (ga K "BadCount") (ga K "BadPoint") (ga K "BadSystem") (ga K "LoopError") (ga K "System")) (fun cdv A outer s H E hr hgu => bx__law_refused_rules (h__law_refuses := h__law_refuses) (b_tuple := b_tuple) (h__law_bad := h__law_bad) (h__law_draw := h__law_draw) (b_len := b_len) cdv A outer s H E hr hgu) (ok__law_refused_rules (ga K "BadCount") (ga K "BadPoint") (ga K "BadSystem") (ga K "LoopError") (ga K "System"))
  have h__law_refused_rules : KnG P w K mg base "_law_refused_rules" 9 (fs__law_refused_rules (ga K "BadCount") (ga K "BadPoint") (ga K "BadSystem") (ga K "LoopError") (ga K "System")) := ⟨_, _, _, F__law_refused_rules, g__law_refused_rules, FD__law_refused_rules.kp, bi__law_refused_rules⟩
  have F__law_refused_sizes : FnG P w K mg base 9 _ fd__law_refused_sizes ["_law_pool", "_law_system", "_law_width"] (fs__law_refused_sizes (ga K "BadCount") (ga K "BadPoint") (ga K "BadSystem") (ga K "LoopError") (ga K "System")) := fn_G (fun_of FD__law_refused_sizes) sc__law_refused_sizes (fun ds M Q h => by first | (obtain ⟨_, rfl, _⟩ := h; rfl) | (obtain ⟨_, _, rfl, _⟩ := h; rfl) | (obtain ⟨_, _, _, rfl, _⟩ := h; rfl) | (obtain ⟨_, _, _, _, rfl, _⟩ := h; rfl) | (obtain ⟨_, _, _, _, _, rfl, _⟩ := h; rfl) | (obtain ⟨_, _, _, _, _, _, rfl, _⟩ := h; rfl) | (obtain ⟨_, _, _, _, _, _, _, rfl, _⟩ := h; rfl) | (obtain ⟨_, _, _, _, _, _, _, _, rfl, _⟩ := h; rfl) | (obtain ⟨_, _, _, _, _, _, _, _, _, rfl, _⟩ := h; rfl) | (obtain ⟨_, _, _, _, _, _, _, _, _, _, rfl, _⟩ := h; rfl) | (obtain ⟨_, _, _, _, _, _, _, _, _, _, _, rfl, _⟩ := h; rfl) | (obtain ⟨_, _, _, _, _, _, _, _, _, _, _, _, rfl, _⟩ := h; rfl) | (obtain ⟨_, _, _, _, _, _, _, _, _, _, _, _, _, rfl, _⟩ := h; rfl) | (obtain ⟨_, _, _, _, _, _, _, _, _, _, _, _, _, _, rfl, _⟩ := h; rfl)) (rd__law_refused_sizes (ga K "BadCount") (ga K "BadPoint") (ga K "BadSystem") (ga K "LoopError") (ga K "System")) (fun cdv A outer s H E hr hgu => bx__law_refused_sizes (hv_System_MOST := hv_System_MOST) (hc_System := hc_System) (hm_System_widened := hm_System_widened) (na_System_width := na_System_width) (b_repr := b_repr) (hi_System := hi_System) (h__law_agrees := h__law_agrees) (b_range := b_range) (b_int := b_int) (b_tuple := b_tuple) (h__law_refuses := h__law_refuses) (b_max := b_max) (h__law_draw := h__law_draw) cdv A outer s H E hr hgu) (ok__law_refused_sizes (ga K "BadCount") (ga K "BadPoint") (ga K "BadSystem") (ga K "LoopError") (ga K "System"))
  have h__law_refused_sizes : KnG P w K mg base "_law_refused_sizes" 9 (fs__law_refused_sizes (ga K "BadCount") (ga K "BadPoint") (ga K "BadSystem") (ga K "LoopError") (ga K "System")) := ⟨_, _, _, F__law_refused_sizes, g__law_refused_sizes, FD__law_refused_sizes.kp, bi__law_refused_sizes⟩
  have F__law_joined : FnG P w K mg base 6 _ fd__law_joined ["_law_pool", "_law_system", "_law_width", "_law_rules", "_law_point", "_law_points_here"] (fs__law_joined (ga K "BadPoint") (ga K "BadSystem") (ga K "System")) := fn_G (fun_of FD__law_joined) sc__law_joined (fun ds M Q h => by first | (obtain ⟨_, rfl, _⟩ := h; rfl) | (obtain ⟨_, _, rfl, _⟩ := h; rfl) | (obtain ⟨_, _, _, rfl, _⟩ := h; rfl) | (obtain ⟨_, _, _, _, rfl, _⟩ := h; rfl) | (obtain ⟨_, _, _, _, _, rfl, _⟩ := h; rfl) | (obtain ⟨_, _, _, _, _, _, rfl, _⟩ := h; rfl) | (obtain ⟨_, _, _, _, _, _, _, rfl, _⟩ := h; rfl) | (obtain ⟨_, _, _, _, _, _, _, _, rfl, _⟩ := h; rfl) | (obtain ⟨_, _, _, _, _, _, _, _, _, rfl, _⟩ := h; rfl) | (obtain ⟨_, _, _, _, _, _, _, _, _, _, rfl, _⟩ := h; rfl) | (obtain ⟨_, _, _, _, _, _, _, _, _, _, _, rfl, _⟩ := h; rfl) | (obtain ⟨_, _, _, _, _, _, _, _, _, _, _, _, rfl, _⟩ := h; rfl) | (obtain ⟨_, _, _, _, _, _, _, _, _, _, _, _, _, rfl, _⟩ := h; rfl) | (obtain ⟨_, _, _, _, _, _, _, _, _, _, _, _, _, _, rfl, _⟩ := h; rfl)) (rd__law_joined (ga K "BadPoint") (ga K "BadSystem") (ga K "System")) (fun cdv A outer s H E hr hgu => bx__law_joined (h__law_agrees := h__law_agrees) (hc_System := hc_System) (hs_System_adding := hs_System_adding) (h__law_listed := h__law_listed) (hb_System_and := hb_System_and) (h__law_rule := h__law_rule) (b_tuple := b_tuple) (hi_System := hi_System) (b_range := b_range) (h__law_draw := h__law_draw) (b_int := b_int) cdv A outer s H E hr hgu) (ok__law_joined (ga K "BadPoint") (ga K "BadSystem") (ga K "System"))
  have h__law_joined : KnG P w K mg base "_law_joined" 6 (fs__law_joined (ga K "BadPoint") (ga K "BadSystem") (ga K "System")) := ⟨_, _, _, F__law_joined, g__law_joined, FD__law_joined.kp, bi__law_joined⟩
  have F__law_resized : FnG P w K mg base 6 _ fd__law_resized ["_law_pool", "_law_system", "_law_width", "_law_rules", "_law_points_here"] (fs__law_resized (ga K "BadCount") (ga K "BadPoint") (ga K "BadSystem") (ga K "System")) := fn_G (fun_of FD__law_resized) sc__law_resized (fun ds M Q h => by first | (obtain ⟨_, rfl, _⟩ := h; rfl) | (obtain ⟨_, _, rfl, _⟩ := h; rfl) | (obtain ⟨_, _, _, rfl, _⟩ := h; rfl) | (obtain ⟨_, _, _, _, rfl, _⟩ := h; rfl) | (obtain ⟨_, _, _, _, _, rfl, _⟩ := h; rfl) | (obtain ⟨_, _, _, _, _, _, rfl, _⟩ := h; rfl) | (obtain ⟨_, _, _, _, _, _, _, rfl, _⟩ := h; rfl) | (obtain ⟨_, _, _, _, _, _, _, _, rfl, _⟩ := h; rfl) | (obtain ⟨_, _, _, _, _, _, _, _, _, rfl, _⟩ := h; rfl) | (obtain ⟨_, _, _, _, _, _, _, _, _, _, rfl, _⟩ := h; rfl) | (obtain ⟨_, _, _, _, _, _, _, _, _, _, _, rfl, _⟩ := h; rfl) | (obtain ⟨_, _, _, _, _, _, _, _, _, _, _, _, rfl, _⟩ := h; rfl) | (obtain ⟨_, _, _, _, _, _, _, _, _, _, _, _, _, rfl, _⟩ := h; rfl) | (obtain ⟨_, _, _, _, _, _, _, _, _, _, _, _, _, _, rfl, _⟩ := h; rfl)) (rd__law_resized (ga K "BadCount") (ga K "BadPoint") (ga K "BadSystem") (ga K "System")) (fun cdv A outer s H E hr hgu => bx__law_resized (h__law_agrees := h__law_agrees) (h__law_fixed := h__law_fixed) (hc_System := hc_System) (hm_System_fixed := hm_System_fixed) (hm_System_widened := hm_System_widened) (h__law_widened := h__law_widened) (b_range := b_range) (h__law_draw := h__law_draw) cdv A outer s H E hr hgu) (ok__law_resized (ga K "BadCount") (ga K "BadPoint") (ga K "BadSystem") (ga K "System"))
  have h__law_resized : KnG P w K mg base "_law_resized" 6 (fs__law_resized (ga K "BadCount") (ga K "BadPoint") (ga K "BadSystem") (ga K "System")) := ⟨_, _, _, F__law_resized, g__law_resized, FD__law_resized.kp, bi__law_resized⟩
  have F_law : FnG P w K mg base 10 _ fd_law ["_law_script"] (fs_law (ga K "BadCount") (ga K "BadPoint") (ga K "BadSystem") (ga K "LoopError") (ga K "System")) := fn_G (fun_of FD_law) sc_law (fun ds M Q h => by first | (obtain ⟨_, rfl, _⟩ := h; rfl) | (obtain ⟨_, _, rfl, _⟩ := h; rfl) | (obtain ⟨_, _, _, rfl, _⟩ := h; rfl) | (obtain ⟨_, _, _, _, rfl, _⟩ := h; rfl) | (obtain ⟨_, _, _, _, _, rfl, _⟩ := h; rfl) | (obtain ⟨_, _, _, _, _, _, rfl, _⟩ := h; rfl) | (obtain ⟨_, _, _, _, _, _, _, rfl, _⟩ := h; rfl) | (obtain ⟨_, _, _, _, _, _, _, _, rfl, _⟩ := h; rfl) | (obtain ⟨_, _, _, _, _, _, _, _, _, rfl, _⟩ := h; rfl) | (obtain ⟨_, _, _, _, _, _, _, _, _, _, rfl, _⟩ := h; rfl) | (obtain ⟨_, _, _, _, _, _, _, _, _, _, _, rfl, _⟩ := h; rfl) | (obtain ⟨_, _, _, _, _, _, _, _, _, _, _, _, rfl, _⟩ := h; rfl) | (obtain ⟨_, _, _, _, _, _, _, _, _, _, _, _, _, rfl, _⟩ := h; rfl) | (obtain ⟨_, _, _, _, _, _, _, _, _, _, _, _, _, _, rfl, _⟩ := h; rfl)) (rd_law (ga K "BadCount") (ga K "BadPoint") (ga K "BadSystem") (ga K "LoopError") (ga K "System")) (fun cdv A outer s H E hr hgu => bx_law (h__law_agrees := h__law_agrees) (h__law_refused_sizes := h__law_refused_sizes) (h__law_refused_rules := h__law_refused_rules) (h__law_resized := h__law_resized) (h__law_joined := h__law_joined) (hi_System := hi_System) (b_tuple := b_tuple) (b_len := b_len) (b_range := b_range) (b_repr := b_repr) (b_list := b_list) (h__law_points := h__law_points) (h__law_world := h__law_world) cdv A outer s H E hr hgu) (ok_law (ga K "BadCount") (ga K "BadPoint") (ga K "BadSystem") (ga K "LoopError") (ga K "System"))
  exact F_law
end Lw
open PySem PySem.W PySem.Calls PyProof.Rows
theorem PySem.Challenge.cw_loopsame_k01_system_holds_holds : PySem.Challenge.rw_loopsame_k01_system_holds.Holds := by
  w_on; o_law
  refine HandSHeadRun.head_any (r := OpenLaw.row PySem.Challenge.rw_loopsame_k01_system_holds) (q := view (OpenLaw.row PySem.Challenge.rw_loopsame_k01_system_holds).prog [33]) (H := Lw.hk) (ob := Lw.ob) (M := 4000) (loose := Lw.loose) (d := HandSHeadRun.topDef (OpenLaw.row PySem.Challenge.rw_loopsame_k01_system_holds).prog 33) (kwd := []) Lw.ob_eq
    (by kernel_rfl) (fun s => by kernel_rfl) Lw.head_run (by kernel_rfl) (by kernel_rfl) (by kernel_rfl) (by rfl) (by first | assumption | decide +kernel) (by decide +kernel) ⟨rfl, rfl, rfl, rfl, rfl, by decide +kernel⟩ ?hw ?hc
  case hw => w_witness2
  case hc =>
    refine Dl.walk_D (l := PySem.Challenge.rw_loopsame_k01_system_holds) (k := 10) (x := "_law_script") rfl (by kernel_rfl) ⟨rfl, by decide, by decide⟩ ?F
    intro w mg fa h Y G hmg0
    obtain ⟨K, KX, c⟩ := Y
    have hmg : mg ("law" : PySem.Str) = some (.ref fa) := by
      have e : (HandSHeadRun.topDef (OpenLaw.row PySem.Challenge.rw_loopsame_k01_system_holds).prog 33).name = ("law" : PySem.Str) := by kernel_rfl
      rw [← e]
      exact hmg0
    obtain ⟨fd, hb, hF⟩ := Lw.the_facts (P := (PySem.Challenge.rw_loopsame_k01_system_holds).prog) (w := w) KX G hmg c (by kernel_rfl) (by kernel_rfl)
    exact ⟨K, fd, KX, hb, hF⟩
