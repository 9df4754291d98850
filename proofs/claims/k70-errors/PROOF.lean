import PyProof.Rows.All
import Wide.All
import OpenK.AllK
import Wide.FinOn
import HandS.ForMost
import HandS.Exc
import KE.DataEq
import HandS.ExcInit
import HandS.TupAny
import KE.LtData
import HandS.Deep
import HandS.TupLe
import PyProof.StrBlock2
import HandS.IsInst
import HandS.Zip
import KE.GoesEnum
import HandS.Defaults
import HandS.WordsExc
import KE.SortData
import KE.SortKeyHeap
import HandS.Codes
import HandS.WideBits
import HandS.Strs
import HandS.ReCall
import KE.DataFind
import KE.KDictPairs
import HandS.Style
import HandS.NoneIn
import HandS.Star
import HandS.Iter
import HandS.MakeKwOnly
import OpenK.KMore
import HandS.ListItems
import KE.KDictZip
import KE.KDictList
import HandS.OwnEq
import PyProof.InstNe
import KE.KSortKey
import HandS.Keys
import HandS.SortKw
import HandS.HeadEnd
import HandS.HeadHook1
import HandS.HeadHook2
import HandS.DictTup
import HandS.TupMul
import KE.KExcSuper
import HandS.ExcField
import HandS.TryOnly
import HandS.TryMany
import HandS.HeadWalk
import KE.KExcIs
import HandS.ExcIs
import HandS.ExcOwn
import PyProof.ExcBaseAll.ValueError
import PyProof.ExcBaseAll.LookupError
import PyProof.ReprRoads
import HandS.ExcValue
import PySem.Challenge.RW_holebirth_k70_errors
import HandS.Head0
import HandS.Head1
import HandS.Head2
section
set_option Elab.async false
set_option linter.all false
set_option maxRecDepth 100000
/-! DL1: data, what stands for data, slots, steps. -/
namespace DL
open PySem PySem.Spec PyProof.Rows L2

abbrev D := PyData
def Ex (H H' : Hp) : Prop := ∀ a o, H a = some o → H' a = some o
theorem Ex.refl (H : Hp) : Ex H H := fun _ _ h => h
theorem Ex.trans {H H1 H2 : Hp} (a : Ex H H1) (b : Ex H1 H2) : Ex H H2 := fun x o h => b x o (a x o h)
theorem Ex.new {H : Hp} {p : Addr} {o : HO} (h : H p = none) : Ex H (upd H p o) := fun a u e => by
  rw [upd_ne (ne_of_none e h)]
  exact e
theorem Ex.back {H H' : Hp} {p : Addr} (e : Ex H H') (h : H' p = none) : H p = none := by
  cases h1 : H p with
  | none => rfl
  | some o =>
    rw [e p o h1] at h
    cases h

def keyD : Key → D
  | .inl i => .int i
  | .inr s => .str s
def keyT (ks : List Key) : D := .tuple (ks.map keyD)
def dicK (kds : List (Key × D)) : D := .dict ((.none, .int 0) :: kds.map fun p => (keyD p.1, p.2))
def dicT (kds : List (List Key × D)) : D := .dict ((.none, .int 1) :: kds.map fun p => (keyT p.1, p.2))
def ins (c : Str) (fds : List (Str × D)) : D := .dict ((.none, .str c) :: fds.map fun p => (.str p.1, p.2))

def keyOf : D → Option Key
  | .int i => some (.inl i)
  | .str s => some (.inr s)
  | _ => none
def keysOf : List D → Option (List Key)
  | [] => some []
  | d :: r => match keyOf d, keysOf r with
    | some k, some ks => some (k :: ks)
    | _, _ => none
/-- a dict whose heap object is known (so that a loop may walk it) -/
def dicF (kds : List (Key × D)) : D := .dict ((.none, .int 3) :: kds.map fun p => (keyD p.1, p.2))
/-- the same with keys that are tuples -/
def dicG (kds : List (List Key × D)) : D := .dict ((.none, .int 4) :: kds.map fun p => (keyT p.1, p.2))
/-- a tuple whose heap object is known -/
def knD (ds : List D) : D := .dict [(.none, .int 2), (.none, .tuple ds)]
/-- the keys of a dict's object are tuples that stand in F -/
def KIn (F : Hp) (o : Obj) : Prop := ∀ (es : Array DictEntry) (ep i : Nat) (en : DictEntry) (q : Addr), o.data = .dict es ep → es[i]? = some en → en.key = .ref q → ∃ ks, F q = some (.tup ks)
theorem KIn.mono {F F' : Hp} {o : Obj} (h : KIn F o) (e : Ex F F') : KIn F' o := fun es ep i en q h1 h2 h3 => let ⟨ks, h4⟩ := h es ep i en q h1 h2 h3; ⟨ks, e _ _ h4⟩
/-- an exception object with its dict at d -/
def exg (a C d : Addr) : HO := .ext fun h => ∃ (fv : Array Value) (sl : Array (Option Value)), h.get? a = some { cls := .ref C, dict := some d, data := .fields fv, slots := sl }
/-- an exception of the class c with one field -/
def exnD (c f : Str) (d : D) : D := .dict [(.none, .int 5), (.str c, .str f), (.none, d)]
def strip : D → D
  | .dict [(.none, .int 2), (.none, .tuple ds)] => .tuple ds
  | d => d
mutual
inductive Rep (M : Str → Addr) (F : Hp) : V → D → Prop
  | non : Rep M F .non .none
  | bl (b : Bool) : Rep M F (.bl b) (.bool b)
  | int (i : Int) : Rep M F (.int i) (.int i)
  | str (x : Str) : Rep M F (.str x) (.str x)
  | lst {a : Addr} {vs : List V} {ds : List D} : F a = some (.lst vs) → RepAll M F vs ds → Rep M F (.ref a) (.list ds)
  | tup {a : Addr} {vs : List V} {ds : List D} : F a = some (.tup vs) → RepAll M F vs ds → Rep M F (.ref a) (.tuple ds)
  | tupF {a : Addr} {o : Obj} {vs : List V} {ds : List D} : F a = some (.frz o (.tup vs)) → keysOf ds = none → RepAll M F vs ds → Rep M F (.ref a) (.tuple ds)
  | kn {a : Addr} {o : Obj} {vs : List V} {ds : List D} : F a = some (.frz o (.tup vs)) → o.dict = none → keysOf ds = none → RepAll M F vs ds → Rep M F (.ref a) (knD ds)
  | dcK {a : Addr} {kvs : List (Key × V)} {kds : List (Key × D)} : F a = some (.dK kvs) → kvs.map (·.1) = kds.map (·.1) → RepAll M F (kvs.map (·.2)) (kds.map (·.2)) → Rep M F (.ref a) (dicK kds)
  | dcF {a : Addr} {o : Obj} {kvs : List (Key × V)} {kds : List (Key × D)} : F a = some (.frz o (.dK kvs)) → kvs.map (·.1) = kds.map (·.1) → RepAll M F (kvs.map (·.2)) (kds.map (·.2)) → Rep M F (.ref a) (dicF kds)
  | dcG {a : Addr} {o : Obj} {kvs : List (List Key × V)} {kds : List (List Key × D)} : F a = some (.frz o (.dT kvs)) → KIn F o → kvs.map (·.1) = kds.map (·.1) → RepAll M F (kvs.map (·.2)) (kds.map (·.2)) → Rep M F (.ref a) (dicG kds)
  | dcT {a : Addr} {kvs : List (List Key × V)} {kds : List (List Key × D)} : F a = some (.dT kvs) → kvs.map (·.1) = kds.map (·.1) → RepAll M F (kvs.map (·.2)) (kds.map (·.2)) → Rep M F (.ref a) (dicT kds)
  | exn {a dd : Addr} {c f : Str} {v : V} {d : D} : F a = some (exg a (M c) dd) → F dd = some (.xd [(f, v)]) → Rep M F v d → Rep M F (.ref a) (exnD c f d)
  | ins {a dx : Addr} {c : Str} {fs : List (Str × V)} {fds : List (Str × D)} : F a = some (.ins (M c) dx fs) → fs.map (·.1) = fds.map (·.1) → RepAll M F (fs.map (·.2)) (fds.map (·.2)) → Rep M F (.ref a) (ins c fds)
inductive RepAll (M : Str → Addr) (F : Hp) : List V → List D → Prop
  | nil : RepAll M F [] []
  | cons {v : V} {vs : List V} {d : D} {ds : List D} : Rep M F v d → RepAll M F vs ds → RepAll M F (v :: vs) (d :: ds)
end

section
variable {M : Str → Addr} {K : PySem.W.Frag} {F F' H H' : Hp} {v : V} {vs : List V} {d : D} {ds : List D}
mutual
theorem Rep.mono (e : Ex F F') : ∀ {v : V} {d : D}, Rep M F v d → Rep M F' v d
  | _, _, .non => .non
  | _, _, .bl b => .bl b
  | _, _, .int i => .int i
  | _, _, .str x => .str x
  | _, _, .lst h r => .lst (e _ _ h) (RepAll.mono e r)
  | _, _, .tup h r => .tup (e _ _ h) (RepAll.mono e r)
  | _, _, .tupF h k2 r => .tupF (e _ _ h) k2 (RepAll.mono e r)
  | _, _, .kn h k1 k2 r => .kn (e _ _ h) k1 k2 (RepAll.mono e r)
  | _, _, .dcK h k r => .dcK (e _ _ h) k (RepAll.mono e r)
  | _, _, .dcF h k r => .dcF (e _ _ h) k (RepAll.mono e r)
  | _, _, .dcT h k r => .dcT (e _ _ h) k (RepAll.mono e r)
  | _, _, .dcG h g k r => .dcG (e _ _ h) (g.mono e) k (RepAll.mono e r)
  | _, _, .exn h k r => .exn (e _ _ h) (e _ _ k) (Rep.mono e r)
  | _, _, .ins h k r => .ins (e _ _ h) k (RepAll.mono e r)
theorem RepAll.mono (e : Ex F F') : ∀ {vs : List V} {ds : List D}, RepAll M F vs ds → RepAll M F' vs ds
  | _, _, .nil => .nil
  | _, _, .cons h r => .cons (Rep.mono e h) (RepAll.mono e r)
end
theorem Rep.strip (h : Rep M F v d) : Rep M F v (strip d) := by
  unfold DL.strip
  split
  · rename_i ds
    generalize e : PyData.dict [(PyData.none, PyData.int 2), (PyData.none, PyData.tuple ds)] = d at h
    cases h with
    | kn h1 h2 h3 h4 =>
      simp only [knD, PyData.dict.injEq, List.cons.injEq, Prod.mk.injEq, PyData.tuple.injEq, and_true, true_and] at e
      subst e
      exact .tupF h1 h3 h4
    | dcK h1 h2 h3 => simp [dicK] at e
    | dcT h1 h2 h3 => simp [dicT] at e
    | dcF h1 h2 h3 => simp [dicF] at e
    | dcG h1 h2 h3 h4 => simp [dicG] at e
    | ins h1 h2 h3 => simp [DL.ins] at e
    | exn h1 h2 h3 => simp [exnD] at e
    | _ => simp at e
  · exact h
theorem RepAll.length : ∀ {vs : List V} {ds : List D}, RepAll M F vs ds → vs.length = ds.length
  | _, _, .nil => rfl
  | _, _, .cons _ r => by simp [RepAll.length r]
theorem RepAll.get : ∀ {vs : List V} {ds : List D}, RepAll M F vs ds → ∀ (i : Nat) (v : V) (d : D), vs[i]? = some v → ds[i]? = some d → Rep M F v d
  | _, _, .nil, i, v, d, h, _ => by simp at h
  | _, _, .cons h r, 0, v, d, h1, h2 => by
    simp at h1 h2
    rw [← h1, ← h2]
    exact h
  | _, _, .cons h r, i + 1, v, d, h1, h2 => by
    simp at h1 h2
    exact RepAll.get r i v d h1 h2
theorem RepAll.at : ∀ {vs : List V} {ds : List D}, RepAll M F vs ds → ∀ (i : Nat) (d : D), ds[i]? = some d → ∃ v, vs[i]? = some v ∧ Rep M F v d := by
  intro vs ds r i d h
  have hl := r.length
  have hi : i < vs.length := by
    rw [hl]
    exact (List.getElem?_eq_some_iff.mp h).1
  refine ⟨vs[i], List.getElem?_eq_getElem hi, r.get i _ _ (List.getElem?_eq_getElem hi) h⟩
theorem RepAll.at' : ∀ {vs : List V} {ds : List D}, RepAll M F vs ds → ∀ (i : Nat) (v : V), vs[i]? = some v → ∃ d, ds[i]? = some d ∧ Rep M F v d := by
  intro vs ds r i v h
  have hl := r.length
  have hi : i < ds.length := by
    rw [← hl]
    exact (List.getElem?_eq_some_iff.mp h).1
  refine ⟨ds[i], List.getElem?_eq_getElem hi, r.get i _ _ h (List.getElem?_eq_getElem hi)⟩
theorem RepAll.append : ∀ {vs ws : List V} {ds es : List D}, RepAll M F vs ds → RepAll M F ws es → RepAll M F (vs ++ ws) (ds ++ es)
  | _, _, _, _, .nil, q => q
  | _, _, _, _, .cons h r, q => .cons h (RepAll.append r q)
theorem RepAll.snoc (r : RepAll M F vs ds) (h : Rep M F v d) : RepAll M F (vs ++ [v]) (ds ++ [d]) := r.append (.cons h .nil)
theorem RepAll.drop : ∀ {vs : List V} {ds : List D} (n : Nat), RepAll M F vs ds → RepAll M F (vs.drop n) (ds.drop n)
  | _, _, 0, r => by simpa using r
  | _, _, n + 1, .nil => by simpa using RepAll.nil
  | _, _, n + 1, .cons h r => by simpa using RepAll.drop n r
theorem RepAll.take : ∀ {vs : List V} {ds : List D} (n : Nat), RepAll M F vs ds → RepAll M F (vs.take n) (ds.take n)
  | _, _, 0, r => by simpa using RepAll.nil
  | _, _, n + 1, .nil => by simpa using RepAll.nil
  | _, _, n + 1, .cons h r => by simpa using RepAll.cons h (RepAll.take n r)
theorem RepAll.set : ∀ {vs : List V} {ds : List D} (n : Nat), RepAll M F vs ds → Rep M F v d → RepAll M F (vs.set n v) (ds.set n d)
  | _, _, _, .nil, _ => by simpa using RepAll.nil
  | _, _, 0, .cons h r, q => by simpa using RepAll.cons q r
  | _, _, n + 1, .cons h r, q => by simpa using RepAll.cons h (RepAll.set n r q)
theorem RepAll.eraseIdx : ∀ {vs : List V} {ds : List D} (n : Nat), RepAll M F vs ds → RepAll M F (vs.eraseIdx n) (ds.eraseIdx n)
  | _, _, _, .nil => by simpa using RepAll.nil
  | _, _, 0, .cons h r => by simpa using r
  | _, _, n + 1, .cons h r => by simpa using RepAll.cons h (RepAll.eraseIdx n r)
theorem RepAll.reverse : ∀ {vs : List V} {ds : List D}, RepAll M F vs ds → RepAll M F vs.reverse ds.reverse
  | _, _, .nil => .nil
  | _, _, .cons h r => by
    rw [List.reverse_cons, List.reverse_cons]
    exact (RepAll.reverse r).snoc h
theorem repAll_ints : ∀ ns : List Int, RepAll M F (ns.map V.int) (ns.map PyData.int)
  | [] => .nil
  | n :: ns => .cons (.int n) (repAll_ints ns)
theorem repAll_strs : ∀ ns : List Str, RepAll M F (ns.map V.str) (ns.map PyData.str)
  | [] => .nil
  | n :: ns => .cons (.str n) (repAll_strs ns)

/-! ### plain data are the library's data -/
mutual
theorem Rep.dp : ∀ {v : V} {d : D}, Rep M F v d → d.plain = true → Dp K F v d
  | _, _, .non, _ => .non
  | _, _, .bl b, _ => .bl b
  | _, _, .int i, _ => .int i
  | _, _, .str x, _ => .str x
  | _, _, .lst h r, p => .lst (.of h) (RepAll.dp r (by simpa [PyData.plain] using p))
  | _, _, .tup h r, p => .tup (.of h) (RepAll.dp r (by simpa [PyData.plain] using p))
  | _, _, .kn h _ _ r, p => by simp [knD, PyData.plain] at p
  | _, _, .tupF h _ r, p => .tup (.inl (.inr ⟨_, h⟩)) (RepAll.dp r (by simpa [PyData.plain] using p))
  | _, _, .dcK h k r, p => by simp [dicK, PyData.plain] at p
  | _, _, .dcF h k r, p => by simp [dicF, PyData.plain] at p
  | _, _, .dcT h k r, p => by simp [dicT, PyData.plain] at p
  | _, _, .dcG h _ k r, p => by simp [dicG, PyData.plain] at p
  | _, _, .exn h k r, p => by simp [exnD, PyData.plain] at p
  | _, _, .ins h k r, p => by simp [DL.ins, PyData.plain] at p
theorem RepAll.dp : ∀ {vs : List V} {ds : List D}, RepAll M F vs ds → PyData.plainAll ds = true → DpAll K F vs ds
  | _, _, .nil, _ => .nil
  | _, _, .cons h r, p => .cons (Rep.dp h (by simp [PyData.plainAll] at p; exact p.1)) (RepAll.dp r (by simp [PyData.plainAll] at p; exact p.2))
end
end

/-! ### growth -/
structure Grow (F H F' H' : Hp) : Prop where
  ff : Ex F F'
  hh : Ex H H'
  fh : Ex F' H'
  nf : ∀ a, F a = none → H a ≠ none → F' a = none
theorem Grow.refl {F H : Hp} (h : Ex F H) : Grow F H F H := ⟨.refl _, .refl _, h, fun _ h _ => h⟩
theorem Grow.trans {F H F1 H1 F2 H2 : Hp} (a : Grow F H F1 H1) (b : Grow F1 H1 F2 H2) : Grow F H F2 H2 :=
  ⟨a.ff.trans b.ff, a.hh.trans b.hh, b.fh, fun x h1 h2 => b.nf x (a.nf x h1 h2) (by
    cases q : H x with
    | none => exact absurd q h2
    | some o =>
      rw [a.hh x o q]
      simp)⟩
/-- a new frozen object -/
theorem Grow.new {F H : Hp} {p : Addr} {o : HO} (fh : Ex F H) (h : H p = none) : Grow F H (upd F p o) (upd H p o) :=
  ⟨.new (fh.back h), .new h, fun a u e => by
    by_cases q : a = p
    · subst q
      rw [upd_same] at e ⊢
      exact e
    · rw [upd_ne q] at e ⊢
      exact fh a u e, fun a h1 h2 => by
    rw [upd_ne (fun q => h2 (by rw [q]; exact h))]
    exact h1⟩
/-- a new object, not frozen -/
theorem Grow.lay {F H : Hp} {p : Addr} {o : HO} (fh : Ex F H) (h : H p = none) : Grow F H F (upd H p o) :=
  ⟨.refl _, .new h, fh.trans (.new h), fun _ h _ => h⟩

/-! ### parameters: the written part, the classes' addresses; the def's first argument -/
structure Pm where
  K : PySem.W.Frag
  cls : Str → Addr
  arg0 : Option Addr
abbrev Pm.b0 (M : Pm) : Pm := ⟨M.K, M.cls, none⟩
abbrev Pm.ar (M : Pm) (a : Addr) : Pm := ⟨M.K, M.cls, some a⟩
/-- kinds of own objects that hold own objects: 0 the law's drawn numbers, 1 a basis -/
def rngD (cells left : List Int) (at_ : Int) : D := .tuple [.list (cells.map .int), .list (left.map .int), .int at_]
inductive BoxR (cls : Str → Addr) : Nat → Hp → Hp → (Addr → Prop) → Addr → D → Prop
  | rng {F H : Hp} {o : Addr → Prop} {a c l : Addr} {cells left : List Int} {n : Int} : H a = some (.dK [(.inr "cells", .ref c), (.inr "left", .ref l), (.inr "at", .int n)]) → F c = some (.lst (cells.map V.int)) → H l = some (.lst (left.map V.int)) → l ≠ a → (∀ b, o b ↔ b = a ∨ b = l) → BoxR cls 0 F H o a (rngD cells left n)
  | bas {F H : Hp} {o : Addr → Prop} {a dx k : Addr} {kvs : List (Key × V)} {kds : List (Key × D)} : H a = some (.ins (cls "Basis") dx [("kept", .ref k)]) → H k = some (.dK kvs) → kvs.map (·.1) = kds.map (·.1) → RepAll cls F (kvs.map (·.2)) (kds.map (·.2)) → k ≠ a → (∀ b, o b ↔ b = a ∨ b = k) → BoxR cls 1 F H o a (dicK kds)
  | par {F H : Hp} {o : Addr → Prop} {a dx l k : Addr} {vs : List V} {ds : List D} {kvs : List (Key × V)} {kds : List (Key × D)} : H a = some (.ins (cls "Pairing") dx [("chains", .ref l), ("ends", .ref k)]) → H l = some (.lst vs) → RepAll cls F vs ds → H k = some (.dK kvs) → kvs.map (·.1) = kds.map (·.1) → RepAll cls F (kvs.map (·.2)) (kds.map (·.2)) → l ≠ a → k ≠ a → l ≠ k → (∀ b, o b ↔ b = a ∨ b = l ∨ b = k) → BoxR cls 2 F H o a (.tuple [.list ds, dicK kds])
theorem BoxR.mono {cls : Str → Addr} {n : Nat} {F H F' H' : Hp} {o : Addr → Prop} {a : Addr} {d : D} (h : BoxR cls n F H o a d) (e : Ex F F') (k : ∀ b u, o b → H b = some u → H' b = some u) : BoxR cls n F' H' o a d := by
  cases h with
  | rng h1 h2 h3 h4 h5 => exact .rng (k _ _ ((h5 _).mpr (.inl rfl)) h1) (e _ _ h2) (k _ _ ((h5 _).mpr (.inr rfl)) h3) h4 h5
  | bas h1 h2 h3 h4 h5 h6 => exact .bas (k _ _ ((h6 _).mpr (.inl rfl)) h1) (k _ _ ((h6 _).mpr (.inr rfl)) h2) h3 (h4.mono e) h5 h6
  | par h1 h2 h3 h4 h5 h6 h7 h8 h9 h10 => exact .par (k _ _ ((h10 _).mpr (.inl rfl)) h1) (k _ _ ((h10 _).mpr (.inr (.inl rfl))) h2) (h3.mono e) (k _ _ ((h10 _).mpr (.inr (.inr rfl))) h4) h5 (h6.mono e) h7 h8 h9 h10
def frzT (n : Nat) (d : D) : Option D := match n with
  | 1 => some (ins "Basis" [("kept", d)])
  | _ => none
theorem box_frz {cls : Str → Addr} {n : Nat} {F H : Hp} {o : Addr → Prop} {a : Addr} {d d' : D} (h : BoxR cls n F H o a d) (fh : Ex F H) (hf : ∀ b, o b → F b = none) (e : frzT n d = some d') :
    ∃ F', Ex F F' ∧ Ex F' H ∧ (∀ b, F b = none → ¬ o b → F' b = none) ∧ Rep cls F' (.ref a) d' := by
  cases h with
  | rng h1 h2 h3 h4 h5 => cases e
  | par h1 h2 h3 h4 h5 h6 h7 h8 h9 h10 => cases e
  | bas h1 h2 h3 h4 h5 h6 =>
    rename_i dx k kvs kds
    simp only [frzT, Option.some.injEq] at e
    subst e
    have fa := hf a ((h6 a).mpr (.inl rfl))
    have fk := hf k ((h6 k).mpr (.inr rfl))
    have fa' : upd F k (.dK kvs) a = none := by rw [upd_ne (Ne.symm h5)]; exact fa
    have e1 : Ex F (upd F k (.dK kvs)) := .new fk
    have e2 : Ex (upd F k (.dK kvs)) (upd (upd F k (.dK kvs)) a (.ins (cls "Basis") dx [("kept", .ref k)])) := .new fa'
    refine ⟨_, e1.trans e2, fun c u hc => ?_, fun c hc ho => ?_, .ins (c := "Basis") upd_same rfl (.cons ?_ .nil)⟩
    · by_cases q : c = a
      · subst q
        rw [upd_same] at hc
        rw [h1]
        exact hc
      · rw [upd_ne q] at hc
        by_cases q' : c = k
        · subst q'
          rw [upd_same] at hc
          rw [h2]
          exact hc
        · rw [upd_ne q'] at hc
          exact fh c u hc
    · have q := fun z => ho ((h6 c).mpr z)
      rw [upd_ne (fun z => q (.inl z)), upd_ne (fun z => q (.inr z))]
      exact hc
    · exact .dcK (kvs := kvs) (by rw [upd_ne h5, upd_same]) h3 (h4.mono (e1.trans e2))
def bclsT : Nat → Option (Str × List Str)
  | 1 => some ("Basis", ["kept"])
  | 2 => some ("Pairing", ["chains", "ends"])
  | _ => none
theorem box_ins {cls : Str → Addr} {n : Nat} {F H : Hp} {o : Addr → Prop} {a : Addr} {d : D} {c : Str} {ns : List Str} (h : BoxR cls n F H o a d) (e : bclsT n = some (c, ns)) : ∃ dx fs, H a = some (.ins (cls c) dx fs) ∧ fs.map (·.1) = ns := by
  cases h with
  | rng h1 h2 h3 h4 h5 => cases e
  | bas h1 h2 h3 h4 h5 h6 =>
    cases e
    exact ⟨_, _, h1, rfl⟩
  | par h1 h2 h3 h4 h5 h6 h7 h8 h9 h10 =>
    cases e
    exact ⟨_, _, h1, rfl⟩

/-! ### slots -/
inductive Fld where
  | fz (d : D)
  | ol (ds : List D)
  | oK (kds : List (Key × D))
  | oT (kds : List (List Key × D))
inductive Slot where
  | un
  | one (f : Fld)
  | cmp (c : Str) (pin : Option Addr) (fds : List (Str × D))
  | box (n : Nat) (pin : Option Addr) (d : D)
  | vw (ds : List D)
abbrev Slot.val (d : D) : Slot := .one (.fz d)
abbrev Slot.own (ds : List D) : Slot := .one (.ol ds)
abbrev Ow := Addr → Prop
def FldR (M : Pm) (F H : Hp) (o : Ow) (v : V) : Fld → Prop
  | .fz d => (∀ a, ¬ o a) ∧ Rep M.cls F v d
  | .ol ds => ∃ l vs, v = .ref l ∧ (∀ a, o a ↔ a = l) ∧ H l = some (.lst vs) ∧ RepAll M.cls F vs ds
  | .oK kds => ∃ l kvs, v = .ref l ∧ (∀ a, o a ↔ a = l) ∧ H l = some (.dK kvs) ∧ kvs.map (·.1) = kds.map (·.1) ∧ RepAll M.cls F (kvs.map (·.2)) (kds.map (·.2))
  | .oT kds => ∃ l kvs, v = .ref l ∧ (∀ a, o a ↔ a = l) ∧ H l = some (.dT kvs) ∧ kvs.map (·.1) = kds.map (·.1) ∧ RepAll M.cls F (kvs.map (·.2)) (kds.map (·.2))
def CmpR (M : Pm) (F H : Hp) (o : Ow) (a : Addr) (c : Str) (fds : List (Str × D)) : Prop :=
  ∃ dx fs, H a = some (.ins (M.cls c) dx fs) ∧ (∀ b, o b ↔ b = a) ∧ fs.map (·.1) = fds.map (·.1) ∧ RepAll M.cls F (fs.map (·.2)) (fds.map (·.2))
def SlotR (M : Pm) (F H : Hp) (o : Ow) (ov : Option (Option V)) : Slot → Prop
  | .un => ∀ a, ¬ o a
  | .one f => ∃ v, ov = some (some v) ∧ FldR M F H o v f
  | .cmp c pin fds => ∃ a, ov = some (some (.ref a)) ∧ (∀ b, pin = some b → M.arg0 = some a) ∧ CmpR M F H o a c fds
  | .box n pin d => ∃ a, ov = some (some (.ref a)) ∧ (∀ b, pin = some b → M.arg0 = some a) ∧ BoxR M.cls n F H o a d
  | .vw ds => (∀ a, ¬ o a) ∧ ∃ l vs, ov = some (some (.ref l)) ∧ SqL M.K F l vs ∧ RepAll M.cls F vs ds
theorem sqL_ex {K : PySem.W.Frag} {F F' : Hp} {l : Addr} {vs : List V} (e : Ex F F') (h : SqL K F l vs) : SqL K F' l vs := by
  rcases h with (h | ⟨o, h⟩) | h
  · exact .inl (.inl (e _ _ h))
  · exact .inl (.inr ⟨o, e _ _ h⟩)
  · exact .inr h
theorem FldR.mono {M : Pm} {F H F' H' : Hp} {o : Ow} {v : V} (e : Ex F F') (k : ∀ b u, o b → H b = some u → H' b = some u) : ∀ {f : Fld}, FldR M F H o v f → FldR M F' H' o v f
  | .fz d, ⟨h1, h2⟩ => ⟨h1, h2.mono e⟩
  | .ol ds, ⟨l, vs, h1, h2, h3, h4⟩ => ⟨l, vs, h1, h2, k _ _ ((h2 l).mpr rfl) h3, h4.mono e⟩
  | .oK kds, ⟨l, vs, h1, h2, h3, h4, h5⟩ => ⟨l, vs, h1, h2, k _ _ ((h2 l).mpr rfl) h3, h4, h5.mono e⟩
  | .oT kds, ⟨l, vs, h1, h2, h3, h4, h5⟩ => ⟨l, vs, h1, h2, k _ _ ((h2 l).mpr rfl) h3, h4, h5.mono e⟩
theorem SlotR.mono {M : Pm} {F H F' H' : Hp} {o : Ow} {ov : Option (Option V)} (e : Ex F F') (k : ∀ b u, o b → H b = some u → H' b = some u) : ∀ {s : Slot}, SlotR M F H o ov s → SlotR M F' H' o ov s
  | .un, h => h
  | .one f, ⟨v, h1, h2⟩ => ⟨v, h1, h2.mono e k⟩
  | .cmp c pin fds, ⟨a, h0, hp, dx, fs, h1, h2, h3, h4⟩ => ⟨a, h0, hp, dx, fs, k _ _ ((h2 a).mpr rfl) h1, h2, h3, h4.mono e⟩
  | .box n pin d, ⟨a, h0, hp, h1⟩ => ⟨a, h0, hp, h1.mono e k⟩
  | .vw ds, ⟨h1, l, vs, h2, h3, h4⟩ => ⟨h1, l, vs, h2, sqL_ex e h3, h4.mono e⟩

abbrev Gam := List Slot
abbrev Own := Nat → Addr → Prop
structure StR (M : Pm) (Γ : Gam) (σ : L2.St) (F H : Hp) (own : Own) : Prop where
  len : Γ.length = σ.length
  fh : Ex F H
  slot : ∀ i s, Γ[i]? = some s → SlotR M F H (own i) σ[i]? s
  out : ∀ i, Γ.length ≤ i → ∀ a, ¬ own i a
  free : ∀ i a, own i a → F a = none
  there : ∀ i a, own i a → H a ≠ none
  disj : ∀ i j a, own i a → own j a → i = j
structure Step (F H : Hp) (own : Own) (F' H' : Hp) (own' : Own) : Prop where
  ff : Ex F F'
  hh : ∀ a o, H a = some o → (∀ i, ¬ own i a) → H' a = some o
  nf : ∀ a, F a = none → H a ≠ none → (∀ i, ¬ own i a) → F' a = none
  no : ∀ i a, own' i a → (∃ j, own j a) ∨ H a = none
  al : ∀ a, H a ≠ none → H' a ≠ none
theorem Step.refl (F H : Hp) (own : Own) : Step F H own F H own := ⟨.refl _, fun _ _ h _ => h, fun _ h _ _ => h, fun i _ h => .inl ⟨i, h⟩, fun _ h => h⟩
theorem Step.trans {F H F1 H1 F2 H2 : Hp} {own own1 own2 : Own} (a : Step F H own F1 H1 own1) (b : Step F1 H1 own1 F2 H2 own2) : Step F H own F2 H2 own2 where
  ff := a.ff.trans b.ff
  hh := fun x o h n => b.hh x o (a.hh x o h n) fun i hi => by
    rcases a.no i x hi with ⟨j, hj⟩ | q
    · exact n j hj
    · rw [h] at q
      cases q
  nf := fun x h1 h2 n => b.nf x (a.nf x h1 h2 n) (a.al x h2) fun i hi => by
    rcases a.no i x hi with ⟨j, hj⟩ | q
    · exact n j hj
    · exact h2 q
  no := fun i x hi => by
    rcases b.no i x hi with ⟨j, hj⟩ | q
    · exact a.no j x hj
    · right
      cases e : H x with
      | none => rfl
      | some o => exact absurd q (a.al x (by rw [e]; simp))
  al := fun x h => b.al x (a.al x h)
theorem Grow.step {F H F' H' : Hp} (g : Grow F H F' H') (own : Own) : Step F H own F' H' own :=
  ⟨g.ff, fun a o h _ => g.hh a o h, fun a h1 h2 _ => g.nf a h1 h2, fun i a h => .inl ⟨i, h⟩, fun a h => by
    cases e : H a with
    | none => exact absurd e h
    | some o =>
      rw [g.hh a o e]
      simp⟩
section
variable {M : Pm} {Γ : Gam} {σ : L2.St} {F H F' H' : Hp} {own : Own}
theorem StR.grow (s : StR M Γ σ F H own) (g : Grow F H F' H') : StR M Γ σ F' H' own where
  len := s.len
  fh := g.fh
  slot := fun i x h => (s.slot i x h).mono g.ff fun b u _ => g.hh b u
  out := s.out
  free := fun i a h => g.nf a (s.free i a h) (s.there i a h)
  there := fun i a h => (g.step own).al a (s.there i a h)
  disj := s.disj
def putO (own : Own) (i : Nat) (o : Ow) : Own := fun j => if j = i then o else own j
theorem putO_same {i : Nat} {o : Ow} : putO own i o i = o := by simp [putO]
theorem putO_ne {i j : Nat} {o : Ow} (h : j ≠ i) : putO own i o j = own j := by simp [putO, h]
theorem putO_self {i : Nat} : putO own i (own i) = own := by
  funext j
  by_cases h : j = i
  · subst h; rw [putO_same]
  · rw [putO_ne h]
/-- a slot is set: its new footprint is apart from the others -/
theorem StR.put (s : StR M Γ σ F H own) {i : Nat} {x : Slot} {ov : Option V} {o : Ow} (hi : i < Γ.length) (h : SlotR M F H o (some ov) x) (hf : ∀ a, o a → F a = none) (ht : ∀ a, o a → H a ≠ none)
    (hd : ∀ a, o a → ∀ j, j ≠ i → ¬ own j a) : StR M (Γ.set i x) (σ.set i ov) F H (putO own i o) where
  len := by simp [s.len]
  fh := s.fh
  slot := fun j y hj => by
    by_cases e : j = i
    · subst e
      rw [List.getElem?_set_self hi] at hj
      rw [List.getElem?_set_self (by rw [← s.len]; exact hi), putO_same]
      cases hj
      exact h
    · rw [List.getElem?_set_ne (Ne.symm e)] at hj ⊢
      rw [putO_ne e]
      exact s.slot j y hj
  out := fun j hj a => by
    rw [List.length_set] at hj
    rw [putO_ne (by omega)]
    exact s.out j hj a
  free := fun j a hj => by
    by_cases e : j = i
    · subst e; rw [putO_same] at hj; exact hf a hj
    · rw [putO_ne e] at hj; exact s.free j a hj
  there := fun j a hj => by
    by_cases e : j = i
    · subst e; rw [putO_same] at hj; exact ht a hj
    · rw [putO_ne e] at hj; exact s.there j a hj
  disj := fun j k a hj hk => by
    by_cases e : j = i
    · by_cases e' : k = i
      · rw [e, e']
      · subst e
        rw [putO_same] at hj
        rw [putO_ne e'] at hk
        exact absurd hk (hd a hj k e')
    · by_cases e' : k = i
      · subst e'
        rw [putO_same] at hk
        rw [putO_ne e] at hj
        exact absurd hj (hd a hk j e)
      · rw [putO_ne e] at hj
        rw [putO_ne e'] at hk
        exact s.disj j k a hj hk
/-- a slot's knowledge changed, its value kept -/
theorem StR.put0 (s : StR M Γ σ F H own) {i : Nat} {x : Slot} {ov : Option V} {o : Ow} (hi : i < Γ.length) (hσ : σ[i]? = some ov) (h : SlotR M F H o (some ov) x) (hf : ∀ a, o a → F a = none) (ht : ∀ a, o a → H a ≠ none)
    (hd : ∀ a, o a → ∀ j, j ≠ i → ¬ own j a) : StR M (Γ.set i x) σ F H (putO own i o) := by
  have q := s.put (ov := ov) hi h hf ht hd
  have e : σ.set i ov = σ := by
    apply List.ext_getElem?
    intro j
    by_cases e : j = i
    · subst e
      rw [List.getElem?_set_self (by rw [← s.len]; exact hi), hσ]
    · rw [List.getElem?_set_ne (Ne.symm e)]
  rw [e] at q
  exact q
theorem StR.lt (s : StR M Γ σ F H own) {i : Nat} {x : Slot} (h : Γ[i]? = some x) : i < Γ.length := (List.getElem?_eq_some_iff.mp h).1
/-- the heap is written within one slot's footprint -/
theorem StR.write (s : StR M Γ σ F H own) {i : Nat} {x : Slot} {o : Ow} (hi : i < Γ.length) (hk : ∀ a u, H a = some u → ¬ own i a → H' a = some u) (ho : ∀ a, o a → F a = none) (ht : ∀ a, o a → H' a ≠ none)
    (hd : ∀ a, o a → own i a ∨ H a = none) (h : SlotR M F H' o σ[i]? x) : StR M (Γ.set i x) σ F H' (putO own i o) := by
  have fh : Ex F H' := fun a u e => hk a u (s.fh a u e) fun q => by
    rw [s.free i a q] at e
    cases e
  have hs := s.len
  obtain ⟨ov, hσ⟩ : ∃ ov, σ[i]? = some ov := ⟨σ[i]'(by omega), List.getElem?_eq_getElem _⟩
  refine ⟨by simp [s.len], fh, fun j y hj => ?_, fun j hj a => ?_, fun j a hj => ?_, fun j a hj => ?_, fun j k a hj hk' => ?_⟩
  · by_cases e : j = i
    · subst e
      rw [List.getElem?_set_self hi] at hj
      rw [putO_same]
      cases hj
      exact h
    · rw [List.getElem?_set_ne (Ne.symm e)] at hj
      rw [putO_ne e]
      exact (s.slot j y hj).mono (.refl _) fun b u hb hu => hk b u hu fun q => e (s.disj j i b hb q)
  · rw [List.length_set] at hj
    rw [putO_ne (by omega)]
    exact s.out j hj a
  · by_cases e : j = i
    · subst e; rw [putO_same] at hj; exact ho a hj
    · rw [putO_ne e] at hj; exact s.free j a hj
  · by_cases e : j = i
    · subst e; rw [putO_same] at hj; exact ht a hj
    · rw [putO_ne e] at hj
      have h1 := s.there j a hj
      cases q : H a with
      | none => exact absurd q h1
      | some u =>
        rw [hk a u q fun z => e (s.disj j i a hj z)]
        simp
  · have key : ∀ j, j ≠ i → own j a → ¬ o a := fun j e hj ho' => by
      rcases hd a ho' with q | q
      · exact e (s.disj j i a hj q)
      · exact s.there j a hj q
    by_cases e : j = i
    · by_cases e' : k = i
      · rw [e, e']
      · subst e
        rw [putO_same] at hj
        rw [putO_ne e'] at hk'
        exact absurd hj (key k e' hk')
    · by_cases e' : k = i
      · subst e'
        rw [putO_same] at hk'
        rw [putO_ne e] at hj
        exact absurd hk' (key j e hj)
      · rw [putO_ne e] at hj
        rw [putO_ne e'] at hk'
        exact s.disj j k a hj hk'
theorem Step.write {i : Nat} {o : Ow} (hk : ∀ a u, H a = some u → ¬ own i a → H' a = some u) (hal : ∀ a, H a ≠ none → H' a ≠ none) (hd : ∀ a, o a → own i a ∨ H a = none) : Step F H own F H' (putO own i o) :=
  ⟨.refl _, fun a u h n => hk a u h (n i), fun _ h _ _ => h, fun j a hj => by
    by_cases e : j = i
    · subst e
      rw [putO_same] at hj
      rcases hd a hj with q | q
      · exact .inl ⟨_, q⟩
      · exact .inr q
    · rw [putO_ne e] at hj
      exact .inl ⟨_, hj⟩, hal⟩
end
end DL
end

section
set_option Elab.async false
set_option linter.all false
set_option maxRecDepth 100000
set_option maxHeartbeats 1000000
/-! DL2: what an expression gives, as a function of the slots. -/
namespace DL
open PySem PySem.Spec PyProof.Rows L2

inductive Val where
  | f (d : D)
  | b (i : Nat)
  | n (f : Fld)
  | nc (c : Str) (fds : List (Str × D))
  | nb (n : Nat) (d : D)
structure Exc where
  cls : Str
  fld : Str
  d : D
inductive R (α : Type) where
  | ok (a : α) (Γ : Gam)
  | err (e : Exc) (Γ : Gam)
  | stuck
def R.bind {α β : Type} (r : R α) (k : α → Gam → R β) : R β := match r with
  | .ok a Γ => k a Γ
  | .err e Γ => .err e Γ
  | .stuck => .stuck
@[simp] theorem R.bind_ok {α β : Type} (a : α) (Γ : Gam) (k : α → Gam → R β) : (R.ok a Γ).bind k = k a Γ := rfl
@[simp] theorem R.bind_err {α β : Type} (e : Exc) (Γ : Gam) (k : α → Gam → R β) : (R.err e Γ).bind k = .err e Γ := rfl
@[simp] theorem R.bind_stuck {α β : Type} (k : α → Gam → R β) : (R.stuck).bind k = .stuck := rfl

def New (H0 F H : Hp) (own : Own) (o : Ow) : Prop := ∀ a, o a → F a = none ∧ H a ≠ none ∧ (∀ i, ¬ own i a) ∧ H0 a = none
def ValR (M : Pm) (σ : L2.St) (H0 F H : Hp) (own : Own) (v : V) : Val → Prop
  | .f d => Rep M.cls F v d
  | .b i => σ[i]? = some (some v)
  | .n f => ∃ o, FldR M F H o v f ∧ New H0 F H own o
  | .nc c fds => ∃ a o, v = .ref a ∧ CmpR M F H o a c fds ∧ New H0 F H own o
  | .nb n d => ∃ a o, v = .ref a ∧ BoxR M.cls n F H o a d ∧ New H0 F H own o
def ValRd (M : Pm) (σ : L2.St) (F : Hp) (v : V) : Val → Prop
  | .f d => Rep M.cls F v d
  | .b i => σ[i]? = some (some v)
  | _ => False
theorem ValRd.mono {M : Pm} {σ : L2.St} {F F' : Hp} {v : V} (e : Ex F F') : ∀ {a : Val}, ValRd M σ F v a → ValRd M σ F' v a
  | .f d, h => Rep.mono e h
  | .b i, h => h
def ErrP (M : Pm) (E : XK) (σ : L2.St) (F H : Hp) (own : Own) (e : Exc) (Γ' : Gam) : Prop :=
  ∀ F' H' own' dd w, StR M Γ' σ F' H' own' → Step F H own F' H' own' → H' dd = some (.xd [(e.fld, w)]) → Rep M.cls F' w e.d → F' dd = none → (∀ i, ¬ own' i dd) → H dd = none → E (.ref (M.cls e.cls)) (some dd) H'
abbrev Rel (β α : Type) := L2.St → Hp → Hp → Hp → Own → β → α → Prop
def PostG {α β : Type} (rel : Rel β α) (M : Pm) (E : XK) (σ : L2.St) (F H : Hp) (own : Own) (Q : β → Hp → Prop) : R α → Prop
  | .ok a Γ' => ∀ x F' H' own', StR M Γ' σ F' H' own' → Step F H own F' H' own' → rel σ H F' H' own' x a → Q x H'
  | .err e Γ' => ErrP M E σ F H own e Γ'
  | .stuck => False
def relV (M : Pm) : Rel V Val := fun σ H0 F H own v a => ValR M σ H0 F H own v a
def relD (M : Pm) : Rel V Val := fun σ _ F _ _ v a => ValRd M σ F v a
inductive ValsRd (M : Pm) (σ : L2.St) (F : Hp) : List V → List Val → Prop
  | nil : ValsRd M σ F [] []
  | cons {v vs a as} : ValRd M σ F v a → ValsRd M σ F vs as → ValsRd M σ F (v :: vs) (a :: as)
theorem ValsRd.mono {M : Pm} {σ : L2.St} {F F' : Hp} (e : Ex F F') : ∀ {vs : List V} {as : List Val}, ValsRd M σ F vs as → ValsRd M σ F' vs as
  | _, _, .nil => .nil
  | _, _, .cons h r => .cons (h.mono e) (r.mono e)
def relA (M : Pm) : Rel (List V) (List Val) := fun σ _ F _ _ v a => ValsRd M σ F v a
def relB : Rel Bool Bool := fun _ _ _ _ _ x a => x = a
/-- the relation's start may lie further back -/
def Back {α β : Type} (rel : Rel β α) : Prop := ∀ σ H0 H1 F H own x a, (∀ b, H1 b = none → H0 b = none) → rel σ H1 F H own x a → rel σ H0 F H own x a
theorem New.back {H0 H1 F H : Hp} {own : Own} {o : Ow} (h : ∀ b, H1 b = none → H0 b = none) (n : New H1 F H own o) : New H0 F H own o := fun a ha => by
  obtain ⟨h1, h2, h3, h4⟩ := n a ha
  exact ⟨h1, h2, h3, h a h4⟩
theorem back_V (M : Pm) : Back (relV M) := fun σ H0 H1 F H own x a h r => by
  cases a with
  | f d => exact r
  | b i => exact r
  | n f =>
    obtain ⟨o, h1, h2⟩ := r
    exact ⟨o, h1, h2.back h⟩
  | nc c fds =>
    obtain ⟨a, o, h0, h1, h2⟩ := r
    exact ⟨a, o, h0, h1, h2.back h⟩
  | nb n d =>
    obtain ⟨a, o, h0, h1, h2⟩ := r
    exact ⟨a, o, h0, h1, h2.back h⟩
theorem back_D (M : Pm) : Back (relD M) := fun _ _ _ _ _ _ _ _ _ r => r
theorem back_A (M : Pm) : Back (relA M) := fun _ _ _ _ _ _ _ _ _ r => r
theorem back_B : Back relB := fun _ _ _ _ _ _ _ _ _ r => r
theorem Step.none {F H F' H' : Hp} {own own' : Own} (s : Step F H own F' H' own') : ∀ b, H' b = none → H b = none := fun b h => by
  cases q : H b with
  | none => rfl
  | some o => exact absurd h (s.al b (by rw [q]; simp))
section
variable {α β : Type} {rel : Rel β α} {M : Pm} {E : XK} {σ : L2.St} {F H F1 H1 : Hp} {own own1 : Own} {Q : β → Hp → Prop}
theorem PostG.mono (hb : Back rel) (s : Step F H own F1 H1 own1) : ∀ {r : R α}, PostG rel M E σ F H own Q r → PostG rel M E σ F1 H1 own1 Q r
  | .ok a Γ', h => fun x F' H' own' st s' v => h x F' H' own' st (s.trans s') (hb _ _ _ _ _ _ _ _ s.none v)
  | .err e Γ', h => fun F' H' own' dd w st s' h1 h2 h3 h4 h5 => h F' H' own' dd w st (s.trans s') h1 h2 h3 h4 (s.none _ h5)
  | .stuck, h => h
end
def tG {α β : Type} (rel : Rel β α) (M : Pm) (E : XK) (m : Gam → R α) : L2.St → Hp → (β → Hp → Prop) → Prop := fun σ H Q => ∃ Γ F own, StR M Γ σ F H own ∧ PostG rel M E σ F H own Q (m Γ)
abbrev tE (M : Pm) (E : XK) (m : Gam → R Val) : TE := tG (relV M) M E m
abbrev tD (M : Pm) (E : XK) (m : Gam → R Val) : TE := tG (relD M) M E m
abbrev tA (M : Pm) (E : XK) (m : Gam → R (List Val)) : TA := tG (relA M) M E m
abbrev tT (M : Pm) (E : XK) (m : Gam → R Bool) : TT := tG relB M E m
/-- what follows an evaluation -/
theorem post_bind {α β γ δ : Type} {rel : Rel β α} {rel' : Rel δ γ} {M : Pm} {E : XK} {r : R α} {k : α → Gam → R γ} {σ : L2.St} {F0 H0 : Hp} {own0 : Own} {Q : δ → Hp → Prop} {Q' : β → Hp → Prop}
    (p : PostG rel' M E σ F0 H0 own0 Q (r.bind k))
    (hk : ∀ F1 H1 own1 Γ1 x a, r = .ok a Γ1 → StR M Γ1 σ F1 H1 own1 → Step F0 H0 own0 F1 H1 own1 → rel σ H0 F1 H1 own1 x a → PostG rel' M E σ F0 H0 own0 Q (k a Γ1) → Q' x H1) : PostG rel M E σ F0 H0 own0 Q' r := by
  cases e : r with
  | ok a Γ1 =>
    simp only [e, R.bind_ok] at p
    exact fun x F1 H1 own1 st1 s1 v => hk F1 H1 own1 Γ1 x a e st1 s1 v p
  | err x Γ1 =>
    simp only [e, R.bind_err] at p
    exact p
  | stuck =>
    simp only [e, R.bind_stuck] at p
    exact p
/-- a further evaluation, from where one stands -/
theorem tG_go {α β : Type} {rel : Rel β α} {M : Pm} {E : XK} {m : Gam → R α} {σ : L2.St} {F H : Hp} {own : Own} {Γ : Gam} {Q : β → Hp → Prop} (st : StR M Γ σ F H own) (p : PostG rel M E σ F H own Q (m Γ)) : tG rel M E m σ H Q := ⟨Γ, F, own, st, p⟩
section
variable {X : Cx} {e : Expr} {es : List Expr}
theorem PE_weak {t t' : TE} (h : PE X e t) (w : ∀ σ H Q, t' σ H Q → t σ H Q) : PE X e t' := ⟨fun pins s σ H Q I q => h.run pins s σ H Q I (w σ H Q q)⟩
theorem PT_weak {t t' : TT} (h : PT X e t) (w : ∀ σ H Q, t' σ H Q → t σ H Q) : PT X e t' := ⟨fun pins s σ H Q I q => h.run pins s σ H Q I (w σ H Q q)⟩
theorem PW_weak {t t' : TT} (h : PW X e t) (w : ∀ σ H Q, t' σ H Q → t σ H Q) : PW X e t' := ⟨fun o pins s σ H Q I q => h.run o pins s σ H Q I (w σ H Q q)⟩
theorem PA_weak {t t' : TA} (h : PA X es t) (w : ∀ σ H Q, t' σ H Q → t σ H Q) : PA X es t' := ⟨fun pos pins s σ H Q I q => h.run pos pins s σ H Q I (w σ H Q q)⟩
end

/-! ### freezing -/
def fldD : Fld → D
  | .fz d => d
  | .ol ds => .list ds
  | .oK k => dicK k
  | .oT k => dicT k
def Frz (cls : Str → Addr) (F H : Hp) (o : Ow) (v : V) (d : D) : Prop := ∃ F', Ex F F' ∧ Ex F' H ∧ (∀ b, F b = none → ¬ o b → F' b = none) ∧ Rep cls F' v d
theorem frz1 {cls : Str → Addr} {F H : Hp} {o : Ow} {v : V} {d : D} {l : Addr} {u : HO} (fh : Ex F H) (hf : F l = none) (hl : H l = some u) (ho : ∀ a, o a ↔ a = l) (h : ∀ F', Ex F F' → F' l = some u → Rep cls F' v d) : Frz cls F H o v d := by
  refine ⟨upd F l u, .new hf, fun a w e => ?_, fun b h1 h2 => ?_, h _ (.new hf) upd_same⟩
  · by_cases q : a = l
    · subst q
      rw [upd_same] at e
      rw [hl]
      exact e
    · rw [upd_ne q] at e
      exact fh a w e
  · rw [upd_ne fun q => h2 ((ho b).mpr q)]
    exact h1
theorem fld_frz {M : Pm} {F H : Hp} {o : Ow} {v : V} (fh : Ex F H) (hf : ∀ b, o b → F b = none) : ∀ {f : Fld}, FldR M F H o v f → Frz M.cls F H o v (fldD f)
  | .fz d, ⟨h1, h2⟩ => ⟨F, .refl _, fh, fun _ h _ => h, h2⟩
  | .ol ds, ⟨l, vs, h1, h2, h3, h4⟩ => by
    subst h1
    exact frz1 fh (hf l ((h2 l).mpr rfl)) h3 h2 fun F' e h => .lst h (h4.mono e)
  | .oK ds, ⟨l, vs, h1, h2, h3, h4, h5⟩ => by
    subst h1
    exact frz1 fh (hf l ((h2 l).mpr rfl)) h3 h2 fun F' e h => .dcK h h4 (h5.mono e)
  | .oT ds, ⟨l, vs, h1, h2, h3, h4, h5⟩ => by
    subst h1
    exact frz1 fh (hf l ((h2 l).mpr rfl)) h3 h2 fun F' e h => .dcT h h4 (h5.mono e)
theorem cmp_frz {M : Pm} {F H : Hp} {o : Ow} {a : Addr} {c : Str} {fds : List (Str × D)} (fh : Ex F H) (hf : ∀ b, o b → F b = none) (h : CmpR M F H o a c fds) : Frz M.cls F H o (.ref a) (ins c fds) := by
  obtain ⟨dx, fs, h1, h2, h3, h4⟩ := h
  exact frz1 fh (hf a ((h2 a).mpr rfl)) h1 h2 fun F' e h => .ins h h3 (h4.mono e)
section
variable {M : Pm} {Γ : Gam} {σ : L2.St} {F0 H0 F H : Hp} {own0 own : Own}
/-- what is new is frozen -/
theorem StR.frzNew {o : Ow} {v : V} {d : D} (s : StR M Γ σ F H own) (st : Step F0 H0 own0 F H own) (n : New H0 F H own o) (z : Frz M.cls F H o v d) : ∃ F', StR M Γ σ F' H own ∧ Step F0 H0 own0 F' H own ∧ Ex F F' ∧ Rep M.cls F' v d := by
  obtain ⟨F', h1, h2, h3, h4⟩ := z
  refine ⟨F', ⟨s.len, h2, fun i x h => (s.slot i x h).mono h1 fun b u _ q => q, s.out, fun i a h => h3 a (s.free i a h) fun q => (n a q).2.2.1 i h, s.there, s.disj⟩, ⟨st.ff.trans h1, st.hh, fun a q1 q2 q3 => ?_, st.no, st.al⟩, h1, h4⟩
  by_cases q : o a
  · exact absurd (n a q).2.2.2 q2
  · exact h3 a (st.nf a q1 q2 q3) q
/-- a slot's object is frozen -/
theorem StR.frzSlot {i : Nat} {v : V} {d : D} (s : StR M Γ σ F H own) (hi : i < Γ.length) (hv : σ[i]? = some (some v)) (z : Frz M.cls F H (own i) v d) :
    ∃ F', StR M (Γ.set i (.val d)) σ F' H (putO own i fun _ => False) ∧ Step F H own F' H (putO own i fun _ => False) ∧ Ex F F' ∧ Rep M.cls F' v d := by
  obtain ⟨F', h1, h2, h3, h4⟩ := z
  have s1 : StR M (Γ.set i (.val d)) σ F' H (putO own i fun _ => False) := by
    refine ⟨by simp [s.len], h2, fun j x h => ?_, fun j hj a => ?_, fun j a hj => ?_, fun j a hj => ?_, fun j k a hj hk => ?_⟩
    · by_cases e : j = i
      · subst e
        rw [List.getElem?_set_self hi] at h
        cases h
        rw [putO_same]
        exact ⟨v, hv, fun _ q => q, h4⟩
      · rw [List.getElem?_set_ne (Ne.symm e)] at h
        rw [putO_ne e]
        exact (s.slot j x h).mono h1 fun b u _ q => q
    · rw [List.length_set] at hj
      rw [putO_ne (by omega)]
      exact s.out j hj a
    · by_cases e : j = i
      · subst e; rw [putO_same] at hj; exact hj.elim
      · rw [putO_ne e] at hj
        exact h3 a (s.free j a hj) fun q => e (s.disj j i a hj q)
    · by_cases e : j = i
      · subst e; rw [putO_same] at hj; exact hj.elim
      · rw [putO_ne e] at hj; exact s.there j a hj
    · by_cases e : j = i
      · subst e; rw [putO_same] at hj; exact hj.elim
      · by_cases e' : k = i
        · subst e'; rw [putO_same] at hk; exact hk.elim
        · rw [putO_ne e] at hj
          rw [putO_ne e'] at hk
          exact s.disj j k a hj hk
  refine ⟨F', s1, ⟨h1, fun a o h _ => h, fun a q1 q2 q3 => h3 a q1 (q3 i), fun j a hj => ?_, fun a h => h⟩, h1, h4⟩
  by_cases e : j = i
  · subst e; rw [putO_same] at hj; exact hj.elim
  · rw [putO_ne e] at hj; exact .inl ⟨j, hj⟩
end
/-- a slot's content as a datum, if it can be frozen -/
def slotD : Slot → Option D
  | .one f => some (fldD f)
  | .cmp c _ fds => some (ins c fds)
  | .box n _ d => frzT n d
  | _ => none
theorem slot_frz {M : Pm} {F H : Hp} {o : Ow} {ov : Option (Option V)} (fh : Ex F H) (hf : ∀ b, o b → F b = none) {s : Slot} {d : D} (h : SlotR M F H o ov s) (e : slotD s = some d) : ∃ v, ov = some (some v) ∧ Frz M.cls F H o v d := by
  cases s with
  | un => simp [slotD] at e
  | vw ds => simp [slotD] at e
  | one f =>
    obtain ⟨v, h1, h2⟩ := h
    simp only [slotD, Option.some.injEq] at e
    subst e
    exact ⟨v, h1, fld_frz fh hf h2⟩
  | cmp c pin fds =>
    obtain ⟨a, h1, _, h2⟩ := h
    simp only [slotD, Option.some.injEq] at e
    subst e
    exact ⟨_, h1, cmp_frz fh hf h2⟩
  | box n pin d0 =>
    obtain ⟨a, h1, _, h2⟩ := h
    exact ⟨_, h1, box_frz h2 fh hf e⟩
/-- a value that is new is frozen; one in a slot stays there -/
def rdV (Γ : Gam) : Val → R Val
  | .f d => .ok (.f d) Γ
  | .b i => .ok (.b i) Γ
  | .n f => .ok (.f (fldD f)) Γ
  | .nc c fds => .ok (.f (ins c fds)) Γ
  | .nb n d => match frzT n d with
    | some d' => .ok (.f d') Γ
    | none => .stuck
def rd (m : Gam → R Val) : Gam → R Val := fun Γ => (m Γ).bind fun v Γ1 => rdV Γ1 v
/-- any value as a datum: one in a slot is frozen for good -/
def fzV (Γ : Gam) : Val → R D
  | .f d => .ok d Γ
  | .b i => match Γ[i]? with
    | some s => match slotD s with
      | some d => .ok d (Γ.set i (.val d))
      | none => .stuck
    | none => .stuck
  | .n f => .ok (fldD f) Γ
  | .nc c fds => .ok (ins c fds) Γ
  | .nb n d => match frzT n d with
    | some d' => .ok d' Γ
    | none => .stuck
section
variable {M : Pm} {Γ Γ' : Gam} {σ : L2.St} {F0 H0 F H : Hp} {own0 own : Own} {v : V} {d : D}
theorem val_frz (s : StR M Γ σ F H own) (st : Step F0 H0 own0 F H own) : ∀ {a : Val}, ValR M σ H0 F H own v a → fzV Γ a = .ok d Γ' → ∃ F' own', StR M Γ' σ F' H own' ∧ Step F0 H0 own0 F' H own' ∧ Ex F F' ∧ Rep M.cls F' v d
  | .f d0, h, e => by
    cases e
    exact ⟨F, own, s, st, .refl _, h⟩
  | .b i, h, e => by
    simp only [fzV] at e
    split at e
    · rename_i x hx
      split at e
      · rename_i d0 hd
        cases e
        obtain ⟨w, hw, z⟩ := slot_frz s.fh (fun b hb => s.free i b hb) (s.slot i x hx) hd
        have h' : σ[i]? = some (some v) := h
        rw [h'] at hw
        cases hw
        obtain ⟨F', s1, s2, s3, s4⟩ := s.frzSlot (s.lt hx) h' z
        exact ⟨F', _, s1, st.trans s2, s3, s4⟩
      · cases e
    · cases e
  | .n f, ⟨o, h1, h2⟩, e => by
    cases e
    obtain ⟨F', s1, s2, s3, s4⟩ := s.frzNew st h2 (fld_frz s.fh (fun b hb => (h2 b hb).1) h1)
    exact ⟨F', own, s1, s2, s3, s4⟩
  | .nc c fds, ⟨a, o, h0, h1, h2⟩, e => by
    cases e
    subst h0
    obtain ⟨F', s1, s2, s3, s4⟩ := s.frzNew st h2 (cmp_frz s.fh (fun b hb => (h2 b hb).1) h1)
    exact ⟨F', own, s1, s2, s3, s4⟩
  | .nb n d0, ⟨a, o, h0, h1, h2⟩, e => by
    simp only [fzV] at e
    split at e
    · rename_i d1 hd
      cases e
      subst h0
      obtain ⟨F', s1, s2, s3, s4⟩ := s.frzNew st h2 (box_frz h1 s.fh (fun b hb => (h2 b hb).1) hd)
      exact ⟨F', own, s1, s2, s3, s4⟩
    · cases e
theorem val_rd (s : StR M Γ σ F H own) (st : Step F0 H0 own0 F H own) {a a' : Val} (h : ValR M σ H0 F H own v a) (e : rdV Γ a = .ok a' Γ') : Γ' = Γ ∧ ∃ F', StR M Γ σ F' H own ∧ Step F0 H0 own0 F' H own ∧ Ex F F' ∧ ValRd M σ F' v a' := by
  cases a with
  | f d0 =>
    cases e
    exact ⟨rfl, F, s, st, .refl _, h⟩
  | b i =>
    cases e
    exact ⟨rfl, F, s, st, .refl _, h⟩
  | n f =>
    cases e
    obtain ⟨o, h1, h2⟩ := h
    obtain ⟨F', s1, s2, s3, s4⟩ := s.frzNew st h2 (fld_frz s.fh (fun b hb => (h2 b hb).1) h1)
    exact ⟨rfl, F', s1, s2, s3, s4⟩
  | nc c fds =>
    cases e
    obtain ⟨a, o, h0, h1, h2⟩ := h
    subst h0
    obtain ⟨F', s1, s2, s3, s4⟩ := s.frzNew st h2 (cmp_frz s.fh (fun b hb => (h2 b hb).1) h1)
    exact ⟨rfl, F', s1, s2, s3, s4⟩
  | nb n d0 =>
    unfold rdV at e
    simp only at e
    split at e
    · rename_i d1 hd
      cases e
      obtain ⟨a, o, h0, h1, h2⟩ := h
      subst h0
      obtain ⟨F', s1, s2, s3, s4⟩ := s.frzNew st h2 (box_frz h1 s.fh (fun b hb => (h2 b hb).1) hd)
      exact ⟨rfl, F', s1, s2, s3, s4⟩
    · cases e
end
section
variable {X : Cx} {M : Pm} {E : XK} {e a b : Expr} {es : List Expr} {m ma mb : Gam → R Val} {ms : Gam → R (List Val)} {pos : Pos}
/-- an operand -/
theorem pe_rd (h : PE X e (tE M E m)) : PE X e (tD M E (rd m)) := PE_weak h fun σ H Q q => by
  obtain ⟨Γ, F, own, st, p⟩ := q
  refine ⟨Γ, F, own, st, post_bind p fun F1 H1 own1 Γ1 x v _ st s r p => ?_⟩
  cases e : rdV Γ1 v with
  | ok v' Γ2 =>
    obtain ⟨rfl, F', s1, s2, s3, s4⟩ := val_rd st s r e
    rw [e] at p
    exact p x F' H1 own1 s1 s2 s4
  | err x' Γ2 =>
    cases v <;> simp [rdV] at e
    split at e <;> cases e
  | stuck =>
    rw [e] at p
    exact p.elim
def constM (d : D) : Gam → R Val := fun Γ => .ok (.f d) Γ
def varM (i : Nat) : Gam → R Val := fun Γ => match Γ[i]? with
  | some (.one (.fz d)) => .ok (.f d) Γ
  | some .un => .stuck
  | some _ => .ok (.b i) Γ
  | none => .stuck
theorem e_const {v : V} {d : D} (h : PE X e (tC v)) (r : ∀ F, Rep M.cls F v d) : PE X e (tE M E (constM d)) := PE_weak h fun σ H Q q => by
  obtain ⟨Γ, F, own, st, p⟩ := q
  exact p v F H own st (.refl _ _ _) (r F)
theorem e_var {i : Nat} (h : PE X e (tVar i)) : PE X e (tE M E (varM i)) := PE_weak h fun σ H Q q => by
  obtain ⟨Γ, F, own, st, p⟩ := q
  unfold varM at p
  cases hx : Γ[i]? with
  | none =>
    rw [hx] at p
    exact p.elim
  | some s =>
    have hs := st.slot i s hx
    rw [hx] at p
    cases s with
    | un => exact p.elim
    | one f =>
      obtain ⟨v, hv, hr⟩ := hs
      cases f with
      | fz d => exact ⟨v, hv, p v F H own st (.refl _ _ _) hr.2⟩
      | ol ds => exact ⟨v, hv, p v F H own st (.refl _ _ _) hv⟩
      | oK ds => exact ⟨v, hv, p v F H own st (.refl _ _ _) hv⟩
      | oT ds => exact ⟨v, hv, p v F H own st (.refl _ _ _) hv⟩
    | cmp c pin fds =>
      obtain ⟨a, hv, _⟩ := hs
      exact ⟨_, hv, p _ F H own st (.refl _ _ _) hv⟩
    | box n pin d =>
      obtain ⟨a, hv, _⟩ := hs
      exact ⟨_, hv, p _ F H own st (.refl _ _ _) hv⟩
    | vw ds =>
      obtain ⟨_, l, vs, hv, _⟩ := hs
      exact ⟨_, hv, p _ F H own st (.refl _ _ _) hv⟩
/-! ### two operands -/
def OpS (M : Pm) (r : R2) (f : Gam → Val → Val → R Val) : Prop := ∀ E Γ σ F0 H0 own0 F H own x y a b Q, StR M Γ σ F H own → Step F0 H0 own0 F H own → ValRd M σ F x a → ValRd M σ F y b →
  PostG (relV M) M E σ F0 H0 own0 Q (f Γ a b) → r x y H Q
def bin (f : Gam → Val → Val → R Val) (ma mb : Gam → R Val) : Gam → R Val := fun Γ => (rd ma Γ).bind fun va Γ1 => (rd mb Γ1).bind fun vb Γ2 => f Γ2 va vb
theorem tE_bin {f : Gam → Val → Val → R Val} {r : R2} (hs : OpS M r f) {σ : L2.St} {H : Hp} {Q : VK} (h : tE M E (bin f ma mb) σ H Q) : tD M E (rd ma) σ H fun x H1 => tD M E (rd mb) σ H1 fun y H2 => r x y H2 Q := by
  obtain ⟨Γ, F, own, st, p⟩ := h
  refine ⟨Γ, F, own, st, post_bind p fun F1 H1 own1 Γ1 x va _ st1 s1 r1 p1 => ⟨Γ1, F1, own1, st1, post_bind (p1.mono (back_V M) s1) fun F2 H2 own2 Γ2 y vb _ st2 s2 r2 p2 => ?_⟩⟩
  exact hs E Γ2 σ F1 H1 own1 F2 H2 own2 x y va vb Q st2 s2 (ValRd.mono s2.ff r1) r2 p2
theorem e_bin {op : Operator} {r : R2} {f : Gam → Val → Val → R Val} (ho : OpR X (binaryOp op) r) (hs : OpS M r f) (ha : PE X a (tE M E ma)) (hb : PE X b (tE M E mb)) : PE X (.BinOp a op b pos) (tE M E (bin f ma mb)) :=
  PE_weak (pe_op ho (pe_rd ha) (pe_rd hb)) fun _ _ _ q => tE_bin hs q
theorem e_cmp {op : CmpOp} {r : R2} {f : Gam → Val → Val → R Val} (ho : OpR X (compareOp op) r) (hs : OpS M r f) (ha : PE X a (tE M E ma)) (hb : PE X b (tE M E mb)) (hm : behindInMarks op b = false) : PE X (.Compare a [op] [b] pos) (tE M E (bin f ma mb)) :=
  PE_weak (pe_cmpR ho (pe_rd ha) (pe_rd hb) hm) fun _ _ _ q => tE_bin hs q
end
end DL
end

section
set_option Elab.async false
set_option linter.all false
set_option maxRecDepth 100000
set_option maxHeartbeats 1000000
/-! DL3: views, operators. -/
namespace DL
open PySem PySem.Spec PyProof.Rows L2

/-! ### dicts as data, read back -/
theorem keyOf_keyD : ∀ k : Key, keyOf (keyD k) = some k
  | .inl i => rfl
  | .inr s => rfl
theorem keyD_inj {a b : Key} (h : keyD a = keyD b) : a = b := by
  have := keyOf_keyD a
  rw [h, keyOf_keyD] at this
  exact (Option.some.inj this).symm
theorem keysOf_map : ∀ ks : List Key, keysOf (ks.map keyD) = some ks
  | [] => rfl
  | k :: ks => by simp [keysOf, keyOf_keyD, keysOf_map ks]
def keyTOf : D → Option (List Key)
  | .tuple ds => keysOf ds
  | _ => none
theorem keyTOf_keyT (ks : List Key) : keyTOf (keyT ks) = some ks := keysOf_map ks
theorem keyOf_some {d : D} {k : Key} (h : keyOf d = some k) : d = keyD k := by
  cases d <;> simp [keyOf] at h <;> subst h <;> rfl
theorem keysOf_some : ∀ {ds : List D} {ks : List Key}, keysOf ds = some ks → ds = ks.map keyD
  | [], _, h => by
    simp [keysOf] at h
    subst h
    rfl
  | d :: r, ks, h => by
    simp only [keysOf] at h
    split at h
    · rename_i k ks' h1 h2
      cases h
      rw [keyOf_some h1, keysOf_some h2]
      rfl
    · cases h
theorem keyTOf_some {d : D} {ks : List Key} (h : keyTOf d = some ks) : d = keyT ks := by
  cases d <;> simp [keyTOf] at h
  rw [keysOf_some h]
  rfl
def prsK : List (D × D) → Option (List (Key × D))
  | [] => some []
  | p :: r => match keyOf p.1, prsK r with
    | some k, some ks => some ((k, p.2) :: ks)
    | _, _ => none
def prsT : List (D × D) → Option (List (List Key × D))
  | [] => some []
  | p :: r => match keyTOf p.1, prsT r with
    | some k, some ks => some ((k, p.2) :: ks)
    | _, _ => none
theorem prsK_map : ∀ kds : List (Key × D), prsK (kds.map fun p => (keyD p.1, p.2)) = some kds
  | [] => rfl
  | k :: ks => by simp [prsK, keyOf_keyD, prsK_map ks]
theorem prsT_map : ∀ kds : List (List Key × D), prsT (kds.map fun p => (keyT p.1, p.2)) = some kds
  | [] => rfl
  | k :: ks => by simp [prsT, keyTOf_keyT, prsT_map ks]
theorem prsK_some : ∀ {r : List (D × D)} {kds : List (Key × D)}, prsK r = some kds → r = kds.map fun p => (keyD p.1, p.2)
  | [], _, h => by
    simp [prsK] at h
    subst h
    rfl
  | p :: r, ks, h => by
    simp only [prsK] at h
    split at h
    · rename_i k ks' h1 h2
      cases h
      rw [prsK_some h2, List.map_cons, ← keyOf_some h1]
    · cases h
theorem prsT_some : ∀ {r : List (D × D)} {kds : List (List Key × D)}, prsT r = some kds → r = kds.map fun p => (keyT p.1, p.2)
  | [], _, h => by
    simp [prsT] at h
    subst h
    rfl
  | p :: r, ks, h => by
    simp only [prsT] at h
    split at h
    · rename_i k ks' h1 h2
      cases h
      rw [prsT_some h2, List.map_cons, ← keyTOf_some h1]
    · cases h
def decK : D → Option (List (Key × D))
  | .dict ((.none, .int 0) :: r) => prsK r
  | .dict ((.none, .int 3) :: r) => prsK r
  | _ => none
def decT : D → Option (List (List Key × D))
  | .dict ((.none, .int 1) :: r) => prsT r
  | .dict ((.none, .int 4) :: r) => prsT r
  | _ => none
@[simp] theorem decK_dicK (kds : List (Key × D)) : decK (dicK kds) = some kds := prsK_map kds
@[simp] theorem decT_dicT (kds : List (List Key × D)) : decT (dicT kds) = some kds := prsT_map kds
@[simp] theorem decT_dicG (kds : List (List Key × D)) : decT (dicG kds) = some kds := prsT_map kds
@[simp] theorem decK_dicF (kds : List (Key × D)) : decK (dicF kds) = some kds := prsK_map kds
theorem decK_some {d : D} {kds : List (Key × D)} (h : decK d = some kds) : d = dicK kds ∨ d = dicF kds := by
  unfold decK at h
  split at h
  · rw [prsK_some h]
    exact .inl rfl
  · rw [prsK_some h]
    exact .inr rfl
  · cases h
theorem decT_some {d : D} {kds : List (List Key × D)} (h : decT d = some kds) : d = dicT kds ∨ d = dicG kds := by
  unfold decT at h
  split at h
  · rw [prsT_some h]
    exact .inl rfl
  · rw [prsT_some h]
    exact .inr rfl
  · cases h
section
variable {M : Str → Addr} {F : Hp} {v : V}
theorem Rep.invK {kds : List (Key × D)} (h : Rep M F v (dicK kds)) : ∃ a kvs, v = .ref a ∧ F a = some (.dK kvs) ∧ kvs.map (·.1) = kds.map (·.1) ∧ RepAll M F (kvs.map (·.2)) (kds.map (·.2)) := by
  generalize e : dicK kds = d at h
  cases h with
  | dcK h1 h2 h3 =>
    rename_i a kvs kds'
    have := congrArg decK e
    rw [decK_dicK, decK_dicK] at this
    cases this
    exact ⟨_, _, rfl, h1, h2, h3⟩
  | dcT h1 h2 h3 => simp [dicK, dicT] at e
  | ins h1 h2 h3 => simp [dicK, DL.ins] at e
  | kn h1 h2 h3 h4 => simp [dicK, knD] at e
  | dcF h1 h2 h3 => simp [dicK, dicF] at e
  | dcG h1 h2 h3 h4 => simp [dicK, dicG] at e
  | exn h1 h2 h3 => simp [dicK, exnD] at e
  | _ => simp [dicK] at e
theorem Rep.invT {kds : List (List Key × D)} (h : Rep M F v (dicT kds)) : ∃ a kvs, v = .ref a ∧ F a = some (.dT kvs) ∧ kvs.map (·.1) = kds.map (·.1) ∧ RepAll M F (kvs.map (·.2)) (kds.map (·.2)) := by
  generalize e : dicT kds = d at h
  cases h with
  | dcK h1 h2 h3 => simp [dicK, dicT] at e
  | dcT h1 h2 h3 =>
    have := congrArg decT e
    rw [decT_dicT, decT_dicT] at this
    cases this
    exact ⟨_, _, rfl, h1, h2, h3⟩
  | ins h1 h2 h3 => simp [dicT, DL.ins] at e
  | kn h1 h2 h3 h4 => simp [dicT, knD] at e
  | dcF h1 h2 h3 => simp [dicT, dicF] at e
  | dcG h1 h2 h3 h4 => simp [dicT, dicG] at e
  | exn h1 h2 h3 => simp [dicT, exnD] at e
  | _ => simp [dicT] at e
theorem map_pair_inj {fds fds' : List (Str × D)} (e : fds.map (fun p => ((PyData.str p.1 : D), p.2)) = fds'.map (fun p => ((PyData.str p.1 : D), p.2))) : fds = fds' := by
  induction fds generalizing fds' with
  | nil => cases fds' with
    | nil => rfl
    | cons a b => simp at e
  | cons p r ih => cases fds' with
    | nil => simp at e
    | cons a b =>
      simp at e
      obtain ⟨⟨e1, e2⟩, e3⟩ := e
      have : r = b := ih (by simpa using e3)
      rw [this]
      congr 1
      exact Prod.ext e1 e2
theorem Rep.invI {c : Str} {fds : List (Str × D)} (h : Rep M F v (DL.ins c fds)) : ∃ a dx fs, v = .ref a ∧ F a = some (.ins (M c) dx fs) ∧ fs.map (·.1) = fds.map (·.1) ∧ RepAll M F (fs.map (·.2)) (fds.map (·.2)) := by
  generalize e : DL.ins c fds = d at h
  cases h with
  | dcK h1 h2 h3 => simp [dicK, DL.ins] at e
  | dcT h1 h2 h3 => simp [dicT, DL.ins] at e
  | ins h1 h2 h3 =>
    simp only [DL.ins, PyData.dict.injEq, List.cons.injEq, Prod.mk.injEq, PyData.str.injEq, true_and] at e
    obtain ⟨rfl, e⟩ := e
    have := map_pair_inj e
    subst this
    exact ⟨_, _, _, rfl, h1, h2, h3⟩
  | kn h1 h2 h3 h4 => simp [DL.ins, knD] at e
  | dcF h1 h2 h3 => simp [DL.ins, dicF] at e
  | dcG h1 h2 h3 h4 => simp [DL.ins, dicG] at e
  | exn h1 h2 h3 => simp [DL.ins, exnD] at e
  | _ => simp [DL.ins] at e
theorem Rep.invF {kds : List (Key × D)} (h : Rep M F v (dicF kds)) : ∃ a o kvs, v = .ref a ∧ F a = some (.frz o (.dK kvs)) ∧ kvs.map (·.1) = kds.map (·.1) ∧ RepAll M F (kvs.map (·.2)) (kds.map (·.2)) := by
  generalize e : dicF kds = d at h
  cases h with
  | dcF h1 h2 h3 =>
    have := congrArg decK e
    rw [decK_dicF, decK_dicF] at this
    cases this
    exact ⟨_, _, _, rfl, h1, h2, h3⟩
  | dcK h1 h2 h3 => simp [dicK, dicF] at e
  | dcT h1 h2 h3 => simp [dicT, dicF] at e
  | ins h1 h2 h3 => simp [dicF, DL.ins] at e
  | kn h1 h2 h3 h4 => simp [dicF, knD] at e
  | dcG h1 h2 h3 h4 => simp [dicF, dicG] at e
  | exn h1 h2 h3 => simp [dicF, exnD] at e
  | _ => simp [dicF] at e
theorem Rep.invG {kds : List (List Key × D)} (h : Rep M F v (dicG kds)) : ∃ a o kvs, v = .ref a ∧ F a = some (.frz o (.dT kvs)) ∧ KIn F o ∧ kvs.map (·.1) = kds.map (·.1) ∧ RepAll M F (kvs.map (·.2)) (kds.map (·.2)) := by
  generalize e : dicG kds = d at h
  cases h with
  | dcG h1 h2 h3 h4 =>
    have := congrArg decT e
    rw [decT_dicG, decT_dicG] at this
    cases this
    exact ⟨_, _, _, rfl, h1, h2, h3, h4⟩
  | dcF h1 h2 h3 => simp [dicF, dicG] at e
  | dcK h1 h2 h3 => simp [dicK, dicG] at e
  | dcT h1 h2 h3 => simp [dicT, dicG] at e
  | ins h1 h2 h3 => simp [dicG, DL.ins] at e
  | kn h1 h2 h3 h4 => simp [dicG, knD] at e
  | exn h1 h2 h3 => simp [dicG, exnD] at e
  | _ => simp [dicG] at e
theorem Rep.invKF {d : D} {kds : List (Key × D)} (h : Rep M F v d) (e : decK d = some kds) : ∃ a kvs, v = .ref a ∧ Rd F a (.dK kvs) ∧ kvs.map (·.1) = kds.map (·.1) ∧ RepAll M F (kvs.map (·.2)) (kds.map (·.2)) := by
  rcases decK_some e with rfl | rfl
  · obtain ⟨a, kvs, h1, h2, h3⟩ := Rep.invK h
    exact ⟨a, kvs, h1, .inl h2, h3⟩
  · obtain ⟨a, o, kvs, h1, h2, h3⟩ := Rep.invF h
    exact ⟨a, kvs, h1, .inr ⟨o, h2⟩, h3⟩
theorem Rep.invL {ds : List D} (h : Rep M F v (.list ds)) : ∃ a vs, v = .ref a ∧ F a = some (.lst vs) ∧ RepAll M F vs ds := by
  cases h with
  | lst h1 h2 => exact ⟨_, _, rfl, h1, h2⟩
theorem Rep.invU {ds : List D} (h : Rep M F v (.tuple ds)) : ∃ a vs, v = .ref a ∧ Rd F a (.tup vs) ∧ RepAll M F vs ds := by
  cases h with
  | tup h1 h2 => exact ⟨_, _, rfl, .inl h1, h2⟩
  | tupF h1 _ h2 => exact ⟨_, _, rfl, .inr ⟨_, h1⟩, h2⟩
theorem rd_up {F H : Hp} {a : Addr} {u : HO} (e : Ex F H) (h : Rd F a u) : Rd H a u := by
  rcases h with h | ⟨o, h⟩
  · exact .inl (e _ _ h)
  · exact .inr ⟨o, e _ _ h⟩
theorem Rep.invTG {d : D} {kds : List (List Key × D)} (h : Rep M F v d) (e : decT d = some kds) : ∃ a kvs, v = .ref a ∧ Rd F a (.dT kvs) ∧ kvs.map (·.1) = kds.map (·.1) ∧ RepAll M F (kvs.map (·.2)) (kds.map (·.2)) := by
  rcases decT_some e with rfl | rfl
  · obtain ⟨a, kvs, h1, h2, h3⟩ := Rep.invT h
    exact ⟨a, kvs, h1, .inl h2, h3⟩
  · obtain ⟨a, o, kvs, h1, h2, _, h3⟩ := Rep.invG h
    exact ⟨a, kvs, h1, .inr ⟨o, h2⟩, h3⟩
theorem RepAll.strs_inv : ∀ {ks : List Key} {vs : List V}, RepAll M F vs (ks.map keyD) → vs = ks.map kV
  | [], _, .nil => rfl
  | k :: ks, _, .cons h r => by
    rw [RepAll.strs_inv r]
    cases k with
    | inl i =>
      have h' : Rep M F _ (.int i) := h
      cases h'
      rfl
    | inr s =>
      have h' : Rep M F _ (.str s) := h
      cases h'
      rfl
theorem RepAll.ints_inv : ∀ {ns : List Int} {vs : List V}, RepAll M F vs (ns.map PyData.int) → vs = ns.map V.int
  | [], _, .nil => rfl
  | k :: ks, _, .cons h r => by
    rw [RepAll.ints_inv r]
    cases h
    rfl
end

/-! ### views -/
def viewD (Γ : Gam) : Val → Option D
  | .f d => some d
  | .b i => match Γ[i]? with
    | some (.one (.fz d)) => some d
    | some (.one (.ol ds)) => some (.list ds)
    | some (.vw ds) => some (.list ds)
    | _ => none
  | _ => none
/-- a list that is tracked -/
def viewL (Γ : Gam) : Val → Option (List D)
  | .f (.list ds) => some ds
  | .b i => match Γ[i]? with
    | some (.one (.fz (.list ds))) => some ds
    | some (.one (.ol ds)) => some ds
    | _ => none
  | _ => none
def viewK (Γ : Gam) : Val → Option (List (Key × D))
  | .f d => decK d
  | .b i => match Γ[i]? with
    | some (.one (.fz d)) => decK d
    | some (.one (.oK ds)) => some ds
    | _ => none
  | _ => none
def viewT (Γ : Gam) : Val → Option (List (List Key × D))
  | .f d => decT d
  | .b i => match Γ[i]? with
    | some (.one (.fz d)) => decT d
    | some (.one (.oT ds)) => some ds
    | _ => none
  | _ => none
section
variable {M : Pm} {Γ : Gam} {σ : L2.St} {F H : Hp} {own : Own} {x : V} {a : Val} {d : D}
theorem RepAll.dpH {cls : Str → Addr} {K : PySem.W.Frag} {F H : Hp} (e : Ex F H) {vs : List V} {ds : List D} (r : RepAll cls F vs ds) (p : PyData.plainAll ds = true) : DpAll K H vs ds := (RepAll.mono e r).dp p
theorem slotAt (s : StR M Γ σ F H own) {i : Nat} {v : V} {sl : Slot} (hv : σ[i]? = some (some v)) (h : Γ[i]? = some sl) : SlotR M F H (own i) (some (some v)) sl := by
  have := s.slot i sl h
  rw [hv] at this
  exact this
theorem view_dp (s : StR M Γ σ F H own) (h : ValRd M σ F x a) (e : viewD Γ a = some d) (p : d.plain = true) : Dp M.K H x d := by
  cases a with
  | f d0 =>
    simp only [viewD, Option.some.injEq] at e
    subst e
    exact (Rep.mono s.fh h).dp p
  | b i =>
    simp only [viewD] at e
    split at e
    · rename_i d0 hd
      cases e
      obtain ⟨v, h1, _, h2⟩ := slotAt s h hd
      cases h1
      exact (Rep.mono s.fh h2).dp p
    · rename_i ds hd
      cases e
      obtain ⟨v, h1, l, vs, h2, _, h3, h4⟩ := slotAt s h hd
      cases h1
      subst h2
      exact .lst (.of h3) (RepAll.dpH s.fh h4 (by simpa [PyData.plain] using p))
    · rename_i ds hd
      cases e
      obtain ⟨_, l, vs, h2, h3, h4⟩ := slotAt s h hd
      cases h2
      exact .lst (sqL_ex s.fh h3) (RepAll.dpH s.fh h4 (by simpa [PyData.plain] using p))
    · cases e
  | _ => cases e
theorem view_list {ds : List D} (s : StR M Γ σ F H own) (h : ValRd M σ F x a) (e : viewD Γ a = some (.list ds)) : ∃ l vs, x = .ref l ∧ SqL M.K H l vs ∧ RepAll M.cls F vs ds := by
  cases a with
  | f d0 =>
    simp only [viewD, Option.some.injEq] at e
    subst e
    obtain ⟨l, vs, h1, h2, h3⟩ := Rep.invL h
    exact ⟨l, vs, h1, .of (s.fh _ _ h2), h3⟩
  | b i =>
    simp only [viewD] at e
    split at e
    · rename_i d0 hd
      cases e
      obtain ⟨v, h1, _, h2⟩ := slotAt s h hd
      cases h1
      obtain ⟨l, vs, h1, h2, h3⟩ := Rep.invL h2
      exact ⟨l, vs, h1, .of (s.fh _ _ h2), h3⟩
    · rename_i ds hd
      cases e
      obtain ⟨v, h1, l, vs, h2, _, h3, h4⟩ := slotAt s h hd
      cases h1
      subst h2
      exact ⟨l, vs, rfl, .of h3, h4⟩
    · rename_i ds hd
      cases e
      obtain ⟨_, l, vs, h2, h3, h4⟩ := slotAt s h hd
      cases h2
      exact ⟨l, vs, rfl, sqL_ex s.fh h3, h4⟩
    · cases e
  | _ => cases e
theorem view_tup {ds : List D} (s : StR M Γ σ F H own) (h : ValRd M σ F x a) (e : viewD Γ a = some (.tuple ds)) : ∃ l vs, x = .ref l ∧ (Rep M.cls F (.ref l) (.tuple ds) ∧ Rd F l (.tup vs)) ∧ SqT M.K H l vs ∧ RepAll M.cls F vs ds := by
  cases a with
  | f d0 =>
    simp only [viewD, Option.some.injEq] at e
    subst e
    obtain ⟨l, vs, h1, h2, h3⟩ := Rep.invU h
    subst h1
    exact ⟨l, vs, rfl, ⟨h, h2⟩, .inl (rd_up s.fh h2), h3⟩
  | b i =>
    simp only [viewD] at e
    split at e
    · rename_i d0 hd
      cases e
      obtain ⟨v, h1, _, h2⟩ := slotAt s h hd
      cases h1
      obtain ⟨l, vs, h1, h4, h3⟩ := Rep.invU h2
      subst h1
      exact ⟨l, vs, rfl, ⟨h2, h4⟩, .inl (rd_up s.fh h4), h3⟩
    · cases e
    · cases e
    · cases e
  | _ => cases e
theorem view_L {ds : List D} (s : StR M Γ σ F H own) (h : ValRd M σ F x a) (e : viewL Γ a = some ds) : ∃ l vs, x = .ref l ∧ H l = some (.lst vs) ∧ RepAll M.cls F vs ds := by
  unfold viewL at e
  split at e
  · cases e
    obtain ⟨l, vs, h1, h2, h3⟩ := Rep.invL h
    exact ⟨l, vs, h1, s.fh _ _ h2, h3⟩
  · split at e
    · rename_i ds0 hd
      cases e
      obtain ⟨v, h1, _, h2⟩ := slotAt s h hd
      cases h1
      obtain ⟨l, vs, h1, h2, h3⟩ := Rep.invL h2
      exact ⟨l, vs, h1, s.fh _ _ h2, h3⟩
    · rename_i ds0 hd
      cases e
      obtain ⟨v, h1, l, vs, h2, _, h3, h4⟩ := slotAt s h hd
      cases h1
      exact ⟨l, vs, h2, h3, h4⟩
    · cases e
  · cases e
theorem view_K {ds : List (Key × D)} (s : StR M Γ σ F H own) (h : ValRd M σ F x a) (e : viewK Γ a = some ds) : ∃ l kvs, x = .ref l ∧ Rd H l (.dK kvs) ∧ kvs.map (·.1) = ds.map (·.1) ∧ RepAll M.cls F (kvs.map (·.2)) (ds.map (·.2)) := by
  unfold viewK at e
  split at e
  · obtain ⟨l, vs, h1, h2, h3⟩ := Rep.invKF h e
    exact ⟨l, vs, h1, rd_up s.fh h2, h3⟩
  · split at e
    · rename_i ds0 hd
      obtain ⟨v, h1, _, h2⟩ := slotAt s h hd
      cases h1
      obtain ⟨l, vs, h1, h2, h3⟩ := Rep.invKF h2 e
      exact ⟨l, vs, h1, rd_up s.fh h2, h3⟩
    · rename_i ds0 hd
      cases e
      obtain ⟨v, h1, l, vs, h2, _, h3, h4⟩ := slotAt s h hd
      cases h1
      exact ⟨l, vs, h2, .inl h3, h4⟩
    · cases e
  · cases e
theorem view_T {ds : List (List Key × D)} (s : StR M Γ σ F H own) (h : ValRd M σ F x a) (e : viewT Γ a = some ds) : ∃ l kvs, x = .ref l ∧ Rd H l (.dT kvs) ∧ kvs.map (·.1) = ds.map (·.1) ∧ RepAll M.cls F (kvs.map (·.2)) (ds.map (·.2)) := by
  unfold viewT at e
  split at e
  · obtain ⟨l, vs, h1, h2, h3⟩ := Rep.invTG h e
    exact ⟨l, vs, h1, rd_up s.fh h2, h3⟩
  · split at e
    · rename_i ds0 hd
      obtain ⟨v, h1, _, h2⟩ := slotAt s h hd
      cases h1
      obtain ⟨l, vs, h1, h2, h3⟩ := Rep.invTG h2 e
      exact ⟨l, vs, h1, rd_up s.fh h2, h3⟩
    · rename_i ds0 hd
      cases e
      obtain ⟨v, h1, l, vs, h2, _, h3, h4⟩ := slotAt s h hd
      cases h1
      exact ⟨l, vs, h2, .inl h3, h4⟩
    · cases e
  · cases e
/-! ### what an operator hands back -/
variable {F0 H0 : Hp} {own0 : Own} {E : XK} {Q : VK} {v : V}
theorem post_now (s : StR M Γ σ F H own) (st : Step F0 H0 own0 F H own) (p : PostG (relV M) M E σ F0 H0 own0 Q (.ok (.f d) Γ)) (r : Rep M.cls F v d) : Q v H := p v F H own s st r
theorem post_newO {o : HO} {f : Fld} {q : Addr} (s : StR M Γ σ F H own) (st : Step F0 H0 own0 F H own) (p : PostG (relV M) M E σ F0 H0 own0 Q (.ok (.n f) Γ)) (hq : H q = none)
    (h : FldR M F (upd H q o) (fun a => a = q) (.ref q) f) : Q (.ref q) (upd H q o) := by
  have g : Grow F H F (upd H q o) := .lay s.fh hq
  refine p _ F _ own (s.grow g) (st.trans (g.step own)) ⟨_, h, fun a ha => ?_⟩
  subst ha
  refine ⟨s.fh.back hq, by rw [upd_same]; simp, fun i hi => s.there i _ hi hq, ?_⟩
  cases e : H0 a with
  | none => rfl
  | some u => exact absurd hq (st.al a (by rw [e]; simp))
theorem post_newL {vs : List V} {ds : List D} {q : Addr} (s : StR M Γ σ F H own) (st : Step F0 H0 own0 F H own) (p : PostG (relV M) M E σ F0 H0 own0 Q (.ok (.n (.ol ds)) Γ)) (hq : H q = none) (r : RepAll M.cls F vs ds) : Q (.ref q) (upd H q (.lst vs)) :=
  post_newO s st p hq ⟨q, vs, rfl, fun _ => .rfl, upd_same, r⟩
theorem post_newU {vs : List V} {ds : List D} {q : Addr} (s : StR M Γ σ F H own) (st : Step F0 H0 own0 F H own) (p : PostG (relV M) M E σ F0 H0 own0 Q (.ok (.f (.tuple ds)) Γ)) (hq : H q = none) (r : RepAll M.cls F vs ds) : Q (.ref q) (upd H q (.tup vs)) := by
  have g : Grow F H (upd F q (.tup vs)) (upd H q (.tup vs)) := .new s.fh hq
  exact p _ _ _ own (s.grow g) (st.trans (g.step own)) (.tup upd_same (RepAll.mono g.ff r))
end

/-! ### operators on ints -/
def intF (C : Int → Int → Bool) (g : Int → Int → D) (Γ : Gam) (a b : Val) : R Val := match a, b with
  | .f (.int i), .f (.int j) => if C i j = true then .ok (.f (g i j)) Γ else .stuck
  | _, _ => .stuck
@[simp] theorem intF_ii {C : Int → Int → Bool} {g : Int → Int → D} {Γ : Gam} {i j : Int} : intF C g Γ (.f (.int i)) (.f (.int j)) = if C i j = true then .ok (.f (g i j)) Γ else .stuck := rfl
def yes2 : Int → Int → Bool := fun _ _ => true
@[simp] theorem yes2_eq (i j : Int) : yes2 i j = true := rfl
def dV : D → V
  | .bool b => .bl b
  | .int i => .int i
  | .str x => .str x
  | _ => .non
section
variable {M : Pm}
theorem intF_inv {C : Int → Int → Bool} {g : Int → Int → D} {Γ : Gam} {a b : Val} {r : R Val} (h : intF C g Γ a b = r) (n : r ≠ .stuck) : ∃ i j, a = .f (.int i) ∧ b = .f (.int j) ∧ C i j = true ∧ r = .ok (.f (g i j)) Γ := by
  unfold intF at h
  split at h
  · rename_i i j
    by_cases c : C i j = true
    · rw [if_pos c] at h
      exact ⟨i, j, rfl, rfl, c, h.symm⟩
    · rw [if_neg c] at h
      exact absurd h.symm n
  · exact absurd h.symm n
theorem post_ns {E : XK} {σ : L2.St} {F H : Hp} {own : Own} {α β : Type} {rel : Rel β α} {Q : β → Hp → Prop} {r : R α} (p : PostG rel M E σ F H own Q r) : r ≠ .stuck := fun e => by
  rw [e] at p
  exact p
theorem os_int {C : Int → Int → Bool} {C' : Int → Int → Prop} {g : Int → Int → D} {g' : Int → Int → V} (hC : ∀ i j, C i j = true → C' i j) (hg : ∀ F i j, Rep M.cls F (g' i j) (g i j)) : OpS M (rI C' g') (intF C g) := by
  intro E Γ σ F0 H0 own0 F H own x y a b Q s st rx ry p
  obtain ⟨i, j, rfl, rfl, c, e⟩ := intF_inv rfl (post_ns p)
  rw [e] at p
  cases rx
  cases ry
  exact ⟨i, j, rfl, rfl, hC i j c, post_now s st p (hg F i j)⟩
theorem os_int0 {g : Int → Int → D} {g' : Int → Int → V} (hg : ∀ F i j, Rep M.cls F (g' i j) (g i j)) : OpS M (rI0 g') (intF yes2 g) := by
  intro E Γ σ F0 H0 own0 F H own x y a b Q s st rx ry p
  obtain ⟨i, j, rfl, rfl, c, e⟩ := intF_inv rfl (post_ns p)
  rw [e] at p
  cases rx
  cases ry
  exact ⟨i, j, rfl, rfl, post_now s st p (hg F i j)⟩
end
def subF := intF yes2 fun i j => .int (i - j)
def andF := intF yes2 fun i j => .int (Builtin.bitAnd i j)
def orF := intF yes2 fun i j => .int (Builtin.bitOr i j)
def xorF := intF yes2 fun i j => .int (Builtin.bitXor i j)
def leF := intF yes2 fun i j => .bool (decide (i ≤ j))
def gtF := intF yes2 fun i j => .bool (decide (j < i))
def geF := intF yes2 fun i j => .bool (decide (j ≤ i))
def fdivF := intF (fun _ j => decide (0 < j ∧ j < 1073741824)) fun i j => .int (i / j)
def modF := intF (fun _ j => decide (0 < j)) fun i j => .int (i % j)
def powC : Int → Int → Bool := fun i j => decide (0 ≤ j ∧ j ≤ 1000000 ∧ i.natAbs < 2 ^ 64)
def powF := intF powC fun i j => .int (i ^ j.toNat)
def shlF := intF powC fun i j => .int (i * 2 ^ j.toNat)
def shrF := intF (fun _ j => decide (0 ≤ j)) fun i j => .int (i / 2 ^ j.toNat)
section
variable {X : Cx} {M : Pm}
theorem os_sub : OpS M (rI0 fun i j => .int (i - j)) subF := os_int0 fun _ i j => .int _
theorem os_and : OpS M (rI0 fun i j => .int (Builtin.bitAnd i j)) andF := os_int0 fun _ i j => .int _
theorem os_or : OpS M (rI0 fun i j => .int (Builtin.bitOr i j)) orF := os_int0 fun _ i j => .int _
theorem os_xor : OpS M (rI0 fun i j => .int (Builtin.bitXor i j)) xorF := os_int0 fun _ i j => .int _
theorem os_le : OpS M (rI0 fun i j => .bl (decide (i ≤ j))) leF := os_int0 fun _ i j => .bl _
theorem os_gt : OpS M (rI0 fun i j => .bl (decide (j < i))) gtF := os_int0 fun _ i j => .bl _
theorem os_ge : OpS M (rI0 fun i j => .bl (decide (j ≤ i))) geF := os_int0 fun _ i j => .bl _
theorem os_fdiv : OpS M (rI CDiv fun i j => .int (i / j)) fdivF := os_int (fun i j h => (of_decide_eq_true h : 0 < j ∧ j < 1073741824)) fun _ i j => .int _
theorem os_mod : OpS M (rI (fun _ j => 0 < j) fun i j => .int (i % j)) modF := os_int (fun i j h => of_decide_eq_true h) fun _ i j => .int _
theorem os_pow : OpS M (rI CPow fun i j => .int (i ^ j.toNat)) powF := os_int (fun i j h => (of_decide_eq_true h : 0 ≤ j ∧ j ≤ 1000000 ∧ i.natAbs < 2 ^ 64)) fun _ i j => .int _
theorem os_shl : OpS M (rI CPow fun i j => .int (i * 2 ^ j.toNat)) shlF := os_int (fun i j h => (of_decide_eq_true h : 0 ≤ j ∧ j ≤ 1000000 ∧ i.natAbs < 2 ^ 64)) fun _ i j => .int _
theorem os_shr : OpS M (rI (fun _ j => 0 ≤ j) fun i j => .int (i / 2 ^ j.toNat)) shrF := os_int (fun i j h => of_decide_eq_true h) fun _ i j => .int _
end
end DL
end

section
set_option Elab.async false
set_option linter.all false
set_option maxRecDepth 100000
set_option maxHeartbeats 1000000
/-! DL4: +, *, ==, <, in, is; subscripts, slices; truth. -/
namespace DL
open PySem PySem.Spec PyProof.Rows L2

/-! ### + -/
def addF (Γ : Gam) (a b : Val) : R Val := match a, b with
  | .f (.int i), .f (.int j) => .ok (.f (.int (i + j))) Γ
  | .f (.str x), .f (.str y) => if x.length + y.length ≤ sizeLine then .ok (.f (.str (x ++ y))) Γ else .stuck
  | .f (.tuple xs), .f (.tuple ys) => if xs.length + ys.length ≤ sizeLine then .ok (.f (.tuple (xs ++ ys))) Γ else .stuck
  | a, b => match viewL Γ a, viewL Γ b with
    | some xs, some ys => if xs.length + ys.length ≤ sizeLine then .ok (.n (.ol (xs ++ ys))) Γ else .stuck
    | _, _ => .stuck
abbrev rStr : R2 := fun x y H Q => ∃ i j, x = .str i ∧ y = .str j ∧ i.length + j.length ≤ sizeLine ∧ Q (.str (i ++ j)) H
abbrev rAddAll (K : PySem.W.Frag) : R2 := fun x y H Q => (rI0 (fun i j => .int (i + j)) x y H Q ∨ rStr x y H Q) ∨ (rCatA K x y H Q ∨ rCat x y H Q)
theorem op_addAll {X : Cx} : OpR X (binaryOp .Add) (rAddAll X.K) := (op_add.or op_add_str).or (op_catA.or op_cat)
theorem os_add {M : Pm} : OpS M (rAddAll M.K) addF := by
  intro E Γ σ F0 H0 own0 F H own x y a b Q s st rx ry p
  unfold addF at p
  split at p
  · cases rx
    cases ry
    exact .inl (.inl ⟨_, _, rfl, rfl, post_now s st p (.int _)⟩)
  · split at p
    · rename_i h
      cases rx
      cases ry
      exact .inl (.inr ⟨_, _, rfl, rfl, h, post_now s st p (.str _)⟩)
    · exact p.elim
  · split at p
    · rename_i xs ys h
      obtain ⟨l, vs, rfl, h1, r1⟩ := Rep.invU rx
      obtain ⟨k, ws, rfl, h2, r2⟩ := Rep.invU ry
      have e1 := r1.length
      have e2 := r2.length
      refine .inr (.inl ⟨l, k, vs, ws, rfl, rfl, .inl (rd_up s.fh h1), .inl (rd_up s.fh h2), by rw [e1, e2]; exact h, fun e => ?_, fun _ e => ?_, fun _ _ q hq => post_newU s st p hq (r1.append r2)⟩)
      · subst e
        cases r1
        exact post_now s st p ry
      · subst e
        cases r2
        rw [List.append_nil] at p
        exact post_now s st p rx
    · exact p.elim
  · split at p
    · rename_i xs ys hx hy
      split at p
      · rename_i h
        obtain ⟨l, vs, rfl, h1, r1⟩ := view_L s rx hx
        obtain ⟨k, ws, rfl, h2, r2⟩ := view_L s ry hy
        have e1 := r1.length
        have e2 := r2.length
        exact .inr (.inr ⟨l, k, vs, ws, rfl, rfl, h1, h2, by rw [e1, e2]; exact h, fun q hq => post_newL s st p hq (r1.append r2)⟩)
      · exact p.elim
    · exact p.elim

/-! ### * -/
theorem tooLong_of {n : Nat} (h : n ≤ 1000 * 1000) : Builtin.Str.tooLong n = false := by
  unfold Builtin.Str.tooLong
  simp only [decide_eq_false_iff_not, Nat.not_lt]
  exact Nat.le_trans h (by decide)
def mulOkB (x : Str) (n : Int) : Bool := decide (1 ≤ n) && decide (n ≤ 1000) && decide (1 ≤ x.length) && decide (x.length ≤ 1000)
theorem mulOk_of {x : Str} {n : Int} (h : mulOkB x n = true) : MulOk x n := by
  simp only [mulOkB, Bool.and_eq_true, decide_eq_true_eq] at h
  obtain ⟨⟨⟨h1, h2⟩, h3⟩, h4⟩ := h
  refine ⟨by simp; omega, fun _ _ => ?_, fun _ _ => ?_⟩
  · have : (1000 : Int) ≤ (2 ^ 63 - 1) / n := by
      have : n * 1000 ≤ 2 ^ 63 - 1 := by omega
      exact Int.le_ediv_of_mul_le (by omega) (by omega)
    omega
  · have : x.length * n.toNat ≤ 1000 * 1000 := Nat.mul_le_mul h4 (by omega)
    exact tooLong_of this
abbrev rMulS : R2 := fun x y H Q => ∃ z i, x = .str z ∧ y = .int i ∧ mulOkB z i = true ∧ Q (.str (Txt.mul z i)) H
theorem op_mulS {X : Cx} : OpR X (binaryOp .Mult) rMulS := by
  intro pins s σ H x y v u Q I rx ry h
  obtain ⟨z, i, rfl, rfl, ok, q⟩ := h
  obtain ⟨t, rfl⟩ := rx
  obtain ⟨t', rfl⟩ := ry
  exact SB.mul (mulOk_of ok) fun t' k => ⟨.str _, H, I.tok _, ⟨_, rfl⟩, q⟩
def mulC (i j : Int) : Bool := decide (-(2 ^ 64) < i ∧ i < 2 ^ 64) || decide (-(2 ^ 64) < j ∧ j < 2 ^ 64)
def mulF (Γ : Gam) (a b : Val) : R Val := match a, b with
  | .f (.int i), .f (.int j) => if mulC i j = true then .ok (.f (.int (i * j))) Γ else .stuck
  | .f (.str x), .f (.int j) => if mulOkB x j = true then .ok (.f (.str (Txt.mul x j))) Γ else .stuck
  | a, .f (.int k) => match viewL Γ a with
    | some xs => if -(2 ^ 63) ≤ k ∧ k < 2 ^ 63 ∧ xs.length * k.toNat ≤ sizeLine then .ok (.n (.ol (List.replicate k.toNat xs).flatten)) Γ else .stuck
    | none => .stuck
  | _, _ => .stuck
theorem RepAll.rep {cls : Str → Addr} {F : Hp} {vs : List V} {ds : List D} (r : RepAll cls F vs ds) : ∀ n : Nat, RepAll cls F (List.replicate n vs).flatten (List.replicate n ds).flatten
  | 0 => .nil
  | n + 1 => by
    rw [List.replicate_succ, List.replicate_succ, List.flatten_cons, List.flatten_cons]
    exact r.append (RepAll.rep r n)
abbrev rMulAll : R2 := fun x y H Q => (rI CMul (fun i j => .int (i * j)) x y H Q ∨ rMulS x y H Q) ∨ rRep x y H Q
theorem op_mulAll {X : Cx} : OpR X (binaryOp .Mult) rMulAll := (op_mul.or op_mulS).or op_rep
theorem os_mul {M : Pm} : OpS M rMulAll mulF := by
  intro E Γ σ F0 H0 own0 F H own x y a b Q s st rx ry p
  unfold mulF at p
  split at p
  · split at p
    · rename_i h
      cases rx
      cases ry
      simp only [mulC, Bool.or_eq_true, decide_eq_true_eq] at h
      exact .inl (.inl ⟨_, _, rfl, rfl, h, post_now s st p (.int _)⟩)
    · exact p.elim
  · split at p
    · rename_i h
      cases rx
      cases ry
      exact .inl (.inr ⟨_, _, rfl, rfl, h, post_now s st p (.str _)⟩)
    · exact p.elim
  · split at p
    · rename_i xs hx
      split at p
      · rename_i h
        obtain ⟨l, vs, rfl, h1, r1⟩ := view_L s rx hx
        cases ry
        have e1 := r1.length
        exact .inr ⟨l, _, vs, rfl, rfl, h1, h.1, h.2.1, by rw [e1]; exact h.2.2, fun q hq => post_newL s st p hq (r1.rep _)⟩
      · exact p.elim
    · exact p.elim
  · exact p.elim

/-! ### == and < of data -/
def okE (d e : D) : Bool := d.plain && e.plain && (decide (d.depth ≤ 60) || decide (e.depth ≤ 60))
abbrev rEqP (K : PySem.W.Frag) (neg : Bool) : R2 := fun x y H Q => ∃ d e, Dp K H x d ∧ Dp K H y e ∧ okE d e = true ∧ Q (.bl (if neg then !PyData.eqv d e else PyData.eqv d e)) H
theorem okE_min {d e : D} {u : Nat} (h : okE d e = true) (hu : u + 64 < cLine) : d.plain = true ∧ e.plain = true ∧ u + min d.depth e.depth < cLine := by
  simp only [okE, Bool.and_eq_true, Bool.or_eq_true, decide_eq_true_eq] at h
  refine ⟨h.1.1, h.1.2, ?_⟩
  have := h.2
  omega
theorem op_eqP {X : Cx} (hu : X.A.units + 64 < cLine) : OpR X (compareOp .Eq) (rEqP X.K false) := by
  intro pins s σ H x y v u Q I rx ry h
  obtain ⟨d, e, hd, he, ok, q⟩ := h
  obtain ⟨as, r1⟩ := Dp.reads I d x v hd rx
  obtain ⟨bs, r2⟩ := Dp.reads I e y u he ry
  obtain ⟨h1, h2, h3⟩ := okE_min ok hu
  exact SeqAt.eq_plain r1 r2 h1 h2 h3 ⟨.bl _, H, I, rfl, q⟩
theorem op_neP {X : Cx} (hu : X.A.units + 64 < cLine) : OpR X (compareOp .NotEq) (rEqP X.K true) := by
  intro pins s σ H x y v u Q I rx ry h
  obtain ⟨d, e, hd, he, ok, q⟩ := h
  obtain ⟨as, r1⟩ := Dp.reads I d x v hd rx
  obtain ⟨bs, r2⟩ := Dp.reads I e y u he ry
  obtain ⟨h1, h2, h3⟩ := okE_min ok hu
  exact SeqAt.ne_plain r1 r2 h1 h2 h3 ⟨.bl _, H, I, rfl, q⟩
def eqF (neg : Bool) (Γ : Gam) (a b : Val) : R Val := match viewD Γ a, viewD Γ b with
  | some d, some e => if okE d e = true then .ok (.f (.bool (if neg then !PyData.eqv d e else PyData.eqv d e))) Γ else .stuck
  | _, _ => .stuck
theorem os_eq {M : Pm} (neg : Bool) : OpS M (rEqP M.K neg) (eqF neg) := by
  intro E Γ σ F0 H0 own0 F H own x y a b Q s st rx ry p
  unfold eqF at p
  split at p
  · rename_i d e hd he
    split at p
    · rename_i ok
      have ok' := ok
      simp only [okE, Bool.and_eq_true] at ok'
      exact ⟨d, e, view_dp s rx hd ok'.1.1, view_dp s ry he ok'.1.2, ok, post_now s st p (.bl _)⟩
    · exact p.elim
  · exact p.elim
def okL (d e : D) : Bool := PySem.W.alike d e && d.plain && e.plain && !(match d with | .none => true | _ => false) && (decide (d.depth ≤ 60) || decide (e.depth ≤ 60))
abbrev rLtP (K : PySem.W.Frag) : R2 := fun x y H Q => ∃ d e, Dp K H x d ∧ Dp K H y e ∧ okL d e = true ∧ Q (.bl (PySem.W.dataLt d e)) H
theorem op_ltP {X : Cx} (hu : X.A.units + 64 < cLine) : OpR X (compareOp .Lt) (rLtP X.K) := by
  intro pins s σ H x y v u Q I rx ry h
  obtain ⟨d, e, hd, he, ok, q⟩ := h
  obtain ⟨as, r1⟩ := Dp.reads I d x v hd rx
  obtain ⟨bs, r2⟩ := Dp.reads I e y u he ry
  simp only [okL, Bool.and_eq_true, Bool.or_eq_true, decide_eq_true_eq] at ok
  refine PySem.W.rcLt_alike d e X.A s v u as bs r1 r2 ok.1.1.1.1 ?_ ?_ _ _ _ _ ⟨.bl _, H, I, rfl, q⟩
  · rintro rfl
    simp at ok
  · have := ok.2
    omega
def ltF (Γ : Gam) (a b : Val) : R Val := match viewD Γ a, viewD Γ b with
  | some d, some e => if okL d e = true then .ok (.f (.bool (PySem.W.dataLt d e))) Γ else .stuck
  | _, _ => .stuck
theorem os_lt {M : Pm} : OpS M (rLtP M.K) ltF := by
  intro E Γ σ F0 H0 own0 F H own x y a b Q s st rx ry p
  unfold ltF at p
  split at p
  · rename_i d e hd he
    split at p
    · rename_i ok
      have ok' := ok
      simp only [okL, Bool.and_eq_true] at ok'
      exact ⟨d, e, view_dp s rx hd ok'.1.1.1.2, view_dp s ry he ok'.1.1.2, ok, post_now s st p (.bl _)⟩
    · exact p.elim
  · exact p.elim
/-! ### in -/
def okI (ds : List D) (d : D) : Bool := d.plain && PyData.plainAll ds && (decide (d.depth ≤ 60) || decide (PyData.depthAll ds ≤ 60))
abbrev rInP (K : PySem.W.Frag) (neg : Bool) : R2 := fun x y H Q => ∃ d ds, Dp K H x d ∧ (Dp K H y (.list ds) ∨ Dp K H y (.tuple ds)) ∧ okI ds d = true ∧ Q (.bl (if neg then !(ds.any fun z => PyData.eqv z d) else ds.any fun z => PyData.eqv z d)) H
theorem op_inP {X : Cx} (hu : X.A.units + 64 < cLine) : OpR X (compareOp .In) (rInP X.K false) := by
  intro pins s σ H x y v u Q I rx ry h
  obtain ⟨d, ds, hd, he, ok, q⟩ := h
  obtain ⟨as, r1⟩ := Dp.reads I d x v hd rx
  simp only [okI, Bool.and_eq_true, Bool.or_eq_true, decide_eq_true_eq] at ok
  have hm : X.A.units + 1 + min (PyData.depthAll ds) d.depth < cLine := by
    have := ok.2
    omega
  rcases he with he | he
  · obtain ⟨bs, r2⟩ := Dp.reads I (.list ds) y u he ry
    exact SeqAt.in_list_data r2 r1 ok.1.2 ok.1.1 hm ⟨.bl _, H, I, rfl, q⟩
  · obtain ⟨bs, r2⟩ := Dp.reads I (.tuple ds) y u he ry
    exact SeqAt.in_tuple_data r2 r1 ok.1.2 ok.1.1 hm ⟨.bl _, H, I, rfl, q⟩
theorem op_notInP {X : Cx} (hu : X.A.units + 64 < cLine) : OpR X (compareOp .NotIn) (rInP X.K true) := by
  intro pins s σ H x y v u Q I rx ry h
  obtain ⟨d, ds, hd, he, ok, q⟩ := h
  obtain ⟨as, r1⟩ := Dp.reads I d x v hd rx
  simp only [okI, Bool.and_eq_true, Bool.or_eq_true, decide_eq_true_eq] at ok
  have hm : X.A.units + 1 + min (PyData.depthAll ds) d.depth < cLine := by
    have := ok.2
    omega
  rcases he with he | he
  · obtain ⟨bs, r2⟩ := Dp.reads I (.list ds) y u he ry
    exact SeqAt.notIn_list_data r2 r1 ok.1.2 ok.1.1 hm ⟨.bl _, H, I, rfl, q⟩
  · obtain ⟨bs, r2⟩ := Dp.reads I (.tuple ds) y u he ry
    exact SeqAt.notIn_tuple_data r2 r1 ok.1.2 ok.1.1 hm ⟨.bl _, H, I, rfl, q⟩
abbrev rInDict (neg : Bool) : R2 := fun x y H Q => ∃ a o, y = .ref a ∧ DGet H a x o ∧ Q (.bl (if neg then !o.isSome else o.isSome)) H
theorem op_inDict {X : Cx} (hu : X.A.units + 64 < cLine) : OpR X (compareOp .In) (rInDict false) := by
  intro pins s σ H x y v u Q I rx ry h
  obtain ⟨a, o, rfl, g, q⟩ := h
  cases ry
  exact d_in (by omega) I g rx fun s3 I3 => ⟨.bl o.isSome, H, I3, rfl, q⟩
theorem op_notInDict {X : Cx} (hu : X.A.units + 64 < cLine) : OpR X (compareOp .NotIn) (rInDict true) := by
  intro pins s σ H x y v u Q I rx ry h
  obtain ⟨a, o, rfl, g, q⟩ := h
  cases ry
  exact d_notIn (by omega) I g rx fun s3 I3 => ⟨.bl (!o.isSome), H, I3, rfl, q⟩
abbrev rInSign (neg : Bool) : R2 := fun x y H Q => ∃ (c : Nat) (z : Str), x = .str ⟨#[c]⟩ ∧ y = .str z ∧ Q (.bl (if neg then !decide (c ∈ z.cps.toList) else decide (c ∈ z.cps.toList))) H
abbrev rInAll (K : PySem.W.Frag) (neg : Bool) : R2 := fun x y H Q => (rInP K neg x y H Q ∨ rInDict neg x y H Q) ∨ rInSign neg x y H Q
theorem op_inAll {X : Cx} (hu : X.A.units + 64 < cLine) : OpR X (compareOp .In) (rInAll X.K false) := ((op_inP hu).or (op_inDict hu)).or op_in_sign
theorem op_notInAll {X : Cx} (hu : X.A.units + 64 < cLine) : OpR X (compareOp .NotIn) (rInAll X.K true) := ((op_notInP hu).or (op_notInDict hu)).or op_notIn_sign
def signOf (z : Str) : Option Nat := match z.cps.toList with
  | [c] => some c
  | _ => none
theorem signOf_some {z : Str} {c : Nat} (h : signOf z = some c) : z = ⟨#[c]⟩ := by
  unfold signOf at h
  split at h
  · rename_i c' hc
    cases h
    obtain ⟨⟨l⟩⟩ := z
    simp at hc
    subst hc
    rfl
  · cases h
@[simp] theorem signOf_one (c : Nat) : signOf ⟨#[c]⟩ = some c := rfl
/-! ### dicts by keys -/
section
variable {κ α β : Type} [DecidableEq κ]
def look (l : List (κ × α)) (k : κ) : Option α := match l with
  | [] => none
  | p :: r => if p.1 = k then some p.2 else look r k
def put (l : List (κ × α)) (k : κ) (v : α) : List (κ × α) := if (l.any fun kv => decide (kv.1 = k)) = true then l.map (fun kv => if kv.1 = k then (kv.1, v) else kv) else l ++ [(k, v)]
end
theorem valV_look {κ : Type} [DecidableEq κ] : ∀ (l : List (κ × V)) (k : κ), valV l k = look l k
  | [], k => rfl
  | p :: r, k => by
    by_cases h : p.1 = k
    · rw [valV_pos h, look, if_pos h]
    · rw [valV_neg h, look, if_neg h, valV_look r k]
theorem putK_put {κ : Type} [DecidableEq κ] (l : List (κ × V)) (k : κ) (v : V) : putK l k v = put l k v := rfl
def RepO (cls : Str → Addr) (F : Hp) : Option V → Option D → Prop
  | some v, some d => Rep cls F v d
  | none, none => True
  | _, _ => False
section
variable {κ : Type} [DecidableEq κ] {cls : Str → Addr} {F : Hp}
theorem look_rep : ∀ {kvs : List (κ × V)} {kds : List (κ × D)}, kvs.map (·.1) = kds.map (·.1) → RepAll cls F (kvs.map (·.2)) (kds.map (·.2)) → ∀ k, RepO cls F (look kvs k) (look kds k)
  | [], [], _, _, k => trivial
  | [], _ :: _, h, _, k => by simp at h
  | _ :: _, [], h, _, k => by simp at h
  | p :: r, q :: t, h, hr, k => by
    simp only [List.map_cons, List.cons.injEq] at h
    simp only [List.map_cons] at hr
    cases hr with
    | cons h1 h2 =>
      unfold look
      rw [h.1]
      by_cases e : q.1 = k
      · rw [if_pos e, if_pos e]
        exact h1
      · rw [if_neg e, if_neg e]
        exact look_rep h.2 h2 k
theorem any_keys {α β : Type} : ∀ {kvs : List (κ × α)} {kds : List (κ × β)}, kvs.map (·.1) = kds.map (·.1) → ∀ k, (kvs.any fun kv => decide (kv.1 = k)) = (kds.any fun kv => decide (kv.1 = k))
  | [], [], _, _ => rfl
  | [], _ :: _, h, _ => by simp at h
  | _ :: _, [], h, _ => by simp at h
  | p :: r, q :: t, h, k => by
    simp only [List.map_cons, List.cons.injEq] at h
    rw [List.any_cons, List.any_cons, h.1, any_keys h.2 k]
theorem put_keys {α β : Type} {kvs : List (κ × α)} {kds : List (κ × β)} (h : kvs.map (·.1) = kds.map (·.1)) (k : κ) (v : α) (d : β) : (put kvs k v).map (·.1) = (put kds k d).map (·.1) := by
  have hk : ∀ {γ : Type} (l : List (κ × γ)) (x : γ), (l.map (fun kv => if kv.1 = k then (kv.1, x) else kv)).map (·.1) = l.map (·.1) := fun l x => by
    rw [List.map_map]
    apply List.map_congr_left
    intro p _
    by_cases e : p.1 = k <;> simp [e]
  unfold put
  rw [any_keys h k]
  split
  · rw [hk, hk, h]
  · rw [List.map_append, List.map_append, h]
    rfl
theorem mapPut_rep : ∀ {kvs : List (κ × V)} {kds : List (κ × D)}, kvs.map (·.1) = kds.map (·.1) → RepAll cls F (kvs.map (·.2)) (kds.map (·.2)) → ∀ (k : κ) {v : V} {d : D}, Rep cls F v d →
    RepAll cls F ((kvs.map (fun kv => if kv.1 = k then (kv.1, v) else kv)).map (·.2)) ((kds.map (fun kv => if kv.1 = k then (kv.1, d) else kv)).map (·.2))
  | [], [], _, _, _, _, _, _ => .nil
  | [], _ :: _, h, _, _, _, _, _ => by simp at h
  | _ :: _, [], h, _, _, _, _, _ => by simp at h
  | p :: r, q :: t, h, hr, k, v, d, hv => by
    simp only [List.map_cons, List.cons.injEq] at h
    simp only [List.map_cons] at hr
    cases hr with
    | cons h1 h2 =>
      have ih := mapPut_rep h.2 h2 k hv
      simp only [List.map_cons]
      rw [h.1]
      by_cases e : q.1 = k
      · rw [if_pos e, if_pos e]
        exact .cons hv ih
      · rw [if_neg e, if_neg e]
        exact .cons h1 ih
theorem put_rep {kvs : List (κ × V)} {kds : List (κ × D)} (h : kvs.map (·.1) = kds.map (·.1)) (hr : RepAll cls F (kvs.map (·.2)) (kds.map (·.2))) (k : κ) {v : V} {d : D} (hv : Rep cls F v d) :
    RepAll cls F ((put kvs k v).map (·.2)) ((put kds k d).map (·.2)) := by
  unfold put
  rw [any_keys h k]
  split
  · exact mapPut_rep h hr k hv
  · rw [List.map_append, List.map_append]
    exact hr.append (.cons hv .nil)
end
theorem RepO.isSome {cls : Str → Addr} {F : Hp} : ∀ {o : Option V} {p : Option D}, RepO cls F o p → o.isSome = p.isSome
  | some _, some _, _ => rfl
  | none, none, _ => rfl
def ng (neg b : Bool) : Bool := if neg then !b else b
@[simp] theorem ng_t (b : Bool) : ng true b = !b := rfl
@[simp] theorem ng_f (b : Bool) : ng false b = b := rfl
def inF (neg : Bool) (Γ : Gam) (a b : Val) : R Val := match viewD Γ b with
  | some (.list ds) => match viewD Γ a with
    | some d => if okI ds d = true then .ok (.f (.bool (ng neg (ds.any fun z => PyData.eqv z d)))) Γ else .stuck
    | none => .stuck
  | some (.tuple ds) => match viewD Γ a with
    | some d => if okI ds d = true then .ok (.f (.bool (ng neg (ds.any fun z => PyData.eqv z d)))) Γ else .stuck
    | none => .stuck
  | some (.str z) => match a with
    | .f (.str y) => match signOf y with
      | some c => .ok (.f (.bool (ng neg (decide (c ∈ z.cps.toList))))) Γ
      | none => .stuck
    | _ => .stuck
  | _ => match viewK Γ b with
    | some kds => match a with
      | .f d => match keyOf d with
        | some k => .ok (.f (.bool (ng neg (look kds k).isSome))) Γ
        | none => .stuck
      | _ => .stuck
    | none => match viewT Γ b with
      | some kds => match a with
        | .f d => match keyTOf d with
          | some k => .ok (.f (.bool (ng neg (look kds k).isSome))) Γ
          | none => .stuck
        | _ => .stuck
      | none => .stuck

theorem rep_key {cls : Str → Addr} {F : Hp} {v : V} {d : D} {k : Key} (r : Rep cls F v d) (h : keyOf d = some k) : v = kV k := by
  rw [keyOf_some h] at r
  cases k with
  | inl i =>
    have r' : Rep cls F v (.int i) := r
    cases r'
    rfl
  | inr s =>
    have r' : Rep cls F v (.str s) := r
    cases r'
    rfl
theorem rep_keyT {cls : Str → Addr} {F : Hp} {v : V} {d : D} {k : List Key} (r : Rep cls F v d) (h : keyTOf d = some k) : ∃ b, v = .ref b ∧ F b = some (.tup (k.map kV)) := by
  rw [keyTOf_some h] at r
  obtain ⟨b, vs, h1, h2, h3⟩ : ∃ a vs, v = .ref a ∧ F a = some (.tup vs) ∧ RepAll cls F vs (k.map keyD) := by
    have r' : Rep cls F v (.tuple (k.map keyD)) := r
    cases r' with
    | tup h1 h2 => exact ⟨_, _, rfl, h1, h2⟩
    | tupF h1 h3 h2 =>
      rw [keysOf_map] at h3
      cases h3
  rw [h3.strs_inv] at h2
  exact ⟨b, h1, h2⟩
theorem dget_k {cls : Str → Addr} {F H : Hp} {l : Addr} {kvs : List (Key × V)} {kds : List (Key × D)} {v : V} {d : D} {k : Key} (hl : Rd H l (.dK kvs)) (h1 : kvs.map (·.1) = kds.map (·.1)) (h2 : RepAll cls F (kvs.map (·.2)) (kds.map (·.2)))
    (r : Rep cls F v d) (h : keyOf d = some k) : ∃ o, DGet H l v o ∧ RepO cls F o (look kds k) := by
  rw [rep_key r h]
  refine ⟨valV kvs k, .inl ⟨kvs, k, hl, rfl, rfl⟩, ?_⟩
  rw [valV_look]
  exact look_rep h1 h2 k
theorem dget_t {cls : Str → Addr} {F H : Hp} (fh : Ex F H) {l : Addr} {kvs : List (List Key × V)} {kds : List (List Key × D)} {v : V} {d : D} {k : List Key} (hl : Rd H l (.dT kvs)) (h1 : kvs.map (·.1) = kds.map (·.1)) (h2 : RepAll cls F (kvs.map (·.2)) (kds.map (·.2)))
    (r : Rep cls F v d) (h : keyTOf d = some k) : ∃ o, DGet H l v o ∧ RepO cls F o (look kds k) := by
  obtain ⟨b, rfl, hb⟩ := rep_keyT r h
  refine ⟨valV kvs k, .inr ⟨kvs, k, b, hl, rfl, fh _ _ hb, rfl⟩, ?_⟩
  rw [valV_look]
  exact look_rep h1 h2 k
theorem os_in {M : Pm} (neg : Bool) : OpS M (rInAll M.K neg) (inF neg) := by
  intro E Γ σ F0 H0 own0 F H own x y a b Q s st rx ry p
  unfold inF at p
  split at p
  · rename_i ds hb
    split at p
    · rename_i d ha
      split at p
      · rename_i ok
        have ok' := ok
        simp only [okI, Bool.and_eq_true] at ok'
        refine .inl (.inl ⟨d, ds, view_dp s rx ha ok'.1.1, .inl (view_dp s ry hb (by simpa [PyData.plain] using ok'.1.2)), ok, post_now s st p (.bl _)⟩)
      · exact p.elim
    · exact p.elim
  · rename_i ds hb
    split at p
    · rename_i d ha
      split at p
      · rename_i ok
        have ok' := ok
        simp only [okI, Bool.and_eq_true] at ok'
        refine .inl (.inl ⟨d, ds, view_dp s rx ha ok'.1.1, .inr (view_dp s ry hb (by simpa [PyData.plain] using ok'.1.2)), ok, post_now s st p (.bl _)⟩)
      · exact p.elim
    · exact p.elim
  · rename_i z hb
    split at p
    · rename_i y'
      split at p
      · rename_i c hc
        have hy : y = .str z := by
          cases b with
          | f d =>
            simp only [viewD, Option.some.injEq] at hb
            subst hb
            cases ry
            rfl
          | b i =>
            simp only [viewD] at hb
            split at hb
            · rename_i d0 hd
              cases hb
              obtain ⟨v, h1, _, h2⟩ := slotAt s ry hd
              cases h1
              cases h2
              rfl
            · cases hb
            · cases hb
            · cases hb
          | _ => cases hb
        cases rx
        exact .inr ⟨c, z, by rw [signOf_some hc], hy, post_now s st p (.bl _)⟩
      · exact p.elim
    · exact p.elim
  · split at p
    · rename_i kds hb
      split at p
      · rename_i d
        split at p
        · rename_i k hk
          obtain ⟨l, kvs, rfl, h1, h2, h3⟩ := view_K s ry hb
          obtain ⟨o, g, ro⟩ := dget_k h1 h2 h3 rx hk
          refine .inl (.inr ⟨l, o, rfl, g, ?_⟩)
          have := post_now s st p (.bl _)
          rw [ro.isSome]
          exact this
        · exact p.elim
      · exact p.elim
    · split at p
      · rename_i kds hb
        split at p
        · rename_i d
          split at p
          · rename_i k hk
            obtain ⟨l, kvs, rfl, h1, h2, h3⟩ := view_T s ry hb
            obtain ⟨o, g, ro⟩ := dget_t s.fh h1 h2 h3 rx hk
            refine .inl (.inr ⟨l, o, rfl, g, ?_⟩)
            have := post_now s st p (.bl _)
            rw [ro.isSome]
            exact this
          · exact p.elim
        · exact p.elim
      · exact p.elim
end DL
end

section
set_option Elab.async false
set_option linter.all false
set_option maxRecDepth 100000
set_option maxHeartbeats 1000000
/-! DL5: is, subscripts, slices, tests, and/or/not, conditional expressions, fields. -/
namespace DL
open PySem PySem.Spec PyProof.Rows L2

/-! ### is -/
def noneV : Val → Bool
  | .f .none => true
  | _ => false
abbrev rIsN (neg : Bool) : R2 := fun x y H Q => y = .non ∧ Q (.bl (if neg then !decide (x = .non) else decide (x = .non))) H
abbrev rIsB (neg : Bool) : R2 := fun x y H Q => ∃ a b, x = .bl a ∧ y = .bl b ∧ Q (.bl (if neg then !decide (a = b) else decide (a = b))) H
abbrev rIsAll (neg : Bool) : R2 := fun x y H Q => rIsN neg x y H Q ∨ rIsB neg x y H Q
theorem op_isAll {X : Cx} : OpR X (compareOp .Is) (rIsAll false) := op_isN.or op_is_bl
theorem op_isNotAll {X : Cx} : OpR X (compareOp .IsNot) (rIsAll true) := op_notN.or op_isnot_bl
def isF (neg : Bool) (Γ : Gam) (a b : Val) : R Val := match b with
  | .f .none => .ok (.f (.bool (ng neg (noneV a)))) Γ
  | .f (.bool y) => match a with
    | .f (.bool x) => .ok (.f (.bool (ng neg (decide (x = y))))) Γ
    | _ => .stuck
  | _ => .stuck
theorem none_iff {M : Pm} {Γ : Gam} {σ : L2.St} {F H : Hp} {own : Own} {x : V} {a : Val} (s : StR M Γ σ F H own) (r : ValRd M σ F x a) (hb : ∀ i, a = .b i → ∃ sl, Γ[i]? = some sl ∧ ∀ d, sl ≠ .one (.fz d) ∧ sl ≠ .un) : decide (x = .non) = noneV a := by
  cases a with
  | f d =>
    have r' : Rep M.cls F x d := r
    cases r' <;> simp [noneV, dicK, dicT, dicF, dicG, DL.ins, knD, exnD]
  | b i =>
    obtain ⟨sl, h1, h2⟩ := hb i rfl
    have h3 := slotAt s r h1
    have : x ≠ .non := by
      cases sl with
      | un => exact absurd rfl (h2 .none).2
      | one f =>
        obtain ⟨v, e, h⟩ := h3
        cases e
        cases f with
        | fz d => exact absurd rfl (h2 d).1
        | ol ds =>
          obtain ⟨l, vs, e, _⟩ := h
          rw [e]
          simp
        | oK ds =>
          obtain ⟨l, vs, e, _⟩ := h
          rw [e]
          simp
        | oT ds =>
          obtain ⟨l, vs, e, _⟩ := h
          rw [e]
          simp
      | cmp c pin fds =>
        obtain ⟨a, e, _⟩ := h3
        cases e
        simp
      | box n pin d =>
        obtain ⟨a, e, _⟩ := h3
        cases e
        simp
      | vw ds =>
        obtain ⟨_, l, vs, e, _⟩ := h3
        cases e
        simp
    simp [noneV, this]
  | n f => exact r.elim
  | nc c fds => exact r.elim
  | nb n d => exact r.elim
def isF' (neg : Bool) (Γ : Gam) (a b : Val) : R Val := match a with
  | .b _ => .stuck
  | a => isF neg Γ a b
theorem os_is {M : Pm} (neg : Bool) : OpS M (rIsAll neg) (isF' neg) := by
  intro E Γ σ F0 H0 own0 F H own x y a b Q s st rx ry p
  unfold isF' at p
  split at p
  · exact p.elim
  · rename_i hna
    unfold isF at p
    split at p
    · cases ry
      refine .inl ⟨rfl, ?_⟩
      have hq := post_now s st p (.bl _)
      have e := none_iff s rx fun i hi => absurd hi (hna i)
      rw [e]
      exact hq
    · split at p
      · cases ry
        cases rx
        exact .inr ⟨_, _, rfl, rfl, post_now s st p (.bl _)⟩
      · exact p.elim
    · exact p.elim

/-! ### subscripts -/
abbrev rIxD : R2 := fun x y H Q => ∃ a v, x = .ref a ∧ DGet H a y (some v) ∧ Q v H
theorem ix_dict {X : Cx} (hu : X.A.units + 64 < cLine) : IxR X rIxD := by
  intro value slice pins s σ H x y v u Q I rx ry h hs
  obtain ⟨a, w, rfl, g, q⟩ := h
  cases rx
  exact tail_any (dict_typeIs I g) PySem.F.slot_dict_getitem.lookup (d_getItem (by omega) I g ry fun w' s3 I3 rw' => ⟨w, H, I3, rw', q⟩) hs
abbrev rIxAll (K : PySem.W.Frag) : R2 := fun x y H Q => rIx K x y H Q ∨ rIxD x y H Q
theorem ix_all {X : Cx} (hu : X.A.units + 64 < cLine) : IxR X (rIxAll X.K) := ix_seq.or (ix_dict hu)
def ixF (Γ : Gam) (a b : Val) : R Val := match viewD Γ a with
  | some (.list ds) => match b with
    | .f (.int i) => match atI ds i with
      | some d => .ok (.f d) Γ
      | none => .stuck
    | _ => .stuck
  | some (.tuple ds) => match b with
    | .f (.int i) => match atI ds i with
      | some d => .ok (.f d) Γ
      | none => .stuck
    | _ => .stuck
  | some (.str z) => match b with
    | .f (.int i) => match atI z.cps.toList i with
      | some c => if z.length ≤ sizeLine then .ok (.f (.str ⟨#[c]⟩)) Γ else .stuck
      | none => .stuck
    | _ => .stuck
  | _ => match viewK Γ a with
    | some kds => match b with
      | .f d => match keyOf d with
        | some k => match look kds k with
          | some d' => .ok (.f d') Γ
          | none => .stuck
        | none => .stuck
      | _ => .stuck
    | none => match viewT Γ a with
      | some kds => match b with
        | .f d => match keyTOf d with
          | some k => match look kds k with
            | some d' => .ok (.f d') Γ
            | none => .stuck
          | none => .stuck
        | _ => .stuck
      | none => .stuck
theorem atI_rep {cls : Str → Addr} {F : Hp} {vs : List V} {ds : List D} {i : Int} {d : D} (r : RepAll cls F vs ds) (h : atI ds i = some d) : ∃ v, atI vs i = some v ∧ Rep cls F v d := by
  unfold atI at h ⊢
  rw [r.length]
  cases e : ixN ds.length i with
  | none =>
    rw [e] at h
    cases h
  | some j =>
    rw [e] at h
    exact r.at j d h
theorem view_str {M : Pm} {Γ : Gam} {σ : L2.St} {F H : Hp} {own : Own} {x : V} {a : Val} {z : Str} (s : StR M Γ σ F H own) (r : ValRd M σ F x a) (hb : viewD Γ a = some (.str z)) : x = .str z := by
  cases a with
  | f d =>
    simp only [viewD, Option.some.injEq] at hb
    subst hb
    cases r
    rfl
  | b i =>
    simp only [viewD] at hb
    split at hb
    · rename_i d0 hd
      cases hb
      obtain ⟨v, h1, _, h2⟩ := slotAt s r hd
      cases h1
      cases h2
      rfl
    · cases hb
    · cases hb
    · cases hb
  | _ => cases hb
theorem repO_some {cls : Str → Addr} {F : Hp} {o : Option V} {d : D} (h : RepO cls F o (some d)) : ∃ v, o = some v ∧ Rep cls F v d := by
  cases o with
  | none => exact h.elim
  | some v => exact ⟨v, rfl, h⟩
theorem os_ix {M : Pm} : OpS M (rIxAll M.K) ixF := by
  intro E Γ σ F0 H0 own0 F H own x y a b Q s st rx ry p
  unfold ixF at p
  split at p
  · rename_i ds hb
    split at p
    · rename_i i
      split at p
      · rename_i d hd
        obtain ⟨l, vs, rfl, h1, h2⟩ := view_list s rx hb
        obtain ⟨v, h3, h4⟩ := atI_rep h2 hd
        cases ry
        exact .inl (.inl ⟨l, vs, i, v, rfl, rfl, h1, h3, post_now s st p h4⟩)
      · exact p.elim
    · exact p.elim
  · rename_i ds hb
    split at p
    · rename_i i
      split at p
      · rename_i d hd
        obtain ⟨l, vs, rfl, _, h1, h2⟩ := view_tup s rx hb
        obtain ⟨v, h3, h4⟩ := atI_rep h2 hd
        cases ry
        exact .inl (.inr (.inl ⟨l, vs, i, v, rfl, rfl, h1, h3, post_now s st p h4⟩))
      · exact p.elim
    · exact p.elim
  · rename_i z hb
    split at p
    · rename_i i
      split at p
      · rename_i c hc
        split at p
        · rename_i hz
          have := view_str s rx hb
          subst this
          cases ry
          exact .inl (.inr (.inr ⟨z, i, c, rfl, rfl, hz, hc, post_now s st p (.str _)⟩))
        · exact p.elim
      · exact p.elim
    · exact p.elim
  · split at p
    · rename_i kds hb
      split at p
      · rename_i d
        split at p
        · rename_i k hk
          split at p
          · rename_i d' hd'
            obtain ⟨l, kvs, rfl, h1, h2, h3⟩ := view_K s rx hb
            obtain ⟨o, g, ro⟩ := dget_k h1 h2 h3 ry hk
            rw [hd'] at ro
            obtain ⟨v, rfl, rv⟩ := repO_some ro
            exact .inr ⟨l, v, rfl, g, post_now s st p rv⟩
          · exact p.elim
        · exact p.elim
      · exact p.elim
    · split at p
      · rename_i kds hb
        split at p
        · rename_i d
          split at p
          · rename_i k hk
            split at p
            · rename_i d' hd'
              obtain ⟨l, kvs, rfl, h1, h2, h3⟩ := view_T s rx hb
              obtain ⟨o, g, ro⟩ := dget_t s.fh h1 h2 h3 ry hk
              rw [hd'] at ro
              obtain ⟨v, rfl, rv⟩ := repO_some ro
              exact .inr ⟨l, v, rfl, g, post_now s st p rv⟩
            · exact p.elim
          · exact p.elim
        · exact p.elim
      · exact p.elim
section
variable {X : Cx} {M : Pm} {E : XK} {a b c e o : Expr} {ma mb mc m : Gam → R Val} {pos : Pos}
theorem e_ix {r : R2} {f : Gam → Val → Val → R Val} (hr : IxR X r) (hs : OpS M r f) (ha : PE X a (tE M E ma)) (hb : PE X b (tE M E mb)) (hp : PlainIx b) : PE X (.Subscript a b pos) (tE M E (bin f ma mb)) :=
  PE_weak (pe_ix hr (pe_rd ha) (pe_rd hb) hp) fun _ _ _ q => tE_bin hs q
/-! ### slices -/
def relO : Rel (Option Int) (Option Int) := fun _ _ _ _ _ x a => x = a
theorem back_O : Back relO := fun _ _ _ _ _ _ _ _ _ r => r
abbrev tP (M : Pm) (E : XK) (m : Gam → R (Option Int)) : TO := tG relO M E m
def noPart : Gam → R (Option Int) := fun Γ => .ok none Γ
def partM (m : Gam → R Val) : Gam → R (Option Int) := fun Γ => (rd m Γ).bind fun v Γ1 => match v with
  | .f (.int i) => .ok (some i) Γ1
  | _ => .stuck
theorem PO_weak {X : Cx} {e : Option Expr} {t t' : TO} (h : PO X e t) (w : ∀ σ H Q, t' σ H Q → t σ H Q) : PO X e t' := ⟨fun pins s σ H Q I q => h.run pins s σ H Q I (w σ H Q q)⟩
theorem o_none : PO X none (tP M E noPart) := PO_weak po_none fun σ H Q q => by
  obtain ⟨Γ, F, own, st, p⟩ := q
  exact p none F H own st (.refl _ _ _) rfl
theorem o_some (h : PE X e (tE M E m)) : PO X (some e) (tP M E (partM m)) := PO_weak (po_some (pe_rd h)) fun σ H Q q => by
  obtain ⟨Γ, F, own, st, p⟩ := q
  refine ⟨Γ, F, own, st, post_bind p fun F1 H1 own1 Γ1 x va _ st1 s1 r1 p1 => ?_⟩
  split at p1
  · cases r1
    exact ⟨_, rfl, p1 _ F1 H1 own1 st1 s1 rfl⟩
  · exact p1.elim
def cutD (ds : List D) (lo hi : Option Int) : List D := (ds.drop (HT.sIx ds.length 0 lo)).take (HT.sIx ds.length ds.length hi - HT.sIx ds.length 0 lo)
theorem cut_rep {cls : Str → Addr} {F : Hp} {vs : List V} {ds : List D} (lo hi : Option Int) (r : RepAll cls F vs ds) : RepAll cls F (cutV vs lo hi) (cutD ds lo hi) := by
  unfold cutV cutD
  rw [r.length]
  exact (r.drop _).take _
def slF (Γ : Gam) (a : Val) (lo hi : Option Int) : R Val := match viewD Γ a with
  | some (.str z) => if z.length ≤ sizeLine then .ok (.f (.str (cutS z lo hi))) Γ else .stuck
  | some (.tuple ds) => .ok (.f (.tuple (cutD ds lo hi))) Γ
  | some (.list ds) => .ok (.n (.ol (cutD ds lo hi))) Γ
  | _ => .stuck
def sliceM (ma : Gam → R Val) (ml mh : Gam → R (Option Int)) : Gam → R Val := fun Γ => (rd ma Γ).bind fun a Γ1 => (ml Γ1).bind fun lo Γ2 => (mh Γ2).bind fun hi Γ3 => slF Γ3 a lo hi
theorem sIx_full {n : Nat} {lo hi : Option Int} (h : HT.sIx n 0 lo = 0 ∧ HT.sIx n n hi = n) (ds : List D) (e : ds.length = n) : cutD ds lo hi = ds := by
  unfold cutD
  rw [e, h.1, h.2, List.drop_zero, Nat.sub_zero, ← e, List.take_length]
theorem e_slice {lo hi : Option Expr} {ml mh : Gam → R (Option Int)} {p2 : Pos} (hK : X.K = M.K) (ha : PE X a (tE M E ma)) (hl : PO X lo (tP M E ml)) (hh : PO X hi (tP M E mh)) : PE X (.Subscript a (.Slice lo hi none p2) pos) (tE M E (sliceM ma ml mh)) :=
  PE_weak (pe_slice ((sl_tupA.or sl_list).or sl_str) (pe_rd ha) hl hh) fun σ H Q q => by
  obtain ⟨Γ, F, own, st, p⟩ := q
  refine ⟨Γ, F, own, st, post_bind p fun F1 H1 own1 Γ1 x va _ st1 s1 r1 p1 => ⟨Γ1, F1, own1, st1, post_bind (p1.mono (back_V M) s1) fun F2 H2 own2 Γ2 l l' _ st2 s2 r2 p2 => ⟨Γ2, F2, own2, st2, post_bind (p2.mono (back_V M) s2) fun F3 H3 own3 Γ3 h h' _ st3 s3 r3 p3 => ?_⟩⟩⟩
  cases r2
  cases r3
  have rx := ValRd.mono s3.ff (ValRd.mono s2.ff r1)
  rw [hK]
  unfold slF at p3
  split at p3
  · rename_i z hb
    split at p3
    · rename_i hz
      have := view_str st3 rx hb
      subst this
      exact .inr ⟨z, rfl, hz, post_now st3 s3 p3 (.str _)⟩
    · exact p3.elim
  · rename_i ds hb
    obtain ⟨k, vs, rfl, hF, h1, h2⟩ := view_tup st3 rx hb
    refine .inl (.inl ⟨k, vs, rfl, h1, fun hw => ?_, fun hw q hq => post_newU st3 s3 p3 hq (cut_rep _ _ h2)⟩)
    rw [sIx_full hw ds h2.length.symm] at p3
    exact post_now st3 s3 p3 hF.1
  · rename_i ds hb
    obtain ⟨k, vs, rfl, h1, h2⟩ := view_list st3 rx hb
    exact .inl (.inr ⟨k, vs, rfl, h1, fun q hq => post_newL st3 s3 p3 hq (cut_rep _ _ h2)⟩)
  · exact p3.elim

/-! ### tests -/
def testM (m : Gam → R Val) : Gam → R Bool := fun Γ => (rd m Γ).bind fun v Γ1 => match v with
  | .f (.bool b) => .ok b Γ1
  | _ => .stuck
theorem tT_test {σ : L2.St} {H : Hp} {Q : Bool → Hp → Prop} (q : tT M E (testM m) σ H Q) : tB (tD M E (rd m)) σ H Q := by
  obtain ⟨Γ, F, own, st, p⟩ := q
  refine ⟨Γ, F, own, st, post_bind p fun F1 H1 own1 Γ1 x va _ st1 s1 r1 p1 => ?_⟩
  split at p1
  · cases r1
    exact ⟨_, rfl, p1 _ F1 H1 own1 st1 s1 rfl⟩
  · exact p1.elim
theorem t_val (h : PE X e (tE M E m)) (he : ∀ whole, isTrue e X.env whole = (do let v ← whole; standAt e.pos; holding [v] (truthy v)) := by intro _; rfl) : PT X e (tT M E (testM m)) :=
  PT_weak (pt_val (pe_rd h) he) fun _ _ _ q => tT_test q
variable {ta tb : Gam → R Bool} {rest : List Expr}
def andT (ta tb : Gam → R Bool) : Gam → R Bool := fun Γ => (ta Γ).bind fun c Γ1 => if c = true then tb Γ1 else .ok false Γ1
def orT (ta tb : Gam → R Bool) : Gam → R Bool := fun Γ => (ta Γ).bind fun c Γ1 => if c = true then .ok true Γ1 else tb Γ1
def notT (ta : Gam → R Bool) : Gam → R Bool := fun Γ => (ta Γ).bind fun c Γ1 => .ok (!c) Γ1
theorem w_and (ha : PT X a (tT M E ta)) (hb : PW X (.BoolOp .And (b :: rest) pos) (tT M E tb)) : PW X (.BoolOp .And (a :: b :: rest) pos) (tT M E (andT ta tb)) := PW_weak (pw_and ha hb) fun σ H Q q => by
  obtain ⟨Γ, F, own, st, p⟩ := q
  refine ⟨Γ, F, own, st, post_bind p fun F1 H1 own1 Γ1 x va _ st1 s1 r1 p1 => ?_⟩
  cases r1
  by_cases h : x = true
  · rw [if_pos h] at p1 ⊢
    exact ⟨Γ1, F1, own1, st1, p1.mono back_B s1⟩
  · rw [if_neg h] at p1 ⊢
    exact p1 _ F1 H1 own1 st1 s1 rfl
theorem w_or (ha : PT X a (tT M E ta)) (hb : PW X (.BoolOp .Or (b :: rest) pos) (tT M E tb)) : PW X (.BoolOp .Or (a :: b :: rest) pos) (tT M E (orT ta tb)) := PW_weak (pw_or ha hb) fun σ H Q q => by
  obtain ⟨Γ, F, own, st, p⟩ := q
  refine ⟨Γ, F, own, st, post_bind p fun F1 H1 own1 Γ1 x va _ st1 s1 r1 p1 => ?_⟩
  cases r1
  by_cases h : x = true
  · rw [if_pos h] at p1 ⊢
    exact p1 _ F1 H1 own1 st1 s1 rfl
  · rw [if_neg h] at p1 ⊢
    exact ⟨Γ1, F1, own1, st1, p1.mono back_B s1⟩
theorem w_and1 (ha : PT X a (tT M E ta)) : PW X (.BoolOp .And [a] pos) (tT M E ta) := pw_and1 ha
theorem w_or1 (ha : PT X a (tT M E ta)) : PW X (.BoolOp .Or [a] pos) (tT M E ta) := pw_or1 ha
theorem t_not (ha : PT X a (tT M E ta)) : PT X (.UnaryOp .Not a pos) (tT M E (notT ta)) := PT_weak (pt_not ha) fun σ H Q q => by
  obtain ⟨Γ, F, own, st, p⟩ := q
  refine ⟨Γ, F, own, st, post_bind p fun F1 H1 own1 Γ1 x va _ st1 s1 r1 p1 => ?_⟩
  cases r1
  exact p1 _ F1 H1 own1 st1 s1 rfl
/-! ### and, or, not as values; conditional expressions -/
def andM (ma mb : Gam → R Val) : Gam → R Val := fun Γ => (rd ma Γ).bind fun v Γ1 => match v with
  | .f (.bool c) => if c = true then mb Γ1 else .ok (.f (.bool false)) Γ1
  | _ => .stuck
def orM (ma mb : Gam → R Val) : Gam → R Val := fun Γ => (rd ma Γ).bind fun v Γ1 => match v with
  | .f (.bool c) => if c = true then .ok (.f (.bool true)) Γ1 else mb Γ1
  | _ => .stuck
def notM (ma : Gam → R Val) : Gam → R Val := fun Γ => (rd ma Γ).bind fun v Γ1 => match v with
  | .f (.bool c) => .ok (.f (.bool (!c))) Γ1
  | _ => .stuck
def ifM (t : Gam → R Bool) (ma mb : Gam → R Val) : Gam → R Val := fun Γ => (t Γ).bind fun c Γ1 => if c = true then ma Γ1 else mb Γ1
theorem e_one {op : BoolOp} (h : PE X a (tE M E ma)) : PE X (.BoolOp op [a] pos) (tE M E ma) := pe_one h
theorem e_and (ha : PE X a (tE M E ma)) (hb : PE X (.BoolOp .And (b :: rest) pos) (tE M E mb)) : PE X (.BoolOp .And (a :: b :: rest) pos) (tE M E (andM ma mb)) := PE_weak (pe_and (pe_rd ha) hb) fun σ H Q q => by
  obtain ⟨Γ, F, own, st, p⟩ := q
  refine ⟨Γ, F, own, st, post_bind p fun F1 H1 own1 Γ1 x va _ st1 s1 r1 p1 => ?_⟩
  split at p1
  · rename_i c _
    cases r1
    refine ⟨c, rfl, ?_⟩
    by_cases h : c = true
    · rw [if_pos h] at p1 ⊢
      exact ⟨Γ1, F1, own1, st1, p1.mono (back_V M) s1⟩
    · rw [if_neg h] at p1 ⊢
      exact post_now st1 s1 p1 (.bl _)
  · exact p1.elim
theorem e_or (ha : PE X a (tE M E ma)) (hb : PE X (.BoolOp .Or (b :: rest) pos) (tE M E mb)) : PE X (.BoolOp .Or (a :: b :: rest) pos) (tE M E (orM ma mb)) := PE_weak (pe_or (pe_rd ha) hb) fun σ H Q q => by
  obtain ⟨Γ, F, own, st, p⟩ := q
  refine ⟨Γ, F, own, st, post_bind p fun F1 H1 own1 Γ1 x va _ st1 s1 r1 p1 => ?_⟩
  split at p1
  · rename_i c _
    cases r1
    refine ⟨c, rfl, ?_⟩
    by_cases h : c = true
    · rw [if_pos h] at p1 ⊢
      exact post_now st1 s1 p1 (.bl _)
    · rw [if_neg h] at p1 ⊢
      exact ⟨Γ1, F1, own1, st1, p1.mono (back_V M) s1⟩
  · exact p1.elim
theorem e_not (ha : PE X a (tE M E ma)) : PE X (.UnaryOp .Not a pos) (tE M E (notM ma)) := PE_weak (pe_not (pe_rd ha)) fun σ H Q q => by
  obtain ⟨Γ, F, own, st, p⟩ := q
  refine ⟨Γ, F, own, st, post_bind p fun F1 H1 own1 Γ1 x va _ st1 s1 r1 p1 => ?_⟩
  split at p1
  · cases r1
    exact ⟨_, rfl, post_now st1 s1 p1 (.bl _)⟩
  · exact p1.elim
theorem e_if {t : Gam → R Bool} (hc : PT X c (tT M E t)) (ha : PE X a (tE M E ma)) (hb : PE X b (tE M E mb)) : PE X (.IfExp c a b pos) (tE M E (ifM t ma mb)) := PE_weak (pe_ifExp hc ha hb) fun σ H Q q => by
  obtain ⟨Γ, F, own, st, p⟩ := q
  refine ⟨Γ, F, own, st, post_bind p fun F1 H1 own1 Γ1 x va _ st1 s1 r1 p1 => ?_⟩
  cases r1
  by_cases h : x = true
  · rw [if_pos h] at p1 ⊢
    exact ⟨Γ1, F1, own1, st1, p1.mono (back_V M) s1⟩
  · rw [if_neg h] at p1 ⊢
    exact ⟨Γ1, F1, own1, st1, p1.mono (back_V M) s1⟩
/-! ### a op b op' c -/
def chainM (f f' : Gam → Val → Val → R Val) (ma mb mc : Gam → R Val) : Gam → R Val := fun Γ => (rd ma Γ).bind fun va Γ1 => (rd mb Γ1).bind fun vb Γ2 => (f Γ2 va vb).bind fun z Γ3 => match z with
  | .f (.bool k) => if k = true then (rd mc Γ3).bind fun vc Γ4 => f' Γ4 vb vc else .ok (.f (.bool false)) Γ3
  | _ => .stuck
theorem tE_chain {f f' : Gam → Val → Val → R Val} {r r' : R2} (hs : OpS M r f) (hs' : OpS M r' f') {σ : L2.St} {H : Hp} {Q : VK} (q : tE M E (chainM f f' ma mb mc) σ H Q) : tChain r r' (tD M E (rd ma)) (tD M E (rd mb)) (tD M E (rd mc)) σ H Q := by
  obtain ⟨Γ, F, own, st, p⟩ := q
  refine ⟨Γ, F, own, st, post_bind p fun F1 H1 own1 Γ1 x va _ st1 s1 r1 p1 => ⟨Γ1, F1, own1, st1, post_bind (p1.mono (back_V M) s1) fun F2 H2 own2 Γ2 y vb _ st2 s2 r2 p2 => ?_⟩⟩
  refine hs E Γ2 σ F2 H2 own2 F2 H2 own2 x y va vb _ st2 (.refl _ _ _) (ValRd.mono s2.ff r1) r2 (post_bind (p2.mono (back_V M) s2) fun F3 H3 own3 Γ3 z vz _ st3 s3 r3 p3 => ?_)
  split at p3
  · rename_i k _
    cases r3
    refine ⟨k, rfl, ?_⟩
    by_cases h : k = true
    · rw [if_pos h] at p3 ⊢
      refine ⟨Γ3, F3, own3, st3, post_bind (p3.mono (back_V M) s3) fun F4 H4 own4 Γ4 w vw _ st4 s4 r4 p4 => ?_⟩
      exact hs' E Γ4 σ F3 H3 own3 F4 H4 own4 y w vb vw _ st4 s4 (ValRd.mono s4.ff (ValRd.mono s3.ff r2)) r4 p4
    · rw [if_neg h] at p3 ⊢
      exact post_now st3 s3 p3 (.bl _)
  · exact p3.elim
theorem e_chain {op op' : CmpOp} {r r' : R2} {f f' : Gam → Val → Val → R Val} (ho : OpR X (compareOp op) r) (ho' : OpR X (compareOp op') r') (hs : OpS M r f) (hs' : OpS M r' f') (ha : PE X a (tE M E ma)) (hb : PE X b (tE M E mb)) (hc : PE X c (tE M E mc))
    (hm : lastMarks [op, op'] [b, c] = false) : PE X (.Compare a [op, op'] [b, c] pos) (tE M E (chainM f f' ma mb mc)) :=
  PE_weak (pe_chain ho ho' (pe_rd ha) (pe_rd hb) (pe_rd hc) hm) fun _ _ _ q => tE_chain hs hs' q
/-- a value that is a bool, behind a reading that is known for values -/
theorem tT_down {σ : L2.St} {H : Hp} {Q : Bool → Hp → Prop} (q : tT M E (testM m) σ H Q) : tE M E m σ H fun x H' => ∃ k, x = .bl k ∧ Q k H' := by
  obtain ⟨Γ, F, own, st, p⟩ := q
  refine ⟨Γ, F, own, st, ?_⟩
  unfold testM rd at p
  cases e : m Γ with
  | stuck =>
    rw [e] at p
    exact p
  | err x Γ1 =>
    rw [e] at p
    exact p
  | ok v Γ1 =>
    rw [e] at p
    intro x F1 H1 own1 st1 s1 r1
    cases v with
    | f d =>
      simp only [R.bind_ok, rdV] at p
      split at p
      · rename_i b hb
        cases hb
        cases r1
        exact ⟨_, rfl, p _ F1 H1 own1 st1 s1 rfl⟩
      · exact p.elim
    | b i => exact p.elim
    | n f =>
      simp only [R.bind_ok, rdV] at p
      obtain ⟨o, h1, h2⟩ := r1
      cases f with
      | fz d =>
        simp only [fldD] at p
        split at p
        · rename_i b hb
          cases hb
          cases h1.2
          exact ⟨_, rfl, p _ F1 H1 own1 st1 s1 rfl⟩
        · exact p.elim
      | ol ds => exact p.elim
      | oK ds => exact p.elim
      | oT ds => exact p.elim
    | nc c fds => exact p.elim
    | nb n d =>
      simp only [R.bind_ok, rdV] at p
      cases hd : frzT n d with
      | none =>
        rw [hd] at p
        exact p.elim
      | some d' =>
        rw [hd] at p
        obtain ⟨a, o, h0, h1, h2⟩ := r1
        subst h0
        obtain ⟨F', s1', s2', s3', s4'⟩ := st1.frzNew s1 h2 (box_frz h1 st1.fh (fun b hb => (h2 b hb).1) hd)
        simp only [R.bind_ok] at p
        split at p
        · rename_i b hb
          cases hb
          cases s4'
        · exact p.elim
theorem t_cmp {op : CmpOp} {r : R2} {f : Gam → Val → Val → R Val} (ho : OpR X (compareOp op) r) (hs : OpS M r f) (ha : PE X a (tE M E ma)) (hb : PE X b (tE M E mb)) (hm : behindInMarks op b = false) : PT X (.Compare a [op] [b] pos) (tT M E (testM (bin f ma mb))) :=
  PT_weak (pt_cmpR ho (pe_rd ha) (pe_rd hb) hm) fun σ H Q q => tE_bin hs (tT_down q)
theorem t_chain {op op' : CmpOp} {r r' : R2} {f f' : Gam → Val → Val → R Val} (ho : OpR X (compareOp op) r) (ho' : OpR X (compareOp op') r') (hs : OpS M r f) (hs' : OpS M r' f') (ha : PE X a (tE M E ma)) (hb : PE X b (tE M E mb)) (hc : PE X c (tE M E mc))
    (hm : lastMarks [op, op'] [b, c] = false) : PT X (.Compare a [op, op'] [b, c] pos) (tT M E (testM (chainM f f' ma mb mc))) :=
  PT_weak (pt_chain ho ho' (pe_rd ha) (pe_rd hb) (pe_rd hc) hm) fun _ _ _ q => tE_chain hs hs' (tT_down q)
end
end DL
end

section
set_option Elab.async false
set_option linter.all false
set_option maxRecDepth 100000
set_option maxHeartbeats 1000000
/-! DL6: arguments, built-ins, displays, fields, promises, calls. -/
namespace DL
open PySem PySem.Spec PyProof.Rows L2

/-! ### argument lists -/
def nilA : Gam → R (List Val) := fun Γ => .ok [] Γ
def consA (m : Gam → R Val) (ms : Gam → R (List Val)) : Gam → R (List Val) := fun Γ => (rd m Γ).bind fun v Γ1 => (ms Γ1).bind fun vs Γ2 => .ok (v :: vs) Γ2
section
variable {X : Cx} {M : Pm} {E : XK} {a b c e o : Expr} {es : List Expr} {ma mb mc m : Gam → R Val} {ms : Gam → R (List Val)} {pos : Pos}
theorem a_nil : PA X [] (tA M E nilA) := PA_weak pa_nil fun σ H Q q => by
  obtain ⟨Γ, F, own, st, p⟩ := q
  exact p [] F H own st (.refl _ _ _) .nil
theorem a_cons (ha : PE X e (tE M E m)) (hr : PA X es (tA M E ms)) (hs : starEach (e :: es) X.env = (false, eval e X.env) :: starEach es X.env := by rfl) : PA X (e :: es) (tA M E (consA m ms)) := PA_weak (pa_cons (pe_rd ha) hr hs) fun σ H Q q => by
  obtain ⟨Γ, F, own, st, p⟩ := q
  refine ⟨Γ, F, own, st, post_bind p fun F1 H1 own1 Γ1 x va _ st1 s1 r1 p1 => ⟨Γ1, F1, own1, st1, post_bind (p1.mono (back_A M) s1) fun F2 H2 own2 Γ2 xs vs _ st2 s2 r2 p2 => ?_⟩⟩
  exact p2 _ F2 H2 own2 st2 s2 (.cons (ValRd.mono s2.ff r1) r2)
/-! ### built-in functions, by values -/
def CallS (M : Pm) (r : List V → Hp → VK → Prop) (f : Gam → List Val → R Val) : Prop := ∀ E Γ σ F0 H0 own0 F H own xs as Q, StR M Γ σ F H own → Step F0 H0 own0 F H own → ValsRd M σ F xs as →
  PostG (relV M) M E σ F0 H0 own0 Q (f Γ as) → r xs H Q
def callM (f : Gam → List Val → R Val) (ms : Gam → R (List Val)) : Gam → R Val := fun Γ => (ms Γ).bind fun vs Γ1 => f Γ1 vs
theorem tE_call {r : List V → Hp → VK → Prop} {f : Gam → List Val → R Val} (hs : CallS M r f) {σ : L2.St} {H : Hp} {Q : VK} (q : tE M E (callM f ms) σ H Q) : tCB r (tA M E ms) σ H Q := by
  obtain ⟨Γ, F, own, st, p⟩ := q
  exact ⟨Γ, F, own, st, post_bind p fun F1 H1 own1 Γ1 xs vs _ st1 s1 r1 p1 => hs E Γ1 σ F H own F1 H1 own1 xs vs Q st1 s1 r1 p1⟩
theorem e_callB {x id : String} {r : List V → Hp → VK → Prop} {f : Gam → List Val → R Val} {p : Pos} (hc : CallR X (.builtin id) r) (hs : CallS M r f) (hg : Gl X (x : String)) (hm : X.mg x = none) (hv : bootBuiltins x = some (.builtin id)) (ha : PA X (e :: es) (tA M E ms))
    (hn : (x : Str) ≠ "__name__" := by decide) (hdb : ((x : Str) == ("__debug__" : Str)) = false := by decide)
    (he : starEach (e :: es) X.env = (false, eval e X.env) :: starEach es X.env := by rfl) (hpl : (backTo pos (starEach es X.env)).any (·.1) = false := by rfl) : PE X (.Call (.Name x p) (e :: es) [] pos) (tE M E (callM f ms)) :=
  PE_weak (pe_callB hc hg hm hv ha hn hdb he hpl) fun _ _ _ q => tE_call hs q
theorem e_callTy {x T : String} {r : List V → Hp → VK → Prop} {f : Gam → List Val → R Val} {p : Pos} (hc : CallR X (.type T) r) (hs : CallS M r f) (hg : Gl X (x : String)) (hm : X.mg x = none) (hv : bootBuiltins x = some (.type T)) (ha : PA X (e :: es) (tA M E ms))
    (hn : (x : Str) ≠ "__name__" := by decide) (hdb : ((x : Str) == ("__debug__" : Str)) = false := by decide)
    (he : starEach (e :: es) X.env = (false, eval e X.env) :: starEach es X.env := by rfl) (hpl : (backTo pos (starEach es X.env)).any (·.1) = false := by rfl) : PE X (.Call (.Name x p) (e :: es) [] pos) (tE M E (callM f ms)) :=
  PE_weak (pe_callTy hc hg hm hv ha hn hdb he hpl) fun _ _ _ q => tE_call hs q
/-! ### displays -/
def fzL (m : Gam → R Val) : Gam → R D := fun Γ => (m Γ).bind fun v Γ1 => fzV Γ1 v
def relF (M : Pm) : Rel V D := fun _ _ F _ _ v d => Rep M.cls F v d
theorem back_F (M : Pm) : Back (relF M) := fun _ _ _ _ _ _ _ _ _ r => r
abbrev tF (M : Pm) (E : XK) (m : Gam → R D) : TE := tG (relF M) M E m
theorem pe_fz (h : PE X e (tE M E m)) : PE X e (tF M E (fzL m)) := PE_weak h fun σ H Q q => by
  obtain ⟨Γ, F, own, st, p⟩ := q
  refine ⟨Γ, F, own, st, post_bind p fun F1 H1 own1 Γ1 x v _ st s r p => ?_⟩
  cases e : fzV Γ1 v with
  | ok d Γ2 =>
    obtain ⟨F', own', s1, s2, s3, s4⟩ := val_frz st s r e
    rw [e] at p
    exact p x F' H1 own' s1 s2 s4
  | err x' Γ2 =>
    cases v <;> simp only [fzV] at e
    · cases e
    · split at e
      · split at e <;> cases e
      · cases e
    · cases e
    · cases e
    · split at e <;> cases e
  | stuck =>
    rw [e] at p
    exact p.elim
def relFs (M : Pm) : Rel (List V) (List D) := fun _ _ F _ _ v d => RepAll M.cls F v d
theorem back_Fs (M : Pm) : Back (relFs M) := fun _ _ _ _ _ _ _ _ _ r => r
abbrev tFs (M : Pm) (E : XK) (m : Gam → R (List D)) : TA := tG (relFs M) M E m
def nilD : Gam → R (List D) := fun Γ => .ok [] Γ
def consD (m : Gam → R Val) (ms : Gam → R (List D)) : Gam → R (List D) := fun Γ => (fzL m Γ).bind fun v Γ1 => (ms Γ1).bind fun vs Γ2 => .ok (v :: vs) Γ2
variable {md : Gam → R (List D)}
theorem d_nil : PA X [] (tFs M E nilD) := PA_weak pa_nil fun σ H Q q => by
  obtain ⟨Γ, F, own, st, p⟩ := q
  exact p [] F H own st (.refl _ _ _) .nil
theorem d_cons (ha : PE X e (tE M E m)) (hr : PA X es (tFs M E md)) (hs : starEach (e :: es) X.env = (false, eval e X.env) :: starEach es X.env := by rfl) : PA X (e :: es) (tFs M E (consD m md)) := PA_weak (pa_cons (pe_fz ha) hr hs) fun σ H Q q => by
  obtain ⟨Γ, F, own, st, p⟩ := q
  refine ⟨Γ, F, own, st, post_bind p fun F1 H1 own1 Γ1 x va _ st1 s1 r1 p1 => ⟨Γ1, F1, own1, st1, post_bind (p1.mono (back_Fs M) s1) fun F2 H2 own2 Γ2 xs vs _ st2 s2 r2 p2 => ?_⟩⟩
  exact p2 _ F2 H2 own2 st2 s2 (.cons (Rep.mono s2.ff r1) r2)
def tupM (md : Gam → R (List D)) : Gam → R Val := fun Γ => (md Γ).bind fun ds Γ1 => if ds.length ≤ sizeLine then .ok (.f (.tuple ds)) Γ1 else .stuck
def lstM (md : Gam → R (List D)) : Gam → R Val := fun Γ => (md Γ).bind fun ds Γ1 => if ds.length ≤ sizeLine then .ok (.n (.ol ds)) Γ1 else .stuck
theorem e_tup {x1} (h : PA X es (tFs M E md)) : PE X (.Tuple es x1 pos) (tE M E (tupM md)) := PE_weak (pe_tup h) fun σ H Q q => by
  obtain ⟨Γ, F, own, st, p⟩ := q
  refine ⟨Γ, F, own, st, post_bind p fun F1 H1 own1 Γ1 xs ds _ st1 s1 r1 p1 => ?_⟩
  split at p1
  · rename_i h
    have e := RepAll.length r1
    exact ⟨by rw [e]; exact h, fun q hq => post_newU st1 s1 p1 hq r1⟩
  · exact p1.elim
theorem e_lst (h : PA X es (tFs M E md)) : PE X (.List es pos) (tE M E (lstM md)) := PE_weak (pe_lst h) fun σ H Q q => by
  obtain ⟨Γ, F, own, st, p⟩ := q
  refine ⟨Γ, F, own, st, post_bind p fun F1 H1 own1 Γ1 xs ds _ st1 s1 r1 p1 => ?_⟩
  split at p1
  · rename_i h
    have e := RepAll.length r1
    exact ⟨by rw [e]; exact h, fun q hq => post_newL st1 s1 p1 hq r1⟩
  · exact p1.elim
def dnewK : Gam → R Val := fun Γ => .ok (.n (.oK [])) Γ
def dnewT : Gam → R Val := fun Γ => .ok (.n (.oT [])) Γ
theorem e_dnewK : PE X (.Dict [] [] pos) (tE M E dnewK) := PE_weak pe_dnewK fun σ H Q q => by
  obtain ⟨Γ, F, own, st, p⟩ := q
  exact fun q hq => post_newO st (.refl _ _ _) p hq ⟨q, [], rfl, fun _ => .rfl, upd_same, rfl, .nil⟩
theorem e_dnewT : PE X (.Dict [] [] pos) (tE M E dnewT) := PE_weak pe_dnewT fun σ H Q q => by
  obtain ⟨Γ, F, own, st, p⟩ := q
  exact fun q hq => post_newO st (.refl _ _ _) p hq ⟨q, [], rfl, fun _ => .rfl, upd_same, rfl, .nil⟩
/-! ### fields -/
def strsOf : List (D × D) → Option (List (Str × D))
  | [] => some []
  | p :: r => match p.1, strsOf r with
    | .str s, some fs => some ((s, p.2) :: fs)
    | _, _ => none
def decI : D → Option (Str × List (Str × D))
  | .dict ((.none, .str c) :: r) => match strsOf r with
    | some fs => some (c, fs)
    | none => none
  | _ => none
theorem strsOf_map : ∀ fds : List (Str × D), strsOf (fds.map fun p => ((PyData.str p.1 : D), p.2)) = some fds
  | [] => rfl
  | p :: r => by simp [strsOf, strsOf_map r]
@[simp] theorem decI_ins (c : Str) (fds : List (Str × D)) : decI (ins c fds) = some (c, fds) := by
  simp [decI, ins, strsOf_map]
theorem strsOf_some : ∀ {r : List (D × D)} {fs : List (Str × D)}, strsOf r = some fs → r = fs.map fun p => ((PyData.str p.1 : D), p.2)
  | [], _, h => by
    simp [strsOf] at h
    subst h
    rfl
  | p :: r, fs, h => by
    simp only [strsOf] at h
    split at h
    · rename_i s fs' h1 h2
      cases h
      rw [strsOf_some h2, List.map_cons, ← h1]
    · cases h
theorem decI_some {d : D} {c : Str} {fs : List (Str × D)} (h : decI d = some (c, fs)) : d = ins c fs := by
  unfold decI at h
  split at h
  · split at h
    · rename_i h1
      cases h
      rw [strsOf_some h1]
      rfl
    · cases h
  · cases h
def viewI (Γ : Gam) : Val → Option (Str × List (Str × D))
  | .f d => decI d
  | .b i => match Γ[i]? with
    | some (.one (.fz d)) => decI d
    | some (.cmp c _ fds) => some (c, fds)
    | _ => none
  | _ => none
theorem view_I {Γ : Gam} {σ : L2.St} {F H : Hp} {own : Own} {x : V} {a : Val} {c : Str} {fds : List (Str × D)} (s : StR M Γ σ F H own) (h : ValRd M σ F x a) (e : viewI Γ a = some (c, fds)) :
    ∃ p dx fs, x = .ref p ∧ H p = some (.ins (M.cls c) dx fs) ∧ fs.map (·.1) = fds.map (·.1) ∧ RepAll M.cls F (fs.map (·.2)) (fds.map (·.2)) := by
  unfold viewI at e
  split at e
  · rw [decI_some e] at h
    obtain ⟨p, dx, fs, h1, h2, h3⟩ := Rep.invI h
    exact ⟨p, dx, fs, h1, s.fh _ _ h2, h3⟩
  · split at e
    · rename_i d hd
      obtain ⟨v, h1, _, h2⟩ := slotAt s h hd
      cases h1
      rw [decI_some e] at h2
      obtain ⟨p, dx, fs, h1, h2, h3⟩ := Rep.invI h2
      exact ⟨p, dx, fs, h1, s.fh _ _ h2, h3⟩
    · rename_i c' pin fds' hd
      cases e
      obtain ⟨a', h1, _, dx, fs, h2, _, h3⟩ := slotAt s h hd
      cases h1
      exact ⟨a', dx, fs, rfl, h2, h3⟩
    · cases e
  · cases e
structure AttrOk (M : Pm) (c f : Str) : Prop where
  cl : Cls M.K (M.cls c)
  no : NoAttr M.K (M.cls c) f
def fldK (cs : List Str) (f : Str) (m : Gam → R Val) : Gam → R Val := fun Γ => (rd m Γ).bind fun v Γ1 => match viewI Γ1 v with
  | some (c, fds) => if c ∈ cs then match look fds f with
      | some d => .ok (.f d) Γ1
      | none => .stuck
    else .stuck
  | none => .stuck
def fldM (cs : List Str) (f : Str) (m : Gam → R Val) : Gam → R Val := fun Γ => (rd m Γ).bind fun v Γ1 => match viewI Γ1 v with
  | some (c, fds) => if c ∈ cs then match look fds f with
      | some d => .ok (.f (strip d)) Γ1
      | none => .stuck
    else .stuck
  | none => .stuck
theorem look_lookup : ∀ (fs : List (Str × V)) (f : Str), fs.lookup f = look fs f
  | [], f => rfl
  | p :: r, f => by
    rw [List.lookup_cons, look]
    by_cases h : p.1 = f
    · subst h
      simp
    · have : (f == p.1) = false := by
        simp
        exact fun e => h e.symm
      rw [this, if_neg h, look_lookup r f]
theorem e_fldK {cs : List Str} {f : Str} (hK : X.K = M.K) (hA : ∀ c ∈ cs, AttrOk M c f) (ha : PE X e (tE M E m)) (hb : attributeBase e f X.env (eval e X.env) = eval e X.env) : PE X (.Attribute e f pos) (tE M E (fldK cs f m)) := PE_weak (pe_fld (pe_rd ha) hb) fun σ H Q q => by
  obtain ⟨Γ, F, own, st, p⟩ := q
  refine ⟨Γ, F, own, st, post_bind p fun F1 H1 own1 Γ1 x va _ st1 s1 r1 p1 => ?_⟩
  split at p1
  · rename_i c fds hv
    split at p1
    · rename_i hc
      split at p1
      · rename_i d hd
        obtain ⟨q, dx, fs, rfl, h1, h2, h3⟩ := view_I st1 r1 hv
        have ro := look_rep h2 h3 f
        rw [hd] at ro
        obtain ⟨v, hl, rv⟩ := repO_some ro
        rw [hK]
        exact ⟨q, _, dx, fs, v, rfl, h1, (hA c hc).cl, (hA c hc).no, by rw [look_lookup]; exact hl, post_now st1 s1 p1 rv⟩
      · exact p1.elim
    · exact p1.elim
  · exact p1.elim
theorem e_fld {cs : List Str} {f : Str} (hK : X.K = M.K) (hA : ∀ c ∈ cs, AttrOk M c f) (ha : PE X e (tE M E m)) (hb : attributeBase e f X.env (eval e X.env) = eval e X.env) : PE X (.Attribute e f pos) (tE M E (fldM cs f m)) := PE_weak (pe_fld (pe_rd ha) hb) fun σ H Q q => by
  obtain ⟨Γ, F, own, st, p⟩ := q
  refine ⟨Γ, F, own, st, post_bind p fun F1 H1 own1 Γ1 x va _ st1 s1 r1 p1 => ?_⟩
  split at p1
  · rename_i c fds hv
    split at p1
    · rename_i hc
      split at p1
      · rename_i d hd
        obtain ⟨q, dx, fs, rfl, h1, h2, h3⟩ := view_I st1 r1 hv
        have ro := look_rep h2 h3 f
        rw [hd] at ro
        obtain ⟨v, hl, rv⟩ := repO_some ro
        rw [hK]
        exact ⟨q, _, dx, fs, v, rfl, h1, (hA c hc).cl, (hA c hc).no, by rw [look_lookup]; exact hl, post_now st1 s1 p1 rv.strip⟩
      · exact p1.elim
    · exact p1.elim
  · exact p1.elim
end
/-! ### promises -/
def spG (M : Pm) (g : List Slot → R Val) : Sp := fun vs H Q E => ∃ As F own, StR M As (vs.map some) F H own ∧ PostG (relV M) M E (vs.map some) F H own Q (g As)
def isBx : Slot → Bool
  | .cmp _ _ _ => true
  | .box _ _ _ => true
  | _ => false
def unpin : Slot → Slot
  | .cmp c _ fds => .cmp c none fds
  | .box n _ d => .box n none d
  | s => s
def repin (s : Slot) : Slot → Slot
  | .cmp c _ fds => match s with
    | .cmp _ p _ => .cmp c p fds
    | .box _ p _ => .cmp c p fds
    | _ => .cmp c none fds
  | .box n _ d => match s with
    | .cmp _ p _ => .box n p d
    | .box _ p _ => .box n p d
    | _ => .box n none d
  | t => t
def outV : Val → Bool
  | .b _ => false
  | _ => true
def argsF : Gam → List Val → R (List D)
  | Γ, [] => .ok [] Γ
  | Γ, v :: vs => (fzV Γ v).bind fun d Γ1 => (argsF Γ1 vs).bind fun ds Γ2 => .ok (d :: ds) Γ2
/-- all arguments frozen -/
def callV (g : List Slot → R Val) (Γ : Gam) (vals : List Val) : R Val := (argsF Γ vals).bind fun ds Γ1 => match g (ds.map Slot.val) with
  | .ok v _ => if outV v = true then .ok v Γ1 else .stuck
  | .err e _ => .err e Γ1
  | .stuck => .stuck
/-- the first one an own object that the callee may change -/
def callX (g : List Slot → R Val) (Γ : Gam) (i : Nat) (vals : List Val) : R Val := (argsF Γ vals).bind fun ds Γ1 => match Γ1[i]? with
  | some s => if isBx s = true then match g (unpin s :: ds.map Slot.val) with
      | .ok v (s' :: _) => if outV v = true ∧ isBx s' = true then .ok v (Γ1.set i (repin s s')) else .stuck
      | .err e (s' :: _) => if isBx s' = true then .err e (Γ1.set i (repin s s')) else .stuck
      | _ => .stuck
    else .stuck
  | none => .stuck
def headBx (Γ : Gam) : List Val → Option (Nat × List Val)
  | .b i :: vs => match Γ[i]? with
    | some s => if isBx s = true then some (i, vs) else none
    | none => none
  | _ => none
def callG (g : List Slot → R Val) (Γ : Gam) (vals : List Val) : R Val := match headBx Γ vals with
  | some (i, vs) => callX g Γ i vs
  | none => callV g Γ vals
section
variable {M : Pm} {E : XK} {Γ : Gam} {σ : L2.St} {F0 H0 F H : Hp} {own0 own : Own} {Q : VK}
theorem args_ok : ∀ {vals : List Val} {Γ : Gam} {F H : Hp} {own : Own} {xs : List V} {ds : List D} {Γ' : Gam}, StR M Γ σ F H own → Step F0 H0 own0 F H own → ValsRd M σ F xs vals → argsF Γ vals = .ok ds Γ' →
    ∃ F' own', StR M Γ' σ F' H own' ∧ Step F0 H0 own0 F' H own' ∧ Ex F F' ∧ RepAll M.cls F' xs ds
  | [], Γ, F, H, own, xs, ds, Γ', s, st, r, e => by
    cases e
    cases r
    exact ⟨F, own, s, st, .refl _, .nil⟩
  | v :: vs, Γ, F, H, own, xs, ds, Γ', s, st, r, e => by
    cases r with
    | cons r1 r2 =>
      rename_i x xs
      simp only [argsF] at e
      cases e1 : fzV Γ v with
      | ok d Γ1 =>
        rw [e1] at e
        simp only [R.bind_ok] at e
        have rv : ValR M σ H0 F H own x v := by
          cases v with
          | f d => exact r1
          | b i => exact r1
          | n f => exact r1.elim
          | nc c f => exact r1.elim
          | nb n f => exact r1.elim
        obtain ⟨F1, own1, s1, st1, x1, p1⟩ := val_frz s st rv e1
        cases e2 : argsF Γ1 vs with
        | ok ds' Γ2 =>
          rw [e2] at e
          cases e
          obtain ⟨F2, own2, s2, st2, x2, p2⟩ := args_ok s1 st1 (r2.mono x1) e2
          exact ⟨F2, own2, s2, st2, x1.trans x2, .cons (Rep.mono x2 p1) p2⟩
        | err x Γ2 =>
          rw [e2] at e
          cases e
        | stuck =>
          rw [e2] at e
          cases e
      | err x Γ1 =>
        rw [e1] at e
        cases e
      | stuck =>
        rw [e1] at e
        cases e
theorem args_noerr {vals : List Val} {Γ : Gam} {x : Exc} {Γ' : Gam} (h : argsF Γ vals = .err x Γ') : False := by
  induction vals generalizing Γ with
  | nil => cases h
  | cons v vs ih =>
    simp only [argsF] at h
    cases e1 : fzV Γ v with
    | ok d Γ1 =>
      rw [e1] at h
      simp only [R.bind_ok] at h
      cases e2 : argsF Γ1 vs with
      | ok ds' Γ2 =>
        rw [e2] at h
        cases h
      | err y Γ2 =>
        rw [e2] at h
        simp only [R.bind_err, R.err.injEq] at h
        obtain ⟨rfl, rfl⟩ := h
        exact ih e2
      | stuck =>
        rw [e2] at h
        cases h
    | err y Γ1 =>
      cases v <;> simp only [fzV] at e1
      · cases e1
      · split at e1
        · split at e1 <;> cases e1
        · cases e1
      · cases e1
      · cases e1
      · split at e1 <;> cases e1
    | stuck =>
      rw [e1] at h
      cases h
/-- arguments that are frozen, as a state of their own -/
theorem args_state {xs : List V} {ds : List D} (fh : Ex F H) (r : RepAll M.cls F xs ds) : StR M (ds.map Slot.val) (xs.map some) F H (fun _ _ => False) where
  len := by simp [r.length]
  fh := fh
  slot := fun i s h => by
    rw [List.getElem?_map] at h
    cases hd : ds[i]? with
    | none =>
      rw [hd] at h
      cases h
    | some d =>
      rw [hd] at h
      cases h
      obtain ⟨v, h1, h2⟩ := r.at i d hd
      exact ⟨v, by rw [List.getElem?_map, h1]; rfl, fun _ h => h, h2⟩
  out := fun _ _ _ h => h
  free := fun _ _ h => h.elim
  there := fun _ _ h => h.elim
  disj := fun _ _ _ h _ => h.elim
/-! ### with or without a pinned argument -/
def npin : Slot → Bool
  | .cmp _ (some _) _ => false
  | .box _ (some _) _ => false
  | _ => true
theorem slot_up {o : Ow} {ov : Option (Option V)} {s : Slot} (h : SlotR M.b0 F H o ov s) : SlotR M F H o ov s := by
  cases s with
  | un => exact h
  | one f => cases f <;> exact h
  | cmp c pin fds =>
    obtain ⟨a, e, hp, q⟩ := h
    exact ⟨a, e, fun b hb => (nomatch hp b hb), q⟩
  | box n pin d =>
    obtain ⟨a, e, hp, q⟩ := h
    exact ⟨a, e, fun b hb => (nomatch hp b hb), q⟩
  | vw ds => exact h
theorem slot_down (a0 : Option Addr) {o : Ow} {ov : Option (Option V)} {s : Slot} (hn : npin s = true) (h : SlotR M F H o ov s) : SlotR ⟨M.K, M.cls, a0⟩ F H o ov s := by
  cases s with
  | un => exact h
  | one f => cases f <;> exact h
  | cmp c pin fds =>
    obtain ⟨a, e, hp, q⟩ := h
    cases pin with
    | none => exact ⟨a, e, fun b hb => (nomatch hb), q⟩
    | some b => cases hn
  | box n pin d =>
    obtain ⟨a, e, hp, q⟩ := h
    cases pin with
    | none => exact ⟨a, e, fun b hb => (nomatch hb), q⟩
    | some b => cases hn
  | vw ds => exact h
theorem StR.up (s : StR M.b0 Γ σ F H own) : StR M Γ σ F H own := ⟨s.len, s.fh, fun i x h => slot_up (s.slot i x h), s.out, s.free, s.there, s.disj⟩
theorem StR.down (a0 : Option Addr) (s : StR M Γ σ F H own) (hn : ∀ (i : Nat) x, Γ[i]? = some x → npin x = true) : StR ⟨M.K, M.cls, a0⟩ Γ σ F H own := ⟨s.len, s.fh, fun i x h => slot_down a0 (hn i x h) (s.slot i x h), s.out, s.free, s.there, s.disj⟩
theorem npin_unpin (s : Slot) : npin (unpin s) = true := by cases s <;> rfl
theorem npin_vals {s : Slot} (hs : npin s = true) (ds : List D) : ∀ (i : Nat) x, (s :: ds.map Slot.val)[i]? = some x → npin x = true := by
  intro i x h
  cases i with
  | zero =>
    cases h
    exact hs
  | succ i =>
    simp only [List.getElem?_cons_succ, List.getElem?_map] at h
    cases e : ds[i]? with
    | none => rw [e] at h; cases h
    | some d =>
      rw [e] at h
      cases h
      rfl
theorem grow_of {F1 H1 : Hp} {own1 : Own} (s : Step F H (fun _ _ => False) F1 H1 own1) (fh : Ex F1 H1) : Grow F H F1 H1 :=
  ⟨s.ff, fun a o h => s.hh a o h fun _ h => h, fh, fun a h1 h2 => s.nf a h1 h2 fun _ h => h⟩
theorem callV_ok {g : List Slot → R Val} {xs : List V} {vals : List Val} (s : StR M Γ σ F H own) (st : Step F0 H0 own0 F H own) (r : ValsRd M σ F xs vals) (p : PostG (relV M) M E σ F0 H0 own0 Q (callV g Γ vals)) : spG M.b0 g xs H Q E := by
  unfold callV at p
  cases e : argsF Γ vals with
  | err x Γ' => exact (args_noerr e).elim
  | stuck =>
    rw [e] at p
    exact p.elim
  | ok ds Γ1 =>
    rw [e] at p
    simp only [R.bind_ok] at p
    obtain ⟨F1, own1, s1, st1, x1, r1⟩ := args_ok s st r e
    refine ⟨ds.map Slot.val, F1, fun _ _ => False, args_state (M := M.b0) s1.fh r1, ?_⟩
    cases eg : g (ds.map Slot.val) with
    | stuck =>
      rw [eg] at p
      exact p.elim
    | err x As' =>
      rw [eg] at p
      exact fun F' H' own' dd w sA stA h1 h2 h3 h4 h5 => p F' H' own1 dd w (s1.grow (grow_of stA sA.fh)) (st1.trans ((grow_of stA sA.fh).step _)) h1 h2 h3 (fun i hi => s1.there i dd hi h5) (st1.none dd h5)
    | ok v As' =>
      rw [eg] at p
      simp only at p
      split at p
      · rename_i ho
        intro x F' H' own' sA stA rv
        have gr := grow_of stA sA.fh
        refine p x F' H' own1 (s1.grow gr) (st1.trans (gr.step _)) ?_
        have nw : ∀ {o}, New H F' H' own' o → New H0 F' H' own1 o := fun n a ha => by
          obtain ⟨h1, h2, h3, h4⟩ := n a ha
          exact ⟨h1, h2, fun i hi => s1.there i a hi h4, st1.none a h4⟩
        cases v with
        | f d => exact rv
        | b i => cases ho
        | n f =>
          obtain ⟨o, h1, h2⟩ := rv
          exact ⟨o, h1, nw h2⟩
        | nc c f =>
          obtain ⟨a, o, h0, h1, h2⟩ := rv
          exact ⟨a, o, h0, h1, nw h2⟩
        | nb n f =>
          obtain ⟨a, o, h0, h1, h2⟩ := rv
          exact ⟨a, o, h0, h1, nw h2⟩
      · exact p.elim
theorem repin_ok {F H : Hp} {o o' : Ow} {ov : Option (Option V)} {F' H' : Hp} {s t : Slot} (h : SlotR M F H o ov s) (hs : isBx s = true) (h' : SlotR M F' H' o' ov t) (ht : isBx t = true) : SlotR M F' H' o' ov (repin s t) := by
  cases t with
  | cmp c pin fds =>
    obtain ⟨a, e, _, q⟩ := h'
    cases s with
    | cmp c2 p2 f2 =>
      obtain ⟨a2, e2, hp, _⟩ := h
      rw [e] at e2
      cases e2
      exact ⟨a, e, hp, q⟩
    | box c2 p2 f2 =>
      obtain ⟨a2, e2, hp, _⟩ := h
      rw [e] at e2
      cases e2
      exact ⟨a, e, hp, q⟩
    | _ => cases hs
  | box c pin fds =>
    obtain ⟨a, e, _, q⟩ := h'
    cases s with
    | cmp c2 p2 f2 =>
      obtain ⟨a2, e2, hp, _⟩ := h
      rw [e] at e2
      cases e2
      exact ⟨a, e, hp, q⟩
    | box c2 p2 f2 =>
      obtain ⟨a2, e2, hp, _⟩ := h
      rw [e] at e2
      cases e2
      exact ⟨a, e, hp, q⟩
    | _ => cases hs
  | _ => cases ht
theorem unpin_ok {o : Ow} {ov : Option (Option V)} {s : Slot} (h : SlotR M F H o ov s) : SlotR M F H o ov (unpin s) := by
  cases s with
  | cmp c pin fds =>
    obtain ⟨a, e, _, q⟩ := h
    exact ⟨a, e, by simp, q⟩
  | box c pin fds =>
    obtain ⟨a, e, _, q⟩ := h
    exact ⟨a, e, by simp, q⟩
  | _ => exact h
theorem bx_ref {o : Ow} {v : V} {s : Slot} (h : SlotR M F H o (some (some v)) s) (hs : isBx s = true) : ∃ a, v = .ref a := by
  cases s with
  | cmp c pin fds =>
    obtain ⟨a, e, _⟩ := h
    cases e
    exact ⟨a, rfl⟩
  | box c pin fds =>
    obtain ⟨a, e, _⟩ := h
    cases e
    exact ⟨a, rfl⟩
  | _ => cases hs
theorem callX_ok {g : List Slot → R Val} {x : V} {xs : List V} {vals : List Val} {i : Nat} (s : StR M Γ σ F H own) (st : Step F0 H0 own0 F H own) (hx : σ[i]? = some (some x)) (r : ValsRd M σ F xs vals) (p : PostG (relV M) M E σ F0 H0 own0 Q (callX g Γ i vals)) : spG M.b0 g (x :: xs) H Q E := by
  unfold callX at p
  cases e : argsF Γ vals with
  | err x Γ' => exact (args_noerr e).elim
  | stuck =>
    rw [e] at p
    exact p.elim
  | ok ds Γ1 =>
    rw [e] at p
    simp only [R.bind_ok] at p
    obtain ⟨F1, own1, s1, st1, x1, r1⟩ := args_ok s st r e
    cases hs : Γ1[i]? with
    | none =>
      rw [hs] at p
      exact p.elim
    | some sl =>
      rw [hs] at p
      simp only at p
      by_cases hb : isBx sl = true
      · rw [if_pos hb] at p
        have hsl : SlotR M F1 H (own1 i) (some (some x)) sl := slotAt s1 hx hs
        have sA := args_state s1.fh r1
        have s2 : StR M (unpin sl :: ds.map Slot.val) ((x :: xs).map some) F1 H (fun k a => k = 0 ∧ own1 i a) := by
          refine ⟨by have := sA.len; simp at this ⊢; exact this, s1.fh, fun j y hj => ?_, fun j hj a q => ?_, fun j a q => s1.free i a q.2, fun j a q => s1.there i a q.2, fun j k a q1 q2 => by rw [q1.1, q2.1]⟩
          · cases j with
            | zero =>
              simp only [List.getElem?_cons_zero, Option.some.injEq] at hj
              subst hj
              have := unpin_ok hsl
              have e0 : (fun a => (0 : Nat) = 0 ∧ own1 i a) = own1 i := by
                funext a
                simp
              rw [e0]
              exact this
            | succ j =>
              simp only [List.getElem?_cons_succ] at hj
              have := sA.slot j y hj
              have e0 : (fun a => j + 1 = 0 ∧ own1 i a) = fun _ => False := by
                funext a
                simp
              rw [e0]
              exact this
          · obtain ⟨rfl, _⟩ := q
            simp at hj
        refine ⟨_, F1, _, s2.down none (npin_vals (npin_unpin sl) ds), ?_⟩
        have core : ∀ {s' : Slot} {As' : List Slot} {F' H' : Hp} {own' : Own}, isBx s' = true → StR M (s' :: As') ((x :: xs).map some) F' H' own' → Step F1 H (fun k a => k = 0 ∧ own1 i a) F' H' own' →
            StR M (Γ1.set i (repin sl s')) σ F' H' (putO own1 i (own' 0)) ∧ Step F1 H own1 F' H' (putO own1 i (own' 0)) := by
          intro s' As' F' H' own' hs' sB stB
          have hk : ∀ j b, j ≠ i → own1 j b → ∀ k, ¬ (k = 0 ∧ own1 i b) := fun j b hj hb k q => hj (s1.disj j i b hb q.2)
          have h0 := sB.slot 0 s' (by simp)
          simp only [List.map_cons, List.getElem?_cons_zero] at h0
          refine ⟨⟨by simp [s1.len], sB.fh, fun j y hj => ?_, fun j hj a => ?_, fun j a hj => ?_, fun j a hj => ?_, fun j k a hj hk' => ?_⟩, stB.ff, fun a o h n => stB.hh a o h fun k q => n i q.2, fun a h1 h2 n => stB.nf a h1 h2 fun k q => n i q.2, fun j a hj => ?_, stB.al⟩
          · by_cases e : j = i
            · subst e
              rw [List.getElem?_set_self (s1.lt hs)] at hj
              cases hj
              rw [putO_same, hx]
              exact repin_ok hsl hb h0 hs'
            · rw [List.getElem?_set_ne (Ne.symm e)] at hj
              rw [putO_ne e]
              exact (s1.slot j y hj).mono stB.ff fun b u q h => stB.hh b u h (hk j b e q)
          · rw [List.length_set] at hj
            rw [putO_ne (by have := s1.lt hs; omega)]
            exact s1.out j hj a
          · by_cases e : j = i
            · subst e; rw [putO_same] at hj; exact sB.free 0 a hj
            · rw [putO_ne e] at hj; exact stB.nf a (s1.free j a hj) (s1.there j a hj) (hk j a e hj)
          · by_cases e : j = i
            · subst e; rw [putO_same] at hj; exact sB.there 0 a hj
            · rw [putO_ne e] at hj; exact stB.al a (s1.there j a hj)
          · have key : ∀ j, j ≠ i → own1 j a → ¬ own' 0 a := fun j e q1 q2 => by
              rcases stB.no 0 a q2 with ⟨k, hk2⟩ | q
              · exact e (s1.disj j i a q1 hk2.2)
              · exact s1.there j a q1 q
            by_cases e : j = i
            · by_cases e' : k = i
              · rw [e, e']
              · subst e
                rw [putO_same] at hj
                rw [putO_ne e'] at hk'
                exact absurd hj (key k e' hk')
            · by_cases e' : k = i
              · subst e'
                rw [putO_same] at hk'
                rw [putO_ne e] at hj
                exact absurd hk' (key j e hj)
              · rw [putO_ne e] at hj
                rw [putO_ne e'] at hk'
                exact s1.disj j k a hj hk'
          · by_cases e : j = i
            · subst e
              rw [putO_same] at hj
              rcases stB.no 0 a hj with ⟨k, hk2⟩ | q
              · exact .inl ⟨j, hk2.2⟩
              · exact .inr q
            · rw [putO_ne e] at hj
              exact .inl ⟨j, hj⟩
        cases eg : g (unpin sl :: ds.map Slot.val) with
        | stuck =>
          rw [eg] at p
          exact p.elim
        | err y As' =>
          rw [eg] at p
          cases As' with
          | nil => exact p.elim
          | cons s' As' =>
            simp only at p
            by_cases hs' : isBx s' = true
            · rw [if_pos hs'] at p
              exact fun F' H' own' dd w sB stB h1 h2 h3 h4 h5 => by
                obtain ⟨sC, stC⟩ := core hs' sB.up stB
                refine p F' H' _ dd w sC (st1.trans stC) h1 h2 h3 (fun j hj => ?_) (st1.none dd h5)
                by_cases e : j = i
                · subst e; rw [putO_same] at hj; exact h4 0 hj
                · rw [putO_ne e] at hj; exact s1.there j dd hj h5
            · rw [if_neg hs'] at p
              exact p.elim
        | ok v As' =>
          rw [eg] at p
          cases As' with
          | nil => exact p.elim
          | cons s' As' =>
            simp only at p
            by_cases ho : outV v = true ∧ isBx s' = true
            · rw [if_pos ho] at p
              intro y F' H' own' sB stB rv
              obtain ⟨sC, stC⟩ := core ho.2 sB.up stB
              refine p y F' H' _ sC (st1.trans stC) ?_
              have nw : ∀ {o}, New H F' H' own' o → New H0 F' H' (putO own1 i (own' 0)) o := fun n a ha => by
                obtain ⟨h1, h2, h3, h4⟩ := n a ha
                refine ⟨h1, h2, fun j hj => ?_, st1.none a h4⟩
                by_cases e : j = i
                · subst e; rw [putO_same] at hj; exact h3 0 hj
                · rw [putO_ne e] at hj; exact s1.there j a hj h4
              cases v with
              | f d => exact rv
              | b i => cases ho.1
              | n f =>
                obtain ⟨o, h1, h2⟩ := rv
                exact ⟨o, h1, nw h2⟩
              | nc c f =>
                obtain ⟨a, o, h0, h1, h2⟩ := rv
                exact ⟨a, o, h0, h1, nw h2⟩
              | nb n f =>
                obtain ⟨a, o, h0, h1, h2⟩ := rv
                exact ⟨a, o, h0, h1, nw h2⟩
            · rw [if_neg ho] at p
              exact p.elim
      · rw [if_neg hb] at p
        exact p.elim
theorem callG_ok {g : List Slot → R Val} {xs : List V} {vals : List Val} (s : StR M Γ σ F H own) (st : Step F0 H0 own0 F H own) (r : ValsRd M σ F xs vals) (p : PostG (relV M) M E σ F0 H0 own0 Q (callG g Γ vals)) : spG M.b0 g xs H Q E := by
  unfold callG at p
  split at p
  · rename_i i vs hh
    unfold headBx at hh
    split at hh
    · split at hh
      · split at hh
        · cases hh
          cases r with
          | cons r1 r2 => exact callX_ok s st r1 r2 p
        · cases hh
      · cases hh
    · cases hh
  · exact callV_ok s st r p
end
section
variable {X : Cx} {M : Pm} {E : XK} {a b c e o : Expr} {es : List Expr} {m mo : Gam → R Val} {ms : Gam → R (List Val)} {pos p apos : Pos}
variable {CX : CXT} {k : Nat} {f C : Addr} {fd : FuncData} {ps : List Str} {x name : Str} {g : List Slot → R Val}
theorem e_call (F : FnOk X.prog X.w X.K X.mg X.base CX k f fd ps (spG M.b0 g)) (hr : Room k X.A) (hg : Gl X x) (hm : X.mg x = some (.ref f)) (hk : PySem.W.keepIn X.K (.ref f) = true) (hb : Binds X.K fd ps []) (hx : Passes CX X E)
    (ha : PA X (e :: es) (tA M E ms)) (hdb : (x == ("__debug__" : Str)) = false := by decide) (he : starEach (e :: es) X.env = (false, eval e X.env) :: starEach es X.env := by rfl) (hpl : (backTo pos (starEach es X.env)).any (·.1) = false := by rfl) :
    PE X (.Call (.Name x p) (e :: es) [] pos) (tE M E (callM (callG g) ms)) := PE_weak (pe_call F hr hg hm hk hb .nil hx ha hdb he hpl) fun σ H Q q => by
  obtain ⟨Γ, F, own, st, p⟩ := q
  refine ⟨Γ, F, own, st, post_bind p fun F1 H1 own1 Γ1 xs vs _ st1 s1 r1 p1 => ?_⟩
  rw [List.append_nil]
  exact callG_ok st1 s1 r1 p1
theorem e_call0 (F : FnOk X.prog X.w X.K X.mg X.base CX k f fd ps (spG M.b0 g)) (hr : Room k X.A) (hg : Gl X x) (hm : X.mg x = some (.ref f)) (hk : PySem.W.keepIn X.K (.ref f) = true) (hb : Binds X.K fd ps []) (hx : Passes CX X E)
    (hdb : (x == ("__debug__" : Str)) = false := by decide) : PE X (.Call (.Name x p) [] [] pos) (tE M E (fun Γ => callG g Γ [])) := PE_weak (pe_call0 F hr hg hm hk hb .nil hx hdb) fun σ H Q q => by
  obtain ⟨Γ, F, own, st, p⟩ := q
  exact callG_ok st (.refl _ _ _) .nil p
/-- the class and the fields' names of an instance -/
def viewC (Γ : Gam) (v : Val) : Option (Str × List Str) := match viewI Γ v with
  | some (c, fds) => some (c, fds.map (·.1))
  | none => match v with
    | .b i => match Γ[i]? with
      | some (.box n _ _) => bclsT n
      | _ => none
    | _ => none
theorem view_C {Γ : Gam} {σ : L2.St} {F H : Hp} {own : Own} {x : V} {a : Val} {c : Str} {ns : List Str} (s : StR M Γ σ F H own) (h : ValRd M σ F x a) (e : viewC Γ a = some (c, ns)) :
    ∃ p dx fs, x = .ref p ∧ H p = some (.ins (M.cls c) dx fs) ∧ fs.map (·.1) = ns := by
  unfold viewC at e
  split at e
  · rename_i c' fds hv
    cases e
    obtain ⟨p, dx, fs, h1, h2, h3, _⟩ := view_I s h hv
    exact ⟨p, dx, fs, h1, h2, h3⟩
  · split at e
    · split at e
      · rename_i n pin d hd
        obtain ⟨a', h1, _, h2⟩ := slotAt s h hd
        cases h1
        obtain ⟨dx, fs, h3, h4⟩ := box_ins h2 e
        exact ⟨a', dx, fs, rfl, h3, h4⟩
      · cases e
    · cases e
theorem look_not : ∀ {fs : List (Str × V)} {m : Str}, m ∉ fs.map (·.1) → fs.lookup m = none
  | [], m, _ => rfl
  | p :: r, m, h => by
    simp only [List.map_cons, List.mem_cons, not_or] at h
    rw [List.lookup_cons]
    have : (m == p.1) = false := by
      simp
      exact h.1
    rw [this, look_not h.2]
def methM (cl name : Str) (g : List Slot → R Val) (mo : Gam → R Val) (ms : Gam → R (List Val)) : Gam → R Val := fun Γ => (rd mo Γ).bind fun v Γ1 => match viewC Γ1 v with
  | some (c, ns) => if c = cl ∧ name ∉ ns then (ms Γ1).bind fun vs Γ2 => callG g Γ2 (v :: vs) else .stuck
  | none => .stuck
theorem e_meth {cl : Str} {pl : Sem Bool} (he : PE X o (tE M E mo)) (c : Cls X.K (M.cls cl)) (hm : Meth X.K (M.cls cl) name f) (F : FnOk X.prog X.w X.K X.mg X.base CX k f fd ps (spG M.b0 g)) (hr : Room k X.A) (hb : Binds X.K fd ps []) (hx : Passes CX X E) (ha : PA X (e :: es) (tA M E ms))
    (hst : starEach (e :: es) X.env = (false, eval e X.env) :: starEach es X.env := by rfl) (hpl : (backTo pos (starEach es X.env)).any (·.1) = false := by rfl)
    (ht : eval (.Call (.Attribute o name apos) (e :: es) [] pos) X.env = (do
      let ov ← eval o X.env
      standAt apos.atName
      let (f, first) ← holding [ov] (getMethod ov name pl)
      callWith pos f first (backTo pos (starEach (e :: es) X.env)) (backToKw pos (keywordEach [] X.env))) := by rfl) :
    PE X (.Call (.Attribute o name apos) (e :: es) [] pos) (tE M E (methM cl name g mo ms)) := PE_weak (pe_meth (pe_rd he) c hm F hr hb .nil hx ha hst hpl ht) fun σ H Q q => by
  obtain ⟨Γ, F, own, st, p⟩ := q
  refine ⟨Γ, F, own, st, post_bind p fun F1 H1 own1 Γ1 x va _ st1 s1 r1 p1 => ?_⟩
  split at p1
  · rename_i c' ns hv
    split at p1
    · rename_i hc
      obtain ⟨rfl, hn⟩ := hc
      obtain ⟨q, dx, fs, rfl, h1, h2⟩ := view_C st1 r1 hv
      refine ⟨q, dx, fs, rfl, h1, look_not (by rw [h2]; exact hn), Γ1, F1, own1, st1, post_bind (p1.mono (back_V M) s1) fun F2 H2 own2 Γ2 xs vs _ st2 s2 r2 p2 => ?_⟩
      rw [List.append_nil]
      exact callG_ok st2 s2 (.cons (ValRd.mono s2.ff r1) r2) p2
    · exact p1.elim
  · exact p1.elim
theorem e_meth0 {cl : Str} {pl : Sem Bool} (he : PE X o (tE M E mo)) (c : Cls X.K (M.cls cl)) (hm : Meth X.K (M.cls cl) name f) (F : FnOk X.prog X.w X.K X.mg X.base CX k f fd ps (spG M.b0 g)) (hr : Room k X.A) (hb : Binds X.K fd ps []) (hx : Passes CX X E)
    (ht : eval (.Call (.Attribute o name apos) [] [] pos) X.env = (do
      let ov ← eval o X.env
      standAt apos.atName
      let (f, first) ← holding [ov] (getMethod ov name pl)
      callWith pos f first (backTo pos (starEach [] X.env)) (backToKw pos (keywordEach [] X.env))) := by rfl) :
    PE X (.Call (.Attribute o name apos) [] [] pos) (tE M E (methM cl name g mo nilA)) := PE_weak (pe_meth0 (pe_rd he) c hm F hr hb .nil hx ht) fun σ H Q q => by
  obtain ⟨Γ, F, own, st, p⟩ := q
  refine ⟨Γ, F, own, st, post_bind p fun F1 H1 own1 Γ1 x va _ st1 s1 r1 p1 => ?_⟩
  split at p1
  · rename_i c' ns hv
    split at p1
    · rename_i hc
      obtain ⟨rfl, hn⟩ := hc
      obtain ⟨q, dx, fs, rfl, h1, h2⟩ := view_C st1 r1 hv
      exact ⟨q, dx, fs, rfl, h1, look_not (by rw [h2]; exact hn), callG_ok st1 s1 (.cons r1 .nil) p1⟩
    · exact p1.elim
  · exact p1.elim
/-! ### C(..) -/
def makeV (cl : Str) (g : List Slot → R Val) (Γ : Gam) (vals : List Val) : R Val := (argsF Γ vals).bind fun ds Γ1 => match g (.cmp cl none [] :: ds.map Slot.val) with
  | .ok (.f .none) (.cmp c _ fds :: _) => .ok (.nc c fds) Γ1
  | .ok (.f .none) (.box n _ d :: _) => .ok (.nb n d) Γ1
  | .err e _ => .err e Γ1
  | _ => .stuck
theorem make_ok {Γ : Gam} {σ : L2.St} {F0 H0 F H : Hp} {own0 own : Own} {Q : VK} {cl : Str} {xs : List V} {vals : List Val} (s : StR M Γ σ F H own) (st : Step F0 H0 own0 F H own) (r : ValsRd M σ F xs vals) (p : PostG (relV M) M E σ F0 H0 own0 Q (makeV cl g Γ vals))
    (x dx : Addr) (nx : H x = none) (ndx : H dx = none) (nex : dx ≠ x) : spG M.b0 g (.ref x :: (xs ++ [])) (upd (upd H dx (.own x)) x (.ins (M.cls cl) dx [])) (fun v H2 => v = .non ∧ Q (.ref x) H2) E := by
  rw [List.append_nil]
  unfold makeV at p
  cases e : argsF Γ vals with
  | err x Γ' => exact (args_noerr e).elim
  | stuck =>
    rw [e] at p
    exact p.elim
  | ok ds Γ1 =>
    rw [e] at p
    simp only [R.bind_ok] at p
    obtain ⟨F1, own1, s1, st1, x1, r1⟩ := args_ok s st r e
    have exH : Ex H (upd (upd H dx (.own x)) x (.ins (M.cls cl) dx [])) := fun a o h => by
      rw [upd_ne (ne_of_none h nx), upd_ne (ne_of_none h ndx)]
      exact h
    have g0 : Grow F1 H F1 (upd (upd H dx (.own x)) x (.ins (M.cls cl) dx [])) := ⟨.refl _, exH, s1.fh.trans exH, fun _ h _ => h⟩
    have s2 := s1.grow g0
    have st2 := st1.trans (g0.step own1)
    have sA := args_state s2.fh r1
    have s3 : StR M (.cmp cl none [] :: ds.map Slot.val) ((.ref x :: xs).map some) F1 (upd (upd H dx (.own x)) x (.ins (M.cls cl) dx [])) (fun k a => k = 0 ∧ a = x) := by
      refine ⟨by have := sA.len; simp at this ⊢; exact this, s2.fh, fun j y hj => ?_, fun j hj a q => ?_, fun j a q => ?_, fun j a q => ?_, fun j k a q1 q2 => by rw [q1.1, q2.1]⟩
      · cases j with
        | zero =>
          simp only [List.getElem?_cons_zero, Option.some.injEq] at hj
          subst hj
          refine ⟨x, by simp, by simp, dx, [], upd_same, fun b => by simp, rfl, .nil⟩
        | succ j =>
          simp only [List.getElem?_cons_succ] at hj
          have := sA.slot j y hj
          have e0 : (fun a => j + 1 = 0 ∧ a = x) = fun _ => False := by
            funext a
            simp
          rw [e0]
          exact this
      · obtain ⟨rfl, _⟩ := q
        simp at hj
      · rw [q.2]
        exact s1.fh.back nx
      · rw [q.2, upd_same]
        simp
    refine ⟨_, F1, _, s3.down none (npin_vals rfl ds), ?_⟩
    have gr : ∀ {F' H' : Hp} {own' : Own} {As' : List Slot} {σ' : L2.St}, StR M.b0 As' σ' F' H' own' → Step F1 (upd (upd H dx (.own x)) x (.ins (M.cls cl) dx [])) (fun k a => k = 0 ∧ a = x) F' H' own' → Grow F1 H F' H' := fun {F' H' own' As' σ'} sB stB =>
      ⟨stB.ff, fun a o h => stB.hh a o (exH a o h) (fun k q => by rw [q.2, nx] at h; cases h), sB.fh, fun a h1 h2 => stB.nf a h1 (fun q => h2 (exH.back q)) (fun k q => h2 (by rw [q.2]; exact nx))⟩
    cases eg : g (.cmp cl none [] :: ds.map Slot.val) with
    | stuck =>
      rw [eg] at p
      exact p.elim
    | err y As' =>
      rw [eg] at p
      exact fun F' H' own' dd w sB stB h1 h2 h3 h4 h5 => p F' H' own1 dd w (s1.grow (gr sB stB)) (st1.trans ((gr sB stB).step _)) h1 h2 h3 (fun i hi => s1.there i dd hi (exH.back h5)) (st1.none dd (exH.back h5))
    | ok v As' =>
      rw [eg] at p
      have own_new : ∀ {F' H' : Hp} {own' : Own} {σ' : L2.St}, StR M.b0 As' σ' F' H' own' → Step F1 (upd (upd H dx (.own x)) x (.ins (M.cls cl) dx [])) (fun k a => k = 0 ∧ a = x) F' H' own' → New H0 F' H' own1 (own' 0) := fun {F' H' own' σ'} sB stB a ha => by
        have hn : H a = none := by
          rcases stB.no 0 a ha with ⟨k, hk⟩ | q
          · rw [hk.2]
            exact nx
          · exact exH.back q
        exact ⟨sB.free 0 a ha, sB.there 0 a ha, fun i hi => s1.there i a hi hn, st1.none a hn⟩
      intro y F' H' own' sB stB rv
      have G := gr sB stB
      split at p
      · rename_i c pin fds rest he
        cases he
        cases rv
        refine ⟨rfl, p _ F' H' own1 (s1.grow G) (st1.trans (G.step _)) ?_⟩
        obtain ⟨a, ea, _, q⟩ := sB.slot 0 (.cmp c pin fds) (by simp)
        simp at ea
        subst ea
        exact ⟨_, own' 0, rfl, q, own_new sB stB⟩
      · rename_i c pin fds rest he
        cases he
        cases rv
        refine ⟨rfl, p _ F' H' own1 (s1.grow G) (st1.trans (G.step _)) ?_⟩
        obtain ⟨a, ea, _, q⟩ := sB.slot 0 (.box c pin fds) (by simp)
        simp at ea
        subst ea
        exact ⟨_, own' 0, rfl, q, own_new sB stB⟩
      · rename_i he
        cases he
      · exact p.elim
theorem e_make {cl : Str} (Mk_ : Mk X.K (M.cls cl) f) (F : FnOk X.prog X.w X.K X.mg X.base CX k f fd ps (spG M.b0 g)) (hr : Room (k + 1) X.A) (hg : Gl X x) (hm : X.mg x = some (.ref (M.cls cl))) (hb : Binds X.K fd ps []) (hx : Passes CX X E)
    (ha : PA X (e :: es) (tA M E ms)) (hdb : (x == ("__debug__" : Str)) = false := by decide) (he : starEach (e :: es) X.env = (false, eval e X.env) :: starEach es X.env := by rfl) (hpl : (backTo pos (starEach es X.env)).any (·.1) = false := by rfl) :
    PE X (.Call (.Name x p) (e :: es) [] pos) (tE M E (callM (makeV cl g) ms)) := PE_weak (pe_make Mk_ F hr hg hm hb .nil hx ha hdb he hpl) fun σ H Q q => by
  obtain ⟨Γ, F, own, st, p⟩ := q
  exact ⟨Γ, F, own, st, post_bind p fun F1 H1 own1 Γ1 xs vs _ st1 s1 r1 p1 => make_ok st1 s1 r1 p1⟩
theorem e_make0 {cl : Str} (Mk_ : Mk X.K (M.cls cl) f) (F : FnOk X.prog X.w X.K X.mg X.base CX k f fd ps (spG M.b0 g)) (hr : Room (k + 1) X.A) (hg : Gl X x) (hm : X.mg x = some (.ref (M.cls cl))) (hb : Binds X.K fd ps []) (hx : Passes CX X E)
    (hdb : (x == ("__debug__" : Str)) = false := by decide) : PE X (.Call (.Name x p) [] [] pos) (tE M E (fun Γ => makeV cl g Γ [])) := PE_weak (pe_make0 Mk_ F hr hg hm hb .nil hx hdb) fun σ H Q q => by
  obtain ⟨Γ, F, own, st, p⟩ := q
  exact make_ok st (.refl _ _ _) .nil p
end
end DL
end

section
set_option Elab.async false
set_option linter.all false
set_option maxRecDepth 100000
set_option maxHeartbeats 1000000
/-! DL7: targets, statements, loops, comprehensions. -/
namespace DL
open PySem PySem.Spec PyProof.Rows L2

inductive RS where
  | nx (Γ : Gam)
  | rt (v : Val) (Γ : Gam)
  | bk (Γ : Gam)
  | ct (Γ : Gam)
  | err (e : Exc) (Γ : Gam)
  | stuck
def PostS (M : Pm) (E : XK) (F H : Hp) (own : Own) (D : Ends) : RS → Prop
  | .nx Γ' => ∀ σ' F' H' own', StR M Γ' σ' F' H' own' → Step F H own F' H' own' → D.nx σ' H'
  | .bk Γ' => ∀ σ' F' H' own', StR M Γ' σ' F' H' own' → Step F H own F' H' own' → D.bk σ' H'
  | .ct Γ' => ∀ σ' F' H' own', StR M Γ' σ' F' H' own' → Step F H own F' H' own' → D.ct σ' H'
  | .rt v Γ' => ∀ x σ' F' H' own', StR M Γ' σ' F' H' own' → Step F H own F' H' own' → ValR M σ' H F' H' own' x v → D.rt x H'
  | .err e Γ' => ∀ σ', ErrP M E σ' F H own e Γ'
  | .stuck => False
theorem PostS.mono {M : Pm} {E : XK} {F H F1 H1 : Hp} {own own1 : Own} {D : Ends} (s : Step F H own F1 H1 own1) : ∀ {r : RS}, PostS M E F H own D r → PostS M E F1 H1 own1 D r
  | .nx Γ', h => fun σ' F' H' own' st s' => h σ' F' H' own' st (s.trans s')
  | .bk Γ', h => fun σ' F' H' own' st s' => h σ' F' H' own' st (s.trans s')
  | .ct Γ', h => fun σ' F' H' own' st s' => h σ' F' H' own' st (s.trans s')
  | .rt v Γ', h => fun x σ' F' H' own' st s' rv => h x σ' F' H' own' st (s.trans s') (back_V M _ _ _ _ _ _ _ _ s.none rv)
  | .err e Γ', h => fun σ' F' H' own' dd w st s' h1 h2 h3 h4 h5 => h σ' F' H' own' dd w st (s.trans s') h1 h2 h3 h4 (s.none _ h5)
  | .stuck, h => h
def tS (M : Pm) (E : XK) (m : Gam → RS) : TS := fun D σ H => ∃ Γ F own, StR M Γ σ F H own ∧ PostS M E F H own D (m Γ)
/-- an evaluation within a statement -/
theorem post_stm {α β : Type} {rel : Rel β α} {M : Pm} {E : XK} {r : R α} {k : α → Gam → RS} {σ : L2.St} {F0 H0 : Hp} {own0 : Own} {D : Ends} {Q' : β → Hp → Prop}
    (p : PostS M E F0 H0 own0 D (match r with | .ok a Γ => k a Γ | .err e Γ => .err e Γ | .stuck => .stuck))
    (hk : ∀ F1 H1 own1 Γ1 x a, r = .ok a Γ1 → StR M Γ1 σ F1 H1 own1 → Step F0 H0 own0 F1 H1 own1 → rel σ H0 F1 H1 own1 x a → PostS M E F0 H0 own0 D (k a Γ1) → Q' x H1) : PostG rel M E σ F0 H0 own0 Q' r := by
  cases e : r with
  | ok a Γ1 =>
    simp only [e] at p
    exact fun x F1 H1 own1 st1 s1 v => hk F1 H1 own1 Γ1 x a e st1 s1 v p
  | err x Γ1 =>
    simp only [e] at p
    exact p σ
  | stuck =>
    simp only [e] at p
    exact p
def stm {α : Type} (r : R α) (k : α → Gam → RS) : RS := match r with
  | .ok a Γ => k a Γ
  | .err e Γ => .err e Γ
  | .stuck => .stuck
@[simp] theorem stm_ok {α : Type} (a : α) (Γ : Gam) (k : α → Gam → RS) : stm (.ok a Γ) k = k a Γ := rfl
@[simp] theorem stm_err {α : Type} (e : Exc) (Γ : Gam) (k : α → Gam → RS) : stm (.err e Γ) k = .err e Γ := rfl
@[simp] theorem stm_stuck {α : Type} (k : α → Gam → RS) : stm .stuck k = .stuck := rfl
section
variable {X : Cx} {st : Stmt} {sts : List Stmt}
theorem PS_weak {t t' : TS} (h : PS X st t) (w : ∀ D σ H, t' D σ H → t D σ H) : PS X st t' := ⟨fun pins s σ H D I q => h.run pins s σ H D I (w D σ H q)⟩
theorem PSs_weak {t t' : TS} (h : PSs X sts t) (w : ∀ D σ H, t' D σ H → t D σ H) : PSs X sts t' := ⟨fun pins s σ H D I q => h.run pins s σ H D I (w D σ H q)⟩
theorem PG_weak {e : Expr} {t t' : TG} (h : PG X e t) (w : ∀ v σ H Q, t' v σ H Q → t v σ H Q) : PG X e t' := ⟨fun pins s σ H v u Q I r q => h.run pins s σ H v u Q I r (w v σ H Q q)⟩
theorem PGs_weak {es : List Expr} {t t' : TGs} (h : PGs X es t) (w : ∀ v σ H Q, t' v σ H Q → t v σ H Q) : PGs X es t' := ⟨fun pins s σ H v u Q I r q => h.run pins s σ H v u Q I r (w v σ H Q q)⟩
theorem PI_weak {tg e : Expr} {t t' : TI} (h : PI X tg e t) (w : ∀ σ H Q, t' σ H Q → t σ H Q) : PI X tg e t' := ⟨fun pins s σ H R I q => h.run pins s σ H R I (w σ H R q)⟩
end

/-! ### blocks -/
def nextM : Gam → RS := fun Γ => .nx Γ
def seqM (m n : Gam → RS) : Gam → RS := fun Γ => match m Γ with
  | .nx Γ1 => n Γ1
  | r => r
section
variable {X : Cx} {M : Pm} {E : XK} {st : Stmt} {rest : List Stmt} {e a b c : Expr} {m n : Gam → RS} {me : Gam → R Val} {pos : Pos}
theorem ss_nil : PSs X [] (tS M E nextM) := PSs_weak pss_nil fun D σ H ⟨Γ, F, own, s, p⟩ => p σ F H own s (.refl _ _ _)
theorem ss_one (h : PS X st (tS M E m)) : PSs X [st] (tS M E m) := pss_one h
theorem ss_cons (h : PS X st (tS M E m)) (h2 : PSs X rest (tS M E n)) : PSs X (st :: rest) (tS M E (seqM m n)) := PSs_weak (pss_cons h h2) fun D σ H ⟨Γ, F, own, s, p⟩ => by
  refine ⟨Γ, F, own, s, ?_⟩
  unfold seqM at p
  cases e : m Γ with
  | nx Γ1 =>
    rw [e] at p
    exact fun σ' F' H' own' s' st' => ⟨Γ1, F', own', s', p.mono st'⟩
  | rt v Γ1 => rw [e] at p; exact p
  | bk Γ1 => rw [e] at p; exact p
  | ct Γ1 => rw [e] at p; exact p
  | err x Γ1 => rw [e] at p; exact p
  | stuck => rw [e] at p; exact p
/-! ### small statements -/
theorem s_pass : PS X (.Pass pos) (tS M E nextM) := PS_weak ps_pass fun D σ H ⟨Γ, F, own, s, p⟩ => p σ F H own s (.refl _ _ _)
theorem s_break : PS X (.Break pos) (tS M E fun Γ => .bk Γ) := PS_weak ps_break fun D σ H ⟨Γ, F, own, s, p⟩ => p σ F H own s (.refl _ _ _)
theorem s_continue : PS X (.Continue pos) (tS M E fun Γ => .ct Γ) := PS_weak ps_continue fun D σ H ⟨Γ, F, own, s, p⟩ => p σ F H own s (.refl _ _ _)
theorem s_never : PS X st (tS M E fun _ => .stuck) := PS_weak ps_never fun D σ H ⟨Γ, F, own, s, p⟩ => p
def exprM (m : Gam → R Val) : Gam → RS := fun Γ => stm (m Γ) fun _ Γ1 => .nx Γ1
theorem s_expr (h : PE X e (tE M E me)) (hs : swapsWith e none pos.line X.env = pure false := by rfl) : PS X (.Expr e pos) (tS M E (exprM me)) := PS_weak (ps_expr h hs) fun D σ H ⟨Γ, F, own, s, p⟩ =>
  ⟨Γ, F, own, s, post_stm p fun F1 H1 own1 Γ1 x a _ s1 st1 r p1 => p1 σ F1 H1 own1 s1 st1⟩
/-- a returned value: one in a slot is frozen -/
def retV (v : Val) (Γ : Gam) : RS := match v with
  | .b i => stm (fzV Γ (.b i)) fun d Γ1 => .rt (.f d) Γ1
  | v => .rt v Γ
def retM (m : Gam → R Val) : Gam → RS := fun Γ => stm (m Γ) (retV)
theorem s_ret (h : PE X e (tE M E me)) : PS X (.Return (some e) pos) (tS M E (retM me)) := PS_weak (ps_ret h) fun D σ H ⟨Γ, F, own, s, p⟩ =>
  ⟨Γ, F, own, s, post_stm p fun F1 H1 own1 Γ1 x a _ s1 st1 r p1 => by
    cases a with
    | b i =>
      simp only [retV] at p1
      cases e : fzV Γ1 (.b i) with
      | stuck => rw [e] at p1; exact p1.elim
      | err y Γ2 =>
        simp only [fzV] at e
        split at e
        · split at e <;> cases e
        · cases e
      | ok d Γ2 =>
        rw [e] at p1
        obtain ⟨F', own', s2, st2, _, r2⟩ := val_frz s1 st1 r e
        exact p1 x σ F' H1 own' s2 st2 r2
    | f d => exact p1 x σ F1 H1 own1 s1 st1 r
    | n f => exact p1 x σ F1 H1 own1 s1 st1 r
    | nc c f => exact p1 x σ F1 H1 own1 s1 st1 r
    | nb n f => exact p1 x σ F1 H1 own1 s1 st1 r⟩
theorem s_retN : PS X (.Return none pos) (tS M E fun Γ => .rt (.f .none) Γ) := PS_weak ps_retN fun D σ H ⟨Γ, F, own, s, p⟩ => p .non σ F H own s (.refl _ _ _) .non
def ifS (t : Gam → R Bool) (m n : Gam → RS) : Gam → RS := fun Γ => stm (t Γ) fun c Γ1 => if c = true then m Γ1 else n Γ1
theorem s_if {t : Gam → R Bool} {ba bb : List Stmt} (hc : PT X c (tT M E t)) (ha : PSs X ba (tS M E m)) (hb : PSs X bb (tS M E n)) : PS X (.If c ba bb pos) (tS M E (ifS t m n)) := PS_weak (ps_if hc ha hb) fun D σ H ⟨Γ, F, own, s, p⟩ =>
  ⟨Γ, F, own, s, post_stm p fun F1 H1 own1 Γ1 x a _ s1 st1 r p1 => by
    cases r
    by_cases h : x = true
    · rw [if_pos h] at p1 ⊢
      exact ⟨Γ1, F1, own1, s1, p1.mono st1⟩
    · rw [if_neg h] at p1 ⊢
      exact ⟨Γ1, F1, own1, s1, p1.mono st1⟩⟩
/-! ### targets -/
def tGt (M : Pm) (ts : List Nat) (tg : D → Gam → Option Gam) : TG := fun v σ H Q => ∃ Γ F own d, StR M Γ σ F H own ∧ Rep M.cls F v d ∧ match tg d Γ with
  | some Γ' => ∀ σ' own', StR M Γ' σ' F H own' → Step F H own F H own' → (∀ j, j ∉ ts → σ'[j]? = σ[j]?) → σ'.length = σ.length → Q σ' H
  | none => False
def tGts (M : Pm) (ts : List Nat) (tg : List D → Gam → Option Gam) : TGs := fun vs σ H Q => ∃ Γ F own ds, StR M Γ σ F H own ∧ RepAll M.cls F vs ds ∧ match tg ds Γ with
  | some Γ' => ∀ σ' own', StR M Γ' σ' F H own' → Step F H own F H own' → (∀ j, j ∉ ts → σ'[j]? = σ[j]?) → σ'.length = σ.length → Q σ' H
  | none => False
def tgN (i : Nat) (d : D) (Γ : Gam) : Option Gam := if i < Γ.length then some (Γ.set i (.val d)) else none
def tgNil (ds : List D) (Γ : Gam) : Option Gam := match ds with
  | [] => some Γ
  | _ => none
def tgCons (t : D → Gam → Option Gam) (u : List D → Gam → Option Gam) (ds : List D) (Γ : Gam) : Option Gam := match ds with
  | [] => none
  | d :: r => (t d Γ).bind (u r)
def tgT (n : Nat) (u : List D → Gam → Option Gam) (d : D) (Γ : Gam) : Option Gam := match d with
  | .tuple ds => if ds.length = n then u ds Γ else none
  | _ => none
theorem step_own {F H : Hp} {own own' : Own} (h : ∀ i a, own' i a → (∃ j, own j a) ∨ H a = none) : Step F H own F H own' := ⟨.refl _, fun _ _ h _ => h, fun _ h _ _ => h, h, fun _ h => h⟩
theorem StR.setv {M : Pm} {Γ : Gam} {σ : L2.St} {F H : Hp} {own : Own} {i : Nat} {v : V} {d : D} (s : StR M Γ σ F H own) (hi : i < Γ.length) (r : Rep M.cls F v d) :
    StR M (Γ.set i (.val d)) (σ.set i (some v)) F H (putO own i fun _ => False) ∧ Step F H own F H (putO own i fun _ => False) :=
  ⟨s.put hi ⟨v, rfl, fun _ h => h, r⟩ (fun _ h => h.elim) (fun _ h => h.elim) fun _ h => h.elim, step_own fun j a h => by
    by_cases e : j = i
    · subst e; rw [putO_same] at h; exact h.elim
    · rw [putO_ne e] at h; exact .inl ⟨j, h⟩⟩
theorem g_name {i : Nat} {x : Str} (hN : X.N.Nodup) (hi : X.N[i]? = some x) (hx : Loc X.env.scope x) (hf : X.fn x = true ∨ X.env.scope.names.lookup x = some .local := by first | exact .inl rfl | exact .inr rfl | assumption) : PG X (.Name x pos) (tGt M [i] (tgN i)) := PG_weak (pg_name hN hi hx hf) fun v σ H Q ⟨Γ, F, own, d, s, r, h⟩ => by
  unfold tgN at h
  split at h
  · rename_i Γ' hg
    split at hg
    · rename_i hl
      cases hg
      exact h _ _ (s.setv hl r).1 (s.setv hl r).2 (fun j hj => List.getElem?_set_ne (by simp at hj; exact fun e => hj e.symm)) (by simp)
    · cases hg
  · exact h.elim
theorem gs_nil : PGs X [] (tGts M [] tgNil) := PGs_weak pgs_nil fun v σ H Q ⟨Γ, F, own, ds, s, r, h⟩ => by
  cases r with
  | nil => exact ⟨rfl, h σ own s (.refl _ _ _) (fun _ _ => rfl) rfl⟩
  | cons _ _ => exact h.elim
theorem gs_cons {es : List Expr} {t : D → Gam → Option Gam} {u : List D → Gam → Option Gam} {t1 t2 : List Nat} (h1 : PG X e (tGt M t1 t)) (h2 : PGs X es (tGts M t2 u))
    (hs : (assignEach (e :: es) X.env).map (·.2) = assign e X.env :: (assignEach es X.env).map (·.2) := by rfl) : PGs X (e :: es) (tGts M (t1 ++ t2) (tgCons t u)) := PGs_weak (pgs_cons h1 h2 hs) fun v σ H Q ⟨Γ, F, own, ds, s, r, h⟩ => by
  cases r with
  | nil => exact h.elim
  | @cons v vs d ds r1 r2 =>
    refine ⟨v, vs, rfl, Γ, F, own, d, s, r1, ?_⟩
    simp only [tgCons] at h
    cases e : t d Γ with
    | none =>
      rw [e] at h
      exact h.elim
    | some Γ1 =>
      rw [e] at h
      intro σ1 own1 s1 st1 k1 l1
      refine ⟨Γ1, F, own1, ds, s1, r2, ?_⟩
      simp only [Option.bind_some] at h
      split at h
      · exact fun σ2 own2 s2 st2 k2 l2 => h σ2 own2 s2 (st1.trans st2) (fun j hj => by
          simp only [List.mem_append, not_or] at hj
          rw [k2 j hj.2, k1 j hj.1]) (l2.trans l1)
      · exact h.elim
theorem g_tup {es : List Expr} {k n : Nat} {ts : List Nat} {u : List D → Gam → Option Gam} (hc : X.calm = true) (h : PGs X es (tGts M ts u)) (hn : (assignEach es X.env).length = n := by rfl) (hst : (assignEach es X.env).findIdx? (·.1) = none := by rfl) :
    PG X (.Tuple es k pos) (tGt M ts (tgT n u)) := PG_weak (pg_tup hc h hn hst) fun v σ H Q ⟨Γ, F, own, d, s, r, h⟩ => by
  unfold tgT at h
  cases d with
  | tuple ds =>
    obtain ⟨a, vs, rfl, h1, h2⟩ := Rep.invU r
    simp only at h
    split at h
    · rename_i Γ' hg
      split at hg
      · rename_i hl
        refine ⟨a, vs, rfl, .inl (rd_up s.fh h1), by rw [h2.length]; exact hl, Γ, F, own, ds, s, h2, ?_⟩
        rw [hg]
        exact h
      · cases hg
    · exact h.elim
  | _ => exact h.elim
/-! ### assignments -/
def asgM (m : Gam → R Val) (tg : D → Gam → Option Gam) : Gam → RS := fun Γ => stm (fzL m Γ) fun d Γ1 => match tg d Γ1 with
  | some Γ2 => .nx Γ2
  | none => .stuck
theorem s_asg {tg : Expr} {ts : List Nat} {t : D → Gam → Option Gam} (he : PE X e (tE M E me)) (hg : PG X tg (tGt M ts t)) (hs : swapsWithSole [tg] e pos.line X.env = pure false := by rfl) (hw : swappedStores [tg] e X.env = pure none := by rfl)
    (h1 : (assignEach [tg] X.env).map (·.2) = [assign tg X.env] := by rfl) : PS X (.Assign [tg] e pos) (tS M E (asgM me t)) := PS_weak (ps_asg (pe_fz he) hg hs hw h1) fun D σ H ⟨Γ, F, own, s, p⟩ =>
  ⟨Γ, F, own, s, post_stm p fun F1 H1 own1 Γ1 x a _ s1 st1 r p1 => by
    refine ⟨Γ1, F1, own1, a, s1, r, ?_⟩
    split at p1
    · exact fun σ' own' s' st' _ _ => p1 σ' F1 H1 own' s' (st1.trans st')
    · exact p1.elim⟩
/-- x = e: what is new belongs to the slot -/
def setV (i : Nat) (v : Val) (Γ : Gam) : RS := if i < Γ.length then match v with
    | .f d => .nx (Γ.set i (.val d))
    | .n f => .nx (Γ.set i (.one f))
    | .nc c fds => .nx (Γ.set i (.cmp c none fds))
    | .nb n d => .nx (Γ.set i (.box n none d))
    | .b j => stm (fzV Γ (.b j)) fun d Γ1 => .nx (Γ1.set i (.val d))
  else .stuck
def setM (i : Nat) (m : Gam → R Val) : Gam → RS := fun Γ => stm (m Γ) (setV i)
theorem StR.setn {M : Pm} {Γ : Gam} {σ : L2.St} {H0 F H : Hp} {own : Own} {i : Nat} {v : V} {x : Slot} {o : Ow} (s : StR M Γ σ F H own) (hi : i < Γ.length) (n : New H0 F H own o) (h : SlotR M F H o (some (some v)) x) :
    StR M (Γ.set i x) (σ.set i (some v)) F H (putO own i o) := s.put hi h (fun a ha => (n a ha).1) (fun a ha => (n a ha).2.1) fun a ha j _ hj => (n a ha).2.2.1 j hj
theorem step_setn {H0 F0 F H : Hp} {own0 own : Own} {i : Nat} {o : Ow} (st : Step F0 H0 own0 F H own) (n : New H0 F H own o) : Step F0 H0 own0 F H (putO own i o) :=
  ⟨st.ff, st.hh, st.nf, fun j a h => by
    by_cases e : j = i
    · subst e; rw [putO_same] at h; exact .inr (n a h).2.2.2
    · rw [putO_ne e] at h; exact st.no j a h, st.al⟩
theorem set_ok {D : Ends} {σ : L2.St} {F0 H0 F H : Hp} {own0 own : Own} {Γ : Gam} {i : Nat} {x : V} {a : Val} (s : StR M Γ σ F H own) (st : Step F0 H0 own0 F H own) (r : ValR M σ H0 F H own x a) (p : PostS M E F0 H0 own0 D (setV i a Γ)) : D.nx (σ.set i (some x)) H := by
  unfold setV at p
  split at p
  · rename_i hi
    cases a with
    | f d => exact p _ F H _ (s.setv hi r).1 (st.trans (s.setv hi r).2)
    | n f =>
      obtain ⟨o, h1, h2⟩ := r
      exact p _ F H _ (s.setn hi h2 ⟨x, rfl, h1⟩) (step_setn st h2)
    | nc c f =>
      obtain ⟨a, o, rfl, h1, h2⟩ := r
      exact p _ F H _ (s.setn hi h2 ⟨a, rfl, by simp, h1⟩) (step_setn st h2)
    | nb c f =>
      obtain ⟨a, o, rfl, h1, h2⟩ := r
      exact p _ F H _ (s.setn hi h2 ⟨a, rfl, by simp, h1⟩) (step_setn st h2)
    | b j =>
      simp only at p
      cases e : fzV Γ (.b j) with
      | stuck => rw [e] at p; exact p.elim
      | err y Γ2 =>
        simp only [fzV] at e
        split at e
        · split at e <;> cases e
        · cases e
      | ok d Γ2 =>
        rw [e] at p
        obtain ⟨F', own', s2, st2, _, r2⟩ := val_frz s st r e
        have hl : i < Γ2.length := by rw [s2.len, ← s.len]; exact hi
        exact p _ F' H _ (s2.setv hl r2).1 (st2.trans (s2.setv hl r2).2)
  · exact p.elim
theorem s_set {i : Nat} {x : Str} {pos' : Pos} (hN : X.N.Nodup) (hi : X.N[i]? = some x) (hx : Loc X.env.scope x) (he : PE X e (tE M E me)) (hs : swapsWith e (some (.Name x pos')) pos.line X.env = pure false := by rfl) (hf : X.fn x = true ∨ X.env.scope.names.lookup x = some .local := by first | exact .inl rfl | exact .inr rfl | assumption) :
    PS X (.Assign [.Name x pos'] e pos) (tS M E (setM i me)) := PS_weak (ps_set hN hi hx he hs hf) fun D σ H ⟨Γ, F, own, s, p⟩ =>
  ⟨Γ, F, own, s, post_stm p fun F1 H1 own1 Γ1 x a _ s1 st1 r p1 => set_ok s1 st1 r p1⟩
/-- a, b = x, y -/
def parM (i j : Nat) (ms : Gam → R (List D)) : Gam → RS := fun Γ => stm (ms Γ) fun ds Γ1 => match ds with
  | [d, d'] => if i < Γ1.length ∧ j < Γ1.length then .nx ((Γ1.set i (.val d)).set j (.val d')) else .stuck
  | _ => .stuck
theorem s_par {i j : Nat} {x y : Str} {ms : Gam → R (List D)} {px py pt : Pos} {kt k2 pt2} (hc : X.calm = true) (hN : X.N.Nodup) (hi : X.N[i]? = some x) (hj : X.N[j]? = some y) (hij : i ≠ j)
    (hx : X.env.scope.names.lookup x = some .local) (hy : X.env.scope.names.lookup y = some .local) (ha : PA X [a, b] (tFs M E ms))
    (hw : swappedStores [.Tuple [.Name x px, .Name y py] kt pt] (.Tuple [a, b] k2 pt2) X.env = pure (some [x, y]))
    (hs : swapsWithSole [.Tuple [.Name x px, .Name y py] kt pt] (.Tuple [a, b] k2 pt2) pos.line X.env = pure false := by rfl) :
    PS X (.Assign [.Tuple [.Name x px, .Name y py] kt pt] (.Tuple [a, b] k2 pt2) pos) (tS M E (parM i j ms)) := PS_weak (ps_par hc hN hi hj hij hx hy ha hw hs) fun D σ H ⟨Γ, F, own, s, p⟩ =>
  ⟨Γ, F, own, s, post_stm p fun F1 H1 own1 Γ1 xs ds _ s1 st1 r p1 => by
    split at p1
    · split at p1
      · rename_i hl
        cases r with
        | cons r1 r =>
          cases r with
          | cons r2 r =>
            cases r
            have q1 := s1.setv hl.1 r1
            have q2 := q1.1.setv (i := j) (by simp; exact hl.2) r2
            exact ⟨_, _, rfl, p1 _ F1 H1 _ q2.1 ((st1.trans q1.2).trans q2.2)⟩
      · exact p1.elim
    · exact p1.elim⟩
end
end DL
end

section
set_option Elab.async false
set_option linter.all false
set_option maxRecDepth 100000
set_option maxHeartbeats 1000000
/-! DL8: what is walked; for, while; comprehensions. -/
namespace DL
open PySem PySem.Spec PyProof.Rows L2

/-- the items; the slot that a walked list of one's own stands in, with what it must hold -/
structure Src where
  items : List D
  br : Option (Nat × List D)
def Src.ok (s : Src) (Γ : Gam) : Prop := ∀ k ds, s.br = some (k, ds) → Γ[k]? = some (.one (.ol ds))
structure ItD (M : Pm) (J : It) (σ0 : L2.St) (F0 : Hp) (s : Src) : Prop where
  go : ∀ i Γ σ F H own, i < s.items.length → StR M Γ σ F H own → Ex F0 F → s.ok Γ → (∀ k ds, s.br = some (k, ds) → σ[k]? = σ0[k]?) → J.go i H
  stop : ∀ i Γ σ F H own, i = s.items.length → StR M Γ σ F H own → Ex F0 F → s.ok Γ → (∀ k ds, s.br = some (k, ds) → σ[k]? = σ0[k]?) → J.stop i H
  yld : ∀ i Γ σ F H own x H', i < s.items.length → StR M Γ σ F H own → Ex F0 F → s.ok Γ → (∀ k ds, s.br = some (k, ds) → σ[k]? = σ0[k]?) → J.yld i H x H' →
    ∃ F' d, Grow F H F' H' ∧ s.items[i]? = some d ∧ Rep M.cls F' x d
def PostI (M : Pm) (E : XK) (σ : L2.St) (F H : Hp) (own : Own) (R' : It → Hp → Prop) : R Src → Prop
  | .ok s Γ' => ∀ F' H' own' J, StR M Γ' σ F' H' own' → Step F H own F' H' own' → ItD M J σ F' s → s.ok Γ' → R' J H'
  | .err e Γ' => ErrP M E σ F H own e Γ'
  | .stuck => False
def tI (M : Pm) (E : XK) (m : Gam → R Src) : TI := fun σ H R' => ∃ Γ F own, StR M Γ σ F H own ∧ PostI M E σ F H own R' (m Γ)
/-! ### the sources -/
/-- the items of a value that is a list or a tuple -/
def srcF (Γ : Gam) (v : Val) : R Src := match v with
  | .f (.list ds) => .ok ⟨ds, none⟩ Γ
  | .f (.tuple ds) => .ok ⟨ds, none⟩ Γ
  | .b i => match Γ[i]? with
    | some (.one (.ol ds)) => .ok ⟨ds, some (i, ds)⟩ Γ
    | some (.vw ds) => .ok ⟨ds, none⟩ Γ
    | _ => .stuck
  | _ => .stuck
def srcM (m : Gam → R Val) : Gam → R Src := fun Γ => (rd m Γ).bind fun v Γ1 => srcF Γ1 v
section
variable {M : Pm} {Γ : Gam} {σ : L2.St} {F H : Hp} {own : Own}
theorem itd_list {a : Addr} {vs : List V} {ds : List D} (h : ∀ F', Ex F F' → ∀ Γ' σ' H' own', StR M Γ' σ' F' H' own' → SqL M.K H' a vs) (hi : ∀ ys H', SqL M.K H' a vs → SqL M.K H' a ys → ys = vs) (r : RepAll M.cls F vs ds) : ItD M (Itl M.K a) σ F ⟨ds, none⟩ where
  go := fun i Γ σ F' H' own' hi' s e _ _ => by
    obtain ⟨v, hv, _⟩ := r.at i (ds[i]'hi') (List.getElem?_eq_getElem _)
    exact ⟨vs, v, h F' e _ _ _ _ s, hv⟩
  stop := fun i Γ σ F' H' own' hi' s e _ _ => ⟨vs, h F' e _ _ _ _ s, by rw [r.length]; exact Nat.le_of_eq hi'.symm⟩
  yld := fun i Γ σ F' H' own' x H'' hi' s e _ _ y => by
    obtain ⟨rfl, hy⟩ := y
    obtain ⟨d, hd, rd⟩ := r.at' i x (hy vs (h F' e _ _ _ _ s))
    exact ⟨F', d, .refl s.fh, hd, rd.mono e⟩
theorem itd_tup {a : Addr} {vs : List V} {ds : List D} (h : ∀ F', Ex F F' → ∀ Γ' σ' H' own', StR M Γ' σ' F' H' own' → SqT M.K H' a vs) (r : RepAll M.cls F vs ds) : ItD M (Itt M.K a) σ F ⟨ds, none⟩ where
  go := fun i Γ σ F' H' own' hi' s e _ _ => by
    obtain ⟨v, hv, _⟩ := r.at i (ds[i]'hi') (List.getElem?_eq_getElem _)
    exact ⟨vs, v, h F' e _ _ _ _ s, hv⟩
  stop := fun i Γ σ F' H' own' hi' s e _ _ => ⟨vs, h F' e _ _ _ _ s, by rw [r.length]; exact Nat.le_of_eq hi'.symm⟩
  yld := fun i Γ σ F' H' own' x H'' hi' s e _ _ y => by
    obtain ⟨rfl, hy⟩ := y
    obtain ⟨d, hd, rd⟩ := r.at' i x (hy vs (h F' e _ _ _ _ s))
    exact ⟨F', d, .refl s.fh, hd, rd.mono e⟩
theorem itd_own {a : Addr} {k : Nat} {ds : List D} (hσ : σ[k]? = some (some (.ref a))) : ItD M (Itl M.K a) σ F ⟨ds, some (k, ds)⟩ where
  go := fun i Γ σ' F' H' own' hi' s e ok hs => by
    obtain ⟨v, h1, l, vs, h2, _, h3, h4⟩ := s.slot k _ (ok k ds rfl)
    rw [hs k ds rfl, hσ] at h1
    cases h1
    cases h2
    obtain ⟨v, hv, _⟩ := h4.at i (ds[i]'hi') (List.getElem?_eq_getElem _)
    exact ⟨vs, v, .of h3, hv⟩
  stop := fun i Γ σ' F' H' own' hi' s e ok hs => by
    obtain ⟨v, h1, l, vs, h2, _, h3, h4⟩ := s.slot k _ (ok k ds rfl)
    rw [hs k ds rfl, hσ] at h1
    cases h1
    cases h2
    exact ⟨vs, .of h3, by rw [h4.length]; exact Nat.le_of_eq hi'.symm⟩
  yld := fun i Γ σ' F' H' own' x H'' hi' s e ok hs y => by
    obtain ⟨rfl, hy⟩ := y
    obtain ⟨v, h1, l, vs, h2, _, h3, h4⟩ := s.slot k _ (ok k ds rfl)
    rw [hs k ds rfl, hσ] at h1
    cases h1
    cases h2
    obtain ⟨d, hd, rd⟩ := h4.at' i x (hy vs (.of h3))
    exact ⟨F', d, .refl s.fh, hd, rd⟩
end
/-! ### a list, a tuple, a text: known only at the run -/
def iSeq (K : PySem.W.Frag) (tl : TE) : TI := fun σ H R => tl σ H fun x H1 => (∃ a, x = .ref a ∧ ((∃ xs, SqL K H1 a xs) ∧ R (Itl K a) H1 ∨ (∃ xs, SqT K H1 a xs) ∧ R (Itt K a) H1)) ∨ ∃ z, x = .str z ∧ R (Its z) H1
theorem pi_seq {X : Cx} {tg l : Expr} {tl : TE} (hl : PE X l tl) : PI X tg l (iSeq X.K tl) := by
  refine ⟨fun pins s σ H R I h => ?_⟩
  refine thn (hl.run pins s σ H (fun x H1 => (∃ a, x = .ref a ∧ ((∃ xs, SqL X.K H1 a xs) ∧ R (Itl X.K a) H1 ∨ (∃ xs, SqT X.K H1 a xs) ∧ R (Itt X.K a) H1)) ∨ ∃ z, x = .str z ∧ R (Its z) H1) I h) fun v s1 ⟨x, H1, I1, rx, q⟩ => ?_
  rcases q with ⟨a, ex, ⟨⟨xs, hq⟩, q⟩ | ⟨⟨xs, hq⟩, q⟩⟩ | ⟨z, ex, q⟩
  · subst ex
    cases rx
    obtain ⟨its, rv, p, hz⟩ := I1.list hq
    refine wpAny_pyIter_list p.isList ?_
    refine ⟨s1.heap.objs.size, [s1.heap.objs.size], _, _, H1, rfl, I1.kept (t' := s1.toks) fun b o e => Heap.get?_push_of_some _ e, turn_list a _, ⟨_, Heap.get?_push_size _ rfl, rfl, rfl⟩, fun b hb => ?_, q⟩
    have e : b = s1.heap.objs.size := by simpa using hb
    subst e
    exact I1.fpOk (Nat.le_refl _) (I1.hok.fresh (Nat.le_refl _))
  · subst ex
    cases rx
    obtain ⟨its, rv, p, hz⟩ := I1.tuple hq
    refine wpAny_pyIter_tuple (show s1.heap.IsTuple a its.toArray from p) ?_
    refine ⟨s1.heap.objs.size, [s1.heap.objs.size], _, _, H1, rfl, I1.kept (t' := s1.toks) fun b o e => Heap.get?_push_of_some _ e, turn_tuple a _, ⟨_, Heap.get?_push_size _ rfl, rfl, rfl⟩, fun b hb => ?_, q⟩
    have e : b = s1.heap.objs.size := by simpa using hb
    subst e
    exact I1.fpOk (Nat.le_refl _) (I1.hok.fresh (Nat.le_refl _))
  · subst ex
    obtain ⟨t, rfl⟩ := rx
    cases ha : z.cps.all (· < 128)
    · exact wpAny_pyIter_wide ha (pi_one (tk := s1.toks) I1 _ (turn_str _ z t "str_iterator" (.inr rfl)) ⟨_, Heap.get?_push_size _ rfl, rfl, rfl⟩ q)
    · exact wpAny_pyIter_ascii ha (pi_one (tk := s1.toks) I1 _ (turn_str _ z t "str_ascii_iterator" (.inl rfl)) ⟨_, Heap.get?_push_size _ rfl, rfl, rfl⟩ q)
/-- the signs of a text -/
def signsD (z : Str) : List D := z.cps.toList.map fun c => .str ⟨#[c]⟩
def srcF' (Γ : Gam) (v : Val) : R Src := match v with
  | .f (.str z) => .ok ⟨signsD z, none⟩ Γ
  | v => srcF Γ v
def srcM' (m : Gam → R Val) : Gam → R Src := fun Γ => (rd m Γ).bind fun v Γ1 => srcF' Γ1 v
theorem src_ok {M : Pm} {Γ Γ' : Gam} {σ : L2.St} {F H : Hp} {own : Own} {x : V} {a : Val} {s : Src} (st : StR M Γ σ F H own) (r : ValRd M σ F x a) (e : srcF Γ a = .ok s Γ') : Γ' = Γ ∧ s.ok Γ ∧
    ∃ p, x = .ref p ∧ (((∃ xs, SqL M.K H p xs ∧ RepAll M.cls F xs (match s.br with | some (_, ds) => ds | none => s.items)) ∧ ItD M (Itl M.K p) σ F s) ∨ ((∃ xs, Rd F p (.tup xs) ∧ SqT M.K H p xs ∧ RepAll M.cls F xs s.items) ∧ s.br = none ∧ ItD M (Itt M.K p) σ F s)) := by
  unfold srcF at e
  split at e
  · cases e
    obtain ⟨p, vs, rfl, h1, h2⟩ := Rep.invL r
    have hL : ∀ F', Ex F F' → ∀ Γ' σ' H' own', StR M Γ' σ' F' H' own' → SqL M.K H' p vs := fun F' e _ _ H' _ s => .of (s.fh _ _ (e _ _ h1))
    refine ⟨rfl, fun _ _ h => by simp at h, p, rfl, .inl ⟨⟨vs, .of (st.fh _ _ h1), h2⟩, ?_⟩⟩
    exact {
      go := fun i Γ σ F' H' own' hi' s e _ _ => by
        obtain ⟨v, hv, _⟩ := h2.at i (_) (List.getElem?_eq_getElem hi')
        exact ⟨vs, v, hL F' e _ _ _ _ s, hv⟩
      stop := fun i Γ σ F' H' own' hi' s e _ _ => ⟨vs, hL F' e _ _ _ _ s, by rw [h2.length]; exact Nat.le_of_eq hi'.symm⟩
      yld := fun i Γ σ F' H' own' x H'' hi' s e _ _ y => by
        obtain ⟨rfl, hy⟩ := y
        obtain ⟨d, hd, rd⟩ := h2.at' i x (hy vs (hL F' e _ _ _ _ s))
        exact ⟨F', d, .refl s.fh, hd, rd.mono e⟩ }
  · cases e
    obtain ⟨p, vs, rfl, h1, h2⟩ := Rep.invU r
    exact ⟨rfl, fun _ _ h => by simp at h, p, rfl, .inr ⟨⟨vs, h1, .inl (rd_up st.fh h1), h2⟩, rfl, itd_tup (fun F' e _ _ H' _ s => .inl (rd_up s.fh (rd_up e h1))) h2⟩⟩
  · split at e
    · rename_i i ds hd
      cases e
      obtain ⟨v, h1, l, vs, h2, _, h3, h4⟩ := slotAt st r hd
      cases h1
      subst h2
      refine ⟨rfl, fun k ds' h => ?_, l, rfl, .inl ⟨⟨vs, .of h3, h4⟩, itd_own r⟩⟩
      cases h
      exact hd
    · rename_i i ds hd
      cases e
      obtain ⟨_, l, vs, h2, h3, h4⟩ := slotAt st r hd
      cases h2
      have hL : ∀ F', Ex F F' → ∀ Γ' σ' H' own', StR M Γ' σ' F' H' own' → SqL M.K H' l vs := fun F' e _ _ H' _ s => sqL_ex s.fh (sqL_ex e h3)
      refine ⟨rfl, fun _ _ h => by simp at h, l, rfl, .inl ⟨⟨vs, sqL_ex st.fh h3, h4⟩, ?_⟩⟩
      exact {
        go := fun i Γ σ F' H' own' hi' s e _ _ => by
          obtain ⟨v, hv, _⟩ := h4.at i (_) (List.getElem?_eq_getElem hi')
          exact ⟨vs, v, hL F' e _ _ _ _ s, hv⟩
        stop := fun i Γ σ F' H' own' hi' s e _ _ => ⟨vs, hL F' e _ _ _ _ s, by rw [h4.length]; exact Nat.le_of_eq hi'.symm⟩
        yld := fun i Γ σ F' H' own' x H'' hi' s e _ _ y => by
          obtain ⟨rfl, hy⟩ := y
          obtain ⟨d, hd, rd⟩ := h4.at' i x (hy vs (hL F' e _ _ _ _ s))
          exact ⟨F', d, .refl s.fh, hd, rd.mono e⟩ }
    · cases e
  · cases e
theorem itd_str {M : Pm} {σ : L2.St} {F : Hp} (z : Str) : ItD M (Its z) σ F ⟨signsD z, none⟩ where
  go := fun i Γ σ F' H' own' hi' s e _ _ => by
    show i < z.cps.size
    simpa [signsD] using hi'
  stop := fun i Γ σ F' H' own' hi' s e _ _ => by
    show z.cps.size ≤ i
    simp [signsD] at hi'
    omega
  yld := fun i Γ σ F' H' own' x H'' hi' s e _ _ y => by
    obtain ⟨rfl, c, hc, rfl⟩ := y
    refine ⟨F', _, .refl s.fh, ?_, .str _⟩
    simp [signsD, hc]
section
variable {X : Cx} {M : Pm} {E : XK} {tg e e2 a b : Expr} {es : List Expr} {m : Gam → R Val} {ms : Gam → R (List Val)} {p pos tpos : Pos} {elts : List Expr} {kk : Nat}
theorem post_srcb {α β : Type} {rel : Rel β α} {r : R α} {k : α → Gam → R Src} {σ : L2.St} {F0 H0 : Hp} {own0 : Own} {R' : It → Hp → Prop} {Q' : β → Hp → Prop}
    (p : PostI M E σ F0 H0 own0 R' (r.bind k))
    (hk : ∀ F1 H1 own1 Γ1 x a, StR M Γ1 σ F1 H1 own1 → Step F0 H0 own0 F1 H1 own1 → rel σ H0 F1 H1 own1 x a → PostI M E σ F0 H0 own0 R' (k a Γ1) → Q' x H1) : PostG rel M E σ F0 H0 own0 Q' r := by
  cases e : r with
  | ok a Γ1 =>
    simp only [e, R.bind_ok] at p
    exact fun x F1 H1 own1 st1 s1 v => hk F1 H1 own1 Γ1 x a st1 s1 v p
  | err x Γ1 =>
    simp only [e, R.bind_err] at p
    exact p
  | stuck =>
    simp only [e, R.bind_stuck] at p
    exact p
theorem i_seq (hK : X.K = M.K) (h : PE X e (tE M E m)) : PI X tg e (tI M E (srcM' m)) := PI_weak (pi_seq (pe_rd h)) fun σ H R' ⟨Γ, F, own, s, q⟩ => by
  refine ⟨Γ, F, own, s, post_srcb q fun F1 H1 own1 Γ1 x a st1 s1 r1 p1 => ?_⟩
  rw [hK]
  unfold srcF' at p1
  split at p1
  · cases r1
    exact .inr ⟨_, rfl, p1 F1 H1 own1 _ st1 s1 (itd_str _) (fun _ _ h => by simp at h)⟩
  · cases es : srcF Γ1 a with
    | stuck => rw [es] at p1; exact p1.elim
    | err y Γ2 =>
      unfold srcF at es
      split at es
      · cases es
      · cases es
      · split at es <;> cases es
      · cases es
    | ok sr Γ2 =>
      rw [es] at p1
      obtain ⟨rfl, ok, q, rfl, ⟨⟨xs, h1, _⟩, h2⟩ | ⟨⟨xs, _, h1, _⟩, _, h2⟩⟩ := src_ok st1 r1 es
      · exact .inl ⟨q, rfl, .inl ⟨⟨xs, h1⟩, p1 F1 H1 own1 _ st1 s1 h2 ok⟩⟩
      · exact .inl ⟨q, rfl, .inr ⟨⟨xs, h1⟩, p1 F1 H1 own1 _ st1 s1 h2 ok⟩⟩
/-! ### range -/
def rangeD (lo : Int) (n : Nat) : List D := (List.range n).map fun i => .int (lo + (i : Nat))
theorem itd_range {σ : L2.St} {F : Hp} (lo : Int) (n : Nat) : ItD M (Itr lo n) σ F ⟨rangeD lo n, none⟩ where
  go := fun i Γ σ F' H' own' hi' s e _ _ => by
    show i < n
    simpa [rangeD] using hi'
  stop := fun i Γ σ F' H' own' hi' s e _ _ => by
    show n ≤ i
    simp [rangeD] at hi'
    omega
  yld := fun i Γ σ F' H' own' x H'' hi' s e _ _ y => by
    obtain ⟨rfl, rfl⟩ := y
    refine ⟨F', _, .refl s.fh, ?_, .int _⟩
    have : i < n := by simpa [rangeD] using hi'
    simp [rangeD, this]
def rg1M (ms : Gam → R (List Val)) : Gam → R Src := fun Γ => (ms Γ).bind fun vs Γ1 => match vs with
  | [.f (.int j)] => if -(2 ^ 62) ≤ j ∧ j < 2 ^ 62 then .ok ⟨rangeD 0 j.toNat, none⟩ Γ1 else .stuck
  | _ => .stuck
def rg2M (ms : Gam → R (List Val)) : Gam → R Src := fun Γ => (ms Γ).bind fun vs Γ1 => match vs with
  | [.f (.int i), .f (.int j)] => if -(2 ^ 62) ≤ i ∧ i < 2 ^ 62 ∧ -(2 ^ 62) ≤ j ∧ j < 2 ^ 62 then .ok ⟨rangeD i (j - i).toNat, none⟩ Γ1 else .stuck
  | _ => .stuck
theorem i_range1 (hg : Gl X "range") (hm : X.mg "range" = none) (ha : PA X [a] (tA M E ms)) (hs : starEach [a] X.env = [(false, eval a X.env)] := by rfl) : PI X tg (.Call (.Name "range" p) [a] [] pos) (tI M E (rg1M ms)) := PI_weak (pi_range1 hg hm ha hs) fun σ H R' ⟨Γ, F, own, s, q⟩ =>
  ⟨Γ, F, own, s, post_srcb q fun F1 H1 own1 Γ1 x a st1 s1 r1 p1 => by
    split at p1
    · split at p1
      · rename_i hj
        cases r1 with
        | cons r r1 =>
          cases r1
          cases r
          exact ⟨_, rfl, hj.1, hj.2, p1 F1 H1 own1 _ st1 s1 (itd_range _ _) (fun _ _ h => by simp at h)⟩
      · exact p1.elim
    · exact p1.elim⟩
theorem i_range2 (hg : Gl X "range") (hm : X.mg "range" = none) (ha : PA X [a, b] (tA M E ms)) (hs : starEach [a, b] X.env = [(false, eval a X.env), (false, eval b X.env)] := by rfl) (hs2 : starEach [b] X.env = [(false, eval b X.env)] := by rfl) : PI X tg (.Call (.Name "range" p) [a, b] [] pos) (tI M E (rg2M ms)) := PI_weak (pi_range2 hg hm ha hs hs2) fun σ H R' ⟨Γ, F, own, s, q⟩ =>
  ⟨Γ, F, own, s, post_srcb q fun F1 H1 own1 Γ1 x a st1 s1 r1 p1 => by
    split at p1
    · split at p1
      · rename_i hj
        cases r1 with
        | cons r r1 =>
          cases r1 with
          | cons r' r1 =>
            cases r1
            cases r
            cases r'
            exact ⟨_, _, rfl, hj, p1 F1 H1 own1 _ st1 s1 (itd_range _ _) (fun _ _ h => by simp at h)⟩
      · exact p1.elim
    · exact p1.elim⟩
end
end DL
end

section
set_option Elab.async false
set_option linter.all false
set_option maxRecDepth 100000
set_option maxHeartbeats 1000000
/-! DL9: enumerate and zip of lists and of tuples. -/
namespace DL
open PySem PySem.Spec PyProof.Rows L2

/-! ### enumerate(tuple) -/
set_option maxHeartbeats 4000000 in
theorem meets_enumerate_newU (l : Addr) (items : Array Value) :
    Meets (Builtin.«enumerate.__new__» ⟨[.type "enumerate", .ref l], []⟩) (fun _ R s => s.heap.IsTuple l items ∧
      R (.ok (.ret (.ref (s.heap.push { cls := .type "tuple_iterator", data := .fields #[.ref l, .int 0 0] }).objs.size)))
        { s with heap := (s.heap.push { cls := .type "tuple_iterator", data := .fields #[.ref l, .int 0 0] }).push { cls := .type "enumerate", data := .fields #[.none, .bool false, .ref s.heap.objs.size, rawInt 0, .none, .none] } }) :=
  .of_wp fun prog w A R s h => by
    obtain ⟨hp, g, d, tk, os⟩ := s
    obtain ⟨hl, h⟩ := h
    have hsub := sub_enumerate
    have q1 : ∀ {A' : Around} {E : Value → Shared → Prop} {Q : Value → Shared → Prop}, Q (.ref hp.objs.size) ⟨hp.push { cls := .type "tuple_iterator", data := .fields #[.ref l, .int 0 0] }, g, d, tk, os⟩ → wpAny (model prog w) A' (pyIter (.ref l)) Q E ⟨hp, g, d, tk, os⟩ :=
      fun q => wpAny_pyIter_tuple (s := ⟨hp, g, d, tk, os⟩) hl q
    wp_walk using q1
    refine wpAny_stack_any fun st => wpAny_pure ?_
    split
    · rename_i c _ _ _ _ _
      cases (c == Value.type "enumerate")
      · wp_walk using q1
        exact ⟨_, rfl, h⟩
      · wp_walk using q1
        exact ⟨_, rfl, h⟩
    · wp_walk using q1
      exact ⟨_, rfl, h⟩
theorem call_enumerate_tuple {prog : Program} {w : World} {A : Around} {E : Value → Shared → Prop} {s : Shared} {l : Addr} {items : Array Value} {Q : Value → Shared → Prop} (hL : s.heap.IsTuple l items)
    (h : ∀ h', IsEnum h' (s.heap.objs.size + 1) s.heap.objs.size 0 .none → h'.IsTupleIter s.heap.objs.size l 0 → h'.objs.size = s.heap.objs.size + 2 →
      (∀ b o, s.heap.get? b = some o → h'.get? b = some o) → Q (.ref (s.heap.objs.size + 1)) { s with heap := h' }) :
    wpAny (model prog w) A (call (.type "enumerate") [.ref l]) Q E s := by
  refine callType_new F.called_enumerate (by decide) (F.typeCall_enumerate_1 _) (F.newCall_enumerate_1 _) (fun obj => F.args_object_init_2 obj _) F.entry_enumerate_new
    (meets_enumerate_newU l items) ⟨hL, ?_⟩
  have hz : (s.heap.push { cls := .type "tuple_iterator", data := .fields #[.ref l, .int 0 0] }).objs.size = s.heap.objs.size + 1 := Heap.size_push ..
  show _ ∧ _
  rw [hz]
  have he : IsEnum ((s.heap.push { cls := .type "tuple_iterator", data := .fields #[.ref l, .int 0 0] }).push
      { cls := .type "enumerate", data := .fields #[.none, .bool false, .ref s.heap.objs.size, rawInt 0, .none, .none] }) (s.heap.objs.size + 1) s.heap.objs.size 0 .none := by
    have := Heap.get?_push_size (s.heap.push { cls := .type "tuple_iterator", data := .fields #[.ref l, .int 0 0] })
      (o := { cls := .type "enumerate", data := .fields #[.none, .bool false, .ref s.heap.objs.size, rawInt 0, .none, .none] }) rfl
    rw [hz] at this; exact this
  refine ⟨⟨_, he, rfl⟩, h _ he ⟨_, Heap.get?_push_of_some _ (Heap.get?_push_size _ rfl), rfl, rfl⟩ (by rw [Heap.size_push, hz]) fun b o x => Heap.get?_push_of_some _ (Heap.get?_push_of_some _ x)⟩
def IteT (K : PySem.W.Frag) (a : Addr) : It :=
  ⟨fun i H => ∃ (xs : List V) (x : V), SqT K H a xs ∧ xs[i]? = some x, fun i H v H' => ∃ T x, v = .ref T ∧ H T = none ∧ H' = upd H T (.tup [.int (i : Nat), x]) ∧ ∀ xs, SqT K H a xs → xs[i]? = some x, fun i H => ∃ xs : List V, SqT K H a xs ∧ i = xs.length⟩
theorem tup_ne {h : Heap} {a it : Addr} {items : Array Value} {i : Nat} (h1 : h.IsTuple a items) (h2 : h.IsTupleIter it a i) : a ≠ it := by
  rintro rfl
  obtain ⟨o, e1, c1, _⟩ := h1
  obtain ⟨o', e2, c2, _⟩ := h2
  rw [e1] at e2
  cases e2
  rw [c1] at c2
  injection c2 with c2
  exact absurd c2 (by decide)
theorem turn_enumT {P : Program} {w : World} {K : PySem.W.Frag} {elts : List Expr} {kk : Nat} {tpos : Pos} (a e it : Addr) :
    Turn P w K (.Tuple elts kk tpos) (IteT K a) [e, it] e (fun i h => (∃ old, IsEnum h e it ((i : Nat) : Int) old) ∧ h.IsTupleIter it a i ∧ e ≠ it ∧ e ≠ a) where
  mem := by simp
  obj := fun i h st b hb => by
    obtain ⟨⟨old, he⟩, ⟨o, ho, hc, hd⟩, _⟩ := st
    have e' : b = e ∨ b = it := by simpa using hb
    rcases e' with z | z
    · rw [z]; exact ⟨_, he, fun v q => nomatch q⟩
    · rw [z]; exact ⟨o, ho, fun v q => by rw [hd] at q; cases q⟩
  keep := fun i h h' st k => let ⟨⟨old, he⟩, hi, hne⟩ := st; ⟨⟨old, k e (by simp) _ he⟩, hi.at fun o q => k it (by simp) o q, hne⟩
  item := by
    intro X hP hw hK hc i pins s σ H E I hf st hg
    subst hP hw hK
    obtain ⟨⟨old, he⟩, hit, hne, hne2⟩ := st
    obtain ⟨xs, x, hq, hx⟩ := hg
    obtain ⟨its, rv, p, hz⟩ := I.tuple hq
    obtain ⟨u, hu, ru⟩ := rv.get hx
    have hel : e < s.heap.objs.size := Heap.lt_size he
    have hil : it < s.heap.objs.size := by obtain ⟨_, q, _⟩ := hit; exact Heap.lt_size q
    have hat : a ≠ it := tup_ne (show s.heap.IsTuple a its.toArray from p) hit
    have hi : i < its.toArray.size := by
      simp
      exact (List.getElem?_eq_some_iff.mp hu).1
    refine wpAny_pyNext_enum_itemD (Draws.tuple (A := X.A.in1) (I.ok.hd hc) it a hat its.toArray) he ⟨hit, p⟩ hi hne (by simp [hne, hne2]) fun x' h' tk hx' ho st' hT hsz hk => ?_
    obtain rfl : x' = u := by
      have : its.toArray[i]? = some x' := hx'
      rw [show its.toArray[i]? = its[i]? by simp, hu] at this
      exact (Option.some.inj this).symm
    refine ⟨_, rfl, wpAny_letOwnedTupleGo_enum (s := { s with heap := h', toks := tk + 1 }) ho fun h'' he' sb => ?_⟩
    have hT2 : h''.get? s.heap.objs.size = some { cls := .type "tuple", data := .seq #[.int i tk, x'] } := (sb.2 _ (Nat.ne_of_gt hel)).trans hT
    have new : ObjOk X.prog X.w (upd H s.heap.objs.size (.tup [.int (i : Nat), x])) h'' s.heap.objs.size (.tup [.int (i : Nat), x]) :=
      ⟨by show 2 ≤ sizeLine; decide, [.int i tk, x'], .cons ⟨_, rfl⟩ (.cons ru .nil), ⟨_, hT2, rfl, _, rfl⟩⟩
    have I1 : Inv X pins σ (upd H s.heap.objs.size (.tup [.int (i : Nat), x])) { s with heap := h'', toks := tk + 1 } :=
      I.turnedNew (ch := [e, it]) (fun b ob hb q => (sb.2 b (fun z => hb (by simp [z]))).trans (hk b ob (fun z => hb (by simp [z])) (fun z => hb (by simp [z])) q)) hf (Nat.le_refl _) new
    refine ⟨.ref s.heap.objs.size, _, I1, rfl, ⟨_, x, rfl, I.hok.fresh (Nat.le_refl _), rfl, fun ys hy => by rw [I.tuple_inj hy hq]; exact hx⟩, ⟨⟨x', ?_⟩, st'.1.at fun o q => (sb.2 it (Ne.symm hne)).trans q, hne, hne2⟩, fun b hb => ?_⟩
    · have e1 : ((i + 1 : Nat) : Int) = (i : Int) + 1 := by omega
      rw [e1]; exact he'
    · have hb' : b < s.heap.objs.size := by
        have e' : b = e ∨ b = it := by simpa using hb
        rcases e' with z | z
        · rw [z]; exact hel
        · rw [z]; exact hil
      rw [upd_ne (Nat.ne_of_lt hb')]
      exact (hf b hb).1
  done := by
    intro X hP hw hK hc i pins s σ H E I hf st hg
    subst hP hw hK
    obtain ⟨⟨old, he⟩, hit, hne, hne2⟩ := st
    obtain ⟨xs, hq, hx⟩ := hg
    obtain ⟨its, rv, p, hz⟩ := I.tuple hq
    obtain ⟨f0, f1, f2, f3, f4, f5⟩ := hf it (by simp)
    have hl := rv.length
    have hat : a ≠ it := tup_ne (show s.heap.IsTuple a its.toArray from p) hit
    have hn : its.toArray.size = i := by
      rw [List.size_toArray, ← hl]
      exact hx.symm
    refine wpAny_pyNext_enum_endD (Draws.tuple (A := X.A.in1) (I.ok.hd hc) it a hat its.toArray) he (by rw [hn]; exact ⟨hit, p⟩) fun h' eb => ⟨rfl, I.turned (t' := s.toks) (fun b o hb q => eb b o hb q) f0 f1 f3 f4 f5⟩
  self := fun A i s Q E st h => let ⟨⟨_, he⟩, _⟩ := st; wpAny_pyIter_enum he h
/-- enumerate of a list or of a tuple -/
def iEnumS (K : PySem.W.Frag) (ta : TA) : TI := fun σ H R => ta σ H fun vs H1 => ∃ a, vs = [.ref a] ∧ ((∃ xs, SqL K H1 a xs) ∧ R (Ite K a) H1 ∨ (∃ xs, SqT K H1 a xs) ∧ R (IteT K a) H1)
theorem pi_enumS {X : Cx} {e : Expr} {ta : TA} {p pos tpos : Pos} {elts : List Expr} {kk : Nat} (hg : Gl X "enumerate") (hm : X.mg "enumerate" = none) (ha : PA X [e] ta) (hs : starEach [e] X.env = [(false, eval e X.env)] := by rfl) :
    PI X (.Tuple elts kk tpos) (.Call (.Name "enumerate" p) [e] [] pos) (iEnumS X.K ta) := by
  refine ⟨fun pins s σ H R I h => ?_⟩
  refine Call_ (ld_blt I hg hm boot_enumerate (PyProof.Rows.callWith_type1 (thn (ha.run pos pins s σ H (fun vs H1 => ∃ a, vs = [.ref a] ∧ ((∃ xs, SqL X.K H1 a xs) ∧ R (Ite X.K a) H1 ∨ (∃ xs, SqT X.K H1 a xs) ∧ R (IteT X.K a) H1)) I h) fun us s1 ⟨vs, H1, I1, r1, q1⟩ => ?_) hs rfl))
  obtain ⟨a, ex, q1⟩ := q1
  subst ex
  cases r1 with
  | cons r rr =>
    cases rr
    cases r
    have fr : ∀ b ∈ [s1.heap.objs.size + 1, s1.heap.objs.size], FpOk X pins H1 b := fun b hb => by
      have e' : b = s1.heap.objs.size + 1 ∨ b = s1.heap.objs.size := by simpa using hb
      have hle : s1.heap.objs.size ≤ b := by
        rcases e' with z | z
        · rw [z]; exact Nat.le_add_right _ _
        · rw [z]; exact Nat.le_refl _
      exact I1.fpOk hle (I1.hok.fresh hle)
    rcases q1 with ⟨⟨xs, hq⟩, q⟩ | ⟨⟨xs, hq⟩, q⟩
    · obtain ⟨its, rv, p', hz⟩ := I1.list hq
      refine call_enumerate_list p'.isList fun h' he hit hsz hk => wpAny_pyIter_enum he ?_
      have I2 : Inv X pins σ H1 { s1 with heap := h' } := I1.kept (t' := s1.toks) hk
      exact ⟨s1.heap.objs.size + 1, [s1.heap.objs.size + 1, s1.heap.objs.size], _, _, H1, rfl, I2, turn_enum a (s1.heap.objs.size + 1) s1.heap.objs.size, ⟨⟨.none, he⟩, hit, Nat.succ_ne_self _⟩, fr, q⟩
    · obtain ⟨its, rv, p', hz⟩ := I1.tuple hq
      obtain ⟨o, ho, _⟩ := id p'
      have hlt := Heap.lt_size ho
      refine call_enumerate_tuple (show s1.heap.IsTuple a its.toArray from p') fun h' he hit hsz hk => wpAny_pyIter_enum he ?_
      have I2 : Inv X pins σ H1 { s1 with heap := h' } := I1.kept (t' := s1.toks) hk
      exact ⟨s1.heap.objs.size + 1, [s1.heap.objs.size + 1, s1.heap.objs.size], _, _, H1, rfl, I2, turn_enumT a (s1.heap.objs.size + 1) s1.heap.objs.size, ⟨⟨.none, he⟩, hit, Nat.succ_ne_self _, Nat.ne_of_gt (Nat.lt_succ_of_lt hlt)⟩, fr, q⟩
/-! ### what they give -/
def enumGo (k : Nat) : List D → List D
  | [] => []
  | d :: r => .tuple [.int (k : Int), d] :: enumGo (k + 1) r
theorem enumGo_at : ∀ (ds : List D) (k i : Nat), (enumGo k ds)[i]? = ds[i]?.map fun d => .tuple [.int ((k + i : Nat) : Int), d]
  | [], k, i => by simp [enumGo]
  | d :: r, k, 0 => by simp [enumGo]
  | d :: r, k, i + 1 => by
    simp only [enumGo, List.getElem?_cons_succ]
    rw [enumGo_at r (k + 1) i]
    have : k + 1 + i = k + (i + 1) := by omega
    rw [this]
theorem enumGo_length : ∀ (ds : List D) (k : Nat), (enumGo k ds).length = ds.length
  | [], k => rfl
  | d :: r, k => by simp [enumGo, enumGo_length r]
def enumD (ds : List D) : List D := enumGo 0 ds
def zipD (ds es : List D) : List D := List.zipWith (fun a b => .tuple [a, b]) ds es
theorem rep_pair {M : Pm} {F H : Hp} {T : Addr} {x y : V} {d d' : D} (fh : Ex F H) (hT : H T = none) (h1 : Rep M.cls F x d) (h2 : Rep M.cls F y d') : Grow F H (upd F T (.tup [x, y])) (upd H T (.tup [x, y])) ∧ Rep M.cls (upd F T (.tup [x, y])) (.ref T) (.tuple [d, d']) := by
  have g : Grow F H (upd F T (.tup [x, y])) (upd H T (.tup [x, y])) := .new fh hT
  exact ⟨g, .tup upd_same (.cons (h1.mono g.ff) (.cons (h2.mono g.ff) .nil))⟩
theorem itd_enumL {M : Pm} {σ : L2.St} {F : Hp} {p : Addr} {s : Src} (h : ItD M (Itl M.K p) σ F s) : ItD M (Ite M.K p) σ F ⟨enumD s.items, s.br⟩ where
  go := fun i Γ σ F' H' own' hi' st e ok hs => by
    rw [show (Src.mk (enumD s.items) s.br).items.length = s.items.length from enumGo_length _ _] at hi'
    exact h.go i Γ σ F' H' own' hi' st e ok hs
  stop := fun i Γ σ F' H' own' hi' st e ok hs => by
    rw [show (Src.mk (enumD s.items) s.br).items.length = s.items.length from enumGo_length _ _] at hi'
    exact h.stop i Γ σ F' H' own' hi' st e ok hs
  yld := fun i Γ σ F' H' own' x H'' hi' st e ok hs y => by
    rw [show (Src.mk (enumD s.items) s.br).items.length = s.items.length from enumGo_length _ _] at hi'
    obtain ⟨T, x', rfl, hT, rfl, hx⟩ := y
    obtain ⟨F1, d, g, h1, h2⟩ := h.yld i Γ σ F' H' own' x' H' hi' st e ok hs ⟨rfl, hx⟩
    obtain ⟨g2, r2⟩ := rep_pair (M := M) (T := T) g.fh hT (.int (i : Nat)) h2
    refine ⟨_, _, g.trans g2, ?_, r2⟩
    show (enumGo 0 s.items)[i]? = _
    rw [enumGo_at, h1]
    simp
theorem itd_enumT {M : Pm} {σ : L2.St} {F : Hp} {p : Addr} {xs : List V} {ds : List D} (h0 : Rd F p (.tup xs)) (h2 : RepAll M.cls F xs ds) : ItD M (IteT M.K p) σ F ⟨enumD ds, none⟩ where
  go := fun i Γ σ F' H' own' hi' st e ok hs => by
    rw [show (Src.mk (enumD ds) none).items.length = ds.length from enumGo_length _ _] at hi'
    obtain ⟨v, hv, _⟩ := h2.at i _ (List.getElem?_eq_getElem hi')
    exact ⟨xs, v, .inl (rd_up st.fh (rd_up e h0)), hv⟩
  stop := fun i Γ σ F' H' own' hi' st e ok hs => by
    rw [show (Src.mk (enumD ds) none).items.length = ds.length from enumGo_length _ _] at hi'
    exact ⟨xs, .inl (rd_up st.fh (rd_up e h0)), by rw [h2.length]; exact hi'⟩
  yld := fun i Γ σ F' H' own' x H'' hi' st e ok hs y => by
    obtain ⟨T, x', rfl, hT, rfl, hx⟩ := y
    obtain ⟨d, hd, rd⟩ := h2.at' i x' (hx xs (.inl (rd_up st.fh (rd_up e h0))))
    obtain ⟨g2, r2⟩ := rep_pair (M := M) (T := T) st.fh hT (.int (i : Nat)) (rd.mono e)
    refine ⟨_, _, g2, ?_, r2⟩
    show (enumGo 0 ds)[i]? = _
    rw [enumGo_at, hd]
    simp
def enumF (Γ : Gam) (v : Val) : R Src := (srcF Γ v).bind fun s Γ1 => .ok ⟨enumD s.items, s.br⟩ Γ1
def enumM (ms : Gam → R (List Val)) : Gam → R Src := fun Γ => (ms Γ).bind fun vs Γ1 => match vs with
  | [v] => enumF Γ1 v
  | _ => .stuck
section
variable {X : Cx} {M : Pm} {E : XK} {tg e e2 a b : Expr} {es : List Expr} {m : Gam → R Val} {ms : Gam → R (List Val)} {p pos tpos : Pos} {elts : List Expr} {kk : Nat}
theorem srcF_ns {Γ Γ' : Gam} {v : Val} {x : Exc} (h : srcF Γ v = .err x Γ') : False := by
  unfold srcF at h
  split at h
  · cases h
  · cases h
  · split at h <;> cases h
  · cases h
theorem i_enum (hK : X.K = M.K) (hg : Gl X "enumerate") (hm : X.mg "enumerate" = none) (ha : PA X [e] (tA M E ms)) (hs : starEach [e] X.env = [(false, eval e X.env)] := by rfl) : PI X (.Tuple elts kk tpos) (.Call (.Name "enumerate" p) [e] [] pos) (tI M E (enumM ms)) := PI_weak (pi_enumS hg hm ha hs) fun σ H R' ⟨Γ, F, own, s, q⟩ =>
  ⟨Γ, F, own, s, post_srcb q fun F1 H1 own1 Γ1 x a st1 s1 r1 p1 => by
    rw [hK]
    split at p1
    · rename_i v
      cases r1 with
      | cons r r1 =>
        cases r1
        unfold enumF at p1
        cases es : srcF Γ1 v with
        | stuck => rw [es] at p1; exact p1.elim
        | err y Γ2 => exact (srcF_ns es).elim
        | ok sr Γ2 =>
          rw [es] at p1
          obtain ⟨rfl, ok, q, rfl, ⟨⟨xs, h1, _⟩, h2⟩ | ⟨⟨xs, h0, h1, h3⟩, hbr, h2⟩⟩ := src_ok st1 r es
          · exact ⟨q, rfl, .inl ⟨⟨xs, h1⟩, p1 F1 H1 own1 _ st1 s1 (itd_enumL h2) ok⟩⟩
          · refine ⟨q, rfl, .inr ⟨⟨xs, h1⟩, p1 F1 H1 own1 _ st1 s1 ?_ ok⟩⟩
            rw [hbr]
            exact itd_enumT h0 h3
    · exact p1.elim⟩
/-! ### zip of two lists, of two tuples -/
def viewFL : Val → Option (List D)
  | .f (.list ds) => some ds
  | _ => none
theorem viewFL_some {v : Val} {ds : List D} (h : viewFL v = some ds) : v = .f (.list ds) := by
  unfold viewFL at h
  split at h
  · cases h
    rfl
  · cases h
def zipM (ms : Gam → R (List Val)) : Gam → R Src := fun Γ => (ms Γ).bind fun vs Γ1 => match vs with
  | [v, u] => match viewFL v, viewFL u with
    | some ds, some es => .ok ⟨zipD ds es, none⟩ Γ1
    | _, _ => match viewD Γ1 v, viewD Γ1 u with
      | some (.tuple ds), some (.tuple es) => .ok ⟨zipD ds es, none⟩ Γ1
      | _, _ => .stuck
  | _ => .stuck
theorem zipD_at (ds es : List D) (i : Nat) : (zipD ds es)[i]? = match ds[i]?, es[i]? with
    | some a, some b => some (.tuple [a, b])
    | _, _ => none := by
  unfold zipD
  rw [List.getElem?_zipWith]
  cases ds[i]? <;> cases es[i]? <;> rfl
theorem zipD_length (ds es : List D) : (zipD ds es).length = min ds.length es.length := by
  simp [zipD]
theorem itd_zip {P Q : Hp → Addr → List V → Prop} {J : It} {σ : L2.St} {F : Hp} {a b : Addr} {xs ys : List V} {ds es : List D} (hP : ∀ F' H', Ex F F' → Ex F' H' → P H' a xs) (hQ : ∀ F' H', Ex F F' → Ex F' H' → Q H' b ys) (r1 : RepAll M.cls F xs ds) (r2 : RepAll M.cls F ys es)
    (hg : ∀ i H, (∃ xs ys x y, P H a xs ∧ Q H b ys ∧ xs[i]? = some x ∧ ys[i]? = some y) → J.go i H) (hs : ∀ i H, (∃ xs ys, P H a xs ∧ Q H b ys ∧ (xs.length ≤ i ∨ ys.length ≤ i)) → J.stop i H)
    (hy : ∀ i H v H', J.yld i H v H' → ∃ T x y, v = .ref T ∧ H T = none ∧ H' = upd H T (.tup [x, y]) ∧ (∀ xs, P H a xs → xs[i]? = some x) ∧ ∀ ys, Q H b ys → ys[i]? = some y) : ItD M J σ F ⟨zipD ds es, none⟩ where
  go := fun i Γ σ F' H' own' hi' st e ok hs => by
    rw [show (Src.mk (zipD ds es) none).items.length = _ from zipD_length _ _] at hi'
    obtain ⟨v, hv, _⟩ := r1.at i _ (List.getElem?_eq_getElem (show i < ds.length by omega))
    obtain ⟨w, hw, _⟩ := r2.at i _ (List.getElem?_eq_getElem (show i < es.length by omega))
    exact hg i H' ⟨xs, ys, v, w, hP F' H' e st.fh, hQ F' H' e st.fh, hv, hw⟩
  stop := fun i Γ σ F' H' own' hi' st e ok _ => by
    rw [show (Src.mk (zipD ds es) none).items.length = _ from zipD_length _ _] at hi'
    refine hs i H' ⟨xs, ys, hP F' H' e st.fh, hQ F' H' e st.fh, ?_⟩
    have h1 := r1.length
    have h2 := r2.length
    omega
  yld := fun i Γ σ F' H' own' x H'' hi' st e ok _ y => by
    obtain ⟨T, x', y', rfl, hT, rfl, hx, hx2⟩ := hy i H' x H'' y
    obtain ⟨d, hd, rd⟩ := r1.at' i x' (hx xs (hP F' H' e st.fh))
    obtain ⟨d', hd', rd'⟩ := r2.at' i y' (hx2 ys (hQ F' H' e st.fh))
    obtain ⟨g2, r2⟩ := rep_pair (M := M) (T := T) st.fh hT (rd.mono e) (rd'.mono e)
    refine ⟨_, _, g2, ?_, r2⟩
    show (zipD ds es)[i]? = _
    rw [zipD_at, hd, hd']
theorem i_zip (hK : X.K = M.K) (hg : Gl X "zip") (hm : X.mg "zip" = none) (ha : PA X [e, e2] (tA M E ms)) (hs : starEach [e, e2] X.env = (false, eval e X.env) :: starEach [e2] X.env := by rfl) (hpl : (backTo pos (starEach [e2] X.env)).any (·.1) = false := by rfl) :
    PI X (.Tuple elts kk tpos) (.Call (.Name "zip" p) [e, e2] [] pos) (tI M E (zipM ms)) := PI_weak (RZ.pi_zipA hg hm ha hs hpl) fun σ H R' ⟨Γ, F, own, s, q⟩ =>
  ⟨Γ, F, own, s, post_srcb q fun F1 H1 own1 Γ1 x a st1 s1 r1 p1 => by
    rw [hK]
    split at p1
    · rename_i v u
      cases r1 with
      | cons r r1 =>
        cases r1 with
        | cons r' r1 =>
          cases r1
          split at p1
          · rename_i h1 h2
            rw [viewFL_some h1] at r
            rw [viewFL_some h2] at r'
            obtain ⟨q1, xs, rfl, k1, k2⟩ := Rep.invL r
            obtain ⟨q2, ys, rfl, k3, k4⟩ := Rep.invL r'
            refine ⟨q1, q2, xs, ys, rfl, .inl ⟨.of (st1.fh _ _ k1), .of (st1.fh _ _ k3), p1 F1 H1 own1 _ st1 s1 ?_ (fun _ _ h => by simp at h)⟩⟩
            exact itd_zip (P := SqL M.K) (Q := SqL M.K) (fun F' H' e fh => .of (fh _ _ (e _ _ k1))) (fun F' H' e fh => .of (fh _ _ (e _ _ k3))) k2 k4 (fun i H h => h) (fun i H h => h) (fun i H v H' h => h)
          · split at p1
            · rename_i h1 h2
              obtain ⟨q1, xs, rfl, k0, k1, k2⟩ := view_tup st1 r h1
              obtain ⟨q2, ys, rfl, k3, k5, k4⟩ := view_tup st1 r' h2
              refine ⟨q1, q2, xs, ys, rfl, .inr ⟨k1, k5, p1 F1 H1 own1 _ st1 s1 ?_ (fun _ _ h => by simp at h)⟩⟩
              exact itd_zip (P := SqT M.K) (Q := SqT M.K) (fun F' H' e fh => .inl (rd_up fh (rd_up e k0.2))) (fun F' H' e fh => .inl (rd_up fh (rd_up e k3.2))) k2 k4 (fun i H h => h) (fun i H h => h) (fun i H v H' h => h)
            · exact p1.elim
    · exact p1.elim⟩
end
end DL
end

section
set_option Elab.async false
set_option linter.all false
set_option maxRecDepth 100000
set_option maxHeartbeats 1000000
/-! DL10: for, while, comprehensions, the rule for a def. -/
namespace DL
open PySem PySem.Spec PyProof.Rows L2

/-! ### for -/
def forGo (tg : D → Gam → Option Gam) (body : Gam → RS) : List D → Gam → RS
  | [], Γ => .nx Γ
  | d :: ds, Γ => match tg d Γ with
    | none => .stuck
    | some Γ1 => match body Γ1 with
      | .nx Γ2 => forGo tg body ds Γ2
      | .ct Γ2 => forGo tg body ds Γ2
      | .bk Γ2 => .nx Γ2
      | r => r
def forM (mi : Gam → R Src) (tg : D → Gam → Option Gam) (body : Gam → RS) : Gam → RS := fun Γ => stm (mi Γ) fun s Γ1 => match s.br with
  | none => forGo tg body s.items Γ1
  | some _ => .stuck
section
variable {X : Cx} {M : Pm} {E : XK} {tg iter e a b c : Expr} {body rest : List Stmt} {m : Gam → RS} {mi : Gam → R Src} {ts : List Nat} {tgm : D → Gam → Option Gam} {pos : Pos} {me : Gam → R Val}
theorem post_stmI {r : R Src} {k : Src → Gam → RS} {σ : L2.St} {F0 H0 : Hp} {own0 : Own} {D : Ends} {Q' : It → Hp → Prop} (p : PostS M E F0 H0 own0 D (stm r k))
    (hk : ∀ F1 H1 own1 Γ1 J s, StR M Γ1 σ F1 H1 own1 → Step F0 H0 own0 F1 H1 own1 → ItD M J σ F1 s → s.ok Γ1 → PostS M E F0 H0 own0 D (k s Γ1) → Q' J H1) : PostI M E σ F0 H0 own0 Q' r := by
  cases e : r with
  | ok s Γ1 =>
    simp only [e, stm_ok] at p
    exact fun F1 H1 own1 J st1 s1 hI ok => hk F1 H1 own1 Γ1 J s st1 s1 hI ok p
  | err x Γ1 =>
    simp only [e, stm_err] at p
    exact p σ
  | stuck =>
    simp only [e, stm_stuck] at p
    exact p
theorem s_for (hp : PassesOwn (model X.prog X.w) X.A X.env X.xe) (hc : X.calm = true) (hi : PI X tg iter (tI M E mi)) (hg : PG X tg (tGt M ts tgm)) (hb : PSs X body (tS M E m))
    (hs : ∀ x, foldedSetIterable iter X.env x = pure x := by intro _; rfl) : PS X (.For tg iter body [] pos) (tS M E (forM mi tgm m)) := PS_weak (ps_for hp hc hi hg hb hs) fun D σ H ⟨Γ, F, own, s, q⟩ => by
  refine ⟨Γ, F, own, s, post_stmI q fun F1 H1 own1 Γ1 J sr st1 s1 hI ok p1 => ?_⟩
  split at p1
  · rename_i hbr
    refine ⟨fun i k σ H => i ≤ sr.items.length ∧ k = sr.items.length - i ∧ ∃ Γ F own, StR M Γ σ F H own ∧ Ex F1 F ∧ PostS M E F H own D (forGo tgm m (sr.items.drop i) Γ),
      ⟨_, Nat.zero_le _, rfl, Γ1, F1, own1, st1, .refl _, by rw [List.drop_zero]; exact p1.mono s1⟩, fun i k σ H ⟨hi', hk, Γ2, F2, own2, st2, e2, p2⟩ => ?_⟩
    have okΓ : ∀ Γ : Gam, sr.ok Γ := fun Γ k ds h => by rw [hbr] at h; cases h
    have noσ : ∀ {σ' : L2.St} {σ0 : L2.St}, ∀ k ds, sr.br = some (k, ds) → σ'[k]? = σ0[k]? := fun k ds h => by rw [hbr] at h; cases h
    by_cases he : i = sr.items.length
    · left
      refine ⟨hI.stop i Γ2 σ F2 H own2 he st2 e2 (okΓ _) noσ, ?_⟩
      rw [he, List.drop_length] at p2
      exact p2 σ F2 H own2 st2 (.refl _ _ _)
    · right
      have hlt : i < sr.items.length := by omega
      refine ⟨hI.go i Γ2 σ F2 H own2 hlt st2 e2 (okΓ _) noσ, fun σ' H' => i + 1 ≤ sr.items.length ∧ ∃ Γ F own, StR M Γ σ' F H' own ∧ Ex F1 F ∧ PostS M E F H' own D (forGo tgm m (sr.items.drop (i + 1)) Γ),
        fun σ' H' ⟨h1, h2⟩ => ⟨sr.items.length - (i + 1), by omega, h1, rfl, h2⟩, fun x H' hy => ?_⟩
      obtain ⟨F3, d, g, hd, rd⟩ := hI.yld i Γ2 σ F2 H own2 x H' hlt st2 e2 (okΓ _) noσ hy
      have hdrop : sr.items.drop i = d :: sr.items.drop (i + 1) := by
        rw [List.drop_eq_getElem_cons hlt]
        congr 1
        have := List.getElem?_eq_getElem hlt
        rw [hd] at this
        exact (Option.some.inj this).symm
      rw [hdrop] at p2
      have st3 := st2.grow g
      have p3 := p2.mono (g.step own2)
      refine ⟨Γ2, F3, own2, d, st3, rd, ?_⟩
      simp only [forGo] at p3
      cases ht : tgm d Γ2 with
      | none =>
        rw [ht] at p3
        exact p3.elim
      | some Γ3 =>
        rw [ht] at p3
        intro σ' own' st' step' _ _
        refine ⟨Γ3, F3, own', st', ?_⟩
        have p4 := p3.mono step'
        have e3 : Ex F1 F3 := e2.trans g.ff
        cases hm : m Γ3 with
        | nx Γ4 =>
          simp only [hm] at p4
          exact fun σ'' F'' H'' own'' st'' step'' => ⟨hlt, Γ4, F'', own'', st'', e3.trans step''.ff, p4.mono step''⟩
        | ct Γ4 =>
          simp only [hm] at p4
          exact fun σ'' F'' H'' own'' st'' step'' => ⟨hlt, Γ4, F'', own'', st'', e3.trans step''.ff, p4.mono step''⟩
        | bk Γ4 =>
          simp only [hm] at p4
          exact p4
        | rt v Γ4 =>
          simp only [hm] at p4
          exact p4
        | err x Γ4 =>
          simp only [hm] at p4
          exact p4
        | stuck =>
          simp only [hm] at p4
          exact p4
  · exact p1.elim
/-- a walked thing, frozen first: what a for statement takes -/
def srcZ (m : Gam → R Val) : Gam → R Src := fun Γ => (fzL m Γ).bind fun d Γ1 => srcF' Γ1 (.f d)
theorem i_seqZ (hK : X.K = M.K) (h : PE X e (tE M E me)) : PI X tg e (tI M E (srcZ me)) := PI_weak (pi_seq (pe_fz h)) fun σ H R' ⟨Γ, F, own, s, q⟩ => by
  refine ⟨Γ, F, own, s, post_srcb q fun F1 H1 own1 Γ1 x a st1 s1 r1 p1 => ?_⟩
  rw [hK]
  unfold srcF' at p1
  split at p1
  · rename_i h
    cases h
    cases r1
    exact .inr ⟨_, rfl, p1 F1 H1 own1 _ st1 s1 (itd_str _) (fun _ _ h => by simp at h)⟩
  · cases es : srcF Γ1 (.f a) with
    | stuck => rw [es] at p1; exact p1.elim
    | err y Γ2 => exact (srcF_ns es).elim
    | ok sr Γ2 =>
      rw [es] at p1
      obtain ⟨rfl, ok, q, rfl, ⟨⟨xs, h1, _⟩, h2⟩ | ⟨⟨xs, _, h1, _⟩, _, h2⟩⟩ := src_ok st1 (show ValRd M σ F1 x (.f a) from r1) es
      · exact .inl ⟨q, rfl, .inl ⟨⟨xs, h1⟩, p1 F1 H1 own1 _ st1 s1 h2 ok⟩⟩
      · exact .inl ⟨q, rfl, .inr ⟨⟨xs, h1⟩, p1 F1 H1 own1 _ st1 s1 h2 ok⟩⟩
/-! ### arguments that are frozen, for what reads them as values -/
def fzA (ms : Gam → R (List D)) : Gam → R (List Val) := fun Γ => (ms Γ).bind fun ds Γ1 => .ok (ds.map Val.f) Γ1
theorem valsRd_f {σ : L2.St} {F : Hp} : ∀ {vs : List V} {ds : List D}, RepAll M.cls F vs ds → ValsRd M σ F vs (ds.map Val.f)
  | _, _, .nil => .nil
  | _, _, .cons h r => .cons h (valsRd_f r)
theorem a_fz {es : List Expr} {ms : Gam → R (List D)} (h : PA X es (tFs M E ms)) : PA X es (tA M E (fzA ms)) := PA_weak h fun σ H Q ⟨Γ, F, own, s, q⟩ =>
  ⟨Γ, F, own, s, post_bind q fun F1 H1 own1 Γ1 x a _ st1 s1 r1 p1 => p1 x F1 H1 own1 st1 s1 (valsRd_f r1)⟩
/-! ### while -/
def whileGo (t : Gam → R Bool) (body : Gam → RS) : Nat → Gam → RS
  | 0, _ => .stuck
  | n + 1, Γ => stm (t Γ) fun b Γ1 => if b = true then match body Γ1 with
      | .nx Γ2 => whileGo t body n Γ2
      | .ct Γ2 => whileGo t body n Γ2
      | .bk Γ2 => .nx Γ2
      | r => r
    else .nx Γ1
theorem s_while {t : Gam → R Bool} (fuel : Gam → Nat) (hp : PassesOwn (model X.prog X.w) X.A X.env X.xe) (hc : PT X c (tT M E t)) (hb : PSs X body (tS M E m)) : PS X (.While c body [] pos) (tS M E (fun Γ => whileGo t m (fuel Γ) Γ)) := PS_weak (ps_while hp hc hb) fun D σ H ⟨Γ, F, own, s, q⟩ => by
  refine ⟨fun n σ H => ∃ Γ F own, StR M Γ σ F H own ∧ PostS M E F H own D (whileGo t m n Γ), ⟨_, Γ, F, own, s, q⟩, fun n σ H ⟨Γ, F, own, s, q⟩ => ?_⟩
  cases n with
  | zero => exact q.elim
  | succ n =>
    refine ⟨Γ, F, own, s, post_stm q fun F1 H1 own1 Γ1 x a _ s1 st1 r p1 => ?_⟩
    cases r
    by_cases h : x = true
    · rw [if_pos h] at p1 ⊢
      refine ⟨fun σ' H' => ∃ Γ F own, StR M Γ σ' F H' own ∧ PostS M E F H' own D (whileGo t m n Γ), fun σ' H' z => ⟨n, Nat.lt_succ_self n, z⟩, Γ1, F1, own1, s1, ?_⟩
      have p2 := p1.mono st1
      cases hm : m Γ1 with
      | nx Γ4 =>
        simp only [hm] at p2
        exact fun σ'' F'' H'' own'' st'' step'' => ⟨Γ4, F'', own'', st'', p2.mono step''⟩
      | ct Γ4 =>
        simp only [hm] at p2
        exact fun σ'' F'' H'' own'' st'' step'' => ⟨Γ4, F'', own'', st'', p2.mono step''⟩
      | bk Γ4 =>
        simp only [hm] at p2
        exact p2
      | rt v Γ4 =>
        simp only [hm] at p2
        exact p2
      | err x Γ4 =>
        simp only [hm] at p2
        exact p2
      | stuck =>
        simp only [hm] at p2
        exact p2
    · rw [if_neg h] at p1 ⊢
      exact p1 σ F1 H1 own1 s1 st1
end
/-! ### comprehensions -/
def wipeG (Γ : Gam) : List Nat → Gam
  | [] => Γ
  | v :: vs => (wipeG Γ vs).set v .un
def keepV : Option Slot → Slot
  | some (.one (.fz d)) => .val d
  | _ => .un
def restG (Γ0 Γ : Gam) : List Nat → Gam
  | [] => Γ
  | v :: vs => (restG Γ0 Γ vs).set v (keepV Γ0[v]?)
theorem wipeG_length (Γ : Gam) : ∀ vs, (wipeG Γ vs).length = Γ.length
  | [] => rfl
  | v :: vs => by simp [wipeG, wipeG_length Γ vs]
theorem restG_length (Γ0 Γ : Gam) : ∀ vs, (restG Γ0 Γ vs).length = Γ.length
  | [] => rfl
  | v :: vs => by simp [restG, restG_length Γ0 Γ vs]
theorem wipeG_at (Γ : Gam) : ∀ vs j, (wipeG Γ vs)[j]? = if j ∈ vs ∧ j < Γ.length then some .un else Γ[j]?
  | [], j => by simp [wipeG]
  | v :: vs, j => by
    simp only [wipeG]
    by_cases e : j = v
    · subst e
      by_cases hl : j < Γ.length
      · rw [List.getElem?_set_self (by rw [wipeG_length]; exact hl), if_pos ⟨List.mem_cons_self, hl⟩]
      · rw [if_neg (by simp [hl]), List.getElem?_eq_none (by simp [wipeG_length]; omega), List.getElem?_eq_none (by omega)]
    · rw [List.getElem?_set_ne (Ne.symm e), wipeG_at Γ vs j]
      simp [e]
theorem restG_at (Γ0 Γ : Gam) : ∀ vs j, (restG Γ0 Γ vs)[j]? = if j ∈ vs ∧ j < Γ.length then some (keepV Γ0[j]?) else Γ[j]?
  | [], j => by simp [restG]
  | v :: vs, j => by
    simp only [restG]
    by_cases e : j = v
    · subst e
      by_cases hl : j < Γ.length
      · rw [List.getElem?_set_self (by rw [restG_length]; exact hl), if_pos ⟨List.mem_cons_self, hl⟩]
      · rw [if_neg (by simp [hl]), List.getElem?_eq_none (by simp [restG_length]; omega), List.getElem?_eq_none (by omega)]
    · rw [List.getElem?_set_ne (Ne.symm e), restG_at Γ0 Γ vs j]
      simp [e]
theorem wipe_at (σ : L2.St) : ∀ vs j, (wipe σ vs)[j]? = if j ∈ vs ∧ j < σ.length then some none else σ[j]?
  | [], j => by simp [wipe]
  | v :: vs, j => by
    simp only [wipe]
    by_cases e : j = v
    · subst e
      by_cases hl : j < σ.length
      · rw [List.getElem?_set_self (by rw [wipe_length]; exact hl), if_pos ⟨List.mem_cons_self, hl⟩]
      · rw [if_neg (by simp [hl]), List.getElem?_eq_none (by simp [wipe_length]; omega), List.getElem?_eq_none (by omega)]
    · rw [List.getElem?_set_ne (Ne.symm e), wipe_at σ vs j]
      simp [e]
section
variable {M : Pm} {Γ Γ0 : Gam} {σ σ' : L2.St} {F0 H0 F H : Hp} {own0 own : Own}
theorem StR.wiped (s : StR M Γ σ F H own) (vs : List Nat) : StR M (wipeG Γ vs) (wipe σ vs) F H (fun j a => j ∉ vs ∧ own j a) where
  len := by rw [wipeG_length, wipe_length, s.len]
  fh := s.fh
  slot := fun j x h => by
    rw [wipeG_at] at h
    rw [wipe_at]
    by_cases q : j ∈ vs ∧ j < Γ.length
    · rw [if_pos q] at h
      cases h
      exact fun a z => z.1 q.1
    · rw [if_neg q] at h
      have hl : j < Γ.length := (List.getElem?_eq_some_iff.mp h).1
      have hv : j ∉ vs := fun z => q ⟨z, hl⟩
      rw [if_neg fun z => hv z.1]
      have e : (fun a => j ∉ vs ∧ own j a) = own j := by
        funext a
        simp [hv]
      rw [e]
      exact s.slot j x h
  out := fun j hj a z => s.out j (by rw [wipeG_length] at hj; exact hj) a z.2
  free := fun j a z => s.free j a z.2
  there := fun j a z => s.there j a z.2
  disj := fun j k a z z' => s.disj j k a z.2 z'.2
theorem step_wiped (st : Step F0 H0 own0 F H own) (vs : List Nat) : Step F0 H0 own0 F H (fun j a => j ∉ vs ∧ own j a) := ⟨st.ff, st.hh, st.nf, fun j a z => st.no j a z.2, st.al⟩
/-- a state over wiped slots, whatever the slots held -/
theorem StR.toWiped (s : StR M Γ σ' F H own) {vs : List Nat} (h : wipe σ' vs = wipe σ vs) : StR M (wipeG Γ vs) (wipe σ vs) F H (fun j a => j ∉ vs ∧ own j a) := by
  rw [← h]
  exact s.wiped vs
/-- behind a comprehension: the outer slots again -/
theorem StR.restored {F1 H1 : Hp} {own1 : Own} (s : StR M Γ (wipe σ vs) F H own) (s0 : StR M Γ0 σ F1 H1 own1) (e : Ex F1 F) : StR M (restG Γ0 Γ vs) σ F H (fun j a => j ∉ vs ∧ own j a) where
  len := by
    have := s.len
    rw [wipe_length] at this
    rw [restG_length, this]
  fh := s.fh
  slot := fun j x h => by
    have hlen : Γ.length = σ.length := by
      have := s.len
      rw [wipe_length] at this
      exact this
    rw [restG_at] at h
    by_cases q : j ∈ vs ∧ j < Γ.length
    · rw [if_pos q] at h
      cases h
      have hj0 : j < Γ0.length := by rw [s0.len, ← hlen]; exact q.2
      have e0 : (fun a => j ∉ vs ∧ own j a) = fun _ => False := by
        funext a
        simp [q.1]
      rw [e0]
      have h0 := s0.slot j Γ0[j] (List.getElem?_eq_getElem hj0)
      rw [List.getElem?_eq_getElem hj0]
      cases hk : Γ0[j] with
      | one f =>
        rw [hk] at h0
        cases f with
        | fz d =>
          obtain ⟨v, hv, _, r⟩ := h0
          exact ⟨v, hv, fun _ h => h, r.mono e⟩
        | _ => exact fun _ h => h
      | _ => exact fun _ h => h
    · rw [if_neg q] at h
      have hl : j < Γ.length := (List.getElem?_eq_some_iff.mp h).1
      have hv : j ∉ vs := fun z => q ⟨z, hl⟩
      have := s.slot j x h
      rw [wipe_at, if_neg fun z => hv z.1] at this
      have e0 : (fun a => j ∉ vs ∧ own j a) = own j := by
        funext a
        simp [hv]
      rw [e0]
      exact this
  out := fun j hj a z => s.out j (by rw [restG_length] at hj; exact hj) a z.2
  free := fun j a z => s.free j a z.2
  there := fun j a z => s.there j a z.2
  disj := fun j k a z z' => s.disj j k a z.2 z'.2
/-- an object that no slot owns, not frozen, changes -/
theorem StR.updFree {p : Addr} {o : HO} (s : StR M Γ σ F H own) (hF : F p = none) (hO : ∀ i, ¬ own i p) : StR M Γ σ F (upd H p o) own where
  len := s.len
  fh := fun a u e => by
    rw [upd_ne (ne_of_none e hF)]
    exact s.fh a u e
  slot := fun i x h => (s.slot i x h).mono (.refl _) fun b u hb hu => by
    rw [upd_ne fun e => hO i (by rw [← e]; exact hb)]
    exact hu
  out := s.out
  free := s.free
  there := fun i a h => by
    by_cases e : a = p
    · rw [e, upd_same]
      simp
    · rw [upd_ne e]
      exact s.there i a h
  disj := s.disj
theorem Step.updFree {p : Addr} {o : HO} (st : Step F0 H0 own0 F H own) (h0 : H0 p = Option.none) : Step F0 H0 own0 F (upd H p o) own :=
  ⟨st.ff, fun a u h n => by
    rw [upd_ne (ne_of_none h h0)]
    exact st.hh a u h n, st.nf, st.no, fun a h => by
    by_cases e : a = p
    · rw [e, upd_same]
      simp
    · rw [upd_ne e]
      exact st.al a h⟩
end
def brOk (br : Option (Nat × List D)) (vs : List Nat) : Bool := match br with
  | none => true
  | some p => !decide (p.1 ∈ vs)
def guardB (br : Option (Nat × List D)) (_ : Gam) : Bool := match br with
  | none => true
  | some _ => false
@[simp] theorem guardB_none (Γ : Gam) : guardB none Γ = true := rfl
theorem guardB_ok {br : Option (Nat × List D)} {Γ : Gam} (h : guardB br Γ = true) : Src.ok ⟨[], br⟩ Γ := by
  cases br with
  | none => exact fun _ _ e => by cases e
  | some p => cases h
def compGo (tg : D → Gam → Option Gam) (tt : Gam → R Bool) (te : Gam → R D) (vs : List Nat) (br : Option (Nat × List D)) : List D → Gam → List D → R (List D)
  | [], Γ, acc => if guardB br Γ = true then .ok acc Γ else .stuck
  | d :: ds, Γ, acc => if guardB br Γ = true then match tg d Γ with
      | none => .stuck
      | some Γ1 => (tt Γ1).bind fun b Γ2 => if b = true then (te Γ2).bind fun y Γ3 => if acc.length < sizeLine then compGo tg tt te vs br ds (wipeG Γ3 vs) (acc ++ [y]) else .stuck
        else compGo tg tt te vs br ds (wipeG Γ2 vs) acc
    else .stuck
def compEnd (Γ0 : Gam) (vs : List Nat) : R (List D) → R Val
  | .ok ds Γ => if ds.length ≤ sizeLine then .ok (.n (.ol ds)) (restG Γ0 Γ vs) else .stuck
  | _ => .stuck
def compM (mi : Gam → R Src) (tg : D → Gam → Option Gam) (tt : Gam → R Bool) (te : Gam → R D) (ts vs : List Nat) : Gam → R Val := fun Γ => (mi Γ).bind fun s Γ1 =>
  if (ts.all (fun t => decide (t ∈ vs)) && brOk s.br vs) = true then compEnd Γ1 vs (compGo tg tt te vs s.br s.items (wipeG Γ1 vs) []) else .stuck
def yesM : Gam → R Bool := fun Γ => .ok true Γ
section
variable {X : Cx} {M : Pm} {E : XK} {tg iter e a b c elt : Expr} {ifs : List Expr} {mi : Gam → R Src} {ts : List Nat} {tgm : D → Gam → Option Gam} {pos : Pos} {me : Gam → R Val} {tt : Gam → R Bool} {te : Gam → R D}
theorem PTs_weak {t t' : TT} (h : PTs X ifs t) (w : ∀ σ H Q, t' σ H Q → t σ H Q) : PTs X ifs t' := ⟨fun pins s σ H Q I q => h.run pins s σ H Q I (w σ H Q q)⟩
theorem ts_nil : PTs X [] (tT M E yesM) := PTs_weak pts_nil fun σ H Q ⟨Γ, F, own, s, q⟩ => q true F H own s (.refl _ _ _) rfl
theorem ts_one (h : PT X c (tT M E tt)) : PTs X [c] (tT M E tt) := pts_one h
theorem tLc_ok {vs : List Nat} {σ : L2.St} {H : Hp} {Q : VK} (q : tE M E (compM mi tgm tt te ts vs) σ H Q) : tLc (tI M E mi) (tGt M ts tgm) (tT M E0 tt) (tF M E0 te) vs σ H Q := by
  obtain ⟨Γ, F, own, s, q⟩ := q
  refine ⟨Γ, F, own, s, ?_⟩
  unfold compM at q
  cases e : mi Γ with
  | stuck =>
    rw [e] at q
    exact q
  | err x Γ1 =>
    rw [e] at q
    exact q
  | ok sr Γ1 =>
    rw [e] at q
    simp only [R.bind_ok] at q
    by_cases hc : (ts.all (fun t => decide (t ∈ vs)) && brOk sr.br vs) = true
    · rw [if_pos hc] at q
      simp only [Bool.and_eq_true, List.all_eq_true, decide_eq_true_eq] at hc
      obtain ⟨hts, hbr⟩ := hc
      intro F1 H1 own1 J st1 s1 hI ok Dl hD
      have hF1 : F1 Dl = none := st1.fh.back hD
      have hO1 : ∀ i, ¬ own1 i Dl := fun i hi => st1.there i Dl hi hD
      have brσ : ∀ k ds, sr.br = some (k, ds) → (wipe σ vs)[k]? = σ[k]? := fun k ds h => by
        rw [h] at hbr
        simp [brOk] at hbr
        rw [wipe_at, if_neg fun z => hbr z.1]
      have h0 : H Dl = none := s1.none Dl hD
      refine ⟨fun i k H' => i ≤ sr.items.length ∧ k = sr.items.length - i ∧ ∃ Γ' F' own' acc vacc, StR M Γ' (wipe σ vs) F' H' own' ∧ Step F1 H1 own1 F' H' own' ∧ H' Dl = some (.lst vacc) ∧ F' Dl = none ∧ (∀ j, ¬ own' j Dl) ∧ RepAll M.cls F' vacc acc ∧
          PostG (relV M) M E σ F H own Q (compEnd Γ1 vs (compGo tgm tt te vs sr.br (sr.items.drop i) Γ' acc)),
        ⟨_, Nat.zero_le _, rfl, wipeG Γ1 vs, F1, _, [], [], (st1.wiped vs).updFree hF1 (fun i z => hO1 i z.2), (step_wiped (.refl F1 H1 own1) vs).updFree hD, upd_same, hF1, fun i z => hO1 i z.2, .nil, by rw [List.drop_zero]; exact q⟩, fun i k H' ⟨hi, hk, Γ2, F2, own2, acc, vacc, st2, s2, hl2, hF2, hO2, r2, p2⟩ => ?_⟩
      by_cases he : i = sr.items.length
      · rw [he, List.drop_length] at p2
        simp only [compGo] at p2
        by_cases hgd : guardB sr.br Γ2 = true
        · rw [if_pos hgd] at p2
          simp only [compEnd] at p2
          by_cases hz : acc.length ≤ sizeLine
          · rw [if_pos hz] at p2
            left
            refine ⟨hI.stop i Γ2 (wipe σ vs) F2 H' own2 he st2 s2.ff (guardB_ok hgd) brσ, ?_⟩
            have st3 := st2.restored st1 s2.ff
            refine p2 _ F2 H' _ st3 (s1.trans (step_wiped s2 vs)) ⟨fun a => a = Dl, ⟨Dl, vacc, rfl, fun _ => .rfl, hl2, r2⟩, fun a ha => ?_⟩
            subst ha
            exact ⟨hF2, by rw [hl2]; simp, fun j z => hO2 j z.2, h0⟩
          · rw [if_neg hz] at p2
            exact p2.elim
        · rw [if_neg hgd] at p2
          exact p2.elim
      · right
        have hlt : i < sr.items.length := by omega
        have hdrop : sr.items.drop i = sr.items[i] :: sr.items.drop (i + 1) := List.drop_eq_getElem_cons hlt
        rw [hdrop] at p2
        simp only [compGo] at p2
        by_cases hgd : guardB sr.br Γ2 = true
        · rw [if_pos hgd] at p2
          have gok := guardB_ok hgd
          refine ⟨hI.go i Γ2 (wipe σ vs) F2 H' own2 hlt st2 s2.ff gok brσ, fun H' => i + 1 ≤ sr.items.length ∧ ∃ Γ' F' own' acc vacc, StR M Γ' (wipe σ vs) F' H' own' ∧ Step F1 H1 own1 F' H' own' ∧ H' Dl = some (.lst vacc) ∧ F' Dl = none ∧ (∀ j, ¬ own' j Dl) ∧ RepAll M.cls F' vacc acc ∧
            PostG (relV M) M E σ F H own Q (compEnd Γ1 vs (compGo tgm tt te vs sr.br (sr.items.drop (i + 1)) Γ' acc)), fun H' ⟨z1, z2⟩ => ⟨sr.items.length - (i + 1), by omega, z1, rfl, z2⟩, fun x H'' hy => ?_⟩
          obtain ⟨F3, d, g, hd, rd⟩ := hI.yld i Γ2 (wipe σ vs) F2 H' own2 x H'' hlt st2 s2.ff gok brσ hy
          have hde : sr.items[i] = d := by
            have := List.getElem?_eq_getElem hlt
            rw [hd] at this
            exact (Option.some.inj this).symm
          rw [hde] at p2
          have st3 := st2.grow g
          have s3 := s2.trans (g.step own2)
          have hl3 : H'' Dl = some (.lst vacc) := g.hh _ _ hl2
          have hF3 : F3 Dl = none := g.nf Dl hF2 (by rw [hl2]; simp)
          refine ⟨Γ2, F3, own2, d, st3, rd, ?_⟩
          cases ht : tgm d Γ2 with
          | none =>
            rw [ht] at p2
            exact p2.elim
          | some Γ3 =>
            rw [ht] at p2
            intro σ4 own4 st4 step4 k4 l4
            have hw : wipe σ4 vs = wipe σ vs := by
              apply List.ext_getElem?
              intro j
              rw [wipe_at, wipe_at]
              rw [wipe_length] at l4
              by_cases hj : j ∈ vs
              · by_cases hl : j < σ.length
                · rw [if_pos ⟨hj, by rw [l4]; exact hl⟩, if_pos ⟨hj, hl⟩]
                · rw [if_neg (by rw [l4]; exact fun z => hl z.2), if_neg (fun z => hl z.2), List.getElem?_eq_none (by omega), List.getElem?_eq_none (by omega)]
              · rw [if_neg (fun z => hj z.1), if_neg (fun z => hj z.1), k4 j (fun z => hj (hts j z)), wipe_at, if_neg fun z => hj z.1]
            refine ⟨hw, Γ3, F3, own4, st4, ?_⟩
            have hO4 : ∀ j, ¬ own4 j Dl := fun j hj => by
              rcases step4.no j Dl hj with ⟨k, hk⟩ | q
              · exact hO2 k hk
              · rw [hl3] at q
                cases q
            have s4 := s3.trans step4
            cases e4 : tt Γ3 with
            | stuck =>
              simp only [e4, R.bind_stuck, compEnd] at p2
              exact p2
            | err y Γ4 =>
              simp only [e4, R.bind_err, compEnd] at p2
              exact p2.elim
            | ok b Γ4 =>
              simp only [e4, R.bind_ok] at p2
              intro b' F5 H5 own5 st5 s5 rb
              have hbb : b' = b := rb
              rw [hbb]
              have s5' := s4.trans s5
              have hl5 : H5 Dl = some (.lst vacc) := s5.hh _ _ hl3 hO4
              have hF5 : F5 Dl = none := s5.nf Dl hF3 (by rw [hl3]; simp) hO4
              have hO5 : ∀ j, ¬ own5 j Dl := fun j hj => by
                rcases s5.no j Dl hj with ⟨k, hk⟩ | q
                · exact hO4 k hk
                · rw [hl3] at q
                  cases q
              have r5 : RepAll M.cls F5 vacc acc := (r2.mono g.ff).mono s5.ff
              by_cases hb : b = true
              · rw [if_pos hb] at p2 ⊢
                refine ⟨Γ4, F5, own5, st5, ?_⟩
                cases e6 : te Γ4 with
                | stuck =>
                  simp only [e6, R.bind_stuck, compEnd] at p2
                  exact p2
                | err y Γ6 =>
                  simp only [e6, R.bind_err, compEnd] at p2
                  exact p2.elim
                | ok y Γ6 =>
                  simp only [e6, R.bind_ok] at p2
                  intro v F6 H6 own6 st6 s6 rv
                  by_cases hz : acc.length < sizeLine
                  · rw [if_pos hz] at p2
                    have s6' := s5'.trans s6
                    have hl6 : H6 Dl = some (.lst vacc) := s6.hh _ _ hl5 hO5
                    have hF6 : F6 Dl = none := s6.nf Dl hF5 (by rw [hl5]; simp) hO5
                    have hO6 : ∀ j, ¬ own6 j Dl := fun j hj => by
                      rcases s6.no j Dl hj with ⟨k, hk⟩ | q
                      · exact hO5 k hk
                      · rw [hl5] at q
                        cases q
                    have r6 := r5.mono s6.ff
                    refine ⟨vacc, hl6, by rw [r6.length]; exact hz, hlt, wipeG Γ6 vs, F6, _, acc ++ [y], vacc ++ [v], (st6.toWiped hw).updFree hF6 (fun i z => hO6 i z.2), (step_wiped s6' vs).updFree hD, upd_same, hF6, fun i z => hO6 i z.2, r6.snoc rv, p2⟩
                  · rw [if_neg hz] at p2
                    exact p2.elim
              · rw [if_neg hb] at p2 ⊢
                exact ⟨hlt, wipeG Γ4 vs, F5, _, acc, vacc, st5.toWiped hw, step_wiped s5' vs, hl5, hF5, fun i z => hO5 i z.2, r5, p2⟩
        · rw [if_neg hgd] at p2
          exact p2.elim
    · rw [if_neg hc] at q
      exact q.elim
theorem e_lc {own : List (Str × Nat)} {scope : Scope} (hc : X.calm = true) (hN : X.N.Nodup) (hi : PI X tg iter (tI M E mi)) (ok : BlkOk X.N X.env.scope scope own)
    (hg : ∀ (s : Shared) (H : Hp) (C : Addr) (cl : List (Str × Addr)) (fp : List Addr), PG (X.blk s H scope (compEnvC scope cl C X.env) fp) tg (tGt M ts tgm)) (ht : ∀ (s : Shared) (H : Hp) (C : Addr) (cl : List (Str × Addr)) (fp : List Addr), PTs (X.blk s H scope (compEnvC scope cl C X.env) fp) ifs (tT M E0 tt))
    (he : ∀ (s : Shared) (H : Hp) (C : Addr) (cl : List (Str × Addr)) (fp : List Addr), PE (X.blk s H scope (compEnvC scope cl C X.env) fp) elt (tE M E0 me)) (hs : ∀ x, foldedSetIterable iter X.env x = pure x := by intro _; rfl) :
    PE X (.ListComp elt [⟨tg, iter, ifs, 0⟩] scope pos) (tE M E (compM mi tgm tt (fzL me) ts (own.map (·.2)))) :=
  PE_weak (pe_lc hc hN hi ok hg ht (fun s H C cl fp => pe_fz (he s H C cl fp)) hs) fun _ _ _ q => tLc_ok q
theorem s_setLc {i : Nat} {y : Str} {py : Pos} {own : List (Str × Nat)} {scope : Scope} {spos : Pos} (hc : X.calm = true) (hN : X.N.Nodup) (hy : X.N[i]? = some y) (hyl : X.env.scope.names.lookup y = some .local)
    (hsw : swapsWith (.ListComp elt [⟨tg, iter, ifs, 0⟩] scope pos) (some (.Name y py)) spos.line X.env = pure true) (hi : PI X tg iter (tI M E mi)) (ok : BlkOk X.N X.env.scope scope own)
    (hg : ∀ (s : Shared) (H : Hp) (C : Addr) (cl : List (Str × Addr)) (fp : List Addr), PG (X.blk s H scope (compEnvC scope cl C X.env) fp) tg (tGt M ts tgm)) (ht : ∀ (s : Shared) (H : Hp) (C : Addr) (cl : List (Str × Addr)) (fp : List Addr), PTs (X.blk s H scope (compEnvC scope cl C X.env) fp) ifs (tT M E0 tt))
    (he : ∀ (s : Shared) (H : Hp) (C : Addr) (cl : List (Str × Addr)) (fp : List Addr), PE (X.blk s H scope (compEnvC scope cl C X.env) fp) elt (tE M E0 me)) (hs : ∀ x, foldedSetIterable iter X.env x = pure x := by intro _; rfl) :
    PS X (.Assign [.Name y py] (.ListComp elt [⟨tg, iter, ifs, 0⟩] scope pos) spos) (tS M E (setM i (compM mi tgm tt (fzL me) ts (own.map (·.2))))) :=
  PS_weak (ps_setLc hc hN hy hyl hsw hi ok hg ht (fun s H C cl fp => pe_fz (he s H C cl fp)) hs) fun D σ H ⟨Γ, F, own', s, p⟩ =>
    tLc_ok (Q := fun x H1 => D.nx (σ.set i (some x)) H1) ⟨Γ, F, own', s, post_stm p fun F1 H1 own1 Γ1 x a _ s1 st1 r p1 => set_ok s1 st1 r p1⟩
end
/-! ### a def -/
end DL
end

section
set_option Elab.async false
set_option linter.all false
set_option maxRecDepth 100000
set_option maxHeartbeats 1000000
/-! DL11: the rule for a def; what callers take; first built-ins. -/
namespace DL
open PySem PySem.Spec PyProof.Rows L2

/-! ### arguments at the start and at the end -/
def isVal : Slot → Bool
  | .one (.fz _) => true
  | .vw _ => true
  | _ => false
def pinned : Slot → Bool
  | .cmp _ (some _) _ => true
  | .box _ (some _) _ => true
  | _ => false
def pinS : Slot → Slot
  | .cmp c _ fds => .cmp c (some 0) fds
  | .box n _ d => .box n (some 0) d
  | s => s
def pinA : List Slot → List Slot
  | s :: r => pinS s :: r
  | [] => []
def argOk : List Slot → Bool
  | s :: r => (isBx s || isVal s) && r.all isVal
  | [] => true
def startA (nl : Nat) (As : List Slot) : Gam := pinA As ++ List.replicate (nl - As.length) .un
def finA (As : List Slot) (Γ : Gam) : Option (List Slot) := match As with
  | [] => some []
  | s :: r => if isBx s = true then match Γ with
      | t :: _ => if pinned t = true then some (unpin t :: r) else none
      | [] => none
    else some (s :: r)
def outG (As : List Slot) : RS → R Val
  | .rt v Γ => if outV v = true then match finA As Γ with
      | some As' => .ok v As'
      | none => .stuck
    else .stuck
  | .nx Γ => match finA As Γ with
      | some As' => .ok (.f .none) As'
      | none => .stuck
  | .err e Γ => match finA As Γ with
      | some As' => .err e As'
      | none => .stuck
  | _ => .stuck
def gOf (np nl : Nat) (m : Gam → RS) : List Slot → R Val := fun As => if As.length = np ∧ argOk As = true then outG As (m (startA nl As)) else .stuck
theorem gOf_len {M : Pm} {np nl : Nat} {m : Gam → RS} : ∀ vs H Q E, spG M (gOf np nl m) vs H Q E → vs.length = np := by
  rintro vs H Q E ⟨As, F, own, st, p⟩
  unfold gOf at p
  have hl := st.len
  simp at hl
  by_cases h : As.length = np ∧ argOk As = true
  · omega
  · rw [if_neg h] at p
    exact p.elim
theorem val_slot {s : Slot} (h : isVal s = true) : (∃ d, s = .val d) ∨ ∃ ds, s = .vw ds := by
  cases s with
  | one f => cases f with
    | fz d => exact .inl ⟨d, rfl⟩
    | _ => cases h
  | vw ds => exact .inr ⟨ds, rfl⟩
  | _ => cases h
theorem val_keep {K : PySem.W.Frag} {cls : Str → Addr} {a0 a1 : Option Addr} {F H F' H' : Hp} {o : Ow} {ov : Option (Option V)} {s : Slot} (hv : isVal s = true) (h : SlotR ⟨K, cls, a0⟩ F H o ov s) (e : Ex F F') : SlotR ⟨K, cls, a1⟩ F' H' (fun _ => False) ov s := by
  rcases val_slot hv with ⟨d, rfl⟩ | ⟨ds, rfl⟩
  · obtain ⟨v, h1, h2, h3⟩ := h
    exact ⟨v, h1, fun _ h => h, Rep.mono e h3⟩
  · obtain ⟨h1, l, vs, h2, h3, h4⟩ := h
    exact ⟨fun _ h => h, l, vs, h2, sqL_ex e h3, h4.mono e⟩
theorem val_same {K : PySem.W.Frag} {cls : Str → Addr} {a0 a1 : Option Addr} {F H : Hp} {o : Ow} {ov : Option (Option V)} {s : Slot} (hv : isVal s = true) (h : SlotR ⟨K, cls, a0⟩ F H o ov s) : SlotR ⟨K, cls, a1⟩ F H o ov s := by
  rcases val_slot hv with ⟨d, rfl⟩ | ⟨ds, rfl⟩
  · exact h
  · exact h
theorem pin_slot {K : PySem.W.Frag} {cls : Str → Addr} {F H : Hp} {o : Ow} {ov : Option (Option V)} {s : Slot} {a0 : Option Addr} (hs : isBx s = true) (h : SlotR ⟨K, cls, none⟩ F H o ov s) (ha : ∀ a, ov = some (some (.ref a)) → a0 = some a) : SlotR ⟨K, cls, a0⟩ F H o ov (pinS s) := by
  cases s with
  | cmp c pin fds =>
    obtain ⟨a, e, hp, q⟩ := h
    exact ⟨a, e, fun _ _ => ha a e, q⟩
  | box n pin d =>
    obtain ⟨a, e, hp, q⟩ := h
    exact ⟨a, e, fun _ _ => ha a e, q⟩
  | _ => cases hs
/-- the slots as a body finds them -/
theorem start_state {K : PySem.W.Frag} {cls : Str → Addr} {F H : Hp} {N : List Str} {vs : List V} {As : List Slot} {own : Own} {a0 : Option Addr} (s : StR ⟨K, cls, none⟩ As (vs.map some) F H own) (hA : argOk As = true) (ha : ∀ a, vs.head? = some (.ref a) → a0 = some a) :
    StR ⟨K, cls, a0⟩ (startA N.length As) (start N vs) F H own := by
  have hl := s.len
  simp at hl
  have hpl : (pinA As).length = As.length := by cases As <;> rfl
  refine ⟨by simp [L2.start, startA, hpl]; omega, s.fh, fun i x h => ?_, fun i hi a z => ?_, s.free, s.there, s.disj⟩
  · unfold startA at h
    by_cases q : i < As.length
    · rw [List.getElem?_append_left (by omega)] at h
      have e0 : (start N vs)[i]? = (vs.map some)[i]? := by
        unfold L2.start
        rw [List.getElem?_append_left (by simp; omega)]
      rw [e0]
      cases As with
      | nil => simp at q
      | cons sl r =>
        cases i with
        | zero =>
          simp only [pinA, List.getElem?_cons_zero, Option.some.injEq] at h
          subst h
          have h0 := s.slot 0 sl rfl
          by_cases hb : isBx sl = true
          · refine pin_slot hb h0 fun a ea => ha a ?_
            cases vs with
            | nil => simp at ea
            | cons v vs =>
              simp only [List.map_cons, List.getElem?_cons_zero, Option.some.injEq] at ea
              simp [ea]
          · have hv : isVal sl = true := by
              simp only [argOk, Bool.and_eq_true, Bool.or_eq_true] at hA
              exact hA.1.resolve_left hb
            have e : pinS sl = sl := by
              rcases val_slot hv with ⟨d, rfl⟩ | ⟨ds, rfl⟩ <;> rfl
            rw [e]
            exact val_same hv h0
        | succ i =>
          simp only [pinA, List.getElem?_cons_succ] at h
          have h0 := s.slot (i + 1) x (by simpa using h)
          have hv : isVal x = true := by
            simp only [argOk, Bool.and_eq_true] at hA
            exact List.all_eq_true.mp hA.2 x (List.mem_of_getElem? h)
          exact val_same hv h0
    · rw [List.getElem?_append_right (by omega)] at h
      rw [List.getElem?_replicate] at h
      split at h
      · cases h
        exact fun a z => s.out i (by omega) a z
      · cases h
  · unfold startA at hi
    simp [hpl] at hi
    exact s.out i (by omega) a z
theorem step_less {F H F' H' : Hp} {own own' own'' : Own} (st : Step F H own F' H' own') (h : ∀ i a, own'' i a → ∃ j, own' j a) : Step F H own F' H' own'' :=
  ⟨st.ff, st.hh, st.nf, fun i a z => by
    obtain ⟨j, hj⟩ := h i a z
    exact st.no j a hj, st.al⟩
theorem unpin_slot {K : PySem.W.Frag} {cls : Str → Addr} {a0 : Option Addr} {F H : Hp} {o : Ow} {ov : Option (Option V)} {s : Slot} (h : SlotR ⟨K, cls, a0⟩ F H o ov s) (hs : pinned s = true) : ∃ a, a0 = some a ∧ SlotR ⟨K, cls, none⟩ F H o (some (some (.ref a))) (unpin s) := by
  cases s with
  | cmp c pin fds =>
    cases pin with
    | none => cases hs
    | some b =>
      obtain ⟨a, e, hp, q⟩ := h
      exact ⟨a, hp b rfl, a, rfl, fun b hb => (nomatch hb), q⟩
  | box n pin d =>
    cases pin with
    | none => cases hs
    | some b =>
      obtain ⟨a, e, hp, q⟩ := h
      exact ⟨a, hp b rfl, a, rfl, fun b hb => (nomatch hb), q⟩
  | _ => cases hs
/-- the arguments at the end -/
theorem end_state {K : PySem.W.Frag} {cls : Str → Addr} {a0 : Option Addr} {F H F' H' : Hp} {vs : List V} {As As' : List Slot} {Γ' : Gam} {σ' : L2.St} {own own' : Own} (s : StR ⟨K, cls, none⟩ As (vs.map some) F H own) (hA : argOk As = true) (ha : ∀ a, vs.head? = some (.ref a) → a0 = some a)
    (s' : StR ⟨K, cls, a0⟩ Γ' σ' F' H' own') (st : Step F H own F' H' own') (he : finA As Γ' = some As') : ∃ own'' : Own, StR ⟨K, cls, none⟩ As' (vs.map some) F' H' own'' ∧ Step F H own F' H' own'' ∧ ∀ i a, own'' i a → ∃ j, own' j a := by
  have hl := s.len
  simp at hl
  cases As with
  | nil =>
    cases he
    refine ⟨fun _ _ => False, ⟨s.len, s'.fh, fun i x h => by simp at h, fun _ _ _ h => h, fun _ _ h => h.elim, fun _ _ h => h.elim, fun _ _ _ h _ => h.elim⟩, step_less st fun _ _ h => h.elim, fun _ _ h => h.elim⟩
  | cons sl r =>
    have hr : ∀ i x, r[i]? = some x → SlotR ⟨K, cls, none⟩ F' H' (fun _ => False) (vs.map some)[i + 1]? x := fun i x h => by
      have h0 := s.slot (i + 1) x (by simpa using h)
      have hv : isVal x = true := by
        simp only [argOk, Bool.and_eq_true] at hA
        exact List.all_eq_true.mp hA.2 x (List.mem_of_getElem? h)
      exact val_keep hv h0 st.ff
    simp only [finA] at he
    by_cases hb : isBx sl = true
    · rw [if_pos hb] at he
      cases Γ' with
      | nil => cases he
      | cons t Γ' =>
        simp only at he
        by_cases hp : pinned t = true
        · rw [if_pos hp] at he
          cases he
          obtain ⟨a, e1, e2⟩ := unpin_slot (s'.slot 0 t rfl) hp
          obtain ⟨a', e3⟩ : ∃ a', (vs.map some)[0]? = some (some (.ref a')) := by
            have h0 := s.slot 0 sl rfl
            cases sl with
            | cmp c pin fds =>
              obtain ⟨a', e, _⟩ := h0
              exact ⟨a', e⟩
            | box c pin fds =>
              obtain ⟨a', e, _⟩ := h0
              exact ⟨a', e⟩
            | _ => cases hb
          have e4 : a0 = some a' := ha a' (by
            cases vs with
            | nil => simp at e3
            | cons v vs =>
              simp only [List.map_cons, List.getElem?_cons_zero, Option.some.injEq] at e3
              simp [e3])
          rw [e1] at e4
          cases e4
          refine ⟨fun k b => k = 0 ∧ own' 0 b, ⟨by simp; simp at hl; omega, s'.fh, fun i x h => ?_, fun i hi a q => ?_, fun i a q => s'.free 0 a q.2, fun i a q => s'.there 0 a q.2, fun i j a q1 q2 => by rw [q1.1, q2.1]⟩, step_less st fun i a q => ⟨0, q.2⟩, fun i a q => ⟨0, q.2⟩⟩
          · cases i with
            | zero =>
              simp only [List.getElem?_cons_zero, Option.some.injEq] at h
              subst h
              have e0 : (fun b => (0 : Nat) = 0 ∧ own' 0 b) = own' 0 := by
                funext b
                simp
              rw [e0, e3]
              exact e2
            | succ i =>
              have e0 : (fun b => i + 1 = 0 ∧ own' 0 b) = fun _ => False := by
                funext b
                simp
              rw [e0]
              exact hr i x (by simpa using h)
          · obtain ⟨rfl, _⟩ := q
            simp at hi
        · rw [if_neg hp] at he
          cases he
    · rw [if_neg hb] at he
      cases he
      have hv : isVal sl = true := by
        simp only [argOk, Bool.and_eq_true, Bool.or_eq_true] at hA
        exact hA.1.resolve_left hb
      refine ⟨fun _ _ => False, ⟨s.len, s'.fh, fun i x h => ?_, fun _ _ _ h => h, fun _ _ h => h.elim, fun _ _ h => h.elim, fun _ _ _ h _ => h.elim⟩, step_less st fun _ _ h => h.elim, fun _ _ h => h.elim⟩
      cases i with
      | zero =>
        cases h
        exact val_keep hv (s.slot 0 _ rfl) st.ff
      | succ i => exact hr i x (by simpa using h)
section
variable {P : Program} {w : World} {K : PySem.W.Frag} {cls : Str → Addr} {mg : Str → Option Value} {base : Heap} {x qual : Str} {params : Arguments} {body : List Stmt} {scope : Scope} {f : Addr} {fd : FuncData} {N ps : List Str} {k : Nat}
/-- THE RULE of a def -/
theorem fn_G {m : Gam → RS} (F : FunD K x qual params body scope [] [] f fd) (S : FnScope N ps scope)
    (hbody : ∀ (cdv : Value) (A : Around) (outer : List Env) (s : Shared) (H : Hp) (E : XK) (a0 : Option Addr), Room k (A.deeper (envOfC qual scope s.heap.objs.size f cdv)) →
      PSs (cxOf (L2.CX P w) P w K mg base N qual scope f cdv A outer s H E) body (tS ⟨K, cls, a0⟩ E m)) : FnOk P w K mg base (L2.CX P w) (k + 1) f fd ps (spG ⟨K, cls, none⟩ (gOf ps.length N.length m)) := by
  refine F.ok S gOf_len fun cdv A outer s H vs Q E hr h => ?_
  obtain ⟨As, Fh, own, st, p⟩ := h
  unfold gOf at p
  by_cases hc : As.length = ps.length ∧ argOk As = true
  · rw [if_pos hc] at p
    refine ⟨_, hbody cdv A outer s H E (match vs.head? with | some (.ref a) => some a | _ => none) hr, ?_⟩
    have ha : ∀ a, vs.head? = some (.ref a) → (match vs.head? with | some (.ref a) => some a | _ => (none : Option Addr)) = some a := fun a e => by rw [e]
    refine ⟨_, Fh, own, start_state (N := N) st hc.2 ha, ?_⟩
    cases em : m (startA N.length As) with
    | stuck =>
      rw [em] at p
      exact p.elim
    | bk Γ' =>
      rw [em] at p
      exact p.elim
    | ct Γ' =>
      rw [em] at p
      exact p.elim
    | nx Γ' =>
      rw [em] at p
      simp only [outG] at p
      cases ef : finA As Γ' with
      | none =>
        rw [ef] at p
        exact p.elim
      | some As' =>
        rw [ef] at p
        intro σ' F' H' own' s1 s2
        obtain ⟨own'', s3, s4, _⟩ := end_state st hc.2 ha s1 s2 ef
        exact p .non F' H' own'' s3 s4 .non
    | err y Γ' =>
      rw [em] at p
      simp only [outG] at p
      cases ef : finA As Γ' with
      | none =>
        rw [ef] at p
        exact p.elim
      | some As' =>
        rw [ef] at p
        intro σ' F' H' own' dd w s1 s2 h1 h2 h3 h4 h5
        obtain ⟨own'', s3, s4, s5⟩ := end_state st hc.2 ha s1 s2 ef
        exact p F' H' own'' dd w s3 s4 h1 h2 h3 (fun i hi => by
          obtain ⟨j, hj⟩ := s5 i dd hi
          exact h4 j hj) h5
    | rt v Γ' =>
      rw [em] at p
      simp only [outG] at p
      by_cases ho : outV v = true
      · rw [if_pos ho] at p
        cases ef : finA As Γ' with
        | none =>
          rw [ef] at p
          exact p.elim
        | some As' =>
          rw [ef] at p
          intro x σ' F' H' own' s1 s2 rv
          obtain ⟨own'', s3, s4, s5⟩ := end_state st hc.2 ha s1 s2 ef
          refine p x F' H' own'' s3 s4 ?_
          have nw : ∀ {o}, New H F' H' own' o → New H F' H' own'' o := fun n a ha => ⟨(n a ha).1, (n a ha).2.1, fun i hi => by
            obtain ⟨j, hj⟩ := s5 i a hi
            exact (n a ha).2.2.1 j hj, (n a ha).2.2.2⟩
          cases v with
          | f d => exact rv
          | b i => cases ho
          | n f =>
            obtain ⟨o, h1, h2⟩ := rv
            refine ⟨o, ?_, nw h2⟩
            cases f <;> exact h1
          | nc c f =>
            obtain ⟨a, o, h0, h1, h2⟩ := rv
            exact ⟨a, o, h0, h1, nw h2⟩
          | nb n f =>
            obtain ⟨a, o, h0, h1, h2⟩ := rv
            exact ⟨a, o, h0, h1, nw h2⟩
      · rw [if_neg ho] at p
        exact p.elim
  · rw [if_neg hc] at p
    exact p.elim
end
section
variable {P : Program} {w : World} {K : PySem.W.Frag} {cls : Str → Addr} {mg : Str → Option Value} {base : Heap} {x qual : Str} {params : Arguments} {body : List Stmt} {scope : Scope} {f : Addr} {fd : FuncData}
theorem fn_H (N ps : List Str) (np nl k : Nat) (m : Gam → RS) (hp : ps.length = np) (hn : N.length = nl) (F : FunD K x qual params body scope [] [] f fd) (S : FnScope N ps scope)
    (hbody : ∀ (cdv : Value) (A : Around) (outer : List Env) (s : Shared) (H : Hp) (E : XK) (a0 : Option Addr), Room k (A.deeper (envOfC qual scope s.heap.objs.size f cdv)) →
      PSs (cxOf (L2.CX P w) P w K mg base N qual scope f cdv A outer s H E) body (tS ⟨K, cls, a0⟩ E m)) : FnOk P w K mg base (L2.CX P w) (k + 1) f fd ps (spG ⟨K, cls, none⟩ (gOf np nl m)) := by
  subst hp hn
  exact fn_G F S hbody
end
/-! ### what a caller takes of a def -/
def FnC (P : Program) (w : World) (K : PySem.W.Frag) (mg : Str → Option Value) (base : Heap) (cls : Str → Addr) (x : Str) (k : Nat) (g : List Slot → R Val) : Prop :=
  ∃ f fd ps, FnOk P w K mg base (L2.CX P w) k f fd ps (spG ⟨K, cls, none⟩ g) ∧ mg x = some (.ref f) ∧ PySem.W.keepIn K (.ref f) = true ∧ Binds K fd ps []
section
variable {X : Cx} {cls : Str → Addr} {a0 : Option Addr} {E : XK} {e : Expr} {es : List Expr} {ms : Gam → R (List Val)} {p pos : Pos} {x : Str} {k : Nat} {g : List Slot → R Val}
theorem e_callC (C : FnC X.prog X.w X.K X.mg X.base cls x k g) (hr : Room k X.A) (hg : Gl X x) (hx : Passes (L2.CX X.prog X.w) X E) (ha : PA X (e :: es) (tA ⟨X.K, cls, a0⟩ E ms)) (hdb : (x == ("__debug__" : Str)) = false := by decide)
    (he : starEach (e :: es) X.env = (false, eval e X.env) :: starEach es X.env := by rfl) (hpl : (backTo pos (starEach es X.env)).any (·.1) = false := by rfl) : PE X (.Call (.Name x p) (e :: es) [] pos) (tE ⟨X.K, cls, a0⟩ E (callM (callG g) ms)) := by
  obtain ⟨f, fd, ps, F, hm, hk, hb⟩ := C
  exact e_call (M := ⟨X.K, cls, a0⟩) F hr hg hm hk hb hx ha hdb he hpl
theorem pxE {P : Program} {w : World} {K : PySem.W.Frag} {mg : Str → Option Value} {base : Heap} {N : List Str} {qual : Str} {scope : Scope} {f : Addr} {cd : Value} {A : Around} {outer : List Env} {s : Shared} {H : Hp} {E : XK} :
    Passes (L2.CX P w) (cxOf (L2.CX P w) P w K mg base N qual scope f cd A outer s H E) E := passes_call (takes_of rfl rfl rfl rfl) fun _ _ _ _ h => h
end
theorem ownE {P : Program} {w : World} {K : PySem.W.Frag} {mg : Str → Option Value} {base : Heap} {N : List Str} {qual : Str} {scope : Scope} {f : Addr} {cd : Value} {A : Around} {outer : List Env} {s : Shared} {H : Hp} {E : XK} :
    PassesOwn (model (cxOf (L2.CX P w) P w K mg base N qual scope f cd A outer s H E).prog (cxOf (L2.CX P w) P w K mg base N qual scope f cd A outer s H E).w) (cxOf (L2.CX P w) P w K mg base N qual scope f cd A outer s H E).A (cxOf (L2.CX P w) P w K mg base N qual scope f cd A outer s H E).env (cxOf (L2.CX P w) P w K mg base N qual scope f cd A outer s H E).xe := passes_of rfl
abbrev GC (mg : Str → Option Value) (x : Str) (v : V) : Prop := ∃ u, mg x = some u ∧ RelV v u
abbrev FnP (K : PySem.W.Frag) (x qual : Str) (st : Stmt) (f : Addr) (fd : FuncData) : Prop := FunD K x qual (defArgs st) (defBody st) (defScope st) [] [] f fd
/-! ### methods, classes: what a caller takes -/
def MetC (P : Program) (w : World) (K : PySem.W.Frag) (mg : Str → Option Value) (base : Heap) (cls : Str → Addr) (c name : Str) (k : Nat) (g : List Slot → R Val) : Prop :=
  ∃ f fd ps, Cls K (cls c) ∧ Meth K (cls c) name f ∧ FnOk P w K mg base (L2.CX P w) k f fd ps (spG ⟨K, cls, none⟩ g) ∧ Binds K fd ps []
def MkC (P : Program) (w : World) (K : PySem.W.Frag) (mg : Str → Option Value) (base : Heap) (cls : Str → Addr) (c : Str) (k : Nat) (g : List Slot → R Val) : Prop :=
  ∃ f fd ps, mg c = some (.ref (cls c)) ∧ Mk K (cls c) f ∧ FnOk P w K mg base (L2.CX P w) k f fd ps (spG ⟨K, cls, none⟩ g) ∧ Binds K fd ps []
section
variable {X : Cx} {cls : Str → Addr} {a0 : Option Addr} {E : XK} {e o : Expr} {es : List Expr} {mo : Gam → R Val} {ms : Gam → R (List Val)} {p pos apos : Pos} {x c name : Str} {k : Nat} {g : List Slot → R Val}
theorem e_call0C (C : FnC X.prog X.w X.K X.mg X.base cls x k g) (hr : Room k X.A) (hg : Gl X x) (hx : Passes (L2.CX X.prog X.w) X E) (hdb : (x == ("__debug__" : Str)) = false := by decide) : PE X (.Call (.Name x p) [] [] pos) (tE ⟨X.K, cls, a0⟩ E (fun Γ => callG g Γ [])) := by
  obtain ⟨f, fd, ps, F, hm, hk, hb⟩ := C
  exact e_call0 (M := ⟨X.K, cls, a0⟩) F hr hg hm hk hb hx hdb
theorem e_methC {pl : Sem Bool} (C : MetC X.prog X.w X.K X.mg X.base cls c name k g) (he : PE X o (tE ⟨X.K, cls, a0⟩ E mo)) (hr : Room k X.A) (hx : Passes (L2.CX X.prog X.w) X E) (ha : PA X (e :: es) (tA ⟨X.K, cls, a0⟩ E ms))
    (hst : starEach (e :: es) X.env = (false, eval e X.env) :: starEach es X.env := by rfl) (hpl : (backTo pos (starEach es X.env)).any (·.1) = false := by rfl)
    (ht : eval (.Call (.Attribute o name apos) (e :: es) [] pos) X.env = (do
      let ov ← eval o X.env
      standAt apos.atName
      let (f, first) ← holding [ov] (getMethod ov name pl)
      callWith pos f first (backTo pos (starEach (e :: es) X.env)) (backToKw pos (keywordEach [] X.env))) := by rfl) :
    PE X (.Call (.Attribute o name apos) (e :: es) [] pos) (tE ⟨X.K, cls, a0⟩ E (methM c name g mo ms)) := by
  obtain ⟨f, fd, ps, h1, h2, F, hb⟩ := C
  exact e_meth (M := ⟨X.K, cls, a0⟩) he h1 h2 F hr hb hx ha hst hpl ht
theorem e_meth0C {pl : Sem Bool} (C : MetC X.prog X.w X.K X.mg X.base cls c name k g) (he : PE X o (tE ⟨X.K, cls, a0⟩ E mo)) (hr : Room k X.A) (hx : Passes (L2.CX X.prog X.w) X E)
    (ht : eval (.Call (.Attribute o name apos) [] [] pos) X.env = (do
      let ov ← eval o X.env
      standAt apos.atName
      let (f, first) ← holding [ov] (getMethod ov name pl)
      callWith pos f first (backTo pos (starEach [] X.env)) (backToKw pos (keywordEach [] X.env))) := by rfl) :
    PE X (.Call (.Attribute o name apos) [] [] pos) (tE ⟨X.K, cls, a0⟩ E (methM c name g mo nilA)) := by
  obtain ⟨f, fd, ps, h1, h2, F, hb⟩ := C
  exact e_meth0 (M := ⟨X.K, cls, a0⟩) he h1 h2 F hr hb hx ht
theorem e_makeC (C : MkC X.prog X.w X.K X.mg X.base cls c k g) (hr : Room (k + 1) X.A) (hg : Gl X c) (hx : Passes (L2.CX X.prog X.w) X E) (ha : PA X (e :: es) (tA ⟨X.K, cls, a0⟩ E ms)) (hdb : (c == ("__debug__" : Str)) = false := by decide)
    (he : starEach (e :: es) X.env = (false, eval e X.env) :: starEach es X.env := by rfl) (hpl : (backTo pos (starEach es X.env)).any (·.1) = false := by rfl) : PE X (.Call (.Name c p) (e :: es) [] pos) (tE ⟨X.K, cls, a0⟩ E (callM (makeV c g) ms)) := by
  obtain ⟨f, fd, ps, hm, h1, F, hb⟩ := C
  exact e_make (M := ⟨X.K, cls, a0⟩) h1 F hr hg hm hb hx ha hdb he hpl
theorem e_make0C (C : MkC X.prog X.w X.K X.mg X.base cls c k g) (hr : Room (k + 1) X.A) (hg : Gl X c) (hx : Passes (L2.CX X.prog X.w) X E) (hdb : (c == ("__debug__" : Str)) = false := by decide) : PE X (.Call (.Name c p) [] [] pos) (tE ⟨X.K, cls, a0⟩ E (fun Γ => makeV c g Γ [])) := by
  obtain ⟨f, fd, ps, hm, h1, F, hb⟩ := C
  exact e_make0 (M := ⟨X.K, cls, a0⟩) h1 F hr hg hm hb hx hdb
end
/-! ### len -/
def lenF (Γ : Gam) (vs : List Val) : R Val := match vs with
  | [v] => match viewD Γ v with
    | some (.str z) => if z.length ≤ sizeLine then .ok (.f (.int (z.length : Int))) Γ else .stuck
    | some (.list ds) => .ok (.f (.int (ds.length : Int))) Γ
    | some (.tuple ds) => .ok (.f (.int (ds.length : Int))) Γ
    | _ => .stuck
  | _ => .stuck
abbrev rLenA (K : PySem.W.Frag) : List V → Hp → VK → Prop := fun xs H Q => ∃ x n, xs = [x] ∧ LenV K x H n ∧ Q (.int n) H
theorem cs_len {M : Pm} : CallS M (rLenA M.K) lenF := by
  intro E Γ σ F0 H0 own0 F H own xs as Q s st r p
  unfold lenF at p
  split at p
  · cases r with
    | cons r1 r2 =>
      cases r2
      split at p
      · rename_i z hv
        split at p
        · rename_i hz
          have := view_str s r1 hv
          subst this
          exact ⟨_, _, rfl, ⟨hz, rfl⟩, post_now s st p (.int _)⟩
        · exact p.elim
      · rename_i ds hv
        obtain ⟨l, vs, rfl, h1, h2⟩ := view_list s r1 hv
        exact ⟨_, _, rfl, .inl ⟨vs, h1, rfl⟩, by rw [h2.length]; exact post_now s st p (.int _)⟩
      · rename_i ds hv
        obtain ⟨l, vs, rfl, _, h1, h2⟩ := view_tup s r1 hv
        exact ⟨_, _, rfl, .inr ⟨vs, h1, rfl⟩, by rw [h2.length]; exact post_now s st p (.int _)⟩
      · exact p.elim
  · exact p.elim
/-! ### isinstance -/
inductive TyN where
  | non | bl | int | str | lst | tup | dic | cls (c : Str)
  deriving DecidableEq
def tyD : D → TyN
  | .none => .non
  | .bool _ => .bl
  | .int _ => .int
  | .str _ => .str
  | .list _ => .lst
  | .tuple _ => .tup
  | .dict ((.none, .str c) :: _) => .cls c
  | .dict ((.none, .int 2) :: _) => .cls ""
  | .dict ((.none, .int 4) :: _) => .cls ""
  | .dict ((.none, .int 5) :: _) => .cls ""
  | .dict _ => .dic
def isTyB (T : TyN) (t : TyN) : Option Bool := match T, t with
  | _, .cls _ => none
  | .int, .bl => some true
  | T, t => some (decide (T = t))
def tyName : TyN → String
  | .non => "NoneType"
  | .bl => "bool"
  | .int => "int"
  | .str => "str"
  | .lst => "list"
  | .tup => "tuple"
  | .dic => "dict"
  | .cls _ => ""
theorem kit_of_ty {K : PySem.W.Frag} {T t : TyN} {b : Bool} (hT : T = .bl ∨ T = .int ∨ T = .str ∨ T = .lst ∨ T = .tup ∨ T = .dic) (h : isTyB T t = some b) : PySem.W.kitOne K (.type (tyName t)) (.type (tyName T)) = some b := by
  rcases hT with rfl | rfl | rfl | rfl | rfl | rfl <;> cases t <;> simp [isTyB] at h <;> subst h <;> exact kit_ty (by decide +kernel)
theorem rep_ty {M : Pm} {F H : Hp} {v : V} {d : D} (fh : Ex F H) (r : Rep M.cls F v d) (hn : ∀ c, tyD d ≠ .cls c) : TyX M.K H v (.type (tyName (tyD d))) := by
  cases r with
  | non => exact .base .non
  | bl b => exact .base (.bl b)
  | int i => exact .base (.int i)
  | str x => exact .base (.str x)
  | lst h _ => exact .base (.lst (fh _ _ h))
  | tup h _ => exact .base (.tup (fh _ _ h))
  | dcF h _ _ => exact .fDict (fh _ _ h)
  | kn h _ _ _ => exact absurd rfl (hn _)
  | tupF h _ _ => exact .fTuple (fh _ _ h)
  | dcK h _ _ => exact .base (.dK (fh _ _ h))
  | dcT h _ _ => exact .base (.dT (fh _ _ h))
  | dcG h _ _ _ => exact absurd rfl (hn _)
  | exn h _ _ => exact absurd rfl (hn _)
  | ins h _ _ => exact absurd rfl (hn _)
end DL
end

section
set_option Elab.async false
set_option linter.all false
set_option maxRecDepth 100000
set_option maxHeartbeats 1000000
/-! DL12: built-ins. -/
namespace DL
open PySem PySem.Spec PyProof.Rows L2

/-! ### isinstance -/
def tyV (Γ : Gam) : Val → Option TyN
  | .f d => some (tyD d)
  | .b i => match Γ[i]? with
    | some (.one (.fz d)) => some (tyD d)
    | some (.one (.ol _)) => some .lst
    | some (.one (.oK _)) => some .dic
    | some (.one (.oT _)) => some .dic
    | _ => none
  | _ => none
theorem tyD_dicK (k : List (Key × D)) : tyD (dicK k) = .dic := rfl
theorem tyD_dicT (k : List (List Key × D)) : tyD (dicT k) = .dic := rfl
theorem ty_ok {M : Pm} {Γ : Gam} {σ : L2.St} {F H : Hp} {own : Own} {x : V} {a : Val} {t : TyN} (s : StR M Γ σ F H own) (r : ValRd M σ F x a) (h : tyV Γ a = some t) (hn : ∀ c, t ≠ .cls c) : TyX M.K H x (.type (tyName t)) := by
  cases a with
  | f d =>
    cases h
    exact rep_ty s.fh r hn
  | b i =>
    have h' : σ[i]? = some (some x) := r
    simp only [tyV] at h
    split at h
    · rename_i d e
      cases h
      obtain ⟨v, h1, _, h2⟩ := s.slot i _ e
      rw [h'] at h1
      cases h1
      exact rep_ty s.fh h2 hn
    · rename_i d e
      cases h
      obtain ⟨v, h1, l, vs, rfl, _, h2, _⟩ := s.slot i _ e
      rw [h'] at h1
      cases h1
      exact .base (.lst h2)
    · rename_i d e
      cases h
      obtain ⟨v, h1, l, vs, rfl, _, h2, _⟩ := s.slot i _ e
      rw [h'] at h1
      cases h1
      exact .base (.dK h2)
    · rename_i d e
      cases h
      obtain ⟨v, h1, l, vs, rfl, _, h2, _⟩ := s.slot i _ e
      rw [h'] at h1
      cases h1
      exact .base (.dT h2)
    · cases h
  | _ => cases h
def tyOk : TyN → Bool
  | .non => false
  | .cls _ => false
  | _ => true
def isTyF (T : TyN) (Γ : Gam) (v : Val) : R Val := match tyV Γ v with
  | some t => match isTyB T t with
    | some b => .ok (.f (.bool b)) Γ
    | none => .stuck
  | none => .stuck
def isTyM (T : TyN) (m : Gam → R Val) : Gam → R Val := fun Γ => (rd m Γ).bind fun v Γ1 => isTyF T Γ1 v
section
variable {X : Cx} {M : Pm} {E : XK} {e c : Expr} {es : List Expr} {m : Gam → R Val} {p p2 p3 pos : Pos}
theorem pe_tyName {n : String} (hg : Gl X (n : String)) (hm : X.mg n = none) (hv : bootBuiltins n = some (.type n)) (hn : (n : Str) ≠ "__name__" := by decide) (hdb : ((n : Str) == ("__debug__" : Str)) = false := by decide) : PE X (.Name n p) (tC (.ty n)) :=
  pe_bltn hg hm hv (show RelV (.ty n) (.type n) from rfl) hn hdb
theorem isTyB_cls {T t : TyN} {b : Bool} (h : isTyB T t = some b) : ∀ c, t ≠ .cls c := by
  rintro c rfl
  cases T <;> simp [isTyB] at h
theorem tyOk_or {T : TyN} (h : tyOk T = true) : T = .bl ∨ T = .int ∨ T = .str ∨ T = .lst ∨ T = .tup ∨ T = .dic := by cases T <;> simp [tyOk] at h ⊢
/-- isinstance(e, T), T built-in -/
theorem e_isi (T : TyN) (hK : X.K = M.K) (hT : tyOk T = true) (hg : Gl X "isinstance") (hm : X.mg "isinstance" = none) (he : PE X e (tE M E m)) (hc : PE X c (tC (.ty (tyName T))))
    (h1 : starEach [e, c] X.env = (false, eval e X.env) :: starEach [c] X.env := by rfl) (h2 : starEach [c] X.env = (false, eval c X.env) :: starEach [] X.env := by rfl) (hpl : (backTo pos (starEach [c] X.env)).any (·.1) = false := by rfl) :
    PE X (.Call (.Name "isinstance" p) [e, c] [] pos) (tE M E (isTyM T m)) :=
  PE_weak (pe_callB call_isi hg hm (by kernel_rfl) (pa_cons (pe_rd he) (pa_cons hc pa_nil h2) h1) (by decide) (by decide) h1 hpl) fun σ H Q q => by
    obtain ⟨Γ, F, own, st, q⟩ := q
    refine ⟨Γ, F, own, st, post_bind q fun F1 H1 own1 Γ1 x a _ st1 s1 r1 p1 => ?_⟩
    unfold isTyF at p1
    split at p1
    · rename_i t ht
      split at p1
      · rename_i b hb
        have hn := isTyB_cls hb
        refine ⟨x, _, .type (tyName t), .type (tyName T), b, rfl, .ty _, ?_, kit_of_ty (tyOk_or hT) hb, post_now st1 s1 p1 (.bl _)⟩
        rw [hK]
        exact ty_ok st1 r1 ht hn
      · exact p1.elim
    · exact p1.elim
end

/-! ### built-ins by values -/
def intsOf : List D → Option (List Int)
  | [] => some []
  | .int i :: r => match intsOf r with
    | some ns => some (i :: ns)
    | none => none
  | _ => none
def boolsOf : List D → Option (List Bool)
  | [] => some []
  | .bool i :: r => match boolsOf r with
    | some ns => some (i :: ns)
    | none => none
  | _ => none
theorem intsOf_ok {cls : Str → Addr} {F : Hp} : ∀ {vs : List V} {ds : List D} {ns : List Int}, RepAll cls F vs ds → intsOf ds = some ns → vs = ns.map V.int
  | _, _, _, .nil, h => by
    cases h
    rfl
  | _, d :: _, ns, .cons h r, e => by
    cases d with
    | int i =>
      simp only [intsOf] at e
      split at e
      · rename_i ns' e'
        cases e
        cases h
        rw [intsOf_ok r e']
        rfl
      · cases e
    | _ => cases e
theorem boolsOf_ok {cls : Str → Addr} {F : Hp} : ∀ {vs : List V} {ds : List D} {ns : List Bool}, RepAll cls F vs ds → boolsOf ds = some ns → vs = ns.map V.bl
  | _, _, _, .nil, h => by
    cases h
    rfl
  | _, d :: _, ns, .cons h r, e => by
    cases d with
    | bool i =>
      simp only [boolsOf] at e
      split at e
      · rename_i ns' e'
        cases e
        cases h
        rw [boolsOf_ok r e']
        rfl
      · cases e
    | _ => cases e
def sumF (Γ : Gam) (vs : List Val) : R Val := match vs with
  | [v] => match viewD Γ v with
    | some (.list ds) => match intsOf ds with
      | some ns => .ok (.f (.int ns.sum)) Γ
      | none => .stuck
    | _ => .stuck
  | _ => .stuck
theorem cs_sum {M : Pm} : CallS M (rSum M.K) sumF := by
  intro E Γ σ F0 H0 own0 F H own xs as Q s st r p
  unfold sumF at p
  split at p
  · cases r with
    | cons r1 r2 =>
      cases r2
      split at p
      · rename_i ds hv
        split at p
        · rename_i ns hn
          obtain ⟨l, vs, rfl, h1, h2⟩ := view_list s r1 hv
          have := intsOf_ok h2 hn
          subst this
          exact ⟨_, _, rfl, h1, post_now s st p (.int _)⟩
        · exact p.elim
      · exact p.elim
  · exact p.elim
def maxL : Int → List Int → Int
  | m, [] => m
  | m, n :: r => maxL (if m < n then n else m) r
theorem maxL_mem : ∀ (m : Int) (r : List Int), maxL m r ∈ m :: r
  | m, [] => by simp [maxL]
  | m, n :: r => by
    have := maxL_mem (if m < n then n else m) r
    unfold maxL
    split at this <;> rename_i h <;> simp only [h, if_true, if_false] <;> simp at this ⊢ <;> rcases this with h | h <;> simp [h]
theorem maxL_le : ∀ (m : Int) (r : List Int) (y : Int), y ∈ m :: r → y ≤ maxL m r
  | m, [], y, h => by
    simp at h
    simp [maxL, h]
  | m, n :: r, y, h => by
    unfold maxL
    have ih := maxL_le (if m < n then n else m) r
    simp only [List.mem_cons] at h ih
    by_cases c : m < n
    · simp only [c, if_true] at ih ⊢
      rcases h with h | h | h
      · have := ih n (.inl rfl)
        omega
      · exact ih y (.inl h)
      · exact ih y (.inr h)
    · simp only [c, if_false] at ih ⊢
      rcases h with h | h | h
      · exact ih y (.inl h)
      · have := ih m (.inl rfl)
        omega
      · exact ih y (.inr h)
def maxF (Γ : Gam) (vs : List Val) : R Val := match vs with
  | [v] => match viewD Γ v with
    | some (.list ds) => match intsOf ds with
      | some (n :: ns) => .ok (.f (.int (maxL n ns))) Γ
      | _ => .stuck
    | _ => .stuck
  | _ => .stuck
theorem cs_max {M : Pm} : CallS M (rMax M.K) maxF := by
  intro E Γ σ F0 H0 own0 F H own xs as Q s st r p
  unfold maxF at p
  split at p
  · cases r with
    | cons r1 r2 =>
      cases r2
      split at p
      · rename_i ds hv
        split at p
        · rename_i n ns hn
          obtain ⟨l, vs, rfl, h1, h2⟩ := view_list s r1 hv
          have := intsOf_ok h2 hn
          subst this
          refine ⟨_, _, rfl, h1, by simp, fun m hm hy => ?_⟩
          have e : m = maxL n ns := Int.le_antisymm (maxL_le _ _ _ hm) (hy _ (maxL_mem _ _))
          subst e
          exact post_now s st p (.int _)
        · exact p.elim
      · exact p.elim
  · exact p.elim
abbrev rMin2 : List V → Hp → VK → Prop := fun xs H Q => ∃ i j, xs = [.int i, .int j] ∧ Q (.int (if j < i then j else i)) H
abbrev rMax2 : List V → Hp → VK → Prop := fun xs H Q => ∃ i j, xs = [.int i, .int j] ∧ Q (.int (if j > i then j else i)) H
def min2F (Γ : Gam) (vs : List Val) : R Val := match vs with
  | [.f (.int i), .f (.int j)] => .ok (.f (.int (if j < i then j else i))) Γ
  | _ => .stuck
def max2F (Γ : Gam) (vs : List Val) : R Val := match vs with
  | [.f (.int i), .f (.int j)] => .ok (.f (.int (if j > i then j else i))) Γ
  | _ => .stuck
theorem cs_min2 {M : Pm} : CallS M rMin2 min2F := by
  intro E Γ σ F0 H0 own0 F H own xs as Q s st r p
  unfold min2F at p
  split at p
  · cases r with
    | cons r1 r2 =>
      cases r2 with
      | cons r2 r3 =>
        cases r3
        cases r1
        cases r2
        exact ⟨_, _, rfl, post_now s st p (.int _)⟩
  · exact p.elim
theorem cs_max2 {M : Pm} : CallS M rMax2 max2F := by
  intro E Γ σ F0 H0 own0 F H own xs as Q s st r p
  unfold max2F at p
  split at p
  · cases r with
    | cons r1 r2 =>
      cases r2 with
      | cons r2 r3 =>
        cases r3
        cases r1
        cases r2
        exact ⟨_, _, rfl, post_now s st p (.int _)⟩
  · exact p.elim
def allF (Γ : Gam) (vs : List Val) : R Val := match vs with
  | [v] => match viewD Γ v with
    | some (.list ds) => match boolsOf ds with
      | some bs => .ok (.f (.bool (bs.all id))) Γ
      | none => .stuck
    | _ => .stuck
  | _ => .stuck
def anyF (Γ : Gam) (vs : List Val) : R Val := match vs with
  | [v] => match viewD Γ v with
    | some (.list ds) => match boolsOf ds with
      | some bs => .ok (.f (.bool (bs.any id))) Γ
      | none => .stuck
    | _ => .stuck
  | _ => .stuck
theorem cs_all {M : Pm} : CallS M (rAll M.K) allF := by
  intro E Γ σ F0 H0 own0 F H own xs as Q s st r p
  unfold allF at p
  split at p
  · cases r with
    | cons r1 r2 =>
      cases r2
      split at p
      · rename_i ds hv
        split at p
        · rename_i ns hn
          obtain ⟨l, vs, rfl, h1, h2⟩ := view_list s r1 hv
          have := boolsOf_ok h2 hn
          subst this
          exact ⟨_, _, rfl, h1, post_now s st p (.bl _)⟩
        · exact p.elim
      · exact p.elim
  · exact p.elim
theorem cs_any {M : Pm} : CallS M (rAny M.K) anyF := by
  intro E Γ σ F0 H0 own0 F H own xs as Q s st r p
  unfold anyF at p
  split at p
  · cases r with
    | cons r1 r2 =>
      cases r2
      split at p
      · rename_i ds hv
        split at p
        · rename_i ns hn
          obtain ⟨l, vs, rfl, h1, h2⟩ := view_list s r1 hv
          have := boolsOf_ok h2 hn
          subst this
          exact ⟨_, _, rfl, h1, post_now s st p (.bl _)⟩
        · exact p.elim
      · exact p.elim
  · exact p.elim
def int1F (Γ : Gam) (vs : List Val) : R Val := match vs with
  | [.f (.int i)] => .ok (.f (.int i)) Γ
  | [.f (.bool b)] => .ok (.f (.int (if b then 1 else 0))) Γ
  | _ => .stuck
abbrev rInt1 : List V → Hp → VK → Prop := fun xs H Q => (∃ i, xs = [.int i] ∧ Q (.int i) H) ∨ ∃ k, xs = [.bl k] ∧ Q (.int (if k then 1 else 0)) H
theorem cs_int1 {M : Pm} : CallS M rInt1 int1F := by
  intro E Γ σ F0 H0 own0 F H own xs as Q s st r p
  unfold int1F at p
  split at p
  · cases r with
    | cons r1 r2 =>
      cases r2
      cases r1
      exact .inl ⟨_, rfl, post_now s st p (.int _)⟩
  · cases r with
    | cons r1 r2 =>
      cases r2
      cases r1
      exact .inr ⟨_, rfl, post_now s st p (.int _)⟩
  · exact p.elim
abbrev rListA (K : PySem.W.Frag) : List V → Hp → VK → Prop := fun xs H Q => ∃ p ys, xs = [.ref p] ∧ (SqL K H p ys ∨ SqT K H p ys) ∧ ∀ l, H l = none → Q (.ref l) (upd H l (.lst ys))
def listF (Γ : Gam) (vs : List Val) : R Val := match vs with
  | [v] => match viewD Γ v with
    | some (.list ds) => .ok (.n (.ol ds)) Γ
    | some (.tuple ds) => .ok (.n (.ol ds)) Γ
    | _ => .stuck
  | _ => .stuck
theorem cs_list {M : Pm} : CallS M (rListA M.K) listF := by
  intro E Γ σ F0 H0 own0 F H own xs as Q s st r p
  unfold listF at p
  split at p
  · cases r with
    | cons r1 r2 =>
      cases r2
      split at p
      · rename_i ds hv
        obtain ⟨l, vs, rfl, h1, h2⟩ := view_list s r1 hv
        exact ⟨_, _, rfl, .inl h1, fun q hq => post_newL s st p hq h2⟩
      · rename_i ds hv
        obtain ⟨l, vs, rfl, _, h1, h2⟩ := view_tup s r1 hv
        exact ⟨_, _, rfl, .inr h1, fun q hq => post_newL s st p hq h2⟩
      · exact p.elim
  · exact p.elim
abbrev rTupA (K : PySem.W.Frag) : List V → Hp → VK → Prop := fun xs H Q => ∃ p ys, xs = [.ref p] ∧ ((SqL K H p ys ∧ ∀ l, H l = none → Q (.ref l) (upd H l (.tup ys))) ∨ (SqT K H p ys ∧ Q (.ref p) H))
def tupF (Γ : Gam) (vs : List Val) : R Val := match vs with
  | [v] => match viewD Γ v with
    | some (.list ds) => .ok (.f (.tuple ds)) Γ
    | some (.tuple ds) => .ok (.f (.tuple ds)) Γ
    | _ => .stuck
  | _ => .stuck
theorem cs_tup {M : Pm} : CallS M (rTupA M.K) tupF := by
  intro E Γ σ F0 H0 own0 F H own xs as Q s st r p
  unfold tupF at p
  split at p
  · cases r with
    | cons r1 r2 =>
      cases r2
      split at p
      · rename_i ds hv
        obtain ⟨l, vs, rfl, h1, h2⟩ := view_list s r1 hv
        exact ⟨_, _, rfl, .inl ⟨h1, fun q hq => post_newU s st p hq h2⟩⟩
      · rename_i ds hv
        obtain ⟨l, vs, rfl, h0, h1, h2⟩ := view_tup s r1 hv
        exact ⟨_, _, rfl, .inr ⟨h1, post_now s st p h0.1⟩⟩
      · exact p.elim
  · exact p.elim
end DL
end

section
set_option Elab.async false
set_option linter.all false
set_option maxRecDepth 100000
set_option maxHeartbeats 1000000
/-! DL13: sorted. -/
namespace DL
open PySem PySem.Spec PyProof.Rows L2
open PySem.W (AllAlike Sortable EachIs dataLe sorted_data)

/-! ### sorted -/
def mgF {α : Type} (le : α → α → Bool) : Nat → List α → List α → List α
  | 0, xs, ys => xs ++ ys
  | _ + 1, [], ys => ys
  | _ + 1, xs, [] => xs
  | n + 1, x :: xs, y :: ys => if le x y = true then x :: mgF le n xs (y :: ys) else y :: mgF le n (x :: xs) ys
theorem mgF_eq {α : Type} (le : α → α → Bool) : ∀ (n : Nat) (xs ys : List α), xs.length + ys.length ≤ n → mgF le n xs ys = List.merge xs ys le
  | 0, xs, ys, h => by
    have h1 : xs = [] := List.length_eq_zero_iff.mp (by omega)
    have h2 : ys = [] := List.length_eq_zero_iff.mp (by omega)
    subst h1 h2
    simp [mgF, List.merge]
  | n + 1, [], ys, h => by simp [mgF, List.merge]
  | n + 1, x :: xs, [], h => by simp [mgF, List.merge]
  | n + 1, x :: xs, y :: ys, h => by
    simp only [List.length_cons] at h
    unfold mgF List.merge
    rw [mgF_eq le n xs (y :: ys) (by simp; omega), mgF_eq le n (x :: xs) ys (by simp; omega)]
def msF {α : Type} (le : α → α → Bool) : Nat → List α → List α
  | 0, l => l
  | _ + 1, [] => []
  | _ + 1, [a] => [a]
  | n + 1, a :: b :: xs => mgF le (xs.length + 2) (msF le n ((a :: b :: xs).take ((xs.length + 3) / 2))) (msF le n ((a :: b :: xs).drop ((xs.length + 3) / 2)))
theorem msF_eq {α : Type} (le : α → α → Bool) : ∀ (n : Nat) (l : List α), l.length ≤ n → msF le n l = l.mergeSort le
  | 0, l, h => by
    have h1 : l = [] := List.length_eq_zero_iff.mp (by omega)
    subst h1
    simp [msF]
  | n + 1, [], h => by simp [msF]
  | n + 1, [a], h => by simp [msF]
  | n + 1, a :: b :: xs, h => by
    simp only [List.length_cons] at h
    have e1 := msF_eq le n ((a :: b :: xs).take ((xs.length + 3) / 2)) (by simp; omega)
    have e2 := msF_eq le n ((a :: b :: xs).drop ((xs.length + 3) / 2)) (by simp; omega)
    unfold msF
    rw [e1, e2, mgF_eq le _ _ _ (by simp only [List.length_mergeSort, List.length_take, List.length_drop, List.length_cons]; omega)]
    rw [List.mergeSort]
    simp [List.MergeSort.Internal.splitInTwo, List.splitAt_eq]
def srt {α : Type} (le : α → α → Bool) (l : List α) : List α := msF le l.length l
theorem srt_eq {α : Type} (le : α → α → Bool) (l : List α) : srt le l = l.mergeSort le := msF_eq le _ l (Nat.le_refl _)
abbrev sd (b : V × D) : D := b.2
def okS (ds : List D) : Bool := (ds.all fun d => ds.all fun e => PySem.W.alike d e) && ((ds.all fun d => match d with | .tuple (_ :: _) => true | _ => false) || (ds.all fun d => match d with | .none => false | .tuple _ => false | _ => true)) &&
  decide (ds.length ≤ sizeLine) && ds.all fun d => d.plain && decide (d.depth ≤ 40)
theorem okS_1 {ds : List D} (h : okS ds = true) : AllAlike ds := by
  simp only [okS, Bool.and_eq_true, List.all_eq_true] at h
  exact fun d hd e he => h.1.1.1 d hd e he
theorem okS_2 {ds : List D} (h : okS ds = true) : Sortable ds := by
  simp only [okS, Bool.and_eq_true, Bool.or_eq_true, List.all_eq_true] at h
  rcases h.1.1.2 with q | q
  · refine .inl fun d hd => ?_
    have := q d hd
    split at this
    · exact ⟨_, _, rfl⟩
    · cases this
  · refine .inr fun d hd => ?_
    have := q d hd
    split at this
    · cases this
    · cases this
    · rename_i h1 h2
      exact ⟨fun e => h1 e, fun xs e => h2 xs e⟩
theorem okS_3 {ds : List D} (h : okS ds = true) : ds.length ≤ sizeLine := by
  simp only [okS, Bool.and_eq_true, decide_eq_true_eq] at h
  exact h.1.2
theorem okS_4 {ds : List D} (h : okS ds = true) {d : D} (hd : d ∈ ds) : d.plain = true ∧ d.depth ≤ 40 := by
  simp only [okS, Bool.and_eq_true, List.all_eq_true, decide_eq_true_eq] at h
  exact h.2 d hd
def rSortedD (K : PySem.W.Frag) : List V → Hp → VK → Prop := fun xs H Q => ∃ (a : Addr) (bs : List (V × D)), xs = [.ref a] ∧ SqL K H a (bs.map (·.1)) ∧ (∀ b ∈ bs, Dp K H b.1 b.2) ∧ okS (bs.map (·.2)) = true ∧
  ∀ p, H p = none → Q (.ref p) (upd H p (.lst ((bs.mergeSort (dataLe false sd)).map (·.1))))
theorem each_of {H : Hp} {s : Shared} {K : PySem.W.Frag} : ∀ {bs : List (V × D)} {its : List Value}, Vals (bs.map (·.1)) its → EachIs (fun u b => RelV b.1 u) its bs
  | [], _, .nil => .nil
  | b :: bs, _, .cons r t => .cons r (each_of (H := H) (s := s) (K := K) t)
theorem vals_each : ∀ {bs : List (V × D)} {its : List Value}, EachIs (fun u (b : V × D) => RelV b.1 u) its bs → Vals (bs.map (·.1)) its
  | _, _, .nil => .nil
  | _, _, .cons r t => .cons r (vals_each t)
theorem each_mono {R S : Value → V × D → Prop} : ∀ {bs : List (V × D)} {its : List Value}, EachIs R its bs → (∀ u b, b ∈ bs → R u b → S u b) → EachIs S its bs
  | _, _, .nil, _ => .nil
  | _, _, .cons r t, h => .cons (h _ _ List.mem_cons_self r) (each_mono t fun u b hb => h u b (List.mem_cons_of_mem _ hb))
theorem call_sortedD {X : Cx} (hu : X.A.units + 64 < cLine) : CallR X (.builtin "sorted") (rSortedD X.K) := by
  intro pins s σ H vs us Q I r h
  obtain ⟨a, bs, rfl, hs, hd, ok, q⟩ := h
  obtain ⟨its, rv, hl, hz⟩ := I.list hs
  obtain ⟨u, rfl, ru⟩ := vals1 r
  obtain rfl : u = Value.ref a := ru
  have e1 : EachIs (fun u (b : V × D) => RelV b.1 u) its bs := each_of (H := H) (s := s) (K := X.K) rv
  have e2 : EachIs (fun v (b : V × D) => ∃ as, Reads s.heap v (sd b) as) its bs := each_mono e1 fun u b hb hr => Dp.reads I _ _ _ (hd b hb) hr
  refine sorted_data (enc := sd) hl.isList e1 e2 (okS_1 ok) (okS_2 ok) (by have := okS_3 ok; simpa using this) (fun b hb => ?_) fun out ho eo => ?_
  · have := (okS_4 ok (List.mem_map_of_mem (f := (·.2)) hb)).2
    show X.A.units + 2 + b.2.depth < cLine
    omega
  · obtain ⟨ep, he'⟩ := PyProof.Rows.sortedAll_at s.heap its out.toArray
    have hlen : ((bs.mergeSort (dataLe false sd)).map (·.1)).length ≤ sizeLine := by
      have := okS_3 ok
      simpa using this
    exact ⟨.ref _, upd H (s.heap.objs.size + 1) (.lst ((bs.mergeSort (dataLe false sd)).map (·.1))), I.laid (t' := s.toks) (fun _ _ => PyProof.Rows.sortedAll_old) (Nat.le_succ _) ⟨hlen, out, ep, vals_each eo, he'⟩, rfl, q _ (I.hok.fresh (Nat.le_succ _))⟩
def dLe : D → D → Bool := dataLe false (fun d : D => d)
theorem sorted_snd (bs : List (V × D)) : (bs.mergeSort (dataLe false sd)).map (·.2) = (bs.map (·.2)).mergeSort dLe := by
  rw [List.map_mergeSort]
  intro a _ b _
  rfl
theorem repAll_zip {cls : Str → Addr} {F : Hp} : ∀ {bs : List (V × D)}, (∀ b ∈ bs, Rep cls F b.1 b.2) → RepAll cls F (bs.map (·.1)) (bs.map (·.2))
  | [], _ => .nil
  | b :: bs, h => .cons (h b List.mem_cons_self) (repAll_zip fun c hc => h c (List.mem_cons_of_mem _ hc))
theorem zip_rep {cls : Str → Addr} {F : Hp} : ∀ {vs : List V} {ds : List D}, RepAll cls F vs ds → (vs.zip ds).map (·.1) = vs ∧ (vs.zip ds).map (·.2) = ds ∧ ∀ b ∈ vs.zip ds, Rep cls F b.1 b.2
  | _, _, .nil => ⟨rfl, rfl, fun _ h => by simp at h⟩
  | _, _, .cons h r => by
    obtain ⟨h1, h2, h3⟩ := zip_rep r
    refine ⟨by simp only [List.zip_cons_cons, List.map_cons, h1], by simp only [List.zip_cons_cons, List.map_cons, h2], fun b hb => ?_⟩
    simp only [List.zip_cons_cons, List.mem_cons] at hb
    rcases hb with rfl | hb
    · exact h
    · exact h3 b hb
def sortF (Γ : Gam) (vs : List Val) : R Val := match vs with
  | [v] => match viewD Γ v with
    | some (.list ds) => if okS ds = true then .ok (.n (.ol (srt dLe ds))) Γ else .stuck
    | _ => .stuck
  | _ => .stuck
theorem dp_up {K : PySem.W.Frag} {cls : Str → Addr} {F H : Hp} (fh : Ex F H) {v : V} {d : D} (r : Rep cls F v d) (p : d.plain = true) : Dp K H v d := Rep.dp (Rep.mono fh r) p
theorem cs_sorted {M : Pm} : CallS M (rSortedD M.K) sortF := by
  intro E Γ σ F0 H0 own0 F H own xs as Q s st r p
  unfold sortF at p
  split at p
  · cases r with
    | cons r1 r2 =>
      cases r2
      split at p
      · rename_i ds hv
        split at p
        · rename_i ok
          rw [srt_eq] at p
          obtain ⟨l, vs, rfl, h1, h2⟩ := view_list s r1 hv
          obtain ⟨z1, z2, z3⟩ := zip_rep h2
          refine ⟨l, vs.zip ds, rfl, by rw [z1]; exact h1, fun b hb => ?_, by rw [z2]; exact ok, fun q hq => ?_⟩
          · have hm : b.2 ∈ ds := by
              rw [← z2]
              exact List.mem_map_of_mem (f := (·.2)) hb
            exact dp_up s.fh (z3 b hb) (okS_4 ok hm).1
          · refine post_newL s st p hq ?_
            have e := sorted_snd (vs.zip ds)
            rw [z2] at e
            rw [← e]
            exact repAll_zip fun b hb => z3 b ((List.mergeSort_perm _ _).mem_iff.mp hb)
        · exact p.elim
      · exact p.elim
  · exact p.elim
end DL
end

section
set_option Elab.async false
set_option linter.all false
set_option maxRecDepth 100000
set_option maxHeartbeats 1000000
/-! DL14: side conditions, more nodes. -/
namespace DL
open PySem PySem.Spec PyProof.Rows L2
def blkB (N : List Str) (sc scope : Scope) (own : List (Str × Nat)) : Bool :=
  decide (scope.kind = .function) && (scope.names.all fun y => decide (scope.names.lookup y.1 = some y.2)) && (own.all fun p => decide (N[p.2]? = some p.1)) &&
  (scope.names.all fun y => !decide (y.2 = .free) || decide (sc.names.lookup y.1 = some .cell) || decide (sc.names.lookup y.1 = some .free)) &&
  (scope.names.all fun y => !(decide (y.2 = .local) || decide (y.2 = .cell)) || decide (y.1 ∈ own.map (·.1)) || decide (y.1 ∉ N))
theorem blkOk_of {N : List Str} {sc scope : Scope} {own : List (Str × Nat)} (h : blkB N sc scope own = true) : BlkOk N sc scope own := by
  simp only [blkB, Bool.and_eq_true, decide_eq_true_eq, List.all_eq_true] at h
  obtain ⟨⟨⟨⟨h1, h2⟩, h3⟩, h4⟩, h5⟩ := h
  refine ⟨h1, h2, h3, fun y hy e => ?_, fun y hy e => ?_⟩
  · have := h4 y hy
    simp only [Bool.or_eq_true, Bool.not_eq_true', decide_eq_false_iff_not, decide_eq_true_eq] at this
    rcases this with (q | q) | q
    · exact absurd e q
    · exact .inl q
    · exact .inr q
  · have := h5 y hy
    simp only [Bool.or_eq_true, Bool.not_eq_true', Bool.or_eq_false_iff, decide_eq_false_iff_not, decide_eq_true_eq] at this
    rcases this with (q | q) | q
    · rcases e with e | e
      · exact absurd e q.1
      · exact absurd e q.2
    · exact .inl q
    · exact .inr q
theorem attr1 {K : PySem.W.Frag} {cls : Str → Addr} {a0 : Option Addr} {c f : Str} (h : AttrOk ⟨K, cls, none⟩ c f) : ∀ d ∈ [c], AttrOk ⟨K, cls, a0⟩ d f := fun d hd => by
  simp only [List.mem_singleton] at hd
  subst hd
  exact ⟨h.cl, h.no⟩
theorem pe_gcD {X : Cx} {x : Str} {v : V} {pos : Pos} (hg : Gl X x) (h : ∃ u, X.mg x = some u ∧ RelV v u) (hd : (x == ("__debug__" : Str)) = false := by decide) : PE X (.Name x pos) (tC v) := by
  obtain ⟨u, hm, r⟩ := h
  exact pe_glob hg hm r hd
/-! ### bit_length, append -/
def bitsM (m : Gam → R Val) : Gam → R Val := fun Γ => (rd m Γ).bind fun v Γ1 => match v with
  | .f (.int i) => .ok (.f (.int (Builtin.Int.intBits i : Nat))) Γ1
  | _ => .stuck
section
variable {X : Cx} {M : Pm} {E : XK} {o e : Expr} {m me : Gam → R Val} {apos pos : Pos}
theorem e_bits (ho : PE X o (tE M E m)) (hbase : attributeBase o "bit_length" X.env (eval o X.env) = eval o X.env := by rfl) (hline : (apos.endLine == pos.line) = true := by rfl) : PE X (.Call (.Attribute o "bit_length" apos) [] [] pos) (tE M E (bitsM m)) :=
  PE_weak (pe_bits (pe_rd ho) hbase hline) fun σ H Q ⟨Γ, F, own, st, q⟩ => by
    refine ⟨Γ, F, own, st, post_bind q fun F1 H1 own1 Γ1 x a _ st1 s1 r1 p1 => ?_⟩
    split at p1
    · cases r1
      exact ⟨_, rfl, post_now st1 s1 p1 (.int _)⟩
    · exact p1.elim
def appendM (i : Nat) (me : Gam → R Val) : Gam → R Val := fun Γ => match Γ[i]? with
  | some (.one (.ol _)) => (fzL me Γ).bind fun d Γ1 => match Γ1[i]? with
    | some (.one (.ol ds)) => if ds.length < sizeLine then .ok (.f .none) (Γ1.set i (.own (ds ++ [d]))) else .stuck
    | _ => .stuck
  | _ => .stuck
theorem StR.setL {Γ : Gam} {σ : L2.St} {F H : Hp} {own : Own} {i : Nat} {l : Addr} {vs vs' : List V} {ds' : List D} {ds : List D} (s : StR M Γ σ F H own) (hi : Γ[i]? = some (.own ds)) (hv : σ[i]? = some (some (.ref l))) (hl : H l = some (.lst vs)) (r : RepAll M.cls F vs' ds') :
    StR M (Γ.set i (.own ds')) σ F (upd H l (.lst vs')) own ∧ Step F H own F (upd H l (.lst vs')) own ∧ own i l := by
  obtain ⟨v, h1, l', ws, rfl, h2, h3, h4⟩ := s.slot i _ hi
  rw [hv] at h1
  cases h1
  have hil : own i l := (h2 l).mpr rfl
  have hf : F l = none := s.free i l hil
  have ex : ∀ b u, b ≠ l → H b = some u → upd H l (.lst vs') b = some u := fun b u e h => by rw [upd_ne e]; exact h
  refine ⟨⟨by simp [s.len], fun a u e => ?_, fun j x hj => ?_, fun j hj a => s.out j (by simpa using hj) a, s.free, fun j a h => ?_, s.disj⟩, ⟨.refl _, fun a u h n => ex a u (fun e => n i (e ▸ hil)) h, fun a h _ _ => h, fun j a h => .inl ⟨j, h⟩, fun a h => ?_⟩, hil⟩
  · exact ex a u (fun q => by rw [q, hf] at e; cases e) (s.fh a u e)
  · by_cases q : j = i
    · subst q
      rw [List.getElem?_set_self (s.lt hi)] at hj
      cases hj
      exact ⟨_, hv, l, vs', rfl, h2, upd_same, r⟩
    · rw [List.getElem?_set_ne (Ne.symm q)] at hj
      exact (s.slot j x hj).mono (.refl _) fun b u hb h => ex b u (fun e => q (s.disj j i b hb (e ▸ hil))) h
  · by_cases q : a = l
    · rw [q, upd_same]; simp
    · rw [upd_ne q]; exact s.there j a h
  · by_cases q : a = l
    · rw [q, upd_same]; simp
    · rw [upd_ne q]; exact h
theorem e_append {i : Nat} (hv : PE X o (tVar i)) (he : PE X e (tE M E me))
    (hbase : attributeBase o "append" X.env (eval o X.env) = eval o X.env := by rfl)
    (hfew : ((backTo pos (starEach [e] X.env)).all (fun x => !x.1) && (backToKw pos (keywordEach [] X.env)).all (fun x => x.1.isSome)
      && decide (([e] : List Expr).length + ([] : List Keyword).length + (if ([] : List Keyword).isEmpty then 0 else 1) < 30)) = true := by rfl)
    (hline : (apos.endLine == pos.line) = true := by rfl) (hs : starEach [e] X.env = (false, eval e X.env) :: starEach [] X.env := by rfl) (hplain : (backTo pos (starEach [] X.env)).any (·.1) = false := by rfl) :
    PE X (.Call (.Attribute o "append" apos) [e] [] pos) (tE M E (appendM i me)) :=
  PE_weak (pe_bm PySem.F.plainAttrs_list PySem.F.slot_list_append PySem.F.type_list_append mt_append hv (pa_cons (pe_fz he) pa_nil hs) hbase hfew hline hs hplain) fun σ H Q ⟨Γ, F, own, st, q⟩ => by
    unfold appendM at q
    split at q
    · rename_i ds0 hi0
      obtain ⟨v, h1, l, vs, rfl, h2, h3, h4⟩ := st.slot i _ hi0
      refine ⟨_, h1, .inl ⟨rfl, vs, .inl (.inl h3)⟩, Γ, F, own, st, post_bind q fun F1 H1 own1 Γ1 x d _ st1 s1 r1 p1 => ?_⟩
      split at p1
      · rename_i ds hi
        split at p1
        · rename_i hz
          obtain ⟨v', k1, l', vs', rfl, k2, k3, k4⟩ := st1.slot i _ hi
          rw [h1] at k1
          cases k1
          obtain ⟨sA, stA, _⟩ := st1.setL hi h1 k3 (k4.snoc r1)
          exact ⟨l, vs', x, rfl, rfl, k3, by rw [k4.length]; exact hz, p1 .non F1 _ own1 sA (s1.trans stA) .non⟩
        · exact p1.elim
      · exact p1.elim
    · exact q.elim
end
end DL
end

section
set_option Elab.async false
set_option linter.all false
set_option maxRecDepth 100000
set_option maxHeartbeats 1000000
/-! DL15: tuple.index, tuple(list) with its object known, a, b = x, y, self.f = v, isinstance of two. -/
namespace DL
open PySem PySem.Spec PyProof.Rows L2
/-! ### tuple(xs): the object is known -/
section
variable {X : Cx}
abbrev rTupK (K : PySem.W.Frag) : List V → Hp → VK → Prop := fun xs H Q => ∃ p ys, xs = [.ref p] ∧ SqL K H p ys ∧ ∀ l (o : Obj), H l = none → o.dict = none → Q (.ref l) (upd H l (.frz o (.tup ys)))
theorem call_tupK : CallR X (.type "tuple") (rTupK X.K) := by
  intro pins s σ H xs us Q I r h
  obtain ⟨p, ys, rfl, hq, q⟩ := h
  obtain ⟨u, rfl, rx⟩ := vals1 r
  cases rx
  obtain ⟨its, r', pl, hz⟩ := I.list hq
  have hlen := r'.length
  refine call_tuple_list pl.isList (fun h' kp => ?_) (by simp only [List.size_toArray] <;> omega)
  have I1 : Inv X pins σ H { s with heap := h' } := I.kept (t' := s.toks) kp
  have hg : (h'.push { cls := .type "tuple", data := .seq its.toArray }).get? h'.objs.size = some { cls := .type "tuple", data := .seq its.toArray } := Heap.get?_push_size _ rfl
  have I2 : Inv X pins σ (upd H h'.objs.size (.frz { cls := .type "tuple", data := .seq its.toArray } (.tup ys))) { s with heap := h'.push { cls := .type "tuple", data := .seq its.toArray } } :=
    I1.laid (t' := s.toks) (fun b o e => Heap.get?_push_of_some _ e) (Nat.le_refl _) (show ObjOk X.prog X.w _ _ _ (.frz _ (.tup ys)) from ⟨hg, hz, its, r', IsTup.new _ _⟩)
  exact ⟨.ref h'.objs.size, _, I2, rfl, q _ _ (I1.hok.fresh (Nat.le_refl _)) rfl⟩
end
def tupKF (Γ : Gam) (vs : List Val) : R Val := match vs with
  | [v] => match viewD Γ v with
    | some (.list ds) => match keysOf ds with
      | none => .ok (.f (knD ds)) Γ
      | some _ => .stuck
    | _ => .stuck
  | _ => .stuck
theorem cs_tupK {M : Pm} : CallS M (rTupK M.K) tupKF := by
  intro E Γ σ F0 H0 own0 F H own xs as Q s st r p
  unfold tupKF at p
  split at p
  · cases r with
    | cons r1 r2 =>
      cases r2
      split at p
      · rename_i ds hv
        split at p
        · rename_i hk
          obtain ⟨l, vs, rfl, h1, h2⟩ := view_list s r1 hv
          refine ⟨_, _, rfl, h1, fun q o hq ho => ?_⟩
          have g : Grow F H (upd F q (.frz o (.tup vs))) (upd H q (.frz o (.tup vs))) := .new s.fh hq
          exact p _ _ _ own (s.grow g) (st.trans (g.step own)) (.kn upd_same ho hk (RepAll.mono g.ff h2))
        · exact p.elim
      · exact p.elim
  · exact p.elim
/-! ### t.index(x) -/
abbrev tyTupK (v : V) (H : Hp) : Prop := ∃ p o xs, v = .ref p ∧ H p = some (.frz o (.tup xs)) ∧ o.dict = none
theorem ty_tupK {X : Cx} : TyOk X "tuple" tyTupK := by
  intro pins σ H s x v I r ty
  obtain ⟨p, o, xs, rfl, h, hd⟩ := ty
  cases r
  have ok : ObjOk X.prog X.w H s.heap p (.frz o (.tup xs)) := I.hok p _ h
  obtain ⟨h1, _, its, _, o', h2, h3, _⟩ := ok
  rw [h1] at h2
  cases h2
  refine ⟨⟨o, h1, h3⟩, fun a e => ?_⟩
  cases e
  exact ⟨o, h1, hd⟩
abbrev rTix (K : PySem.W.Frag) : V → List V → Hp → VK → Prop := fun x xs H Q => ∃ (p : Addr) (y : V) (d : D) (ds : List D) (j : Nat), x = .ref p ∧ xs = [y] ∧ Dp K H (.ref p) (.tuple ds) ∧ Dp K H y d ∧ okI ds d = true ∧ PySem.SeqAt.dataPlace ds d = some j ∧ Q (.int (j : Nat)) H
theorem mt_tix {X : Cx} (hu : X.A.units + 64 < cLine) : MtR X "tuple.index" (rTix X.K) := by
  intro pins s σ H x xs v us Q I rx rs h
  obtain ⟨p, y, d, ds, j, rfl, rfl, hp, hy, ok, hj, q⟩ := h
  cases rx
  obtain ⟨u, rfl, ru⟩ := vals1 rs
  obtain ⟨bs, rb⟩ := Dp.reads I d y u hy ru
  cases hp with
  | tup hs ha =>
    obtain ⟨its, rv, pl, hz⟩ := I.tuple hs
    obtain ⟨⟨cls, dd, dt, sl⟩, ho, hc, n, hd⟩ := pl
    simp only at hc hd
    subst hc hd
    obtain ⟨as, h4⟩ := Dp.readsAll I ds _ its ha rv
    simp only [okI, Bool.and_eq_true, Bool.or_eq_true, decide_eq_true_eq] at ok
    have h5 : ReadsAll s.heap its.toArray.toList ds as := h4
    obtain ⟨hj', hit, hno⟩ := PySem.SeqAt.hit_at h5 ok.1.2 hj
    refine call_meets PySem.F.slot_tuple_index ⟨_, ho, rfl⟩ PySem.F.entry_tuple_index (PySem.F.args_tuple_index_2 _ _) (TI.tuple_indexAt p its.toArray n dd sl u (fun w => PyData.eqv (PySem.SeqAt.readOf s.heap w) d) j hj' hit hno)
      ⟨ho, PySem.SeqAt.items_plain h5 rb ok.1.2 ok.1.1 (by rcases ok.2 with q | q <;> omega), ⟨.int (j : Nat), H, I.tok _, ⟨_, rfl⟩, q⟩⟩
def knOf : D → Option (List D)
  | .dict [(.none, .int 2), (.none, .tuple ds)] => some ds
  | _ => none
theorem knOf_some {d : D} {ds : List D} (h : knOf d = some ds) : d = knD ds := by
  unfold knOf at h
  split at h
  · cases h
    rfl
  · cases h
theorem Rep.invKn {M : Str → Addr} {F : Hp} {v : V} {ds : List D} (h : Rep M F v (knD ds)) : ∃ a o vs, v = .ref a ∧ F a = some (.frz o (.tup vs)) ∧ o.dict = none ∧ RepAll M F vs ds := by
  generalize e : knD ds = d at h
  cases h with
  | kn h1 h2 h3 h4 =>
    simp only [knD, PyData.dict.injEq, List.cons.injEq, Prod.mk.injEq, PyData.tuple.injEq, and_true, true_and] at e
    subst e
    exact ⟨_, _, _, rfl, h1, h2, h4⟩
  | dcK h1 h2 h3 => simp [dicK, knD] at e
  | dcT h1 h2 h3 => simp [dicT, knD] at e
  | dcF h1 h2 h3 => simp [dicF, knD] at e
  | dcG h1 h2 h3 h4 => simp [dicG, knD] at e
  | ins h1 h2 h3 => simp [DL.ins, knD] at e
  | exn h1 h2 h3 => simp [exnD, knD] at e
  | _ => simp [knD] at e
def indexM (mo me : Gam → R Val) : Gam → R Val := fun Γ => (rd mo Γ).bind fun v Γ1 => match v with
  | .f k => match knOf k with
    | some ds => (rd me Γ1).bind fun u Γ2 => match viewD Γ2 u with
      | some d => if okI ds d = true then match PySem.SeqAt.dataPlace ds d with
          | some j => .ok (.f (.int (j : Nat))) Γ2
          | none => .stuck
        else .stuck
      | none => .stuck
    | none => .stuck
  | _ => .stuck
section
variable {X : Cx} {M : Pm} {E : XK} {o e a b c value : Expr} {ma mb mo me m : Gam → R Val} {apos pos p : Pos}
theorem e_index (hu : X.A.units + 64 < cLine) (hK : X.K = M.K) (ho : PE X o (tE M E mo)) (he : PE X e (tE M E me))
    (hbase : attributeBase o "index" X.env (eval o X.env) = eval o X.env := by rfl)
    (hfew : ((backTo pos (starEach [e] X.env)).all (fun x => !x.1) && (backToKw pos (keywordEach [] X.env)).all (fun x => x.1.isSome)
      && decide (([e] : List Expr).length + ([] : List Keyword).length + (if ([] : List Keyword).isEmpty then 0 else 1) < 30)) = true := by rfl)
    (hline : (apos.endLine == pos.line) = true := by rfl) (hs : starEach [e] X.env = (false, eval e X.env) :: starEach [] X.env := by rfl) (hplain : (backTo pos (starEach [] X.env)).any (·.1) = false := by rfl) :
    PE X (.Call (.Attribute o "index" apos) [e] [] pos) (tE M E (indexM mo me)) :=
  PE_weak (pe_mG ty_tupK PySem.F.plainAttrs_tuple PySem.F.slot_tuple_index PySem.F.type_tuple_index (mt_tix hu) (pe_rd ho) (pa_cons (pe_rd he) pa_nil hs) hbase hfew hline hs hplain) fun σ H Q ⟨Γ, F, own, st, q⟩ => by
    refine ⟨Γ, F, own, st, post_bind q fun F1 H1 own1 Γ1 x v _ st1 s1 r1 p1 => ?_⟩
    split at p1
    · rename_i k _
      split at p1
      · rename_i ds hk
        have r0 : Rep M.cls F1 x k := r1
        rw [knOf_some hk] at r0
        obtain ⟨l, ob, vs, rfl, h1, h2, h3⟩ := Rep.invKn r0
        refine ⟨⟨l, ob, vs, rfl, st1.fh _ _ h1, h2⟩, Γ1, F1, own1, st1, post_bind (p1.mono (back_V M) s1) fun F2 H2 own2 Γ2 y u _ st2 s2 r2 p2 => ?_⟩
        split at p2
        · rename_i d hd
          split at p2
          · rename_i ok
            split at p2
            · rename_i j hj
              have ok' := ok
              simp only [okI, Bool.and_eq_true] at ok'
              refine ⟨l, y, d, ds, j, rfl, rfl, ?_, ?_, ok, hj, post_now st2 s2 p2 (.int _)⟩
              · rw [hK]
                exact .tup (.inl (.inr ⟨ob, st2.fh _ _ (s2.ff _ _ h1)⟩)) (RepAll.dp (RepAll.mono (s2.ff.trans st2.fh) h3) ok'.1.2)
              · rw [hK]
                exact view_dp st2 r2 hd ok'.1.1
            · exact p2.elim
          · exact p2.elim
        · exact p2.elim
      · exact p1.elim
    · exact p1.elim
/-! ### a, b = x, y (the first a datum) -/
def par2M (i j : Nat) (ma mb : Gam → R Val) : Gam → RS := fun Γ => stm (fzL ma Γ) fun d Γ1 => stm (mb Γ1) fun v Γ2 =>
  if i < Γ2.length ∧ j < Γ2.length then (match v with
    | .f d' => .nx ((Γ2.set i (.val d)).set j (.val d'))
    | .n f => .nx ((Γ2.set i (.val d)).set j (.one f))
    | .nc c fds => .nx ((Γ2.set i (.val d)).set j (.cmp c none fds))
    | .nb n d' => .nx ((Γ2.set i (.val d)).set j (.box n none d'))
    | .b _ => .stuck) else .stuck
theorem s_par2 {i j : Nat} {x y : Str} {px py pt : Pos} {kt k2 pt2} (hc : X.calm = true) (hN : X.N.Nodup) (hi : X.N[i]? = some x) (hj : X.N[j]? = some y) (hij : i ≠ j)
    (hx : X.env.scope.names.lookup x = some .local) (hy : X.env.scope.names.lookup y = some .local) (ha : PE X a (tE M E ma)) (hb : PE X b (tE M E mb))
    (hw : swappedStores [.Tuple [.Name x px, .Name y py] kt pt] (.Tuple [a, b] k2 pt2) X.env = pure (some [x, y]))
    (h1 : starEach [a, b] X.env = (false, eval a X.env) :: starEach [b] X.env := by rfl) (h2 : starEach [b] X.env = (false, eval b X.env) :: starEach [] X.env := by rfl)
    (hs : swapsWithSole [.Tuple [.Name x px, .Name y py] kt pt] (.Tuple [a, b] k2 pt2) pos.line X.env = pure false := by rfl) :
    PS X (.Assign [.Tuple [.Name x px, .Name y py] kt pt] (.Tuple [a, b] k2 pt2) pos) (tS M E (par2M i j ma mb)) := PS_weak (ps_par hc hN hi hj hij hx hy (pa_cons (pe_fz ha) (pa_cons hb pa_nil h2) h1) hw hs) fun D σ H ⟨Γ, F, own, s, p⟩ =>
  ⟨Γ, F, own, s, post_stm p fun F1 H1 own1 Γ1 x1 d _ s1 st1 r1 p1 => ⟨Γ1, F1, own1, s1, post_stm (p1.mono st1) fun F2 H2 own2 Γ2 x2 v _ s2 st2 r2 p2 => by
    refine ⟨x1, x2, rfl, ?_⟩
    split at p2
    · rename_i hl
      have q1 := s2.setv hl.1 (Rep.mono st2.ff r1)
      have hl2 : j < (Γ2.set i (.val d)).length := by simp; exact hl.2
      have nw : ∀ {o}, New H1 F2 H2 own2 o → New H1 F2 H2 (putO own2 i fun _ => False) o := fun n a ha => ⟨(n a ha).1, (n a ha).2.1, fun k hk => by
        by_cases e : k = i
        · subst e; rw [putO_same] at hk; exact hk.elim
        · rw [putO_ne e] at hk; exact (n a ha).2.2.1 k hk, (n a ha).2.2.2⟩
      split at p2
      · have q2 := q1.1.setv hl2 r2
        exact p2 _ F2 H2 _ q2.1 ((st2.trans q1.2).trans q2.2)
      · obtain ⟨o, k1, k2⟩ := r2
        exact p2 _ F2 H2 _ (q1.1.setn hl2 (nw k2) ⟨x2, rfl, k1⟩) (step_setn (st2.trans q1.2) (nw k2))
      · obtain ⟨a, o, rfl, k1, k2⟩ := r2
        exact p2 _ F2 H2 _ (q1.1.setn hl2 (nw k2) ⟨a, rfl, by simp, k1⟩) (step_setn (st2.trans q1.2) (nw k2))
      · obtain ⟨a, o, rfl, k1, k2⟩ := r2
        exact p2 _ F2 H2 _ (q1.1.setn hl2 (nw k2) ⟨a, rfl, by simp, k1⟩) (step_setn (st2.trans q1.2) (nw k2))
      · exact p2.elim
    · exact p2.elim⟩⟩
/-! ### self.f = v -/
def putFd (f : Str) (v : D) : List (Str × D) → List (Str × D)
  | [] => [(f, v)]
  | (g, x) :: r => if g = f then (g, v) :: r else (g, x) :: putFd f v r
theorem putF_rep {cls : Str → Addr} {F : Hp} {f : Str} {v : V} {d : D} (r : Rep cls F v d) : ∀ {fs : List (Str × V)} {fds : List (Str × D)}, fs.map (·.1) = fds.map (·.1) → RepAll cls F (fs.map (·.2)) (fds.map (·.2)) →
    (putF f v fs).map (·.1) = (putFd f d fds).map (·.1) ∧ RepAll cls F ((putF f v fs).map (·.2)) ((putFd f d fds).map (·.2))
  | [], [], _, _ => ⟨rfl, .cons r .nil⟩
  | [], _ :: _, h, _ => by simp at h
  | _ :: _, [], h, _ => by simp at h
  | (g, x) :: fs, (g', x') :: fds, h, q => by
    simp only [List.map_cons, List.cons.injEq] at h
    obtain ⟨rfl, h⟩ := h
    cases q with
    | cons q1 q2 =>
      unfold putF putFd
      by_cases e : g = f
      · rw [if_pos e, if_pos e]
        exact ⟨by simp [h], .cons r q2⟩
      · rw [if_neg e, if_neg e]
        obtain ⟨k1, k2⟩ := putF_rep r h q2
        exact ⟨by simp [k1], .cons q1 k2⟩
def fldS (c f : Str) (i : Nat) (m : Gam → R Val) : Gam → RS := fun Γ => stm (fzL m Γ) fun d Γ1 => match Γ1[i]? with
  | some (.cmp c' pin fds) => if c' = c ∧ fds.length < 900 then .nx (Γ1.set i (.cmp c' pin (putFd f d fds))) else .stuck
  | _ => .stuck
theorem s_fld {i : Nat} {c f : Str} {p' : Pos} (hA : AttrOk M c f) (hK : X.K = M.K) (ho : PE X o (tVar i)) (hv : PE X value (tE M E m)) (hs : swapsWith value (some (.Attribute o f p')) pos.line X.env = pure false := by rfl) :
    PS X (.Assign [.Attribute o f p'] value pos) (tS M E (fldS c f i m)) := PS_weak (ps_fld ho (pe_fz hv) hs) fun D σ H ⟨Γ, F, own, s, p⟩ =>
  ⟨Γ, F, own, s, post_stm p fun F1 H1 own1 Γ1 x d _ s1 st1 r p1 => by
    split at p1
    · rename_i c' pin fds hi
      split at p1
      · rename_i hc
        obtain ⟨rfl, hl⟩ := hc
        obtain ⟨a, h0, hp, dx, fs, h1, h2, h3, h4⟩ := s1.slot i _ hi
        have hlen : fs.length = fds.length := by
          have := congrArg List.length h3
          simpa using this
        refine ⟨_, h0, a, _, dx, fs, rfl, h1, by rw [hK]; exact hA.cl, by rw [hK]; exact hA.no, by omega, ?_⟩
        have hia : own1 i a := (h2 a).mpr rfl
        have hk : ∀ b u, H1 b = some u → ¬ own1 i b → upd H1 a (.ins (M.cls c') dx (putF f x fs)) b = some u := fun b u h n => by
          have e : b ≠ a := fun e => n (by rw [e]; exact hia)
          rw [upd_ne e]
          exact h
        obtain ⟨k1, k2⟩ := putF_rep (f := f) r h3 h4
        have q := s1.write (i := i) (x := .cmp c' pin (putFd f d fds)) (o := own1 i) (s1.lt hi) hk (s1.free i) (fun b hb => by
          rw [(h2 b).mp hb, upd_same]
          simp) (fun b hb => .inl hb) ⟨a, h0, hp, dx, _, upd_same, h2, k1, k2⟩
        refine p1 _ F1 _ _ q (st1.trans ⟨.refl _, fun b u h n => hk b u h (n i), fun b h1 _ _ => h1, fun j b hb => ?_, fun b hb => ?_⟩)
        · by_cases e : j = i
          · subst e; rw [putO_same] at hb; exact .inl ⟨j, hb⟩
          · rw [putO_ne e] at hb; exact .inl ⟨j, hb⟩
        · by_cases e : b = a
          · rw [e, upd_same]; simp
          · rw [upd_ne e]; exact hb
      · exact p1.elim
    · exact p1.elim⟩
end
end DL
end

section
set_option Elab.async false
set_option linter.all false
set_option maxRecDepth 100000
set_option maxHeartbeats 1000000
/-! DL16: isinstance of an own class, of two types. -/
namespace DL
open PySem PySem.Spec PyProof.Rows L2
structure IsC (K : PySem.W.Frag) (mg : Str → Option Value) (cls : Str → Addr) (c : Str) : Prop where
  gl : mg c = some (.ref (cls c))
  cl : Cls K (cls c)
  ha : PySem.W.findIn K (.ref (cls c)) "__class__" = some (some (.builtin "object.__class__"))
  hn : PySem.W.specialIn K (.builtin "object.__class__") "__get__" = some (some (.builtin "getset_descriptor.__get__"))
  htk : PySem.W.takesIn K (.builtin "object.__class__") = some true
  hm : PySem.W.mroIn K (cls c) (.type "object") = some true
  me : PySem.W.kitOne K (.ref (cls c)) (.ref (cls c)) = some true
  no : ∀ n ∈ ["NoneType", "bool", "int", "str", "list", "tuple", "dict"], PySem.W.kitOne K (.type n) (.ref (cls c)) = some false
def isClF (c : Str) (Γ : Gam) (v : Val) : R Val := match viewI Γ v with
  | some (c', _) => if c' = c then .ok (.f (.bool true)) Γ else .stuck
  | none => match tyV Γ v with
    | some (.cls _) => .stuck
    | some _ => .ok (.f (.bool false)) Γ
    | none => .stuck
def isClM (c : Str) (m : Gam → R Val) : Gam → R Val := fun Γ => (rd m Γ).bind fun v Γ1 => isClF c Γ1 v
def isTy2F (T T' : TyN) (Γ : Gam) (v : Val) : R Val := match tyV Γ v with
  | some t => match isTyB T t, isTyB T' t with
    | some b, some b' => .ok (.f (.bool (b || b'))) Γ
    | _, _ => .stuck
  | none => .stuck
def isTy2M (T T' : TyN) (m : Gam → R Val) : Gam → R Val := fun Γ => (rd m Γ).bind fun v Γ1 => isTy2F T T' Γ1 v
section
variable {X : Cx} {cls : Str → Addr} {a0 : Option Addr} {M : Pm} {E : XK} {e c c2 : Expr} {m : Gam → R Val} {p p2 pt pos : Pos} {n : Str}
theorem tyName_mem {t : TyN} (h : ∀ c, t ≠ .cls c) : tyName t ∈ ["NoneType", "bool", "int", "str", "list", "tuple", "dict"] := by
  cases t with
  | cls c => exact absurd rfl (h c)
  | _ => simp [tyName]
theorem e_isc (I : IsC X.K X.mg cls n) (hgn : Gl X n) (hg : Gl X "isinstance") (hm : X.mg "isinstance" = none) (he : PE X e (tE ⟨X.K, cls, a0⟩ E m))
    (hdb : (n == ("__debug__" : Str)) = false := by decide)
    (h1 : starEach [e, .Name n p2] X.env = (false, eval e X.env) :: starEach [.Name n p2] X.env := by rfl) (h2 : starEach [.Name n p2] X.env = (false, eval (.Name n p2) X.env) :: starEach [] X.env := by rfl) (hpl : (backTo pos (starEach [.Name n p2] X.env)).any (·.1) = false := by rfl) :
    PE X (.Call (.Name "isinstance" p) [e, .Name n p2] [] pos) (tE ⟨X.K, cls, a0⟩ E (isClM n m)) :=
  PE_weak (pe_callB call_isi hg hm (by kernel_rfl) (pa_cons (pe_rd he) (pa_cons (pe_glob (v := .ref (cls n)) hgn I.gl rfl hdb) pa_nil h2) h1) (by decide) (by decide) h1 hpl) fun σ H Q q => by
    obtain ⟨Γ, F, own, st, q⟩ := q
    refine ⟨Γ, F, own, st, post_bind q fun F1 H1 own1 Γ1 x a _ st1 s1 r1 p1 => ?_⟩
    unfold isClF at p1
    split at p1
    · rename_i c' fds hv
      split at p1
      · rename_i hc
        subst hc
        obtain ⟨l, dx, fs, rfl, k1, _, _⟩ := view_I st1 r1 hv
        exact ⟨_, _, .ref (cls c'), .ref (cls c'), true, rfl, .own _, .base (TyOf.ins k1 I.cl I.ha I.hn I.htk I.hm), I.me, post_now st1 s1 p1 (.bl _)⟩
      · exact p1.elim
    · split at p1
      · exact p1.elim
      · rename_i t ht hc
        have hn : ∀ c, t ≠ .cls c := fun c e => ht c e
        exact ⟨x, _, .type (tyName t), .ref (cls n), false, rfl, .own _, ty_ok st1 r1 hc hn, I.no _ (tyName_mem hn), post_now st1 s1 p1 (.bl _)⟩
      · exact p1.elim
/-- isinstance(e, (T, T')) -/
theorem e_isi2 (T T' : TyN) (hK : X.K = M.K) (hT : tyOk T = true) (hT' : tyOk T' = true) (hg : Gl X "isinstance") (hm : X.mg "isinstance" = none) (he : PE X e (tE M E m)) (hc : PE X c (tC (.ty (tyName T)))) (hc2 : PE X c2 (tC (.ty (tyName T')))) {kt}
    (h3 : starEach [c, c2] X.env = (false, eval c X.env) :: starEach [c2] X.env := by rfl) (h4 : starEach [c2] X.env = (false, eval c2 X.env) :: starEach [] X.env := by rfl)
    (h1 : starEach [e, .Tuple [c, c2] kt pt] X.env = (false, eval e X.env) :: starEach [.Tuple [c, c2] kt pt] X.env := by rfl) (h2 : starEach [.Tuple [c, c2] kt pt] X.env = (false, eval (.Tuple [c, c2] kt pt) X.env) :: starEach [] X.env := by rfl) (hpl : (backTo pos (starEach [.Tuple [c, c2] kt pt] X.env)).any (·.1) = false := by rfl) :
    PE X (.Call (.Name "isinstance" p) [e, .Tuple [c, c2] kt pt] [] pos) (tE M E (isTy2M T T' m)) :=
  PE_weak (pe_callB call_isiT hg hm (by kernel_rfl) (pa_cons (pe_rd he) (pa_cons (pe_tup (pa_cons hc (pa_cons hc2 pa_nil h4) h3)) pa_nil h2) h1) (by decide) (by decide) h1 hpl) fun σ H Q q => by
    obtain ⟨Γ, F, own, st, q⟩ := q
    refine ⟨Γ, F, own, st, post_bind q fun F1 H1 own1 Γ1 x a _ st1 s1 r1 p1 => ?_⟩
    refine ⟨by simp only [List.length_cons, List.length_nil]; rw [sizeLine_eq]; decide, fun tp ntp => ?_⟩
    unfold isTy2F at p1
    split at p1
    · rename_i t ht
      split at p1
      · rename_i b b' hb hb'
        have hn := isTyB_cls hb
        have g : Grow F1 H1 F1 (upd H1 tp (.tup [.ty (tyName T), .ty (tyName T')])) := .lay st1.fh ntp
        have st2 := st1.grow g
        have r2 : ValRd M σ F1 x a := r1
        refine ⟨x, tp, _, .type (tyName t), [.type (tyName T), .type (tyName T')], b || b', rfl, upd_same, .cons (.ty _) (.cons (.ty _) .nil), ?_, ?_, post_now st2 (s1.trans (g.step own1)) p1 (.bl _)⟩
        · rw [hK]
          exact ty_ok st2 r2 ht hn
        · cases b with
          | true => exact kitAny_cons (kit_of_ty (tyOk_or hT) hb) (fun e => by cases e) (fun _ => rfl)
          | false =>
            refine kitAny_cons (kit_of_ty (tyOk_or hT) hb) (fun _ => ?_) (fun e => by cases e)
            cases b' with
            | true => exact kitAny_cons (kit_of_ty (tyOk_or hT') hb') (fun e => by cases e) (fun _ => rfl)
            | false => exact kitAny_cons (kit_of_ty (tyOk_or hT') hb') (fun _ => kitAny_nil) (fun e => by cases e)
      · exact p1.elim
    · exact p1.elim
end
end DL
end

section
set_option Elab.async false
set_option linter.all false
set_option maxRecDepth 100000
set_option maxHeartbeats 1000000
/-! DL17: dict(pairs) of keys that are tuples. -/
namespace DL
open PySem PySem.Spec PyProof.Rows L2
/-- pair, key object, key, value -/
abbrev PT4 := Addr × Addr × List Key × V
def mergT (T : List PT4) (acc : List (List Key × V)) : List (List Key × V) := T.foldl (fun acc t => putK acc t.2.2.1 t.2.2.2) acc
def rDictPT (K : PySem.W.Frag) : List V → Hp → VK → Prop := fun xs H Q => ∃ (a : Addr) (T : List PT4), xs = [.ref a] ∧ SqL K H a (T.map fun t => .ref t.1) ∧ (∀ t ∈ T, SqT K H t.1 [.ref t.2.1, t.2.2.2] ∧ H t.2.1 = some (.tup (t.2.2.1.map kV))) ∧
  ∀ p, H p = none → Q (.ref p) (upd H p (.dT (mergT T [])))
theorem kt_up {H H' : Hp} (e : Ex H H') : ∀ {kvs : List (List Key × V)} {xs : List (List Key × Addr × Value)}, KT H kvs xs → KT H' kvs xs := by
  intro kvs xs r
  unfold KT at r ⊢
  induction r with
  | nil => exact .nil
  | cons h t ih => exact .cons ⟨h.1, e _ _ h.2.1, h.2.2⟩ ih
theorem kt_merge {H : Hp} : ∀ {T : List PT4} {us : List Value} {kvs : List (List Key × V)} {xs : List (List Key × Addr × Value)}, KT H kvs xs → (∀ t ∈ T, H t.2.1 = some (.tup (t.2.2.1.map kV))) → Paired (fun (t : PT4) u => RelV t.2.2.2 u) T us →
    KT H (mergT T kvs) (storedAllH xs ((T.zip us).map fun q => (q.1.2.2.1, q.1.2.1, q.2)))
  | [], _, kvs, xs, r, _, .nil => r
  | t :: T, _, kvs, xs, r, h, .cons ru rt => by
    have := kt_merge (T := T) (r.put t.2.2.1 (h t List.mem_cons_self) ru) (fun t' ht => h t' (List.mem_cons_of_mem _ ht)) rt
    exact this
theorem mergT_len : ∀ (T : List PT4) (kvs : List (List Key × V)), (mergT T kvs).length ≤ kvs.length + T.length
  | [], kvs => by simp [mergT]
  | t :: T, kvs => by
    have h1 := mergT_len T (putK kvs t.2.2.1 t.2.2.2)
    have h2 := length_putK kvs t.2.2.1 t.2.2.2
    show (mergT T (putK kvs t.2.2.1 t.2.2.2)).length ≤ _
    simp only [List.length_cons]
    omega
section
variable {X : Cx}
theorem pairs4 {pins : List (Addr × Obj)} {σ : L2.St} {H : Hp} {s : Shared} (I : Inv X pins σ H s) : ∀ {T : List PT4}, (∀ t ∈ T, SqT X.K H t.1 [.ref t.2.1, t.2.2.2] ∧ H t.2.1 = some (.tup (t.2.2.1.map kV))) →
    ∃ us : List Value, Paired (fun (t : PT4) u => RelV t.2.2.2 u) T us ∧ ∀ (j : Nat) (t : PT4) (u : Value), T[j]? = some t → us[j]? = some u → IsTup s.heap t.1 #[.ref t.2.1, u]
  | [], _ => ⟨[], .nil, fun j t u e => by simp at e⟩
  | t :: T, h => by
    obtain ⟨us, h1, h2⟩ := pairs4 I (T := T) fun t' ht => h t' (List.mem_cons_of_mem _ ht)
    obtain ⟨its, rv, ht, _⟩ := I.tuple (h t List.mem_cons_self).1
    obtain ⟨k, y, ei, ru, ry⟩ := vals2 rv
    subst ei
    cases ru
    refine ⟨y :: us, .cons ry h1, fun j t' u e1 e2 => ?_⟩
    cases j with
    | zero =>
      cases e1
      cases e2
      exact ht
    | succ j => exact h2 j t' u (by simpa using e1) (by simpa using e2)
theorem paired_len {α β : Type} {R : α → β → Prop} : ∀ {xs : List α} {ys : List β}, Paired R xs ys → xs.length = ys.length
  | _, _, .nil => rfl
  | _, _, .cons _ t => by simp [paired_len t]
theorem call_dictPT (hu : X.A.units + 64 < cLine) (hcalm : X.calm = true) : CallR X (.type "dict") (rDictPT X.K) := by
  intro pins s σ H xs us Q I r q
  obtain ⟨a, T, ex, hq, hp, q⟩ := q
  subst ex
  obtain ⟨u, eu, rx⟩ := vals1 r
  subst eu
  cases rx
  obtain ⟨its, rv, pl, hz⟩ := I.list hq
  have hT : T.map (fun t => V.ref t.1) = (T.map (·.1)).map V.ref := by simp
  rw [hT] at rv
  have ei := refs_at rv
  subst ei
  rw [List.length_map] at hz
  obtain ⟨ys, rel, hpr⟩ := pairs4 I hp
  have hl := paired_len rel
  obtain ⟨o, n, ho, hc, hd, hdat⟩ := pl
  have ok : PlainSeq "list" s.heap a ((T.map (·.1)).map Value.ref).toArray ∧ PairItems s.heap ((T.map (·.1)).map Value.ref).toArray (fun j => ((T.map (·.1))[j]?).getD 0) ((T.zip ys).map fun q => (Value.ref q.1.2.1, q.2)) := by
    refine ⟨⟨o, n, ho, hc, hd, hdat⟩, by simp [hl], fun j k v e => ?_⟩
    rw [List.getElem?_map] at e
    cases ez : (T.zip ys)[j]? with
    | none =>
      rw [ez] at e
      cases e
    | some z =>
      rw [ez] at e
      simp only [Option.map_some, Option.some.injEq, Prod.mk.injEq] at e
      obtain ⟨rfl, rfl⟩ := e
      obtain ⟨e1, e2⟩ := List.getElem?_zip_eq_some.mp ez
      have hz' : ((T.map (·.1))[j]?).getD 0 = z.1.1 := by simp [e1]
      refine ⟨by simp [e1], .inl ?_⟩
      show s.heap.IsTuple (((T.map (·.1))[j]?).getD 0) _
      rw [hz']
      exact hpr j z.1 z.2 e1 e2
  refine call_dict_pairsH (knd := tupleKind (mixKind X.prog X.w)) (ps := (T.zip ys).map fun q => (q.1.2.2.1, q.1.2.1, q.2)) (PairArg.list a _ (fun j => ((T.map (·.1))[j]?).getD 0) ((T.zip ys).map fun q => (Value.ref q.1.2.1, q.2))) (I.ok.hd hcalm) (show X.A.units + 1 + 1 < cLine by omega) ok ⟨by simp, fun i key v hr => ?_⟩ (fun h' hk x hx => ?_) ?_ fun h' tk hd' k => ?_
  · have hr : ((T.zip ys).map fun q => (Value.ref q.1.2.1, q.2))[i]? = some (key, v) := hr
    rw [List.getElem?_map] at hr
    cases ez : (T.zip ys)[i]? with
    | none =>
      rw [ez] at hr
      cases hr
    | some z =>
      rw [ez] at hr
      simp only [Option.map_some, Option.some.injEq, Prod.mk.injEq] at hr
      obtain ⟨rfl, rfl⟩ := hr
      exact ⟨z.1.2.2.1, z.1.2.1, by rw [List.getElem?_map, ez]; rfl, rfl⟩
  · obtain ⟨z, hz1, rfl⟩ := List.mem_map.mp hx
    have hm : z.1 ∈ T := (List.of_mem_zip (by exact hz1)).1
    have hk1 := key_of I.hok (hp _ hm).2
    obtain ⟨o', its', n', g1, g2, g3, g4⟩ := id hk1
    exact ⟨o', its', n', hk _ _ (Nat.ne_of_lt (Heap.lt_size g1)) (by simp) g1, g2, g3, g4⟩
  · rw [List.length_map, List.length_zip, ← hl, Nat.min_self]
    exact hz
  · have hm : (s.heap.objs.size == sysModules) = false := beq_eq_false_iff_ne.mpr (Nat.ne_of_gt I.big)
    have hf : H s.heap.objs.size = none := I.hok.fresh (Nat.le_refl _)
    have hlen : (mergT T []).length ≤ sizeLine := by
      have := mergT_len T []
      simp only [List.length_nil, Nat.zero_add] at this
      omega
    have kt : KT H (mergT T []) (storedAllH [] ((T.zip ys).map fun q => (q.1.2.2.1, q.1.2.1, q.2))) := kt_merge .nil (fun t ht => (hp t ht).2) rel
    have kt2 := kt_up (Ex.new (o := .dT (mergT T [])) hf) kt
    obtain ⟨o1, es, ep, g1, g2, g3, g4, g5, g6⟩ := hd'
    exact ⟨.ref s.heap.objs.size, upd H s.heap.objs.size (.dT (mergT T [])), I.laid (t' := tk) (fun b o e => k b o (by simp) e) (Nat.le_refl _) (show ObjOk X.prog X.w _ _ _ (.dT (mergT T [])) from ⟨hlen, hm, _, kt2, o1, es, ep, g1, g2, g3, g4, g6⟩), rfl, q _ hf⟩
end
def pairT : D → Option (List Key × D)
  | .tuple [k, d] => match keyTOf k with
    | some ks => some (ks, d)
    | none => none
  | _ => none
def pairsT : List D → Option (List (List Key × D))
  | [] => some []
  | p :: r => match pairT p, pairsT r with
    | some q, some qs => some (q :: qs)
    | _, _ => none
def mergD (qs : List (List Key × D)) (acc : List (List Key × D)) : List (List Key × D) := qs.foldl (fun acc q => put acc q.1 q.2) acc
def dictPTF (Γ : Gam) (vs : List Val) : R Val := match vs with
  | [v] => match viewD Γ v with
    | some (.list ds) => match pairsT ds with
      | some qs => .ok (.n (.oT (mergD qs []))) Γ
      | none => .stuck
    | _ => .stuck
  | _ => .stuck
theorem pairT_some {p : D} {q : List Key × D} (h : pairT p = some q) : ∃ k, p = .tuple [k, q.2] ∧ keyTOf k = some q.1 := by
  unfold pairT at h
  split at h
  · split at h
    · rename_i k d ks e
      cases h
      exact ⟨_, rfl, e⟩
    · cases h
  · cases h
theorem pairs_rep {cls : Str → Addr} {F : Hp} : ∀ {vs : List V} {ds : List D} {qs : List (List Key × D)}, RepAll cls F vs ds → pairsT ds = some qs →
    ∃ T : List PT4, vs = T.map (fun t => V.ref t.1) ∧ (∀ t ∈ T, Rd F t.1 (.tup [.ref t.2.1, t.2.2.2]) ∧ F t.2.1 = some (.tup (t.2.2.1.map kV))) ∧ T.map (fun t => t.2.2.1) = qs.map (·.1) ∧ RepAll cls F (T.map fun t => t.2.2.2) (qs.map (·.2))
  | _, _, _, .nil, h => by
    cases h
    exact ⟨[], rfl, fun _ h => by simp at h, rfl, .nil⟩
  | v :: vs, d :: ds, qs, .cons r rs, h => by
    simp only [pairsT] at h
    split at h
    · rename_i q qs' e1 e2
      cases h
      obtain ⟨T, h1, h2, h3, h4⟩ := pairs_rep rs e2
      obtain ⟨k, rfl, ek⟩ := pairT_some e1
      obtain ⟨p, ws, rfl, hp, rw⟩ := Rep.invU r
      cases rw with
      | cons ra rw =>
        cases rw with
        | cons rb rw =>
          cases rw
          obtain ⟨b, rfl, hb⟩ := rep_keyT ra ek
          refine ⟨(p, b, q.1, _) :: T, by simp [h1], fun t ht => ?_, by simp [h3], .cons rb h4⟩
          rcases List.mem_cons.mp ht with rfl | ht
          · exact ⟨hp, hb⟩
          · exact h2 t ht
    · cases h
theorem merg_rep {cls : Str → Addr} {F : Hp} : ∀ {T : List PT4} {qs : List (List Key × D)} {kvs : List (List Key × V)} {kds : List (List Key × D)}, T.map (fun t => t.2.2.1) = qs.map (·.1) → RepAll cls F (T.map fun t => t.2.2.2) (qs.map (·.2)) →
    kvs.map (·.1) = kds.map (·.1) → RepAll cls F (kvs.map (·.2)) (kds.map (·.2)) → (mergT T kvs).map (·.1) = (mergD qs kds).map (·.1) ∧ RepAll cls F ((mergT T kvs).map (·.2)) ((mergD qs kds).map (·.2))
  | [], [], kvs, kds, _, _, h1, h2 => ⟨h1, h2⟩
  | [], _ :: _, _, _, h, _, _, _ => by simp at h
  | _ :: _, [], _, _, h, _, _, _ => by simp at h
  | t :: T, q :: qs, kvs, kds, h, r, h1, h2 => by
    simp only [List.map_cons, List.cons.injEq] at h
    obtain ⟨e, h⟩ := h
    cases r with
    | cons r1 r2 =>
      have k1 := put_keys (α := V) (β := D) h1 t.2.2.1 t.2.2.2 q.2
      have k2 := put_rep (cls := cls) (F := F) h1 h2 t.2.2.1 r1
      have := merg_rep (kvs := put kvs t.2.2.1 t.2.2.2) (kds := put kds t.2.2.1 q.2) h r2 k1 k2
      show (mergT T (putK kvs t.2.2.1 t.2.2.2)).map (·.1) = (mergD qs (put kds q.1 q.2)).map (·.1) ∧ RepAll cls F ((mergT T (putK kvs t.2.2.1 t.2.2.2)).map (·.2)) ((mergD qs (put kds q.1 q.2)).map (·.2))
      rw [putK_put, ← e]
      exact this
theorem cs_dictPT {M : Pm} : CallS M (rDictPT M.K) dictPTF := by
  intro E Γ σ F0 H0 own0 F H own xs as Q s st r p
  unfold dictPTF at p
  split at p
  · cases r with
    | cons r1 r2 =>
      cases r2
      split at p
      · rename_i ds hv
        split at p
        · rename_i qs hq
          obtain ⟨l, vs, rfl, h1, h2⟩ := view_list s r1 hv
          obtain ⟨T, rfl, k2, k3, k4⟩ := pairs_rep h2 hq
          refine ⟨l, T, rfl, h1, fun t ht => ⟨.inl (rd_up s.fh (k2 t ht).1), s.fh _ _ (k2 t ht).2⟩, fun q hq' => ?_⟩
          obtain ⟨m1, m2⟩ := merg_rep (kvs := []) (kds := []) k3 k4 rfl .nil
          exact post_newO s st p hq' ⟨q, _, rfl, fun _ => .rfl, upd_same, m1, m2⟩
        · exact p.elim
      · exact p.elim
  · exact p.elim
end DL
end

section
set_option Elab.async false
set_option linter.all false
set_option maxRecDepth 100000
set_option maxHeartbeats 1000000
/-! DL18: a, b, c = x, y, z. -/
namespace DL
open PySem PySem.Spec PyProof.Rows L2
def par3M (i j l : Nat) (ms : Gam → R (List D)) : Gam → RS := fun Γ => stm (ms Γ) fun ds Γ1 => match ds with
  | [d, d', d''] => if i < Γ1.length ∧ j < Γ1.length ∧ l < Γ1.length then .nx (((Γ1.set i (.val d)).set j (.val d')).set l (.val d'')) else .stuck
  | _ => .stuck
section
variable {X : Cx} {M : Pm} {E : XK} {a b c : Expr} {pos : Pos}
theorem s_par3 {i j l : Nat} {x y z : Str} {ms : Gam → R (List D)} {px py pz pt : Pos} {kt k2 pt2} (hc : X.calm = true) (hN : X.N.Nodup) (hi : X.N[i]? = some x) (hj : X.N[j]? = some y) (hl : X.N[l]? = some z) (hij : i ≠ j) (hil : i ≠ l) (hjl : j ≠ l)
    (hx : X.env.scope.names.lookup x = some .local) (hy : X.env.scope.names.lookup y = some .local) (hz : X.env.scope.names.lookup z = some .local) (ha : PA X [a, b, c] (tFs M E ms))
    (hw : swappedStores [.Tuple [.Name x px, .Name y py, .Name z pz] kt pt] (.Tuple [a, b, c] k2 pt2) X.env = pure (some [x, y, z]))
    (hs : swapsWithSole [.Tuple [.Name x px, .Name y py, .Name z pz] kt pt] (.Tuple [a, b, c] k2 pt2) pos.line X.env = pure false := by rfl) :
    PS X (.Assign [.Tuple [.Name x px, .Name y py, .Name z pz] kt pt] (.Tuple [a, b, c] k2 pt2) pos) (tS M E (par3M i j l ms)) := PS_weak (ps_par3 hc hN hi hj hl hij hil hjl hx hy hz ha hw hs) fun D σ H ⟨Γ, F, own, s, p⟩ =>
  ⟨Γ, F, own, s, post_stm p fun F1 H1 own1 Γ1 xs ds _ s1 st1 r p1 => by
    split at p1
    · split at p1
      · rename_i hl
        cases r with
        | cons r1 r =>
          cases r with
          | cons r2 r =>
            cases r with
            | cons r3 r =>
              cases r
              have q1 := s1.setv hl.1 r1
              have q2 := q1.1.setv (i := j) (by simp; exact hl.2.1) r2
              have q3 := q2.1.setv (i := l) (by simp; exact hl.2.2) r3
              exact ⟨_, _, _, rfl, p1 _ F1 H1 _ q3.1 (((st1.trans q1.2).trans q2.2).trans q3.2)⟩
      · exact p1.elim
    · exact p1.elim⟩
/-! ### (a, b) = a tuple or a list -/
theorem pg_or {e : Expr} {t1 t2 : TG} (h1 : PG X e t1) (h2 : PG X e t2) : PG X e (fun v σ H Q => t1 v σ H Q ∨ t2 v σ H Q) := ⟨fun pins s σ H v u Q I r hw => by
  rcases hw with hw | hw
  · exact h1.run pins s σ H v u Q I r hw
  · exact h2.run pins s σ H v u Q I r hw⟩
def tgTL (n : Nat) (u : List D → Gam → Option Gam) (d : D) (Γ : Gam) : Option Gam := match d with
  | .tuple ds => if ds.length = n then u ds Γ else none
  | .list ds => if ds.length = n then u ds Γ else none
  | _ => none
theorem g_tupL {es : List Expr} {k n : Nat} {ts : List Nat} {u : List D → Gam → Option Gam} (hK : X.K = M.K) (hc : X.calm = true) (h : PGs X es (tGts M ts u)) (hn : (assignEach es X.env).length = n := by rfl) (hst : (assignEach es X.env).findIdx? (·.1) = none := by rfl) :
    PG X (.Tuple es k pos) (tGt M ts (tgTL n u)) := PG_weak (pg_or (pg_tup hc h hn hst) (pg_unl hc h hn hst)) fun v σ H Q ⟨Γ, F, own, d, s, r, h⟩ => by
  unfold tgTL at h
  cases d with
  | tuple ds =>
    obtain ⟨a, vs, rfl, h1, h2⟩ := Rep.invU r
    simp only at h
    split at h
    · rename_i Γ' hg
      split at hg
      · rename_i hl
        refine .inl ⟨a, vs, rfl, .inl (rd_up s.fh h1), by rw [h2.length]; exact hl, Γ, F, own, ds, s, h2, ?_⟩
        rw [hg]
        exact h
      · cases hg
    · exact h.elim
  | list ds =>
    obtain ⟨a, vs, rfl, h1, h2⟩ := Rep.invL r
    simp only at h
    split at h
    · rename_i Γ' hg
      split at hg
      · rename_i hl
        refine .inr ⟨a, vs, rfl, .inl (.inl (s.fh _ _ h1)), by rw [h2.length]; exact hl, Γ, F, own, ds, s, h2, ?_⟩
        rw [hg]
        exact h
      · cases hg
    · exact h.elim
  | _ => exact h.elim
end
end DL
end

section
set_option Elab.async false
set_option linter.all false
set_option maxRecDepth 100000
set_option maxHeartbeats 1000000
/-! DL19: d.get(k), for k, v in d.items(), for v in d.values(). -/
namespace DL
open PySem PySem.Spec PyProof.Rows L2
def getM (mo me : Gam → R Val) : Gam → R Val := fun Γ => (rd mo Γ).bind fun v Γ1 => match viewK Γ1 v with
  | some _ => (rd me Γ1).bind fun u Γ2 => match u with
    | .f kd => match keyOf kd with
      | some k => match viewK Γ2 v with
        | some kds => .ok (.f ((look kds k).getD .none)) Γ2
        | none => .stuck
      | none => .stuck
    | _ => .stuck
  | none => .stuck
section
variable {X : Cx} {M : Pm} {E : XK} {o e : Expr} {mo me : Gam → R Val} {apos pos : Pos}
theorem e_get (hu : X.A.units + 64 < cLine) (ho : PE X o (tE M E mo)) (he : PE X e (tE M E me)) (m : M1 X o "get" apos e pos) : PE X (.Call (.Attribute o "get" apos) [e] [] pos) (tE M E (getM mo me)) :=
  PE_weak (pe_dget1 (by omega) (pe_rd ho) (pe_rd he) m) fun σ H Q ⟨Γ, F, own, st, q⟩ => by
    refine ⟨Γ, F, own, st, post_bind q fun F1 H1 own1 Γ1 x v _ st1 s1 r1 p1 => ?_⟩
    split at p1
    · rename_i kds0 hv0
      obtain ⟨l, kvs0, rfl, h1, _, _⟩ := view_K st1 r1 hv0
      refine ⟨l, rfl, .inl ⟨kvs0, h1⟩, Γ1, F1, own1, st1, post_bind (p1.mono (back_V M) s1) fun F2 H2 own2 Γ2 y u _ st2 s2 r2 p2 => ?_⟩
      split at p2
      · rename_i kd
        split at p2
        · rename_i k hk
          split at p2
          · rename_i kds hv
            obtain ⟨l', kvs, e, h1, h2, h3⟩ := view_K st2 (ValRd.mono s2.ff r1) hv
            cases e
            obtain ⟨o, g, ro⟩ := dget_k h1 h2 h3 r2 hk
            refine ⟨o, g, ?_⟩
            cases o with
            | none =>
              cases eq : look kds k with
              | none =>
                rw [eq] at p2
                exact post_now st2 s2 p2 .non
              | some d =>
                rw [eq] at ro
                exact ro.elim
            | some w =>
              cases eq : look kds k with
              | none =>
                rw [eq] at ro
                exact ro.elim
              | some d =>
                rw [eq] at p2 ro
                exact post_now st2 s2 p2 ro
          · exact p2.elim
        · exact p2.elim
      · exact p2.elim
    · exact p1.elim
/-! ### loops over a dict that is known -/
def dicOf : D → Option (List (Key × D))
  | .dict ((.none, .int 3) :: r) => prsK r
  | _ => none
theorem dicOf_some {d : D} {kds : List (Key × D)} (h : dicOf d = some kds) : d = dicF kds := by
  unfold dicOf at h
  split at h
  · rw [prsK_some h]
    rfl
  · cases h
def itemsD (kds : List (Key × D)) : List D := kds.map fun p => .tuple [keyD p.1, p.2]
def itemsM (m : Gam → R Val) : Gam → R Src := fun Γ => (rd m Γ).bind fun v Γ1 => match v with
  | .f d => match dicOf d with
    | some kds => .ok ⟨itemsD kds, none⟩ Γ1
    | none => .stuck
  | _ => .stuck
def valuesM (m : Gam → R Val) : Gam → R Src := fun Γ => (rd m Γ).bind fun v Γ1 => match v with
  | .f d => match dicOf d with
    | some kds => .ok ⟨kds.map (·.2), none⟩ Γ1
    | none => .stuck
  | _ => .stuck
theorem kv_at {cls : Str → Addr} {F : Hp} {kvs : List (Key × V)} {kds : List (Key × D)} (h2 : kvs.map (·.1) = kds.map (·.1)) (h3 : RepAll cls F (kvs.map (·.2)) (kds.map (·.2))) {i : Nat} {k : Key} {v : V} (e : kvs[i]? = some (k, v)) : ∃ d, kds[i]? = some (k, d) ∧ Rep cls F v d := by
  have hl : kvs.length = kds.length := by simpa using congrArg List.length h2
  have hi : i < kvs.length := (List.getElem?_eq_some_iff.mp e).1
  have e2 : kds[i]? = some kds[i] := List.getElem?_eq_getElem (by omega)
  have k1 : (kvs.map (·.1))[i]? = some k := by simp [e]
  rw [h2] at k1
  simp [e2] at k1
  have r := h3.get i v kds[i].2 (by simp [e]) (by simp [e2])
  exact ⟨kds[i].2, by rw [e2, ← k1], r⟩
theorem rep_keyD {cls : Str → Addr} {F : Hp} : ∀ k : Key, Rep cls F (kV k) (keyD k)
  | .inl i => .int i
  | .inr s => .str s
theorem itd_items {σ : L2.St} {F : Hp} {a : Addr} {ob : Obj} {kvs : List (Key × V)} {kds : List (Key × D)} (h1 : F a = some (.frz ob (.dK kvs))) (h2 : kvs.map (·.1) = kds.map (·.1)) (h3 : RepAll M.cls F (kvs.map (·.2)) (kds.map (·.2))) : ItD M (Iti a ob kvs) σ F ⟨itemsD kds, none⟩ where
  go := fun i Γ σ F' H' own' hi' st e ok hs => by
    have hl : kvs.length = kds.length := by simpa using congrArg List.length h2
    simp only [itemsD, List.length_map] at hi'
    exact ⟨st.fh _ _ (e _ _ h1), by omega⟩
  stop := fun i Γ σ F' H' own' hi' st e ok hs => by
    have hl : kvs.length = kds.length := by simpa using congrArg List.length h2
    simp only [itemsD, List.length_map] at hi'
    exact ⟨st.fh _ _ (e _ _ h1), by omega⟩
  yld := fun i Γ σ F' H' own' x H'' hi' st e ok hs y => by
    obtain ⟨T, k, v, hk, rfl, hT, rfl⟩ := y
    obtain ⟨d, hd, rd⟩ := kv_at h2 h3 hk
    obtain ⟨g2, r2⟩ := rep_pair (M := M) (T := T) st.fh hT (rep_keyD (cls := M.cls) k) (rd.mono e)
    refine ⟨_, _, g2, ?_, r2⟩
    simp [itemsD, hd]
theorem itd_values {σ : L2.St} {F : Hp} {a : Addr} {ob : Obj} {kvs : List (Key × V)} {kds : List (Key × D)} (h1 : F a = some (.frz ob (.dK kvs))) (h2 : kvs.map (·.1) = kds.map (·.1)) (h3 : RepAll M.cls F (kvs.map (·.2)) (kds.map (·.2))) : ItD M (Itd a ob kvs) σ F ⟨kds.map (·.2), none⟩ where
  go := fun i Γ σ F' H' own' hi' st e ok hs => by
    have hl : kvs.length = kds.length := by simpa using congrArg List.length h2
    simp only [List.length_map] at hi'
    exact ⟨st.fh _ _ (e _ _ h1), by omega⟩
  stop := fun i Γ σ F' H' own' hi' st e ok hs => by
    have hl : kvs.length = kds.length := by simpa using congrArg List.length h2
    simp only [List.length_map] at hi'
    exact ⟨st.fh _ _ (e _ _ h1), by omega⟩
  yld := fun i Γ σ F' H' own' x H'' hi' st e ok hs y => by
    obtain ⟨rfl, k, hk⟩ := y
    obtain ⟨d, hd, rd⟩ := kv_at h2 h3 hk
    exact ⟨F', d, .refl st.fh, by simp [hd], rd.mono e⟩
theorem i_items {elts : List Expr} {kk : Nat} {tpos : Pos} (he : PE X e (tE M E me)) (hbase : attributeBase e "items" X.env (eval e X.env) = eval e X.env := by rfl) (hline : (apos.endLine == pos.line) = true := by rfl) :
    PI X (.Tuple elts kk tpos) (.Call (.Attribute e "items" apos) [] [] pos) (tI M E (itemsM me)) := PI_weak (pi_items (pe_rd he) hbase hline) fun σ H R' ⟨Γ, F, own, s, q⟩ => by
  refine ⟨Γ, F, own, s, post_srcb q fun F1 H1 own1 Γ1 x a st1 s1 r1 p1 => ?_⟩
  split at p1
  · rename_i d
    split at p1
    · rename_i kds hk
      have r0 : Rep M.cls F1 x d := r1
      rw [dicOf_some hk] at r0
      obtain ⟨l, ob, kvs, rfl, h1, h2, h3⟩ := Rep.invF r0
      exact ⟨l, ob, kvs, rfl, st1.fh _ _ h1, p1 F1 H1 own1 _ st1 s1 (itd_items h1 h2 h3) (fun _ _ h => by simp at h)⟩
    · exact p1.elim
  · exact p1.elim
theorem i_values {tg : Expr} (he : PE X e (tE M E me)) (hbase : attributeBase e "values" X.env (eval e X.env) = eval e X.env := by rfl) (hline : (apos.endLine == pos.line) = true := by rfl) :
    PI X tg (.Call (.Attribute e "values" apos) [] [] pos) (tI M E (valuesM me)) := PI_weak (pi_values (pe_rd he) hbase hline) fun σ H R' ⟨Γ, F, own, s, q⟩ => by
  refine ⟨Γ, F, own, s, post_srcb q fun F1 H1 own1 Γ1 x a st1 s1 r1 p1 => ?_⟩
  split at p1
  · rename_i d
    split at p1
    · rename_i kds hk
      have r0 : Rep M.cls F1 x d := r1
      rw [dicOf_some hk] at r0
      obtain ⟨l, ob, kvs, rfl, h1, h2, h3⟩ := Rep.invF r0
      exact ⟨l, ob, kvs, rfl, st1.fh _ _ h1, p1 F1 H1 own1 _ st1 s1 (itd_values h1 h2 h3) (fun _ _ h => by simp at h)⟩
    · exact p1.elim
  · exact p1.elim
end
end DL
end

section
set_option Elab.async false
set_option linter.all false
set_option maxRecDepth 100000
set_option maxHeartbeats 1000000
/-! DL20: [*xs, y]. -/
namespace DL
open PySem PySem.Spec PyProof.Rows L2
open StX (pa_star)
def starD (m : Gam → R Val) (md : Gam → R (List D)) : Gam → R (List D) := fun Γ => (rd m Γ).bind fun v Γ1 => match viewD Γ1 v with
  | some (.list ds) => (md Γ1).bind fun es Γ2 => .ok (ds ++ es) Γ2
  | some (.tuple ds) => (md Γ1).bind fun es Γ2 => .ok (ds ++ es) Γ2
  | _ => .stuck
section
variable {X : Cx} {M : Pm} {E : XK} {e : Expr} {es : List Expr} {m : Gam → R Val} {md : Gam → R (List D)} {p : Pos}
theorem d_star (hK : X.K = M.K) (he : PE X e (tE M E m)) (hr : PA X es (tFs M E md)) (hs : starEach (.Starred e p :: es) X.env = (true, eval e X.env) :: starEach es X.env := by rfl) : PA X (.Starred e p :: es) (tFs M E (starD m md)) :=
  PA_weak (pa_star (pe_rd he) hr hs) fun σ H Q ⟨Γ, F, own, st, q⟩ => by
    refine ⟨Γ, F, own, st, post_bind q fun F1 H1 own1 Γ1 x a _ st1 s1 r1 p1 => ?_⟩
    rw [hK]
    split at p1
    · rename_i ds hv
      obtain ⟨l, vs, rfl, h1, h2⟩ := view_list st1 r1 hv
      refine ⟨l, vs, rfl, .inr h1, Γ1, F1, own1, st1, post_bind (p1.mono (fun _ _ _ _ _ _ _ _ _ r => r) s1) fun F2 H2 own2 Γ2 ys es' _ st2 s2 r2 p2 => ?_⟩
      exact p2 _ F2 H2 own2 st2 s2 ((RepAll.mono s2.ff h2).append r2)
    · rename_i ds hv
      obtain ⟨l, vs, rfl, _, h1, h2⟩ := view_tup st1 r1 hv
      refine ⟨l, vs, rfl, .inl h1, Γ1, F1, own1, st1, post_bind (p1.mono (fun _ _ _ _ _ _ _ _ _ r => r) s1) fun F2 H2 own2 Γ2 ys es' _ st2 s2 r2 p2 => ?_⟩
      exact p2 _ F2 H2 own2 st2 s2 ((RepAll.mono s2.ff h2).append r2)
    · exact p1.elim
end
end DL
end

section
set_option Elab.async false
set_option linter.all false
set_option maxRecDepth 100000
set_option maxHeartbeats 1000000
/-! DL21: calls of a def by keywords alone. -/
namespace DL
open PySem PySem.Spec PyProof.Rows L2
def permL {α : Type} (perm : List Nat) (ws : List α) : List α := perm.filterMap fun i => ws[i]?
theorem vals_at : ∀ {zs : List V} {ws : List Value}, Vals zs ws → ∀ i : Nat, (zs[i]? = none ∧ ws[i]? = none) ∨ ∃ z u, zs[i]? = some z ∧ ws[i]? = some u ∧ RelV z u
  | _, _, .nil, i => .inl ⟨by simp, by simp⟩
  | _, _, .cons r t, 0 => .inr ⟨_, _, rfl, rfl, r⟩
  | _, _, .cons r t, i + 1 => by simpa using vals_at t i
theorem vals_perm {zs : List V} {ws : List Value} (r : Vals zs ws) : ∀ perm : List Nat, Vals (permL perm zs) (permL perm ws)
  | [] => .nil
  | i :: p => by
    have ih := vals_perm r p
    rcases vals_at r i with ⟨h1, h2⟩ | ⟨z, u, h1, h2, h3⟩
    · unfold permL at ih ⊢
      rw [List.filterMap_cons_none h1, List.filterMap_cons_none h2]
      exact ih
    · unfold permL at ih ⊢
      rw [List.filterMap_cons_some h1, List.filterMap_cons_some h2]
      exact .cons h3 ih
theorem rep_perm {cls : Str → Addr} {F : Hp} {zs : List V} {ds : List D} (r : RepAll cls F zs ds) : ∀ perm : List Nat, RepAll cls F (permL perm zs) (permL perm ds)
  | [] => .nil
  | i :: p => by
    have ih := rep_perm r p
    cases h : zs[i]? with
    | none =>
      have h2 : ds[i]? = none := by
        rw [List.getElem?_eq_none_iff] at h ⊢
        rw [← r.length]
        exact h
      unfold permL at ih ⊢
      rw [List.filterMap_cons_none h, List.filterMap_cons_none h2]
      exact ih
    | some v =>
      obtain ⟨d, h2, h3⟩ := r.at' i v h
      unfold permL at ih ⊢
      rw [List.filterMap_cons_some h, List.filterMap_cons_some h2]
      exact .cons h3 ih
theorem kbindsN {K : PySem.W.Frag} {x qual : Str} {params : Arguments} {body : List Stmt} {scope : Scope} {f : Addr} {fd : FuncData} {ps : List Str} (F : FunD K x qual params body scope [] [] f fd) (n : Nat) (ks : List Str) (perm : List Nat)
    (h : ∀ (kV doc pm : Value) (an : Option Addr) (cdv ct : Value) (us ws : List Value), us.length = n → ws.length = ks.length → bindArgs (PySem.W.fnOf x qual params body scope .none kV doc pm an cdv ct) ⟨us, ks.zip ws⟩ = pure (ps.zip (us ++ permL perm ws))) :
    KBn K fd ps n ks (fun us ws => us ++ permL perm ws) (fun vs zs => vs ++ permL perm zs) := by
  obtain ⟨oc, od, dV, kV, doc, pm, an, cdv, ct, osl, rfl, lk, hcd, hD, hK⟩ := F.ex
  rcases hD with ⟨_, rfl⟩ | ⟨e, _⟩
  · exact ⟨fun s us ws _ l1 l2 => .of_eq (h kV doc pm an cdv ct us ws l1 l2), fun r1 r2 => r1.append (vals_perm r2 perm)⟩
  · exact absurd rfl e
section
variable {X : Cx} {CX : CXT} {k : Nat} {f C : Addr} {fd : FuncData} {ps ks : List Str} {sp : Sp} {E : XK} {x : Str} {p pos : Pos} {kws : List Keyword} {tk : TA} {g : List Value → List Value → List Value} {gV : List V → List V → List V}
/-- x(k = v, ..), x a def -/
theorem pe_callK0 (F : FnOk X.prog X.w X.K X.mg X.base CX k f fd ps sp) (hr : Room k X.A) (hg : Gl X x) (hm : X.mg x = some (.ref f)) (hk : PySem.W.keepIn X.K (.ref f) = true) (hb : KBn X.K fd ps 0 ks g gV) (hx : Passes CX X E)
    (hkw : PK X kws tk) (hall : (backToKw pos (keywordEach kws X.env)).all (·.1.isSome) = true := by rfl) (hks : (backToKw pos (keywordEach kws X.env)).filterMap (·.1) = ks := by rfl)
    (hdb : (x == ("__debug__" : Str)) = false := by decide)
    (hpl : ((backTo pos (starEach [] X.env)).any (·.1) || (backToKw pos (keywordEach kws X.env)).any (·.1.isNone)) = false := by rfl) :
    PE X (.Call (.Name x p) [] kws pos) (fun σ H Q => tk σ H fun zs H2 => zs.length = ks.length ∧ sp (gV [] zs) H2 Q E) := by
  refine ⟨fun pins s σ H Q I h => ?_⟩
  refine wpAny_Call_Name_kw (ld_glob I hg hm ?_ hdb)
  refine PySem.W.callWith_KW0 (h₀ := X.base) I.ok.mod.kin hk hall ?_ hpl
  refine thn (hkw.run pos pins s σ H _ I h) fun ws s2 ⟨zs, H2, I2, rz, l2, q2⟩ => ⟨I2.kIn, ?_⟩
  rw [hks]
  have r2 := hb.rel (us := []) (vs := []) .nil rz
  have hl : (g [] ws).length = ps.length := by
    rw [← r2.length]
    exact F.len _ _ _ _ q2
  refine wpAny_call (codeAny_mono (F.run X.A X.stack s2 H2 ⟨[], ks.zip ws⟩ (g [] ws) (gV [] zs) Q E hr I2.env0 (hb.to s2 [] ws I2.kIn rfl (rz.length.symm.trans l2)) r2 q2) fun r s' hq => ?_)
  cases r with
  | error e => exact hx pins σ H2 s2 e s' I2 hq
  | ok fl =>
    cases fl with
    | ret u => exact I2.after hq
    | next => exact False.elim hq
    | brk => exact False.elim hq
    | cont => exact False.elim hq
end
/-! ### keyword arguments as data -/
section
variable {X : Cx} {M : Pm} {E : XK} {e : Expr} {m : Gam → R Val} {md : Gam → R (List D)} {kws : List Keyword} {nm : Option Str} {p pos kpos : Pos} {x : Str} {k : Nat} {cls : Str → Addr} {a0 : Option Addr} {ks : List Str} {perm : List Nat} {g : List Slot → R Val}
theorem PK_weak {t t' : TA} (h : PK X kws t) (w : ∀ σ H Q, t' σ H Q → t σ H Q) : PK X kws t' := ⟨fun pos pins s σ H Q I q => h.run pos pins s σ H Q I (w σ H Q q)⟩
theorem k_nil : PK X [] (tFs M E nilD) := PK_weak pk_nil fun σ H Q q => by
  obtain ⟨Γ, F, own, st, p⟩ := q
  exact p [] F H own st (.refl _ _ _) .nil
theorem k_cons (ha : PE X e (tE M E m)) (hr : PK X kws (tFs M E md)) : PK X (⟨nm, e, kpos⟩ :: kws) (tFs M E (consD m md)) := PK_weak (pk_cons (pe_fz ha) hr) fun σ H Q q => by
  obtain ⟨Γ, F, own, st, p⟩ := q
  refine ⟨Γ, F, own, st, post_bind p fun F1 H1 own1 Γ1 x va _ st1 s1 r1 p1 => ⟨Γ1, F1, own1, st1, post_bind (p1.mono (fun _ _ _ _ _ _ _ _ _ r => r) s1) fun F2 H2 own2 Γ2 xs vs _ st2 s2 r2 p2 => ?_⟩⟩
  exact p2 _ F2 H2 own2 st2 s2 (.cons (Rep.mono s2.ff r1) r2)
def callKM (g : List Slot → R Val) (n : Nat) (perm : List Nat) (md : Gam → R (List D)) : Gam → R Val := fun Γ => (md Γ).bind fun ds Γ1 => if ds.length = n then callV g Γ1 ((permL perm ds).map Val.f) else .stuck
/-- what a caller by keywords takes of a def -/
def FnK (P : Program) (w : World) (K : PySem.W.Frag) (mg : Str → Option Value) (base : Heap) (cls : Str → Addr) (x : Str) (k : Nat) (g : List Slot → R Val) (ks : List Str) (perm : List Nat) : Prop :=
  ∃ f fd ps, FnOk P w K mg base (L2.CX P w) k f fd ps (spG ⟨K, cls, none⟩ g) ∧ mg x = some (.ref f) ∧ PySem.W.keepIn K (.ref f) = true ∧ KBn K fd ps 0 ks (fun us ws => us ++ permL perm ws) (fun vs zs => vs ++ permL perm zs)
theorem valsRd_fs {σ : L2.St} {F : Hp} : ∀ {xs : List V} {ds : List D}, RepAll M.cls F xs ds → ValsRd M σ F xs (ds.map Val.f)
  | _, _, .nil => .nil
  | _, _, .cons h r => .cons h (valsRd_fs r)
theorem e_callKC (C : FnK X.prog X.w X.K X.mg X.base cls x k g ks perm) (hr : Room k X.A) (hg : Gl X x) (hx : Passes (L2.CX X.prog X.w) X E) (ha : PK X kws (tFs ⟨X.K, cls, a0⟩ E md))
    (hall : (backToKw pos (keywordEach kws X.env)).all (·.1.isSome) = true := by rfl) (hks : (backToKw pos (keywordEach kws X.env)).filterMap (·.1) = ks := by rfl) (hdb : (x == ("__debug__" : Str)) = false := by decide)
    (hpl : ((backTo pos (starEach [] X.env)).any (·.1) || (backToKw pos (keywordEach kws X.env)).any (·.1.isNone)) = false := by rfl) : PE X (.Call (.Name x p) [] kws pos) (tE ⟨X.K, cls, a0⟩ E (callKM g ks.length perm md)) := by
  obtain ⟨f, fd, ps, F, hm, hk, hb⟩ := C
  refine PE_weak (pe_callK0 F hr hg hm hk hb hx ha hall hks hdb hpl) fun σ H Q ⟨Γ, Fh, own, st, q⟩ => ?_
  refine ⟨Γ, Fh, own, st, post_bind q fun F1 H1 own1 Γ1 zs ds _ st1 s1 r1 p1 => ?_⟩
  split at p1
  · rename_i hl
    refine ⟨by rw [← hl]; exact r1.length, ?_⟩
    exact callV_ok (M := ⟨X.K, cls, a0⟩) st1 s1 (valsRd_fs (rep_perm r1 perm)) p1
  · exact p1.elim
end
end DL
end

section
set_option Elab.async false
set_option linter.all false
set_option maxRecDepth 100000
set_option autoImplicit false
set_option maxHeartbeats 1000000
/-! DL22: list(zip(t, u)) of two tuples, list(d.values()). -/
namespace DL
open PySem PySem.Spec PyProof.Rows L2
open PySem.W (kdx_alive KdxG)
section
variable {prog : Program} {w : World} {A : Around} {E : Value → Shared → Prop} {s : Shared}
theorem zt_next_item_held {z TI TO T i1 i2 l1 l2 : Addr} {f : Bool} {oT : Obj} {k1 k2 : Nat} {xs ys : Array Value} {x y : Value} {Q : Value → Shared → Prop} (D : ZipApart z TI TO i1 i2 l1 l2)
    (hz : IsZipHeld s.heap z TI TO T f) (hT : s.heap.get? T = some oT) (hTI : IsPair s.heap TI (.ref i1) (.ref i2))
    (h1 : s.heap.IsTupleIter i1 l1 k1) (h2 : s.heap.IsTupleIter i2 l2 k2) (hl1 : s.heap.IsTuple l1 xs) (hl2 : s.heap.IsTuple l2 ys) (hx : xs[k1]? = some x) (hy : ys[k2]? = some y)
    (hQ : ∀ h', IsZipHeld h' z TI TO T true → h'.IsTupleIter i1 l1 (k1 + 1) → h'.IsTupleIter i2 l2 (k2 + 1) → IsPair h' s.heap.objs.size x y → h'.objs.size = s.heap.objs.size + 1 →
      (∀ c o, c ≠ z → c ≠ i1 → c ≠ i2 → s.heap.get? c = some o → h'.get? c = some o) → Q (.ref s.heap.objs.size) { s with heap := h' }) :
    wpAny (model prog w) A (Builtin.«zip.__next__» ⟨[.ref z], []⟩) (fun fin s' => ∃ v, fin = .done (.ret v) ∧ Q v s') E s := by
  show wpAny _ _ (field (.ref z) 2 >>= _) _ _ _
  refine wpAny_bind (wpAny_field hz rfl (x := .bool false) rfl ?_)
  show wpAny _ _ (field (.ref z) 3 >>= _) _ _ _
  refine wpAny_bind (wpAny_field hz rfl (x := .ref TI) rfl ?_)
  refine wpAny_bind (wpAny_seqItems hTI rfl ?_)
  show wpAny _ _ (Builtin.SmallTypes.ownedTupleIsFree (.ref z) >>= _) _ _ _
  refine wpAny_bind (wpAny_tupleHeld_zip hz hT fun h₁ hz₁ hs₁ => ?_)
  simp only [Bool.false_eq_true, if_false]
  refine wpAny_bind ?_
  rw [← Array.forIn_toList]
  simp only [List.forIn_cons, List.forIn_nil]
  refine wpAny_bind (wpAny_bind (wpAny_holding ?_))
  show wpAny _ _ (Builtin.SmallTypes.nextOf (.ref i1) >>= _) _ _ _
  refine wpAny_bind (RZ.nextOf_tuple_item (s := { s with heap := h₁ }) (h1.extBut hs₁.extBut D.i1z) (hl1.extBut hs₁.extBut D.l1z) hx fun h₂ h1₂ hs₂ => wpAny_pure ?_)
  refine wpAny_pure ?_
  refine wpAny_bind (wpAny_bind (wpAny_holding ?_))
  show wpAny _ _ (Builtin.SmallTypes.nextOf (.ref i2) >>= _) _ _ _
  refine wpAny_bind (RZ.nextOf_tuple_item (s := { s with heap := h₂ }) ((h2.extBut hs₁.extBut D.i2z).extBut hs₂.extBut D.i12.symm) ((hl2.extBut hs₁.extBut D.l2z).extBut hs₂.extBut D.l2i1) hy fun h₃ h2₃ hs₃ => wpAny_pure ?_)
  refine wpAny_pure (wpAny_pure ?_)
  show wpAny _ _ (newTuple [x, y] >>= _) _ _ _
  refine wpAny_bind (wpAny_newTuple ?_)
  have hsz : h₃.objs.size = s.heap.objs.size := by rw [hs₃.1, hs₂.1, hs₁.1]
  have hz₃ : IsZipHeld h₃ z TI TO T true := hs₃.extBut _ _ D.i2z.symm (hs₂.extBut _ _ D.i1z.symm hz₁)
  have hk : ∀ c o, c ≠ z → c ≠ i1 → c ≠ i2 → s.heap.get? c = some o → h₃.get? c = some o := fun c o c1 c2 c3 e => hs₃.extBut _ _ c3 (hs₂.extBut _ _ c2 (hs₁.extBut _ _ c1 e))
  have h1₃ : h₃.IsTupleIter i1 l1 (k1 + 1) := h1₂.extBut hs₃.extBut D.i12
  refine wpAny_pure ⟨_, rfl, ?_⟩
  show Q (.ref h₃.objs.size) _
  have hp : IsPair (h₃.push { cls := .type "tuple", data := .seq #[x, y] }) h₃.objs.size x y := Heap.get?_push_size _ rfl
  have hz4 : (h₃.push { cls := .type "tuple", data := .seq #[x, y] }).objs.size = h₃.objs.size + 1 := Heap.size_push ..
  rw [hsz] at hp hz4 ⊢
  exact hQ _ (Heap.get?_push_of_some _ hz₃) (h1₃.at fun o e => Heap.get?_push_of_some _ e) (h2₃.at fun o e => Heap.get?_push_of_some _ e) hp hz4 fun c o c1 c2 c3 e => Heap.get?_push_of_some _ (hk c o c1 c2 c3 e)

theorem zt_next_end_held {z TI TO T i1 i2 l1 l2 : Addr} {f : Bool} {oT : Obj} {k1 k2 : Nat} {xs ys : Array Value} {Q : PySem.Fin → Shared → Prop} (hh : A.handled = none) (D : ZipApart z TI TO i1 i2 l1 l2)
    (hz : IsZipHeld s.heap z TI TO T f) (hT : s.heap.get? T = some oT) (hTI : IsPair s.heap TI (.ref i1) (.ref i2))
    (h1 : s.heap.IsTupleIter i1 l1 k1) (h2 : s.heap.IsTupleIter i2 l2 k2) (hl1 : s.heap.IsTuple l1 xs) (hl2 : s.heap.IsTuple l2 ys) (hend : xs[k1]? = none ∨ ys[k2]? = none)
    (hE : ∀ h' e, (∀ c o, c ≠ z → c ≠ i1 → c ≠ i2 → s.heap.get? c = some o → h'.get? c = some o) → (∃ o, h'.get? e = some o ∧ o.cls = .type "StopIteration") → E (.ref e) { s with heap := h' }) :
    wpAny (model prog w) A (Builtin.«zip.__next__» ⟨[.ref z], []⟩) Q E s := by
  show wpAny _ _ (field (.ref z) 2 >>= _) _ _ _
  refine wpAny_bind (wpAny_field hz rfl (x := .bool false) rfl ?_)
  show wpAny _ _ (field (.ref z) 3 >>= _) _ _ _
  refine wpAny_bind (wpAny_field hz rfl (x := .ref TI) rfl ?_)
  refine wpAny_bind (wpAny_seqItems hTI rfl ?_)
  show wpAny _ _ (Builtin.SmallTypes.ownedTupleIsFree (.ref z) >>= _) _ _ _
  refine wpAny_bind (wpAny_tupleHeld_zip hz hT fun h₁ hz₁ hs₁ => ?_)
  simp only [Bool.false_eq_true, if_false]
  refine wpAny_bind ?_
  rw [← Array.forIn_toList]
  simp only [List.forIn_cons, List.forIn_nil]
  refine wpAny_bind (wpAny_bind (wpAny_holding ?_))
  show wpAny _ _ (Builtin.SmallTypes.nextOf (.ref i1) >>= _) _ _ _
  cases hx : xs[k1]? with
  | none =>
    refine wpAny_bind (RZ.nextOf_tuple_end (s := { s with heap := h₁ }) hh (h1.extBut hs₁.extBut D.i1z) (hl1.extBut hs₁.extBut D.l1z) hx fun h₂ e hs₂ he => ?_)
    exact hE h₂ e (fun c o c1 c2 _ x => hs₂ _ _ c2 (hs₁.extBut _ _ c1 x)) he
  | some x =>
    have hy : ys[k2]? = none := by rcases hend with h | h; rw [hx] at h; cases h; exact h
    refine wpAny_bind (RZ.nextOf_tuple_item (s := { s with heap := h₁ }) (h1.extBut hs₁.extBut D.i1z) (hl1.extBut hs₁.extBut D.l1z) hx fun h₂ h1₂ hs₂ => wpAny_pure ?_)
    refine wpAny_pure ?_
    refine wpAny_bind (wpAny_bind (wpAny_holding ?_))
    show wpAny _ _ (Builtin.SmallTypes.nextOf (.ref i2) >>= _) _ _ _
    refine wpAny_bind (RZ.nextOf_tuple_end (s := { s with heap := h₂ }) hh ((h2.extBut hs₁.extBut D.i2z).extBut hs₂.extBut D.i12.symm) ((hl2.extBut hs₁.extBut D.l2z).extBut hs₂.extBut D.l2i1) hy fun h₃ e hs₃ he => ?_)
    exact hE h₃ e (fun c o c1 c2 c3 x => hs₃ _ _ c3 (hs₂.extBut _ _ c2 (hs₁.extBut _ _ c1 x))) he

/-- a zip of two tuples, k pairs drawn, its own tuple free or held (not the list at S) -/
def ZtSt (h : Heap) (z TI TO i1 i2 l1 l2 S : Addr) (k : Nat) : Prop :=
  IsPair h TI (.ref i1) (.ref i2) ∧ h.IsTupleIter i1 l1 k ∧ h.IsTupleIter i2 l2 k ∧
  ((IsZip h z TI TO .none ∧ ∃ a b, IsPair h TO a b) ∨ ∃ T f oT, IsZipHeld h z TI TO T f ∧ h.get? T = some oT ∧ T ≠ z ∧ T ≠ i1 ∧ T ≠ i2 ∧ T ≠ S)
theorem ZtSt.keep {h h' : Heap} {z TI TO i1 i2 l1 l2 S : Addr} {k : Nat} (x : ZtSt h z TI TO i1 i2 l1 l2 S k) (hk : ∀ b o, b ≠ S → h.get? b = some o → h'.get? b = some o) (n1 : z ≠ S) (n2 : TI ≠ S) (n3 : TO ≠ S) (n4 : i1 ≠ S) (n5 : i2 ≠ S) : ZtSt h' z TI TO i1 i2 l1 l2 S k := by
  obtain ⟨q1, q2, q3, q⟩ := x
  refine ⟨hk _ _ n2 q1, q2.at fun o e => hk _ o n4 e, q3.at fun o e => hk _ o n5 e, ?_⟩
  rcases q with ⟨q4, a, b, q5⟩ | ⟨T, f, oT, q4, q5, q6, q7, q8, q9⟩
  · exact .inl ⟨hk _ _ n1 q4, a, b, hk _ _ n3 q5⟩
  · exact .inr ⟨T, f, oT, hk _ _ n1 q4, hk _ _ q9 q5, q6, q7, q8, q9⟩
theorem zt_item {z TI TO i1 i2 l1 l2 S : Addr} {k : Nat} {xs ys : Array Value} {x y : Value} {Q : Option Value → Shared → Prop} (D : ZipApart z TI TO i1 i2 l1 l2) (st : ZtSt s.heap z TI TO i1 i2 l1 l2 S k) (hS : S < s.heap.objs.size)
    (hl1 : s.heap.IsTuple l1 xs) (hl2 : s.heap.IsTuple l2 ys) (hx : xs[k]? = some x) (hy : ys[k]? = some y)
    (hQ : ∀ h', ZtSt h' z TI TO i1 i2 l1 l2 S (k + 1) → IsPair h' s.heap.objs.size x y → h'.objs.size = s.heap.objs.size + 1 → (∀ c o, c ≠ z → c ≠ TO → c ≠ i1 → c ≠ i2 → s.heap.get? c = some o → h'.get? c = some o) → Q (some (.ref s.heap.objs.size)) { s with heap := h' }) :
    wpAny (model prog w) A (pyNext (.ref z)) Q E s := by
  obtain ⟨q1, q2, q3, q⟩ := st
  rcases q with ⟨q4, a, b, q5⟩ | ⟨T, f, oT, q4, q5, q6, q7, q8, q9⟩
  · refine RZ.pyNext_zipT_item D q4 q1 q5 q2 q3 hl1 hl2 hx hy fun h' z' TO' h1' h2' hT hsz hk => ?_
    obtain ⟨_, e1, _⟩ := id q2
    obtain ⟨_, e2, _⟩ := id q3
    exact hQ h' ⟨hk _ _ D.TIz D.TITO D.TIi1 D.TIi2 q1, h1', h2', .inr ⟨_, false, _, z', hT, Nat.ne_of_gt (Heap.lt_size q4), Nat.ne_of_gt (Heap.lt_size e1), Nat.ne_of_gt (Heap.lt_size e2), Nat.ne_of_gt hS⟩⟩ hT hsz hk
  · have hTy : s.TypeIs (.ref z) "zip" := ⟨_, q4, rfl⟩
    unfold pyNext
    refine wpAny_bind (wpAny_attempt (wpAny_callSpecial?_slot (name := Str.ofString "__next__") hTy F.slot_zip_next
      (wpAny_call_entry F.slot_zip_next hTy F.entry_zip_next
        (zt_next_item_held D q4 q5 q1 q2 q3 hl1 hl2 hx hy fun h' a1 a3 a4 a5 a6 a7 => wpAny_pure (hQ h' ⟨a7 _ _ D.TIz D.TIi1 D.TIi2 q1, a3, a4, .inr ⟨T, true, oT, a1, a7 _ _ q6 q7 q8 q5, q6, q7, q8, q9⟩⟩ a5 a6 fun c o c1 _ c3 c4 e => a7 c o c1 c3 c4 e)) (F.args_zip_next_1 _))))
theorem zt_end {z TI TO i1 i2 l1 l2 S : Addr} {k : Nat} {xs ys : Array Value} {Q : Option Value → Shared → Prop} (hh : A.handled = none) (D : ZipApart z TI TO i1 i2 l1 l2) (st : ZtSt s.heap z TI TO i1 i2 l1 l2 S k)
    (hl1 : s.heap.IsTuple l1 xs) (hl2 : s.heap.IsTuple l2 ys) (hend : xs[k]? = none ∨ ys[k]? = none)
    (hQ : ∀ h', (∀ c o, c ≠ z → c ≠ TO → c ≠ i1 → c ≠ i2 → s.heap.get? c = some o → h'.get? c = some o) → Q none { s with heap := h' }) : wpAny (model prog w) A (pyNext (.ref z)) Q E s := by
  obtain ⟨q1, q2, q3, q⟩ := st
  rcases q with ⟨q4, a, b, q5⟩ | ⟨T, f, oT, q4, q5, q6, q7, q8, q9⟩
  · exact RZ.pyNext_zipT_end hh D q4 q1 q5 q2 q3 hl1 hl2 hend hQ
  · have hTy : s.TypeIs (.ref z) "zip" := ⟨_, q4, rfl⟩
    unfold pyNext
    refine wpAny_bind (wpAny_attempt (wpAny_callSpecial?_slot (name := Str.ofString "__next__") hTy F.slot_zip_next
      (wpAny_call_entry F.slot_zip_next hTy F.entry_zip_next (zt_next_end_held hh D q4 q5 q1 q2 q3 hl1 hl2 hend fun h' e hk he => ?_) (F.args_zip_next_1 _))))
    obtain ⟨o, ho, hc⟩ := he
    refine wpAny_bind (wpAny_isInstance (T := "StopIteration") (b := true) ⟨o, ho, hc⟩ isSubtype_stop ?_)
    exact wpAny_pure (hQ _ fun c o c1 _ c3 c4 e => hk c o c1 c3 c4 e)
end
/-- the pairs made so far stand -/
structure ZtG (xs ys : List Value) (lo : Addr) (h : Heap) (as : List Addr) : Prop where
  rise : as.Pairwise (· < ·)
  above : ∀ a ∈ as, lo < a
  pairs : ∀ (j : Nat) (a : Addr), as[j]? = some a → ∃ x y, xs[j]? = some x ∧ ys[j]? = some y ∧ IsPair h a x y
theorem ZtG.there {xs ys : List Value} {lo : Addr} {h : Heap} {as : List Addr} (g : ZtG xs ys lo h as) {a : Addr} (ha : a ∈ as) : a < h.objs.size := by
  obtain ⟨j, hj⟩ := List.mem_iff_getElem?.mp ha
  obtain ⟨_, _, _, _, e⟩ := g.pairs j a hj
  exact Heap.lt_size e
section
variable {prog : Program} {w : World} {A : Around} {s : Shared} {R : Result → Shared → Prop} {xs ys : List Value}
theorem zt_loop {S z TI TO i1 i2 l1 l2 : Addr} (hh : A.handled = none) (D : ZipApart z TI TO i1 i2 l1 l2) (hz : z < S) (h1z : i1 < S) (h2z : i2 < S) (hTOz : TO < S) (hTIz : TI < S) (m1 : l1 < S) (m2 : l2 < S) (n : Nat) (hn : n = min xs.length ys.length) (hns : n ≤ sizeLine) (res : Value) {h₁ : Heap}
    (hR : ∀ h' tk acc c as, (∀ b o, b ≠ S → b ≠ z → b ≠ TO → b ≠ i1 → b ≠ i2 → h₁.get? b = some o → h'.get? b = some o) → h'.get? S = some { cls := .type "list", dict := none, data := .seq acc c, slots := #[] } → as.length = n → ZtG xs ys S h' as →
      acc.toList = as.map Value.ref → R (.ok (.ret res)) { s with heap := h', toks := tk }) :
    ∀ (k i : Nat) (h : Heap) (tk c : Nat) (acc : Array Value) (as : List Addr), n - i = k → i ≤ n → ZtSt h z TI TO i1 i2 l1 l2 S i → h.IsTuple l1 xs.toArray → h.IsTuple l2 ys.toArray → (∀ b o, b ≠ S → b ≠ z → b ≠ TO → b ≠ i1 → b ≠ i2 → h₁.get? b = some o → h.get? b = some o) →
      h.get? S = some { cls := .type "list", dict := none, data := .seq acc c, slots := #[] } → acc.toList = as.map Value.ref → as.length = i → ZtG xs ys S h as →
      codeAny (model prog w) A (.builtin "list.extend.loop" ⟨[.ref S, .ref z, res], []⟩) R { s with heap := h, toks := tk } := by
  have nTI := Nat.ne_of_lt hTIz
  have nTO := Nat.ne_of_lt hTOz
  have n1 := Nat.ne_of_lt h1z
  have n2 := Nat.ne_of_lt h2z
  have nz := Nat.ne_of_lt hz
  intro k
  induction k with
  | zero =>
    intro i h tk c acc as hk hi hst hL1 hL2 hkeep hS hacc hal hG
    have hin : i = n := by omega
    refine codeAny_builtin PySem.F.entry_extend_loop ?_
    rw [Around.under_plainId PySem.F.plain_extend_loop _]
    show wpAny _ A.in1 (pyNext (.ref z) >>= _) _ _ _
    have hend : xs.toArray[i]? = none ∨ ys.toArray[i]? = none := by
      rcases Nat.le_total xs.length ys.length with q | q
      · exact .inl (by simp; omega)
      · exact .inr (by simp; omega)
    refine wpAny_bind (zt_end (s := { s with heap := h, toks := tk }) (A := A.in1) hh D hst hL1 hL2 hend fun h' he => ?_)
    refine wpAny_pure (hR h' tk acc c as (fun b o b1 b2 b3 b4 b5 e => he b o b2 b3 b4 b5 (hkeep b o b1 b2 b3 b4 b5 e)) (he S _ nz.symm nTO.symm n1.symm n2.symm hS) (by omega) ⟨hG.rise, hG.above, fun j a hj => ?_⟩ hacc)
    obtain ⟨x, y, e1, e2, e3⟩ := hG.pairs j a hj
    have ha := hG.above a (List.mem_of_getElem? hj)
    exact ⟨x, y, e1, e2, he a _ (Nat.ne_of_gt (Nat.lt_trans hz ha)) (Nat.ne_of_gt (Nat.lt_trans hTOz ha)) (Nat.ne_of_gt (Nat.lt_trans h1z ha)) (Nat.ne_of_gt (Nat.lt_trans h2z ha)) e3⟩
  | succ k ih =>
    intro i h tk c acc as hk hi hst hL1 hL2 hkeep hS hacc hal hG
    have hlt : i < n := by omega
    have hl1 : i < xs.length := by omega
    have hl2 : i < ys.length := by omega
    have hx : xs[i]? = some xs[i] := List.getElem?_eq_getElem hl1
    have hy : ys[i]? = some ys[i] := List.getElem?_eq_getElem hl2
    have hsz : acc.size = i := by rw [← Array.length_toList, hacc, List.length_map, hal]
    refine codeAny_builtin PySem.F.entry_extend_loop ?_
    rw [Around.under_plainId PySem.F.plain_extend_loop _]
    show wpAny _ A.in1 (pyNext (.ref z) >>= _) _ _ _
    refine wpAny_bind (zt_item (s := { s with heap := h, toks := tk }) D hst (Heap.lt_size hS) hL1 hL2 (x := xs[i]) (y := ys[i]) (by simpa using hx) (by simpa using hy) fun h' hst' ht hz' hkp => ?_)
    dsimp only at ht hz' hkp ⊢
    have hS' := hkp S _ nz.symm nTO.symm n1.symm n2.symm hS
    have up : ∀ b o, b ≠ S → h'.get? b = some o → (h'.update S (Obj.mapSeq (·.push (Value.ref h.objs.size)))).get? b = some o := fun b o hb e => (Heap.get?_update_other _ _ (Ne.symm hb)).trans e
    have hSl : S < h.objs.size := Heap.lt_size hS
    show wpAny _ A.in1 (updateSeq S (·.push (Value.ref h.objs.size)) >>= _) _ _ _
    refine wpAny_bind ?_
    have tup : ∀ {l : Addr} {vs : Array Value}, l ≠ S → l ≠ z → l ≠ TO → l ≠ i1 → l ≠ i2 → h.IsTuple l vs → (h'.update S (Obj.mapSeq (·.push (Value.ref h.objs.size)))).IsTuple l vs := fun {l vs} c1 c2 c3 c4 c5 q => by
      obtain ⟨o, q1, q2⟩ := q
      exact ⟨o, up _ _ c1 (hkp _ _ c2 c3 c4 c5 q1), q2⟩
    refine wpAny_updateSeq hS' rfl (wpAny_pure ⟨plainId_quiet PySem.F.plain_extend_loop _, ih (i + 1) _ tk _ (acc.push (Value.ref h.objs.size)) (as ++ [h.objs.size]) (by omega) hlt (hst'.keep up nz nTI nTO n1 n2) (tup (Nat.ne_of_lt m1) D.l1z D.l1TO D.l1i1 D.l1i2 hL1) (tup (Nat.ne_of_lt m2) D.l2z D.l2TO D.l2i1 D.l2i2 hL2)
      (fun b o b1 b2 b3 b4 b5 e => up b o b1 (hkp b o b2 b3 b4 b5 (hkeep b o b1 b2 b3 b4 b5 e))) (Heap.get?_update_self _ hS' rfl) (by rw [Array.toList_push, hacc, List.map_append]; rfl) (by rw [List.length_append, hal]; rfl) ⟨?_, ?_, ?_⟩⟩) (by rw [hsz]; omega) (by show (acc.push (Value.ref h.objs.size)).size ≤ sizeLine + 1; rw [Array.size_push, hsz]; omega)
    · refine List.pairwise_append.mpr ⟨hG.rise, List.pairwise_singleton _ _, fun a ha b hb => ?_⟩
      rw [List.mem_singleton.mp hb]
      exact hG.there ha
    · intro a ha
      rcases List.mem_append.mp ha with ha | ha
      · exact hG.above a ha
      · rw [List.mem_singleton.mp ha]; exact hSl
    · intro j b hj
      rcases Nat.lt_trichotomy j as.length with h1 | h1 | h1
      · rw [List.getElem?_append_left h1] at hj
        obtain ⟨x', y', e1, e2, e3⟩ := hG.pairs j b hj
        have hb := hG.above b (List.mem_of_getElem? hj)
        exact ⟨x', y', e1, e2, up b _ (Nat.ne_of_gt hb) (hkp b _ (Nat.ne_of_gt (Nat.lt_trans hz hb)) (Nat.ne_of_gt (Nat.lt_trans hTOz hb)) (Nat.ne_of_gt (Nat.lt_trans h1z hb)) (Nat.ne_of_gt (Nat.lt_trans h2z hb)) e3)⟩
      · subst h1
        have hb : h.objs.size = b := by simpa using hj
        subst hb
        exact ⟨_, _, by rw [hal]; exact hx, by rw [hal]; exact hy, up _ _ (Nat.ne_of_gt hSl) ht⟩
      · have hnone : (as ++ [h.objs.size])[j]? = none := List.getElem?_eq_none (by rw [List.length_append, List.length_singleton]; omega)
        rw [hnone] at hj; cases hj
end
theorem zip_no_len : typeLookup (.type "zip") "__len__" = pure none := am_miss_of_fast (by decide +kernel)
theorem zip_no_hint : typeLookup (.type "zip") "__length_hint__" = pure none := am_miss_of_fast (by decide +kernel)
section
variable {prog : Program} {w : World} {A : Around} {E : Value → Shared → Prop} {s : Shared} {z : Addr} {xs ys : List Value}
theorem zt_hint (hT : s.TypeIs (.ref z) "zip") {Q : Bool → Shared → Prop} (h : Q true s) : wpAny (model prog w) A (Builtin.List.listLengthHint (.ref z)) Q E s := by
  unfold Builtin.List.listLengthHint
  refine wpAny_bind (wpAny_specialOf hT zip_no_len ?_)
  refine wpAny_ite_split (fun hab => absurd hab (by decide)) (fun _ => ?_)
  refine wpAny_ite_split (fun hab => absurd hab (by decide)) (fun _ => ?_)
  refine wpAny_bind (wpAny_specialOf hT zip_no_hint ?_)
  exact wpAny_pure h

theorem zt_init {R : Result → Shared → Prop} {TI TO i1 i2 l1 l2 : Addr} (hh : A.handled = none) (D : ZipApart z TI TO i1 i2 l1 l2) (hzip : IsZip s.heap z TI TO .none) (hTI : IsPair s.heap TI (.ref i1) (.ref i2)) (hTO : ∃ a b, IsPair s.heap TO a b) (h1 : s.heap.IsTupleIter i1 l1 0) (h2 : s.heap.IsTupleIter i2 l2 0)
    (hl1 : s.heap.IsTuple l1 xs.toArray) (hl2 : s.heap.IsTuple l2 ys.toArray) (S : Addr) (hzS : z < S) (g1 : i1 < S) (g2 : i2 < S) (g3 : TO < S) (g4 : TI < S) (g5 : l1 < S) (g6 : l2 < S) (hS : s.heap.get? S = some { cls := .type "list", data := .seq #[] }) (hns : min xs.length ys.length ≤ sizeLine)
    (hR : ∀ h' tk acc c as, (∀ b o, b ≠ S → b ≠ z → b ≠ TO → b ≠ i1 → b ≠ i2 → s.heap.get? b = some o → h'.get? b = some o) → h'.get? S = some { cls := .type "list", dict := none, data := .seq acc c, slots := #[] } → as.length = min xs.length ys.length → ZtG xs ys S h' as →
      acc.toList = as.map Value.ref → R (.ok (.ret .none)) { s with heap := h', toks := tk }) :
    wpAny (model prog w) A.in1 (Builtin.«list.__init__» ⟨[.ref S, .ref z], []⟩)
      (fun fin s' => match fin with | .done f => R (.ok f) s' | .again c' => c'.quiet = true ∧ codeAny (model prog w) A c' R s') (fun e s' => R (.error e) s') s := by
  show wpAny _ _ (do let old ← Builtin.List.listItems (.ref S); Builtin.List.listUpdate (.ref S) (fun _ => #[]); letGo old.toList.reverse; Builtin.List.listExtendWith (.ref S) (.ref z) .none) _ _ s
  refine wpAny_bind ?_
  unfold Builtin.List.listItems
  refine wpAny_bind (wpAny_seqItems hS rfl (wpAny_pure ?_))
  show wpAny _ _ (updateSeq S (fun _ => #[]) >>= fun _ => letGo (#[] : Array Value).toList.reverse >>= fun _ => Builtin.List.listExtendWith (.ref S) (.ref z) .none) _ _ s
  refine wpAny_bind (wpAny_updateSeq hS rfl ?_)
  have hS₂ := Heap.get?_update_self (Obj.mapSeq (fun _ => (#[] : Array Value))) hS rfl
  have oth : ∀ b o, b ≠ S → s.heap.get? b = some o → (s.heap.update S (Obj.mapSeq (fun _ => (#[] : Array Value)))).get? b = some o :=
    fun b o hb e => (Heap.get?_update_other _ _ (Ne.symm hb)).trans e
  refine wpAny_bind (wpAny_letGo ?_)
  have hz2 : IsZip (s.heap.update S (Obj.mapSeq (fun _ => (#[] : Array Value)))) z TI TO .none := oth _ _ (Nat.ne_of_lt hzS) hzip
  have key : ∀ (h : Heap) (c₁ tk : Nat), (∀ b o, b ≠ S → s.heap.get? b = some o → h.get? b = some o) → h.get? S = some { cls := .type "list", data := .seq #[] c₁ } →
      codeAny (model prog w) A (.builtin "list.extend.loop" ⟨[.ref S, .ref z, .none], []⟩) R { s with heap := h, toks := tk } := by
    intro h c₁ tk hk hS₁
    obtain ⟨a, b, hTO⟩ := hTO
    obtain ⟨o1, e1, e1'⟩ := hl1
    obtain ⟨o2, e2, e2'⟩ := hl2
    refine zt_loop hh D hzS g1 g2 g3 g4 g5 g6 _ rfl hns .none (h₁ := s.heap) (fun h' tk' acc c as hk' hS' hl hG hacc => hR h' tk' acc c as hk' hS' hl hG hacc)
      _ 0 h tk c₁ #[] [] (Nat.sub_zero _) (Nat.zero_le _) ⟨hk _ _ (Nat.ne_of_lt g4) hTI, h1.at fun o e => hk _ o (Nat.ne_of_lt g1) e, h2.at fun o e => hk _ o (Nat.ne_of_lt g2) e, .inl ⟨hk _ _ (Nat.ne_of_lt hzS) hzip, a, b, hk _ _ (Nat.ne_of_lt g3) hTO⟩⟩ ⟨o1, hk _ _ (Nat.ne_of_lt g5) e1, e1'⟩ ⟨o2, hk _ _ (Nat.ne_of_lt g6) e2, e2'⟩ (fun b o hb _ _ _ _ e => hk b o hb e) hS₁ rfl rfl
      ⟨List.Pairwise.nil, (fun _ ha => nomatch ha), (fun j a hj => by simp at hj)⟩
  unfold Builtin.List.listExtendWith
  have hT2 : Shared.TypeIs { s with heap := s.heap.update S (Obj.mapSeq (fun _ => (#[] : Array Value))) } (.ref z) "zip" := ⟨_, hz2, rfl⟩
  refine wpAny_bind (wpAny_typeOf (T := "zip") hT2 ?_)
  have e1 : Builtin.List.listSameRef (.ref S) (.ref z) = false := by simp [Builtin.List.listSameRef, Nat.ne_of_gt hzS]
  have e2 : (Value.type "zip" == Value.type "list") = false := by decide
  have e3 : (Value.type "zip" == Value.type "tuple") = false := by decide
  simp only [e1, e2, e3, Bool.or_false, Bool.false_eq_true, if_false]
  refine wpAny_bind (wpAny_pyIter_zip hz2 ?_)
  refine wpAny_bind (wpAny_holding (zt_hint hT2 ?_))
  refine wpAny_ite_split (fun _ => ?_) (fun _ => wpAny_pure ⟨plainId_quiet PySem.F.plain_extend_loop _, key _ _ _ (fun b o hb e => oth b o hb e) hS₂⟩)
  refine wpAny_bind (wpAny_rule ?_)
  refine wpAny_bind ?_
  show wpAny _ _ (updateSeq S (·.push .none) >>= fun _ => updateSeq S (·.pop)) _ _ _
  refine wpAny_bind (wpAny_updateSeq hS₂ rfl ?_)
  have hS₃ := Heap.get?_update_self (Obj.mapSeq (·.push Value.none)) hS₂ rfl
  refine wpAny_updateSeq (hz := by seq_fits) hS₃ rfl ?_
  have hS₄ := Heap.get?_update_self (Obj.mapSeq (·.pop)) hS₃ rfl
  refine wpAny_pure ⟨plainId_quiet PySem.F.plain_extend_loop _, key _ _ _ (fun b o hb e => ?_) hS₄⟩
  exact (Heap.get?_update_other _ _ (Ne.symm hb)).trans ((Heap.get?_update_other _ _ (Ne.symm hb)).trans (oth b o hb e))
theorem zt_call {Q : Value → Shared → Prop} {TI TO i1 i2 l1 l2 : Addr} (hh : A.handled = none) (D : ZipApart z TI TO i1 i2 l1 l2) (hzip : IsZip s.heap z TI TO .none) (hTI : IsPair s.heap TI (.ref i1) (.ref i2)) (hTO : ∃ a b, IsPair s.heap TO a b) (h1 : s.heap.IsTupleIter i1 l1 0) (h2 : s.heap.IsTupleIter i2 l2 0)
    (hl1 : s.heap.IsTuple l1 xs.toArray) (hl2 : s.heap.IsTuple l2 ys.toArray) (hns : min xs.length ys.length ≤ sizeLine)
    (hQ : ∀ h' tk acc c as, (∀ b o, b ≠ z → b ≠ TO → b ≠ i1 → b ≠ i2 → s.heap.get? b = some o → h'.get? b = some o) → h'.get? s.heap.objs.size = some { cls := .type "list", dict := none, data := .seq acc c, slots := #[] } → as.length = min xs.length ys.length → ZtG xs ys s.heap.objs.size h' as →
      acc.toList = as.map Value.ref → Q (.ref s.heap.objs.size) { s with heap := h', toks := tk }) :
    wpAny (model prog w) A (call (.type "list") [.ref z]) Q E s := by
  refine callType_codes (Q₁ := fun obj s₁ => obj = .ref s.heap.objs.size ∧ s₁ = { s with heap := s.heap.push { cls := .type "list", data := .seq #[] } }) PySem.F.called_list (PySem.F.typeCall_list_1 _) PySem.F.entry_list_init
    (code_list_new _ ⟨rfl, rfl⟩) fun obj s₁ h₁ => ?_
  obtain ⟨rfl, rfl⟩ := h₁
  have hS : (s.heap.push { cls := .type "list", data := .seq #[] }).get? s.heap.objs.size = some { cls := .type "list", data := .seq #[] } := Heap.get?_push_size _ rfl
  obtain ⟨a, b, hTO⟩ := hTO
  obtain ⟨_, q1, _⟩ := id h1
  obtain ⟨_, q2, _⟩ := id h2
  obtain ⟨_, q3, _⟩ := id hl1
  obtain ⟨_, q4, _⟩ := id hl2
  refine ⟨⟨_, hS, rfl⟩, PySem.F.args_list_init_2 _ _, zt_init (xs := xs) (ys := ys) (A := A.in1) hh D (Heap.get?_push_of_some _ hzip) (Heap.get?_push_of_some _ hTI) ⟨a, b, Heap.get?_push_of_some _ hTO⟩ (h1.at fun o e => Heap.get?_push_of_some _ e) (h2.at fun o e => Heap.get?_push_of_some _ e) (Heap.IsTuple.push hl1 _) (Heap.IsTuple.push hl2 _) _ (Heap.lt_size hzip) (Heap.lt_size q1) (Heap.lt_size q2) (Heap.lt_size hTO) (Heap.lt_size hTI) (Heap.lt_size q3) (Heap.lt_size q4) hS hns (fun h' tk acc c as hk hS' hl hG hacc => ?_)⟩
  exact ⟨rfl, hQ h' tk acc c as (fun b o c1 c2 c3 c4 e => hk b o (Nat.ne_of_lt (Heap.lt_size e)) c1 c2 c3 c4 (Heap.get?_push_of_some _ e)) hS' hl hG hacc⟩
end
end DL
end

section
set_option Elab.async false
set_option linter.all false
set_option maxRecDepth 100000
set_option autoImplicit false
set_option maxHeartbeats 1000000
/-! DL23: list(zip(t, u)), list(d.values()) as rules. -/
namespace DL
open PySem PySem.Spec PyProof.Rows L2
def putP : Hp → List Addr → List (V × V) → Hp
  | H, a :: as, p :: ps => putP (upd H a (.tup [p.1, p.2])) as ps
  | H, _, _ => H
theorem putP_off {b : Addr} : ∀ (as : List Addr) (ps : List (V × V)) (H : Hp), b ∉ as → putP H as ps b = H b
  | [], _, _, _ => rfl
  | _ :: _, [], _, _ => rfl
  | a :: as, p :: ps, H, h => by
    show putP (upd H a (.tup [p.1, p.2])) as ps b = H b
    rw [putP_off as ps _ (fun z => h (List.mem_cons_of_mem _ z)), upd_ne (fun z => h (by rw [z]; exact List.mem_cons_self))]
theorem putP_at : ∀ (as : List Addr) (ps : List (V × V)) (H : Hp), as.length = ps.length → as.Nodup → ∀ (j : Nat) (a : Addr), as[j]? = some a → ∃ p, ps[j]? = some p ∧ putP H as ps a = some (.tup [p.1, p.2])
  | [], [], _, _, _, j, a, e => by simp at e
  | [], _ :: _, _, h, _, _, _, _ => by cases h
  | _ :: _, [], _, h, _, _, _, _ => by cases h
  | a :: as, p :: ps, H, h, hn, j, b, e => by
    have hn' := List.nodup_cons.mp hn
    cases j with
    | zero =>
      cases e
      refine ⟨p, rfl, ?_⟩
      show putP (upd H a (.tup [p.1, p.2])) as ps a = _
      rw [putP_off as ps _ hn'.1, upd_same]
    | succ j =>
      obtain ⟨q, q1, q2⟩ := putP_at as ps (upd H a (.tup [p.1, p.2])) (Nat.succ.inj h) hn'.2 j b (by simpa using e)
      exact ⟨q, by simpa using q1, q2⟩
def rListZip (K : PySem.W.Frag) : List V → Hp → VK → Prop := fun vs H Q => ∃ (a b : Addr) (xs ys : List V), vs = [.ref a, .ref b] ∧ SqT K H a xs ∧ SqT K H b ys ∧
  ∀ (H' : Hp) (p : Addr) (ts : List Addr), (∀ b o, H b = some o → H' b = some o) → H p = none → H' p = some (.lst (ts.map V.ref)) → ts.length = min xs.length ys.length →
    (∀ (j : Nat) (t : Addr), ts[j]? = some t → ∃ x y, xs[j]? = some x ∧ ys[j]? = some y ∧ H t = none ∧ t ≠ p ∧ H' t = some (.tup [x, y])) → Q (.ref p) H'
section
variable {X : Cx} {e e2 : Expr} {ta : TA} {p p2 cpos pos : Pos}
theorem pairs_laid {pins : List (Addr × Obj)} {σ : L2.St} {H : Hp} {s : Shared} {h' : Heap} {tk : Nat} {xs ys : List V} {us ws : List Value} {acc : Array Value} {c S : Nat} {as : List Addr} (I : Inv X pins σ H s) (r1 : Vals xs us) (r2 : Vals ys ws) (hz : min xs.length ys.length ≤ sizeLine)
    (hSl : s.heap.objs.size ≤ S) (hk : ∀ b o, s.heap.get? b = some o → h'.get? b = some o) (hS : h'.get? S = some { cls := .type "list", dict := none, data := .seq acc c, slots := #[] }) (hl : as.length = min us.length ws.length) (hG : ZtG us ws S h' as) (hacc : acc.toList = as.map Value.ref) :
    ∃ H' : Hp, (∀ b o, H b = some o → H' b = some o) ∧ H S = none ∧ H' S = some (.lst (as.map V.ref)) ∧ as.length = min xs.length ys.length ∧
      (∀ (j : Nat) (t : Addr), as[j]? = some t → ∃ x y, xs[j]? = some x ∧ ys[j]? = some y ∧ H t = none ∧ t ≠ S ∧ H' t = some (.tup [x, y])) ∧ Inv X pins σ H' { s with heap := h', toks := tk } := by
  have l1 := r1.length
  have l2 := r2.length
  have hlen : as.length = (xs.zip ys).length := by rw [List.length_zip]; omega
  have hSn : S ∉ as := fun z => Nat.lt_irrefl _ (hG.above _ z)
  have nd : as.Nodup := List.Pairwise.imp (fun {a b} (h : a < b) => Nat.ne_of_lt h) hG.rise
  have ab : ∀ t ∈ as, s.heap.objs.size ≤ t := fun t ht => Nat.le_trans hSl (Nat.le_of_lt (hG.above t ht))
  have new : ∀ t ∈ as, H t = none := fun t ht => I.hok.fresh (ab t ht)
  have newS : H S = none := I.hok.fresh hSl
  have atP := putP_at as (xs.zip ys) (upd H S (.lst (as.map V.ref))) hlen nd
  have off : ∀ b, b ∉ as → b ≠ S → putP (upd H S (.lst (as.map V.ref))) as (xs.zip ys) b = H b := fun b h1 h2 => by rw [putP_off as _ _ h1, upd_ne h2]
  have low : ∀ b o, s.heap.get? b = some o → b ∉ as ∧ b ≠ S := fun b o e => ⟨fun z => absurd (Heap.lt_size e) (Nat.not_lt.mpr (ab b z)), Nat.ne_of_lt (Nat.lt_of_lt_of_le (Heap.lt_size e) hSl)⟩
  have kp : ∀ b u, H b = some u → (putP (upd H S (.lst (as.map V.ref))) as (xs.zip ys)) b = some u := fun b u e => by
    rw [off b (fun z => by rw [new b z] at e; cases e) (fun z => by rw [z, newS] at e; cases e)]
    exact e
  have eS : putP (upd H S (.lst (as.map V.ref))) as (xs.zip ys) S = some (.lst (as.map V.ref)) := by rw [putP_off as _ _ hSn, upd_same]
  have zipAt : ∀ (j : Nat) (q : V × V), (xs.zip ys)[j]? = some q → xs[j]? = some q.1 ∧ ys[j]? = some q.2 := fun j q hq => by
    rw [List.getElem?_zip_eq_some] at hq
    exact hq
  refine ⟨putP (upd H S (.lst (as.map V.ref))) as (xs.zip ys), kp, newS, eS, by rw [hl]; omega, fun j t ht => ?_, ?_⟩
  · obtain ⟨q, q1, q2⟩ := atP j t ht
    obtain ⟨q3, q4⟩ := zipAt j q q1
    have hm := List.mem_of_getElem? ht
    exact ⟨_, _, q3, q4, new t hm, fun z => hSn (z ▸ hm), q2⟩
  refine I.call' (ch := []) rfl ⟨fun b o q _ _ _ => hk b o q, fun b o q _ _ _ => ⟨o.slots, hk b o q⟩, fun b o q n _ => ?_, fun b o q _ => ⟨o, hk b o q⟩, fun b xs q => kp b _ q, fun b o u q => kp b _ q, fun b ps q => ⟨#[], by rw [kp b _ q]; simp⟩⟩ (fun b u q => ?_) I.bare fun b z => by simp at z
  · obtain ⟨z1, z2⟩ := low b o q
    rw [off b z1 z2]
    exact n
  · by_cases hb : b ∈ as
    · obtain ⟨j, hj⟩ := List.mem_iff_getElem?.mp hb
      obtain ⟨pk, e1, e3⟩ := atP j b hj
      obtain ⟨q3, q4⟩ := zipAt j pk e1
      rw [e3] at q
      cases q
      obtain ⟨x, y, f1, f2, f3⟩ := hG.pairs j b hj
      obtain ⟨x', g1, g2⟩ := r1.get q3
      obtain ⟨y', g3, g4⟩ := r2.get q4
      rw [f1] at g1
      cases g1
      rw [f2] at g3
      cases g3
      exact ⟨by show 2 ≤ sizeLine; decide, [x, y], .cons g2 (.cons g4 .nil), ⟨_, f3, rfl, _, rfl⟩⟩
    · by_cases hb2 : b = S
      · rw [hb2] at q ⊢
        rw [eS] at q
        cases q
        refine ⟨by rw [List.length_map]; omega, acc.toList, c, by rw [hacc]; exact LiI.vals_refs as, ?_⟩
        rw [Array.toArray_toList]
        exact hS
      · rw [off b hb hb2] at q
        exact (I.hok b u q).stay (fun d v _ y => hk d v y) (fun d y => kp d _ y) fun d xs y => kp d _ y
/-- list(zip(e, e2)) of two tuples -/
theorem pe_listZip (hc : X.calm = true) (ha : PA X [e, e2] ta) (hg : Gl X "list") (hm : X.mg "list" = none) (hg2 : Gl X "zip") (hm2 : X.mg "zip" = none)
    (hs : starEach [.Call (.Name "zip" p2) [e, e2] [] cpos] X.env = (false, eval (.Call (.Name "zip" p2) [e, e2] [] cpos) X.env) :: starEach [] X.env := by rfl)
    (hs2 : starEach [e, e2] X.env = (false, eval e X.env) :: starEach [e2] X.env := by rfl) (hpl2 : (backTo cpos (starEach [e2] X.env)).any (·.1) = false := by rfl) :
    PE X (.Call (.Name "list" p) [.Call (.Name "zip" p2) [e, e2] [] cpos] [] pos) (tCB (rListZip X.K) ta) := by
  refine ⟨fun pins s σ H Q I hq => ?_⟩
  refine wpAny_Call_Name_kw (ld_blt I hg hm PyProof.Rows.boot_list ?_)
  refine PyProof.Rows.callWith_type1 ?_ hs rfl
  rw [hs]
  show wpAny _ _ (spliced ((false, eval (.Call (.Name "zip" p2) [e, e2] [] cpos) X.env) :: backTo pos (starEach [] X.env))) _ _ s
  refine Calls.spliced_cons ?_
  refine Call_ (ld_blt I hg2 hm2 PyProof.Rows.boot_zip (PyProof.Rows.callWith_type1 (thn (ha.run cpos pins s σ H _ I hq) fun us s1 ⟨vs, H1, I1, r1, q1⟩ => ?_) hs2 hpl2))
  obtain ⟨a, b, xs, ys, ex, hqx, hqy, q⟩ := q1
  subst ex
  cases r1 with
  | cons r rr =>
    cases rr with
    | cons r' rr =>
      cases rr
      cases r
      cases r'
      obtain ⟨its, rv, p1, z1⟩ := I1.tuple hqx
      obtain ⟨its2, rv2, p2, z2⟩ := I1.tuple hqy
      obtain ⟨o1, ho1, _⟩ := id p1
      obtain ⟨o2, ho2, _⟩ := id p2
      refine RZ.call_zipT (show s1.heap.IsTuple a its.toArray from p1) (show s1.heap.IsTuple b its2.toArray from p2) fun h' hz hTI hTO h1 h2 hsz hk => ?_
      refine Calls.spliced_nil ?_
      have hl1 : h'.IsTuple a its.toArray := by
        obtain ⟨o, y1, y2⟩ := p1
        exact ⟨o, hk _ _ y1, y2⟩
      have hl2 : h'.IsTuple b its2.toArray := by
        obtain ⟨o, y1, y2⟩ := p2
        exact ⟨o, hk _ _ y1, y2⟩
      have l1 := rv.length
      have l2 := rv2.length
      refine zt_call (s := { s1 with heap := h' }) (xs := its) (ys := its2) (I1.ok.hd hc) (PySem.W.ktu_apart s1.heap.objs.size a b (Heap.lt_size ho1) (Heap.lt_size ho2)) hz hTI ⟨_, _, hTO⟩ h1 h2 hl1 hl2 (by omega) fun h'' tk acc c as hk2 hS hl hG hacc => ?_
      have hk3 : ∀ b o, s1.heap.get? b = some o → h''.get? b = some o := fun b o y => by
        have hb := Heap.lt_size y
        exact hk2 b o (Nat.ne_of_lt (Nat.lt_of_lt_of_le hb (Nat.le_add_right _ _))) (Nat.ne_of_lt (Nat.lt_of_lt_of_le hb (Nat.le_add_right _ _))) (Nat.ne_of_lt hb) (Nat.ne_of_lt (Nat.lt_of_lt_of_le hb (Nat.le_add_right _ _))) (hk b o y)
      obtain ⟨H', k1, k2, k3, k4, k5, J⟩ := pairs_laid (tk := tk) (S := h'.objs.size) I1 rv rv2 (by omega) (by show s1.heap.objs.size ≤ h'.objs.size; rw [hsz]; omega) hk3 hS hl hG hacc
      exact ⟨.ref _, H', J, rfl, q H' _ as k1 k2 k3 k4 k5⟩
end
/-! ### list(zip(..)) of data -/
def pairsF (Γ : Gam) (vs : List Val) : R Val := match vs with
  | [.f (.tuple ds), .f (.tuple es)] => .ok (.n (.ol (zipD ds es))) Γ
  | _ => .stuck
theorem repAll_at {cls : Str → Addr} {F : Hp} : ∀ {vs : List V} {ds : List D}, vs.length = ds.length → (∀ (i : Nat) (v : V), vs[i]? = some v → ∃ d, ds[i]? = some d ∧ Rep cls F v d) → RepAll cls F vs ds
  | [], [], _, _ => .nil
  | [], _ :: _, h, _ => by simp at h
  | _ :: _, [], h, _ => by simp at h
  | v :: vs, d :: ds, h, k => by
    obtain ⟨d', e1, e2⟩ := k 0 v rfl
    simp at e1
    subst e1
    exact .cons e2 (repAll_at (by simpa using h) fun i v hv => by simpa using k (i + 1) v (by simpa using hv))
theorem cs_listZip {M : Pm} : CallS M (rListZip M.K) pairsF := by
  intro E Γ σ F0 H0 own0 F H own xs as Q s st r p
  unfold pairsF at p
  split at p
  · rename_i ds es
    cases r with
    | cons r1 r =>
      cases r with
      | cons r2 r =>
        cases r
        obtain ⟨a, vs, rfl, h1, h2⟩ := Rep.invU r1
        obtain ⟨b, ws, rfl, h3, h4⟩ := Rep.invU r2
        refine ⟨a, b, vs, ws, rfl, .inl (rd_up s.fh h1), .inl (rd_up s.fh h3), fun H' q ts k1 k2 k3 k4 k5 => ?_⟩
        have l1 := h2.length
        have l2 := h4.length
        -- the pairs are frozen
        let F' : Hp := fun b => if b ∈ ts then H' b else F b
        have fF : Ex F F' := fun c o hc => by
          by_cases hm : c ∈ ts
          · obtain ⟨j, hj⟩ := List.mem_iff_getElem?.mp hm
            obtain ⟨_, _, _, _, n1, _, _⟩ := k5 j c hj
            rw [s.fh c o hc] at n1
            cases n1
          · show (if c ∈ ts then H' c else F c) = some o
            rw [if_neg hm]
            exact hc
        have eH : Ex H H' := k1
        have fH : Ex F' H' := fun c o hc => by
          have hc' : (if c ∈ ts then H' c else F c) = some o := hc
          by_cases hm : c ∈ ts
          · rw [if_pos hm] at hc'
            exact hc'
          · rw [if_neg hm] at hc'
            exact eH c o (s.fh c o hc')
        have nq : F' q = none := by
          show (if q ∈ ts then H' q else F q) = none
          rw [if_neg]
          · exact s.fh.back k2
          · intro hm
            obtain ⟨j, hj⟩ := List.mem_iff_getElem?.mp hm
            obtain ⟨_, _, _, _, _, n2, _⟩ := k5 j q hj
            exact n2 rfl
        have G : Grow F H F' H' := ⟨fF, eH, fH, fun c n1 n2 => by
          show (if c ∈ ts then H' c else F c) = none
          rw [if_neg]
          · exact n1
          · intro hm
            obtain ⟨j, hj⟩ := List.mem_iff_getElem?.mp hm
            obtain ⟨_, _, _, _, n3, _, _⟩ := k5 j c hj
            exact n2 n3⟩
        refine p _ F' H' own (s.grow G) (st.trans (G.step own)) ⟨fun c => c = q, ⟨q, ts.map V.ref, rfl, fun c => Iff.rfl, k3, ?_⟩, fun c hc => ?_⟩
        · refine repAll_at (by rw [List.length_map, zipD_length]; omega) fun i v hv => ?_
          rw [List.getElem?_map] at hv
          cases ht : ts[i]? with
          | none => rw [ht] at hv; cases hv
          | some t =>
            rw [ht] at hv
            cases hv
            obtain ⟨x, y, e1, e2, n1, n2, e3⟩ := k5 i t ht
            obtain ⟨d, f1, f2⟩ := h2.at' i x e1
            obtain ⟨d2, f3, f4⟩ := h4.at' i y e2
            refine ⟨.tuple [d, d2], by rw [zipD_at, f1, f3], .tup (vs := [x, y]) ?_ (.cons (f2.mono fF) (.cons (f4.mono fF) .nil))⟩
            show (if t ∈ ts then H' t else F t) = _
            rw [if_pos (List.mem_of_getElem? ht)]
            exact e3
        · have hc : c = q := hc
          subst hc
          refine ⟨nq, by rw [k3]; simp, fun i hi => s.there i c hi k2, ?_⟩
          cases e0 : H0 c with
          | none => rfl
          | some o => exact absurd k2 (st.al c (by rw [e0]; simp))
  · exact p.elim
section
variable {X : Cx} {M : Pm} {E : XK} {e e2 : Expr} {ms : Gam → R (List Val)} {p p2 cpos pos : Pos}
def listZipM (ms : Gam → R (List Val)) : Gam → R Val := callM pairsF ms
theorem e_listZip (hK : X.K = M.K) (hc : X.calm = true) (hg : Gl X "list") (hg2 : Gl X "zip") (hm : X.mg "list" = none) (hm2 : X.mg "zip" = none) (ha : PA X [e, e2] (tA M E ms))
    (hs : starEach [.Call (.Name "zip" p2) [e, e2] [] cpos] X.env = (false, eval (.Call (.Name "zip" p2) [e, e2] [] cpos) X.env) :: starEach [] X.env := by rfl)
    (hs2 : starEach [e, e2] X.env = (false, eval e X.env) :: starEach [e2] X.env := by rfl) (hpl2 : (backTo cpos (starEach [e2] X.env)).any (·.1) = false := by rfl) :
    PE X (.Call (.Name "list" p) [.Call (.Name "zip" p2) [e, e2] [] cpos] [] pos) (tE M E (listZipM ms)) := PE_weak (pe_listZip hc ha hg hm hg2 hm2 hs hs2 hpl2) fun σ H Q q => by
  rw [hK]
  exact tE_call cs_listZip q
end
end DL
end

section
set_option Elab.async false
set_option linter.all false
set_option maxRecDepth 100000
set_option autoImplicit false
set_option maxHeartbeats 1000000
/-! DL24: methods and classes called by keywords; own == and !=. -/
namespace DL
open PySem PySem.Spec PyProof.Rows L2
section
variable {X : Cx} {CX : CXT} {k : Nat} {f C : Addr} {fd : FuncData} {ps ks : List Str} {sp : Sp} {E : XK} {m : Str} {apos pos : Pos} {o : Expr} {kws : List Keyword} {ta : TE} {tk : TA} {g : List Value → List Value → List Value} {gV : List V → List V → List V}
/-- o.m(k = v, ..) -/
theorem pe_methK0 {pl : Sem Bool} (he : PE X o ta) (c : Cls X.K C) (hm : Meth X.K C m f) (F : FnOk X.prog X.w X.K X.mg X.base CX k f fd ps sp) (hr : Room k X.A) (hb : KBn X.K fd ps 1 ks g gV) (hx : Passes CX X E)
    (hkw : PK X kws tk) (hall : (backToKw pos (keywordEach kws X.env)).all (·.1.isSome) = true := by rfl) (hks : (backToKw pos (keywordEach kws X.env)).filterMap (·.1) = ks := by rfl)
    (hpl : ((backTo pos (starEach [] X.env)).any (·.1) || (backToKw pos (keywordEach kws X.env)).any (·.1.isNone)) = false := by rfl)
    (ht : eval (.Call (.Attribute o m apos) [] kws pos) X.env = (do
      let ov ← eval o X.env
      standAt apos.atName
      let (f, first) ← holding [ov] (getMethod ov m pl)
      callWith pos f first (backTo pos (starEach [] X.env)) (backToKw pos (keywordEach kws X.env))) := by rfl) :
    PE X (.Call (.Attribute o m apos) [] kws pos) (fun σ H Q => ta σ H fun x H1 => ∃ a dx fs, x = .ref a ∧ H1 a = some (.ins C dx fs) ∧ fs.lookup m = none ∧ tk σ H1 fun zs H2 => zs.length = ks.length ∧ sp (gV [x] zs) H2 Q E) := by
  refine ⟨fun pins s σ H Q I h => ?_⟩
  refine PySem.W.methodCall_KW (pl := pl) (thn (he.run pins s σ H _ I h) fun u s1 ⟨x, H1, I1, rx, a, dx, fs, ex, ea, l, q⟩ => ?_) ht
  subst ex
  obtain rfl : u = Value.ref a := rx
  refine getmeth_ok I1 ea c hm l ?_
  refine PySem.W.callWith_KW0 (h₀ := X.base) I.ok.mod.kin hm.kp hall ?_ hpl
  refine thn (hkw.run pos pins s1 σ H1 _ I1 q) fun ws s2 ⟨zs, H2, I2, rz, l2, q2⟩ => ⟨I2.kIn, ?_⟩
  rw [hks]
  have r2 := hb.rel (us := [Value.ref a]) (vs := [V.ref a]) (.cons rfl .nil) rz
  have hl : (g [Value.ref a] ws).length = ps.length := by
    rw [← r2.length]
    exact F.len _ _ _ _ q2
  refine wpAny_call (codeAny_mono (F.run X.A X.stack s2 H2 ⟨[.ref a], ks.zip ws⟩ (g [Value.ref a] ws) (gV [V.ref a] zs) Q E hr I2.env0 (hb.to s2 [Value.ref a] ws I2.kIn rfl (rz.length.symm.trans l2)) r2 q2) fun r s' hq => ?_)
  cases r with
  | error e => exact hx pins σ H2 s2 e s' I2 hq
  | ok fl =>
    cases fl with
    | ret u => exact I2.after hq
    | next => exact False.elim hq
    | brk => exact False.elim hq
    | cont => exact False.elim hq
end
section
variable {X : Cx} {M : Pm} {E : XK} {e o : Expr} {mo : Gam → R Val} {md : Gam → R (List D)} {kws : List Keyword} {p pos apos : Pos} {x c name : Str} {k : Nat} {cls : Str → Addr} {a0 : Option Addr} {ks : List Str} {perm : List Nat} {g : List Slot → R Val}
/-- what a caller by keywords takes of a method -/
def MetK (P : Program) (w : World) (K : PySem.W.Frag) (mg : Str → Option Value) (base : Heap) (cls : Str → Addr) (c name : Str) (k : Nat) (g : List Slot → R Val) (ks : List Str) (perm : List Nat) : Prop :=
  ∃ f fd ps, Cls K (cls c) ∧ Meth K (cls c) name f ∧ FnOk P w K mg base (L2.CX P w) k f fd ps (spG ⟨K, cls, none⟩ g) ∧ KBn K fd ps 1 ks (fun us ws => us ++ permL perm ws) (fun vs zs => vs ++ permL perm zs)
def MkK (P : Program) (w : World) (K : PySem.W.Frag) (mg : Str → Option Value) (base : Heap) (cls : Str → Addr) (c : Str) (k : Nat) (g : List Slot → R Val) (ks : List Str) (perm : List Nat) : Prop :=
  ∃ f fd ps, mg c = some (.ref (cls c)) ∧ Mk K (cls c) f ∧ FnOk P w K mg base (L2.CX P w) k f fd ps (spG ⟨K, cls, none⟩ g) ∧ KBn K fd ps 1 ks (fun us ws => us ++ permL perm ws) (fun vs zs => vs ++ permL perm zs)
def methKM (cl name : Str) (g : List Slot → R Val) (n : Nat) (perm : List Nat) (mo : Gam → R Val) (md : Gam → R (List D)) : Gam → R Val := fun Γ => (rd mo Γ).bind fun v Γ1 => match viewC Γ1 v with
  | some (c, ns) => if c = cl ∧ name ∉ ns then (md Γ1).bind fun ds Γ2 => if ds.length = n then callG g Γ2 (v :: (permL perm ds).map Val.f) else .stuck else .stuck
  | none => .stuck
theorem e_methKC {pl : Sem Bool} (C : MetK X.prog X.w X.K X.mg X.base cls c name k g ks perm) (he : PE X o (tE ⟨X.K, cls, a0⟩ E mo)) (hr : Room k X.A) (hx : Passes (L2.CX X.prog X.w) X E) (ha : PK X kws (tFs ⟨X.K, cls, a0⟩ E md))
    (hall : (backToKw pos (keywordEach kws X.env)).all (·.1.isSome) = true := by rfl) (hks : (backToKw pos (keywordEach kws X.env)).filterMap (·.1) = ks := by rfl)
    (hpl : ((backTo pos (starEach [] X.env)).any (·.1) || (backToKw pos (keywordEach kws X.env)).any (·.1.isNone)) = false := by rfl)
    (ht : eval (.Call (.Attribute o name apos) [] kws pos) X.env = (do
      let ov ← eval o X.env
      standAt apos.atName
      let (f, first) ← holding [ov] (getMethod ov name pl)
      callWith pos f first (backTo pos (starEach [] X.env)) (backToKw pos (keywordEach kws X.env))) := by rfl) :
    PE X (.Call (.Attribute o name apos) [] kws pos) (tE ⟨X.K, cls, a0⟩ E (methKM c name g ks.length perm mo md)) := by
  obtain ⟨f, fd, ps, hc, hm, F, hb⟩ := C
  refine PE_weak (pe_methK0 (pe_rd he) hc hm F hr hb hx ha hall hks hpl ht) fun σ H Q q => ?_
  obtain ⟨Γ, Fh, own, st, p⟩ := q
  refine ⟨Γ, Fh, own, st, post_bind p fun F1 H1 own1 Γ1 x va _ st1 s1 r1 p1 => ?_⟩
  split at p1
  · rename_i c' ns hv
    split at p1
    · rename_i hc'
      obtain ⟨rfl, hn⟩ := hc'
      obtain ⟨q, dx, fs, rfl, h1, h2⟩ := view_C st1 r1 hv
      refine ⟨q, dx, fs, rfl, h1, look_not (by rw [h2]; exact hn), Γ1, F1, own1, st1, post_bind (p1.mono (back_V _) s1) fun F2 H2 own2 Γ2 zs ds _ st2 s2 r2 p2 => ?_⟩
      split at p2
      · rename_i hl
        refine ⟨by rw [← hl]; exact RepAll.length (M := cls) r2, ?_⟩
        exact callG_ok (M := ⟨X.K, cls, a0⟩) st2 s2 (.cons (ValRd.mono s2.ff r1) (valsRd_fs (rep_perm r2 perm))) p2
      · exact p2.elim
    · exact p1.elim
  · exact p1.elim
def makeKM (c : Str) (g : List Slot → R Val) (n : Nat) (perm : List Nat) (md : Gam → R (List D)) : Gam → R Val := fun Γ => (md Γ).bind fun ds Γ1 => if ds.length = n then makeV c g Γ1 ((permL perm ds).map Val.f) else .stuck
theorem e_makeKC (C : MkK X.prog X.w X.K X.mg X.base cls c k g ks perm) (hr : Room (k + 1) X.A) (hg : Gl X c) (hx : Passes (L2.CX X.prog X.w) X E) (ha : PK X kws (tFs ⟨X.K, cls, a0⟩ E md))
    (hall : (backToKw pos (keywordEach kws X.env)).all (·.1.isSome) = true := by rfl) (hks : (backToKw pos (keywordEach kws X.env)).filterMap (·.1) = ks := by rfl) (hdb : (c == ("__debug__" : Str)) = false := by decide)
    (hpl : ((backTo pos (starEach [] X.env)).any (·.1) || (backToKw pos (keywordEach kws X.env)).any (·.1.isNone)) = false := by rfl) : PE X (.Call (.Name c p) [] kws pos) (tE ⟨X.K, cls, a0⟩ E (makeKM c g ks.length perm md)) := by
  obtain ⟨f, fd, ps, hm, hM, F, hb⟩ := C
  refine PE_weak (pe_makeK0 hM F hr hg hm hb hx ha hall hks hdb hpl) fun σ H Q ⟨Γ, Fh, own, st, q⟩ => ?_
  refine ⟨Γ, Fh, own, st, post_bind q fun F1 H1 own1 Γ1 zs ds _ st1 s1 r1 p1 => ?_⟩
  split at p1
  · rename_i hl
    refine ⟨rfl, by rw [← hl]; exact RepAll.length (M := cls) r1, fun x dx nx ndx nex => ?_⟩
    have := make_ok (M := ⟨X.K, cls, a0⟩) st1 s1 (valsRd_fs (rep_perm r1 perm)) p1 x dx nx ndx nex
    rw [List.append_nil] at this
    exact this
  · exact p1.elim
end
/-! ### own == and != -/
section
variable {prog : Program} {w : World} {A : Around} {E : Value → Shared → Prop} {s : Shared} {K : PySem.W.Frag} {x C L f : Addr} {h₀ : Heap} {m : Str → Option Value} {ox : Obj} {od : Option Obj} {name : Str} {b tb : Value}
open PySem.W in
theorem ifBound_B {M : Model} {args : List Value} {id : String} {Q : Option Value → Shared → Prop} (X : K.In s.heap) (I : InstAt s.heap x ox C od) (hs : findIn K (.ref C) name = some (some (.builtin id))) (hb : ∀ self, bindSpecial (.builtin id) self = pure (.builtin id, [self]))
    (h : wpAny M A (call (.builtin id) (.ref x :: args)) (fun v => Q (some v)) E s) : wpAny M A (callSpecialIfBound? (.ref x) name args) Q E s := by
  simp only [callSpecialIfBound?, bindSpecialIfBound?]
  refine wpAny_holding (wpAny_bind (wpAny_bind (wpAny_bind (I.type.here ((looks_findIn X hs).here ?_)))))
  simp only [hb]
  refine wpAny_bind (wpAny_askSetting (wpAny_ite ?_))
  have fin : wpAny M A (call (.builtin id) ([.ref x] ++ args) >>= fun v => pure (some v)) Q E s := wpAny_bind (wpAny_mono h (fun v s' h' => wpAny_pure h') fun _ _ h' => h')
  split
  · exact wpAny_bind (wpAny_pure (wpAny_pure fin))
  · exact wpAny_tryCatch (wpAny_bind (wpAny_pure (wpAny_pure fin)))
open PySem.W in
theorem check_slot_K {M : Model} {id owner n : String} {rest : List Value} {Q : Unit → Shared → Prop} (hk : builtinKind id = some .slot) (hs : splitId id = some (owner, n)) (ha : argsOk id ⟨.ref x :: rest, []⟩) (X : K.In s.heap) (I : InstAt s.heap x ox C od)
    (hob : subIn K (.ref C) (.type owner) = some true) (hq : Q () s) : wpAny M A (checkBuiltinCall id ⟨.ref x :: rest, []⟩) Q E s := by
  simp only [checkBuiltinCall, hk, hs]
  refine wpAny_bind ?_
  · unfold isInstance
    refine wpAny_bind (I.type.here ?_)
    refine (looks_subIn X hob).here ?_
    cases hsig : Manifest.signature? id with
    | none => exact wpAny_pure hq
    | some sig =>
      simp only [argsOk, hsig] at ha
      have h2 : Bind.checkArgs id sig ⟨.ref x :: rest, []⟩ = pure () := ha
      show wpAny M A (Bind.checkArgs id sig ⟨.ref x :: rest, []⟩) Q E _
      rw [h2]; exact wpAny_pure hq
open PySem.W in
theorem objNe_K {y : Addr} {Q : PySem.Fin → Shared → Prop} (X : K.In s.heap) (I : InstAt s.heap x ox C od) (hs : findIn K (.ref C) "__eq__" = some (some (.ref f))) (hf : isFn K (.ref f) = true) (hu : A.units < cLine)
    (hcall : wpAny (model prog w) A (call (.ref f) [.ref x, .ref y]) (fun v s' => ∃ b, v = .bool b ∧ Q (.done (.ret (.bool (!b)))) s') E s) :
    wpAny (model prog w) A (Builtin.«object.__ne__» ⟨[.ref x, .ref y], []⟩) Q E s := by
  obtain ⟨h, g, d, t, os⟩ := s
  unfold Builtin.«object.__ne__»
  repeat (first
    | with_reducible refine wpAny_cRoomFor hu ?_
    | (refine wpAny_bind (m := callSpecialIfBound? (.ref x) (Str.ofString "__eq__") [.ref y])
        (ifBound_K X I hs hf (wpAny_mono hcall (fun r s' hr => by
          obtain ⟨b, rfl, hq⟩ := hr
          repeat (first | exact hq | exact wpAny_pure hq | exact wpAny_truthy_bool hq | (refine wpAny_bind (m := truthy (.bool _)) (wpAny_truthy_bool ?_)) | wp_step)) fun _ _ e => e)))
    | wp_step)
open PySem.W in
theorem ne_own_K {y : Addr} {Q : Value → Shared → Prop} (hu : A.units + 1 < cLine) (X : K.In s.heap) (I : InstAt s.heap x ox C od) (hb : Looks (model prog w) s.heap (typeOf (.ref y)) (.ref C))
    (hne : findIn K (.ref C) "__ne__" = some (some (.builtin "object.__ne__"))) (hob : subIn K (.ref C) (.type "object") = some true)
    (hs : findIn K (.ref C) "__eq__" = some (some (.ref f))) (hf : isFn K (.ref f) = true)
    (h : wpAny (model prog w) A.in1 (call (.ref f) [.ref x, .ref y]) (fun v s' => ∃ b, v = .bool b ∧ Q (.bool (!b)) s') E s) : wpAny (model prog w) A (richCompare .NotEq (.ref x) (.ref y)) Q E s := by
  have one : wpAny (model prog w) A (tryCompare (.ref x) "__ne__" (.ref y)) (fun r s' => ∃ v, r = some v ∧ Q v s') E s := by
    unfold tryCompare
    refine wpAny_bind (ifBound_B X I hne F.cmp_object.ne.bind (wpAny_call (codeAny_call_builtin F.cmp_object.ne.plain F.cmpEntry_ne (check_slot_K F.cmpKind_ne F.cmpSplit_ne (F.cmpArgs_ne _ _) X I hob
      (objNe_K (A := A.in1) X I hs hf (by simpa using hu) (wpAny_mono h (fun v s' hv => ?_) fun _ _ e => e))))))
    obtain ⟨b, rfl, hq⟩ := hv
    exact ⟨b, rfl, wpAny_pure ⟨_, rfl, hq⟩⟩
  unfold richCompare
  simp only [oneThing_ref]
  refine wpAny_holding (wpAny_bind (wpAny_cRoomFor (Nat.lt_of_succ_lt hu) ?_))
  rw [cmpInfo_NotEq]
  dsimp only
  refine wpAny_bind (I.type.here (wpAny_bind (hb.here ?_)))
  rw [show (Value.ref C != Value.ref C) = false from by simp]
  simp only [Bool.false_eq_true, if_false]
  refine wpAny_bind (wpAny_pure ?_)
  simp only [Bool.false_eq_true, if_false]
  refine wpAny_bind (wpAny_mono one (fun r s' z => ?_) fun _ _ e => e)
  obtain ⟨v, rfl, hq⟩ := z
  exact wpAny_pure hq
end
/-- the class c has its own ==, kept by g -/
structure EqC (P : Program) (w : World) (K : PySem.W.Frag) (mg : Str → Option Value) (base : Heap) (cls : Str → Addr) (c : Str) (k : Nat) (g : List Slot → R Val) : Prop where
  ex : ∃ f fd ps, FnOk P w K mg base (L2.CX P w) k f fd ps (spG ⟨K, cls, none⟩ g) ∧ Binds K fd ps [] ∧ PySem.W.findIn K (.ref (cls c)) "__eq__" = some (some (.ref f)) ∧ PySem.W.isFn K (.ref f) = true
  ne : PySem.W.findIn K (.ref (cls c)) "__ne__" = some (some (.builtin "object.__ne__"))
  ob : PySem.W.subIn K (.ref (cls c)) (.type "object") = some true
section
variable {X : Cx} {cls : Str → Addr} {c : Str} {k : Nat} {g : List Slot → R Val} {E : XK} {a0 : Option Addr}
def rOwn (K : PySem.W.Frag) (C : Addr) (g : List Slot → R Val) (cls : Str → Addr) (E : XK) (neg : Bool) : R2 := fun x y H Q => ∃ a b dx dy fs gs, x = .ref a ∧ y = .ref b ∧ H a = some (.ins C dx fs) ∧ H b = some (.ins C dy gs) ∧
  spG ⟨K, cls, none⟩ g [x, y] H (fun v H' => ∃ r, v = .bl r ∧ Q (.bl (ng neg r)) H') E
theorem op_own (C : EqC X.prog X.w X.K X.mg X.base cls c k g) (hr : Room k X.A) (hr1 : Room k X.A.in1) (hu : X.A.units + 1 < cLine) (hx : Passes (L2.CX X.prog X.w) X E) (neg : Bool) :
    OpR X (compareOp (if neg then .NotEq else .Eq)) (rOwn X.K (cls c) g cls E neg) := by
  intro pins s σ H x y v u Q I rx ry h
  obtain ⟨a, b, dx, dy, fs, gs, rfl, rfl, ha, hb', hsp⟩ := h
  obtain ⟨f, fd, ps, F, hb, hs, hf⟩ := C.ex
  cases rx
  cases ry
  obtain ⟨mA, J, _⟩ := ins_get I.hok ha
  obtain ⟨mB, J', _⟩ := ins_get I.hok hb'
  obtain ⟨od, J, _⟩ := J.look
  obtain ⟨od', J', _⟩ := J'.look
  obtain ⟨m, hF⟩ := I.fr
  have hl := F.len _ _ _ _ hsp
  have r2 : Vals [V.ref a, V.ref b] [Value.ref a, Value.ref b] := .cons rfl (.cons rfl .nil)
  have e0 := I.env0
  have go : ∀ (A : Around) (Q' : Value → Shared → Prop), Room k A → A.frames = X.A.frames → (∀ r s', EP X pins σ (fun v H' => ∃ r, v = .bl r ∧ Q (.bl (ng neg r)) H') r s' → Q' r s') → wpAny (model X.prog X.w) A (call (.ref f) [.ref a, .ref b]) Q' X.xe s := fun A Q' hA hfr hq' => by
    have e1 : Env0 X.prog X.w X.K X.mg X.base A X.stack s H := ⟨by rw [hfr]; exact e0.frames, e0.mod, e0.bs, e0.bsz, e0.funs, e0.frf, e0.hok, e0.bare⟩
    refine wpAny_call (codeAny_mono (F.run A X.stack s H ⟨[.ref a, .ref b], []⟩ [.ref a, .ref b] [.ref a, .ref b] _ E hA e1 (by
      have := hb s [.ref a, .ref b] I.kIn (by simpa using hl)
      simpa using this) r2 hsp) fun r s' hq => ?_)
    cases r with
    | error e => exact hx pins σ H s e s' I hq
    | ok fl =>
      cases fl with
      | ret w => exact hq' _ _ (I.after hq)
      | next => exact False.elim hq
      | brk => exact False.elim hq
      | cont => exact False.elim hq
  cases neg with
  | false =>
    show wpAny _ _ (richCompare .Eq _ _) _ _ _
    refine PySem.W.cmp_K (op := .Eq) (tb := .ref (cls c)) (by omega) hF I.ok.mod.kin J J'.type (by simp [PySem.W.notFirst]) hs hf (go X.A _ hr rfl fun r s' q => ?_)
    obtain ⟨z, H', I', rz, r0, ez, ex⟩ := q
    subst ez
    cases rz
    exact ⟨.bl _, H', I', rfl, ex⟩
  | true =>
    show wpAny _ _ (richCompare .NotEq _ _) _ _ _
    refine ne_own_K hu I.kIn J J'.type C.ne C.ob hs hf (go X.A.in1 _ hr1 rfl fun r s' q => ?_)
    obtain ⟨z, H', I', rz, r0, ez, ex⟩ := q
    subst ez
    cases rz
    exact ⟨_, rfl, .bl _, H', I', rfl, ex⟩
end

/-! ### == of pictures and of data -/
def ownF (c : Str) (g : List Slot → R Val) (neg : Bool) (Γ : Gam) (a b : Val) : R Val := match viewI Γ a with
  | some (ca, _) => match viewI Γ b with
    | some (cb, _) => if ca = c ∧ cb = c then (callV g Γ [a, b]).bind fun v Γ1 => match v with
        | .f (.bool r) => .ok (.f (.bool (ng neg r))) Γ1
        | _ => .stuck
      else .stuck
    | none => .stuck
  | none => eqF neg Γ a b
section
variable {X : Cx} {cls : Str → Addr} {c : Str} {k : Nat} {g : List Slot → R Val} {E : XK} {a0 : Option Addr} {e e2 : Expr} {pos : Pos} {ma mb : Gam → R Val}
theorem cmp_if {neg : Bool} {A B : CmpOp} : (if neg = true then A else B) = (match neg with | true => A | false => B) := by cases neg <;> rfl
theorem os_own {Γ : Gam} {σ : L2.St} {F0 H0 : Hp} {own0 : Own} {F H : Hp} {own : Own} {x y : V} {a b : Val} {Q : VK} {neg : Bool} {K : PySem.W.Frag} (s : StR ⟨K, cls, a0⟩ Γ σ F H own) (st : Step F0 H0 own0 F H own) (rx : ValRd ⟨K, cls, a0⟩ σ F x a) (ry : ValRd ⟨K, cls, a0⟩ σ F y b)
    (p : PostG (relV ⟨K, cls, a0⟩) ⟨K, cls, a0⟩ E σ F0 H0 own0 Q (ownF c g neg Γ a b)) : rOwn K (cls c) g cls E neg x y H Q ∨ rEqP K neg x y H Q := by
  unfold ownF at p
  split at p
  · rename_i ca fa ha
    split at p
    · rename_i cb fb hb
      split at p
      · rename_i hc
        obtain ⟨rfl, rfl⟩ := hc
        obtain ⟨q, dx, fs, rfl, h1, _⟩ := view_I s rx ha
        obtain ⟨q2, dy, gs, rfl, h2, _⟩ := view_I s ry hb
        refine .inl ⟨q, q2, dx, dy, fs, gs, rfl, rfl, h1, h2, ?_⟩
        refine callV_ok (M := ⟨K, cls, a0⟩) s st (.cons rx (.cons ry .nil)) (post_bind p fun F1 H1 own1 Γ1 z v _ st1 s1 r1 p1 => ?_)
        split at p1
        · rename_i r _
          cases r1
          exact ⟨r, rfl, p1 _ F1 H1 own1 st1 s1 (.bl _)⟩
        · exact p1.elim
      · exact p.elim
    · exact p.elim
  · exact .inr (os_eq (M := ⟨K, cls, a0⟩) neg E Γ σ F0 H0 own0 F H own x y a b Q s st rx ry p)
theorem op_ownAll (C : EqC X.prog X.w X.K X.mg X.base cls c k g) (hr : Room (k + 1) X.A) (hx : Passes (L2.CX X.prog X.w) X E) (neg : Bool) :
    OpR X (compareOp (if neg then .NotEq else .Eq)) (fun x y H Q => rOwn X.K (cls c) g cls E neg x y H Q ∨ rEqP X.K neg x y H Q) := by
  have hu := hr.units
  refine (op_own C (hr.mono (by omega)) hr.in1 (by omega) hx neg).or ?_
  cases neg
  · exact op_eqP hu
  · exact op_neP hu
theorem e_own (C : EqC X.prog X.w X.K X.mg X.base cls c k g) (hr : Room (k + 1) X.A) (hx : Passes (L2.CX X.prog X.w) X E) (neg : Bool) {op : CmpOp} (hop : op = if neg then .NotEq else .Eq)
    (ha : PE X e (tE ⟨X.K, cls, a0⟩ E ma)) (hb : PE X e2 (tE ⟨X.K, cls, a0⟩ E mb)) (hm : behindInMarks op e2 = false) : PE X (.Compare e [op] [e2] pos) (tE ⟨X.K, cls, a0⟩ E (bin (ownF c g neg) ma mb)) := by
  subst hop
  refine PE_weak (pe_cmpR (op_ownAll C hr hx neg) (pe_rd ha) (pe_rd hb) hm) fun σ H Q h => ?_
  obtain ⟨Γ, F, own, st, p⟩ := h
  refine ⟨Γ, F, own, st, post_bind p fun F1 H1 own1 Γ1 x va _ st1 s1 r1 p1 => ⟨Γ1, F1, own1, st1, post_bind (p1.mono (back_V _) s1) fun F2 H2 own2 Γ2 y vb _ st2 s2 r2 p2 => ?_⟩⟩
  exact os_own st2 s2 (ValRd.mono s2.ff r1) r2 p2
theorem t_own (C : EqC X.prog X.w X.K X.mg X.base cls c k g) (hr : Room (k + 1) X.A) (hx : Passes (L2.CX X.prog X.w) X E) (neg : Bool) {op : CmpOp} (hop : op = if neg then .NotEq else .Eq)
    (ha : PE X e (tE ⟨X.K, cls, a0⟩ E ma)) (hb : PE X e2 (tE ⟨X.K, cls, a0⟩ E mb)) (hm : behindInMarks op e2 = false) : PT X (.Compare e [op] [e2] pos) (tT ⟨X.K, cls, a0⟩ E (testM (bin (ownF c g neg) ma mb))) := by
  subst hop
  refine PT_weak (pt_cmpR (op_ownAll C hr hx neg) (pe_rd ha) (pe_rd hb) hm) fun σ H Q q => ?_
  obtain ⟨Γ, F, own, st, p⟩ := tT_down q
  refine ⟨Γ, F, own, st, post_bind p fun F1 H1 own1 Γ1 x va _ st1 s1 r1 p1 => ⟨Γ1, F1, own1, st1, post_bind (p1.mono (back_V _) s1) fun F2 H2 own2 Γ2 y vb _ st2 s2 r2 p2 => ?_⟩⟩
  exact os_own st2 s2 (ValRd.mono s2.ff r1) r2 p2
end
end DL
end

section
set_option Elab.async false
set_option linter.all false
set_option maxRecDepth 100000
set_option autoImplicit false
set_option maxHeartbeats 1000000
/-! DL25: sorted(xs, key=f), f a def of the text. -/
namespace DL
open PySem PySem.Calls PySem.Spec PyProof.Rows L2
open PySem.W (sortVals keysOf_zip sortVals_length AllAlike Sortable EachIs dataLe SortsAt dataKind KeyedOut keyedOut_each copyHeap sorted_of_sort copyHeap_at copyHeap_old bound_map sortingHeap sortingHeap_old)
section
variable {prog : Program} {w : World} {A : Around} {E : Value → Shared → Prop} {s : Shared} {a kS : Addr} {b : Bool} {vs : List Value} {keys : Array Value} {e e1 : Nat} {P : PySem.Fin → Shared → Prop} {kz : List PyData}
def KeepTwo (a c : Addr) (h h' : Heap) : Prop := ∀ b o, b ≠ a → b ≠ c → h.get? b = some o → h'.get? b = some o
theorem keyJ_tail {st : SortSt} {out : List Value} (nk : s.heap.get? kS = some (seqObj "list" keys e)) (na : s.heap.get? a = some (seqObj "list" #[] e1)) (hka : kS ≠ a)
    (hsz : keys.size ≤ sizeLine) (hz : out.length ≤ sizeLine) (hfl : failedOf st = none) (ho : (if b = true then ((arrOf st).map (·.2)).reverse else (arrOf st).map (·.2)) = out.toArray)
    (h : ∀ h' tk c, KeepTwo a kS s.heap h' → h'.get? a = some (seqObj "list" out.toArray c) → P (.done (.ret .none)) { s with heap := h', toks := tk }) :
    wpAny (model prog w) A (ksk_tail a b e1 (.ref kS) st) P E s := by
  have s1 := Heap.SameBut.update s.heap kS (Obj.mapSeq fun _ => (#[] : Array Value))
  have na1 : (s.heap.update kS (Obj.mapSeq fun _ => (#[] : Array Value))).get? a = some (seqObj "list" #[] e1) := (s1.2 a hka.symm).trans na
  have s2 := Heap.SameBut.update (s.heap.update kS (Obj.mapSeq fun _ => (#[] : Array Value))) a (Obj.mapSeq fun _ => out.toArray)
  obtain ⟨c2, hc2⟩ : ∃ c2, ((s.heap.update kS (Obj.mapSeq fun _ => (#[] : Array Value))).update a (Obj.mapSeq fun _ => out.toArray)).get? a = some (seqObj "list" out.toArray c2) :=
    ⟨_, get?_update_seq na1 fun _ => out.toArray⟩
  have hz2 : out.toArray.size ≤ sizeLine + 1 := by
    rw [List.size_toArray]
    exact Nat.le_succ_of_le hz
  unfold ksk_tail
  try dsimp only
  rw [ho]
  refine wpAny_bind (listUpdate_at nk rfl ?_ hsz (Nat.zero_le _))
  refine wpAny_bind (wpAny_letGo ?_)
  refine wpAny_bind (seqEpoch_at na1 rfl ?_)
  refine wpAny_bind (listUpdate_at na1 rfl ?_ (Nat.zero_le _) hz2)
  rw [hfl]
  simp only [bne_self_eq_false, Bool.false_eq_true, if_false]
  exact wpAny_pure (h _ _ c2 (fun b o h1 h2 q => (s2.2 b h1).trans ((s1.2 b h2).trans q)) hc2)
theorem keyJ_end {κ : PyProof.Rows.KeyKind} (nk : s.heap.get? kS = some (seqObj "list" keys e)) (na : s.heap.get? a = some (seqObj "list" #[] e1)) (hka : kS ≠ a)
    (S : SortsAt prog w A s κ keys.toList) (hsz : keys.size = vs.length) (hZ : vs.length ≤ sizeLine)
    (h : ∀ h' tk c, KeepTwo a kS s.heap h' → h'.get? a = some (seqObj "list" (sortVals κ b keys.toList vs).toArray c) → P (.done (.ret .none)) { s with heap := h', toks := tk }) :
    wpAny (model prog w) A (ksk_end a b vs.toArray e1 (.ref kS) keys) P E s := by
  obtain ⟨kd, h1, h2⟩ := S.kind
  have hkl : keys.toList.length = vs.length := by
    rw [Array.length_toList]
    exact hsz
  have hK : PyProof.Rows.KeysOf κ (keys.zip vs.toArray) := keysOf_zip S.keys
  have hol : (sortVals κ b keys.toList vs).length = vs.length := sortVals_length b hkl
  have hstart : (if b = true then (keys.zip vs.toArray).reverse else keys.zip vs.toArray).Perm (keys.zip vs.toArray) := by
    cases b with
    | false => exact Array.Perm.refl _
    | true => exact Array.perm_iff_toList_perm.mpr (by rw [if_pos rfl, Array.toList_reverse]; exact List.reverse_perm _)
  have hss : (if b = true then (keys.zip vs.toArray).reverse else keys.zip vs.toArray).size = vs.length := by rw [hstart.size_eq, Array.size_zip, hsz, List.size_toArray, Nat.min_self]
  have fin : ∀ st' : SortSt, (arrOf st').Perm (if b = true then (keys.zip vs.toArray).reverse else keys.zip vs.toArray) → SortedToK κ (arrOf st') (if b = true then (keys.zip vs.toArray).reverse else keys.zip vs.toArray).size →
      Stable κ (arrOf st') (if b = true then (keys.zip vs.toArray).reverse else keys.zip vs.toArray) → (if b = true then ((arrOf st').map (·.2)).reverse else (arrOf st').map (·.2)) = (sortVals κ b keys.toList vs).toArray := by
    intro st' hp hs ht
    have e := PySem.W.sort_out (rev := b) (keys := keys) (items := vs.toArray) (xs := arrOf st') (κ := κ) hK hp hs ht
    have e' := congrArg List.toArray e
    rw [Array.toArray_toList] at e'
    exact e'
  have step : ∀ t : Sem PySem.Fin, wpAny (model prog w) A t P E s → wpAny (model prog w) A (if b = true then (do let _ ← rule "list.sort.reverse"; t) else t) P E s := by
    intro t ht
    split
    · exact wpAny_bind (wpAny_rule ht)
    · exact ht
  unfold ksk_end
  try dsimp only
  refine step _ ?_
  by_cases hl2 : vs.toArray.size < 2
  · rw [if_pos hl2, if_pos hl2]
    refine wpAny_bind (wpAny_pure ?_)
    rw [StateT.run_pure]
    refine wpAny_bind (wpAny_pure ?_)
    try dsimp only
    refine keyJ_tail (st := SortSt.mk' general' (if b = true then (keys.zip vs.toArray).reverse else keys.zip vs.toArray) #[] 7 none) nk na hka (by rw [hsz]; exact hZ) (by rw [hol]; exact hZ) rfl (fin _ (Array.Perm.refl _) ?_ (Stable.refl _)) h
    intro i j hij hj
    rw [hss] at hj
    rw [List.size_toArray] at hl2
    have : i = j := by omega
    subst this
    exact KeyOrd.kle_refl _
  · rw [if_neg hl2, if_neg hl2]
    rw [List.size_toArray] at hl2
    refine wpAny_bind (h2 (by omega) _ ?_)
    refine wpAny_bind (wpAny_mono (H.wpS_sortRunsSt (κ := κ) (kd := kd) (a₀ := if b = true then (keys.zip vs.toArray).reverse else keys.zip vs.toArray)
      (st := SortSt.mk' kd (if b = true then (keys.zip vs.toArray).reverse else keys.zip vs.toArray) #[] 7 none)
      (Q := fun _ st' => failedOf st' = none ∧ (if b = true then ((arrOf st').map (·.2)).reverse else (arrOf st').map (·.2)) = (sortVals κ b keys.toList vs).toArray)
      h1 (hK.perm hstart) ⟨Array.Perm.refl _, rfl, rfl⟩ rfl (Stable.refl _) (by rw [hss]; omega) fun st' a1 a2 a3 a4 => ⟨a2, fin st' a1 a3 a4⟩) ?_ fun _ _ e => e)
    rintro ⟨⟨⟩, st'⟩ s' ⟨rfl, hf, ho⟩
    try dsimp only at ho ⊢
    exact keyJ_tail nk na hka (by rw [hsz]; exact hZ) (by rw [hol]; exact hZ) hf ho h
end
mutual
theorem dpEx {K : PySem.W.Frag} {H H' : Hp} (e : Ex H H') : ∀ {v : V} {d : D}, Dp K H v d → Dp K H' v d
  | _, _, .non => .non
  | _, _, .bl b => .bl b
  | _, _, .int i => .int i
  | _, _, .str x => .str x
  | _, _, .lst h r => .lst (sqL_ex e h) (dpExAll e r)
  | _, _, .tup h r => .tup (SqT.ext h e) (dpExAll e r)
theorem dpExAll {K : PySem.W.Frag} {H H' : Hp} (e : Ex H H') : ∀ {vs : List V} {ds : List D}, DpAll K H vs ds → DpAll K H' vs ds
  | _, _, .nil => .nil
  | _, _, .cons h r => .cons (dpEx e h) (dpExAll e r)
end
def noE : XK := fun _ _ _ => False
section
variable {prog : Program} {w : World} {A : Around} {E : Value → Shared → Prop} {s : Shared}
theorem collect_tupS {l : Addr} {vs : List Value} {Q : List Value → Shared → Prop} (hl : s.heap.IsTuple l vs.toArray)
    (h : Q vs { s with heap := (s.heap.push (seqObj "list" #[] 0)).update s.heap.objs.size (Obj.mapSeq (· ++ vs.toArray)) }) (hsz : vs.length ≤ sizeLine) :
    wpAny (model prog w) A (collect (.ref l)) Q E s := by
  obtain ⟨o, ho, hc, n, hd⟩ := id hl
  unfold collect
  refine wpAny_bind (wpAny_runValue (codeAny_builtin entry_proto_collect' ?_))
  show wpAny _ _ (do again (.builtin "list.__iadd__" ⟨[← newList [], .ref l], []⟩)) _ _ s
  refine wpAny_bind (wpAny_newList (wpAny_pure ⟨Code.quiet_builtin _ (by decide +kernel), codeAny_builtin entry_list_iadd' ?_⟩))
  show wpAny _ _ (Builtin.List.listExtendWith (.ref s.heap.objs.size) (.ref l) (.ref s.heap.objs.size)) _ _ { s with heap := s.heap.push (seqObj "list" #[] 0) }
  unfold Builtin.List.listExtendWith
  have ho' : (s.heap.push (seqObj "list" #[] 0)).get? l = some o := Heap.get?_push_of_some _ ho
  refine wpAny_bind (wpAny_typeOf (T := "tuple") ⟨o, ho', hc⟩ ?_)
  have ht : (Value.type "tuple" == Value.type "tuple") = true := by rfl
  rw [if_pos (by rw [ht]; simp)]
  refine wpAny_bind (listItems_at ho' hd ?_)
  refine wpAny_bind (listItems_at (xs := #[]) (n := 0) (Heap.get?_push_size _ rfl) rfl ?_)
  rw [if_neg (by simp)]
  refine wpAny_bind (listUpdate_at (xs := #[]) (n := 0) (Heap.get?_push_size _ rfl) rfl ?_ (Nat.zero_le _) (by show (#[] ++ vs.toArray).size ≤ sizeLine + 1; simp only [Array.size_append, List.size_toArray, List.length_nil]; omega))
  refine wpAny_pure ?_
  show wpAny (model prog w) A (do
      let o ← load s.heap.objs.size
      match o.data with
      | .seq xs _ => pure xs.toList
      | _ => unsupported "internal:collect") Q E { s with heap := (s.heap.push (seqObj "list" #[] 0)).update s.heap.objs.size (Obj.mapSeq (· ++ vs.toArray)) }
  refine wpAny_bind (wpAny_load (get?_update_seq (Heap.get?_push_size _ rfl) _) ?_)
  show wpAny _ _ (pure ((#[] : Array Value) ++ vs.toArray).toList) Q E _
  rw [show ((#[] : Array Value) ++ vs.toArray).toList = vs by simp]
  exact wpAny_pure h
theorem sorted_of_sortS {l : Addr} {vs : List Value} {kw : List (Str × Value)} {Q : Value → Shared → Prop} (hl : s.heap.IsList l vs.toArray ∨ s.heap.IsTuple l vs.toArray) (hL : vs.length ≤ sizeLine) (ha1 : argsOk "sorted" ⟨[.ref l], kw⟩) (ha2 : ∀ x, argsOk "list.sort" ⟨[.ref x], kw⟩)
    (body : ∀ E' : Value → Shared → Prop, wpAny (model prog w) A.in1.in1 (Builtin.«list.sort» ⟨[.ref (s.heap.objs.size + 1)], kw⟩) (fun f s' => f = .done (.ret .none) ∧ Q (.ref (s.heap.objs.size + 1)) s') E' { s with heap := copyHeap s.heap vs }) :
    wpAny (model prog w) A (call (.builtin "sorted") [.ref l] kw) Q E s := by
  rcases hl with hl | hl
  · exact sorted_of_sort hl hL ha1 ha2 body
  refine call_function_entry_kw kind_sorted plain_sorted entry_sorted ha1 ?_
  unfold Builtin.«sorted»
  refine wpAny_bind (m := checkCount "sorted" 1 1 _) (wpAny_pure ?_)
  refine wpAny_bind (collect_tupS hl ?_ hL)
  refine wpAny_bind (wpAny_newList ?_ hL)
  have hsz : ((s.heap.push (seqObj "list" #[] 0)).update s.heap.objs.size (Obj.mapSeq (· ++ vs.toArray))).objs.size = s.heap.objs.size + 1 := by
    rw [Heap.size_update, size_push']
  show wpAny _ _ _ _ _ { s with heap := copyHeap s.heap vs }
  rw [hsz]
  refine wpAny_bind (wpAny_holding (wpAny_call_entry_kw slot_list_sort ⟨_, copyHeap_at s.heap vs, rfl⟩ entry_list_sort ?body (ha2 _)))
  case body =>
    show wpAny (model prog w) A.in1.in1 (Builtin.«list.sort» ⟨[.ref (s.heap.objs.size + 1)], kw⟩) _ _ _
    refine wpAny_mono (body _) (fun f s' hf => ?_) fun _ _ e => e
    obtain ⟨rfl, hq⟩ := hf
    exact ⟨_, rfl, wpAny_pure ⟨_, rfl, hq⟩⟩
end
theorem each_take_snoc {α β : Type} {R : α → β → Prop} : ∀ {as : List α} {bs : List β} {a : α} {b : β}, EachIs R as bs → R a b → EachIs R (as ++ [a]) (bs ++ [b])
  | _, _, _, _, .nil, h => .cons h .nil
  | _, _, _, _, .cons q t, h => .cons q (each_take_snoc t h)
section
variable {X : Cx} {k : Nat} {f : Addr} {fd : FuncData} {ps : List Str} {sp : Sp}
def rSortedKey (K : PySem.W.Frag) (sp : Sp) (f : Addr) : List V → List V → Hp → VK → Prop := fun vs zs H Q => ∃ (a : Addr) (bs : List (V × D)), vs = [.ref a] ∧ zs = [.ref f] ∧ (SqL K H a (bs.map (·.1)) ∨ SqT K H a (bs.map (·.1))) ∧ okS (bs.map (·.2)) = true ∧
  (∀ b ∈ bs, ∀ Hi, Ex H Hi → sp [b.1] Hi (fun kv H2 => Ex Hi H2 ∧ Dp K H2 kv b.2) noE) ∧
  ∀ p H2, Ex H H2 → H p = none → H2 p = none → Q (.ref p) (upd H2 p (.lst ((bs.mergeSort (dataLe false sd)).map (·.1))))
theorem call_sortedKey (F : FnOk X.prog X.w X.K X.mg X.base (L2.CX X.prog X.w) k f fd ps sp) (hr : Room (k + 2) X.A) (hb : Binds X.K fd ps []) : CallRK X (.builtin "sorted") [Str.ofString "key"] (rSortedKey X.K sp f) := by
  intro pins s σ H vs zs us ws Q I r rz h
  obtain ⟨a, bs, rfl, rfl, hs, ok, hk, q⟩ := h
  obtain ⟨its, rv, hl⟩ : ∃ its : List Value, Vals (bs.map (·.1)) its ∧ (s.heap.IsList a its.toArray ∨ s.heap.IsTuple a its.toArray) := by
    rcases hs with hs | hs
    · obtain ⟨its, rv, hl, hz⟩ := I.list hs
      exact ⟨its, rv, .inl hl.isList⟩
    · obtain ⟨its, rv, hl, hz⟩ := I.tuple hs
      exact ⟨its, rv, .inr hl⟩
  obtain ⟨u, rfl, ru⟩ := vals1 r
  obtain rfl : u = Value.ref a := ru
  obtain ⟨u2, rfl, ru2⟩ := vals1 rz
  obtain rfl : u2 = Value.ref f := ru2
  have e1 : EachIs (fun u (b : V × D) => RelV b.1 u) its bs := each_of (H := H) (s := s) (K := X.K) rv
  have hlen : its.length = bs.length := e1.length
  have hL : its.length ≤ sizeLine := by
    have := okS_3 ok
    simp at this
    omega
  have hu := hr.units
  have hr1 : Room k X.A.in1.in1 := Room.in1 (Room.in1 hr)
  have fresh1 : s.heap.objs.size ≤ s.heap.objs.size + 1 := Nat.le_succ _
  have up0 : ∀ b o, s.heap.get? b = some o → (copyHeap s.heap its).get? b = some o := fun b o e => copyHeap_old e
  have I0 : Inv X pins σ H { s with heap := copyHeap s.heap its } := I.kept (t' := s.toks) up0
  refine sorted_of_sortS hl hL (ksk_s1 _ _) (fun _ => ksk_l1 _ _) fun E' => ?_
  show wpAny _ _ (Builtin.«list.sort» ⟨[.ref (s.heap.objs.size + 1)], [(Str.ofString "key", .ref f)]⟩) _ _ _
  rw [ksk_t1]
  generalize hS : s.heap.objs.size + 1 = S
  have hSat : (copyHeap s.heap its).get? S = some (seqObj "list" its.toArray 0) := by rw [← hS]; exact copyHeap_at s.heap its
  have fpS : FpOk X pins H S := I.fpOk (by omega) (I.hok.fresh (by omega))
  have Sl : S < (copyHeap s.heap its).objs.size := Heap.lt_size hSat
  obtain ⟨e1', ho1⟩ : ∃ e1, ((copyHeap s.heap its).update S (Obj.mapSeq fun _ => (#[] : Array Value))).get? S = some (seqObj "list" #[] e1) := ⟨_, get?_update_seq hSat fun _ => #[]⟩
  generalize hkSe : (copyHeap s.heap its).objs.size + 1 = kS
  have hkS : (((copyHeap s.heap its).update S (Obj.mapSeq fun _ => (#[] : Array Value))).push (seqObj "tuple" its.toArray 0)).objs.size = kS := by rw [size_push', Heap.size_update, hkSe]
  unfold ksk_tree
  refine wpAny_bind (listItems_at hSat rfl ?_)
  refine wpAny_bind (listUpdate_at hSat rfl ?_ (by rw [List.size_toArray]; exact hL) (Nat.zero_le _))
  refine wpAny_bind (seqEpoch_at ho1 rfl ?_)
  refine wpAny_bind (wpAny_newTuple ?_ (by show its.length ≤ _; exact hL))
  refine wpAny_bind (wpAny_newList ?_ (Nat.zero_le _))
  refine wpAny_holding ?_
  have fpK : FpOk X pins H kS := I0.fpOk (by show (copyHeap s.heap its).objs.size ≤ kS; omega) (I0.hok.fresh (by show (copyHeap s.heap its).objs.size ≤ kS; omega))
  have nkS : kS ≠ S := by omega
  have kp : ∀ b o, b ∉ [S] → (copyHeap s.heap its).get? b = some o → (sortingHeap (copyHeap s.heap its) S its).get? b = some o := fun b o hb e => sortingHeap_old (fun z => hb (by simp [z])) e
  have I1 : Inv X pins σ H { s with heap := sortingHeap (copyHeap s.heap its) S its } := L2.Inv.turnedL (s := { s with heap := copyHeap s.heap its }) (t' := s.toks) (ch := [S]) I0 kp (fun b hb => by
    rw [List.mem_singleton.mp hb]
    exact fpS)
  have nk0 : (sortingHeap (copyHeap s.heap its) S its).get? kS = some (seqObj "list" #[] 0) := by rw [← hkS]; exact Heap.get?_push_size _ rfl
  have na0 : (sortingHeap (copyHeap s.heap its) S its).get? S = some (seqObj "list" #[] e1') := Heap.get?_push_of_some _ (Heap.get?_push_of_some _ ho1)
  show wpAny _ _ (ksk_rest S (.ref f) false its.toArray e1' (.ref (((copyHeap s.heap its).update S (Obj.mapSeq fun _ => (#[] : Array Value))).push (seqObj "tuple" its.toArray 0)).objs.size)) _ _ { s with heap := sortingHeap (copyHeap s.heap its) S its }
  rw [hkS]
  unfold ksk_rest
  refine wpAny_bind (wpAny_rule ?_)
  first
    | rw [List.forIn_toArray]
    | (rw [← Array.forIn_toList]; simp only [List.toList_toArray])
    | rw [← Array.forIn_toList]
  refine wpAny_bind (ksk_fold (fun i s' => ∃ (Hi : Hp) (kA : Array Value) (ep : Nat), Inv X pins σ Hi s' ∧ Ex H Hi ∧ FpOk X pins Hi S ∧ FpOk X pins Hi kS ∧ s'.heap.get? kS = some (seqObj "list" kA ep) ∧ s'.heap.get? S = some (seqObj "list" #[] e1') ∧
      EachIs (fun v kd => ∃ kv, RelV kv v ∧ Dp X.K Hi kv kd) kA.toList ((bs.map (·.2)).take i)) its 0 _
    ⟨H, #[], 0, I1, .refl _, fpS, fpK, nk0, na0, by rw [List.take_zero]; exact EachIs.nil⟩ ?step ?done)
  case step =>
    rintro j x s' hx ⟨Hi, kA, ep, Ii, xi, fS, fK, nk, na, hkeys⟩
    simp only [Nat.zero_add] at hkeys ⊢
    have hj : j < its.length := (List.getElem?_eq_some_iff.mp hx).1
    obtain ⟨b, hbj⟩ : ∃ b, bs[j]? = some b := ⟨_, List.getElem?_eq_getElem (by omega)⟩
    have rb : RelV b.1 x := by
      have hz : (x, b) ∈ its.zip bs := List.mem_of_getElem? (i := j) (by rw [List.getElem?_zip_eq_some]; exact ⟨hx, hbj⟩)
      exact e1.zip _ hz
    have hsz : kA.size = j := by
      have h1 := hkeys.length
      rw [Array.length_toList, List.length_take, List.length_map] at h1
      omega
    have hsp := hk b (List.mem_of_getElem? hbj) Hi xi
    have Ip := Ii.pinned (fp := [S, kS]) (fun c hc => by
      rcases List.mem_cons.mp hc with z | z
      · rw [z]; exact fS
      · rw [List.mem_singleton.mp z]; exact fK) (fun c hc => by
      rcases List.mem_cons.mp hc with z | z
      · rw [z]; exact ⟨_, na, fun v q => nomatch q⟩
      · rw [List.mem_singleton.mp z]; exact ⟨_, nk, fun v q => nomatch q⟩)
    have e0 := Ip.env0
    have ev : Env0 X.prog X.w X.K X.mg X.base X.A.in1.in1 X.stack s' Hi := ⟨e0.frames, e0.mod, e0.bs, e0.bsz, e0.funs, e0.frf, e0.hok, e0.bare⟩
    have hlf := F.len _ _ _ _ hsp
    refine wpAny_bind (wpAny_attempt (wpAny_call (codeAny_mono (F.run X.A.in1.in1 X.stack s' Hi ⟨[x], []⟩ [x] [b.1] _ noE hr1 ev (by
      have := hb s' [x] Ip.kIn (by simpa using hlf)
      simpa using this) (.cons rb .nil) hsp) fun r s2 hq => ?_)))
    cases r with
    | error e =>
      obtain ⟨_, _, _, _, _, _, _, _, _, _, _, _, hF⟩ := hq
      exact hF.elim
    | ok fl =>
      cases fl with
      | next => exact False.elim hq
      | brk => exact False.elim hq
      | cont => exact False.elim hq
      | ret kw =>
        obtain ⟨kv, H2, I2, rk, x2, dk⟩ := Ip.after hq
        have pS := I2.pin (S, seqObj "list" #[] e1') (List.mem_append_right _ (List.mem_append_right _ (mem_pinsAt (List.mem_cons_self) na)))
        have pK := I2.pin (kS, seqObj "list" kA ep) (List.mem_append_right _ (List.mem_append_right _ (mem_pinsAt (List.mem_cons_of_mem _ List.mem_cons_self) nk)))
        have I2' := I2.unpinned
        have fS2 : FpOk X pins H2 S := ⟨pS.2.1, fS.2⟩
        have fK2 : FpOk X pins H2 kS := ⟨pK.2.1, fK.2⟩
        try dsimp only
        have s1 := Heap.SameBut.update s2.heap kS (Obj.mapSeq (·.push kw))
        obtain ⟨c2, hc2⟩ : ∃ c2, (s2.heap.update kS (Obj.mapSeq (·.push kw))).get? kS = some (seqObj "list" (kA.push kw) c2) := ⟨_, get?_update_seq pK.1 (·.push kw)⟩
        have ek : (bs.map (·.2)).take (j + 1) = (bs.map (·.2)).take j ++ [b.2] := by rw [List.take_add_one, List.getElem?_map, hbj]; simp
        have ea : (kA.push kw).toList = kA.toList ++ [kw] := by simp
        refine wpAny_bind (listUpdate_at pK.1 rfl ?_ (by rw [hsz]; omega) (by show (kA.push kw).size ≤ sizeLine + 1; rw [Array.size_push, hsz]; omega))
        refine wpAny_pure ⟨rfl, H2, kA.push kw, c2, ?_, xi.trans x2, fS2, fK2, hc2, (s1.2 S nkS.symm).trans pS.1, ?_⟩
        · exact I2'.turnedL (t' := s2.toks) (ch := [kS]) (fun c o hc e => (s1.2 c (fun z => hc (by simp [z]))).trans e) (fun c hc => by
            rw [List.mem_singleton.mp hc]
            exact fK2)
        · rw [ea, ek]
          exact each_take_snoc (hkeys.mono fun v kd ⟨kv', r1, r2⟩ => ⟨kv', r1, dpEx x2 r2⟩) ⟨kv, rk, dk⟩
  case done =>
    rintro s' ⟨Hi, kA, ep, Ii, xi, fS, fK, nk, na, hkeys⟩
    have e3 : (bs.map (·.2)).take (0 + its.length) = bs.map (·.2) := List.take_of_length_le (by rw [List.length_map]; omega)
    rw [e3] at hkeys
    have hk' : EachIs (fun v kd => ∃ as, Reads s'.heap v kd as) kA.toList (bs.map (·.2)) := hkeys.mono fun v kd ⟨kv, r1, r2⟩ => Dp.reads Ii _ _ _ r2 r1
    have hsz : kA.size = its.length := by
      have h1 := hk'.length
      rw [Array.length_toList, List.length_map] at h1
      omega
    try dsimp only
    refine wpAny_bind (listItems_at nk rfl ?_)
    have hS' : SortsAt X.prog X.w X.A.in1.in1 s' (dataKind s'.heap (bs.map (·.2))) kA.toList := SortsAt.data hk' (okS_1 ok) (okS_2 ok) fun d hd => by
      have := (okS_4 ok hd).2
      show X.A.units + 1 + 1 + d.depth < cLine
      omega
    refine keyJ_end (κ := dataKind s'.heap (bs.map (·.2))) nk na nkS hS' hsz hL fun h3 tk3 c k3 n3 => ?_
    have ko : KeyedOut false (bs.map (·.2)) its (sortVals (dataKind s'.heap (bs.map (·.2))) false kA.toList its) := ⟨s'.heap, kA.toList, okS_1 ok, rfl, hk'⟩
    have eo := keyedOut_each (R := fun u (b : V × D) => RelV b.1 u) (·.2) ko e1
    have hol : (sortVals (dataKind s'.heap (bs.map (·.2))) false kA.toList its).length = its.length := sortVals_length false (by rw [Array.length_toList]; exact hsz)
    have I3 : Inv X pins σ Hi { s' with heap := h3, toks := tk3 } := Ii.turnedL (t' := tk3) (ch := [S, kS]) (fun c o hc e => k3 c o (fun z => hc (by simp [z])) (fun z => hc (by simp [z])) e) (fun c hc => by
      rcases List.mem_cons.mp hc with z | z
      · rw [z]; exact fS
      · rw [List.mem_singleton.mp z]; exact fK)
    have hll : ((bs.mergeSort (dataLe false sd)).map (·.1)).length ≤ sizeLine := by
      simp
      omega
    have I4 := I3.take (h' := h3) (t' := tk3) (it := S) (o := .lst ((bs.mergeSort (dataLe false sd)).map (·.1))) (fun _ _ _ e => e) fS ⟨hll, _, c, vals_each eo, n3⟩
    exact ⟨rfl, .ref S, _, I4, rfl, q S Hi xi (I.hok.fresh (by omega)) fS.1⟩
end

/-! ### sorted(xs, key=f) of data -/
def keysG (g : List Slot → R Val) : List D → Option (List D)
  | [] => some []
  | d :: ds => match g [.val d], keysG g ds with
    | .ok (.f k) _, some ks => some (k :: ks)
    | _, _ => none
def sortKF (g : List Slot → R Val) (Γ : Gam) (v : Val) : R Val := match viewD Γ v with
  | some (.list ds) => match keysG g ds with
    | some ks => if okS ks = true then .ok (.n (.ol ((srt (dataLe false fun p : D × D => p.2) (ds.zip ks)).map (·.1)))) Γ else .stuck
    | none => .stuck
  | some (.tuple ds) => match keysG g ds with
    | some ks => if okS ks = true then .ok (.n (.ol ((srt (dataLe false fun p : D × D => p.2) (ds.zip ks)).map (·.1)))) Γ else .stuck
    | none => .stuck
  | _ => .stuck
def sortKM (g : List Slot → R Val) (m : Gam → R Val) : Gam → R Val := fun Γ => (rd m Γ).bind fun v Γ1 => sortKF g Γ1 v
theorem keysG_len {g : List Slot → R Val} : ∀ {ds ks : List D}, keysG g ds = some ks → ks.length = ds.length
  | [], _, h => by
    cases h
    rfl
  | d :: ds, ks, h => by
    simp only [keysG] at h
    split at h
    · rename_i k _ ks' _ h2
      cases h
      simp [keysG_len h2]
    · cases h
theorem keysG_at {g : List Slot → R Val} : ∀ {ds ks : List D}, keysG g ds = some ks → ∀ (i : Nat) (d k : D), ds[i]? = some d → ks[i]? = some k → ∃ As, g [.val d] = .ok (.f k) As
  | [], _, h, i, d, k, e, _ => by simp at e
  | x :: ds, ks, h, i, d, k, e1, e2 => by
    simp only [keysG] at h
    split at h
    · rename_i k0 As ks' h1 h2
      cases h
      cases i with
      | zero =>
        simp at e1 e2
        subst e1 e2
        exact ⟨_, h1⟩
      | succ i => exact keysG_at h2 i d k (by simpa using e1) (by simpa using e2)
    · cases h
theorem dataLe_sd (p q : V × D) : dataLe false sd p q = dLe p.2 q.2 := rfl
section
variable {X : Cx} {M : Pm} {E : XK} {e : Expr} {m : Gam → R Val} {p p2 kpos pos : Pos} {cls : Str → Addr} {a0 : Option Addr} {k : Nat} {x : Str} {g : List Slot → R Val}
/-- three lists in step: sorted by the last -/
theorem sort_step {cls : Str → Addr} {F : Hp} {vs : List V} {ds ks : List D} (r : RepAll cls F vs ds) (hl : ks.length = ds.length) :
    RepAll cls F (((vs.zip ks).mergeSort (dataLe false sd)).map (·.1)) (((ds.zip ks).mergeSort (dataLe false fun p : D × D => p.2)).map (·.1)) := by
  have hlv := r.length
  -- sort triples
  let T : List (V × D × D) := vs.zip (ds.zip ks)
  have h1 : (T.mergeSort (dataLe false fun t : V × D × D => t.2.2)).map (fun t => (t.1, t.2.2)) = (vs.zip ks).mergeSort (dataLe false sd) := by
    have eT : T.map (fun t => (t.1, t.2.2)) = vs.zip ks := by
      apply List.ext_getElem?
      intro i
      simp only [T, List.getElem?_map, List.zip_eq_zipWith, List.getElem?_zipWith]
      cases h1 : vs[i]? <;> cases h2 : ds[i]? <;> cases h3 : ks[i]? <;> simp
      · exact absurd h2 (by
          have a1 := (List.getElem?_eq_some_iff.mp h1).1
          rw [List.getElem?_eq_none_iff]
          omega)
    rw [← eT, List.map_mergeSort (r := dataLe false fun t : V × D × D => t.2.2) (s := dataLe false sd) (f := fun t : V × D × D => (t.1, t.2.2)) (hl := fun a _ b _ => rfl)]
  have h2 : (T.mergeSort (dataLe false fun t : V × D × D => t.2.2)).map (fun t => (t.2.1, t.2.2)) = (ds.zip ks).mergeSort (dataLe false fun p : D × D => p.2) := by
    have eT : T.map (fun t => (t.2.1, t.2.2)) = ds.zip ks := by
      apply List.ext_getElem?
      intro i
      simp only [T, List.getElem?_map, List.zip_eq_zipWith, List.getElem?_zipWith]
      cases h1 : vs[i]? <;> cases h2 : ds[i]? <;> cases h3 : ks[i]? <;> simp
      · exact absurd h1 (by
          have a1 := (List.getElem?_eq_some_iff.mp h2).1
          rw [List.getElem?_eq_none_iff]
          omega)
    rw [← eT, List.map_mergeSort (r := dataLe false fun t : V × D × D => t.2.2) (s := dataLe false fun p : D × D => p.2) (f := fun t : V × D × D => (t.2.1, t.2.2)) (hl := fun a _ b _ => rfl)]
  rw [← h1, ← h2, List.map_map, List.map_map]
  have hT : ∀ t ∈ T, Rep cls F t.1 t.2.1 := by
    intro t ht
    obtain ⟨i, hi⟩ := List.mem_iff_getElem?.mp ht
    have := List.getElem?_zip_eq_some.mp hi
    have h4 := List.getElem?_zip_eq_some.mp this.2
    exact r.get i _ _ this.1 h4.1
  generalize hW : T.mergeSort (dataLe false fun t : V × D × D => t.2.2) = W
  have hW2 : ∀ t ∈ W, Rep cls F t.1 t.2.1 := fun t ht => hT t (by
    rw [← hW] at ht
    exact (List.mergeSort_perm _ _).mem_iff.mp ht)
  clear hW
  induction W with
  | nil => exact .nil
  | cons t W ih => exact .cons (hW2 t List.mem_cons_self) (ih fun u hu => hW2 u (List.mem_cons_of_mem _ hu))
theorem key_turn {K : PySem.W.Frag} {F : Hp} {v : V} {d kd : D} {As : List Slot} {Hi : Hp} (fh : Ex F Hi) (r : Rep cls F v d) (hg : g [.val d] = .ok (.f kd) As) (hp : kd.plain = true) :
    spG ⟨K, cls, none⟩ g [v] Hi (fun kv H2 => Ex Hi H2 ∧ Dp K H2 kv kd) noE := by
  have sA := args_state (M := ⟨K, cls, none⟩) fh (RepAll.cons r .nil)
  refine ⟨[.val d], F, _, sA, ?_⟩
  rw [hg]
  intro x F' H' own' s1 st1 rv
  exact ⟨fun a o h => st1.hh a o h fun _ z => z.elim, dp_up s1.fh rv hp⟩
theorem e_sortK (C : FnC X.prog X.w X.K X.mg X.base cls x k g) (hr : Room (k + 2) X.A) (hg : Gl X "sorted") (hm : X.mg "sorted" = none) (hgx : Gl X x) (he : PE X e (tE ⟨X.K, cls, a0⟩ E m)) (hdx : (x == ("__debug__" : Str)) = false := by decide)
    (hst : starEach [e] X.env = [(false, eval e X.env)] := by rfl)
    (hb : backTo pos (starEach [e] X.env) = (false, eval e X.env) :: backTo pos (starEach [] X.env) := by rfl) (hpl : (backTo pos (starEach [e] X.env)).any (·.1) = false := by rfl)
    (hall : (backToKw pos (keywordEach [⟨some "key", .Name x p2, kpos⟩] X.env)).all (·.1.isSome) = true := by rfl) (hnone : (backToKw pos (keywordEach [⟨some "key", .Name x p2, kpos⟩] X.env)).any (·.1.isNone) = false := by rfl) (hks : (backToKw pos (keywordEach [⟨some "key", .Name x p2, kpos⟩] X.env)).filterMap (·.1) = [Str.ofString "key"] := by rfl) :
    PE X (.Call (.Name "sorted" p) [e] [⟨some "key", .Name x p2, kpos⟩] pos) (tE ⟨X.K, cls, a0⟩ E (sortKM g m)) := by
  obtain ⟨f, fd, ps, F, hf, hk, hbi⟩ := C
  refine PE_weak (pe_callBK (call_sortedKey F hr hbi) hg hm PyProof.Rows.boot_sorted (pa_cons (pe_rd he) pa_nil hst) (pk_cons (pe_gcD (v := .ref f) hgx ⟨.ref f, hf, rfl⟩ hdx) pk_nil) (by decide) (by decide) hb hpl hall hnone hks) fun σ H Q q => ?_
  obtain ⟨Γ, Fh, own, st, p⟩ := q
  refine ⟨Γ, Fh, own, st, post_bind p fun F1 H1 own1 Γ1 v va _ st1 s1 r1 p1 => ?_⟩
  show rSortedKey X.K _ f [v] [.ref f] H1 Q
  have main : ∀ {vs : List V} {ds ks : List D} {a : Addr}, v = .ref a → (SqL X.K H1 a vs ∨ SqT X.K H1 a vs) → RepAll cls F1 vs ds → keysG g ds = some ks → okS ks = true →
      PostG (relV ⟨X.K, cls, a0⟩) ⟨X.K, cls, a0⟩ E σ Fh H own Q (.ok (.n (.ol (((ds.zip ks).mergeSort (dataLe false fun p : D × D => p.2)).map (·.1)))) Γ1) → rSortedKey X.K (spG ⟨X.K, cls, none⟩ g) f [v] [.ref f] H1 Q := fun {vs ds ks a} e1 h1 h2 h3 ok p2 => by
    subst e1
    have hlk := keysG_len h3
    have hlv := h2.length
    have z1 : (vs.zip ks).map (·.1) = vs := by rw [List.map_fst_zip]; omega
    have z2 : (vs.zip ks).map (·.2) = ks := by rw [List.map_snd_zip]; omega
    refine ⟨a, vs.zip ks, rfl, rfl, by rw [z1]; exact h1, by rw [z2]; exact ok, fun b hb Hi xi => ?_, fun q H2 x2 n1 n2 => ?_⟩
    · obtain ⟨i, hi⟩ := List.mem_iff_getElem?.mp hb
      obtain ⟨q1, q2⟩ := List.getElem?_zip_eq_some.mp hi
      obtain ⟨d, q3, q4⟩ := h2.at' i _ q1
      obtain ⟨As, q5⟩ := keysG_at h3 i d b.2 q3 q2
      exact key_turn (st1.fh.trans xi) q4 q5 (okS_4 ok (List.mem_of_getElem? q2)).1
    · have G : Grow F1 H1 F1 (upd H2 q (.lst (((vs.zip ks).mergeSort (dataLe false sd)).map (·.1)))) := ⟨.refl _, x2.trans (.new n2), st1.fh.trans (x2.trans (.new n2)), fun _ h _ => h⟩
      refine p2 _ _ _ own1 (st1.grow G) (s1.trans (G.step own1)) ⟨fun c => c = q, ⟨q, _, rfl, fun c => Iff.rfl, upd_same, sort_step h2 hlk⟩, fun c hc => ?_⟩
      have hc : c = q := hc
      subst hc
      refine ⟨st1.fh.back n1, by rw [upd_same]; simp, fun i hi => st1.there i c hi n1, ?_⟩
      cases e0 : H c with
      | none => rfl
      | some o => exact absurd n1 (s1.al c (by rw [e0]; simp))
  unfold sortKF at p1
  split at p1
  · rename_i ds hv
    obtain ⟨l, vs, rfl, h1, h2⟩ := view_list st1 r1 hv
    split at p1
    · rename_i ks hks'
      split at p1
      · rename_i ok
        rw [srt_eq] at p1
        exact main rfl (.inl h1) h2 hks' ok p1
      · exact p1.elim
    · exact p1.elim
  · rename_i ds hv
    obtain ⟨l, vs, rfl, _, h1, h2⟩ := view_tup st1 r1 hv
    split at p1
    · rename_i ks hks'
      split at p1
      · rename_i ok
        rw [srt_eq] at p1
        exact main rfl (.inr h1) h2 hks' ok p1
      · exact p1.elim
    · exact p1.elim
  · exact p1.elim
end
end DL
end

section
set_option Elab.async false
set_option linter.all false
set_option maxRecDepth 100000
set_option autoImplicit false
set_option maxHeartbeats 1000000
/-! DL26: the dict in a basis, the lists of a pairing. -/
namespace DL
open PySem PySem.Spec PyProof.Rows L2
def kdOf : D → Option (List (Key × D))
  | .dict ((.none, .int 0) :: r) => prsK r
  | _ => none
theorem kdOf_some {d : D} {kds : List (Key × D)} (h : kdOf d = some kds) : d = dicK kds := by
  unfold kdOf at h
  split at h
  · rw [prsK_some h]
    rfl
  · cases h
@[simp] theorem kdOf_dicK (kds : List (Key × D)) : kdOf (dicK kds) = some kds := prsK_map kds
/-- the dict `kept` of the object in slot 0 -/
def keptOf (Γ : Gam) : Option (List (Key × D)) := match Γ[(0 : Nat)]? with
  | some (.box 1 _ d) => kdOf d
  | some (.one (.fz d)) => match decI d with
    | some (c, [(f, dk)]) => if c = "Basis" ∧ f = "kept" then kdOf dk else none
    | _ => none
  | _ => none
section
variable {M : Pm} {Γ : Gam} {σ : L2.St} {F H : Hp} {own : Own}
theorem kept_at (s : StR M Γ σ F H own) {kds : List (Key × D)} (h : keptOf Γ = some kds) : ∃ a dx k kvs, σ[0]? = some (some (.ref a)) ∧ H a = some (.ins (M.cls "Basis") dx [("kept", .ref k)]) ∧ H k = some (.dK kvs) ∧ kvs.map (·.1) = kds.map (·.1) ∧ RepAll M.cls F (kvs.map (·.2)) (kds.map (·.2)) := by
  unfold keptOf at h
  split at h
  · rename_i pin d hs
    obtain ⟨a, h0, _, hb⟩ := s.slot 0 _ hs
    generalize hn : (1 : Nat) = n at hb
    cases hb with
    | rng => cases hn
    | par => cases hn
    | bas h1 h2 h3 h4 h5 h6 =>
      rw [kdOf_dicK] at h
      cases h
      exact ⟨_, _, _, _, h0, h1, h2, h3, h4⟩
  · rename_i d hs
    obtain ⟨v, h0, _, hr⟩ := s.slot 0 _ hs
    split at h
    · rename_i c f dk hd
      split at h
      · rename_i hc
        obtain ⟨rfl, rfl⟩ := hc
        rw [decI_some hd] at hr
        obtain ⟨a, dx, fs, rfl, h1, h2, h3⟩ := Rep.invI hr
        have hfs : ∃ v, fs = [(("kept" : Str), v)] := by
          cases fs with
          | nil => simp at h2
          | cons p r =>
            cases r with
            | nil =>
              obtain ⟨n, v⟩ := p
              simp at h2
              exact ⟨v, by rw [h2]⟩
            | cons q r => simp at h2
        obtain ⟨v, rfl⟩ := hfs
        cases h3 with
        | cons h4 h5 =>
          rw [kdOf_some h] at h4
          obtain ⟨k, kvs, rfl, h6, h7, h8⟩ := Rep.invK h4
          exact ⟨a, dx, k, kvs, h0, s.fh _ _ h1, s.fh _ _ h6, h7, h8⟩
      · cases h
    · cases h
  · cases h
end
section
variable {X : Cx} {M : Pm} {E : XK} {e o : Expr} {es : List Expr} {me : Gam → R Val} {p pos apos : Pos} {op : CmpOp}
/-- x in self.kept -/
def kinM (m : Gam → R Val) : Gam → R Val := fun Γ => (rd m Γ).bind fun v Γ1 => match v with
  | .f d => match keyOf d, keptOf Γ1 with
    | some k, some kds => .ok (.f (.bool (look kds k).isSome)) Γ1
    | _, _ => .stuck
  | _ => .stuck
theorem tE_kin {σ : L2.St} {H : Hp} {Q : VK} (hA : AttrOk M "Basis" "kept") (q : tE M E (kinM me) σ H Q) : tD M E (rd me) σ H fun x H1 => tFld M.K (tVar 0) "kept" σ H1 fun y H2 => rInDict false x y H2 Q := by
  obtain ⟨Γ, F, own, st, p⟩ := q
  refine ⟨Γ, F, own, st, post_bind p fun F1 H1 own1 Γ1 x v _ st1 s1 r1 p1 => ?_⟩
  cases v with
  | f d =>
    simp only at p1
    split at p1
    · rename_i k kds hk hkd
      obtain ⟨a, dx, kA, kvs, h0, h1, h2, h3, h4⟩ := kept_at st1 hkd
      refine ⟨_, h0, a, _, dx, _, .ref kA, rfl, h1, hA.cl, hA.no, rfl, ?_⟩
      obtain ⟨o, g, ro⟩ := dget_k (.inl h2) h3 h4 r1 hk
      refine ⟨kA, o, rfl, g, ?_⟩
      rw [if_neg (by decide), ro.isSome]
      exact post_now st1 s1 p1 (.bl _)
    · exact p1.elim
  | b i => exact p1.elim
  | n f => exact r1.elim
  | nc c f => exact r1.elim
  | nb n f => exact r1.elim
theorem e_kin (hu : X.A.units + 64 < cLine) (hA : AttrOk M "Basis" "kept") (hK : X.K = M.K) (hv : PE X o (tVar 0)) (he : PE X e (tE M E me)) (hm : behindInMarks .In (.Attribute o "kept" apos) = false) (hb : attributeBase o "kept" X.env (eval o X.env) = eval o X.env := by rfl) :
    PE X (.Compare e [.In] [.Attribute o "kept" apos] pos) (tE M E (kinM me)) :=
  PE_weak (pe_cmpR (op_inDict hu) (pe_rd he) (pe_fld hv hb) hm) fun _ _ _ q => by rw [hK]; exact tE_kin hA q
theorem t_kin (hu : X.A.units + 64 < cLine) (hA : AttrOk M "Basis" "kept") (hK : X.K = M.K) (hv : PE X o (tVar 0)) (he : PE X e (tE M E me)) (hm : behindInMarks .In (.Attribute o "kept" apos) = false) (hb : attributeBase o "kept" X.env (eval o X.env) = eval o X.env := by rfl) :
    PT X (.Compare e [.In] [.Attribute o "kept" apos] pos) (tT M E (testM (kinM me))) :=
  PT_weak (pt_cmpR (op_inDict hu) (pe_rd he) (pe_fld hv hb) hm) fun _ _ _ q => by rw [hK]; exact tE_kin hA (tT_down q)
/-- len(self.kept) -/
def klenM : Gam → R Val := fun Γ => match keptOf Γ with
  | some kds => .ok (.f (.int kds.length)) Γ
  | none => .stuck
theorem e_klen (hA : AttrOk M "Basis" "kept") (hK : X.K = M.K) (hv : PE X o (tVar 0)) (hg : Gl X "len") (hm : X.mg "len" = none) (hb : attributeBase o "kept" X.env (eval o X.env) = eval o X.env := by rfl)
    (hs : starEach [.Attribute o "kept" apos] X.env = [(false, eval (.Attribute o "kept" apos) X.env)] := by rfl)
    (hpl : (backTo pos (starEach [] X.env)).any (·.1) = false := by rfl) : PE X (.Call (.Name "len" p) [.Attribute o "kept" apos] [] pos) (tE M E klenM) :=
  PE_weak (pe_callB call_lenD hg hm PySem.boot_len (pa_cons (pe_fld hv hb) pa_nil hs)) fun σ H Q q => by
    obtain ⟨Γ, F, own, st, p⟩ := q
    unfold klenM at p
    split at p
    · rename_i kds hkd
      obtain ⟨a, dx, kA, kvs, h0, h1, h2, h3, h4⟩ := kept_at st hkd
      refine ⟨_, h0, a, _, dx, _, .ref kA, rfl, h1, by rw [hK]; exact hA.cl, by rw [hK]; exact hA.no, rfl, kA, kvs, rfl, h2, ?_⟩
      have hl : kvs.length = kds.length := by
        have := congrArg List.length h3
        simpa using this
      rw [hl]
      exact p _ F H own st (.refl _ _ _) (.int _)
    · exact p.elim
/-! ### f(x) of a def that keeps everything -/
theorem spG_val {M : Pm} {Γ : Gam} {σ : L2.St} {F H : Hp} {own : Own} {g : List Slot → R Val} {v : V} {d r : D} {As : List Slot} {Q : VK} (s : StR M Γ σ F H own) (rv : Rep M.cls F v d) (e : g [.val d] = .ok (.f r) As)
    (h : ∀ x F' H', Grow F H F' H' → Rep M.cls F' x r → Q x H') : spG ⟨M.K, M.cls, none⟩ g [v] H Q E := by
  have sA := args_state (M := ⟨M.K, M.cls, none⟩) s.fh (RepAll.cons rv .nil)
  refine ⟨[.val d], F, _, sA, ?_⟩
  rw [e]
  intro x F' H' own' s1 st1 rv'
  exact h x F' H' ⟨st1.ff, fun a o q => st1.hh a o q fun _ z => z.elim, s1.fh, fun a h1 h2 => st1.nf a h1 h2 fun _ z => z.elim⟩ rv'
theorem pe_pure1 {i : Nat} {x : Str} {k : Nat} {g : List Slot → R Val} {cls : Str → Addr} (C : FnC X.prog X.w X.K X.mg X.base cls x k g) (hr : Room k X.A) (hg : Gl X x) (hx : Passes (L2.CX X.prog X.w) X E) (hv : PE X e (tVar i)) (hdb : (x == ("__debug__" : Str)) = false := by decide)
    (hs : starEach [e] X.env = [(false, eval e X.env)] := by rfl) (hpl : (backTo pos (starEach [] X.env)).any (·.1) = false := by rfl) :
    PE X (.Call (.Name x p) [e] [] pos) (fun σ H Q => ∃ v, σ[i]? = some (some v) ∧ spG ⟨X.K, cls, none⟩ g [v] H Q E) := by
  obtain ⟨f, fd, ps, F, hm, hk, hb⟩ := C
  exact pe_call F hr hg hm hk hb .nil hx (pa_cons hv pa_nil hs) hdb hs hpl
/-- self.kept[f(x)] -/
def kgetM (g : List Slot → R Val) (i : Nat) : Gam → R Val := fun Γ => match Γ[i]? with
  | some (.one (.fz d)) => match g [.val d] with
    | .ok (.f r) _ => match keyOf r, keptOf Γ with
      | some k, some kds => match look kds k with
        | some v => .ok (.f v) Γ
        | none => .stuck
      | _, _ => .stuck
    | _ => .stuck
  | _ => .stuck
theorem e_kget {i : Nat} {x : Str} {k : Nat} {g : List Slot → R Val} {cls : Str → Addr} {a0 : Option Addr} {cpos : Pos} (C : FnC X.prog X.w X.K X.mg X.base cls x k g) (hr : Room k X.A) (hg : Gl X x) (hx : Passes (L2.CX X.prog X.w) X E) (hA : AttrOk ⟨X.K, cls, a0⟩ "Basis" "kept") (hv0 : PE X o (tVar 0)) (hv : PE X e (tVar i)) (hdb : (x == ("__debug__" : Str)) = false := by decide)
    (hb : attributeBase o "kept" X.env (eval o X.env) = eval o X.env := by rfl) (hp : PlainIx (.Call (.Name x p) [e] [] cpos) := by intro _ _; rfl)
    (hs : starEach [e] X.env = [(false, eval e X.env)] := by rfl) (hpl : (backTo cpos (starEach [] X.env)).any (·.1) = false := by rfl) :
    PE X (.Subscript (.Attribute o "kept" apos) (.Call (.Name x p) [e] [] cpos) pos) (tE ⟨X.K, cls, a0⟩ E (kgetM g i)) :=
  PE_weak (pe_ix (ix_dict hr.units) (pe_fld hv0 hb) (pe_pure1 C hr hg hx hv hdb hs hpl) hp) fun σ H Q q => by
    obtain ⟨Γ, F, own, st, p⟩ := q
    unfold kgetM at p
    split at p
    · rename_i d hi
      obtain ⟨v, hvi, _, rv⟩ := st.slot i _ hi
      split at p
      · rename_i r As hgr
        split at p
        · rename_i k kds hk hkd
          obtain ⟨a, dx, kA, kvs, h0, h1, h2, h3, h4⟩ := kept_at st hkd
          split at p
          · rename_i w hw
            refine ⟨_, h0, a, _, dx, _, .ref kA, rfl, h1, hA.cl, hA.no, rfl, v, hvi, spG_val st rv hgr fun y F' H' G ry => ?_⟩
            obtain ⟨o', g', ro⟩ := dget_k (.inl (G.hh _ _ h2)) h3 (h4.mono G.ff) ry hk
            rw [hw] at ro
            obtain ⟨w', rfl, rw'⟩ := repO_some ro
            exact ⟨kA, w', rfl, g', p _ F' H' own (st.grow G) (G.step own) rw'⟩
          · exact p.elim
        · exact p.elim
      · exact p.elim
    · exact p.elim
/-! ### writes within a slot's own objects -/
theorem StR.wr {Γ : Gam} {σ : L2.St} {F H H' : Hp} {own : Own} {i : Nat} {x : Slot} {o : Ow} (s : StR M Γ σ F H own) (hi : i < Γ.length) (hk : ∀ a u, H a = some u → ¬ own i a → H' a = some u) (hal : ∀ a, H a ≠ none → H' a ≠ none) (ho : ∀ a, o a → F a = none) (ht : ∀ a, o a → H' a ≠ none)
    (hd : ∀ a, o a → own i a ∨ H a = none) (h : SlotR M F H' o σ[i]? x) : StR M (Γ.set i x) σ F H' (putO own i o) ∧ Step F H own F H' (putO own i o) := ⟨s.write hi hk ho ht hd h, Step.write hk hal hd⟩
/-- self.kept[f(x)] = e -/
def kputM (g : List Slot → R Val) (i : Nat) (me : Gam → R Val) : Gam → RS := fun Γ => stm (fzL me Γ) fun d Γ1 => match Γ1[(0 : Nat)]? with
  | some (.box 1 pin dk) => match Γ1[i]? with
    | some (.one (.fz di)) => match g [.val di] with
      | .ok (.f r) _ => match keyOf r, kdOf dk with
        | some k, some kds => if kds.length < sizeLine then .nx (Γ1.set 0 (.box 1 pin (dicK (put kds k d)))) else .stuck
        | _, _ => .stuck
      | _ => .stuck
    | _ => .stuck
  | _ => .stuck
theorem s_kput {i : Nat} {x : Str} {k : Nat} {g : List Slot → R Val} {cls : Str → Addr} {a0 : Option Addr} {cpos pn : Pos} {value : Expr} (C : FnC X.prog X.w X.K X.mg X.base cls x k g) (hr : Room k X.A) (hg : Gl X x) (hx : Passes (L2.CX X.prog X.w) X E) (hA : AttrOk ⟨X.K, cls, a0⟩ "Basis" "kept") (hv0 : PE X o (tVar 0)) (hv : PE X e (tVar i)) (he : PE X value (tE ⟨X.K, cls, a0⟩ E me)) (hdb : (x == ("__debug__" : Str)) = false := by decide)
    (hb : attributeBase o "kept" X.env (eval o X.env) = eval o X.env := by rfl) (hsw : swapsWith value (some (.Subscript (.Attribute o "kept" apos) (.Call (.Name x pn) [e] [] cpos) p)) pos.line X.env = pure false := by rfl)
    (hs : starEach [e] X.env = [(false, eval e X.env)] := by rfl) (hpl : (backTo cpos (starEach [] X.env)).any (·.1) = false := by rfl) :
    PS X (.Assign [.Subscript (.Attribute o "kept" apos) (.Call (.Name x pn) [e] [] cpos) p] value pos) (tS ⟨X.K, cls, a0⟩ E (kputM g i me)) :=
  PS_weak (ps_dput (by have := hr.units; omega) (pe_fld hv0 hb) (pe_pure1 C hr hg hx hv hdb hs hpl) (pe_fz he) hsw) fun D σ H ⟨Γ, F, own, s, q⟩ =>
  ⟨Γ, F, own, s, post_stm q fun F1 H1 own1 Γ1 z d _ s1 st1 rz p => by
    split at p
    · rename_i pin dk hs0
      split at p
      · rename_i di hi
        split at p
        · rename_i r As hgr
          split at p
          · rename_i k kds hk hkd
            split at p
            · rename_i hz
              rw [kdOf_some hkd] at hs0
              obtain ⟨a, h0, hp, hbx⟩ := s1.slot 0 _ hs0
              generalize hn : (1 : Nat) = n at hbx
              generalize hdk : dicK kds = dd at hbx
              cases hbx with
              | rng => cases hn
              | par => cases hn
              | bas h1 h2 h3 h4 h5 h6 =>
                rename_i dx kA kvs kds'
                have hkk : kds' = kds := by
                  have := congrArg kdOf hdk
                  rw [kdOf_dicK, kdOf_dicK] at this
                  exact (Option.some.inj this).symm
                subst hkk
                obtain ⟨v, hvi, _, rv⟩ := s1.slot i _ hi
                refine ⟨_, h0, a, _, dx, _, .ref kA, rfl, h1, hA.cl, hA.no, rfl, v, hvi, spG_val s1 rv hgr fun y F' H' G ry => ?_⟩
                have s2 := s1.grow G
                have hlen : kvs.length = kds'.length := by
                  have := congrArg List.length h3
                  simpa using this
                rw [rep_key ry hk]
                refine ⟨kA, _, rfl, .k (G.hh _ _ h2) (by omega), ?_⟩
                have hownk : own1 0 kA := (h6 kA).mpr (.inr rfl)
                have hk' : ∀ b u, H' b = some u → ¬ own1 0 b → upd H' kA (.dK (putK kvs k z)) b = some u := fun b u q n => by
                  rw [upd_ne (fun e => n (by rw [e]; exact hownk))]
                  exact q
                have hal : ∀ b, H' b ≠ none → upd H' kA (.dK (putK kvs k z)) b ≠ none := fun b q => by
                  by_cases e : b = kA
                  · rw [e, upd_same]; simp
                  · rw [upd_ne e]; exact q
                have w := s2.wr (i := 0) (x := .box 1 pin (dicK (put kds' k d))) (o := own1 0) (s2.lt hs0) hk' hal (s2.free 0) (fun b hb => hal b (s2.there 0 b hb)) (fun b hb => .inl hb) (by
                  refine ⟨a, h0, hp, ?_⟩
                  exact .bas (by rw [upd_ne (Ne.symm h5)]; exact G.hh _ _ h1) upd_same (put_keys h3 k z d) (put_rep h3 (h4.mono G.ff) k (rz.mono G.ff)) h5 h6)
                exact p _ F' _ _ w.1 ((st1.trans (G.step own1)).trans w.2)
            · exact p.elim
          · exact p.elim
        · exact p.elim
      · exact p.elim
    · exact p.elim⟩
/-- self.kept = {} -/
def kinitM : Gam → RS := fun Γ => match Γ[(0 : Nat)]? with
  | some (.cmp c pin []) => if c = "Basis" then .nx (Γ.set 0 (.box 1 pin (dicK []))) else .stuck
  | _ => .stuck
theorem s_kinit {p1 p2 : Pos} (hA : AttrOk M "Basis" "kept") (hK : X.K = M.K) (hv0 : PE X o (tVar 0)) (hsw : swapsWith (.Dict [] [] p1) (some (.Attribute o "kept" p2)) pos.line X.env = pure false := by rfl) :
    PS X (.Assign [.Attribute o "kept" p2] (.Dict [] [] p1) pos) (tS M E kinitM) :=
  PS_weak (ps_fld hv0 pe_dnewK hsw) fun D σ H ⟨Γ, F, own, s, q⟩ => by
    unfold kinitM at q
    split at q
    · rename_i c pin hs0
      split at q
      · rename_i hc
        subst hc
        obtain ⟨a, h0, hp, dx, fs, h1, h2, h3, h4⟩ := s.slot 0 _ hs0
        have hfs : fs = [] := by
          cases fs with
          | nil => rfl
          | cons p r => simp at h3
        subst hfs
        intro l hl
        have hla : a ≠ l := ne_of_none h1 hl
        refine ⟨_, h0, a, _, dx, [], rfl, by rw [upd_ne hla]; exact h1, by rw [hK]; exact hA.cl, by rw [hK]; exact hA.no, by decide, ?_⟩
        have hown : own 0 a := (h2 a).mpr rfl
        have hfl : F l = none := s.fh.back hl
        have w := s.wr (H' := upd (upd H l (.dK [])) a (.ins (M.cls "Basis") dx (putF "kept" (.ref l) []))) (i := 0) (x := .box 1 pin (dicK [])) (o := fun b => b = a ∨ b = l) (s.lt hs0) (fun b u q n => by
            rw [upd_ne (fun e => n (by rw [e]; exact hown)), upd_ne (ne_of_none q hl)]
            exact q) (fun b q => by
            by_cases e : b = a
            · rw [e, upd_same]; simp
            · rw [upd_ne e]
              by_cases e' : b = l
              · rw [e', upd_same]; simp
              · rw [upd_ne e']; exact q) (fun b hb => by
            rcases hb with e | e
            · rw [e]; exact s.free 0 a hown
            · rw [e]; exact hfl) (fun b hb => by
            rcases hb with e | e
            · rw [e, upd_same]; simp
            · rw [e, upd_ne (Ne.symm hla), upd_same]; simp) (fun b hb => by
            rcases hb with e | e
            · rw [e]; exact .inl hown
            · rw [e]; exact .inr hl) ⟨a, h0, hp, .bas (kvs := []) (kds := []) (by rw [upd_same]; rfl) (by rw [upd_ne (Ne.symm hla), upd_same]) rfl .nil (Ne.symm hla) (fun b => Iff.rfl)⟩
        exact q _ F _ _ w.1 w.2
      · exact q.elim
    · exact q.elim
end
end DL
end

section
set_option Elab.async false
set_option linter.all false
set_option maxRecDepth 100000
set_option autoImplicit false
set_option maxHeartbeats 1000000
/-! DL27: the two of a pairing; list(d.values()). -/
namespace DL
open PySem PySem.Spec PyProof.Rows L2
section
variable {X : Cx} {o : Expr} {to : TE} {f : Str} {pos : Pos}
/-- o.f as a target -/
def gAttr (K : PySem.W.Frag) (to : TE) (f : Str) : TG := fun v σ H Q => to σ H fun x H1 => ∃ a C dx fs, x = .ref a ∧ H1 a = some (.ins C dx fs) ∧ Cls K C ∧ NoAttr K C f ∧ fs.length < 1000 ∧ Q σ (upd H1 a (.ins C dx (putF f v fs)))
theorem pg_attr (ho : PE X o to) : PG X (.Attribute o f pos) (gAttr X.K to f) := by
  refine ⟨fun pins s σ H v u Q I r h => ?_⟩
  rw [assign_Attribute]
  refine wpAny_bind (wpAny_holding (thn (ho.run pins s σ H _ I h) fun ov s1 ⟨x, H1, I1, r1, a, C, dx, fs, ex, ea, c, n, l, q⟩ => ?_))
  subst ex
  obtain rfl : ov = Value.ref a := r1
  refine wpAny_bind (wpAny_standAt (wpAny_bind (wpAny_holding (setattr_ok I1 ea c n l r fun s3 I3 => ?_))))
  exact wpAny_release ⟨σ, _, I3, q⟩
end
section
variable {X : Cx} {M : Pm} {E : XK} {e o : Expr} {es : List Expr} {me : Gam → R Val} {p pos apos : Pos}
/-- self.chains, self.ends = [], {} -/
def pinitM : Gam → RS := fun Γ => match Γ[(0 : Nat)]? with
  | some (.cmp c pin []) => if c = "Pairing" then .nx (Γ.set 0 (.box 2 pin (.tuple [.list [], dicK []]))) else .stuck
  | _ => .stuck
theorem s_pinit {o2 : Expr} {k1 k2} {p1 p2 p3 p4 pt p5 : Pos} (hc : X.calm = true) (hA : AttrOk M "Pairing" "chains") (hA2 : AttrOk M "Pairing" "ends") (hK : X.K = M.K) (hv0 : PE X o (tVar 0)) (hv1 : PE X o2 (tVar 0))
    (hs : swapsWithSole [.Tuple [.Attribute o "chains" p1, .Attribute o2 "ends" p2] k1 p3] (.Tuple [.List [] p4, .Dict [] [] p5] k2 pt) pos.line X.env = pure false := by rfl)
    (hw : swappedStores [.Tuple [.Attribute o "chains" p1, .Attribute o2 "ends" p2] k1 p3] (.Tuple [.List [] p4, .Dict [] [] p5] k2 pt) X.env = pure none := by rfl)
    (h1 : (assignEach [.Tuple [.Attribute o "chains" p1, .Attribute o2 "ends" p2] k1 p3] X.env).map (·.2) = [assign (.Tuple [.Attribute o "chains" p1, .Attribute o2 "ends" p2] k1 p3) X.env] := by rfl)
    (hn : (assignEach [.Attribute o "chains" p1, .Attribute o2 "ends" p2] X.env).length = 2 := by rfl) (hst : (assignEach [.Attribute o "chains" p1, .Attribute o2 "ends" p2] X.env).findIdx? (·.1) = none := by rfl)
    (hg1 : (assignEach [.Attribute o "chains" p1, .Attribute o2 "ends" p2] X.env).map (·.2) = assign (.Attribute o "chains" p1) X.env :: (assignEach [.Attribute o2 "ends" p2] X.env).map (·.2) := by rfl)
    (hg2 : (assignEach [.Attribute o2 "ends" p2] X.env).map (·.2) = assign (.Attribute o2 "ends" p2) X.env :: (assignEach [] X.env).map (·.2) := by rfl)
    (hp1 : starEach [.List [] p4, .Dict [] [] p5] X.env = (false, eval (.List [] p4) X.env) :: starEach [.Dict [] [] p5] X.env := by rfl) (hp2 : starEach [.Dict [] [] p5] X.env = (false, eval (.Dict [] [] p5) X.env) :: starEach [] X.env := by rfl) :
    PS X (.Assign [.Tuple [.Attribute o "chains" p1, .Attribute o2 "ends" p2] k1 p3] (.Tuple [.List [] p4, .Dict [] [] p5] k2 pt) pos) (tS M E pinitM) :=
  PS_weak (ps_asg (pe_tup (pa_cons (pe_lst pa_nil) (pa_cons pe_dnewK pa_nil hp2) hp1)) (pg_tup hc (pgs_cons (pg_attr (f := "chains") hv0) (pgs_cons (pg_attr (f := "ends") hv1) pgs_nil hg2) hg1) hn hst) hs hw h1) fun D σ H ⟨Γ, F, own, s, q⟩ => by
    unfold pinitM at q
    split at q
    · rename_i c pin hs0
      split at q
      · rename_i hc
        subst hc
        obtain ⟨a, h0, hp, dx, fs, h1, h2, h3, h4⟩ := s.slot 0 _ hs0
        have hfs : fs = [] := by
          cases fs with
          | nil => rfl
          | cons p r => simp at h3
        subst hfs
        refine ⟨by decide, fun l hl => ?_⟩
        intro k hk
        refine ⟨by show 2 ≤ sizeLine; decide, fun t ht => ?_⟩
        have hla : a ≠ l := ne_of_none h1 hl
        have h1l : upd H l (.lst []) a = some (.ins (M.cls "Pairing") dx []) := by rw [upd_ne hla]; exact h1
        have hka : a ≠ k := ne_of_none h1l hk
        have hlk : l ≠ k := ne_of_none upd_same hk
        have h1k : upd (upd H l (.lst [])) k (.dK []) a = some (.ins (M.cls "Pairing") dx []) := by rw [upd_ne hka]; exact h1l
        have hta : a ≠ t := ne_of_none h1k ht
        have htk : k ≠ t := ne_of_none upd_same ht
        have htl : l ≠ t := ne_of_none (by rw [upd_ne hlk]; exact upd_same) ht
        refine ⟨t, [.ref l, .ref k], rfl, .of upd_same, rfl, .ref l, [.ref k], rfl, ?_⟩
        refine ⟨_, h0, a, _, dx, [], rfl, by rw [upd_ne hta]; exact h1k, by rw [hK]; exact hA.cl, by rw [hK]; exact hA.no, by decide, ?_⟩
        refine ⟨.ref k, [], rfl, ?_⟩
        refine ⟨_, h0, a, _, dx, _, rfl, upd_same, by rw [hK]; exact hA2.cl, by rw [hK]; exact hA2.no, by show 1 < 1000; decide, rfl, ?_⟩
        have hown : own 0 a := (h2 a).mpr rfl
        have nl : H l = none := hl
        have nk : H k = none := by rw [upd_ne (Ne.symm hlk)] at hk; exact hk
        have nt : H t = none := by rw [upd_ne (Ne.symm htk), upd_ne (Ne.symm htl)] at ht; exact ht
        -- the tuple is laid, nobody owns it
        have w := s.wr (H' := upd (upd (upd (upd (upd H l (.lst [])) k (.dK [])) t (.tup [.ref l, .ref k])) a (.ins (M.cls "Pairing") dx (putF "chains" (.ref l) []))) a (.ins (M.cls "Pairing") dx (putF "ends" (.ref k) (putF "chains" (.ref l) []))))
          (i := 0) (x := .box 2 pin (.tuple [.list [], dicK []])) (o := fun b => b = a ∨ b = l ∨ b = k) (s.lt hs0) (fun b u q n => by
            have e1 : b ≠ a := fun e => n (by rw [e]; exact hown)
            rw [upd_ne e1, upd_ne e1, upd_ne (ne_of_none q nt), upd_ne (ne_of_none q nk), upd_ne (ne_of_none q nl)]
            exact q) (fun b q => by
            by_cases e : b = a
            · rw [e, upd_same]; simp
            · rw [upd_ne e, upd_ne e]
              by_cases e1 : b = t
              · rw [e1, upd_same]; simp
              · rw [upd_ne e1]
                by_cases e2 : b = k
                · rw [e2, upd_same]; simp
                · rw [upd_ne e2]
                  by_cases e3 : b = l
                  · rw [e3, upd_same]; simp
                  · rw [upd_ne e3]; exact q) (fun b hb => by
            rcases hb with e | e | e
            · rw [e]; exact s.free 0 a hown
            · rw [e]; exact s.fh.back nl
            · rw [e]; exact s.fh.back nk) (fun b hb => by
            rcases hb with e | e | e
            · rw [e, upd_same]; simp
            · rw [e, upd_ne (Ne.symm hla), upd_ne (Ne.symm hla), upd_ne htl, upd_ne hlk, upd_same]; simp
            · rw [e, upd_ne (Ne.symm hka), upd_ne (Ne.symm hka), upd_ne htk, upd_same]; simp) (fun b hb => by
            rcases hb with e | e | e
            · rw [e]; exact .inl hown
            · rw [e]; exact .inr nl
            · rw [e]; exact .inr nk) ⟨a, h0, hp, .par (vs := []) (ds := []) (kvs := []) (kds := []) (by rw [upd_same]; rfl) (by rw [upd_ne (Ne.symm hla), upd_ne (Ne.symm hla), upd_ne htl, upd_ne hlk, upd_same]) .nil (by rw [upd_ne (Ne.symm hka), upd_ne (Ne.symm hka), upd_ne htk, upd_same]) rfl .nil (Ne.symm hla) (Ne.symm hka) hlk (fun b => Iff.rfl)⟩
        exact q _ F _ _ w.1 w.2
      · exact q.elim
    · exact q.elim
theorem par_inv {cls : Str → Addr} {F H : Hp} {o : Addr → Prop} {a : Addr} {ds : List D} {kds : List (Key × D)} (h : BoxR cls 2 F H o a (.tuple [.list ds, dicK kds])) :
    ∃ dx l k vs kvs, H a = some (.ins (cls "Pairing") dx [("chains", .ref l), ("ends", .ref k)]) ∧ H l = some (.lst vs) ∧ RepAll cls F vs ds ∧ H k = some (.dK kvs) ∧ kvs.map (·.1) = kds.map (·.1) ∧ RepAll cls F (kvs.map (·.2)) (kds.map (·.2)) ∧ l ≠ a ∧ k ≠ a ∧ l ≠ k ∧ (∀ b, o b ↔ b = a ∨ b = l ∨ b = k) := by
  generalize hn : (2 : Nat) = n at h
  generalize hd : (PyData.tuple [.list ds, dicK kds] : D) = dd at h
  cases h with
  | rng => cases hn
  | bas => cases hn
  | par h1 h2 h3 h4 h5 h6 h7 h8 h9 h10 =>
    rename_i dx l k vs ds' kvs kds'
    simp only [PyData.tuple.injEq, List.cons.injEq, PyData.list.injEq, and_true] at hd
    obtain ⟨e1, e2⟩ := hd
    have e3 := congrArg kdOf e2
    rw [kdOf_dicK, kdOf_dicK] at e3
    cases e3
    subst e1
    exact ⟨dx, l, k, vs, kvs, h1, h2, h3, h4, h5, h6, h7, h8, h9, h10⟩
def parOf : Slot → Option (Option Addr × List D × List (Key × D))
  | .box 2 pin (.tuple [.list ds, dk]) => (kdOf dk).map fun kds => (pin, ds, kds)
  | _ => none
theorem parOf_some {sl : Slot} {pin : Option Addr} {ds : List D} {kds : List (Key × D)} (h : parOf sl = some (pin, ds, kds)) : sl = .box 2 pin (.tuple [.list ds, dicK kds]) := by
  unfold parOf at h
  split at h
  · rename_i pin' ds' dk
    cases e : kdOf dk with
    | none => rw [e] at h; cases h
    | some k =>
      rw [e] at h
      cases h
      rw [kdOf_some e]
  · cases h
/-- self.chains.append(x) -/
def pappM (j : Nat) : Gam → RS := fun Γ => match Γ[(0 : Nat)]? with
  | some sl => match parOf sl, Γ[j]? with
    | some (pin, ds, kds), some (.one (.fz d)) => if ds.length < sizeLine then .nx (Γ.set 0 (.box 2 pin (.tuple [.list (ds ++ [d]), dicK kds]))) else .stuck
    | _, _ => .stuck
  | none => .stuck
theorem s_papp {j : Nat} {p1 : Pos} (hA : AttrOk M "Pairing" "chains") (hK : X.K = M.K) (hv0 : PE X o (tVar 0)) (hv : PE X e (tVar j))
    (hb : attributeBase o "chains" X.env (eval o X.env) = eval o X.env := by rfl) (hbase : attributeBase (.Attribute o "chains" p1) "append" X.env (eval (.Attribute o "chains" p1) X.env) = eval (.Attribute o "chains" p1) X.env := by rfl)
    (hfew : ((backTo pos (starEach [e] X.env)).all (fun x => !x.1) && (backToKw pos (keywordEach [] X.env)).all (fun x => x.1.isSome)
      && decide (([e] : List Expr).length + ([] : List Keyword).length + (if ([] : List Keyword).isEmpty then 0 else 1) < 30)) = true := by rfl)
    (hline : (apos.endLine == pos.line) = true := by rfl) (hs : starEach [e] X.env = (false, eval e X.env) :: starEach [] X.env := by rfl) (hplain : (backTo pos (starEach [] X.env)).any (·.1) = false := by rfl)
    (hsw : swapsWith (.Call (.Attribute (.Attribute o "chains" p1) "append" apos) [e] [] pos) none p.line X.env = pure false := by rfl) :
    PS X (.Expr (.Call (.Attribute (.Attribute o "chains" p1) "append" apos) [e] [] pos) p) (tS M E (pappM j)) :=
  PS_weak (ps_expr (pe_bm PySem.F.plainAttrs_list PySem.F.slot_list_append PySem.F.type_list_append mt_append (pe_fld hv0 hb) (pa_cons hv pa_nil hs) hbase hfew hline hs hplain) hsw) fun D σ H ⟨Γ, F, own, s, q⟩ => by
    unfold pappM at q
    split at q
    · rename_i sl hs0
      split at q
      · rename_i pin ds kds d hpo hj
        split at q
        · rename_i hz
          rw [parOf_some hpo] at hs0
          obtain ⟨a, h0, hp, hbx⟩ := s.slot 0 _ hs0
          obtain ⟨dx, l, k, vs, kvs, h1, h2, h3, h4, h5, h6, h7, h8, h9, h10⟩ := par_inv hbx
          obtain ⟨v, hvj, _, rv⟩ := s.slot j _ hj
          refine ⟨_, h0, a, _, dx, _, .ref l, rfl, h1, by rw [hK]; exact hA.cl, by rw [hK]; exact hA.no, rfl, .inl ⟨rfl, vs, .of h2⟩, v, hvj, l, vs, v, rfl, rfl, h2, by rw [h3.length]; exact hz, ?_⟩
          have hown : own 0 l := (h10 l).mpr (.inr (.inl rfl))
          have w := s.wr (H' := upd H l (.lst (vs ++ [v]))) (i := 0) (x := .box 2 pin (.tuple [.list (ds ++ [d]), dicK kds])) (o := own 0) (s.lt hs0) (fun b u q n => by
            rw [upd_ne (fun e => n (by rw [e]; exact hown))]
            exact q) (fun b q => by
            by_cases e : b = l
            · rw [e, upd_same]; simp
            · rw [upd_ne e]; exact q) (s.free 0) (fun b hb => by
            by_cases e : b = l
            · rw [e, upd_same]; simp
            · rw [upd_ne e]; exact s.there 0 b hb) (fun b hb => .inl hb) ⟨a, h0, hp, .par (by rw [upd_ne (Ne.symm h7)]; exact h1) upd_same (h3.snoc rv) (by rw [upd_ne (Ne.symm h9)]; exact h4) h5 h6 h7 h8 h9 h10⟩
          exact q _ F _ _ w.1 w.2
        · exact q.elim
      · exact q.elim
    · exact q.elim
/-- self.ends[f(x)] = y -/
def pputM (g : List Slot → R Val) (i j : Nat) : Gam → RS := fun Γ => match Γ[(0 : Nat)]? with
  | some sl => match parOf sl, Γ[j]?, Γ[i]? with
    | some (pin, ds, kds), some (.one (.fz d)), some (.one (.fz di)) => match g [.val di] with
      | .ok (.f r) _ => match keyOf r with
        | some k => if kds.length < sizeLine then .nx (Γ.set 0 (.box 2 pin (.tuple [.list ds, dicK (put kds k d)]))) else .stuck
        | none => .stuck
      | _ => .stuck
    | _, _, _ => .stuck
  | none => .stuck
theorem s_pput {i j : Nat} {x : Str} {k : Nat} {g : List Slot → R Val} {cls : Str → Addr} {a0 : Option Addr} {cpos pn : Pos} {value : Expr} (C : FnC X.prog X.w X.K X.mg X.base cls x k g) (hr : Room k X.A) (hg : Gl X x) (hx : Passes (L2.CX X.prog X.w) X E) (hA : AttrOk ⟨X.K, cls, a0⟩ "Pairing" "ends") (hv0 : PE X o (tVar 0)) (hv : PE X e (tVar i)) (he : PE X value (tVar j)) (hdb : (x == ("__debug__" : Str)) = false := by decide)
    (hb : attributeBase o "ends" X.env (eval o X.env) = eval o X.env := by rfl) (hsw : swapsWith value (some (.Subscript (.Attribute o "ends" apos) (.Call (.Name x pn) [e] [] cpos) p)) pos.line X.env = pure false := by rfl)
    (hs : starEach [e] X.env = [(false, eval e X.env)] := by rfl) (hpl : (backTo cpos (starEach [] X.env)).any (·.1) = false := by rfl) :
    PS X (.Assign [.Subscript (.Attribute o "ends" apos) (.Call (.Name x pn) [e] [] cpos) p] value pos) (tS ⟨X.K, cls, a0⟩ E (pputM g i j)) :=
  PS_weak (ps_dput (by have := hr.units; omega) (pe_fld hv0 hb) (pe_pure1 C hr hg hx hv hdb hs hpl) he hsw) fun D σ H ⟨Γ, F, own, s, q⟩ => by
    unfold pputM at q
    split at q
    · rename_i sl hs0
      split at q
      · rename_i pin ds kds d di hpo hj hi
        split at q
        · rename_i r As hgr
          split at q
          · rename_i key hkey
            split at q
            · rename_i hz
              rw [parOf_some hpo] at hs0
              obtain ⟨a, h0, hp, hbx⟩ := s.slot 0 _ hs0
              obtain ⟨dx, l, k, vs, kvs, h1, h2, h3, h4, h5, h6, h7, h8, h9, h10⟩ := par_inv hbx
              obtain ⟨v, hvj, _, rv⟩ := s.slot j _ hj
              obtain ⟨u, hvi, _, ru⟩ := s.slot i _ hi
              refine ⟨v, hvj, _, h0, a, _, dx, _, .ref k, rfl, h1, hA.cl, hA.no, rfl, u, hvi, spG_val s ru hgr fun y F' H' G ry => ?_⟩
              have s2 := s.grow G
              have hlen : kvs.length = kds.length := by
                have := congrArg List.length h5
                simpa using this
              rw [rep_key ry hkey]
              refine ⟨k, _, rfl, .k (G.hh _ _ h4) (by omega), ?_⟩
              have hown : own 0 k := (h10 k).mpr (.inr (.inr rfl))
              have w := s2.wr (H' := upd H' k (.dK (putK kvs key v))) (i := 0) (x := .box 2 pin (.tuple [.list ds, dicK (put kds key d)])) (o := own 0) (s2.lt hs0) (fun b u q n => by
                rw [upd_ne (fun e => n (by rw [e]; exact hown))]
                exact q) (fun b q => by
                by_cases e : b = k
                · rw [e, upd_same]; simp
                · rw [upd_ne e]; exact q) (s2.free 0) (fun b hb => by
                by_cases e : b = k
                · rw [e, upd_same]; simp
                · rw [upd_ne e]; exact s2.there 0 b hb) (fun b hb => .inl hb) ⟨a, h0, hp, .par (by rw [upd_ne (Ne.symm h8)]; exact G.hh _ _ h1) (by rw [upd_ne h9]; exact G.hh _ _ h2) (h3.mono G.ff) upd_same (put_keys h5 key v d) (put_rep h5 (h6.mono G.ff) key (rv.mono G.ff)) h7 h8 h9 h10⟩
              exact q _ F' _ _ w.1 ((G.step own).trans w.2)
            · exact q.elim
          · exact q.elim
        · exact q.elim
      · exact q.elim
    · exact q.elim
/-- a def's end: the pairing's two are frozen, the dict's object known -/
def pendM : Gam → RS := fun Γ => match Γ[(0 : Nat)]? with
  | some sl => match parOf sl with
    | some (pin, ds, kds) => .nx (Γ.set 0 (.cmp "Pairing" pin [("chains", .list ds), ("ends", dicF kds)]))
    | none => .stuck
  | none => .stuck
def tLockN : TS := fun D σ H => ∃ k kvs, H k = some (.dK kvs) ∧ ∀ ob, D.nx σ (upd H k (.frz ob (.dK kvs)))
theorem pss_lock : PSs X [] tLockN := ⟨fun pins s σ H D I ⟨k, kvs, h, q⟩ => by
  obtain ⟨ob, I'⟩ := I.lock h trivial
  exact pss_nil.run pins s σ _ D I' (q ob)⟩
theorem ss_pend : PSs X [] (tS M E pendM) := PSs_weak pss_lock fun D σ H ⟨Γ, F, own, s, q⟩ => by
  unfold pendM at q
  split at q
  · rename_i sl hs0
    split at q
    · rename_i pin ds kds hpo
      rw [parOf_some hpo] at hs0
      obtain ⟨a, h0, hp, hbx⟩ := s.slot 0 _ hs0
      obtain ⟨dx, l, k, vs, kvs, h1, h2, h3, h4, h5, h6, h7, h8, h9, h10⟩ := par_inv hbx
      refine ⟨k, kvs, h4, fun ob => ?_⟩
      have oa : own 0 a := (h10 a).mpr (.inl rfl)
      have ol : own 0 l := (h10 l).mpr (.inr (.inl rfl))
      have ok : own 0 k := (h10 k).mpr (.inr (.inr rfl))
      have fl := s.free 0 l ol
      have fk := s.free 0 k ok
      have fa := s.free 0 a oa
      -- the two are frozen
      let F' : Hp := upd (upd F l (.lst vs)) k (.frz ob (.dK kvs))
      have e1 : Ex F (upd F l (.lst vs)) := .new fl
      have e2 : Ex (upd F l (.lst vs)) F' := .new (by rw [upd_ne (Ne.symm h9)]; exact fk)
      have eF : Ex F F' := e1.trans e2
      have at_l : F' l = some (.lst vs) := by
        show upd _ k _ l = _
        rw [upd_ne h9, upd_same]
      have at_k : F' k = some (.frz ob (.dK kvs)) := upd_same
      have off : ∀ b, b ≠ l → b ≠ k → F' b = F b := fun b n1 n2 => by
        show upd _ k _ b = _
        rw [upd_ne n2, upd_ne n1]
      have fh' : Ex F' (upd H k (.frz ob (.dK kvs))) := fun b u hb => by
        by_cases q1 : b = k
        · subst q1
          rw [at_k] at hb
          rw [upd_same]
          exact hb
        · rw [upd_ne q1]
          by_cases q2 : b = l
          · subst q2
            rw [at_l] at hb
            rw [h2]
            exact hb
          · rw [off b q2 q1] at hb
            exact s.fh b u hb
      have nother : ∀ j b, j ≠ 0 → own j b → b ≠ l ∧ b ≠ k ∧ b ≠ a := fun j b hj hb => ⟨fun e => hj (s.disj j 0 b hb (by rw [e]; exact ol)), fun e => hj (s.disj j 0 b hb (by rw [e]; exact ok)), fun e => hj (s.disj j 0 b hb (by rw [e]; exact oa))⟩
      have S' : StR M (Γ.set 0 (.cmp "Pairing" pin [("chains", .list ds), ("ends", dicF kds)])) σ F' (upd H k (.frz ob (.dK kvs))) (putO own 0 fun b => b = a) := by
        refine ⟨by simp [s.len], fh', fun j y hj => ?_, fun j hj b => ?_, fun j b hb => ?_, fun j b hb => ?_, fun j i b hj hi => ?_⟩
        · by_cases e : j = 0
          · subst e
            rw [List.getElem?_set_self (s.lt hs0)] at hj
            cases hj
            rw [putO_same]
            refine ⟨a, h0, hp, dx, [("chains", .ref l), ("ends", .ref k)], by rw [upd_ne (Ne.symm h8)]; exact h1, fun b => Iff.rfl, rfl, .cons (.lst at_l (h3.mono eF)) (.cons (.dcF at_k h5 (h6.mono eF)) .nil)⟩
          · rw [List.getElem?_set_ne (Ne.symm e)] at hj
            rw [putO_ne e]
            exact (s.slot j y hj).mono eF fun b u hb hu => by
              rw [upd_ne (nother j b e hb).2.1]
              exact hu
        · rw [List.length_set] at hj
          have hl := s.lt hs0
          rw [putO_ne (by omega)]
          exact s.out j hj b
        · by_cases e : j = 0
          · subst e
            rw [putO_same] at hb
            rw [hb, off a (Ne.symm h7) (Ne.symm h8)]
            exact fa
          · rw [putO_ne e] at hb
            obtain ⟨n1, n2, _⟩ := nother j b e hb
            rw [off b n1 n2]
            exact s.free j b hb
        · by_cases e : j = 0
          · subst e
            rw [putO_same] at hb
            rw [hb, upd_ne (Ne.symm h8), h1]
            simp
          · rw [putO_ne e] at hb
            rw [upd_ne (nother j b e hb).2.1]
            exact s.there j b hb
        · by_cases e : j = 0
          · by_cases e' : i = 0
            · rw [e, e']
            · subst e
              rw [putO_same] at hj
              rw [putO_ne e'] at hi
              exact absurd hj (nother i b e' hi).2.2
          · by_cases e' : i = 0
            · subst e'
              rw [putO_same] at hi
              rw [putO_ne e] at hj
              exact absurd hi (nother j b e hj).2.2
            · rw [putO_ne e] at hj
              rw [putO_ne e'] at hi
              exact s.disj j i b hj hi
      refine q σ F' _ _ S' ⟨eF, fun b u hb n => ?_, fun b n1 n2 n3 => ?_, fun j b hb => ?_, fun b hb => ?_⟩
      · rw [upd_ne (fun e => n 0 (by rw [e]; exact ok))]
        exact hb
      · rw [off b (fun e => n3 0 (by rw [e]; exact ol)) (fun e => n3 0 (by rw [e]; exact ok))]
        exact n1
      · by_cases e : j = 0
        · subst e
          rw [putO_same] at hb
          exact .inl ⟨0, by rw [hb]; exact oa⟩
        · rw [putO_ne e] at hb
          exact .inl ⟨j, hb⟩
      · by_cases e : b = k
        · rw [e, upd_same]; simp
        · rw [upd_ne e]; exact hb
    · exact q.elim
  · exact q.elim
end
end DL
end

section
set_option Elab.async false
set_option linter.all false
set_option maxRecDepth 100000
set_option autoImplicit false
set_option maxHeartbeats 1000000
/-! DL28: list(d.values()). -/
namespace DL
open PySem PySem.Spec PyProof.Rows L2
def rValsL : V → Hp → VK → Prop := fun x H Q => ∃ (d : Addr) (kvs : List (Key × V)), x = .ref d ∧ Rd H d (.dK kvs) ∧ ∀ p, H p = none → Q (.ref p) (upd H p (.lst (kvs.map (·.2))))
theorem kv_vals : ∀ {kvs : List (Key × V)} {vs : List (Key × Value)}, KV kvs vs → Vals (kvs.map (·.2)) (vs.map (·.2))
  | _, _, .nil => .nil
  | _, _, .cons h t => .cons h.2 (kv_vals t)
section
variable {X : Cx} {e : Expr} {te : TE} {p apos cpos pos : Pos}
theorem pe_listValues (hc : X.calm = true) (he : PE X e te) (hg : Gl X "list") (hm : X.mg "list" = none) (hv : bootBuiltins "list" = some (.type "list")) (hbase : attributeBase e "values" X.env (eval e X.env) = eval e X.env := by rfl) (hline : (apos.endLine == cpos.line) = true := by rfl)
    (hs : starEach [.Call (.Attribute e "values" apos) [] [] cpos] X.env = (false, eval (.Call (.Attribute e "values" apos) [] [] cpos) X.env) :: starEach [] X.env := by rfl) :
    PE X (.Call (.Name "list" p) [.Call (.Attribute e "values" apos) [] [] cpos] [] pos) (fun σ H Q => te σ H fun x H1 => rValsL x H1 Q) := by
  refine ⟨fun pins s σ H Q I hq => ?_⟩
  refine wpAny_Call_Name_kw (ld_blt I hg hm hv ?_)
  refine PyProof.Rows.callWith_type1 ?_ hs rfl
  rw [hs]
  show wpAny _ _ (spliced ((false, eval (.Call (.Attribute e "values" apos) [] [] cpos) X.env) :: backTo pos (starEach [] X.env))) _ _ s
  refine Calls.spliced_cons ?_
  refine wpAny_Call_method (T := "dict") (id := "dict.values") hbase rfl hline F.plainAttrs_dict F.slot_dict_values F.type_dict_values (thn (he.run pins s σ H _ I hq) fun u s1 ⟨x, H1, I1, rx, d, kvs, ex, hd, q⟩ => ?_)
  subst ex
  obtain rfl : u = Value.ref d := rx
  obtain ⟨hz, hs0, vs, kv, hdo⟩ := hd.ok I1.hok
  obtain ⟨ep, hat⟩ := hdo.dictAt
  have lk : kvs.length = vs.length := Paired.length kv
  refine ⟨hdo.typeIs, hdo.mapOf.noDict, ?_⟩
  show wpAny _ _ (callWith cpos (.builtin "dict.values") [.ref d] [] []) _ X.xe s1
  refine method_meetsIn F.slot_dict_values F.entry_dict_values rfl (PySem.evalArgs_none ⟨rfl, hdo.typeIs, F.args_dict_values_1 _, _, meets_dict_values (mixKind X.prog X.w) d hs0, ⟨vs, hdo⟩, ?_⟩)
  refine Calls.spliced_nil ?_
  refine PySem.W.kdl_call (PySem.W.kdl_values (knd := mixKind X.prog X.w) (kvs := vs) (ep := ep) (d := d) (r := s1.heap.objs.size)) (I1.ok.hd hc) ⟨⟨_, Heap.get?_push_size _ rfl, rfl, rfl⟩, hat.push _⟩ (by omega) fun h' tk acc c hk hS hacc => ?_
  have hk' : ∀ b o, s1.heap.get? b = some o → h'.get? b = some o := fun b o y => hk b o (Heap.get?_push_of_some _ y)
  have eacc : acc.toList = vs.map (·.2) := PySem.W.kdl_vals_eq acc.toList (by rw [Array.length_toList]; exact hacc.1) fun j v y => hacc.2 j v (by rw [← Array.getElem?_toList]; exact y)
  have hS1 : s1.heap.objs.size ≤ (s1.heap.push { cls := .type "dict_values", data := .fields #[.ref d] }).objs.size := by rw [Heap.size_push]; exact Nat.le_succ _
  refine ⟨.ref _, _, I1.laid (t' := tk) (a := (s1.heap.push { cls := .type "dict_values", data := .fields #[.ref d] }).objs.size) (o := .lst (kvs.map (·.2))) hk' hS1 ⟨by rw [List.length_map]; exact hz, acc.toList, c, by rw [eacc]; exact kv_vals kv, ?_⟩, rfl, q _ (I1.hok.fresh hS1)⟩
  rw [Array.toArray_toList]
  exact hS
end
section
variable {X : Cx} {M : Pm} {E : XK} {e : Expr} {m : Gam → R Val} {p apos cpos pos : Pos}
def lvalsM (m : Gam → R Val) : Gam → R Val := fun Γ => (rd m Γ).bind fun v Γ1 => match viewK Γ1 v with
  | some kds => .ok (.n (.ol (kds.map (·.2)))) Γ1
  | none => .stuck
theorem e_listValues (hc : X.calm = true) (he : PE X e (tE M E m)) (hg : Gl X "list") (hm : X.mg "list" = none) (hbase : attributeBase e "values" X.env (eval e X.env) = eval e X.env := by rfl) (hline : (apos.endLine == cpos.line) = true := by rfl)
    (hs : starEach [.Call (.Attribute e "values" apos) [] [] cpos] X.env = (false, eval (.Call (.Attribute e "values" apos) [] [] cpos) X.env) :: starEach [] X.env := by rfl) :
    PE X (.Call (.Name "list" p) [.Call (.Attribute e "values" apos) [] [] cpos] [] pos) (tE M E (lvalsM m)) := PE_weak (pe_listValues hc (pe_rd he) hg hm PyProof.Rows.boot_list hbase hline hs) fun σ H Q q => by
  obtain ⟨Γ, F, own, st, p⟩ := q
  refine ⟨Γ, F, own, st, post_bind p fun F1 H1 own1 Γ1 x v _ st1 s1 r1 p1 => ?_⟩
  split at p1
  · rename_i kds hk
    obtain ⟨l, kvs, rfl, h1, h2, h3⟩ := view_K st1 r1 hk
    exact ⟨l, kvs, rfl, h1, fun q hq => post_newL st1 s1 p1 hq h3⟩
  · exact p1.elim
end
end DL
end

section
set_option Elab.async false
set_option linter.all false
set_option maxRecDepth 100000
set_option autoImplicit false
set_option maxHeartbeats 1000000
/-! DL29: the dict of a law's draws. -/
namespace DL
open PySem PySem.Spec PyProof.Rows L2
theorem intsOf_eq : ∀ {ds : List D} {ns : List Int}, intsOf ds = some ns → ds = ns.map PyData.int
  | [], _, h => by
    cases h
    rfl
  | .int i :: r, ns, h => by
    simp only [intsOf] at h
    split at h
    · rename_i ns' e
      cases h
      rw [intsOf_eq e]
      rfl
    · cases h
  | .none :: _, _, h => by cases h
  | .bool _ :: _, _, h => by cases h
  | .str _ :: _, _, h => by cases h
  | .list _ :: _, _, h => by cases h
  | .tuple _ :: _, _, h => by cases h
  | .dict _ :: _, _, h => by cases h
@[simp] theorem intsOf_map : ∀ ns : List Int, intsOf (ns.map PyData.int) = some ns
  | [] => rfl
  | n :: ns => by simp [intsOf, intsOf_map ns]
def rngOf : Slot → Option (Option Addr × List Int × List Int × Int)
  | .box 0 pin (.tuple [.list cs, .list ls, .int n]) => match intsOf cs, intsOf ls with
    | some c, some l => some (pin, c, l, n)
    | _, _ => none
  | _ => none
theorem rngOf_some {sl : Slot} {pin : Option Addr} {cs ls : List Int} {n : Int} (h : rngOf sl = some (pin, cs, ls, n)) : sl = .box 0 pin (rngD cs ls n) := by
  unfold rngOf at h
  split at h
  · split at h
    · rename_i c l h1 h2
      cases h
      rw [intsOf_eq h1, intsOf_eq h2]
      rfl
    · cases h
  · cases h
@[simp] theorem rngOf_rngD (pin : Option Addr) (cs ls : List Int) (n : Int) : rngOf (.box 0 pin (rngD cs ls n)) = some (pin, cs, ls, n) := by
  show (match intsOf (cs.map PyData.int), intsOf (ls.map PyData.int) with
    | some c, some l => some (pin, c, l, n)
    | _, _ => none) = _
  rw [intsOf_map, intsOf_map]
theorem map_int_inj {a b : List Int} (h : a.map PyData.int = b.map PyData.int) : a = b := by
  have := congrArg intsOf h
  rw [intsOf_map, intsOf_map] at this
  exact Option.some.inj this
theorem rng_inv {cls : Str → Addr} {F H : Hp} {o : Addr → Prop} {a : Addr} {cells left : List Int} {n : Int} (h : BoxR cls 0 F H o a (rngD cells left n)) :
    ∃ c l, H a = some (.dK [(.inr "cells", .ref c), (.inr "left", .ref l), (.inr "at", .int n)]) ∧ F c = some (.lst (cells.map V.int)) ∧ H l = some (.lst (left.map V.int)) ∧ l ≠ a ∧ (∀ b, o b ↔ b = a ∨ b = l) := by
  generalize hn : (0 : Nat) = k at h
  generalize hd : rngD cells left n = dd at h
  cases h with
  | bas => cases hn
  | par => cases hn
  | rng h1 h2 h3 h4 h5 =>
    rename_i c l cells' left' n'
    simp only [rngD, PyData.tuple.injEq, List.cons.injEq, PyData.list.injEq, PyData.int.injEq, and_true] at hd
    obtain ⟨e1, e2, e3⟩ := hd
    rw [map_int_inj e1, map_int_inj e2, e3]
    exact ⟨c, l, h1, h2, h3, h4, h5⟩
section
variable {X : Cx} {M : Pm} {E : XK} {e o : Expr} {es : List Expr} {me : Gam → R Val} {p pos apos p1 p2 p3 p4 : Pos} {j1 j2} {op : CmpOp}
theorem noSl_str {x : Str} : NoSl (.Constant (.str x) j1 p1) := by intro _ _; rfl
abbrev rngLook (c l : Addr) (n : Int) : List (Key × V) := [(.inr "cells", .ref c), (.inr "left", .ref l), (.inr "at", .int n)]
theorem look_left (c l : Addr) (n : Int) : valV (rngLook c l n) (.inr "left") = some (.ref l) := rfl
theorem look_cells (c l : Addr) (n : Int) : valV (rngLook c l n) (.inr "cells") = some (.ref c) := rfl
theorem look_at (c l : Addr) (n : Int) : valV (rngLook c l n) (.inr "at") = some (.int n) := rfl
theorem put_left (c l l' : Addr) (n : Int) : putK (rngLook c l n) (.inr "left") (.ref l') = rngLook c l' n := rfl
theorem put_at (c l : Addr) (n n' : Int) : putK (rngLook c l n) (.inr "at") (.int n') = rngLook c l n' := rfl
/-- m["at"], m["cells"] -/
def ratM : Gam → R Val := fun Γ => match Γ[(0 : Nat)]? with
  | some sl => match rngOf sl with
    | some (_, _, _, n) => .ok (.f (.int n)) Γ
    | none => .stuck
  | none => .stuck
def rcellsM : Gam → R Val := fun Γ => match Γ[(0 : Nat)]? with
  | some sl => match rngOf sl with
    | some (_, cs, _, _) => .ok (.f (.list (cs.map .int))) Γ
    | none => .stuck
  | none => .stuck
theorem e_rat (hu : X.A.units + 64 < cLine) (hv : PE X o (tVar 0)) : PE X (.Subscript o (.Constant (.str "at") j1 p1) pos) (tE M E ratM) := PE_weak (pe_dget (by omega) hv pe_str noSl_str) fun σ H Q q => by
  obtain ⟨Γ, F, own, s, p⟩ := q
  unfold ratM at p
  split at p
  · rename_i sl hs
    split at p
    · rename_i pin cs ls n hr
      rw [rngOf_some hr] at hs
      obtain ⟨a, h0, _, hb⟩ := s.slot 0 _ hs
      obtain ⟨c, l, h1, h2, h3, h4, h5⟩ := rng_inv hb
      refine ⟨_, h0, a, .int n, rfl, ?_, p _ F H own s (.refl _ _ _) (.int n)⟩
      have := DGet.k (k := .inr "at") h1
      rw [look_at] at this
      exact this
    · exact p.elim
  · exact p.elim
theorem e_rcells (hu : X.A.units + 64 < cLine) (hv : PE X o (tVar 0)) : PE X (.Subscript o (.Constant (.str "cells") j1 p1) pos) (tE M E rcellsM) := PE_weak (pe_dget (by omega) hv pe_str noSl_str) fun σ H Q q => by
  obtain ⟨Γ, F, own, s, p⟩ := q
  unfold rcellsM at p
  split at p
  · rename_i sl hs
    split at p
    · rename_i pin cs ls n hr
      rw [rngOf_some hr] at hs
      obtain ⟨a, h0, _, hb⟩ := s.slot 0 _ hs
      obtain ⟨c, l, h1, h2, h3, h4, h5⟩ := rng_inv hb
      refine ⟨_, h0, a, .ref c, rfl, ?_, p _ F H own s (.refl _ _ _) (.lst h2 (repAll_ints cs))⟩
      have := DGet.k (k := .inr "cells") h1
      rw [look_cells] at this
      exact this
    · exact p.elim
  · exact p.elim
/-- m["left"][0] -/
def rleft0M : Gam → R Val := fun Γ => match Γ[(0 : Nat)]? with
  | some sl => match rngOf sl with
    | some (_, _, n :: _, _) => .ok (.f (.int n)) Γ
    | _ => .stuck
  | none => .stuck
theorem e_rleft0 (hu : X.A.units + 64 < cLine) (hv : PE X o (tVar 0)) : PE X (.Subscript (.Subscript o (.Constant (.str "left") j1 p1) p2) (.Constant (.int 0) j2 p3) pos) (tE M E rleft0M) :=
  PE_weak (pe_ix ix_list (pe_dget (by omega) hv pe_str noSl_str) pe_int (by intro _ _; rfl)) fun σ H Q q => by
  obtain ⟨Γ, F, own, s, p⟩ := q
  unfold rleft0M at p
  split at p
  · rename_i sl hs
    split at p
    · rename_i pin cs m ls n hr
      rw [rngOf_some hr] at hs
      obtain ⟨a, h0, _, hb⟩ := s.slot 0 _ hs
      obtain ⟨c, l, h1, h2, h3, h4, h5⟩ := rng_inv hb
      refine ⟨_, h0, a, .ref l, rfl, ?_, l, _, 0, .int m, rfl, rfl, .of h3, ?_, p _ F H own s (.refl _ _ _) (.int m)⟩
      · have := DGet.k (k := .inr "left") h1
        rw [look_left] at this
        exact this
      · show atI (V.int m :: ls.map V.int) ((0 : Nat) : Int) = _
        rw [atI_nat] <;> simp
    · exact p.elim
  · exact p.elim
/-- m["left"] != [] -/
def rneM : Gam → R Bool := fun Γ => match Γ[(0 : Nat)]? with
  | some sl => match rngOf sl with
    | some (_, _, ls, _) => .ok (!ls.isEmpty) Γ
    | none => .stuck
  | none => .stuck
theorem dpAll_ints {K : PySem.W.Frag} {H : Hp} : ∀ ns : List Int, DpAll K H (ns.map V.int) (ns.map PyData.int)
  | [] => .nil
  | n :: ns => .cons (.int n) (dpAll_ints ns)
theorem plain_ints : ∀ ns : List Int, PyData.plainAll (ns.map PyData.int) = true
  | [] => rfl
  | n :: ns => by simp [PyData.plainAll, PyData.plain, plain_ints ns]
theorem t_rne (hu : X.A.units + 64 < cLine) (hv : PE X o (tVar 0)) (hm : behindInMarks .NotEq (.List [] p3) = false := by rfl) : PT X (.Compare (.Subscript o (.Constant (.str "left") j1 p1) p2) [.NotEq] [.List [] p3] pos) (tT M E rneM) :=
  PT_weak (pt_cmpR (op_neP hu) (pe_dget (by omega) hv pe_str noSl_str) (pe_lst pa_nil) hm) fun σ H Q q => by
  obtain ⟨Γ, F, own, s, p⟩ := q
  unfold rneM at p
  split at p
  · rename_i sl hs
    split at p
    · rename_i pin cs ls n hr
      rw [rngOf_some hr] at hs
      obtain ⟨a, h0, _, hb⟩ := s.slot 0 _ hs
      obtain ⟨c, l, h1, h2, h3, h4, h5⟩ := rng_inv hb
      refine ⟨_, h0, a, .ref l, rfl, ?_, by decide, fun q hq => ?_⟩
      · have := DGet.k (k := .inr "left") h1
        rw [look_left] at this
        exact this
      · have hl : upd H q (.lst []) l = some (.lst (ls.map V.int)) := by
          rw [upd_ne (ne_of_none h3 hq)]
          exact h3
        refine ⟨.list (ls.map .int), .list [], .lst (.of hl) (dpAll_ints ls), .lst (.of upd_same) .nil, ?_, !ls.isEmpty, ?_, ?_⟩
        · simp only [okE, PyData.plain, plain_ints, Bool.and_eq_true, Bool.or_eq_true, decide_eq_true_eq]
          exact ⟨⟨trivial, rfl⟩, .inr (by decide)⟩
        · cases ls with
          | nil => rfl
          | cons m ls => rfl
        · have G : Grow F H F (upd H q (.lst [])) := .lay s.fh hq
          exact p _ F _ own (s.grow G) (G.step own) rfl
    · exact p.elim
  · exact p.elim
/-- m["left"] = m["left"][1:] -/
def rcutM : Gam → RS := fun Γ => match Γ[(0 : Nat)]? with
  | some sl => match rngOf sl with
    | some (pin, cs, _ :: ls, n) => .nx (Γ.set 0 (.box 0 pin (rngD cs ls n)))
    | _ => .stuck
  | none => .stuck
theorem cutV_tail (v : V) (vs : List V) : cutV (v :: vs) (some 1) none = vs := by
  have e : HT.sIx (v :: vs).length 0 (some 1) = 1 := by
    have := HT.sIx_nat (v :: vs).length 0 1
    rw [show ((1 : Nat) : Int) = 1 from rfl] at this
    rw [this]
    simp
  unfold cutV
  rw [e, HT.sIx_none]
  simp
theorem s_rcut {o2 : Expr} {j3} {p5 p6 p7 : Pos} (hu : X.A.units + 64 < cLine) (hv : PE X o (tVar 0)) (hv2 : PE X o2 (tVar 0))
    (hsw : swapsWith (.Subscript (.Subscript o2 (.Constant (.str "left") j2 p3) p4) (.Slice (some (.Constant (.int 1) j3 p5)) none none p6) p7) (some (.Subscript o (.Constant (.str "left") j1 p1) p2)) pos.line X.env = pure false := by rfl) :
    PS X (.Assign [.Subscript o (.Constant (.str "left") j1 p1) p2] (.Subscript (.Subscript o2 (.Constant (.str "left") j2 p3) p4) (.Slice (some (.Constant (.int 1) j3 p5)) none none p6) p7) pos) (tS M E rcutM) :=
  PS_weak (ps_dput (by omega) hv pe_str (pe_slice sl_list (pe_dget (by omega) hv2 pe_str noSl_str) (po_some pe_int) po_none) hsw) fun D σ H ⟨Γ, F, own, s, q⟩ => by
    unfold rcutM at q
    split at q
    · rename_i sl hs
      split at q
      · rename_i pin cs m ls n hr
        rw [rngOf_some hr] at hs
        obtain ⟨a, h0, hp, hb⟩ := s.slot 0 _ hs
        obtain ⟨c, l, h1, h2, h3, h4, h5⟩ := rng_inv hb
        refine ⟨_, h0, a, .ref l, rfl, ?_, 1, rfl, l, _, rfl, .of h3, fun q' hq => ?_⟩
        · have := DGet.k (k := .inr "left") h1
          rw [look_left] at this
          exact this
        · have e1 : cutV ((m :: ls).map V.int) (some 1) none = ls.map V.int := cutV_tail _ _
          rw [e1]
          have hqa : a ≠ q' := ne_of_none h1 hq
          have h1' : upd H q' (.lst (ls.map V.int)) a = some (.dK (rngLook c l n)) := by rw [upd_ne hqa]; exact h1
          refine ⟨_, h0, a, _, rfl, .k (k := .inr "left") h1' (by show 3 < sizeLine; decide), ?_⟩
          rw [put_left]
          have hown : own 0 a := (h5 a).mpr (.inl rfl)
          have w := s.wr (H' := upd (upd H q' (.lst (ls.map V.int))) a (.dK (rngLook c q' n))) (i := 0) (x := .box 0 pin (rngD cs ls n)) (o := fun b => b = a ∨ b = q') (s.lt hs) (fun b u q n => by
            rw [upd_ne (fun e => n (by rw [e]; exact hown)), upd_ne (ne_of_none q hq)]
            exact q) (fun b q => by
            by_cases e : b = a
            · rw [e, upd_same]; simp
            · rw [upd_ne e]
              by_cases e' : b = q'
              · rw [e', upd_same]; simp
              · rw [upd_ne e']; exact q) (fun b hb => by
            rcases hb with e | e
            · rw [e]; exact s.free 0 a hown
            · rw [e]; exact s.fh.back hq) (fun b hb => by
            rcases hb with e | e
            · rw [e, upd_same]; simp
            · rw [e, upd_ne (Ne.symm hqa), upd_same]; simp) (fun b hb => by
            rcases hb with e | e
            · rw [e]; exact .inl hown
            · rw [e]; exact .inr hq) ⟨a, h0, hp, .rng upd_same h2 (by rw [upd_ne (Ne.symm hqa), upd_same]) (Ne.symm hqa) (fun b => Iff.rfl)⟩
          exact q _ F _ _ w.1 w.2
      · exact q.elim
    · exact q.elim
/-- m["left"][0] = e -/
def rputM (me : Gam → R Val) : Gam → RS := fun Γ => stm (fzL me Γ) fun d Γ1 => match d with
  | .int v => match Γ1[(0 : Nat)]? with
    | some sl => match rngOf sl with
      | some (pin, cs, _ :: ls, n) => .nx (Γ1.set 0 (.box 0 pin (rngD cs (v :: ls) n)))
      | _ => .stuck
    | none => .stuck
  | _ => .stuck
theorem s_rput {value : Expr} (hu : X.A.units + 64 < cLine) (hv : PE X o (tVar 0)) (he : PE X value (tE M E me))
    (hs : swapsWithSole [.Subscript (.Subscript o (.Constant (.str "left") j1 p1) p2) (.Constant (.int 0) j2 p3) p4] value pos.line X.env = pure false := by rfl)
    (hw : swappedStores [.Subscript (.Subscript o (.Constant (.str "left") j1 p1) p2) (.Constant (.int 0) j2 p3) p4] value X.env = pure none := by rfl)
    (h1 : (assignEach [.Subscript (.Subscript o (.Constant (.str "left") j1 p1) p2) (.Constant (.int 0) j2 p3) p4] X.env).map (·.2) = [assign (.Subscript (.Subscript o (.Constant (.str "left") j1 p1) p2) (.Constant (.int 0) j2 p3) p4) X.env] := by rfl) :
    PS X (.Assign [.Subscript (.Subscript o (.Constant (.str "left") j1 p1) p2) (.Constant (.int 0) j2 p3) p4] value pos) (tS M E (rputM me)) :=
  PS_weak (ps_asg (pe_fz he) (pg_sub (pe_dget (by omega) hv pe_str noSl_str) pe_int set_list) hs hw h1) fun D σ H ⟨Γ, F, own, s, q⟩ =>
  ⟨Γ, F, own, s, post_stm q fun F1 H1 own1 Γ1 z d _ s1 st1 rz q => by
    split at q
    · rename_i v _
      split at q
      · rename_i sl hs
        split at q
        · rename_i pin cs m ls n hr
          rw [rngOf_some hr] at hs
          obtain ⟨a, h0, hp, hb⟩ := s1.slot 0 _ hs
          obtain ⟨c, l, h1, h2, h3, h4, h5⟩ := rng_inv hb
          cases rz
          refine ⟨_, h0, a, .ref l, rfl, ?_, l, _, 0, 0, rfl, rfl, h3, by simp [ixN], ?_⟩
          · have := DGet.k (k := .inr "left") h1
            rw [look_left] at this
            exact this
          · have hown : own1 0 l := (h5 l).mpr (.inr rfl)
            have w := s1.wr (H' := upd H1 l (.lst (((m :: ls).map V.int).set 0 (.int v)))) (i := 0) (x := .box 0 pin (rngD cs (v :: ls) n)) (o := own1 0) (s1.lt hs) (fun b u q n => by
              rw [upd_ne (fun e => n (by rw [e]; exact hown))]
              exact q) (fun b q => by
              by_cases e : b = l
              · rw [e, upd_same]; simp
              · rw [upd_ne e]; exact q) (s1.free 0) (fun b hb => by
              by_cases e : b = l
              · rw [e, upd_same]; simp
              · rw [upd_ne e]; exact s1.there 0 b hb) (fun b hb => .inl hb) ⟨a, h0, hp, .rng (by rw [upd_ne (Ne.symm h4)]; exact h1) h2 upd_same h4 h5⟩
            exact q _ F1 _ _ w.1 (st1.trans w.2)
        · exact q.elim
      · exact q.elim
    · exact q.elim⟩
/-- m["at"] = x -/
def rsetatM (j : Nat) : Gam → RS := fun Γ => match Γ[(0 : Nat)]? with
  | some sl => match rngOf sl, Γ[j]? with
    | some (pin, cs, ls, _), some (.one (.fz (.int v))) => .nx (Γ.set 0 (.box 0 pin (rngD cs ls v)))
    | _, _ => .stuck
  | none => .stuck
theorem s_rsetat {j : Nat} {value : Expr} (hu : X.A.units + 64 < cLine) (hv : PE X o (tVar 0)) (he : PE X value (tVar j))
    (hsw : swapsWith value (some (.Subscript o (.Constant (.str "at") j1 p1) p2)) pos.line X.env = pure false := by rfl) :
    PS X (.Assign [.Subscript o (.Constant (.str "at") j1 p1) p2] value pos) (tS M E (rsetatM j)) :=
  PS_weak (ps_dput (by omega) hv pe_str he hsw) fun D σ H ⟨Γ, F, own, s, q⟩ => by
    unfold rsetatM at q
    split at q
    · rename_i sl hs
      split at q
      · rename_i pin cs ls n v hr hj
        rw [rngOf_some hr] at hs
        obtain ⟨a, h0, hp, hb⟩ := s.slot 0 _ hs
        obtain ⟨c, l, h1, h2, h3, h4, h5⟩ := rng_inv hb
        obtain ⟨w0, hw0, _, rw0⟩ := s.slot j _ hj
        cases rw0
        refine ⟨_, hw0, _, h0, a, _, rfl, .k (k := .inr "at") h1 (by show 3 < sizeLine; decide), ?_⟩
        rw [put_at]
        have hown : own 0 a := (h5 a).mpr (.inl rfl)
        have w := s.wr (H' := upd H a (.dK (rngLook c l v))) (i := 0) (x := .box 0 pin (rngD cs ls v)) (o := own 0) (s.lt hs) (fun b u q n => by
          rw [upd_ne (fun e => n (by rw [e]; exact hown))]
          exact q) (fun b q => by
          by_cases e : b = a
          · rw [e, upd_same]; simp
          · rw [upd_ne e]; exact q) (s.free 0) (fun b hb => by
          by_cases e : b = a
          · rw [e, upd_same]; simp
          · rw [upd_ne e]; exact s.there 0 b hb) (fun b hb => .inl hb) ⟨a, h0, hp, .rng upd_same h2 (by rw [upd_ne h4]; exact h3) h4 h5⟩
        exact q _ F _ _ w.1 w.2
      · exact q.elim
    · exact q.elim
end
end DL
end

section
set_option Elab.async false
set_option linter.all false
set_option maxRecDepth 100000
set_option autoImplicit false
set_option maxHeartbeats 1000000
/-! DL30: the draws' dict made; calls with the script. -/
namespace DL
open PySem PySem.Spec PyProof.Rows L2
section
variable {X : Cx} {M : Pm} {E : XK} {e e2 : Expr} {m1 m2 : Gam → R Val} {p pos p1 p2 p3 p4 : Pos} {j1 j2 j3 j4}
def rnewM (m1 m2 : Gam → R Val) : Gam → R Val := fun Γ => (fzL m1 Γ).bind fun d1 Γ1 => (m2 Γ1).bind fun v2 Γ2 => match d1, v2 with
  | .list cs, .n (.ol ls) => match intsOf cs, intsOf ls with
    | some c, some l => .ok (.nb 0 (rngD c l 0)) Γ2
    | _, _ => .stuck
  | _, _ => .stuck
theorem e_rnew (he : PE X e (tE M E m1)) (he2 : PE X e2 (tE M E m2)) :
    PE X (.Dict [some (.Constant (.str "cells") j1 p1), some (.Constant (.str "left") j2 p2), some (.Constant (.str "at") j3 p3)] [e, e2, .Constant (.int 0) j4 p4] pos) (tE M E (rnewM m1 m2)) :=
  PE_weak (pe_disp (pps_cons pe_str (pe_fz he) (pps_cons pe_str he2 (pps_cons pe_str pe_int pps_nil))) rfl rfl (by simp) (by show 3 ≤ 15; decide)) fun σ H Q q => by
  obtain ⟨Γ, F, own, s, q0⟩ := q
  intro p hp
  have G : Grow F H F (upd H p (.dK [])) := .lay s.fh hp
  have sp := s.grow G
  have stp := G.step own
  have q := q0.mono (back_V M) stp
  refine ⟨Γ, F, own, sp, post_bind q fun F1 H1 own1 Γ1 x1 d1 eq1 st1 s1 r1 q1 => ⟨Γ1, F1, own1, st1, post_bind (q1.mono (back_V M) s1) fun F2 H2 own2 Γ2 x2 v2 eq2 st2 s2 r2 _ => ?_⟩⟩
  have q2 := q0
  unfold rnewM at q2
  rw [eq1] at q2
  simp only [R.bind_ok] at q2
  rw [eq2] at q2
  simp only [R.bind_ok] at q2
  split at q2
  · rename_i cs ls
    split at q2
    · rename_i c l hc hl
      have s12 := s1.trans s2
      have nown : ∀ i, ¬ own i p := fun i hi => s.there i p hi hp
      have hp2 : H2 p = some (.dK []) := s12.hh p _ upd_same nown
      have fp2 : F2 p = none := s12.nf p (s.fh.back hp) (by rw [upd_same]; simp) nown
      have nown2 : ∀ i, ¬ own2 i p := fun i hi => by
        rcases s12.no i p hi with ⟨j, hj⟩ | z
        · exact nown j hj
        · rw [upd_same] at z
          cases z
      obtain ⟨cA, vs, rfl, hcA, rc⟩ := Rep.invL (Rep.mono s2.ff r1)
      obtain ⟨o, ⟨lA, ws, rfl, ho, hlA, rl⟩, nw⟩ := r2
      have ec := intsOf_ok rc hc
      have el := intsOf_ok rl hl
      subst ec el
      obtain ⟨n1, n2, n3, n4⟩ := nw lA ((ho lA).mpr rfl)
      have nlp : lA ≠ p := fun e => by
        rw [e, hp2] at hlA
        cases hlA
      have hH : H lA = none := by
        have h3 : upd H p (.dK []) lA = none := s1.none lA n4
        rw [upd_ne nlp] at h3
        exact h3
      refine ⟨hp2, rngLook cA lA 0, rfl, by show 3 ≤ 15; decide, ?_⟩
      have S3 := st2.updFree (o := .dK (mergeK [] (rngLook cA lA 0))) fp2 nown2
      have T3 : Step F H own F2 (upd H2 p (.dK (mergeK [] (rngLook cA lA 0)))) own2 := by
        have T := stp.trans s12
        exact T.updFree hp
      refine q2 _ F2 _ own2 S3 T3 ⟨p, fun b => b = p ∨ b = lA, rfl, .rng (by rw [upd_same]; rfl) hcA (by rw [upd_ne nlp]; exact hlA) nlp (fun b => Iff.rfl), fun b hb => ?_⟩
      rcases hb with e | e
      · rw [e]
        exact ⟨fp2, by rw [upd_same]; simp, nown2, hp⟩
      · rw [e]
        exact ⟨n1, by rw [upd_ne nlp]; exact n2, n3, hH⟩
    · exact q2.elim
  · exact q2.elim
end
/-! ### f(script) -/
def isVw : Slot → Bool
  | .vw _ => true
  | _ => false
def callW (g : List Slot → R Val) (i : Nat) : Gam → R Val := fun Γ => match Γ[i]? with
  | some (.vw ds) => match g [.vw ds] with
    | .ok v _ => if outV v = true then .ok v Γ else .stuck
    | _ => .stuck
  | _ => .stuck
section
variable {X : Cx} {E : XK} {e : Expr} {p pos : Pos} {i : Nat} {x : Str} {k : Nat} {g : List Slot → R Val} {cls : Str → Addr} {a0 : Option Addr}
theorem vw_state {K : PySem.W.Frag} {F H : Hp} {v : V} {o : Ow} {ds : List D} (fh : Ex F H) (h : SlotR ⟨K, cls, a0⟩ F H o (some (some v)) (.vw ds)) : StR ⟨K, cls, none⟩ [.vw ds] ([v].map some) F H (fun _ _ => False) := by
  refine ⟨rfl, fh, fun j y hj => ?_, fun _ _ _ q => q, fun _ _ q => q.elim, fun _ _ q => q.elim, fun _ _ _ q => q.elim⟩
  cases j with
  | zero =>
    cases hj
    obtain ⟨h1, l, vs, h2, h3, h4⟩ := h
    exact ⟨fun _ q => q, l, vs, h2, h3, h4⟩
  | succ j => simp at hj
theorem e_callW (C : FnC X.prog X.w X.K X.mg X.base cls x k g) (hr : Room k X.A) (hg : Gl X x) (hx : Passes (L2.CX X.prog X.w) X E) (hv : PE X e (tVar i)) (hdb : (x == ("__debug__" : Str)) = false := by decide)
    (hs : starEach [e] X.env = [(false, eval e X.env)] := by rfl) (hpl : (backTo pos (starEach [] X.env)).any (·.1) = false := by rfl) :
    PE X (.Call (.Name x p) [e] [] pos) (tE ⟨X.K, cls, a0⟩ E (callW g i)) := PE_weak (pe_pure1 C hr hg hx hv hdb hs hpl) fun σ H Q q => by
  obtain ⟨Γ, F, own, s, q⟩ := q
  unfold callW at q
  split at q
  · rename_i ds hi
    have h0 := s.slot i _ hi
    obtain ⟨h1, l, vs, h2, h3, h4⟩ := id h0
    refine ⟨.ref l, h2, ?_⟩
    rw [h2] at h0
    refine ⟨[.vw ds], F, _, vw_state s.fh h0, ?_⟩
    split at q
    · rename_i v As hg
      rw [hg]
      split at q
      · rename_i ho
        intro y F' H' own' s' st' rv
        have G : Grow F H F' H' := ⟨st'.ff, fun a o z => st'.hh a o z fun _ w => w, s'.fh, fun a n1 n2 => st'.nf a n1 n2 fun _ w => w⟩
        refine q y F' H' own (s.grow G) (G.step own) ?_
        have nw : ∀ {o : Ow}, New H F' H' own' o → New H F' H' own o := fun {o} n a ha => ⟨(n a ha).1, (n a ha).2.1, fun j hj => s.there j a hj (n a ha).2.2.2, (n a ha).2.2.2⟩
        cases v with
        | f d => exact rv
        | b j => cases ho
        | n f =>
          obtain ⟨o, k1, k2⟩ := rv
          refine ⟨o, ?_, nw k2⟩
          cases f <;> exact k1
        | nc c f =>
          obtain ⟨a, o, k0, k1, k2⟩ := rv
          exact ⟨a, o, k0, k1, nw k2⟩
        | nb n f =>
          obtain ⟨a, o, k0, k1, k2⟩ := rv
          exact ⟨a, o, k0, k1, nw k2⟩
      · exact q.elim
    · exact q.elim
  · exact q.elim
end
end DL
end

section
set_option Elab.async false
set_option linter.all false
set_option maxRecDepth 100000
set_option autoImplicit false
set_option maxHeartbeats 1000000
/-! DL31: the head's facts, one Bool more; the law's end. -/
namespace DL
open PySem PySem.Spec PyProof.Rows L2
abbrev AlE : Type := He.AlD × Bool
def obsE (n : Nat) (fa : List He.Fa) (fn : List He.DefD) (ex : PySem.W.Frag → Bool) (g : Addr → Option Obj) : AlE := (He.obsD fa fn (He.frG g (He.asD g n)), ex (He.frG g (He.asD g n)))
def hookE (n : Nat) (fa : List He.Fa) (fn : List He.DefD) (ex : PySem.W.Frag → Bool) : PySem.W.Hook where
  α := AlE
  obs := fun s => obsE n fa fn ex s.heap.get?
  val := fun _ => (He.valD fn, true)
  says := fun _ h => ∃ K : PySem.W.Frag, K.In h ∧ He.SaysD fa fn K ∧ ex K = true
  of := fun _ _ e => ⟨_, He.frG_in, congrArg (fun z : AlE => z.1) e, congrArg (fun z : AlE => z.2) e⟩
  keeps := fun _ _ _ ⟨K, hK, c⟩ k => ⟨K, PySem.W.Frag.In.keeps hK k, c⟩
theorem obsE_eq {n : Nat} {fa : List He.Fa} {fn : List He.DefD} {ex : PySem.W.Frag → Bool} {g : Addr → Option Obj} {s : Shared} (h : ∀ a, g a = s.heap.get? a) : obsE n fa fn ex g = (hookE n fa fn ex).obs s := by
  have e : g = s.heap.get? := funext h
  rw [e] <;> rfl
def oB {α : Type} [DecidableEq α] (a b : Option α) : Bool := decide (a = b)
def isB (K : PySem.W.Frag) (c : Str) : Bool := oB (PySem.W.findIn K (.ref (He.ga K c)) "__class__") (some (some (.builtin "object.__class__"))) && oB (PySem.W.specialIn K (.builtin "object.__class__") "__get__") (some (some (.builtin "getset_descriptor.__get__"))) &&
  oB (PySem.W.takesIn K (.builtin "object.__class__")) (some true) && oB (PySem.W.mroIn K (He.ga K c) (.type "object")) (some true) && oB (PySem.W.kitOne K (.ref (He.ga K c)) (.ref (He.ga K c))) (some true) &&
  (["NoneType", "bool", "int", "str", "list", "tuple", "dict"].all fun n => oB (PySem.W.kitOne K (.type n) (.ref (He.ga K c))) (some false))
theorem isB_ok {K : PySem.W.Frag} {mg : Str → Option Value} {c : Str} (h : isB K c = true) (g : mg c = some (.ref (He.ga K c))) (cl : Cls K (He.ga K c)) : IsC K mg (He.ga K) c := by
  simp only [isB, oB, Bool.and_eq_true, decide_eq_true_eq, List.all_eq_true] at h
  obtain ⟨⟨⟨⟨⟨h1, h2⟩, h3⟩, h4⟩, h5⟩, h6⟩ := h
  exact ⟨g, cl, h1, h2, h3, h4, h5, h6⟩
def eqB (K : PySem.W.Frag) (c : Str) : Bool := oB (PySem.W.findIn K (.ref (He.ga K c)) "__ne__") (some (some (.builtin "object.__ne__"))) && oB (PySem.W.subIn K (.ref (He.ga K c)) (.type "object")) (some true)
theorem eqB_ok {K : PySem.W.Frag} {c : Str} (h : eqB K c = true) : PySem.W.findIn K (.ref (He.ga K c)) "__ne__" = some (some (.builtin "object.__ne__")) ∧ PySem.W.subIn K (.ref (He.ga K c)) (.type "object") = some true := by
  simp only [eqB, oB, Bool.and_eq_true, decide_eq_true_eq] at h
  exact h
theorem walk_W {l : PySem.W.OpenLaw} {n k : Nat} {q : Program} {loose : List Str} {XP : (Str → Option Value) → Heap → Prop} {YP : World → Heap → Prop} {d : DefRec} {CX : World → CXT} {x : Str}
    (hn : l.most = some n) (hn2 : n ≤ sizeLine) (hdf : d.params.defaults = []) (hr : Room k callerA)
    (F : ∀ (w : World) (mg : Str → Option Value) (fa : Addr) (h : Heap), YP w h → h.Ns mainGlobals mg → mg d.name = some (.ref fa) →
      ∃ (K : PySem.W.Frag) (fd : FuncData) (sp : Sp), K.In h ∧ (∀ (s : Shared) (u : Value), BindsTo s fd ⟨[u], []⟩ [(x, u)]) ∧
        (∀ (H : Hp) (a : Addr) (ns : List Int), ns.length ≤ n → Only H → SqL K H a (ns.map V.int) → sp [.ref a] H (fun v _ => v = .bl true) fun _ _ _ => False) ∧
        ∀ base : Heap, K.In base → base.Ns mainGlobals mg → FnOk l.prog w K mg base (CX w) k fa fd [x] sp)
    (hCX : ∀ (w : World) (H : Hp) (s : Shared) (e : Value) (s' : Shared), CX w [] H s (fun _ _ _ => False) e s' → False) :
    PySem.W.WalkO q loose XP YP l.row.toRowW d [] (fun f vs => PySem.call f vs) := by
  refine Att.attach_call hn hdf fun w s₀ s₁ mg mb fa o pm cd doc a vs ns G Y ho hd hcd hmg hobj hints hlen hg => ?_
  obtain ⟨K, fd, sp, KX, hb, hsp, hF⟩ := F w mg fa _ Y G.T.g hmg
  exact law_call KX G.T.g G.T.b G.T.builtins G.T.nolimit hg hobj hints (Nat.le_trans hlen hn2) hr hF hb (fun H hO hS => hsp H a ns hlen hO hS) fun H e s' => hCX w H s₁ e s'
theorem noCX {P : Program} {w : World} (H : Hp) (s : Shared) (e : Value) (s' : Shared) (h : L2.CX P w [] H s (fun _ _ _ => False) e s') : False := by
  obtain ⟨_, _, _, _, _, _, _, _, _, _, _, _, hF⟩ := h
  exact hF
def isTru : R Val → Bool
  | .ok (.f (.bool true)) _ => true
  | _ => false
/-- the law's promise at the script -/
theorem law_sp {K : PySem.W.Frag} {cls : Str → Addr} {g : List Slot → R Val} {H : Hp} {a : Addr} {ns : List Int} (hS : SqL K H a (ns.map V.int)) (ht : isTru (g [.vw (ns.map .int)]) = true) : spG ⟨K, cls, none⟩ g [.ref a] H (fun v _ => v = .bl true) fun _ _ _ => False := by
  refine ⟨[.vw (ns.map .int)], H, _, vw_state (a0 := none) (o := fun _ => False) (.refl _) ⟨fun _ h => h, a, ns.map V.int, rfl, hS, repAll_ints ns⟩, ?_⟩
  cases e : g [.vw (ns.map .int)] with
  | stuck =>
    rw [e] at ht
    cases ht
  | err y Γ =>
    rw [e] at ht
    cases ht
  | ok v Γ =>
    rw [e] at ht
    unfold isTru at ht
    split at ht
    · rename_i Γ' he
      cases he
      intro x F' H' own' _ _ rv
      cases rv
      rfl
    · cases ht
theorem same_fd {P : Program} {w : World} {K : PySem.W.Frag} {mg : Str → Option Value} {base : Heap} {CX : CXT} {k : Nat} {x qual : Str} {params : Arguments} {body : List Stmt} {scope : Scope} {f : Addr} {fd fd' : FuncData} {ps : List Str} {sp : Sp}
    (F : FunD K x qual params body scope [] [] f fd) (F' : FunD K x qual params body scope [] [] f fd') (O : FnOk P w K mg base CX k f fd' ps sp) : FnOk P w K mg base CX k f fd ps sp := by
  obtain ⟨oc, od, dV, kV, doc, pm, an, cdv, ct, osl, e1, l1, _⟩ := F.ex
  obtain ⟨oc', od', dV', kV', doc', pm', an', cdv', ct', osl', e2, l2, _⟩ := F'.ex
  rw [l1] at l2
  simp only [Option.some.injEq, Obj.mk.injEq, Data.func.injEq] at l2
  rw [l2.2.2.1]
  exact O
end DL
end

section
set_option Elab.async false
set_option linter.all false
set_option maxRecDepth 100000
set_option autoImplicit false
set_option maxHeartbeats 1000000
/-! DL32: -x, ~x. -/
namespace DL
open PySem PySem.Spec PyProof.Rows L2
def unM (f : Int → Int) (m : Gam → R Val) : Gam → R Val := fun Γ => (rd m Γ).bind fun v Γ1 => match v with
  | .f (.int i) => .ok (.f (.int (f i))) Γ1
  | _ => .stuck
def negI : Int → Int := fun i => -i
def invI : Int → Int := fun i => Builtin.bitNot i
section
variable {X : Cx} {M : Pm} {E : XK} {e : Expr} {m : Gam → R Val} {pos : Pos}
theorem e_un {op : UnaryOp} {f : Int → Int} (ho : UnR X (unaryOp op) (rU fun i => .int (f i))) (he : PE X e (tE M E m)) : PE X (.UnaryOp op e pos) (tE M E (unM f m)) :=
  PE_weak (pe_un ho (pe_rd he)) fun σ H Q ⟨Γ, F, own, st, q⟩ => by
    refine ⟨Γ, F, own, st, post_bind q fun F1 H1 own1 Γ1 x a _ st1 s1 r1 p1 => ?_⟩
    split at p1
    · cases r1
      exact ⟨_, rfl, post_now st1 s1 p1 (.int _)⟩
    · exact p1.elim
theorem e_neg (he : PE X e (tE M E m)) : PE X (.UnaryOp .USub e pos) (tE M E (unM negI m)) := e_un un_neg he
theorem e_inv (he : PE X e (tE M E m)) : PE X (.UnaryOp .Invert e pos) (tE M E (unM invI m)) := e_un un_inv he
end
end DL
end

section
set_option Elab.async false
set_option linter.all false
set_option maxRecDepth 100000
set_option autoImplicit false
set_option maxHeartbeats 1000000
/-! DL33: dict(zip(t, u)) of two tuples, the keys tuples. -/
namespace DL
open PySem PySem.Calls PySem.Spec PyProof.Rows L2
theorem tup_at {h h' : Heap} {a : Addr} {xs : Array Value} (x : h.IsTuple a xs) (k : ∀ o, h.get? a = some o → h'.get? a = some o) : h'.IsTuple a xs := by
  obtain ⟨o, y1, y2⟩ := x
  exact ⟨o, k _ y1, y2⟩
def ZtOk (z TI TO i1 i2 l1 l2 : Addr) (xs ys : Array Value) (h : Heap) : Prop :=
  IsZip h z TI TO .none ∧ IsPair h TI (.ref i1) (.ref i2) ∧ (∃ a b, IsPair h TO a b) ∧ h.IsTupleIter i1 l1 0 ∧ h.IsTupleIter i2 l2 0 ∧ h.IsTuple l1 xs ∧ h.IsTuple l2 ys
theorem pairZipT {prog : Program} {w : World} (z TI TO i1 i2 l1 l2 : Addr) (D : ZipApart z TI TO i1 i2 l1 l2) (xs ys : Array Value) :
    PairArg prog w "zip" z [z, TI, TO, i1, i2, l1, l2] [z, TO, i1, i2] (min xs.size ys.size) (fun j k v => xs[j]? = some k ∧ ys[j]? = some v) (ZtOk z TI TO i1 i2 l1 l2 xs ys) where
  type := fun s ok => ⟨_, ok.1, rfl⟩
  notDict := by decide
  keep := fun h h' ⟨q1, q2, ⟨a, b, q3⟩, q4, q5, q6, q7⟩ hk => ⟨hk _ _ q1, hk _ _ q2, ⟨a, b, hk _ _ q3⟩, q4.at fun o e => hk i1 o e, q5.at fun o e => hk i2 o e, tup_at q6 fun o e => hk l1 o e, tup_at q7 fun o e => hk l2 o e⟩
  there := fun h ⟨q1, q2, ⟨a, c, q3⟩, q4, q5, q6, q7⟩ b hb => by
    obtain ⟨o4, q4, _⟩ := q4
    obtain ⟨o5, q5, _⟩ := q5
    obtain ⟨o6, q6, _⟩ := q6
    obtain ⟨o7, q7, _⟩ := q7
    simp only [List.mem_cons, List.not_mem_nil, or_false] at hb
    rcases hb with rfl | rfl | rfl | rfl | rfl | rfl | rfl
    · exact ⟨_, q1⟩
    · exact ⟨_, q2⟩
    · exact ⟨_, q3⟩
    · exact ⟨_, q4⟩
    · exact ⟨_, q5⟩
    · exact ⟨_, q6⟩
    · exact ⟨_, q7⟩
  sub := by
    intro b hb
    simp only [List.mem_cons, List.not_mem_nil, or_false] at hb ⊢
    rcases hb with rfl | rfl | rfl | rfl <;> simp
  noKeys := fun A s Q E hA ok h => getAttrOr_miss_zip ok.1 rfl rfl rfl zip_no_keys (by decide +kernel) hA h
  iter := fun A s d Q E hA ⟨q1, q2, ⟨a, b, q3⟩, q4, q5, q6, q7⟩ hd hdf h => by
    simp only [List.mem_cons, List.not_mem_nil, or_false, not_or] at hdf
    obtain ⟨n1, n2, n3, n4, n5, n6, n7⟩ := hdf
    refine wpAny_pyIter_zip q1 (h z [z, TO, i1, i2] (fun j h => ZtSt h z TI TO i1 i2 l1 l2 d j ∧ h.IsTuple l1 xs ∧ h.IsTuple l2 ys) s.heap s.toks ?_ ⟨⟨q2, q4, q5, .inl ⟨q1, a, b, q3⟩⟩, q6, q7⟩ (fun _ _ e => e) fun b hb => .inl hb)
    refine ⟨?_, ?_, ?_, ?_⟩
    · intro hm
      simp only [List.mem_cons, List.not_mem_nil, or_false] at hm
      rcases hm with e | e | e | e
      · exact n1 e
      · exact n3 e
      · exact n4 e
      · exact n5 e
    · intro j h1 h2 ⟨st, t1, t2⟩ hk
      exact ⟨st.keep hk (Ne.symm n1) (Ne.symm n2) (Ne.symm n3) (Ne.symm n4) (Ne.symm n5), tup_at t1 fun o e => hk _ o (Ne.symm n6) e, tup_at t2 fun o e => hk _ o (Ne.symm n7) e⟩
    · intro j s1 Q1 E1 hj ⟨st, t1, t2⟩ hds hQ
      have ex := Array.getElem?_eq_getElem (Nat.lt_of_lt_of_le hj (Nat.min_le_left ..))
      have ey := Array.getElem?_eq_getElem (Nat.lt_of_lt_of_le hj (Nat.min_le_right ..))
      refine zt_item D st hds t1 t2 ex ey fun h' st' hp hsz hk => ?_
      have hk' : ∀ c o, c ∉ [z, TO, i1, i2] → s1.heap.get? c = some o → h'.get? c = some o := fun c o hc e => hk c o (fun x => hc (by simp [x])) (fun x => hc (by simp [x])) (fun x => hc (by simp [x])) (fun x => hc (by simp [x])) e
      exact hQ _ _ _ h' s1.toks ⟨ex, ey⟩ (.inl ⟨_, hp, rfl, _, rfl⟩) ⟨st', tup_at t1 fun o e => hk _ o D.l1z D.l1TO D.l1i1 D.l1i2 e, tup_at t2 fun o e => hk _ o D.l2z D.l2TO D.l2i1 D.l2i2 e⟩ hk'
    · intro s1 Q1 E1 ⟨st, t1, t2⟩ hQ
      refine zt_end hA D st t1 t2 ?_ fun h' hk => hQ h' s1.toks fun c o hc e => hk c o (fun x => hc (by simp [x])) (fun x => hc (by simp [x])) (fun x => hc (by simp [x])) (fun x => hc (by simp [x])) e
      by_cases hx : xs.size ≤ ys.size
      · left
        rw [Nat.min_eq_left hx]
        exact Array.getElem?_eq_none (Nat.le_refl _)
      · right
        rw [Nat.min_eq_right (by omega)]
        exact Array.getElem?_eq_none (Nat.le_refl _)
/-- the object's keys are key objects of T -/
def KFrom (T : List PT4) (ob : Obj) : Prop := ∀ (es : Array DictEntry) (ep i : Nat) (en : DictEntry) (q : Addr), ob.data = .dict es ep → es[i]? = some en → en.key = .ref q → ∃ t ∈ T, t.2.1 = q
/-- the second: key object; the third: key; the fourth: value -/
def rDictZ (K : PySem.W.Frag) : List V → Hp → VK → Prop := fun vs H Q => ∃ (a b : Addr) (T : List PT4), vs = [.ref a, .ref b] ∧ SqT K H a (T.map fun t => .ref t.2.1) ∧ SqT K H b (T.map fun t => t.2.2.2) ∧ (∀ t ∈ T, H t.2.1 = some (.tup (t.2.2.1.map kV))) ∧
  ∀ p ob, H p = none → KFrom T ob → Q (.ref p) (upd H p (.frz ob (.dT (mergT T []))))
theorem storedH_mem {k : List Key} {a : Addr} {v : Value} {xs : List (List Key × Addr × Value)} {b : List Key × Addr × Value} (h : b ∈ storedH xs k a v) : (∃ x ∈ xs, x.2.1 = b.2.1) ∨ a = b.2.1 := by
  unfold storedH at h
  split at h
  · obtain ⟨x, hx, rfl⟩ := List.mem_map.mp h
    left
    refine ⟨x, hx, ?_⟩
    unfold putAt
    split <;> rfl
  · rcases List.mem_append.mp h with h | h
    · exact .inl ⟨b, h, rfl⟩
    · have : b = (k, a, v) := by simpa using h
      rw [this]
      exact .inr rfl
theorem stored_mem {b : List Key × Addr × Value} : ∀ (ps xs : List (List Key × Addr × Value)), b ∈ storedAllH xs ps → (∃ x ∈ xs, x.2.1 = b.2.1) ∨ ∃ x ∈ ps, x.2.1 = b.2.1
  | [], xs, h => .inl ⟨b, h, rfl⟩
  | p :: ps, xs, h => by
    rcases stored_mem ps (storedH xs p.1 p.2.1 p.2.2) h with ⟨x, hx, e⟩ | ⟨x, hx, e⟩
    · rcases storedH_mem hx with ⟨y, hy, e2⟩ | e2
      · exact .inl ⟨y, hy, e2.trans e⟩
      · exact .inr ⟨p, List.mem_cons_self, e2.trans e⟩
    · exact .inr ⟨x, List.mem_cons_of_mem _ hx, e⟩
theorem vals_paired : ∀ {T : List PT4} {us : List Value}, Vals (T.map fun t => t.2.2.2) us → Paired (fun (t : PT4) u => RelV t.2.2.2 u) T us
  | [], _, .nil => .nil
  | _ :: _, _, .cons r rr => .cons r (vals_paired rr)
theorem vals_refs : ∀ {as : List Addr} {us : List Value}, Vals (as.map V.ref) us → us = as.map Value.ref
  | [], _, .nil => rfl
  | a :: as, _, .cons r rr => by
    cases r
    rw [vals_refs rr]
    rfl
section
variable {X : Cx} {e e2 : Expr} {ta : TA} {p p2 cpos pos : Pos}
theorem pe_dictZip (hu : X.A.units + 64 < cLine) (hc : X.calm = true) (ha : PA X [e, e2] ta) (hg : Gl X "dict") (hm : X.mg "dict" = none) (hg2 : Gl X "zip") (hm2 : X.mg "zip" = none)
    (hs : starEach [.Call (.Name "zip" p2) [e, e2] [] cpos] X.env = (false, eval (.Call (.Name "zip" p2) [e, e2] [] cpos) X.env) :: starEach [] X.env := by rfl)
    (hs2 : starEach [e, e2] X.env = (false, eval e X.env) :: starEach [e2] X.env := by rfl) (hpl2 : (backTo cpos (starEach [e2] X.env)).any (·.1) = false := by rfl) :
    PE X (.Call (.Name "dict" p) [.Call (.Name "zip" p2) [e, e2] [] cpos] [] pos) (tCB (rDictZ X.K) ta) := by
  refine ⟨fun pins s σ H Q I hq => ?_⟩
  refine wpAny_Call_Name_kw (ld_blt I hg hm PyProof.Rows.boot_dict ?_)
  refine PyProof.Rows.callWith_type1 ?_ hs rfl
  rw [hs]
  show wpAny _ _ (spliced ((false, eval (.Call (.Name "zip" p2) [e, e2] [] cpos) X.env) :: backTo pos (starEach [] X.env))) _ _ s
  refine Calls.spliced_cons ?_
  refine Call_ (ld_blt I hg2 hm2 PyProof.Rows.boot_zip (PyProof.Rows.callWith_type1 (thn (ha.run cpos pins s σ H _ I hq) fun us s1 ⟨vs, H1, I1, r1, q1⟩ => ?_) hs2 hpl2))
  obtain ⟨a, b, T, ex, hqx, hqy, hks, q⟩ := q1
  subst ex
  cases r1 with
  | cons r rr =>
    cases rr with
    | cons r' rr =>
      cases rr
      cases r
      cases r'
      obtain ⟨its, rv, p1, z1⟩ := I1.tuple hqx
      obtain ⟨ys, rv2, p2, z2⟩ := I1.tuple hqy
      have rv' : Vals ((T.map fun t => t.2.1).map V.ref) its := by
        rw [List.map_map]
        exact rv
      have ei := vals_refs rv'
      subst ei
      have rel := vals_paired rv2
      have hl := paired_len rel
      obtain ⟨o1, ho1, _⟩ := id p1
      obtain ⟨o2, ho2, _⟩ := id p2
      refine RZ.call_zipT (show s1.heap.IsTuple a _ from p1) (show s1.heap.IsTuple b ys.toArray from p2) fun h' hz hTI hTO h1 h2 hsz hk => ?_
      refine Calls.spliced_nil ?_
      have hl1 := tup_at (show s1.heap.IsTuple a _ from p1) fun o e => hk a o e
      have hl2 := tup_at (show s1.heap.IsTuple b ys.toArray from p2) fun o e => hk b o e
      have D := PySem.W.ktu_apart s1.heap.objs.size a b (Heap.lt_size ho1) (Heap.lt_size ho2)
      have hge : s1.heap.objs.size ≤ h'.objs.size := by rw [hsz]; exact Nat.le_add_right _ _
      have off : ∀ c : Addr, c < s1.heap.objs.size → c ∉ [s1.heap.objs.size + 4, s1.heap.objs.size + 3, s1.heap.objs.size, s1.heap.objs.size + 1] := by
        intro c hc hm
        simp only [List.mem_cons, List.not_mem_nil, or_false] at hm
        rcases hm with h | h | h | h <;> rw [h] at hc <;> exact absurd hc (by simp)
      have hmin : min ((T.map fun t => t.2.1).map Value.ref).toArray.size ys.toArray.size = ((T.zip ys).map fun q => (q.1.2.2.1, q.1.2.1, q.2)).length := by simp [hl]
      refine call_dict_pairsH (s := { s1 with heap := h' }) (knd := tupleKind (mixKind X.prog X.w)) (ps := (T.zip ys).map fun q => (q.1.2.2.1, q.1.2.1, q.2)) (pairZipT _ _ _ _ _ _ _ D ((T.map fun t => t.2.1).map Value.ref).toArray ys.toArray) (I1.ok.hd hc) (show X.A.units + 1 + 1 < cLine by omega) ⟨hz, hTI, ⟨_, _, hTO⟩, h1, h2, hl1, hl2⟩ ⟨by rw [hmin], fun j key v hr => ?_⟩ (fun h2 hk2 x hx => ?_) ?_ fun h2 tk hd' k => ?_
      · obtain ⟨e1, e2⟩ := hr
        have e1 : ((T.map fun t => t.2.1).map Value.ref)[j]? = some key := by simpa using e1
        have e2 : ys[j]? = some v := by simpa using e2
        rw [List.map_map, List.getElem?_map] at e1
        cases ez : T[j]? with
        | none =>
          rw [ez] at e1
          cases e1
        | some t =>
          rw [ez] at e1
          cases e1
          have ep : (T.zip ys)[j]? = some (t, v) := List.getElem?_zip_eq_some.mpr ⟨ez, e2⟩
          exact ⟨t.2.2.1, t.2.1, by rw [List.getElem?_map, ep]; rfl, rfl⟩
      · obtain ⟨z, hz1, rfl⟩ := List.mem_map.mp hx
        have hmT : z.1 ∈ T := (List.of_mem_zip (by exact hz1)).1
        have hk1 := key_of I1.hok (hks _ hmT)
        obtain ⟨o', its', n', g1, g2, g3, g4⟩ := id hk1
        have hlt := Heap.lt_size g1
        exact ⟨o', its', n', hk2 _ _ (Nat.ne_of_lt (Nat.lt_of_lt_of_le hlt hge)) (off _ hlt) (hk _ _ g1), g2, g3, g4⟩
      · rw [hmin, List.length_map, List.length_zip, ← hl, Nat.min_self]
        simpa using z1
      · have hm : (h'.objs.size == sysModules) = false := beq_eq_false_iff_ne.mpr (Nat.ne_of_gt (Nat.lt_of_lt_of_le I1.big hge))
        have hf : H1 h'.objs.size = none := I1.hok.fresh hge
        have hlen : (mergT T []).length ≤ sizeLine := by
          have := mergT_len T []
          have z : T.length ≤ sizeLine := by simpa using z1
          simp only [List.length_nil, Nat.zero_add] at this
          omega
        have kt : KT H1 (mergT T []) (storedAllH [] ((T.zip ys).map fun q => (q.1.2.2.1, q.1.2.1, q.2))) := kt_merge .nil hks rel
        have kt2 := kt_up (Ex.new (o := .dT (mergT T [])) hf) kt
        obtain ⟨o1, es, ep, g1, g2, g3, g4, g5, g6⟩ := hd'
        have hkA : ∀ c o, s1.heap.get? c = some o → h2.get? c = some o := fun c o e => k c o (off c (Heap.lt_size e)) (hk c o e)
        have J : Inv X pins σ (upd H1 h'.objs.size (.dT (mergT T []))) ⟨h2, s1.gens, s1.drawn, tk, s1.os⟩ := I1.laid (t' := tk) hkA hge (show ObjOk X.prog X.w _ _ _ (.dT (mergT T [])) from ⟨hlen, hm, _, kt2, o1, es, ep, g1, g2, g3, g4, g6⟩)
        obtain ⟨ob, J2⟩ := J.lock upd_same trivial
        have eU : upd (upd H1 h'.objs.size (.dT (mergT T []))) h'.objs.size (.frz ob (.dT (mergT T []))) = upd H1 h'.objs.size (.frz ob (.dT (mergT T []))) := by
          funext c
          by_cases hcc : c = h'.objs.size
          · rw [hcc, upd_same, upd_same]
          · rw [upd_ne hcc, upd_ne hcc, upd_ne hcc]
        rw [eU] at J2
        have gob : h2.get? h'.objs.size = some ob := (J2.hok _ _ upd_same).1
        have eob : ob = o1 := Option.some.inj (gob.symm.trans g1)
        refine ⟨.ref h'.objs.size, _, J2, rfl, q _ ob hf fun es2 ep2 i en qk w1 w2 w3 => ?_⟩
        rw [eob] at w1
        obtain ⟨rfl, rfl⟩ := dict_ep g3 w1
        have we := entry_at g4 i
        rw [w2] at we
        cases ex : (storedAllH [] ((T.zip ys).map fun q => (q.1.2.2.1, q.1.2.1, q.2)))[i]? with
        | none =>
          rw [ex] at we
          cases we
        | some b0 =>
          rw [ex] at we
          have hen : en = _ := Option.some.inj we
          rw [hen] at w3
          have w4 : b0.2.1 = qk := by
            have : Value.ref b0.2.1 = Value.ref qk := w3
            exact Value.ref.inj this
          rcases stored_mem _ _ (List.mem_of_getElem? ex) with ⟨x, hx, _⟩ | ⟨x, hx, e5⟩
          · simp at hx
          · obtain ⟨z, hz1, rfl⟩ := List.mem_map.mp hx
            exact ⟨z.1, (List.of_mem_zip (by exact hz1)).1, e5.trans w4⟩
end
end DL
end

section
set_option Elab.async false
set_option linter.all false
set_option maxRecDepth 100000
set_option autoImplicit false
set_option maxHeartbeats 1000000
/-! DL34: dict(zip(t, u)) as data; for k, v in d.items() where the keys are tuples. -/
namespace DL
open PySem PySem.Calls PySem.Spec PyProof.Rows L2
def zipKT : List D → List D → Option (List (List Key × D))
  | [], [] => some []
  | k :: ks, d :: ds => match keyTOf k, zipKT ks ds with
    | some q, some r => some ((q, d) :: r)
    | _, _ => none
  | _, _ => none
def dictZF (Γ : Gam) (vs : List Val) : R Val := match vs with
  | [.f (.tuple ks), .f (.tuple ds)] => match zipKT ks ds with
    | some qs => .ok (.f (dicG (mergD qs []))) Γ
    | none => .stuck
  | _ => .stuck
theorem zipKT_rep {cls : Str → Addr} {F : Hp} : ∀ {vs ws : List V} {ks ds : List D} {qs : List (List Key × D)}, RepAll cls F vs ks → RepAll cls F ws ds → zipKT ks ds = some qs →
    ∃ T : List PT4, vs = T.map (fun t => V.ref t.2.1) ∧ ws = T.map (fun t => t.2.2.2) ∧ (∀ t ∈ T, F t.2.1 = some (.tup (t.2.2.1.map kV))) ∧ T.map (fun t => t.2.2.1) = qs.map (·.1) ∧ RepAll cls F (T.map fun t => t.2.2.2) (qs.map (·.2))
  | _, _, _, _, qs, .nil, .nil, h => by
    cases h
    exact ⟨[], rfl, rfl, fun _ h => by simp at h, rfl, .nil⟩
  | _, _, _, _, qs, .nil, .cons _ _, h => by simp [zipKT] at h
  | _, _, _, _, qs, .cons _ _, .nil, h => by simp [zipKT] at h
  | _, _, k :: ks, d :: ds, qs, .cons r1 r2, .cons r3 r4, h => by
    simp only [zipKT] at h
    split at h
    · rename_i q qs' e1 e2
      cases h
      obtain ⟨T, h1, h2, h3, h4, h5⟩ := zipKT_rep r2 r4 e2
      obtain ⟨b, rfl, hb⟩ := rep_keyT r1 e1
      refine ⟨(b, b, q, _) :: T, by simp [h1], by rw [List.map_cons, ← h2], fun t ht => ?_, by simp [h4], .cons r3 h5⟩
      rcases List.mem_cons.mp ht with rfl | ht
      · exact hb
      · exact h3 t ht
    · cases h
theorem cs_dictZ {M : Pm} : CallS M (rDictZ M.K) dictZF := by
  intro E Γ σ F0 H0 own0 F H own xs as Q s st r p
  unfold dictZF at p
  split at p
  · cases r with
    | cons r1 r =>
      cases r with
      | cons r2 r =>
        cases r
        split at p
        · rename_i qs hq
          obtain ⟨a, vs, rfl, h1, h2⟩ := Rep.invU r1
          obtain ⟨b, ws, rfl, h3, h4⟩ := Rep.invU r2
          obtain ⟨T, e1, e2, k1, k2, k3⟩ := zipKT_rep h2 h4 hq
          subst e1
          subst e2
          refine ⟨a, b, T, rfl, .inl (rd_up s.fh h1), .inl (rd_up s.fh h3), fun t ht => s.fh _ _ (k1 t ht), fun q ob hq' hkf => ?_⟩
          obtain ⟨m1, m2⟩ := merg_rep (kvs := []) (kds := []) k2 k3 rfl .nil
          have g : Grow F H (upd F q (.frz ob (.dT (mergT T [])))) (upd H q (.frz ob (.dT (mergT T [])))) := .new s.fh hq'
          have hki : KIn (upd F q (.frz ob (.dT (mergT T [])))) ob := fun es ep i en qk w1 w2 w3 => by
            obtain ⟨t, ht, rfl⟩ := hkf es ep i en qk w1 w2 w3
            exact ⟨_, g.ff _ _ (k1 t ht)⟩
          exact p _ _ _ own (s.grow g) (st.trans (g.step own)) (.dcG upd_same hki m1 (RepAll.mono g.ff m2))
        · exact p.elim
  · exact p.elim
section
variable {X : Cx} {M : Pm} {E : XK} {e e2 : Expr} {ms : Gam → R (List Val)} {p p2 cpos pos : Pos}
theorem e_dictZip (hu : X.A.units + 64 < cLine) (hK : X.K = M.K) (hc : X.calm = true) (hg : Gl X "dict") (hg2 : Gl X "zip") (hm : X.mg "dict" = none) (hm2 : X.mg "zip" = none) (ha : PA X [e, e2] (tA M E ms))
    (hs : starEach [.Call (.Name "zip" p2) [e, e2] [] cpos] X.env = (false, eval (.Call (.Name "zip" p2) [e, e2] [] cpos) X.env) :: starEach [] X.env := by rfl)
    (hs2 : starEach [e, e2] X.env = (false, eval e X.env) :: starEach [e2] X.env := by rfl) (hpl2 : (backTo cpos (starEach [e2] X.env)).any (·.1) = false := by rfl) :
    PE X (.Call (.Name "dict" p) [.Call (.Name "zip" p2) [e, e2] [] cpos] [] pos) (tE M E (callM dictZF ms)) := PE_weak (pe_dictZip hu hc ha hg hm hg2 hm2 hs hs2 hpl2) fun σ H Q q => by
  rw [hK]
  exact tE_call cs_dictZ q
end
/-! ### for k, v in d.items() -/
/-- the pairs of a locked dict with tuple keys, each in a new tuple -/
def ItiT (d : Addr) (o : Obj) (kvs : List (List Key × V)) : It where
  go := fun i H => H d = some (.frz o (.dT kvs)) ∧ i < kvs.length
  yld := fun i H x H' => ∃ T k v q, kvs[i]? = some (k, v) ∧ x = .ref T ∧ H q = some (.tup (k.map kV)) ∧ (∃ (es : Array DictEntry) (ep : Nat) (en : DictEntry), o.data = .dict es ep ∧ es[i]? = some en ∧ en.key = .ref q) ∧ H T = none ∧ H' = upd H T (.tup [.ref q, v])
  stop := fun i H => H d = some (.frz o (.dT kvs)) ∧ kvs.length ≤ i
section
variable {X : Cx} {pins : List (Addr × Obj)} {σ : L2.St} {H : Hp} {s : Shared} {d : Addr} {o : Obj}
theorem frz_TV {kvs : List (List Key × V)} (I : Inv X pins σ H s) (h : H d = some (.frz o (.dT kvs))) :
    (d == sysModules) = false ∧ s.heap.get? d = some o ∧ o.ExactDict ∧ ∃ (es : Array DictEntry) (ep : Nat), o.data = .dict es ep ∧ es.size = kvs.length ∧
      ∀ (i : Nat) (k : List Key) (v : V), kvs[i]? = some (k, v) → ∃ (en : DictEntry) (q : Addr), es[i]? = some en ∧ en.key = .ref q ∧ H q = some (.tup (k.map kV)) ∧ RelV v en.val := by
  obtain ⟨hd, z, hs, xs, pr, o', es, ep, ho, hx, hdt, he, _⟩ := I.hok d _ h
  rw [hd] at ho
  cases ho
  have l1 : es.size = xs.length := size_of_entries he
  have l2 : kvs.length = xs.length := Paired.length pr
  refine ⟨hs, hd, hx, es, ep, hdt, l1.trans l2.symm, fun i k v e => ?_⟩
  obtain ⟨b, hb, e1, e2, e3⟩ := paired_get pr e
  have q := entry_at he i
  rw [hb] at q
  exact ⟨_, b.2.1, q, rfl, e2, e3⟩
theorem turn_itemsT {P : Program} {w : World} {K : PySem.W.Frag} {kvs : List (List Key × V)} {elts : List Expr} {kk : Nat} {tpos : Pos} {es : Array DictEntry} {ep : Nat} (it : Addr) (hod : o.data = .dict es ep) :
    Turn P w K (.Tuple elts kk tpos) (ItiT d o kvs) [it] it (fun i h => ∃ ok ov, IsItemIter h it d i es.size ep ok ov) where
  mem := by simp
  obj := fun i h st b hb => by
    obtain rfl : b = it := by simpa using hb
    obtain ⟨ok, ov, e⟩ := st
    exact ⟨_, e, fun v z => nomatch z⟩
  keep := fun i h h' ⟨ok, ov, e⟩ k => ⟨ok, ov, k it (by simp) _ e⟩
  item := by
    intro X hP hw hK hc i pins s σ H E I hf st hg
    subst hP hw hK
    obtain ⟨hd, hi⟩ := hg
    obtain ⟨hs, hgd, hx, es', ep', hdt, hsz, ent⟩ := frz_TV I hd
    obtain ⟨rfl, rfl⟩ := dict_ep hod hdt
    obtain ⟨⟨k, v⟩, hkv⟩ : ∃ p, kvs[i]? = some p := ⟨kvs[i], List.getElem?_eq_getElem hi⟩
    obtain ⟨en, q, hen, hkey, hq, rv⟩ := ent i k v hkv
    obtain ⟨ok, ov, he⟩ := st
    have hie : i < es'.size := by omega
    have een : es'[i] = en := by
      rw [Array.getElem?_eq_getElem hie] at hen
      exact Option.some.inj hen
    have hlt : it < s.heap.objs.size := Heap.lt_size he
    refine DT.nextI he ⟨o, hgd, hx, hdt⟩ hie fun h' ho hT hz hk => ?_
    refine ⟨_, rfl, wpAny_letOwnedTupleGo_items (s := { s with heap := h' }) ho fun h'' he' sb => ?_⟩
    rw [een] at hT
    have nT : s.heap.objs.size ≠ it := Nat.ne_of_gt hlt
    have hT2 : h''.get? s.heap.objs.size = some { cls := .type "tuple", data := .seq #[.ref q, en.val] } := by
      have := (sb.2 _ nT).trans hT
      rw [hkey] at this
      exact this
    have new : ObjOk X.prog X.w (upd H s.heap.objs.size (.tup [.ref q, v])) h'' s.heap.objs.size (.tup [.ref q, v]) := by
      refine ⟨by show 2 ≤ sizeLine; decide, [.ref q, en.val], .cons rfl (.cons rv .nil), ⟨_, hT2, rfl, _, rfl⟩⟩
    have kept : ∀ b ob, b ∉ [it] → s.heap.get? b = some ob → h''.get? b = some ob := fun b ob hb e => by
      have hb' : b ≠ it := by simpa using hb
      exact (sb.2 b hb').trans (hk b ob hb' e)
    have I1 : Inv X pins σ (upd H s.heap.objs.size (.tup [.ref q, v])) { s with heap := h'' } := I.turnedNew (t' := s.toks) (ch := [it]) kept hf (Nat.le_refl _) new
    refine ⟨.ref s.heap.objs.size, _, I1, rfl, ⟨_, k, v, q, hkv, rfl, hq, ⟨es', ep', en, hdt, hen, hkey⟩, I.hok.fresh (Nat.le_refl _), rfl⟩, ⟨_, _, he'⟩, fun b hb => ?_⟩
    obtain rfl : b = it := by simpa using hb
    rw [upd_ne (Nat.ne_of_lt hlt)]
    exact (hf b (by simp)).1
  done := by
    intro X hP hw hK hc i pins s σ H E I hf st hg
    subst hP hw hK
    obtain ⟨hd, hi⟩ := hg
    obtain ⟨f0, f1, f2, f3, f4, f5⟩ := hf it (by simp)
    obtain ⟨hs, hgd, hx, es', ep', hdt, hsz, ent⟩ := frz_TV I hd
    obtain ⟨rfl, rfl⟩ := dict_ep hod hdt
    obtain ⟨ok, ov, he⟩ := st
    exact DT.endI (I.ok.hd hc) he ⟨o, hgd, hx, hdt⟩ (by omega) fun h' eb => ⟨rfl, I.turned (t' := s.toks) (fun b ob hb e => eb b ob hb e) f0 f1 f3 f4 f5⟩
  self := fun A i s Q E st h => let ⟨_, _, e⟩ := st; PySem.W.kcp_self e h
def iItemsT (td : TE) : TI := fun σ H R => td σ H fun x H1 => ∃ d o kvs, x = .ref d ∧ H1 d = some (.frz o (.dT kvs)) ∧ R (ItiT d o kvs) H1
theorem pi_itemsT {elts : List Expr} {kk : Nat} {tpos : Pos} {e : Expr} {td : TE} {apos cpos : Pos} (he : PE X e td) (hbase : attributeBase e "items" X.env (eval e X.env) = eval e X.env := by rfl) (hline : (apos.endLine == cpos.line) = true := by rfl) :
    PI X (.Tuple elts kk tpos) (.Call (.Attribute e "items" apos) [] [] cpos) (iItemsT td) := by
  refine ⟨fun pins s σ H R I h => ?_⟩
  refine wpAny_Call_method (T := "dict") (id := "dict.items") hbase rfl hline F.plainAttrs_dict F.slot_dict_items F.type_dict_items (thn (he.run pins s σ H _ I h) fun u s1 ⟨x, H1, I1, rx, d, o, kvs, ex, hd, q⟩ => ?_)
  subst ex
  obtain rfl : u = Value.ref d := rx
  obtain ⟨hs, hgd, hx, es, ep, hdt, hsz, ent⟩ := frz_TV I1 hd
  have raw : DT.Raw s1.heap d es ep := ⟨o, hgd, hx, hdt⟩
  refine ⟨raw.typeIs, fun a e => by cases e; exact ⟨o, hgd, hx.2.1⟩, ?_⟩
  let s2 : Shared := { s1 with heap := s1.heap.push { cls := .type "dict_items", data := .fields #[.ref d] } }
  have I2 : Inv X pins σ H1 s2 := I1.kept (t' := s1.toks) fun b ob q => Heap.get?_push_of_some _ q
  have hv : s2.heap.IsItemsView s1.heap.objs.size d := ⟨_, Heap.get?_push_size _ rfl, rfl, rfl⟩
  have fin : wpAny (model X.prog X.w) X.A (pyIter (.ref s1.heap.objs.size)) (PIE X pins σ (.Tuple elts kk tpos) R) X.xe s2 :=
    DT.iterI hv (raw.push _) (pi_one (tk := s1.toks) I2 _ (turn_itemsT _ hdt) ⟨.none, .none, Heap.get?_push_size _ rfl⟩ q)
  show wpAny _ _ (callWith cpos (.builtin "dict.items") [.ref d] [] []) _ X.xe s1
  exact method_meetsIn F.slot_dict_items F.entry_dict_items rfl (PySem.evalArgs_none ⟨rfl, raw.typeIs, F.args_dict_items_1 _, _, DT.meetsItems (es := es) (ep := ep) hs, ⟨raw, fin⟩⟩)
end
/-! ### .. of data -/
def dicGOf : D → Option (List (List Key × D))
  | .dict ((.none, .int 4) :: r) => prsT r
  | _ => none
theorem dicGOf_some {d : D} {kds : List (List Key × D)} (h : dicGOf d = some kds) : d = dicG kds := by
  unfold dicGOf at h
  split at h
  · rw [prsT_some h]
    rfl
  · cases h
def itemsTD (kds : List (List Key × D)) : List D := kds.map fun p => .tuple [keyT p.1, p.2]
def itemsTM (m : Gam → R Val) : Gam → R Src := fun Γ => (rd m Γ).bind fun v Γ1 => match v with
  | .f d => match dicGOf d with
    | some kds => .ok ⟨itemsTD kds, none⟩ Γ1
    | none => .stuck
  | _ => .stuck
theorem kt_at {cls : Str → Addr} {F : Hp} {kvs : List (List Key × V)} {kds : List (List Key × D)} (h2 : kvs.map (·.1) = kds.map (·.1)) (h3 : RepAll cls F (kvs.map (·.2)) (kds.map (·.2))) {i : Nat} {k : List Key} {v : V} (e : kvs[i]? = some (k, v)) : ∃ d, kds[i]? = some (k, d) ∧ Rep cls F v d := by
  have hl : kvs.length = kds.length := by simpa using congrArg List.length h2
  have hi : i < kvs.length := (List.getElem?_eq_some_iff.mp e).1
  have e2 : kds[i]? = some kds[i] := List.getElem?_eq_getElem (by omega)
  have k1 : (kvs.map (·.1))[i]? = some k := by simp [e]
  rw [h2] at k1
  simp [e2] at k1
  exact ⟨kds[i].2, by rw [e2, ← k1], h3.get i v kds[i].2 (by simp [e]) (by simp [e2])⟩
theorem repAll_keys {cls : Str → Addr} {F : Hp} : ∀ ks : List Key, RepAll cls F (ks.map kV) (ks.map keyD)
  | [] => .nil
  | k :: ks => .cons (rep_keyD k) (repAll_keys ks)
section
variable {X : Cx} {M : Pm} {E : XK} {e : Expr} {me : Gam → R Val} {apos pos : Pos}
theorem itd_itemsT {σ : L2.St} {F : Hp} {a : Addr} {ob : Obj} {kvs : List (List Key × V)} {kds : List (List Key × D)} (h1 : F a = some (.frz ob (.dT kvs))) (hki : KIn F ob) (h2 : kvs.map (·.1) = kds.map (·.1)) (h3 : RepAll M.cls F (kvs.map (·.2)) (kds.map (·.2))) : ItD M (ItiT a ob kvs) σ F ⟨itemsTD kds, none⟩ where
  go := fun i Γ σ F' H' own' hi' st e ok hs => by
    have hl : kvs.length = kds.length := by simpa using congrArg List.length h2
    simp only [itemsTD, List.length_map] at hi'
    exact ⟨st.fh _ _ (e _ _ h1), by omega⟩
  stop := fun i Γ σ F' H' own' hi' st e ok hs => by
    have hl : kvs.length = kds.length := by simpa using congrArg List.length h2
    simp only [itemsTD, List.length_map] at hi'
    exact ⟨st.fh _ _ (e _ _ h1), by omega⟩
  yld := fun i Γ σ F' H' own' x H'' hi' st e ok hs y => by
    obtain ⟨T, k, v, q, hk, rfl, hq, ⟨es, ep, en, w1, w2, w3⟩, hT, rfl⟩ := y
    obtain ⟨d, hd, rd⟩ := kt_at h2 h3 hk
    obtain ⟨ks, w4⟩ := hki es ep i en q w1 w2 w3
    have w5 := e _ _ w4
    have w6 := st.fh _ _ w5
    rw [hq] at w6
    cases w6
    have rk : Rep M.cls F' (.ref q) (keyT k) := .tup w5 (repAll_keys k)
    obtain ⟨g2, r2⟩ := rep_pair (M := M) (T := T) st.fh hT rk (rd.mono e)
    refine ⟨_, _, g2, ?_, r2⟩
    simp [itemsTD, hd]
theorem i_itemsT {elts : List Expr} {kk : Nat} {tpos : Pos} (he : PE X e (tE M E me)) (hbase : attributeBase e "items" X.env (eval e X.env) = eval e X.env := by rfl) (hline : (apos.endLine == pos.line) = true := by rfl) :
    PI X (.Tuple elts kk tpos) (.Call (.Attribute e "items" apos) [] [] pos) (tI M E (itemsTM me)) := PI_weak (pi_itemsT (pe_rd he) hbase hline) fun σ H R' ⟨Γ, F, own, s, q⟩ => by
  refine ⟨Γ, F, own, s, post_srcb q fun F1 H1 own1 Γ1 x a st1 s1 r1 p1 => ?_⟩
  split at p1
  · rename_i d
    split at p1
    · rename_i kds hk
      have r0 : Rep M.cls F1 x d := r1
      rw [dicGOf_some hk] at r0
      obtain ⟨l, ob, kvs, rfl, h1, h0, h2, h3⟩ := Rep.invG r0
      exact ⟨l, ob, kvs, rfl, st1.fh _ _ h1, p1 F1 H1 own1 _ st1 s1 (itd_itemsT h1 h0 h2 h3) (fun _ _ h => by simp at h)⟩
    · exact p1.elim
  · exact p1.elim
end
end DL
end

section
set_option Elab.async false
set_option linter.all false
set_option maxRecDepth 100000
set_option autoImplicit false
set_option maxHeartbeats 1000000
/-! DL35: tuple * int. -/
namespace DL
open PySem PySem.Spec PyProof.Rows L2
def mulU (Γ : Gam) (a b : Val) : R Val := match a, b with
  | .f (.tuple xs), .f (.int k) => if 2 ≤ k ∧ k ≤ 1000 ∧ 1 ≤ xs.length ∧ xs.length ≤ 1000 then .ok (.f (.tuple (List.replicate k.toNat xs).flatten)) Γ else .stuck
  | _, _ => .stuck
theorem repAll_flat {cls : Str → Addr} {F : Hp} {vs : List V} {ds : List D} (r : RepAll cls F vs ds) : ∀ n : Nat, RepAll cls F (List.replicate n vs).flatten (List.replicate n ds).flatten
  | 0 => .nil
  | n + 1 => by
    simp only [List.replicate_succ, List.flatten_cons]
    exact r.append (repAll_flat r n)
theorem os_mulU {M : Pm} : OpS M (rRepT M.K) mulU := by
  intro E Γ σ F0 H0 own0 F H own x y a b Q s st rx ry p
  unfold mulU at p
  split at p
  · rename_i xs k
    split at p
    · rename_i hk
      obtain ⟨l, vs, rfl, h1, h2⟩ := Rep.invU rx
      cases ry
      have hl := h2.length
      refine ⟨l, k, vs, rfl, rfl, .inl (rd_up s.fh h1), fun e => ?_, hk.1, hk.2.1, by omega, fun q hq => ?_⟩
      · rw [e] at hl
        simp at hl
        omega
      · exact post_newU s st p hq (repAll_flat h2 _)
    · exact p.elim
  · exact p.elim
end DL
end

section
set_option Elab.async false
set_option linter.all false
set_option maxRecDepth 100000
set_option autoImplicit false
set_option maxHeartbeats 1000000
/-! DL36: sorted(t) of a tuple or a list. -/
namespace DL
open PySem PySem.Calls PySem.Spec PyProof.Rows L2
open PySem.W
section
variable {prog : Program} {w : World} {A : Around} {E : Value → Shared → Prop} {s : Shared} {vs : List Value} {bs : List (V × D)} {R : Value → V × D → Prop}
theorem sortedT {l : Addr} {Q : Value → Shared → Prop} (hl : s.heap.IsTuple l vs.toArray) (e : EachIs R vs bs) (er : EachIs (fun v b => ∃ as, Reads s.heap v (sd b) as) vs bs) (al : AllAlike (bs.map sd)) (so : Sortable (bs.map sd))
    (hL : bs.length ≤ sizeLine) (hu : ∀ b, b ∈ bs → A.units + 2 + (sd b).depth < cLine)
    (q : ∀ out : List Value, out.length = bs.length → EachIs R out (bs.mergeSort (dataLe false sd)) → Q (.ref (s.heap.objs.size + 1)) { s with heap := sortedAll s.heap vs (List.toArray out) }) :
    wpAny (model prog w) A (call (.builtin "sorted") [.ref l]) Q E s := by
  have len : vs.length = bs.length := e.length
  have kept := er.mono fun u b ⟨as, r⟩ => (⟨as, PyProof.Rows.Reads.keeps (fun _ _ => sorting_copy_old) r⟩ : ∃ as, Reads (sortingHeap (copyHeap s.heap vs) (s.heap.objs.size + 1) vs) u (sd b) as)
  have S := SortsAt.data (prog := prog) (w := w) (A := A.in1.in1) (s := { s with heap := sortingHeap (copyHeap s.heap vs) (s.heap.objs.size + 1) vs }) (each_map (R := fun u d => ∃ as, Reads (sortingHeap (copyHeap s.heap vs) (s.heap.objs.size + 1) vs) u d as) sd kept) al so (bound_map hu)
  refine sorted_of_sortS (.inr hl) (by rw [len]; exact hL) (args_sorted1 _) (fun _ => args_list_sort _) fun _ => ?_
  refine list_sort_vals (s := { s with heap := copyHeap s.heap vs }) (copyHeap_at s.heap vs) S (by rw [len]; exact hL) ⟨rfl, ?_⟩
  exact q _ (by rw [sortVals_length false rfl]; exact len) (sortVals_data false e kept al)
end
def rSortedT (K : PySem.W.Frag) : List V → Hp → VK → Prop := fun xs H Q => ∃ (a : Addr) (bs : List (V × D)), xs = [.ref a] ∧ SqT K H a (bs.map (·.1)) ∧ (∀ b ∈ bs, Dp K H b.1 b.2) ∧ okS (bs.map (·.2)) = true ∧
  ∀ p, H p = none → Q (.ref p) (upd H p (.lst ((bs.mergeSort (dataLe false sd)).map (·.1))))
theorem call_sortedT {X : Cx} (hu : X.A.units + 64 < cLine) : CallR X (.builtin "sorted") (rSortedT X.K) := by
  intro pins s σ H vs us Q I r h
  obtain ⟨a, bs, rfl, hs, hd, ok, q⟩ := h
  obtain ⟨its, rv, hl, hz⟩ := I.tuple hs
  obtain ⟨u, rfl, ru⟩ := vals1 r
  obtain rfl : u = Value.ref a := ru
  have e1 : EachIs (fun u (b : V × D) => RelV b.1 u) its bs := each_of (H := H) (s := s) (K := X.K) rv
  have e2 : EachIs (fun v (b : V × D) => ∃ as, Reads s.heap v (sd b) as) its bs := each_mono e1 fun u b hb hr => Dp.reads I _ _ _ (hd b hb) hr
  have l3 : bs.length ≤ sizeLine := by simpa using okS_3 ok
  refine sortedT (show s.heap.IsTuple a its.toArray from hl) e1 e2 (okS_1 ok) (okS_2 ok) l3 (fun b hb => ?_) fun out ho eo => ?_
  · have := (okS_4 ok (List.mem_map_of_mem (f := (·.2)) hb)).2
    show X.A.units + 2 + b.2.depth < cLine
    omega
  · obtain ⟨ep, he'⟩ := PyProof.Rows.sortedAll_at s.heap its out.toArray
    have hlen : ((bs.mergeSort (dataLe false sd)).map (·.1)).length ≤ sizeLine := by simpa using l3
    have J := I.laid (t' := s.toks) (fun _ _ => PyProof.Rows.sortedAll_old) (Nat.le_succ _) (show ObjOk X.prog X.w (upd H (s.heap.objs.size + 1) (.lst ((bs.mergeSort (dataLe false sd)).map (·.1)))) _ _ _ from ⟨hlen, out, ep, vals_each eo, he'⟩)
    exact ⟨.ref _, _, J, rfl, q _ (I.hok.fresh (Nat.le_succ _))⟩
def sort2F (Γ : Gam) (vs : List Val) : R Val := match vs with
  | [v] => match viewD Γ v with
    | some (.list ds) => if okS ds = true then .ok (.n (.ol (srt dLe ds))) Γ else .stuck
    | some (.tuple ds) => if okS ds = true then .ok (.n (.ol (srt dLe ds))) Γ else .stuck
    | _ => .stuck
  | _ => .stuck
abbrev rSorted2 (K : PySem.W.Frag) : List V → Hp → VK → Prop := fun xs H Q => rSortedD K xs H Q ∨ rSortedT K xs H Q
theorem call_sorted2 {X : Cx} (hu : X.A.units + 64 < cLine) : CallR X (.builtin "sorted") (rSorted2 X.K) := by
  intro pins s σ H vs us Q I r h
  rcases h with h | h
  · exact call_sortedD hu pins s σ H vs us Q I r h
  · exact call_sortedT hu pins s σ H vs us Q I r h
theorem cs_sorted2 {M : Pm} : CallS M (rSorted2 M.K) sort2F := by
  intro E Γ σ F0 H0 own0 F H own xs as Q s st r p
  unfold sort2F at p
  split at p
  · rename_i v
    split at p
    · rename_i ds hv
      refine .inl (cs_sorted E Γ σ F0 H0 own0 F H own xs [v] Q s st r ?_)
      unfold sortF
      simp only [hv]
      exact p
    · rename_i ds hv
      cases r with
      | cons r1 r2 =>
        cases r2
        split at p
        · rename_i ok
          rw [srt_eq] at p
          obtain ⟨l, vs, rfl, _, h1, h2⟩ := view_tup s r1 hv
          obtain ⟨z1, z2, z3⟩ := zip_rep h2
          refine .inr ⟨l, vs.zip ds, rfl, by rw [z1]; exact h1, fun b hb => ?_, by rw [z2]; exact ok, fun q hq => ?_⟩
          · have hm : b.2 ∈ ds := by
              rw [← z2]
              exact List.mem_map_of_mem (f := (·.2)) hb
            exact dp_up s.fh (z3 b hb) (okS_4 ok hm).1
          · refine post_newL s st p hq ?_
            have e := sorted_snd (vs.zip ds)
            rw [z2] at e
            rw [← e]
            exact repAll_zip fun b hb => z3 b ((List.mergeSort_perm _ _).mem_iff.mp hb)
        · exact p.elim
    · exact p.elim
  · exact p.elim
end DL
end

section
set_option Elab.async false
set_option linter.all false
set_option maxRecDepth 100000
set_option autoImplicit false
set_option maxHeartbeats 2000000
/-! DL37: exception classes of the program whose __init__ says super().__init__(text); self.f = par. -/
namespace DL
open PySem PySem.Spec PyProof.Rows L2

/-! ### a class over the built-in class B -/
structure OexB (K : PySem.W.Frag) (B newId initId : String) (bmB : List Value) (C : Addr) : Prop where
  F : ExcBaseFacts B newId initId bmB
  cls : ∃ nm q N bs bm sn sub ab col dd k0 k1 k2 k3 k5, K.lookup C = some (excClassObj nm q C N bs bm true sn sub ab col dd k0 k1 k2 k3 k5 newId) ∧ (∀ Y : String, bm.contains (.type Y) = bmB.contains (.type Y)) ∧
    bm.isEmpty = false ∧ bm.contains (.type "object") = true ∧ ∀ self, PySem.refuseLoop self "__setattr__" bm = pure ()
  sa : PySem.W.findIn K (.ref C) "__setattr__" = some (some (.builtin "object.__setattr__"))
  exC : PySem.W.subIn K (.ref C) (.type "BaseException") = some true
  tyC : PySem.W.typeIn K (.ref C) = some (.type "type")
  kC : PySem.W.keepIn K (.ref C) = true
section
open Builtin Builtin.ObjectAttr
variable {prog : Program} {w : World} {A : Around} {E : Value → Shared → Prop} {R : Result → Shared → Prop} {hp : Heap} {g : Array GenState} {d : Drawn} {t : Nat} {os : OsState}
theorem exc_osaB {K : PySem.W.Frag} {name : Str} {tk : Tok} {v : Value} {x C : Addr} {fv : Array Value} {cd : ClassData}
    (X : K.In hp) (hx : hp.get? x = some { cls := .ref C, data := .fields fv }) (hcd : PySem.W.clsIn K C = some cd) (hob : cd.mro.contains (.type "object") = true) (hne : cd.mro.isEmpty = false) (hps : ∀ self, refuseLoop self "__setattr__" cd.mro = pure ()) (hh : cd.hasDict = true) (ha : PySem.W.findIn K (.ref C) name = some none)
    (hq : ∀ h' tk' dx, (∀ b o, b ≠ x → hp.get? b = some o → h'.get? b = some o) → hp.objs.size ≤ dx → dx ≠ x → h'.get? x = some { cls := .ref C, dict := some dx, data := .fields fv } →
      h'.Ns1 dx (fun y => if y = name then some v else none) → R (.ok (.ret .none)) ⟨h', g, d, tk', os⟩) :
    codeAny (model prog w) A (.call (.builtin "object.__setattr__") ⟨[.ref x, .str name tk, v], []⟩) R ⟨hp, g, d, t, os⟩ := by
  have I : PySem.W.InstAt hp x { cls := .ref C, data := .fields fv } C none := ⟨hx, rfl, rfl, trivial⟩
  have SF := F.store_object
  have hxs : x ≠ hp.objs.size := Nat.ne_of_lt (Heap.lt_size hx)
  have sub : PySem.W.Looks (model prog w) hp (isInstance (.ref x) (.type "object")) true := I.type.andThen (PySem.W.looks_mroIn X (by unfold PySem.W.mroIn; rw [hcd, Option.bind_some, if_neg (by rw [hne]; decide), hob]))
  refine codeAny_call_builtin SF.slot.plain SF.entry (@PySem.W.check_slot (model prog w) _ _ ⟨hp, g, d, t, os⟩ "object.__setattr__" "object" "__setattr__" (.ref x) [.str name tk, v] [] _ SF.kind SF.split sub (SF.args (.ref x) (.str name tk) v) ?_)
  have hmr : PySem.W.Looks (model prog w) hp (mroOf (.ref C)) cd.mro := (PySem.W.looks_clsIn X hcd).andThen .now
  have L3 : PySem.W.Looks (model prog w) hp (storeTaker? none) none := .now
  have hcls : PySem.W.Looks (model prog w) hp (classData C) cd := PySem.W.looks_clsIn X hcd
  rw [PySem.W.osa_eq, refuse_eq]
  refine wpAny_bind (wpAny_bind (I.type.at (wpAny_bind (hmr.at ?_))))
  rw [hps]
  refine wpAny_pure (wpAny_bind (I.type.at (wpAny_bind ((PySem.W.looks_findIn X ha).at (wpAny_bind (L3.at ?_))))))
  show wpAny _ _ (storeInOwnDict (.ref x) (.ref C) (.str name tk) name v false) _ _ _
  obtain ⟨nm, bs, mro, ns, qn, hd, sn, sb, ab, col, del⟩ := cd
  dsimp only at hh
  subst hh
  unfold storeInOwnDict ownDictForStores
  repeat (first | with_reducible refine PySem.HandSPX.store_in_new ?_ ?_ | with_reducible refine wpAny_loadPart_at hx ?_ | with_reducible refine hcls.at ?_ | wp_step)
  · exact ⟨_, #[], _, (Heap.get?_update_ne _ _ _ _ hxs.symm).trans (Heap.get?_push_at rfl rfl), rfl, fun e he => absurd he (by simp), fun _ => rfl⟩
  · intro h' tk' hn' hs
    have hx₁ : (hp.push { cls := .type "dict", data := .dict #[] }).get? x = some { cls := .ref C, data := .fields fv } := Heap.get?_push_of_some _ hx
    refine hq h' tk' hp.objs.size (fun b o hb ho => ?_) (Nat.le_refl _) hxs.symm ?_ hn'
    · exact (hs.2 b (Nat.ne_of_lt (Heap.lt_size ho))).trans ((Heap.get?_update_ne _ _ _ _ hb).trans (Heap.get?_push_of_some _ ho))
    · exact (hs.2 x hxs).trans (Heap.get?_update_self _ hx₁ rfl)
end
section
variable {X : Cx} {pins : List (Addr × Obj)} {σ : L2.St} {H : Hp} {s : Shared} {a C dx : Addr} {f : Str} {y : V} {u : Value} {fs : List (Str × V)} {Q : Unit → Shared → Prop} {E : Value → Shared → Prop} {A : Around} {B newId initId : String} {bmB : List Value}
/-- self.f = y, the first one -/
theorem ost_newB (T : OexB X.K B newId initId bmB C) (I : Inv X pins σ H s) (e : H a = some (exo a C none)) (hno : PySem.W.findIn X.K (.ref C) f = some none) (ry : RelV y u)
    (h : ∀ dx s', H dx = none → dx ≠ a → Inv X pins σ (upd (upd H dx (exd dx [(f, y)])) a (exo a C (some dx))) s' → Q () s') : wpAny (model X.prog X.w) A (setAttr (.ref a) f u) Q E s := by
  obtain ⟨nm, q, N, bs, bm, sn, sub, ab, col, dd, k0, k1, k2, k3, k5, hC, _, hne, hob, hps⟩ := T.cls
  have hcl : PySem.W.clsIn X.K C = some { name := nm, bases := bs, mro := .ref C :: bm, ns := N, qualname := q, hasDict := true, slotNames := sn, subclasses := sub, abstract := ab, collection := col, hasDel := false } := by unfold PySem.W.clsIn; rw [hC] <;> rfl
  obtain ⟨t1, ho⟩ := exo_at I.hok e
  obtain ⟨hp, g, d, t, os⟩ := s
  refine PySem.W.set_plain I.kIn (ox := { cls := .ref C, dict := none, data := .fields #[.ref t1, .none, .none, .none, .bool false, .none] }) (od := none) ⟨ho, rfl, rfl, trivial⟩ T.sa ?_
  refine exc_osaB I.kIn ho hcl (by rw [List.contains_cons, hob, Bool.or_true]) rfl (fun self => by rw [PySem.refuseLoop_ref]; exact hps self) rfl hno (fun h' tk' dx k dn dne hx hn => ?_)
  have hnd : H dx = none := I.hok.fresh dn
  have nd : ∀ {b : Addr} {o : Obj}, hp.get? b = some o → b ≠ dx := fun {b o} q => Nat.ne_of_lt (Nat.lt_of_lt_of_le (Heap.lt_size q) dn)
  have na : ∀ {b : Addr}, H b = none → b ≠ a := fun {b} n z => by
    rw [z, e] at n
    cases n
  have Un1 : Un X.fs [] H (upd (upd H dx (exd dx [(f, y)])) a (exo a C (some dx))) hp h' := {
    keep := fun b o q n _ _ => k b o (na n) q
    slot := fun b o q n _ _ => ⟨o.slots, k b o (na n) q⟩
    free := fun b o q n _ => by rw [upd_ne (na n), upd_ne (nd q)]; exact n
    there := fun b o q _ => by
      by_cases hb : b = a
      · exact ⟨_, by rw [hb]; exact hx⟩
      · exact ⟨o, k b o hb q⟩
    tups := fun b xs q => by rw [upd_ne (at_ne e q exo_tup), upd_ne (ne_of_none q hnd)]; exact q
    frzs := fun b o v q => by rw [upd_ne (at_ne e q exo_frz), upd_ne (ne_of_none q hnd)]; exact q
    tbls := fun b ps q => ⟨#[], by rw [upd_ne (at_ne e q exo_tbl), upd_ne (ne_of_none q hnd), q]; simp⟩ }
  refine h dx _ hnd dne (I.un (t' := tk') Un1 fun b o q => ?_)
  by_cases hb : b = a
  · subst hb
    rw [upd_same] at q
    cases q
    exact exo_ok hx
  · rw [upd_ne hb] at q
    by_cases hd : b = dx
    · subst hd
      rw [upd_same] at q
      cases q
      exact exd_ok hn (relO_put (fs := []) ry fun g => True.intro)
    · rw [upd_ne hd] at q
      exact (I.hok b o q).stay (fun c v hc z => k c v (by
          rcases hc with hc | hc
          · rw [hc]
            exact hb
          · exact at_ne e hc exo_own) z)
        (fun c hc => by rw [upd_ne (at_ne e hc exo_own), upd_ne (ne_of_none hc hnd)]; exact hc) (fun c xs hc => by rw [upd_ne (at_ne e hc exo_tup), upd_ne (ne_of_none hc hnd)]; exact hc)
end
def tOstB (K : PySem.W.Frag) (B newId initId : String) (bmB : List Value) (f : Str) (to te : TE) : TS := fun D σ H => te σ H fun y H1 => to σ H1 fun x H2 => ∃ a C : Addr, x = .ref a ∧ OexB K B newId initId bmB C ∧ PySem.W.findIn K (.ref C) f = some none ∧
  H2 a = some (exo a C none) ∧ ∀ dx, H2 dx = none → dx ≠ a → D.nx σ (upd (upd H2 dx (exd dx [(f, y)])) a (exo a C (some dx)))
theorem ps_ostB {X : Cx} {o e : Expr} {to te : TE} {f : Str} {p' pos : Pos} {B newId initId : String} {bmB : List Value} (ho : PE X o to) (he : PE X e te) (hs : swapsWith e (some (.Attribute o f p')) pos.line X.env = pure false := by rfl) : PS X (.Assign [.Attribute o f p'] e pos) (tOstB X.K B newId initId bmB f to te) := by
  refine ⟨fun pins s σ H D I h => ?_⟩
  refine plainObj_wpAny_Assign_Attribute (thn (he.run pins s σ H _ I h) fun v s1 ⟨y, H1, I1, r1, q1⟩ => thn (ho.run pins s1 σ H1 _ I1 q1) fun u s2 ⟨x, H2, I2, r2, a, C, ex, T, hno, ea, q⟩ => ?_) hs
  subst ex
  obtain rfl : u = Value.ref a := r2
  exact ost_newB T I2 ea hno r1 fun dx s' n ne J => ⟨σ, _, J, q dx n ne⟩
end DL
end

section
set_option Elab.async false
set_option linter.all false
set_option maxRecDepth 100000
set_option autoImplicit false
set_option maxHeartbeats 2000000
/-! DL38: the promise of such an __init__. -/
namespace DL
open PySem PySem.Spec PyProof.Rows L2
open PySem.W (ksEnv ksFn kxs_mw KxsAt KxsFacts)

abbrev excBody (text f par : Str) (j : Nat) (p0 p1 p2 p3 p4 p5 p6 p7 p8 p9 : Pos) : List Stmt :=
  [.Expr (.Call (.Attribute (.Call (.Name "super" p0) [] [] p1) "__init__" p2) [.Constant (.str text) j p3] [] p4) p5, .Assign [.Attribute (.Name "self" p6) f p7] (.Name par p8) p9]
structure ExcSc (par : Str) (scope : Scope) : Prop where
  kind : scope.kind = .function
  co : scope.isCoroutine = false
  gen : scope.isGenerator = false
  sup : scope.names.lookup ("super" : Str) = some .globalImplicit
  cls : scope.names.lookup ("__class__" : Str) = some .free
  self : scope.names.lookup ("self" : Str) = some .local
  par : scope.names.lookup par = some .local
  nocell : ∀ y ∈ scope.names, y.2 ≠ .cell
  free : ∀ y ∈ scope.names, y.2 = .free → y.1 = "__class__"
structure ExcD (K : PySem.W.Frag) (B newId initId : String) (bmB : List Value) (C : Addr) (f par : Str) (fI : Addr) (fd : FuncData) : Prop where
  T : OexB K B newId initId bmB C
  KF : KxsFacts B initId
  hno : PySem.W.findIn K (.ref C) f = some none
  iC : PySem.W.findIn K (.ref C) "__init__" = some (some (.ref fI))
  tI : PySem.W.typeIn K (.ref fI) = some (.type "function")
  sup : PySem.W.ks_superIn K C C "__init__" = some (some (.builtin initId))
  hB : PySem.W.subIn K (.ref C) (.type B) = some true
  tp : PySem.W.nsIn K cStatics "thirdparty.any" = some none
  ps : par ≠ "self"
  pd : (par == ("__debug__" : Str)) = false
  pc : (par == ("__classdict__" : Str)) = false
  ex : ∃ (name qual : Str) (params : Arguments) (text : Str) (j : Nat) (p0 p1 p2 p3 p4 p5 p6 p7 p8 p9 : Pos) (scope : Scope) (dV kV doc pm : Value) (an : Option Addr) (cda : Addr) (ct : Value) (cc : Addr) (oc : Value) (od : Option Addr) (osl : Array (Option Value)) (ar : Arg)
    (ccl : Value) (cdd : Option Addr) (vs : Array Value) (ccs : Array (Option Value)) (tf : Tok) (cl : Value) (cld : Option Addr) (csl : Array (Option Value)),
    fd = ksFn name qual params (excBody text f par j p0 p1 p2 p3 p4 p5 p6 p7 p8 p9) scope dV kV doc pm an (.ref cda) ct cc ∧ K.lookup fI = some ⟨oc, od, .func fd, osl⟩ ∧ PySem.W.codeIn K (.ref cda) qual = true ∧
    (params.posonlyargs ++ params.args).head? = some ar ∧ ar.arg = "self" ∧ ExcSc par scope ∧ K.lookup cda = some ⟨ccl, cdd, .fields vs, ccs⟩ ∧ vs[2]? = some (.str "/claim/cut.py" tf) ∧ K.lookup cc = some ⟨cl, cld, .cell (some (.ref C)), csl⟩ ∧ (p2.endLine == p4.line) = true

def cxS (CX : CXT) (P : Program) (w : World) (K : PySem.W.Frag) (mg : Str → Option Value) (base : Heap) (N : List Str) (qual : Str) (scope : Scope) (f : Addr) (cd : Value) (cc : Addr) (A : Around) (outer : List Env) (s : Shared) (H : Hp) (E : XK) : Cx where
  prog := P
  w := w
  K := K
  mg := mg
  base := base
  A := A.deeper (ksEnv qual scope s.heap.objs.size f cd cc)
  N := N
  s_0 := s
  H_0 := H
  env := ksEnv qual scope s.heap.objs.size f cd cc
  outer := outer
  stack := ksEnv qual scope s.heap.objs.size f cd cc :: outer
  ex := []
  calm := true
  fn := fun _ => false
  pn := []
  xe := fun e s' => wpAny (model P w) (A.deeper (ksEnv qual scope s.heap.objs.size f cd cc)) (leaving (ksEnv qual scope s.heap.objs.size f cd cc) e) (fun _ s'' => CX outer H s E e s'') (fun e' s'' => CX outer H s E e' s'') s'

/-- what C(x)'s __init__ does: the exception's dict, with one field -/
def spE (C : Addr) (f : Str) : Sp := fun vs H Q _ => ∃ a x, vs = [.ref a, x] ∧ H a = some (exo a C none) ∧ ∀ dx, H dx = none → dx ≠ a → Q .non (upd (upd H dx (exd dx [(f, x)])) a (exo a C (some dx)))

section
variable {CX : CXT} {P : Program} {w : World} {K : PySem.W.Frag} {mg : Str → Option Value} {base : Heap} {B newId initId : String} {bmB : List Value} {C : Addr} {f par : Str} {fI : Addr} {fd : FuncData}
theorem exc_fn (D : ExcD K B newId initId bmB C f par fI fd) (hfile : ((P.main.file : Str) == ("/claim/cut.py" : Str)) = true) (htop : (P.main.scope.names.lookup ("super" : Str)).isSome = false) (hmg : mg "super" = none) :
    FnOk P w K mg base CX 1 fI fd ["self", par] (spE C f) := by
  obtain ⟨name, qual, params, text, j, p0, p1, p2, p3, p4, p5, p6, p7, p8, p9, scope, dV, kV, doc, pm, an, cda, ct, cc, oc, od, osl, ar, ccl, cdd, vsC, ccs, tf, cl, cld, csl, hfd, lk, hcd, har, harg, S, lc, hvs, lcc, hln⟩ := D.ex
  obtain ⟨kd, nms, sgen, sco, smore⟩ := scope
  obtain rfl : kd = .function := S.kind
  generalize hscope : (⟨.function, nms, sgen, sco, smore⟩ : Scope) = scope at *
  refine ⟨fun vs H Q E h => ?_, fun A outer s H args us vs Q E hr e0 hb r hsp => ?_⟩
  · obtain ⟨a, x, rfl, _⟩ := h
    rfl
  obtain ⟨a, x, rfl, ea, hq⟩ := hsp
  cases r with
  | @cons _ ua _ ur ra rt =>
  cases rt with
  | @cons _ ux _ un rx rn =>
  cases rn
  obtain rfl : ua = Value.ref a := ra
  have KX : K.In s.heap := e0.mod.kin.keeps fun b o e => (e0.bs b o e).1
  have lim : s.heap.NoLimit := e0.mod.nolimit.keeps fun b o e => (e0.bs b o e).1
  have hbnd : (["self", par] : List Str).zip [Value.ref a, ux] = [(("self" : Str), Value.ref a), (par, ux)] := rfl
  rw [hbnd] at hb
  subst hfd
  refine PySem.ks_codeAny_call_defAt (fd := ksFn name qual params (excBody text f par j p0 p1 p2 p3 p4 p5 p6 p7 p8 p9) scope dV kV doc pm an (.ref cda) ct cc) (body := excBody text f par j p0 p1 p2 p3 p4 p5 p6 p7 p8 p9) (binds := [(("self" : Str), Value.ref a), (par, ux)])
    hr.depth (KX _ _ lk) rfl lim (PySem.W.codeRec_of KX hcd) rfl hb S.nocell (fun y hy => ?_) (fun h₁ hns hk₁ => ?_) S.co S.gen S.kind
  · rcases List.mem_cons.mp hy with rfl | hy
    · exact S.self
    · rcases List.mem_cons.mp hy with rfl | hy
      · exact S.par
      · cases hy
  -- the context
  show PySem.wpAt (model P w) (A.deeper (ksEnv qual scope s.heap.objs.size fI (.ref cda) cc)) (.func _ (ksEnv qual scope s.heap.objs.size fI (.ref cda) cc)) (execs _ (ksEnv qual scope s.heap.objs.size fI (.ref cda) cc)) _ _ _
  have cellOf : ∀ y c, ([("__class__", cc)] : List (Str × Addr)).lookup y = some c → y = "__class__" ∧ c = cc := fun y c e => by
    rw [List.lookup_cons] at e
    split at e
    · rename_i q
      exact ⟨by simpa using q, (Option.some.inj e).symm⟩
    · cases e
  have bcc : base.get? cc = some ⟨cl, cld, .cell (some (.ref C)), csl⟩ := e0.mod.kin _ _ lcc
  have noA : ∀ b : Addr, b ∉ (cxS CX P w K mg base ["self", par] qual scope fI (.ref cda) cc A outer s H E).ex := fun b z => absurd (show b ∈ ([] : List Addr) from z) (by simp)
  have I0 : Inv (cxS CX P w K mg base ["self", par] qual scope fI (.ref cda) cc A outer s H E) [] [some (.ref a), some x] H { s with heap := h₁, toks := s.toks + 2 } := by
    refine ⟨⟨e0.mod, S.kind, rfl, rfl, Nat.le_refl _, fun y z c e1 e2 => ?_, fun y hy => ?_, fun y c h _ => ?_, fun _ => hr.hd, Around.frames_deeper e0.frames, .inr ⟨rfl, rfl⟩, fun b z => absurd z (noA b), e0.bs, e0.bsz, fun b _ _ => noA b, fun b z => absurd z (noA b), e0.funs, e0.frf⟩,
      rfl, e0.bare, Un.kept hk₁, ⟨_, hns, fun i y v h1 h2 h3 => ?_⟩, fun y c h => ?_, e0.hok.fresh (Nat.le_refl _), fun y c h => ?_, fun p hp => absurd (show p ∈ ([] : List (Addr × Obj)) from hp) (by simp), e0.hok.kept hk₁, rfl⟩
    · rw [(cellOf y c e1).1, (cellOf z c e2).1]
    · have hy : scope.names.lookup y = some .cell ∨ scope.names.lookup y = some .free := hy
      rcases hy with hy | hy
      · exact absurd rfl (S.nocell _ (PySem.mem_of_lookup hy))
      · have := S.free _ (PySem.mem_of_lookup hy) rfl
        have e : y = "__class__" := this
        subst e
        exact ⟨cc, rfl⟩
    · cases (show false = true from h)
    · rcases i with _ | _ | i
      · have e1 : ("self" : Str) = y := Option.some.inj h1
        have e2 : V.ref a = v := Option.some.inj (Option.some.inj h2)
        subst e1
        subst e2
        refine ⟨.ref a, rfl, .inl ⟨S.self, ?_⟩⟩
        show ([(par, ux), (("self" : Str), Value.ref a)] : List (Str × Value)).lookup ("self" : Str) = _
        rw [List.lookup_cons, show (("self" : Str) == par) = false from beq_eq_false_iff_ne.mpr (Ne.symm D.ps)]
        rfl
      · have e1 : par = y := Option.some.inj h1
        have e2 : x = v := Option.some.inj (Option.some.inj h2)
        subst e1
        subst e2
        refine ⟨ux, rx, .inl ⟨S.par, ?_⟩⟩
        show ([(par, ux), (("self" : Str), Value.ref a)] : List (Str × Value)).lookup par = _
        simp [List.lookup]
      · have h1 : (["self", par] : List Str)[i + 2]? = some y := h1
        simp at h1
    · obtain ⟨rfl, rfl⟩ := cellOf y c h
      exact ⟨_, _, hk₁ _ _ (e0.bs _ _ bcc).1, rfl⟩
    · obtain ⟨rfl, rfl⟩ := cellOf y c h
      exact (e0.bs _ _ bcc).2
  obtain ⟨nm, q0, N0, bs, bm, sn, sub, ab, col, dd, k0, k1, k2, k3, k5, hC, hT, hne, hob, hps⟩ := D.T.cls
  have hclC : PySem.W.clsIn K C = some { name := nm, bases := bs, mro := .ref C :: bm, ns := N0, qualname := q0, hasDict := true, slotNames := sn, subclasses := sub, abstract := ab, collection := col, hasDel := false } := by unfold PySem.W.clsIn; rw [hC] <;> rfl
  have hal : PySem.W.alongIn K "__init__" bm = some (some (.builtin initId)) := by
    have z := D.sup
    unfold PySem.W.ks_superIn at z
    rw [hclC] at z
    have e : ((Value.ref C :: bm).dropWhile (· != .ref C)).drop 1 = bm := by simp [List.dropWhile_cons]
    have z' : PySem.W.alongIn K "__init__" (((Value.ref C :: bm).dropWhile (· != .ref C)).drop 1) = some (some (.builtin initId)) := z
    rw [e] at z'
    exact z'
  have hsubC : PySem.W.mroIn K C (.ref C) = some true := by
    unfold PySem.W.mroIn
    rw [hclC]
    simp
  obtain ⟨t1, ho⟩ := exo_at I0.hok ea
  have aC : a ≠ C := fun z => by
    have := I0.kIn _ _ hC
    rw [← z, ho] at this
    cases this
  -- statement 1
  refine PySem.ks_wpAt_execs_cons (PySem.ks_wpAt_Expr_any (PySem.ks_wpAt_MethodCall (pl := plainOf (.Call (.Name "super" p0) [] [] p1) (ksEnv qual scope s.heap.objs.size fI (.ref cda) cc)) ?_ (by
    show (attributeBase (.Call (.Name "super" p0) [] [] p1) "__init__" _ (eval (.Call (.Name "super" p0) [] [] p1) _) >>= fun ov => standAt p2.atName >>= fun _ => methodCall (.Call (.Name "super" p0) [] [] p1) "__init__" p2 p4 _ ov 1 _ _) = _
    congr
    funext ov
    congr
    funext _
    exact mcall_line rfl hln)) (by rw [← hscope]; rfl))
  have IK := I0.kIn
  refine PySem.ks_wpAt_super_base (env := ksEnv qual scope s.heap.objs.size fI (.ref cda) cc) S.sup S.cls rfl rfl (IK _ _ lk) rfl har rfl (IK _ _ lc) rfl hvs hfile htop ?_
  obtain ⟨mb, hb1, hb2⟩ := I0.mod.blt
  refine PySem.W.ks_loadName_global S.kind S.sup (Calls.loadGlobal_builtin (env := ksEnv qual scope s.heap.objs.size fI (.ref cda) cc) (I0.mod.glob.keeps I0.bk) hmg (hb1.keeps I0.bk) ((hb2 _ (by decide)).trans (show bootBuiltins "super" = some (.type "super") by kernel_rfl)) ⟨rfl, ?_⟩)
  refine wpAny_loadName_free S.kind S.cls rfl ⟨_, hk₁ _ _ (e0.bs _ _ bcc).1, rfl⟩ ?_
  rw [harg]
  refine wpAny_loadName_local S.kind S.self hns (v := .ref a) (by
    show ([(par, ux), (("self" : Str), Value.ref a)] : List (Str × Value)).lookup ("self" : Str) = _
    rw [List.lookup_cons, show (("self" : Str) == par) = false from beq_eq_false_iff_ne.mpr (Ne.symm D.ps)]
    rfl) ?_
  refine PySem.ks_wpAny_isType_cls (IK _ _ hC) rfl ⟨rfl, ?_⟩
  refine PySem.ks_wpAny_call_super (IK _ _ hC) rfl ho rfl (fun c z => by cases z) (PySem.W.looks_mroIn IK hsubC) (fun h2 hso k2 => ?_)
  have I1 : Inv (cxS CX P w K mg base ["self", par] qual scope fI (.ref cda) cc A outer s H E) [] [some (.ref a), some x] H { s with heap := h2, toks := s.toks + 2 } := I0.kept (h' := h2) k2
  have IK1 := I1.kIn
  have ho1 := k2 _ _ ho
  have hI : PySem.W.Looks (model P w) h2 (isInstance (.ref a) (.type B)) true := PySem.W.InstAt.type (ox := { cls := .ref C, dict := none, data := .fields #[.ref t1, .none, .none, .none, .bool false, .none] }) (od := none) ⟨ho1, rfl, rfl, trivial⟩ |>.andThen (PySem.W.looks_subIn IK1 D.hB)
  refine PySem.W.kxs_getMethod D.KF hso (PySem.W.looks_opaque IK1 D.tp) (l₀ := .ref C :: bm) (PySem.W.looks_clsIn IK1 hclC |>.andThen .now) (by simp [List.dropWhile_cons]) IK1 hal hI aC (by decide) ?_
  have hge : h2.objs.size = (h2.push (kxs_mw initId a)).objs.size - 1 := by simp [Heap.push]
  have I2 : Inv (cxS CX P w K mg base ["self", par] qual scope fI (.ref cda) cc A outer s H E) [] [some (.ref a), some x] H { s with heap := h2.push (kxs_mw initId a), toks := s.toks + 2 + 1 } := I1.kept (h' := h2.push (kxs_mw initId a)) (fun b u e => Heap.get?_push_of_some _ e)
  have hu : (h2.push (kxs_mw initId a)).get? h2.objs.size = some (kxs_mw initId a) := Heap.get?_push_size _ rfl
  refine PySem.W.kxs_callWith (i := initId) (x := a) (by rfl) (Calls.evalArgs_plain (Calls.spliced_cons (Calls.Constant_str (k := j) (pos := p3) (Calls.spliced_nil ⟨hu, ?_⟩))))
  -- the bound __init__
  have ho2 : (h2.push (kxs_mw initId a)).get? a = some { cls := .ref C, dict := none, data := .fields #[.ref t1, .none, .none, .none, .bool false, .none] } := Heap.get?_push_of_some _ ho1
  have IK2 := I2.kIn
  refine wpAny_call (codeAny_of_tree ?_)
  show wpAny _ _ (callAny (.ref h2.objs.size) _) _ _ _
  simp only [callAny]
  refine wpAny_bind (wpAny_load hu ?_)
  simp only [kxs_mw, show (Value.type "method-wrapper" == Value.type "method" || Value.type "method-wrapper" == Value.type "builtin_function_or_method" || Value.type "method-wrapper" == Value.type "method-wrapper") = true by decide, if_true]
  refine PySem.W.KFB.if_so (by decide) ?_
  refine wpAny_bind (PySem.W.check_bound_init D.T.F.toExcCallFacts (IK2 _ _ hC) ho2 rfl ?_)
  refine wpAny_bind (wpAny_pure (wpAny_pure ?_))
  refine ⟨plainId_quiet D.T.F.init.plain _, codeAny_builtin D.T.F.initEntry ?_⟩
  refine PySem.W.exc_init_tree (cls := .ref C) (t0 := t1) (dv := none) (c2 := .none) (c3 := .none) (b4 := .bool false) ho2 (by rw [sizeLine_eq]; simp) fun h3 k3 e3 _ => ?_
  have I3 := I2.write (t' := s.toks + 2 + 1 + 1) (x := a) (e := a) (o := exo a C none) (by rw [ea]; exact True.intro) (.inl rfl) k3 ⟨_, e3⟩ (exo_ok e3)
  have eu : upd H a (exo a C none) = H := by
    funext b
    by_cases hb : b = a
    · rw [hb, upd_same, ea]
    · rw [upd_ne hb]
  rw [eu] at I3
  -- statement 2
  have hp := pss_one (ps_ostB (X := cxS CX P w K mg base ["self", par] qual scope fI (.ref cda) cc A outer s H E) (f := f) (p' := p7) (pos := p9) (B := B) (newId := newId) (initId := initId) (bmB := bmB) (pe_var (pos := p6) (i := 0) (x := "self") rfl (.inl S.self) (by decide) (by decide)) (pe_var (pos := p8) (i := 1) (x := par) rfl (.inl S.par) D.pd D.pc))
  refine wpAt_of_wpAny (wpAny_mono (hp.run [] _ [some (.ref a), some x] H { nx := fun _ H' => Q .non H', rt := Q } I3 ⟨x, rfl, .ref a, rfl, a, C, rfl, D.T, D.hno, ea, fun dx h1 h2 => hq dx h1 h2⟩) (fun fl s' hs => ?_) fun e s' hs => hs)
  have fin : ∀ {σ' : L2.St} {H' : Hp} {v : V} {u : Value}, Inv (cxS CX P w K mg base ["self", par] qual scope fI (.ref cda) cc A outer s H E) [] σ' H' s' → RelV v u → Q v H' → CE outer P w H s Q u s' :=
    fun {σ' H' v u} J rv q => ⟨v, H', J.os, J.bare, J.base, J.hok, rv, q⟩
  cases fl with
  | ret u =>
    obtain ⟨v, σ', H', J, rv, q⟩ := hs
    exact fin J rv q
  | next =>
    obtain ⟨σ', H', J, q⟩ := hs
    exact fin (v := V.non) (u := Value.none) J rfl q
  | brk =>
    obtain ⟨_, _, _, q⟩ := hs
    exact False.elim q
  | cont =>
    obtain ⟨_, _, _, q⟩ := hs
    exact False.elim q
end
end DL
end

section
set_option Elab.async false
set_option linter.all false
set_option maxRecDepth 100000
set_option autoImplicit false
set_option maxHeartbeats 2000000
/-! DL39: exceptions of the program: made, raised, asked. -/
namespace DL
open PySem PySem.Spec PyProof.Rows L2

/-- what a caller takes of an exception class c with the field f -/
structure ExcK (P : Program) (w : World) (K : PySem.W.Frag) (mg : Str → Option Value) (base : Heap) (cls : Str → Addr) (c f : Str) : Prop where
  gl : mg c = some (.ref (cls c))
  D : ∃ B newId initId bmB fI fd par, ExcD K B newId initId bmB (cls c) f par fI fd ∧ FnOk P w K mg base (L2.CX P w) 1 fI fd ["self", par] (spE (cls c) f) ∧ Binds K fd ["self", par] []
  X : XfC K (cls c)
  cl : PySem.W.findIn K (.ref (cls c)) "__class__" = some (some (.builtin "object.__class__"))
  gs : PySem.W.specialIn K (.builtin "object.__class__") "__get__" = some (some (.builtin "getset_descriptor.__get__"))
  tk : PySem.W.takesIn K (.builtin "object.__class__") = some true
  mo : PySem.W.mroIn K (cls c) (.type "object") = some true
  cs : (PySem.W.clsIn K (cls c)).isSome = true

section
variable {X : Cx} {cls : Str → Addr} {c f : Str} {pins : List (Addr × Obj)} {σ : L2.St} {H1 : Hp} {s1 : Shared}
/-- the heap behind C(x) -/
abbrev exH (H1 : Hp) (a d C : Addr) (f : Str) (x : V) : Hp := upd (upd (upd H1 a (exo a C none)) d (exd d [(f, x)])) a (exo a C (some d))
theorem call_exB (EK : ExcK X.prog X.w X.K X.mg X.base cls c f) (hr : Room 2 X.A) {x : V} {ux : Value} (I1 : Inv X pins σ H1 s1) (rx : RelV x ux) {Q' : Value → Shared → Prop}
    (h : ∀ (a d : Addr) (hp hp2 h2 : Heap) (g1 g2 : Array GenState) (d1 d2 : Drawn) (t1 t2 : Nat) (os1 os2 : OsState), s1 = ⟨hp, g1, d1, t1, os1⟩ → hp.objs.size ≤ a → (∀ b o, hp.get? b = some o → hp2.get? b = some o) → H1 a = none → H1 d = none → d ≠ a →
      Inv X pins σ (upd H1 a (exo a (cls c) none)) ⟨hp2, g1, d1, t1, os1⟩ → Un (frs X.stack) [] (upd H1 a (exo a (cls c) none)) (exH H1 a d (cls c) f x) hp2 h2 → HOk X.prog X.w (exH H1 a d (cls c) f x) h2 → os2 = os1 → AllBare g2 → Q' (.ref a) ⟨h2, g2, d2, t2, os2⟩) :
    wpAny (model X.prog X.w) X.A (call (.ref (cls c)) [ux]) Q' X.xe s1 := by
  obtain ⟨B, newId, initId, bmB, fI, fd, par, ED, F1, hb⟩ := EK.D
  obtain ⟨nm, q, N, bs, bm, sn, sub, ab, col, dd, k0, k1, k2, k3, k5, hC, hT, _⟩ := ED.T.cls
  obtain ⟨hp, g, dr, tk, os⟩ := s1
  have hsz : hp.objs.size ≤ hp.objs.size + 1 := Nat.le_succ _
  have hn : H1 (hp.objs.size + 1) = none := I1.hok.fresh hsz
  have kk : ∀ b o, hp.get? b = some o → ((hp.push (PySem.W.kdv_tup [ux])).push (PySem.HandSPX.excO (cls c) hp.objs.size)).get? b = some o := fun b o e => Heap.get?_push_of_some _ (Heap.get?_push_of_some _ e)
  have hget : ((hp.push (PySem.W.kdv_tup [ux])).push (PySem.HandSPX.excO (cls c) hp.objs.size)).get? (hp.objs.size + 1) = some (PySem.HandSPX.excO (cls c) hp.objs.size) := by heap_get
  have I2 : Inv X pins σ (upd H1 (hp.objs.size + 1) (exo (hp.objs.size + 1) (cls c) none)) ⟨(hp.push (PySem.W.kdv_tup [ux])).push (PySem.HandSPX.excO (cls c) hp.objs.size), g, dr, tk, os⟩ :=
    I1.laid (t' := tk) (a := hp.objs.size + 1) (o := exo (hp.objs.size + 1) (cls c) none) (h' := (hp.push (PySem.W.kdv_tup [ux])).push (PySem.HandSPX.excO (cls c) hp.objs.size)) kk hsz (exo_ok hget)
  have r2 : Vals [V.ref (hp.objs.size + 1), x] [Value.ref (hp.objs.size + 1), ux] := .cons rfl (.cons rx .nil)
  have hq : spE (cls c) f [.ref (hp.objs.size + 1), x] (upd H1 (hp.objs.size + 1) (exo (hp.objs.size + 1) (cls c) none)) (fun v H2 => v = .non ∧ ∃ d, H1 d = none ∧ d ≠ hp.objs.size + 1 ∧ H2 = exH H1 (hp.objs.size + 1) d (cls c) f x) (fun _ _ _ => False) := by
    refine ⟨_, _, rfl, upd_same, fun dx h1 h2 => ⟨rfl, dx, ?_, h2, rfl⟩⟩
    rw [upd_ne h2] at h1
    exact h1
  have hus : ([ux] : List Value).length ≤ sizeLine := by rw [sizeLine_eq]; simp
  refine wpAny_call (PySem.HandSPX.call_own ED.T.F hT (I1.kIn _ _ hC) (PySem.W.looks_findIn I1.kIn ED.iC) (fun self => PySem.W.bind_fn I1.kIn self ED.tI) hus
    (codeAny_mono (F1.run _ X.stack _ _ ⟨[Value.ref (hp.objs.size + 1), ux], []⟩ [Value.ref (hp.objs.size + 1), ux] _ _ (fun _ _ _ => False) (hr.make (cls c) [ux] []) (I2.env0.make (cls c) [ux] []) (hb _ [Value.ref (hp.objs.size + 1), ux] I2.kIn rfl) r2 hq) fun r s' hq' => ?_))
  cases r with
  | error er =>
    obtain ⟨_, _, _, _, _, _, _, _, _, _, _, _, z⟩ := hq'
    exact z.elim
  | ok fl =>
    cases fl with
    | ret u =>
      obtain ⟨v, H2, os2, bare2, un2, hok2, rv, ev, d, hd1, hd2, e2⟩ := hq'
      subst ev
      subst e2
      obtain ⟨h2, g2, d2, t2, os'⟩ := s'
      exact ⟨rv, h _ d hp _ h2 g g2 dr d2 tk t2 os os' rfl hsz kk hn hd1 hd2 I2 un2 hok2 os2 bare2⟩
    | next => exact False.elim hq'
    | brk => exact False.elim hq'
    | cont => exact False.elim hq'
theorem exH_del {H1 : Hp} {a d C : Addr} {f : Str} {x : V} {fs : List (Str × V)} (ha : H1 a = none) (hda : d ≠ a) : upd (L2.del (exH H1 a d C f x) a) d (.xd fs) = upd H1 d (.xd fs) := by
  funext b
  by_cases h : b = d
  · rw [h, upd_same, upd_same]
  · rw [upd_ne h, upd_ne h]
    by_cases h2 : b = a
    · rw [h2, del_same, ha]
    · rw [del_ne h2]
      show upd (upd (upd H1 a _) d _) a _ b = _
      rw [upd_ne h2, upd_ne h, upd_ne h2]
/-- C(e), to be raised -/
theorem pmk_exB {e : Expr} {te : TE} {p pos : Pos} (EK : ExcK X.prog X.w X.K X.mg X.base cls c f) (hr : Room 2 X.A) (hg : Gl X c) (ha : PE X e te)
    (hdb : (c == ("__debug__" : Str)) = false := by decide) (he : starEach [e] X.env = (false, eval e X.env) :: starEach [] X.env := by rfl) (hpl : (backTo pos (starEach [] X.env)).any (·.1) = false := by rfl) :
    PMk X (.Call (.Name c p) [e] [] pos) (fun σ H Q => te σ H fun x H1 => ∀ d, H1 d = none → Q (.ref (cls c)) (some d) (upd H1 d (.xd [(f, x)]))) := by
  intro pins s σ H Q I h
  have hk : PySem.W.keepIn X.K (.ref (cls c)) = true := by
    obtain ⟨B, newId, initId, bmB, fI, fd, par, ED, _⟩ := EK.D
    exact ED.T.kC
  have hR : Raises X (.ref (cls c)) := by
    obtain ⟨B, newId, initId, bmB, fI, fd, par, ED, _⟩ := EK.D
    exact raises_own ED.T.exC ED.T.tyC
  have h' : tCons te tNil σ H (fun xs H1 => match xs with | [x] => ∀ d, H1 d = none → Q (.ref (cls c)) (some d) (upd H1 d (.xd [(f, x)])) | _ => False) := h
  refine wpAny_Call_Name_kw (ld_glob I hg EK.gl ?_ hdb)
  refine PySem.W.callWith_K (h₀ := X.base) I.ok.mod.kin hk (thn ((pa_cons ha pa_nil he).run pos pins s σ H _ I h') fun us s1 ⟨vs, H1, I1, r1, q1⟩ => ⟨I1.kIn, ?_⟩) he hpl
  show wpAny _ _ (call (.ref (cls c)) us) _ _ _
  cases vs with
  | nil => exact q1.elim
  | cons x vs' =>
  cases vs' with
  | cons _ _ => exact q1.elim
  | nil =>
  cases r1 with
  | @cons _ ux _ _ rx rn =>
    cases rn
    refine call_exB EK hr I1 rx fun a d hp hp2 h2 g1 g2 d1 d2 t1 t2 os1 os2 es hsz kk ha hd hda I2 un hok ho hb => ?_
    subst es
    exact mk_end (fs := [(f, x)]) hR I1 hsz kk un hok ho hb upd_same ((upd_ne hda).trans upd_same) hd (by
      show Q (.ref (cls c)) (some d) (upd (L2.del (exH H1 a d (cls c) f x) a) d (.xd [(f, x)]))
      rw [exH_del ha hda]
      exact q1 d hd)
/-- C(e) as a value -/
theorem pe_mkE {e : Expr} {te : TE} {p pos : Pos} (EK : ExcK X.prog X.w X.K X.mg X.base cls c f) (hr : Room 2 X.A) (hg : Gl X c) (ha : PE X e te)
    (hdb : (c == ("__debug__" : Str)) = false := by decide) (he : starEach [e] X.env = (false, eval e X.env) :: starEach [] X.env := by rfl) (hpl : (backTo pos (starEach [] X.env)).any (·.1) = false := by rfl) :
    PE X (.Call (.Name c p) [e] [] pos) (fun σ H Q => te σ H fun x H1 => ∀ a d, H1 a = none → H1 d = none → a ≠ d → Q (.ref a) (upd (upd H1 d (.xd [(f, x)])) a (exg a (cls c) d))) := by
  refine ⟨fun pins s σ H Q I h => ?_⟩
  have hk : PySem.W.keepIn X.K (.ref (cls c)) = true := by
    obtain ⟨B, newId, initId, bmB, fI, fd, par, ED, _⟩ := EK.D
    exact ED.T.kC
  have h' : tCons te tNil σ H (fun xs H1 => match xs with | [x] => ∀ a d, H1 a = none → H1 d = none → a ≠ d → Q (.ref a) (upd (upd H1 d (.xd [(f, x)])) a (exg a (cls c) d)) | _ => False) := h
  refine wpAny_Call_Name_kw (ld_glob I hg EK.gl ?_ hdb)
  refine PySem.W.callWith_K (h₀ := X.base) I.ok.mod.kin hk (thn ((pa_cons ha pa_nil he).run pos pins s σ H _ I h') fun us s1 ⟨vs, H1, I1, r1, q1⟩ => ⟨I1.kIn, ?_⟩) he hpl
  show wpAny _ _ (call (.ref (cls c)) us) _ _ _
  cases vs with
  | nil => exact q1.elim
  | cons x vs' =>
  cases vs' with
  | cons _ _ => exact q1.elim
  | nil =>
  cases r1 with
  | @cons _ ux _ _ rx rn =>
    cases rn
    refine call_exB EK hr I1 rx fun a d hp hp2 h2 g1 g2 d1 d2 t1 t2 os1 os2 es hsz kk ha hd hda I2 un hok ho hb => ?_
    subst es
    have J := I2.call (g' := g2) (d' := d2) (t' := t2) (ch := []) un hok hb (fun _ z => nomatch z)
    have ea : exH H1 a d (cls c) f x a = some (exo a (cls c) (some d)) := upd_same
    have ed : exH H1 a d (cls c) f x d = some (exd d [(f, x)]) := (upd_ne hda).trans upd_same
    obtain ⟨t0, hoe⟩ := exo_at J.hok ea
    obtain ⟨mA, hns, rel⟩ := exd_at J.hok ed
    have J1 := J.write (t' := t2) (h' := h2) (x := a) (e := a) (o := exg a (cls c) d) (by rw [ea]; exact True.intro) (.inl rfl) (fun _ _ _ z => z) ⟨_, hoe⟩ ⟨⟨_, _, hoe⟩, ⟨_, hoe⟩, fun h1 h2 ⟨fv, sl, z⟩ k => ⟨fv, sl, k _ z⟩⟩
    obtain ⟨od, _, _, hod, _⟩ := id hns
    have ed1 : upd (exH H1 a d (cls c) f x) a (exg a (cls c) d) d = some (exd d [(f, x)]) := by rw [upd_ne hda, ed]
    have J2 := J1.write (t' := t2) (h' := h2) (x := d) (e := d) (o := .xd [(f, x)]) (by rw [ed1]; exact True.intro) (.inl rfl) (fun _ _ _ z => z) ⟨_, hod⟩ ⟨mA, hns, rel⟩
    have eH : upd (upd (exH H1 a d (cls c) f x) a (exg a (cls c) d)) d (.xd [(f, x)]) = upd (upd H1 d (.xd [(f, x)])) a (exg a (cls c) d) := by
      funext b
      by_cases h1 : b = d
      · rw [h1, upd_same, upd_ne hda, upd_same]
      · rw [upd_ne h1]
        by_cases h2 : b = a
        · rw [h2, upd_same, upd_same]
        · rw [upd_ne h2, upd_ne h2, upd_ne h1]
          show upd (upd (upd H1 a _) d _) a _ b = _
          rw [upd_ne h2, upd_ne h1, upd_ne h2]
    rw [eH] at J2
    obtain rfl : os2 = os1 := ho
    exact ⟨.ref a, _, J2, rfl, q1 a d ha hd (Ne.symm hda)⟩
end

/-! ### raise -/
section
variable {X : Cx} {cls : Str → Addr} {a0 : Option Addr} {E : XK} {c f : Str} {e : Expr} {me : Gam → R Val} {p pos pos' : Pos}
def raiseM (c f : Str) (m : Gam → R Val) : Gam → RS := fun Γ => stm (fzL m Γ) fun d Γ1 => .err ⟨c, f, d⟩ Γ1
theorem s_raise (EK : ExcK X.prog X.w X.K X.mg X.base cls c f) (hr : Room 2 X.A) (hc : X.calm = true) (tk : Takes X (fun cl d _ H => E cl d H)) (hg : Gl X c) (ha : PE X e (tE ⟨X.K, cls, a0⟩ E me))
    (hdb : (c == ("__debug__" : Str)) = false := by decide) (he : starEach [e] X.env = (false, eval e X.env) :: starEach [] X.env := by rfl) (hpl : (backTo pos (starEach [] X.env)).any (·.1) = false := by rfl) :
    PS X (.Raise (some (.Call (.Name c p) [e] [] pos)) none pos') (tS ⟨X.K, cls, a0⟩ E (raiseM c f me)) :=
  PS_weak (ps_raise hc tk (pmk_exB EK hr hg (pe_fz ha) hdb he hpl)) fun D σ H ⟨Γ, F, own, s, q⟩ =>
    ⟨Γ, F, own, s, post_stm q fun F1 H1 own1 Γ1 x d _ st1 s1 r1 p1 => fun dd hd => by
      have hF : F1 dd = none := st1.fh.back hd
      have hO : ∀ i, ¬ own1 i dd := fun i hi => st1.there i dd hi hd
      exact p1 σ F1 (upd H1 dd (.xd [(f, x)])) own1 dd x (st1.updFree hF hO) (s1.updFree (s1.none dd hd)) upd_same r1 hF hO (s1.none dd hd)⟩
/-! ### made as a value, asked -/
def mkX (c f : Str) (m : Gam → R Val) : Gam → R Val := fun Γ => (fzL m Γ).bind fun d Γ1 => .ok (.f (exnD c f d)) Γ1
theorem exn_new {M : Pm} {Γ : Gam} {σ : L2.St} {F H : Hp} {own : Own} {a d : Addr} {x : V} {dt : D} (s : StR M Γ σ F H own) (ha : H a = none) (hd : H d = none) (had : a ≠ d) (r : Rep M.cls F x dt) :
    Grow F H (upd (upd F d (.xd [(f, x)])) a (exg a (M.cls c) d)) (upd (upd H d (.xd [(f, x)])) a (exg a (M.cls c) d)) ∧ Rep M.cls (upd (upd F d (.xd [(f, x)])) a (exg a (M.cls c) d)) (.ref a) (exnD c f dt) := by
  have g1 : Grow F H (upd F d (.xd [(f, x)])) (upd H d (.xd [(f, x)])) := .new s.fh hd
  have g2 := g1.trans (Grow.new (o := exg a (M.cls c) d) g1.fh (show upd H d (.xd [(f, x)]) a = none by rw [upd_ne had]; exact ha))
  exact ⟨g2, .exn upd_same (by rw [upd_ne (Ne.symm had), upd_same]) (r.mono g2.ff)⟩
theorem e_mkX (EK : ExcK X.prog X.w X.K X.mg X.base cls c f) (hr : Room 2 X.A) (hg : Gl X c) (ha : PE X e (tE ⟨X.K, cls, a0⟩ E me))
    (hdb : (c == ("__debug__" : Str)) = false := by decide) (he : starEach [e] X.env = (false, eval e X.env) :: starEach [] X.env := by rfl) (hpl : (backTo pos (starEach [] X.env)).any (·.1) = false := by rfl) :
    PE X (.Call (.Name c p) [e] [] pos) (tE ⟨X.K, cls, a0⟩ E (mkX c f me)) :=
  PE_weak (pe_mkE EK hr hg (pe_fz ha) hdb he hpl) fun σ H Q ⟨Γ, F, own, s, q⟩ =>
    ⟨Γ, F, own, s, post_bind q fun F1 H1 own1 Γ1 x d _ st1 s1 r1 p1 => fun a dd h1 h2 h3 => by
      obtain ⟨g, r⟩ := exn_new (M := ⟨X.K, cls, a0⟩) (c := c) (f := f) st1 h1 h2 h3 r1
      exact p1 _ _ _ _ (st1.grow g) (s1.trans (g.step own1)) r⟩
end
end DL
end

section
set_option Elab.async false
set_option linter.all false
set_option maxRecDepth 100000
set_option autoImplicit false
set_option maxHeartbeats 2000000
/-! DL40: isinstance of exceptions, their fields. -/
namespace DL
open PySem PySem.Spec PyProof.Rows L2

def exnOf : D → Option (Str × Str × D)
  | .dict [(.none, .int 5), (.str c, .str f), (.none, d)] => some (c, f, d)
  | _ => none
theorem exnOf_some {k : D} {c f : Str} {d : D} (h : exnOf k = some (c, f, d)) : k = exnD c f d := by
  unfold exnOf at h
  split at h
  · cases h
    rfl
  · cases h
theorem Rep.invX {M : Str → Addr} {F : Hp} {v : V} {c f : Str} {d : D} (h : Rep M F v (exnD c f d)) : ∃ a dd w, v = .ref a ∧ F a = some (exg a (M c) dd) ∧ F dd = some (.xd [(f, w)]) ∧ Rep M F w d := by
  generalize e : exnD c f d = k at h
  cases h with
  | exn h1 h2 h3 =>
    simp only [exnD, PyData.dict.injEq, List.cons.injEq, Prod.mk.injEq, PyData.str.injEq, and_true, true_and] at e
    obtain ⟨⟨rfl, rfl⟩, rfl⟩ := e
    exact ⟨_, _, _, rfl, h1, h2, h3⟩
  | dcK h1 h2 h3 => simp [dicK, exnD] at e
  | dcT h1 h2 h3 => simp [dicT, exnD] at e
  | dcF h1 h2 h3 => simp [dicF, exnD] at e
  | dcG h1 h2 h3 h4 => simp [dicG, exnD] at e
  | kn h1 h2 h3 h4 => simp [knD, exnD] at e
  | ins h1 h2 h3 => simp [DL.ins, exnD] at e
  | _ => simp [exnD] at e
/-- the instance, as the library reads it -/
theorem exn_inst {X : Cx} {pins : List (Addr × Obj)} {σ : L2.St} {H : Hp} {s : Shared} {a C dd : Addr} {f : Str} {w : V} (I : Inv X pins σ H s) (h1 : H a = some (exg a C dd)) (h2 : H dd = some (.xd [(f, w)])) :
    ∃ ox od u, PySem.W.InstAt s.heap a ox C (some od) ∧ RelV w u ∧ PySem.W.lookIn f od = some (some u) := by
  have x : ObjOk X.prog X.w H s.heap a (exg a C dd) := I.hok a _ h1
  obtain ⟨fv, sl, e⟩ := x.1
  have y : ObjOk X.prog X.w H s.heap dd (.xd [(f, w)]) := I.hok dd _ h2
  obtain ⟨mA, hns, hr⟩ := y
  obtain ⟨od, ho, hl⟩ := lookIn_ns hns
  obtain ⟨u, hu, ru⟩ := RelO.some_of (v := w) (o := mA f) (by
    have z := hr f
    simpa [List.lookup] using z)
  exact ⟨_, od, u, ⟨e, rfl, rfl, ho⟩, ru, by rw [hl, hu]⟩

/-- what a caller takes of the classes that isinstance asks for: cv the class, tbl which exception classes are of it -/
def IsX (K : PySem.W.Frag) (cls : Str → Addr) (cv : Value) (tbl : List (Str × Bool)) : Prop := ∀ c b, look tbl c = some b → PySem.W.kitOne K (.ref (cls c)) cv = some b
def IsXt (K : PySem.W.Frag) (cls : Str → Addr) (cvs : List Value) (tbl : List (Str × Bool)) : Prop := ∀ c b, look tbl c = some b → PySem.W.kitAny K (.ref (cls c)) cvs = some b
/-- every class of the table is one whose instances may be asked -/
def AskX (K : PySem.W.Frag) (cls : Str → Addr) (tbl : List (Str × Bool)) : Prop := ∀ c b, look tbl c = some b → ExcC K (cls c)
def isXF (tbl : List (Str × Bool)) (Γ : Gam) (v : Val) : R Val := match v with
  | .f k => match exnOf k with
    | some (c, _, _) => match look tbl c with
      | some b => .ok (.f (.bool b)) Γ
      | none => .stuck
    | none => .stuck
  | _ => .stuck
def isXM (tbl : List (Str × Bool)) (m : Gam → R Val) : Gam → R Val := fun Γ => (rd m Γ).bind fun v Γ1 => isXF tbl Γ1 v
section
variable {X : Cx} {M : Pm} {E : XK} {e c : Expr} {m : Gam → R Val} {p p2 pos : Pos} {tbl : List (Str × Bool)} {cv : Value} {n : Str}
theorem kitx_exn {K : PySem.W.Frag} {C x : Addr} {ox : Obj} {od : Option Obj} (h : ExcC K C) : PySem.W.KitX K (.ref x) (.ref C) (fun hp => PySem.W.InstAt hp x ox C od) := by
  obtain ⟨cd, hc, _⟩ := PySem.W.any_some h.hd
  exact PySem.W.kitx_exc (by rw [hc]; rfl) h.hg h.hk h.hs h.ha h.hn h.ht h.hm
def rIsX (K : PySem.W.Frag) (cls : Str → Addr) (cv : Value) (tbl : List (Str × Bool)) : List V → Hp → VK → Prop := fun xs H Q => ∃ (a dd : Addr) (c f : Str) (w v : V) (b : Bool), xs = [.ref a, v] ∧ (∀ u, RelV v u → u = cv) ∧ H a = some (exg a (cls c) dd) ∧ H dd = some (.xd [(f, w)]) ∧ look tbl c = some b ∧ Q (.bl b) H
theorem call_isX {cls : Str → Addr} (hA : AskX X.K cls tbl) (hI : IsX X.K cls cv tbl) : CallR X (.builtin "isinstance") (rIsX X.K cls cv tbl) := by
  intro pins s σ H xs us Q I r h
  obtain ⟨a, dd, c, f, w, v, b, rfl, hcv, h1, h2, hl, q⟩ := h
  cases r with
  | cons rx rr =>
    cases rr with
    | cons rt rr =>
      cases rr
      cases rx
      have ec := hcv _ rt
      subst ec
      obtain ⟨ox, od, u, J, _⟩ := exn_inst I h1 h2
      exact PySem.W.kia_one (kitx_exn (hA c b hl)) I.kIn J (hI c b hl) (fun z => nomatch z) fun tk => ⟨.bl b, H, I.kept (t' := tk) fun _ _ z => z, rfl, q⟩
theorem e_isX (hK : X.K = M.K) (hA : AskX X.K M.cls tbl) (hI : IsX X.K M.cls cv tbl) (hg : Gl X "isinstance") (hm : X.mg "isinstance" = none) (he : PE X e (tE M E m)) {v : V} (hc : PE X c (tC v)) (hcv : ∀ u, RelV v u → u = cv)
    (h1 : starEach [e, c] X.env = (false, eval e X.env) :: starEach [c] X.env := by rfl) (h2 : starEach [c] X.env = (false, eval c X.env) :: starEach [] X.env := by rfl) (hpl : (backTo pos (starEach [c] X.env)).any (·.1) = false := by rfl) :
    PE X (.Call (.Name "isinstance" p) [e, c] [] pos) (tE M E (isXM tbl m)) :=
  PE_weak (pe_callB (call_isX hA hI) hg hm (by kernel_rfl) (pa_cons (pe_rd he) (pa_cons hc pa_nil h2) h1) (by decide) (by decide) h1 hpl) fun σ H Q q => by
    obtain ⟨Γ, F, own, st, q⟩ := q
    refine ⟨Γ, F, own, st, post_bind q fun F1 H1 own1 Γ1 x a _ st1 s1 r1 p1 => ?_⟩
    unfold isXF at p1
    split at p1
    · rename_i k _
      split at p1
      · rename_i c' f' d' hk
        split at p1
        · rename_i b hb
          have r1' : Rep M.cls F1 x k := r1
          rw [exnOf_some hk] at r1'
          obtain ⟨a, dd, w, rfl, e1, e2, _⟩ := r1'.invX
          exact ⟨a, dd, c', f', w, v, b, rfl, hcv, st1.fh _ _ e1, st1.fh _ _ e2, hb, post_now st1 s1 p1 (.bl _)⟩
        · exact p1.elim
      · exact p1.elim
    · exact p1.elim
/-- isinstance(e, (C, ..)) -/
def rIsXt (K : PySem.W.Frag) (cls : Str → Addr) (cvs : List Value) (tbl : List (Str × Bool)) : List V → Hp → VK → Prop := fun xs H Q => ∃ (a dd t : Addr) (c f : Str) (w : V) (vs : List V) (b : Bool), xs = [.ref a, .ref t] ∧ H t = some (.tup vs) ∧ (∀ us, Vals vs us → us = cvs) ∧ H a = some (exg a (cls c) dd) ∧ H dd = some (.xd [(f, w)]) ∧ look tbl c = some b ∧ Q (.bl b) H
theorem call_isXt {cls : Str → Addr} {cvs : List Value} (hA : AskX X.K cls tbl) (hI : IsXt X.K cls cvs tbl) : CallR X (.builtin "isinstance") (rIsXt X.K cls cvs tbl) := by
  intro pins s σ H xs us Q I r h
  obtain ⟨a, dd, t, c, f, w, vs, b, rfl, ht, hcv, h1, h2, hl, q⟩ := h
  cases r with
  | cons rx rr =>
    cases rr with
    | cons rt rr =>
      cases rr
      cases rx
      cases rt
      obtain ⟨_, its, ri, ob, e1, e2, n, e3⟩ := I.hok t _ ht
      obtain ⟨oc, od', odt, osl⟩ := ob
      dsimp only at e2 e3
      subst e2 e3
      have ev := hcv its ri
      subst ev
      obtain ⟨ox, od, u, J, _⟩ := exn_inst I h1 h2
      exact PySem.W.kia_tup (kitx_exn (hA c b hl)) I.kIn J e1 (hI c b hl) (fun z => nomatch z) fun tk => ⟨.bl b, H, I.kept (t' := tk) fun _ _ z => z, rfl, q⟩
theorem e_isXt {cs : List Expr} {vs : List V} {cvs : List Value} {x1} {tp : Pos} (hK : X.K = M.K) (hA : AskX X.K M.cls tbl) (hI : IsXt X.K M.cls cvs tbl) (hg : Gl X "isinstance") (hm : X.mg "isinstance" = none) (he : PE X e (tE M E m)) (hc : PA X cs (fun _ H Q => Q vs H)) (hcv : ∀ us, Vals vs us → us = cvs) (hvs : vs.length ≤ 100)
    (h1 : starEach [e, .Tuple cs x1 tp] X.env = (false, eval e X.env) :: starEach [.Tuple cs x1 tp] X.env := by rfl) (h2 : starEach [.Tuple cs x1 tp] X.env = (false, eval (.Tuple cs x1 tp) X.env) :: starEach [] X.env := by rfl) (hpl : (backTo pos (starEach [.Tuple cs x1 tp] X.env)).any (·.1) = false := by rfl) :
    PE X (.Call (.Name "isinstance" p) [e, .Tuple cs x1 tp] [] pos) (tE M E (isXM tbl m)) :=
  PE_weak (pe_callB (call_isXt hA hI) hg hm (by kernel_rfl) (pa_cons (pe_rd he) (pa_cons (pe_tup hc) pa_nil h2) h1) (by decide) (by decide) h1 hpl) fun σ H Q q => by
    obtain ⟨Γ, F, own, st, q⟩ := q
    refine ⟨Γ, F, own, st, post_bind q fun F1 H1 own1 Γ1 x a _ st1 s1 r1 p1 => ?_⟩
    unfold isXF at p1
    split at p1
    · rename_i k _
      split at p1
      · rename_i c' f' d' hk
        split at p1
        · rename_i b hb
          have r1' : Rep M.cls F1 x k := r1
          rw [exnOf_some hk] at r1'
          obtain ⟨a, dd, w, rfl, e1, e2, _⟩ := r1'.invX
          refine ⟨by rw [sizeLine_eq]; omega, fun t nt => ?_⟩
          have z1 := st1.fh _ _ e1
          have z2 := st1.fh _ _ e2
          refine ⟨a, dd, t, c', f', w, vs, b, rfl, upd_same, hcv, by rw [upd_ne (ne_of_none z1 nt)]; exact z1, by rw [upd_ne (ne_of_none z2 nt)]; exact z2, hb, ?_⟩
          have g : Grow F1 H1 F1 (upd H1 t (.tup vs)) := .lay st1.fh nt
          exact p1 _ _ _ _ (st1.grow g) (s1.trans (g.step own1)) (.bl _)
        · exact p1.elim
      · exact p1.elim
    · exact p1.elim
end

/-! ### e.f -/
/-- every class of the list has the field -/
def XfK (K : PySem.W.Frag) (cls : Str → Addr) (cs : List Str) (f : Str) : Prop := ∀ c ∈ cs, XfC K (cls c) ∧ PySem.W.findIn K (.ref (cls c)) f = some none
def xfM (cs : List Str) (f : Str) (m : Gam → R Val) : Gam → R Val := fun Γ => (rd m Γ).bind fun v Γ1 => match v with
  | .f k => match exnOf k with
    | some (c, g, d) => if c ∈ cs ∧ g = f then .ok (.f d) Γ1 else .stuck
    | none => .stuck
  | _ => .stuck
section
variable {X : Cx} {M : Pm} {E : XK} {e : Expr} {m : Gam → R Val} {pos : Pos} {cs : List Str} {f : Str}
def tXfv (K : PySem.W.Frag) (cls : Str → Addr) (cs : List Str) (f : Str) (te : TE) : TE := fun σ H Q => te σ H fun x H1 => ∃ (a dd : Addr) (c : Str) (w : V), x = .ref a ∧ c ∈ cs ∧ H1 a = some (exg a (cls c) dd) ∧ H1 dd = some (.xd [(f, w)]) ∧ Q w H1
theorem pe_xfv {cls : Str → Addr} {te : TE} (T : XfK X.K cls cs f) (he : PE X e te) (hb : attributeBase e f X.env (eval e X.env) = eval e X.env := by rfl) : PE X (.Attribute e f pos) (tXfv X.K cls cs f te) := by
  refine ⟨fun pins s σ H Q I h => ?_⟩
  refine attr_of hb (thn (he.run pins s σ H _ I h) fun u s1 hh => ?_)
  obtain ⟨x, H1, I1, rx, a, dd, c, w, ex, hc, e1, e2, q⟩ := hh
  subst ex
  obtain rfl : u = Value.ref a := rx
  obtain ⟨T1, hno⟩ := T c hc
  obtain ⟨ox, od, u, J, ru, hl⟩ := exn_inst I1 e1 e2
  exact HandSPX.exc_get I1.kIn J T1.ga T1.gg T1.exC (PySem.W.findObj_own T1.hdC hno rfl hl) (handed_of ru) ⟨w, H1, I1.tok _, ru, q⟩
theorem e_xf (hK : X.K = M.K) (T : XfK X.K M.cls cs f) (he : PE X e (tE M E m)) (hb : attributeBase e f X.env (eval e X.env) = eval e X.env := by rfl) : PE X (.Attribute e f pos) (tE M E (xfM cs f m)) :=
  PE_weak (pe_xfv T (pe_rd he) hb) fun σ H Q q => by
    obtain ⟨Γ, F, own, st, q⟩ := q
    refine ⟨Γ, F, own, st, post_bind q fun F1 H1 own1 Γ1 x a _ st1 s1 r1 p1 => ?_⟩
    split at p1
    · rename_i k _
      split at p1
      · rename_i c' f' d' hk
        split at p1
        · rename_i hcf
          obtain ⟨hc, rfl⟩ := hcf
          have r1' : Rep M.cls F1 x k := r1
          rw [exnOf_some hk] at r1'
          obtain ⟨a, dd, w, rfl, e1, e2, rw'⟩ := r1'.invX
          exact ⟨a, dd, c', w, rfl, hc, st1.fh _ _ e1, st1.fh _ _ e2, post_now st1 s1 p1 rw'⟩
        · exact p1.elim
      · exact p1.elim
    · exact p1.elim
end
end DL
end

section
set_option Elab.async false
set_option linter.all false
set_option maxRecDepth 100000
set_option autoImplicit false
set_option maxHeartbeats 2000000
/-! DL41: try: body, except C as e: suite; the exception is tracked in the suite. -/
namespace DL
open PySem PySem.Spec PyProof.Rows L2

section
variable {X : Cx} {pins : List (Addr × Obj)} {σ : L2.St} {H : Hp} {s : Shared}
theorem inv_track (I : Inv X pins σ H s) {a : Addr} {o : HO} (na : H a = none) (n0 : X.s_0.heap.get? a = none) (nL : a ≠ X.env.locals) (nC : ∀ x c, X.env.cells.lookup x = some c → c ≠ a) (np : ∀ p ∈ X.pn ++ pins, p.1 ≠ a) (new : ObjOk X.prog X.w (upd H a o) s.heap a o) :
    Inv X pins σ (upd H a o) s := by
  refine ⟨I.ok, I.os, I.bare, ⟨I.base.keep, I.base.slot, fun b u e n hx => ?_, I.base.there, fun b xs e => ?_, fun b u v e => ?_, fun b ps e => ?_⟩, I.loc, I.cell, ?_, fun x c e => ?_, fun p hp => ?_, fun b u e => ?_, I.len⟩
  · rw [upd_ne (fun z => by rw [z, n0] at e; cases e)]
    exact I.base.free b u e n hx
  · have z := I.base.tups b xs e
    rw [upd_ne (ne_of_none z na)]
    exact z
  · have z := I.base.frzs b u v e
    rw [upd_ne (ne_of_none z na)]
    exact z
  · obtain ⟨m, z⟩ := I.base.tbls b ps e
    exact ⟨m, by rw [upd_ne (ne_of_none z na)]; exact z⟩
  · rw [upd_ne (Ne.symm nL)]
    exact I.free
  · rw [upd_ne (nC x c e)]
    exact I.freeC x c e
  · obtain ⟨h1, h2, h3⟩ := I.pin p hp
    exact ⟨h1, by rw [upd_ne (np p hp)]; exact h2, h3⟩
  · by_cases hb : b = a
    · subst hb
      rw [upd_same] at e
      cases e
      exact new
    · rw [upd_ne hb] at e
      exact (I.hok b u e).stay (fun _ _ _ q => q) (fun c q => by rw [upd_ne (ne_of_none q na)]; exact q) fun c xs q => by rw [upd_ne (ne_of_none q na)]; exact q
theorem inv_suite0 (I : Inv X pins σ H s) (a : Addr) : Inv (X.suite a (X.pn ++ pins)) [] σ H s :=
  ⟨I.ok.suite _ _, I.os, I.bare, I.base, I.loc, I.cell, I.free, I.freeC, fun p hp => I.pin p (by rw [List.append_nil] at hp; exact hp), I.hok, I.len⟩
theorem inv_unsuite0 {a : Addr} {pn' : List (Addr × Obj)} (I : Inv (X.suite a (X.pn ++ pins)) pn' σ H s) (ok : X.Ok) : Inv X pins σ H s :=
  ⟨ok, I.os, I.bare, I.base, I.loc, I.cell, I.free, I.freeC, fun p hp => I.pin p (List.mem_append_left _ hp), I.hok, I.len⟩
end
/-- what 'except x as n' wishes: slot i is n's -/
def wAsT (K : PySem.W.Frag) (c : Value) (i : Nat) (ts : TS) (Wout : WX) (D : Ends) : WX := fun cls d σ H =>
  ∃ b, PySem.W.exmOne K cls c = some b ∧ (b = true → ∃ C dd, cls = .ref C ∧ d = some dd ∧ ∀ a, H a = none → ts { nx := fun σ' H' => D.nx (σ'.set i none) H', rt := D.rt, bk := fun σ' H' => D.bk (σ'.set i none) H', ct := fun σ' H' => D.ct (σ'.set i none) H' } (σ.set i (some (.ref a))) (upd H a (exg a C dd))) ∧
    (b = false → Wout cls d σ H)
section
variable {X : Cx} {x n : Str} {c : Value} {i : Nat} {body suite : List Stmt} {b₀ : Stmt} {np pos pos' : Pos} {tb : WX → TS} {ts : TS} {Wout : WX}
theorem ps_try_asT (hex : X.ex = []) (hs : X.stack = X.env :: X.outer) (hf : X.env.frame = some X.env.locals) (hN : X.N.Nodup) (hi : X.N[i]? = some n) (hln : X.env.kindOf n = some .local) (hc : Names X x c) (tk : Takes X Wout)
    (hb : ∀ (W : WX) (pn : List (Addr × Obj)) (xe : Value → Shared → Prop), Takes (X.tr pn xe) W → PassesOwn (model X.prog X.w) X.A X.env xe → PSs (X.tr pn xe) body (tb W))
    (hsu : ∀ (a : Addr) (pn : List (Addr × Obj)), PSs (X.suite a pn) (b₀ :: suite) ts) :
    PS X (.Try body [.ExceptHandler (some (.Name x np)) (some n) (b₀ :: suite) pos'] [] [] pos) (fun D σ H => tb (wAsT X.K c i ts Wout D) D σ H) := by
  refine ⟨fun pins s σ H D I h => ?_⟩
  have ok := I.ok
  have hfr : X.A.frames = some (X.env :: X.outer) := by rw [ok.frames, hs]
  have hloc : Loc X.env.scope n := .inl hln
  refine wpAny_Try_except ?_
  refine wpAny_mono ((hb (wAsT X.K c i ts Wout D) (X.pn ++ pins) (fun e s₁ => wpAny (model X.prog X.w) X.A (noteFrame e X.env) (fun _ s₂ => wpAny (model X.prog X.w) X.A (setFlight e none) (fun _ s₃ =>
    wpAny (model X.prog X.w) X.A (handleBy e X.env [.ExceptHandler (some (.Name x np)) (some n) (b₀ :: suite) pos']) (SP X pins D) X.xe s₃) X.xe s₂) X.xe s₁) (fun u s' xx => ?_) PassesOwn.looking).run [] s σ H D (I.toTry _) h) (fun f s1 hsp => ?_) (fun e s1 he => he)
  · -- the catch
    obtain ⟨a, B, sI, pins', σ', H', cls, d, rfl, J', nb, up, sky, na, os, ag, b, hb1, hyes, hno⟩ := xx
    have J : Inv X pins σ' H' sI := J'.ofTry ok
    have sky' : Sky B (X.env :: X.outer) a (Zc cls d) X.env.locals s'.heap := by rw [← hs]; exact sky
    show wpAny (model X.prog X.w) X.A (noteFrame (.ref a) X.env) _ _ _
    refine Sky.land Zc.steady hfr hf sky' fun h3 fl3 up3 => ?_
    have J3 : Inv X pins σ' H' { s' with heap := h3 } := J.landed nb fl3.1 (up.trans up3) os ag
    obtain ⟨oe3, vs3, he3, hz3, hd3⟩ := fl3.there
    have notFr : ∀ {h : Heap} {o : Obj} {vs : Array Value}, h.FunFrames B (X.env :: X.outer) → h.get? a = some o → o.data = .fields vs → a ∉ frs (X.env :: X.outer) := fun {h o vs} ff e dd hm => by
      obtain ⟨_, o', e', hnf⟩ := ff.mem hm
      rw [e] at e'; cases e'
      exact hnf _ dd
    have nfr := notFr fl3.2.2.1 he3 hd3
    have nL : a ≠ X.env.locals := fun z => nfr (List.mem_filterMap.mpr ⟨X.env, List.mem_cons_self, by rw [hf, z]⟩)
    have nF : a ∉ X.fs := fun hm => by
      obtain ⟨e, he, q⟩ := List.mem_filterMap.mp hm
      exact nfr (List.mem_filterMap.mpr ⟨e, List.mem_cons_of_mem _ he, q⟩)
    have nsI : sI.heap.get? a = none := by
      cases q : sI.heap.get? a with
      | none => rfl
      | some o =>
        have z := nb a o q (by rw [hs]; exact nfr)
        rw [fl3.2.1] at z
        cases z
    have n0 : X.s_0.heap.get? a = none := by
      cases q : X.s_0.heap.get? a with
      | none => rfl
      | some o =>
        obtain ⟨o', z⟩ := J.base.there a o q (by rw [hex]; simp)
        rw [nsI] at z
        cases z
    have np' : ∀ p ∈ X.pn ++ pins, p.1 ≠ a := fun p hp z => by
      have y := (J.pin p hp).1
      rw [z, nsI] at y
      cases y
    have S3 := J3.suite he3 hd3 na nL nF
    refine wpAny_handleBy_cons (codeAny_handlers_test ?_) (by intro q; cases q)
    have LT : PySem.W.Looks (model X.prog X.w) h3 (typeOf (.ref a)) cls := fun A Q E s k q => wpAny_typeOf_ref (k _ _ he3) (by rw [hz3.1]; exact q)
    have LM := PySem.W.exm_one (M := model X.prog X.w) (J3.kIn) LT hb1
    have test : ∀ {Q : Value → Shared → Prop} {E : Value → Shared → Prop}, Q c { s' with heap := h3 } → wpAny (model X.prog X.w) (X.A.mark (some (.ref a))) (eval (.Name x np) X.env) Q E { s' with heap := h3 } := fun {Q E} q => by
      obtain ⟨hg, hdbg, hm | ⟨hm, hv, hnn⟩⟩ := hc
      · exact ld_glob (X := X.suite a ((a, oe3) :: (X.pn ++ pins))) S3 hg hm q hdbg
      · exact ld_blt (X := X.suite a ((a, oe3) :: (X.pn ++ pins))) S3 hg hm hv q hnn hdbg
    refine test (LM.here ?_)
    cases b with
    | true =>
      obtain ⟨C, dd, rfl, rfl, hts⟩ := hyes rfl
      refine codeAny_handlers_suite_as ?_
      refine HandSPX.lands_againZ fl3 fun h4 fl4 up4 => ?_
      have J4 : Inv X pins σ' H' { s' with heap := h4 } := J.landed nb fl4.1 ((up.trans up3).trans up4) os ag
      obtain ⟨oe4, vs4, he4, hz4, hd4⟩ := fl4.there
      obtain ⟨oc4, od4, oda4, osl4⟩ := oe4
      obtain ⟨hz4a, hz4b⟩ := hz4
      dsimp only at hz4a hz4b hd4
      subst hz4a hz4b hd4
      have nC : ∀ y k, X.env.cells.lookup y = some k → k ≠ a := fun y k e z => by
        obtain ⟨v, o, ho, hd⟩ := J4.cell y k e
        rw [z, he4] at ho
        cases ho
        cases hd
      have S4 : Inv (X.suite a (X.pn ++ pins)) [] σ' (upd H' a (exg a C dd)) { s' with heap := h4 } := inv_track (inv_suite0 J4 a) na n0 nL nC (fun p hp => np' p (by simpa using hp)) ⟨⟨_, _, he4⟩, ⟨_, he4⟩, fun h1 h2 ⟨fv, sl, z⟩ k => ⟨fv, sl, k _ z⟩⟩
      refine store_ok (X := X.suite a (X.pn ++ pins)) (v := .ref a) S4 hN hi hloc rfl (fun s5 S5 => ?_) (.inr hln)
      refine wpAny_mono ((hsu a (X.pn ++ pins)).run [] s5 _ _ _ S5 (hts a na)) (fun f s6 hsp => ?_) (fun _ _ z => False.elim z)
      have end_ : ∀ {σ6 : L2.St} {H6 : Hp} {Q : Shared → Prop}, Inv (X.suite a (X.pn ++ pins)) [] σ6 H6 s6 → (∀ s7, Inv X pins (σ6.set i none) H6 s7 → Q s7) →
          wpAny (model X.prog X.w) X.A (do bindName X.env n .none; unbindBehindTheSuite X.env n pos') (fun _ s7 => Q s7) X.xe s6 := fun {σ6 H6 Q} S6 hq => gone_ok (inv_unsuite0 S6 ok) hN hi hln hq
      cases f with
      | next =>
        obtain ⟨σ6, H6, S6, q6⟩ := hsp
        exact end_ S6 fun s7 J7 => ⟨_, _, J7, q6⟩
      | brk =>
        obtain ⟨σ6, H6, S6, q6⟩ := hsp
        exact end_ S6 fun s7 J7 => ⟨_, _, J7, q6⟩
      | cont =>
        obtain ⟨σ6, H6, S6, q6⟩ := hsp
        exact end_ S6 fun s7 J7 => ⟨_, _, J7, q6⟩
      | ret u =>
        obtain ⟨v6, σ6, H6, S6, r6, q6⟩ := hsp
        exact end_ S6 fun s7 J7 => ⟨_, _, _, J7, r6, q6⟩
    | false =>
      show wpAny _ X.A (handleBy (.ref a) X.env []) _ _ _
      refine wpAny_handleBy_nil ?_
      obtain ⟨k1, k2, k3, oe, vs, T, oT, ts', he, hz, hd, h1, hr⟩ := id fl3
      unfold PySem.passOn
      refine wpAny_bind (wpAny_field he hd h1 ?_)
      rw [if_neg (show ¬ ((Value.ref T == Value.none) = true) from by simp)]
      have fin : wpAny (model X.prog X.w) X.A (setFlight (.ref a) X.env.frame) (fun _ s4 => wpAny (model X.prog X.w) X.A (throw (.ref a) : Sem Flow) (SP X pins D) X.xe s4) X.xe { s' with heap := h3 } := by
        rw [hf]
        refine HandSPX.setFlight_upZ fl3 fun h4 hh4 up4 => wpAny_throw (tk _ _ ?_)
        exact ⟨a, B, sI, pins, σ', H', cls, d, rfl, J, nb, (up.trans up3).trans up4, .inr (.inr (by rw [hs]; exact hh4)), na, os, ag, hno rfl⟩
      first
        | exact wpAny_bind (wpAny_pure (wpAny_bind fin))
        | exact wpAny_bind fin
  · cases f with
    | next =>
      obtain ⟨σ', H', J', q⟩ := hsp
      exact wpAny_execs_nil ⟨σ', H', J'.ofTry ok, q⟩
    | brk =>
      obtain ⟨σ', H', J', q⟩ := hsp
      exact ⟨σ', H', J'.ofTry ok, q⟩
    | cont =>
      obtain ⟨σ', H', J', q⟩ := hsp
      exact ⟨σ', H', J'.ofTry ok, q⟩
    | ret u =>
      obtain ⟨v, σ', H', J', r, q⟩ := hsp
      exact ⟨v, σ', H', J'.ofTry ok, r, q⟩
end
end DL
end

section
set_option Elab.async false
set_option linter.all false
set_option maxRecDepth 100000
set_option autoImplicit false
set_option maxHeartbeats 2000000
/-! DL42: try as a rule of data; repr of scalars; t[::-1]. -/
namespace DL
open PySem PySem.Spec PyProof.Rows L2

/-- as PostS, what is raised being wished at the slots of the entry -/
def PostSx (M : Pm) (E : XK) (σ0 : L2.St) (F H : Hp) (own : Own) (D : Ends) : RS → Prop
  | .err e Γ' => ErrP M E σ0 F H own e Γ'
  | r => PostS M E F H own D r
def tSx (M : Pm) (W : WX) (m : Gam → RS) : TS := fun D σ H => ∃ Γ F own, StR M Γ σ F H own ∧ PostSx M (WE W σ) σ F H own D (m Γ)
def tEx (M : Pm) (W : WX) (m : Gam → R Val) : TE := fun σ H Q => tE M (WE W σ) m σ H Q
theorem postx_stm {α β : Type} {rel : Rel β α} {M : Pm} {E : XK} {r : R α} {k : α → Gam → RS} {σ : L2.St} {F0 H0 : Hp} {own0 : Own} {D : Ends} {Q' : β → Hp → Prop}
    (p : PostSx M E σ F0 H0 own0 D (stm r k)) (hne : ∀ a Γ e Γ', k a Γ ≠ .err e Γ')
    (hk : ∀ F1 H1 own1 Γ1 x a, r = .ok a Γ1 → StR M Γ1 σ F1 H1 own1 → Step F0 H0 own0 F1 H1 own1 → rel σ H0 F1 H1 own1 x a → PostS M E F0 H0 own0 D (k a Γ1) → Q' x H1) : PostG rel M E σ F0 H0 own0 Q' r := by
  cases e : r with
  | ok a Γ1 =>
    rw [e, stm_ok] at p
    have p' : PostS M E F0 H0 own0 D (k a Γ1) := by
      cases ek : k a Γ1 with
      | err y Γ' => exact absurd ek (hne _ _ _ _)
      | _ => rw [ek] at p; exact p
    exact fun x F1 H1 own1 st1 s1 v => hk F1 H1 own1 Γ1 x a e st1 s1 v p'
  | err x Γ1 =>
    rw [e] at p
    exact p
  | stuck =>
    rw [e] at p
    exact p
section
variable {X : Cx} {M : Pm} {W : WX} {e : Expr} {me : Gam → R Val} {pos : Pos}
theorem sx_expr (h : PE X e (tEx M W me)) (hs : swapsWith e none pos.line X.env = pure false := by rfl) : PSs X [.Expr e pos] (tSx M W (exprM me)) := pss_one (PS_weak (ps_expr h hs) fun D σ H ⟨Γ, F, own, s, p⟩ =>
  ⟨Γ, F, own, s, postx_stm p (fun _ _ _ _ z => by cases z) fun F1 H1 own1 Γ1 x v _ st1 s1 r p1 => p1 σ F1 H1 own1 st1 s1⟩)
end
def noErr {α : Type} (m : Gam → R α) : Gam → R α := fun Γ => match m Γ with
  | .err _ _ => .stuck
  | r => r
abbrev E0k : XK := fun _ _ _ => False
section
variable {X : Cx} {cls : Str → Addr} {a0 : Option Addr} {W : WX} {e : Expr} {es : List Expr} {ms : Gam → R (List Val)} {p pos : Pos} {x : Str} {k : Nat} {g : List Slot → R Val}
theorem e_callCS (C : FnC X.prog X.w X.K X.mg X.base cls x k g) (hr : Room k X.A) (hg : Gl X x) (tk : Takes X W) (ha : PA X (e :: es) (tA ⟨X.K, cls, a0⟩ E0k ms)) (hdb : (x == ("__debug__" : Str)) = false := by decide)
    (he : starEach (e :: es) X.env = (false, eval e X.env) :: starEach es X.env := by rfl) (hpl : (backTo pos (starEach es X.env)).any (·.1) = false := by rfl) : PE X (.Call (.Name x p) (e :: es) [] pos) (tEx ⟨X.K, cls, a0⟩ W (callM (callG g) (noErr ms))) := by
  obtain ⟨f, fd, ps, F, hm, hk, hb⟩ := C
  refine PE_weak (pe_callS (E := WE W) F hr hg hm hk hb (fun σ => passAt tk σ) ha hdb he hpl) fun σ H Q ⟨Γ, Fh, own, st, q⟩ => ?_
  refine ⟨Γ, Fh, own, st, ?_⟩
  unfold callM noErr at q
  cases em : ms Γ with
  | ok vs Γ1 =>
    rw [em] at q
    exact fun xs F1 H1 own1 st1 s1 r1 => callG_ok st1 s1 r1 q
  | err y Γ1 =>
    rw [em] at q
    exact q.elim
  | stuck =>
    rw [em] at q
    exact q.elim
end

/-! ### try -/
def unS (i : Nat) : RS → RS
  | .nx Γ => if i < Γ.length then .nx (Γ.set i .un) else .stuck
  | .bk Γ => if i < Γ.length then .bk (Γ.set i .un) else .stuck
  | .ct Γ => if i < Γ.length then .ct (Γ.set i .un) else .stuck
  | .rt v Γ => .rt v Γ
  | .err _ _ => .stuck
  | .stuck => .stuck
def catchS (tbl : List (Str × Bool)) (i : Nat) (ms : Gam → RS) : RS → RS
  | .err e Γ1 => match look tbl e.cls with
    | some true => if i < Γ1.length then unS i (ms (Γ1.set i (.val (exnD e.cls e.fld e.d)))) else .stuck
    | some false => .err e Γ1
    | none => .stuck
  | r => r
def tryAsM (tbl : List (Str × Bool)) (i : Nat) (mb ms : Gam → RS) : Gam → RS := fun Γ => catchS tbl i ms (mb Γ)
theorem StR.unset {M : Pm} {Γ : Gam} {σ : L2.St} {F H : Hp} {own : Own} {i : Nat} (s : StR M Γ σ F H own) (hi : i < Γ.length) :
    StR M (Γ.set i .un) (σ.set i none) F H (putO own i fun _ => False) ∧ Step F H own F H (putO own i fun _ => False) :=
  ⟨s.put hi (fun _ h => h) (fun _ h => h.elim) (fun _ h => h.elim) fun _ h => h.elim, step_own fun j a h => by
    by_cases e : j = i
    · subst e; rw [putO_same] at h; exact h.elim
    · rw [putO_ne e] at h; exact .inl ⟨j, h⟩⟩
/-- the caught exception, frozen -/
theorem exn_caught {M : Pm} {Γ : Gam} {σ : L2.St} {F0 H0 F H : Hp} {own0 own : Own} {a dd : Addr} {c f : Str} {w : V} {d : D} (s : StR M Γ σ F H own) (st : Step F0 H0 own0 F H own) (h1 : H dd = some (.xd [(f, w)])) (h2 : Rep M.cls F w d) (h3 : F dd = none) (h4 : ∀ i, ¬ own i dd) (h5 : H0 dd = none) (na : H a = none) :
    ∃ F', StR M Γ σ F' (upd H a (exg a (M.cls c) dd)) own ∧ Step F0 H0 own0 F' (upd H a (exg a (M.cls c) dd)) own ∧ Rep M.cls F' (.ref a) (exnD c f d) := by
  have fh1 : Ex (upd F dd (.xd [(f, w)])) H := fun b o q => by
    by_cases e : b = dd
    · subst e
      rw [upd_same] at q
      rw [h1]
      exact q
    · rw [upd_ne e] at q
      exact s.fh b o q
  have e1 : Ex F (upd F dd (.xd [(f, w)])) := .new h3
  have s1 : StR M Γ σ (upd F dd (.xd [(f, w)])) H own := ⟨s.len, fh1, fun i x h => (s.slot i x h).mono e1 fun b u _ q => q, s.out, fun i b hb => by
    rw [upd_ne (fun e => h4 i (by rw [← e]; exact hb))]
    exact s.free i b hb, s.there, s.disj⟩
  have st1 : Step F0 H0 own0 (upd F dd (.xd [(f, w)])) H own := ⟨st.ff.trans e1, st.hh, fun b q1 q2 q3 => by
    rw [upd_ne (fun e => q2 (by rw [e]; exact h5))]
    exact st.nf b q1 q2 q3, st.no, st.al⟩
  have g : Grow (upd F dd (.xd [(f, w)])) H (upd (upd F dd (.xd [(f, w)])) a (exg a (M.cls c) dd)) (upd H a (exg a (M.cls c) dd)) := .new fh1 na
  have hda : dd ≠ a := fun e => by rw [e, na] at h1; cases h1
  exact ⟨_, s1.grow g, st1.trans (g.step own), .exn upd_same (by rw [upd_ne hda, upd_same]) ((h2.mono e1).mono g.ff)⟩
theorem unS_post {M : Pm} {E : XK} {F0 H0 F H : Hp} {own0 own : Own} {D : Ends} {i : Nat} (st : Step F0 H0 own0 F H own) : ∀ {r : RS}, PostS M E F0 H0 own0 D (unS i r) →
    PostS M E0k F H own { nx := fun σ' H' => D.nx (σ'.set i none) H', rt := D.rt, bk := fun σ' H' => D.bk (σ'.set i none) H', ct := fun σ' H' => D.ct (σ'.set i none) H' } r
  | .nx Γ, p => by
    have p1 : PostS M E F0 H0 own0 D (if i < Γ.length then .nx (Γ.set i .un) else .stuck) := p
    by_cases hi : i < Γ.length
    · rw [if_pos hi] at p1
      intro σ' F' H' own' s' st'
      obtain ⟨a, b⟩ := s'.unset hi
      exact p1 _ _ _ _ a ((st.trans st').trans b)
    · rw [if_neg hi] at p1
      exact p1.elim
  | .bk Γ, p => by
    have p1 : PostS M E F0 H0 own0 D (if i < Γ.length then .bk (Γ.set i .un) else .stuck) := p
    by_cases hi : i < Γ.length
    · rw [if_pos hi] at p1
      intro σ' F' H' own' s' st'
      obtain ⟨a, b⟩ := s'.unset hi
      exact p1 _ _ _ _ a ((st.trans st').trans b)
    · rw [if_neg hi] at p1
      exact p1.elim
  | .ct Γ, p => by
    have p1 : PostS M E F0 H0 own0 D (if i < Γ.length then .ct (Γ.set i .un) else .stuck) := p
    by_cases hi : i < Γ.length
    · rw [if_pos hi] at p1
      intro σ' F' H' own' s' st'
      obtain ⟨a, b⟩ := s'.unset hi
      exact p1 _ _ _ _ a ((st.trans st').trans b)
    · rw [if_neg hi] at p1
      exact p1.elim
  | .rt v Γ, p => fun x σ' F' H' own' s' st' rv => p x σ' F' H' own' s' (st.trans st') (back_V M _ _ _ _ _ _ _ _ st.none rv)
  | .err _ _, p => p.elim
  | .stuck, p => p.elim
section
variable {X : Cx} {cls : Str → Addr} {a0 : Option Addr} {E : XK} {x n : Str} {cH : Value} {i : Nat} {tbl : List (Str × Bool)} {body suite : List Stmt} {b₀ : Stmt} {np pos pos' : Pos} {mb ms : Gam → RS}
theorem s_tryAs (hT : ∀ c b, look tbl c = some b → PySem.W.exmOne X.K (.ref (cls c)) cH = some b) (hex : X.ex = []) (hs : X.stack = X.env :: X.outer) (hf : X.env.frame = some X.env.locals) (hN : X.N.Nodup) (hi : X.N[i]? = some n) (hln : X.env.kindOf n = some .local) (hc : Names X x cH) (tk : Takes X (fun cl d _ H => E cl d H))
    (hb : ∀ (W : WX) (pn : List (Addr × Obj)) (xe : Value → Shared → Prop), Takes (X.tr pn xe) W → PassesOwn (model X.prog X.w) X.A X.env xe → PSs (X.tr pn xe) body (tSx ⟨X.K, cls, a0⟩ W mb))
    (hsu : ∀ (a : Addr) (pn : List (Addr × Obj)), PSs (X.suite a pn) (b₀ :: suite) (tS ⟨X.K, cls, a0⟩ E0k ms)) :
    PS X (.Try body [.ExceptHandler (some (.Name x np)) (some n) (b₀ :: suite) pos'] [] [] pos) (tS ⟨X.K, cls, a0⟩ E (tryAsM tbl i mb ms)) :=
  PS_weak (ps_try_asT hex hs hf hN hi hln hc tk hb hsu) fun D σ H ⟨Γ, F, own, s, p⟩ => by
    refine ⟨Γ, F, own, s, ?_⟩
    unfold tryAsM at p
    cases em : mb Γ with
    | nx Γ1 => rw [em] at p; exact p
    | rt v Γ1 => rw [em] at p; exact p
    | bk Γ1 => rw [em] at p; exact p
    | ct Γ1 => rw [em] at p; exact p
    | stuck => rw [em] at p; exact p
    | err e Γ1 =>
      rw [em] at p
      intro F' H' own' dd w st s' h1 h2 h3 h4 h5
      cases hl : look tbl e.cls with
      | none =>
        simp only [catchS, hl] at p
        exact p.elim
      | some b =>
        cases b with
        | false =>
          simp only [catchS, hl] at p
          exact ⟨false, hT _ _ hl, fun z => Bool.noConfusion z, fun _ => p σ F' H' own' dd w st s' h1 h2 h3 h4 h5⟩
        | true =>
          simp only [catchS, hl] at p
          by_cases hlt : i < Γ1.length
          · rw [if_pos hlt] at p
            refine ⟨true, hT _ _ hl, fun _ => ⟨_, _, rfl, rfl, fun a na => ?_⟩, fun z => Bool.noConfusion z⟩
            obtain ⟨F2, s2, st2, r2⟩ := exn_caught (c := e.cls) st s' h1 h2 h3 h4 h5 na
            obtain ⟨s3, st3⟩ := s2.setv hlt r2
            exact ⟨_, F2, _, s3, unS_post (st2.trans st3) p⟩
          · rw [if_neg hlt] at p
            exact p.elim
end

/-! ### repr of scalars -/
def reprS : D → Option Str
  | .none => some "None"
  | .bool b => some (if b then "True" else "False")
  | .int i => if i.natAbs.log2 < 1920 then some (toString i) else none
  | _ => none
abbrev rRepS : List V → Hp → VK → Prop := fun xs H Q => (xs = [.non] ∧ Q (.str "None") H) ∨ (∃ b, xs = [.bl b] ∧ Q (.str (if b then "True" else "False")) H) ∨ ∃ i, xs = [.int i] ∧ i.natAbs.log2 < 1920 ∧ Q (.str (toString i)) H
theorem call_reprS {X : Cx} : CallR X (.builtin "repr") rRepS := by
  intro pins s σ H xs us Q I r h
  rcases h with ⟨rfl, q⟩ | ⟨b, rfl, q⟩ | ⟨i, rfl, hz, q⟩
  · cases r with
    | cons rx rn =>
      cases rn
      cases rx
      exact PySem.P.repr_of_none ⟨.str _, H, I.tok _, ⟨_, rfl⟩, q⟩
  · cases r with
    | cons rx rn =>
      cases rn
      cases rx
      exact PySem.P.repr_of_bool ⟨.str _, H, I.tok _, ⟨_, rfl⟩, q⟩
  · cases r with
    | cons rx rn =>
      cases rn
      obtain ⟨t, rfl⟩ := rx
      exact PySem.P.repr_of_int hz ⟨.str _, H, I.tok _, ⟨_, rfl⟩, q⟩
def reprSF (Γ : Gam) (vs : List Val) : R Val := match vs with
  | [.f d] => match reprS d with
    | some z => .ok (.f (.str z)) Γ
    | none => .stuck
  | _ => .stuck
theorem cs_reprS {M : Pm} : CallS M rRepS reprSF := by
  intro E Γ σ F0 H0 own0 F H own xs as Q s st r p
  unfold reprSF at p
  split at p
  · rename_i d
    split at p
    · rename_i z hz
      cases r with
      | cons r1 rn =>
        cases rn
        have r1' : Rep M.cls F _ d := r1
        unfold reprS at hz
        split at hz
        · cases hz
          cases r1'
          exact .inl ⟨rfl, post_now s st p (.str _)⟩
        · cases hz
          cases r1'
          exact .inr (.inl ⟨_, rfl, post_now s st p (.str _)⟩)
        · split at hz
          · rename_i hl
            cases hz
            cases r1'
            exact .inr (.inr ⟨_, rfl, hl, post_now s st p (.str _)⟩)
          · cases hz
        · cases hz
    · exact p.elim
  · exact p.elim
end DL
end

section
set_option Elab.async false
set_option linter.all false
set_option maxRecDepth 100000
set_option autoImplicit false
set_option maxHeartbeats 2000000
/-! DL43: t[::-1] of lists and tuples. -/
namespace DL
open PySem PySem.Spec PyProof.Rows L2
section
variable {prog : Program} {w : World} {A : Around} {E : Value → Shared → Prop} {s : Shared}
theorem fm_congr {α β : Type} {f g : α → Option β} : ∀ {l : List α}, (∀ m ∈ l, f m = g m) → l.filterMap f = l.filterMap g
  | [], _ => rfl
  | a :: r, h => by
    rw [List.filterMap_cons, List.filterMap_cons, h a List.mem_cons_self, fm_congr fun m hm => h m (List.mem_cons_of_mem _ hm)]
theorem rev_pick (xs : List Value) : ((List.range xs.length).filterMap fun (m : Nat) => xs.toArray[(((xs.length : Int) - 1) + (m : Int) * (-1)).toNat]?) = xs.reverse := by
  have e : ((List.range xs.length).filterMap fun (m : Nat) => xs.toArray[(((xs.length : Int) - 1) + (m : Int) * (-1)).toNat]?) = (List.range xs.length).filterMap fun m => xs.reverse[m]? := by
    apply fm_congr
    intro m hm
    have hm' : m < xs.length := List.mem_range.mp hm
    rw [List.getElem?_reverse hm', List.getElem?_toArray]
    congr 1
    omega
  rw [e]
  have : ∀ (l : List Value), (List.range l.length).filterMap (fun m => l[m]?) = l := by
    intro l
    induction l with
    | nil => rfl
    | cons a r ih =>
      rw [List.length_cons, List.range_succ_eq_map, List.filterMap_cons]
      simp only [List.getElem?_cons_zero, List.filterMap_map]
      congr 1
  have h := this xs.reverse
  rw [List.length_reverse] at h
  exact h
theorem places_rev (n : Nat) : Builtin.Slice.slicePlaces ((n : Int) - 1) (-1) (-1) = n := by
  unfold Builtin.Slice.slicePlaces
  rw [if_neg (by decide)]
  by_cases h : (n : Int) - 1 > -1
  · rw [if_pos h]
    have e : ((n : Int) - 1 - -1 - 1) / (- -1) + 1 = n := by
      rw [Int.neg_neg, Int.ediv_one]
      omega
    rw [e]
    exact Int.toNat_natCast n
  · rw [if_neg h]
    have : n = 0 := by omega
    subst this
    rfl
theorem sliceApplied_rev {sl : Addr} {vl vu vs : Value} {n : Nat} {Q : Int × Int × Nat → Shared → Prop} (hs : s.heap.IsSliceOf sl vl vu vs) (pl : IsPart vl none) (pu : IsPart vu none) (ps : IsPart vs (some (-1)))
    (h : Q ((n : Int) - 1, -1, n) s) : wpAny (model prog w) A (Builtin.Slice.sliceApplied (.ref sl) (pure (n : Int))) Q E s := by
  obtain ⟨os, hos, hcs, hds⟩ := id hs
  unfold Builtin.Slice.sliceApplied Builtin.Slice.sliceFields
  refine wpAny_bind (wpAny_bind (wpAny_field hos hds (x := vl) rfl (wpAny_bind (wpAny_field hos hds (x := vu) rfl (wpAny_bind (wpAny_field hos hds (x := vs) rfl (wpAny_pure ?_)))))))
  refine wpAny_bind (HT.slicePart_ ps ?_)
  show wpAny _ _ (if ((-1 : Int) == 0) = true then _ else _) _ _ s
  rw [if_neg (by decide)]
  refine wpAny_bind (HT.slicePart_ pl (wpAny_bind (HT.slicePart_ pu (wpAny_bind (wpAny_pure ?_)))))
  show wpAny _ _ (pure ((n : Int) - 1, (-1 : Int), Builtin.Slice.slicePlaces ((n : Int) - 1) (-1) (-1))) _ _ s
  rw [places_rev]
  exact wpAny_pure h
theorem getItem_tuple_rev {t sl : Addr} {items : List Value} {vl vu vs : Value} {Q : Value → Shared → Prop} (ht : IsTup s.heap t items.toArray) (hs : s.heap.IsSliceOf sl vl vu vs) (pl : IsPart vl none) (pu : IsPart vu none) (ps : IsPart vs (some (-1)))
    (h : Q (.ref s.heap.objs.size) { s with heap := s.heap.push { cls := .type "tuple", data := .seq items.reverse.toArray } })
    (hsz : items.length ≤ sizeLine) : wpAny (model prog w) A (getItem (.ref t) (.ref sl)) Q E s := by
  have htake : sizeOk (.seq items.reverse.toArray) := by
    show items.reverse.toArray.size ≤ sizeLine
    rw [List.size_toArray, List.length_reverse]
    exact hsz
  obtain ⟨os, hos, hcs, hds⟩ := id hs
  have hTs : s.TypeIs (.ref sl) "slice" := ⟨os, hos, hcs⟩
  unfold getItem
  try with_reducible refine wpAny_holding ?_
  first | refine wpAny_bind (wpAny_pure ?_) | skip
  refine wpAny_bind (wpAny_sequenceKey ht.typeIs (by decide) ?_)
  refine wpAny_bind (wpAny_callSpecial?_slot (name := Str.ofString "__getitem__") ht.typeIs PyProof.Rows.slot_tuple_getitem
    (wpAny_call_entry PyProof.Rows.slot_tuple_getitem ht.typeIs entry_tuple_getitem ?_ (args_tuple_getitem _ _)))
  show wpAny _ _ (Builtin.Tuple.tupleItemsOf (.ref t) >>= _) _ _ s
  refine wpAny_bind (PyProof.Rows.tupleItemsOf_ ht ?_)
  refine wpAny_bind (wpAny_typeOf hTs ?_)
  rw [if_pos (by decide)]
  have hz : items.toArray.size = items.length := List.size_toArray ..
  rw [hz]
  refine wpAny_bind (sliceApplied_rev hs pl pu ps ?_)
  show wpAny _ _ (if (((items.length : Int) - 1) == 0 && (-1 : Int) == 1 && items.length == items.length) = true then _ else _) _ _ s
  rw [if_neg (by simp), rev_pick]
  first
    | exact wpAny_bind (m := Builtin.Tuple.tupleExact _) (wpAny_newObj_type (wpAny_pure ⟨_, rfl, wpAny_pure h⟩) htake)
    | exact wpAny_bind (m := Builtin.Tuple.tupleExact _) (wpAny_newObj_type (wpAny_bind (wpAny_pure (wpAny_pure ⟨_, rfl, wpAny_pure h⟩))) htake)
    | exact wpAny_bind (wpAny_bind (m := Builtin.Tuple.tupleExact _) (wpAny_newObj_type (wpAny_pure (wpAny_pure ⟨_, rfl, wpAny_pure h⟩)) htake))
    | exact wpAny_bind (wpAny_bind (m := Builtin.Tuple.tupleExact _) (wpAny_newObj_type (wpAny_pure ⟨_, rfl, wpAny_pure h⟩) htake))
end
def tRevA (K : PySem.W.Frag) (te : TE) : TE := fun σ H Q => te σ H fun x H1 => ∃ a xs, x = .ref a ∧ ((SqL K H1 a xs ∧ ∀ p, H1 p = none → Q (.ref p) (upd H1 p (.lst xs.reverse))) ∨ (SqT K H1 a xs ∧ ∀ p, H1 p = none → Q (.ref p) (upd H1 p (.tup xs.reverse))))
theorem pe_revA {X : Cx} {e : Expr} {te : TE} {k : Nat} {p1 p2 p3 pos : Pos} (he : PE X e te) : PE X (.Subscript e (.Slice none none (some (.UnaryOp .USub (.Constant (.int 1) k p1) p2)) p3) pos) (tRevA X.K te) := by
  refine ⟨fun pins s σ H Q I h => ?_⟩
  refine Subscript_ (thn (he.run pins s σ H _ I h) fun v s1 ⟨x, H1, I1, r1, q1⟩ => ?_)
  obtain ⟨a, xs, ex, q⟩ := q1
  subst ex
  cases r1
  have hst : PO X (some (.UnaryOp .USub (.Constant (.int 1) k p1) p2)) (tPart (tUn (rU fun i => .int (-i)) (tC (.int 1)))) := po_some (pe_un un_neg pe_int)
  refine wpAny_Slice (thn (po_none.run pins s1 σ H1 (fun o H2 => o = none ∧ H2 = H1) I1 ⟨rfl, rfl⟩) fun vl s2 ⟨l, H2, I2, pl, el, e2⟩ => ?_)
  subst el e2
  refine thn (po_none.run pins s2 σ H2 (fun o H3 => o = none ∧ H3 = H2) I2 ⟨rfl, rfl⟩) fun vu s3 ⟨u, H3, I3, pu, eu, e3⟩ => ?_
  subst eu e3
  refine thn (hst.run pins s3 σ H3 (fun o H4 => o = some (-1) ∧ H4 = H3) I3 ⟨1, rfl, -1, rfl, rfl, rfl⟩) fun vs s4 ⟨o, H4, I4, ps, eo, e4⟩ => ?_
  subst eo e4
  have I5 : Inv X pins σ H4 { s4 with heap := s4.heap.push { cls := .type "slice", data := .fields #[vl, vu, vs] } } := I4.kept (t' := s4.toks) fun b ob q => Heap.get?_push_of_some _ q
  rcases q with ⟨hx, q⟩ | ⟨hx, q⟩
  · obtain ⟨its, r, ht, hz⟩ := I5.list hx
    have hlen := r.length
    show wpAny (model X.prog X.w) X.A (subscriptTail e (.Slice none none (some (.UnaryOp .USub (.Constant (.int 1) k p1) p2)) p3) (.ref a) (.ref s4.heap.objs.size)) (EP X pins σ Q) X.xe { s4 with heap := s4.heap.push { cls := .type "slice", data := .fields #[vl, vu, vs] } }
    refine tail_any (ops := [.ref a, .ref s4.heap.objs.size]) ht.isList.typeIs (PySem.slot_list_getitem.lookup) ?_ (by with_unfolding_all rfl)
    refine wpAny_getItem_list_slice ht.isList (Heap.IsSliceOf.new _ vl vu vs) pl pu ps (by decide) ?_ (by rw [List.size_toArray]; omega)
    rw [PySem.W.krv_pick]
    refine ⟨.ref _, _, I5.laid (t' := s4.toks) (o := .lst xs.reverse) (fun b ob q => Heap.get?_push_of_some _ q) (Nat.le_refl _) ?_, rfl, q _ (I5.hok.fresh (Nat.le_refl _))⟩
    exact ⟨by rw [List.length_reverse]; exact hz, _, 0, r.reverse, Heap.get?_push_size _ rfl⟩
  · obtain ⟨its, r, ht, hz⟩ := I5.tuple hx
    have hlen := r.length
    show wpAny (model X.prog X.w) X.A (subscriptTail e (.Slice none none (some (.UnaryOp .USub (.Constant (.int 1) k p1) p2)) p3) (.ref a) (.ref s4.heap.objs.size)) (EP X pins σ Q) X.xe { s4 with heap := s4.heap.push { cls := .type "slice", data := .fields #[vl, vu, vs] } }
    refine tail_any (ops := [.ref a, .ref s4.heap.objs.size]) ht.typeIs (PyProof.Rows.slot_tuple_getitem.lookup) ?_ (by with_unfolding_all rfl)
    refine getItem_tuple_rev ht (Heap.IsSliceOf.new _ vl vu vs) pl pu ps ?_ (by omega)
    refine ⟨.ref _, _, I5.laid (t' := s4.toks) (o := .tup xs.reverse) (fun b ob q => Heap.get?_push_of_some _ q) (Nat.le_refl _) ?_, rfl, q _ (I5.hok.fresh (Nat.le_refl _))⟩
    exact ⟨by rw [List.length_reverse]; exact hz, _, r.reverse, IsTup.new _ _⟩
def revF (Γ : Gam) (a : Val) : R Val := match viewD Γ a with
  | some (.tuple ds) => .ok (.f (.tuple ds.reverse)) Γ
  | some (.list ds) => .ok (.n (.ol ds.reverse)) Γ
  | _ => .stuck
def revM (m : Gam → R Val) : Gam → R Val := fun Γ => (rd m Γ).bind fun v Γ1 => revF Γ1 v
theorem e_rev {X : Cx} {M : Pm} {E : XK} {e : Expr} {m : Gam → R Val} {k : Nat} {p1 p2 p3 pos : Pos} (hK : X.K = M.K) (he : PE X e (tE M E m)) : PE X (.Subscript e (.Slice none none (some (.UnaryOp .USub (.Constant (.int 1) k p1) p2)) p3) pos) (tE M E (revM m)) :=
  PE_weak (pe_revA (pe_rd he)) fun σ H Q q => by
    obtain ⟨Γ, F, own, st, q⟩ := q
    refine ⟨Γ, F, own, st, post_bind q fun F1 H1 own1 Γ1 x a _ st1 s1 r1 p1 => ?_⟩
    rw [hK]
    unfold revF at p1
    split at p1
    · rename_i ds hb
      obtain ⟨l, vs, rfl, _, h1, h2⟩ := view_tup st1 r1 hb
      exact ⟨l, vs, rfl, .inr ⟨h1, fun p hp => post_newU st1 s1 p1 hp h2.reverse⟩⟩
    · rename_i ds hb
      obtain ⟨l, vs, rfl, h1, h2⟩ := view_list st1 r1 hb
      exact ⟨l, vs, rfl, .inl ⟨h1, fun p hp => post_newL st1 s1 p1 hp h2.reverse⟩⟩
    · exact p1.elim
end DL
end

section
set_option Elab.async false
set_option linter.all false
set_option maxRecDepth 100000
set_option autoImplicit false
set_option maxHeartbeats 2000000
/-! DL44: exception classes, read off the written part; the head's facts over a part with the statics. -/
namespace DL
open PySem PySem.Spec PyProof.Rows L2
open PySem.W (ksFn)

/-! ### the head -/
def asF (g : Addr → Option Obj) : Nat → List Addr
  | 0 => [mainGlobals, cStatics]
  | n + 1 => He.growD g (asF g n)
def obsF (n : Nat) (fa : List He.Fa) (fn : List He.DefD) (ex : PySem.W.Frag → Bool) (g : Addr → Option Obj) : AlE := (He.obsD fa fn (He.frG g (asF g n)), ex (He.frG g (asF g n)))
def hookF (n : Nat) (fa : List He.Fa) (fn : List He.DefD) (ex : PySem.W.Frag → Bool) : PySem.W.Hook where
  α := AlE
  obs := fun s => obsF n fa fn ex s.heap.get?
  val := fun _ => (He.valD fn, true)
  says := fun _ h => ∃ K : PySem.W.Frag, K.In h ∧ He.SaysD fa fn K ∧ ex K = true
  of := fun _ _ e => ⟨_, He.frG_in, congrArg (fun z : AlE => z.1) e, congrArg (fun z : AlE => z.2) e⟩
  keeps := fun _ _ _ ⟨K, hK, c⟩ k => ⟨K, PySem.W.Frag.In.keeps hK k, c⟩
theorem obsF_eq {n : Nat} {fa : List He.Fa} {fn : List He.DefD} {ex : PySem.W.Frag → Bool} {g : Addr → Option Obj} {s : Shared} (h : ∀ a, g a = s.heap.get? a) : obsF n fa fn ex g = (hookF n fa fn ex).obs s := by
  have e : g = s.heap.get? := funext h
  rw [e] <;> rfl

/-! ### the class -/
structure BaseOk (B newId initId : String) (bmB : List Value) : Prop where
  F : ExcBaseFacts B newId initId bmB
  KF : PySem.W.KxsFacts B initId
  ne : bmB.isEmpty = false
  obj : bmB.contains (.type "object") = true
  pass : ∀ self, PySem.refuseLoop self "__setattr__" bmB = pure ()
theorem base_VE : BaseOk "ValueError" "ValueError.__new__" "ValueError.__init__" [.type "ValueError", .type "Exception", .type "BaseException", .type "object"] := ⟨F.excBase_ValueError, PySem.W.kxs_ValueError, rfl, by decide +kernel, fun self => by kernel_rfl⟩
theorem base_LE : BaseOk "LookupError" "LookupError.__new__" "LookupError.__init__" [.type "LookupError", .type "Exception", .type "BaseException", .type "object"] := ⟨F.excBase_LookupError, PySem.W.kxs_LookupError, rfl, by decide +kernel, fun self => by kernel_rfl⟩
theorem excTail_all {B newId initId : String} {bmB : List Value} (b : BaseOk B newId initId bmB) : ∀ {l : List Value}, PySem.W.excTail bmB l = true →
    (∀ Y : String, l.contains (.type Y) = bmB.contains (.type Y)) ∧ l.isEmpty = false ∧ ∀ self, PySem.refuseLoop self "__setattr__" l = pure ()
  | [], h => by
    rcases PySem.W.excTail_cases [] h with ⟨c, r, e, _⟩ | e
    · cases e
    · rw [e]
      exact ⟨fun _ => rfl, b.ne, b.pass⟩
  | x :: r, h => by
    rcases PySem.W.excTail_cases (x :: r) h with ⟨c, r', e, h'⟩ | e
    · cases e
      obtain ⟨h1, _, h3⟩ := excTail_all b h'
      refine ⟨fun Y => by rw [List.contains_cons, h1]; rfl, rfl, fun self => by rw [PySem.refuseLoop_ref]; exact h3 self⟩
    · rw [e]
      exact ⟨fun _ => rfl, b.ne, b.pass⟩
def shapeB (K : PySem.W.Frag) (C : Addr) (bmB : List Value) (newId : String) : Bool := match K.lookup C with
  | some ⟨.type "type", _, .cls cd, sl⟩ => (match cd.mro, sl.toList with
    | .ref C' :: bm, [_, _, _, _, some (.builtin n), _] => decide (C' = C) && decide (n = newId) && !cd.hasDel && cd.hasDict && PySem.W.excTail bmB bm
    | _, _ => false)
  | _ => false
def oexBB (K : PySem.W.Frag) (bmB : List Value) (newId : String) (C : Addr) : Bool := shapeB K C bmB newId && oB (PySem.W.findIn K (.ref C) "__setattr__") (some (some (.builtin "object.__setattr__"))) && oB (PySem.W.subIn K (.ref C) (.type "BaseException")) (some true) &&
  oB (PySem.W.typeIn K (.ref C)) (some (.type "type")) && PySem.W.keepIn K (.ref C)
theorem oexBB_ok {K : PySem.W.Frag} {B newId initId : String} {bmB : List Value} {C : Addr} (b : BaseOk B newId initId bmB) (h : oexBB K bmB newId C = true) : OexB K B newId initId bmB C := by
  simp only [oexBB, oB, Bool.and_eq_true, decide_eq_true_eq] at h
  obtain ⟨⟨⟨⟨h0, h1⟩, h2⟩, h3⟩, h4⟩ := h
  refine ⟨b.F, ?_, h1, h2, h3, h4⟩
  unfold shapeB at h0
  split at h0
  · rename_i dd cd sl ho
    split at h0
    · rename_i C' bm k0 k1 k2 k3 n k5 hm hs
      simp only [Bool.and_eq_true, decide_eq_true_eq, Bool.not_eq_true'] at h0
      obtain ⟨⟨⟨⟨rfl, rfl⟩, hdel⟩, hdct⟩, ht⟩ := h0
      obtain ⟨nm, bs, mro, ns, qn, hd, sn, sub, ab, col, del⟩ := cd
      dsimp only at hm hdel hdct
      subst hm hdel hdct
      obtain ⟨z1, z2, z3⟩ := excTail_all b ht
      have hsl : sl = #[k0, k1, k2, k3, some (.builtin n), k5] := by
        apply Array.toList_inj.mp
        rw [hs]
      subst hsl
      exact ⟨_, _, _, _, bm, _, _, _, _, _, _, _, _, _, _, ho, z1, z2, by rw [z1]; exact b.obj, z3⟩
    · cases h0
  · cases h0

/-! ### its __init__ -/
def cellB (K : PySem.W.Frag) (cc C : Addr) : Bool := match K.lookup cc with
  | some ⟨_, _, .cell (some (.ref D)), _⟩ => decide (D = C)
  | _ => false
def fileB (K : PySem.W.Frag) (cda : Addr) : Bool := match K.lookup cda with
  | some ⟨_, _, .fields vs, _⟩ => (match (vs[(2 : Nat)]? : Option Value) with
    | some (Value.str z _) => decide (z = "/claim/cut.py")
    | _ => false)
  | _ => false
def scopeB (par : Str) (scope : Scope) : Bool := decide (scope.kind = .function) && !scope.isCoroutine && !scope.isGenerator && decide (scope.names.lookup ("super" : Str) = some .globalImplicit) && decide (scope.names.lookup ("__class__" : Str) = some .free) &&
  decide (scope.names.lookup ("self" : Str) = some .local) && decide (scope.names.lookup par = some .local) && (scope.names.all fun y => !decide (y.2 = .cell) && (!decide (y.2 = .free) || decide (y.1 = "__class__")))
theorem scopeB_ok {par : Str} {scope : Scope} (h : scopeB par scope = true) : ExcSc par scope := by
  simp only [scopeB, Bool.and_eq_true, Bool.or_eq_true, Bool.not_eq_true', decide_eq_true_eq, decide_eq_false_iff_not, List.all_eq_true] at h
  obtain ⟨⟨⟨⟨⟨⟨⟨h1, h2⟩, h3⟩, h4⟩, h5⟩, h6⟩, h7⟩, h8⟩ := h
  exact ⟨h1, h2, h3, h4, h5, h6, h7, fun y hy => (h8 y hy).1, fun y hy e => (h8 y hy).2.resolve_left fun z => z e⟩
def initB (K : PySem.W.Frag) (C : Addr) (f par : Str) (fd : FuncData) : Bool :=
  match fd.params, fd.body, fd.closure, fd.code, fd.defaults, fd.kwdefaults with
  | ⟨[], [⟨a1, _, _⟩, ⟨a2, _, _⟩], none, [], [], none, []⟩, .stmts [.Expr (.Call (.Attribute (.Call (.Name n1 _) [] [] _) n2 p2) [.Constant (.str _) _ _] [] p4) _, .Assign [.Attribute (.Name n3 _) f' _] (.Name n4 _) _], [(c1, cc)], .ref cda, .none, .none =>
    decide (a1 = "self") && decide (a2 = par) && decide (n1 = "super") && decide (n2 = "__init__") && decide (n3 = "self") && decide (f' = f) && decide (n4 = par) && decide (c1 = "__class__") && decide (fd.globals = mainGlobals) && decide (fd.builtins = builtinsNs) &&
      cellB K cc C && fileB K cda && PySem.W.codeIn K (.ref cda) fd.qualname && scopeB par fd.scope && (p2.endLine == p4.line)
  | _, _, _, _, _, _ => false
def fInit (K : PySem.W.Frag) (C : Addr) : Addr := match PySem.W.findIn K (.ref C) "__init__" with
  | some (some (.ref a)) => a
  | _ => 0
def fdInit (K : PySem.W.Frag) (C : Addr) : Option FuncData := match K.lookup (fInit K C) with
  | some ⟨_, _, .func fd, _⟩ => some fd
  | _ => none
def excB (K : PySem.W.Frag) (B newId initId : String) (bmB : List Value) (c f par : Str) : Bool :=
  oexBB K bmB newId (He.ga K c) && oB (PySem.W.findIn K (.ref (He.ga K c)) f) (some none) && oB (PySem.W.findIn K (.ref (He.ga K c)) "__init__") (some (some (.ref (fInit K (He.ga K c))))) && oB (PySem.W.typeIn K (.ref (fInit K (He.ga K c)))) (some (.type "function")) &&
    oB (PySem.W.ks_superIn K (He.ga K c) (He.ga K c) "__init__") (some (some (.builtin initId))) && oB (PySem.W.subIn K (.ref (He.ga K c)) (.type B)) (some true) && oB (PySem.W.nsIn K cStatics "thirdparty.any") (some none) &&
    (match fdInit K (He.ga K c) with
      | some fd => initB K (He.ga K c) f par fd
      | none => false) &&
    xfB K (He.ga K c) && oB (PySem.W.findIn K (.ref (He.ga K c)) "__class__") (some (some (.builtin "object.__class__"))) && oB (PySem.W.specialIn K (.builtin "object.__class__") "__get__") (some (some (.builtin "getset_descriptor.__get__"))) &&
    oB (PySem.W.takesIn K (.builtin "object.__class__")) (some true) && oB (PySem.W.mroIn K (He.ga K c) (.type "object")) (some true) && (PySem.W.clsIn K (He.ga K c)).isSome && oB (PySem.W.nsIn K mainGlobals c) (some (some (.ref (He.ga K c)))) && oB (PySem.W.nsIn K mainGlobals "super") (some none)
/-- what is asked of the program's own frame -/
def PrgOk (P : Program) : Prop := ((P.main.file : Str) == ("/claim/cut.py" : Str)) = true ∧ (P.main.scope.names.lookup ("super" : Str)).isSome = false
def ParOk (par : Str) : Prop := par = "place" ∨ par = "value" ∨ par = "line" ∨ par = "numbers"
theorem initB_ok {K : PySem.W.Frag} {C : Addr} {f par : Str} {fI : Addr} {fd : FuncData} {oc : Value} {od : Option Addr} {osl : Array (Option Value)} (lk : K.lookup fI = some ⟨oc, od, .func fd, osl⟩) (hp : ParOk par) (h : initB K C f par fd = true) :
    (∃ (name qual : Str) (params : Arguments) (text : Str) (j : Nat) (p0 p1 p2 p3 p4 p5 p6 p7 p8 p9 : Pos) (scope : Scope) (dV kV doc pm : Value) (an : Option Addr) (cda : Addr) (ct : Value) (cc : Addr) (oc : Value) (od : Option Addr) (osl : Array (Option Value)) (ar : Arg)
    (ccl : Value) (cdd : Option Addr) (vs : Array Value) (ccs : Array (Option Value)) (tf : Tok) (cl : Value) (cld : Option Addr) (csl : Array (Option Value)),
    fd = ksFn name qual params (excBody text f par j p0 p1 p2 p3 p4 p5 p6 p7 p8 p9) scope dV kV doc pm an (.ref cda) ct cc ∧ K.lookup fI = some ⟨oc, od, .func fd, osl⟩ ∧ PySem.W.codeIn K (.ref cda) qual = true ∧
    (params.posonlyargs ++ params.args).head? = some ar ∧ ar.arg = "self" ∧ ExcSc par scope ∧ K.lookup cda = some ⟨ccl, cdd, .fields vs, ccs⟩ ∧ vs[2]? = some (.str "/claim/cut.py" tf) ∧ K.lookup cc = some ⟨cl, cld, .cell (some (.ref C)), csl⟩ ∧ (p2.endLine == p4.line) = true) ∧
    ∀ us : List Value, us.length = 2 → bindArgs fd ⟨us, []⟩ = pure ((["self", par] : List Str).zip us) := by
  obtain ⟨name, qual, params, body, scope, glob, clo, dV, kV, doc, pm, an, code, ct, blt⟩ := fd
  unfold initB at h
  dsimp only at h
  split at h
  · rename_i a1 an1 ap1 a2 an2 ap2 n1 p0 p1 n2 p2 text j p3 p4 p5 n3 p6 f' p7 n4 p8 p9 c1 cc cda
    simp only [Bool.and_eq_true, decide_eq_true_eq] at h
    obtain ⟨⟨⟨⟨⟨⟨⟨⟨⟨⟨⟨⟨⟨⟨rfl, rfl⟩, rfl⟩, rfl⟩, rfl⟩, rfl⟩, rfl⟩, rfl⟩, rfl⟩, rfl⟩, hc⟩, hf⟩, hq⟩, hs⟩, hl⟩ := h
    unfold cellB at hc
    split at hc
    · rename_i cl cld D csl hcc
      have eD := of_decide_eq_true hc
      subst eD
      unfold fileB at hf
      split at hf
      · rename_i ccl cdd vs ccs hcd
        split at hf
        · rename_i z tf hv
          have ez := of_decide_eq_true hf
          subst ez
          refine ⟨⟨name, qual, _, text, j, p0, p1, p2, p3, p4, p5, p6, p7, p8, p9, scope, .none, .none, doc, pm, an, cda, ct, cc, oc, od, osl, _, ccl, cdd, vs, ccs, tf, cl, cld, csl, rfl, lk, hq, rfl, rfl, scopeB_ok hs, hcd, hv, hcc, hl⟩, fun us hu => ?_⟩
          rcases hp with rfl | rfl | rfl | rfl
          · match us, hu with
            | [_, _], _ => rfl
          · match us, hu with
            | [_, _], _ => rfl
          · match us, hu with
            | [_, _], _ => rfl
          · match us, hu with
            | [_, _], _ => rfl
        · cases hf
      · cases hf
    · cases hc
  · cases h
theorem excB_ok {P : Program} {w : World} {K : PySem.W.Frag} {h base : Heap} {mg : Str → Option Value} {B newId initId : String} {bmB : List Value} {c f par : Str} (X : K.In h) (G : h.Ns mainGlobals mg) (hP : PrgOk P) (b : BaseOk B newId initId bmB) (hp : ParOk par)
    (e : excB K B newId initId bmB c f par = true) : ExcK P w K mg base (He.ga K) c f := by
  simp only [excB, oB, Bool.and_eq_true, decide_eq_true_eq] at e
  obtain ⟨⟨⟨⟨⟨⟨⟨⟨⟨⟨⟨⟨⟨⟨⟨h1, h2⟩, h3⟩, h4⟩, h5⟩, h6⟩, h7⟩, h8⟩, h9⟩, h10⟩, h11⟩, h12⟩, h13⟩, h14⟩, h15⟩, h16⟩ := e
  unfold fdInit at h8
  cases lk : K.lookup (fInit K (He.ga K c)) with
  | none =>
    rw [lk] at h8
    cases h8
  | some o =>
    obtain ⟨oc, od, dt, osl⟩ := o
    rw [lk] at h8
    cases dt with
    | func fd =>
      obtain ⟨hex, hbd⟩ := initB_ok lk hp (show initB K (He.ga K c) f par fd = true from h8)
      have D : ExcD K B newId initId bmB (He.ga K c) f par (fInit K (He.ga K c)) fd := ⟨oexBB_ok b h1, b.KF, h2, h3, h4, h5, h6, h7, by rcases hp with rfl | rfl | rfl | rfl <;> decide, by rcases hp with rfl | rfl | rfl | rfl <;> decide, by rcases hp with rfl | rfl | rfl | rfl <;> decide, hex⟩
      exact ⟨PySem.W.mg_of X G h15, ⟨B, newId, initId, bmB, _, fd, par, D, exc_fn D hP.1 hP.2 (PySem.W.mg_none_of X G h16), Binds.all hbd⟩, xfB_ok h9, h10, h11, h12, h13, h14⟩
    | _ => cases h8
theorem ExcK.ask {P : Program} {w : World} {K : PySem.W.Frag} {mg : Str → Option Value} {base : Heap} {cls : Str → Addr} {c f : Str} (E : ExcK P w K mg base cls c f) : ExcC K (cls c) := ⟨E.X.ga, E.X.gg, E.X.exC, E.X.hdC, E.cl, E.gs, E.tk, E.mo⟩
end DL
end

section
set_option Elab.async false
set_option linter.all false
set_option maxRecDepth 100000
set_option autoImplicit false
set_option maxHeartbeats 1000000
/-! DL45: tables of exception classes, read off the written part. -/
namespace DL
open PySem PySem.Spec PyProof.Rows L2
theorem look_mem {α : Type} {l : List (Str × α)} {k : Str} {a : α} (h : look l k = some a) : (k, a) ∈ l := by
  induction l with
  | nil => cases h
  | cons p r ih =>
    unfold look at h
    split at h
    · rename_i e
      cases h
      rw [← e]
      exact List.mem_cons_self
    · exact List.mem_cons_of_mem _ (ih h)
/-- which exceptions an except clause of the class cv takes -/
def ExmX (K : PySem.W.Frag) (cls : Str → Addr) (cv : Value) (tbl : List (Str × Bool)) : Prop := ∀ c b, look tbl c = some b → PySem.W.exmOne K (.ref (cls c)) cv = some b
def exmB (K : PySem.W.Frag) (x : Str) (tbl : List (Str × Bool)) : Bool := tbl.all fun p => oB (PySem.W.exmOne K (.ref (He.ga K p.1)) (.ref (He.ga K x))) (some p.2)
theorem exmB_ok {K : PySem.W.Frag} {x : Str} {tbl : List (Str × Bool)} (h : exmB K x tbl = true) : ExmX K (He.ga K) (.ref (He.ga K x)) tbl := fun c b hl => by
  have := List.all_eq_true.mp h _ (look_mem hl)
  simpa [oB] using this
def xfkB (K : PySem.W.Frag) (cs : List Str) (f : Str) : Bool := cs.all fun c => xfB K (He.ga K c) && oB (PySem.W.findIn K (.ref (He.ga K c)) f) (some none)
theorem xfkB_ok {K : PySem.W.Frag} {cs : List Str} {f : Str} (h : xfkB K cs f = true) : XfK K (He.ga K) cs f := fun c hc => by
  have := List.all_eq_true.mp h _ hc
  simp only [Bool.and_eq_true, oB, decide_eq_true_eq] at this
  exact ⟨xfB_ok this.1, this.2⟩
end DL
end

section
set_option Elab.async false
set_option linter.all false
set_option maxRecDepth 100000
set_option autoImplicit false
set_option maxHeartbeats 1000000
/-! DL46: len(x) by an own __len__. -/
namespace DL
open PySem PySem.Spec PyProof.Rows L2
section
variable {prog : Program} {w : World} {A : Around} {E : Value → Shared → Prop} {s : Shared} {K : PySem.W.Frag} {C x f : Addr} {ox : Obj} {od : Option Obj}
open PySem.W in
theorem len_own_K {Q : Value → Shared → Prop} (X : K.In s.heap) (I : InstAt s.heap x ox C od) (hs : findIn K (.ref C) "__len__" = some (some (.ref f))) (hf : isFn K (.ref f) = true)
    (h : wpAny (model prog w) A.in1 (call (.ref f) [.ref x]) (fun v s' => ∃ (i : Int) (t : Tok), v = .int i t ∧ 0 ≤ i ∧ i < 2 ^ 63 ∧ Q (.int i s'.toks) { s' with toks := s'.toks + 1 }) E s) : wpAny (model prog w) A (call (.builtin "len") [.ref x]) Q E s := by
  refine Calls.call_function_entry kind_len plain_len entry_len (args_len1 _) ?_
  unfold Builtin.«len»
  refine wpAny_bind (m := oneArg "len" _) (wpAny_pure ?_)
  refine wpAny_bind (m := callSpecial? (.ref x) (PySem.Str.ofString "__len__")) (special_fn X I hs (beq_iff_eq.mp hf) (wpAny_mono h (fun r s' hr => ?_) fun _ _ e => e))
  obtain ⟨i, t, rfl, h0, h1, hq⟩ := hr
  refine wpAny_bind (wpAny_holding (wpAny_pure ?_))
  refine wpAny_bind (wpAny_letGo ?_)
  rw [if_neg (by omega), if_neg (by omega)]
  exact wpAny_bind (wpAny_mkInt (wpAny_pure ⟨_, rfl, hq⟩))
end
def lenO (c : Str) (g : List Slot → R Val) (Γ : Gam) (vs : List Val) : R Val := match vs with
  | [v] => match viewI Γ v with
    | some (ca, _) => if ca = c then (callV g Γ [v]).bind fun r Γ1 => match r with
        | .f (.int i) => if 0 ≤ i ∧ i ≤ 16777216 then .ok (.f (.int i)) Γ1 else .stuck
        | _ => .stuck
      else .stuck
    | none => .stuck
  | _ => .stuck
section
variable {X : Cx} {cls : Str → Addr} {c : Str} {k : Nat} {g : List Slot → R Val} {E : XK} {a0 : Option Addr}
def rLenO (K : PySem.W.Frag) (C : Addr) (g : List Slot → R Val) (cls : Str → Addr) (E : XK) : List V → Hp → VK → Prop := fun xs H Q => ∃ a dx fs, xs = [.ref a] ∧ H a = some (.ins C dx fs) ∧
  spG ⟨K, cls, none⟩ g [.ref a] H (fun v H' => ∃ i : Int, v = .int i ∧ 0 ≤ i ∧ i ≤ 16777216 ∧ Q (.int i) H') E
theorem call_lenO (C : MetC X.prog X.w X.K X.mg X.base cls c "__len__" k g) (hr1 : Room k X.A.in1) (hx : Passes (L2.CX X.prog X.w) X E) : CallR X (.builtin "len") (rLenO X.K (cls c) g cls E) := by
  intro pins s σ H xs us Q I r h
  obtain ⟨a, dx, fs, rfl, ha, hsp⟩ := h
  obtain ⟨f, fd, ps, _, hM, F, hb⟩ := C
  cases r with
  | cons rx rn =>
    cases rn
    cases rx
    obtain ⟨mA, J, _⟩ := ins_get I.hok ha
    obtain ⟨od, J, _⟩ := J.look
    have hl := F.len _ _ _ _ hsp
    have r2 : Vals [V.ref a] [Value.ref a] := .cons rfl .nil
    have e0 := I.env0
    refine len_own_K I.kIn J hM.at_ hM.fn ?_
    have e1 : Env0 X.prog X.w X.K X.mg X.base X.A.in1 X.stack s H := ⟨e0.frames, e0.mod, e0.bs, e0.bsz, e0.funs, e0.frf, e0.hok, e0.bare⟩
    refine wpAny_call (codeAny_mono (F.run X.A.in1 X.stack s H ⟨[.ref a], []⟩ [.ref a] [.ref a] _ E hr1 e1 (by
      have := hb s [.ref a] I.kIn (by simpa using hl)
      simpa using this) r2 hsp) fun r s' hq => ?_)
    cases r with
    | error e => exact hx pins σ H s e s' I hq
    | ok fl =>
      cases fl with
      | ret w =>
        obtain ⟨z, H', I', rz, i, ez, h0, h1, q⟩ := I.after hq
        subst ez
        obtain ⟨t, rfl⟩ := rz
        exact ⟨i, t, rfl, h0, by omega, .int i, H', I'.tok _, ⟨_, rfl⟩, q⟩
      | next => exact False.elim hq
      | brk => exact False.elim hq
      | cont => exact False.elim hq
variable {e : Expr} {ms : Gam → R (List Val)} {p pos : Pos}
theorem e_lenO (C : MetC X.prog X.w X.K X.mg X.base cls c "__len__" k g) (hr : Room (k + 1) X.A) (hx : Passes (L2.CX X.prog X.w) X E) (hg : Gl X ("len" : String)) (hm : X.mg "len" = none) (ha : PA X [e] (tA ⟨X.K, cls, a0⟩ E ms))
    (he : starEach [e] X.env = (false, eval e X.env) :: starEach [] X.env := by rfl) (hpl : (backTo pos (starEach [] X.env)).any (·.1) = false := by rfl) : PE X (.Call (.Name "len" p) [e] [] pos) (tE ⟨X.K, cls, a0⟩ E (callM (lenO c g) ms)) :=
  PE_weak (pe_callB (call_lenO C hr.in1 hx) hg hm (by kernel_rfl) ha (by decide) (by decide) he hpl) fun σ H Q ⟨Γ, F, own, st, q⟩ =>
    ⟨Γ, F, own, st, post_bind q fun F1 H1 own1 Γ1 xs vs _ st1 s1 r1 p1 => by
      unfold lenO at p1
      split at p1
      · rename_i v
        split at p1
        · rename_i ca fa hv
          split at p1
          · rename_i hc
            subst hc
            cases r1 with
            | cons r2 r3 =>
              cases r3
              obtain ⟨q2, dx, fs, rfl, h1, _⟩ := view_I st1 r2 hv
              refine ⟨q2, dx, fs, rfl, h1, ?_⟩
              refine callV_ok (M := ⟨X.K, cls, a0⟩) st1 s1 (.cons r2 .nil) (post_bind p1 fun F2 H2 own2 Γ2 z u _ st2 s2 r4 p2 => ?_)
              split at p2
              · rename_i i _
                split at p2
                · rename_i hz
                  cases r4
                  exact ⟨i, rfl, hz.1, hz.2, p2 _ F2 H2 own2 st2 s2 (.int _)⟩
                · exact p2.elim
              · exact p2.elim
          · exact p1.elim
        · exact p1.elim
      · exact p1.elim⟩
end
end DL
end

section
set_option Elab.async false
set_option linter.all false
set_option maxRecDepth 100000
set_option autoImplicit false
set_option maxHeartbeats 1000000
/-! DL47: a def that asks what its caller's guards are (repr of containers); the law's end for it. -/
namespace DL
open PySem PySem.Spec PyProof.Rows L2
section
variable {X : Cx} {K : PySem.W.Frag} {cls : Str → Addr} {body : List Stmt} {N ps : List Str}
theorem body_sp {m : Gam → RS} {vs : List V} {H : Hp} {Q : VK} {E : XK} (hbody : ∀ a0 : Option Addr, PSs X body (tS ⟨K, cls, a0⟩ E m)) (h : spG ⟨K, cls, none⟩ (gOf ps.length N.length m) vs H Q E) :
    ∃ t, PSs X body t ∧ t { nx := fun _ H' => Q .non H', rt := Q } (start N vs) H := by
  obtain ⟨As, Fh, own, st, p⟩ := h
  unfold gOf at p
  by_cases hc : As.length = ps.length ∧ argOk As = true
  · rw [if_pos hc] at p
    refine ⟨_, hbody (match vs.head? with | some (.ref a) => some a | _ => none), ?_⟩
    have ha : ∀ a, vs.head? = some (.ref a) → (match vs.head? with | some (.ref a) => some a | _ => (none : Option Addr)) = some a := fun a e => by rw [e]
    refine ⟨_, Fh, own, start_state (N := N) st hc.2 ha, ?_⟩
    cases em : m (startA N.length As) with
    | stuck =>
      rw [em] at p
      exact p.elim
    | bk Γ' =>
      rw [em] at p
      exact p.elim
    | ct Γ' =>
      rw [em] at p
      exact p.elim
    | nx Γ' =>
      rw [em] at p
      simp only [outG] at p
      cases ef : finA As Γ' with
      | none =>
        rw [ef] at p
        exact p.elim
      | some As' =>
        rw [ef] at p
        intro σ' F' H' own' s1 s2
        obtain ⟨own'', s3, s4, _⟩ := end_state st hc.2 ha s1 s2 ef
        exact p .non F' H' own'' s3 s4 .non
    | err y Γ' =>
      rw [em] at p
      simp only [outG] at p
      cases ef : finA As Γ' with
      | none =>
        rw [ef] at p
        exact p.elim
      | some As' =>
        rw [ef] at p
        intro σ' F' H' own' dd w s1 s2 h1 h2 h3 h4 h5
        obtain ⟨own'', s3, s4, s5⟩ := end_state st hc.2 ha s1 s2 ef
        exact p F' H' own'' dd w s3 s4 h1 h2 h3 (fun i hi => by
          obtain ⟨j, hj⟩ := s5 i dd hi
          exact h4 j hj) h5
    | rt v Γ' =>
      rw [em] at p
      simp only [outG] at p
      by_cases ho : outV v = true
      · rw [if_pos ho] at p
        cases ef : finA As Γ' with
        | none =>
          rw [ef] at p
          exact p.elim
        | some As' =>
          rw [ef] at p
          intro x σ' F' H' own' s1 s2 rv
          obtain ⟨own'', s3, s4, s5⟩ := end_state st hc.2 ha s1 s2 ef
          refine p x F' H' own'' s3 s4 ?_
          have nw : ∀ {o}, New H F' H' own' o → New H F' H' own'' o := fun n a ha => ⟨(n a ha).1, (n a ha).2.1, fun i hi => by
            obtain ⟨j, hj⟩ := s5 i a hi
            exact (n a ha).2.2.1 j hj, (n a ha).2.2.2⟩
          cases v with
          | f d => exact rv
          | b i => cases ho
          | n f =>
            obtain ⟨o, h1, h2⟩ := rv
            refine ⟨o, ?_, nw h2⟩
            cases f <;> exact h1
          | nc c f =>
            obtain ⟨a, o, h0, h1, h2⟩ := rv
            exact ⟨a, o, h0, h1, nw h2⟩
          | nb n f =>
            obtain ⟨a, o, h0, h1, h2⟩ := rv
            exact ⟨a, o, h0, h1, nw h2⟩
      · rw [if_neg ho] at p
        exact p.elim
  · rw [if_neg hc] at p
    exact p.elim
end
/-- what a def keeps where nothing guards against a loop of repr -/
structure FnGd (P : Program) (w : World) (K : PySem.W.Frag) (mg : Str → Option Value) (base : Heap) (CX : CXT) (k : Nat) (f : Addr) (fd : FuncData) (ps : List Str) (sp : Sp) : Prop where
  run : ∀ (A : Around) (outer : List Env) (s : Shared) (H : Hp) (args : Args) (us : List Value) (vs : List V) (Q : VK) (E : XK), Room k A → A.guards = some [] → Env0 P w K mg base A outer s H → BindsTo s fd args (ps.zip us) → Vals vs us → sp vs H Q E →
    codeAny (model P w) A (.call (.ref f) args) (CR CX outer P w H s Q E) s
section
variable {P : Program} {w : World} {K : PySem.W.Frag} {cls : Str → Addr} {mg : Str → Option Value} {base : Heap} {x qual : Str} {params : Arguments} {body : List Stmt} {scope : Scope} {f : Addr} {fd : FuncData} {k : Nat}
theorem fn_Gd (N ps : List Str) (np nl k : Nat) (m : Gam → RS) (hp : ps.length = np) (hn : N.length = nl) (F : FunD K x qual params body scope [] [] f fd) (S : FnScope N ps scope)
    (hbody : ∀ (cdv : Value) (A : Around) (outer : List Env) (s : Shared) (H : Hp) (E : XK) (a0 : Option Addr), Room k (A.deeper (envOfC qual scope s.heap.objs.size f cdv)) → (A.deeper (envOfC qual scope s.heap.objs.size f cdv)).guards = some [] →
      PSs (cxOf (L2.CX P w) P w K mg base N qual scope f cdv A outer s H E) body (tS ⟨K, cls, a0⟩ E m)) : FnGd P w K mg base (L2.CX P w) (k + 1) f fd ps (spG ⟨K, cls, none⟩ (gOf np nl m)) := by
  subst hp hn
  obtain ⟨oc, od, dV, kV, doc, pm, an, cdv, ct, osl, rfl, lk, hcd, _, _⟩ := F.ex
  refine ⟨fun A outer s H args us vs Q E hr hg e0 hb r hsp => ?_⟩
  have KX : K.In s.heap := e0.mod.kin.keeps fun b o e => (e0.bs b o e).1
  have hlen := gOf_len _ _ _ _ hsp
  refine codeAny_call_function hr.depth (KX _ _ lk) rfl S.co S.gen rfl (PySem.W.codeRec_of KX hcd) (hb _ _ _ _ ?_)
  refine wpAny_newFunctionEnv_cells S.kind (fun ⟨n, v⟩ hy => ?_) fun env he s1 z => ?_
  · have hn := S.par n (List.of_mem_zip hy).1
    exact hn.imp id fun q => ⟨q, PySem.W.cellsFrom_some _ _ _ (.inl q)⟩
  · subst he
    obtain ⟨t, ht, hq⟩ := body_sp (X := cxOf (L2.CX P w) P w K mg base N qual scope f cdv A outer s H E) (fun a0 => hbody cdv A outer s H E a0 (hr.deeper _) hg) hsp
    refine ⟨(e0.mod.nolimit.keeps fun b o e => (e0.bs b o e).1).keeps z.toInCall.keep, codeAny_func ?_⟩
    have I := inv_start (CX := L2.CX P w) (E := E) S hr.hd e0 hlen r z
    refine wpAny_mono (ht.run [] s1 (start N vs) H _ I hq) (fun fl s' h => ?_) fun e s' h => h
    have done : ∀ {σ' : L2.St} {H' : Hp} {v : V} {u : Value}, Inv (cxOf (L2.CX P w) P w K mg base N qual scope f cdv A outer s H E) [] σ' H' s' → RelV v u → Q v H' → CE outer P w H s Q u s' :=
      fun J rv q => ⟨_, _, J.os, J.bare, J.base, J.hok, rv, q⟩
    match fl, h with
    | .ret u, h =>
      obtain ⟨v, σ', H', J, rv, q⟩ := h
      exact done J rv q
    | .next, h =>
      obtain ⟨σ', H', J, q⟩ := h
      exact done (v := V.non) (u := Value.none) J rfl q
    | .brk, h =>
      obtain ⟨_, _, _, q⟩ := h
      exact q.elim
    | .cont, h =>
      obtain ⟨_, _, _, q⟩ := h
      exact q.elim
end
/-! ### the law's call, where nothing guards -/
/-- the script as the only tracked thing, if it is no object of the written part -/
def scrH (K : PySem.W.Frag) (a : Addr) (ob : Obj) (xs : List V) : Hp := fun b => if b = a ∧ K.lookup a = none then some (.frz ob (.lst xs)) else none
theorem scrH_some {K : PySem.W.Frag} {a b : Addr} {ob : Obj} {xs : List V} {u : HO} (h : scrH K a ob xs b = some u) : b = a ∧ K.lookup a = none ∧ u = .frz ob (.lst xs) := by
  unfold scrH at h
  split at h
  · rename_i c
    cases h
    exact ⟨c.1, c.2, rfl⟩
  · cases h
theorem scrH_no {K : PySem.W.Frag} {a b : Addr} {ob : Obj} {xs : List V} (h : ¬ (b = a ∧ K.lookup a = none)) : scrH K a ob xs b = none := if_neg h
theorem law_callG {P : Program} {w : World} {K : PySem.W.Frag} {mg mb : Str → Option Value} {CX : CXT} {k : Nat} {fa a : Addr} {fd : FuncData} {x : Str} {sp : Sp} {s₁ : Shared} {vs : List Value} {ns : List Int}
    (KX : K.In s₁.heap) (hns : s₁.heap.Ns mainGlobals mg) (hb : s₁.heap.Ns builtinsNs mb) (hbb : ∀ x : Str, x ≠ "__name__" → mb x = bootBuiltins x) (hlim : s₁.heap.NoLimit) (hg : s₁.gens = #[])
    (ha : s₁.heap.get? a = some { cls := .type "list", data := .seq vs.toArray }) (hi : IntsAre vs ns) (hl : ns.length ≤ sizeLine) (hr : Room k callerA)
    (F : ∀ base : Heap, K.In base → base.Ns mainGlobals mg → FnGd P w K mg base CX k fa fd [x] sp) (hbind : ∀ (s : Shared) (u : Value), BindsTo s fd ⟨[u], []⟩ [(x, u)])
    (hsp : ∀ H : Hp, SqL K H a (ns.map V.int) → sp [.ref a] H (fun v _ => v = .bl true) fun _ _ _ => False)
    (hCX : ∀ H e s', CX [] H s₁ (fun _ _ _ => False) e s' → False) :
    codeAny (model P w) callerA (.call (.ref fa) ⟨[.ref a], []⟩) (fun r s' => r = .ok (.ret (.bool true)) ∧ OldK s₁.heap s'.heap ∧ s'.os = s₁.os ∧ AllBare s'.gens) s₁ := by
  have hlen := hi.length
  have hv := vals_ints hi
  generalize hH : scrH K a { cls := .type "list", data := .seq vs.toArray } (ns.map V.int) = H
  have tr : ∀ {b : Addr} {u : HO}, H b = some u → b = a ∧ K.lookup a = none ∧ u = .frz { cls := .type "list", data := .seq vs.toArray } (.lst (ns.map V.int)) := fun {b u} q => scrH_some (by rw [hH]; exact q)
  have out : ∀ {b : Addr} {o : Obj}, s₁.heap.get? b = some o → (∀ q : o = { cls := .type "list", data := .seq vs.toArray }, K.lookup a ≠ none) → H b = none := fun {b o} e q => by
    cases hb : H b with
    | none => rfl
    | some u =>
      obtain ⟨rfl, h2, _⟩ := tr hb
      rw [ha] at e
      cases e
      exact absurd h2 (q rfl)
  have inK : K.In (hidT s₁.heap H) := fun b o e => hidT_get (KX b o e) (by
    cases hb : H b with
    | none => rfl
    | some u =>
      obtain ⟨rfl, h2, _⟩ := tr hb
      rw [h2] at e
      cases e)
  have inN : ∀ {b : Addr} {m : Str → Option Value}, s₁.heap.Ns b m → (hidT s₁.heap H).Ns b m := fun {b m} ⟨o, es, ep, e, d, r⟩ => ⟨o, es, ep, hidT_get e (out e fun q => by rw [q] at d; cases d), d, r⟩
  have ok : HOk P w H s₁.heap := fun b u q => by
    obtain ⟨rfl, _, rfl⟩ := tr q
    exact ⟨ha, by rw [List.length_map]; exact hl, vs, _, hv, ha⟩
  have hS : SqL K H a (ns.map V.int) := by
    cases hk : K.lookup a with
    | none => exact .inl (.inr ⟨{ cls := .type "list", data := .seq vs.toArray }, by rw [← hH]; exact if_pos ⟨rfl, hk⟩⟩)
    | some o =>
      have e := KX a o hk
      rw [ha] at e
      cases e
      exact .inr ⟨_, vs.toArray, _, hk, rfl, rfl, rfl, by rw [List.size_toArray, hlen]; exact hl, by simpa using hv⟩
  have md : Mod K mg (hidT s₁.heap H) := by
    obtain ⟨mc, h1, h2⟩ := hlim
    exact ⟨inK, inN hns, ⟨mb, inN hb, hbb⟩, mc, inN h1, h2⟩
  have no : ∀ b : Addr, b ∉ frs ([] : List Env) := fun b z => absurd (show b ∈ ([] : List Addr) from z) (by simp)
  have e0 : Env0 P w K mg (hidT s₁.heap H) callerA [] s₁ H := ⟨rfl, md, fun b o e => of_hidT e, Nat.le_of_eq (hidT_size _ _), trivial, fun b z => absurd z (no b), ok, .of_eq hg⟩
  refine codeAny_mono ((F _ inK (inN hns)).run callerA [] s₁ H ⟨[.ref a], []⟩ [.ref a] [.ref a] _ _ hr rfl e0 (hbind s₁ (.ref a)) (.cons rfl .nil) (hsp H hS)) fun r s' h => ?_
  match r, h with
  | .error e, h => exact (hCX H e s' h).elim
  | .ok .next, h => exact h.elim
  | .ok .brk, h => exact h.elim
  | .ok .cont, h => exact h.elim
  | .ok (.ret u), h =>
    obtain ⟨v, H', os, bare, un, hok', rv, q⟩ := h
    have q : v = .bl true := q
    subst q
    obtain rfl : u = Value.bool true := rv
    refine ⟨rfl, OldK.of_keep fun b o e => ?_, os, bare⟩
    cases hb : H b with
    | none => exact un.keep b o e hb (no b) (by simp)
    | some t =>
      obtain ⟨_, _, rfl⟩ := tr hb
      obtain ⟨e1, _⟩ := ok b _ hb
      obtain ⟨e2, _⟩ := hok' b _ (un.frzs b _ _ hb)
      rw [e] at e1
      cases e1
      exact e2
theorem walk_WG {l : PySem.W.OpenLaw} {n k : Nat} {q : Program} {loose : List Str} {XP : (Str → Option Value) → Heap → Prop} {YP : World → Heap → Prop} {d : DefRec} {CX : World → CXT} {x : Str}
    (hn : l.most = some n) (hn2 : n ≤ sizeLine) (hdf : d.params.defaults = []) (hr : Room k callerA)
    (F : ∀ (w : World) (mg : Str → Option Value) (fa : Addr) (h : Heap), YP w h → h.Ns mainGlobals mg → mg d.name = some (.ref fa) →
      ∃ (K : PySem.W.Frag) (fd : FuncData) (sp : Sp), K.In h ∧ (∀ (s : Shared) (u : Value), BindsTo s fd ⟨[u], []⟩ [(x, u)]) ∧
        (∀ (H : Hp) (a : Addr) (ns : List Int), ns.length ≤ n → SqL K H a (ns.map V.int) → sp [.ref a] H (fun v _ => v = .bl true) fun _ _ _ => False) ∧
        ∀ base : Heap, K.In base → base.Ns mainGlobals mg → FnGd l.prog w K mg base (CX w) k fa fd [x] sp)
    (hCX : ∀ (w : World) (H : Hp) (s : Shared) (e : Value) (s' : Shared), CX w [] H s (fun _ _ _ => False) e s' → False) :
    PySem.W.WalkO q loose XP YP l.row.toRowW d [] (fun f vs => PySem.call f vs) := by
  refine Att.attach_call hn hdf fun w s₀ s₁ mg mb fa o pm cd doc a vs ns G Y ho hd hcd hmg hobj hints hlen hg => ?_
  obtain ⟨K, fd, sp, KX, hb, hsp, hF⟩ := F w mg fa _ Y G.T.g hmg
  exact law_callG KX G.T.g G.T.b G.T.builtins G.T.nolimit hg hobj hints (Nat.le_trans hlen hn2) hr hF hb (fun H hS => hsp H a ns hlen hS) fun H e s' => hCX w H s₁ e s'
end DL
end

section
set_option Elab.async false
set_option linter.all false
set_option maxRecDepth 100000
set_option autoImplicit false
set_option maxHeartbeats 1000000
/-! DL48: repr of data where nothing guards. -/
namespace DL
open PySem PySem.Spec PyProof.Rows L2
def okP (d : D) : Bool := d.plain && d.showable && !d.hasDict && decide (d.depth ≤ 40) && decide (d.shown.length ≤ sizeLine)
def reprD (d : D) : Option Str := match d with
  | .str x => if (reprText x).length ≤ sizeLine then some (reprText x) else none
  | .list ds => if okP (.list ds) = true then some (PyData.shown (.list ds)) else none
  | .tuple ds => if okP (.tuple ds) = true then some (PyData.shown (.tuple ds)) else none
  | .dict [(.none, .int 0)] => some "{}"
  | d => reprS d
def rReprD (K : PySem.W.Frag) : List V → Hp → VK → Prop := fun xs H Q => rRepS xs H Q ∨ (∃ x, xs = [.str x] ∧ (reprText x).length ≤ sizeLine ∧ Q (.str (reprText x)) H) ∨
  (∃ a d, xs = [.ref a] ∧ Dp K H (.ref a) d ∧ okP d = true ∧ Q (.str d.shown) H) ∨ (∃ a, xs = [.ref a] ∧ H a = some (.dK []) ∧ Q (.str "{}") H)
theorem call_reprD {X : Cx} (hg : X.A.guards = some []) (hu : X.A.units + 64 < cLine) : CallR X (.builtin "repr") (rReprD X.K) := by
  intro pins s σ H xs us Q I r h
  rcases h with h | ⟨x, rfl, hz, q⟩ | ⟨a, d, rfl, hd, ok, q⟩ | ⟨a, rfl, ha, q⟩
  · exact call_reprS pins s σ H xs us Q I r h
  · cases r with
    | cons rx rn =>
      cases rn
      obtain ⟨t, rfl⟩ := rx
      exact PySem.P.repr_of_str ⟨.str _, H, I.tok _, ⟨_, rfl⟩, q⟩ hz
  · cases r with
    | cons rx rn =>
      cases rn
      cases rx
      simp only [okP, Bool.and_eq_true, decide_eq_true_eq, Bool.not_eq_true'] at ok
      obtain ⟨⟨⟨⟨h1, h2⟩, h3⟩, h4⟩, h5⟩ := ok
      obtain ⟨as, r1⟩ := Dp.reads I d (.ref a) (.ref a) hd rfl
      exact repr_of_reads' r1 h2 (fun z => by rw [h3] at z; cases z) hg (by omega) (fun b o e => e) (fun h' u tk hk => ⟨.str _, H, I.kept hk, ⟨_, rfl⟩, q⟩) h5
  · cases r with
    | cons rx rn =>
      cases rn
      cases rx
      obtain ⟨_, hs, vs, hv, o, es, ep, e1, ⟨e2, _⟩, e3, _, hp, _⟩ := I.hok a _ ha
      have hv0 : vs = [] := by cases hv; rfl
      subst hv0
      have hes : es.toList = [] := List.length_eq_zero_iff.mp (Pairs.length hp)
      have r1 : Reads s.heap (.ref a) (.dict []) (a :: [] ++ []) := .dict e1 e2 e3 (by rw [hes]; exact .nil) (by rw [hes]; exact .nil)
      exact repr_of_reads' r1 rfl (fun _ hm => by
        simp at hm
        rw [hm] at hs
        simp at hs) hg (by show X.A.units + (PyData.depth (.dict []) + 1) < cLine; simp only [PyData.depth, PyData.depthKv]; omega) (fun b o e => e) (fun h' u tk hk => ⟨.str _, H, I.kept hk, ⟨_, rfl⟩, q⟩) (by decide)
def reprDF (Γ : Gam) (vs : List Val) : R Val := match vs with
  | [.f d] => match reprD d with
    | some z => .ok (.f (.str z)) Γ
    | none => .stuck
  | _ => .stuck
theorem repr_S_only {M : Str → Addr} {F : Hp} {x : V} {d : D} {z : Str} (r : Rep M F x d) (h : reprS d = some z) : (x = .non ∧ z = "None") ∨ (∃ b, x = .bl b ∧ z = (if b then ("True" : Str) else "False")) ∨ ∃ i, x = .int i ∧ i.natAbs.log2 < 1920 ∧ z = toString i := by
  unfold reprS at h
  split at h
  · cases h; cases r; exact .inl ⟨rfl, rfl⟩
  · cases h; cases r; exact .inr (.inl ⟨_, rfl, rfl⟩)
  · split at h
    · rename_i hz
      cases h; cases r; exact .inr (.inr ⟨_, rfl, hz, rfl⟩)
    · cases h
  · cases h
theorem cs_reprD {M : Pm} : CallS M (rReprD M.K) reprDF := by
  intro E Γ σ F0 H0 own0 F H own xs as Q s st r p
  unfold reprDF at p
  split at p
  · rename_i d
    split at p
    · rename_i z hz
      cases r with
      | cons r1 rn =>
        cases rn
        rename_i x
        have r1' : Rep M.cls F x d := r1
        have fin : Q (.str z) H := post_now s st p (.str _)
        have sc : reprS d = some z → rRepS [x] H Q := fun h => by
          rcases repr_S_only r1' h with ⟨rfl, rfl⟩ | ⟨b, rfl, rfl⟩ | ⟨i, rfl, hi, rfl⟩
          · exact .inl ⟨rfl, fin⟩
          · exact .inr (.inl ⟨b, rfl, fin⟩)
          · exact .inr (.inr ⟨i, rfl, hi, fin⟩)
        have cont : ∀ {d' : D}, d' = d → (∃ ds, d' = .list ds ∨ d' = .tuple ds) → okP d' = true → z = d'.shown → rReprD M.K [x] H Q := fun {d'} e1 e2 ok e3 => by
          subst e1
          have pl : d'.plain = true := by
            simp only [okP, Bool.and_eq_true] at ok
            exact ok.1.1.1.1
          have hd : Dp M.K H x d' := view_dp (a := .f d') (Γ := Γ) s r1 rfl pl
          subst e3
          obtain ⟨ds, e2 | e2⟩ := e2
          · subst e2
            cases r1' with
            | lst h1 h2 => exact .inr (.inr (.inl ⟨_, _, rfl, hd, ok, fin⟩))
          · subst e2
            cases r1' with
            | tup h1 h2 => exact .inr (.inr (.inl ⟨_, _, rfl, hd, ok, fin⟩))
            | tupF h1 h2 h3 => exact .inr (.inr (.inl ⟨_, _, rfl, hd, ok, fin⟩))
        unfold reprD at hz
        split at hz
        · split at hz
          · rename_i h
            cases hz
            cases r1'
            exact .inr (.inl ⟨_, rfl, h, fin⟩)
          · cases hz
        · split at hz
          · rename_i h
            cases hz
            exact cont rfl ⟨_, .inl rfl⟩ h rfl
          · cases hz
        · split at hz
          · rename_i h
            cases hz
            exact cont rfl ⟨_, .inr rfl⟩ h rfl
          · cases hz
        · cases hz
          generalize ed : PyData.dict [(PyData.none, PyData.int 0)] = d at r1'
          cases r1' with
          | dcK h1 h2 h3 =>
            rename_i a kvs kds
            simp only [dicK, PyData.dict.injEq, List.cons.injEq] at ed
            have hk : kds = [] := by
              have := ed.2
              cases kds with
              | nil => rfl
              | cons _ _ => simp at this
            subst hk
            have hkv : kvs = [] := by
              cases kvs with
              | nil => rfl
              | cons _ _ => simp at h2
            subst hkv
            exact .inr (.inr (.inr ⟨a, rfl, s.fh _ _ h1, fin⟩))
          | _ => simp [dicF, dicT, dicG, exnD, knD, DL.ins] at ed
        · exact .inl (sc hz)
    · exact p.elim
  · exact p.elim
end DL
end

section
set_option Elab.async false
set_option linter.all false
set_option maxRecDepth 100000
set_option autoImplicit false
set_option maxHeartbeats 2000000
/-! DL49: exceptions made by keyword. -/
namespace DL
open PySem PySem.Spec PyProof.Rows L2
open PySem.HandSPX Builtin
section
variable {prog : Program} {w : World} {A : Around} {E : Value → Shared → Prop} {R : Result → Shared → Prop} {h : Heap} {g : Array GenState} {d : Drawn} {t : Nat} {os : OsState}
variable {nm q : Str} {C N : Addr} {bs bm bmB : List Value} {hdct : Bool} {sn : List Str} {sub : List Value} {ab : Bool} {col : Option Bool} {dd : Option Addr} {k0 k1 k2 k3 k5 : Option Value} {B newId initId : String}
theorem xk_check {M : Model} (F : ExcBaseFacts B newId initId bmB) (hT : ∀ X : String, bm.contains (.type X) = bmB.contains (.type X)) {rest : List Value} {kw : List (Str × Value)} {Q : Unit → Shared → Prop}
    (hC : h.get? C = some (excClassObj nm q C N bs bm hdct sn sub ab col dd k0 k1 k2 k3 k5 newId)) (hq : Q () ⟨h, g, d, t, os⟩) : wpAny M A (checkBuiltinCall newId ⟨.ref C :: rest, kw⟩) Q E ⟨h, g, d, t, os⟩ := by
  have hcont : (Value.ref C :: bm).contains (.type B) = true := by rw [List.contains_cons, hT, F.hasB, Bool.or_true]
  have hstar := F.noStar
  simp only [checkBuiltinCall, F.newKind, F.newSplit, F.newRow]
  repeat (first | refine wpAny_loadPart_at hC ?_ | (refine wpAny_isSubtype_exc hC ?_; rw [hcont]) | refine wpAny_staticBase_exc hC ?_ | refine wpAny_madeBy_exc hC ?_ | simp only [bne_self_eq_false, Bool.false_eq_true, if_false] | wp_step)
  exact hq
theorem xk_new (F : ExcBaseFacts B newId initId bmB) (hT : ∀ X : String, bm.contains (.type X) = bmB.contains (.type X)) {rest : List Value} {kw : List (Str × Value)}
    (hC : h.get? C = some (excClassObj nm q C N bs bm hdct sn sub ab col dd k0 k1 k2 k3 k5 newId))
    (hq : R (.ok (.ret (.ref (h.objs.size + 1)))) ⟨(h.push { cls := .type "tuple", data := .seq rest.toArray }).push
      { cls := .ref C, data := .fields #[.ref h.objs.size, .none, .none, .none, .bool false, .none] }, g, d, t, os⟩) (hrest : rest.length ≤ sizeLine) :
    codeAny (model prog w) A (.builtin newId ⟨.ref C :: rest, kw⟩) R ⟨h, g, d, t, os⟩ := by
  have hends := F.ends
  have hcB : (Value.ref C :: bm).contains (.type B) = true := by rw [List.contains_cons, hT, F.hasB, Bool.or_true]
  have hcA : (Value.ref C :: bm).contains (.type "AttributeError") = false := by rw [List.contains_cons, hT, F.noAttr]; rfl
  have hcN : (Value.ref C :: bm).contains (.type "NameError") = false := by rw [List.contains_cons, hT, F.noName]; rfl
  refine codeAny_builtinAt F.entry ?_
  unfold Builtin.«BaseException.__new__»
  refine PySem.wpAt_bind ?_
  show PySem.wpAt _ _ _ (stack >>= _) _ _ _
  refine PySem.wpAt_bind (PySem.wpAt_stack fun p below => PySem.wpAt_of_wpAny ?_)
  wp_walk
  refine PySem.wpAt_of_wpAny ?_
  rw [F.owner]
  repeat (first | with_reducible refine wpAny_madeHere_exc F.canon hC ?_ | with_reducible refine wpAny_loadPart_at hC ?_ | (with_reducible refine wpAny_isSubtype_exc hC ?_; first | rw [hcB] | rw [hcA] | rw [hcN]) | wp_step)
  show R _ _
  rw [Heap.size_push]
  exact hq
theorem xk_type (F : ExcBaseFacts B newId initId bmB) (hT : ∀ X : String, bm.contains (.type X) = bmB.contains (.type X)) {rest : List Value} {kw : List (Str × Value)} {fI : Addr} {Q : Fin → Shared → Prop}
    (hC : h.get? C = some (excClassObj nm q C N bs bm hdct sn sub ab col dd k0 k1 k2 k3 k5 newId))
    (hi : PySem.W.Looks (model prog w) h (typeLookup (.ref C) "__init__") (some (.ref fI))) (hb : ∀ self, PySem.W.Looks (model prog w) h (bindSpecial (.ref fI) self) (.ref fI, [self])) (hrest : rest.length ≤ sizeLine)
    (hq : codeAny (model prog w) A (.call (.ref fI) ⟨.ref (h.objs.size + 1) :: rest, kw⟩)
      (fun r s' => match r with | .ok (.ret v) => v = .none ∧ Q (.done (.ret (.ref (h.objs.size + 1)))) s' | .ok _ => False | .error e => E e s')
      ⟨(h.push (PySem.W.kdv_tup rest)).push (excO C h.objs.size), g, d, t, os⟩) :
    wpAny (model prog w) A (Builtin.«type.__call__» ⟨.ref C :: rest, kw⟩) Q E ⟨h, g, d, t, os⟩ := by
  repeat (first | with_reducible refine wpAny_loadPart_at hC ?_ | with_reducible refine wpAny_madeBy_exc hC ?_ | wp_step)
  refine codeAny_call_builtin_code (Code.quiet_builtin _ F.quiet) (xk_check F hT hC ?_)
  refine xk_new F hT hC ?_ hrest
  show wpAny _ _ _ _ _ _
  have k : ∀ b o, h.get? b = some o → ((h.push (PySem.W.kdv_tup rest)).push (excO C h.objs.size)).get? b = some o := fun b o e => Heap.get?_push_of_some _ (Heap.get?_push_of_some _ e)
  have hC₁ := k _ _ hC
  have hget : ((h.push (PySem.W.kdv_tup rest)).push (excO C h.objs.size)).get? (h.objs.size + 1) = some (excO C h.objs.size) := by heap_get
  have hcC : (Value.ref C :: bm).contains (.ref C) = true := by simp
  have i1 := hi.keeps k
  have b1 := (hb (.ref (h.objs.size + 1))).keeps k
  unfold isInstance
  repeat (first | with_reducible refine wpAny_loadPart_at hget ?_ | (with_reducible refine wpAny_isSubtype_exc hC₁ ?_; rw [hcC]) | wp_step)
  show wpAny _ _ (typeLookup (.ref C) _) _ _ _
  refine i1.at ?_
  refine wpAny_holding (wpAny_bind (b1.at ?_))
  refine wpAny_bind (wpAny_call (codeAny_mono hq fun r s' z => ?_))
  rcases r with e | (v | _ | _ | _) <;> first | exact z | exact z.elim | skip
  obtain ⟨rfl, z⟩ := z
  first
    | exact wpAny_pure (wpAny_pure z)
    | (wp_walk; exact z)
theorem xk_call (F : ExcBaseFacts B newId initId bmB) (hT : ∀ X : String, bm.contains (.type X) = bmB.contains (.type X)) {rest : List Value} {kw : List (Str × Value)} {fI : Addr}
    (hC : h.get? C = some (excClassObj nm q C N bs bm hdct sn sub ab col dd k0 k1 k2 k3 k5 newId))
    (hi : PySem.W.Looks (model prog w) h (typeLookup (.ref C) "__init__") (some (.ref fI))) (hb : ∀ self, PySem.W.Looks (model prog w) h (bindSpecial (.ref fI) self) (.ref fI, [self])) (hrest : rest.length ≤ sizeLine)
    (hq : codeAny (model prog w) (A.under (.builtin "type.__call__" ⟨.ref C :: rest, kw⟩)) (.call (.ref fI) ⟨.ref (h.objs.size + 1) :: rest, kw⟩) (PySem.W.InitBack (h.objs.size + 1) R)
      ⟨(h.push (PySem.W.kdv_tup rest)).push (excO C h.objs.size), g, d, t, os⟩) :
    codeAny (model prog w) A (.call (.ref C) ⟨rest, kw⟩) R ⟨h, g, d, t, os⟩ := by
  have f1 := tc_lookup
  have f2 := tc_bind (.ref C)
  have hTy : (⟨h, g, d, t, os⟩ : Shared).TypeIs (.ref C) "type" := ⟨_, hC, rfl⟩
  refine codeAny_of_tree ?_
  show wpAny _ _ (callAny (.ref C) _) _ _ _
  repeat (any_goals (first | assumption | with_reducible refine wpAny_loadPart_at hC ?_ | wp_step))
  refine ⟨rfl, ?_⟩
  refine codeAny_call_builtin_at (Code.quiet_builtin _ (by decide +kernel)) entry_typeCall (wpAny_check_type_call_sub hC (xk_type F hT hC hi hb hrest ?_))
  refine codeAny_mono hq fun r s' z => ?_
  rcases r with e | (v | _ | _ | _) <;> exact z
end
end DL
end

section
set_option Elab.async false
set_option linter.all false
set_option maxRecDepth 100000
set_option autoImplicit false
set_option maxHeartbeats 2000000
/-! DL50: C(f = e) of an exception class. -/
namespace DL
open PySem PySem.Spec PyProof.Rows L2
theorem initB_kw {K : PySem.W.Frag} {C : Addr} {f par : Str} {fd : FuncData} (hp : ParOk par) (h : initB K C f par fd = true) : ∀ u0 u1 : Value, bindArgs fd ⟨[u0], [(par, u1)]⟩ = pure [(("self" : Str), u0), (par, u1)] := by
  obtain ⟨name, qual, params, body, scope, glob, clo, dV, kV, doc, pm, an, code, ct, blt⟩ := fd
  unfold initB at h
  dsimp only at h
  split at h
  · simp only [Bool.and_eq_true, decide_eq_true_eq] at h
    obtain ⟨⟨⟨⟨⟨⟨⟨⟨⟨⟨⟨⟨⟨⟨rfl, rfl⟩, rfl⟩, rfl⟩, rfl⟩, rfl⟩, rfl⟩, rfl⟩, rfl⟩, rfl⟩, hc⟩, hf⟩, hq⟩, hs⟩, hl⟩ := h
    intro u0 u1
    rcases hp with rfl | rfl | rfl | rfl <;> rfl
  · cases h
/-- such a class, whose __init__ takes its parameter by name, too -/
structure ExcQ (P : Program) (w : World) (K : PySem.W.Frag) (mg : Str → Option Value) (base : Heap) (cls : Str → Addr) (c f par : Str) : Prop where
  k : ExcK P w K mg base cls c f
  D : ∃ B newId initId bmB fI fd, ExcD K B newId initId bmB (cls c) f par fI fd ∧ FnOk P w K mg base (L2.CX P w) 1 fI fd ["self", par] (spE (cls c) f) ∧ ∀ u0 u1 : Value, bindArgs fd ⟨[u0], [(par, u1)]⟩ = pure [(("self" : Str), u0), (par, u1)]
theorem excB_okQ {P : Program} {w : World} {K : PySem.W.Frag} {h base : Heap} {mg : Str → Option Value} {B newId initId : String} {bmB : List Value} {c f par : Str} (X : K.In h) (G : h.Ns mainGlobals mg) (hP : PrgOk P) (b : BaseOk B newId initId bmB) (hp : ParOk par)
    (e : excB K B newId initId bmB c f par = true) : ExcQ P w K mg base (He.ga K) c f par := by
  refine ⟨excB_ok X G hP b hp e, ?_⟩
  simp only [excB, oB, Bool.and_eq_true, decide_eq_true_eq] at e
  obtain ⟨⟨⟨⟨⟨⟨⟨⟨⟨⟨⟨⟨⟨⟨⟨h1, h2⟩, h3⟩, h4⟩, h5⟩, h6⟩, h7⟩, h8⟩, h9⟩, h10⟩, h11⟩, h12⟩, h13⟩, h14⟩, h15⟩, h16⟩ := e
  unfold fdInit at h8
  cases lk : K.lookup (fInit K (He.ga K c)) with
  | none =>
    rw [lk] at h8
    cases h8
  | some o =>
    obtain ⟨oc, od, dt, osl⟩ := o
    rw [lk] at h8
    cases dt with
    | func fd =>
      obtain ⟨hex, _⟩ := initB_ok lk hp (show initB K (He.ga K c) f par fd = true from h8)
      have D : ExcD K B newId initId bmB (He.ga K c) f par (fInit K (He.ga K c)) fd := ⟨oexBB_ok b h1, b.KF, h2, h3, h4, h5, h6, h7, by rcases hp with rfl | rfl | rfl | rfl <;> decide, by rcases hp with rfl | rfl | rfl | rfl <;> decide, by rcases hp with rfl | rfl | rfl | rfl <;> decide, hex⟩
      exact ⟨B, newId, initId, bmB, _, fd, D, exc_fn D hP.1 hP.2 (PySem.W.mg_none_of X G h16), initB_kw hp (show initB K (He.ga K c) f par fd = true from h8)⟩
    | _ => cases h8
section
variable {X : Cx} {cls : Str → Addr} {c f par : Str} {pins : List (Addr × Obj)} {σ : L2.St} {H1 : Hp} {s1 : Shared}
theorem call_exBK (EK : ExcQ X.prog X.w X.K X.mg X.base cls c f par) (hr : Room 2 X.A) {x : V} {ux : Value} (I1 : Inv X pins σ H1 s1) (rx : RelV x ux) {Q' : Value → Shared → Prop}
    (h : ∀ (a d : Addr) (hp hp2 h2 : Heap) (g1 g2 : Array GenState) (d1 d2 : Drawn) (t1 t2 : Nat) (os1 os2 : OsState), s1 = ⟨hp, g1, d1, t1, os1⟩ → hp.objs.size ≤ a → (∀ b o, hp.get? b = some o → hp2.get? b = some o) → H1 a = none → H1 d = none → d ≠ a →
      Inv X pins σ (upd H1 a (exo a (cls c) none)) ⟨hp2, g1, d1, t1, os1⟩ → Un (frs X.stack) [] (upd H1 a (exo a (cls c) none)) (exH H1 a d (cls c) f x) hp2 h2 → HOk X.prog X.w (exH H1 a d (cls c) f x) h2 → os2 = os1 → AllBare g2 → Q' (.ref a) ⟨h2, g2, d2, t2, os2⟩) :
    wpAny (model X.prog X.w) X.A (call (.ref (cls c)) [] [(par, ux)]) Q' X.xe s1 := by
  obtain ⟨B, newId, initId, bmB, fI, fd, ED, F1, hbw⟩ := EK.D
  obtain ⟨nm, q, N, bs, bm, sn, sub, ab, col, dd, k0, k1, k2, k3, k5, hC, hT, _⟩ := ED.T.cls
  obtain ⟨hp, g, dr, tk, os⟩ := s1
  have hsz : hp.objs.size ≤ hp.objs.size + 1 := Nat.le_succ _
  have kk : ∀ b o, hp.get? b = some o → ((hp.push (PySem.W.kdv_tup [])).push (PySem.HandSPX.excO (cls c) hp.objs.size)).get? b = some o := fun b o e => Heap.get?_push_of_some _ (Heap.get?_push_of_some _ e)
  have hget : ((hp.push (PySem.W.kdv_tup [])).push (PySem.HandSPX.excO (cls c) hp.objs.size)).get? (hp.objs.size + 1) = some (PySem.HandSPX.excO (cls c) hp.objs.size) := by heap_get
  have I2 : Inv X pins σ (upd H1 (hp.objs.size + 1) (exo (hp.objs.size + 1) (cls c) none)) ⟨(hp.push (PySem.W.kdv_tup [])).push (PySem.HandSPX.excO (cls c) hp.objs.size), g, dr, tk, os⟩ :=
    I1.laid (t' := tk) (a := hp.objs.size + 1) (o := exo (hp.objs.size + 1) (cls c) none) (h' := (hp.push (PySem.W.kdv_tup [])).push (PySem.HandSPX.excO (cls c) hp.objs.size)) kk hsz (exo_ok hget)
  have r2 : Vals [V.ref (hp.objs.size + 1), x] [Value.ref (hp.objs.size + 1), ux] := .cons rfl (.cons rx .nil)
  have hq : spE (cls c) f [.ref (hp.objs.size + 1), x] (upd H1 (hp.objs.size + 1) (exo (hp.objs.size + 1) (cls c) none)) (fun v H2 => v = .non ∧ ∃ d, H1 d = none ∧ d ≠ hp.objs.size + 1 ∧ H2 = exH H1 (hp.objs.size + 1) d (cls c) f x) (fun _ _ _ => False) := by
    refine ⟨_, _, rfl, upd_same, fun dx h1 h2 => ⟨rfl, dx, ?_, h2, rfl⟩⟩
    rw [upd_ne h2] at h1
    exact h1
  refine wpAny_call (xk_call (rest := []) (kw := [(par, ux)]) ED.T.F hT (I1.kIn _ _ hC) (PySem.W.looks_findIn I1.kIn ED.iC) (fun self => PySem.W.bind_fn I1.kIn self ED.tI) (Nat.zero_le _)
    (codeAny_mono (F1.run _ X.stack _ _ ⟨[Value.ref (hp.objs.size + 1)], [(par, ux)]⟩ [Value.ref (hp.objs.size + 1), ux] _ _ (fun _ _ _ => False) (hr.make (cls c) [] [(par, ux)]) (I2.env0.make (cls c) [] [(par, ux)]) (BindsTo.of_looks fun M => PySem.W.Looks.of_pure (hbw _ _)) r2 hq) fun r s' hq' => ?_))
  cases r with
  | error er =>
    obtain ⟨_, _, _, _, _, _, _, _, _, _, _, _, z⟩ := hq'
    exact z.elim
  | ok fl =>
    cases fl with
    | ret u =>
      obtain ⟨v, H2, os2, bare2, un2, hok2, rv, ev, d, hd1, hd2, e2⟩ := hq'
      subst ev
      subst e2
      obtain ⟨h2, g2, d2, t2, os'⟩ := s'
      exact ⟨rv, h _ d hp _ h2 g g2 dr d2 tk t2 os os' rfl hsz kk (I1.hok.fresh hsz) hd1 hd2 I2 un2 hok2 os2 bare2⟩
    | next => exact False.elim hq'
    | brk => exact False.elim hq'
    | cont => exact False.elim hq'
/-- C(f = e) as a value -/
theorem pe_mkEK {e : Expr} {te : TE} {p pos kpos : Pos} (EK : ExcQ X.prog X.w X.K X.mg X.base cls c f par) (hr : Room 2 X.A) (hg : Gl X c) (ha : PE X e te)
    (hall : (backToKw pos (keywordEach [⟨some par, e, kpos⟩] X.env)).all (·.1.isSome) = true := by rfl) (hks : (backToKw pos (keywordEach [⟨some par, e, kpos⟩] X.env)).filterMap (·.1) = [par] := by rfl) (hdb : (c == ("__debug__" : Str)) = false := by decide)
    (hpl : ((backTo pos (starEach [] X.env)).any (·.1) || (backToKw pos (keywordEach [⟨some par, e, kpos⟩] X.env)).any (·.1.isNone)) = false := by rfl) :
    PE X (.Call (.Name c p) [] [⟨some par, e, kpos⟩] pos) (fun σ H Q => te σ H fun x H1 => ∀ a d, H1 a = none → H1 d = none → a ≠ d → Q (.ref a) (upd (upd H1 d (.xd [(f, x)])) a (exg a (cls c) d))) := by
  refine ⟨fun pins s σ H Q I h => ?_⟩
  have hk : PySem.W.keepIn X.K (.ref (cls c)) = true := by
    obtain ⟨B, newId, initId, bmB, fI, fd, ED, _⟩ := EK.D
    exact ED.T.kC
  have h' : tCons te tNil σ H (fun xs H1 => match xs with | [x] => ∀ a d, H1 a = none → H1 d = none → a ≠ d → Q (.ref a) (upd (upd H1 d (.xd [(f, x)])) a (exg a (cls c) d)) | _ => False) := h
  refine wpAny_Call_Name_kw (ld_glob I hg EK.k.gl ?_ hdb)
  refine PySem.W.callWith_KW0 (h₀ := X.base) I.ok.mod.kin hk hall ?_ hpl
  refine thn ((pk_cons ha pk_nil).run pos pins s σ H _ I h') fun us s1 ⟨vs, H1, I1, r1, q1⟩ => ⟨I1.kIn, ?_⟩
  rw [hks]
  cases vs with
  | nil => exact q1.elim
  | cons x vs' =>
  cases vs' with
  | cons _ _ => exact q1.elim
  | nil =>
  cases r1 with
  | @cons _ ux _ _ rx rn =>
    cases rn
    show wpAny _ _ (call (.ref (cls c)) [] [(par, ux)]) _ _ _
    refine call_exBK EK hr I1 rx fun a d hp hp2 h2 g1 g2 d1 d2 t1 t2 os1 os2 es hsz kk ha hd hda I2 un hok ho hb => ?_
    subst es
    have J := I2.call (g' := g2) (d' := d2) (t' := t2) (ch := []) un hok hb (fun _ z => nomatch z)
    have ea : exH H1 a d (cls c) f x a = some (exo a (cls c) (some d)) := upd_same
    have ed : exH H1 a d (cls c) f x d = some (exd d [(f, x)]) := (upd_ne hda).trans upd_same
    obtain ⟨t0, hoe⟩ := exo_at J.hok ea
    obtain ⟨mA, hns, rel⟩ := exd_at J.hok ed
    have J1 := J.write (t' := t2) (h' := h2) (x := a) (e := a) (o := exg a (cls c) d) (by rw [ea]; exact True.intro) (.inl rfl) (fun _ _ _ z => z) ⟨_, hoe⟩ ⟨⟨_, _, hoe⟩, ⟨_, hoe⟩, fun h1 h2 ⟨fv, sl, z⟩ k => ⟨fv, sl, k _ z⟩⟩
    obtain ⟨od, _, _, hod, _⟩ := id hns
    have ed1 : upd (exH H1 a d (cls c) f x) a (exg a (cls c) d) d = some (exd d [(f, x)]) := by rw [upd_ne hda, ed]
    have J2 := J1.write (t' := t2) (h' := h2) (x := d) (e := d) (o := .xd [(f, x)]) (by rw [ed1]; exact True.intro) (.inl rfl) (fun _ _ _ z => z) ⟨_, hod⟩ ⟨mA, hns, rel⟩
    have eH : upd (upd (exH H1 a d (cls c) f x) a (exg a (cls c) d)) d (.xd [(f, x)]) = upd (upd H1 d (.xd [(f, x)])) a (exg a (cls c) d) := by
      funext b
      by_cases h1 : b = d
      · rw [h1, upd_same, upd_ne hda, upd_same]
      · rw [upd_ne h1]
        by_cases h2 : b = a
        · rw [h2, upd_same, upd_same]
        · rw [upd_ne h2, upd_ne h2, upd_ne h1]
          show upd (upd (upd H1 a _) d _) a _ b = _
          rw [upd_ne h2, upd_ne h1, upd_ne h2]
    rw [eH] at J2
    obtain rfl : os2 = os1 := ho
    exact ⟨.ref a, _, J2, rfl, q1 a d ha hd (Ne.symm hda)⟩
theorem e_mkXK {a0 : Option Addr} {E : XK} {e : Expr} {me : Gam → R Val} {p pos kpos : Pos} (EK : ExcQ X.prog X.w X.K X.mg X.base cls c f par) (hr : Room 2 X.A) (hg : Gl X c) (ha : PE X e (tE ⟨X.K, cls, a0⟩ E me))
    (hall : (backToKw pos (keywordEach [⟨some par, e, kpos⟩] X.env)).all (·.1.isSome) = true := by rfl) (hks : (backToKw pos (keywordEach [⟨some par, e, kpos⟩] X.env)).filterMap (·.1) = [par] := by rfl) (hdb : (c == ("__debug__" : Str)) = false := by decide)
    (hpl : ((backTo pos (starEach [] X.env)).any (·.1) || (backToKw pos (keywordEach [⟨some par, e, kpos⟩] X.env)).any (·.1.isNone)) = false := by rfl) :
    PE X (.Call (.Name c p) [] [⟨some par, e, kpos⟩] pos) (tE ⟨X.K, cls, a0⟩ E (mkX c f me)) :=
  PE_weak (pe_mkEK EK hr hg (pe_fz ha) hall hks hdb hpl) fun σ H Q ⟨Γ, F, own, s, q⟩ =>
    ⟨Γ, F, own, s, post_bind q fun F1 H1 own1 Γ1 x d _ st1 s1 r1 p1 => fun a dd h1 h2 h3 => by
      obtain ⟨g, r⟩ := exn_new (M := ⟨X.K, cls, a0⟩) (c := c) (f := f) st1 h1 h2 h3 r1
      exact p1 _ _ _ _ (st1.grow g) (s1.trans (g.step own1)) r⟩
end
end DL
end

section
set_option Elab.async false
set_option linter.all false
set_option maxRecDepth 100000
set_option autoImplicit false
set_option maxHeartbeats 1000000
/-! DL51: isinstance(C(), T) of an exception class without own __init__; facts for isinstance of exceptions. -/
namespace DL
open PySem PySem.Spec PyProof.Rows L2
/-- what a caller takes of such a class -/
structure ExN (K : PySem.W.Frag) (mg : Str → Option Value) (cls : Str → Addr) (c : Str) : Prop where
  gl : mg c = some (.ref (cls c))
  ex : ∃ (B newId initId : String) (bmB : List Value), ExcBaseFacts B newId initId bmB ∧ PySem.W.excIn K (cls c) bmB newId = true
  kp : PySem.W.keepIn K (.ref (cls c)) = true
  as : ExcC K (cls c)
section
variable {X : Cx} {M : Pm} {E : XK} {c : Str} {ce : Expr} {p p2 pos pos2 : Pos} {cv : Value} {b : Bool} {v : V}
theorem pe_new0 (N : ExN X.K X.mg M.cls c) (hg : Gl X c) (hdb : (c == ("__debug__" : Str)) = false := by decide) :
    PE X (.Call (.Name c p2) [] [] pos2) (fun _ H Q => ∀ a, H a = none → Q (.ref a) (upd H a (exo a (M.cls c) none))) := by
  refine ⟨fun pins s σ H Q I h => ?_⟩
  obtain ⟨B, newId, initId, bmB, F, q⟩ := N.ex
  refine wpAny_Call_Name_kw (ld_glob I hg N.gl ?_ hdb)
  refine PySem.W.callWith_K0 I.kIn N.kp ?_
  obtain ⟨bm, Nn, nm, qn, bs, hdct, sn, sub, ab, col, dd, k0, k1, k2, k3, k5, mN, hC, hN, hni, T⟩ := exc_obj I.kIn q
  obtain ⟨hp, g, d, t, os⟩ := s
  refine wpAny_call_exc_subT F T hC hN hni (fun h' e hm => ?_) (Nat.zero_le _)
  obtain ⟨t0, he, _, _⟩ := hm.there
  have na := I.hok.gone hm.new
  exact ⟨.ref e, _, I.laidN (t' := t) hm.keeps hm.new na (exo_ok he), rfl, h e na⟩
theorem call_isNew (N : ExN X.K X.mg M.cls c) (hI : PySem.W.kitOne X.K (.ref (M.cls c)) cv = some b) :
    CallR X (.builtin "isinstance") (fun xs H Q => ∃ (a : Addr) (v : V), xs = [.ref a, v] ∧ (∀ u, RelV v u → u = cv) ∧ H a = some (exo a (M.cls c) none) ∧ Q (.bl b) H) := by
  intro pins s σ H xs us Q I r h
  obtain ⟨a, v, rfl, hcv, h1, q⟩ := h
  cases r with
  | cons rx rr =>
    cases rr with
    | cons rt rr =>
      cases rr
      cases rx
      have ec := hcv _ rt
      subst ec
      obtain ⟨t1, ho⟩ := exo_at I.hok h1
      exact PySem.W.kia_one (kitx_exn (od := none) N.as) I.kIn ⟨ho, rfl, rfl, trivial⟩ hI (fun z => nomatch z) fun tk => ⟨.bl b, H, I.kept (t' := tk) fun _ _ z => z, rfl, q⟩
theorem e_isNew (hK : X.K = M.K) (N : ExN X.K X.mg M.cls c) (hI : PySem.W.kitOne X.K (.ref (M.cls c)) cv = some b) (hgc : Gl X c) (hg : Gl X "isinstance") (hm : X.mg "isinstance" = none) (hc : PE X ce (tC v)) (hcv : ∀ u, RelV v u → u = cv) (hdb : (c == ("__debug__" : Str)) = false := by decide)
    (h1 : starEach [.Call (.Name c p2) [] [] pos2, ce] X.env = (false, eval (.Call (.Name c p2) [] [] pos2) X.env) :: starEach [ce] X.env := by rfl) (h2 : starEach [ce] X.env = (false, eval ce X.env) :: starEach [] X.env := by rfl) (hpl : (backTo pos (starEach [ce] X.env)).any (·.1) = false := by rfl) :
    PE X (.Call (.Name "isinstance" p) [.Call (.Name c p2) [] [] pos2, ce] [] pos) (tE M E (constM (.bool b))) :=
  PE_weak (pe_callB (call_isNew N hI) hg hm (by kernel_rfl) (pa_cons (pe_new0 N hgc hdb) (pa_cons hc pa_nil h2) h1) (by decide) (by decide) h1 hpl) fun σ H Q q => by
    obtain ⟨Γ, F, own, st, q⟩ := q
    intro a na
    refine ⟨a, v, rfl, hcv, upd_same, ?_⟩
    have g : Grow F H (upd F a (exo a (M.cls c) none)) (upd H a (exo a (M.cls c) none)) := .new st.fh na
    exact q _ _ _ _ (st.grow g) (g.step own) (.bl b)
end
/-! ### facts, by Bool checks -/
def askB (K : PySem.W.Frag) (C : Addr) : Bool := oB (PySem.W.findIn K (.ref C) "__getattribute__") (some (some (.builtin "BaseException.__getattribute__"))) && oB (PySem.W.findIn K (.ref C) "__getattr__") (some none) && oB (PySem.W.subIn K (.ref C) (.type "BaseException")) (some true) && PySem.W.hasDictIn K C &&
  oB (PySem.W.findIn K (.ref C) "__class__") (some (some (.builtin "object.__class__"))) && oB (PySem.W.specialIn K (.builtin "object.__class__") "__get__") (some (some (.builtin "getset_descriptor.__get__"))) && oB (PySem.W.takesIn K (.builtin "object.__class__")) (some true) && oB (PySem.W.mroIn K C (.type "object")) (some true)
theorem askB_ok {K : PySem.W.Frag} {C : Addr} (h : askB K C = true) : ExcC K C := by
  simp only [askB, oB, Bool.and_eq_true, decide_eq_true_eq] at h
  obtain ⟨⟨⟨⟨⟨⟨⟨h1, h2⟩, h3⟩, h4⟩, h5⟩, h6⟩, h7⟩, h8⟩ := h
  exact ⟨h1, h2, h3, h4, h5, h6, h7, h8⟩
def exnB (K : PySem.W.Frag) (bmB : List Value) (newId : String) (c : Str) : Bool := PySem.W.excIn K (He.ga K c) bmB newId && PySem.W.keepIn K (.ref (He.ga K c)) && askB K (He.ga K c) && oB (PySem.W.nsIn K mainGlobals c) (some (some (.ref (He.ga K c))))
theorem exnB_ok {K : PySem.W.Frag} {h : Heap} {mg : Str → Option Value} {B newId initId : String} {bmB : List Value} {c : Str} (X : K.In h) (G : h.Ns mainGlobals mg) (b : BaseOk B newId initId bmB) (e : exnB K bmB newId c = true) : ExN K mg (He.ga K) c := by
  simp only [exnB, oB, Bool.and_eq_true, decide_eq_true_eq] at e
  obtain ⟨⟨⟨h1, h2⟩, h3⟩, h4⟩ := e
  exact ⟨PySem.W.mg_of X G h4, ⟨B, newId, initId, bmB, b.F, h1⟩, h2, askB_ok h3⟩
def isxB (K : PySem.W.Frag) (cv : Value) (tbl : List (Str × Bool)) : Bool := tbl.all fun p => oB (PySem.W.kitOne K (.ref (He.ga K p.1)) cv) (some p.2)
theorem isxB_ok {K : PySem.W.Frag} {cv : Value} {tbl : List (Str × Bool)} (h : isxB K cv tbl = true) : IsX K (He.ga K) cv tbl := fun c b hl => by
  exact of_decide_eq_true (List.all_eq_true.mp h (c, b) (look_mem hl))
def isxtB (K : PySem.W.Frag) (cvs : List Value) (tbl : List (Str × Bool)) : Bool := tbl.all fun p => oB (PySem.W.kitAny K (.ref (He.ga K p.1)) cvs) (some p.2)
theorem isxtB_ok {K : PySem.W.Frag} {cvs : List Value} {tbl : List (Str × Bool)} (h : isxtB K cvs tbl = true) : IsXt K (He.ga K) cvs tbl := fun c b hl => by
  exact of_decide_eq_true (List.all_eq_true.mp h (c, b) (look_mem hl))
def askxB (K : PySem.W.Frag) (tbl : List (Str × Bool)) : Bool := tbl.all fun p => askB K (He.ga K p.1)
theorem askxB_ok {K : PySem.W.Frag} {tbl : List (Str × Bool)} (h : askxB K tbl = true) : AskX K (He.ga K) tbl := fun c b hl => askB_ok (List.all_eq_true.mp h (c, b) (look_mem hl))
theorem vals_e2 {a b : V} {u w : Value} {us : List Value} (ha : ∀ z, RelV a z → z = u) (hb : ∀ z, RelV b z → z = w) (h : Vals [a, b] us) : us = [u, w] := by
  cases h with
  | cons r1 h => cases h with
    | cons r2 h =>
      cases h
      rw [ha _ r1, hb _ r2]
theorem vals_e3 {a b c : V} {u w x : Value} {us : List Value} (ha : ∀ z, RelV a z → z = u) (hb : ∀ z, RelV b z → z = w) (hc : ∀ z, RelV c z → z = x) (h : Vals [a, b, c] us) : us = [u, w, x] := by
  cases h with
  | cons r1 h => rw [ha _ r1, vals_e2 hb hc h]
end DL
end

section
set_option Elab.async false
set_option linter.all false
set_option maxRecDepth 100000
set_option autoImplicit false
set_option maxHeartbeats 4000000
namespace DL
open PySem PySem.Spec PyProof.Rows L2
def top (i : Nat) : Stmt := PySem.Challenge.pw_holebirth_k70_errors.main.body.getD i (.Pass ⟨0, 0, 0, 0⟩)
abbrev s__law_begun : Stmt := top 10
def m__law_begun : Gam → RS :=
  (retM (rnewM (callM listF (consA (varM 0) nilA)) (compM (srcM' (varM 0)) (tgN 1) (testM (bin geF (varM 1) (bin powF (constM (.int 10)) (constM (.int 18))))) (fzL (varM 1)) [1] [1])))
def g__law_begun : List Slot → R Val := gOf 1 2 m__law_begun
theorem sc__law_begun : FnScope ["_law_script", "_law_cell"] ["_law_script"] (defScope s__law_begun) := ⟨rfl, rfl, rfl, by decide +kernel, rfl, by decide +kernel, by decide +kernel⟩
abbrev s__law_next : Stmt := top 11
def m__law_next : Gam → RS :=
  (seqM (fun Γ => whileGo (andT rneM (testM (bin (eqF false) rleft0M (constM (.int 0)))))
    rcutM 1000 Γ)
    (seqM (ifS rneM
    (seqM (setM 2 rleft0M)
    (seqM (rputM (bin fdivF (varM 2) (varM 1)))
    (retM (bin modF (callM int1F (consA (varM 2) nilA)) (varM 1)))))
    nextM)
    (seqM (par2M 3 4 (bin addF ratM (constM (.int 1))) rcellsM)
    (seqM (rsetatM 3)
    (seqM (setM 5 (ifM (testM (bin (eqF true) (varM 4) (lstM nilD))) (callM int1F (consA (bin ixF (varM 4) (bin modF (callM int1F (consA (bin addF (bin mulF (varM 3) (varM 3)) (bin fdivF (varM 3) (constM (.int 2)))) nilA)) (callM lenF (consA (varM 4) nilA)))) nilA)) (constM (.int 5))))
    (seqM (setM 6 (bin modF (callM int1F (consA (bin addF (bin addF (bin mulF (varM 5) (constM (.int 40692))) (bin mulF (varM 3) (constM (.int 65539)))) (bin mulF (bin mulF (constM (.int 7001)) (varM 3)) (varM 3))) nilA)) (constM (.int 2147483399))))
    (retM (bin modF (callM int1F (consA (bin fdivF (bin modF (callM int1F (consA (bin addF (bin mulF (varM 6) (constM (.int 48271))) (bin mulF (constM (.int 1013)) (varM 3))) nilA)) (constM (.int 2147483647))) (constM (.int 13))) nilA)) (varM 1)))))))))
def g__law_next : List Slot → R Val := gOf 2 7 m__law_next
theorem sc__law_next : FnScope ["_law_m", "_law_many", "_law_rest", "_law_at", "_law_bits", "_law_cell", "_law_blend"] ["_law_m", "_law_many"] (defScope s__law_next) := ⟨rfl, rfl, rfl, by decide +kernel, rfl, by decide +kernel, by decide +kernel⟩
abbrev s__law_value : Stmt := top 12
def m__law_value : Gam → RS :=
  (retM (bin ixF (lstM (consD (constM .none) (consD (constM (.int 0)) (consD (constM (.int 5)) (consD (unM negI (constM (.int 1))) (consD (constM (.str "a")) (consD (constM (.str "")) (consD (tupM nilD) (consD (tupM (consD (constM (.int 1)) (consD (constM (.int 2)) nilD))) (consD (lstM nilD) (consD dnewK (consD (constM (.bool true)) (consD (bin powF (constM (.int 10)) (constM (.int 30))) nilD))))))))))))) (callM (callG g__law_next) (consA (varM 0) (consA (constM (.int 12)) nilA)))))
def g__law_value : List Slot → R Val := gOf 1 1 m__law_value
theorem sc__law_value : FnScope ["_law_m"] ["_law_m"] (defScope s__law_value) := ⟨rfl, rfl, rfl, by decide +kernel, rfl, by decide +kernel, by decide +kernel⟩
abbrev s__law_kinds : Stmt := top 13
def m__law_kinds : Gam → RS :=
  (seqM (setM 1 (lstM (consD (isXM [("BadThings", true), ("BadChain", false), ("BadNumber", false), ("BadWindows", false), ("BadPaper", false), ("BadText", false), ("Unlike", false)] (varM 0)) (consD (isXM [("BadThings", false), ("BadChain", true), ("BadNumber", false), ("BadWindows", false), ("BadPaper", false), ("BadText", false), ("Unlike", false)] (varM 0)) (consD (isXM [("BadThings", false), ("BadChain", false), ("BadNumber", true), ("BadWindows", false), ("BadPaper", false), ("BadText", false), ("Unlike", false)] (varM 0)) nilD)))))
    (seqM (setM 1 (bin addF (varM 1) (lstM (consD (isXM [("BadThings", false), ("BadChain", false), ("BadNumber", false), ("BadWindows", true), ("BadPaper", false), ("BadText", false), ("Unlike", false)] (varM 0)) (consD (isXM [("BadThings", false), ("BadChain", false), ("BadNumber", false), ("BadWindows", false), ("BadPaper", true), ("BadText", false), ("Unlike", false)] (varM 0)) (consD (isXM [("BadThings", false), ("BadChain", false), ("BadNumber", false), ("BadWindows", false), ("BadPaper", false), ("BadText", true), ("Unlike", false)] (varM 0)) nilD))))))
    (retM (bin addF (varM 1) (lstM (consD (isXM [("BadThings", false), ("BadChain", false), ("BadNumber", false), ("BadWindows", false), ("BadPaper", false), ("BadText", false), ("Unlike", true)] (varM 0)) nilD))))))
def g__law_kinds : List Slot → R Val := gOf 1 2 m__law_kinds
theorem sc__law_kinds : FnScope ["_law_one", "_law_found"] ["_law_one"] (defScope s__law_kinds) := ⟨rfl, rfl, rfl, by decide +kernel, rfl, by decide +kernel, by decide +kernel⟩
abbrev s__law_field : Stmt := top 14
def m__law_field : Gam → RS :=
  (seqM (ifS (testM (isXM [("BadThings", true), ("BadChain", false), ("BadNumber", false), ("BadWindows", false), ("BadPaper", true), ("BadText", false), ("Unlike", false)] (varM 0)))
    (retM (xfM ["BadThings", "BadPaper"] "place" (varM 0)))
    nextM)
    (seqM (ifS (testM (isXM [("BadThings", false), ("BadChain", true), ("BadNumber", true), ("BadWindows", true), ("BadPaper", false), ("BadText", false), ("Unlike", false)] (varM 0)))
    (retM (xfM ["BadChain", "BadNumber", "BadWindows"] "value" (varM 0)))
    nextM)
    (retM (ifM (testM (isXM [("BadThings", false), ("BadChain", false), ("BadNumber", false), ("BadWindows", false), ("BadPaper", false), ("BadText", true), ("Unlike", false)] (varM 0))) (xfM ["BadText"] "line" (varM 0)) (xfM ["Unlike"] "numbers" (varM 0))))))
def g__law_field : List Slot → R Val := gOf 1 1 m__law_field
theorem sc__law_field : FnScope ["_law_one"] ["_law_one"] (defScope s__law_field) := ⟨rfl, rfl, rfl, by decide +kernel, rfl, by decide +kernel, by decide +kernel⟩
abbrev s_law : Stmt := top 15
def m_law : Gam → RS :=
  (seqM (setM 1 (callW g__law_begun 0))
    (seqM (forM (rg1M (consA (bin addF (constM (.int 2)) (callM min2F (consA (callM lenF (consA (varM 0) nilA)) (consA (constM (.int 6)) nilA)))) nilA)) (tgN 2)
    (seqM (setM 3 (callM (callG g__law_value) (consA (varM 1) nilA)))
    (seqM (setM 4 (lstM (consD (mkX "BadThings" "place" (varM 3)) (consD (mkX "BadChain" "value" (varM 3)) (consD (mkX "BadNumber" "value" (varM 3)) (consD (mkX "BadWindows" "value" (varM 3)) (consD (mkX "BadPaper" "place" (varM 3)) (consD (mkX "BadText" "line" (varM 3)) (consD (mkX "Unlike" "numbers" (varM 3)) nilD)))))))))
    (seqM (setM 5 (lstM (consD (mkX "BadThings" "place" (varM 3)) (consD (mkX "BadChain" "value" (varM 3)) (consD (mkX "BadNumber" "value" (varM 3)) (consD (mkX "BadWindows" "value" (varM 3)) (consD (mkX "BadPaper" "place" (varM 3)) nilD)))))))
    (seqM (setM 5 (bin addF (varM 5) (lstM (consD (mkX "BadText" "line" (varM 3)) (consD (mkX "Unlike" "numbers" (varM 3)) nilD)))))
    (forM (enumM (fzA (consD (varM 4) nilD))) (tgT 2 (tgCons (tgN 6) (tgCons (tgN 7) tgNil)))
    (seqM (ifS (orT (testM (bin (eqF true) (callM reprDF (consA (callM (callG g__law_field) (consA (varM 7) nilA)) nilA)) (callM reprDF (consA (varM 3) nilA)))) (testM (bin (eqF true) (callM reprDF (consA (callM (callG g__law_field) (consA (bin ixF (varM 5) (varM 6)) nilA)) nilA)) (callM reprDF (consA (varM 3) nilA)))))
    (retM (constM (.bool false)))
    nextM)
    (seqM (ifS (orT (testM (bin (eqF true) (callM (callG g__law_kinds) (consA (varM 7) nilA)) (compM (rg1M (consA (constM (.int 7)) nilA)) (tgN 9) yesM (fzL (bin (eqF false) (varM 9) (varM 6))) [9] [9]))) (testM (bin (eqF true) (callM (callG g__law_kinds) (consA (bin ixF (varM 5) (varM 6)) nilA)) (callM (callG g__law_kinds) (consA (varM 7) nilA)))))
    (retM (constM (.bool false)))
    nextM)
    (seqM (setM 8 (lstM (consD (isXM [("BadThings", true), ("BadChain", true), ("BadNumber", true), ("BadWindows", true), ("BadPaper", true), ("BadText", true), ("Unlike", false)] (varM 7)) (consD (isXM [("BadThings", true), ("BadChain", true), ("BadNumber", true), ("BadWindows", true), ("BadPaper", true), ("BadText", true), ("Unlike", false)] (varM 7)) (consD (isXM [("BadThings", false), ("BadChain", false), ("BadNumber", false), ("BadWindows", false), ("BadPaper", false), ("BadText", false), ("Unlike", true)] (varM 7)) nilD)))))
    (ifS (testM (bin (eqF true) (bin addF (varM 8) (lstM (consD (isXM [("BadThings", false), ("BadChain", false), ("BadNumber", false), ("BadWindows", false), ("BadPaper", false), ("BadText", false), ("Unlike", false)] (varM 7)) nilD))) (lstM (consD (bin ltF (varM 6) (constM (.int 6))) (consD (bin ltF (varM 6) (constM (.int 6))) (consD (bin (eqF false) (varM 6) (constM (.int 6))) (consD (constM (.bool false)) nilD)))))))
    (retM (constM (.bool false)))
    nextM))))))))))
    (retM (constM (.bool true)))))
def g_law : List Slot → R Val := gOf 1 10 m_law
theorem sc_law : FnScope ["_law_script", "_law_m", "_law_turn", "_law_q", "_law_some", "_law_far", "_law_at", "_law_one", "_law_told", "_law_k"] ["_law_script"] (defScope s_law) := ⟨rfl, rfl, rfl, by decide +kernel, rfl, by decide +kernel, by decide +kernel⟩
end DL
end

section
set_option Elab.async false
set_option linter.all false
set_option maxRecDepth 100000
set_option autoImplicit false
set_option maxHeartbeats 4000000
namespace DL
open PySem PySem.Spec PyProof.Rows L2
section
variable {P : Program} {w : World} {K : PySem.W.Frag} {mg : Str → Option Value} {base : Heap} {cls : Str → Addr} {f : Addr} {fd : FuncData}
theorem ok_law (F : FnP K "law" "law" s_law f fd) (C__law_begun : FnC P w K mg base cls "_law_begun" 1 g__law_begun) (B_range : mg "range" = none) (B_len : mg "len" = none) (B_min : mg "min" = none) (C__law_value : FnC P w K mg base cls "_law_value" 2 g__law_value) (V_Unlike : ExcK P w K mg base cls "Unlike" "numbers") (V_BadText : ExcK P w K mg base cls "BadText" "line") (V_BadPaper : ExcK P w K mg base cls "BadPaper" "place") (V_BadWindows : ExcK P w K mg base cls "BadWindows" "value") (V_BadNumber : ExcK P w K mg base cls "BadNumber" "value") (V_BadChain : ExcK P w K mg base cls "BadChain" "value") (V_BadThings : ExcK P w K mg base cls "BadThings" "place") (EK_BadPaper : ExcQ P w K mg base cls "BadPaper" "place" "place") (EK_BadWindows : ExcQ P w K mg base cls "BadWindows" "value" "value") (EK_BadNumber : ExcQ P w K mg base cls "BadNumber" "value" "value") (EK_BadChain : ExcQ P w K mg base cls "BadChain" "value" "value") (EK_BadThings : ExcQ P w K mg base cls "BadThings" "place" "place") (EK_Unlike : ExcQ P w K mg base cls "Unlike" "numbers" "numbers") (EK_BadText : ExcQ P w K mg base cls "BadText" "line" "line") (B_enumerate : mg "enumerate" = none) (C__law_field : FnC P w K mg base cls "_law_field" 3 g__law_field) (B_repr : mg "repr" = none) (C__law_kinds : FnC P w K mg base cls "_law_kinds" 3 g__law_kinds) (B_LookupError : mg "LookupError" = none) (AX_LookupError : AskX K cls [("BadThings", false), ("BadChain", false), ("BadNumber", false), ("BadWindows", false), ("BadPaper", false), ("BadText", false), ("Unlike", true)]) (Y_LookupError : IsX K cls (.type "LookupError") [("BadThings", false), ("BadChain", false), ("BadNumber", false), ("BadWindows", false), ("BadPaper", false), ("BadText", false), ("Unlike", true)]) (B_isinstance : mg "isinstance" = none) (B_ValueError : mg "ValueError" = none) (AX_ValueError : AskX K cls [("BadThings", true), ("BadChain", true), ("BadNumber", true), ("BadWindows", true), ("BadPaper", true), ("BadText", true), ("Unlike", false)]) (Y_ValueError : IsX K cls (.type "ValueError") [("BadThings", true), ("BadChain", true), ("BadNumber", true), ("BadWindows", true), ("BadPaper", true), ("BadText", true), ("Unlike", false)]) (GX_HoleError : mg "HoleError" = some (.ref (cls "HoleError"))) (AX_HoleError : AskX K cls [("BadThings", true), ("BadChain", true), ("BadNumber", true), ("BadWindows", true), ("BadPaper", true), ("BadText", true), ("Unlike", false)]) (Y_HoleError : IsX K cls (.ref (cls "HoleError")) [("BadThings", true), ("BadChain", true), ("BadNumber", true), ("BadWindows", true), ("BadPaper", true), ("BadText", true), ("Unlike", false)]) (B_KeyError : mg "KeyError" = none) (B_IndexError : mg "IndexError" = none) (AX_KeyError_IndexError : AskX K cls [("BadThings", false), ("BadChain", false), ("BadNumber", false), ("BadWindows", false), ("BadPaper", false), ("BadText", false), ("Unlike", false)]) (YT_KeyError_IndexError : IsXt K cls [(.type "KeyError"), (.type "IndexError")] [("BadThings", false), ("BadChain", false), ("BadNumber", false), ("BadWindows", false), ("BadPaper", false), ("BadText", false), ("Unlike", false)]) (NX_HoleError : ExN K mg cls "HoleError") (KX_HoleError_ValueError : PySem.W.kitOne K (.ref (cls "HoleError")) (.type "ValueError") = some true) : FnGd P w K mg base (L2.CX P w) 4 f fd ["_law_script"] (spG ⟨K, cls, none⟩ g_law) :=
  fn_Gd ["_law_script", "_law_m", "_law_turn", "_law_q", "_law_some", "_law_far", "_law_at", "_law_one", "_law_told", "_law_k"] ["_law_script"] 1 10 3 m_law rfl rfl F sc_law fun cdv A outer s H E a0 hr hgd =>
   (ss_cons (s_set (i := 1) sc_law.nd rfl (by first | exact .inl rfl | exact .inr rfl) (e_callW C__law_begun (hr.mono (by decide)) (by exact rfl) pxE (pv 0)))
    (ss_cons (s_for ownE rfl (i_range1 (by exact rfl) B_range (a_cons (e_bin op_addAll os_add (e_const pe_int fun _ => .int _) (e_callB (call_min2 rfl) cs_min2 (by exact rfl) B_min (by kernel_rfl) (a_cons (e_callB call_len cs_len (by exact rfl) B_len (by kernel_rfl) (a_cons (e_var (pv 0)) a_nil)) (a_cons (e_const pe_int fun _ => .int _) a_nil)))) a_nil)) (g_name (i := 2) sc_law.nd rfl (by first | exact .inl rfl | exact .inr rfl))
    (ss_cons (s_set (i := 3) sc_law.nd rfl (by first | exact .inl rfl | exact .inr rfl) (e_callC C__law_value (hr.mono (by decide)) (by exact rfl) pxE (a_cons (e_var (pv 1)) a_nil)))
    (ss_cons (s_set (i := 4) sc_law.nd rfl (by first | exact .inl rfl | exact .inr rfl) (e_lst (d_cons (e_mkX V_BadThings (hr.mono (by decide)) (by exact rfl) (e_var (pv 3))) (d_cons (e_mkX V_BadChain (hr.mono (by decide)) (by exact rfl) (e_var (pv 3))) (d_cons (e_mkX V_BadNumber (hr.mono (by decide)) (by exact rfl) (e_var (pv 3))) (d_cons (e_mkX V_BadWindows (hr.mono (by decide)) (by exact rfl) (e_var (pv 3))) (d_cons (e_mkX V_BadPaper (hr.mono (by decide)) (by exact rfl) (e_var (pv 3))) (d_cons (e_mkX V_BadText (hr.mono (by decide)) (by exact rfl) (e_var (pv 3))) (d_cons (e_mkX V_Unlike (hr.mono (by decide)) (by exact rfl) (e_var (pv 3))) d_nil)))))))))
    (ss_cons (s_set (i := 5) sc_law.nd rfl (by first | exact .inl rfl | exact .inr rfl) (e_lst (d_cons (e_mkXK EK_BadThings (hr.mono (by decide)) (by exact rfl) (e_var (pv 3))) (d_cons (e_mkXK EK_BadChain (hr.mono (by decide)) (by exact rfl) (e_var (pv 3))) (d_cons (e_mkXK EK_BadNumber (hr.mono (by decide)) (by exact rfl) (e_var (pv 3))) (d_cons (e_mkXK EK_BadWindows (hr.mono (by decide)) (by exact rfl) (e_var (pv 3))) (d_cons (e_mkXK EK_BadPaper (hr.mono (by decide)) (by exact rfl) (e_var (pv 3))) d_nil)))))))
    (ss_cons (s_set (i := 5) sc_law.nd rfl (by first | exact .inl rfl | exact .inr rfl) (e_bin op_addAll os_add (e_var (pv 5)) (e_lst (d_cons (e_mkXK EK_BadText (hr.mono (by decide)) (by exact rfl) (e_var (pv 3))) (d_cons (e_mkXK EK_Unlike (hr.mono (by decide)) (by exact rfl) (e_var (pv 3))) d_nil)))))
    (ss_one (s_for ownE rfl (i_enum rfl (by exact rfl) B_enumerate (a_fz (d_cons (e_var (pv 4)) d_nil))) (g_tup (n := 2) rfl (gs_cons (g_name (i := 6) sc_law.nd rfl (by first | exact .inl rfl | exact .inr rfl)) (gs_cons (g_name (i := 7) sc_law.nd rfl (by first | exact .inl rfl | exact .inr rfl)) gs_nil)))
    (ss_cons (s_if (w_or (t_cmp (op_neP hr.units) (os_eq true) (e_callB (call_reprD hgd hr.units) cs_reprD (by exact rfl) B_repr (by kernel_rfl) (a_cons (e_callC C__law_field (hr.mono (by decide)) (by exact rfl) pxE (a_cons (e_var (pv 7)) a_nil)) a_nil)) (e_callB (call_reprD hgd hr.units) cs_reprD (by exact rfl) B_repr (by kernel_rfl) (a_cons (e_var (pv 3)) a_nil)) (by with_unfolding_all rfl)) (w_or1 (t_cmp (op_neP hr.units) (os_eq true) (e_callB (call_reprD hgd hr.units) cs_reprD (by exact rfl) B_repr (by kernel_rfl) (a_cons (e_callC C__law_field (hr.mono (by decide)) (by exact rfl) pxE (a_cons (e_ix (ix_all hr.units) os_ix (e_var (pv 5)) (e_var (pv 6)) (by intro _ _; rfl)) a_nil)) a_nil)) (e_callB (call_reprD hgd hr.units) cs_reprD (by exact rfl) B_repr (by kernel_rfl) (a_cons (e_var (pv 3)) a_nil)) (by with_unfolding_all rfl)))).pt
    (ss_one (s_ret (e_const pe_bl fun _ => .bl _)))
    ss_nil)
    (ss_cons (s_if (w_or (t_cmp (op_neP hr.units) (os_eq true) (e_callC C__law_kinds (hr.mono (by decide)) (by exact rfl) pxE (a_cons (e_var (pv 7)) a_nil)) (e_lc (own := [("_law_k", 9)]) (me := (bin (eqF false) (varM 9) (varM 6))) rfl sc_law.nd (i_range1 (by exact rfl) B_range (a_cons (e_const pe_int fun _ => .int _) a_nil)) (blkOk_of (N := ["_law_script", "_law_m", "_law_turn", "_law_q", "_law_some", "_law_far", "_law_at", "_law_one", "_law_told", "_law_k"]) (sc := defScope s_law) (by decide +kernel)) (fun _ _ _ _ _ => (g_name (i := 9) sc_law.nd rfl (by first | exact .inl rfl | exact .inr rfl))) (fun _ _ _ _ _ => ts_nil) (fun _ _ _ _ _ => (e_cmp (op_eqP hr.units) (os_eq false) (e_var (pv 9)) (e_var (pv 6)) (by with_unfolding_all rfl)))) (by with_unfolding_all rfl)) (w_or1 (t_cmp (op_neP hr.units) (os_eq true) (e_callC C__law_kinds (hr.mono (by decide)) (by exact rfl) pxE (a_cons (e_ix (ix_all hr.units) os_ix (e_var (pv 5)) (e_var (pv 6)) (by intro _ _; rfl)) a_nil)) (e_callC C__law_kinds (hr.mono (by decide)) (by exact rfl) pxE (a_cons (e_var (pv 7)) a_nil)) (by with_unfolding_all rfl)))).pt
    (ss_one (s_ret (e_const pe_bl fun _ => .bl _)))
    ss_nil)
    (ss_cons (s_set (i := 8) sc_law.nd rfl (by first | exact .inl rfl | exact .inr rfl) (e_lst (d_cons (e_isX (M := ⟨K, cls, a0⟩) rfl AX_HoleError Y_HoleError (by exact rfl) B_isinstance (e_var (pv 7)) (v := (.ref (cls "HoleError"))) (pe_glob (v := .ref (cls "HoleError")) (by exact rfl) GX_HoleError rfl) (fun _ z => z)) (d_cons (e_isX (M := ⟨K, cls, a0⟩) rfl AX_ValueError Y_ValueError (by exact rfl) B_isinstance (e_var (pv 7)) (v := (.ty "ValueError")) (pe_bltn (v := .ty "ValueError") (by exact rfl) B_ValueError (by kernel_rfl) rfl) (fun _ z => z)) (d_cons (e_isX (M := ⟨K, cls, a0⟩) rfl AX_LookupError Y_LookupError (by exact rfl) B_isinstance (e_var (pv 7)) (v := (.ty "LookupError")) (pe_bltn (v := .ty "LookupError") (by exact rfl) B_LookupError (by kernel_rfl) rfl) (fun _ z => z)) d_nil)))))
    (ss_one (s_if (t_cmp (op_neP hr.units) (os_eq true) (e_bin op_addAll os_add (e_var (pv 8)) (e_lst (d_cons (e_isXt (M := ⟨K, cls, a0⟩) (vs := [(.ty "KeyError"), (.ty "IndexError")]) rfl AX_KeyError_IndexError YT_KeyError_IndexError (by exact rfl) B_isinstance (e_var (pv 7)) (pa_cons (pe_bltn (v := .ty "KeyError") (by exact rfl) B_KeyError (by kernel_rfl) rfl) (pa_cons (pe_bltn (v := .ty "IndexError") (by exact rfl) B_IndexError (by kernel_rfl) rfl) pa_nil)) (fun us h => vals_e2 (a := (.ty "KeyError")) (b := (.ty "IndexError")) (fun _ z => z) (fun _ z => z) h) (by decide)) d_nil))) (e_lst (d_cons (e_cmp (op_ltP hr.units) os_lt (e_var (pv 6)) (e_const pe_int fun _ => .int _) (by with_unfolding_all rfl)) (d_cons (e_cmp (op_ltP hr.units) os_lt (e_var (pv 6)) (e_const pe_int fun _ => .int _) (by with_unfolding_all rfl)) (d_cons (e_cmp (op_eqP hr.units) (os_eq false) (e_var (pv 6)) (e_const pe_int fun _ => .int _) (by with_unfolding_all rfl)) (d_cons (e_const pe_bl fun _ => .bl _) d_nil))))) (by with_unfolding_all rfl))
    (ss_one (s_ret (e_const pe_bl fun _ => .bl _)))
    ss_nil))))))))))))
    (ss_one (s_ret (e_isNew (M := ⟨K, cls, a0⟩) (v := (.ty "ValueError")) rfl NX_HoleError KX_HoleError_ValueError (by exact rfl) (by exact rfl) B_isinstance (pe_bltn (v := .ty "ValueError") (by exact rfl) B_ValueError (by kernel_rfl) rfl) (fun _ z => z))))))
theorem ok__law_next (F : FnP K "_law_next" "_law_next" s__law_next f fd) (B_int : mg "int" = none) (B_len : mg "len" = none) : FnOk P w K mg base (L2.CX P w) 1 f fd ["_law_m", "_law_many"] (spG ⟨K, cls, none⟩ g__law_next) :=
  fn_H ["_law_m", "_law_many", "_law_rest", "_law_at", "_law_bits", "_law_cell", "_law_blend"] ["_law_m", "_law_many"] 2 7 0 m__law_next rfl rfl F sc__law_next fun cdv A outer s H E a0 hr =>
   (ss_cons (s_while (fun _ => 1000) ownE (w_and (t_rne hr.units (pv 0)) (w_and1 (t_cmp (op_eqP hr.units) (os_eq false) (e_rleft0 hr.units (pv 0)) (e_const pe_int fun _ => .int _) (by with_unfolding_all rfl)))).pt
    (ss_one (s_rcut hr.units (pv 0) (pv 0))))
    (ss_cons (s_if (t_rne hr.units (pv 0))
    (ss_cons (s_set (i := 2) sc__law_next.nd rfl (by first | exact .inl rfl | exact .inr rfl) (e_rleft0 hr.units (pv 0)))
    (ss_cons (s_rput hr.units (pv 0) (e_bin op_fdiv os_fdiv (e_var (pv 2)) (e_var (pv 1))))
    (ss_one (s_ret (e_bin op_mod os_mod (e_callTy call_int1 cs_int1 (by exact rfl) B_int (by kernel_rfl) (a_cons (e_var (pv 2)) a_nil)) (e_var (pv 1)))))))
    ss_nil)
    (ss_cons (s_par2 (i := 3) (j := 4) rfl sc__law_next.nd rfl rfl (by decide) rfl rfl (e_bin op_addAll os_add (e_rat hr.units (pv 0)) (e_const pe_int fun _ => .int _)) (e_rcells hr.units (pv 0)) (by with_unfolding_all rfl) (by with_unfolding_all rfl))
    (ss_cons (s_rsetat hr.units (pv 0) (pv 3))
    (ss_cons (s_set (i := 5) sc__law_next.nd rfl (by first | exact .inl rfl | exact .inr rfl) (e_if (t_cmp (op_neP hr.units) (os_eq true) (e_var (pv 4)) (e_lst d_nil) (by with_unfolding_all rfl)) (e_callTy call_int1 cs_int1 (by exact rfl) B_int (by kernel_rfl) (a_cons (e_ix (ix_all hr.units) os_ix (e_var (pv 4)) (e_bin op_mod os_mod (e_callTy call_int1 cs_int1 (by exact rfl) B_int (by kernel_rfl) (a_cons (e_bin op_addAll os_add (e_bin op_mulAll os_mul (e_var (pv 3)) (e_var (pv 3))) (e_bin op_fdiv os_fdiv (e_var (pv 3)) (e_const pe_int fun _ => .int _))) a_nil)) (e_callB call_len cs_len (by exact rfl) B_len (by kernel_rfl) (a_cons (e_var (pv 4)) a_nil))) (by intro _ _; rfl)) a_nil)) (e_const pe_int fun _ => .int _)))
    (ss_cons (s_set (i := 6) sc__law_next.nd rfl (by first | exact .inl rfl | exact .inr rfl) (e_bin op_mod os_mod (e_callTy call_int1 cs_int1 (by exact rfl) B_int (by kernel_rfl) (a_cons (e_bin op_addAll os_add (e_bin op_addAll os_add (e_bin op_mulAll os_mul (e_var (pv 5)) (e_const pe_int fun _ => .int _)) (e_bin op_mulAll os_mul (e_var (pv 3)) (e_const pe_int fun _ => .int _))) (e_bin op_mulAll os_mul (e_bin op_mulAll os_mul (e_const pe_int fun _ => .int _) (e_var (pv 3))) (e_var (pv 3)))) a_nil)) (e_const pe_int fun _ => .int _)))
    (ss_one (s_ret (e_bin op_mod os_mod (e_callTy call_int1 cs_int1 (by exact rfl) B_int (by kernel_rfl) (a_cons (e_bin op_fdiv os_fdiv (e_bin op_mod os_mod (e_callTy call_int1 cs_int1 (by exact rfl) B_int (by kernel_rfl) (a_cons (e_bin op_addAll os_add (e_bin op_mulAll os_mul (e_var (pv 6)) (e_const pe_int fun _ => .int _)) (e_bin op_mulAll os_mul (e_const pe_int fun _ => .int _) (e_var (pv 3)))) a_nil)) (e_const pe_int fun _ => .int _)) (e_const pe_int fun _ => .int _)) a_nil)) (e_var (pv 1)))))))))))
end
end DL
end

section
set_option Elab.async false
set_option linter.all false
set_option maxRecDepth 100000
set_option autoImplicit false
set_option maxHeartbeats 4000000
namespace DL
open PySem PySem.Spec PyProof.Rows L2
section
variable {P : Program} {w : World} {K : PySem.W.Frag} {mg : Str → Option Value} {base : Heap} {cls : Str → Addr} {f : Addr} {fd : FuncData}
theorem ok__law_kinds (F : FnP K "_law_kinds" "_law_kinds" s__law_kinds f fd) (V_BadNumber : ExcK P w K mg base cls "BadNumber" "value") (AX_BadNumber : AskX K cls [("BadThings", false), ("BadChain", false), ("BadNumber", true), ("BadWindows", false), ("BadPaper", false), ("BadText", false), ("Unlike", false)]) (Y_BadNumber : IsX K cls (.ref (cls "BadNumber")) [("BadThings", false), ("BadChain", false), ("BadNumber", true), ("BadWindows", false), ("BadPaper", false), ("BadText", false), ("Unlike", false)]) (B_isinstance : mg "isinstance" = none) (V_BadChain : ExcK P w K mg base cls "BadChain" "value") (AX_BadChain : AskX K cls [("BadThings", false), ("BadChain", true), ("BadNumber", false), ("BadWindows", false), ("BadPaper", false), ("BadText", false), ("Unlike", false)]) (Y_BadChain : IsX K cls (.ref (cls "BadChain")) [("BadThings", false), ("BadChain", true), ("BadNumber", false), ("BadWindows", false), ("BadPaper", false), ("BadText", false), ("Unlike", false)]) (V_BadThings : ExcK P w K mg base cls "BadThings" "place") (AX_BadThings : AskX K cls [("BadThings", true), ("BadChain", false), ("BadNumber", false), ("BadWindows", false), ("BadPaper", false), ("BadText", false), ("Unlike", false)]) (Y_BadThings : IsX K cls (.ref (cls "BadThings")) [("BadThings", true), ("BadChain", false), ("BadNumber", false), ("BadWindows", false), ("BadPaper", false), ("BadText", false), ("Unlike", false)]) (V_BadText : ExcK P w K mg base cls "BadText" "line") (AX_BadText : AskX K cls [("BadThings", false), ("BadChain", false), ("BadNumber", false), ("BadWindows", false), ("BadPaper", false), ("BadText", true), ("Unlike", false)]) (Y_BadText : IsX K cls (.ref (cls "BadText")) [("BadThings", false), ("BadChain", false), ("BadNumber", false), ("BadWindows", false), ("BadPaper", false), ("BadText", true), ("Unlike", false)]) (V_BadPaper : ExcK P w K mg base cls "BadPaper" "place") (AX_BadPaper : AskX K cls [("BadThings", false), ("BadChain", false), ("BadNumber", false), ("BadWindows", false), ("BadPaper", true), ("BadText", false), ("Unlike", false)]) (Y_BadPaper : IsX K cls (.ref (cls "BadPaper")) [("BadThings", false), ("BadChain", false), ("BadNumber", false), ("BadWindows", false), ("BadPaper", true), ("BadText", false), ("Unlike", false)]) (V_BadWindows : ExcK P w K mg base cls "BadWindows" "value") (AX_BadWindows : AskX K cls [("BadThings", false), ("BadChain", false), ("BadNumber", false), ("BadWindows", true), ("BadPaper", false), ("BadText", false), ("Unlike", false)]) (Y_BadWindows : IsX K cls (.ref (cls "BadWindows")) [("BadThings", false), ("BadChain", false), ("BadNumber", false), ("BadWindows", true), ("BadPaper", false), ("BadText", false), ("Unlike", false)]) (V_Unlike : ExcK P w K mg base cls "Unlike" "numbers") (AX_Unlike : AskX K cls [("BadThings", false), ("BadChain", false), ("BadNumber", false), ("BadWindows", false), ("BadPaper", false), ("BadText", false), ("Unlike", true)]) (Y_Unlike : IsX K cls (.ref (cls "Unlike")) [("BadThings", false), ("BadChain", false), ("BadNumber", false), ("BadWindows", false), ("BadPaper", false), ("BadText", false), ("Unlike", true)]) : FnOk P w K mg base (L2.CX P w) 3 f fd ["_law_one"] (spG ⟨K, cls, none⟩ g__law_kinds) :=
  fn_H ["_law_one", "_law_found"] ["_law_one"] 1 2 2 m__law_kinds rfl rfl F sc__law_kinds fun cdv A outer s H E a0 hr =>
   (ss_cons (s_set (i := 1) sc__law_kinds.nd rfl (by first | exact .inl rfl | exact .inr rfl) (e_lst (d_cons (e_isX (M := ⟨K, cls, a0⟩) rfl AX_BadThings Y_BadThings (by exact rfl) B_isinstance (e_var (pv 0)) (v := (.ref (cls "BadThings"))) (pe_glob (v := .ref (cls "BadThings")) (by exact rfl) V_BadThings.gl rfl) (fun _ z => z)) (d_cons (e_isX (M := ⟨K, cls, a0⟩) rfl AX_BadChain Y_BadChain (by exact rfl) B_isinstance (e_var (pv 0)) (v := (.ref (cls "BadChain"))) (pe_glob (v := .ref (cls "BadChain")) (by exact rfl) V_BadChain.gl rfl) (fun _ z => z)) (d_cons (e_isX (M := ⟨K, cls, a0⟩) rfl AX_BadNumber Y_BadNumber (by exact rfl) B_isinstance (e_var (pv 0)) (v := (.ref (cls "BadNumber"))) (pe_glob (v := .ref (cls "BadNumber")) (by exact rfl) V_BadNumber.gl rfl) (fun _ z => z)) d_nil)))))
    (ss_cons (s_set (i := 1) sc__law_kinds.nd rfl (by first | exact .inl rfl | exact .inr rfl) (e_bin op_addAll os_add (e_var (pv 1)) (e_lst (d_cons (e_isX (M := ⟨K, cls, a0⟩) rfl AX_BadWindows Y_BadWindows (by exact rfl) B_isinstance (e_var (pv 0)) (v := (.ref (cls "BadWindows"))) (pe_glob (v := .ref (cls "BadWindows")) (by exact rfl) V_BadWindows.gl rfl) (fun _ z => z)) (d_cons (e_isX (M := ⟨K, cls, a0⟩) rfl AX_BadPaper Y_BadPaper (by exact rfl) B_isinstance (e_var (pv 0)) (v := (.ref (cls "BadPaper"))) (pe_glob (v := .ref (cls "BadPaper")) (by exact rfl) V_BadPaper.gl rfl) (fun _ z => z)) (d_cons (e_isX (M := ⟨K, cls, a0⟩) rfl AX_BadText Y_BadText (by exact rfl) B_isinstance (e_var (pv 0)) (v := (.ref (cls "BadText"))) (pe_glob (v := .ref (cls "BadText")) (by exact rfl) V_BadText.gl rfl) (fun _ z => z)) d_nil))))))
    (ss_one (s_ret (e_bin op_addAll os_add (e_var (pv 1)) (e_lst (d_cons (e_isX (M := ⟨K, cls, a0⟩) rfl AX_Unlike Y_Unlike (by exact rfl) B_isinstance (e_var (pv 0)) (v := (.ref (cls "Unlike"))) (pe_glob (v := .ref (cls "Unlike")) (by exact rfl) V_Unlike.gl rfl) (fun _ z => z)) d_nil)))))))
theorem ok__law_value (F : FnP K "_law_value" "_law_value" s__law_value f fd) (C__law_next : FnC P w K mg base cls "_law_next" 1 g__law_next) : FnOk P w K mg base (L2.CX P w) 2 f fd ["_law_m"] (spG ⟨K, cls, none⟩ g__law_value) :=
  fn_H ["_law_m"] ["_law_m"] 1 1 1 m__law_value rfl rfl F sc__law_value fun cdv A outer s H E a0 hr =>
   (ss_one (s_ret (e_ix (ix_all hr.units) os_ix (e_lst (d_cons (e_const pe_non fun _ => .non) (d_cons (e_const pe_int fun _ => .int _) (d_cons (e_const pe_int fun _ => .int _) (d_cons (e_neg (e_const pe_int fun _ => .int _)) (d_cons (e_const pe_str fun _ => .str _) (d_cons (e_const pe_str fun _ => .str _) (d_cons (e_tup d_nil) (d_cons (e_tup (d_cons (e_const pe_int fun _ => .int _) (d_cons (e_const pe_int fun _ => .int _) d_nil))) (d_cons (e_lst d_nil) (d_cons e_dnewK (d_cons (e_const pe_bl fun _ => .bl _) (d_cons (e_bin op_pow os_pow (e_const pe_int fun _ => .int _) (e_const pe_int fun _ => .int _)) d_nil))))))))))))) (e_callC C__law_next (hr.mono (by decide)) (by exact rfl) pxE (a_cons (e_var (pv 0)) (a_cons (e_const pe_int fun _ => .int _) a_nil))) (by intro _ _; rfl))))
end
end DL
end

section
set_option Elab.async false
set_option linter.all false
set_option maxRecDepth 100000
set_option autoImplicit false
set_option maxHeartbeats 4000000
namespace DL
open PySem PySem.Spec PyProof.Rows L2
section
variable {P : Program} {w : World} {K : PySem.W.Frag} {mg : Str → Option Value} {base : Heap} {cls : Str → Addr} {f : Addr} {fd : FuncData}
theorem ok__law_field (F : FnP K "_law_field" "_law_field" s__law_field f fd) (V_BadThings : ExcK P w K mg base cls "BadThings" "place") (V_BadPaper : ExcK P w K mg base cls "BadPaper" "place") (AX_BadThings_BadPaper : AskX K cls [("BadThings", true), ("BadChain", false), ("BadNumber", false), ("BadWindows", false), ("BadPaper", true), ("BadText", false), ("Unlike", false)]) (YT_BadThings_BadPaper : IsXt K cls [(.ref (cls "BadThings")), (.ref (cls "BadPaper"))] [("BadThings", true), ("BadChain", false), ("BadNumber", false), ("BadWindows", false), ("BadPaper", true), ("BadText", false), ("Unlike", false)]) (B_isinstance : mg "isinstance" = none) (J_place : XfK K cls ["BadThings", "BadPaper"] "place") (V_BadChain : ExcK P w K mg base cls "BadChain" "value") (V_BadNumber : ExcK P w K mg base cls "BadNumber" "value") (V_BadWindows : ExcK P w K mg base cls "BadWindows" "value") (AX_BadChain_BadNumber_BadWindows : AskX K cls [("BadThings", false), ("BadChain", true), ("BadNumber", true), ("BadWindows", true), ("BadPaper", false), ("BadText", false), ("Unlike", false)]) (YT_BadChain_BadNumber_BadWindows : IsXt K cls [(.ref (cls "BadChain")), (.ref (cls "BadNumber")), (.ref (cls "BadWindows"))] [("BadThings", false), ("BadChain", true), ("BadNumber", true), ("BadWindows", true), ("BadPaper", false), ("BadText", false), ("Unlike", false)]) (J_value : XfK K cls ["BadChain", "BadNumber", "BadWindows"] "value") (V_BadText : ExcK P w K mg base cls "BadText" "line") (AX_BadText : AskX K cls [("BadThings", false), ("BadChain", false), ("BadNumber", false), ("BadWindows", false), ("BadPaper", false), ("BadText", true), ("Unlike", false)]) (Y_BadText : IsX K cls (.ref (cls "BadText")) [("BadThings", false), ("BadChain", false), ("BadNumber", false), ("BadWindows", false), ("BadPaper", false), ("BadText", true), ("Unlike", false)]) (J_line : XfK K cls ["BadText"] "line") (J_numbers : XfK K cls ["Unlike"] "numbers") : FnOk P w K mg base (L2.CX P w) 3 f fd ["_law_one"] (spG ⟨K, cls, none⟩ g__law_field) :=
  fn_H ["_law_one"] ["_law_one"] 1 1 2 m__law_field rfl rfl F sc__law_field fun cdv A outer s H E a0 hr =>
   (ss_cons (s_if (t_val (e_isXt (M := ⟨K, cls, a0⟩) (vs := [(.ref (cls "BadThings")), (.ref (cls "BadPaper"))]) rfl AX_BadThings_BadPaper YT_BadThings_BadPaper (by exact rfl) B_isinstance (e_var (pv 0)) (pa_cons (pe_glob (v := .ref (cls "BadThings")) (by exact rfl) V_BadThings.gl rfl) (pa_cons (pe_glob (v := .ref (cls "BadPaper")) (by exact rfl) V_BadPaper.gl rfl) pa_nil)) (fun us h => vals_e2 (a := (.ref (cls "BadThings"))) (b := (.ref (cls "BadPaper"))) (fun _ z => z) (fun _ z => z) h) (Nat.le_of_ble_eq_true rfl)))
    (ss_one (s_ret (e_xf rfl J_place (e_var (pv 0)))))
    ss_nil)
    (ss_cons (s_if (t_val (e_isXt (M := ⟨K, cls, a0⟩) (vs := [(.ref (cls "BadChain")), (.ref (cls "BadNumber")), (.ref (cls "BadWindows"))]) rfl AX_BadChain_BadNumber_BadWindows YT_BadChain_BadNumber_BadWindows (by exact rfl) B_isinstance (e_var (pv 0)) (pa_cons (pe_glob (v := .ref (cls "BadChain")) (by exact rfl) V_BadChain.gl rfl) (pa_cons (pe_glob (v := .ref (cls "BadNumber")) (by exact rfl) V_BadNumber.gl rfl) (pa_cons (pe_glob (v := .ref (cls "BadWindows")) (by exact rfl) V_BadWindows.gl rfl) pa_nil))) (fun us h => vals_e3 (a := (.ref (cls "BadChain"))) (b := (.ref (cls "BadNumber"))) (c := (.ref (cls "BadWindows"))) (fun _ z => z) (fun _ z => z) (fun _ z => z) h) (Nat.le_of_ble_eq_true rfl)))
    (ss_one (s_ret (e_xf rfl J_value (e_var (pv 0)))))
    ss_nil)
    (ss_one (s_ret (e_if (t_val (e_isX (M := ⟨K, cls, a0⟩) rfl AX_BadText Y_BadText (by exact rfl) B_isinstance (e_var (pv 0)) (v := (.ref (cls "BadText"))) (pe_glob (v := .ref (cls "BadText")) (by exact rfl) V_BadText.gl rfl) (fun _ z => z))) (e_xf rfl J_line (e_var (pv 0))) (e_xf rfl J_numbers (e_var (pv 0))))))))
theorem ok__law_begun (F : FnP K "_law_begun" "_law_begun" s__law_begun f fd) (B_list : mg "list" = none) : FnOk P w K mg base (L2.CX P w) 1 f fd ["_law_script"] (spG ⟨K, cls, none⟩ g__law_begun) :=
  fn_H ["_law_script", "_law_cell"] ["_law_script"] 1 2 0 m__law_begun rfl rfl F sc__law_begun fun cdv A outer s H E a0 hr =>
   (ss_one (s_ret (e_rnew (e_callTy call_list_of cs_list (by exact rfl) B_list (by kernel_rfl) (a_cons (e_var (pv 0)) a_nil)) (e_lc (own := [("_law_cell", 1)]) (me := (varM 1)) rfl sc__law_begun.nd (i_seq rfl (e_var (pv 0))) (blkOk_of (N := ["_law_script", "_law_cell"]) (sc := defScope s__law_begun) (by decide +kernel)) (fun _ _ _ _ _ => (g_name (i := 1) sc__law_begun.nd rfl (by first | exact .inl rfl | exact .inr rfl))) (fun _ _ _ _ _ => (ts_one (t_cmp op_ge os_ge (e_var (pv 1)) (e_bin op_pow os_pow (e_const pe_int fun _ => .int _) (e_const pe_int fun _ => .int _)) (by with_unfolding_all rfl)))) (fun _ _ _ _ _ => (e_var (pv 1)))))))
end
end DL
end

section
set_option Elab.async false
set_option linter.all false
set_option maxRecDepth 100000
set_option autoImplicit false
set_option maxHeartbeats 4000000
namespace DL
open PySem PySem.Spec PyProof.Rows L2
theorem okE_int (i j : Int) : okE (.int i) (.int j) = true := by simp [okE, PyData.plain, PyData.depth]
theorem next_while (cells : List Int) (at_ many : Int) (rest : List Slot) : ∀ (left : List Int) (n : Nat), left.length < n →
    whileGo (andT rneM (testM (bin (eqF false) rleft0M (constM (.int 0))))) rcutM n (.box 0 (some 0) (rngD cells left at_) :: rest) = .nx (.box 0 (some 0) (rngD cells (left.dropWhile fun z => z == 0) at_) :: rest)
  | [], n + 1, h => by
    unfold whileGo
    simp [andT, rneM]
  | m :: ls, n + 1, h => by
    unfold whileGo
    by_cases hm : m = 0
    · subst hm
      simp [andT, rneM, testM, bin, rd, rdV, rleft0M, constM, eqF, viewD, okE_int, PyData.eqv, rcutM]
      exact next_while cells at_ many rest ls n (by simpa using h)
    · have : (m == 0) = false := by simpa using hm
      simp [andT, rneM, testM, bin, rd, rdV, rleft0M, constM, eqF, viewD, okE_int, PyData.eqv, this, List.dropWhile_cons, hm]

theorem rng_dropW (left : List Int) : (left.dropWhile fun z => z == 0).length ≤ left.length := by
  induction left with
  | nil => simp
  | cons a l ih =>
    rw [List.dropWhile_cons]
    split
    · simp; omega
    · simp
theorem eqv_int (i j : Int) : PyData.eqv (.int i) (.int j) = (i == j) := by simp [PyData.eqv]
theorem eqv_cells (c : List Int) : PyData.eqv (.list (c.map .int)) (.list []) = c.isEmpty := by
  cases c <;> simp [PyData.eqv, PyData.eqvAll]
theorem okE_cells (c : List Int) : okE (.list (c.map .int)) (.list []) = true := by
  simp only [okE, PyData.plain, plain_ints, Bool.and_eq_true, Bool.or_eq_true, decide_eq_true_eq]
  exact ⟨⟨trivial, rfl⟩, .inr (by decide)⟩
theorem seqM_nx {m n : Gam → RS} {Γ Γ1 : Gam} (h : m Γ = .nx Γ1) : seqM m n Γ = n Γ1 := by
  unfold seqM
  rw [h]
theorem okE_nil : okE (.list []) (.list []) = true := by decide
theorem eqv_nil : PyData.eqv (.list []) (.list []) = true := by decide
theorem atI_mod (cells : List Int) (z : Int) (h : 0 < cells.length) : ∃ c, atI (cells.map PyData.int) (z % (cells.length : Int)) = some (.int c) := by
  have h1 : 0 ≤ z % (cells.length : Int) := Int.emod_nonneg _ (by omega)
  have h2 : z % (cells.length : Int) < cells.length := Int.emod_lt_of_pos _ (by omega)
  obtain ⟨k, hk⟩ : ∃ k : Nat, z % (cells.length : Int) = k := ⟨(z % (cells.length : Int)).toNat, by omega⟩
  rw [hk]
  have hk2 : k < cells.length := by omega
  refine ⟨cells[k], ?_⟩
  exact atI_nat (by simp [hk2])
theorem next_spec (cells left : List Int) (at_ many : Int) (hl : left.length < 1000) (h1 : 1 ≤ many) (h2 : many < 1000000) (h3 : 0 ≤ at_) (h4 : at_ < 1000000000) (hc : cells.length ≤ 1000) :
    ∃ r left' at', g__law_next [.box 0 none (rngD cells left at_), .val (.int many)] = .ok (.f (.int r)) [.box 0 none (rngD cells left' at'), .val (.int many)] ∧ 0 ≤ r ∧ r < many ∧ left'.length ≤ left.length ∧ at_ ≤ at' ∧ at' ≤ at_ + 1 := by
  unfold g__law_next gOf
  rw [if_pos ⟨rfl, rfl⟩]
  have e0 : startA 7 [.box 0 none (rngD cells left at_), .val (.int many)] = .box 0 (some 0) (rngD cells left at_) :: [.val (.int many), .un, .un, .un, .un, .un] := rfl
  rw [e0]
  unfold m__law_next
  have hw : (fun Γ => whileGo (andT rneM (testM (bin (eqF false) rleft0M (constM (.int 0))))) rcutM 1000 Γ) (.box 0 (some 0) (rngD cells left at_) :: [.val (.int many), .un, .un, .un, .un, .un]) = _ := next_while cells at_ many [.val (.int many), .un, .un, .un, .un, .un] left 1000 hl
  have hL := rng_dropW left
  rw [seqM_nx hw]
  have hm : 0 < many ∧ many < 1073741824 := by omega
  have hm2 : 0 < many := by omega
  generalize (left.dropWhile fun z => z == 0) = L at hL
  cases L with
  | cons n L =>
    refine ⟨n % many, n / many :: L, at_, ?_, Int.emod_nonneg _ (by omega), Int.emod_lt_of_pos _ (by omega), by simpa using hL, by omega, by omega⟩
    simp [ifS, stm, rneM, seqM, setM, rleft0M, setV, rputM, bin, rd, rdV, varM, fdivF, intF, hm, hm2, fzL, fzV, retM, modF, callM, int1F, consA, nilA, retV, outG, outV, finA, isBx, pinned, unpin]
  | nil =>
    have hif : ifS rneM (seqM (setM 2 rleft0M) (seqM (rputM (bin fdivF (varM 2) (varM 1))) (retM (bin modF (callM int1F (consA (varM 2) nilA)) (varM 1))))) nextM (.box 0 (some 0) (rngD cells [] at_) :: [.val (.int many), .un, .un, .un, .un, .un]) = .nx (.box 0 (some 0) (rngD cells [] at_) :: [.val (.int many), .un, .un, .un, .un, .un]) := by
      simp [ifS, rneM, nextM]
    rw [seqM_nx hif]
    have hp : par2M 3 4 (bin addF ratM (constM (.int 1))) rcellsM (.box 0 (some 0) (rngD cells [] at_) :: [.val (.int many), .un, .un, .un, .un, .un]) = .nx (.box 0 (some 0) (rngD cells [] at_) :: [.val (.int many), .un, .val (.int (at_ + 1)), .val (.list (cells.map .int)), .un, .un]) := by
      simp [par2M, fzL, bin, rd, rdV, ratM, constM, addF, fzV, rcellsM]
    rw [seqM_nx hp]
    have hs : rsetatM 3 (.box 0 (some 0) (rngD cells [] at_) :: [.val (.int many), .un, .val (.int (at_ + 1)), .val (.list (cells.map .int)), .un, .un]) = .nx (.box 0 (some 0) (rngD cells [] (at_ + 1)) :: [.val (.int many), .un, .val (.int (at_ + 1)), .val (.list (cells.map .int)), .un, .un]) := by
      simp [rsetatM]
    rw [seqM_nx hs]
    generalize ha : at_ + 1 = a
    have q1 : mulC a a = true := by simp [mulC]; omega
    obtain ⟨c, hc2⟩ : ∃ c, setM 5 (ifM (testM (bin (eqF true) (varM 4) (lstM nilD))) (callM int1F (consA (bin ixF (varM 4) (bin modF (callM int1F (consA (bin addF (bin mulF (varM 3) (varM 3)) (bin fdivF (varM 3) (constM (.int 2)))) nilA)) (callM lenF (consA (varM 4) nilA)))) nilA)) (constM (.int 5)))
        (.box 0 (some 0) (rngD cells [] a) :: [.val (.int many), .un, .val (.int a), .val (.list (cells.map .int)), .un, .un]) = .nx (.box 0 (some 0) (rngD cells [] a) :: [.val (.int many), .un, .val (.int a), .val (.list (cells.map .int)), .val (.int c), .un]) := by
      by_cases hz : cells = []
      · subst hz
        refine ⟨5, ?_⟩
        simp [setM, ifM, testM, bin, rd, rdV, varM, lstM, nilD, fldD, eqF, viewD, okE_nil, eqv_nil, constM, setV]
      · have hpos : 0 < cells.length := List.length_pos_iff.mpr hz
        obtain ⟨c, hcc⟩ := atI_mod cells (a * a + a / 2) hpos
        have hne : cells.isEmpty = false := by cases cells with | nil => exact absurd rfl hz | cons _ _ => rfl
        refine ⟨c, ?_⟩
        have hcells : cells.length ≤ sizeLine := Nat.le_trans hc (by decide)
        simp [setM, ifM, testM, bin, rd, rdV, varM, lstM, nilD, fldD, eqF, viewD, okE_cells, eqv_cells, hne, callM, int1F, consA, nilA, mulF, q1, fdivF, intF, constM, addF, lenF, modF, hpos, ixF, hcc, setV, hcells]
    rw [seqM_nx hc2]
    have q2 : ∀ z : Int, mulC z 40692 = true := fun z => by simp [mulC]
    have q3 : mulC a 65539 = true := by simp [mulC]
    have q4 : mulC 7001 a = true := by simp [mulC]
    have q5 : mulC (7001 * a) a = true := by simp [mulC]; omega
    obtain ⟨d, hd⟩ : ∃ d, setM 6 (bin modF (callM int1F (consA (bin addF (bin addF (bin mulF (varM 5) (constM (.int 40692))) (bin mulF (varM 3) (constM (.int 65539)))) (bin mulF (bin mulF (constM (.int 7001)) (varM 3)) (varM 3))) nilA)) (constM (.int 2147483399)))
        (.box 0 (some 0) (rngD cells [] a) :: [.val (.int many), .un, .val (.int a), .val (.list (cells.map .int)), .val (.int c), .un]) = .nx (.box 0 (some 0) (rngD cells [] a) :: [.val (.int many), .un, .val (.int a), .val (.list (cells.map .int)), .val (.int c), .val (.int d)]) := by
      refine ⟨(c * 40692 + a * 65539 + 7001 * a * a) % 2147483399, ?_⟩
      simp [setM, bin, rd, rdV, varM, constM, mulF, q2, q3, q4, q5, addF, callM, int1F, consA, nilA, modF, intF, setV]
    rw [seqM_nx hd]
    have q6 : mulC d 48271 = true := by simp [mulC]
    have q7 : mulC 1013 a = true := by simp [mulC]
    refine ⟨(d * 48271 + 1013 * a) % 2147483647 / 13 % many, [], a, ?_, Int.emod_nonneg _ (by omega), Int.emod_lt_of_pos _ (by omega), by simp, by omega, by omega⟩
    simp [retM, stm, bin, rd, rdV, varM, constM, mulF, q6, q7, addF, callM, int1F, consA, nilA, modF, fdivF, intF, hm, hm2, retV, outG, outV, finA, isBx, pinned, unpin]
end DL
end

section
set_option Elab.async false
set_option linter.all false
set_option maxRecDepth 100000
set_option autoImplicit false
set_option maxHeartbeats 4000000
namespace DL
open PySem PySem.Spec PyProof.Rows L2
theorem big : 1000000 ≤ sizeLine := by decide
def Bx (n : Int) (s : Slot) (pin : Option Addr) : Prop := ∃ cells left at_, s = .box 0 pin (rngD cells left at_) ∧ cells.length ≤ 1000 ∧ left.length < 1000 ∧ 0 ≤ at_ ∧ at_ ≤ n
theorem Bx.up {n n' : Int} {s : Slot} {pin : Option Addr} (h : Bx n s pin) (e : n ≤ n') : Bx n' s pin := by
  obtain ⟨c, l, a, rfl, h1, h2, h3, h4⟩ := h
  exact ⟨c, l, a, rfl, h1, h2, h3, by omega⟩
theorem draw {m : Gam → R Val} {many n : Int} {pin : Option Addr} {s : Slot} {rest : List Slot} (hb : Bx n s pin) (hn : n < 1000000000) (h1 : 1 ≤ many) (h2 : many < 1000000) (hm : rd m (s :: rest) = .ok (.f (.int many)) (s :: rest)) :
    ∃ r s', callM (callG g__law_next) (consA (varM 0) (consA m nilA)) (s :: rest) = .ok (.f (.int r)) (s' :: rest) ∧ Bx (n + 1) s' pin ∧ 0 ≤ r ∧ r < many := by
  obtain ⟨cells, left, at_, rfl, c1, c2, c3, c4⟩ := hb
  obtain ⟨r, left', at', e, e1, e2, e3, e4, e5⟩ := next_spec cells left at_ many c2 h1 h2 c3 (by omega) c1
  refine ⟨r, .box 0 pin (rngD cells left' at'), ?_, ⟨cells, left', at', rfl, c1, by omega, by omega, by omega⟩, e1, e2⟩
  have hv : rd (varM 0) (.box 0 pin (rngD cells left at_) :: rest) = .ok (.b 0) (.box 0 pin (rngD cells left at_) :: rest) := rfl
  simp only [callM, consA, hv, hm, R.bind_ok, nilA, callG, headBx, List.getElem?_cons_zero, isBx, if_true, callX, argsF, fzV, List.map_cons, List.map_nil, unpin]
  rw [e]
  rfl
theorem rg_ok {m : Gam → R Val} {Γ Γ2 : Gam} {k : Int} (h : m Γ = .ok (.f (.int k)) Γ2) (h0 : 0 ≤ k) (h1 : k ≤ 1000) : rg1M (consA m nilA) Γ = .ok ⟨rangeD 0 k.toNat, none⟩ Γ2 := by
  unfold rg1M consA rd
  rw [h]
  simp only [R.bind_ok, rdV, nilA]
  split
  · rfl
  · rename_i hn
    refine absurd (And.intro ?_ ?_) hn <;> omega
theorem rd_f {m : Gam → R Val} {Γ : Gam} {d : D} (h : m Γ = .ok (.f d) Γ) : rd m Γ = .ok (.f d) Γ := by
  unfold rd
  rw [h]
  rfl
theorem bin_ok {f : Gam → Val → Val → R Val} {ma mb : Gam → R Val} {Γ : Gam} {d e : D} {r : R Val} (ha : ma Γ = .ok (.f d) Γ) (hb : mb Γ = .ok (.f e) Γ) (hf : f Γ (.f d) (.f e) = r) : bin f ma mb Γ = r := by
  unfold bin
  rw [rd_f ha]
  show (rd mb Γ).bind _ = r
  rw [rd_f hb]
  exact hf
theorem call1_ok {c : Gam → List Val → R Val} {m : Gam → R Val} {Γ : Gam} {d : D} {r : R Val} (h : m Γ = .ok (.f d) Γ) (hc : c Γ [.f d] = r) : callM c (consA m nilA) Γ = r := by
  unfold callM consA
  rw [rd_f h]
  exact hc
theorem test_ok {m : Gam → R Val} {Γ : Gam} {b : Bool} (h : m Γ = .ok (.f (.bool b)) Γ) : testM m Γ = .ok b Γ := by
  unfold testM
  rw [rd_f h]
  rfl
theorem tru_ok {r : R Val} (h : isTru r = true) : ∃ As, r = .ok (.f (.bool true)) As := by
  unfold isTru at h
  split at h
  · exact ⟨_, rfl⟩
  · cases h
theorem filt_go (X : List D) (p : Int) (hp : ∀ Γ : Gam, bin powF (constM (.int 10)) (constM (.int 18)) Γ = .ok (.f (.int p)) Γ) : ∀ (ns acc : List Int), acc.length + ns.length < sizeLine →
    ∃ l : List Int, compGo (tgN 1) (testM (bin geF (varM 1) (bin powF (constM (.int 10)) (constM (.int 18))))) (fzL (varM 1)) [1] none (ns.map .int) [.vw X, .un] (acc.map .int) = .ok ((acc ++ l).map .int) [.vw X, .un] ∧ l.length ≤ ns.length
  | [], acc, _ => ⟨[], by simp [compGo], by simp⟩
  | i :: ns, acc, h => by
    simp only [List.length_cons] at h
    have t : tgN 1 (.int i) [.vw X, .un] = some [.vw X, .val (.int i)] := rfl
    have v1 : varM 1 [.vw X, .val (.int i)] = .ok (.f (.int i)) [.vw X, .val (.int i)] := rfl
    have e : bin geF (varM 1) (bin powF (constM (.int 10)) (constM (.int 18))) [.vw X, .val (.int i)] = .ok (.f (.bool (decide (p ≤ i)))) [.vw X, .val (.int i)] := bin_ok v1 (hp _) rfl
    have et := test_ok e
    have ef : fzL (varM 1) [.vw X, .val (.int i)] = .ok (.int i) [.vw X, .val (.int i)] := rfl
    have ew : wipeG [.vw X, .val (.int i)] [1] = [.vw X, .un] := rfl
    simp only [List.map_cons, compGo, guardB_none, if_true, t, et, R.bind_ok]
    cases hd : decide (p ≤ i) with
    | true =>
      simp only [if_true, ef, R.bind_ok, List.length_map]
      rw [if_pos (by omega), ew]
      obtain ⟨l, q1, q2⟩ := filt_go X p hp ns (acc ++ [i]) (by simp; omega)
      refine ⟨i :: l, ?_, by simpa using q2⟩
      simpa using q1
    | false =>
      simp only [Bool.false_eq_true, if_false]
      rw [ew]
      obtain ⟨l, q1, q2⟩ := filt_go X p hp ns acc (by omega)
      exact ⟨l, q1, by simp; omega⟩
theorem pow_18 : ∃ p, ∀ Γ : Gam, bin powF (constM (.int 10)) (constM (.int 18)) Γ = .ok (.f (.int p)) Γ := ⟨10 ^ 18, fun Γ => by
  refine bin_ok rfl rfl ?_
  have : powC 10 18 = true := by decide
  simp only [powF, intF_ii, this, if_true]
  rfl⟩
theorem ints_map (ns : List Int) : intsOf (ns.map PyData.int) = some ns := by
  induction ns with
  | nil => rfl
  | cons n ns ih => simp [intsOf, ih]
theorem begun_ok (ns : List Int) (h : ns.length ≤ 63) : ∃ l As, g__law_begun [.vw (ns.map .int)] = .ok (.nb 0 (rngD ns l 0)) As ∧ l.length ≤ 63 := by
  obtain ⟨p, hp⟩ := pow_18
  have hb := big
  obtain ⟨l, q1, q2⟩ := filt_go (ns.map .int) p hp ns [] (by simp; omega)
  refine ⟨l, [.vw (ns.map .int)], ?_, by omega⟩
  have hsrc : srcM' (varM 0) [.vw (ns.map .int), .un] = .ok ⟨ns.map .int, none⟩ [.vw (ns.map .int), .un] := rfl
  have hcomp : compM (srcM' (varM 0)) (tgN 1) (testM (bin geF (varM 1) (bin powF (constM (.int 10)) (constM (.int 18))))) (fzL (varM 1)) [1] [1] [.vw (ns.map .int), .un] = .ok (.n (.ol (l.map .int))) [.vw (ns.map .int), .un] := by
    unfold compM
    rw [hsrc]
    have e : ([1].all (fun t => decide (t ∈ [1])) && brOk none [1]) = true := rfl
    simp only [R.bind_ok]
    rw [if_pos e]
    have ew : wipeG [.vw (ns.map .int), .un] [1] = [.vw (ns.map .int), .un] := rfl
    rw [ew]
    have q1 := q1
    simp only [List.map_nil, List.nil_append] at q1
    rw [q1]
    simp only [compEnd, List.length_map]
    rw [if_pos (by omega)]
    rfl
  have hfz : fzL (callM listF (consA (varM 0) nilA)) [.vw (ns.map .int), .un] = .ok (.list (ns.map .int)) [.vw (ns.map .int), .un] := rfl
  have hr : rnewM (callM listF (consA (varM 0) nilA)) (compM (srcM' (varM 0)) (tgN 1) (testM (bin geF (varM 1) (bin powF (constM (.int 10)) (constM (.int 18))))) (fzL (varM 1)) [1] [1]) [.vw (ns.map .int), .un] = .ok (.nb 0 (rngD ns l 0)) [.vw (ns.map .int), .un] := by
    unfold rnewM
    rw [hfz]
    simp only [R.bind_ok, hcomp, ints_map]
  unfold g__law_begun gOf
  rw [if_pos ⟨rfl, rfl⟩]
  have e0 : startA 2 [.vw (ns.map .int)] = [.vw (ns.map .int), .un] := rfl
  rw [e0]
  unfold m__law_begun retM
  rw [hr]
  rfl
end DL
end

section
set_option Elab.async false
set_option linter.all false
set_option maxRecDepth 100000
set_option autoImplicit false
set_option maxHeartbeats 4000000
/-! k70: a turn at each of the twelve values -/
namespace DL
open PySem PySem.Spec PyProof.Rows L2
def vals12 : List D := [.none, .int 0, .int 5, .int (-1), .str "a", .str "", .tuple [], .tuple [.int 1, .int 2], .list [], dicK [], .bool true, .int 1000000000000000000000000000000]
def restM : Gam → RS :=
  (seqM (setM 4 (lstM (consD (mkX "BadThings" "place" (varM 3)) (consD (mkX "BadChain" "value" (varM 3)) (consD (mkX "BadNumber" "value" (varM 3)) (consD (mkX "BadWindows" "value" (varM 3)) (consD (mkX "BadPaper" "place" (varM 3)) (consD (mkX "BadText" "line" (varM 3)) (consD (mkX "Unlike" "numbers" (varM 3)) nilD)))))))))
    (seqM (setM 5 (lstM (consD (mkX "BadThings" "place" (varM 3)) (consD (mkX "BadChain" "value" (varM 3)) (consD (mkX "BadNumber" "value" (varM 3)) (consD (mkX "BadWindows" "value" (varM 3)) (consD (mkX "BadPaper" "place" (varM 3)) nilD)))))))
    (seqM (setM 5 (bin addF (varM 5) (lstM (consD (mkX "BadText" "line" (varM 3)) (consD (mkX "Unlike" "numbers" (varM 3)) nilD)))))
    (forM (enumM (fzA (consD (varM 4) nilD))) (tgT 2 (tgCons (tgN 6) (tgCons (tgN 7) tgNil)))
    (seqM (ifS (orT (testM (bin (eqF true) (callM reprDF (consA (callM (callG g__law_field) (consA (varM 7) nilA)) nilA)) (callM reprDF (consA (varM 3) nilA)))) (testM (bin (eqF true) (callM reprDF (consA (callM (callG g__law_field) (consA (bin ixF (varM 5) (varM 6)) nilA)) nilA)) (callM reprDF (consA (varM 3) nilA)))))
    (retM (constM (.bool false)))
    nextM)
    (seqM (ifS (orT (testM (bin (eqF true) (callM (callG g__law_kinds) (consA (varM 7) nilA)) (compM (rg1M (consA (constM (.int 7)) nilA)) (tgN 9) yesM (fzL (bin (eqF false) (varM 9) (varM 6))) [9] [9]))) (testM (bin (eqF true) (callM (callG g__law_kinds) (consA (bin ixF (varM 5) (varM 6)) nilA)) (callM (callG g__law_kinds) (consA (varM 7) nilA)))))
    (retM (constM (.bool false)))
    nextM)
    (seqM (setM 8 (lstM (consD (isXM [("BadThings", true), ("BadChain", true), ("BadNumber", true), ("BadWindows", true), ("BadPaper", true), ("BadText", true), ("Unlike", false)] (varM 7)) (consD (isXM [("BadThings", true), ("BadChain", true), ("BadNumber", true), ("BadWindows", true), ("BadPaper", true), ("BadText", true), ("Unlike", false)] (varM 7)) (consD (isXM [("BadThings", false), ("BadChain", false), ("BadNumber", false), ("BadWindows", false), ("BadPaper", false), ("BadText", false), ("Unlike", true)] (varM 7)) nilD)))))
    (ifS (testM (bin (eqF true) (bin addF (varM 8) (lstM (consD (isXM [("BadThings", false), ("BadChain", false), ("BadNumber", false), ("BadWindows", false), ("BadPaper", false), ("BadText", false), ("Unlike", false)] (varM 7)) nilD))) (lstM (consD (bin ltF (varM 6) (constM (.int 6))) (consD (bin ltF (varM 6) (constM (.int 6))) (consD (bin (eqF false) (varM 6) (constM (.int 6))) (consD (constM (.bool false)) nilD)))))))
    (retM (constM (.bool false)))
    nextM))))))))
def turnM : Gam → RS := (seqM (setM 3 (callM (callG g__law_value) (consA (varM 1) nilA))) restM)
def aft (d : D) : List Slot := match restM [.un, .un, .un, .val d, .un, .un, .un, .un, .un, .un] with
  | .nx Γ => Γ.drop 4
  | _ => []
theorem aft_0 : (aft (.none)).length = 6 := by decide +kernel
theorem aft_1 : (aft (.int 0)).length = 6 := by decide +kernel
theorem aft_2 : (aft (.int 5)).length = 6 := by decide +kernel
theorem aft_3 : (aft (.int (-1))).length = 6 := by decide +kernel
theorem aft_4 : (aft (.str "a")).length = 6 := by decide +kernel
theorem aft_5 : (aft (.str "")).length = 6 := by decide +kernel
theorem aft_6 : (aft (.tuple [])).length = 6 := by decide +kernel
theorem aft_7 : (aft (.tuple [.int 1, .int 2])).length = 6 := by decide +kernel
theorem aft_8 : (aft (.list [])).length = 6 := by decide +kernel
theorem aft_9 : (aft (dicK [])).length = 6 := by decide +kernel
theorem aft_10 : (aft (.bool true)).length = 6 := by decide +kernel
theorem aft_11 : (aft (.int 1000000000000000000000000000000)).length = 6 := by decide +kernel
theorem rest_0 (X : List D) (s t x4 x5 x6 x7 x8 : Slot) : restM [.vw X, s, t, .val (.none), x4, x5, x6, x7, x8, .un] = .nx (.vw X :: s :: t :: .val (.none) :: aft (.none)) := by kernel_rfl
theorem rest_1 (X : List D) (s t x4 x5 x6 x7 x8 : Slot) : restM [.vw X, s, t, .val (.int 0), x4, x5, x6, x7, x8, .un] = .nx (.vw X :: s :: t :: .val (.int 0) :: aft (.int 0)) := by kernel_rfl
theorem rest_2 (X : List D) (s t x4 x5 x6 x7 x8 : Slot) : restM [.vw X, s, t, .val (.int 5), x4, x5, x6, x7, x8, .un] = .nx (.vw X :: s :: t :: .val (.int 5) :: aft (.int 5)) := by kernel_rfl
theorem rest_3 (X : List D) (s t x4 x5 x6 x7 x8 : Slot) : restM [.vw X, s, t, .val (.int (-1)), x4, x5, x6, x7, x8, .un] = .nx (.vw X :: s :: t :: .val (.int (-1)) :: aft (.int (-1))) := by kernel_rfl
theorem rest_4 (X : List D) (s t x4 x5 x6 x7 x8 : Slot) : restM [.vw X, s, t, .val (.str "a"), x4, x5, x6, x7, x8, .un] = .nx (.vw X :: s :: t :: .val (.str "a") :: aft (.str "a")) := by kernel_rfl
theorem rest_5 (X : List D) (s t x4 x5 x6 x7 x8 : Slot) : restM [.vw X, s, t, .val (.str ""), x4, x5, x6, x7, x8, .un] = .nx (.vw X :: s :: t :: .val (.str "") :: aft (.str "")) := by kernel_rfl
theorem rest_6 (X : List D) (s t x4 x5 x6 x7 x8 : Slot) : restM [.vw X, s, t, .val (.tuple []), x4, x5, x6, x7, x8, .un] = .nx (.vw X :: s :: t :: .val (.tuple []) :: aft (.tuple [])) := by kernel_rfl
theorem rest_7 (X : List D) (s t x4 x5 x6 x7 x8 : Slot) : restM [.vw X, s, t, .val (.tuple [.int 1, .int 2]), x4, x5, x6, x7, x8, .un] = .nx (.vw X :: s :: t :: .val (.tuple [.int 1, .int 2]) :: aft (.tuple [.int 1, .int 2])) := by kernel_rfl
theorem rest_8 (X : List D) (s t x4 x5 x6 x7 x8 : Slot) : restM [.vw X, s, t, .val (.list []), x4, x5, x6, x7, x8, .un] = .nx (.vw X :: s :: t :: .val (.list []) :: aft (.list [])) := by kernel_rfl
theorem rest_9 (X : List D) (s t x4 x5 x6 x7 x8 : Slot) : restM [.vw X, s, t, .val (dicK []), x4, x5, x6, x7, x8, .un] = .nx (.vw X :: s :: t :: .val (dicK []) :: aft (dicK [])) := by kernel_rfl
theorem rest_10 (X : List D) (s t x4 x5 x6 x7 x8 : Slot) : restM [.vw X, s, t, .val (.bool true), x4, x5, x6, x7, x8, .un] = .nx (.vw X :: s :: t :: .val (.bool true) :: aft (.bool true)) := by kernel_rfl
theorem rest_11 (X : List D) (s t x4 x5 x6 x7 x8 : Slot) : restM [.vw X, s, t, .val (.int 1000000000000000000000000000000), x4, x5, x6, x7, x8, .un] = .nx (.vw X :: s :: t :: .val (.int 1000000000000000000000000000000) :: aft (.int 1000000000000000000000000000000)) := by kernel_rfl
end DL
end

section
set_option Elab.async false
set_option linter.all false
set_option maxRecDepth 100000
set_option autoImplicit false
set_option maxHeartbeats 4000000
/-! k70: the plain law -/
namespace DL
open PySem PySem.Spec PyProof.Rows L2
def isUn : Slot → Bool
  | .un => true
  | _ => false
theorem isUn_ok {s : Slot} (h : isUn s = true) : s = .un := by
  cases s <;> first | rfl | cases h
theorem aft_form {d : D} (h : (aft d).length = 6) (h2 : ((aft d)[(5 : Nat)]?).map isUn = some true) : ∃ y4 y5 y6 y7 y8, aft d = [y4, y5, y6, y7, y8, .un] := by
  generalize aft d = l at h h2
  rcases l with _ | ⟨a, _ | ⟨b, _ | ⟨c, _ | ⟨e, _ | ⟨f, _ | ⟨g, _ | ⟨x, r⟩⟩⟩⟩⟩⟩⟩ <;> simp at h
  have : g = .un := isUn_ok (by simpa using h2)
  subst this
  exact ⟨a, b, c, e, f, rfl⟩
theorem rest_all (d : D) (hd : d ∈ vals12) (X : List D) (s t x4 x5 x6 x7 x8 : Slot) : ∃ y4 y5 y6 y7 y8, restM [.vw X, s, t, .val d, x4, x5, x6, x7, x8, .un] = .nx [.vw X, s, t, .val d, y4, y5, y6, y7, y8, .un] := by
  simp only [vals12, List.mem_cons, List.not_mem_nil, or_false] at hd
  have go : ∀ d : D, (aft d).length = 6 → ((aft d)[(5 : Nat)]?).map isUn = some true → restM [.vw X, s, t, .val d, x4, x5, x6, x7, x8, .un] = .nx (.vw X :: s :: t :: .val d :: aft d) → ∃ y4 y5 y6 y7 y8, restM [.vw X, s, t, .val d, x4, x5, x6, x7, x8, .un] = .nx [.vw X, s, t, .val d, y4, y5, y6, y7, y8, .un] := fun d h1 h2 e => by
    obtain ⟨y4, y5, y6, y7, y8, ea⟩ := aft_form h1 h2
    exact ⟨y4, y5, y6, y7, y8, by rw [e, ea]⟩
  rcases hd with rfl | rfl | rfl | rfl | rfl | rfl | rfl | rfl | rfl | rfl | rfl | rfl
  · exact go _ aft_0 (by decide +kernel) (rest_0 X s t x4 x5 x6 x7 x8)
  · exact go _ aft_1 (by decide +kernel) (rest_1 X s t x4 x5 x6 x7 x8)
  · exact go _ aft_2 (by decide +kernel) (rest_2 X s t x4 x5 x6 x7 x8)
  · exact go _ aft_3 (by decide +kernel) (rest_3 X s t x4 x5 x6 x7 x8)
  · exact go _ aft_4 (by decide +kernel) (rest_4 X s t x4 x5 x6 x7 x8)
  · exact go _ aft_5 (by decide +kernel) (rest_5 X s t x4 x5 x6 x7 x8)
  · exact go _ aft_6 (by decide +kernel) (rest_6 X s t x4 x5 x6 x7 x8)
  · exact go _ aft_7 (by decide +kernel) (rest_7 X s t x4 x5 x6 x7 x8)
  · exact go _ aft_8 (by decide +kernel) (rest_8 X s t x4 x5 x6 x7 x8)
  · exact go _ aft_9 (by decide +kernel) (rest_9 X s t x4 x5 x6 x7 x8)
  · exact go _ aft_10 (by decide +kernel) (rest_10 X s t x4 x5 x6 x7 x8)
  · exact go _ aft_11 (by decide +kernel) (rest_11 X s t x4 x5 x6 x7 x8)
theorem lst12 (s : Slot) : rd (lstM (consD (constM .none) (consD (constM (.int 0)) (consD (constM (.int 5)) (consD (unM negI (constM (.int 1))) (consD (constM (.str "a")) (consD (constM (.str "")) (consD (tupM nilD) (consD (tupM (consD (constM (.int 1)) (consD (constM (.int 2)) nilD))) (consD (lstM nilD) (consD dnewK (consD (constM (.bool true)) (consD (bin powF (constM (.int 10)) (constM (.int 30))) nilD))))))))))))) [s] = .ok (.f (.list vals12)) [s] := by kernel_rfl
theorem value_spec {s : Slot} {n : Int} (hb : Bx n s none) (hn : n < 100000) : ∃ d s', g__law_value [s] = .ok (.f d) [s'] ∧ d ∈ vals12 ∧ Bx (n + 1) s' none := by
  obtain ⟨c, l, a, rfl, h1, h2, h3, h4⟩ := hb
  have hb' : Bx n (.box 0 (some 0) (rngD c l a)) (some 0) := ⟨c, l, a, rfl, h1, h2, h3, h4⟩
  obtain ⟨r, s', e, b, r0, r1⟩ := draw (m := constM (.int 12)) (rest := []) hb' (by omega) (by decide : (1 : Int) ≤ 12) (by decide) rfl
  obtain ⟨c', l', a', rfl, g1, g2, g3, g4⟩ := b
  have hx : ∃ d, d ∈ vals12 ∧ ixF [.box 0 (some 0) (rngD c' l' a')] (.f (.list vals12)) (.f (.int r)) = .ok (.f d) [.box 0 (some 0) (rngD c' l' a')] := by
    have q : ∃ d, d ∈ vals12 ∧ atI vals12 r = some d := by
      obtain ⟨k, rfl⟩ : ∃ k : Nat, r = k := ⟨r.toNat, by omega⟩
      have hk : k < vals12.length := by
        show k < 12
        omega
      exact ⟨vals12[k], List.getElem_mem hk, atI_nat (by rw [List.getElem?_eq_getElem hk])⟩
    obtain ⟨d, q1, q2⟩ := q
    refine ⟨d, q1, ?_⟩
    unfold ixF
    simp only [viewD]
    rw [q2]
  obtain ⟨d, q1, q2⟩ := hx
  refine ⟨d, .box 0 none (rngD c' l' a'), ?_, q1, ⟨c', l', a', rfl, g1, g2, g3, g4⟩⟩
  unfold g__law_value gOf
  rw [if_pos ⟨rfl, rfl⟩]
  have e0 : startA 1 [.box 0 none (rngD c l a)] = [.box 0 (some 0) (rngD c l a)] := rfl
  rw [e0]
  have e2 : rd (callM (callG g__law_next) (consA (varM 0) (consA (constM (.int 12)) nilA))) [.box 0 (some 0) (rngD c l a)] = .ok (.f (.int r)) [.box 0 (some 0) (rngD c' l' a')] := by
    unfold rd
    rw [e]
    rfl
  have eb : ∀ L : Gam → R Val, rd L [.box 0 (some 0) (rngD c l a)] = .ok (.f (.list vals12)) [.box 0 (some 0) (rngD c l a)] → bin ixF L (callM (callG g__law_next) (consA (varM 0) (consA (constM (.int 12)) nilA))) [.box 0 (some 0) (rngD c l a)] = .ok (.f d) [.box 0 (some 0) (rngD c' l' a')] := fun L hL => by
    unfold bin
    rw [hL]
    simp only [R.bind_ok]
    rw [e2]
    simp only [R.bind_ok]
    rw [q2]
  unfold m__law_value retM
  rw [eb _ (lst12 _)]
  rfl
theorem value_call {X : List D} {s : Slot} {n : Int} {rest : List Slot} (hb : Bx n s none) (hn : n < 100000) :
    ∃ d s', callM (callG g__law_value) (consA (varM 1) nilA) (.vw X :: s :: rest) = .ok (.f d) (.vw X :: s' :: rest) ∧ d ∈ vals12 ∧ Bx (n + 1) s' none := by
  obtain ⟨d, s', q1, q3, q2⟩ := value_spec hb hn
  refine ⟨d, s', ?_, q3, q2⟩
  obtain ⟨c, l, a, rfl, _⟩ := hb
  obtain ⟨c2, l2, a2, rfl, _⟩ := q2
  have hv : rd (varM 1) (.vw X :: .box 0 none (rngD c l a) :: rest) = .ok (.b 1) (.vw X :: .box 0 none (rngD c l a) :: rest) := rfl
  simp only [callM, consA, hv, R.bind_ok, nilA, callG, headBx, List.getElem?_cons_zero, List.getElem?_cons_succ, isBx, if_true, callX, argsF, fzV, List.map_cons, List.map_nil, unpin]
  rw [q1]
  rfl
theorem turn_ok {X : List D} {s x2 x3 x4 x5 x6 x7 x8 : Slot} {n : Int} (hb : Bx n s none) (hn : n < 50000) : ∃ s' y3 y4 y5 y6 y7 y8, turnM [.vw X, s, x2, x3, x4, x5, x6, x7, x8, .un] = .nx [.vw X, s', x2, y3, y4, y5, y6, y7, y8, .un] ∧ Bx (n + 1) s' none := by
  obtain ⟨d, s', e, hd, hb'⟩ := value_call (X := X) (rest := [x2, x3, x4, x5, x6, x7, x8, .un]) hb (by omega)
  obtain ⟨y4, y5, y6, y7, y8, er⟩ := rest_all d hd X s' x2 x4 x5 x6 x7 x8
  have h1 : setM 3 (callM (callG g__law_value) (consA (varM 1) nilA)) [.vw X, s, x2, x3, x4, x5, x6, x7, x8, .un] = .nx [.vw X, s', x2, .val d, x4, x5, x6, x7, x8, .un] := by
    rw [setM, e]
    rfl
  refine ⟨s', .val d, y4, y5, y6, y7, y8, ?_, hb'⟩
  unfold turnM
  rw [seqM_nx h1, er]
theorem turns_ok {X : List D} : ∀ (ds : List D) (n : Int) (s x2 x3 x4 x5 x6 x7 x8 : Slot), Bx n s none → n + ds.length < 50000 → ∃ s' y2 y3 y4 y5 y6 y7 y8, forGo (tgN 2) turnM ds [.vw X, s, x2, x3, x4, x5, x6, x7, x8, .un] = .nx [.vw X, s', y2, y3, y4, y5, y6, y7, y8, .un]
  | [], n, s, x2, x3, x4, x5, x6, x7, x8, _, _ => ⟨s, x2, x3, x4, x5, x6, x7, x8, rfl⟩
  | d :: ds, n, s, x2, x3, x4, x5, x6, x7, x8, hb, hn => by
    simp only [List.length_cons] at hn
    obtain ⟨s', y3, y4, y5, y6, y7, y8, e, b⟩ := turn_ok (X := X) (x2 := .val d) (x3 := x3) (x4 := x4) (x5 := x5) (x6 := x6) (x7 := x7) (x8 := x8) hb (by omega)
    have t : tgN 2 d [.vw X, s, x2, x3, x4, x5, x6, x7, x8, .un] = some [.vw X, s, .val d, x3, x4, x5, x6, x7, x8, .un] := rfl
    obtain ⟨s2, z2, z3, z4, z5, z6, z7, z8, q⟩ := turns_ok (X := X) ds (n + 1) s' (.val d) y3 y4 y5 y6 y7 y8 b (by omega)
    refine ⟨s2, z2, z3, z4, z5, z6, z7, z8, ?_⟩
    rw [forGo]
    simp only [t, e]
    exact q
theorem plain_law (ns : List Int) (h : ns.length ≤ 63) : isTru (g_law [.vw (ns.map .int)]) = true := by
  obtain ⟨l, As, e, hl⟩ := begun_ok ns h
  have hb : Bx 0 (.box 0 none (rngD ns l 0)) none := ⟨ns, l, 0, rfl, by omega, by omega, by omega, by omega⟩
  generalize hX : ns.map PyData.int = X at e ⊢
  have hXl : X.length ≤ 63 := by rw [← hX]; simpa using h
  unfold g_law gOf
  rw [if_pos ⟨rfl, rfl⟩]
  have e0 : startA 10 [.vw X] = [.vw X, .un, .un, .un, .un, .un, .un, .un, .un, .un] := rfl
  rw [e0]
  unfold m_law
  have h1 : setM 1 (callW g__law_begun 0) [.vw X, .un, .un, .un, .un, .un, .un, .un, .un, .un] = .nx [.vw X, .box 0 none (rngD ns l 0), .un, .un, .un, .un, .un, .un, .un, .un] := by
    have : callW g__law_begun 0 [.vw X, .un, .un, .un, .un, .un, .un, .un, .un, .un] = .ok (.nb 0 (rngD ns l 0)) [.vw X, .un, .un, .un, .un, .un, .un, .un, .un, .un] := by
      simp only [callW, List.getElem?_cons_zero]
      rw [e]
      rfl
    rw [setM, this]
    rfl
  rw [seqM_nx h1]
  obtain ⟨k, hk, hi⟩ : ∃ k : Int, (0 ≤ k ∧ k ≤ 8) ∧ rg1M (consA (bin addF (constM (.int 2)) (callM min2F (consA (callM lenF (consA (varM 0) nilA)) (consA (constM (.int 6)) nilA)))) nilA) [.vw X, .box 0 none (rngD ns l 0), .un, .un, .un, .un, .un, .un, .un, .un] = .ok ⟨rangeD 0 k.toNat, none⟩ [.vw X, .box 0 none (rngD ns l 0), .un, .un, .un, .un, .un, .un, .un, .un] := by
    refine ⟨2 + (if (6 : Int) < (X.length : Int) then 6 else (X.length : Int)), ?_, ?_⟩
    · split <;> omega
    · refine rg_ok ?_ (by split <;> omega) (by split <;> omega)
      refine bin_ok (d := .int 2) (e := .int (if (6 : Int) < (X.length : Int) then 6 else (X.length : Int))) rfl ?_ rfl
      rfl
  have hrl : (rangeD 0 k.toNat).length ≤ 8 := by
    simp only [rangeD, List.length_map, List.length_range]
    omega
  obtain ⟨s', y2, y3, y4, y5, y6, y7, y8, q⟩ := turns_ok (X := X) (rangeD 0 k.toNat) 0 _ .un .un .un .un .un .un .un hb (by omega)
  have h2 : forM (rg1M (consA (bin addF (constM (.int 2)) (callM min2F (consA (callM lenF (consA (varM 0) nilA)) (consA (constM (.int 6)) nilA)))) nilA)) (tgN 2) turnM [.vw X, .box 0 none (rngD ns l 0), .un, .un, .un, .un, .un, .un, .un, .un] = .nx [.vw X, s', y2, y3, y4, y5, y6, y7, y8, .un] := by
    unfold forM
    rw [hi]
    exact q
  unfold turnM restM at h2
  rw [seqM_nx h2]
  rfl
end DL
end

section
set_option Elab.async false
set_option linter.all false
set_option maxRecDepth 100000
set_option autoImplicit false
set_option maxHeartbeats 0
namespace DL
open PySem PySem.Spec PyProof.Rows L2
def d__law_begun : He.DefD := ⟨("_law_begun", none), "_law_begun", "_law_begun", defArgs s__law_begun, defBody s__law_begun, defScope s__law_begun, [], []⟩
def d__law_next : He.DefD := ⟨("_law_next", none), "_law_next", "_law_next", defArgs s__law_next, defBody s__law_next, defScope s__law_next, [], []⟩
def d__law_value : He.DefD := ⟨("_law_value", none), "_law_value", "_law_value", defArgs s__law_value, defBody s__law_value, defScope s__law_value, [], []⟩
def d__law_kinds : He.DefD := ⟨("_law_kinds", none), "_law_kinds", "_law_kinds", defArgs s__law_kinds, defBody s__law_kinds, defScope s__law_kinds, [], []⟩
def d__law_field : He.DefD := ⟨("_law_field", none), "_law_field", "_law_field", defArgs s__law_field, defBody s__law_field, defScope s__law_field, [], []⟩
def d_law : He.DefD := ⟨("law", none), "law", "law", defArgs s_law, defBody s_law, defScope s_law, [], []⟩
def hfn0 : List He.DefD := [d__law_begun, d__law_next, d__law_value, d__law_kinds, d__law_field, d_law]
def hfn : List He.DefD := hfn0
def hfa0 : List He.Fa := [.glo "_law_begun", .glo "_law_next", .glo "_law_value", .glo "_law_kinds", .glo "_law_field", .glo "law", .free "list", .free "int", .free "len", .glo "BadNumber", .free "isinstance", .glo "BadChain"]
def hfa1 : List He.Fa := [.glo "BadThings", .glo "BadText", .glo "BadPaper", .glo "BadWindows", .glo "Unlike", .free "range", .free "min", .free "enumerate", .free "repr", .free "LookupError", .free "ValueError", .glo "HoleError"]
def hfa2 : List He.Fa := [.free "KeyError", .free "IndexError"]
def hfa : List He.Fa := hfa0 ++ hfa1 ++ hfa2
def askN : List Str := ["BadThings", "BadChain", "BadNumber", "BadWindows", "BadPaper", "BadText", "Unlike"]
def exK (K : PySem.W.Frag) : Bool := (excB K "ValueError" "ValueError.__new__" "ValueError.__init__" [.type "ValueError", .type "Exception", .type "BaseException", .type "object"] "BadNumber" "value" "value") && (askN.all fun c => askB K (He.ga K c)) && (isxB K (.ref (He.ga K "BadNumber")) [("BadThings", false), ("BadChain", false), ("BadNumber", true), ("BadWindows", false), ("BadPaper", false), ("BadText", false), ("Unlike", false)]) && (excB K "ValueError" "ValueError.__new__" "ValueError.__init__" [.type "ValueError", .type "Exception", .type "BaseException", .type "object"] "BadChain" "value" "value") && (isxB K (.ref (He.ga K "BadChain")) [("BadThings", false), ("BadChain", true), ("BadNumber", false), ("BadWindows", false), ("BadPaper", false), ("BadText", false), ("Unlike", false)]) && (excB K "ValueError" "ValueError.__new__" "ValueError.__init__" [.type "ValueError", .type "Exception", .type "BaseException", .type "object"] "BadThings" "place" "place") && (isxB K (.ref (He.ga K "BadThings")) [("BadThings", true), ("BadChain", false), ("BadNumber", false), ("BadWindows", false), ("BadPaper", false), ("BadText", false), ("Unlike", false)]) && (excB K "ValueError" "ValueError.__new__" "ValueError.__init__" [.type "ValueError", .type "Exception", .type "BaseException", .type "object"] "BadText" "line" "line") && (isxB K (.ref (He.ga K "BadText")) [("BadThings", false), ("BadChain", false), ("BadNumber", false), ("BadWindows", false), ("BadPaper", false), ("BadText", true), ("Unlike", false)]) && (excB K "ValueError" "ValueError.__new__" "ValueError.__init__" [.type "ValueError", .type "Exception", .type "BaseException", .type "object"] "BadPaper" "place" "place") && (isxB K (.ref (He.ga K "BadPaper")) [("BadThings", false), ("BadChain", false), ("BadNumber", false), ("BadWindows", false), ("BadPaper", true), ("BadText", false), ("Unlike", false)]) && (excB K "ValueError" "ValueError.__new__" "ValueError.__init__" [.type "ValueError", .type "Exception", .type "BaseException", .type "object"] "BadWindows" "value" "value") && (isxB K (.ref (He.ga K "BadWindows")) [("BadThings", false), ("BadChain", false), ("BadNumber", false), ("BadWindows", true), ("BadPaper", false), ("BadText", false), ("Unlike", false)]) && (excB K "LookupError" "LookupError.__new__" "LookupError.__init__" [.type "LookupError", .type "Exception", .type "BaseException", .type "object"] "Unlike" "numbers" "numbers") && (isxB K (.ref (He.ga K "Unlike")) [("BadThings", false), ("BadChain", false), ("BadNumber", false), ("BadWindows", false), ("BadPaper", false), ("BadText", false), ("Unlike", true)]) && (isxtB K [(.ref (He.ga K "BadThings")), (.ref (He.ga K "BadPaper"))] [("BadThings", true), ("BadChain", false), ("BadNumber", false), ("BadWindows", false), ("BadPaper", true), ("BadText", false), ("Unlike", false)]) && (xfkB K ["BadThings", "BadPaper"] "place") && (isxtB K [(.ref (He.ga K "BadChain")), (.ref (He.ga K "BadNumber")), (.ref (He.ga K "BadWindows"))] [("BadThings", false), ("BadChain", true), ("BadNumber", true), ("BadWindows", true), ("BadPaper", false), ("BadText", false), ("Unlike", false)]) && (xfkB K ["BadChain", "BadNumber", "BadWindows"] "value") && (xfkB K ["BadText"] "line") && (xfkB K ["Unlike"] "numbers") && (isxB K (.type "LookupError") [("BadThings", false), ("BadChain", false), ("BadNumber", false), ("BadWindows", false), ("BadPaper", false), ("BadText", false), ("Unlike", true)]) && (isxB K (.type "ValueError") [("BadThings", true), ("BadChain", true), ("BadNumber", true), ("BadWindows", true), ("BadPaper", true), ("BadText", true), ("Unlike", false)]) && (isxB K (.ref (He.ga K "HoleError")) [("BadThings", true), ("BadChain", true), ("BadNumber", true), ("BadWindows", true), ("BadPaper", true), ("BadText", true), ("Unlike", false)]) && (isxtB K [(.type "KeyError"), (.type "IndexError")] [("BadThings", false), ("BadChain", false), ("BadNumber", false), ("BadWindows", false), ("BadPaper", false), ("BadText", false), ("Unlike", false)]) && (exnB K [.type "ValueError", .type "Exception", .type "BaseException", .type "object"] "ValueError.__new__" "HoleError") && (oB (PySem.W.kitOne K (.ref (He.ga K "HoleError")) (.type "ValueError")) (some true))
abbrev hR : PySem.W.OpenRow := PySem.W.OpenLaw.row PySem.Challenge.rw_holebirth_k70_errors
abbrev hkE : PySem.W.Hook := hookF 5 hfa hfn exK
def obE (s : PySem.W.SharedT) : AlE := obsF 5 hfa hfn exK (HandSHeadRun.getT s)
theorem obE_eq (s : PySem.W.SharedT) : obE s = hkE.obs s.abs := obsF_eq (HandSHeadRun.getT_eq s)
def lnames0 : List PySem.Str := [("HoleError" : PySem.Str), ("BadThings" : PySem.Str), ("BadChain" : PySem.Str), ("BadNumber" : PySem.Str), ("BadWindows" : PySem.Str), ("BadPaper" : PySem.Str), ("BadText" : PySem.Str), ("Unlike" : PySem.Str), ("_law_begun" : PySem.Str), ("_law_next" : PySem.Str), ("_law_value" : PySem.Str), ("_law_kinds" : PySem.Str)]
def lnames1 : List PySem.Str := [("_law_field" : PySem.Str)]
def lnames : List PySem.Str := lnames0 ++ lnames1
theorem hrun (w : World) : HandSHeadRun.RunEq hR (PySem.W.view hR.prog [15]) hkE obE 4000 lnames w := by
  intro os
  kernel_rfl
end DL
end

section
set_option Elab.async false
set_option linter.all false
set_option maxRecDepth 100000
set_option autoImplicit false
set_option maxHeartbeats 4000000
namespace DL
open PySem PySem.Spec PyProof.Rows L2
section
variable {P : Program} {w : World} {K : PySem.W.Frag} {h base : Heap} {mg : Str → Option Value}
theorem askN_ok {K : PySem.W.Frag} {cs : List Str} (h : (cs.all fun c => askB K (He.ga K c)) = true) {tbl : List (Str × Bool)} (e : tbl.map (·.1) = cs) : AskX K (He.ga K) tbl := fun c b hl => askB_ok (List.all_eq_true.mp h c (by
  rw [← e]
  exact List.mem_map.mpr ⟨(c, b), look_mem hl, rfl⟩))
theorem same_fdG {P : Program} {w : World} {K : PySem.W.Frag} {mg : Str → Option Value} {base : Heap} {CX : CXT} {k : Nat} {x qual : Str} {params : Arguments} {body : List Stmt} {scope : Scope} {f : Addr} {fd fd' : FuncData} {ps : List Str} {sp : Sp}
    (F : FunD K x qual params body scope [] [] f fd) (F' : FunD K x qual params body scope [] [] f fd') (O : FnGd P w K mg base CX k f fd' ps sp) : FnGd P w K mg base CX k f fd ps sp := by
  obtain ⟨oc, od, dV, kV, doc, pm, an, cdv, ct, osl, e1, l1, _⟩ := F.ex
  obtain ⟨oc', od', dV', kV', doc', pm', an', cdv', ct', osl', e2, l2, _⟩ := F'.ex
  rw [l1] at l2
  simp only [Option.some.injEq, Obj.mk.injEq, Data.func.injEq] at l2
  rw [l2.2.2.1]
  exact O
theorem law_ok (hP : PrgOk P) (X : K.In h) (G : h.Ns mainGlobals mg) (c : He.SaysD hfa hfn K) (ce : exK K = true) : ∃ fd, FunD K "law" "law" (defArgs s_law) (defBody s_law) (defScope s_law) [] [] (He.ga K "law") fd ∧ FnGd P w K mg base (L2.CX P w) 4 (He.ga K "law") fd ["_law_script"] (spG ⟨K, He.ga K, none⟩ g_law) := by
  have ce0 := ce
  simp only [exK, Bool.and_eq_true] at ce0
  have V_BadNumber : ExcK P w K mg base (He.ga K) "BadNumber" "value" := excB_ok X G hP base_VE (.inr (.inl rfl)) ce0.1.1.1.1.1.1.1.1.1.1.1.1.1.1.1.1.1.1.1.1.1.1.1.1.1.1
  have EK_BadNumber : ExcQ P w K mg base (He.ga K) "BadNumber" "value" "value" := excB_okQ X G hP base_VE (.inr (.inl rfl)) ce0.1.1.1.1.1.1.1.1.1.1.1.1.1.1.1.1.1.1.1.1.1.1.1.1.1.1
  have hASK := ce0.1.1.1.1.1.1.1.1.1.1.1.1.1.1.1.1.1.1.1.1.1.1.1.1.1.2
  have Y_BadNumber := isxB_ok ce0.1.1.1.1.1.1.1.1.1.1.1.1.1.1.1.1.1.1.1.1.1.1.1.1.2
  have V_BadChain : ExcK P w K mg base (He.ga K) "BadChain" "value" := excB_ok X G hP base_VE (.inr (.inl rfl)) ce0.1.1.1.1.1.1.1.1.1.1.1.1.1.1.1.1.1.1.1.1.1.1.1.2
  have EK_BadChain : ExcQ P w K mg base (He.ga K) "BadChain" "value" "value" := excB_okQ X G hP base_VE (.inr (.inl rfl)) ce0.1.1.1.1.1.1.1.1.1.1.1.1.1.1.1.1.1.1.1.1.1.1.1.2
  have Y_BadChain := isxB_ok ce0.1.1.1.1.1.1.1.1.1.1.1.1.1.1.1.1.1.1.1.1.1.1.2
  have V_BadThings : ExcK P w K mg base (He.ga K) "BadThings" "place" := excB_ok X G hP base_VE (.inl rfl) ce0.1.1.1.1.1.1.1.1.1.1.1.1.1.1.1.1.1.1.1.1.1.2
  have EK_BadThings : ExcQ P w K mg base (He.ga K) "BadThings" "place" "place" := excB_okQ X G hP base_VE (.inl rfl) ce0.1.1.1.1.1.1.1.1.1.1.1.1.1.1.1.1.1.1.1.1.1.2
  have Y_BadThings := isxB_ok ce0.1.1.1.1.1.1.1.1.1.1.1.1.1.1.1.1.1.1.1.1.2
  have V_BadText : ExcK P w K mg base (He.ga K) "BadText" "line" := excB_ok X G hP base_VE (.inr (.inr (.inl rfl))) ce0.1.1.1.1.1.1.1.1.1.1.1.1.1.1.1.1.1.1.1.2
  have EK_BadText : ExcQ P w K mg base (He.ga K) "BadText" "line" "line" := excB_okQ X G hP base_VE (.inr (.inr (.inl rfl))) ce0.1.1.1.1.1.1.1.1.1.1.1.1.1.1.1.1.1.1.1.2
  have Y_BadText := isxB_ok ce0.1.1.1.1.1.1.1.1.1.1.1.1.1.1.1.1.1.1.2
  have V_BadPaper : ExcK P w K mg base (He.ga K) "BadPaper" "place" := excB_ok X G hP base_VE (.inl rfl) ce0.1.1.1.1.1.1.1.1.1.1.1.1.1.1.1.1.1.2
  have EK_BadPaper : ExcQ P w K mg base (He.ga K) "BadPaper" "place" "place" := excB_okQ X G hP base_VE (.inl rfl) ce0.1.1.1.1.1.1.1.1.1.1.1.1.1.1.1.1.1.2
  have Y_BadPaper := isxB_ok ce0.1.1.1.1.1.1.1.1.1.1.1.1.1.1.1.1.2
  have V_BadWindows : ExcK P w K mg base (He.ga K) "BadWindows" "value" := excB_ok X G hP base_VE (.inr (.inl rfl)) ce0.1.1.1.1.1.1.1.1.1.1.1.1.1.1.1.2
  have EK_BadWindows : ExcQ P w K mg base (He.ga K) "BadWindows" "value" "value" := excB_okQ X G hP base_VE (.inr (.inl rfl)) ce0.1.1.1.1.1.1.1.1.1.1.1.1.1.1.1.2
  have Y_BadWindows := isxB_ok ce0.1.1.1.1.1.1.1.1.1.1.1.1.1.1.2
  have V_Unlike : ExcK P w K mg base (He.ga K) "Unlike" "numbers" := excB_ok X G hP base_LE (.inr (.inr (.inr rfl))) ce0.1.1.1.1.1.1.1.1.1.1.1.1.1.2
  have EK_Unlike : ExcQ P w K mg base (He.ga K) "Unlike" "numbers" "numbers" := excB_okQ X G hP base_LE (.inr (.inr (.inr rfl))) ce0.1.1.1.1.1.1.1.1.1.1.1.1.1.2
  have Y_Unlike := isxB_ok ce0.1.1.1.1.1.1.1.1.1.1.1.1.2
  have YT_BadThings_BadPaper := isxtB_ok ce0.1.1.1.1.1.1.1.1.1.1.1.2
  have J_place := xfkB_ok ce0.1.1.1.1.1.1.1.1.1.1.2
  have YT_BadChain_BadNumber_BadWindows := isxtB_ok ce0.1.1.1.1.1.1.1.1.1.2
  have J_value := xfkB_ok ce0.1.1.1.1.1.1.1.1.2
  have J_line := xfkB_ok ce0.1.1.1.1.1.1.1.2
  have J_numbers := xfkB_ok ce0.1.1.1.1.1.1.2
  have Y_LookupError := isxB_ok ce0.1.1.1.1.1.2
  have Y_ValueError := isxB_ok ce0.1.1.1.1.2
  have Y_HoleError := isxB_ok ce0.1.1.1.2
  have YT_KeyError_IndexError := isxtB_ok ce0.1.1.2
  have NX_HoleError : ExN K mg (He.ga K) "HoleError" := exnB_ok X G base_VE ce0.1.2
  have KX_HoleError_ValueError := of_decide_eq_true ce0.2
  have B_list : mg "list" = none := He.free_ok X G (c.fact 6 rfl)
  have B_int : mg "int" = none := He.free_ok X G (c.fact 7 rfl)
  have B_len : mg "len" = none := He.free_ok X G (c.fact 8 rfl)
  have AX_BadNumber : AskX K (He.ga K) [("BadThings", false), ("BadChain", false), ("BadNumber", true), ("BadWindows", false), ("BadPaper", false), ("BadText", false), ("Unlike", false)] := askN_ok hASK rfl
  have B_isinstance : mg "isinstance" = none := He.free_ok X G (c.fact 10 rfl)
  have AX_BadChain : AskX K (He.ga K) [("BadThings", false), ("BadChain", true), ("BadNumber", false), ("BadWindows", false), ("BadPaper", false), ("BadText", false), ("Unlike", false)] := askN_ok hASK rfl
  have AX_BadThings : AskX K (He.ga K) [("BadThings", true), ("BadChain", false), ("BadNumber", false), ("BadWindows", false), ("BadPaper", false), ("BadText", false), ("Unlike", false)] := askN_ok hASK rfl
  have AX_BadText : AskX K (He.ga K) [("BadThings", false), ("BadChain", false), ("BadNumber", false), ("BadWindows", false), ("BadPaper", false), ("BadText", true), ("Unlike", false)] := askN_ok hASK rfl
  have AX_BadPaper : AskX K (He.ga K) [("BadThings", false), ("BadChain", false), ("BadNumber", false), ("BadWindows", false), ("BadPaper", true), ("BadText", false), ("Unlike", false)] := askN_ok hASK rfl
  have AX_BadWindows : AskX K (He.ga K) [("BadThings", false), ("BadChain", false), ("BadNumber", false), ("BadWindows", true), ("BadPaper", false), ("BadText", false), ("Unlike", false)] := askN_ok hASK rfl
  have AX_Unlike : AskX K (He.ga K) [("BadThings", false), ("BadChain", false), ("BadNumber", false), ("BadWindows", false), ("BadPaper", false), ("BadText", false), ("Unlike", true)] := askN_ok hASK rfl
  have AX_BadThings_BadPaper : AskX K (He.ga K) [("BadThings", true), ("BadChain", false), ("BadNumber", false), ("BadWindows", false), ("BadPaper", true), ("BadText", false), ("Unlike", false)] := askN_ok hASK rfl
  have AX_BadChain_BadNumber_BadWindows : AskX K (He.ga K) [("BadThings", false), ("BadChain", true), ("BadNumber", true), ("BadWindows", true), ("BadPaper", false), ("BadText", false), ("Unlike", false)] := askN_ok hASK rfl
  have B_range : mg "range" = none := He.free_ok X G (c.fact 17 rfl)
  have B_min : mg "min" = none := He.free_ok X G (c.fact 18 rfl)
  have B_enumerate : mg "enumerate" = none := He.free_ok X G (c.fact 19 rfl)
  have B_repr : mg "repr" = none := He.free_ok X G (c.fact 20 rfl)
  have B_LookupError : mg "LookupError" = none := He.free_ok X G (c.fact 21 rfl)
  have AX_LookupError : AskX K (He.ga K) [("BadThings", false), ("BadChain", false), ("BadNumber", false), ("BadWindows", false), ("BadPaper", false), ("BadText", false), ("Unlike", true)] := askN_ok hASK rfl
  have B_ValueError : mg "ValueError" = none := He.free_ok X G (c.fact 22 rfl)
  have AX_ValueError : AskX K (He.ga K) [("BadThings", true), ("BadChain", true), ("BadNumber", true), ("BadWindows", true), ("BadPaper", true), ("BadText", true), ("Unlike", false)] := askN_ok hASK rfl
  have GX_HoleError : mg "HoleError" = some (.ref (He.ga K "HoleError")) := He.glo_ok X G (c.fact 23 rfl)
  have AX_HoleError : AskX K (He.ga K) [("BadThings", true), ("BadChain", true), ("BadNumber", true), ("BadWindows", true), ("BadPaper", true), ("BadText", true), ("Unlike", false)] := askN_ok hASK rfl
  have B_KeyError : mg "KeyError" = none := He.free_ok X G (c.fact 24 rfl)
  have B_IndexError : mg "IndexError" = none := He.free_ok X G (c.fact 25 rfl)
  have AX_KeyError_IndexError : AskX K (He.ga K) [("BadThings", false), ("BadChain", false), ("BadNumber", false), ("BadWindows", false), ("BadPaper", false), ("BadText", false), ("Unlike", false)] := askN_ok hASK rfl
  obtain ⟨fd__law_begun, F__law_begun⟩ := c.def_ 0 (d := d__law_begun) rfl
  have O__law_begun : FnOk P w K mg base (L2.CX P w) 1 _ fd__law_begun ["_law_script"] (spG ⟨K, He.ga K, none⟩ g__law_begun) := ok__law_begun F__law_begun B_list
  have b__law_begun : Binds K fd__law_begun ["_law_script"] [] := FunD.bindsN (ps := ["_law_script"]) F__law_begun fun _ _ _ _ _ _ us hl => match us, hl with | [_], _ => rfl
  have C__law_begun : FnC P w K mg base (He.ga K) "_law_begun" 1 g__law_begun := ⟨_, fd__law_begun, ["_law_script"], O__law_begun, He.glo_ok X G (c.fact 0 rfl), F__law_begun.kp, b__law_begun⟩
  obtain ⟨fd__law_next, F__law_next⟩ := c.def_ 1 (d := d__law_next) rfl
  have O__law_next : FnOk P w K mg base (L2.CX P w) 1 _ fd__law_next ["_law_m", "_law_many"] (spG ⟨K, He.ga K, none⟩ g__law_next) := ok__law_next F__law_next B_int B_len
  have b__law_next : Binds K fd__law_next ["_law_m", "_law_many"] [] := FunD.bindsN (ps := ["_law_m", "_law_many"]) F__law_next fun _ _ _ _ _ _ us hl => match us, hl with | [_, _], _ => rfl
  have C__law_next : FnC P w K mg base (He.ga K) "_law_next" 1 g__law_next := ⟨_, fd__law_next, ["_law_m", "_law_many"], O__law_next, He.glo_ok X G (c.fact 1 rfl), F__law_next.kp, b__law_next⟩
  obtain ⟨fd__law_value, F__law_value⟩ := c.def_ 2 (d := d__law_value) rfl
  have O__law_value : FnOk P w K mg base (L2.CX P w) 2 _ fd__law_value ["_law_m"] (spG ⟨K, He.ga K, none⟩ g__law_value) := ok__law_value F__law_value C__law_next
  have b__law_value : Binds K fd__law_value ["_law_m"] [] := FunD.bindsN (ps := ["_law_m"]) F__law_value fun _ _ _ _ _ _ us hl => match us, hl with | [_], _ => rfl
  have C__law_value : FnC P w K mg base (He.ga K) "_law_value" 2 g__law_value := ⟨_, fd__law_value, ["_law_m"], O__law_value, He.glo_ok X G (c.fact 2 rfl), F__law_value.kp, b__law_value⟩
  obtain ⟨fd__law_kinds, F__law_kinds⟩ := c.def_ 3 (d := d__law_kinds) rfl
  have O__law_kinds : FnOk P w K mg base (L2.CX P w) 3 _ fd__law_kinds ["_law_one"] (spG ⟨K, He.ga K, none⟩ g__law_kinds) := ok__law_kinds F__law_kinds V_BadNumber AX_BadNumber Y_BadNumber B_isinstance V_BadChain AX_BadChain Y_BadChain V_BadThings AX_BadThings Y_BadThings V_BadText AX_BadText Y_BadText V_BadPaper AX_BadPaper Y_BadPaper V_BadWindows AX_BadWindows Y_BadWindows V_Unlike AX_Unlike Y_Unlike
  have b__law_kinds : Binds K fd__law_kinds ["_law_one"] [] := FunD.bindsN (ps := ["_law_one"]) F__law_kinds fun _ _ _ _ _ _ us hl => match us, hl with | [_], _ => rfl
  have C__law_kinds : FnC P w K mg base (He.ga K) "_law_kinds" 3 g__law_kinds := ⟨_, fd__law_kinds, ["_law_one"], O__law_kinds, He.glo_ok X G (c.fact 3 rfl), F__law_kinds.kp, b__law_kinds⟩
  obtain ⟨fd__law_field, F__law_field⟩ := c.def_ 4 (d := d__law_field) rfl
  have O__law_field : FnOk P w K mg base (L2.CX P w) 3 _ fd__law_field ["_law_one"] (spG ⟨K, He.ga K, none⟩ g__law_field) := ok__law_field F__law_field V_BadThings V_BadPaper AX_BadThings_BadPaper YT_BadThings_BadPaper B_isinstance J_place V_BadChain V_BadNumber V_BadWindows AX_BadChain_BadNumber_BadWindows YT_BadChain_BadNumber_BadWindows J_value V_BadText AX_BadText Y_BadText J_line J_numbers
  have b__law_field : Binds K fd__law_field ["_law_one"] [] := FunD.bindsN (ps := ["_law_one"]) F__law_field fun _ _ _ _ _ _ us hl => match us, hl with | [_], _ => rfl
  have C__law_field : FnC P w K mg base (He.ga K) "_law_field" 3 g__law_field := ⟨_, fd__law_field, ["_law_one"], O__law_field, He.glo_ok X G (c.fact 4 rfl), F__law_field.kp, b__law_field⟩
  obtain ⟨fd_law, F_law⟩ := c.def_ 5 (d := d_law) rfl
  have O_law : FnGd P w K mg base (L2.CX P w) 4 _ fd_law ["_law_script"] (spG ⟨K, He.ga K, none⟩ g_law) := ok_law F_law C__law_begun B_range B_len B_min C__law_value V_Unlike V_BadText V_BadPaper V_BadWindows V_BadNumber V_BadChain V_BadThings EK_BadPaper EK_BadWindows EK_BadNumber EK_BadChain EK_BadThings EK_Unlike EK_BadText B_enumerate C__law_field B_repr C__law_kinds B_LookupError AX_LookupError Y_LookupError B_isinstance B_ValueError AX_ValueError Y_ValueError GX_HoleError AX_HoleError Y_HoleError B_KeyError B_IndexError AX_KeyError_IndexError YT_KeyError_IndexError NX_HoleError KX_HoleError_ValueError
  have b_law : Binds K fd_law ["_law_script"] [] := FunD.bindsN (ps := ["_law_script"]) F_law fun _ _ _ _ _ _ us hl => match us, hl with | [_], _ => rfl
  exact ⟨fd_law, F_law, O_law⟩
end
abbrev lawIx : Nat := 5
end DL
end

section
set_option Elab.async false
set_option linter.all false
set_option maxRecDepth 100000
set_option autoImplicit false
open PySem PySem.W PySem.Calls PyProof.Rows
set_option maxHeartbeats 0 in
theorem PySem.Challenge.cw_holebirth_k70_errors_holds : PySem.Challenge.rw_holebirth_k70_errors.Holds := by
  w_on; o_law
  refine HandSHeadRun.head_any (r := OpenLaw.row PySem.Challenge.rw_holebirth_k70_errors) (q := view (OpenLaw.row PySem.Challenge.rw_holebirth_k70_errors).prog [15]) (H := DL.hkE) (ob := DL.obE) (M := 4000) (loose := DL.lnames) (d := HandSHeadRun.topDef (OpenLaw.row PySem.Challenge.rw_holebirth_k70_errors).prog 15) (kwd := []) DL.obE_eq
    (by kernel_rfl) (fun s => by kernel_rfl) DL.hrun (by kernel_rfl) (by kernel_rfl) (by kernel_rfl) (by rfl) (by first | assumption | decide +kernel) (by decide +kernel) ⟨rfl, rfl, rfl, rfl, rfl, by decide +kernel⟩ ?hw ?hc
  case hw => w_witness2
  case hc =>
    refine DL.walk_WG (l := PySem.Challenge.rw_holebirth_k70_errors) (n := 63) (k := 4) (x := "_law_script") (CX := fun w => L2.CX (PySem.Challenge.rw_holebirth_k70_errors).prog w) rfl (by decide) (by kernel_rfl) ⟨rfl, by decide, by decide⟩ ?F (fun w H s e s' z => DL.noCX H s e s' z)
    intro w mg fa h Y G hmg0
    have hPrg : DL.PrgOk (PySem.Challenge.rw_holebirth_k70_errors).prog := ⟨by kernel_rfl, by kernel_rfl⟩
    obtain ⟨K, KX, c, ce⟩ := Y
    have hmg : mg ("law" : PySem.Str) = some (.ref fa) := by
      have e : (HandSHeadRun.topDef (OpenLaw.row PySem.Challenge.rw_holebirth_k70_errors).prog 15).name = ("law" : PySem.Str) := by kernel_rfl
      rw [← e]
      exact hmg0
    have ega : fa = He.ga K "law" := by
      have z := hmg.symm.trans (He.glo_ok KX G (c.fact (DL.lawIx) (f := .glo "law") rfl))
      cases z
      rfl
    subst ega
    obtain ⟨fd, F, _⟩ := DL.law_ok (P := (PySem.Challenge.rw_holebirth_k70_errors).prog) (w := w) (base := h) hPrg KX G c ce
    have b := L2.FunD.bindsA (ps := ["_law_script"]) F fun _ _ _ _ _ _ us hl => match us, hl with | [_], _ => rfl
    refine ⟨K, fd, DL.spG ⟨K, He.ga K, none⟩ DL.g_law, KX, fun s v => b s [v] rfl, fun H a ns hl hS => DL.law_sp hS (DL.plain_law ns hl), fun base hb hn => ?_⟩
    obtain ⟨fd', F', O⟩ := DL.law_ok (P := (PySem.Challenge.rw_holebirth_k70_errors).prog) (w := w) (base := base) hPrg hb hn c ce
    exact DL.same_fdG F F' O
end
